import PyProof.Rows.All
import Wide.All
import OpenK.AllK
import Wide.FinOn
import HandS.ForMost
import HandS.Star
import HandS.TupLe
import HandS.TupAny
import HandS.Deep
import HandS.RaiseMore
import HandS.WordsExc
import HandS.SetFor
import HandS.Zip
import HandS.Rev
import HandS.RevRange
import HandS.IsInst
import HandS.SlotsOwn
import HandS.Property
import KE.KCallOwn
import KE.KOpsOwn
import KE.KFmtOwn
import PyProof.InstNe
import KE.KSuper
import HandS.MethStar
import HandS.Nested
import HandS.SortKw
import KE.DatumOrd
import KE.DataCmp
import HandS.Iter
import HandS.ExcIs
import HandS.Set
import HandS.SetBool
import HandS.SetTxt0
import KE.RegKSuper
import HandS.EndBits
import HandS.ClsMeth
import HandS.ReplaceLit
import HandS.HeadHook1
import HandS.IterNext
import HandS.OwnIter
import HandS.IterVal
import KE.SortData
import HandS.Codes
import HandS.ReplaceList
import PySem.Challenge.RW_makermatch_k14_lots_as_sets
set_option Elab.async false
set_option linter.all false
set_option autoImplicit false
set_option maxRecDepth 100000
/-! VLCore: plain data D, how it stands in the tracked heap (Rep), a frame's relation R. -/
namespace VL
open PySem PySem.Spec PyProof.Rows L2
abbrev St := L2.St

/-- plain data; ref n: the n-th shared (mutable) object of the store; scr: the script -/
inductive D where
  | non
  | bl (b : Bool)
  | int (i : Int)
  | str (x : Str)
  | tup (l : List D)
  | lst (l : List D)
  | dic (l : List (Key × D))
  | obj (c : String) (fs : List (String × D))
  | ref (n : Nat)
  | scr (ns : List Int)
  | cls (n : String)
  deriving Inhabited

/-- an exception's data -/
structure Ex where
  c : String
  fs : List (String × D)
/-- a slot: nothing, a value that stays, a mutable thing that this frame alone holds, the error that is handled -/
inductive Sl where
  | un
  | v (d : D)
  | o (d : D)
  | x (ex : Ex)
  deriving Inhabited
abbrev En := List Sl
abbrev Sto := List D

/-- what is fixed for a law: the written part, the classes' addresses -/
structure Cf where
  K : PySem.W.Frag
  ca : String → Addr

abbrev toS (x : String) : Str := PySem.Str.ofString x

/-- the class is a plain own class, and has no attribute of these names -/
def GoodI (c : Cf) (cl : String) (fs : List (String × D)) : Prop := Cls c.K (c.ca cl) ∧ ∀ f ∈ fs, NoAttr c.K (c.ca cl) (toS f.1)

mutual
/-- v stands for d; M: what may still change -/
def Rep (c : Cf) (sm : List Addr) (M : Addr → Prop) (H : Hp) : D → V → Prop
  | .non, v => v = .non
  | .bl b, v => v = .bl b
  | .int i, v => v = .int i
  | .str x, v => v = .str x
  | .tup ds, v => ∃ a vs, v = .ref a ∧ H a = some (.tup vs) ∧ ¬ M a ∧ Reps c sm M H ds vs
  | .lst ds, v => ∃ a vs, v = .ref a ∧ H a = some (.lst vs) ∧ ¬ M a ∧ Reps c sm M H ds vs
  | .dic ks, v => ∃ a vs, v = .ref a ∧ Rd H a (.dK vs) ∧ ¬ M a ∧ RepK c sm M H ks vs
  | .obj cl fs, v => ∃ a dx vs, v = .ref a ∧ H a = some (.ins (c.ca cl) dx vs) ∧ ¬ M a ∧ GoodI c cl fs ∧ RepF c sm M H fs vs
  | .ref n, v => ∃ a, sm[n]? = some a ∧ v = .ref a
  | .cls n, v => v = .ref (c.ca n)
  | .scr ns, v => ∃ a, v = .ref a ∧ ((Rd H a (.lst (ns.map V.int)) ∧ ¬ M a) ∨ ∀ H', SqL c.K H' a (ns.map V.int))
def Reps (c : Cf) (sm : List Addr) (M : Addr → Prop) (H : Hp) : List D → List V → Prop
  | [], vs => vs = []
  | d :: ds, vs => ∃ x r, vs = x :: r ∧ Rep c sm M H d x ∧ Reps c sm M H ds r
def RepK (c : Cf) (sm : List Addr) (M : Addr → Prop) (H : Hp) : List (Key × D) → List (Key × V) → Prop
  | [], vs => vs = []
  | (k, d) :: ds, vs => ∃ x r, vs = (k, x) :: r ∧ Rep c sm M H d x ∧ RepK c sm M H ds r
def RepF (c : Cf) (sm : List Addr) (M : Addr → Prop) (H : Hp) : List (String × D) → List (Str × V) → Prop
  | [], vs => vs = []
  | (k, d) :: ds, vs => ∃ x r, vs = (toS k, x) :: r ∧ Rep c sm M H d x ∧ RepF c sm M H ds r
end

/-- from one state of the heap to a later one -/
structure Ext (sm : List Addr) (M : Addr → Prop) (H : Hp) (sm' : List Addr) (M' : Addr → Prop) (H' : Hp) : Prop where
  sm : ∃ more, sm' = sm ++ more
  keep : ∀ b o, H b = some o → ¬ M b → H' b = some o
  old : ∀ b, M' b → M b ∨ H b = none

theorem Ext.refl {sm : List Addr} {M : Addr → Prop} {H : Hp} : Ext sm M H sm M H := ⟨⟨[], by simp⟩, fun _ _ h _ => h, fun _ h => .inl h⟩
theorem Ext.trans {s1 s2 s3 : List Addr} {M1 M2 M3 : Addr → Prop} {H1 H2 H3 : Hp} (a : Ext s1 M1 H1 s2 M2 H2) (b : Ext s2 M2 H2 s3 M3 H3) : Ext s1 M1 H1 s3 M3 H3 := by
  refine ⟨?_, fun x o h n => ?_, fun x h => ?_⟩
  · obtain ⟨m1, e1⟩ := a.sm
    obtain ⟨m2, e2⟩ := b.sm
    exact ⟨m1 ++ m2, by rw [e2, e1, List.append_assoc]⟩
  · refine b.keep x o (a.keep x o h n) fun h2 => ?_
    rcases a.old x h2 with z | z
    · exact n z
    · rw [h] at z; cases z
  · rcases b.old x h with z | z
    · exact a.old x z
    · cases e : H1 x with
      | none => exact .inr rfl
      | some o =>
        by_cases hm : M1 x
        · exact .inl hm
        · have := a.keep x o e hm
          rw [z] at this; cases this
theorem Ext.grow {sm : List Addr} {M : Addr → Prop} {H H' : Hp} (h : ∀ b o, H b = some o → H' b = some o) : Ext sm M H sm M H' := ⟨⟨[], by simp⟩, fun b o e _ => h b o e, fun _ h => .inl h⟩

theorem rd_keep {H H' : Hp} {a : Addr} {u : HO} (h : ∀ o, H a = some o → H' a = some o) (r : Rd H a u) : Rd H' a u := by
  rcases r with r | ⟨o, r⟩
  · exact .inl (h _ r)
  · exact .inr ⟨o, h _ r⟩
theorem rd_there {H : Hp} {a : Addr} {u : HO} (r : Rd H a u) : ∃ o, H a = some o := by
  rcases r with r | ⟨o, r⟩
  · exact ⟨_, r⟩
  · exact ⟨_, r⟩

section
variable {c : Cf} {sm sm' : List Addr} {M M' : Addr → Prop} {H H' : Hp}
theorem Ext.nm (e : Ext sm M H sm' M' H') {a : Addr} {o : HO} (h : H a = some o) (n : ¬ M a) : ¬ M' a := fun z => by
  rcases e.old a z with z | z
  · exact n z
  · rw [h] at z; cases z
mutual
theorem Rep.ext (e : Ext sm M H sm' M' H') : ∀ {d : D} {v : V}, Rep c sm M H d v → Rep c sm' M' H' d v
  | .non, _, h => h
  | .bl _, _, h => h
  | .int _, _, h => h
  | .str _, _, h => h
  | .cls _, _, h => h
  | .tup ds, v, h => by
    simp only [Rep] at h ⊢
    obtain ⟨a, vs, e1, r, n, q⟩ := h
    exact ⟨a, vs, e1, e.keep a _ r n, e.nm r n, Reps.ext e q⟩
  | .lst ds, v, h => by
    simp only [Rep] at h ⊢
    obtain ⟨a, vs, e1, r, n, q⟩ := h
    exact ⟨a, vs, e1, e.keep a _ r n, e.nm r n, Reps.ext e q⟩
  | .scr ns, v, h => by
    simp only [Rep] at h ⊢
    obtain ⟨a, e1, h⟩ := h
    refine ⟨a, e1, ?_⟩
    rcases h with ⟨r, n⟩ | h
    · obtain ⟨o, ho⟩ := rd_there r
      exact .inl ⟨rd_keep (fun o h => e.keep a o h n) r, e.nm ho n⟩
    · exact .inr h
  | .dic ds, v, h => by
    simp only [Rep] at h ⊢
    obtain ⟨a, vs, e1, r, n, q⟩ := h
    obtain ⟨o, ho⟩ := rd_there r
    exact ⟨a, vs, e1, rd_keep (fun o h => e.keep a o h n) r, e.nm ho n, RepK.ext e q⟩
  | .obj cl fs, v, h => by
    simp only [Rep] at h ⊢
    obtain ⟨a, dx, vs, e1, r, n, g, q⟩ := h
    exact ⟨a, dx, vs, e1, e.keep a _ r n, e.nm r n, g, RepF.ext e q⟩
  | .ref n, v, h => by
    simp only [Rep] at h ⊢
    obtain ⟨a, h1, h2⟩ := h
    obtain ⟨more, em⟩ := e.sm
    refine ⟨a, ?_, h2⟩
    rw [em, List.getElem?_append_left (List.getElem?_eq_some_iff.mp h1).1]
    exact h1
theorem Reps.ext (e : Ext sm M H sm' M' H') : ∀ {ds : List D} {vs : List V}, Reps c sm M H ds vs → Reps c sm' M' H' ds vs
  | [], _, h => h
  | d :: ds, vs, h => by
    simp only [Reps] at h ⊢
    obtain ⟨x, r, e1, h1, h2⟩ := h
    exact ⟨x, r, e1, Rep.ext e h1, Reps.ext e h2⟩
theorem RepK.ext (e : Ext sm M H sm' M' H') : ∀ {ds : List (Key × D)} {vs : List (Key × V)}, RepK c sm M H ds vs → RepK c sm' M' H' ds vs
  | [], _, h => h
  | (k, d) :: ds, vs, h => by
    simp only [RepK] at h ⊢
    obtain ⟨x, r, e1, h1, h2⟩ := h
    exact ⟨x, r, e1, Rep.ext e h1, RepK.ext e h2⟩
theorem RepF.ext (e : Ext sm M H sm' M' H') : ∀ {ds : List (String × D)} {vs : List (Str × V)}, RepF c sm M H ds vs → RepF c sm' M' H' ds vs
  | [], _, h => h
  | (k, d) :: ds, vs, h => by
    simp only [RepF] at h ⊢
    obtain ⟨x, r, e1, h1, h2⟩ := h
    exact ⟨x, r, e1, Rep.ext e h1, RepF.ext e h2⟩
end
end

section
variable {c : Cf} {sm : List Addr} {M : Addr → Prop} {H : Hp}
theorem Reps.length : ∀ {ds : List D} {vs : List V}, Reps c sm M H ds vs → ds.length = vs.length
  | [], _, h => by simp only [Reps] at h; subst h; rfl
  | d :: ds, vs, h => by
    simp only [Reps] at h
    obtain ⟨x, r, e1, _, h2⟩ := h
    subst e1
    simp [h2.length]
theorem Reps.get : ∀ {ds : List D} {vs : List V} {i : Nat} {d : D}, Reps c sm M H ds vs → ds[i]? = some d → ∃ v, vs[i]? = some v ∧ Rep c sm M H d v
  | [], _, _, _, _, e => by simp at e
  | d :: ds, vs, i, d', h, e => by
    simp only [Reps] at h
    obtain ⟨x, r, e1, h1, h2⟩ := h
    subst e1
    cases i with
    | zero => simp at e; subst e; exact ⟨x, rfl, h1⟩
    | succ i =>
      obtain ⟨v, q1, q2⟩ := h2.get (i := i) (d := d') (by simpa using e)
      exact ⟨v, by simpa using q1, q2⟩
theorem Reps.get' : ∀ {ds : List D} {vs : List V} {i : Nat} {v : V}, Reps c sm M H ds vs → vs[i]? = some v → ∃ d, ds[i]? = some d ∧ Rep c sm M H d v := fun {ds vs i v} h e => by
  have hi := (List.getElem?_eq_some_iff.mp e).1
  have hi' : i < ds.length := by rw [h.length]; exact hi
  obtain ⟨v', q1, q2⟩ := h.get (List.getElem?_eq_getElem hi')
  rw [e] at q1; cases q1
  exact ⟨_, List.getElem?_eq_getElem hi', q2⟩
theorem Reps.append : ∀ {ds es : List D} {vs ws : List V}, Reps c sm M H ds vs → Reps c sm M H es ws → Reps c sm M H (ds ++ es) (vs ++ ws)
  | [], _, _, _, h, h' => by simp only [Reps] at h; subst h; exact h'
  | d :: ds, es, vs, ws, h, h' => by
    simp only [Reps] at h
    obtain ⟨x, r, e1, h1, h2⟩ := h
    subst e1
    show Reps c sm M H (d :: (ds ++ es)) _
    simp only [Reps]
    exact ⟨x, r ++ ws, rfl, h1, h2.append h'⟩
theorem Reps.take : ∀ {ds : List D} {vs : List V} (n : Nat), Reps c sm M H ds vs → Reps c sm M H (ds.take n) (vs.take n)
  | [], _, n, h => by simp only [Reps] at h; subst h; simp [Reps]
  | d :: ds, vs, n, h => by
    simp only [Reps] at h
    obtain ⟨x, r, e1, h1, h2⟩ := h
    subst e1
    cases n with
    | zero => simp [Reps]
    | succ n =>
      simp only [List.take_succ_cons, Reps]
      exact ⟨x, _, rfl, h1, h2.take n⟩
theorem Reps.drop : ∀ {ds : List D} {vs : List V} (n : Nat), Reps c sm M H ds vs → Reps c sm M H (ds.drop n) (vs.drop n)
  | [], _, n, h => by simp only [Reps] at h; subst h; simp [Reps]
  | d :: ds, vs, n, h => by
    simp only [Reps] at h
    obtain ⟨x, r, e1, h1, h2⟩ := h
    subst e1
    cases n with
    | zero => simp only [List.drop_zero, Reps]; exact ⟨x, r, rfl, h1, h2⟩
    | succ n =>
      simp only [List.drop_succ_cons]
      exact h2.drop n
theorem Reps.set : ∀ {ds : List D} {vs : List V} (i : Nat) {d : D} {v : V}, Reps c sm M H ds vs → Rep c sm M H d v → Reps c sm M H (ds.set i d) (vs.set i v)
  | [], _, i, _, _, h, _ => by simp only [Reps] at h; subst h; simp [Reps]
  | d :: ds, vs, i, d', v', h, hr => by
    simp only [Reps] at h
    obtain ⟨x, r, e1, h1, h2⟩ := h
    subst e1
    cases i with
    | zero => simp only [List.set_cons_zero, Reps]; exact ⟨v', r, rfl, hr, h2⟩
    | succ i => simp only [List.set_cons_succ, Reps]; exact ⟨x, _, rfl, h1, h2.set i hr⟩
theorem Reps.reverse {ds : List D} {vs : List V} (h : Reps c sm M H ds vs) : Reps c sm M H ds.reverse vs.reverse := by
  induction ds generalizing vs with
  | nil => simp only [Reps] at h; subst h; simp [Reps]
  | cons d ds ih =>
    simp only [Reps] at h
    obtain ⟨x, r, e1, h1, h2⟩ := h
    subst e1
    simp only [List.reverse_cons]
    refine (ih h2).append ?_
    simp only [Reps]
    exact ⟨x, [], rfl, h1, rfl⟩
theorem Reps.dropLast {ds : List D} {vs : List V} (h : Reps c sm M H ds vs) : Reps c sm M H ds.dropLast vs.dropLast := by
  rw [List.dropLast_eq_take, List.dropLast_eq_take, h.length]
  exact h.take _
theorem Reps.one {d : D} {v : V} (h : Rep c sm M H d v) : Reps c sm M H [d] [v] := by
  simp only [Reps]; exact ⟨v, [], rfl, h, rfl⟩
theorem RepF.lookup : ∀ {fs : List (String × D)} {vs : List (Str × V)} {f : String} {d : D}, RepF c sm M H fs vs → fs.lookup f = some d → (∀ g ∈ fs, toS g.1 = toS f → g.1 = f) → ∃ v, vs.lookup (toS f) = some v ∧ Rep c sm M H d v
  | [], _, _, _, _, e, _ => by simp at e
  | (k, d) :: fs, vs, f, d', h, e, inj => by
    simp only [RepF] at h
    obtain ⟨x, r, e1, h1, h2⟩ := h
    subst e1
    rw [List.lookup_cons] at e ⊢
    by_cases hk : f = k
    · subst hk
      simp only [beq_self_eq_true] at e ⊢
      cases e
      exact ⟨x, rfl, h1⟩
    · have n1 : (f == k) = false := by simpa using hk
      have n2 : (toS f == toS k) = false := by
        simp only [beq_eq_false_iff_ne, ne_eq]
        exact fun z => hk (inj (k, d) (List.mem_cons_self) z.symm).symm
      rw [n1] at e
      rw [n2]
      exact h2.lookup e fun g hg => inj g (List.mem_cons_of_mem _ hg)
theorem RepF.none : ∀ {fs : List (String × D)} {vs : List (Str × V)} {f : Str}, RepF c sm M H fs vs → (∀ g ∈ fs, toS g.1 ≠ f) → vs.lookup f = none
  | [], _, _, h, _ => by simp only [RepF] at h; subst h; rfl
  | (k, d) :: fs, vs, f, h, n => by
    simp only [RepF] at h
    obtain ⟨x, r, e1, h1, h2⟩ := h
    subst e1
    rw [List.lookup_cons]
    have n2 : (f == toS k) = false := by
      simp only [beq_eq_false_iff_ne, ne_eq]
      exact fun z => n (k, d) List.mem_cons_self z.symm
    rw [n2]
    exact h2.none fun g hg => n g (List.mem_cons_of_mem _ hg)
end
/-- text literals are told apart by their texts -/
theorem toS_inj {x y : String} (h : toS x = toS y) : x = y := by
  have h1 : (PySem.Str.ofString x) = (PySem.Str.ofString y) := h
  rw [PySem.Str.ofString_eq_toList, PySem.Str.ofString_eq_toList] at h1
  injection h1 with h2
  have h3 : x.toList.map Char.toNat = y.toList.map Char.toNat := by simpa using h2
  have h4 : x.toList = y.toList := by
    refine List.map_inj_right (f := Char.toNat) (fun a b e => ?_) |>.mp h3
    exact Char.ext (UInt32.toNat_inj.mp e)
  exact String.ext h4

/-! ### the frame's relation -/
/-- what is fixed through a def's run: the heap at its entry, what it may change of it, the store's places then, what the callers hold alone -/
structure Fr where
  H0 : Hp
  exc : Addr → Prop
  sm0 : List Addr
  Mo : Addr → Prop
  fix : Option Addr
  xs : Addr → Value → Option Addr → Prop := fun _ _ _ => False
/-- what grows: the store's places, temporary things of this frame -/
structure Gs where
  sm : List Addr
  tm : List Addr
/-- what may still change -/
def MU (F : Fr) (g : Gs) (σ : St) (ρ : En) : Addr → Prop := fun a => F.Mo a ∨ a ∈ g.sm ∨ a ∈ g.tm ∨ ∃ (i : Nat) (d : D), ρ[i]? = some (Sl.o d) ∧ σ[i]? = some (some (V.ref a))

/-- at a stands the mutable thing d -/
def Own (c : Cf) (sm : List Addr) (M : Addr → Prop) (H : Hp) (a : Addr) : D → Prop
  | .lst ds => ∃ vs, H a = some (.lst vs) ∧ Reps c sm M H ds vs
  | .dic ks => ∃ vs, H a = some (.dK vs) ∧ RepK c sm M H ks vs
  | .obj cl fs => ∃ dx vs, H a = some (.ins (c.ca cl) dx vs) ∧ GoodI c cl fs ∧ RepF c sm M H fs vs
  | _ => False
theorem Own.there {c : Cf} {sm : List Addr} {M : Addr → Prop} {H : Hp} {a : Addr} {d : D} (h : Own c sm M H a d) : ∃ o, H a = some o ∧ Mut (some o) := by
  cases d <;> simp only [Own] at h
  · obtain ⟨vs, h, _⟩ := h; exact ⟨_, h, trivial⟩
  · obtain ⟨vs, h, _⟩ := h; exact ⟨_, h, trivial⟩
  · obtain ⟨dx, vs, h, _⟩ := h; exact ⟨_, h, trivial⟩
theorem Own.ext {c : Cf} {sm sm' : List Addr} {M M' : Addr → Prop} {H H' : Hp} {a : Addr} {d : D} (e : Ext sm M H sm' M' H') (k : ∀ o, H a = some o → H' a = some o) (h : Own c sm M H a d) : Own c sm' M' H' a d := by
  cases d <;> simp only [Own] at h ⊢
  · obtain ⟨vs, h, q⟩ := h; exact ⟨vs, k _ h, Reps.ext e q⟩
  · obtain ⟨vs, h, q⟩ := h; exact ⟨vs, k _ h, RepK.ext e q⟩
  · obtain ⟨dx, vs, h, g, q⟩ := h; exact ⟨dx, vs, k _ h, g, RepF.ext e q⟩
/-- a mutable thing that is let go stands for its data -/
theorem Own.rep {c : Cf} {sm : List Addr} {M : Addr → Prop} {H : Hp} {a : Addr} {d : D} (h : Own c sm M H a d) (n : ¬ M a) : Rep c sm M H d (.ref a) := by
  cases d <;> simp only [Own] at h <;> simp only [Rep]
  · obtain ⟨vs, h, q⟩ := h; exact ⟨a, vs, rfl, h, n, q⟩
  · obtain ⟨vs, h, q⟩ := h; exact ⟨a, vs, rfl, .inl h, n, q⟩
  · obtain ⟨dx, vs, h, g, q⟩ := h; exact ⟨a, dx, vs, rfl, h, n, g, q⟩

/-- the store's things at their places -/
def Stored (c : Cf) (sm : List Addr) (M : Addr → Prop) (H : Hp) (S : Sto) : Prop := sm.length = S.length ∧ ∀ (n : Nat) (a : Addr) (d : D), sm[n]? = some a → S[n]? = some d → Own c sm M H a d

/-- the exception ex lies as cls, its own dict at dx -/
def ExIs (c : Cf) (sm : List Addr) (M : Addr → Prop) (H : Hp) (ex : Ex) (cls : Value) (dx : Option Addr) : Prop :=
  cls = .ref (c.ca ex.c) ∧ (dx = none ↔ ex.fs = []) ∧ ∀ d, dx = some d → ∃ vs, H d = some (.xd vs) ∧ ¬ M d ∧ RepF c sm M H ex.fs vs
theorem ExIs.ext {c : Cf} {sm sm' : List Addr} {M M' : Addr → Prop} {H H' : Hp} {ex : Ex} {cls : Value} {dx : Option Addr} (e : Ext sm M H sm' M' H') (h : ExIs c sm M H ex cls dx) : ExIs c sm' M' H' ex cls dx := by
  obtain ⟨x1, x2, x3⟩ := h
  exact ⟨x1, x2, fun d hd => let ⟨zs, z1, z2, z3⟩ := x3 d hd; ⟨zs, e.keep d _ z1 z2, e.nm z1 z2, RepF.ext e z3⟩⟩

structure R (c : Cf) (F : Fr) (g : Gs) (σ : St) (H : Hp) (ρ : En) (S : Sto) : Prop where
  len : ρ.length = σ.length
  val : ∀ (i : Nat) (d : D), ρ[i]? = some (Sl.v d) → ∃ x, σ[i]? = some (some x) ∧ Rep c g.sm (MU F g σ ρ) H d x
  own : ∀ (i : Nat) (d : D), ρ[i]? = some (Sl.o d) → ∃ a, σ[i]? = some (some (V.ref a)) ∧ Own c g.sm (MU F g σ ρ) H a d
  inj : ∀ (i j : Nat) (d e : D) (a : Addr), ρ[i]? = some (Sl.o d) → ρ[j]? = some (Sl.o e) → σ[i]? = some (some (V.ref a)) → σ[j]? = some (some (V.ref a)) → i = j
  sep : ∀ (i : Nat) (d : D) (a : Addr), ρ[i]? = some (Sl.o d) → σ[i]? = some (some (V.ref a)) → ¬ F.Mo a ∧ a ∉ g.sm ∧ a ∉ g.tm ∧ (F.H0 a = none ∨ F.exc a)
  sto : Stored c g.sm (MU F g σ ρ) H S
  smn : g.sm.Nodup
  smo : ∀ a ∈ g.sm, ¬ F.Mo a ∧ a ∉ g.tm ∧ (F.H0 a = none ∨ F.exc a)
  tmo : ∀ a ∈ g.tm, ¬ F.Mo a ∧ F.H0 a = none ∧ ∃ o, H a = some o ∧ Mut (some o)
  tmn : g.tm.Nodup
  pre : ∃ more, g.sm = F.sm0 ++ more ∧ ∀ a ∈ more, F.H0 a = none
  keep : ∀ b o, F.H0 b = some o → ¬ F.exc b → H b = some o
  moT : ∀ a, F.Mo a → ∃ o, F.H0 a = some o ∧ ¬ F.exc a
  exT : ∀ a, F.exc a → ∃ o, H a = some o
  fx : ∀ p, F.fix = some p → ∀ d, ρ[0]? = some (Sl.o d) → σ[0]? = some (some (V.ref p))
  exs : ∀ (i : Nat) (ex : Ex), ρ[i]? = some (Sl.x ex) → ∃ a cls dx, σ[i]? = some (some (V.ref a)) ∧ F.xs a cls dx ∧ ExIs c g.sm (MU F g σ ρ) H ex cls dx

/-- a slot is overwritten by something that is no error -/
def Sl.nx : Sl → Bool
  | .x _ => false
  | _ => true
theorem x_set {ρ : En} {i j : Nat} {s : Sl} {ex : Ex} (h : (ρ.set i s)[j]? = some (Sl.x ex)) (hs : s.nx = true := by rfl) : ρ[j]? = some (Sl.x ex) ∧ i ≠ j := by
  by_cases hj : i = j
  · subst hj
    by_cases hl : i < ρ.length
    · rw [List.getElem?_set_self hl] at h
      cases h
      cases hs
    · rw [List.getElem?_eq_none (by simpa using hl)] at h
      cases h
  · rw [List.getElem?_set_ne hj] at h
    exact ⟨h, hj⟩
theorem x_set1 {ρ : En} {σ : St} {i j : Nat} {s : Sl} {ex : Ex} (h : (ρ.set i s)[j]? = some (Sl.x ex)) (hs : s.nx = true := by rfl) : ρ[j]? = some (Sl.x ex) ∧ σ[j]? = σ[j]? := ⟨(x_set h hs).1, rfl⟩
theorem x_set2 {ρ : En} {σ : St} {i j : Nat} {s : Sl} {y : Option V} {ex : Ex} (h : (ρ.set i s)[j]? = some (Sl.x ex)) (hs : s.nx = true := by rfl) : ρ[j]? = some (Sl.x ex) ∧ (σ.set i y)[j]? = σ[j]? := ⟨(x_set h hs).1, List.getElem?_set_ne (x_set h hs).2⟩
section
variable {c : Cf} {F : Fr} {g g' : Gs} {σ σ' : St} {H H' : Hp} {ρ ρ' : En} {S S' : Sto}
theorem R.tracked (r : R c F g σ H ρ S) {a : Addr} (h : MU F g σ ρ a) : ∃ o, H a = some o := by
  rcases h with h | h | h | ⟨i, d, h1, h2⟩
  · obtain ⟨o, e, n⟩ := r.moT a h
    exact ⟨o, r.keep a o e n⟩
  · obtain ⟨n, hn, e⟩ := List.mem_iff_getElem.mp h
    have e1 : g.sm[n]? = some a := by rw [List.getElem?_eq_getElem hn, e]
    have hn' : n < S.length := by rw [← r.sto.1]; exact hn
    obtain ⟨o, ho, _⟩ := (r.sto.2 n a _ e1 (List.getElem?_eq_getElem hn')).there
    exact ⟨o, ho⟩
  · obtain ⟨_, _, o, e, _⟩ := r.tmo a h
    exact ⟨o, e⟩
  · obtain ⟨b, e, w⟩ := r.own i d h1
    rw [h2] at e
    cases e
    obtain ⟨o, ho, _⟩ := w.there
    exact ⟨o, ho⟩
/-- the errors stand on -/
theorem R.xe {sm' : List Addr} {M' : Addr → Prop} (r : R c F g σ H ρ S) (e : Ext g.sm (MU F g σ ρ) H sm' M' H') : ∀ (i : Nat) (ex : Ex), ρ[i]? = some (Sl.x ex) → ∃ a cls dx, σ[i]? = some (some (V.ref a)) ∧ F.xs a cls dx ∧ ExIs c sm' M' H' ex cls dx := fun i ex h =>
  let ⟨a, cls, dx, h1, h2, h3⟩ := r.exs i ex h; ⟨a, cls, dx, h1, h2, h3.ext e⟩
/-- a new address may not change -/
theorem R.fresh (r : R c F g σ H ρ S) {a : Addr} (h : H a = none) : ¬ MU F g σ ρ a := fun m => by
  obtain ⟨o, e⟩ := r.tracked m
  rw [h] at e; cases e
/-- new things are laid -/
theorem R.grow (r : R c F g σ H ρ S) (k : ∀ b o, H b = some o → H' b = some o) : R c F g σ H' ρ S := by
  have e : Ext g.sm (MU F g σ ρ) H g.sm (MU F g σ ρ) H' := Ext.grow k
  refine ⟨r.len, fun i d h => ?_, fun i d h => ?_, r.inj, r.sep, ⟨r.sto.1, fun n a d h1 h2 => (r.sto.2 n a d h1 h2).ext e (k a)⟩, r.smn, r.smo, fun a h => ?_, r.tmn, r.pre, fun b o h n => k _ _ (r.keep b o h n), r.moT, fun a h => let ⟨o, e⟩ := r.exT a h; ⟨o, k _ _ e⟩, r.fx, fun i ex h => let ⟨a, cls, dx, h1, h2, h3⟩ := r.exs i ex h; ⟨a, cls, dx, h1, h2, h3.ext e⟩⟩
  · obtain ⟨x, h1, h2⟩ := r.val i d h
    exact ⟨x, h1, h2.ext e⟩
  · obtain ⟨a, h1, h2⟩ := r.own i d h
    exact ⟨a, h1, h2.ext e (k a)⟩
  · obtain ⟨h1, h2, o, h3, h4⟩ := r.tmo a h
    exact ⟨h1, h2, o, k _ _ h3, h4⟩
theorem grow_upd {p : Addr} {o : HO} (h : H p = none) : ∀ b u, H b = some u → upd H p o b = some u := fun b u e => by
  rw [upd_ne (ne_of_none e h)]; exact e
end
end VL

set_option Elab.async false
set_option linter.all false
set_option autoImplicit false
set_option maxRecDepth 100000
/-! VLBase: what an expression, a test, a statement does to plain data (VE, VT, VA, VS). -/
namespace VL
open PySem PySem.Spec PyProof.Rows L2

theorem getD_set_ne {α : Type} {l : List α} {i j : Nat} {x : α} (h : i ≠ j) : (l.set i x)[j]? = l[j]? := by
  rw [List.getElem?_set_ne h]

section
variable {c : Cf} {F : Fr} {g g' : Gs} {σ σ' : St} {H H' : Hp} {ρ ρ' : En} {S S' : Sto}

/-- other slots and temporaries, the same heap, the same store: less may change -/
theorem R.less {σ' : St} {ρ' : En} {tm' : List Addr} (r : R c F g σ H ρ S) (hl : ρ'.length = σ'.length)
    (hm : ∀ a, MU F ⟨g.sm, tm'⟩ σ' ρ' a → MU F g σ ρ a)
    (hv : ∀ (i : Nat) (d : D), ρ'[i]? = some (Sl.v d) → ∃ x, σ'[i]? = some (some x) ∧ Rep c g.sm (MU F ⟨g.sm, tm'⟩ σ' ρ') H d x)
    (ho : ∀ (i : Nat) (d : D), ρ'[i]? = some (Sl.o d) → ∃ a, σ'[i]? = some (some (V.ref a)) ∧ Own c g.sm (MU F g σ ρ) H a d ∧ ¬ F.Mo a ∧ a ∉ g.sm ∧ a ∉ tm' ∧ (F.H0 a = none ∨ F.exc a))
    (hi : ∀ (i j : Nat) (d e : D) (a : Addr), ρ'[i]? = some (Sl.o d) → ρ'[j]? = some (Sl.o e) → σ'[i]? = some (some (V.ref a)) → σ'[j]? = some (some (V.ref a)) → i = j)
    (ht : ∀ a ∈ tm', a ∈ g.tm) (hn : tm'.Nodup) (hf : ∀ d, ρ'[0]? = some (Sl.o d) → ∃ d0, ρ[0]? = some (Sl.o d0) ∧ σ'[0]? = σ[0]?)
    (hx : ∀ (i : Nat) (ex : Ex), ρ'[i]? = some (Sl.x ex) → ρ[i]? = some (Sl.x ex) ∧ σ'[i]? = σ[i]? := by first | exact fun _ _ h => ⟨h, rfl⟩ | exact fun _ _ h => x_set2 h | exact fun _ _ h => x_set1 h) : R c F ⟨g.sm, tm'⟩ σ' H ρ' S := by
  have e : Ext g.sm (MU F g σ ρ) H g.sm (MU F ⟨g.sm, tm'⟩ σ' ρ') H := ⟨⟨[], by simp⟩, fun b o h _ => h, fun b h => .inl (hm b h)⟩
  refine ⟨hl, hv, fun i d h => ?_, hi, fun i d a h1 h2 => ?_, ⟨r.sto.1, fun n a d h1 h2 => (r.sto.2 n a d h1 h2).ext e fun _ h => h⟩, r.smn, fun a h => ?_, fun a h => r.tmo a (ht a h), hn, r.pre, r.keep, r.moT, r.exT, fun p hp d h => by
    obtain ⟨d0, h0, e0⟩ := hf d h
    rw [e0]; exact r.fx p hp d0 h0, fun i ex h => by
    obtain ⟨h1, h2⟩ := hx i ex h
    obtain ⟨a, cls, dx, q1, q2, q3⟩ := r.exs i ex h1
    exact ⟨a, cls, dx, by rw [h2]; exact q1, q2, q3.ext e⟩⟩
  · obtain ⟨a, h1, h2, _⟩ := ho i d h
    exact ⟨a, h1, h2.ext e fun _ h => h⟩
  · obtain ⟨b, e1, _, q⟩ := ho i d h1
    rw [h2] at e1; cases e1
    exact q
  · obtain ⟨h1, h2, h3⟩ := r.smo a h
    exact ⟨h1, fun z => h2 (ht a z), h3⟩

/-- a value is put into a slot -/
theorem R.setv (r : R c F g σ H ρ S) {i : Nat} {d : D} {x : V} (hi : i < σ.length) (h : Rep c g.sm (MU F g σ ρ) H d x) :
    R c F g (σ.set i (some x)) H (ρ.set i (.v d)) S ∧ Ext g.sm (MU F g σ ρ) H g.sm (MU F g (σ.set i (some x)) (ρ.set i (.v d))) H := by
  have hm : ∀ a, MU F g (σ.set i (some x)) (ρ.set i (.v d)) a → MU F g σ ρ a := fun a m => by
    rcases m with m | m | m | ⟨j, e, h1, h2⟩
    · exact .inl m
    · exact .inr (.inl m)
    · exact .inr (.inr (.inl m))
    · by_cases hj : i = j
      · subst hj
        rw [List.getElem?_set_self (by rw [r.len]; exact hi)] at h1
        cases h1
      · rw [List.getElem?_set_ne hj] at h1 h2
        exact .inr (.inr (.inr ⟨j, e, h1, h2⟩))
  have e : Ext g.sm (MU F g σ ρ) H g.sm (MU F g (σ.set i (some x)) (ρ.set i (.v d))) H := ⟨⟨[], by simp⟩, fun b o h _ => h, fun b h => .inl (hm b h)⟩
  refine ⟨?_, e⟩
  refine R.less (g := g) (tm' := g.tm) r (by simp [r.len]) hm (fun j e1 h1 => ?_) (fun j e1 h1 => ?_) (fun j k e1 e2 a h1 h2 h3 h4 => ?_) (fun _ h => h) r.tmn (fun d' h => by
    by_cases hj : i = 0
    · subst hj
      rw [List.getElem?_set_self (by rw [r.len]; exact hi)] at h
      cases h
    · rw [List.getElem?_set_ne hj] at h ⊢
      exact ⟨d', h, rfl⟩)
  · by_cases hj : i = j
    · subst hj
      rw [List.getElem?_set_self (by rw [r.len]; exact hi)] at h1
      cases h1
      exact ⟨x, by rw [List.getElem?_set_self hi], h.ext e⟩
    · rw [List.getElem?_set_ne hj] at h1 ⊢
      obtain ⟨y, h2, h3⟩ := r.val j e1 h1
      exact ⟨y, h2, h3.ext e⟩
  · by_cases hj : i = j
    · subst hj
      rw [List.getElem?_set_self (by rw [r.len]; exact hi)] at h1
      cases h1
    · rw [List.getElem?_set_ne hj] at h1 ⊢
      obtain ⟨a, h2, h3⟩ := r.own j e1 h1
      exact ⟨a, h2, h3, r.sep j e1 a h1 h2⟩
  · by_cases hj : i = j
    · subst hj
      rw [List.getElem?_set_self (by rw [r.len]; exact hi)] at h1
      cases h1
    · by_cases hk : i = k
      · subst hk
        rw [List.getElem?_set_self (by rw [r.len]; exact hi)] at h2
        cases h2
      · rw [List.getElem?_set_ne hj] at h1 h3
        rw [List.getElem?_set_ne hk] at h2 h4
        exact r.inj j k e1 e2 a h1 h2 h3 h4

/-- a temporary is let go: it stands for its data -/
theorem R.letgo {a : Addr} {t sm : List Addr} {d : D} (r : R c F ⟨sm, a :: t⟩ σ H ρ S) (h : Own c sm (MU F ⟨sm, a :: t⟩ σ ρ) H a d) :
    R c F ⟨sm, t⟩ σ H ρ S ∧ Ext sm (MU F ⟨sm, a :: t⟩ σ ρ) H sm (MU F ⟨sm, t⟩ σ ρ) H ∧ Rep c sm (MU F ⟨sm, t⟩ σ ρ) H d (.ref a) := by
  have hm : ∀ b, MU F ⟨sm, t⟩ σ ρ b → MU F ⟨sm, a :: t⟩ σ ρ b := fun b m => by
    rcases m with m | m | m | m
    · exact .inl m
    · exact .inr (.inl m)
    · exact .inr (.inr (.inl (List.mem_cons_of_mem _ m)))
    · exact .inr (.inr (.inr m))
  have e : Ext sm (MU F ⟨sm, a :: t⟩ σ ρ) H sm (MU F ⟨sm, t⟩ σ ρ) H := ⟨⟨[], by simp⟩, fun b o h _ => h, fun b h => .inl (hm b h)⟩
  have n : ¬ MU F ⟨sm, t⟩ σ ρ a := fun m => by
    obtain ⟨h1, h2, o, h3, _⟩ := r.tmo a List.mem_cons_self
    rcases m with m | m | m | ⟨i, d, q1, q2⟩
    · exact h1 m
    · exact (r.smo a m).2.1 List.mem_cons_self
    · exact (List.nodup_cons.mp r.tmn).1 m
    · exact (r.sep i d a q1 q2).2.2.1 List.mem_cons_self
  refine ⟨?_, e, (h.ext e fun _ z => z).rep n⟩
  exact R.less (g := ⟨sm, a :: t⟩) (tm' := t) r r.len hm (fun i d h => by
    obtain ⟨x, h1, h2⟩ := r.val i d h
    exact ⟨x, h1, h2.ext e⟩) (fun i d h => by
    obtain ⟨b, h1, h2⟩ := r.own i d h
    obtain ⟨q1, q2, q3, q4⟩ := r.sep i d b h h1
    exact ⟨b, h1, h2, q1, q2, fun z => q3 (List.mem_cons_of_mem _ z), q4⟩) r.inj (fun b h => List.mem_cons_of_mem _ h) (List.nodup_cons.mp r.tmn).2 (fun d h => ⟨d, h, rfl⟩)

/-- a temporary is put into a slot -/
theorem R.seto {a : Addr} {t sm : List Addr} {d : D} {i : Nat} (r : R c F ⟨sm, a :: t⟩ σ H ρ S) (hi : i < σ.length) (h0 : 0 < i) (h : Own c sm (MU F ⟨sm, a :: t⟩ σ ρ) H a d) :
    R c F ⟨sm, t⟩ (σ.set i (some (.ref a))) H (ρ.set i (.o d)) S ∧ Ext sm (MU F ⟨sm, a :: t⟩ σ ρ) H sm (MU F ⟨sm, t⟩ (σ.set i (some (.ref a))) (ρ.set i (.o d))) H := by
  have hρ : i < ρ.length := by rw [r.len]; exact hi
  have hm : ∀ b, MU F ⟨sm, t⟩ (σ.set i (some (.ref a))) (ρ.set i (.o d)) b → MU F ⟨sm, a :: t⟩ σ ρ b := fun b m => by
    rcases m with m | m | m | ⟨j, e, h1, h2⟩
    · exact .inl m
    · exact .inr (.inl m)
    · exact .inr (.inr (.inl (List.mem_cons_of_mem _ m)))
    · by_cases hj : i = j
      · subst hj
        rw [List.getElem?_set_self hi] at h2
        cases h2
        exact .inr (.inr (.inl List.mem_cons_self))
      · rw [List.getElem?_set_ne hj] at h1 h2
        exact .inr (.inr (.inr ⟨j, e, h1, h2⟩))
  have e : Ext sm (MU F ⟨sm, a :: t⟩ σ ρ) H sm (MU F ⟨sm, t⟩ (σ.set i (some (.ref a))) (ρ.set i (.o d))) H := ⟨⟨[], by simp⟩, fun b o h _ => h, fun b h => .inl (hm b h)⟩
  obtain ⟨t1, t2, _⟩ := r.tmo a List.mem_cons_self
  have na : a ∉ t := (List.nodup_cons.mp r.tmn).1
  have ns : a ∉ sm := fun z => (r.smo a z).2.1 List.mem_cons_self
  refine ⟨?_, e⟩
  refine R.less (g := ⟨sm, a :: t⟩) (tm' := t) r (by simp [r.len]) hm (fun j e1 h1 => ?_) (fun j e1 h1 => ?_) (fun j k e1 e2 b h1 h2 h3 h4 => ?_) (fun b h => List.mem_cons_of_mem _ h) (List.nodup_cons.mp r.tmn).2 (fun d' h => by
    have n0 : i ≠ 0 := by omega
    rw [List.getElem?_set_ne n0] at h ⊢
    exact ⟨d', h, rfl⟩)
  · by_cases hj : i = j
    · subst hj
      rw [List.getElem?_set_self hρ] at h1
      cases h1
    · rw [List.getElem?_set_ne hj] at h1 ⊢
      obtain ⟨y, h2, h3⟩ := r.val j e1 h1
      exact ⟨y, h2, h3.ext e⟩
  · by_cases hj : i = j
    · subst hj
      rw [List.getElem?_set_self hρ] at h1
      cases h1
      exact ⟨a, by rw [List.getElem?_set_self hi], h, t1, ns, na, .inl t2⟩
    · rw [List.getElem?_set_ne hj] at h1 ⊢
      obtain ⟨b, h2, h3⟩ := r.own j e1 h1
      obtain ⟨q1, q2, q3, q4⟩ := r.sep j e1 b h1 h2
      exact ⟨b, h2, h3, q1, q2, fun z => q3 (List.mem_cons_of_mem _ z), q4⟩
  · by_cases hj : i = j
    · subst hj
      by_cases hk : i = k
      · exact hk
      · rw [List.getElem?_set_self hi] at h3
        cases h3
        rw [List.getElem?_set_ne hk] at h2 h4
        exact absurd List.mem_cons_self (r.sep k e2 a h2 h4).2.2.1
    · by_cases hk : i = k
      · subst hk
        rw [List.getElem?_set_self hi] at h4
        cases h4
        rw [List.getElem?_set_ne hj] at h1 h3
        exact absurd List.mem_cons_self (r.sep j e1 a h1 h3).2.2.1
      · rw [List.getElem?_set_ne hj] at h1 h3
        rw [List.getElem?_set_ne hk] at h2 h4
        exact r.inj j k e1 e2 b h1 h2 h3 h4

/-- a slot's own thing is let go -/
theorem R.freeze {i : Nat} {d : D} (r : R c F g σ H ρ S) (h : ρ[i]? = some (Sl.o d)) :
    R c F g σ H (ρ.set i (.v d)) S ∧ Ext g.sm (MU F g σ ρ) H g.sm (MU F g σ (ρ.set i (.v d))) H ∧ ∃ x, σ[i]? = some (some x) ∧ Rep c g.sm (MU F g σ (ρ.set i (.v d))) H d x := by
  have hρ : i < ρ.length := (List.getElem?_eq_some_iff.mp h).1
  obtain ⟨a, h1, h2⟩ := r.own i d h
  have hm : ∀ b, MU F g σ (ρ.set i (.v d)) b → MU F g σ ρ b := fun b m => by
    rcases m with m | m | m | ⟨j, e, h1, h2⟩
    · exact .inl m
    · exact .inr (.inl m)
    · exact .inr (.inr (.inl m))
    · by_cases hj : i = j
      · subst hj
        rw [List.getElem?_set_self hρ] at h1
        cases h1
      · rw [List.getElem?_set_ne hj] at h1
        exact .inr (.inr (.inr ⟨j, e, h1, h2⟩))
  have e : Ext g.sm (MU F g σ ρ) H g.sm (MU F g σ (ρ.set i (.v d))) H := ⟨⟨[], by simp⟩, fun b o h _ => h, fun b h => .inl (hm b h)⟩
  obtain ⟨s1, s2, s3, s4⟩ := r.sep i d a h h1
  have n : ¬ MU F g σ (ρ.set i (.v d)) a := fun m => by
    rcases m with m | m | m | ⟨j, e1, q1, q2⟩
    · exact s1 m
    · exact s2 m
    · exact s3 m
    · by_cases hj : i = j
      · subst hj
        rw [List.getElem?_set_self hρ] at q1
        cases q1
      · rw [List.getElem?_set_ne hj] at q1
        exact hj (r.inj i j d e1 a h q1 h1 q2)
  have rp : Rep c g.sm (MU F g σ (ρ.set i (.v d))) H d (.ref a) := (h2.ext e fun _ z => z).rep n
  refine ⟨?_, e, _, h1, rp⟩
  refine R.less (g := g) (tm' := g.tm) r (by simp [r.len]) hm (fun j e1 q => ?_) (fun j e1 q => ?_) (fun j k e1 e2 b q1 q2 q3 q4 => ?_) (fun _ z => z) r.tmn (fun d' z => by
    by_cases hj : i = 0
    · subst hj
      rw [List.getElem?_set_self hρ] at z
      cases z
    · rw [List.getElem?_set_ne hj] at z
      exact ⟨d', z, rfl⟩)
  · by_cases hj : i = j
    · subst hj
      rw [List.getElem?_set_self hρ] at q
      cases q
      exact ⟨_, h1, rp⟩
    · rw [List.getElem?_set_ne hj] at q
      obtain ⟨y, q2, q3⟩ := r.val j e1 q
      exact ⟨y, q2, q3.ext e⟩
  · by_cases hj : i = j
    · subst hj
      rw [List.getElem?_set_self hρ] at q
      cases q
    · rw [List.getElem?_set_ne hj] at q
      obtain ⟨b, q2, q3⟩ := r.own j e1 q
      exact ⟨b, q2, q3, r.sep j e1 b q q2⟩
  · by_cases hj : i = j
    · subst hj
      rw [List.getElem?_set_self hρ] at q1
      cases q1
    · by_cases hk : i = k
      · subst hk
        rw [List.getElem?_set_self hρ] at q2
        cases q2
      · rw [List.getElem?_set_ne hj] at q1
        rw [List.getElem?_set_ne hk] at q2
        exact r.inj j k e1 e2 b q1 q2 q3 q4

/-- a new mutable thing is laid: a temporary -/
theorem R.newtm {a : Addr} {o : HO} (r : R c F g σ H ρ S) (hn : H a = none) (hm : Mut (some o)) :
    R c F ⟨g.sm, a :: g.tm⟩ σ (upd H a o) ρ S ∧ Ext g.sm (MU F g σ ρ) H g.sm (MU F ⟨g.sm, a :: g.tm⟩ σ ρ) (upd H a o) := by
  have k := grow_upd (o := o) hn
  have e : Ext g.sm (MU F g σ ρ) H g.sm (MU F ⟨g.sm, a :: g.tm⟩ σ ρ) (upd H a o) := ⟨⟨[], by simp⟩, fun b u h _ => k b u h, fun b m => by
    rcases m with m | m | m | m
    · exact .inl (.inl m)
    · exact .inl (.inr (.inl m))
    · rcases List.mem_cons.mp m with z | z
      · exact .inr (by rw [z]; exact hn)
      · exact .inl (.inr (.inr (.inl z)))
    · exact .inl (.inr (.inr (.inr m)))⟩
  refine ⟨⟨r.len, fun i d h => ?_, fun i d h => ?_, r.inj, fun i d b h1 h2 => ?_, ⟨r.sto.1, fun n b d h1 h2 => (r.sto.2 n b d h1 h2).ext e (k b)⟩, r.smn, fun b h => ?_, fun b h => ?_, ?_, r.pre, fun b u h n => k _ _ (r.keep b u h n), r.moT, fun b h => let ⟨u, e⟩ := r.exT b h; ⟨u, k _ _ e⟩, r.fx, r.xe e⟩, e⟩
  · obtain ⟨x, h1, h2⟩ := r.val i d h
    exact ⟨x, h1, h2.ext e⟩
  · obtain ⟨b, h1, h2⟩ := r.own i d h
    exact ⟨b, h1, h2.ext e (k b)⟩
  · obtain ⟨q1, q2, q3, q4⟩ := r.sep i d b h1 h2
    refine ⟨q1, q2, fun z => ?_, q4⟩
    rcases List.mem_cons.mp z with z | z
    · obtain ⟨y, h3, h4⟩ := r.own i d h1
      rw [h2] at h3; cases h3
      obtain ⟨o', ho, _⟩ := h4.there
      rw [z, hn] at ho; cases ho
    · exact q3 z
  · obtain ⟨q1, q2, q3⟩ := r.smo b h
    refine ⟨q1, fun z => ?_, q3⟩
    rcases List.mem_cons.mp z with z | z
    · obtain ⟨o', ho⟩ := r.tracked (.inr (.inl h))
      rw [z, hn] at ho; cases ho
    · exact q2 z
  · rcases List.mem_cons.mp h with z | z
    · subst z
      refine ⟨fun m => ?_, ?_, o, upd_same, hm⟩
      · obtain ⟨o', ho⟩ := r.tracked (.inl m)
        rw [hn] at ho; cases ho
      · cases q : F.H0 b with
        | none => rfl
        | some u =>
          by_cases z : F.exc b
          · obtain ⟨o', ho⟩ := r.exT b z
            rw [hn] at ho; cases ho
          · have := r.keep b u q z
            rw [hn] at this; cases this
    · obtain ⟨q1, q2, o', q3, q4⟩ := r.tmo b z
      exact ⟨q1, q2, o', k _ _ q3, q4⟩
  · refine List.nodup_cons.mpr ⟨fun z => ?_, r.tmn⟩
    obtain ⟨_, _, o', q3, _⟩ := r.tmo a z
    rw [hn] at q3; cases q3
end

abbrev QD := D → En → Sto → Prop
abbrev QE := Ex → En → Sto → Prop
abbrev TV := En → Sto → QD → QE → Prop
abbrev TVT := En → Sto → (Bool → En → Sto → Prop) → QE → Prop
abbrev TVA := En → Sto → (List D → En → Sto → Prop) → QE → Prop
inductive Out where
  | nx | bk | ct
  | rt (d : D)
abbrev TVS := En → Sto → (Out → En → Sto → Prop) → QE → Prop

/-- where one stands -/
structure VC where
  X : Cx
  c : Cf
  F : Fr
  W : WX

structure Stp (F : Fr) (g : Gs) (σ : St) (ρ : En) (H : Hp) (g' : Gs) (σ' : St) (ρ' : En) (H' : Hp) : Prop where
  tm : g'.tm = g.tm
  ext : Ext g.sm (MU F g σ ρ) H g'.sm (MU F g' σ' ρ') H'
theorem Stp.refl {F : Fr} {g : Gs} {σ : St} {ρ : En} {H : Hp} : Stp F g σ ρ H g σ ρ H := ⟨rfl, .refl⟩
theorem Stp.trans {F : Fr} {g1 g2 g3 : Gs} {σ1 σ2 σ3 : St} {ρ1 ρ2 ρ3 : En} {H1 H2 H3 : Hp} (a : Stp F g1 σ1 ρ1 H1 g2 σ2 ρ2 H2) (b : Stp F g2 σ2 ρ2 H2 g3 σ3 ρ3 H3) : Stp F g1 σ1 ρ1 H1 g3 σ3 ρ3 H3 := ⟨b.tm.trans a.tm, a.ext.trans b.ext⟩
theorem Stp.grow {F : Fr} {g : Gs} {σ : St} {ρ : En} {H H' : Hp} (h : ∀ b o, H b = some o → H' b = some o) : Stp F g σ ρ H g σ ρ H' := ⟨rfl, Ext.grow h⟩

section
variable (Y : VC)
def EC (g : Gs) (σ : St) (ρ : En) (H : Hp) (Ev : QE) : Prop := ∀ (ex : Ex) (cls : Value) (dx : Option Addr) (σ' : St) (H' : Hp) (g' : Gs) (ρ' : En) (S' : Sto),
  R Y.c Y.F g' σ' H' ρ' S' → Stp Y.F g σ ρ H g' σ' ρ' H' → ExIs Y.c g'.sm (MU Y.F g' σ' ρ') H' ex cls dx → Ev ex ρ' S' → Y.W cls dx σ' H'
def LE (w : TV) : TE := fun σ H Q => ∃ (g : Gs) (ρ : En) (S : Sto) (Qv : QD) (Ev : QE), R Y.c Y.F g σ H ρ S ∧ w ρ S Qv Ev ∧ EC Y g σ ρ H Ev ∧
  ∀ (v : V) (H' : Hp) (g' : Gs) (ρ' : En) (S' : Sto) (d : D), R Y.c Y.F g' σ H' ρ' S' → Stp Y.F g σ ρ H g' σ ρ' H' → Rep Y.c g'.sm (MU Y.F g' σ ρ') H' d v → Qv d ρ' S' → Q v H'
/-- the same where what comes is new and nobody else's: a temporary -/
def LF (w : TV) : TE := fun σ H Q => ∃ (g : Gs) (ρ : En) (S : Sto) (Qv : QD) (Ev : QE), R Y.c Y.F g σ H ρ S ∧ w ρ S Qv Ev ∧ EC Y g σ ρ H Ev ∧
  ∀ (a : Addr) (H' : Hp) (sm : List Addr) (ρ' : En) (S' : Sto) (d : D), R Y.c Y.F ⟨sm, a :: g.tm⟩ σ H' ρ' S' → Ext g.sm (MU Y.F g σ ρ) H sm (MU Y.F ⟨sm, a :: g.tm⟩ σ ρ') H' → Own Y.c sm (MU Y.F ⟨sm, a :: g.tm⟩ σ ρ') H' a d → Qv d ρ' S' → Q (.ref a) H'
def LT (w : TVT) : TT := fun σ H Q => ∃ (g : Gs) (ρ : En) (S : Sto) (Qv : Bool → En → Sto → Prop) (Ev : QE), R Y.c Y.F g σ H ρ S ∧ w ρ S Qv Ev ∧ EC Y g σ ρ H Ev ∧
  ∀ (b : Bool) (H' : Hp) (g' : Gs) (ρ' : En) (S' : Sto), R Y.c Y.F g' σ H' ρ' S' → Stp Y.F g σ ρ H g' σ ρ' H' → Qv b ρ' S' → Q b H'
def LA (w : TVA) : TA := fun σ H Q => ∃ (g : Gs) (ρ : En) (S : Sto) (Qv : List D → En → Sto → Prop) (Ev : QE), R Y.c Y.F g σ H ρ S ∧ w ρ S Qv Ev ∧ EC Y g σ ρ H Ev ∧
  ∀ (vs : List V) (H' : Hp) (g' : Gs) (ρ' : En) (S' : Sto) (ds : List D), R Y.c Y.F g' σ H' ρ' S' → Stp Y.F g σ ρ H g' σ ρ' H' → Reps Y.c g'.sm (MU Y.F g' σ ρ') H' ds vs → Qv ds ρ' S' → Q vs H'
structure SC (g : Gs) (σ : St) (ρ : En) (H : Hp) (Qv : Out → En → Sto → Prop) (D : Ends) : Prop where
  nx : ∀ (σ' : St) (H' : Hp) (g' : Gs) (ρ' : En) (S' : Sto), R Y.c Y.F g' σ' H' ρ' S' → Stp Y.F g σ ρ H g' σ' ρ' H' → Qv .nx ρ' S' → D.nx σ' H'
  bk : ∀ (σ' : St) (H' : Hp) (g' : Gs) (ρ' : En) (S' : Sto), R Y.c Y.F g' σ' H' ρ' S' → Stp Y.F g σ ρ H g' σ' ρ' H' → Qv .bk ρ' S' → D.bk σ' H'
  ct : ∀ (σ' : St) (H' : Hp) (g' : Gs) (ρ' : En) (S' : Sto), R Y.c Y.F g' σ' H' ρ' S' → Stp Y.F g σ ρ H g' σ' ρ' H' → Qv .ct ρ' S' → D.ct σ' H'
  rt : ∀ (v : V) (σ' : St) (H' : Hp) (g' : Gs) (ρ' : En) (S' : Sto) (d : VL.D), R Y.c Y.F g' σ' H' ρ' S' → Stp Y.F g σ ρ H g' σ' ρ' H' → Rep Y.c g'.sm (MU Y.F g' σ' ρ') H' d v → Qv (.rt d) ρ' S' → D.rt v H'
def LS (w : TVS) : TS := fun D σ H => ∃ (g : Gs) (ρ : En) (S : Sto) (Qv : Out → En → Sto → Prop) (Ev : QE), R Y.c Y.F g σ H ρ S ∧ w ρ S Qv Ev ∧ EC Y g σ ρ H Ev ∧ SC Y g σ ρ H Qv D
abbrev VE (e : Expr) (w : TV) : Prop := PE Y.X e (LE Y w)
abbrev VF (e : Expr) (w : TV) : Prop := PE Y.X e (LF Y w)
abbrev VT (e : Expr) (w : TVT) : Prop := PT Y.X e (LT Y w)
abbrev VA (es : List Expr) (w : TVA) : Prop := PA Y.X es (LA Y w)
abbrev VS (st : Stmt) (w : TVS) : Prop := PS Y.X st (LS Y w)
abbrev VSs (st : List Stmt) (w : TVS) : Prop := PSs Y.X st (LS Y w)
end

section
variable {Y : VC} {g g' : Gs} {σ σ' : St} {ρ ρ' : En} {H H' : Hp} {Ev : QE}
theorem EC.step (e : EC Y g σ ρ H Ev) (s : Stp Y.F g σ ρ H g' σ' ρ' H') : EC Y g' σ' ρ' H' Ev := fun ex cls dx σ2 H2 g2 ρ2 S2 r st x h => e ex cls dx σ2 H2 g2 ρ2 S2 r (s.trans st) x h
theorem PE.imp {X : Cx} {e : Expr} {t t' : TE} (h : PE X e t) (hi : ∀ σ H Q, t' σ H Q → t σ H Q) : PE X e t' := ⟨fun pins s σ H Q I hq => h.run pins s σ H Q I (hi σ H Q hq)⟩
theorem PT.imp {X : Cx} {e : Expr} {t t' : TT} (h : PT X e t) (hi : ∀ σ H Q, t' σ H Q → t σ H Q) : PT X e t' := ⟨fun pins s σ H Q I hq => h.run pins s σ H Q I (hi σ H Q hq)⟩
theorem PA.imp {X : Cx} {e : List Expr} {t t' : TA} (h : PA X e t) (hi : ∀ σ H Q, t' σ H Q → t σ H Q) : PA X e t' := ⟨fun pos pins s σ H Q I hq => h.run pos pins s σ H Q I (hi σ H Q hq)⟩
theorem PS.imp {X : Cx} {e : Stmt} {t t' : TS} (h : PS X e t) (hi : ∀ D σ H, t' D σ H → t D σ H) : PS X e t' := ⟨fun pins s σ H D I hq => h.run pins s σ H D I (hi D σ H hq)⟩
theorem PSs.imp {X : Cx} {e : List Stmt} {t t' : TS} (h : PSs X e t) (hi : ∀ D σ H, t' D σ H → t D σ H) : PSs X e t' := ⟨fun pins s σ H D I hq => h.run pins s σ H D I (hi D σ H hq)⟩
theorem PW.imp {X : Cx} {e : Expr} {t t' : TT} (h : PW X e t) (hi : ∀ σ H Q, t' σ H Q → t σ H Q) : PW X e t' := ⟨fun wh pins s σ H Q I hq => h.run wh pins s σ H Q I (hi σ H Q hq)⟩
end

/-! ### from a new thing to a value -/
section
variable {Y : VC} {e : Expr} {w : TV}
theorem vf_ve (h : VF Y e w) : VE Y e w := PE.imp h fun σ H Q ⟨g, ρ, S, Qv, Ev, r, hw, ec, hq⟩ => by
  refine ⟨g, ρ, S, Qv, Ev, r, hw, ec, fun a H' sm ρ' S' d r' ex ow q => ?_⟩
  obtain ⟨r2, e2, rp⟩ := r'.letgo ow
  exact hq _ H' ⟨sm, g.tm⟩ ρ' S' d r2 ⟨rfl, ex.trans e2⟩ rp q
end

/-! ### names, constants -/
def wVar (i : Nat) : TV := fun ρ S Q _ => match ρ[i]? with
  | some (.v d) => Q d ρ S
  | some (.o d) => Q d (ρ.set i (.v d)) S
  | _ => False
def wC (d : D) : TV := fun ρ S Q _ => Q d ρ S
section
variable {Y : VC} {i : Nat} {x : Str} {pos : Pos}
theorem ve_var (hN : Y.X.N[i]? = some x) (hv : Vis Y.X.env.scope x) (hd : (x == ("__debug__" : Str)) = false := by decide) (hcd : (x == ("__classdict__" : Str)) = false := by decide) : VE Y (.Name x pos) (wVar i) :=
  PE.imp (pe_var hN hv hd hcd) fun σ H Q ⟨g, ρ, S, Qv, Ev, r, hw, ec, hq⟩ => by
    unfold wVar at hw
    split at hw
    · rename_i d e
      obtain ⟨v, e1, rp⟩ := r.val i d e
      exact ⟨v, e1, hq v H g ρ S d r .refl rp hw⟩
    · rename_i d e
      obtain ⟨r2, e2, v, e1, rp⟩ := r.freeze e
      exact ⟨v, e1, hq v H g _ S d r2 ⟨rfl, e2⟩ rp hw⟩
    · exact hw.elim
/-- a constant -/
theorem ve_const {v : V} {d : D} {e : Expr} (h : PE Y.X e (tC v)) (hr : ∀ sm M H, Rep Y.c sm M H d v) : VE Y e (wC d) :=
  PE.imp h fun σ H Q ⟨g, ρ, S, Qv, Ev, r, hw, ec, hq⟩ => hq v H g ρ S d r .refl (hr _ _ _) hw
theorem ve_int {j : Int} {k : Nat} : VE Y (.Constant (.int j) k pos) (wC (.int j)) := ve_const pe_int fun _ _ _ => by simp only [Rep]
theorem ve_bl {j : Bool} {k : Nat} : VE Y (.Constant (.bool j) k pos) (wC (.bl j)) := ve_const pe_bl fun _ _ _ => by simp only [Rep]
theorem ve_non {k : Nat} : VE Y (.Constant .none k pos) (wC .non) := ve_const pe_non fun _ _ _ => by simp only [Rep]
theorem ve_str {j : Str} {k : Nat} : VE Y (.Constant (.str j) k pos) (wC (.str j)) := ve_const pe_str fun _ _ _ => by simp only [Rep]
/-- a constant of the module: a text -/
theorem ve_gstr {z : Str} {t : Tok} (hg : Gl Y.X x) (hm : Y.X.mg x = some (.str z t)) (hd : (x == ("__debug__" : Str)) = false := by decide) : VE Y (.Name x pos) (wC (.str z)) :=
  ve_const (v := .str z) (pe_glob hg hm ⟨t, rfl⟩ hd) fun _ _ _ => by simp only [Rep]
theorem ve_gint {z : Int} {t : Tok} (hg : Gl Y.X x) (hm : Y.X.mg x = some (.int z t)) (hd : (x == ("__debug__" : Str)) = false := by decide) : VE Y (.Name x pos) (wC (.int z)) :=
  ve_const (v := .int z) (pe_glob hg hm ⟨t, rfl⟩ hd) fun _ _ _ => by simp only [Rep]
end

/-! ### operands: a value, or a slot that is only looked at -/
inductive Hd where
  | d (x : D)
  | s (i : Nat)
def rsv (ρ : En) (h : Hd) (P : D → Prop) : Prop := match h with
  | .d x => P x
  | .s i => match ρ[i]? with
    | some (.v d) => P d
    | some (.o d) => P d
    | _ => False
/-- a shared thing, looked at -/
def dr (S : Sto) (d : D) : D := match d with
  | .ref n => S.getD n d
  | d => d
abbrev TVO := En → Sto → (Hd → En → Sto → Prop) → QE → Prop
/-- v may be looked at: it is d now -/
def Brw (c : Cf) (sm : List Addr) (M : Addr → Prop) (H : Hp) (d : D) (v : V) : Prop := Rep c sm M H d v ∨ ∃ a, v = .ref a ∧ Own c sm M H a d
def HRep (c : Cf) (sm : List Addr) (M : Addr → Prop) (H : Hp) (σ : St) (h : Hd) (v : V) : Prop := match h with
  | .d x => Rep c sm M H x v
  | .s i => σ[i]? = some (some v)
theorem HRep.ext {c : Cf} {sm sm' : List Addr} {M M' : Addr → Prop} {H H' : Hp} {σ : St} {h : Hd} {v : V} (e : Ext sm M H sm' M' H') (r : HRep c sm M H σ h v) : HRep c sm' M' H' σ h v := by
  cases h with
  | d x => exact Rep.ext e r
  | s i => exact r
section
variable {c : Cf} {F : Fr} {g : Gs} {σ : St} {H : Hp} {ρ : En} {S : Sto}
theorem R.rsv {h : Hd} {v : V} {P : D → Prop} (r : R c F g σ H ρ S) (hr : HRep c g.sm (MU F g σ ρ) H σ h v) (hp : VL.rsv ρ h P) : ∃ d, Brw c g.sm (MU F g σ ρ) H d v ∧ P d := by
  cases h with
  | d x => exact ⟨x, .inl hr, hp⟩
  | s i =>
    unfold VL.rsv at hp
    simp only at hp
    split at hp
    · rename_i d e
      obtain ⟨x, h1, h2⟩ := r.val i d e
      have hr : σ[i]? = some (some v) := hr
      rw [hr] at h1; cases h1
      exact ⟨d, .inl h2, hp⟩
    · rename_i d e
      obtain ⟨a, h1, h2⟩ := r.own i d e
      have hr : σ[i]? = some (some v) := hr
      rw [hr] at h1; cases h1
      exact ⟨d, .inr ⟨a, rfl, h2⟩, hp⟩
    · exact hp.elim
theorem R.dr {d : D} {v : V} (r : R c F g σ H ρ S) (h : Brw c g.sm (MU F g σ ρ) H d v) : Brw c g.sm (MU F g σ ρ) H (VL.dr S d) v := by
  cases d with
  | ref n =>
    rcases h with h | ⟨a, e, h⟩
    · simp only [Rep] at h
      obtain ⟨a, h1, h2⟩ := h
      have hn : n < g.sm.length := (List.getElem?_eq_some_iff.mp h1).1
      have hn' : n < S.length := by rw [← r.sto.1]; exact hn
      have e : VL.dr S (.ref n) = S[n] := by
        show S.getD n _ = _
        rw [List.getD_eq_getElem?_getD, List.getElem?_eq_getElem hn']
        rfl
      rw [e]
      exact .inr ⟨a, h2, r.sto.2 n a _ h1 (List.getElem?_eq_getElem hn')⟩
    · simp only [Own] at h
  | _ => exact h
end
section
variable (Y : VC)
def LO (w : TVO) : TE := fun σ H Q => ∃ (g : Gs) (ρ : En) (S : Sto) (Qv : Hd → En → Sto → Prop) (Ev : QE), R Y.c Y.F g σ H ρ S ∧ w ρ S Qv Ev ∧ EC Y g σ ρ H Ev ∧
  ∀ (v : V) (H' : Hp) (g' : Gs) (ρ' : En) (S' : Sto) (h : Hd), R Y.c Y.F g' σ H' ρ' S' → Stp Y.F g σ ρ H g' σ ρ' H' → HRep Y.c g'.sm (MU Y.F g' σ ρ') H' σ h v → Qv h ρ' S' → Q v H'
abbrev VO (e : Expr) (w : TVO) : Prop := PE Y.X e (LO Y w)
end
/-- a value as an operand -/
def oE (w : TV) : TVO := fun ρ S Q E => w ρ S (fun d ρ1 S1 => Q (.d d) ρ1 S1) E
/-- a slot as an operand -/
def oS (i : Nat) : TVO := fun ρ S Q _ => rsv ρ (.s i) fun _ => Q (.s i) ρ S
section
variable {Y : VC} {e : Expr} {w : TV} {i : Nat} {x : Str} {pos : Pos}
theorem vo_e (h : VE Y e w) : VO Y e (oE w) := PE.imp h fun σ H Q ⟨g, ρ, S, Qv, Ev, r, hw, ec, hq⟩ =>
  ⟨g, ρ, S, _, Ev, r, hw, ec, fun v H' g' ρ' S' d r' st rp q => hq v H' g' ρ' S' (.d d) r' st rp q⟩
theorem vo_s (hN : Y.X.N[i]? = some x) (hv : Vis Y.X.env.scope x) (hd : (x == ("__debug__" : Str)) = false := by decide) (hcd : (x == ("__classdict__" : Str)) = false := by decide) : VO Y (.Name x pos) (oS i) :=
  PE.imp (pe_var hN hv hd hcd) fun σ H Q ⟨g, ρ, S, Qv, Ev, r, hw, ec, hq⟩ => by
    unfold oS rsv at hw
    simp only at hw
    split at hw
    · rename_i d e
      obtain ⟨v, e1, rp⟩ := r.val i d e
      exact ⟨v, e1, hq v H g ρ S (.s i) r .refl e1 hw⟩
    · rename_i d e
      obtain ⟨a, e1, ow⟩ := r.own i d e
      exact ⟨_, e1, hq _ H g ρ S (.s i) r .refl e1 hw⟩
    · exact hw.elim
end

/-! ### operators -/
def wBin (f : D → D → Sto → (D → Prop) → Prop) (wa wb : TVO) : TV := fun ρ S Q E => wa ρ S (fun hx ρ1 S1 => wb ρ1 S1 (fun hy ρ2 S2 => rsv ρ2 hx fun x => rsv ρ2 hy fun y => f x y S2 fun d => Q d ρ2 S2) E) E
def wUn (f : D → Sto → (D → Prop) → Prop) (wa : TVO) : TV := fun ρ S Q E => wa ρ S (fun hx ρ1 S1 => rsv ρ1 hx fun x => f x S1 fun d => Q d ρ1 S1) E
/-- f does on values what vf says of data; it may lay new things -/
def OpV (Y : VC) (f : Value → Value → Sem Value) (vf : D → D → Sto → (D → Prop) → Prop) : Prop :=
  ∀ (pins : List (Addr × Obj)) (s : Shared) (σ : St) (H : Hp) (g : Gs) (ρ : En) (S : Sto) (x y : V) (v u : Value) (dx dy : D) (P : D → Prop) (Q : VK), Inv Y.X pins σ H s → RelV x v → RelV y u → R Y.c Y.F g σ H ρ S →
    Brw Y.c g.sm (MU Y.F g σ ρ) H dx x → Brw Y.c g.sm (MU Y.F g σ ρ) H dy y → vf dx dy S P →
    (∀ z d H', (∀ b o, H b = some o → H' b = some o) → Rep Y.c g.sm (MU Y.F g σ ρ) H' d z → P d → Q z H') → wpAny (model Y.X.prog Y.X.w) Y.X.A (f v u) (EP Y.X pins σ Q) Y.X.xe s
def UnV (Y : VC) (f : Value → Sem Value) (vf : D → Sto → (D → Prop) → Prop) : Prop :=
  ∀ (pins : List (Addr × Obj)) (s : Shared) (σ : St) (H : Hp) (g : Gs) (ρ : En) (S : Sto) (x : V) (v : Value) (dx : D) (P : D → Prop) (Q : VK), Inv Y.X pins σ H s → RelV x v → R Y.c Y.F g σ H ρ S →
    Brw Y.c g.sm (MU Y.F g σ ρ) H dx x → vf dx S P →
    (∀ z d H', (∀ b o, H b = some o → H' b = some o) → Rep Y.c g.sm (MU Y.F g σ ρ) H' d z → P d → Q z H') → wpAny (model Y.X.prog Y.X.w) Y.X.A (f v) (EP Y.X pins σ Q) Y.X.xe s
section
variable {Y : VC} {a b : Expr} {wa wb : TVO} {pos : Pos}
/-- two operands, then what goes on with both -/
theorem run2 {α : Type} (ha : VO Y a wa) (hb : VO Y b wb) {pins : List (Addr × Obj)} {s : Shared} {σ : St} {H : Hp} {g : Gs} {ρ : En} {S : Sto} {Qv : D → D → En → Sto → Prop} {Ev : QE} {Q : α → Shared → Prop} {f : Value → Value → Sem α}
    (I : Inv Y.X pins σ H s) (r : R Y.c Y.F g σ H ρ S) (hw : wa ρ S (fun x ρ1 S1 => wb ρ1 S1 (fun y ρ2 S2 => rsv ρ2 x fun dx => rsv ρ2 y fun dy => Qv dx dy ρ2 S2) Ev) Ev) (ec : EC Y g σ ρ H Ev)
    (k : ∀ v u s2 x y H2 g2 ρ2 S2 dx dy, Inv Y.X pins σ H2 s2 → RelV x v → RelV y u → R Y.c Y.F g2 σ H2 ρ2 S2 → Stp Y.F g σ ρ H g2 σ ρ2 H2 → Brw Y.c g2.sm (MU Y.F g2 σ ρ2) H2 dx x → Brw Y.c g2.sm (MU Y.F g2 σ ρ2) H2 dy y → Qv dx dy ρ2 S2 → wpAny (model Y.X.prog Y.X.w) Y.X.A (f v u) Q Y.X.xe s2) :
    wpAny (model Y.X.prog Y.X.w) Y.X.A (eval a Y.X.env) (fun v s₁ => wpAny (model Y.X.prog Y.X.w) Y.X.A (eval b Y.X.env) (fun u s₂ => wpAny (model Y.X.prog Y.X.w) Y.X.A (f v u) Q Y.X.xe s₂) Y.X.xe s₁) Y.X.xe s := by
  refine bin ha hb I (R := fun x y H2 => ∃ g2 ρ2 S2 dx dy, R Y.c Y.F g2 σ H2 ρ2 S2 ∧ Stp Y.F g σ ρ H g2 σ ρ2 H2 ∧ Brw Y.c g2.sm (MU Y.F g2 σ ρ2) H2 dx x ∧ Brw Y.c g2.sm (MU Y.F g2 σ ρ2) H2 dy y ∧ Qv dx dy ρ2 S2) ⟨g, ρ, S, _, Ev, r, hw, ec, fun x H1 g1 ρ1 S1 dx r1 st1 rp1 q1 => ?_⟩ fun v u s2 x y H2 I2 rx ry ⟨g2, ρ2, S2, dx, dy, r2, st, p1, p2, q⟩ => k v u s2 x y H2 g2 ρ2 S2 dx dy I2 rx ry r2 st p1 p2 q
  refine ⟨g1, ρ1, S1, _, Ev, r1, q1, ec.step st1, fun y H2 g2 ρ2 S2 dy r2 st2 rp2 q2 => ?_⟩
  obtain ⟨x1, b1, q3⟩ := r2.rsv (rp1.ext st2.ext) q2
  obtain ⟨y1, b2, q4⟩ := r2.rsv rp2 q3
  exact ⟨g2, ρ2, S2, x1, y1, r2, st1.trans st2, b1, b2, q4⟩
/-- one operand, then what goes on with it -/
theorem run1 {α : Type} (ha : VO Y a wa) {pins : List (Addr × Obj)} {s : Shared} {σ : St} {H : Hp} {g : Gs} {ρ : En} {S : Sto} {Qv : D → En → Sto → Prop} {Ev : QE} {Q : α → Shared → Prop} {f : Value → Sem α}
    (I : Inv Y.X pins σ H s) (r : R Y.c Y.F g σ H ρ S) (hw : wa ρ S (fun x ρ1 S1 => rsv ρ1 x fun dx => Qv dx ρ1 S1) Ev) (ec : EC Y g σ ρ H Ev)
    (k : ∀ v s2 x H2 g2 ρ2 S2 dx, Inv Y.X pins σ H2 s2 → RelV x v → R Y.c Y.F g2 σ H2 ρ2 S2 → Stp Y.F g σ ρ H g2 σ ρ2 H2 → Brw Y.c g2.sm (MU Y.F g2 σ ρ2) H2 dx x → Qv dx ρ2 S2 → wpAny (model Y.X.prog Y.X.w) Y.X.A (f v) Q Y.X.xe s2) :
    wpAny (model Y.X.prog Y.X.w) Y.X.A (eval a Y.X.env) (fun v s₁ => wpAny (model Y.X.prog Y.X.w) Y.X.A (f v) Q Y.X.xe s₁) Y.X.xe s := by
  refine thn (ha.run pins s σ H (fun x H2 => ∃ g2 ρ2 S2 dx, R Y.c Y.F g2 σ H2 ρ2 S2 ∧ Stp Y.F g σ ρ H g2 σ ρ2 H2 ∧ Brw Y.c g2.sm (MU Y.F g2 σ ρ2) H2 dx x ∧ Qv dx ρ2 S2) I ⟨g, ρ, S, _, Ev, r, hw, ec, fun x H1 g1 ρ1 S1 dx r1 st1 rp1 q1 => ?_⟩) fun v s1 ⟨x, H1, I1, rx, g1, ρ1, S1, dx, r1, st1, b1, q1⟩ => k v s1 x H1 g1 ρ1 S1 dx I1 rx r1 st1 b1 q1
  obtain ⟨x1, b1, q3⟩ := r1.rsv rp1 q1
  exact ⟨g1, ρ1, S1, x1, r1, st1, b1, q3⟩
theorem ve_bin {op : Operator} {f : D → D → Sto → (D → Prop) → Prop} (ho : OpV Y (binaryOp op) f) (ha : VO Y a wa) (hb : VO Y b wb) : VE Y (.BinOp a op b pos) (wBin f wa wb) := by
  refine ⟨fun pins s σ H Q I ⟨g, ρ, S, Qv, Ev, r, hw, ec, hq⟩ => ?_⟩
  refine wpAny_BinOp (run2 (Qv := fun x y ρ2 S2 => f x y S2 fun d => Qv d ρ2 S2) ha hb I r hw ec fun v u s2 x y H2 g2 ρ2 S2 dx dy I2 rx ry r2 st p1 p2 q => ?_)
  exact ho pins s2 σ H2 g2 ρ2 S2 x y v u dx dy _ Q I2 rx ry r2 p1 p2 q fun z d H3 k rp qd => hq z H3 g2 ρ2 S2 d (r2.grow k) (st.trans (.grow k)) rp qd
theorem ve_cmp {op : CmpOp} {f : D → D → Sto → (D → Prop) → Prop} (ho : OpV Y (compareOp op) f) (ha : VO Y a wa) (hb : VO Y b wb) (hm : behindInMarks op b = false) : VE Y (.Compare a [op] [b] pos) (wBin f wa wb) := by
  refine ⟨fun pins s σ H Q I ⟨g, ρ, S, Qv, Ev, r, hw, ec, hq⟩ => ?_⟩
  refine wpAny_Compare1 (run2 (Qv := fun x y ρ2 S2 => f x y S2 fun d => Qv d ρ2 S2) ha hb I r hw ec fun v u s2 x y H2 g2 ρ2 S2 dx dy I2 rx ry r2 st p1 p2 q => ?_) hm
  exact ho pins s2 σ H2 g2 ρ2 S2 x y v u dx dy _ Q I2 rx ry r2 p1 p2 q fun z d H3 k rp qd => hq z H3 g2 ρ2 S2 d (r2.grow k) (st.trans (.grow k)) rp qd
theorem ve_un {op : UnaryOp} {f : D → Sto → (D → Prop) → Prop} (ho : UnV Y (unaryOp op) f) (ha : VO Y a wa) : VE Y (.UnaryOp op a pos) (wUn f wa) := by
  refine ⟨fun pins s σ H Q I ⟨g, ρ, S, Qv, Ev, r, hw, ec, hq⟩ => ?_⟩
  refine UnaryOp_ (run1 (Qv := fun x ρ2 S2 => f x S2 fun d => Qv d ρ2 S2) ha I r hw ec fun v s2 x H2 g2 ρ2 S2 dx I2 rx r2 st p1 q => ?_)
  exact ho pins s2 σ H2 g2 ρ2 S2 x v dx _ Q I2 rx r2 p1 q fun z d H3 k rp qd => hq z H3 g2 ρ2 S2 d (r2.grow k) (st.trans (.grow k)) rp qd
end
end VL

set_option Elab.async false
set_option linter.all false
set_option autoImplicit false
set_option maxRecDepth 100000
/-! VLStmt: tests, targets, statements, loops. -/
namespace VL
open PySem PySem.Spec PyProof.Rows L2

/-! ### tests -/
/-- truth of data -/
def truD (d : D) (P : Bool → Prop) : Prop := match d with
  | .non => P false
  | .bl b => P b
  | .int i => P (i != 0)
  | .str x => x.length ≤ sizeLine ∧ P ((x.length : Int) != 0)
  | .tup l => P (!l.isEmpty)
  | .lst l => P (!l.isEmpty)
  | _ => False
def wTru (w : TVO) : TVT := fun ρ S Q E => w ρ S (fun h ρ1 S1 => rsv ρ1 h fun d => truD (dr S1 d) fun b => Q b ρ1 S1) E
/-- a bool as a test -/
def wTB (w : TV) : TVT := fun ρ S Q E => w ρ S (fun d ρ1 S1 => ∃ b, d = .bl b ∧ Q b ρ1 S1) E
theorem isEmpty_of_len {α β : Type} {l : List α} {m : List β} (h : l.length = m.length) : l.isEmpty = m.isEmpty := by
  cases l <;> cases m <;> simp at h ⊢
section
variable {Y : VC}
theorem truV_of {g : Gs} {σ : St} {H : Hp} {ρ : En} {d : D} {v : V} {P : Bool → Prop} (h : Brw Y.c g.sm (MU Y.F g σ ρ) H d v) (hp : truD d P) : ∃ b, TruV Y.X.K v H b ∧ P b := by
  rcases h with h | ⟨a, e, h⟩
  · cases d with
    | tup l =>
      simp only [Rep] at h
      obtain ⟨a, vs, rfl, r, n, q⟩ := h
      exact ⟨_, .inr (.inl ⟨vs, SqT.of r, by rw [isEmpty_of_len q.length]⟩), hp⟩
    | lst l =>
      simp only [Rep] at h
      obtain ⟨a, vs, rfl, r, n, q⟩ := h
      exact ⟨_, .inl ⟨vs, SqL.of r, by rw [isEmpty_of_len q.length]⟩, hp⟩
    | non => simp only [Rep] at h; subst h; exact ⟨_, rfl, hp⟩
    | bl b => simp only [Rep] at h; subst h; exact ⟨_, rfl, hp⟩
    | int b => simp only [Rep] at h; subst h; exact ⟨_, rfl, hp⟩
    | str b => simp only [Rep] at h; subst h; exact ⟨_, ⟨hp.1, rfl⟩, hp.2⟩
    | dic _ => exact hp.elim
    | obj _ _ => exact hp.elim
    | ref _ => exact hp.elim
    | scr _ => exact hp.elim
    | cls _ => exact hp.elim
  · cases d with
    | lst l =>
      simp only [Own] at h
      obtain ⟨vs, r, q⟩ := h
      subst e
      exact ⟨_, .inl ⟨vs, .inl (.inl r), by rw [isEmpty_of_len q.length]⟩, hp⟩
    | _ => simp only [Own] at h <;> exact hp.elim
end

/-! ### targets -/
inductive Tg where
  | nm (i : Nat)
  | tp (l : List Tg)
mutual
def bindT : Tg → D → En → Option En
  | .nm i, d, ρ => if i < ρ.length then some (ρ.set i (.v d)) else none
  | .tp ts, d, ρ => match d with
    | .tup ds => bindTs ts ds ρ
    | _ => none
def bindTs : List Tg → List D → En → Option En
  | [], [], ρ => some ρ
  | t :: ts, d :: ds, ρ => match bindT t d ρ with
    | some ρ1 => bindTs ts ds ρ1
    | none => none
  | _, _, _ => none
end
mutual
def tgIx : Tg → List Nat
  | .nm i => [i]
  | .tp l => tgsIx l
def tgsIx : List Tg → List Nat
  | [] => []
  | t :: ts => tgIx t ++ tgsIx ts
end
/-- the same but for the slots of is -/
structure Agr (is : List Nat) (σ σ' : St) : Prop where
  len : σ'.length = σ.length
  at_ : ∀ j, j ∉ is → σ'[j]? = σ[j]?
theorem Agr.refl {is : List Nat} {σ : St} : Agr is σ σ := ⟨rfl, fun _ _ => rfl⟩
section
variable (Y : VC)
def LG (tg : Tg) : TG := fun v σ H Q => ∃ (g : Gs) (ρ : En) (S : Sto) (d : D) (ρ' : En), R Y.c Y.F g σ H ρ S ∧ Rep Y.c g.sm (MU Y.F g σ ρ) H d v ∧ bindT tg d ρ = some ρ' ∧
  ∀ σ', R Y.c Y.F g σ' H ρ' S → Stp Y.F g σ ρ H g σ' ρ' H → Agr (tgIx tg) σ σ' → Q σ' H
def LGs (ts : List Tg) : TGs := fun vs σ H Q => ∃ (g : Gs) (ρ : En) (S : Sto) (ds : List D) (ρ' : En), R Y.c Y.F g σ H ρ S ∧ Reps Y.c g.sm (MU Y.F g σ ρ) H ds vs ∧ bindTs ts ds ρ = some ρ' ∧
  ∀ σ', R Y.c Y.F g σ' H ρ' S → Stp Y.F g σ ρ H g σ' ρ' H → Agr (tgsIx ts) σ σ' → Q σ' H
abbrev VG (e : Expr) (tg : Tg) : Prop := PG Y.X e (LG Y tg)
abbrev VGs (es : List Expr) (ts : List Tg) : Prop := PGs Y.X es (LGs Y ts)
end
theorem bindTs_len : ∀ {ts : List Tg} {ds : List D} {ρ ρ' : En}, bindTs ts ds ρ = some ρ' → ts.length = ds.length
  | [], [], _, _, _ => rfl
  | t :: ts, d :: ds, ρ, ρ', h => by
    simp only [bindTs] at h
    cases e : bindT t d ρ with
    | none => rw [e] at h; cases h
    | some ρ1 =>
      rw [e] at h
      simp [bindTs_len h]
  | [], _ :: _, _, _, h => by simp [bindTs] at h
  | _ :: _, [], _, _, h => by simp [bindTs] at h
section
variable {Y : VC} {pos : Pos}
theorem vg_nm {i : Nat} {x : Str} (hN : Y.X.N.Nodup) (hi : Y.X.N[i]? = some x) (hx : Loc Y.X.env.scope x) (hf : Y.X.fn x = true ∨ Y.X.env.scope.names.lookup x = some .local := by first | exact .inl rfl | exact .inr rfl | assumption) : VG Y (.Name x pos) (.nm i) :=
  ⟨fun pins s σ H v u Q I rv ⟨g, ρ, S, d, ρ', r, rp, hb, k⟩ => (pg_name (pos := pos) hN hi hx hf).run pins s σ H v u Q I rv (by
    simp only [bindT] at hb
    split at hb
    · rename_i hl
      cases hb
      obtain ⟨r2, e2⟩ := r.setv (by rw [← r.len]; exact hl) rp
      exact k _ r2 ⟨rfl, e2⟩ ⟨by simp, fun j hj => List.getElem?_set_ne (fun z => hj (by simp [tgIx, z]))⟩
    · cases hb)⟩
theorem vgs_nil : VGs Y [] [] :=
  ⟨fun pins s σ H vs us Q I rv ⟨g, ρ, S, ds, ρ', r, rp, hb, k⟩ => pgs_nil.run pins s σ H vs us Q I rv (by
    cases ds with
    | nil =>
      simp only [bindTs] at hb
      cases hb
      simp only [Reps] at rp
      exact ⟨rp, k σ r .refl .refl⟩
    | cons _ _ => simp [bindTs] at hb)⟩
theorem vgs_cons {e : Expr} {es : List Expr} {t : Tg} {ts : List Tg} (h1 : VG Y e t) (h2 : VGs Y es ts) (hs : (assignEach (e :: es) Y.X.env).map (·.2) = assign e Y.X.env :: (assignEach es Y.X.env).map (·.2) := by rfl) : VGs Y (e :: es) (t :: ts) :=
  ⟨fun pins s σ H vs us Q I rv ⟨g, ρ, S, ds, ρ', r, rp, hb, k⟩ => (pgs_cons h1 h2 hs).run pins s σ H vs us Q I rv (by
    cases ds with
    | nil => simp [bindTs] at hb
    | cons d ds =>
      simp only [bindTs] at hb
      cases e1 : bindT t d ρ with
      | none => rw [e1] at hb; cases hb
      | some ρ1 =>
        rw [e1] at hb
        simp only [Reps] at rp
        obtain ⟨x, rr, e2, p1, p2⟩ := rp
        refine ⟨x, rr, e2, g, ρ, S, d, ρ1, r, p1, e1, fun σ1 r1 st1 a1 => ?_⟩
        exact ⟨g, ρ1, S, ds, ρ', r1, Reps.ext st1.ext p2, hb, fun σ2 r2 st2 a2 => k σ2 r2 (st1.trans st2) ⟨a2.len.trans a1.len, fun j hj => by
          simp only [tgsIx, List.mem_append, not_or] at hj
          rw [a2.at_ j hj.2, a1.at_ j hj.1]⟩⟩)⟩
theorem vg_tp {es : List Expr} {k : Nat} {ts : List Tg} (hc : Y.X.calm = true) (h : VGs Y es ts) (hn : (assignEach es Y.X.env).length = ts.length := by rfl) (hst : (assignEach es Y.X.env).findIdx? (·.1) = none := by rfl) : VG Y (.Tuple es k pos) (.tp ts) :=
  ⟨fun pins s σ H v u Q I rv ⟨g, ρ, S, d, ρ', r, rp, hb, kk⟩ => (pg_tup (pos := pos) (k := k) hc h hn hst).run pins s σ H v u Q I rv (by
    simp only [bindT] at hb
    split at hb
    · rename_i ds
      simp only [Rep] at rp
      obtain ⟨a, vs, e1, rd, nm, q⟩ := rp
      exact ⟨a, vs, e1, SqT.of rd, by rw [← q.length, bindTs_len hb], g, ρ, S, ds, ρ', r, q, hb, fun σ' r' st' a' => kk σ' r' st' a'⟩
    · cases hb)⟩
end

/-! ### statements -/
def wNx : TVS := fun ρ S Q _ => Q .nx ρ S
def wBk : TVS := fun ρ S Q _ => Q .bk ρ S
def wCt : TVS := fun ρ S Q _ => Q .ct ρ S
def wNever : TVS := fun _ _ _ _ => False
def wSeq (w1 w2 : TVS) : TVS := fun ρ S Q E => w1 ρ S (fun o ρ1 S1 => match o with
  | .nx => w2 ρ1 S1 Q E
  | .bk => Q .bk ρ1 S1
  | .ct => Q .ct ρ1 S1
  | .rt d => Q (.rt d) ρ1 S1) E
def wDrop (w : TV) : TVS := fun ρ S Q E => w ρ S (fun _ ρ1 S1 => Q .nx ρ1 S1) E
def wRet (w : TV) : TVS := fun ρ S Q E => w ρ S (fun d ρ1 S1 => Q (.rt d) ρ1 S1) E
def wRetN : TVS := fun ρ S Q _ => Q (.rt .non) ρ S
def wIfS (c : TVT) (a b : TVS) : TVS := fun ρ S Q E => c ρ S (fun t ρ1 S1 => if t = true then a ρ1 S1 Q E else b ρ1 S1 Q E) E
def wAsg (w : TV) (tg : Tg) : TVS := fun ρ S Q E => w ρ S (fun d ρ1 S1 => ∃ ρ2, bindT tg d ρ1 = some ρ2 ∧ Q .nx ρ2 S1) E
def wSetO (i : Nat) (w : TV) : TVS := fun ρ S Q E => w ρ S (fun d ρ1 S1 => i < ρ1.length ∧ Q .nx (ρ1.set i (.o d)) S1) E
section
variable {Y : VC} {st : Stmt} {rest : List Stmt} {w w1 w2 : TVS} {e : Expr} {we : TV} {pos : Pos}
theorem vss_nil : VSs Y [] wNx := PSs.imp pss_nil fun D σ H ⟨g, ρ, S, Qv, Ev, r, hw, ec, sc⟩ => sc.nx σ H g ρ S r .refl hw
theorem vss_cons (h1 : VS Y st w1) (h2 : VSs Y rest w2) : VSs Y (st :: rest) (wSeq w1 w2) :=
  PSs.imp (pss_cons h1 h2) fun D σ H ⟨g, ρ, S, Qv, Ev, r, hw, ec, sc⟩ =>
    ⟨g, ρ, S, _, Ev, r, hw, ec, fun σ' H' g' ρ' S' r' st q => ⟨g', ρ', S', Qv, Ev, r', q, ec.step st,
        fun σ2 H2 g2 ρ2 S2 r2 st2 q2 => sc.nx σ2 H2 g2 ρ2 S2 r2 (st.trans st2) q2, fun σ2 H2 g2 ρ2 S2 r2 st2 q2 => sc.bk σ2 H2 g2 ρ2 S2 r2 (st.trans st2) q2,
        fun σ2 H2 g2 ρ2 S2 r2 st2 q2 => sc.ct σ2 H2 g2 ρ2 S2 r2 (st.trans st2) q2, fun v σ2 H2 g2 ρ2 S2 d r2 st2 rp q2 => sc.rt v σ2 H2 g2 ρ2 S2 d r2 (st.trans st2) rp q2⟩,
      fun σ' H' g' ρ' S' r' st q => sc.bk σ' H' g' ρ' S' r' st q, fun σ' H' g' ρ' S' r' st q => sc.ct σ' H' g' ρ' S' r' st q, fun v σ' H' g' ρ' S' d r' st rp q => sc.rt v σ' H' g' ρ' S' d r' st rp q⟩
theorem vss_one (h : VS Y st w) : VSs Y [st] w := pss_one h
theorem vs_pass : VS Y (.Pass pos) wNx := PS.imp ps_pass fun D σ H ⟨g, ρ, S, Qv, Ev, r, hw, ec, sc⟩ => sc.nx σ H g ρ S r .refl hw
theorem vs_break : VS Y (.Break pos) wBk := PS.imp ps_break fun D σ H ⟨g, ρ, S, Qv, Ev, r, hw, ec, sc⟩ => sc.bk σ H g ρ S r .refl hw
theorem vs_continue : VS Y (.Continue pos) wCt := PS.imp ps_continue fun D σ H ⟨g, ρ, S, Qv, Ev, r, hw, ec, sc⟩ => sc.ct σ H g ρ S r .refl hw
theorem vs_never : VS Y st wNever := PS.imp ps_never fun D σ H ⟨g, ρ, S, Qv, Ev, r, hw, ec, sc⟩ => hw
theorem vss_never {sts : List Stmt} : VSs Y sts wNever := PSs.imp pss_never fun D σ H ⟨g, ρ, S, Qv, Ev, r, hw, ec, sc⟩ => hw
theorem vs_expr (he : VE Y e we) (hs : swapsWith e none pos.line Y.X.env = pure false := by rfl) : VS Y (.Expr e pos) (wDrop we) :=
  PS.imp (ps_expr he hs) fun D σ H ⟨g, ρ, S, Qv, Ev, r, hw, ec, sc⟩ => ⟨g, ρ, S, _, Ev, r, hw, ec, fun v H' g' ρ' S' d r' st rp q => sc.nx σ H' g' ρ' S' r' st q⟩
theorem vs_ret (he : VE Y e we) : VS Y (.Return (some e) pos) (wRet we) :=
  PS.imp (ps_ret he) fun D σ H ⟨g, ρ, S, Qv, Ev, r, hw, ec, sc⟩ => ⟨g, ρ, S, _, Ev, r, hw, ec, fun v H' g' ρ' S' d r' st rp q => sc.rt v σ H' g' ρ' S' d r' st rp q⟩
theorem vs_retN : VS Y (.Return none pos) wRetN :=
  PS.imp ps_retN fun D σ H ⟨g, ρ, S, Qv, Ev, r, hw, ec, sc⟩ => sc.rt .non σ H g ρ S .non r .refl (by simp only [Rep]) hw
theorem vs_if {c : Expr} {a b : List Stmt} {wc : TVT} (hc : VT Y c wc) (ha : VSs Y a w1) (hb : VSs Y b w2) : VS Y (.If c a b pos) (wIfS wc w1 w2) :=
  PS.imp (ps_if hc ha hb) fun D σ H ⟨g, ρ, S, Qv, Ev, r, hw, ec, sc⟩ => ⟨g, ρ, S, _, Ev, r, hw, ec, fun t H' g' ρ' S' r' st q => by
    have sc' : SC Y g' σ ρ' H' Qv D := ⟨fun σ2 H2 g2 ρ2 S2 r2 st2 q2 => sc.nx σ2 H2 g2 ρ2 S2 r2 (st.trans st2) q2, fun σ2 H2 g2 ρ2 S2 r2 st2 q2 => sc.bk σ2 H2 g2 ρ2 S2 r2 (st.trans st2) q2,
        fun σ2 H2 g2 ρ2 S2 r2 st2 q2 => sc.ct σ2 H2 g2 ρ2 S2 r2 (st.trans st2) q2, fun v σ2 H2 g2 ρ2 S2 d r2 st2 rp q2 => sc.rt v σ2 H2 g2 ρ2 S2 d r2 (st.trans st2) rp q2⟩
    cases t with
    | true => exact ⟨g', ρ', S', Qv, Ev, r', q, ec.step st, sc'⟩
    | false => exact ⟨g', ρ', S', Qv, Ev, r', q, ec.step st, sc'⟩⟩
theorem vs_asg {tg : Expr} {t : Tg} (he : VE Y e we) (hg : VG Y tg t) (hs : swapsWithSole [tg] e pos.line Y.X.env = pure false := by rfl) (hw : swappedStores [tg] e Y.X.env = pure none := by rfl)
    (h1 : (assignEach [tg] Y.X.env).map (·.2) = [assign tg Y.X.env] := by rfl) : VS Y (.Assign [tg] e pos) (wAsg we t) :=
  PS.imp (ps_asg he hg hs hw h1) fun D σ H ⟨g, ρ, S, Qv, Ev, r, hw, ec, sc⟩ => ⟨g, ρ, S, _, Ev, r, hw, ec, fun v H' g' ρ' S' d r' st rp ⟨ρ2, hb, q⟩ =>
    ⟨g', ρ', S', d, ρ2, r', rp, hb, fun σ2 r2 st2 _ => sc.nx σ2 H' g' ρ2 S' r2 (st.trans st2) q⟩⟩
theorem vs_set {i : Nat} {x : Str} {pos' : Pos} (hN : Y.X.N.Nodup) (hi : Y.X.N[i]? = some x) (hx : Loc Y.X.env.scope x) (he : VE Y e we) (hs : swapsWith e (some (.Name x pos')) pos.line Y.X.env = pure false := by rfl) (hf : Y.X.fn x = true ∨ Y.X.env.scope.names.lookup x = some .local := by first | exact .inl rfl | exact .inr rfl | assumption) :
    VS Y (.Assign [.Name x pos'] e pos) (wAsg we (.nm i)) :=
  PS.imp (ps_set hN hi hx he hs hf) fun D σ H ⟨g, ρ, S, Qv, Ev, r, hw, ec, sc⟩ => ⟨g, ρ, S, _, Ev, r, hw, ec, fun v H' g' ρ' S' d r' st rp ⟨ρ2, hb, q⟩ => by
    simp only [bindT] at hb
    split at hb
    · rename_i hl
      cases hb
      obtain ⟨r2, e2⟩ := r'.setv (by rw [← r'.len]; exact hl) rp
      exact sc.nx _ H' g' _ S' r2 (st.trans ⟨rfl, e2⟩) q
    · cases hb⟩
/-- a new thing is put into a slot that holds it alone -/
theorem vs_seto {i : Nat} {x : Str} {pos' : Pos} (hN : Y.X.N.Nodup) (hi : Y.X.N[i]? = some x) (hx : Loc Y.X.env.scope x) (he : VF Y e we) (hs : swapsWith e (some (.Name x pos')) pos.line Y.X.env = pure false := by rfl) (h0 : 0 < i := by decide) (hf : Y.X.fn x = true ∨ Y.X.env.scope.names.lookup x = some .local := by first | exact .inl rfl | exact .inr rfl | assumption) :
    VS Y (.Assign [.Name x pos'] e pos) (wSetO i we) :=
  PS.imp (ps_set hN hi hx he hs hf) fun D σ H ⟨g, ρ, S, Qv, Ev, r, hw, ec, sc⟩ => ⟨g, ρ, S, _, Ev, r, hw, ec, fun a H' sm ρ' S' d r' ex ow ⟨hl, q⟩ => by
    obtain ⟨r2, e2⟩ := r'.seto (i := i) (by rw [← r'.len]; exact hl) h0 ow
    exact sc.nx _ H' ⟨sm, g.tm⟩ _ S' r2 ⟨rfl, ex.trans e2⟩ q⟩
end

/-! ### tests' rules -/
def wAnd (a b : TVT) : TVT := fun ρ S Q E => a ρ S (fun t ρ1 S1 => if t = true then b ρ1 S1 Q E else Q false ρ1 S1) E
def wOr (a b : TVT) : TVT := fun ρ S Q E => a ρ S (fun t ρ1 S1 => if t = true then Q true ρ1 S1 else b ρ1 S1 Q E) E
def wNot (a : TVT) : TVT := fun ρ S Q E => a ρ S (fun t ρ1 S1 => Q (!t) ρ1 S1) E
section
variable {Y : VC} {a b e : Expr} {wa wb : TVT} {rest : List Expr} {pos : Pos}
abbrev VW (Y : VC) (e : Expr) (w : TVT) : Prop := PW Y.X e (LT Y w)
theorem vt_w (h : VW Y e wa) : VT Y e wa := PW.pt h
theorem vw_and1 (ha : VT Y a wa) : VW Y (.BoolOp .And [a] pos) wa := pw_and1 ha
theorem vw_or1 (ha : VT Y a wa) : VW Y (.BoolOp .Or [a] pos) wa := pw_or1 ha
theorem vw_and (ha : VT Y a wa) (hb : VW Y (.BoolOp .And (b :: rest) pos) wb) : VW Y (.BoolOp .And (a :: b :: rest) pos) (wAnd wa wb) :=
  PW.imp (pw_and ha hb) fun σ H Q ⟨g, ρ, S, Qv, Ev, r, hw, ec, hq⟩ => ⟨g, ρ, S, _, Ev, r, hw, ec, fun t H' g' ρ' S' r' st q => by
    cases t with
    | true => exact ⟨g', ρ', S', Qv, Ev, r', q, ec.step st, fun t H2 g2 ρ2 S2 r2 st2 q2 => hq t H2 g2 ρ2 S2 r2 (st.trans st2) q2⟩
    | false => exact hq false H' g' ρ' S' r' st q⟩
theorem vw_or (ha : VT Y a wa) (hb : VW Y (.BoolOp .Or (b :: rest) pos) wb) : VW Y (.BoolOp .Or (a :: b :: rest) pos) (wOr wa wb) :=
  PW.imp (pw_or ha hb) fun σ H Q ⟨g, ρ, S, Qv, Ev, r, hw, ec, hq⟩ => ⟨g, ρ, S, _, Ev, r, hw, ec, fun t H' g' ρ' S' r' st q => by
    cases t with
    | true => exact hq true H' g' ρ' S' r' st q
    | false => exact ⟨g', ρ', S', Qv, Ev, r', q, ec.step st, fun t H2 g2 ρ2 S2 r2 st2 q2 => hq t H2 g2 ρ2 S2 r2 (st.trans st2) q2⟩⟩
theorem vt_not (ha : VT Y a wa) : VT Y (.UnaryOp .Not a pos) (wNot wa) :=
  PT.imp (pt_not ha) fun σ H Q ⟨g, ρ, S, Qv, Ev, r, hw, ec, hq⟩ => ⟨g, ρ, S, _, Ev, r, hw, ec, fun t H' g' ρ' S' r' st q => hq (!t) H' g' ρ' S' r' st q⟩
/-- a comparison as a test -/
theorem vt_cmp {op : CmpOp} {f : D → D → Sto → (D → Prop) → Prop} {wa wb : TVO} (ho : OpV Y (compareOp op) f) (ha : VO Y a wa) (hb : VO Y b wb) (hm : behindInMarks op b = false) : VT Y (.Compare a [op] [b] pos) (wTB (wBin f wa wb)) := by
  refine ⟨fun pins s σ H Q I ⟨g, ρ, S, Qv, Ev, r, hw, ec, hq⟩ => ?_⟩
  refine wpAny_isTrue_Compare1 (run2 (Qv := fun x y ρ2 S2 => f x y S2 fun d => ∃ b, d = .bl b ∧ Qv b ρ2 S2) ha hb I r hw ec fun v u s2 x y H2 g2 ρ2 S2 dx dy I2 rx ry r2 st p1 p2 q => ?_) hm
  refine thn (ho pins s2 σ H2 g2 ρ2 S2 x y v u dx dy _ (fun z H3 => ∃ b, z = V.bl b ∧ Q b H3) I2 rx ry r2 p1 p2 q fun z d H3 k rp ⟨b, e, qd⟩ => ?_) fun c s3 ⟨z, H3, I3, r3, b, e, qb⟩ => ?_
  · subst e
    simp only [Rep] at rp
    exact ⟨b, rp, hq b H3 g2 ρ2 S2 (r2.grow k) (st.trans (.grow k)) qd⟩
  · subst e
    cases r3
    exact wpAny_truthy_bool ⟨H3, I3, qb⟩
/-- an expression by its truth -/
theorem vt_tru {w : TVO} (h : VO Y e w) (he : ∀ whole, isTrue e Y.X.env whole = (do let v ← whole; standAt e.pos; holding [v] (truthy v)) := by intro _; rfl) : VT Y e (wTru w) :=
  PT.imp (pt_truth h he) fun σ H Q ⟨g, ρ, S, Qv, Ev, r, hw, ec, hq⟩ => ⟨g, ρ, S, _, Ev, r, hw, ec, fun v H' g' ρ' S' hd r' st hr q => by
    obtain ⟨d, b1, q1⟩ := r'.rsv hr q
    obtain ⟨b, tv, q2⟩ := truV_of (Y := Y) (r'.dr b1) q1
    exact ⟨b, tv, hq b H' g' ρ' S' r' st q2⟩⟩
/-- an expression that gives True or False -/
theorem vt_val {w : TV} (h : VE Y e w) (he : ∀ whole, isTrue e Y.X.env whole = (do let v ← whole; standAt e.pos; holding [v] (truthy v)) := by intro _; rfl) : VT Y e (wTB w) :=
  PT.imp (pt_val h he) fun σ H Q ⟨g, ρ, S, Qv, Ev, r, hw, ec, hq⟩ => ⟨g, ρ, S, _, Ev, r, hw, ec, fun v H' g' ρ' S' d r' st rp ⟨b, e, q⟩ => by
    subst e
    simp only [Rep] at rp
    exact ⟨b, rp, hq b H' g' ρ' S' r' st q⟩⟩
/-- a test as a value -/
def wIfE (c : TVT) (a b : TV) : TV := fun ρ S Q E => c ρ S (fun t ρ1 S1 => if t = true then a ρ1 S1 Q E else b ρ1 S1 Q E) E
theorem ve_if {c : Expr} {wc : TVT} {wa wb : TV} (hc : VT Y c wc) (ha : VE Y a wa) (hb : VE Y b wb) : VE Y (.IfExp c a b pos) (wIfE wc wa wb) :=
  PE.imp (pe_ifExp hc ha hb) fun σ H Q ⟨g, ρ, S, Qv, Ev, r, hw, ec, hq⟩ => ⟨g, ρ, S, _, Ev, r, hw, ec, fun t H' g' ρ' S' r' st q => by
    cases t with
    | true => exact ⟨g', ρ', S', Qv, Ev, r', q, ec.step st, fun v H2 g2 ρ2 S2 d r2 st2 rp q2 => hq v H2 g2 ρ2 S2 d r2 (st.trans st2) rp q2⟩
    | false => exact ⟨g', ρ', S', Qv, Ev, r', q, ec.step st, fun v H2 g2 ρ2 S2 d r2 st2 rp q2 => hq v H2 g2 ρ2 S2 d r2 (st.trans st2) rp q2⟩⟩
/-- and, or, not of bools as values -/
def wAndE (a b : TV) : TV := fun ρ S Q E => a ρ S (fun d ρ1 S1 => ∃ t, d = .bl t ∧ if t = true then b ρ1 S1 Q E else Q (.bl false) ρ1 S1) E
def wOrE (a b : TV) : TV := fun ρ S Q E => a ρ S (fun d ρ1 S1 => ∃ t, d = .bl t ∧ if t = true then Q (.bl true) ρ1 S1 else b ρ1 S1 Q E) E
theorem ve_one {op : BoolOp} {w : TV} (h : VE Y a w) : VE Y (.BoolOp op [a] pos) w := pe_one h
theorem ve_and {wa wb : TV} (ha : VE Y a wa) (hb : VE Y (.BoolOp .And (b :: rest) pos) wb) : VE Y (.BoolOp .And (a :: b :: rest) pos) (wAndE wa wb) :=
  PE.imp (pe_and ha hb) fun σ H Q ⟨g, ρ, S, Qv, Ev, r, hw, ec, hq⟩ => ⟨g, ρ, S, _, Ev, r, hw, ec, fun v H' g' ρ' S' d r' st rp ⟨t, e, q⟩ => by
    subst e
    simp only [Rep] at rp
    refine ⟨t, rp, ?_⟩
    cases t with
    | true => exact ⟨g', ρ', S', Qv, Ev, r', q, ec.step st, fun v H2 g2 ρ2 S2 d r2 st2 rp q2 => hq v H2 g2 ρ2 S2 d r2 (st.trans st2) rp q2⟩
    | false => exact hq _ H' g' ρ' S' (.bl false) r' st (by simp only [Rep]) q⟩
theorem ve_or {wa wb : TV} (ha : VE Y a wa) (hb : VE Y (.BoolOp .Or (b :: rest) pos) wb) : VE Y (.BoolOp .Or (a :: b :: rest) pos) (wOrE wa wb) :=
  PE.imp (pe_or ha hb) fun σ H Q ⟨g, ρ, S, Qv, Ev, r, hw, ec, hq⟩ => ⟨g, ρ, S, _, Ev, r, hw, ec, fun v H' g' ρ' S' d r' st rp ⟨t, e, q⟩ => by
    subst e
    simp only [Rep] at rp
    refine ⟨t, rp, ?_⟩
    cases t with
    | true => exact hq _ H' g' ρ' S' (.bl true) r' st (by simp only [Rep]) q
    | false => exact ⟨g', ρ', S', Qv, Ev, r', q, ec.step st, fun v H2 g2 ρ2 S2 d r2 st2 rp q2 => hq v H2 g2 ρ2 S2 d r2 (st.trans st2) rp q2⟩⟩
/-- not, as a value: UnaryOp_ over the test -/
def wNotE (a : TVT) : TV := fun ρ S Q E => a ρ S (fun t ρ1 S1 => Q (.bl (!t)) ρ1 S1) E
end

/-! ### while -/
def whGo (c : TVT) (b : TVS) : Nat → TVS
  | 0 => fun _ _ _ _ => False
  | n + 1 => fun ρ S Q E => c ρ S (fun t ρ1 S1 => if t = true then b ρ1 S1 (fun o ρ2 S2 => match o with
      | .nx => whGo c b n ρ2 S2 Q E
      | .ct => whGo c b n ρ2 S2 Q E
      | .bk => Q .nx ρ2 S2
      | .rt d => Q (.rt d) ρ2 S2) E else Q .nx ρ1 S1) E
def wWhile (c : TVT) (b : TVS) : TVS := fun ρ S Q E => ∃ n, whGo c b n ρ S Q E
section
variable {Y : VC} {pos : Pos}
theorem vs_while {c : Expr} {body : List Stmt} {wc : TVT} {wb : TVS} (hp : PassesOwn (model Y.X.prog Y.X.w) Y.X.A Y.X.env Y.X.xe) (hc : VT Y c wc) (hb : VSs Y body wb) : VS Y (.While c body [] pos) (wWhile wc wb) :=
  PS.imp (ps_while hp hc hb) fun D σ H ⟨g, ρ, S, Qv, Ev, r, hw, ec, sc⟩ => by
    obtain ⟨n, hw⟩ := hw
    refine ⟨fun m σ1 H1 => ∃ g1 ρ1 S1, R Y.c Y.F g1 σ1 H1 ρ1 S1 ∧ Stp Y.F g σ ρ H g1 σ1 ρ1 H1 ∧ whGo wc wb m ρ1 S1 Qv Ev, ⟨n, g, ρ, S, r, .refl, hw⟩, ?_⟩
    rintro m σ1 H1 ⟨g1, ρ1, S1, r1, st1, q1⟩
    cases m with
    | zero => exact q1.elim
    | succ m =>
      refine ⟨g1, ρ1, S1, _, Ev, r1, q1, ec.step st1, fun t H2 g2 ρ2 S2 r2 st2 q2 => ?_⟩
      cases t with
      | false => exact sc.nx σ1 H2 g2 ρ2 S2 r2 (st1.trans st2) q2
      | true =>
        refine ⟨fun σ3 H3 => ∃ g3 ρ3 S3, R Y.c Y.F g3 σ3 H3 ρ3 S3 ∧ Stp Y.F g σ ρ H g3 σ3 ρ3 H3 ∧ whGo wc wb m ρ3 S3 Qv Ev, fun σ3 H3 q3 => ⟨m, Nat.lt_succ_self m, q3⟩, ?_⟩
        refine ⟨g2, ρ2, S2, _, Ev, r2, q2, ec.step (st1.trans st2), ⟨fun σ3 H3 g3 ρ3 S3 r3 st3 q3 => ⟨g3, ρ3, S3, r3, (st1.trans st2).trans st3, q3⟩, fun σ3 H3 g3 ρ3 S3 r3 st3 q3 => sc.nx σ3 H3 g3 ρ3 S3 r3 ((st1.trans st2).trans st3) q3,
          fun σ3 H3 g3 ρ3 S3 r3 st3 q3 => ⟨g3, ρ3, S3, r3, (st1.trans st2).trans st3, q3⟩, fun v σ3 H3 g3 ρ3 S3 d r3 st3 rp q3 => sc.rt v σ3 H3 g3 ρ3 S3 d r3 ((st1.trans st2).trans st3) rp q3⟩⟩
end

/-! ### for -/
/-- the things walked, and what must stay true of the store meanwhile -/
abbrev TVI := En → Sto → (List D → (Sto → Prop) → En → Sto → Prop) → QE → Prop
/-- J walks ds -/
def IterOk (Y : VC) (J : It) (ds : List D) (Gd : Sto → Prop) (g : Gs) (σ : St) (ρ : En) (H : Hp) : Prop :=
  ∀ (σ' : St) (H' : Hp) (g' : Gs) (ρ' : En) (S' : Sto), R Y.c Y.F g' σ' H' ρ' S' → Ext g.sm (MU Y.F g σ ρ) H g'.sm (MU Y.F g' σ' ρ') H' → Gd S' → ∀ i,
    (i < ds.length → J.go i H' ∧ ∀ x H3, J.yld i H' x H3 → (∀ b o, H' b = some o → H3 b = some o) ∧ ∃ d, ds[i]? = some d ∧ Rep Y.c g'.sm (MU Y.F g' σ' ρ') H3 d x) ∧ (i = ds.length → J.stop i H')
section
variable (Y : VC)
def LI (w : TVI) : TI := fun σ H K => ∃ (g : Gs) (ρ : En) (S : Sto) (Qv : List D → (Sto → Prop) → En → Sto → Prop) (Ev : QE), R Y.c Y.F g σ H ρ S ∧ w ρ S Qv Ev ∧ EC Y g σ ρ H Ev ∧
  ∀ (J : It) (H' : Hp) (g' : Gs) (ρ' : En) (S' : Sto) (ds : List D) (Gd : Sto → Prop), R Y.c Y.F g' σ H' ρ' S' → Stp Y.F g σ ρ H g' σ ρ' H' → IterOk Y J ds Gd g' σ ρ' H' → Qv ds Gd ρ' S' → K J H'
abbrev VI (tg e : Expr) (w : TVI) : Prop := PI Y.X tg e (LI Y w)
end
def forGo (Gd : Sto → Prop) (tg : Tg) (wb : TVS) : List D → TVS
  | [] => fun ρ S Q _ => Gd S ∧ Q .nx ρ S
  | d :: ds => fun ρ S Q E => Gd S ∧ ∃ ρ1, bindT tg d ρ = some ρ1 ∧ wb ρ1 S (fun o ρ2 S2 => match o with
      | .nx => forGo Gd tg wb ds ρ2 S2 Q E
      | .ct => forGo Gd tg wb ds ρ2 S2 Q E
      | .bk => Q .nx ρ2 S2
      | .rt d => Q (.rt d) ρ2 S2) E
def wFor (wi : TVI) (tg : Tg) (wb : TVS) : TVS := fun ρ S Q E => wi ρ S (fun ds Gd ρ1 S1 => forGo Gd tg wb ds ρ1 S1 Q E) E
theorem forGo_gd {Gd : Sto → Prop} {tg : Tg} {wb : TVS} {ds : List D} {ρ : En} {S : Sto} {Q : Out → En → Sto → Prop} {E : QE} (h : forGo Gd tg wb ds ρ S Q E) : Gd S := by
  cases ds <;> exact h.1
section
variable {Y : VC} {pos : Pos}
theorem vs_for {tg iter : Expr} {body : List Stmt} {wi : TVI} {t : Tg} {wb : TVS} (hp : PassesOwn (model Y.X.prog Y.X.w) Y.X.A Y.X.env Y.X.xe) (hc : Y.X.calm = true) (hi : VI Y tg iter wi) (hg : VG Y tg t) (hb : VSs Y body wb)
    (hs : ∀ x, foldedSetIterable iter Y.X.env x = pure x := by intro _; rfl) : VS Y (.For tg iter body [] pos) (wFor wi t wb) :=
  PS.imp (ps_for hp hc hi hg hb hs) fun D σ H ⟨g, ρ, S, Qv, Ev, r, hw, ec, sc⟩ => by
    refine ⟨g, ρ, S, _, Ev, r, hw, ec, fun J H1 g1 ρ1 S1 ds Gd r1 st1 ok q => ?_⟩
    refine ⟨fun i m σ2 H2 => m + i = ds.length ∧ ∃ g2 ρ2 S2, R Y.c Y.F g2 σ2 H2 ρ2 S2 ∧ Stp Y.F g1 σ ρ1 H1 g2 σ2 ρ2 H2 ∧ forGo Gd t wb (ds.drop i) ρ2 S2 Qv Ev, ⟨ds.length, rfl, g1, ρ1, S1, r1, .refl, by simpa using q⟩, ?_⟩
    rintro i m σ2 H2 ⟨hm, g2, ρ2, S2, r2, st2, q2⟩
    have k := ok σ2 H2 g2 ρ2 S2 r2 st2.ext (forGo_gd q2) i
    by_cases hi : i < ds.length
    · obtain ⟨go, yl⟩ := k.1 hi
      refine .inr ⟨go, fun σ3 H3 => ∃ g3 ρ3 S3, R Y.c Y.F g3 σ3 H3 ρ3 S3 ∧ Stp Y.F g1 σ ρ1 H1 g3 σ3 ρ3 H3 ∧ forGo Gd t wb (ds.drop (i + 1)) ρ3 S3 Qv Ev, fun σ3 H3 q3 => ⟨m - 1, by omega, by omega, q3⟩, fun x H3 y3 => ?_⟩
      obtain ⟨gr, d, hd, rp⟩ := yl x H3 y3
      have e1 : ds.drop i = d :: ds.drop (i + 1) := by
        rw [List.drop_eq_getElem_cons hi]
        have : ds[i] = d := by
          rw [List.getElem?_eq_getElem hi] at hd
          exact Option.some.inj hd
        rw [this]
      rw [e1] at q2
      obtain ⟨_, ρ3, hb3, q3⟩ := q2
      refine ⟨g2, ρ2, S2, d, ρ3, r2.grow gr, rp, hb3, fun σ4 r4 st4 _ => ?_⟩
      have s4 := (st1.trans st2).trans ((Stp.grow gr).trans st4)
      have s4' := st2.trans ((Stp.grow gr).trans st4)
      exact ⟨g2, ρ3, S2, _, Ev, r4, q3, ec.step s4, ⟨fun σ5 H5 g5 ρ5 S5 r5 st5 q5 => ⟨g5, ρ5, S5, r5, s4'.trans st5, q5⟩, fun σ5 H5 g5 ρ5 S5 r5 st5 q5 => sc.nx σ5 H5 g5 ρ5 S5 r5 (s4.trans st5) q5,
        fun σ5 H5 g5 ρ5 S5 r5 st5 q5 => ⟨g5, ρ5, S5, r5, s4'.trans st5, q5⟩, fun v σ5 H5 g5 ρ5 S5 d r5 st5 rp5 q5 => sc.rt v σ5 H5 g5 ρ5 S5 d r5 (s4.trans st5) rp5 q5⟩⟩
    · have hi' : i = ds.length := by omega
      subst hi'
      refine .inl ⟨k.2 rfl, ?_⟩
      rw [List.drop_length] at q2
      exact sc.nx σ2 H2 g2 ρ2 S2 r2 (st1.trans st2) q2.2
end
end VL

set_option Elab.async false
set_option linter.all false
set_option autoImplicit false
set_option maxRecDepth 100000
/-! VLOps: operators on plain data. -/
namespace VL
open PySem PySem.Spec PyProof.Rows L2

/-! ### what stands for what -/
section
variable {c : Cf} {sm : List Addr} {M : Addr → Prop} {H : Hp} {v : V}
theorem Brw.int {i : Int} (h : Brw c sm M H (.int i) v) : v = .int i := by
  rcases h with h | ⟨a, _, h⟩
  · simpa only [Rep] using h
  · simp only [Own] at h
theorem Brw.str {i : Str} (h : Brw c sm M H (.str i) v) : v = .str i := by
  rcases h with h | ⟨a, _, h⟩
  · simpa only [Rep] using h
  · simp only [Own] at h
theorem Brw.bl {i : Bool} (h : Brw c sm M H (.bl i) v) : v = .bl i := by
  rcases h with h | ⟨a, _, h⟩
  · simpa only [Rep] using h
  · simp only [Own] at h
theorem Brw.non (h : Brw c sm M H .non v) : v = .non := by
  rcases h with h | ⟨a, _, h⟩
  · simpa only [Rep] using h
  · simp only [Own] at h
theorem Brw.tup {l : List D} (h : Brw c sm M H (.tup l) v) : ∃ a vs, v = .ref a ∧ H a = some (.tup vs) ∧ ¬ M a ∧ Reps c sm M H l vs := by
  rcases h with h | ⟨a, _, h⟩
  · simpa only [Rep] using h
  · simp only [Own] at h
theorem Brw.lst {l : List D} (h : Brw c sm M H (.lst l) v) : ∃ a vs, v = .ref a ∧ H a = some (.lst vs) ∧ Reps c sm M H l vs := by
  rcases h with h | ⟨a, e, h⟩
  · simp only [Rep] at h
    obtain ⟨a, vs, e, h1, _, q⟩ := h
    exact ⟨a, vs, e, h1, q⟩
  · simp only [Own] at h
    obtain ⟨vs, h1, q⟩ := h
    exact ⟨a, vs, e, h1, q⟩
theorem Brw.dic {l : List (Key × D)} (h : Brw c sm M H (.dic l) v) : ∃ a vs, v = .ref a ∧ Rd H a (.dK vs) ∧ RepK c sm M H l vs := by
  rcases h with h | ⟨a, e, h⟩
  · simp only [Rep] at h
    obtain ⟨a, vs, e, h1, _, q⟩ := h
    exact ⟨a, vs, e, h1, q⟩
  · simp only [Own] at h
    obtain ⟨vs, h1, q⟩ := h
    exact ⟨a, vs, e, .inl h1, q⟩
theorem Brw.obj {cl : String} {fs : List (String × D)} (h : Brw c sm M H (.obj cl fs) v) : ∃ a dx vs, v = .ref a ∧ H a = some (.ins (c.ca cl) dx vs) ∧ GoodI c cl fs ∧ RepF c sm M H fs vs := by
  rcases h with h | ⟨a, e, h⟩
  · simp only [Rep] at h
    obtain ⟨a, dx, vs, e, h1, _, g, q⟩ := h
    exact ⟨a, dx, vs, e, h1, g, q⟩
  · simp only [Own] at h
    obtain ⟨dx, vs, h1, g, q⟩ := h
    exact ⟨a, dx, vs, e, h1, g, q⟩
end
section
variable {c : Cf} {F : Fr} {g : Gs} {σ : St} {H : Hp} {ρ : En} {S : Sto} {p : Addr}
theorem R.newlst (r : R c F g σ H ρ S) (hp : H p = none) {ds : List D} {vs : List V} (q : Reps c g.sm (MU F g σ ρ) H ds vs) : Rep c g.sm (MU F g σ ρ) (upd H p (.lst vs)) (.lst ds) (.ref p) := by
  simp only [Rep]
  exact ⟨p, vs, rfl, upd_same, r.fresh hp, Reps.ext (Ext.grow (grow_upd hp)) q⟩
theorem R.newtup (r : R c F g σ H ρ S) (hp : H p = none) {ds : List D} {vs : List V} (q : Reps c g.sm (MU F g σ ρ) H ds vs) : Rep c g.sm (MU F g σ ρ) (upd H p (.tup vs)) (.tup ds) (.ref p) := by
  simp only [Rep]
  exact ⟨p, vs, rfl, upd_same, r.fresh hp, Reps.ext (Ext.grow (grow_upd hp)) q⟩
end

/-! ### data without objects -/
mutual
def toP : D → PyData
  | .bl b => .bool b
  | .int i => .int i
  | .str x => .str x
  | .tup l => .tuple (toPs l)
  | .lst l => .list (toPs l)
  | _ => .none
def toPs : List D → List PyData
  | [] => []
  | d :: ds => toP d :: toPs ds
end
mutual
def plain : D → Bool
  | .non => true
  | .bl _ => true
  | .int _ => true
  | .str x => PyData.strOk x
  | .tup l => plains l
  | .lst l => plains l
  | _ => false
def plains : List D → Bool
  | [] => true
  | d :: ds => plain d && plains ds
end
mutual
def dep : D → Nat
  | .tup l => deps l + 1
  | .lst l => deps l + 1
  | _ => 0
def deps : List D → Nat
  | [] => 0
  | d :: ds => max (dep d) (deps ds)
end
mutual
theorem canLay_toP : ∀ {d : D}, plain d = true → (toP d).canLay0 = true
  | .non, _ => rfl
  | .bl _, _ => rfl
  | .int _, _ => rfl
  | .str x, h => by simpa [plain, toP, PyData.canLay0] using h
  | .tup l, h => by
    simp only [toP, PyData.canLay0]
    exact canLay_toPs (by simpa [plain] using h)
  | .lst l, h => by
    simp only [toP, PyData.canLay0]
    exact canLay_toPs (by simpa [plain] using h)
  | .dic _, h => by simp [plain] at h
  | .obj _ _, h => by simp [plain] at h
  | .ref _, h => by simp [plain] at h
  | .scr _, h => by simp [plain] at h
  | .cls _, h => by simp [plain] at h
theorem canLay_toPs : ∀ {ds : List D}, plains ds = true → PyData.canLayAll0 (toPs ds) = true
  | [], _ => by simp [toPs, PyData.canLayAll0]
  | d :: ds, h => by
    simp only [plains, Bool.and_eq_true] at h
    simp only [toPs, PyData.canLayAll0, Bool.and_eq_true]
    exact ⟨canLay_toP h.1, canLay_toPs h.2⟩
end
mutual
theorem depth_toP : ∀ {d : D}, plain d = true → (toP d).depth = dep d
  | .non, _ => by simp [toP, dep, PyData.depth]
  | .bl _, _ => by simp [toP, dep, PyData.depth]
  | .int _, _ => by simp [toP, dep, PyData.depth]
  | .str x, h => by simp [toP, dep, PyData.depth]
  | .tup l, h => by
    simp only [toP, dep, PyData.depth]
    rw [depth_toPs (by simpa [plain] using h)]
  | .lst l, h => by
    simp only [toP, dep, PyData.depth]
    rw [depth_toPs (by simpa [plain] using h)]
  | .dic _, h => by simp [plain] at h
  | .obj _ _, h => by simp [plain] at h
  | .ref _, h => by simp [plain] at h
  | .scr _, h => by simp [plain] at h
  | .cls _, h => by simp [plain] at h
theorem depth_toPs : ∀ {ds : List D}, plains ds = true → PyData.depthAll (toPs ds) = deps ds
  | [], _ => by simp [toPs, deps, PyData.depthAll]
  | d :: ds, h => by
    simp only [plains, Bool.and_eq_true] at h
    simp only [toPs, deps, PyData.depthAll]
    rw [depth_toP h.1, depth_toPs h.2]
end
theorem shaped_toP {d : D} (h : plain d = true) (h2 : dep d ≤ 64) : SeqAt.shaped (toP d) = true := by
  unfold SeqAt.shaped
  rw [canLay_toP h, depth_toP h]
  simp [h2]
section
variable {c : Cf} {sm : List Addr} {M : Addr → Prop} {H : Hp}
mutual
theorem dp_of : ∀ {d : D} {v : V}, Rep c sm M H d v → plain d = true → Dp c.K H v (toP d)
  | .non, v, h, _ => by simp only [Rep] at h; subst h; simp only [toP]; exact .non
  | .bl b, v, h, _ => by simp only [Rep] at h; subst h; simp only [toP]; exact .bl b
  | .int b, v, h, _ => by simp only [Rep] at h; subst h; simp only [toP]; exact .int b
  | .str b, v, h, _ => by simp only [Rep] at h; subst h; simp only [toP]; exact .str b
  | .tup l, v, h, p => by
    simp only [Rep] at h
    obtain ⟨a, vs, e, h1, _, q⟩ := h
    subst e
    simp only [toP]
    exact .tup (SqT.of h1) (dps_of q (by simpa [plain] using p))
  | .lst l, v, h, p => by
    simp only [Rep] at h
    obtain ⟨a, vs, e, h1, _, q⟩ := h
    subst e
    simp only [toP]
    exact .lst (SqL.of h1) (dps_of q (by simpa [plain] using p))
  | .dic _, _, _, h => by simp [plain] at h
  | .obj _ _, _, _, h => by simp [plain] at h
  | .ref _, _, _, h => by simp [plain] at h
  | .scr _, _, _, h => by simp [plain] at h
  | .cls _, _, _, h => by simp [plain] at h
theorem dps_of : ∀ {ds : List D} {vs : List V}, Reps c sm M H ds vs → plains ds = true → DpAll c.K H vs (toPs ds)
  | [], vs, h, _ => by simp only [Reps] at h; subst h; simp only [toPs]; exact .nil
  | d :: ds, vs, h, p => by
    simp only [Reps] at h
    simp only [plains, Bool.and_eq_true] at p
    obtain ⟨x, r, e, h1, h2⟩ := h
    subst e
    simp only [toPs]
    exact .cons (dp_of h1 p.1) (dps_of h2 p.2)
end
theorem Brw.dp {d : D} {v : V} (h : Brw c sm M H d v) (p : plain d = true) : Dp c.K H v (toP d) := by
  rcases h with h | ⟨a, e, h⟩
  · exact dp_of h p
  · cases d with
    | lst l =>
      simp only [Own] at h
      obtain ⟨vs, h1, q⟩ := h
      subst e
      simp only [toP]
      exact .lst (SqL.of h1) (dps_of q (by simpa [plain] using p))
    | dic _ => simp [plain] at p
    | obj _ _ => simp [plain] at p
    | _ => simp only [Own] at h
end

/-! ### arithmetic, texts, lists -/
def vAdd : D → D → Sto → (D → Prop) → Prop := fun x y S P => match dr S x, dr S y with
  | .int i, .int j => P (.int (i + j))
  | .str a, .str b => a.length + b.length ≤ sizeLine ∧ P (.str (a ++ b))
  | .tup a, .tup b => a.length + b.length ≤ sizeLine ∧ P (.tup (a ++ b))
  | .lst a, .lst b => a.length + b.length ≤ sizeLine ∧ P (.lst (a ++ b))
  | _, _ => False
def vSub : D → D → Sto → (D → Prop) → Prop := fun x y _ P => match x, y with
  | .int i, .int j => P (.int (i - j))
  | _, _ => False
def vMul : D → D → Sto → (D → Prop) → Prop := fun x y _ P => match x, y with
  | .int i, .int j => CMul i j ∧ P (.int (i * j))
  | _, _ => False
def vFDiv : D → D → Sto → (D → Prop) → Prop := fun x y _ P => match x, y with
  | .int i, .int j => CDiv i j ∧ P (.int (i / j))
  | _, _ => False
def vMod : D → D → Sto → (D → Prop) → Prop := fun x y _ P => match x, y with
  | .int i, .int j => 0 < j ∧ P (.int (i % j))
  | _, _ => False
def vPow : D → D → Sto → (D → Prop) → Prop := fun x y _ P => match x, y with
  | .int i, .int j => CPow i j ∧ P (.int (i ^ j.toNat))
  | _, _ => False
def vNeg : D → Sto → (D → Prop) → Prop := fun x _ P => match x with
  | .int i => P (.int (-i))
  | _ => False
section
variable {Y : VC}
theorem rep_int {c : Cf} {sm : List Addr} {M : Addr → Prop} {H : Hp} {i : Int} : Rep c sm M H (.int i) (.int i) := by simp only [Rep]
theorem rep_str {c : Cf} {sm : List Addr} {M : Addr → Prop} {H : Hp} {i : Str} : Rep c sm M H (.str i) (.str i) := by simp only [Rep]
theorem rep_bl {c : Cf} {sm : List Addr} {M : Addr → Prop} {H : Hp} {i : Bool} : Rep c sm M H (.bl i) (.bl i) := by simp only [Rep]
theorem rep_non {c : Cf} {sm : List Addr} {M : Addr → Prop} {H : Hp} : Rep c sm M H .non .non := by simp only [Rep]
theorem ov_add : OpV Y (binaryOp .Add) vAdd := by
  intro pins s σ H g ρ S x y v u dx dy P Q I rx ry r bx bY h k
  have bx := r.dr bx
  have bY := r.dr bY
  unfold vAdd at h
  split at h
  · rename_i i j e1 e2
    rw [e1] at bx
    rw [e2] at bY
    exact op_add pins s σ H x y v u Q I rx ry ⟨i, j, bx.int, bY.int, k _ _ H (fun _ _ h => h) rep_int h⟩
  · rename_i i j e1 e2
    rw [e1] at bx
    rw [e2] at bY
    exact op_add_str pins s σ H x y v u Q I rx ry ⟨i, j, bx.str, bY.str, h.1, k _ _ H (fun _ _ h => h) rep_str h.2⟩
  · rename_i i j e1 e2
    rw [e1] at bx
    rw [e2] at bY
    obtain ⟨a, vs, ex, hx, nx, qx⟩ := bx.tup
    obtain ⟨b, ws, ey, hy, ny, qy⟩ := bY.tup
    refine op_catA pins s σ H x y v u Q I rx ry ⟨a, b, vs, ws, ex, ey, SqT.of hx, SqT.of hy, by rw [← qx.length, ← qy.length]; exact h.1, fun e => ?_, fun _ e => ?_, fun _ _ p hp => ?_⟩
    · have e' : i = [] := List.length_eq_zero_iff.mp (by rw [qx.length, e]; rfl)
      subst e'
      refine k _ (.tup j) H (fun _ _ h => h) ?_ (by simpa using h.2)
      simp only [Rep]
      exact ⟨b, ws, rfl, hy, ny, qy⟩
    · have e' : j = [] := List.length_eq_zero_iff.mp (by rw [qy.length, e]; rfl)
      subst e'
      refine k _ (.tup i) H (fun _ _ h => h) ?_ (by simpa using h.2)
      simp only [Rep]
      exact ⟨a, vs, rfl, hx, nx, qx⟩
    · exact k _ _ _ (grow_upd hp) (r.newtup hp (qx.append qy)) h.2
  · rename_i i j e1 e2
    rw [e1] at bx
    rw [e2] at bY
    obtain ⟨a, vs, ex, hx, qx⟩ := bx.lst
    obtain ⟨b, ws, ey, hy, qy⟩ := bY.lst
    exact op_cat pins s σ H x y v u Q I rx ry ⟨a, b, vs, ws, ex, ey, hx, hy, by rw [← qx.length, ← qy.length]; exact h.1, fun p hp => k _ _ _ (grow_upd hp) (r.newlst hp (qx.append qy)) h.2⟩
  · exact h.elim
theorem ov_sub : OpV Y (binaryOp .Sub) vSub := by
  intro pins s σ H g ρ S x y v u dx dy P Q I rx ry r bx bY h k
  unfold vSub at h
  split at h
  · exact op_sub pins s σ H x y v u Q I rx ry ⟨_, _, bx.int, bY.int, k _ _ H (fun _ _ h => h) rep_int h⟩
  · exact h.elim
theorem ov_mul : OpV Y (binaryOp .Mult) vMul := by
  intro pins s σ H g ρ S x y v u dx dy P Q I rx ry r bx bY h k
  unfold vMul at h
  split at h
  · exact op_mul pins s σ H x y v u Q I rx ry ⟨_, _, bx.int, bY.int, h.1, k _ _ H (fun _ _ h => h) rep_int h.2⟩
  · exact h.elim
theorem ov_fdiv : OpV Y (binaryOp .FloorDiv) vFDiv := by
  intro pins s σ H g ρ S x y v u dx dy P Q I rx ry r bx bY h k
  unfold vFDiv at h
  split at h
  · exact op_fdiv pins s σ H x y v u Q I rx ry ⟨_, _, bx.int, bY.int, h.1, k _ _ H (fun _ _ h => h) rep_int h.2⟩
  · exact h.elim
theorem ov_mod : OpV Y (binaryOp .Mod) vMod := by
  intro pins s σ H g ρ S x y v u dx dy P Q I rx ry r bx bY h k
  unfold vMod at h
  split at h
  · exact op_mod pins s σ H x y v u Q I rx ry ⟨_, _, bx.int, bY.int, h.1, k _ _ H (fun _ _ h => h) rep_int h.2⟩
  · exact h.elim
theorem ov_pow : OpV Y (binaryOp .Pow) vPow := by
  intro pins s σ H g ρ S x y v u dx dy P Q I rx ry r bx bY h k
  unfold vPow at h
  split at h
  · exact op_pow pins s σ H x y v u Q I rx ry ⟨_, _, bx.int, bY.int, h.1, k _ _ H (fun _ _ h => h) rep_int h.2⟩
  · exact h.elim
theorem uv_neg : UnV Y (unaryOp .USub) vNeg := by
  intro pins s σ H g ρ S x v dx P Q I rx r bx h k
  unfold vNeg at h
  split at h
  · exact un_neg pins s σ H x v Q I rx ⟨_, bx.int, k _ _ H (fun _ _ h => h) rep_int h⟩
  · exact h.elim

/-! ### comparisons -/
def vCmpI (f : Int → Int → Bool) : D → D → Sto → (D → Prop) → Prop := fun x y _ P => match x, y with
  | .int i, .int j => P (.bl (f i j))
  | _, _ => False
abbrev vLt := vCmpI fun i j => decide (i < j)
abbrev vLe := vCmpI fun i j => decide (i ≤ j)
abbrev vGt := vCmpI fun i j => decide (j < i)
abbrev vGe := vCmpI fun i j => decide (j ≤ i)
theorem ov_cmpI {f : Value → Value → Sem Value} {p : Int → Int → Bool} (h0 : OpR Y.X f (rI0 fun i j => .bl (p i j))) : OpV Y f (vCmpI p) := by
  intro pins s σ H g ρ S x y v u dx dy P Q I rx ry r bx bY h k
  unfold vCmpI at h
  split at h
  · exact h0 pins s σ H x y v u Q I rx ry ⟨_, _, bx.int, bY.int, k _ _ H (fun _ _ h => h) rep_bl h⟩
  · exact h.elim
theorem ov_lt : OpV Y (compareOp .Lt) vLt := ov_cmpI op_lt
theorem ov_le : OpV Y (compareOp .LtE) vLe := ov_cmpI op_le
theorem ov_gt : OpV Y (compareOp .Gt) vGt := ov_cmpI op_gt
theorem ov_ge : OpV Y (compareOp .GtE) vGe := ov_cmpI op_ge
/-- == of data without objects -/
def eqD (neg : Bool) (x y : D) (P : Bool → Prop) : Prop := match x, y with
  | .int i, .int j => P (decide (i = j) != neg)
  | .str i, .str j => P (decide (i = j) != neg)
  | .bl i, .bl j => P (decide (i = j) != neg)
  | x, y => plain x = true ∧ plain y = true ∧ dep x ≤ 64 ∧ dep y ≤ 64 ∧ P (PyData.eqv (toP x) (toP y) != neg)
def vEq : D → D → Sto → (D → Prop) → Prop := fun x y S P => eqD false (dr S x) (dr S y) fun b => P (.bl b)
def vNe : D → D → Sto → (D → Prop) → Prop := fun x y S P => eqD true (dr S x) (dr S y) fun b => P (.bl b)
theorem ov_eq (hu : Y.X.A.units + 64 < cLine) (hK : Y.c.K = Y.X.K) : OpV Y (compareOp .Eq) vEq := by
  intro pins s σ H g ρ S x y v u dx dy P Q I rx ry r bx bY h k
  have bx := r.dr bx
  have bY := r.dr bY
  unfold vEq eqD at h
  split at h
  · rename_i i j e1 e2
    rw [e1] at bx
    rw [e2] at bY
    obtain rfl := bx.int
    obtain rfl := bY.int
    refine op_eq pins s σ H _ _ v u Q I rx ry ⟨rfl, k _ _ H (fun _ _ h => h) rep_bl ?_⟩
    rw [Bool.bne_false] at h
    simpa using h
  · rename_i i j e1 e2
    rw [e1] at bx
    rw [e2] at bY
    obtain rfl := bx.str
    obtain rfl := bY.str
    refine op_eq pins s σ H _ _ v u Q I rx ry ⟨rfl, k _ _ H (fun _ _ h => h) rep_bl ?_⟩
    rw [Bool.bne_false] at h
    simpa using h
  · rename_i i j e1 e2
    rw [e1] at bx
    rw [e2] at bY
    obtain rfl := bx.bl
    obtain rfl := bY.bl
    refine op_eq pins s σ H _ _ v u Q I rx ry ⟨rfl, k _ _ H (fun _ _ h => h) rep_bl ?_⟩
    rw [Bool.bne_false] at h
    simpa using h
  · obtain ⟨p1, p2, d1, d2, h⟩ := h
    rw [Bool.bne_false] at h
    exact op_eqD hu pins s σ H x y v u Q I rx ry ⟨_, _, by rw [← hK]; exact bx.dp p1, by rw [← hK]; exact bY.dp p2, shaped_toP p1 d1, shaped_toP p2 d2, k _ _ H (fun _ _ h => h) rep_bl h⟩
theorem ov_ne (hu : Y.X.A.units + 64 < cLine) (hK : Y.c.K = Y.X.K) : OpV Y (compareOp .NotEq) vNe := by
  intro pins s σ H g ρ S x y v u dx dy P Q I rx ry r bx bY h k
  have bx := r.dr bx
  have bY := r.dr bY
  unfold vNe eqD at h
  split at h
  · rename_i i j e1 e2
    rw [e1] at bx
    rw [e2] at bY
    obtain rfl := bx.int
    obtain rfl := bY.int
    refine op_ne pins s σ H _ _ v u Q I rx ry ⟨rfl, k _ _ H (fun _ _ h => h) rep_bl ?_⟩
    rw [Bool.bne_true] at h
    simpa using h
  · rename_i i j e1 e2
    rw [e1] at bx
    rw [e2] at bY
    obtain rfl := bx.str
    obtain rfl := bY.str
    refine op_ne pins s σ H _ _ v u Q I rx ry ⟨rfl, k _ _ H (fun _ _ h => h) rep_bl ?_⟩
    rw [Bool.bne_true] at h
    simpa using h
  · rename_i i j e1 e2
    rw [e1] at bx
    rw [e2] at bY
    obtain rfl := bx.bl
    obtain rfl := bY.bl
    refine op_ne pins s σ H _ _ v u Q I rx ry ⟨rfl, k _ _ H (fun _ _ h => h) rep_bl ?_⟩
    rw [Bool.bne_true] at h
    simpa using h
  · obtain ⟨p1, p2, d1, d2, h⟩ := h
    rw [Bool.bne_true] at h
    exact op_neD hu pins s σ H x y v u Q I rx ry ⟨_, _, by rw [← hK]; exact bx.dp p1, by rw [← hK]; exact bY.dp p2, shaped_toP p1 d1, shaped_toP p2 d2, k _ _ H (fun _ _ h => h) rep_bl h⟩
/-- is of None and of bools -/
def isD (neg : Bool) (x y : D) (P : Bool → Prop) : Prop := match y with
  | .non => (match x with
    | .non => P (!neg)
    | .ref _ => P neg
    | _ => P neg)
  | .bl b => (match x with
    | .bl a => P (decide (a = b) != neg)
    | _ => False)
  | _ => False
def vIs : D → D → Sto → (D → Prop) → Prop := fun x y _ P => isD false x y fun b => P (.bl b)
def vIsN : D → D → Sto → (D → Prop) → Prop := fun x y _ P => isD true x y fun b => P (.bl b)
theorem brw_non {c : Cf} {sm : List Addr} {M : Addr → Prop} {H : Hp} {d : D} {v : V} (h : Brw c sm M H d v) (hd : d ≠ .non) : v ≠ .non := by
  rcases h with h | ⟨a, e, h⟩
  · cases d with
    | non => exact absurd rfl hd
    | bl _ => simp only [Rep] at h; subst h; intro z; cases z
    | int _ => simp only [Rep] at h; subst h; intro z; cases z
    | str _ => simp only [Rep] at h; subst h; intro z; cases z
    | tup _ => simp only [Rep] at h; obtain ⟨a, vs, e, _⟩ := h; subst e; intro z; cases z
    | lst _ => simp only [Rep] at h; obtain ⟨a, vs, e, _⟩ := h; subst e; intro z; cases z
    | dic _ => simp only [Rep] at h; obtain ⟨a, vs, e, _⟩ := h; subst e; intro z; cases z
    | obj _ _ => simp only [Rep] at h; obtain ⟨a, dx, vs, e, _⟩ := h; subst e; intro z; cases z
    | ref _ => simp only [Rep] at h; obtain ⟨a, _, e⟩ := h; subst e; intro z; cases z
    | scr _ => simp only [Rep] at h; obtain ⟨a, e, _⟩ := h; subst e; intro z; cases z
    | cls _ => simp only [Rep] at h; subst h; intro z; cases z
  · subst e; intro z; cases z
theorem ov_is : OpV Y (compareOp .Is) vIs := by
  intro pins s σ H g ρ S x y v u dx dy P Q I rx ry r bx bY h k
  unfold vIs isD at h
  split at h
  · refine op_isN pins s σ H x y v u Q I rx ry ⟨bY.non, ?_⟩
    by_cases e : dx = .non
    · subst e
      rw [bx.non]
      exact k _ (.bl true) H (fun _ _ h => h) rep_bl h
    · have n := brw_non bx e
      rw [decide_eq_false n]
      refine k _ (.bl false) H (fun _ _ h => h) rep_bl ?_
      cases dx <;> first | exact h | exact absurd rfl e
  · rename_i b
    split at h
    · refine op_is_bl pins s σ H x y v u Q I rx ry ⟨_, b, bx.bl, bY.bl, k _ _ H (fun _ _ h => h) rep_bl ?_⟩
      rw [Bool.bne_false] at h
      exact h
    · exact h.elim
  · exact h.elim
theorem ov_isN : OpV Y (compareOp .IsNot) vIsN := by
  intro pins s σ H g ρ S x y v u dx dy P Q I rx ry r bx bY h k
  unfold vIsN isD at h
  split at h
  · refine op_notN pins s σ H x y v u Q I rx ry ⟨bY.non, ?_⟩
    by_cases e : dx = .non
    · subst e
      rw [bx.non]
      exact k _ (.bl false) H (fun _ _ h => h) rep_bl h
    · have n := brw_non bx e
      rw [decide_eq_false n]
      refine k _ (.bl true) H (fun _ _ h => h) rep_bl ?_
      cases dx <;> first | exact h | exact absurd rfl e
  · rename_i b
    split at h
    · refine op_isnot_bl pins s σ H x y v u Q I rx ry ⟨_, b, bx.bl, bY.bl, k _ _ H (fun _ _ h => h) rep_bl ?_⟩
      rw [Bool.bne_true] at h
      exact h
    · exact h.elim
  · exact h.elim
/-- in -/
def strIn (a b : Str) : Bool := !(Builtin.Str.occurrences b a 0 b.length 1).isEmpty
def isStr : D → Bool
  | .str _ => true
  | _ => false
def keyD : D → Option Key
  | .int i => some (.inl i)
  | .str x => some (.inr x)
  | _ => none
def valD (kvs : List (Key × D)) (k : Key) : Option D := (kvs.find? fun kv => decide (kv.1 = k)).map (·.2)
def inD (neg : Bool) (x y : D) (P : Bool → Prop) : Prop := match y with
  | .str b => (match x with
    | .str a => P (strIn a b != neg)
    | _ => False)
  | .lst ds => plain x = true ∧ plains ds = true ∧ dep x ≤ 63 ∧ deps ds ≤ 63 ∧ P ((toPs ds).any (fun z => PyData.eqv z (toP x)) != neg)
  | .tup ds => isStr x = true ∧ ds.all isStr = true ∧ P ((toPs ds).any (fun z => PyData.eqv z (toP x)) != neg)
  | .dic kvs => ∃ k, keyD x = some k ∧ P ((valD kvs k).isSome != neg)
  | _ => False
def vIn : D → D → Sto → (D → Prop) → Prop := fun x y S P => inD false x (dr S y) fun b => P (.bl b)
def vNotIn : D → D → Sto → (D → Prop) → Prop := fun x y S P => inD true x (dr S y) fun b => P (.bl b)
theorem strs_of {c : Cf} {sm : List Addr} {M : Addr → Prop} {H : Hp} : ∀ {ds : List D} {vs : List V}, Reps c sm M H ds vs → ds.all isStr = true → ∃ xs : List Str, ds = xs.map D.str ∧ vs = xs.map V.str
  | [], vs, h, _ => by simp only [Reps] at h; subst h; exact ⟨[], rfl, rfl⟩
  | d :: ds, vs, h, p => by
    simp only [Reps] at h
    simp only [List.all_cons, Bool.and_eq_true] at p
    obtain ⟨x, r, e, h1, h2⟩ := h
    subst e
    obtain ⟨xs, e1, e2⟩ := strs_of h2 p.2
    cases d <;> simp [isStr] at p
    simp only [Rep] at h1
    subst h1 e1 e2
    exact ⟨_ :: xs, rfl, rfl⟩
theorem any_strs (a : Str) : ∀ xs : List Str, inV (.str a) (xs.map V.str) = (toPs (xs.map D.str)).any fun z => PyData.eqv z (.str a)
  | [] => rfl
  | x :: xs => by
    have := any_strs a xs
    unfold inV at this ⊢
    simp only [List.map_cons, List.any_cons, toPs, toP, PyData.eqv]
    rw [this]
    rfl
theorem flat_strs : ∀ xs : List Str, (xs.map V.str).all flatV = true
  | [] => rfl
  | x :: xs => by simp only [List.map_cons, List.all_cons, flatV, Bool.true_and]; exact flat_strs xs
theorem key_of {c : Cf} {sm : List Addr} {M : Addr → Prop} {H : Hp} {d : D} {v : V} {k : Key} (h : Brw c sm M H d v) (e : keyD d = some k) : v = kV k := by
  cases d with
  | int i => simp only [keyD, Option.some.injEq] at e; subst e; rw [h.int]; rfl
  | str i => simp only [keyD, Option.some.injEq] at e; subst e; rw [h.str]; rfl
  | _ => simp [keyD] at e
theorem RepK.val {c : Cf} {sm : List Addr} {M : Addr → Prop} {H : Hp} (k : Key) : ∀ {ds : List (Key × D)} {vs : List (Key × V)}, RepK c sm M H ds vs →
    (valD ds k = none ∧ valV vs k = none) ∨ ∃ d v, valD ds k = some d ∧ valV vs k = some v ∧ Rep c sm M H d v
  | [], vs, h => by simp only [RepK] at h; subst h; exact .inl ⟨rfl, rfl⟩
  | (k', d) :: ds, vs, h => by
    simp only [RepK] at h
    obtain ⟨x, r, e, h1, h2⟩ := h
    subst e
    by_cases hk : k' = k
    · subst hk
      exact .inr ⟨d, x, by simp [valD], by simp [valV], h1⟩
    · have q := RepK.val k h2
      have a1 : valD ((k', d) :: ds) k = valD ds k := by simp [valD, hk]
      have a2 : valV ((k', x) :: r) k = valV r k := by simp [valV, hk]
      rw [a1, a2]
      exact q
theorem ov_in (hu : Y.X.A.units + 65 < cLine) (hK : Y.c.K = Y.X.K) : OpV Y (compareOp .In) vIn := by
  intro pins s σ H g ρ S x y v u dx dy P Q I rx ry r bx bY h k
  have bY := r.dr bY
  unfold vIn inD at h
  split at h
  · rename_i b e2
    rw [e2] at bY
    split at h
    · refine op_in_str pins s σ H x y v u Q I rx ry ⟨_, b, bx.str, bY.str, k _ _ H (fun _ _ h => h) rep_bl ?_⟩
      rw [Bool.bne_false] at h
      exact h
    · exact h.elim
  · rename_i ds e2
    rw [e2] at bY
    obtain ⟨p1, p2, d1, d2, h⟩ := h
    rw [Bool.bne_false] at h
    have q := bY.dp (by simpa [plain] using p2)
    rw [hK] at q
    simp only [toP] at q
    have sh : SeqAt.shaped (toP (.lst ds)) = true := shaped_toP (by simpa [plain] using p2) (by simp only [dep]; omega)
    simp only [toP] at sh
    exact op_inD hu pins s σ H x y v u Q I rx ry ⟨_, _, by rw [← hK]; exact bx.dp p1, q, shaped_toP p1 (by omega), sh, k _ _ H (fun _ _ h => h) rep_bl h⟩
  · rename_i ds e2
    rw [e2] at bY
    obtain ⟨p1, p2, h⟩ := h
    rw [Bool.bne_false] at h
    obtain ⟨a, vs, ey, hy, ny, qy⟩ := bY.tup
    obtain ⟨xs, z1, z2⟩ := strs_of qy p2
    cases dx with
    | str a1 =>
      obtain rfl := bx.str
      refine op_in_seq pins s σ H _ y v u Q I rx ry ⟨a, vs, ey, .inr (SqT.of hy), rfl, by rw [z2]; exact flat_strs xs, k _ _ H (fun _ _ h => h) rep_bl ?_⟩
      rw [if_neg Bool.false_ne_true, z2, any_strs, ← z1]
      exact h
    | _ => simp [isStr] at p1
  · rename_i kvs e2
    rw [e2] at bY
    obtain ⟨kk, ek, h⟩ := h
    rw [Bool.bne_false] at h
    obtain ⟨a, vs, ey, hy, qy⟩ := bY.dic
    subst ey
    obtain rfl : u = Value.ref a := ry
    have key := key_of bx ek
    refine d_in (y := x) (o := valV vs kk) (show Y.X.A.units + 1 < cLine by omega) I (.inl ⟨vs, kk, hy, key, rfl⟩) rx fun s3 I3 => ⟨.bl (valV vs kk).isSome, H, I3, rfl, k _ (.bl (valD kvs kk).isSome) H (fun _ _ h => h) ?_ h⟩
    rcases qy.val kk with ⟨q1, q2⟩ | ⟨d, v', q1, q2, _⟩
    · rw [q1, q2]; exact rep_bl
    · rw [q1, q2]; exact rep_bl
  · exact h.elim
theorem ov_notIn (hu : Y.X.A.units + 65 < cLine) (hK : Y.c.K = Y.X.K) : OpV Y (compareOp .NotIn) vNotIn := by
  intro pins s σ H g ρ S x y v u dx dy P Q I rx ry r bx bY h k
  have bY := r.dr bY
  unfold vNotIn inD at h
  split at h
  · rename_i b e2
    rw [e2] at bY
    split at h
    · refine op_notIn_str pins s σ H x y v u Q I rx ry ⟨_, b, bx.str, bY.str, k _ _ H (fun _ _ h => h) rep_bl ?_⟩
      rw [Bool.bne_true] at h
      unfold strIn at h
      simpa using h
    · exact h.elim
  · rename_i ds e2
    rw [e2] at bY
    obtain ⟨p1, p2, d1, d2, h⟩ := h
    rw [Bool.bne_true] at h
    have q := bY.dp (by simpa [plain] using p2)
    rw [hK] at q
    simp only [toP] at q
    have sh : SeqAt.shaped (toP (.lst ds)) = true := shaped_toP (by simpa [plain] using p2) (by simp only [dep]; omega)
    simp only [toP] at sh
    exact op_notInD hu pins s σ H x y v u Q I rx ry ⟨_, _, by rw [← hK]; exact bx.dp p1, q, shaped_toP p1 (by omega), sh, k _ _ H (fun _ _ h => h) rep_bl h⟩
  · rename_i ds e2
    rw [e2] at bY
    obtain ⟨p1, p2, h⟩ := h
    rw [Bool.bne_true] at h
    obtain ⟨a, vs, ey, hy, ny, qy⟩ := bY.tup
    obtain ⟨xs, z1, z2⟩ := strs_of qy p2
    cases dx with
    | str a1 =>
      obtain rfl := bx.str
      refine op_notIn_seq pins s σ H _ y v u Q I rx ry ⟨a, vs, ey, .inr (SqT.of hy), rfl, by rw [z2]; exact flat_strs xs, k _ _ H (fun _ _ h => h) rep_bl ?_⟩
      rw [if_pos rfl, z2, any_strs, ← z1]
      exact h
    | _ => simp [isStr] at p1
  · rename_i kvs e2
    rw [e2] at bY
    obtain ⟨kk, ek, h⟩ := h
    rw [Bool.bne_true] at h
    obtain ⟨a, vs, ey, hy, qy⟩ := bY.dic
    subst ey
    obtain rfl : u = Value.ref a := ry
    have key := key_of bx ek
    refine d_notIn (y := x) (o := valV vs kk) (show Y.X.A.units + 1 < cLine by omega) I (.inl ⟨vs, kk, hy, key, rfl⟩) rx fun s3 I3 => ⟨.bl (!(valV vs kk).isSome), H, I3, rfl, k _ (.bl (!(valD kvs kk).isSome)) H (fun _ _ h => h) ?_ h⟩
    rcases qy.val kk with ⟨q1, q2⟩ | ⟨d, v', q1, q2, _⟩
    · rw [q1, q2]; exact rep_bl
    · rw [q1, q2]; exact rep_bl
  · exact h.elim
end
end VL

set_option Elab.async false
set_option linter.all false
set_option autoImplicit false
set_option maxRecDepth 100000
/-! VLExpr: arguments, displays, places, attributes, built-ins. -/
namespace VL
open PySem PySem.Spec PyProof.Rows L2

/-! ### arguments -/
def wANil : TVA := fun ρ S Q _ => Q [] ρ S
def wACons (w : TV) (wr : TVA) : TVA := fun ρ S Q E => w ρ S (fun d ρ1 S1 => wr ρ1 S1 (fun ds ρ2 S2 => Q (d :: ds) ρ2 S2) E) E
/-- the things that *x hands on -/
def items (d : D) (P : List D → Prop) : Prop := match d with
  | .tup l => P l
  | .lst l => P l
  | _ => False
def wAStar (w : TVO) (wr : TVA) : TVA := fun ρ S Q E => w ρ S (fun h ρ1 S1 => rsv ρ1 h fun d => items (dr S1 d) fun xs => wr ρ1 S1 (fun ds ρ2 S2 => Q (xs ++ ds) ρ2 S2) E) E
section
variable {Y : VC} {e : Expr} {es : List Expr} {w : TV} {wo : TVO} {wr : TVA} {pos : Pos}
theorem va_nil : VA Y [] wANil := PA.imp pa_nil fun σ H Q ⟨g, ρ, S, Qv, Ev, r, hw, ec, hq⟩ => hq [] H g ρ S [] r .refl (by simp only [Reps]) hw
theorem va_cons (ha : VE Y e w) (hr : VA Y es wr) (hs : starEach (e :: es) Y.X.env = (false, eval e Y.X.env) :: starEach es Y.X.env := by rfl) : VA Y (e :: es) (wACons w wr) :=
  PA.imp (pa_cons ha hr hs) fun σ H Q ⟨g, ρ, S, Qv, Ev, r, hw, ec, hq⟩ => ⟨g, ρ, S, _, Ev, r, hw, ec, fun v H1 g1 ρ1 S1 d r1 st1 rp1 q1 =>
    ⟨g1, ρ1, S1, _, Ev, r1, q1, ec.step st1, fun vs H2 g2 ρ2 S2 ds r2 st2 rp2 q2 => hq (v :: vs) H2 g2 ρ2 S2 (d :: ds) r2 (st1.trans st2) (by
      simp only [Reps]
      exact ⟨v, vs, rfl, rp1.ext st2.ext, rp2⟩) q2⟩⟩
theorem brw_items {c : Cf} {sm : List Addr} {M : Addr → Prop} {H : Hp} {d : D} {v : V} {P : List D → Prop} (K : PySem.W.Frag) (h : Brw c sm M H d v) (hp : items d P) : ∃ a xs ds, v = .ref a ∧ (SqT K H a xs ∨ SqL K H a xs) ∧ Reps c sm M H ds xs ∧ P ds := by
  cases d with
  | tup l =>
    obtain ⟨a, vs, e, h1, _, q⟩ := h.tup
    exact ⟨a, vs, l, e, .inl (SqT.of h1), q, hp⟩
  | lst l =>
    obtain ⟨a, vs, e, h1, q⟩ := h.lst
    exact ⟨a, vs, l, e, .inr (SqL.of h1), q, hp⟩
  | _ => exact hp.elim
theorem va_star (ha : VO Y e wo) (hr : VA Y es wr) (hs : starEach (.Starred e pos :: es) Y.X.env = (true, eval e Y.X.env) :: starEach es Y.X.env := by rfl) : VA Y (.Starred e pos :: es) (wAStar wo wr) :=
  PA.imp (StX.pa_star ha hr hs) fun σ H Q ⟨g, ρ, S, Qv, Ev, r, hw, ec, hq⟩ => ⟨g, ρ, S, _, Ev, r, hw, ec, fun v H1 g1 ρ1 S1 hd r1 st1 hr1 q1 => by
    obtain ⟨d, b1, q2⟩ := r1.rsv hr1 q1
    obtain ⟨a, xs, ds, e, sq, rps, q3⟩ := brw_items Y.X.K (r1.dr b1) q2
    exact ⟨a, xs, e, sq, g1, ρ1, S1, _, Ev, r1, q3, ec.step st1, fun vs H2 g2 ρ2 S2 es2 r2 st2 rp2 q4 => hq (xs ++ vs) H2 g2 ρ2 S2 (ds ++ es2) r2 (st1.trans st2) (Reps.append (Reps.ext st2.ext rps) rp2) q4⟩⟩
end

/-! ### displays -/
def wTup (w : TVA) : TV := fun ρ S Q E => w ρ S (fun ds ρ1 S1 => ds.length ≤ sizeLine ∧ Q (.tup ds) ρ1 S1) E
def wLst (w : TVA) : TV := fun ρ S Q E => w ρ S (fun ds ρ1 S1 => ds.length ≤ sizeLine ∧ Q (.lst ds) ρ1 S1) E
def wDic0 : TV := fun ρ S Q _ => Q (.dic []) ρ S
/-- what an object holds -/
def OwnC (c : Cf) (sm : List Addr) (M : Addr → Prop) (H : Hp) (o : HO) : D → Prop
  | .lst ds => ∃ vs, o = .lst vs ∧ Reps c sm M H ds vs
  | .dic ks => ∃ vs, o = .dK vs ∧ RepK c sm M H ks vs
  | _ => False
theorem OwnC.mut {c : Cf} {sm : List Addr} {M : Addr → Prop} {H : Hp} {o : HO} {d : D} (h : OwnC c sm M H o d) : Mut (some o) := by
  cases d <;> simp only [OwnC] at h
  · obtain ⟨vs, e, _⟩ := h; subst e; trivial
  · obtain ⟨vs, e, _⟩ := h; subst e; trivial
theorem OwnC.own {c : Cf} {sm sm' : List Addr} {M M' : Addr → Prop} {H H' : Hp} {a : Addr} {o : HO} {d : D} (e : Ext sm M H sm' M' H') (h : OwnC c sm M H o d) (ha : H' a = some o) : Own c sm' M' H' a d := by
  cases d <;> simp only [OwnC] at h <;> simp only [Own]
  · obtain ⟨vs, q, r⟩ := h; subst q; exact ⟨vs, ha, Reps.ext e r⟩
  · obtain ⟨vs, q, r⟩ := h; subst q; exact ⟨vs, ha, RepK.ext e r⟩
section
variable {Y : VC} {e : Expr} {es : List Expr} {wa : TVA} {pos : Pos}
theorem ve_tup {k : Nat} (h : VA Y es wa) : VE Y (.Tuple es k pos) (wTup wa) :=
  PE.imp (pe_tup h) fun σ H Q ⟨g, ρ, S, Qv, Ev, r, hw, ec, hq⟩ => ⟨g, ρ, S, _, Ev, r, hw, ec, fun vs H1 g1 ρ1 S1 ds r1 st1 rp1 ⟨hl, q1⟩ =>
    ⟨by rw [← rp1.length]; exact hl, fun p hp => hq _ _ g1 ρ1 S1 (.tup ds) (r1.grow (grow_upd hp)) (st1.trans (.grow (grow_upd hp))) (r1.newtup hp rp1) q1⟩⟩
/-- what a new thing asks -/
theorem lf_new {g g1 : Gs} {σ : St} {ρ ρ1 : En} {S1 : Sto} {H H1 : Hp} {p : Addr} {o : HO} {d : D} (r1 : R Y.c Y.F g1 σ H1 ρ1 S1) (st1 : Stp Y.F g σ ρ H g1 σ ρ1 H1) (hp : H1 p = none) (h : OwnC Y.c g1.sm (MU Y.F g1 σ ρ1) H1 o d) :
    R Y.c Y.F ⟨g1.sm, p :: g.tm⟩ σ (upd H1 p o) ρ1 S1 ∧ Ext g.sm (MU Y.F g σ ρ) H g1.sm (MU Y.F ⟨g1.sm, p :: g.tm⟩ σ ρ1) (upd H1 p o) ∧ Own Y.c g1.sm (MU Y.F ⟨g1.sm, p :: g.tm⟩ σ ρ1) (upd H1 p o) p d := by
  obtain ⟨r2, e2⟩ := r1.newtm hp h.mut
  have et := st1.tm
  rw [et] at r2 e2
  exact ⟨r2, st1.ext.trans e2, h.own e2 upd_same⟩
theorem vf_lst (h : VA Y es wa) : VF Y (.List es pos) (wLst wa) :=
  PE.imp (pe_lst h) fun σ H Q ⟨g, ρ, S, Qv, Ev, r, hw, ec, hq⟩ => ⟨g, ρ, S, _, Ev, r, hw, ec, fun vs H1 g1 ρ1 S1 ds r1 st1 rp1 ⟨hl, q1⟩ =>
    ⟨by rw [← rp1.length]; exact hl, fun p hp => by
      obtain ⟨r2, e2, ow⟩ := lf_new (d := .lst ds) r1 st1 hp ⟨vs, rfl, rp1⟩
      exact hq p _ g1.sm ρ1 S1 (.lst ds) r2 e2 ow q1⟩⟩
theorem vf_dic0 : VF Y (.Dict [] [] pos) wDic0 :=
  PE.imp pe_dnewK fun σ H Q ⟨g, ρ, S, Qv, Ev, r, hw, ec, hq⟩ p hp => by
    obtain ⟨r2, e2, ow⟩ := lf_new (d := .dic []) r (Stp.refl (F := Y.F) (g := g) (σ := σ) (ρ := ρ)) hp ⟨[], rfl, by simp only [RepK]⟩
    exact hq p _ g.sm ρ S (.dic []) r2 e2 ow hw
end

/-! ### places -/
def vIx : D → D → Sto → (D → Prop) → Prop := fun x y S P => match dr S x with
  | .tup ds => ∃ i d, y = .int i ∧ atI ds i = some d ∧ P d
  | .lst ds => ∃ i d, y = .int i ∧ atI ds i = some d ∧ P d
  | .scr ns => ∃ i n, y = .int i ∧ atI ns i = some n ∧ P (.int n)
  | .str z => ∃ i k, y = .int i ∧ z.length ≤ sizeLine ∧ atI z.cps.toList i = some k ∧ P (.str ⟨#[k]⟩)
  | .dic kvs => ∃ k d, keyD y = some k ∧ valD kvs k = some d ∧ P d
  | _ => False
theorem Reps.atI {c : Cf} {sm : List Addr} {M : Addr → Prop} {H : Hp} {ds : List D} {vs : List V} {i : Int} {d : D} (h : Reps c sm M H ds vs) (e : L2.atI ds i = some d) : ∃ v, L2.atI vs i = some v ∧ Rep c sm M H d v := by
  unfold L2.atI at e ⊢
  rw [← h.length]
  cases q : ixN ds.length i with
  | none => rw [q] at e; cases e
  | some j =>
    rw [q] at e
    exact h.get e
section
variable {Y : VC} {a b : Expr} {wa wb : TVO} {pos : Pos}
theorem brw_scr {c : Cf} {sm : List Addr} {M : Addr → Prop} {H : Hp} {v : V} {ns : List Int} (h : Brw c sm M H (.scr ns) v) : ∃ a, v = .ref a ∧ SqL c.K H a (ns.map V.int) := by
  rcases h with h | ⟨a, _, h⟩
  · simp only [Rep] at h
    obtain ⟨a, e, h⟩ := h
    refine ⟨a, e, ?_⟩
    rcases h with ⟨r, _⟩ | h
    · exact .inl r
    · exact h H
  · simp only [Own] at h
theorem ve_ix (hu : Y.X.A.units + 64 < cLine) (hK : Y.c.K = Y.X.K) (ha : VO Y a wa) (hb : VO Y b wb) (hs : PlainIx b) : VE Y (.Subscript a b pos) (wBin vIx wa wb) := by
  refine ⟨fun pins s σ H Q I ⟨g, ρ, S, Qv, Ev, r, hw, ec, hq⟩ => ?_⟩
  refine Subscript_ (run2 (Qv := fun x y ρ2 S2 => vIx x y S2 fun d => Qv d ρ2 S2) ha hb I r hw ec fun v u s2 x y H2 g2 ρ2 S2 dx dy I2 rx ry r2 st bx bY h => ?_)
  have k : ∀ z d, Rep Y.c g2.sm (MU Y.F g2 σ ρ2) H2 d z → Qv d ρ2 S2 → Q z H2 := fun z d rp qd => hq z H2 g2 ρ2 S2 d r2 st rp qd
  have bx := r2.dr bx
  unfold vIx at h
  split at h
  · rename_i ds e
    rw [e] at bx
    obtain ⟨i, d, ey, ei, q⟩ := h
    subst ey
    obtain rfl := bY.int
    obtain ⟨p, vs, ex, h1, _, rp⟩ := bx.tup
    obtain ⟨z, h2, h3⟩ := rp.atI ei
    exact ix_tup a b pins s2 σ H2 x _ v u Q I2 rx ry ⟨p, vs, i, z, ex, rfl, SqT.of h1, h2, k z d h3 q⟩ (hs _ _)
  · rename_i ds e
    rw [e] at bx
    obtain ⟨i, d, ey, ei, q⟩ := h
    subst ey
    obtain rfl := bY.int
    obtain ⟨p, vs, ex, h1, rp⟩ := bx.lst
    obtain ⟨z, h2, h3⟩ := rp.atI ei
    exact ix_list a b pins s2 σ H2 x _ v u Q I2 rx ry ⟨p, vs, i, z, ex, rfl, SqL.of h1, h2, k z d h3 q⟩ (hs _ _)
  · rename_i ns e
    rw [e] at bx
    obtain ⟨i, n, ey, ei, q⟩ := h
    subst ey
    obtain rfl := bY.int
    obtain ⟨p, ex, h1⟩ := brw_scr bx
    rw [hK] at h1
    refine ix_list a b pins s2 σ H2 x _ v u Q I2 rx ry ⟨p, _, i, .int n, ex, rfl, h1, ?_, k _ (.int n) rep_int q⟩ (hs _ _)
    unfold L2.atI at ei ⊢
    rw [List.length_map]
    cases q : ixN ns.length i with
    | none => rw [q] at ei; cases ei
    | some j =>
      rw [q] at ei
      show (ns.map V.int)[j]? = _
      have ei : ns[j]? = some n := ei
      rw [List.getElem?_map, ei]
      rfl
  · rename_i z e
    rw [e] at bx
    obtain ⟨i, cc, ey, hz, ei, q⟩ := h
    subst ey
    obtain rfl := bY.int
    exact ix_str a b pins s2 σ H2 x _ v u Q I2 rx ry ⟨z, i, cc, bx.str, rfl, hz, ei, k _ _ rep_str q⟩ (hs _ _)
  · rename_i kvs e
    rw [e] at bx
    obtain ⟨kk, d, ek, ev, q⟩ := h
    obtain ⟨p, vs, ex, h1, rp⟩ := bx.dic
    subst ex
    obtain rfl : v = Value.ref p := rx
    have key := key_of bY ek
    rcases rp.val kk with ⟨q1, q2⟩ | ⟨d', z, q1, q2, q3⟩
    · rw [ev] at q1; cases q1
    · rw [ev] at q1; cases q1
      have dg : DGet H2 p y (some z) := .inl ⟨vs, kk, h1, key, q2.symm⟩
      exact tail_any (dict_typeIs I2 dg) PySem.F.slot_dict_getitem.lookup (d_getItem (by omega) I2 dg ry fun w' s3 I3 rw' => ⟨z, H2, I3, rw', k z d q3 q⟩) (hs _ _)
  · exact h.elim
end

/-! ### slices -/
abbrev TVP := En → Sto → (Option Int → En → Sto → Prop) → QE → Prop
def wNoP : TVP := fun ρ S Q _ => Q none ρ S
def wPart (w : TV) : TVP := fun ρ S Q E => w ρ S (fun d ρ1 S1 => ∃ i, d = .int i ∧ Q (some i) ρ1 S1) E
section
variable (Y : VC)
def LP (w : TVP) : TO := fun σ H Q => ∃ (g : Gs) (ρ : En) (S : Sto) (Qv : Option Int → En → Sto → Prop) (Ev : QE), R Y.c Y.F g σ H ρ S ∧ w ρ S Qv Ev ∧ EC Y g σ ρ H Ev ∧
  ∀ (o : Option Int) (H' : Hp) (g' : Gs) (ρ' : En) (S' : Sto), R Y.c Y.F g' σ H' ρ' S' → Stp Y.F g σ ρ H g' σ ρ' H' → Qv o ρ' S' → Q o H'
abbrev VP (e : Option Expr) (w : TVP) : Prop := PO Y.X e (LP Y w)
end
def cutD (ds : List D) (lo hi : Option Int) : List D := (ds.drop (HT.sIx ds.length 0 lo)).take (HT.sIx ds.length ds.length hi - HT.sIx ds.length 0 lo)
def sliceD (x : D) (lo hi : Option Int) (P : D → Prop) : Prop := match x with
  | .tup ds => P (.tup (cutD ds lo hi))
  | .lst ds => P (.lst (cutD ds lo hi))
  | .str z => z.length ≤ sizeLine ∧ P (.str (cutS z lo hi))
  | _ => False
def wSl (w : TVO) (wl wh : TVP) : TV := fun ρ S Q E => w ρ S (fun h ρ1 S1 => wl ρ1 S1 (fun lo ρ2 S2 => wh ρ2 S2 (fun hi ρ3 S3 => rsv ρ3 h fun d => sliceD (dr S3 d) lo hi fun z => Q z ρ3 S3) E) E) E
theorem Reps.cut {c : Cf} {sm : List Addr} {M : Addr → Prop} {H : Hp} {ds : List D} {vs : List V} {lo hi : Option Int} (h : Reps c sm M H ds vs) : Reps c sm M H (cutD ds lo hi) (cutV vs lo hi) := by
  unfold cutD cutV
  rw [h.length]
  exact (h.drop _).take _
section
variable {Y : VC} {e : Expr} {lo hi : Option Expr} {w : TVO} {wl wh : TVP} {pos p2 : Pos}
theorem vp_none : VP Y none wNoP := ⟨fun pins s σ H Q I ⟨g, ρ, S, Qv, Ev, r, hw, ec, hq⟩ => po_none.run pins s σ H Q I (hq none H g ρ S r .refl hw)⟩
theorem vp_some {e : Expr} {w : TV} (h : VE Y e w) : VP Y (some e) (wPart w) := ⟨fun pins s σ H Q I ⟨g, ρ, S, Qv, Ev, r, hw, ec, hq⟩ => (po_some h).run pins s σ H Q I
  ⟨g, ρ, S, _, Ev, r, hw, ec, fun v H' g' ρ' S' d r' st rp ⟨i, ed, q⟩ => by
    subst ed
    simp only [Rep] at rp
    exact ⟨i, rp, hq (some i) H' g' ρ' S' r' st q⟩⟩⟩
theorem ve_slice (he : VO Y e w) (hl : VP Y lo wl) (hh : VP Y hi wh) : VE Y (.Subscript e (.Slice lo hi none p2) pos) (wSl w wl wh) := by
  have sl : SlR Y.X (fun x lo hi H Q => (rSlA Y.X.K x lo hi H Q ∨ rSlL Y.X.K x lo hi H Q) ∨ rSlS x lo hi H Q) := (sl_tupA.or sl_list).or sl_str
  refine PE.imp (pe_slice sl he hl hh) fun σ H Q ⟨g, ρ, S, Qv, Ev, r, hw, ec, hq⟩ => ?_
  refine ⟨g, ρ, S, _, Ev, r, hw, ec, fun v H1 g1 ρ1 S1 h1 r1 st1 hr1 q1 => ?_⟩
  refine ⟨g1, ρ1, S1, _, Ev, r1, q1, ec.step st1, fun l H2 g2 ρ2 S2 r2 st2 q2 => ?_⟩
  refine ⟨g2, ρ2, S2, _, Ev, r2, q2, ec.step (st1.trans st2), fun u H3 g3 ρ3 S3 r3 st3 q3 => ?_⟩
  obtain ⟨d, b1, q4⟩ := r3.rsv ((hr1.ext st2.ext).ext st3.ext) q3
  have b2 := r3.dr b1
  have st := (st1.trans st2).trans st3
  unfold sliceD at q4
  split at q4
  · rename_i ds e1
    rw [e1] at b2
    obtain ⟨a, vs, ev, hv, nv, rp⟩ := b2.tup
    refine .inl (.inl ⟨a, vs, ev, SqT.of hv, fun hw => ?_, fun _ p hp => ?_⟩)
    · refine hq _ H3 g3 ρ3 S3 _ r3 st ?_ q4
      have : cutD ds l u = ds := by
        unfold cutD
        rw [rp.length, hw.1, hw.2]
        rw [← rp.length]
        simp
      rw [this]
      simp only [Rep]
      exact ⟨a, vs, rfl, hv, nv, rp⟩
    · exact hq _ _ g3 ρ3 S3 _ (r3.grow (grow_upd hp)) (st.trans (.grow (grow_upd hp))) (r3.newtup hp rp.cut) q4
  · rename_i ds e1
    rw [e1] at b2
    obtain ⟨a, vs, ev, hv, rp⟩ := b2.lst
    exact .inl (.inr ⟨a, vs, ev, SqL.of hv, fun p hp => hq _ _ g3 ρ3 S3 _ (r3.grow (grow_upd hp)) (st.trans (.grow (grow_upd hp))) (r3.newlst hp rp.cut) q4⟩)
  · rename_i z e1
    rw [e1] at b2
    exact .inr ⟨z, b2.str, q4.1, hq _ H3 g3 ρ3 S3 _ r3 st rep_str q4.2⟩
  · exact q4.elim
end

/-! ### attributes -/
def fldD (f : String) (d : D) (P : D → Prop) : Prop := match d with
  | .obj _ fs => ∃ x, fs.lookup f = some x ∧ P x
  | _ => False
def wFld (f : String) (w : TVO) : TV := fun ρ S Q E => w ρ S (fun h ρ1 S1 => rsv ρ1 h fun d => fldD f (dr S1 d) fun x => Q x ρ1 S1) E
section
variable {Y : VC} {e : Expr} {w : TVO} {pos : Pos}
theorem mem_of_lookup {α : Type} : ∀ {l : List (String × α)} {f : String} {x : α}, l.lookup f = some x → (f, x) ∈ l
  | [], _, _, h => by simp at h
  | (k, y) :: l, f, x, h => by
    rw [List.lookup_cons] at h
    by_cases e : f = k
    · subst e
      simp at h
      subst h
      exact List.mem_cons_self
    · have : (f == k) = false := by simpa using e
      rw [this] at h
      exact List.mem_cons_of_mem _ (mem_of_lookup h)
theorem ve_fld (f : String) (hK : Y.c.K = Y.X.K) (he : VO Y e w) (hb : attributeBase e (toS f) Y.X.env (eval e Y.X.env) = eval e Y.X.env := by rfl) : VE Y (.Attribute e (toS f) pos) (wFld f w) :=
  PE.imp (pe_fld he hb) fun σ H Q ⟨g, ρ, S, Qv, Ev, r, hw, ec, hq⟩ => ⟨g, ρ, S, _, Ev, r, hw, ec, fun v H1 g1 ρ1 S1 hd r1 st1 hr1 q1 => by
    obtain ⟨d, b1, q2⟩ := r1.rsv hr1 q1
    have b2 := r1.dr b1
    unfold fldD at q2
    split at q2
    · rename_i cl fs e1
      rw [e1] at b2
      obtain ⟨x, hx, q3⟩ := q2
      obtain ⟨a, dx, vs, ev, hv, gi, rf⟩ := b2.obj
      obtain ⟨z, h1, h2⟩ := rf.lookup hx (fun gg _ h => toS_inj h)
      refine ⟨a, Y.c.ca cl, dx, vs, z, ev, hv, by rw [← hK]; exact gi.1, by rw [← hK]; exact gi.2 _ (mem_of_lookup hx), h1, hq z H1 g1 ρ1 S1 x r1 st1 h2 q3⟩
    · exact q2.elim⟩
end

/-! ### built-ins -/
abbrev TVOA := En → Sto → (List Hd → En → Sto → Prop) → QE → Prop
def HReps (c : Cf) (sm : List Addr) (M : Addr → Prop) (H : Hp) (σ : St) : List Hd → List V → Prop
  | [], vs => vs = []
  | h :: hs, vs => ∃ x r, vs = x :: r ∧ HRep c sm M H σ h x ∧ HReps c sm M H σ hs r
theorem HReps.ext {c : Cf} {sm sm' : List Addr} {M M' : Addr → Prop} {H H' : Hp} {σ : St} (e : Ext sm M H sm' M' H') : ∀ {hs : List Hd} {vs : List V}, HReps c sm M H σ hs vs → HReps c sm' M' H' σ hs vs
  | [], _, h => h
  | h :: hs, vs, q => by
    obtain ⟨x, r, e1, h1, h2⟩ := q
    exact ⟨x, r, e1, h1.ext e, HReps.ext e h2⟩
def Brws (c : Cf) (sm : List Addr) (M : Addr → Prop) (H : Hp) : List D → List V → Prop
  | [], vs => vs = []
  | d :: ds, vs => ∃ x r, vs = x :: r ∧ Brw c sm M H d x ∧ Brws c sm M H ds r
def rsvs (ρ : En) : List Hd → (List D → Prop) → Prop
  | [], P => P []
  | h :: hs, P => rsv ρ h fun d => rsvs ρ hs fun ds => P (d :: ds)
theorem R.rsvs {c : Cf} {F : Fr} {g : Gs} {σ : St} {H : Hp} {ρ : En} {S : Sto} (r : R c F g σ H ρ S) : ∀ {hs : List Hd} {vs : List V} {P : List D → Prop}, HReps c g.sm (MU F g σ ρ) H σ hs vs → VL.rsvs ρ hs P → ∃ ds, Brws c g.sm (MU F g σ ρ) H ds vs ∧ P ds
  | [], vs, P, h, hp => ⟨[], h, hp⟩
  | h :: hs, vs, P, q, hp => by
    obtain ⟨x, rr, e1, h1, h2⟩ := q
    unfold VL.rsvs at hp
    obtain ⟨d, b1, q1⟩ := r.rsv h1 hp
    obtain ⟨ds, b2, q2⟩ := R.rsvs r h2 q1
    exact ⟨d :: ds, ⟨x, rr, e1, b1, b2⟩, q2⟩
section
variable (Y : VC)
def LOA (w : TVOA) : TA := fun σ H Q => ∃ (g : Gs) (ρ : En) (S : Sto) (Qv : List Hd → En → Sto → Prop) (Ev : QE), R Y.c Y.F g σ H ρ S ∧ w ρ S Qv Ev ∧ EC Y g σ ρ H Ev ∧
  ∀ (vs : List V) (H' : Hp) (g' : Gs) (ρ' : En) (S' : Sto) (hs : List Hd), R Y.c Y.F g' σ H' ρ' S' → Stp Y.F g σ ρ H g' σ ρ' H' → HReps Y.c g'.sm (MU Y.F g' σ ρ') H' σ hs vs → Qv hs ρ' S' → Q vs H'
abbrev VOA (es : List Expr) (w : TVOA) : Prop := PA Y.X es (LOA Y w)
/-- what a call asks that may lay new things -/
def rV (vf : List D → Sto → (D → Prop) → Prop) : List V → Hp → VK → Prop := fun xs H Q => ∃ (g : Gs) (σ : St) (ρ : En) (S : Sto) (ds : List D) (P : D → Prop), R Y.c Y.F g σ H ρ S ∧ Brws Y.c g.sm (MU Y.F g σ ρ) H ds xs ∧ vf ds S P ∧
  ∀ z d H', (∀ b o, H b = some o → H' b = some o) → Rep Y.c g.sm (MU Y.F g σ ρ) H' d z → P d → Q z H'
/-- .. that hands back a new thing -/
def rF (vf : List D → Sto → (D → Prop) → Prop) : List V → Hp → VK → Prop := fun xs H Q => ∃ (g : Gs) (σ : St) (ρ : En) (S : Sto) (ds : List D) (P : D → Prop), R Y.c Y.F g σ H ρ S ∧ Brws Y.c g.sm (MU Y.F g σ ρ) H ds xs ∧ vf ds S P ∧
  ∀ p o d, H p = none → OwnC Y.c g.sm (MU Y.F g σ ρ) H o d → P d → Q (.ref p) (upd H p o)
end
def wONil : TVOA := fun ρ S Q _ => Q [] ρ S
def wOCons (w : TVO) (wr : TVOA) : TVOA := fun ρ S Q E => w ρ S (fun h ρ1 S1 => wr ρ1 S1 (fun hs ρ2 S2 => Q (h :: hs) ρ2 S2) E) E
def wCB (vf : List D → Sto → (D → Prop) → Prop) (w : TVOA) : TV := fun ρ S Q E => w ρ S (fun hs ρ1 S1 => rsvs ρ1 hs fun ds => vf ds S1 fun d => Q d ρ1 S1) E
section
variable {Y : VC} {e : Expr} {es : List Expr} {wo : TVO} {wr : TVOA} {pos p : Pos} {x : Str} {vf : List D → Sto → (D → Prop) → Prop}
theorem voa_nil : VOA Y [] wONil := PA.imp pa_nil fun σ H Q ⟨g, ρ, S, Qv, Ev, r, hw, ec, hq⟩ => hq [] H g ρ S [] r .refl rfl hw
theorem voa_cons (ha : VO Y e wo) (hr : VOA Y es wr) (hs : starEach (e :: es) Y.X.env = (false, eval e Y.X.env) :: starEach es Y.X.env := by rfl) : VOA Y (e :: es) (wOCons wo wr) :=
  PA.imp (pa_cons ha hr hs) fun σ H Q ⟨g, ρ, S, Qv, Ev, r, hw, ec, hq⟩ => ⟨g, ρ, S, _, Ev, r, hw, ec, fun v H1 g1 ρ1 S1 h r1 st1 rp1 q1 =>
    ⟨g1, ρ1, S1, _, Ev, r1, q1, ec.step st1, fun vs H2 g2 ρ2 S2 hs r2 st2 rp2 q2 => hq (v :: vs) H2 g2 ρ2 S2 (h :: hs) r2 (st1.trans st2) ⟨v, vs, rfl, rp1.ext st2.ext, rp2⟩ q2⟩⟩
theorem le_call {t : TA} {r : List V → Hp → VK → Prop} {w : TVOA} (hr : ∀ xs H Q, rV Y vf xs H Q → r xs H Q) : ∀ σ H Q, LE Y (wCB vf w) σ H Q → tCB r (LOA Y w) σ H Q := fun σ H Q ⟨g, ρ, S, Qv, Ev, rr, hw, ec, hq⟩ =>
  ⟨g, ρ, S, _, Ev, rr, hw, ec, fun vs H1 g1 ρ1 S1 hs r1 st1 hr1 q1 => by
    obtain ⟨ds, b1, q2⟩ := r1.rsvs hr1 q1
    exact hr _ _ _ ⟨g1, σ, ρ1, S1, ds, _, r1, b1, q2, fun z d H' k rp qd => hq z H' g1 ρ1 S1 d (r1.grow k) (st1.trans (.grow k)) rp qd⟩⟩
theorem lf_call {r : List V → Hp → VK → Prop} {w : TVOA} (hr : ∀ xs H Q, rF Y vf xs H Q → r xs H Q) : ∀ σ H Q, LF Y (wCB vf w) σ H Q → tCB r (LOA Y w) σ H Q := fun σ H Q ⟨g, ρ, S, Qv, Ev, rr, hw, ec, hq⟩ =>
  ⟨g, ρ, S, _, Ev, rr, hw, ec, fun vs H1 g1 ρ1 S1 hs r1 st1 hr1 q1 => by
    obtain ⟨ds, b1, q2⟩ := r1.rsvs hr1 q1
    refine hr _ _ _ ⟨g1, σ, ρ1, S1, ds, _, r1, b1, q2, fun p o d hp ow qd => ?_⟩
    obtain ⟨r2, e2, ow2⟩ := lf_new r1 st1 hp ow
    exact hq p _ g1.sm ρ1 S1 d r2 e2 ow2 qd⟩
/-- a built-in by its name -/
theorem ve_blt {id : String} {w : TVOA} (hc : CallR Y.X (.builtin id) (rV Y vf)) (hg : Gl Y.X x) (hm : Y.X.mg x = none) (hv : bootBuiltins x = some (.builtin id)) (ha : VOA Y (e :: es) w) (hn : x ≠ "__name__" := by decide) (hdb : (x == ("__debug__" : Str)) = false := by decide)
    (he : starEach (e :: es) Y.X.env = (false, eval e Y.X.env) :: starEach es Y.X.env := by rfl) (hpl : (backTo pos (starEach es Y.X.env)).any (·.1) = false := by rfl) : VE Y (.Call (.Name x p) (e :: es) [] pos) (wCB vf w) :=
  PE.imp (pe_callB hc hg hm hv ha hn hdb he hpl) (le_call (t := LOA Y w) fun _ _ _ h => h)
theorem ve_ty {T : String} {w : TVOA} (hc : CallR Y.X (.type T) (rV Y vf)) (hg : Gl Y.X x) (hm : Y.X.mg x = none) (hv : bootBuiltins x = some (.type T)) (ha : VOA Y (e :: es) w) (hn : x ≠ "__name__" := by decide) (hdb : (x == ("__debug__" : Str)) = false := by decide)
    (he : starEach (e :: es) Y.X.env = (false, eval e Y.X.env) :: starEach es Y.X.env := by rfl) (hpl : (backTo pos (starEach es Y.X.env)).any (·.1) = false := by rfl) : VE Y (.Call (.Name x p) (e :: es) [] pos) (wCB vf w) :=
  PE.imp (pe_callTy hc hg hm hv ha hn hdb he hpl) (le_call (t := LOA Y w) fun _ _ _ h => h)
theorem vf_blt {id : String} {w : TVOA} (hc : CallR Y.X (.builtin id) (rF Y vf)) (hg : Gl Y.X x) (hm : Y.X.mg x = none) (hv : bootBuiltins x = some (.builtin id)) (ha : VOA Y (e :: es) w) (hn : x ≠ "__name__" := by decide) (hdb : (x == ("__debug__" : Str)) = false := by decide)
    (he : starEach (e :: es) Y.X.env = (false, eval e Y.X.env) :: starEach es Y.X.env := by rfl) (hpl : (backTo pos (starEach es Y.X.env)).any (·.1) = false := by rfl) : VF Y (.Call (.Name x p) (e :: es) [] pos) (wCB vf w) :=
  PE.imp (pe_callB hc hg hm hv ha hn hdb he hpl) (lf_call fun _ _ _ h => h)
theorem vf_ty {T : String} {w : TVOA} (hc : CallR Y.X (.type T) (rF Y vf)) (hg : Gl Y.X x) (hm : Y.X.mg x = none) (hv : bootBuiltins x = some (.type T)) (ha : VOA Y (e :: es) w) (hn : x ≠ "__name__" := by decide) (hdb : (x == ("__debug__" : Str)) = false := by decide)
    (he : starEach (e :: es) Y.X.env = (false, eval e Y.X.env) :: starEach es Y.X.env := by rfl) (hpl : (backTo pos (starEach es Y.X.env)).any (·.1) = false := by rfl) : VF Y (.Call (.Name x p) (e :: es) [] pos) (wCB vf w) :=
  PE.imp (pe_callTy hc hg hm hv ha hn hdb he hpl) (lf_call fun _ _ _ h => h)
end

/-- of one thing -/
def on1 (f : D → (D → Prop) → Prop) : List D → Sto → (D → Prop) → Prop := fun ds S P => match ds with
  | [d] => f (dr S d) P
  | _ => False
def on2 (f : D → D → (D → Prop) → Prop) : List D → Sto → (D → Prop) → Prop := fun ds S P => match ds with
  | [d, e] => f (dr S d) (dr S e) P
  | _ => False
theorem brws1 {c : Cf} {sm : List Addr} {M : Addr → Prop} {H : Hp} {d : D} {xs : List V} (h : Brws c sm M H [d] xs) : ∃ x, xs = [x] ∧ Brw c sm M H d x := by
  obtain ⟨x, r, e, h1, h2⟩ := h
  have h2 : r = [] := h2
  subst h2
  exact ⟨x, e, h1⟩
theorem brws2 {c : Cf} {sm : List Addr} {M : Addr → Prop} {H : Hp} {d e : D} {xs : List V} (h : Brws c sm M H [d, e] xs) : ∃ x y, xs = [x, y] ∧ Brw c sm M H d x ∧ Brw c sm M H e y := by
  obtain ⟨x, r, e, h1, h2⟩ := h
  obtain ⟨y, q, h3⟩ := brws1 h2
  exact ⟨x, y, by rw [e, q], h1, h3⟩
section
variable {Y : VC}
/-- a built-in of one thing -/
theorem cr_on1 {f : Value} {g1 : D → (D → Prop) → Prop}
    (h : ∀ (pins : List (Addr × Obj)) (s : Shared) (σ : St) (H : Hp) (u : Value) (Q : VK) (g : Gs) (σ' : St) (ρ : En) (S : Sto) (d : D) (x : V) (P : D → Prop), Inv Y.X pins σ H s → RelV x u → R Y.c Y.F g σ' H ρ S → Brw Y.c g.sm (MU Y.F g σ' ρ) H d x → g1 d P →
      (∀ z d H', (∀ b o, H b = some o → H' b = some o) → Rep Y.c g.sm (MU Y.F g σ' ρ) H' d z → P d → Q z H') → wpAny (model Y.X.prog Y.X.w) Y.X.A (call f [u]) (EP Y.X pins σ Q) Y.X.xe s) : CallR Y.X f (rV Y (on1 g1)) := by
  intro pins s σ H xs us Q I rv ⟨g, σ', ρ, S, ds, P, r, b, hv, k⟩
  unfold on1 at hv
  split at hv
  · obtain ⟨x, e, b1⟩ := brws1 b
    subst e
    obtain ⟨u, eu, rx⟩ := vals1 rv
    subst eu
    exact h pins s σ H u Q g σ' ρ S _ x P I rx r (r.dr b1) hv k
  · exact hv.elim
def lenD (d : D) (P : D → Prop) : Prop := match d with
  | .str z => z.length ≤ sizeLine ∧ P (.int z.length)
  | .tup l => P (.int l.length)
  | .lst l => P (.int l.length)
  | .scr l => P (.int l.length)
  | _ => False
theorem cr_len (hK : Y.c.K = Y.X.K) : CallR Y.X (.builtin "len") (rV Y (on1 lenD)) := cr_on1 fun pins s σ H u Q g σ' ρ S d x P I rx r b hv k => by
  unfold lenD at hv
  split at hv
  · obtain rfl := b.str
    exact call_len pins s σ H _ _ Q I (.cons rx .nil) ⟨_, _, rfl, ⟨hv.1, rfl⟩, k _ _ H (fun _ _ h => h) rep_int hv.2⟩
  · obtain ⟨a, vs, e, h1, _, q⟩ := b.tup
    subst e
    exact call_len pins s σ H _ _ Q I (.cons rx .nil) ⟨_, _, rfl, .inr ⟨vs, SqT.of h1, rfl⟩, k _ _ H (fun _ _ h => h) rep_int (by rw [← q.length]; exact hv)⟩
  · obtain ⟨a, vs, e, h1, q⟩ := b.lst
    subst e
    exact call_len pins s σ H _ _ Q I (.cons rx .nil) ⟨_, _, rfl, .inl ⟨vs, SqL.of h1, rfl⟩, k _ _ H (fun _ _ h => h) rep_int (by rw [← q.length]; exact hv)⟩
  · obtain ⟨a, e, h1⟩ := brw_scr b
    subst e
    rw [hK] at h1
    exact call_len pins s σ H _ _ Q I (.cons rx .nil) ⟨_, _, rfl, .inl ⟨_, h1, rfl⟩, k _ _ H (fun _ _ h => h) rep_int (by rw [List.length_map]; exact hv)⟩
  · exact hv.elim
def intD (d : D) (P : D → Prop) : Prop := match d with
  | .int i => P (.int i)
  | .bl b => P (.int (if b then 1 else 0))
  | _ => False
theorem cr_int : CallR Y.X (.type "int") (rV Y (on1 intD)) := cr_on1 fun pins s σ H u Q g σ' ρ S d x P I rx r b hv k => by
  unfold intD at hv
  split at hv
  · exact call_int1 pins s σ H _ _ Q I (.cons rx .nil) (.inl ⟨_, by rw [b.int], k _ _ H (fun _ _ h => h) rep_int hv⟩)
  · exact call_int1 pins s σ H _ _ Q I (.cons rx .nil) (.inr ⟨_, by rw [b.bl], k _ _ H (fun _ _ h => h) rep_int hv⟩)
  · exact hv.elim
def absD (d : D) (P : D → Prop) : Prop := match d with
  | .int i => P (.int (if i < 0 then -i else i))
  | _ => False
theorem cr_abs : CallR Y.X (.builtin "abs") (rV Y (on1 absD)) := cr_on1 fun pins s σ H u Q g σ' ρ S d x P I rx r b hv k => by
  unfold absD at hv
  split at hv
  · exact call_abs pins s σ H _ _ Q I (.cons rx .nil) ⟨_, by rw [b.int], k _ _ H (fun _ _ h => h) rep_int hv⟩
  · exact hv.elim
/-- str of a text -/
def strD (d : D) (P : D → Prop) : Prop := match d with
  | .str i => P (.str i)
  | .int i => i.natAbs.log2 < 1920 ∧ P (.str (toString i))
  | _ => False
theorem cr_str : CallR Y.X (.type "str") (rV Y (on1 strD)) := cr_on1 fun pins s σ H u Q g σ' ρ S d x P I rx r b hv k => by
  unfold strD at hv
  split at hv
  · exact SkE.call_str_str pins s σ H _ _ Q I (.cons rx .nil) ⟨_, by rw [b.str], k _ _ H (fun _ _ h => h) rep_str hv⟩
  · exact call_str_int pins s σ H _ _ Q I (.cons rx .nil) ⟨_, by rw [b.int], hv.1, k _ _ H (fun _ _ h => h) rep_str hv.2⟩
  · exact hv.elim
def tupD (d : D) (P : D → Prop) : Prop := match d with
  | .tup l => P (.tup l)
  | .lst l => P (.tup l)
  | _ => False
theorem cr_tup : CallR Y.X (.type "tuple") (rV Y (on1 tupD)) := cr_on1 fun pins s σ H u Q g σ' ρ S d x P I rx r b hv k => by
  unfold tupD at hv
  split at hv
  · obtain ⟨a, vs, e, h1, n1, q⟩ := b.tup
    subst e
    refine call_tuple_of pins s σ H _ _ Q I (.cons rx .nil) ⟨a, vs, rfl, .inr ⟨SqT.of h1, k _ _ H (fun _ _ h => h) ?_ hv⟩⟩
    simp only [Rep]
    exact ⟨a, vs, rfl, h1, n1, q⟩
  · obtain ⟨a, vs, e, h1, q⟩ := b.lst
    subst e
    exact call_tuple_of pins s σ H _ _ Q I (.cons rx .nil) ⟨a, vs, rfl, .inl ⟨SqL.of h1, fun l hl => k _ _ _ (grow_upd hl) (r.newtup hl q) hv⟩⟩
  · exact hv.elim
def max2D (x y : D) (P : D → Prop) : Prop := match x, y with
  | .int i, .int j => P (.int (if j > i then j else i))
  | _, _ => False
def min2D (x y : D) (P : D → Prop) : Prop := match x, y with
  | .int i, .int j => P (.int (if j < i then j else i))
  | _, _ => False
theorem cr_max2 (hc : Y.X.calm = true) : CallR Y.X (.builtin "max") (rV Y (on2 max2D)) := by
  intro pins s σ H xs us Q I rv ⟨g, σ', ρ, S, ds, P, r, b, hv, k⟩
  unfold on2 at hv
  split at hv
  · obtain ⟨x, y, e, b1, b2⟩ := brws2 b
    have b1 := r.dr b1
    have b2 := r.dr b2
    unfold max2D at hv
    split at hv
    · rename_i e1 e2
      rw [e1] at b1
      rw [e2] at b2
      exact call_max2 hc pins s σ H xs us Q I rv ⟨_, _, by rw [e, b1.int, b2.int], k _ _ H (fun _ _ h => h) rep_int hv⟩
    · exact hv.elim
  · exact hv.elim
theorem cr_min2 (hc : Y.X.calm = true) : CallR Y.X (.builtin "min") (rV Y (on2 min2D)) := by
  intro pins s σ H xs us Q I rv ⟨g, σ', ρ, S, ds, P, r, b, hv, k⟩
  unfold on2 at hv
  split at hv
  · obtain ⟨x, y, e, b1, b2⟩ := brws2 b
    have b1 := r.dr b1
    have b2 := r.dr b2
    unfold min2D at hv
    split at hv
    · rename_i e1 e2
      rw [e1] at b1
      rw [e2] at b2
      exact call_min2 hc pins s σ H xs us Q I rv ⟨_, _, by rw [e, b1.int, b2.int], k _ _ H (fun _ _ h => h) rep_int hv⟩
    · exact hv.elim
  · exact hv.elim
/-- sum, all, any of a list -/
def sumD (d : D) (P : D → Prop) : Prop := match d with
  | .lst l => ∃ ns : List Int, l = ns.map D.int ∧ P (.int ns.sum)
  | _ => False
theorem ints_of {c : Cf} {sm : List Addr} {M : Addr → Prop} {H : Hp} : ∀ {ns : List Int} {vs : List V}, Reps c sm M H (ns.map D.int) vs → vs = ns.map V.int
  | [], vs, h => by simpa only [Reps, List.map_nil] using h
  | n :: ns, vs, h => by
    simp only [List.map_cons, Reps, Rep] at h
    obtain ⟨x, r, e, h1, h2⟩ := h
    rw [e, h1, ints_of h2]
    rfl
theorem bls_of {c : Cf} {sm : List Addr} {M : Addr → Prop} {H : Hp} : ∀ {ns : List Bool} {vs : List V}, Reps c sm M H (ns.map D.bl) vs → vs = ns.map V.bl
  | [], vs, h => by simpa only [Reps, List.map_nil] using h
  | n :: ns, vs, h => by
    simp only [List.map_cons, Reps, Rep] at h
    obtain ⟨x, r, e, h1, h2⟩ := h
    rw [e, h1, bls_of h2]
    rfl
theorem txts_of {c : Cf} {sm : List Addr} {M : Addr → Prop} {H : Hp} : ∀ {ns : List Str} {vs : List V}, Reps c sm M H (ns.map D.str) vs → vs = ns.map V.str
  | [], vs, h => by simpa only [Reps, List.map_nil] using h
  | n :: ns, vs, h => by
    simp only [List.map_cons, Reps, Rep] at h
    obtain ⟨x, r, e, h1, h2⟩ := h
    rw [e, h1, txts_of h2]
    rfl
theorem reps_txts {c : Cf} {sm : List Addr} {M : Addr → Prop} {H : Hp} : ∀ ns : List Str, Reps c sm M H (ns.map D.str) (ns.map V.str)
  | [] => by simp only [Reps, List.map_nil]
  | n :: ns => by
    simp only [List.map_cons, Reps]
    exact ⟨_, _, rfl, rep_str, reps_txts ns⟩
theorem cr_sumL (hc : Y.X.calm = true) : CallR Y.X (.builtin "sum") (rV Y (on1 sumD)) := cr_on1 fun pins s σ H u Q g σ' ρ S d x P I rx r b hv k => by
  unfold sumD at hv
  split at hv
  · obtain ⟨ns, e1, hv⟩ := hv
    subst e1
    obtain ⟨a, vs, e, h1, q⟩ := b.lst
    subst e
    rw [ints_of q] at h1
    exact cr_sum hc pins s σ H _ _ Q I (.cons rx .nil) ⟨a, ns, rfl, SqL.of h1, k _ _ H (fun _ _ h => h) rep_int hv⟩
  · exact hv.elim
def allD (d : D) (P : D → Prop) : Prop := match d with
  | .lst l => ∃ ns : List Bool, l = ns.map D.bl ∧ P (.bl (ns.all id))
  | _ => False
def anyD (d : D) (P : D → Prop) : Prop := match d with
  | .lst l => ∃ ns : List Bool, l = ns.map D.bl ∧ P (.bl (ns.any id))
  | _ => False
theorem cr_allL (hc : Y.X.calm = true) : CallR Y.X (.builtin "all") (rV Y (on1 allD)) := cr_on1 fun pins s σ H u Q g σ' ρ S d x P I rx r b hv k => by
  unfold allD at hv
  split at hv
  · obtain ⟨ns, e1, hv⟩ := hv
    subst e1
    obtain ⟨a, vs, e, h1, q⟩ := b.lst
    subst e
    rw [bls_of q] at h1
    exact cr_all hc pins s σ H _ _ Q I (.cons rx .nil) ⟨a, ns, rfl, SqL.of h1, k _ _ H (fun _ _ h => h) rep_bl hv⟩
  · exact hv.elim
theorem cr_anyL (hc : Y.X.calm = true) : CallR Y.X (.builtin "any") (rV Y (on1 anyD)) := cr_on1 fun pins s σ H u Q g σ' ρ S d x P I rx r b hv k => by
  unfold anyD at hv
  split at hv
  · obtain ⟨ns, e1, hv⟩ := hv
    subst e1
    obtain ⟨a, vs, e, h1, q⟩ := b.lst
    subst e
    rw [bls_of q] at h1
    exact cr_any hc pins s σ H _ _ Q I (.cons rx .nil) ⟨a, ns, rfl, SqL.of h1, k _ _ H (fun _ _ h => h) rep_bl hv⟩
  · exact hv.elim
/-- new things of one thing -/
theorem cf_on1 {f : Value} {g1 : D → (D → Prop) → Prop}
    (h : ∀ (pins : List (Addr × Obj)) (s : Shared) (σ : St) (H : Hp) (u : Value) (Q : VK) (g : Gs) (σ' : St) (ρ : En) (S : Sto) (d : D) (x : V) (P : D → Prop), Inv Y.X pins σ H s → RelV x u → R Y.c Y.F g σ' H ρ S → Brw Y.c g.sm (MU Y.F g σ' ρ) H d x → g1 d P →
      (∀ p o d, H p = none → OwnC Y.c g.sm (MU Y.F g σ' ρ) H o d → P d → Q (.ref p) (upd H p o)) → wpAny (model Y.X.prog Y.X.w) Y.X.A (call f [u]) (EP Y.X pins σ Q) Y.X.xe s) : CallR Y.X f (rF Y (on1 g1)) := by
  intro pins s σ H xs us Q I rv ⟨g, σ', ρ, S, ds, P, r, b, hv, k⟩
  unfold on1 at hv
  split at hv
  · obtain ⟨x, e, b1⟩ := brws1 b
    subst e
    obtain ⟨u, eu, rx⟩ := vals1 rv
    subst eu
    exact h pins s σ H u Q g σ' ρ S _ x P I rx r (r.dr b1) hv k
  · exact hv.elim
def listD (d : D) (P : D → Prop) : Prop := match d with
  | .tup l => P (.lst l)
  | .lst l => P (.lst l)
  | _ => False
theorem cf_list : CallR Y.X (.type "list") (rF Y (on1 listD)) := cf_on1 fun pins s σ H u Q g σ' ρ S d x P I rx r b hv k => by
  unfold listD at hv
  split at hv
  · obtain ⟨a, vs, e, h1, n1, q⟩ := b.tup
    subst e
    exact call_list_of pins s σ H _ _ Q I (.cons rx .nil) ⟨a, vs, rfl, .inr (SqT.of h1), fun l hl => k l _ (.lst _) hl ⟨vs, rfl, q⟩ hv⟩
  · obtain ⟨a, vs, e, h1, q⟩ := b.lst
    subst e
    exact call_list_of pins s σ H _ _ Q I (.cons rx .nil) ⟨a, vs, rfl, .inl (SqL.of h1), fun l hl => k l _ (.lst _) hl ⟨vs, rfl, q⟩ hv⟩
  · exact hv.elim
/-- sorted, of texts -/
def sortedD (d : D) (P : D → Prop) : Prop := match d with
  | .lst l => ∃ ns : List Str, l = ns.map D.str ∧ ns.length < 64 ∧ ∀ ys : List Str, ys.Perm ns → sortedS ys = true → P (.lst (ys.map D.str))
  | _ => False
theorem cf_sorted : CallR Y.X (.builtin "sorted") (rF Y (on1 sortedD)) := cf_on1 fun pins s σ H u Q g σ' ρ S d x P I rx r b hv k => by
  unfold sortedD at hv
  split at hv
  · obtain ⟨ns, e1, hl, hv⟩ := hv
    subst e1
    obtain ⟨a, vs, e, h1, q⟩ := b.lst
    subst e
    rw [txts_of q] at h1
    exact cr_sortedS pins s σ H _ _ Q I (.cons rx .nil) ⟨a, ns, rfl, SqL.of h1, hl, fun ys p pm so hp => k p _ (.lst _) hp ⟨_, rfl, reps_txts ys⟩ (hv ys pm so)⟩
  · exact hv.elim
end

/-! ### methods of built-in types -/
/-- e.m(..) of a text or a list that is only looked at -/
def wBM (vf : D → List D → Sto → (D → Prop) → Prop) (wo : TVO) (wa : TVOA) : TV := fun ρ S Q E => wo ρ S (fun h ρ1 S1 => wa ρ1 S1 (fun hs ρ2 S2 => rsv ρ2 h fun x => rsvs ρ2 hs fun ds => vf (dr S2 x) ds S2 fun d => Q d ρ2 S2) E) E
end VL

set_option Elab.async false
set_option linter.all false
set_option autoImplicit false
set_option maxRecDepth 100000
/-! VLCall: what a def does to plain data (FW), its promise, its calls. -/
namespace VL
open PySem PySem.Spec PyProof.Rows L2

/-- what a call does: the arguments, the store, what follows, what is raised -/
abbrev FW := List D → Sto → (D → Sto → Prop) → (Ex → Sto → Prop) → Prop

/-- the store behind a call -/
structure Post (c : Cf) (Mo : Addr → Prop) (ex : Addr → Prop) (sm : List Addr) (H : Hp) (sm' : List Addr) (H' : Hp) (S' : Sto) : Prop where
  smx : ∃ more, sm' = sm ++ more ∧ ∀ a ∈ more, H a = none
  nd : sm'.Nodup
  mo : ∀ a ∈ sm', ¬ Mo a
  keep : ∀ b o, H b = some o → b ∉ sm → ¬ ex b → H' b = some o
  sto : Stored c sm' (fun a => Mo a ∨ a ∈ sm') H' S'
/-- the promise of a def that does w -/
def spV (c : Cf) (w : FW) : Sp := fun vs H Q E => ∃ (Mo : Addr → Prop) (sm : List Addr) (ds : List D) (S : Sto) (Qv : D → Sto → Prop) (Ev : Ex → Sto → Prop),
  (∀ a, Mo a → ∃ o, H a = some o) ∧ sm.Nodup ∧ (∀ a ∈ sm, ¬ Mo a) ∧ Stored c sm (fun a => Mo a ∨ a ∈ sm) H S ∧ Reps c sm (fun a => Mo a ∨ a ∈ sm) H ds vs ∧ w ds S Qv Ev ∧
  (∀ v H' sm' S' d, Post c Mo (fun _ => False) sm H sm' H' S' → Rep c sm' (fun a => Mo a ∨ a ∈ sm') H' d v → Qv d S' → Q v H') ∧
  (∀ x cls dx H' sm' S', Post c Mo (fun _ => False) sm H sm' H' S' → ExIs c sm' (fun a => Mo a ∨ a ∈ sm') H' x cls dx → Ev x S' → E cls dx H')

/-- what the callee may not touch -/
def MoOf (F : Fr) (g : Gs) (σ : St) (ρ : En) : Addr → Prop := fun a => F.Mo a ∨ a ∈ g.tm ∨ ∃ (i : Nat) (d : D), ρ[i]? = some (Sl.o d) ∧ σ[i]? = some (some (V.ref a))
theorem mu_mo {F : Fr} {g : Gs} {σ : St} {ρ : En} : MU F g σ ρ = fun a => MoOf F g σ ρ a ∨ a ∈ g.sm := by
  funext a
  apply propext
  unfold MU MoOf
  constructor
  · rintro (h | h | h | h)
    · exact .inl (.inl h)
    · exact .inr h
    · exact .inl (.inr (.inl h))
    · exact .inl (.inr (.inr h))
  · rintro ((h | h | h) | h)
    · exact .inl h
    · exact .inr (.inr (.inl h))
    · exact .inr (.inr (.inr h))
    · exact .inr (.inl h)
section
variable {c : Cf} {F : Fr} {g : Gs} {σ : St} {H H' : Hp} {ρ : En} {S S' : Sto} {sm' : List Addr}
theorem R.mo_there (r : R c F g σ H ρ S) : ∀ a, MoOf F g σ ρ a → ∃ o, H a = some o := fun a h => r.tracked (by rw [mu_mo]; exact .inl h)
theorem R.sm_mo (r : R c F g σ H ρ S) : ∀ a ∈ g.sm, ¬ MoOf F g σ ρ a := fun a h m => by
  rcases m with m | m | ⟨i, d, h1, h2⟩
  · exact (r.smo a h).1 m
  · exact (r.smo a h).2.1 m
  · exact (r.sep i d a h1 h2).2.1 h
/-- behind a call that may have changed the things at ex -/
theorem R.after {ex : Addr → Prop} {ρ' : En} (r : R c F g σ H ρ S) (p : Post c (MoOf F g σ ρ) ex g.sm H sm' H' S') (hex : ∀ a, ex a → MoOf F g σ ρ a ∧ ¬ F.Mo a) (hl : ρ'.length = ρ.length)
    (hv : ∀ (i : Nat) (d : D), ρ'[i]? = some (Sl.v d) → ρ[i]? = some (Sl.v d))
    (ho : ∀ (i : Nat) (d : D), ρ'[i]? = some (Sl.o d) → ∃ d0, ρ[i]? = some (Sl.o d0) ∧ ∀ a, σ[i]? = some (some (V.ref a)) → (¬ ex a ∧ d = d0) ∨ Own c sm' (fun a => MoOf F g σ ρ a ∨ a ∈ sm') H' a d)
    (ho2 : ∀ (i : Nat) (d : D), ρ[i]? = some (Sl.o d) → ∃ d1, ρ'[i]? = some (Sl.o d1))
    (hxt : ∀ a, ex a → ∃ o, H' a = some o ∧ Mut (some o)) (hxs : ∀ (i : Nat) (ex : Ex), ρ'[i]? = some (Sl.x ex) → ρ[i]? = some (Sl.x ex) := by first | exact fun _ _ h => h | exact fun _ _ h => (x_set h).1) :
    R c F ⟨sm', g.tm⟩ σ H' ρ' S' ∧ Stp F g σ ρ H ⟨sm', g.tm⟩ σ ρ' H' ∧ MU F ⟨sm', g.tm⟩ σ ρ' = fun a => MoOf F g σ ρ a ∨ a ∈ sm' := by
  have em : MU F ⟨sm', g.tm⟩ σ ρ' = fun a => MoOf F g σ ρ a ∨ a ∈ sm' := by
    rw [mu_mo]
    funext a
    apply propext
    unfold MoOf
    constructor
    · rintro ((h | h | ⟨i, d, h1, h2⟩) | h)
      · exact .inl (.inl h)
      · exact .inl (.inr (.inl h))
      · obtain ⟨d0, h0, _⟩ := ho i d h1
        exact .inl (.inr (.inr ⟨i, d0, h0, h2⟩))
      · exact .inr h
    · rintro ((h | h | ⟨i, d, h1, h2⟩) | h)
      · exact .inl (.inl h)
      · exact .inl (.inr (.inl h))
      · obtain ⟨d1, h0⟩ := ho2 i d h1
        exact .inl (.inr (.inr ⟨i, d1, h0, h2⟩))
      · exact .inr h
  obtain ⟨more, e1, hm⟩ := p.smx
  have nex : ∀ b, ¬ MU F g σ ρ b → ¬ ex b := fun b n z => n (by rw [mu_mo]; exact .inl (hex b z).1)
  have ex' : Ext g.sm (MU F g σ ρ) H sm' (MU F ⟨sm', g.tm⟩ σ ρ') H' := by
    refine ⟨⟨more, e1⟩, fun b o h n => p.keep b o h (fun z => n (.inr (.inl z))) (nex b n), fun b h => ?_⟩
    rw [em] at h
    rcases h with h | h
    · exact .inl (by rw [mu_mo]; exact .inl h)
    · rw [e1] at h
      rcases List.mem_append.mp h with h | h
      · exact .inl (.inr (.inl h))
      · exact .inr (hm b h)
  have kp : ∀ a, MoOf F g σ ρ a → ¬ ex a → ∀ o, H a = some o → H' a = some o := fun a m ne o h => p.keep a o h (fun z => r.sm_mo a z m) ne
  have inSm : ∀ a ∈ sm', a ∈ g.sm ∨ H a = none := fun a h => by
    rw [e1] at h
    rcases List.mem_append.mp h with h | h
    · exact .inl h
    · exact .inr (hm a h)
  refine ⟨⟨hl.trans r.len, fun i d h => ?_, fun i d h => ?_, fun i j d e a h1 h2 h3 h4 => ?_, fun i d a h1 h2 => ?_, by rw [em]; exact p.sto, p.nd, fun a h => ?_, fun a h => ?_, r.tmn, ?_, fun b o h n => ?_, r.moT, fun a h => ?_, fun p hp d h => let ⟨d0, h0, _⟩ := ho 0 d h; r.fx p hp d0 h0, fun i ex h => r.xe ex' i ex (hxs i ex h)⟩, ⟨rfl, ex'⟩, em⟩
  · obtain ⟨x, h1, h2⟩ := r.val i d (hv i d h)
    exact ⟨x, h1, h2.ext ex'⟩
  · obtain ⟨d0, h0, q⟩ := ho i d h
    obtain ⟨a, h1, h2⟩ := r.own i d0 h0
    refine ⟨a, h1, ?_⟩
    rcases q a h1 with ⟨ne, e⟩ | q
    · subst e
      exact h2.ext ex' (kp a (.inr (.inr ⟨i, d, h0, h1⟩)) ne)
    · rw [em]
      exact q
  · obtain ⟨d0, q1, _⟩ := ho i d h1
    obtain ⟨e0, q2, _⟩ := ho j e h2
    exact r.inj i j d0 e0 a q1 q2 h3 h4
  · obtain ⟨d0, q0, _⟩ := ho i d h1
    obtain ⟨q1, q2, q3, q4⟩ := r.sep i d0 a q0 h2
    exact ⟨q1, fun z => p.mo a z (.inr (.inr ⟨i, d0, q0, h2⟩)), q3, q4⟩
  · refine ⟨fun z => p.mo a h (.inl z), fun z => p.mo a h (.inr (.inl z)), ?_⟩
    rcases inSm a h with z | z
    · exact (r.smo a z).2.2
    · cases q : F.H0 a with
      | none => exact .inl rfl
      | some u =>
        by_cases y : F.exc a
        · exact .inr y
        · have := r.keep a u q y
          rw [z] at this; cases this
  · obtain ⟨q1, q2, o, q3, q4⟩ := r.tmo a h
    refine ⟨q1, q2, ?_⟩
    by_cases y : ex a
    · exact hxt a y
    · exact ⟨o, kp a (.inr (.inl h)) y o q3, q4⟩
  · obtain ⟨m0, e0, h0⟩ := r.pre
    refine ⟨m0 ++ more, by rw [show (⟨sm', g.tm⟩ : Gs).sm = sm' from rfl, e1, e0, List.append_assoc], fun a h => ?_⟩
    rcases List.mem_append.mp h with h | h
    · exact h0 a h
    · cases q : F.H0 a with
      | none => rfl
      | some u =>
        by_cases y : F.exc a
        · obtain ⟨o, z⟩ := r.exT a y
          rw [hm a h] at z; cases z
        · have := r.keep a u q y
          rw [hm a h] at this; cases this
  · have h1 := r.keep b o h n
    by_cases z : b ∈ g.sm
    · rcases (r.smo b z).2.2 with y | y
      · rw [h] at y; cases y
      · exact absurd y n
    · refine p.keep b o h1 z fun y => ?_
      rcases (hex b y).1 with m | m | ⟨i, d, m1, m2⟩
      · exact (hex b y).2 m
      · have q := (r.tmo b m).2.1
        rw [h] at q; cases q
      · rcases (r.sep i d b m1 m2).2.2.2 with q | q
        · rw [h] at q; cases q
        · exact n q
  · obtain ⟨o, e⟩ := r.exT a h
    by_cases z : a ∈ g.sm
    · obtain ⟨n, hn, en⟩ := List.mem_iff_getElem.mp (show a ∈ sm' by rw [e1]; exact List.mem_append_left _ z)
      have hn' : n < S'.length := by rw [← p.sto.1]; exact hn
      obtain ⟨u, hu, _⟩ := (p.sto.2 n a _ (by rw [List.getElem?_eq_getElem hn, en]) (List.getElem?_eq_getElem hn')).there
      exact ⟨u, hu⟩
    · by_cases y : ex a
      · obtain ⟨u, hu, _⟩ := hxt a y
        exact ⟨u, hu⟩
      · exact ⟨o, p.keep a o e z y⟩
/-- behind a call -/
theorem R.called (r : R c F g σ H ρ S) (p : Post c (MoOf F g σ ρ) (fun _ => False) g.sm H sm' H' S') :
    R c F ⟨sm', g.tm⟩ σ H' ρ S' ∧ Stp F g σ ρ H ⟨sm', g.tm⟩ σ ρ H' ∧ MU F ⟨sm', g.tm⟩ σ ρ = fun a => MoOf F g σ ρ a ∨ a ∈ sm' :=
  r.after p (fun _ h => h.elim) rfl (fun _ _ h => h) (fun i d h => ⟨d, h, fun _ _ => .inl ⟨fun z => z, rfl⟩⟩) (fun i d h => ⟨d, h⟩) fun _ h => h.elim
/-- a smaller set of what may change -/
theorem less_ext {sm : List Addr} {M M' : Addr → Prop} (h : ∀ a, M' a → M a) : Ext sm M H sm M' H := ⟨⟨[], by simp⟩, fun _ _ h _ => h, fun a z => .inl (h a z)⟩
end

/-! ### a def's run -/
/-- the slots at the entry -/
def startE (n : Nat) (ds : List D) : En := ds.map Sl.v ++ List.replicate (n - ds.length) Sl.un
/-- what a def does, from its body: n slots, np parameters -/
def runV (n np : Nat) (wb : TVS) : FW := fun ds S Q E => ds.length = np ∧ wb (startE n ds) S (fun o _ S' => match o with
  | .nx => Q .non S'
  | .rt d => Q d S'
  | _ => False) fun x _ S' => E x S'
theorem startE_v {n : Nat} {ds : List D} {i : Nat} {d : D} (h : (startE n ds)[i]? = some (Sl.v d)) : ds[i]? = some d := by
  unfold startE at h
  by_cases hi : i < ds.length
  · rw [List.getElem?_append_left (by simpa using hi), List.getElem?_map] at h
    cases e : ds[i]? with
    | none => rw [e] at h; cases h
    | some x =>
      rw [e] at h
      have h : some (Sl.v x) = some (Sl.v d) := h
      cases h
      rfl
  · rw [List.getElem?_append_right (by simpa using hi), List.getElem?_replicate] at h
    split at h <;> cases h
theorem startE_x {n : Nat} {ds : List D} {i : Nat} {ex : Ex} (h : (startE n ds)[i]? = some (Sl.x ex)) : False := by
  unfold startE at h
  by_cases hi : i < ds.length
  · rw [List.getElem?_append_left (by simpa using hi), List.getElem?_map] at h
    cases e : ds[i]? with
    | none => rw [e] at h; cases h
    | some x =>
      rw [e] at h
      have h : some (Sl.v x) = some (Sl.x ex) := h
      cases h
  · rw [List.getElem?_append_right (by simpa using hi), List.getElem?_replicate] at h
    split at h <;> cases h
theorem startE_o {n : Nat} {ds : List D} {i : Nat} {d : D} (h : (startE n ds)[i]? = some (Sl.o d)) : False := by
  unfold startE at h
  by_cases hi : i < ds.length
  · rw [List.getElem?_append_left (by simpa using hi), List.getElem?_map] at h
    cases e : ds[i]? with
    | none => rw [e] at h; cases h
    | some x =>
      rw [e] at h
      have h : some (Sl.v x) = some (Sl.o d) := h
      cases h
  · rw [List.getElem?_append_right (by simpa using hi), List.getElem?_replicate] at h
    split at h <;> cases h
section
variable {c : Cf} {H : Hp} {S : Sto} {Mo : Addr → Prop} {sm : List Addr} {ds : List D} {vs : List V} {N : List Str}
abbrev FrV (H : Hp) (Mo : Addr → Prop) (sm : List Addr) : Fr := ⟨H, fun a => a ∈ sm, sm, Mo, none, fun _ _ _ => False⟩
theorem mu_startV {n : Nat} : MU (FrV H Mo sm) ⟨sm, []⟩ (L2.start N vs) (startE n ds) = fun a => Mo a ∨ a ∈ sm := by
  funext a
  apply propext
  constructor
  · rintro (h | h | h | ⟨i, d, h1, _⟩)
    · exact .inl h
    · exact .inr h
    · cases h
    · exact (startE_o h1).elim
  · rintro (h | h)
    · exact .inl h
    · exact .inr (.inl h)
theorem start_len {N : List Str} {vs : List V} (h : vs.length ≤ N.length) : (L2.start N vs).length = N.length := by
  unfold L2.start
  rw [List.length_append, List.length_map, List.length_replicate]
  omega
theorem R.startV (h1 : ∀ a, Mo a → ∃ o, H a = some o) (h2 : sm.Nodup) (h3 : ∀ a ∈ sm, ¬ Mo a) (h4 : Stored c sm (fun a => Mo a ∨ a ∈ sm) H S) (h5 : Reps c sm (fun a => Mo a ∨ a ∈ sm) H ds vs) (hl : vs.length ≤ N.length) :
    R c (FrV H Mo sm) ⟨sm, []⟩ (L2.start N vs) H (startE N.length ds) S := by
  have em := mu_startV (H := H) (Mo := Mo) (sm := sm) (N := N) (vs := vs) (ds := ds) (n := N.length)
  refine ⟨?_, fun i d h => ?_, fun i d h => (startE_o h).elim, fun i _ _ _ _ h => (startE_o h).elim, fun i _ _ h => (startE_o h).elim, by rw [em]; exact h4, h2, fun a h => ⟨h3 a h, (fun z => nomatch z), Or.inr h⟩, (fun a h => nomatch h), List.nodup_nil, ⟨[], by simp, (fun _ z => nomatch z)⟩, fun b o h _ => h, fun a h => ?_, fun a h => ?_, (fun _ h => nomatch h), fun _ _ h => (startE_x h).elim⟩
  · rw [start_len hl]
    unfold startE
    rw [List.length_append, List.length_map, List.length_replicate]
    have := h5.length
    omega
  · obtain ⟨v, e1, e2⟩ := h5.get (startE_v h)
    refine ⟨v, ?_, by rw [em]; exact e2⟩
    unfold L2.start
    have hi := (List.getElem?_eq_some_iff.mp e1).1
    rw [List.getElem?_append_left (by simpa using hi), List.getElem?_map, e1]
    rfl
  · obtain ⟨o, e⟩ := h1 a h
    exact ⟨o, e, fun z => h3 a z h⟩
  · obtain ⟨n, hn, e⟩ := List.mem_iff_getElem.mp h
    have hn' : n < S.length := by rw [← h4.1]; exact hn
    obtain ⟨o, ho, _⟩ := (h4.2 n a _ (by rw [List.getElem?_eq_getElem hn, e]) (List.getElem?_eq_getElem hn')).there
    exact ⟨o, ho⟩
/-- at the end of a def's run -/
theorem R.endV {g' : Gs} {σ' : St} {H' : Hp} {ρ' : En} {S' : Sto} (r : R c (FrV H Mo sm) g' σ' H' ρ' S') : Post c Mo (fun _ => False) sm H g'.sm H' S' ∧ Ext g'.sm (MU (FrV H Mo sm) g' σ' ρ') H' g'.sm (fun a => Mo a ∨ a ∈ g'.sm) H' := by
  have e : Ext g'.sm (MU (FrV H Mo sm) g' σ' ρ') H' g'.sm (fun a => Mo a ∨ a ∈ g'.sm) H' := less_ext fun a h => by
    rcases h with h | h
    · exact .inl h
    · exact .inr (.inl h)
  exact ⟨⟨r.pre, r.smn, fun a h => (r.smo a h).1, fun b o h n _ => r.keep b o h n, ⟨r.sto.1, fun n a d q1 q2 => (r.sto.2 n a d q1 q2).ext e fun _ z => z⟩⟩, e⟩
end
end VL

set_option Elab.async false
set_option linter.all false
set_option autoImplicit false
set_option maxRecDepth 100000
/-! VLDef: calls of defs, methods, classes; a def by its body. -/
namespace VL
open PySem PySem.Spec PyProof.Rows L2

/-- what an __init__ does: the class of what is made, its attributes so far, the arguments -/
abbrev FWI := String → List (String × D) → List D → Sto → (List (String × D) → Sto → Prop) → (Ex → Sto → Prop) → Prop
def spI (c : Cf) (w : FWI) : Sp := fun vs H Q E => ∃ (Mo : Addr → Prop) (sm : List Addr) (p dx : Addr) (cl : String) (fs : List (String × D)) (vfs : List (Str × V)) (args : List V) (ds : List D) (S : Sto) (Qv : List (String × D) → Sto → Prop) (Ev : Ex → Sto → Prop),
  vs = V.ref p :: args ∧ H p = some (.ins (c.ca cl) dx vfs) ∧ GoodI c cl fs ∧ RepF c sm (fun a => Mo a ∨ a ∈ sm) H fs vfs ∧ Mo p ∧
  (∀ a, Mo a → ∃ o, H a = some o) ∧ sm.Nodup ∧ (∀ a ∈ sm, ¬ Mo a) ∧ Stored c sm (fun a => Mo a ∨ a ∈ sm) H S ∧ Reps c sm (fun a => Mo a ∨ a ∈ sm) H ds args ∧ w cl fs ds S Qv Ev ∧
  (∀ H' sm' S' fs', Post c Mo (fun a => a = p) sm H sm' H' S' → Own c sm' (fun a => Mo a ∨ a ∈ sm') H' p (.obj cl fs') → Qv fs' S' → Q .non H') ∧
  (∀ x cls dx H' sm' S', Post c Mo (fun a => a = p) sm H sm' H' S' → (∃ o, H' p = some o ∧ Mut (some o)) → ExIs c sm' (fun a => Mo a ∨ a ∈ sm') H' x cls dx → Ev x S' → E cls dx H')

/-- a def of the module by its name -/
structure GF (c : Cf) (fa : String → Addr) (mg : Str → Option Value) (f : String) : Prop where
  mg : mg (toS f) = some (.ref (fa f))
  kp : PySem.W.keepIn c.K (.ref (fa f)) = true
/-- a class of the module by its name, its __init__ -/
structure GC (c : Cf) (fa : String → Addr) (mg : Str → Option Value) (cl f : String) : Prop where
  mg : mg (toS cl) = some (.ref (c.ca cl))
  made : Mk c.K (c.ca cl) (fa f)
  cls : Cls c.K (c.ca cl)

/-- the promise of a def whose result is new and nobody else's -/
def spVF (c : Cf) (w : FW) : Sp := fun vs H Q E => ∃ (Mo : Addr → Prop) (sm : List Addr) (ds : List D) (S : Sto) (Qv : D → Sto → Prop) (Ev : Ex → Sto → Prop),
  (∀ a, Mo a → ∃ o, H a = some o) ∧ sm.Nodup ∧ (∀ a ∈ sm, ¬ Mo a) ∧ Stored c sm (fun a => Mo a ∨ a ∈ sm) H S ∧ Reps c sm (fun a => Mo a ∨ a ∈ sm) H ds vs ∧ w ds S Qv Ev ∧
  (∀ a H' sm' S' d, H a = none → Post c (fun b => Mo b ∨ b = a) (fun _ => False) sm H sm' H' S' → Own c sm' (fun b => (Mo b ∨ b = a) ∨ b ∈ sm') H' a d → Qv d S' → Q (.ref a) H') ∧
  (∀ x cls dx H' sm' S', Post c Mo (fun _ => False) sm H sm' H' S' → ExIs c sm' (fun a => Mo a ∨ a ∈ sm') H' x cls dx → Ev x S' → E cls dx H')
/-- what the defs do: as values; where the result is new -/
structure Tab where
  w : String → FW
  fr : String → FW
instance : CoeFun Tab (fun _ => String → FW) := ⟨Tab.w⟩
instance : Coe Tab (String → FW) := ⟨Tab.w⟩

/-- what stands around a body: the callees' promises -/
structure Gd (Y : VC) (fa : String → Addr) (k : Nat) (T : Tab) (TI : String → FWI) : Prop where
  f0 : ∀ f, FnR Y.X.prog Y.X.w Y.X.K Y.X.mg Y.X.base (L2.CX Y.X.prog Y.X.w) k (fa f) (spV Y.c (T f))
  f1 : ∀ f, FnR Y.X.prog Y.X.w Y.X.K Y.X.mg Y.X.base (L2.CX Y.X.prog Y.X.w) k (fa f) (spVF Y.c (T.fr f))
  i0 : ∀ f, FnR Y.X.prog Y.X.w Y.X.K Y.X.mg Y.X.base (L2.CX Y.X.prog Y.X.w) k (fa f) (spI Y.c (TI f))
  hr0 : Room (k + 3) Y.X.A
  tk : Takes Y.X Y.W
  cm : Y.X.calm = true
  hK : Y.c.K = Y.X.K
theorem Gd.fn {Y : VC} {fa : String → Addr} {k : Nat} {T : Tab} {TI : String → FWI} (G : Gd Y fa k T TI) (f : String) : FnR Y.X.prog Y.X.w Y.X.K Y.X.mg Y.X.base (L2.CX Y.X.prog Y.X.w) (k + 1) (fa f) (spV Y.c (T f)) := (G.f0 f).mono (by omega)
theorem Gd.ff {Y : VC} {fa : String → Addr} {k : Nat} {T : Tab} {TI : String → FWI} (G : Gd Y fa k T TI) (f : String) : FnR Y.X.prog Y.X.w Y.X.K Y.X.mg Y.X.base (L2.CX Y.X.prog Y.X.w) (k + 1) (fa f) (spVF Y.c (T.fr f)) := (G.f1 f).mono (by omega)
theorem Gd.fi {Y : VC} {fa : String → Addr} {k : Nat} {T : Tab} {TI : String → FWI} (G : Gd Y fa k T TI) (f : String) : FnR Y.X.prog Y.X.w Y.X.K Y.X.mg Y.X.base (L2.CX Y.X.prog Y.X.w) k (fa f) (spI Y.c (TI f)) := G.i0 f
theorem Gd.hr {Y : VC} {fa : String → Addr} {k : Nat} {T : Tab} {TI : String → FWI} (G : Gd Y fa k T TI) : Room (k + 1) Y.X.A := G.hr0.mono (by omega)
theorem Gd.hu {Y : VC} {fa : String → Addr} {k : Nat} {T : Tab} {TI : String → FWI} (G : Gd Y fa k T TI) : Y.X.A.units + 65 < cLine := by have := G.hr.un; omega
theorem Gd.hu4 {Y : VC} {fa : String → Addr} {k : Nat} {T : Tab} {TI : String → FWI} (G : Gd Y fa k T TI) : Y.X.A.units + 64 < cLine := by have := G.hr.un; omega

section
variable {X : Cx} {W : WX} {k : Nat} {f : Addr} {sp : Sp} {pins : List (Addr × Obj)} {σ : St} {H : Hp} {s : Shared} {Q : VK} {us : List Value} {vs : List V}
theorem run_fnV (F : FnR X.prog X.w X.K X.mg X.base (L2.CX X.prog X.w) k f sp) (hr : Room k X.A) (tk : Takes X W) (I : Inv X pins σ H s) (r : Vals vs us) (h : sp vs H Q (fun cls d H' => W cls d σ H')) :
    codeAny (model X.prog X.w) X.A (.call (.ref f) ⟨us, []⟩) (fun r s' => match r with | .ok (.ret v) => EP X pins σ Q v s' | .ok _ => False | .error e => X.xe e s') s := by
  refine codeAny_mono (F X.A X.stack s H us vs Q _ hr I.env0 r h) fun r s' hq => ?_
  cases r with
  | error e => exact tk e s' (XE.of_call (σ := σ) I (fun cls d H' h => h) hq)
  | ok fl =>
    cases fl with
    | ret u => exact I.after hq
    | next => exact False.elim hq
    | brk => exact False.elim hq
    | cont => exact False.elim hq
end
section
variable {Y : VC} {fa : String → Addr} {k : Nat} {T : Tab} {TI : String → FWI} {g : Gs} {σ : St} {ρ : En} {H : Hp} {S : Sto} {ds : List D} {vs : List V} {Qv : D → Sto → Prop} {Ev : QE} {Q : VK}
/-- a callee's promise, from here -/
theorem spV_here {w : FW} (r : R Y.c Y.F g σ H ρ S) (ec : EC Y g σ ρ H Ev) (rp : Reps Y.c g.sm (MU Y.F g σ ρ) H ds vs) (hw : w ds S Qv (fun x S' => Ev x ρ S'))
    (hq : ∀ v H' g' S' d, R Y.c Y.F g' σ H' ρ S' → Stp Y.F g σ ρ H g' σ ρ H' → Rep Y.c g'.sm (MU Y.F g' σ ρ) H' d v → Qv d S' → Q v H') : spV Y.c w vs H Q (fun cls d H' => Y.W cls d σ H') := by
  have em : MU Y.F g σ ρ = fun a => MoOf Y.F g σ ρ a ∨ a ∈ g.sm := mu_mo
  refine ⟨MoOf Y.F g σ ρ, g.sm, ds, S, Qv, fun x S' => Ev x ρ S', r.mo_there, r.smn, r.sm_mo, by rw [← em]; exact r.sto, by rw [← em]; exact rp, hw, fun v H' sm' S' d p rp' q => ?_, fun x cls dx H' sm' S' p xi q => ?_⟩
  · obtain ⟨r2, st, em2⟩ := r.called p
    exact hq v H' ⟨sm', g.tm⟩ S' d r2 st (by rw [em2]; exact rp') q
  · obtain ⟨r2, st, em2⟩ := r.called p
    exact ec x cls dx σ H' ⟨sm', g.tm⟩ ρ S' r2 st (by rw [em2]; exact xi) q
end

/-! ### calls -/
def wCall (w : FW) (wa : TVA) : TV := fun ρ S Q E => wa ρ S (fun ds ρ1 S1 => w ds S1 (fun d S2 => Q d ρ1 S2) (fun x S2 => E x ρ1 S2)) E
section
variable {Y : VC} {fa : String → Addr} {k : Nat} {T : Tab} {TI : String → FWI} {e : Expr} {es : List Expr} {wa : TVA} {pos p apos : Pos}
theorem run_call {f : String} (G : Gd Y fa k T TI) {pins : List (Addr × Obj)} {s : Shared} {σ : St} {H : Hp} {Q : VK} {us : List Value} {vs : List V} {g : Gs} {ρ : En} {S : Sto} {ds : List D} {Qv : D → Sto → Prop} {Ev : QE}
    (I : Inv Y.X pins σ H s) (rv : Vals vs us) (r : R Y.c Y.F g σ H ρ S) (ec : EC Y g σ ρ H Ev) (rp : Reps Y.c g.sm (MU Y.F g σ ρ) H ds vs) (hw : T f ds S Qv (fun x S' => Ev x ρ S'))
    (hq : ∀ v H' g' S' d, R Y.c Y.F g' σ H' ρ S' → Stp Y.F g σ ρ H g' σ ρ H' → Rep Y.c g'.sm (MU Y.F g' σ ρ) H' d v → Qv d S' → Q v H') :
    codeAny (model Y.X.prog Y.X.w) Y.X.A (.call (.ref (fa f)) ⟨us, []⟩) (fun r s' => match r with | .ok (.ret v) => EP Y.X pins σ Q v s' | .ok _ => False | .error e => Y.X.xe e s') s :=
  run_fnV (G.fn f) G.hr G.tk I rv (spV_here r ec rp hw hq)
theorem ve_call (f : String) (G : Gd Y fa k T TI) (gf : GF Y.c fa Y.X.mg f) (hg : Gl Y.X (toS f)) (ha : VA Y (e :: es) wa) (hdb : (toS f == ("__debug__" : Str)) = false := by decide +kernel) (he : starEach (e :: es) Y.X.env = (false, eval e Y.X.env) :: starEach es Y.X.env := by rfl) (hpl : (backTo pos (starEach es Y.X.env)).any (·.1) = false := by rfl) :
    VE Y (.Call (.Name (toS f) p) (e :: es) [] pos) (wCall (T f) wa) := by
  refine ⟨fun pins s σ H Q I ⟨g, ρ, S, Qv, Ev, r, hw, ec, hq⟩ => ?_⟩
  refine wpAny_Call_Name_kw (ld_glob I hg gf.mg ?_ hdb)
  have kp : PySem.W.keepIn Y.X.K (.ref (fa f)) = true := by rw [← G.hK]; exact gf.kp
  refine PySem.W.callWith_K (h₀ := Y.X.base) I.ok.mod.kin kp (thn (ha.run pos pins s σ H (fun vs H1 => ∃ g1 ρ1 S1 ds, R Y.c Y.F g1 σ H1 ρ1 S1 ∧ Stp Y.F g σ ρ H g1 σ ρ1 H1 ∧ Reps Y.c g1.sm (MU Y.F g1 σ ρ1) H1 ds vs ∧ T f ds S1 (fun d S2 => Qv d ρ1 S2) (fun x S2 => Ev x ρ1 S2)) I
    ⟨g, ρ, S, _, Ev, r, hw, ec, fun vs H1 g1 ρ1 S1 ds r1 st1 rp1 q1 => ⟨g1, ρ1, S1, ds, r1, st1, rp1, q1⟩⟩) fun us s1 ⟨vs, H1, I1, rv, g1, ρ1, S1, ds, r1, st1, rp1, q1⟩ => ⟨I1.kIn, ?_⟩) he hpl
  exact wpAny_call (run_call G I1 rv r1 (ec.step st1) rp1 q1 fun v H' g' S' d r' st' rp' q' => hq v H' g' ρ1 S' d r' (st1.trans st') rp' q')
theorem ve_call0 (f : String) (G : Gd Y fa k T TI) (gf : GF Y.c fa Y.X.mg f) (hg : Gl Y.X (toS f)) (hdb : (toS f == ("__debug__" : Str)) = false := by decide +kernel) : VE Y (.Call (.Name (toS f) p) [] [] pos) (wCall (T f) wANil) := by
  refine ⟨fun pins s σ H Q I ⟨g, ρ, S, Qv, Ev, r, hw, ec, hq⟩ => ?_⟩
  refine wpAny_Call_Name_kw (ld_glob I hg gf.mg ?_ hdb)
  have kp : PySem.W.keepIn Y.X.K (.ref (fa f)) = true := by rw [← G.hK]; exact gf.kp
  exact PySem.W.callWith_K0 I.kIn kp (wpAny_call (run_call (us := []) (vs := []) (ds := []) G I .nil r ec (by simp only [Reps]) hw fun v H' g' S' d r' st' rp' q' => hq v H' g' ρ S' d r' st' rp' q'))
/-- f(e, .., *y) -/
theorem ve_callS (f : String) (G : Gd Y fa k T TI) (gf : GF Y.c fa Y.X.mg f) (hg : Gl Y.X (toS f)) (ha : VA Y (e :: es) wa) (hdb : (toS f == ("__debug__" : Str)) = false := by decide +kernel) (he : starEach (e :: es) Y.X.env = (false, eval e Y.X.env) :: starEach es Y.X.env := by rfl) (hst : (backTo pos (starEach es Y.X.env)).any (·.1) = true := by rfl) :
    VE Y (.Call (.Name (toS f) p) (e :: es) [] pos) (wCall (T f) wa) := by
  refine ⟨fun pins s σ H Q I ⟨g, ρ, S, Qv, Ev, r, hw, ec, hq⟩ => ?_⟩
  refine wpAny_Call_Name_kw (ld_glob I hg gf.mg ?_ hdb)
  have kp : PySem.W.keepIn Y.X.K (.ref (fa f)) = true := by rw [← G.hK]; exact gf.kp
  refine PySem.W.callWith_S2 (h₀ := Y.X.base) I.ok.mod.kin kp (thn (ha.run pos pins s σ H (fun vs H1 => ∃ g1 ρ1 S1 ds, R Y.c Y.F g1 σ H1 ρ1 S1 ∧ Stp Y.F g σ ρ H g1 σ ρ1 H1 ∧ Reps Y.c g1.sm (MU Y.F g1 σ ρ1) H1 ds vs ∧ T f ds S1 (fun d S2 => Qv d ρ1 S2) (fun x S2 => Ev x ρ1 S2)) I
    ⟨g, ρ, S, _, Ev, r, hw, ec, fun vs H1 g1 ρ1 S1 ds r1 st1 rp1 q1 => ⟨g1, ρ1, S1, ds, r1, st1, rp1, q1⟩⟩) fun us s1 ⟨vs, H1, I1, rv, g1, ρ1, S1, ds, r1, st1, rp1, q1⟩ => ⟨I1.kIn, ?_⟩) he hst
  exact wpAny_call (run_call G I1 rv r1 (ec.step st1) rp1 q1 fun v H' g' S' d r' st' rp' q' => hq v H' g' ρ1 S' d r' (st1.trans st') rp' q')
end

/-! ### calls whose result is new -/
section
variable {c : Cf} {F : Fr} {g : Gs} {σ : St} {H H' : Hp} {ρ : En} {S S' : Sto} {sm' : List Addr} {a : Addr} {d : D}
theorem R.calledF (r : R c F g σ H ρ S) (hn : H a = none) (p : Post c (fun b => MoOf F g σ ρ b ∨ b = a) (fun _ => False) g.sm H sm' H' S') (ow : Own c sm' (fun b => (MoOf F g σ ρ b ∨ b = a) ∨ b ∈ sm') H' a d) :
    R c F ⟨sm', a :: g.tm⟩ σ H' ρ S' ∧ Ext g.sm (MU F g σ ρ) H sm' (MU F ⟨sm', a :: g.tm⟩ σ ρ) H' ∧ MU F ⟨sm', a :: g.tm⟩ σ ρ = fun b => (MoOf F g σ ρ b ∨ b = a) ∨ b ∈ sm' := by
  have le : ∀ b, (MoOf F g σ ρ b ∨ b ∈ sm') → ((MoOf F g σ ρ b ∨ b = a) ∨ b ∈ sm') := fun b z => z.imp_left .inl
  have p0 : Post c (MoOf F g σ ρ) (fun _ => False) g.sm H sm' H' S' := ⟨p.smx, p.nd, fun b h z => p.mo b h (.inl z), p.keep, ⟨p.sto.1, fun n b d h1 h2 => (p.sto.2 n b d h1 h2).ext (less_ext le) fun _ z => z⟩⟩
  obtain ⟨r3, st, em⟩ := r.called p0
  have nsm : a ∉ sm' := fun z => p.mo a z (.inr rfl)
  have ntm : a ∉ g.tm := fun z => by
    obtain ⟨_, _, o, h, _⟩ := r.tmo a z
    rw [hn] at h; cases h
  have em' : MU F ⟨sm', a :: g.tm⟩ σ ρ = fun b => (MoOf F g σ ρ b ∨ b = a) ∨ b ∈ sm' := by
    funext b
    apply propext
    constructor
    · rintro (h | h | h | h)
      · exact .inl (.inl (.inl h))
      · exact .inr h
      · rcases List.mem_cons.mp h with h | h
        · exact .inl (.inr h)
        · exact .inl (.inl (.inr (.inl h)))
      · exact .inl (.inl (.inr (.inr h)))
    · rintro (((h | h | h) | h) | h)
      · exact .inl h
      · exact .inr (.inr (.inl (List.mem_cons_of_mem _ h)))
      · exact .inr (.inr (.inr h))
      · exact .inr (.inr (.inl (by rw [h]; exact List.mem_cons_self)))
      · exact .inr (.inl h)
  have e : Ext g.sm (MU F g σ ρ) H sm' (MU F ⟨sm', a :: g.tm⟩ σ ρ) H' := by
    refine ⟨st.ext.sm, st.ext.keep, fun b h => ?_⟩
    rw [em'] at h
    rcases h with (h | h) | h
    · exact .inl (by rw [mu_mo]; exact .inl h)
    · exact .inr (by rw [h]; exact hn)
    · exact st.ext.old b (by rw [em]; exact .inr h)
  have h0 : F.H0 a = none := by
    cases q : F.H0 a with
    | none => rfl
    | some o =>
      by_cases y : F.exc a
      · obtain ⟨u, z⟩ := r.exT a y
        rw [hn] at z; cases z
      · have := r.keep a o q y
        rw [hn] at this; cases this
  have nmo : ¬ F.Mo a := fun z => by
    obtain ⟨o, q, y⟩ := r.moT a z
    have := r.keep a o q y
    rw [hn] at this; cases this
  refine ⟨⟨r3.len, fun i d h => ?_, fun i d h => ?_, r.inj, fun i d b h1 h2 => ?_, by rw [em']; exact p.sto, p.nd, fun b h => ?_, fun b h => ?_, List.nodup_cons.mpr ⟨ntm, r.tmn⟩, r3.pre, r3.keep, r.moT, r3.exT, r.fx, r.xe e⟩, e, em'⟩
  · obtain ⟨x, h1, h2⟩ := r.val i d h
    exact ⟨x, h1, h2.ext e⟩
  · obtain ⟨b, h1, h2⟩ := r.own i d h
    exact ⟨b, h1, h2.ext e fun o ho => p.keep b o ho (r.sep i d b h h1).2.1 fun z => z⟩
  · obtain ⟨q1, q2, q3, q4⟩ := r3.sep i d b h1 h2
    refine ⟨q1, q2, fun z => ?_, q4⟩
    rcases List.mem_cons.mp z with z | z
    · obtain ⟨b', e1, ow1⟩ := r.own i d h1
      rw [h2] at e1; cases e1
      obtain ⟨o, ho, _⟩ := ow1.there
      rw [z, hn] at ho; cases ho
    · exact q3 z
  · obtain ⟨q1, q2, q3⟩ := r3.smo b h
    refine ⟨q1, fun z => ?_, q3⟩
    rcases List.mem_cons.mp z with z | z
    · exact nsm (by rw [← z]; exact h)
    · exact q2 z
  · rcases List.mem_cons.mp h with h | h
    · subst h
      obtain ⟨o, ho, m⟩ := ow.there
      exact ⟨nmo, h0, o, ho, m⟩
    · exact r3.tmo b h
end
section
variable {Y : VC} {fa : String → Addr} {k : Nat} {T : Tab} {TI : String → FWI} {g : Gs} {σ : St} {ρ : En} {H : Hp} {S : Sto} {ds : List D} {vs : List V} {Qv : D → Sto → Prop} {Ev : QE} {Q : VK}
theorem spVF_here {w : FW} (r : R Y.c Y.F g σ H ρ S) (ec : EC Y g σ ρ H Ev) (rp : Reps Y.c g.sm (MU Y.F g σ ρ) H ds vs) (hw : w ds S Qv (fun x S' => Ev x ρ S'))
    (hq : ∀ a H' sm' S' d, R Y.c Y.F ⟨sm', a :: g.tm⟩ σ H' ρ S' → Ext g.sm (MU Y.F g σ ρ) H sm' (MU Y.F ⟨sm', a :: g.tm⟩ σ ρ) H' → Own Y.c sm' (MU Y.F ⟨sm', a :: g.tm⟩ σ ρ) H' a d → Qv d S' → Q (.ref a) H') : spVF Y.c w vs H Q (fun cls d H' => Y.W cls d σ H') := by
  have em : MU Y.F g σ ρ = fun a => MoOf Y.F g σ ρ a ∨ a ∈ g.sm := mu_mo
  refine ⟨MoOf Y.F g σ ρ, g.sm, ds, S, Qv, fun x S' => Ev x ρ S', r.mo_there, r.smn, r.sm_mo, by rw [← em]; exact r.sto, by rw [← em]; exact rp, hw, fun a H' sm' S' d hn p ow q => ?_, fun x cls dx H' sm' S' p xi q => ?_⟩
  · obtain ⟨r2, e, em2⟩ := r.calledF hn p ow
    exact hq a H' sm' S' d r2 e (by rw [em2]; exact ow) q
  · obtain ⟨r2, st, em2⟩ := r.called p
    exact ec x cls dx σ H' ⟨sm', g.tm⟩ ρ S' r2 st (by rw [em2]; exact xi) q
end
section
variable {Y : VC} {fa : String → Addr} {k : Nat} {T : Tab} {TI : String → FWI} {e : Expr} {es : List Expr} {wa : TVA} {pos p apos : Pos}
theorem vf_call (f : String) (G : Gd Y fa k T TI) (gf : GF Y.c fa Y.X.mg f) (hg : Gl Y.X (toS f)) (ha : VA Y (e :: es) wa) (hdb : (toS f == ("__debug__" : Str)) = false := by decide +kernel) (he : starEach (e :: es) Y.X.env = (false, eval e Y.X.env) :: starEach es Y.X.env := by rfl) (hpl : (backTo pos (starEach es Y.X.env)).any (·.1) = false := by rfl) :
    VF Y (.Call (.Name (toS f) p) (e :: es) [] pos) (wCall (T.fr f) wa) := by
  refine ⟨fun pins s σ H Q I ⟨g, ρ, S, Qv, Ev, r, hw, ec, hq⟩ => ?_⟩
  refine wpAny_Call_Name_kw (ld_glob I hg gf.mg ?_ hdb)
  have kp : PySem.W.keepIn Y.X.K (.ref (fa f)) = true := by rw [← G.hK]; exact gf.kp
  refine PySem.W.callWith_K (h₀ := Y.X.base) I.ok.mod.kin kp (thn (ha.run pos pins s σ H (fun vs H1 => ∃ g1 ρ1 S1 ds, R Y.c Y.F g1 σ H1 ρ1 S1 ∧ Stp Y.F g σ ρ H g1 σ ρ1 H1 ∧ Reps Y.c g1.sm (MU Y.F g1 σ ρ1) H1 ds vs ∧ T.fr f ds S1 (fun d S2 => Qv d ρ1 S2) (fun x S2 => Ev x ρ1 S2)) I
    ⟨g, ρ, S, _, Ev, r, hw, ec, fun vs H1 g1 ρ1 S1 ds r1 st1 rp1 q1 => ⟨g1, ρ1, S1, ds, r1, st1, rp1, q1⟩⟩) fun us s1 ⟨vs, H1, I1, rv, g1, ρ1, S1, ds, r1, st1, rp1, q1⟩ => ⟨I1.kIn, ?_⟩) he hpl
  refine wpAny_call (run_fnV (G.ff f) G.hr G.tk I1 rv (spVF_here r1 (ec.step st1) rp1 q1 fun a H' sm' S' d r' e' ow' q' => ?_))
  have et := st1.tm
  rw [et] at r' e' ow'
  exact hq a H' sm' ρ1 S' d r' (st1.ext.trans e') ow' q'
theorem vf_call0 (f : String) (G : Gd Y fa k T TI) (gf : GF Y.c fa Y.X.mg f) (hg : Gl Y.X (toS f)) (hdb : (toS f == ("__debug__" : Str)) = false := by decide +kernel) : VF Y (.Call (.Name (toS f) p) [] [] pos) (wCall (T.fr f) wANil) := by
  refine ⟨fun pins s σ H Q I ⟨g, ρ, S, Qv, Ev, r, hw, ec, hq⟩ => ?_⟩
  refine wpAny_Call_Name_kw (ld_glob I hg gf.mg ?_ hdb)
  have kp : PySem.W.keepIn Y.X.K (.ref (fa f)) = true := by rw [← G.hK]; exact gf.kp
  exact PySem.W.callWith_K0 I.kIn kp (wpAny_call (run_fnV (us := []) (vs := []) (G.ff f) G.hr G.tk I .nil (spVF_here (ds := []) r ec (by simp only [Reps]) hw fun a H' sm' S' d r' e' ow' q' => hq a H' sm' ρ S' d r' e' ow' q')))
end

/-! ### methods -/
/-- the methods of a name, by class -/
abbrev Ms := List (String × String)
def MsOk (c : Cf) (fa : String → Addr) (m : String) (ms : Ms) : Prop := ∀ cl f, ms.lookup cl = some f → Cls c.K (c.ca cl) ∧ Meth c.K (c.ca cl) (toS m) (fa f)
/-- which def it is, for the thing d that is met -/
def methD (ms : Ms) (m : String) (d : D) (P : String → Prop) : Prop := match d with
  | .obj cl fs => ∃ f, ms.lookup cl = some f ∧ (fs.all fun x => x.1 != m) = true ∧ P f
  | _ => False
def wMeth (T : String → FW) (ms : Ms) (m : String) (w : TV) (wa : TVA) : TV := fun ρ S Q E => w ρ S (fun o ρ1 S1 => methD ms m (dr S1 o) fun f => wa ρ1 S1 (fun ds ρ2 S2 => T f (o :: ds) S2 (fun d S3 => Q d ρ2 S3) (fun x S3 => E x ρ2 S3)) E) E
section
variable {Y : VC} {fa : String → Addr} {k : Nat} {T : Tab} {TI : String → FWI} {o e : Expr} {es : List Expr} {w : TV} {wa : TVA} {pos p apos : Pos}
theorem fs_none {fs : List (String × D)} {m : String} (h : (fs.all fun x => x.1 != m) = true) : ∀ g ∈ fs, toS g.1 ≠ toS m := fun g hg z => by
  have := List.all_eq_true.mp h g hg
  rw [toS_inj z] at this
  simp at this
theorem ve_meth (m : String) (ms : Ms) {pl : Sem Bool} (G : Gd Y fa k T TI) (mo : MsOk Y.c fa m ms) (ho : VE Y o w) (ha : VA Y (e :: es) wa)
    (hst : starEach (e :: es) Y.X.env = (false, eval e Y.X.env) :: starEach es Y.X.env := by rfl) (hpl : (backTo pos (starEach es Y.X.env)).any (·.1) = false := by rfl)
    (ht : eval (.Call (.Attribute o (toS m) apos) (e :: es) [] pos) Y.X.env = (do
      let ov ← eval o Y.X.env
      standAt apos.atName
      let (f, first) ← holding [ov] (getMethod ov (toS m) pl)
      callWith pos f first (backTo pos (starEach (e :: es) Y.X.env)) (backToKw pos (keywordEach [] Y.X.env))) := by rfl) :
    VE Y (.Call (.Attribute o (toS m) apos) (e :: es) [] pos) (wMeth T ms m w wa) := by
  refine ⟨fun pins s σ H Q I ⟨g, ρ, S, Qv, Ev, r, hw, ec, hq⟩ => ?_⟩
  refine PySem.W.methodCall_KW (pl := pl) (thn (ho.run pins s σ H (fun x H1 => ∃ g1 ρ1 S1 d, R Y.c Y.F g1 σ H1 ρ1 S1 ∧ Stp Y.F g σ ρ H g1 σ ρ1 H1 ∧ Rep Y.c g1.sm (MU Y.F g1 σ ρ1) H1 d x ∧ methD ms m (dr S1 d) fun f => wa ρ1 S1 (fun ds ρ2 S2 => T f (d :: ds) S2 (fun d S3 => Qv d ρ2 S3) (fun x S3 => Ev x ρ2 S3)) Ev) I
    ⟨g, ρ, S, _, Ev, r, hw, ec, fun v H1 g1 ρ1 S1 d r1 st1 rp1 q1 => ⟨g1, ρ1, S1, d, r1, st1, rp1, q1⟩⟩) fun u s1 ⟨x, H1, I1, rx, g1, ρ1, S1, d, r1, st1, rp1, q1⟩ => ?_) ht
  have b := r1.dr (.inl rp1)
  unfold methD at q1
  split at q1
  · rename_i cl fs e1
    rw [e1] at b
    obtain ⟨f, hf, hn, q2⟩ := q1
    obtain ⟨a, dx, vs, ex, hv, gi, rf⟩ := b.obj
    subst ex
    obtain rfl : u = Value.ref a := rx
    obtain ⟨hc, hm⟩ := mo cl f hf
    rw [G.hK] at hc hm
    refine getmeth_ok I1 hv hc hm (rf.none (fs_none hn)) ?_
    refine PySem.W.callWith_K (first := [.ref a]) (h₀ := Y.X.base) I.ok.mod.kin hm.kp (thn (ha.run pos pins s1 σ H1 (fun vs H2 => ∃ g2 ρ2 S2 ds, R Y.c Y.F g2 σ H2 ρ2 S2 ∧ Stp Y.F g σ ρ H g2 σ ρ2 H2 ∧ Rep Y.c g2.sm (MU Y.F g2 σ ρ2) H2 d (.ref a) ∧ Reps Y.c g2.sm (MU Y.F g2 σ ρ2) H2 ds vs ∧ T f (d :: ds) S2 (fun d S3 => Qv d ρ2 S3) (fun x S3 => Ev x ρ2 S3)) I1
      ⟨g1, ρ1, S1, _, Ev, r1, q2, ec.step st1, fun vs H2 g2 ρ2 S2 ds r2 st2 rp2 q3 => ⟨g2, ρ2, S2, ds, r2, st1.trans st2, rp1.ext st2.ext, rp2, q3⟩⟩) fun us s2 ⟨vs, H2, I2, rv, g2, ρ2, S2, ds, r2, st2, rpo, rp2, q3⟩ => ⟨I2.kIn, ?_⟩) hst hpl
    exact wpAny_call (run_call (us := .ref a :: us) (vs := .ref a :: vs) (ds := d :: ds) G I2 (.cons rfl rv) r2 (ec.step st2) (by simp only [Reps]; exact ⟨_, _, rfl, rpo, rp2⟩) q3 fun v H' g' S' d r' st' rp' q' => hq v H' g' ρ2 S' d r' (st2.trans st') rp' q')
  · exact q1.elim
theorem ve_meth0 (m : String) (ms : Ms) {pl : Sem Bool} (G : Gd Y fa k T TI) (mo : MsOk Y.c fa m ms) (ho : VE Y o w)
    (ht : eval (.Call (.Attribute o (toS m) apos) [] [] pos) Y.X.env = (do
      let ov ← eval o Y.X.env
      standAt apos.atName
      let (f, first) ← holding [ov] (getMethod ov (toS m) pl)
      callWith pos f first (backTo pos (starEach [] Y.X.env)) (backToKw pos (keywordEach [] Y.X.env))) := by rfl) :
    VE Y (.Call (.Attribute o (toS m) apos) [] [] pos) (wMeth T ms m w wANil) := by
  refine ⟨fun pins s σ H Q I ⟨g, ρ, S, Qv, Ev, r, hw, ec, hq⟩ => ?_⟩
  refine PySem.W.methodCall_KW (pl := pl) (thn (ho.run pins s σ H (fun x H1 => ∃ g1 ρ1 S1 d, R Y.c Y.F g1 σ H1 ρ1 S1 ∧ Stp Y.F g σ ρ H g1 σ ρ1 H1 ∧ Rep Y.c g1.sm (MU Y.F g1 σ ρ1) H1 d x ∧ methD ms m (dr S1 d) fun f => T f [d] S1 (fun d S3 => Qv d ρ1 S3) (fun x S3 => Ev x ρ1 S3)) I
    ⟨g, ρ, S, _, Ev, r, hw, ec, fun v H1 g1 ρ1 S1 d r1 st1 rp1 q1 => ⟨g1, ρ1, S1, d, r1, st1, rp1, q1⟩⟩) fun u s1 ⟨x, H1, I1, rx, g1, ρ1, S1, d, r1, st1, rp1, q1⟩ => ?_) ht
  have b := r1.dr (.inl rp1)
  unfold methD at q1
  split at q1
  · rename_i cl fs e1
    rw [e1] at b
    obtain ⟨f, hf, hn, q2⟩ := q1
    obtain ⟨a, dx, vs, ex, hv, gi, rf⟩ := b.obj
    subst ex
    obtain rfl : u = Value.ref a := rx
    obtain ⟨hc, hm⟩ := mo cl f hf
    rw [G.hK] at hc hm
    refine getmeth_ok I1 hv hc hm (rf.none (fs_none hn)) ?_
    exact PySem.W.callWith_K0 (first := [.ref a]) I1.kIn hm.kp (wpAny_call (run_call (us := [.ref a]) (vs := [.ref a]) (ds := [d]) G I1 (.cons rfl .nil) r1 (ec.step st1) (Reps.one rp1) q2 fun v H' g' S' d r' st' rp' q' => hq v H' g' ρ1 S' d r' (st1.trans st') rp' q'))
  · exact q1.elim
end

/-! ### classes -/
/-- C(..): what is made is a value -/
def wMake (w : FWI) (cl : String) (wa : TVA) : TV := fun ρ S Q E => wa ρ S (fun ds ρ1 S1 => w cl [] ds S1 (fun fs S2 => Q (.obj cl fs) ρ1 S2) (fun x S2 => E x ρ1 S2)) E
/-- .. a shared thing of the store -/
def wMakeR (w : FWI) (cl : String) (wa : TVA) : TV := fun ρ S Q E => wa ρ S (fun ds ρ1 S1 => w cl [] ds S1 (fun fs S2 => Q (.ref S2.length) ρ1 (S2 ++ [.obj cl fs])) (fun x S2 => E x ρ1 S2)) E
section
variable {c : Cf} {F : Fr} {g : Gs} {σ : St} {H : Hp} {ρ : En} {S : Sto}
/-- a temporary that is let go becomes a thing of the store -/
theorem R.share {a : Addr} {t sm : List Addr} {d : D} (r : R c F ⟨sm, a :: t⟩ σ H ρ S) (h : Own c sm (MU F ⟨sm, a :: t⟩ σ ρ) H a d) :
    R c F ⟨sm ++ [a], t⟩ σ H ρ (S ++ [d]) ∧ Ext sm (MU F ⟨sm, a :: t⟩ σ ρ) H (sm ++ [a]) (MU F ⟨sm ++ [a], t⟩ σ ρ) H := by
  have em : ∀ b, MU F ⟨sm ++ [a], t⟩ σ ρ b → MU F ⟨sm, a :: t⟩ σ ρ b := fun b m => by
    rcases m with m | m | m | m
    · exact .inl m
    · rcases List.mem_append.mp m with m | m
      · exact .inr (.inl m)
      · exact .inr (.inr (.inl (by rw [List.mem_singleton.mp m]; exact List.mem_cons_self)))
    · exact .inr (.inr (.inl (List.mem_cons_of_mem _ m)))
    · exact .inr (.inr (.inr m))
  have e : Ext sm (MU F ⟨sm, a :: t⟩ σ ρ) H (sm ++ [a]) (MU F ⟨sm ++ [a], t⟩ σ ρ) H := ⟨⟨[a], rfl⟩, fun b o h _ => h, fun b h => .inl (em b h)⟩
  obtain ⟨t1, t2, t3⟩ := r.tmo a List.mem_cons_self
  have na : a ∉ sm := fun z => (r.smo a z).2.1 List.mem_cons_self
  refine ⟨⟨r.len, fun i d h => ?_, fun i d h => ?_, r.inj, fun i d b h1 h2 => ?_, ⟨?_, fun n b d' h1 h2 => ?_⟩, ?_, fun b hb => ?_, fun b hb => r.tmo b (List.mem_cons_of_mem _ hb), (List.nodup_cons.mp r.tmn).2, ?_, r.keep, r.moT, r.exT, r.fx, r.xe e⟩, e⟩
  · obtain ⟨x, h1, h2⟩ := r.val i d h
    exact ⟨x, h1, h2.ext e⟩
  · obtain ⟨b, h1, h2⟩ := r.own i d h
    exact ⟨b, h1, h2.ext e fun _ z => z⟩
  · obtain ⟨q1, q2, q3, q4⟩ := r.sep i d b h1 h2
    refine ⟨q1, fun z => ?_, fun z => q3 (List.mem_cons_of_mem _ z), q4⟩
    rcases List.mem_append.mp z with z | z
    · exact q2 z
    · exact q3 (by rw [List.mem_singleton.mp z]; exact List.mem_cons_self)
  · rw [List.length_append, List.length_append, r.sto.1]; rfl
  · have hl : sm.length = S.length := r.sto.1
    by_cases hn' : n < sm.length
    · rw [List.getElem?_append_left hn'] at h1
      rw [List.getElem?_append_left (by omega)] at h2
      exact (r.sto.2 n b d' h1 h2).ext e fun _ z => z
    · rw [List.getElem?_append_right (by omega)] at h1 h2
      rw [show n - S.length = n - sm.length by omega] at h2
      cases hk : n - sm.length with
      | zero =>
        rw [hk] at h1 h2
        simp at h1 h2
        subst h1 h2
        exact h.ext e fun _ z => z
      | succ j =>
        rw [hk] at h1
        simp at h1
  · exact List.nodup_append.mpr ⟨r.smn, by simp, fun x hx y hy => by
      rw [List.mem_singleton.mp hy]
      intro z
      subst z
      exact na hx⟩
  · rcases List.mem_append.mp hb with hb | hb
    · obtain ⟨q1, q2, q3⟩ := r.smo b hb
      exact ⟨q1, fun z => q2 (List.mem_cons_of_mem _ z), q3⟩
    · rw [List.mem_singleton.mp hb]
      exact ⟨t1, (List.nodup_cons.mp r.tmn).1, .inl t2⟩
  · obtain ⟨more, e1, e2⟩ := r.pre
    have e1 : sm = F.sm0 ++ more := e1
    refine ⟨more ++ [a], by show sm ++ [a] = _; rw [e1, List.append_assoc], fun b hb => ?_⟩
    rcases List.mem_append.mp hb with hb | hb
    · exact e2 b hb
    · rw [List.mem_singleton.mp hb]; exact t2
end

section
variable {X : Cx} {W : WX} {k : Nat} {f C : Addr} {sp : Sp} {pins : List (Addr × Obj)} {σ : St} {H : Hp} {s : Shared} {Q : VK} {us : List Value} {vs : List V}
theorem run_makeV (M : Mk X.K C f) (F : FnR X.prog X.w X.K X.mg X.base (L2.CX X.prog X.w) k f sp) (hr : Room (k + 1) X.A) (tk : Takes X W) (I : Inv X pins σ H s) (r : Vals vs us)
    (h : ∀ x dx, H x = Option.none → H dx = Option.none → dx ≠ x → sp (V.ref x :: vs) (upd (upd H dx (.own x)) x (.ins C dx [])) (fun v H2 => v = .non ∧ Q (.ref x) H2) (fun cls d H' => W cls d σ H')) :
    wpAny (model X.prog X.w) X.A (call (.ref C) us) (EP X pins σ Q) X.xe s := by
  have hq := h (s.heap.objs.size + 1) s.heap.objs.size (I.hok.fresh (Nat.le_succ _)) (I.hok.fresh (Nat.le_refl _)) (Nat.ne_of_lt (Nat.lt_succ_self _))
  have I2 := Inv.made (C := C) I
  have r2 : Vals (V.ref (s.heap.objs.size + 1) :: vs) (Value.ref (s.heap.objs.size + 1) :: us) := .cons rfl r
  refine wpAny_call (make_map (f := f) I.kIn M.makes M.init (beq_iff_eq.mp M.fn) (codeAny_mono (F _ X.stack _ _ (Value.ref (s.heap.objs.size + 1) :: us) _ _ _ (hr.make C us []) (I2.env0.make C us []) r2 hq) fun r s' hq' => ?_))
  cases r with
  | error e => exact tk e s' (XE.of_call (σ := σ) I2 (fun cls d H' h => h) hq')
  | ok fl =>
    cases fl with
    | ret u =>
      obtain ⟨v, H', I3, rv, ev, q3⟩ := I2.after hq'
      subst ev
      exact ⟨rv, ⟨V.ref (s.heap.objs.size + 1), H', I3, rfl, q3⟩⟩
    | next => exact False.elim hq'
    | brk => exact False.elim hq'
    | cont => exact False.elim hq'
end
section
variable {Y : VC} {fa : String → Addr} {k : Nat} {T : Tab} {TI : String → FWI} {e : Expr} {es : List Expr} {wa : TVA} {pos p apos : Pos}
/-- a new instance runs through __init__: a temporary -/
theorem run_new {cl f : String} (G : Gd Y fa k T TI) (gc : GC Y.c fa Y.X.mg cl f) {pins : List (Addr × Obj)} {s : Shared} {σ : St} {H : Hp} {Q : VK} {us : List Value} {vs : List V} {g : Gs} {ρ : En} {S : Sto} {ds : List D} {Qv : List (String × D) → Sto → Prop} {Ev : QE}
    (I : Inv Y.X pins σ H s) (rv : Vals vs us) (r : R Y.c Y.F g σ H ρ S) (ec : EC Y g σ ρ H Ev) (rp : Reps Y.c g.sm (MU Y.F g σ ρ) H ds vs) (hw : TI f cl [] ds S Qv (fun x S' => Ev x ρ S'))
    (hq : ∀ x H' sm' S' fs, H x = none → R Y.c Y.F ⟨sm', x :: g.tm⟩ σ H' ρ S' → Ext g.sm (MU Y.F g σ ρ) H sm' (MU Y.F ⟨sm', x :: g.tm⟩ σ ρ) H' → Own Y.c sm' (MU Y.F ⟨sm', x :: g.tm⟩ σ ρ) H' x (.obj cl fs) → Qv fs S' → Q (.ref x) H') :
    wpAny (model Y.X.prog Y.X.w) Y.X.A (call (.ref (Y.c.ca cl)) us) (EP Y.X pins σ Q) Y.X.xe s := by
  have M : Mk Y.X.K (Y.c.ca cl) (fa f) := by rw [← G.hK]; exact gc.made
  refine run_makeV M (G.fi f) G.hr G.tk I rv fun x dx nx ndx ne => ?_
  have g1 := grow_upd (o := HO.own x) ndx
  have nx1 : upd H dx (.own x) x = none := by rw [upd_ne (Ne.symm ne)]; exact nx
  have r1 := r.grow g1
  obtain ⟨r2, e2⟩ := r1.newtm (a := x) (o := .ins (Y.c.ca cl) dx []) nx1 trivial
  have e02 : Ext g.sm (MU Y.F g σ ρ) H g.sm (MU Y.F ⟨g.sm, x :: g.tm⟩ σ ρ) (upd (upd H dx (.own x)) x (.ins (Y.c.ca cl) dx [])) := (Ext.grow g1).trans e2
  have em : MU Y.F ⟨g.sm, x :: g.tm⟩ σ ρ = fun a => MoOf Y.F ⟨g.sm, x :: g.tm⟩ σ ρ a ∨ a ∈ g.sm := mu_mo
  have mx : MoOf Y.F ⟨g.sm, x :: g.tm⟩ σ ρ x := .inr (.inl List.mem_cons_self)
  have nmo : ¬ Y.F.Mo x := (r2.tmo x List.mem_cons_self).1
  refine ⟨MoOf Y.F ⟨g.sm, x :: g.tm⟩ σ ρ, g.sm, x, dx, cl, [], [], vs, ds, S, Qv, fun y S' => Ev y ρ S', rfl, upd_same, ⟨gc.cls, fun _ h => nomatch h⟩, by simp only [RepF], mx, r2.mo_there, r2.smn, r2.sm_mo, by rw [← em]; exact r2.sto, by rw [← em]; exact Reps.ext e02 rp, hw, fun H' sm' S' fs' po ow q => ⟨rfl, ?_⟩, fun y cls dy H' sm' S' po tx xi q => ?_⟩
  · obtain ⟨r3, st, em3⟩ := r2.after po (fun a h => by subst h; exact ⟨mx, nmo⟩) rfl (fun _ _ h => h) (fun i d h => ⟨d, h, fun a ha => .inl ⟨fun z => by subst z; exact (r2.sep i d a h ha).2.2.1 List.mem_cons_self, rfl⟩⟩) (fun i d h => ⟨d, h⟩) (fun a h => by subst h; exact ow.there)
    exact hq x H' sm' S' fs' nx r3 (e02.trans st.ext) (by rw [em3]; exact ow) q
  · obtain ⟨r3, st, em3⟩ := r2.after po (fun a h => by subst h; exact ⟨mx, nmo⟩) rfl (fun _ _ h => h) (fun i d h => ⟨d, h, fun a ha => .inl ⟨fun z => by subst z; exact (r2.sep i d a h ha).2.2.1 List.mem_cons_self, rfl⟩⟩) (fun i d h => ⟨d, h⟩) (fun a h => by subst h; exact tx)
    have r3' : R Y.c Y.F ⟨sm', x :: g.tm⟩ σ H' ρ S' := r3
    -- the half made thing is let go unseen
    have hm : ∀ b, MU Y.F ⟨sm', g.tm⟩ σ ρ b → MU Y.F ⟨sm', x :: g.tm⟩ σ ρ b := fun b m => by
      rcases m with m | m | m | m
      · exact .inl m
      · exact .inr (.inl m)
      · exact .inr (.inr (.inl (List.mem_cons_of_mem _ m)))
      · exact .inr (.inr (.inr m))
    have le := less_ext (sm := sm') (H := H') hm
    have r4 : R Y.c Y.F ⟨sm', g.tm⟩ σ H' ρ S' := R.less (g := ⟨sm', x :: g.tm⟩) (tm' := g.tm) r3' r3'.len hm (fun i d h => by
        obtain ⟨z, h1, h2⟩ := r3'.val i d h
        exact ⟨z, h1, h2.ext le⟩) (fun i d h => by
        obtain ⟨b, h1, h2⟩ := r3'.own i d h
        obtain ⟨q1, q2, q3, q4⟩ := r3'.sep i d b h h1
        exact ⟨b, h1, h2, q1, q2, fun z => q3 (List.mem_cons_of_mem _ z), q4⟩) r3'.inj (fun b h => List.mem_cons_of_mem _ h) r.tmn (fun d h => ⟨d, h, rfl⟩)
    refine ec y cls dy σ H' ⟨sm', g.tm⟩ ρ S' r4 ⟨rfl, (e02.trans st.ext).trans le⟩ ?_ q
    exact ExIs.ext (less_ext fun b hb => by
      have hb := hm b hb
      rw [em3] at hb
      exact hb) xi
/-- C(e, ..) -/
theorem vf_make (cl f : String) (G : Gd Y fa k T TI) (gc : GC Y.c fa Y.X.mg cl f) (hg : Gl Y.X (toS cl)) (ha : VA Y (e :: es) wa) (hdb : (toS cl == ("__debug__" : Str)) = false := by decide +kernel) (he : starEach (e :: es) Y.X.env = (false, eval e Y.X.env) :: starEach es Y.X.env := by rfl) (hpl : (backTo pos (starEach es Y.X.env)).any (·.1) = false := by rfl) :
    VF Y (.Call (.Name (toS cl) p) (e :: es) [] pos) (wMake (TI f) cl wa) := by
  refine ⟨fun pins s σ H Q I ⟨g, ρ, S, Qv, Ev, r, hw, ec, hq⟩ => ?_⟩
  refine wpAny_Call_Name_kw (ld_glob I hg gc.mg ?_ hdb)
  have kp : PySem.W.keepIn Y.X.K (.ref (Y.c.ca cl)) = true := by rw [← G.hK]; exact gc.made.kp
  refine PySem.W.callWith_K (h₀ := Y.X.base) I.ok.mod.kin kp (thn (ha.run pos pins s σ H (fun vs H1 => ∃ g1 ρ1 S1 ds, R Y.c Y.F g1 σ H1 ρ1 S1 ∧ Stp Y.F g σ ρ H g1 σ ρ1 H1 ∧ Reps Y.c g1.sm (MU Y.F g1 σ ρ1) H1 ds vs ∧ TI f cl [] ds S1 (fun fs S2 => Qv (.obj cl fs) ρ1 S2) (fun x S2 => Ev x ρ1 S2)) I
    ⟨g, ρ, S, _, Ev, r, hw, ec, fun vs H1 g1 ρ1 S1 ds r1 st1 rp1 q1 => ⟨g1, ρ1, S1, ds, r1, st1, rp1, q1⟩⟩) fun us s1 ⟨vs, H1, I1, rv, g1, ρ1, S1, ds, r1, st1, rp1, q1⟩ => ⟨I1.kIn, ?_⟩) he hpl
  refine run_new G gc I1 rv r1 (ec.step st1) rp1 q1 fun x H' sm' S' fs nx r' e' ow q' => ?_
  have et := st1.tm
  rw [et] at r' e' ow
  exact hq x H' sm' ρ1 S' _ r' (st1.ext.trans e') ow q'
/-- C(e, .., *y) -/
theorem vf_makeS (cl f : String) (G : Gd Y fa k T TI) (gc : GC Y.c fa Y.X.mg cl f) (hg : Gl Y.X (toS cl)) (ha : VA Y (e :: es) wa) (hdb : (toS cl == ("__debug__" : Str)) = false := by decide +kernel) (he : starEach (e :: es) Y.X.env = (false, eval e Y.X.env) :: starEach es Y.X.env := by rfl) (hst : (backTo pos (starEach es Y.X.env)).any (·.1) = true := by rfl) :
    VF Y (.Call (.Name (toS cl) p) (e :: es) [] pos) (wMake (TI f) cl wa) := by
  refine ⟨fun pins s σ H Q I ⟨g, ρ, S, Qv, Ev, r, hw, ec, hq⟩ => ?_⟩
  refine wpAny_Call_Name_kw (ld_glob I hg gc.mg ?_ hdb)
  have kp : PySem.W.keepIn Y.X.K (.ref (Y.c.ca cl)) = true := by rw [← G.hK]; exact gc.made.kp
  refine PySem.W.callWith_S2 (h₀ := Y.X.base) I.ok.mod.kin kp (thn (ha.run pos pins s σ H (fun vs H1 => ∃ g1 ρ1 S1 ds, R Y.c Y.F g1 σ H1 ρ1 S1 ∧ Stp Y.F g σ ρ H g1 σ ρ1 H1 ∧ Reps Y.c g1.sm (MU Y.F g1 σ ρ1) H1 ds vs ∧ TI f cl [] ds S1 (fun fs S2 => Qv (.obj cl fs) ρ1 S2) (fun x S2 => Ev x ρ1 S2)) I
    ⟨g, ρ, S, _, Ev, r, hw, ec, fun vs H1 g1 ρ1 S1 ds r1 st1 rp1 q1 => ⟨g1, ρ1, S1, ds, r1, st1, rp1, q1⟩⟩) fun us s1 ⟨vs, H1, I1, rv, g1, ρ1, S1, ds, r1, st1, rp1, q1⟩ => ⟨I1.kIn, ?_⟩) he hst
  refine run_new G gc I1 rv r1 (ec.step st1) rp1 q1 fun x H' sm' S' fs nx r' e' ow q' => ?_
  have et := st1.tm
  rw [et] at r' e' ow
  exact hq x H' sm' ρ1 S' _ r' (st1.ext.trans e') ow q'
/-- C() -/
theorem vf_make0 (cl f : String) (G : Gd Y fa k T TI) (gc : GC Y.c fa Y.X.mg cl f) (hg : Gl Y.X (toS cl)) (hdb : (toS cl == ("__debug__" : Str)) = false := by decide +kernel) : VF Y (.Call (.Name (toS cl) p) [] [] pos) (wMake (TI f) cl wANil) := by
  refine ⟨fun pins s σ H Q I ⟨g, ρ, S, Qv, Ev, r, hw, ec, hq⟩ => ?_⟩
  refine wpAny_Call_Name_kw (ld_glob I hg gc.mg ?_ hdb)
  have kp : PySem.W.keepIn Y.X.K (.ref (Y.c.ca cl)) = true := by rw [← G.hK]; exact gc.made.kp
  exact PySem.W.callWith_K0 I.kIn kp (run_new (us := []) (vs := []) (ds := []) G gc I .nil r ec (by simp only [Reps]) hw fun x H' sm' S' fs nx r' e' ow q' => hq x H' sm' ρ S' _ r' e' ow q')
/-- one operand, then anything -/
theorem run1g {a : Expr} {wo : TVO} (ha : VO Y a wo) {pins : List (Addr × Obj)} {s : Shared} {σ : St} {H : Hp} {g : Gs} {ρ : En} {S : Sto} {Qv : D → En → Sto → Prop} {Ev : QE} {Q : Value → Shared → Prop}
    (I : Inv Y.X pins σ H s) (r : R Y.c Y.F g σ H ρ S) (hw : wo ρ S (fun x ρ1 S1 => rsv ρ1 x fun dx => Qv dx ρ1 S1) Ev) (ec : EC Y g σ ρ H Ev)
    (k : ∀ v s2 x H2 g2 ρ2 S2 dx, Inv Y.X pins σ H2 s2 → RelV x v → R Y.c Y.F g2 σ H2 ρ2 S2 → Stp Y.F g σ ρ H g2 σ ρ2 H2 → Brw Y.c g2.sm (MU Y.F g2 σ ρ2) H2 dx x → Qv dx ρ2 S2 → Q v s2) :
    wpAny (model Y.X.prog Y.X.w) Y.X.A (eval a Y.X.env) Q Y.X.xe s := by
  refine thn (ha.run pins s σ H (fun x H2 => ∃ g2 ρ2 S2 dx, R Y.c Y.F g2 σ H2 ρ2 S2 ∧ Stp Y.F g σ ρ H g2 σ ρ2 H2 ∧ Brw Y.c g2.sm (MU Y.F g2 σ ρ2) H2 dx x ∧ Qv dx ρ2 S2) I ⟨g, ρ, S, _, Ev, r, hw, ec, fun x H1 g1 ρ1 S1 dx r1 st1 rp1 q1 => ?_⟩) fun v s1 ⟨x, H1, I1, rx, g1, ρ1, S1, dx, r1, st1, b1, q1⟩ => k v s1 x H1 g1 ρ1 S1 dx I1 rx r1 st1 b1 q1
  obtain ⟨x1, b1, q3⟩ := r1.rsv rp1 q1
  exact ⟨g1, ρ1, S1, x1, r1, st1, b1, q3⟩
/-- C( *y) -/
theorem vf_make1S (cl f : String) (G : Gd Y fa k T TI) (gc : GC Y.c fa Y.X.mg cl f) (hg : Gl Y.X (toS cl)) {wo : TVO} {sp_ : Pos} (ho : VO Y e wo) (hdb : (toS cl == ("__debug__" : Str)) = false := by decide +kernel) (hst : starEach [.Starred e sp_] Y.X.env = [(true, eval e Y.X.env)] := by rfl) :
    VF Y (.Call (.Name (toS cl) p) [.Starred e sp_] [] pos) (wMake (TI f) cl (wAStar wo wANil)) := by
  refine ⟨fun pins s σ H Q I ⟨g, ρ, S, Qv, Ev, r, hw, ec, hq⟩ => ?_⟩
  refine wpAny_Call_Name_kw (ld_glob I hg gc.mg ?_ hdb)
  have kp : PySem.W.keepIn Y.X.K (.ref (Y.c.ca cl)) = true := by rw [← G.hK]; exact gc.made.kp
  refine PySem.W.callWith_S (h₀ := Y.X.base) I.ok.mod.kin kp (run1g (Qv := fun d ρ1 S1 => items (dr S1 d) fun xs => TI f cl [] (xs ++ []) S1 (fun fs S2 => Qv (.obj cl fs) ρ1 S2) (fun x S2 => Ev x ρ1 S2)) ho I r hw ec fun v s1 x H1 g1 ρ1 S1 d I1 rx r1 st1 b1 q1 => ?_) hst
  obtain ⟨a, xs, ds, ex, sq, rps, q2⟩ := brw_items Y.X.K (r1.dr b1) q1
  subst ex
  obtain rfl : v = Value.ref a := rx
  refine StX.star_any I1 sq fun us s2 I2 rv => ⟨I2.kIn, ?_⟩
  refine run_new G gc I2 rv r1 (ec.step st1) rps (by simpa using q2) fun x H' sm' S' fs nx r' e' ow q' => ?_
  have et := st1.tm
  rw [et] at r' e' ow
  exact hq x H' sm' ρ1 S' _ r' (st1.ext.trans e') ow q'
end
end VL

set_option Elab.async false
set_option linter.all false
set_option autoImplicit false
set_option maxRecDepth 100000
/-! VLOwn: things that change: lists, dicts, attributes; methods of built-in types. -/
namespace VL
open PySem PySem.Spec PyProof.Rows L2

section
variable {c : Cf} {F : Fr} {g : Gs} {σ : St} {H : Hp} {ρ : En} {S : Sto}
/-- an own thing of a slot changes -/
theorem R.setown {i : Nat} {a : Addr} {d0 d : D} {o : HO} (r : R c F g σ H ρ S) (h : ρ[i]? = some (Sl.o d0)) (ha : σ[i]? = some (some (V.ref a))) (hm : Mut (some o))
    (ho : ∀ M' H', (∀ b u, H b = some u → ¬ MU F g σ ρ b → H' b = some u) → (∀ b, M' b → MU F g σ ρ b) → H' a = some o → Own c g.sm M' H' a d) :
    R c F g σ (upd H a o) (ρ.set i (.o d)) S ∧ Stp F g σ ρ H g σ (ρ.set i (.o d)) (upd H a o) := by
  have hi : i < ρ.length := (List.getElem?_eq_some_iff.mp h).1
  have em : MU F g σ (ρ.set i (.o d)) = MU F g σ ρ := by
    funext b
    apply propext
    unfold MU
    constructor
    · rintro (m | m | m | ⟨j, e, h1, h2⟩)
      · exact .inl m
      · exact .inr (.inl m)
      · exact .inr (.inr (.inl m))
      · by_cases hj : i = j
        · subst hj
          exact .inr (.inr (.inr ⟨i, d0, h, h2⟩))
        · rw [List.getElem?_set_ne hj] at h1
          exact .inr (.inr (.inr ⟨j, e, h1, h2⟩))
    · rintro (m | m | m | ⟨j, e, h1, h2⟩)
      · exact .inl m
      · exact .inr (.inl m)
      · exact .inr (.inr (.inl m))
      · by_cases hj : i = j
        · subst hj
          exact .inr (.inr (.inr ⟨i, d, List.getElem?_set_self hi, h2⟩))
        · exact .inr (.inr (.inr ⟨j, e, by rw [List.getElem?_set_ne hj]; exact h1, h2⟩))
  have ma : MU F g σ ρ a := .inr (.inr (.inr ⟨i, d0, h, ha⟩))
  have kp : ∀ b u, H b = some u → b ≠ a → upd H a o b = some u := fun b u e n => by rw [upd_ne n]; exact e
  have e : Ext g.sm (MU F g σ ρ) H g.sm (MU F g σ (ρ.set i (.o d))) (upd H a o) := ⟨⟨[], by simp⟩, fun b u e n => kp b u e fun z => n (by rw [z]; exact ma), fun b m => .inl (by rw [em] at m; exact m)⟩
  obtain ⟨s1, s2, s3, s4⟩ := r.sep i d0 a h ha
  have ow : Own c g.sm (MU F g σ (ρ.set i (.o d))) (upd H a o) a d := ho _ _ (fun b u e n => kp b u e fun z => n (by rw [z]; exact ma)) (fun b m => by rw [em] at m; exact m) upd_same
  refine ⟨⟨by simp [r.len], fun j d' h1 => ?_, fun j d' h1 => ?_, fun j k d1 d2 b h1 h2 h3 h4 => ?_, fun j d' b h1 h2 => ?_, ⟨r.sto.1, fun n b d' h1 h2 => ?_⟩, r.smn, r.smo, fun b hb => ?_, r.tmn, r.pre, fun b u hb hn => ?_, r.moT, fun b hb => ?_, fun p hp d' h1 => ?_, fun k ex hk => r.xe e k ex (x_set hk).1⟩, ⟨rfl, e⟩⟩
  · by_cases hj : i = j
    · subst hj
      rw [List.getElem?_set_self hi] at h1
      cases h1
    · rw [List.getElem?_set_ne hj] at h1
      obtain ⟨x, q1, q2⟩ := r.val j d' h1
      exact ⟨x, q1, q2.ext e⟩
  · by_cases hj : i = j
    · subst hj
      rw [List.getElem?_set_self hi] at h1
      cases h1
      exact ⟨a, ha, ow⟩
    · rw [List.getElem?_set_ne hj] at h1
      obtain ⟨b, q1, q2⟩ := r.own j d' h1
      have nb : b ≠ a := fun z => hj (r.inj i j d0 d' a h h1 ha (by rw [← z]; exact q1))
      exact ⟨b, q1, q2.ext e fun u hu => kp b u hu nb⟩
  · have back : ∀ (l : Nat) (x : D), (ρ.set i (Sl.o d))[l]? = some (Sl.o x) → ∃ y, ρ[l]? = some (Sl.o y) := fun l x hl => by
      by_cases hj : i = l
      · subst hj; exact ⟨d0, h⟩
      · rw [List.getElem?_set_ne hj] at hl; exact ⟨x, hl⟩
    obtain ⟨y1, z1⟩ := back j d1 h1
    obtain ⟨y2, z2⟩ := back k d2 h2
    exact r.inj j k y1 y2 b z1 z2 h3 h4
  · by_cases hj : i = j
    · subst hj; exact r.sep i d0 b h h2
    · rw [List.getElem?_set_ne hj] at h1; exact r.sep j d' b h1 h2
  · have nb : b ≠ a := fun z => s2 (by rw [← z]; exact List.mem_of_getElem? h1)
    exact (r.sto.2 n b d' h1 h2).ext e fun u hu => kp b u hu nb
  · obtain ⟨q1, q2, u, q3, q4⟩ := r.tmo b hb
    exact ⟨q1, q2, u, kp b u q3 (fun z => s3 (by rw [← z]; exact hb)), q4⟩
  · refine kp b u (r.keep b u hb hn) fun z => ?_
    subst z
    rcases s4 with q | q
    · rw [hb] at q; cases q
    · exact hn q
  · by_cases z : b = a
    · subst z; exact ⟨o, upd_same⟩
    · obtain ⟨u, hu⟩ := r.exT b hb
      exact ⟨u, kp b u hu z⟩
  · by_cases hj : i = 0
    · subst hj
      exact r.fx p hp d0 h
    · rw [List.getElem?_set_ne hj] at h1
      exact r.fx p hp d' h1
/-- a thing of the store changes -/
theorem R.setsto {n : Nat} {a : Addr} {d0 d : D} {o : HO} (r : R c F g σ H ρ S) (h : S[n]? = some d0) (ha : g.sm[n]? = some a) (hm : Mut (some o))
    (ho : ∀ M' H', (∀ b u, H b = some u → ¬ MU F g σ ρ b → H' b = some u) → (∀ b, M' b → MU F g σ ρ b) → H' a = some o → Own c g.sm M' H' a d) :
    R c F g σ (upd H a o) ρ (S.set n d) ∧ Stp F g σ ρ H g σ ρ (upd H a o) := by
  have hn : n < S.length := (List.getElem?_eq_some_iff.mp h).1
  have hin : a ∈ g.sm := List.mem_of_getElem? ha
  have ma : MU F g σ ρ a := .inr (.inl hin)
  have kp : ∀ b u, H b = some u → b ≠ a → upd H a o b = some u := fun b u e n => by rw [upd_ne n]; exact e
  have e : Ext g.sm (MU F g σ ρ) H g.sm (MU F g σ ρ) (upd H a o) := ⟨⟨[], by simp⟩, fun b u e n => kp b u e fun z => n (by rw [z]; exact ma), fun b m => .inl m⟩
  obtain ⟨s1, s2, s3⟩ := r.smo a hin
  have ow : Own c g.sm (MU F g σ ρ) (upd H a o) a d := ho _ _ (fun b u e n => kp b u e fun z => n (by rw [z]; exact ma)) (fun b m => m) upd_same
  refine ⟨⟨r.len, fun j d' h1 => ?_, fun j d' h1 => ?_, r.inj, r.sep, ⟨by simp [r.sto.1], fun m b d' h1 h2 => ?_⟩, r.smn, r.smo, fun b hb => ?_, r.tmn, r.pre, fun b u hb hx => ?_, r.moT, fun b hb => ?_, r.fx, r.xe e⟩, ⟨rfl, e⟩⟩
  · obtain ⟨x, q1, q2⟩ := r.val j d' h1
    exact ⟨x, q1, q2.ext e⟩
  · obtain ⟨b, q1, q2⟩ := r.own j d' h1
    have nb : b ≠ a := fun z => (r.sep j d' b h1 q1).2.1 (by rw [z]; exact hin)
    exact ⟨b, q1, q2.ext e fun u hu => kp b u hu nb⟩
  · by_cases hj : n = m
    · subst hj
      rw [List.getElem?_set_self hn] at h2
      cases h2
      rw [ha] at h1; cases h1
      exact ow
    · rw [List.getElem?_set_ne hj] at h2
      have nb : b ≠ a := fun z => by
        subst z
        exact hj (nd_ix r.smn ha h1)
      exact (r.sto.2 m b d' h1 h2).ext e fun u hu => kp b u hu nb
  · obtain ⟨q1, q2, u, q3, q4⟩ := r.tmo b hb
    exact ⟨q1, q2, u, kp b u q3 (fun z => s2 (by rw [← z]; exact hb)), q4⟩
  · refine kp b u (r.keep b u hb hx) fun z => ?_
    subst z
    rcases s3 with q | q
    · rw [hb] at q; cases q
    · exact hx q
  · by_cases z : b = a
    · subst z; exact ⟨o, upd_same⟩
    · obtain ⟨u, hu⟩ := r.exT b hb
      exact ⟨u, kp b u hu z⟩
end

/-! ### methods that change a list -/
/-- the list that a slot holds alone or shares -/
def listAt (ρ : En) (S : Sto) (i : Nat) : Option (List D) := match ρ[i]? with
  | some (.o (.lst ds)) => some ds
  | some (.v (.ref n)) => (match S[n]? with
    | some (.lst ds) => some ds
    | _ => none)
  | _ => none
/-- .. with another list -/
def putL (ρ : En) (S : Sto) (i : Nat) (ds : List D) (Q : En → Sto → Prop) : Prop := match ρ[i]? with
  | some (.o _) => Q (ρ.set i (.o (.lst ds))) S
  | some (.v (.ref n)) => Q ρ (S.set n (.lst ds))
  | _ => False
abbrev MutF := List D → List D → (D → List D → Prop) → Prop
def wMut (i : Nat) (f : MutF) (wa : TVA) : TV := fun ρ S Q E => (∃ l, listAt ρ S i = some l) ∧ wa ρ S (fun args ρ1 S1 => ∃ ds, listAt ρ1 S1 i = some ds ∧ f ds args fun z ds' => putL ρ1 S1 i ds' fun ρ2 S2 => Q z ρ2 S2) E
def mAppend : MutF := fun ds args P => ∃ d, args = [d] ∧ ds.length < sizeLine ∧ P .non (ds ++ [d])
def mPop : MutF := fun ds args P => args = [] ∧ ∃ d, ds[ds.length - 1]? = some d ∧ P d ds.dropLast
def mReverse : MutF := fun ds args P => args = [] ∧ P .non ds.reverse
def mExtend : MutF := fun ds args P => ∃ es, args = [.lst es] ∧ ds.length + es.length ≤ sizeLine ∧ P .non (ds ++ es)
section
variable {c : Cf} {F : Fr} {g : Gs} {σ : St} {H : Hp} {ρ : En} {S : Sto} {i : Nat} {ds : List D}
theorem R.listAt (r : R c F g σ H ρ S) (h : VL.listAt ρ S i = some ds) : ∃ a vs, σ[i]? = some (some (V.ref a)) ∧ H a = some (.lst vs) ∧ Reps c g.sm (MU F g σ ρ) H ds vs := by
  unfold VL.listAt at h
  split at h
  · rename_i e
    cases h
    obtain ⟨a, h1, h2⟩ := r.own i _ e
    simp only [Own] at h2
    obtain ⟨vs, h3, h4⟩ := h2
    exact ⟨a, vs, h1, h3, h4⟩
  · rename_i n e
    split at h
    · rename_i es e2
      cases h
      obtain ⟨x, h1, h2⟩ := r.val i _ e
      simp only [Rep] at h2
      obtain ⟨a, h3, h4⟩ := h2
      subst h4
      have ow := r.sto.2 n a _ h3 e2
      simp only [Own] at ow
      obtain ⟨vs, h5, h6⟩ := ow
      exact ⟨a, vs, h1, h5, h6⟩
    · cases h
  · cases h
/-- a list changes -/
theorem R.putL {ds' : List D} {vs' : List V} {a : Addr} {P : En → Sto → Prop} (r : R c F g σ H ρ S) (h : VL.listAt ρ S i = some ds) (ha : σ[i]? = some (some (V.ref a))) (q : Reps c g.sm (MU F g σ ρ) H ds' vs') (hp : VL.putL ρ S i ds' P) :
    ∃ ρ' S', R c F g σ (upd H a (.lst vs')) ρ' S' ∧ Stp F g σ ρ H g σ ρ' (upd H a (.lst vs')) ∧ P ρ' S' := by
  have ow : ∀ (M' : Addr → Prop) (H' : Hp), (∀ b u, H b = some u → ¬ MU F g σ ρ b → H' b = some u) → (∀ b, M' b → MU F g σ ρ b) → H' a = some (.lst vs') → Own c g.sm M' H' a (.lst ds') := fun M' H' k m e => by
    simp only [Own]
    exact ⟨vs', e, Reps.ext ⟨⟨[], by simp⟩, k, fun b z => .inl (m b z)⟩ q⟩
  unfold VL.listAt at h
  unfold VL.putL at hp
  split at h
  · rename_i e
    rw [e] at hp
    obtain ⟨r2, st⟩ := r.setown (d := .lst ds') (o := .lst vs') e ha trivial ow
    exact ⟨_, S, r2, st, hp⟩
  · rename_i n e
    split at h
    · rename_i es e2
      rw [e] at hp
      obtain ⟨x, h1, h2⟩ := r.val i _ e
      simp only [Rep] at h2
      obtain ⟨b, h3, h4⟩ := h2
      subst h4
      rw [ha] at h1; cases h1
      obtain ⟨r2, st⟩ := r.setsto (d := .lst ds') (o := .lst vs') e2 h3 trivial ow
      exact ⟨ρ, _, r2, st, hp⟩
    · cases h
  · cases h
end
/-- what such a method does, by values -/
def MutR (Y : VC) (id : String) (f : MutF) : Prop := ∀ (pins : List (Addr × Obj)) (s : Shared) (σ : St) (H : Hp) (a : Addr) (vs xs : List V) (us : List Value) (ds args : List D) (sm : List Addr) (M : Addr → Prop) (P : D → List D → Prop) (Q : VK), Inv Y.X pins σ H s → Vals xs us → H a = some (.lst vs) →
  Reps Y.c sm M H ds vs → Reps Y.c sm M H args xs → f ds args P → (∀ z d ds' vs', Rep Y.c sm M H d z → Reps Y.c sm M H ds' vs' → P d ds' → Q z (upd H a (.lst vs'))) → wpAny (model Y.X.prog Y.X.w) Y.X.A (call (.builtin id) (.ref a :: us)) (EP Y.X pins σ Q) Y.X.xe s
section
variable {Y : VC}
theorem mr_append : MutR Y "list.append" mAppend := by
  intro pins s σ H a vs xs us ds args sm M P Q I rv hv rd ra ⟨d, ea, hl, hp⟩ k
  subst ea
  simp only [Reps] at ra
  obtain ⟨x, r, e, h1, h2⟩ := ra
  subst h2 e
  refine mt_append pins s σ H (.ref a) [x] (.ref a) us Q I rfl rv ⟨a, vs, x, rfl, rfl, hv, by rw [← rd.length]; exact hl, k .non .non _ _ rep_non (rd.append ?_) hp⟩
  simp only [Reps]
  exact ⟨x, [], rfl, h1, rfl⟩
theorem mr_pop : MutR Y "list.pop" mPop := by
  intro pins s σ H a vs xs us ds args sm M P Q I rv hv rd ra ⟨ea, d, hd, hp⟩ k
  subst ea
  simp only [Reps] at ra
  subst ra
  obtain ⟨z, h1, h2⟩ := rd.get hd
  rw [rd.length] at h1
  exact mt_pop pins s σ H (.ref a) [] (.ref a) us Q I rfl rv ⟨a, vs, z, rfl, rfl, hv, h1, k z d _ _ h2 rd.dropLast hp⟩
theorem mr_reverse : MutR Y "list.reverse" mReverse := by
  intro pins s σ H a vs xs us ds args sm M P Q I rv hv rd ra ⟨ea, hp⟩ k
  subst ea
  simp only [Reps] at ra
  subst ra
  exact mt_reverse pins s σ H (.ref a) [] (.ref a) us Q I rfl rv ⟨a, vs, rfl, rfl, hv, k .non .non _ _ rep_non rd.reverse hp⟩
theorem mr_extend : MutR Y "list.extend" mExtend := by
  intro pins s σ H a vs xs us ds args sm M P Q I rv hv rd ra ⟨es, ea, hl, hp⟩ k
  subst ea
  simp only [Reps, Rep] at ra
  obtain ⟨x, r, e, ⟨b, ws, eb, hb, _, rb⟩, h2⟩ := ra
  subst h2 e eb
  exact mt_extend pins s σ H (.ref a) [.ref b] (.ref a) us Q I rfl rv ⟨a, b, vs, ws, rfl, rfl, hv, hb, by rw [← rd.length, ← rb.length]; exact hl, k .non .non _ _ rep_non (rd.append rb) hp⟩
end
section
variable {Y : VC} {i : Nat} {x : Str} {e : Expr} {es : List Expr} {wa : TVA} {name : Str} {p0 apos cpos : Pos} {id : String} {f : MutF}
/-- x.m(e, ..) that changes the list x -/
theorem ve_mut (slot : Slot "list" name id) (hty : typeOf (.builtin id) = pure (.type "method_descriptor")) (hm : MutR Y id f) (hN : Y.X.N[i]? = some x) (hv : Vis Y.X.env.scope x) (ha : VA Y (e :: es) wa) (hd : (x == ("__debug__" : Str)) = false := by decide) (hcd : (x == ("__classdict__" : Str)) = false := by decide)
    (hbase : attributeBase (.Name x p0) name Y.X.env (eval (.Name x p0) Y.X.env) = eval (.Name x p0) Y.X.env := by rfl)
    (hfew : ((backTo cpos (starEach (e :: es) Y.X.env)).all (fun x => !x.1) && (backToKw cpos (keywordEach [] Y.X.env)).all (fun x => x.1.isSome)
      && decide ((e :: es).length + ([] : List Keyword).length + (if ([] : List Keyword).isEmpty then 0 else 1) < 30)) = true := by rfl)
    (hline : (apos.endLine == cpos.line) = true := by rfl) (hs : starEach (e :: es) Y.X.env = (false, eval e Y.X.env) :: starEach es Y.X.env := by rfl) (hplain : (backTo cpos (starEach es Y.X.env)).any (·.1) = false := by rfl) :
    VE Y (.Call (.Attribute (.Name x p0) name apos) (e :: es) [] cpos) (wMut i f wa) := by
  refine ⟨fun pins s σ H Q I ⟨g, ρ, S, Qv, Ev, r, ⟨⟨l0, hl0⟩, hw⟩, ec, hq⟩ => ?_⟩
  obtain ⟨a, vs0, s1, h1, _⟩ := r.listAt hl0
  refine wpAny_Call_method_late hbase hfew hline rfl (thn ((pe_var hN hv hd hcd).run pins s σ H (fun v H1 => v = .ref a ∧ H1 = H) I ⟨.ref a, s1, rfl, rfl⟩) fun v s2 ⟨y, H1, I1, ry, ey, eH⟩ => ?_)
  subst ey eH
  obtain rfl : v = Value.ref a := ry
  obtain ⟨t1, t2⟩ := tyV_is (T := "list") I1 (show RelV (.ref a) (.ref a) from rfl) (.inl ⟨rfl, vs0, SqL.of h1⟩)
  refine ⟨"list", id, PySem.F.plainAttrs_list, slot, hty, t1, t2, ?_⟩
  have hA := ha.run cpos pins s2 σ H1 (fun xs H2 => ∃ g1 ρ1 S1 args, R Y.c Y.F g1 σ H2 ρ1 S1 ∧ Stp Y.F g σ ρ H1 g1 σ ρ1 H2 ∧ Reps Y.c g1.sm (MU Y.F g1 σ ρ1) H2 args xs ∧ ∃ ds, listAt ρ1 S1 i = some ds ∧ f ds args fun z ds' => putL ρ1 S1 i ds' fun ρ2 S2 => Qv z ρ2 S2) I1
    ⟨g, ρ, S, _, Ev, r, hw, ec, fun xs H2 g1 ρ1 S1 args r1 st1 rp1 q1 => ⟨g1, ρ1, S1, args, r1, st1, rp1, q1⟩⟩
  rw [hs] at hA ⊢
  refine Calls.callWith_builtin (by show (false || (backTo cpos (starEach es Y.X.env)).any (·.1)) = false; rw [hplain] <;> rfl) (Calls.evalArgs_plain ?_)
  refine thn hA fun us s3 ⟨xs, H2, I2, rv, g1, ρ1, S1, args, r1, st1, rp1, ds, hds, q1⟩ => ?_
  obtain ⟨b, vs, q2, q3, q4⟩ := r1.listAt hds
  rw [s1] at q2; cases q2
  refine hm pins s3 σ H2 a vs xs us ds args g1.sm (MU Y.F g1 σ ρ1) _ Q I2 rv q3 q4 rp1 q1 fun z d ds' vs' rz rd' qp => ?_
  obtain ⟨ρ2, S2, r3, st3, q5⟩ := r1.putL hds s1 rd' qp
  exact hq z _ g1 ρ2 S2 d r3 (st1.trans st3) (rz.ext st3.ext) q5
theorem ve_mut0 (slot : Slot "list" name id) (hty : typeOf (.builtin id) = pure (.type "method_descriptor")) (hm : MutR Y id f) (hN : Y.X.N[i]? = some x) (hv : Vis Y.X.env.scope x) (hd : (x == ("__debug__" : Str)) = false := by decide) (hcd : (x == ("__classdict__" : Str)) = false := by decide)
    (hbase : attributeBase (.Name x p0) name Y.X.env (eval (.Name x p0) Y.X.env) = eval (.Name x p0) Y.X.env := by rfl) (hline : (apos.endLine == cpos.line) = true := by rfl) :
    VE Y (.Call (.Attribute (.Name x p0) name apos) [] [] cpos) (wMut i f wANil) := by
  refine ⟨fun pins s σ H Q I ⟨g, ρ, S, Qv, Ev, r, ⟨⟨l0, hl0⟩, hw⟩, ec, hq⟩ => ?_⟩
  obtain ⟨a, vs0, s1, h1, _⟩ := r.listAt hl0
  refine wpAny_Call_method0_late hbase hline (thn ((pe_var hN hv hd hcd).run pins s σ H (fun v H1 => v = .ref a ∧ H1 = H) I ⟨.ref a, s1, rfl, rfl⟩) fun v s2 ⟨y, H1, I1, ry, ey, eH⟩ => ?_)
  subst ey eH
  obtain rfl : v = Value.ref a := ry
  obtain ⟨t1, t2⟩ := tyV_is (T := "list") I1 (show RelV (.ref a) (.ref a) from rfl) (.inl ⟨rfl, vs0, SqL.of h1⟩)
  refine ⟨"list", id, PySem.F.plainAttrs_list, slot, hty, t1, t2, Calls.callWith_builtin rfl (PySem.evalArgs_none ?_)⟩
  have hw : ∃ ds, listAt ρ S i = some ds ∧ f ds [] fun z ds' => putL ρ S i ds' fun ρ2 S2 => Qv z ρ2 S2 := hw
  obtain ⟨ds, hds, q1⟩ := hw
  obtain ⟨b, vs, q2, q3, q4⟩ := r.listAt hds
  rw [s1] at q2; cases q2
  refine hm pins s2 σ H1 a vs [] [] ds [] g.sm (MU Y.F g σ ρ) _ Q I1 .nil q3 q4 (by simp only [Reps]) q1 fun z d ds' vs' rz rd' qp => ?_
  obtain ⟨ρ2, S2, r3, st3, q5⟩ := r.putL hds s1 rd' qp
  exact hq z _ g ρ2 S2 d r3 st3 (rz.ext st3.ext) q5
end

/-! ### methods of built-in types that only look -/
def tyD (T : String) (d : D) : Bool := match d with
  | .str _ => T == "str"
  | .lst _ => T == "list"
  | _ => false
section
variable (Y : VC)
def rM (vf : D → List D → Sto → (D → Prop) → Prop) : V → List V → Hp → VK → Prop := fun x xs H Q => ∃ (g : Gs) (σ : St) (ρ : En) (S : Sto) (d : D) (ds : List D) (P : D → Prop), R Y.c Y.F g σ H ρ S ∧ Brw Y.c g.sm (MU Y.F g σ ρ) H d x ∧ Brws Y.c g.sm (MU Y.F g σ ρ) H ds xs ∧ vf d ds S P ∧
  ∀ z d H', (∀ b o, H b = some o → H' b = some o) → Rep Y.c g.sm (MU Y.F g σ ρ) H' d z → P d → Q z H'
end
def wBMT (T : String) (vf : D → List D → Sto → (D → Prop) → Prop) (wo : TVO) (wa : TVOA) : TV := fun ρ S Q E => wo ρ S (fun h ρ1 S1 => rsv ρ1 h fun d => tyD T (dr S1 d) = true ∧ wa ρ1 S1 (fun hs ρ2 S2 => rsv ρ2 h fun x => rsvs ρ2 hs fun ds => vf (dr S2 x) ds S2 fun z => Q z ρ2 S2) E) E
section
variable {Y : VC} {o e : Expr} {es : List Expr} {wo : TVO} {wa : TVOA} {T id : String} {name : Str} {apos cpos : Pos} {vf : D → List D → Sto → (D → Prop) → Prop}
theorem tyV_of {K : PySem.W.Frag} {c : Cf} {sm : List Addr} {M : Addr → Prop} {H : Hp} {d : D} {x : V} (h : Brw c sm M H d x) (ht : tyD T d = true) : tyV K T x H := by
  unfold tyD at ht
  split at ht
  · obtain rfl := h.str
    exact beq_iff_eq.mp ht
  · obtain ⟨a, vs, e, h1, _⟩ := h.lst
    subst e
    exact .inl ⟨beq_iff_eq.mp ht, vs, SqL.of h1⟩
  · cases ht
theorem ve_bm (pa : PlainAttrs T) (slot : Slot T name id) (hty : typeOf (.builtin id) = pure (.type "method_descriptor")) (hm : MtR Y.X id (rM Y vf)) (ho : VO Y o wo) (ha : VOA Y (e :: es) wa)
    (hbase : attributeBase o name Y.X.env (eval o Y.X.env) = eval o Y.X.env := by rfl)
    (hfew : ((backTo cpos (starEach (e :: es) Y.X.env)).all (fun x => !x.1) && (backToKw cpos (keywordEach [] Y.X.env)).all (fun x => x.1.isSome)
      && decide ((e :: es).length + ([] : List Keyword).length + (if ([] : List Keyword).isEmpty then 0 else 1) < 30)) = true := by rfl)
    (hline : (apos.endLine == cpos.line) = true := by rfl) (hs : starEach (e :: es) Y.X.env = (false, eval e Y.X.env) :: starEach es Y.X.env := by rfl) (hplain : (backTo cpos (starEach es Y.X.env)).any (·.1) = false := by rfl) :
    VE Y (.Call (.Attribute o name apos) (e :: es) [] cpos) (wBMT T vf wo wa) :=
  PE.imp (pe_bm pa slot hty hm ho ha hbase hfew hline hs hplain) fun σ H Q ⟨g, ρ, S, Qv, Ev, r, hw, ec, hq⟩ => ⟨g, ρ, S, _, Ev, r, hw, ec, fun v H1 g1 ρ1 S1 h r1 st1 hr1 q1 => by
    obtain ⟨d, b1, ht, q2⟩ := r1.rsv hr1 q1
    refine ⟨tyV_of (r1.dr b1) ht, g1, ρ1, S1, _, Ev, r1, q2, ec.step st1, fun vs H2 g2 ρ2 S2 hs r2 st2 hr2 q3 => ?_⟩
    obtain ⟨x, b2, q4⟩ := r2.rsv (hr1.ext st2.ext) q3
    obtain ⟨ds, b3, q5⟩ := r2.rsvs hr2 q4
    exact ⟨g2, σ, ρ2, S2, _, ds, _, r2, r2.dr b2, b3, q5, fun z d H' k rp qd => hq z H' g2 ρ2 S2 d (r2.grow k) ((st1.trans st2).trans (.grow k)) rp qd⟩⟩
end
section
variable {Y : VC}
/-- sep.join(texts) -/
def joinD : D → List D → Sto → (D → Prop) → Prop := fun x ds S P => match x, ds with
  | .str a, [l] => (match dr S l with
    | .lst l => ∃ ys : List Str, l = ys.map D.str ∧ (ys.map (·.length)).sum + ys.length * a.length ≤ 16777216 ∧ P (.str (Txt.join a ys))
    | _ => False)
  | _, _ => False
theorem mr_join : MtR Y.X "str.join" (rM Y joinD) := by
  intro pins s σ H x xs v us Q I rx rv ⟨g, σ', ρ, S, d, ds, P, r, b, bs, hv, k⟩
  unfold joinD at hv
  split at hv
  · rename_i a l
    obtain ⟨y, e, b1⟩ := brws1 bs
    have b1 := r.dr b1
    split at hv
    · rename_i l' e'
      rw [e'] at b1
      obtain ⟨ys, e2, hl, hp⟩ := hv
      subst e2
      obtain ⟨p, vs, ey, h1, q⟩ := b1.lst
      rw [txts_of q] at h1
      subst ey
      subst e
      exact mt_join pins s σ H x _ v us Q I rx rv ⟨a, p, ys, b.str, rfl, .inl (SqL.of h1), hl, k _ _ H (fun _ _ h => h) rep_str hp⟩
    · exact hv.elim
  · exact hv.elim
end

/-! ### stores -/
def putD (kvs : List (Key × D)) (k : Key) (v : D) : List (Key × D) :=
  if (kvs.any fun kv => decide (kv.1 = k)) = true then kvs.map (fun kv => if kv.1 = k then (kv.1, v) else kv) else kvs ++ [(k, v)]
def putFd (f : String) (v : D) : List (String × D) → List (String × D)
  | [] => [(f, v)]
  | (g, x) :: r => if g = f then (g, v) :: r else (g, x) :: putFd f v r
section
variable {c : Cf} {sm : List Addr} {M : Addr → Prop} {H : Hp}
theorem RepK.any (k : Key) : ∀ {ds : List (Key × D)} {vs : List (Key × V)}, RepK c sm M H ds vs → (ds.any fun kv => decide (kv.1 = k)) = (vs.any fun kv => decide (kv.1 = k))
  | [], vs, h => by simp only [RepK] at h; subst h; rfl
  | (k', d) :: ds, vs, h => by
    simp only [RepK] at h
    obtain ⟨x, r, e, h1, h2⟩ := h
    subst e
    simp only [List.any_cons, RepK.any k h2]
theorem RepK.length : ∀ {ds : List (Key × D)} {vs : List (Key × V)}, RepK c sm M H ds vs → ds.length = vs.length
  | [], vs, h => by simp only [RepK] at h; subst h; rfl
  | (k', d) :: ds, vs, h => by
    simp only [RepK] at h
    obtain ⟨x, r, e, h1, h2⟩ := h
    subst e
    simp [h2.length]
theorem RepK.mapPut (k : Key) {v : D} {z : V} (hz : Rep c sm M H v z) : ∀ {ds : List (Key × D)} {vs : List (Key × V)}, RepK c sm M H ds vs → RepK c sm M H (ds.map fun kv => if kv.1 = k then (kv.1, v) else kv) (vs.map fun kv => if kv.1 = k then (kv.1, z) else kv)
  | [], vs, h => by simp only [RepK] at h; subst h; simp only [List.map_nil, RepK]
  | (k', d) :: ds, vs, h => by
    simp only [RepK] at h
    obtain ⟨x, r, e, h1, h2⟩ := h
    subst e
    by_cases hk : k' = k
    · subst hk
      simp only [List.map_cons, if_pos, RepK]
      exact ⟨z, _, rfl, hz, RepK.mapPut _ hz h2⟩
    · simp only [List.map_cons, if_neg hk, RepK]
      exact ⟨x, _, rfl, h1, RepK.mapPut _ hz h2⟩
theorem RepK.append : ∀ {ds es : List (Key × D)} {vs ws : List (Key × V)}, RepK c sm M H ds vs → RepK c sm M H es ws → RepK c sm M H (ds ++ es) (vs ++ ws)
  | [], _, vs, _, h, h' => by simp only [RepK] at h; subst h; exact h'
  | (k', d) :: ds, es, vs, ws, h, h' => by
    simp only [RepK] at h
    obtain ⟨x, r, e, h1, h2⟩ := h
    subst e
    show RepK c sm M H ((k', d) :: (ds ++ es)) _
    simp only [RepK]
    exact ⟨x, r ++ ws, rfl, h1, RepK.append h2 h'⟩
theorem RepK.put {k : Key} {v : D} {z : V} (hz : Rep c sm M H v z) {ds : List (Key × D)} {vs : List (Key × V)} (h : RepK c sm M H ds vs) : RepK c sm M H (putD ds k v) (putK vs k z) := by
  unfold putD putK
  rw [h.any k]
  split
  · exact RepK.mapPut k hz h
  · refine RepK.append h ?_
    simp only [RepK]
    exact ⟨z, [], rfl, hz, rfl⟩
theorem RepF.put {f : String} {v : D} {z : V} (hz : Rep c sm M H v z) : ∀ {ds : List (String × D)} {vs : List (Str × V)}, RepF c sm M H ds vs → RepF c sm M H (putFd f v ds) (putF (toS f) z vs)
  | [], vs, h => by
    simp only [RepF] at h
    subst h
    simp only [putFd, putF, RepF]
    exact ⟨z, [], rfl, hz, rfl⟩
  | (g, d) :: ds, vs, h => by
    simp only [RepF] at h
    obtain ⟨x, r, e, h1, h2⟩ := h
    subst e
    by_cases hk : g = f
    · subst hk
      simp only [putFd, putF, if_pos, RepF]
      exact ⟨z, r, rfl, hz, h2⟩
    · have hk2 : ¬ toS g = toS f := fun q => hk (toS_inj q)
      simp only [putFd, putF, if_neg hk, if_neg hk2, RepF]
      exact ⟨x, _, rfl, h1, RepF.put hz h2⟩
theorem RepF.length : ∀ {ds : List (String × D)} {vs : List (Str × V)}, RepF c sm M H ds vs → ds.length = vs.length
  | [], vs, h => by simp only [RepF] at h; subst h; rfl
  | (k', d) :: ds, vs, h => by
    simp only [RepF] at h
    obtain ⟨x, r, e, h1, h2⟩ := h
    subst e
    simp [h2.length]
end
theorem mem_putFd {f : String} {v : D} : ∀ {fs : List (String × D)} {g : String × D}, g ∈ putFd f v fs → g.1 = f ∨ g ∈ fs
  | [], g, h => by
    simp only [putFd, List.mem_singleton] at h
    exact .inl (by rw [h])
  | (k, x) :: r, g, h => by
    simp only [putFd] at h
    split at h
    · rename_i e
      rcases List.mem_cons.mp h with q | q
      · exact .inl (by rw [q]; exact e)
      · exact .inr (List.mem_cons_of_mem _ q)
    · rcases List.mem_cons.mp h with q | q
      · exact .inr (by rw [q]; exact List.mem_cons_self)
      · rcases mem_putFd q with q | q
        · exact .inl q
        · exact .inr (List.mem_cons_of_mem _ q)
/-- x[k] = v, x an own dict or an own list -/
def wSetIx (i : Nat) (wk wv : TV) : TVS := fun ρ S Q E => wv ρ S (fun d ρ1 S1 => rsv ρ1 (.s i) fun _ => wk ρ1 S1 (fun kd ρ2 S2 => match ρ2[i]? with
  | some (.o (.dic kvs)) => ∃ k, keyD kd = some k ∧ kvs.length < sizeLine ∧ Q .nx (ρ2.set i (.o (.dic (putD kvs k d)))) S2
  | _ => False) E) E
def wSetLx (i : Nat) (wk wv : TV) : TVS := fun ρ S Q E => wv ρ S (fun d ρ1 S1 => rsv ρ1 (.s i) fun _ => wk ρ1 S1 (fun kd ρ2 S2 => match ρ2[i]? with
  | some (.o (.lst ds)) => ∃ k j, kd = .int k ∧ ixN ds.length k = some j ∧ Q .nx (ρ2.set i (.o (.lst (ds.set j d)))) S2
  | _ => False) E) E
/-- x.f = v, x an own instance -/
def wSetF (cs : List String) (i : Nat) (f : String) (wv : TV) : TVS := fun ρ S Q E => wv ρ S (fun d ρ1 S1 => match ρ1[i]? with
  | some (.o (.obj cl fs)) => cs.contains cl = true ∧ fs.length < 1000 ∧ Q .nx (ρ1.set i (.o (.obj cl (putFd f d fs)))) S1
  | _ => False) E
section
variable {Y : VC} {fa : String → Addr} {k : Nat} {T : Tab} {TI : String → FWI} {i : Nat} {x : Str} {value ix : Expr} {wk wv : TV} {p0 pos pos' : Pos}
theorem vs_setD (G : Gd Y fa k T TI) (hN : Y.X.N[i]? = some x) (hv : Vis Y.X.env.scope x) (hk : VE Y ix wk) (he : VE Y value wv) (hd : (x == ("__debug__" : Str)) = false := by decide) (hcd : (x == ("__classdict__" : Str)) = false := by decide)
    (hs : swapsWith value (some (.Subscript (.Name x p0) ix pos')) pos.line Y.X.env = pure false := by rfl) : VS Y (.Assign [.Subscript (.Name x p0) ix pos'] value pos) (wSetIx i wk wv) :=
  PS.imp (ps_dput (by have := G.hu; omega) (pe_var hN hv hd hcd) hk he hs) fun D σ H ⟨g, ρ, S, Qv, Ev, r, hw, ec, sc⟩ => ⟨g, ρ, S, _, Ev, r, hw, ec, fun z H1 g1 ρ1 S1 d r1 st1 rp1 q1 => by
    obtain ⟨xd, bx, q2⟩ : ∃ v, σ[i]? = some (some v) ∧ wk ρ1 S1 (fun kd ρ2 S2 => match ρ2[i]? with
      | some (.o (.dic kvs)) => ∃ k, keyD kd = some k ∧ kvs.length < sizeLine ∧ Qv .nx (ρ2.set i (.o (.dic (putD kvs k d)))) S2
      | _ => False) Ev := by
      unfold rsv at q1
      simp only at q1
      split at q1
      · rename_i d' e
        obtain ⟨v, h1, _⟩ := r1.val i d' e
        exact ⟨v, h1, q1⟩
      · rename_i d' e
        obtain ⟨a, h1, _⟩ := r1.own i d' e
        exact ⟨_, h1, q1⟩
      · exact q1.elim
    refine ⟨xd, bx, g1, ρ1, S1, _, Ev, r1, q2, ec.step st1, fun kv H2 g2 ρ2 S2 kd r2 st2 rk q3 => ?_⟩
    split at q3
    · rename_i kvs e
      obtain ⟨kk, ek, hl, q4⟩ := q3
      obtain ⟨a, h1, h2⟩ := r2.own i _ e
      rw [bx] at h1; cases h1
      simp only [Own] at h2
      obtain ⟨vs, h3, h4⟩ := h2
      have key := key_of (.inl rk) ek
      have rz := rp1.ext st2.ext
      obtain ⟨r3, st3⟩ := r2.setown (d := .dic (putD kvs kk d)) (o := .dK (putK vs kk z)) e bx trivial fun M' H' kp m ea => by
        simp only [Own]
        exact ⟨_, ea, RepK.ext ⟨⟨[], by simp⟩, kp, fun b z => .inl (m b z)⟩ (RepK.put rz h4)⟩
      exact ⟨a, _, rfl, .inl ⟨vs, kk, h3, key, by rw [← h4.length]; exact hl, rfl⟩, sc.nx σ _ g2 _ S2 r3 ((st1.trans st2).trans st3) q4⟩
    · exact q3.elim⟩
theorem vs_setL (hN : Y.X.N[i]? = some x) (hv : Vis Y.X.env.scope x) (hk : VE Y ix wk) (he : VE Y value wv) (hd : (x == ("__debug__" : Str)) = false := by decide) (hcd : (x == ("__classdict__" : Str)) = false := by decide)
    (ha : ∀ v, assign (.Subscript (.Name x p0) ix pos') Y.X.env v = (do
      let ov ← holding [v] (eval (.Name x p0) Y.X.env)
      let iv ← holding [v, ov] (eval ix Y.X.env)
      standAt pos'
      holding [v, ov, iv] (setItem ov iv v)
      release [v, ov, iv] []) := by intro _; rfl)
    (hs : swapsWithSole [.Subscript (.Name x p0) ix pos'] value pos.line Y.X.env = pure false := by rfl) (hw : swappedStores [.Subscript (.Name x p0) ix pos'] value Y.X.env = pure none := by rfl)
    (h1 : (assignEach [.Subscript (.Name x p0) ix pos'] Y.X.env).map (·.2) = [assign (.Subscript (.Name x p0) ix pos') Y.X.env] := by rfl) : VS Y (.Assign [.Subscript (.Name x p0) ix pos'] value pos) (wSetLx i wk wv) :=
  PS.imp (ps_asg he (pg_sub (pe_var hN hv hd hcd) hk set_list ha) hs hw h1) fun D σ H ⟨g, ρ, S, Qv, Ev, r, hw, ec, sc⟩ => ⟨g, ρ, S, _, Ev, r, hw, ec, fun z H1 g1 ρ1 S1 d r1 st1 rp1 q1 => by
    obtain ⟨xd, bx, q2⟩ : ∃ v, σ[i]? = some (some v) ∧ wk ρ1 S1 (fun kd ρ2 S2 => match ρ2[i]? with
      | some (.o (.lst ds)) => ∃ k j, kd = .int k ∧ ixN ds.length k = some j ∧ Qv .nx (ρ2.set i (.o (.lst (ds.set j d)))) S2
      | _ => False) Ev := by
      unfold rsv at q1
      simp only at q1
      split at q1
      · rename_i d' e
        obtain ⟨v, h1, _⟩ := r1.val i d' e
        exact ⟨v, h1, q1⟩
      · rename_i d' e
        obtain ⟨a, h1, _⟩ := r1.own i d' e
        exact ⟨_, h1, q1⟩
      · exact q1.elim
    refine ⟨xd, bx, g1, ρ1, S1, _, Ev, r1, q2, ec.step st1, fun kv H2 g2 ρ2 S2 kd r2 st2 rk q3 => ?_⟩
    split at q3
    · rename_i ds e
      obtain ⟨kk, j, ek, hj, q4⟩ := q3
      subst ek
      simp only [Rep] at rk
      subst rk
      obtain ⟨a, h1, h2⟩ := r2.own i _ e
      rw [bx] at h1; cases h1
      simp only [Own] at h2
      obtain ⟨vs, h3, h4⟩ := h2
      have rz := rp1.ext st2.ext
      obtain ⟨r3, st3⟩ := r2.setown (d := .lst (ds.set j d)) (o := .lst (vs.set j z)) e bx trivial fun M' H' kp m ea => by
        simp only [Own]
        exact ⟨_, ea, Reps.ext ⟨⟨[], by simp⟩, kp, fun b z => .inl (m b z)⟩ (h4.set j rz)⟩
      exact ⟨a, vs, kk, j, rfl, rfl, h3, by rw [← h4.length]; exact hj, sc.nx σ _ g2 _ S2 r3 ((st1.trans st2).trans st3) q4⟩
    · exact q3.elim⟩
theorem vs_setF (f : String) (G : Gd Y fa k T TI) (hN : Y.X.N[i]? = some x) (hv : Vis Y.X.env.scope x) (he : VE Y value wv) {cs : List String} (hna : ∀ cl, cs.contains cl = true → NoAttr Y.c.K (Y.c.ca cl) (toS f)) (hd : (x == ("__debug__" : Str)) = false := by decide) (hcd : (x == ("__classdict__" : Str)) = false := by decide)
    (hs : swapsWith value (some (.Attribute (.Name x p0) (toS f) pos')) pos.line Y.X.env = pure false := by rfl) : VS Y (.Assign [.Attribute (.Name x p0) (toS f) pos'] value pos) (wSetF cs i f wv) :=
  PS.imp (ps_fld (pe_var hN hv hd hcd) he hs) fun D σ H ⟨g, ρ, S, Qv, Ev, r, hw, ec, sc⟩ => ⟨g, ρ, S, _, Ev, r, hw, ec, fun z H1 g1 ρ1 S1 d r1 st1 rp1 q1 => by
    split at q1
    · rename_i cl fs e
      obtain ⟨hcs, hl, q2⟩ := q1
      obtain ⟨a, h1, h2⟩ := r1.own i _ e
      simp only [Own] at h2
      obtain ⟨dx, vs, h3, gi, h4⟩ := h2
      have hna := hna cl hcs
      obtain ⟨r3, st3⟩ := r1.setown (d := .obj cl (putFd f d fs)) (o := .ins (Y.c.ca cl) dx (putF (toS f) z vs)) e h1 trivial fun M' H' kp m ea => by
        simp only [Own]
        exact ⟨dx, _, ea, ⟨gi.1, fun gg hg => (mem_putFd hg).elim (fun q => by rw [q]; exact hna) (gi.2 gg)⟩, RepF.ext ⟨⟨[], by simp⟩, kp, fun b z => .inl (m b z)⟩ (RepF.put rp1 h4)⟩
      exact ⟨_, h1, a, _, dx, vs, rfl, h3, by rw [← G.hK]; exact gi.1, by rw [← G.hK]; exact hna, by rw [← h4.length]; exact hl, sc.nx σ _ g1 _ S1 r3 (st1.trans st3) q2⟩
    · exact q1.elim⟩
end
end VL

set_option Elab.async false
set_option linter.all false
set_option autoImplicit false
set_option maxRecDepth 100000
/-! VLComp: comprehensions. -/
namespace VL
open PySem PySem.Spec PyProof.Rows L2

/-! ### slots forgotten for a while -/
def wipeE (ρ : En) : List Nat → En
  | [] => ρ
  | v :: vs => (wipeE ρ vs).set v .un
def backE (ρ ρ' : En) : List Nat → En
  | [] => ρ'
  | v :: vs => (backE ρ ρ' vs).set v (ρ.getD v .un)
def ownB (s : Option Sl) : Bool := match s with
  | some (.o _) => true
  | some (.x _) => true
  | _ => false
def noOwn (ρ : En) (vs : List Nat) : Bool := vs.all fun v => !ownB ρ[v]?
theorem noOwn_at {ρ : En} {vs : List Nat} (h : noOwn ρ vs = true) {i : Nat} (hi : i ∈ vs) {d : D} : ρ[i]? ≠ some (Sl.o d) := fun e => by
  have := List.all_eq_true.mp h i hi
  simp only [ownB] at this
  rw [e] at this
  cases this
theorem noX_at {ρ : En} {vs : List Nat} (h : noOwn ρ vs = true) {i : Nat} (hi : i ∈ vs) {d : Ex} : ρ[i]? ≠ some (Sl.x d) := fun e => by
  have := List.all_eq_true.mp h i hi
  simp only [ownB] at this
  rw [e] at this
  cases this
theorem wipe_ix {σ : St} {j : Nat} : ∀ {vs : List Nat}, (wipe σ vs)[j]? = if j ∈ vs then (if j < σ.length then some none else none) else σ[j]?
  | [] => by simp [wipe]
  | v :: vs => by
    unfold wipe
    by_cases hj : v = j
    · subst hj
      rw [List.getElem?_set]
      simp [wipe_length]
    · rw [List.getElem?_set_ne hj, wipe_ix]
      simp [Ne.symm hj]
theorem wipeE_length {ρ : En} : ∀ {vs : List Nat}, (wipeE ρ vs).length = ρ.length
  | [] => rfl
  | v :: vs => by unfold wipeE; rw [List.length_set, wipeE_length]
theorem wipeE_ix {ρ : En} {j : Nat} : ∀ {vs : List Nat}, (wipeE ρ vs)[j]? = if j ∈ vs then (if j < ρ.length then some .un else none) else ρ[j]?
  | [] => by simp [wipeE]
  | v :: vs => by
    unfold wipeE
    by_cases hj : v = j
    · subst hj
      rw [List.getElem?_set]
      simp [wipeE_length]
    · rw [List.getElem?_set_ne hj, wipeE_ix]
      simp [Ne.symm hj]
theorem backE_length {ρ ρ' : En} : ∀ {vs : List Nat}, (backE ρ ρ' vs).length = ρ'.length
  | [] => rfl
  | v :: vs => by unfold backE; rw [List.length_set, backE_length]
theorem backE_ix {ρ ρ' : En} {j : Nat} : ∀ {vs : List Nat}, (backE ρ ρ' vs)[j]? = if j ∈ vs then (if j < ρ'.length then some (ρ.getD j .un) else none) else ρ'[j]?
  | [] => by simp [backE]
  | v :: vs => by
    unfold backE
    by_cases hj : v = j
    · subst hj
      rw [List.getElem?_set]
      simp [backE_length]
    · rw [List.getElem?_set_ne hj, backE_ix]
      simp [Ne.symm hj]
theorem wipe_agr {σ σ2 : St} {is vs : List Nat} (a : Agr is (wipe σ vs) σ2) (h : ∀ i ∈ is, i ∈ vs) : wipe σ2 vs = wipe σ vs := by
  have hl : σ2.length = σ.length := by rw [a.len, wipe_length]
  refine List.ext_getElem? fun j => ?_
  rw [wipe_ix, wipe_ix, hl]
  by_cases hj : j ∈ vs
  · simp [hj]
  · have : j ∉ is := fun z => hj (h j z)
    simp only [hj, if_false]
    rw [a.at_ j this, wipe_ix]
    simp [hj]

section
variable {c : Cf} {F : Fr} {g : Gs} {σ : St} {H : Hp} {ρ : En} {S : Sto}
theorem R.wipe {vs : List Nat} (r : R c F g σ H ρ S) : R c F g (L2.wipe σ vs) H (wipeE ρ vs) S ∧ Stp F g σ ρ H g (L2.wipe σ vs) (wipeE ρ vs) H := by
  have un : ∀ {j : Nat} {s : Sl}, (wipeE ρ vs)[j]? = some s → s ≠ .un → j ∉ vs ∧ ρ[j]? = some s := fun {j s} h n => by
    rw [wipeE_ix] at h
    by_cases hj : j ∈ vs
    · simp only [hj, if_true] at h
      split at h
      · cases h; exact absurd rfl n
      · cases h
    · simp only [hj, if_false] at h
      exact ⟨hj, h⟩
  have at_ : ∀ {j : Nat}, j ∉ vs → (L2.wipe σ vs)[j]? = σ[j]? := fun {j} hj => by rw [wipe_ix]; simp [hj]
  have hm : ∀ a, MU F g (L2.wipe σ vs) (wipeE ρ vs) a → MU F g σ ρ a := fun a m => by
    rcases m with m | m | m | ⟨j, e, h1, h2⟩
    · exact .inl m
    · exact .inr (.inl m)
    · exact .inr (.inr (.inl m))
    · obtain ⟨q1, q2⟩ := un h1 (by simp)
      rw [at_ q1] at h2
      exact .inr (.inr (.inr ⟨j, e, q2, h2⟩))
  have e : Ext g.sm (MU F g σ ρ) H g.sm (MU F g (L2.wipe σ vs) (wipeE ρ vs)) H := less_ext hm
  refine ⟨?_, rfl, e⟩
  refine R.less (g := g) (tm' := g.tm) r (by rw [wipeE_length, wipe_length]; exact r.len) hm (fun j d h => ?_) (fun j d h => ?_) (fun j k d1 d2 a h1 h2 h3 h4 => ?_) (fun _ h => h) r.tmn (fun d h => by
    obtain ⟨q1, q2⟩ := un h (by simp)
    exact ⟨d, q2, at_ q1⟩) (fun j ex h => by
    obtain ⟨q1, q2⟩ := un h (by simp)
    exact ⟨q2, at_ q1⟩)
  · obtain ⟨q1, q2⟩ := un h (by simp)
    obtain ⟨x, h1, h2⟩ := r.val j d q2
    exact ⟨x, by rw [at_ q1]; exact h1, h2.ext e⟩
  · obtain ⟨q1, q2⟩ := un h (by simp)
    obtain ⟨a, h1, h2⟩ := r.own j d q2
    exact ⟨a, by rw [at_ q1]; exact h1, h2, r.sep j d a q2 h1⟩
  · obtain ⟨q1, q2⟩ := un h1 (by simp)
    obtain ⟨q3, q4⟩ := un h2 (by simp)
    rw [at_ q1] at h3
    rw [at_ q3] at h4
    exact r.inj j k d1 d2 a q2 q4 h3 h4
/-- the slots as they were -/
theorem R.unwipe {vs : List Nat} {g' : Gs} {H' : Hp} {ρ' : En} {S' : Sto} (r : R c F g σ H ρ S) (hn : noOwn ρ vs = true) (r' : R c F g' (L2.wipe σ vs) H' ρ' S') (ex : Ext g.sm (MU F g σ ρ) H g'.sm (MU F g' (L2.wipe σ vs) ρ') H') :
    R c F g' σ H' (backE ρ ρ' vs) S' ∧ Ext g'.sm (MU F g' (L2.wipe σ vs) ρ') H' g'.sm (MU F g' σ (backE ρ ρ' vs)) H' := by
  have hl : ρ'.length = ρ.length := by rw [r'.len, wipe_length, r.len]
  have at_ : ∀ {j : Nat}, j ∉ vs → (L2.wipe σ vs)[j]? = σ[j]? := fun {j} hj => by rw [wipe_ix]; simp [hj]
  have bk : ∀ {j : Nat} {s : Sl}, (backE ρ ρ' vs)[j]? = some s → s ≠ .un → (j ∈ vs ∧ ρ[j]? = some s) ∨ (j ∉ vs ∧ ρ'[j]? = some s) := fun {j s} h n => by
    rw [backE_ix] at h
    by_cases hj : j ∈ vs
    · simp only [hj, if_true] at h
      split at h
      · rename_i hlt
        left
        refine ⟨hj, ?_⟩
        have h := Option.some.inj h
        rw [List.getD_eq_getElem?_getD] at h
        rw [List.getElem?_eq_getElem (by omega)] at h ⊢
        exact congrArg some h
      · cases h
    · simp only [hj, if_false] at h
      exact .inr ⟨hj, h⟩
  have ow : ∀ {j : Nat} {d : D}, (backE ρ ρ' vs)[j]? = some (Sl.o d) → j ∉ vs ∧ ρ'[j]? = some (Sl.o d) := fun {j d} h => by
    rcases bk h (by simp) with ⟨q1, q2⟩ | q
    · exact absurd q2 (noOwn_at hn q1)
    · exact q
  have hm : ∀ a, MU F g' σ (backE ρ ρ' vs) a → MU F g' (L2.wipe σ vs) ρ' a := fun a m => by
    rcases m with m | m | m | ⟨j, e, h1, h2⟩
    · exact .inl m
    · exact .inr (.inl m)
    · exact .inr (.inr (.inl m))
    · obtain ⟨q1, q2⟩ := ow h1
      exact .inr (.inr (.inr ⟨j, e, q2, by rw [at_ q1]; exact h2⟩))
  have e : Ext g'.sm (MU F g' (L2.wipe σ vs) ρ') H' g'.sm (MU F g' σ (backE ρ ρ' vs)) H' := less_ext hm
  refine ⟨?_, e⟩
  refine R.less (g := g') (tm' := g'.tm) r' (by rw [backE_length, hl]; exact r.len) hm (fun j d h => ?_) (fun j d h => ?_) (fun j k d1 d2 a h1 h2 h3 h4 => ?_) (fun _ h => h) r'.tmn (fun d h => by
    obtain ⟨q1, q2⟩ := ow h
    exact ⟨d, q2, (at_ q1).symm⟩) (fun j ex h => by
    rcases bk h (by simp) with ⟨q1, q2⟩ | ⟨q1, q2⟩
    · exact absurd q2 (noX_at hn q1)
    · exact ⟨q2, (at_ q1).symm⟩)
  · rcases bk h (by simp) with ⟨q1, q2⟩ | ⟨q1, q2⟩
    · obtain ⟨x, h1, h2⟩ := r.val j d q2
      exact ⟨x, h1, (h2.ext ex).ext e⟩
    · obtain ⟨x, h1, h2⟩ := r'.val j d q2
      exact ⟨x, by rw [at_ q1] at h1; exact h1, h2.ext e⟩
  · obtain ⟨q1, q2⟩ := ow h
    obtain ⟨a, h1, h2⟩ := r'.own j d q2
    exact ⟨a, by rw [at_ q1] at h1; exact h1, h2, r'.sep j d a q2 h1⟩
  · obtain ⟨q1, q2⟩ := ow h1
    obtain ⟨q3, q4⟩ := ow h2
    rw [← at_ q1] at h3
    rw [← at_ q3] at h4
    exact r'.inj j k d1 d2 a q2 q4 h3 h4

/-! ### a frame within -/
def FrI (F : Fr) (g : Gs) (σ : St) (ρ : En) (H : Hp) : Fr := ⟨H, fun a => a ∈ g.sm ∨ ∃ (i : Nat) (d : D), ρ[i]? = some (Sl.o d) ∧ σ[i]? = some (some (V.ref a)), g.sm, fun a => F.Mo a ∨ a ∈ g.tm, F.fix, F.xs⟩
theorem mu_in {sm : List Addr} {σ' : St} {ρ' : En} : MU (FrI F g σ ρ H) ⟨sm, []⟩ σ' ρ' = MU F ⟨sm, g.tm⟩ σ' ρ' := by
  funext a
  apply propext
  constructor
  · rintro ((h | h) | h | h | h)
    · exact .inl h
    · exact .inr (.inr (.inl h))
    · exact .inr (.inl h)
    · cases h
    · exact .inr (.inr (.inr h))
  · rintro (h | h | h | h)
    · exact .inl (.inl h)
    · exact .inr (.inl h)
    · exact .inl (.inr h)
    · exact .inr (.inr (.inr h))
theorem R.nin (r : R c F g σ H ρ S) {a : Addr} (h : F.Mo a ∨ a ∈ g.tm) : ¬ (a ∈ g.sm ∨ ∃ (i : Nat) (d : D), ρ[i]? = some (Sl.o d) ∧ σ[i]? = some (some (V.ref a))) := by
  rintro (z | ⟨i, d, z1, z2⟩)
  · obtain ⟨q1, q2, _⟩ := r.smo a z
    exact h.elim q1 q2
  · obtain ⟨q1, _, q2, _⟩ := r.sep i d a z1 z2
    exact h.elim q1 q2
theorem R.inner (r : R c F g σ H ρ S) : R c (FrI F g σ ρ H) ⟨g.sm, []⟩ σ H ρ S := by
  have em : MU (FrI F g σ ρ H) ⟨g.sm, []⟩ σ ρ = MU F g σ ρ := mu_in
  refine ⟨r.len, fun i d h => ?_, fun i d h => by rw [em]; exact r.own i d h, r.inj, fun i d a h1 h2 => ?_, by rw [em]; exact r.sto, r.smn, fun a h => ?_, (fun a h => nomatch h), List.nodup_nil, ⟨[], by simp [FrI], (fun _ z => nomatch z)⟩, fun b o h _ => h, fun a h => ?_, fun a h => ?_, r.fx, by rw [em]; exact r.exs⟩
  · rw [em]; exact r.val i d h
  · obtain ⟨q1, q2, q3, q4⟩ := r.sep i d a h1 h2
    exact ⟨fun z => z.elim q1 q3, q2, (fun z => nomatch z), .inr (.inr ⟨i, d, h1, h2⟩)⟩
  · obtain ⟨q1, q2, q3⟩ := r.smo a h
    exact ⟨fun z => z.elim q1 q2, (fun z => nomatch z), .inr (.inl h)⟩
  · have h0 : F.Mo a ∨ a ∈ g.tm := h
    refine (?_ : ∃ o, H a = some o ∧ ¬ _)
    obtain ⟨o, e⟩ := r.tracked (a := a) (h0.elim .inl fun z => .inr (.inr (.inl z)))
    exact ⟨o, e, r.nin h0⟩
  · rcases h with h | ⟨i, d, h1, h2⟩
    · exact r.tracked (.inr (.inl h))
    · exact r.tracked (.inr (.inr (.inr ⟨i, d, h1, h2⟩)))
theorem R.none_exc (r : R c F g σ H ρ S) {a : Addr} (h : (FrI F g σ ρ H).H0 a = none ∨ (FrI F g σ ρ H).exc a) : F.H0 a = none ∨ F.exc a := by
  rcases h with h | h | ⟨i, d, h1, h2⟩
  · have h : H a = none := h
    cases q : F.H0 a with
    | none => exact .inl rfl
    | some u =>
      by_cases y : F.exc a
      · exact .inr y
      · have := r.keep a u q y
        rw [h] at this; cases this
  · exact (r.smo a h).2.2
  · exact (r.sep i d a h1 h2).2.2.2
theorem R.outer {sm' : List Addr} {σ' : St} {H' : Hp} {ρ' : En} {S' : Sto} (r : R c F g σ H ρ S) (r' : R c (FrI F g σ ρ H) ⟨sm', []⟩ σ' H' ρ' S') :
    R c F ⟨sm', g.tm⟩ σ' H' ρ' S' ∧ ∀ a ∈ g.tm, ∀ o, H a = some o → H' a = some o := by
  have em : MU (FrI F g σ ρ H) ⟨sm', []⟩ σ' ρ' = MU F ⟨sm', g.tm⟩ σ' ρ' := mu_in
  have kt : ∀ a, F.Mo a ∨ a ∈ g.tm → ∀ o, H a = some o → H' a = some o := fun a h o e => r'.keep a o e (r.nin h)
  refine ⟨⟨r'.len, fun i d h => ?_, fun i d h => ?_, r'.inj, fun i d a h1 h2 => ?_, by rw [← em]; exact r'.sto, r'.smn, fun a h => ?_, fun a h => ?_, r.tmn, ?_, fun b o h n => ?_, r.moT, fun a h => ?_, r'.fx, by rw [← em]; exact r'.exs⟩, fun a h => kt a (.inr h)⟩
  · rw [← em]; exact r'.val i d h
  · rw [← em]; exact r'.own i d h
  · obtain ⟨q1, q2, q3, q4⟩ := r'.sep i d a h1 h2
    exact ⟨fun z => q1 (.inl z), q2, fun z => q1 (.inr z), r.none_exc q4⟩
  · obtain ⟨q1, q2, q3⟩ := r'.smo a h
    exact ⟨fun z => q1 (.inl z), fun z => q1 (.inr z), r.none_exc q3⟩
  · obtain ⟨q1, q2, o, q3, q4⟩ := r.tmo a h
    exact ⟨q1, q2, o, kt a (.inr h) o q3, q4⟩
  · obtain ⟨m1, e1, h1⟩ := r.pre
    obtain ⟨m2, e2, h2⟩ := r'.pre
    have e2 : sm' = g.sm ++ m2 := e2
    refine ⟨m1 ++ m2, by show sm' = _; rw [e2, e1, List.append_assoc], fun a h => ?_⟩
    rcases List.mem_append.mp h with h | h
    · exact h1 a h
    · have z : H a = none := h2 a h
      cases q : F.H0 a with
      | none => rfl
      | some u =>
        by_cases y : F.exc a
        · obtain ⟨o, e⟩ := r.exT a y
          rw [z] at e; cases e
        · have := r.keep a u q y
          rw [z] at this; cases this
  · have h1 := r.keep b o h n
    refine r'.keep b o h1 fun z => ?_
    rcases r.none_exc (.inr z) with y | y
    · rw [h] at y; cases y
    · exact n y
  · obtain ⟨o, e⟩ := r.exT a h
    by_cases y : (FrI F g σ ρ H).exc a
    · exact r'.exT a y
    · exact ⟨o, r'.keep a o e y⟩
/-- a temporary changes -/
theorem R.settm {a : Addr} {o : HO} (r : R c F g σ H ρ S) (ha : a ∈ g.tm) (hm : Mut (some o)) :
    R c F g σ (upd H a o) ρ S ∧ Stp F g σ ρ H g σ ρ (upd H a o) := by
  have ma : MU F g σ ρ a := .inr (.inr (.inl ha))
  have kp : ∀ b u, H b = some u → b ≠ a → upd H a o b = some u := fun b u e n => by rw [upd_ne n]; exact e
  have e : Ext g.sm (MU F g σ ρ) H g.sm (MU F g σ ρ) (upd H a o) := ⟨⟨[], by simp⟩, fun b u e n => kp b u e fun z => n (by rw [z]; exact ma), fun b m => .inl m⟩
  obtain ⟨t1, t2, _⟩ := r.tmo a ha
  refine ⟨⟨r.len, fun j d' h1 => ?_, fun j d' h1 => ?_, r.inj, r.sep, ⟨r.sto.1, fun m b d' h1 h2 => ?_⟩, r.smn, r.smo, fun b hb => ?_, r.tmn, r.pre, fun b u hb hx => ?_, r.moT, fun b hb => ?_, r.fx, r.xe e⟩, ⟨rfl, e⟩⟩
  · obtain ⟨x, q1, q2⟩ := r.val j d' h1
    exact ⟨x, q1, q2.ext e⟩
  · obtain ⟨b, q1, q2⟩ := r.own j d' h1
    have nb : b ≠ a := fun z => (r.sep j d' b h1 q1).2.2.1 (by rw [z]; exact ha)
    exact ⟨b, q1, q2.ext e fun u hu => kp b u hu nb⟩
  · have nb : b ≠ a := fun z => (r.smo b (List.mem_of_getElem? h1)).2.1 (by rw [z]; exact ha)
    exact (r.sto.2 m b d' h1 h2).ext e fun u hu => kp b u hu nb
  · obtain ⟨q1, q2, u, q3, q4⟩ := r.tmo b hb
    by_cases z : b = a
    · subst z; exact ⟨q1, q2, o, upd_same, hm⟩
    · exact ⟨q1, q2, u, kp b u q3 z, q4⟩
  · refine kp b u (r.keep b u hb hx) fun z => ?_
    subst z
    rw [hb] at t2; cases t2
  · by_cases z : b = a
    · subst z; exact ⟨o, upd_same⟩
    · obtain ⟨u, hu⟩ := r.exT b hb
      exact ⟨u, kp b u hu z⟩
end

/-! ### [e for t in it if ..] -/
abbrev VTs (Y : VC) (ifs : List Expr) (w : TVT) : Prop := PTs Y.X ifs (LT Y w)
def wYes : TVT := fun ρ S Q _ => Q true ρ S
theorem vts_nil {Y : VC} : VTs Y [] wYes := ⟨fun pins s σ H Q I ⟨g, ρ, S, Qv, Ev, r, hw, ec, hq⟩ => pts_nil.run pins s σ H Q I (hq true H g ρ S r .refl hw)⟩
theorem vts_one {Y : VC} {c : Expr} {w : TVT} (h : VT Y c w) : VTs Y [c] w := pts_one h
/-- the block of a comprehension -/
abbrev Blk (Y : VC) (scope : Scope) (s : Shared) (H : Hp) (C : Addr) (cl : List (Str × Addr)) (fp : List Addr) (F : Fr) : VC := ⟨Y.X.blk s H scope (compEnvC scope cl C Y.X.env) fp, Y.c, F, fun _ _ _ _ => False⟩
def lcGo (Gd : Sto → Prop) (tg : Tg) (vs : List Nat) (wt : TVT) (we : TV) : List D → List D → En → Sto → (List D → En → Sto → Prop) → Prop
  | [], acc, ρ, S, Q => Gd S ∧ Q acc ρ S
  | d :: ds, acc, ρ, S, Q => Gd S ∧ ∃ ρ1, bindT tg d ρ = some ρ1 ∧ wt ρ1 S (fun b ρ2 S2 => if b = true then we ρ2 S2 (fun y ρ3 S3 => acc.length < sizeLine ∧ lcGo Gd tg vs wt we ds (acc ++ [y]) (wipeE ρ3 vs) S3 Q) (fun _ _ _ => False)
      else lcGo Gd tg vs wt we ds acc (wipeE ρ2 vs) S2 Q) (fun _ _ _ => False)
def wComp (wi : TVI) (tg : Tg) (vs : List Nat) (wt : TVT) (we : TV) : TV := fun ρ S Q E => wi ρ S (fun ds Gd ρ1 S1 => noOwn ρ1 vs = true ∧ lcGo Gd tg vs wt we ds [] (wipeE ρ1 vs) S1 fun l ρ2 S2 => Q (.lst l) (backE ρ1 ρ2 vs) S2) E
theorem lcGo_gd {Gd : Sto → Prop} {tg : Tg} {vs : List Nat} {wt : TVT} {we : TV} {ds acc : List D} {ρ : En} {S : Sto} {Q : List D → En → Sto → Prop} (h : lcGo Gd tg vs wt we ds acc ρ S Q) : Gd S := by
  cases ds <;> exact h.1
section
variable {Y : VC} {elt tg iter : Expr} {ifs : List Expr} {scope : Scope} {own : List (Str × Nat)} {pos : Pos} {wi : TVI} {t : Tg} {wt : TVT} {we : TV}
theorem lc_te (ht : ∀ i ∈ tgIx t, i ∈ own.map (·.2)) {σ : St} {H : Hp} {Q : VK} (h : LF Y (wComp wi t (own.map (·.2)) wt we) σ H Q)
    (te : TE) (tg' : TG) (tt : TT)
    (hg : ∀ F σ H v Q, LG ⟨Y.X, Y.c, F, fun _ _ _ _ => False⟩ t v σ H Q → tg' v σ H Q) (htt : ∀ F σ H Q, LT ⟨Y.X, Y.c, F, fun _ _ _ _ => False⟩ wt σ H Q → tt σ H Q) (hte : ∀ F σ H Q, LE ⟨Y.X, Y.c, F, fun _ _ _ _ => False⟩ we σ H Q → te σ H Q) :
    tLc (LI Y wi) tg' tt te (own.map (·.2)) σ H Q := by
  obtain ⟨g, ρ, S, Qv, Ev, r, hw, ec, hq⟩ := h
  refine ⟨g, ρ, S, _, Ev, r, hw, ec, fun J H1 g1 ρ1 S1 ds Gd r1 st1 iok q => ?_⟩
  obtain ⟨hno, q⟩ := q
  intro D hD
  generalize hvs : own.map (·.2) = vs at *
  let E0 : VC := ⟨Y.X, Y.c, Y.F, fun _ _ _ _ => False⟩
  refine ⟨fun i m H2 => m + i = ds.length ∧ ∃ sm ρ2 S2 acc xs, R Y.c Y.F ⟨sm, D :: g1.tm⟩ (L2.wipe σ vs) H2 ρ2 S2 ∧ Ext g1.sm (MU Y.F g1 σ ρ1) H1 sm (MU Y.F ⟨sm, D :: g1.tm⟩ (L2.wipe σ vs) ρ2) H2 ∧ H2 D = some (.lst xs) ∧
      Reps Y.c sm (MU Y.F ⟨sm, D :: g1.tm⟩ (L2.wipe σ vs) ρ2) H2 acc xs ∧ lcGo Gd t vs wt we (ds.drop i) acc ρ2 S2 fun l ρ2 S2 => Qv (.lst l) (backE ρ1 ρ2 vs) S2, ⟨ds.length, rfl, ?_⟩, ?_⟩
  · obtain ⟨r2, e2⟩ := r1.newtm (o := .lst []) hD trivial
    obtain ⟨r3, st3⟩ := R.wipe (vs := vs) r2
    exact ⟨g1.sm, wipeE ρ1 vs, S1, [], [], r3, e2.trans st3.ext, upd_same, by simp only [Reps], by simpa using q⟩
  rintro i m H2 ⟨hm, sm, ρ2, S2, acc, xs, r2, e2, hD2, racc, q2⟩
  have k := iok (L2.wipe σ vs) H2 ⟨sm, D :: g1.tm⟩ ρ2 S2 r2 e2 (lcGo_gd q2) i
  by_cases hi : i < ds.length
  · obtain ⟨go, yl⟩ := k.1 hi
    refine .inr ⟨go, fun H3 => ∃ sm ρ2 S2 acc xs, R Y.c Y.F ⟨sm, D :: g1.tm⟩ (L2.wipe σ vs) H3 ρ2 S2 ∧ Ext g1.sm (MU Y.F g1 σ ρ1) H1 sm (MU Y.F ⟨sm, D :: g1.tm⟩ (L2.wipe σ vs) ρ2) H3 ∧ H3 D = some (.lst xs) ∧
      Reps Y.c sm (MU Y.F ⟨sm, D :: g1.tm⟩ (L2.wipe σ vs) ρ2) H3 acc xs ∧ lcGo Gd t vs wt we (ds.drop (i + 1)) acc ρ2 S2 fun l ρ2 S2 => Qv (.lst l) (backE ρ1 ρ2 vs) S2, fun H3 q3 => ⟨m - 1, by omega, by omega, q3⟩, fun x H3 y3 => ?_⟩
    obtain ⟨gr, d, hd, rp⟩ := yl x H3 y3
    have e1 : ds.drop i = d :: ds.drop (i + 1) := by
      rw [List.drop_eq_getElem_cons hi]
      have : ds[i] = d := by
        rw [List.getElem?_eq_getElem hi] at hd
        exact Option.some.inj hd
      rw [this]
    rw [e1] at q2
    obtain ⟨_, ρ3, hb3, q3⟩ := q2
    have r3 := r2.grow gr
    have e3 := e2.trans (Ext.grow (sm := sm) (M := MU Y.F ⟨sm, D :: g1.tm⟩ (L2.wipe σ vs) ρ2) gr)
    have racc3 := Reps.ext (Ext.grow (sm := sm) (M := MU Y.F ⟨sm, D :: g1.tm⟩ (L2.wipe σ vs) ρ2) gr) racc
    have hD3 := gr D _ hD2
    have r4 := r3.inner
    have em : ∀ {sm' : List Addr} {σ' : St} {ρ' : En}, MU (FrI Y.F ⟨sm, D :: g1.tm⟩ (L2.wipe σ vs) ρ2 H3) ⟨sm', []⟩ σ' ρ' = MU Y.F ⟨sm', D :: g1.tm⟩ σ' ρ' := mu_in
    refine hg (FrI Y.F ⟨sm, D :: g1.tm⟩ (L2.wipe σ vs) ρ2 H3) _ _ _ _ ⟨⟨sm, []⟩, ρ2, S2, d, ρ3, r4, by rw [em]; exact rp, hb3, fun σ4 r5 st5 a5 => ?_⟩
    have hwp := wipe_agr a5 ht
    refine ⟨hwp, ?_⟩
    have noE : ∀ {g' : Gs} {σ' : St} {ρ' : En} {H' : Hp}, EC ⟨Y.X, Y.c, FrI Y.F ⟨sm, D :: g1.tm⟩ (L2.wipe σ vs) ρ2 H3, fun _ _ _ _ => False⟩ g' σ' ρ' H' (fun _ _ _ => False) := fun {g' σ' ρ' H'} _ _ _ _ _ _ _ _ _ _ _ h => h
    -- the end of a turn
    have fin : ∀ {H5 : Hp} {g5 : Gs} {ρ5 : En} {S5 : Sto} (r5 : R Y.c (FrI Y.F ⟨sm, D :: g1.tm⟩ (L2.wipe σ vs) ρ2 H3) g5 σ4 H5 ρ5 S5), Stp (FrI Y.F ⟨sm, D :: g1.tm⟩ (L2.wipe σ vs) ρ2 H3) ⟨sm, []⟩ (L2.wipe σ vs) ρ2 H3 g5 σ4 ρ5 H5 →
        ∃ sm5, g5 = ⟨sm5, []⟩ ∧ H5 D = some (.lst xs) ∧ R Y.c Y.F ⟨sm5, D :: g1.tm⟩ (L2.wipe σ vs) H5 (wipeE ρ5 vs) S5 ∧ Ext sm (MU Y.F ⟨sm, D :: g1.tm⟩ (L2.wipe σ vs) ρ2) H3 sm5 (MU Y.F ⟨sm5, D :: g1.tm⟩ (L2.wipe σ vs) (wipeE ρ5 vs)) H5 ∧
          ∀ d v, Rep Y.c sm5 (MU (FrI Y.F ⟨sm, D :: g1.tm⟩ (L2.wipe σ vs) ρ2 H3) ⟨sm5, []⟩ σ4 ρ5) H5 d v → Rep Y.c sm5 (MU Y.F ⟨sm5, D :: g1.tm⟩ (L2.wipe σ vs) (wipeE ρ5 vs)) H5 d v := fun {H5 g5 ρ5 S5} r5 st5 => by
      obtain ⟨sm5, tm5⟩ := g5
      obtain rfl : tm5 = [] := st5.tm
      obtain ⟨r6, kt⟩ := r3.outer r5
      have ex := st5.ext
      rw [em, em] at ex
      obtain ⟨r7, st7⟩ := R.wipe (vs := vs) r6
      rw [hwp] at r7 st7
      refine ⟨sm5, rfl, kt D List.mem_cons_self _ hD3, r7, ex.trans st7.ext, fun d v h => ?_⟩
      rw [em] at h
      exact h.ext st7.ext
    refine htt (FrI Y.F ⟨sm, D :: g1.tm⟩ (L2.wipe σ vs) ρ2 H3) _ _ _ ⟨⟨sm, []⟩, ρ3, S2, _, _, r5, q3, noE, fun b H6 g6 ρ6 S6 r6 st6 q6 => ?_⟩
    cases b with
    | false =>
      simp only [Bool.false_eq_true, if_false] at q6 ⊢
      obtain ⟨sm7, eg, hD7, r7, e7, _⟩ := fin r6 (st5.trans st6)
      exact ⟨sm7, wipeE ρ6 vs, S6, acc, xs, r7, e3.trans e7, hD7, Reps.ext e7 racc3, q6⟩
    | true =>
      simp only [if_true] at q6 ⊢
      refine hte (FrI Y.F ⟨sm, D :: g1.tm⟩ (L2.wipe σ vs) ρ2 H3) _ _ _ ⟨g6, ρ6, S6, _, _, r6, q6, noE, fun v H7 g7 ρ7 S7 d7 r7 st7 rp7 q7 => ?_⟩
      obtain ⟨sm8, eg, hD8, r8, e8, rr⟩ := fin r7 ((st5.trans st6).trans st7)
      subst eg
      obtain ⟨q7, q8⟩ := q7
      have racc8 := Reps.ext e8 racc3
      refine ⟨xs, hD8, by rw [← racc8.length]; exact q7, ?_⟩
      obtain ⟨r9, st9⟩ := R.settm (a := D) (o := .lst (xs ++ [v])) r8 List.mem_cons_self trivial
      exact ⟨sm8, wipeE ρ7 vs, S7, acc ++ [d7], xs ++ [v], r9, (e3.trans e8).trans st9.ext, upd_same, (Reps.ext st9.ext racc8).append (Reps.one ((rr d7 v rp7).ext st9.ext)), q8⟩
  · have hi' : i = ds.length := by omega
    subst hi'
    refine .inl ⟨k.2 rfl, ?_⟩
    rw [List.drop_length] at q2
    obtain ⟨r3, e3⟩ := r1.unwipe hno r2 e2
    refine hq D H2 sm (backE ρ1 ρ2 vs) S2 (.lst acc) (by rw [← st1.tm]; exact r3) ?_ ?_ q2.2
    · rw [← st1.tm]
      exact (st1.ext.trans e2).trans e3
    · simp only [Own]
      rw [← st1.tm]
      exact ⟨xs, hD2, Reps.ext e3 racc⟩
theorem vf_comp (hc : Y.X.calm = true) (hN : Y.X.N.Nodup) (hi : VI Y tg iter wi) (ok : BlkOk Y.X.N Y.X.env.scope scope own) (htg : ∀ i ∈ tgIx t, i ∈ own.map (·.2))
    (hg : ∀ (s : Shared) (H : Hp) (C : Addr) (cl : List (Str × Addr)) (fp : List Addr) (F : Fr), VG (Blk Y scope s H C cl fp F) tg t)
    (ht : ∀ (s : Shared) (H : Hp) (C : Addr) (cl : List (Str × Addr)) (fp : List Addr) (F : Fr), VTs (Blk Y scope s H C cl fp F) ifs wt)
    (he : ∀ (s : Shared) (H : Hp) (C : Addr) (cl : List (Str × Addr)) (fp : List Addr) (F : Fr), VE (Blk Y scope s H C cl fp F) elt we)
    (hs : ∀ x, foldedSetIterable iter Y.X.env x = pure x := by intro _; rfl) :
    VF Y (.ListComp elt [⟨tg, iter, ifs, 0⟩] scope pos) (wComp wi t (own.map (·.2)) wt we) :=
  PE.imp (pe_lc (g := fun v σ H Q => ∃ F, LG ⟨Y.X, Y.c, F, fun _ _ _ _ => False⟩ t v σ H Q) (tt := fun σ H Q => ∃ F, LT ⟨Y.X, Y.c, F, fun _ _ _ _ => False⟩ wt σ H Q) (te := fun σ H Q => ∃ F, LE ⟨Y.X, Y.c, F, fun _ _ _ _ => False⟩ we σ H Q) hc hN hi ok
    (fun s H C cl fp => ⟨fun pins s' σ' H' v u Q I rv ⟨F, h⟩ => (hg s H C cl fp F).run pins s' σ' H' v u Q I rv h⟩)
    (fun s H C cl fp => ⟨fun pins s' σ' H' Q I ⟨F, h⟩ => (ht s H C cl fp F).run pins s' σ' H' Q I h⟩)
    (fun s H C cl fp => ⟨fun pins s' σ' H' Q I ⟨F, h⟩ => (he s H C cl fp F).run pins s' σ' H' Q I h⟩) hs)
    fun σ H Q h => lc_te htg h _ _ _ (fun F _ _ _ _ h => ⟨F, h⟩) (fun F _ _ _ h => ⟨F, h⟩) (fun F _ _ _ h => ⟨F, h⟩)
theorem Gd.blk {fa : String → Addr} {k : Nat} {T : Tab} {TI : String → FWI} (G : Gd Y fa k T TI) {s : Shared} {H : Hp} {C : Addr} {cl : List (Str × Addr)} {fp : List Addr} {F : Fr} : Gd (Blk Y scope s H C cl fp F) fa k T TI := by
  refine ⟨G.f0, G.f1, G.i0, G.hr0, ?_, G.cm, G.hK⟩
  rintro e s ⟨a, B, sI, pins, σ, H, cls, d, _, _, _, _, _, _, _, _, w⟩
  exact w
end
end VL

set_option Elab.async false
set_option linter.all false
set_option autoImplicit false
set_option maxRecDepth 100000
/-! VLIter: what a for or a comprehension walks. -/
namespace VL
open PySem PySem.Spec PyProof.Rows L2

abbrev GdT : Sto → Prop := fun _ => True
/-- the things of d, and what must stand meanwhile -/
def itD (d : D) (S : Sto) (P : List D → (Sto → Prop) → Prop) : Prop := match d with
  | .lst ds => P ds GdT
  | .tup ds => P ds GdT
  | .scr ns => P (ns.map D.int) GdT
  | .str x => P (x.cps.toList.map fun c => .str ⟨#[c]⟩) GdT
  | .ref n => match S[n]? with
    | some (.lst ds) => P ds fun S' => S'[n]? = some (.lst ds)
    | _ => False
  | _ => False
def wIt (w : TV) : TVI := fun ρ S Q E => w ρ S (fun d ρ1 S1 => itD d S1 fun ds Gd => Q ds Gd ρ1 S1) E
def wRng1 (wa : TVA) : TVI := fun ρ S Q E => wa ρ S (fun args ρ1 S1 => ∃ j : Int, args = [.int j] ∧ (-(2 ^ 62) ≤ j ∧ j < 2 ^ 62) ∧ Q ((List.range j.toNat).map fun k => .int (k : Nat)) GdT ρ1 S1) E
def wRng2 (wa : TVA) : TVI := fun ρ S Q E => wa ρ S (fun args ρ1 S1 => ∃ i j : Int, args = [.int i, .int j] ∧ (-(2 ^ 62) ≤ i ∧ i < 2 ^ 62 ∧ -(2 ^ 62) ≤ j ∧ j < 2 ^ 62) ∧ Q ((List.range (j - i).toNat).map fun k => .int (i + (k : Nat))) GdT ρ1 S1) E
def wRng3 (wa : TVA) : TVI := fun ρ S Q E => wa ρ S (fun args ρ1 S1 => ∃ (i j c : Int) (n : Nat), args = [.int i, .int j, .int c] ∧ RgC i j c n ∧ Q ((List.range n).map fun (k : Nat) => .int (i + k * c)) GdT ρ1 S1) E

section
variable {Y : VC} {J : It} {g : Gs} {σ : St} {ρ : En} {H : Hp} {S : Sto} {a : Addr} {vs : List V} {ds : List D}
theorem io_lst (h : H a = some (.lst vs)) (n : ¬ MU Y.F g σ ρ a) (q : Reps Y.c g.sm (MU Y.F g σ ρ) H ds vs) : IterOk Y (Itl Y.X.K a) ds GdT g σ ρ H := by
  intro σ' H' g' ρ' S' r ex _ i
  have h' := ex.keep a _ h n
  have q' := Reps.ext ex q
  have hl := q'.length
  refine ⟨fun hi => ⟨⟨vs, vs[i]'(by omega), SqL.of h', List.getElem?_eq_getElem (by omega)⟩, fun x H3 y => ?_⟩, fun hi => ⟨vs, SqL.of h', by omega⟩⟩
  obtain ⟨e, y⟩ := y
  subst e
  refine ⟨fun _ _ z => z, ds[i], List.getElem?_eq_getElem hi, ?_⟩
  obtain ⟨v, e1, rp⟩ := q'.get (List.getElem?_eq_getElem hi)
  rw [y vs (SqL.of h')] at e1
  cases e1
  exact rp
theorem io_tup (h : H a = some (.tup vs)) (n : ¬ MU Y.F g σ ρ a) (q : Reps Y.c g.sm (MU Y.F g σ ρ) H ds vs) : IterOk Y (Itt Y.X.K a) ds GdT g σ ρ H := by
  intro σ' H' g' ρ' S' r ex _ i
  have h' := ex.keep a _ h n
  have q' := Reps.ext ex q
  have hl := q'.length
  refine ⟨fun hi => ⟨⟨vs, vs[i]'(by omega), SqT.of h', List.getElem?_eq_getElem (by omega)⟩, fun x H3 y => ?_⟩, fun hi => ⟨vs, SqT.of h', by omega⟩⟩
  obtain ⟨e, y⟩ := y
  subst e
  refine ⟨fun _ _ z => z, ds[i], List.getElem?_eq_getElem hi, ?_⟩
  obtain ⟨v, e1, rp⟩ := q'.get (List.getElem?_eq_getElem hi)
  rw [y vs (SqT.of h')] at e1
  cases e1
  exact rp
theorem io_ref {n : Nat} (hK : Y.c.K = Y.X.K) (hn : g.sm[n]? = some a) : IterOk Y (Itl Y.X.K a) ds (fun S' => S'[n]? = some (.lst ds)) g σ ρ H := by
  intro σ' H' g' ρ' S' r ex hs i
  obtain ⟨more, e⟩ := ex.sm
  have hn' : g'.sm[n]? = some a := by rw [e, List.getElem?_append_left (List.getElem?_eq_some_iff.mp hn).1]; exact hn
  have ow := r.sto.2 n a _ hn' hs
  simp only [Own] at ow
  obtain ⟨vs, h', q'⟩ := ow
  have hl := q'.length
  refine ⟨fun hi => ⟨⟨vs, vs[i]'(by omega), SqL.of h', List.getElem?_eq_getElem (by omega)⟩, fun x H3 y => ?_⟩, fun hi => ⟨vs, SqL.of h', by omega⟩⟩
  obtain ⟨e, y⟩ := y
  subst e
  refine ⟨fun _ _ z => z, ds[i], List.getElem?_eq_getElem hi, ?_⟩
  obtain ⟨v, e1, rp⟩ := q'.get (List.getElem?_eq_getElem hi)
  rw [y vs (SqL.of h')] at e1
  cases e1
  exact rp
theorem io_scr {ns : List Int} (h : (Rd H a (.lst (ns.map V.int)) ∧ ¬ MU Y.F g σ ρ a) ∨ ∀ H', SqL Y.X.K H' a (ns.map V.int)) : IterOk Y (Itl Y.X.K a) (ns.map D.int) GdT g σ ρ H := by
  intro σ' H' g' ρ' S' r ex _ i
  have h' : SqL Y.X.K H' a (ns.map V.int) := by
    rcases h with ⟨h, n⟩ | h
    · exact .inl (rd_keep (fun o e => ex.keep a o e n) h)
    · exact h H'
  refine ⟨fun hi => ?_, fun hi => ⟨_, h', by rw [hi]; simp⟩⟩
  rw [List.length_map] at hi
  refine ⟨⟨ns.map V.int, .int ns[i], h', by simp [hi]⟩, fun x H3 y => ?_⟩
  obtain ⟨e, y⟩ := y
  subst e
  refine ⟨fun _ _ z => z, .int ns[i], by simp [hi], ?_⟩
  have := y _ h'
  simp only [List.getElem?_map, List.getElem?_eq_getElem hi, Option.map_some] at this
  cases this
  simp only [Rep]
theorem io_str {x : Str} : IterOk Y (Its x) (x.cps.toList.map fun c => .str ⟨#[c]⟩) GdT g σ ρ H := by
  intro σ' H' g' ρ' S' r ex _ i
  refine ⟨fun hi => ?_, fun hi => ?_⟩
  · rw [List.length_map, Array.length_toList] at hi
    refine ⟨hi, fun v H3 y => ?_⟩
    obtain ⟨e, c, hc, e2⟩ := y
    subst e e2
    refine ⟨fun _ _ z => z, .str ⟨#[c]⟩, ?_, by simp only [Rep]⟩
    rw [List.getElem?_map, Array.getElem?_toList, hc]
    rfl
  · rw [List.length_map, Array.length_toList] at hi
    exact Nat.le_of_eq hi.symm
theorem io_rng {lo : Int} {n : Nat} : IterOk Y (Itr lo n) ((List.range n).map fun k => .int (lo + (k : Nat))) GdT g σ ρ H := by
  intro σ' H' g' ρ' S' r ex _ i
  refine ⟨fun hi => ?_, fun hi => ?_⟩
  · rw [List.length_map, List.length_range] at hi
    refine ⟨hi, fun v H3 y => ?_⟩
    obtain ⟨e, e2⟩ := y
    subst e e2
    exact ⟨fun _ _ z => z, .int (lo + i), by simp [hi], by simp only [Rep]⟩
  · rw [List.length_map, List.length_range] at hi
    exact Nat.le_of_eq hi.symm
theorem io_rngC {lo c : Int} {n : Nat} : IterOk Y (Itc lo c n) ((List.range n).map fun (k : Nat) => .int (lo + k * c)) GdT g σ ρ H := by
  intro σ' H' g' ρ' S' r ex _ i
  refine ⟨fun hi => ?_, fun hi => ?_⟩
  · rw [List.length_map, List.length_range] at hi
    refine ⟨hi, fun v H3 y => ?_⟩
    obtain ⟨e, e2⟩ := y
    subst e e2
    exact ⟨fun _ _ z => z, .int (lo + (i : Nat) * c), by simp [hi], by simp only [Rep]⟩
  · rw [List.length_map, List.length_range] at hi
    exact Nat.le_of_eq hi.symm
end

/-! ### the iterator of a value -/
section
variable {X : Cx} {tg : Expr} {pins : List (Addr × Obj)} {σ : St} {H : Hp} {s : Shared} {R : It → Hp → Prop}
theorem it_lst {a : Addr} {xs : List V} (I : Inv X pins σ H s) (h : SqL X.K H a xs) (q : R (Itl X.K a) H) : wpAny (model X.prog X.w) X.A (pyIter (.ref a)) (PIE X pins σ tg R) X.xe s := by
  obtain ⟨its, rv, p, hz⟩ := I.list h
  exact wpAny_pyIter_list p.isList (pi_one (tk := s.toks) I _ (turn_list a _) ⟨_, Heap.get?_push_size _ rfl, rfl, rfl⟩ q)
theorem it_tup {a : Addr} {xs : List V} (I : Inv X pins σ H s) (h : SqT X.K H a xs) (q : R (Itt X.K a) H) : wpAny (model X.prog X.w) X.A (pyIter (.ref a)) (PIE X pins σ tg R) X.xe s := by
  obtain ⟨its, rv, p, hz⟩ := I.tuple h
  exact wpAny_pyIter_tuple (show s.heap.IsTuple a its.toArray from p) (pi_one (tk := s.toks) I _ (turn_tuple a _) ⟨_, Heap.get?_push_size _ rfl, rfl, rfl⟩ q)
theorem it_str {x : Str} {t : Tok} (I : Inv X pins σ H s) (q : R (Its x) H) : wpAny (model X.prog X.w) X.A (pyIter (.str x t)) (PIE X pins σ tg R) X.xe s := by
  cases ha : x.cps.all (· < 128)
  · exact wpAny_pyIter_wide ha (pi_one (tk := s.toks) I _ (turn_str _ x t "str_iterator" (.inr rfl)) ⟨_, Heap.get?_push_size _ rfl, rfl, rfl⟩ q)
  · exact wpAny_pyIter_ascii ha (pi_one (tk := s.toks) I _ (turn_str _ x t "str_ascii_iterator" (.inl rfl)) ⟨_, Heap.get?_push_size _ rfl, rfl, rfl⟩ q)
end
section
variable {Y : VC} {tg e : Expr} {w : TV} {wa : TVA} {pos p : Pos}
theorem vi_val (hK : Y.c.K = Y.X.K) (h : VE Y e w) : VI Y tg e (wIt w) := by
  refine ⟨fun pins s σ H R' I ⟨g, ρ, S, Qv, Ev, r, hw, ec, hq⟩ => ?_⟩
  refine thn (h.run pins s σ H (fun x H1 => ∃ g1 ρ1 S1 d, R Y.c Y.F g1 σ H1 ρ1 S1 ∧ Stp Y.F g σ ρ H g1 σ ρ1 H1 ∧ Rep Y.c g1.sm (MU Y.F g1 σ ρ1) H1 d x ∧ itD d S1 fun ds Gd => Qv ds Gd ρ1 S1) I
    ⟨g, ρ, S, _, Ev, r, hw, ec, fun v H1 g1 ρ1 S1 d r1 st1 rp q => ⟨g1, ρ1, S1, d, r1, st1, rp, q⟩⟩) fun u s1 ⟨x, H1, I1, rx, g1, ρ1, S1, d, r1, st1, rp, q⟩ => ?_
  unfold itD at q
  cases d with
  | lst ds =>
    simp only [Rep] at rp
    obtain ⟨a, vs, e1, h1, n1, q1⟩ := rp
    subst e1
    obtain rfl : u = Value.ref a := rx
    exact it_lst I1 (SqL.of h1) (hq _ H1 g1 ρ1 S1 ds GdT r1 st1 (io_lst h1 n1 q1) q)
  | tup ds =>
    simp only [Rep] at rp
    obtain ⟨a, vs, e1, h1, n1, q1⟩ := rp
    subst e1
    obtain rfl : u = Value.ref a := rx
    exact it_tup I1 (SqT.of h1) (hq _ H1 g1 ρ1 S1 ds GdT r1 st1 (io_tup h1 n1 q1) q)
  | scr ns =>
    simp only [Rep] at rp
    obtain ⟨a, e1, h1⟩ := rp
    subst e1
    obtain rfl : u = Value.ref a := rx
    rw [hK] at h1
    refine it_lst (xs := ns.map V.int) I1 (h1.elim (fun z => .inl z.1) fun z => z H1) (hq _ H1 g1 ρ1 S1 (ns.map D.int) GdT r1 st1 (io_scr h1) q)
  | str x' =>
    simp only [Rep] at rp
    subst rp
    obtain ⟨t, rfl⟩ := rx
    exact it_str I1 (hq _ H1 g1 ρ1 S1 _ GdT r1 st1 io_str q)
  | ref n =>
    simp only at q
    split at q
    · rename_i ds e2
      simp only [Rep] at rp
      obtain ⟨a, h1, e1⟩ := rp
      subst e1
      obtain rfl : u = Value.ref a := rx
      have ow := r1.sto.2 n a _ h1 e2
      simp only [Own] at ow
      obtain ⟨vs, h', q'⟩ := ow
      exact it_lst I1 (SqL.of h') (hq _ H1 g1 ρ1 S1 ds _ r1 st1 (io_ref hK h1) q)
    · exact q.elim
  | _ => exact q.elim
theorem vi_rng1 {a : Expr} (hg : Gl Y.X "range") (hm : Y.X.mg "range" = none) (ha : VA Y [a] wa) (hs : starEach [a] Y.X.env = [(false, eval a Y.X.env)] := by rfl) : VI Y tg (.Call (.Name "range" p) [a] [] pos) (wRng1 wa) := by
  refine ⟨fun pins s σ H R' I ⟨g, ρ, S, Qv, Ev, r, hw, ec, hq⟩ => ?_⟩
  refine (pi_range1 hg hm ha hs).run pins s σ H R' I ⟨g, ρ, S, _, Ev, r, hw, ec, fun vs H1 g1 ρ1 S1 ds r1 st1 rp q => ?_⟩
  obtain ⟨j, e, ⟨b1, b2⟩, q⟩ := q
  subst e
  simp only [Reps, Rep] at rp
  obtain ⟨x, r', e1, e2, e3⟩ := rp
  subst e1 e2 e3
  refine ⟨j, rfl, b1, b2, hq _ H1 g1 ρ1 S1 _ GdT r1 st1 ?_ q⟩
  have := io_rng (Y := Y) (g := g1) (σ := σ) (ρ := ρ1) (H := H1) (lo := 0) (n := j.toNat)
  simpa using this
theorem vi_rng2 {a b : Expr} (hg : Gl Y.X "range") (hm : Y.X.mg "range" = none) (ha : VA Y [a, b] wa) (hs : starEach [a, b] Y.X.env = [(false, eval a Y.X.env), (false, eval b Y.X.env)] := by rfl) (hs2 : starEach [b] Y.X.env = [(false, eval b Y.X.env)] := by rfl) :
    VI Y tg (.Call (.Name "range" p) [a, b] [] pos) (wRng2 wa) := by
  refine ⟨fun pins s σ H R' I ⟨g, ρ, S, Qv, Ev, r, hw, ec, hq⟩ => ?_⟩
  refine (pi_range2 hg hm ha hs hs2).run pins s σ H R' I ⟨g, ρ, S, _, Ev, r, hw, ec, fun vs H1 g1 ρ1 S1 ds r1 st1 rp q => ?_⟩
  obtain ⟨i, j, e, b, q⟩ := q
  subst e
  simp only [Reps, Rep] at rp
  obtain ⟨x, r', e1, e2, y, r'', e4, e5, e6⟩ := rp
  subst e1 e2 e4 e5 e6
  exact ⟨i, j, rfl, b, hq _ H1 g1 ρ1 S1 _ GdT r1 st1 io_rng q⟩
theorem vi_rng3 {a b d : Expr} (hg : Gl Y.X "range") (hm : Y.X.mg "range" = none) (ha : VA Y [a, b, d] wa)
    (h : PI Y.X tg (.Call (.Name "range" p) [a, b, d] [] pos) (iRng3 (LA Y wa))) : VI Y tg (.Call (.Name "range" p) [a, b, d] [] pos) (wRng3 wa) := by
  refine ⟨fun pins s σ H R' I ⟨g, ρ, S, Qv, Ev, r, hw, ec, hq⟩ => ?_⟩
  refine h.run pins s σ H R' I ⟨g, ρ, S, _, Ev, r, hw, ec, fun vs H1 g1 ρ1 S1 ds r1 st1 rp q => ?_⟩
  obtain ⟨i, j, c, n, e, b, q⟩ := q
  subst e
  simp only [Reps, Rep] at rp
  obtain ⟨x, r', e1, e2, y, r'', e4, e5, z, r3, e7, e8, e9⟩ := rp
  subst e1 e2 e4 e5 e7 e8 e9
  exact ⟨i, j, c, n, rfl, b, hq _ H1 g1 ρ1 S1 _ GdT r1 st1 io_rngC q⟩
end
end VL

set_option Elab.async false
set_option linter.all false
set_option autoImplicit false
set_option maxRecDepth 100000
/-! VLFun: a def keeps its promise, by its body. -/
namespace VL
open PySem PySem.Spec PyProof.Rows L2

theorem Post.grow {c : Cf} {Mo ex : Addr → Prop} {sm sm' : List Addr} {H H1 H' : Hp} {S' : Sto} (p : Post c Mo ex sm H1 sm' H' S') (k : ∀ b o, H b = some o → H1 b = some o) : Post c Mo ex sm H sm' H' S' := by
  refine ⟨?_, p.nd, p.mo, fun b o h => p.keep b o (k b o h), p.sto⟩
  obtain ⟨more, e, h⟩ := p.smx
  refine ⟨more, e, fun a ha => ?_⟩
  cases q : H a with
  | none => rfl
  | some o =>
    have := k a o q
    rw [h a ha] at this; cases this

section
variable (P : Program) (w : World) (K : PySem.W.Frag) (mg : Str → Option Value) (base : Heap) (c : Cf)
/-- where a def's body stands -/
abbrev Yof (N : List Str) (qual : Str) (st : Stmt) (f : Addr) (cdv : Value) (A : Around) (outer : List Env) (s : Shared) (H : Hp) (E : XK) (F : Fr) : VC :=
  ⟨cxOf (L2.CX P w) P w K mg base N qual (defScope st) f cdv A outer s H E, c, F, fun cls d _ H' => E cls d H'⟩
/-- the callees' promises, wherever one stands -/
structure Tb (fa : String → Addr) (k : Nat) (T : Tab) (TI : String → FWI) : Prop where
  fn : ∀ f, FnR P w K mg base (L2.CX P w) k (fa f) (spV c (T f))
  ff : ∀ f, FnR P w K mg base (L2.CX P w) k (fa f) (spVF c (T.fr f))
  fi : ∀ f, FnR P w K mg base (L2.CX P w) k (fa f) (spI c (TI f))
  hK : c.K = K
/-- the body of a def does what wb says, whatever stands around -/
def Body (fa : String → Addr) (k : Nat) (T : Tab) (TI : String → FWI) (N : List Str) (qual : Str) (st : Stmt) (f : Addr) (wb : TVS) : Prop :=
  ∀ (cdv : Value) (A : Around) (outer : List Env) (s : Shared) (H : Hp) (E : XK) (F : Fr), Gd (Yof P w K mg base c N qual st f cdv A outer s H E F) fa k T TI → VSs (Yof P w K mg base c N qual st f cdv A outer s H E F) (defBody st) wb
end
section
variable {P : Program} {w : World} {K : PySem.W.Frag} {mg : Str → Option Value} {base : Heap} {c : Cf} {fa : String → Addr} {k : Nat} {T : Tab} {TI : String → FWI} {N ps : List Str} {x qual : Str} {st : Stmt} {f : Addr} {fd : FuncData} {wb : TVS}
theorem Tb.gd (B : Tb P w K mg base c fa k T TI) {cdv : Value} {A : Around} {outer : List Env} {s : Shared} {H : Hp} {E : XK} {F : Fr} (hr : Room (k + 3) (A.deeper (envOfC qual (defScope st) s.heap.objs.size f cdv))) : Gd (Yof P w K mg base c N qual st f cdv A outer s H E F) fa k T TI :=
  ⟨B.fn, B.ff, B.fi, hr, takes_of rfl rfl rfl rfl, rfl, B.hK⟩
theorem scope_len {sc : Scope} (S : FnScope N ps sc) : ps.length ≤ N.length := by
  have := congrArg List.length S.pre
  rw [List.length_take] at this
  omega
/-- the body from the promise -/
theorem body_run (B : Tb P w K mg base c fa k T TI) (hb : Body P w K mg base c fa k T TI N qual st f wb) {np : Nat} (hl : np ≤ N.length) (cdv : Value) (A : Around) (outer : List Env) (s : Shared) (H : Hp) (vs : List V) (Q : VK) (E : XK) (hr : Room (k + 3) (A.deeper (envOfC qual (defScope st) s.heap.objs.size f cdv)))
    (h : spV c (runV N.length np wb) vs H Q E) :
    ∃ t, PSs (cxOf (L2.CX P w) P w K mg base N qual (defScope st) f cdv A outer s H E) (defBody st) t ∧ t { nx := fun _ H' => Q .non H', rt := Q } (L2.start N vs) H := by
  obtain ⟨Mo, sm, ds, S, Qv, Ev, h1, h2, h3, h4, h5, ⟨hn, hw⟩, hq, he⟩ := h
  refine ⟨_, hb cdv A outer s H E (FrV H Mo sm) (B.gd hr), ?_⟩
  have hvl : vs.length ≤ N.length := by rw [← h5.length]; omega
  refine ⟨⟨sm, []⟩, startE N.length ds, S, _, fun x _ S' => Ev x S', R.startV h1 h2 h3 h4 h5 hvl, hw, ?_, ?_⟩
  · intro ex cls dx σ' H' g' ρ' S' r st xi hev
    obtain ⟨po, e⟩ := r.endV
    exact he ex cls dx H' g'.sm S' po (xi.ext e) hev
  · refine ⟨fun σ' H' g' ρ' S' r st q => ?_, fun σ' H' g' ρ' S' r st q => q.elim, fun σ' H' g' ρ' S' r st q => q.elim, fun v σ' H' g' ρ' S' d r st rp q => ?_⟩
    · obtain ⟨po, e⟩ := r.endV
      exact hq .non H' g'.sm S' .non po (by simp only [Rep]) q
    · obtain ⟨po, e⟩ := r.endV
      exact hq v H' g'.sm S' d po (rp.ext e) q
theorem spV_len {np : Nat} {n : Nat} {vs : List V} {H : Hp} {Q : VK} {E : XK} (h : spV c (runV n np wb) vs H Q E) : vs.length = np := by
  obtain ⟨Mo, sm, ds, S, Qv, Ev, h1, h2, h3, h4, h5, ⟨hn, hw⟩, _⟩ := h
  rw [← h5.length]; exact hn
/-- a def -/
theorem fn_val (F : Fun K x qual st f fd) (S : FnScope N ps (defScope st)) (b : Binds K fd ps []) (B : Tb P w K mg base c fa k T TI) (hb : Body P w K mg base c fa k T TI N qual st f wb) :
    FnR P w K mg base (L2.CX P w) (k + 4) f (spV c (runV N.length ps.length wb)) := by
  have h := (F.okX (sp := spV c (runV N.length ps.length wb)) (k := k + 3) S (fun vs H Q E h => spV_len h) fun cdv A outer s H vs Q E hr h => body_run B hb (scope_len S) cdv A outer s H vs Q E hr h).raw b .nil
  exact h.imp fun vs H Q E q => by rw [List.append_nil]; exact q

/-! ### a def whose result is new -/
/-- what a suite does that ends with a return of an own slot -/
structure SR (Y : VC) (g : Gs) (σ : L2.St) (ρ : En) (H : Hp) (Qv : Out → En → Sto → Prop) (D : Ends) : Prop where
  rt : ∀ (v : V) (σ' : L2.St) (H' : Hp) (g' : Gs) (ρ' : En) (S' : Sto) (d : VL.D) (j : Nat), R Y.c Y.F g' σ' H' ρ' S' → Stp Y.F g σ ρ H g' σ' ρ' H' → ρ'[j]? = some (.o d) → σ'[j]? = some (some v) → Qv (.rt d) ρ' S' → D.rt v H'
def LR (Y : VC) (w : TVS) : TS := fun D σ H => ∃ (g : Gs) (ρ : En) (S : Sto) (Qv : Out → En → Sto → Prop) (Ev : QE), R Y.c Y.F g σ H ρ S ∧ w ρ S Qv Ev ∧ EC Y g σ ρ H Ev ∧ SR Y g σ ρ H Qv D
abbrev VRs (Y : VC) (st : List Stmt) (w : TVS) : Prop := PSs Y.X st (LR Y w)
def wSeqF (w1 w2 : TVS) : TVS := fun ρ S Q E => w1 ρ S (fun o ρ1 S1 => match o with
  | .nx => w2 ρ1 S1 Q E
  | _ => False) E
def wRetF (i : Nat) : TVS := fun ρ S Q _ => match ρ[i]? with
  | some (.o d) => Q (.rt d) ρ S
  | _ => False
theorem vrs_cons {Y : VC} {st : Stmt} {rest : List Stmt} {w1 w2 : TVS} (h1 : VS Y st w1) (h2 : VRs Y rest w2) : VRs Y (st :: rest) (wSeqF w1 w2) :=
  PSs.imp (pss_cons h1 h2) fun D σ H ⟨g, ρ, S, Qv, Ev, r, hw, ec, sc⟩ =>
    ⟨g, ρ, S, _, Ev, r, hw, ec, fun σ' H' g' ρ' S' r' st q => ⟨g', ρ', S', Qv, Ev, r', q, ec.step st, ⟨fun v σ2 H2 g2 ρ2 S2 d j r2 st2 h3 h4 q2 => sc.rt v σ2 H2 g2 ρ2 S2 d j r2 (st.trans st2) h3 h4 q2⟩⟩,
      fun σ' H' g' ρ' S' r' st q => q.elim, fun σ' H' g' ρ' S' r' st q => q.elim, fun v σ' H' g' ρ' S' d r' st rp q => q.elim⟩
theorem vrs_ret {Y : VC} {i : Nat} {x : Str} {p pos : Pos} (hN : Y.X.N[i]? = some x) (hv : Vis Y.X.env.scope x) (hd : (x == ("__debug__" : Str)) = false := by decide) (hcd : (x == ("__classdict__" : Str)) = false := by decide) : VRs Y [.Return (some (.Name x p)) pos] (wRetF i) :=
  PSs.imp (pss_one (ps_ret (pe_var hN hv hd hcd))) fun D σ H ⟨g, ρ, S, Qv, Ev, r, hw, ec, sc⟩ => by
    unfold wRetF at hw
    split at hw
    case h_2 => exact hw.elim
    rename_i d hi
    obtain ⟨a, ha, ow⟩ := r.own i d hi
    exact ⟨_, ha, sc.rt _ σ H g ρ S d i r .refl hi ha hw⟩
def BodyF (P : Program) (w : World) (K : PySem.W.Frag) (mg : Str → Option Value) (base : Heap) (c : Cf) (fa : String → Addr) (k : Nat) (T : Tab) (TI : String → FWI) (N : List Str) (qual : Str) (st : Stmt) (f : Addr) (wb : TVS) : Prop :=
  ∀ (cdv : Value) (A : Around) (outer : List Env) (s : Shared) (H : Hp) (E : XK) (F : Fr), Gd (Yof P w K mg base c N qual st f cdv A outer s H E F) fa k T TI → VRs (Yof P w K mg base c N qual st f cdv A outer s H E F) (defBody st) wb
theorem R.endF {H : Hp} {Mo : Addr → Prop} {sm : List Addr} {g' : Gs} {σ' : L2.St} {H' : Hp} {ρ' : En} {S' : Sto} {j : Nat} {d : D} {v : V} (r : R c (FrV H Mo sm) g' σ' H' ρ' S') (h1 : ρ'[j]? = some (.o d)) (h2 : σ'[j]? = some (some v)) :
    ∃ a, v = .ref a ∧ H a = none ∧ Post c (fun b => Mo b ∨ b = a) (fun _ => False) sm H g'.sm H' S' ∧ Own c g'.sm (fun b => (Mo b ∨ b = a) ∨ b ∈ g'.sm) H' a d := by
  obtain ⟨a, e1, ow⟩ := r.own j d h1
  rw [h2] at e1; cases e1
  obtain ⟨q1, q2, q3, q4⟩ := r.sep j d a h1 h2
  have le : ∀ b, ((Mo b ∨ b = a) ∨ b ∈ g'.sm) → MU (FrV H Mo sm) g' σ' ρ' b := fun b z => by
    rcases z with (z | z) | z
    · exact .inl z
    · exact .inr (.inr (.inr ⟨j, d, h1, by rw [z]; exact h2⟩))
    · exact .inr (.inl z)
  refine ⟨a, rfl, ?_, ⟨r.pre, r.smn, fun b h z => ?_, fun b o h n _ => r.keep b o h n, ⟨r.sto.1, fun n b d q1 q2 => (r.sto.2 n b d q1 q2).ext (less_ext le) fun _ z => z⟩⟩, ow.ext (less_ext le) fun _ z => z⟩
  · rcases q4 with q4 | q4
    · exact q4
    · obtain ⟨more, e, _⟩ := r.pre
      exact absurd (by rw [e]; exact List.mem_append_left _ q4) q2
  · rcases z with z | z
    · exact (r.smo b h).1 z
    · rw [z] at h; exact q2 h
theorem body_runF (B : Tb P w K mg base c fa k T TI) (hb : BodyF P w K mg base c fa k T TI N qual st f wb) {np : Nat} (hl : np ≤ N.length) (cdv : Value) (A : Around) (outer : List Env) (s : Shared) (H : Hp) (vs : List V) (Q : VK) (E : XK) (hr : Room (k + 3) (A.deeper (envOfC qual (defScope st) s.heap.objs.size f cdv)))
    (h : spVF c (runV N.length np wb) vs H Q E) :
    ∃ t, PSs (cxOf (L2.CX P w) P w K mg base N qual (defScope st) f cdv A outer s H E) (defBody st) t ∧ t { nx := fun _ H' => Q .non H', rt := Q } (L2.start N vs) H := by
  obtain ⟨Mo, sm, ds, S, Qv, Ev, h1, h2, h3, h4, h5, ⟨hn, hw⟩, hq, he⟩ := h
  refine ⟨_, hb cdv A outer s H E (FrV H Mo sm) (B.gd hr), ?_⟩
  have hvl : vs.length ≤ N.length := by rw [← h5.length]; omega
  refine ⟨⟨sm, []⟩, startE N.length ds, S, _, fun x _ S' => Ev x S', R.startV h1 h2 h3 h4 h5 hvl, hw, ?_, ⟨fun v σ' H' g' ρ' S' d j r st h3 h4 q => ?_⟩⟩
  · intro ex cls dx σ' H' g' ρ' S' r st xi hev
    obtain ⟨po, e⟩ := r.endV
    exact he ex cls dx H' g'.sm S' po (xi.ext e) hev
  · obtain ⟨a, ev, hn, po, ow⟩ := r.endF h3 h4
    subst ev
    exact hq a H' g'.sm S' d hn po ow q
theorem spVF_len {np : Nat} {n : Nat} {vs : List V} {H : Hp} {Q : VK} {E : XK} (h : spVF c (runV n np wb) vs H Q E) : vs.length = np := by
  obtain ⟨Mo, sm, ds, S, Qv, Ev, h1, h2, h3, h4, h5, ⟨hn, hw⟩, _⟩ := h
  rw [← h5.length]; exact hn
theorem fn_valF (F : Fun K x qual st f fd) (S : FnScope N ps (defScope st)) (b : Binds K fd ps []) (B : Tb P w K mg base c fa k T TI) (hb : BodyF P w K mg base c fa k T TI N qual st f wb) :
    FnR P w K mg base (L2.CX P w) (k + 4) f (spVF c (runV N.length ps.length wb)) := by
  have h := (F.okX (sp := spVF c (runV N.length ps.length wb)) (k := k + 3) S (fun vs H Q E h => spVF_len h) fun cdv A outer s H vs Q E hr h => body_runF B hb (scope_len S) cdv A outer s H vs Q E hr h).raw b .nil
  exact h.imp fun vs H Q E q => by rw [List.append_nil]; exact q

theorem spV_star {np : Nat} {n : Nat} {H : Hp} {vs : List V} {q : Addr} {Mo : Addr → Prop} {sm : List Addr} {ds : List D} {S : Sto} {Qv : D → Sto → Prop} {Ev : Ex → Sto → Prop} {Q : VK} {E : XK} (hq0 : H q = none)
    (h1 : ∀ a, Mo a → ∃ o, H a = some o) (h2 : sm.Nodup) (h3 : ∀ a ∈ sm, ¬ Mo a) (h4 : Stored c sm (fun a => Mo a ∨ a ∈ sm) H S) (h5 : Reps c sm (fun a => Mo a ∨ a ∈ sm) H ds vs) (hw : runV n (np + 1) wb (ds.take np ++ [.tup (ds.drop np)]) S Qv Ev)
    (hq : ∀ v H' sm' S' d, Post c Mo (fun _ => False) sm H sm' H' S' → Rep c sm' (fun a => Mo a ∨ a ∈ sm') H' d v → Qv d S' → Q v H')
    (he : ∀ x cls dx H' sm' S', Post c Mo (fun _ => False) sm H sm' H' S' → ExIs c sm' (fun a => Mo a ∨ a ∈ sm') H' x cls dx → Ev x S' → E cls dx H') :
    spV c (runV n (np + 1) wb) (vs.take np ++ [V.ref q]) (upd H q (.tup (vs.drop np))) Q E := by
  have gr := grow_upd (o := .tup (vs.drop np)) hq0
  have ge : Ext sm (fun a => Mo a ∨ a ∈ sm) H sm (fun a => Mo a ∨ a ∈ sm) (upd H q (.tup (vs.drop np))) := Ext.grow gr
  have nq : ¬ (Mo q ∨ q ∈ sm) := fun z => by
    rcases z with z | z
    · obtain ⟨o, e⟩ := h1 q z
      rw [hq0] at e; cases e
    · obtain ⟨n, hn, e⟩ := List.mem_iff_getElem.mp z
      have hn' : n < S.length := by rw [← h4.1]; exact hn
      obtain ⟨o, ho, _⟩ := (h4.2 n q _ (by rw [List.getElem?_eq_getElem hn, e]) (List.getElem?_eq_getElem hn')).there
      rw [hq0] at ho; cases ho
  refine ⟨Mo, sm, _, S, Qv, Ev, fun a h => let ⟨o, e⟩ := h1 a h; ⟨o, gr _ _ e⟩, h2, h3, ⟨h4.1, fun n a d q1 q2 => (h4.2 n a d q1 q2).ext ge (gr a)⟩,
    (Reps.ext ge (h5.take np)).append (Reps.one ?_), hw, fun v H' sm' S' d po => hq v H' sm' S' d (po.grow gr), fun x cls dx H' sm' S' po => he x cls dx H' sm' S' (po.grow gr)⟩
  simp only [Rep]
  exact ⟨q, vs.drop np, rfl, upd_same, nq, Reps.ext ge (h5.drop np)⟩
theorem fn_ok (F : Fun K x qual st f fd) (S : FnScope N ps (defScope st)) (B : Tb P w K mg base c fa k T TI) (hb : Body P w K mg base c fa k T TI N qual st f wb) :
    FnOk P w K mg base (L2.CX P w) (k + 4) f fd ps (spV c (runV N.length ps.length wb)) :=
  F.okX (sp := spV c (runV N.length ps.length wb)) (k := k + 3) S (fun vs H Q E h => spV_len h) fun cdv A outer s H vs Q E hr h => body_run B hb (scope_len S) cdv A outer s H vs Q E hr h
/-- def f(a, .., *v) -/
def runVS (n np : Nat) (wb : TVS) : FW := fun ds S Q E => np ≤ ds.length ∧ ds.length - np ≤ sizeLine ∧ runV n (np + 1) wb (ds.take np ++ [.tup (ds.drop np)]) S Q E
theorem fn_valS {pv : Str} (F : Fun K x qual st f fd) (S : FnScope N (ps ++ [pv]) (defScope st))
    (hbd : ∀ us rest : List Value, us.length = ps.length → bindArgs fd ⟨us ++ rest, []⟩ = (newTuple rest >>= fun t => pure (ps.zip us ++ [(pv, t)])))
    (B : Tb P w K mg base c fa k T TI) (hb : Body P w K mg base c fa k T TI N qual st f wb) :
    FnR P w K mg base (L2.CX P w) (k + 4) f (spV c (runVS N.length ps.length wb)) := by
  obtain ⟨oc, od, kV, doc, pm, an, cdv, ct, osl, rfl, lk, hcd⟩ := F.ex
  have h := StX.fn_star (sp := spV c (runV N.length (ps.length + 1) wb)) (k := k + 3) lk hcd S StX.cxUp hbd fun A outer s H vs Q E hr h => body_run B hb (by have := scope_len S; simpa using this) cdv A outer s H vs Q E hr h
  refine h.imp fun vs H Q E q => ?_
  obtain ⟨Mo, sm, ds, S', Qv, Ev, h1, h2, h3, h4, h5, ⟨hn, hz, hw⟩, hq, he⟩ := q
  have hl := h5.length
  refine ⟨vs.take ps.length, vs.drop ps.length, (List.take_append_drop _ _).symm, by rw [List.length_take]; omega, by rw [List.length_drop]; omega, fun p hp => ?_⟩
  exact spV_star hp h1 h2 h3 h4 h5 hw hq he
/-! ### __init__: the new thing stands in the slot 0, this frame's own -/
/-- what an __init__ does, from its body: n slots, np parameters (self too) -/
def runI (n np : Nat) (wb : TVS) : FWI := fun cl fs ds S Q E => ds.length + 1 = np ∧ wb (.o (.obj cl fs) :: startE (n - 1) ds) S (fun o ρ S' => (∃ fs', ρ[0]? = some (.o (.obj cl fs')) ∧ Q fs' S') ∧ match o with
  | .nx => True
  | .rt .non => True
  | _ => False) fun x ρ S' => (∃ d, ρ[0]? = some (.o d)) ∧ E x S'
abbrev FrI0 (H : Hp) (Mo : Addr → Prop) (sm : List Addr) (p : Addr) : Fr := ⟨H, fun a => a ∈ sm ∨ a = p, sm, fun a => Mo a ∧ a ≠ p, some p, fun _ _ _ => False⟩
section
variable {H : Hp} {S : Sto} {Mo : Addr → Prop} {sm : List Addr} {ds : List D} {vs : List V} {p : Addr} {d0 : D}
theorem mu_startI {n : Nat} (hp : Mo p) : MU (FrI0 H Mo sm p) ⟨sm, []⟩ (L2.start N (.ref p :: vs)) (.o d0 :: startE n ds) = fun a => Mo a ∨ a ∈ sm := by
  funext a
  apply propext
  constructor
  · rintro (h | h | h | ⟨i, d, h1, h2⟩)
    · exact .inl h.1
    · exact .inr h
    · cases h
    · cases i with
      | zero =>
        have h2 : some (some (V.ref p)) = some (some (V.ref a)) := h2
        cases h2
        exact .inl hp
      | succ i => exact (startE_o h1).elim
  · rintro (h | h)
    · by_cases e : a = p
      · subst e
        exact .inr (.inr (.inr ⟨0, d0, rfl, rfl⟩))
      · exact .inl ⟨h, e⟩
    · exact .inr (.inl h)
theorem R.startI (hp : Mo p) (ho : Own c sm (fun a => Mo a ∨ a ∈ sm) H p d0) (h1 : ∀ a, Mo a → ∃ o, H a = some o) (h2 : sm.Nodup) (h3 : ∀ a ∈ sm, ¬ Mo a) (h4 : Stored c sm (fun a => Mo a ∨ a ∈ sm) H S) (h5 : Reps c sm (fun a => Mo a ∨ a ∈ sm) H ds vs) (hl : vs.length + 1 ≤ N.length) :
    R c (FrI0 H Mo sm p) ⟨sm, []⟩ (L2.start N (.ref p :: vs)) H (.o d0 :: startE (N.length - 1) ds) S := by
  have em := mu_startI (H := H) (Mo := Mo) (sm := sm) (N := N) (vs := vs) (ds := ds) (n := N.length - 1) (d0 := d0) hp
  have one : ∀ {i : Nat} {d : D}, (Sl.o d0 :: startE (N.length - 1) ds)[i]? = some (Sl.o d) → i = 0 ∧ d = d0 := fun {i d} h => by
    cases i with
    | zero =>
      have h : some (Sl.o d0) = some (Sl.o d) := h
      cases h
      exact ⟨rfl, rfl⟩
    | succ i => exact (startE_o h).elim
  refine ⟨?_, fun i d h => ?_, fun i d h => ?_, fun i j d e a h1 h2 _ _ => ?_, fun i d a h1 h2 => ?_, by rw [em]; exact h4, h2, fun a h => ⟨fun z => h3 a h z.1, (fun z => nomatch z), Or.inr (.inl h)⟩, (fun a h => nomatch h), List.nodup_nil, ⟨[], by simp, (fun _ z => nomatch z)⟩, fun b o h _ => h, fun a h => ?_, fun a h => ?_, fun q hq d h => ?_, fun i ex h => ?_⟩
  · have e := start_len (N := N) (vs := .ref p :: vs) (by simp; omega)
    rw [e, List.length_cons]
    unfold startE
    rw [List.length_append, List.length_map, List.length_replicate]
    have := h5.length
    omega
  · cases i with
    | zero => cases h
    | succ i =>
      obtain ⟨v, e1, e2⟩ := h5.get (startE_v (show (startE (N.length - 1) ds)[i]? = _ from h))
      refine ⟨v, ?_, by rw [em]; exact e2⟩
      unfold L2.start
      have hi := (List.getElem?_eq_some_iff.mp e1).1
      rw [List.getElem?_append_left (by simp; omega), List.getElem?_map, List.getElem?_cons_succ, e1]
      rfl
  · obtain ⟨e1, e2⟩ := one h
    subst e1 e2
    exact ⟨p, rfl, by rw [em]; exact ho⟩
  · rw [(one h1).1, (one h2).1]
  · obtain ⟨e1, e2⟩ := one h1
    subst e1
    have h2 : some (some (V.ref p)) = some (some (V.ref a)) := h2
    cases h2
    exact ⟨fun z => z.2 rfl, fun z => h3 p z hp, (fun z => nomatch z), .inr (.inr rfl)⟩
  · obtain ⟨o, e⟩ := h1 a h.1
    exact ⟨o, e, fun z => z.elim (fun z => h3 a z h.1) h.2⟩
  · rcases h with h | h
    · obtain ⟨n, hn, e⟩ := List.mem_iff_getElem.mp h
      have hn' : n < S.length := by rw [← h4.1]; exact hn
      obtain ⟨o, ho, _⟩ := (h4.2 n a _ (by rw [List.getElem?_eq_getElem hn, e]) (List.getElem?_eq_getElem hn')).there
      exact ⟨o, ho⟩
    · rw [h]; exact h1 p hp
  · have hq : some p = some q := hq
    cases hq
    rfl
  · cases i with
    | zero =>
      have h : some (Sl.o d0) = some (Sl.x ex) := h
      cases h
    | succ i => exact (startE_x h).elim
/-- at the end of an __init__ -/
theorem R.endI {g' : Gs} {σ' : L2.St} {H' : Hp} {ρ' : En} {S' : Sto} {d' : D} (r : R c (FrI0 H Mo sm p) g' σ' H' ρ' S') (hp : Mo p) (e0 : ρ'[0]? = some (Sl.o d')) :
    Post c Mo (fun a => a = p) sm H g'.sm H' S' ∧ Ext g'.sm (MU (FrI0 H Mo sm p) g' σ' ρ') H' g'.sm (fun a => Mo a ∨ a ∈ g'.sm) H' ∧ Own c g'.sm (fun a => Mo a ∨ a ∈ g'.sm) H' p d' := by
  have es := r.fx p rfl d' e0
  have e : Ext g'.sm (MU (FrI0 H Mo sm p) g' σ' ρ') H' g'.sm (fun a => Mo a ∨ a ∈ g'.sm) H' := less_ext fun a h => by
    rcases h with h | h
    · by_cases z : a = p
      · subst z; exact .inr (.inr (.inr ⟨0, d', e0, es⟩))
      · exact .inl ⟨h, z⟩
    · exact .inr (.inl h)
  obtain ⟨b, e1, ow⟩ := r.own 0 d' e0
  rw [es] at e1
  cases e1
  obtain ⟨s1, s2, s3, s4⟩ := r.sep 0 d' p e0 es
  refine ⟨⟨r.pre, r.smn, fun a h z => ?_, fun b o h n m => r.keep b o h fun q => q.elim n m, ⟨r.sto.1, fun n a d q1 q2 => (r.sto.2 n a d q1 q2).ext e fun _ z => z⟩⟩, e, ow.ext e fun _ z => z⟩
  by_cases y : a = p
  · subst y; exact s2 h
  · exact (r.smo a h).1 ⟨z, y⟩
end
theorem body_runI (B : Tb P w K mg base c fa k T TI) (hb : Body P w K mg base c fa k T TI N qual st f wb) {np : Nat} (hl : np ≤ N.length) (cdv : Value) (A : Around) (outer : List Env) (s : Shared) (H : Hp) (vs : List V) (Q : VK) (E : XK) (hr : Room (k + 3) (A.deeper (envOfC qual (defScope st) s.heap.objs.size f cdv)))
    (h : spI c (runI N.length np wb) vs H Q E) :
    ∃ t, PSs (cxOf (L2.CX P w) P w K mg base N qual (defScope st) f cdv A outer s H E) (defBody st) t ∧ t { nx := fun _ H' => Q .non H', rt := Q } (L2.start N vs) H := by
  obtain ⟨Mo, sm, p, dx, cl, fs, vfs, args, ds, S, Qv, Ev, ev, hp, gi, rf, mp, h1, h2, h3, h4, h5, ⟨hn, hw⟩, hq, he⟩ := h
  subst ev
  refine ⟨_, hb cdv A outer s H E (FrI0 H Mo sm p) (B.gd hr), ?_⟩
  have hal := h5.length
  have ow : Own c sm (fun a => Mo a ∨ a ∈ sm) H p (.obj cl fs) := by
    simp only [Own]; exact ⟨dx, vfs, hp, gi, rf⟩
  refine ⟨⟨sm, []⟩, .o (.obj cl fs) :: startE (N.length - 1) ds, S, _, _, R.startI mp ow h1 h2 h3 h4 h5 (by omega), hw, ?_, ?_⟩
  · intro ex cls dx' σ' H' g' ρ' S' r st xi ⟨⟨d', e0⟩, hev⟩
    obtain ⟨po, e, ow'⟩ := r.endI mp e0
    exact he ex cls dx' H' g'.sm S' po ow'.there (xi.ext e) hev
  · refine ⟨fun σ' H' g' ρ' S' r st q => ?_, fun σ' H' g' ρ' S' r st q => q.2.elim, fun σ' H' g' ρ' S' r st q => q.2.elim, fun v σ' H' g' ρ' S' d r st rp q => ?_⟩
    · obtain ⟨⟨fs', e0, q⟩, _⟩ := q
      obtain ⟨po, e, ow'⟩ := r.endI mp e0
      exact hq H' g'.sm S' fs' po ow' q
    · obtain ⟨⟨fs', e0, q⟩, q2⟩ := q
      obtain ⟨po, e, ow'⟩ := r.endI mp e0
      cases d <;> first
        | exact q2.elim
        | (simp only [Rep] at rp
           subst rp
           exact hq H' g'.sm S' fs' po ow' q)
theorem spI_len {np n : Nat} {vs : List V} {H : Hp} {Q : VK} {E : XK} (h : spI c (runI n np wb) vs H Q E) : vs.length = np := by
  obtain ⟨Mo, sm, p, dx, cl, fs, vfs, args, ds, S, Qv, Ev, ev, hp, gi, rf, mp, h1, h2, h3, h4, h5, ⟨hn, hw⟩, _⟩ := h
  rw [ev, List.length_cons, ← h5.length]; exact hn
/-- an __init__ -/
theorem fn_init (F : Fun K x qual st f fd) (S : FnScope N ps (defScope st)) (b : Binds K fd ps []) (B : Tb P w K mg base c fa k T TI) (hb : Body P w K mg base c fa k T TI N qual st f wb) :
    FnR P w K mg base (L2.CX P w) (k + 4) f (spI c (runI N.length ps.length wb)) := by
  have h := (F.okX (sp := spI c (runI N.length ps.length wb)) (k := k + 3) S (fun vs H Q E h => spI_len h) fun cdv A outer s H vs Q E hr h => body_runI B hb (scope_len S) cdv A outer s H vs Q E hr h).raw b .nil
  exact h.imp fun vs H Q E q => by rw [List.append_nil]; exact q
/-- __init__(self, .., *v): np written parameters, self too -/
def runIS (n np : Nat) (wb : TVS) : FWI := fun cl fs ds S Q E => np ≤ ds.length + 1 ∧ ds.length + 1 - np ≤ sizeLine ∧ 0 < np ∧ runI n (np + 1) wb cl fs (ds.take (np - 1) ++ [.tup (ds.drop (np - 1))]) S Q E
theorem spI_star {n np : Nat} {vs : List V} {H : Hp} {Q : VK} {E : XK} (q : spI c (runIS n np wb) vs H Q E) :
    ∃ ws rest, vs = ws ++ rest ∧ ws.length = np ∧ rest.length ≤ sizeLine ∧ ∀ q, H q = none → spI c (runI n (np + 1) wb) (ws ++ [V.ref q]) (upd H q (.tup rest)) Q E := by
  obtain ⟨Mo, sm, p, dx, cl, fs, vfs, args, ds, S', Qv, Ev, ev, hp, gi, rf, mp, h1, h2, h3, h4, h5, ⟨hn, hz, h0, hw⟩, hq, he⟩ := q
  subst ev
  have hl := h5.length
  obtain ⟨m, em⟩ : ∃ m, np = m + 1 := ⟨np - 1, by omega⟩
  refine ⟨V.ref p :: args.take m, args.drop m, by rw [List.cons_append, List.take_append_drop], by rw [List.length_cons, List.length_take]; omega, by rw [List.length_drop]; omega, fun q hq0 => ?_⟩
  have gr := grow_upd (o := .tup (args.drop m)) hq0
  have ge : Ext sm (fun a => Mo a ∨ a ∈ sm) H sm (fun a => Mo a ∨ a ∈ sm) (upd H q (.tup (args.drop m))) := Ext.grow gr
  have nq : ¬ (Mo q ∨ q ∈ sm) := fun z => by
    rcases z with z | z
    · obtain ⟨o, e⟩ := h1 q z
      rw [hq0] at e; cases e
    · obtain ⟨n, hn, e⟩ := List.mem_iff_getElem.mp z
      have hn' : n < S'.length := by rw [← h4.1]; exact hn
      obtain ⟨o, ho, _⟩ := (h4.2 n q _ (by rw [List.getElem?_eq_getElem hn, e]) (List.getElem?_eq_getElem hn')).there
      rw [hq0] at ho; cases ho
  rw [em, Nat.add_sub_cancel] at hw
  refine ⟨Mo, sm, p, dx, cl, fs, vfs, args.take m ++ [V.ref q], ds.take m ++ [.tup (ds.drop m)], S', Qv, Ev, rfl, gr _ _ hp, gi, RepF.ext ge rf, mp, fun a h => let ⟨o, e⟩ := h1 a h; ⟨o, gr _ _ e⟩, h2, h3, ⟨h4.1, fun n a d q1 q2 => (h4.2 n a d q1 q2).ext ge (gr a)⟩,
    (Reps.ext ge (h5.take m)).append (Reps.one ?_), by rw [em]; exact hw, fun H' sm' S'' fs' po => hq H' sm' S'' fs' (po.grow gr), fun y cls dy H' sm' S'' po => he y cls dy H' sm' S'' (po.grow gr)⟩
  simp only [Rep]
  exact ⟨q, args.drop m, rfl, upd_same, nq, Reps.ext ge (h5.drop m)⟩
theorem fn_initS {pv : Str} (F : Fun K x qual st f fd) (S : FnScope N (ps ++ [pv]) (defScope st))
    (hbd : ∀ us rest : List Value, us.length = ps.length → bindArgs fd ⟨us ++ rest, []⟩ = (newTuple rest >>= fun t => pure (ps.zip us ++ [(pv, t)])))
    (B : Tb P w K mg base c fa k T TI) (hb : Body P w K mg base c fa k T TI N qual st f wb) :
    FnR P w K mg base (L2.CX P w) (k + 4) f (spI c (runIS N.length ps.length wb)) := by
  obtain ⟨oc, od, kV, doc, pm, an, cdv, ct, osl, rfl, lk, hcd⟩ := F.ex
  have h := StX.fn_star (sp := spI c (runI N.length (ps.length + 1) wb)) (k := k + 3) lk hcd S StX.cxUp hbd fun A outer s H vs Q E hr h => body_runI B hb (by have := scope_len S; simpa using this) cdv A outer s H vs Q E hr h
  exact h.imp fun vs H Q E q => spI_star q
end
end VL

set_option Elab.async false
set_option linter.all false
set_option autoImplicit false
set_option maxRecDepth 100000
/-! VLIsi: isinstance. -/
namespace VL
open PySem PySem.Spec PyProof.Rows L2

/-- the type of a thing: a class of the module, or a built-in -/
def tagD (d : D) : Option (Bool × String) := match d with
  | .non => some (false, "NoneType")
  | .bl _ => some (false, "bool")
  | .int _ => some (false, "int")
  | .str _ => some (false, "str")
  | .tup _ => some (false, "tuple")
  | .lst _ => some (false, "list")
  | .dic _ => some (false, "dict")
  | .obj c _ => some (true, c)
  | _ => none
def tagV (c : Cf) (t : Bool × String) : Value := match t.1 with
  | true => .ref (c.ca t.2)
  | false => .type t.2
/-- the answers to isinstance(x, u) by the type of x -/
structure IsiT (c : Cf) (u : Value) (tb : (Bool × String) → Option Bool) : Prop where
  ans : ∀ t b, tb t = some b → PySem.W.kitOne c.K (tagV c t) u = some b
  own : ∀ cl b, tb (true, cl) = some b → SlX.SIsi c.K (c.ca cl)
def vIsi (tb : (Bool × String) → Option Bool) (d : D) (S : Sto) (P : D → Prop) : Prop := ∃ t b, tagD (dr S d) = some t ∧ tb t = some b ∧ P (.bl b)
section
variable {c : Cf} {sm : List Addr} {M : Addr → Prop} {H : Hp} {d : D} {v : V} {t : Bool × String}
theorem brw_ty (h : Brw c sm M H d v) (ht : tagD d = some t) (hs : ∀ cl, t = (true, cl) → SlX.SIsi c.K (c.ca cl)) : TyX c.K H v (tagV c t) := by
  rcases h with h | ⟨a, e, h⟩
  · cases d with
    | non => cases ht; simp only [Rep] at h; subst h; exact .base .non
    | bl b => cases ht; simp only [Rep] at h; subst h; exact .base (.bl b)
    | int b => cases ht; simp only [Rep] at h; subst h; exact .base (.int b)
    | str b => cases ht; simp only [Rep] at h; subst h; exact .base (.str b)
    | tup b => cases ht; simp only [Rep] at h; obtain ⟨a, vs, e, h1, _⟩ := h; subst e; exact .base (.tup h1)
    | lst b => cases ht; simp only [Rep] at h; obtain ⟨a, vs, e, h1, _⟩ := h; subst e; exact .base (.lst h1)
    | dic b =>
      cases ht; simp only [Rep] at h; obtain ⟨a, vs, e, h1, _⟩ := h; subst e
      rcases h1 with h1 | ⟨o, h1⟩
      · exact .base (.dK h1)
      · exact .fDict h1
    | obj cl fs =>
      cases ht; simp only [Rep] at h; obtain ⟨a, dx, vs, e, h1, _, gi, _⟩ := h; subst e
      have q := hs cl rfl
      exact .base (.ins h1 gi.1 q.ca q.cn q.ct q.cm)
    | ref n => cases ht
    | scr n => cases ht
    | cls n => cases ht
  · subst e
    cases d <;> simp only [Own] at h <;> cases ht
    · obtain ⟨vs, h1, _⟩ := h; exact .base (.lst h1)
    · obtain ⟨vs, h1, _⟩ := h; exact .base (.dK h1)
    · obtain ⟨dx, vs, h1, gi, _⟩ := h
      have q := hs _ rfl
      exact .base (.ins h1 gi.1 q.ca q.cn q.ct q.cm)
end
section
variable {Y : VC} {e ce : Expr} {wo : TVO} {p pos : Pos} {x : Str} {cv : V} {u : Value} {tb : (Bool × String) → Option Bool}
/-- a built-in type by its name -/
theorem pe_tyN {X : Cx} {T : String} (hg : Gl X x) (hm : X.mg x = none) (hv : bootBuiltins x = some (.type T)) (hn : x ≠ "__name__" := by decide) (hdb : (x == ("__debug__" : Str)) = false := by decide) : PE X (.Name x pos) (tC (.ty T)) :=
  ⟨fun pins s σ H Q I h => ld_blt I hg hm hv ⟨.ty T, H, I, rfl, h⟩ hn hdb⟩
theorem ve_isi (hK : Y.c.K = Y.X.K) (ti : IsiT Y.c u tb) (hk : ClsV cv u) (hg : Gl Y.X "isinstance") (hm : Y.X.mg "isinstance" = none) (ho : VO Y e wo) (hc : PE Y.X ce (tC cv))
    (he : starEach [e, ce] Y.X.env = (false, eval e Y.X.env) :: starEach [ce] Y.X.env := by rfl) (he2 : starEach [ce] Y.X.env = (false, eval ce Y.X.env) :: starEach [] Y.X.env := by rfl) (hpl : (backTo pos (starEach [ce] Y.X.env)).any (·.1) = false := by rfl) :
    VE Y (.Call (.Name "isinstance" p) [e, ce] [] pos) (wUn (vIsi tb) wo) :=
  PE.imp (pe_callB call_isi hg hm PyProof.Rows.boot_isinstance (pa_cons ho (pa_cons hc pa_nil he2) he) (by decide) (by decide) he hpl) fun σ H Q ⟨g, ρ, S, Qv, Ev, r, hw, ec, hq⟩ => by
    refine ⟨g, ρ, S, _, Ev, r, hw, ec, fun v H1 g1 ρ1 S1 h r1 st1 hr q => ?_⟩
    obtain ⟨d, b1, t, b, e1, e2, q⟩ := r1.rsv hr q
    have b2 := r1.dr b1
    have ty := brw_ty b2 e1 (fun cl et => by subst et; exact ti.own cl b e2)
    rw [hK] at ty
    refine ⟨v, cv, tagV Y.c t, u, b, rfl, hk, ty, by rw [← hK]; exact ti.ans t b e2, hq _ H1 g1 ρ1 S1 (.bl b) r1 st1 (by simp only [Rep]) q⟩
end
end VL

set_option Elab.async false
set_option linter.all false
set_option autoImplicit false
set_option maxRecDepth 100000
/-! VLDisp: operators of own classes, properties, str of an own thing. -/
namespace VL
open PySem PySem.Spec PyProof.Rows L2

section
variable {X : Cx} {W : WX} {k : Nat} {f : Addr} {sp : Sp} {pins : List (Addr × Obj)} {σ : St} {H : Hp} {s : Shared} {Q : VK} {us : List Value} {vs : List V} {A' : Around}
theorem run_fnA (F : FnR X.prog X.w X.K X.mg X.base (L2.CX X.prog X.w) k f sp) (hr : Room k A') (e0 : Env0 X.prog X.w X.K X.mg X.base A' X.stack s H) (tk : Takes X W) (I : Inv X pins σ H s) (r : Vals vs us) (h : sp vs H Q (fun cls d H' => W cls d σ H')) :
    codeAny (model X.prog X.w) A' (.call (.ref f) ⟨us, []⟩) (fun r s' => match r with | .ok (.ret v) => EP X pins σ Q v s' | .ok _ => False | .error e => X.xe e s') s := by
  refine codeAny_mono (F A' X.stack s H us vs Q _ hr e0 r h) fun r s' hq => ?_
  cases r with
  | error e => exact tk e s' (XE.of_call (σ := σ) I (fun cls d H' h => h) hq)
  | ok fl =>
    cases fl with
    | ret u => exact I.after hq
    | next => exact False.elim hq
    | brk => exact False.elim hq
    | cont => exact False.elim hq
end
section
variable {Y : VC} {fa : String → Addr} {k : Nat} {T : Tab} {TI : String → FWI}
theorem run_callA {A' : Around} {f : String} (G : Gd Y fa k T TI) (hr : Room k A') {pins : List (Addr × Obj)} {s : Shared} {σ : St} {H : Hp} (e0 : Env0 Y.X.prog Y.X.w Y.X.K Y.X.mg Y.X.base A' Y.X.stack s H) {Q : VK} {us : List Value} {vs : List V} {g : Gs} {ρ : En} {S : Sto} {ds : List D} {Qv : D → Sto → Prop} {Ev : QE}
    (I : Inv Y.X pins σ H s) (rv : Vals vs us) (r : R Y.c Y.F g σ H ρ S) (ec : EC Y g σ ρ H Ev) (rp : Reps Y.c g.sm (MU Y.F g σ ρ) H ds vs) (hw : T f ds S Qv (fun x S' => Ev x ρ S'))
    (hq : ∀ v H' g' S' d, R Y.c Y.F g' σ H' ρ S' → Stp Y.F g σ ρ H g' σ ρ H' → Rep Y.c g'.sm (MU Y.F g' σ ρ) H' d v → Qv d S' → Q v H') :
    codeAny (model Y.X.prog Y.X.w) A' (.call (.ref (fa f)) ⟨us, []⟩) (fun r s' => match r with | .ok (.ret v) => EP Y.X pins σ Q v s' | .ok _ => False | .error e => Y.X.xe e s') s :=
  run_fnA (G.f0 f) hr e0 G.tk I rv (spV_here r ec rp hw hq)
variable {a b : Expr} {wa wb : TV} {pos : Pos}
theorem run2v {α : Type} (ha : VE Y a wa) (hb : VE Y b wb) {pins : List (Addr × Obj)} {s : Shared} {σ : St} {H : Hp} {g : Gs} {ρ : En} {S : Sto} {Qv : D → D → En → Sto → Prop} {Ev : QE} {Q : α → Shared → Prop} {f : Value → Value → Sem α}
    (I : Inv Y.X pins σ H s) (r : R Y.c Y.F g σ H ρ S) (hw : wa ρ S (fun x ρ1 S1 => wb ρ1 S1 (fun y ρ2 S2 => Qv x y ρ2 S2) Ev) Ev) (ec : EC Y g σ ρ H Ev)
    (k : ∀ v u s2 x y H2 g2 ρ2 S2 dx dy, Inv Y.X pins σ H2 s2 → RelV x v → RelV y u → R Y.c Y.F g2 σ H2 ρ2 S2 → Stp Y.F g σ ρ H g2 σ ρ2 H2 → Rep Y.c g2.sm (MU Y.F g2 σ ρ2) H2 dx x → Rep Y.c g2.sm (MU Y.F g2 σ ρ2) H2 dy y → Qv dx dy ρ2 S2 → wpAny (model Y.X.prog Y.X.w) Y.X.A (f v u) Q Y.X.xe s2) :
    wpAny (model Y.X.prog Y.X.w) Y.X.A (eval a Y.X.env) (fun v s₁ => wpAny (model Y.X.prog Y.X.w) Y.X.A (eval b Y.X.env) (fun u s₂ => wpAny (model Y.X.prog Y.X.w) Y.X.A (f v u) Q Y.X.xe s₂) Y.X.xe s₁) Y.X.xe s := by
  refine bin ha hb I (R := fun x y H2 => ∃ g2 ρ2 S2 dx dy, R Y.c Y.F g2 σ H2 ρ2 S2 ∧ Stp Y.F g σ ρ H g2 σ ρ2 H2 ∧ Rep Y.c g2.sm (MU Y.F g2 σ ρ2) H2 dx x ∧ Rep Y.c g2.sm (MU Y.F g2 σ ρ2) H2 dy y ∧ Qv dx dy ρ2 S2) ⟨g, ρ, S, _, Ev, r, hw, ec, fun x H1 g1 ρ1 S1 dx r1 st1 rp1 q1 => ?_⟩ fun v u s2 x y H2 I2 rx ry ⟨g2, ρ2, S2, dx, dy, r2, st, p1, p2, q⟩ => k v u s2 x y H2 g2 ρ2 S2 dx dy I2 rx ry r2 st p1 p2 q
  exact ⟨g1, ρ1, S1, _, Ev, r1, q1, ec.step st1, fun y H2 g2 ρ2 S2 dy r2 st2 rp2 q2 => ⟨g2, ρ2, S2, dx, dy, r2, st1.trans st2, rp1.ext st2.ext, rp2, q2⟩⟩
end

/-! ### x op y by an own def; y of the same class -/
def ownD (ms : Ms) (o y : D) (P : String → Prop) : Prop := match o, y with
  | .obj cl _, .obj cl2 _ => cl2 = cl ∧ ∃ f, ms.lookup cl = some f ∧ P f
  | _, _ => False
def wOwnB (T : String → FW) (ms : Ms) (wa wb : TV) : TV := fun ρ S Q E => wa ρ S (fun o ρ1 S1 => wb ρ1 S1 (fun y ρ2 S2 => ownD ms (dr S2 o) (dr S2 y) fun f => T f [o, y] S2 (fun d S3 => Q d ρ2 S3) (fun x S3 => E x ρ2 S3)) E) E
/-- the def answers True or False; b: the answer turned -/
def wOwnT (T : String → FW) (ms : Ms) (neg : Bool) (wa wb : TV) : TV := fun ρ S Q E => wa ρ S (fun o ρ1 S1 => wb ρ1 S1 (fun y ρ2 S2 => ownD ms (dr S2 o) (dr S2 y) fun f => T f [o, y] S2 (fun d S3 => ∃ t, d = .bl t ∧ Q (.bl (t != neg)) ρ2 S3) (fun x S3 => E x ρ2 S3)) E) E
theorem ownD_of {ms : Ms} {o y : D} {P : String → Prop} (h : ownD ms o y P) : ∃ cl fs fs2 f, o = .obj cl fs ∧ y = .obj cl fs2 ∧ ms.lookup cl = some f ∧ P f := by
  unfold ownD at h
  split at h
  · rename_i cl fs cl2 fs2
    obtain ⟨e, f, h1, h2⟩ := h
    subst e
    exact ⟨_, _, _, f, rfl, rfl, h1, h2⟩
  · exact h.elim
section
variable {Y : VC} {fa : String → Addr} {k : Nat} {T : Tab} {TI : String → FWI} {a b : Expr} {wa wb : TV} {pos : Pos} {ms : Ms}
theorem ve_cmpO {op : CmpOp} {m : String} (hop : ∀ a b, compareOp op a b = richCompare op a b) (hm : (cmpInfo op).2.1 = toS m) (G : Gd Y fa k T TI) (mo : MsOk Y.c fa m ms) (ha : VE Y a wa) (hb : VE Y b wb) (hin : behindInMarks op b = false) : VE Y (.Compare a [op] [b] pos) (wOwnB T ms wa wb) := by
  refine ⟨fun pins s σ H Q I ⟨g, ρ, S, Qv, Ev, r, hw, ec, hq⟩ => ?_⟩
  refine wpAny_Compare1 (run2v (Qv := fun o y ρ2 S2 => ownD ms (dr S2 o) (dr S2 y) fun f => T f [o, y] S2 (fun d S3 => Qv d ρ2 S3) (fun x S3 => Ev x ρ2 S3)) ha hb I r hw ec fun v u s2 x y H2 g2 ρ2 S2 dx dy I2 rx ry r2 st p1 p2 q => ?_) hin
  obtain ⟨cl, fs, fs2, f, e1, e2, hf, q⟩ := ownD_of q
  have b1 := r2.dr (.inl p1)
  have b2 := r2.dr (.inl p2)
  rw [e1] at b1
  rw [e2] at b2
  obtain ⟨ax, dxx, vx, ex, hx, gx, _⟩ := b1.obj
  obtain ⟨ay, dxy, vy, ey, hy, gy, _⟩ := b2.obj
  subst ex ey
  obtain rfl : v = Value.ref ax := rx
  obtain rfl : u = Value.ref ay := ry
  obtain ⟨hc, hmth⟩ := mo cl f hf
  rw [G.hK] at hc hmth
  obtain ⟨_, J, _⟩ := ins_get I2.hok hx
  obtain ⟨_, J', _⟩ := ins_get I2.hok hy
  obtain ⟨od, J, _⟩ := J.look
  obtain ⟨od', J', _⟩ := J'.look
  obtain ⟨m0, hF⟩ := I2.fr
  rw [hop]
  refine PySem.W.cmp_K (op := op) (tb := .ref (Y.c.ca cl)) G.hr.units0 hF I2.ok.mod.kin J J'.type (by simp [PySem.W.notFirst]) (by rw [hm]; exact hmth.at_) hmth.fn ?_
  refine wpAny_mono (wpAny_call (run_call (us := [.ref ax, .ref ay]) (vs := [.ref ax, .ref ay]) (ds := [dx, dy]) G I2 (.cons rfl (.cons rfl .nil)) r2 (ec.step st) (by simp only [Reps]; exact ⟨_, _, rfl, p1, _, _, rfl, p2, rfl⟩) q fun v H' g' S' d r' st' rp' q' => hq v H' g' ρ2 S' d r' (st.trans st') rp' q')) (fun w s' z => ?_) fun _ _ x => x
  obtain ⟨z', H', I', rz, qz⟩ := z
  exact SlX.cmpback rz ⟨z', H', I', rz, qz⟩
theorem ve_binO {op : Operator} {m : String} (hm : PySem.dunder op.info.2 = toS m) (G : Gd Y fa k T TI) (mo : MsOk Y.c fa m ms) (sf : ∀ cl f, ms.lookup cl = some f → PySem.W.selfFirst Y.c.K (Y.c.ca cl) = true) (ha : VE Y a wa) (hb : VE Y b wb) : VE Y (.BinOp a op b pos) (wOwnB T ms wa wb) := by
  refine ⟨fun pins s σ H Q I ⟨g, ρ, S, Qv, Ev, r, hw, ec, hq⟩ => ?_⟩
  refine wpAny_BinOp (run2v (Qv := fun o y ρ2 S2 => ownD ms (dr S2 o) (dr S2 y) fun f => T f [o, y] S2 (fun d S3 => Qv d ρ2 S3) (fun x S3 => Ev x ρ2 S3)) ha hb I r hw ec fun v u s2 x y H2 g2 ρ2 S2 dx dy I2 rx ry r2 st p1 p2 q => ?_)
  obtain ⟨cl, fs, fs2, f, e1, e2, hf, q⟩ := ownD_of q
  have b1 := r2.dr (.inl p1)
  have b2 := r2.dr (.inl p2)
  rw [e1] at b1
  rw [e2] at b2
  obtain ⟨ax, dxx, vx, ex, hx, gx, _⟩ := b1.obj
  obtain ⟨ay, dxy, vy, ey, hy, gy, _⟩ := b2.obj
  subst ex ey
  obtain rfl : v = Value.ref ax := rx
  obtain rfl : u = Value.ref ay := ry
  obtain ⟨hc, hmth⟩ := mo cl f hf
  have hsf := sf cl f hf
  rw [G.hK] at hc hmth hsf
  obtain ⟨_, J, _⟩ := ins_get I2.hok hx
  obtain ⟨_, J', _⟩ := ins_get I2.hok hy
  obtain ⟨od, J, _⟩ := J.look
  obtain ⟨od', J', _⟩ := J'.look
  obtain ⟨m0, hF⟩ := I2.fr
  refine PySem.W.binop_K hF I2.ok.mod.kin J J'.type hsf (by rw [hm]; exact hmth.at_) hmth.fn ?_
  refine wpAny_mono (wpAny_call (run_call (us := [.ref ax, .ref ay]) (vs := [.ref ax, .ref ay]) (ds := [dx, dy]) G I2 (.cons rfl (.cons rfl .nil)) r2 (ec.step st) (by simp only [Reps]; exact ⟨_, _, rfl, p1, _, _, rfl, p2, rfl⟩) q fun v H' g' S' d r' st' rp' q' => hq v H' g' ρ2 S' d r' (st.trans st') rp' q')) (fun w s' z => ?_) fun _ _ x => x
  obtain ⟨z', H', I', rz, qz⟩ := z
  exact SlX.cmpback rz ⟨z', H', I', rz, qz⟩
end

end VL

/-! ### != by an own == -/
namespace VLN
open PySem PySem.Calls PyProof.Rows PySem.W Builtin
section
variable {prog : Program} {w : World} {A : Around} {E : Value → Shared → Prop} {s : Shared} {K : Frag} {x C L f : Addr} {h₀ : Heap} {m : Str → Option Value} {ox : Obj} {od : Option Obj} {b tb : Value}
theorem ifBound_B {M : Model} {name : Str} {id : String} {args : List Value} {Q : Option Value → Shared → Prop} (X : K.In s.heap) (I : InstAt s.heap x ox C od) (hs : findIn K (.ref C) name = some (some (.builtin id)))
    (hb : ∀ self, bindSpecial (.builtin id) self = pure (.builtin id, [self])) (h : wpAny M A (call (.builtin id) (.ref x :: args)) (fun v => Q (some v)) E s) : wpAny M A (callSpecialIfBound? (.ref x) name args) Q E s := by
  simp only [callSpecialIfBound?, bindSpecialIfBound?]
  refine wpAny_holding (wpAny_bind (wpAny_bind (wpAny_bind (I.type.here ((looks_findIn X hs).here ?_)))))
  refine wpAny_bind (wpAny_askSetting (wpAny_ite ?_))
  have fin : wpAny M A (call (.builtin id) ([.ref x] ++ args) >>= fun v => pure (some v)) Q E s := wpAny_bind (wpAny_mono h (fun v s' h' => wpAny_pure h') fun _ _ h' => h')
  split
  · exact wpAny_bind ((Looks.of_pure (hb _)).here (wpAny_pure (by exact fin)))
  · exact wpAny_tryCatch (wpAny_bind ((Looks.of_pure (hb _)).here (wpAny_pure (by exact fin))))
theorem ne_own {Q : Value → Shared → Prop} (hu : A.units + 1 < cLine) (Fm : Fr h₀ L s.heap m) (X₀ : K.In h₀) (I : InstAt s.heap x ox C od) (hb : Looks (model prog w) s.heap (typeOf b) tb) (hn : notFirst K C tb = true)
    (hs : findIn K (.ref C) "__eq__" = some (some (.ref f))) (hf : isFn K (.ref f) = true) (hne : findIn K (.ref C) "__ne__" = some (some (.builtin "object.__ne__"))) (hm : mroIn K C (.type "object") = some true)
    (h : wpAny (model prog w) A.in1 (call (.ref f) [.ref x, b]) (fun v s' => ∃ r, v = .bool r ∧ Q (.bool (!r)) s') E s) : wpAny (model prog w) A (richCompare .NotEq (.ref x) b) Q E s := by
  have X := X₀.keeps Fm.keep
  have hu1 : A.in1.units < cLine := by
    have : A.in1.units = A.units + 1 := rfl
    omega
  have one : wpAny (model prog w) A (tryCompare (.ref x) (cmpInfo .NotEq).2.1 b) (fun r s' => ∃ v, r = some v ∧ Q v s') E s := by
    unfold tryCompare
    refine wpAny_bind (ifBound_B X I (show findIn K (.ref C) (cmpInfo .NotEq).2.1 = _ from hne) F.cmp_object.ne.bind ?_)
    refine wpAny_call (codeAny_call_builtin F.cmp_object.ne.plain F.cmpEntry_ne (check_slot (i := "object.__ne__") (owner := "object") (n := "__ne__") (by decide +kernel) (by decide +kernel) (I.type.andThen (looks_mroIn X hm)) (F.cmpArgs_ne _ _) ?_))
    unfold Builtin.«object.__ne__»
    refine wpAny_bind (m := slotArgs "__ne__" 1 _) (wpAny_pure ?_)
    refine wpAny_bind (m := cRoomFor _ _) (wpAny_cRoomFor hu1 ?_)
    refine wpAny_bind (m := callSpecialIfBound? (.ref x) (Str.ofString "__eq__") _) (ifBound_K X I hs hf (wpAny_mono h (fun r s' hr => ?_) fun _ _ e => e))
    obtain ⟨r, rfl, hq⟩ := hr
    refine wpAny_bind (m := truthy (.bool _)) (wpAny_truthy_bool ?_)
    exact wpAny_pure (wpAny_pure ⟨_, rfl, hq⟩)
  unfold richCompare
  simp only [oneThing_ref]
  refine wpAny_holding (wpAny_bind (wpAny_cRoomFor (Nat.lt_of_succ_lt hu) ?_))
  refine wpAny_bind (I.type.here (wpAny_bind (hb.here ?_)))
  split
  · rename_i q
    have e : subIn K tb (.ref C) = some false := by
      rcases Bool.or_eq_true_iff.mp hn with e | e
      · rw [beq_iff_eq.mp e] at q; simp at q
      · exact beq_iff_eq.mp e
    refine wpAny_bind ((looks_subIn X e).here ?_)
    simp only [Bool.false_eq_true, if_false]
    refine wpAny_bind (wpAny_mono one (fun r s' z => ?_) fun _ _ e => e)
    obtain ⟨v, rfl, hq⟩ := z
    exact wpAny_pure hq
  · refine wpAny_bind (wpAny_pure ?_)
    simp only [Bool.false_eq_true, if_false]
    refine wpAny_bind (wpAny_mono one (fun r s' z => ?_) fun _ _ e => e)
    obtain ⟨v, rfl, hq⟩ := z
    exact wpAny_pure hq
end
end VLN

namespace VL
open PySem PySem.Spec PyProof.Rows L2
/-- the classes of ms have object's != -/
structure NeOk (c : Cf) (cl : String) : Prop where
  ne : PySem.W.findIn c.K (.ref (c.ca cl)) "__ne__" = some (some (.builtin "object.__ne__"))
  ob : PySem.W.mroIn c.K (c.ca cl) (.type "object") = some true
section
variable {Y : VC} {fa : String → Addr} {k : Nat} {T : Tab} {TI : String → FWI} {a b : Expr} {wa wb : TV} {pos : Pos} {ms : Ms}
theorem ve_neO (G : Gd Y fa k T TI) (mo : MsOk Y.c fa "__eq__" ms) (no : ∀ cl f, ms.lookup cl = some f → NeOk Y.c cl) (ha : VE Y a wa) (hb : VE Y b wb) (hin : behindInMarks .NotEq b = false) : VE Y (.Compare a [.NotEq] [b] pos) (wOwnT T ms true wa wb) := by
  refine ⟨fun pins s σ H Q I ⟨g, ρ, S, Qv, Ev, r, hw, ec, hq⟩ => ?_⟩
  refine wpAny_Compare1 (run2v (Qv := fun o y ρ2 S2 => ownD ms (dr S2 o) (dr S2 y) fun f => T f [o, y] S2 (fun d S3 => ∃ t, d = .bl t ∧ Qv (.bl (t != true)) ρ2 S3) (fun x S3 => Ev x ρ2 S3)) ha hb I r hw ec fun v u s2 x y H2 g2 ρ2 S2 dx dy I2 rx ry r2 st p1 p2 q => ?_) hin
  obtain ⟨cl, fs, fs2, f, e1, e2, hf, q⟩ := ownD_of q
  have b1 := r2.dr (.inl p1)
  have b2 := r2.dr (.inl p2)
  rw [e1] at b1
  rw [e2] at b2
  obtain ⟨ax, dxx, vx, ex, hx, gx, _⟩ := b1.obj
  obtain ⟨ay, dxy, vy, ey, hy, gy, _⟩ := b2.obj
  subst ex ey
  obtain rfl : v = Value.ref ax := rx
  obtain rfl : u = Value.ref ay := ry
  obtain ⟨hc, hmth⟩ := mo cl f hf
  obtain ⟨n1, n2⟩ := no cl f hf
  rw [G.hK] at hc hmth n1 n2
  obtain ⟨_, J, _⟩ := ins_get I2.hok hx
  obtain ⟨_, J', _⟩ := ins_get I2.hok hy
  obtain ⟨od, J, _⟩ := J.look
  obtain ⟨od', J', _⟩ := J'.look
  obtain ⟨m0, hF⟩ := I2.fr
  have hun := G.hr0.un
  refine VLN.ne_own (tb := .ref (Y.c.ca cl)) (by omega) hF I2.ok.mod.kin J J'.type (by simp [PySem.W.notFirst]) hmth.at_ hmth.fn n1 n2 ?_
  have hr1 : Room k Y.X.A.in1 := (show Room (k + 1) Y.X.A from G.hr).in1
  refine wpAny_mono (wpAny_call (run_callA (Q := fun v H' => ∃ t, v = .bl t ∧ Q (.bl (!t)) H') (us := [.ref ax, .ref ay]) (vs := [.ref ax, .ref ay]) (ds := [dx, dy]) G hr1 I2.env0.in1 I2 (.cons rfl (.cons rfl .nil)) r2 (ec.step st) (by simp only [Reps]; exact ⟨_, _, rfl, p1, _, _, rfl, p2, rfl⟩) q fun v H' g' S' d r' st' rp' q' => ?_)) (fun w s' z => ?_) fun _ _ x => x
  · obtain ⟨t, e, q'⟩ := q'
    subst e
    simp only [Rep] at rp'
    exact ⟨t, rp', hq (.bl (!t)) H' g' ρ2 S' (.bl (!t)) r' (st.trans st') (by simp only [Rep]) (by simpa using q')⟩
  · obtain ⟨z', H', I', rz, t, et, qz⟩ := z
    subst et
    cases (show w = Value.bool t from rz)
    exact ⟨t, rfl, .bl (!t), H', I', rfl, qz⟩
end

/-! ### y in o, by an own def -/
def own1D (ms : Ms) (o : D) (P : String → Prop) : Prop := match o with
  | .obj cl _ => ∃ f, ms.lookup cl = some f ∧ P f
  | _ => False
/-- the container is the right operand -/
def wOwnIn (T : String → FW) (ms : Ms) (neg : Bool) (wa wb : TV) : TV := fun ρ S Q E => wa ρ S (fun y ρ1 S1 => wb ρ1 S1 (fun o ρ2 S2 => own1D ms (dr S2 o) fun f => T f [o, y] S2 (fun d S3 => ∃ t, d = .bl t ∧ Q (.bl (t != neg)) ρ2 S3) (fun x S3 => E x ρ2 S3)) E) E
theorem own1D_of {ms : Ms} {o : D} {P : String → Prop} (h : own1D ms o P) : ∃ cl fs f, o = .obj cl fs ∧ ms.lookup cl = some f ∧ P f := by
  unfold own1D at h
  split at h
  · rename_i cl fs
    obtain ⟨f, h1, h2⟩ := h
    exact ⟨_, _, f, rfl, h1, h2⟩
  · exact h.elim
section
variable {Y : VC} {fa : String → Addr} {k : Nat} {T : Tab} {TI : String → FWI} {a b e : Expr} {wa wb w : TV} {pos : Pos} {ms : Ms}
theorem ve_inO_ {op : CmpOp} {neg : Bool} (hop : (op = .In ∧ neg = false) ∨ (op = .NotIn ∧ neg = true)) (G : Gd Y fa k T TI) (mo : MsOk Y.c fa "__contains__" ms) (ha : VE Y a wa) (hb : VE Y b wb) (hin : behindInMarks op b = false) : VE Y (.Compare a [op] [b] pos) (wOwnIn T ms neg wa wb) := by
  refine ⟨fun pins s σ H Q I ⟨g, ρ, S, Qv, Ev, r, hw, ec, hq⟩ => ?_⟩
  refine wpAny_Compare1 (run2v (Qv := fun y o ρ2 S2 => own1D ms (dr S2 o) fun f => T f [o, y] S2 (fun d S3 => ∃ t, d = .bl t ∧ Qv (.bl (t != neg)) ρ2 S3) (fun x S3 => Ev x ρ2 S3)) ha hb I r hw ec fun v u s2 x y H2 g2 ρ2 S2 dx dy I2 rx ry r2 st p1 p2 q => ?_) hin
  obtain ⟨cl, fs, f, e2, hf, q⟩ := own1D_of q
  have b2 := r2.dr (.inl p2)
  rw [e2] at b2
  obtain ⟨ay, dxy, vy, ey, hy, gy, _⟩ := b2.obj
  subst ey
  obtain rfl : u = Value.ref ay := ry
  obtain ⟨hc, hmth⟩ := mo cl f hf
  rw [G.hK] at hc hmth
  obtain ⟨_, J, _⟩ := ins_get I2.hok hy
  obtain ⟨od, J, _⟩ := J.look
  obtain ⟨m0, hF⟩ := I2.fr
  have fin : ∀ (Q2 : Value → Shared → Prop), (∀ (t : Bool) s', (∃ H' , Inv Y.X pins σ H' s' ∧ ∃ g' S', R Y.c Y.F g' σ H' ρ2 S' ∧ Stp Y.F g2 σ ρ2 H2 g' σ ρ2 H' ∧ Qv (.bl (t != neg)) ρ2 S') → Q2 (.bool (t != neg)) s') →
      wpAny (model Y.X.prog Y.X.w) Y.X.A (call (.ref (fa f)) [.ref ay, v]) (fun r s' => wpAny (model Y.X.prog Y.X.w) Y.X.A (truthy r) (fun b => Q2 (.bool (b != neg))) Y.X.xe s') Y.X.xe s2 := fun Q2 hQ2 => by
    refine wpAny_mono (wpAny_call (run_call (Q := fun v H' => ∃ t, v = .bl t ∧ ∃ g' S', R Y.c Y.F g' σ H' ρ2 S' ∧ Stp Y.F g2 σ ρ2 H2 g' σ ρ2 H' ∧ Qv (.bl (t != neg)) ρ2 S') (us := [.ref ay, v]) (vs := [.ref ay, x]) (ds := [dy, dx]) G I2 (.cons rfl (.cons rx .nil)) r2 (ec.step st) (by simp only [Reps]; exact ⟨_, _, rfl, p2, _, _, rfl, p1, rfl⟩) q fun v H' g' S' d r' st' rp' q' => ?_)) (fun w s' z => ?_) fun _ _ x => x
    · obtain ⟨t, e, q'⟩ := q'
      subst e
      simp only [Rep] at rp'
      exact ⟨t, rp', g', S', r', st', q'⟩
    · obtain ⟨z', H', I', rz, t, et, qz⟩ := z
      subst et
      cases (show w = Value.bool t from rz)
      exact wpAny_truthy_bool (hQ2 t s' ⟨H', I', qz⟩)
  have out : ∀ (t : Bool) s', (∃ H' , Inv Y.X pins σ H' s' ∧ ∃ g' S', R Y.c Y.F g' σ H' ρ2 S' ∧ Stp Y.F g2 σ ρ2 H2 g' σ ρ2 H' ∧ Qv (.bl (t != neg)) ρ2 S') → EP Y.X pins σ Q (.bool (t != neg)) s' := fun t s' ⟨H', I', g', S', r', st', q'⟩ =>
    ⟨.bl (t != neg), H', I', rfl, hq (.bl (t != neg)) H' g' ρ2 S' (.bl (t != neg)) r' (st.trans st') (by simp only [Rep]) q'⟩
  rcases hop with ⟨rfl, rfl⟩ | ⟨rfl, rfl⟩
  · refine PySem.W.in_K hF I2.ok.mod.kin J hmth.at_ hmth.fn (wpAny_mono (fin _ out) (fun r s' z => ?_) fun _ _ x => x)
    simpa using z
  · refine PySem.W.notIn_K hF I2.ok.mod.kin J hmth.at_ hmth.fn (wpAny_mono (fin _ out) (fun r s' z => ?_) fun _ _ x => x)
    simpa using z

/-! ### str of an own thing -/
def wOwnStr (T : String → FW) (ms : Ms) (w : TV) : TV := fun ρ S Q E => w ρ S (fun o ρ1 S1 => own1D ms (dr S1 o) fun f => T f [o] S1 (fun d S2 => (∃ z, d = .str z) ∧ Q d ρ1 S2) (fun x S2 => E x ρ1 S2)) E
theorem ve_strO {p : Pos} (hg : Gl Y.X "str") (hmg : Y.X.mg "str" = none) (G : Gd Y fa k T TI) (mo : MsOk Y.c fa "__str__" ms) (ho : VE Y e w) (hst : starEach [e] Y.X.env = (false, eval e Y.X.env) :: starEach [] Y.X.env := by rfl) (hpl : (backTo pos (starEach [] Y.X.env)).any (·.1) = false := by rfl) :
    VE Y (.Call (.Name "str" p) [e] [] pos) (wOwnStr T ms w) := by
  refine ⟨fun pins s σ H Q I ⟨g, ρ, S, Qv, Ev, r, hw, ec, hq⟩ => ?_⟩
  refine wpAny_Call_Name_kw (ld_blt I hg hmg (show bootBuiltins "str" = some (.type "str") from PyProof.Rows.boot_str) ?_)
  refine PyProof.Rows.callWith_type1 (args_cons (thn (ho.run pins s σ H (fun x H1 => ∃ g1 ρ1 S1 d, R Y.c Y.F g1 σ H1 ρ1 S1 ∧ Stp Y.F g σ ρ H g1 σ ρ1 H1 ∧ Rep Y.c g1.sm (MU Y.F g1 σ ρ1) H1 d x ∧ own1D ms (dr S1 d) fun f => T f [d] S1 (fun d S2 => (∃ z, d = .str z) ∧ Qv d ρ1 S2) (fun x S2 => Ev x ρ1 S2)) I
    ⟨g, ρ, S, _, Ev, r, hw, ec, fun v H1 g1 ρ1 S1 d r1 st1 rp1 q1 => ⟨g1, ρ1, S1, d, r1, st1, rp1, q1⟩⟩) fun u s1 ⟨x, H1, I1, rx, g1, ρ1, S1, d, r1, st1, rp1, q1⟩ => args_nil ?_) hst) hst hpl
  have b := r1.dr (.inl rp1)
  obtain ⟨cl, fs, f, e1, hf, q2⟩ := own1D_of q1
  rw [e1] at b
  obtain ⟨a, dx, vs, ex, hv, gi, rf⟩ := b.obj
  subst ex
  obtain rfl : u = Value.ref a := rx
  obtain ⟨hc, hm⟩ := mo cl f hf
  rw [G.hK] at hc hm
  obtain ⟨_, J, _⟩ := ins_get I1.hok hv
  obtain ⟨od, J, _⟩ := J.look
  have hr2 : Room k Y.X.A.in1.in1 := (show Room (k + 1) Y.X.A.in1 from Room.in1 (G.hr0.mono (by omega))).in1
  refine PySem.W.kso_call hr2.units0 I1.kIn J hm.at_ hm.fn ?_
  refine wpAny_mono (wpAny_call (run_callA (Q := fun v H' => (∃ z, v = .str z) ∧ Q v H') (us := [.ref a]) (vs := [.ref a]) (ds := [d]) G hr2 I1.env0.in1.in1 I1 (.cons rfl .nil) r1 (ec.step st1) (Reps.one rp1) q2 fun v H' g' S' d r' st' rp' q' => ?_)) (fun w s' z => ?_) fun _ _ x => x
  · obtain ⟨⟨z, ez⟩, q'⟩ := q'
    subst ez
    have rp2 := rp'
    simp only [Rep] at rp2
    exact ⟨⟨z, rp2⟩, hq v H' g' ρ1 S' _ r' (st1.trans st') rp' q'⟩
  · obtain ⟨z', H', I', rz, ⟨t, et⟩, qz⟩ := z
    subst et
    obtain ⟨tk, ew⟩ := (show ∃ t', w = Value.str t t' from rz)
    subst ew
    exact ⟨.str t, H', I', ⟨tk, rfl⟩, qz⟩

/-! ### o.f, a property: the getter raises nothing -/
def wProp (T : String → FW) (ms : Ms) (w : TV) : TV := fun ρ S Q E => w ρ S (fun o ρ1 S1 => own1D ms (dr S1 o) fun f => T f [o] S1 (fun d S2 => Q d ρ1 S2) (fun _ _ => False)) E
def PrOk (c : Cf) (fa : String → Addr) (m : String) (ms : Ms) : Prop := ∀ cl f, ms.lookup cl = some f → Cls c.K (c.ca cl) ∧ ∃ p, PropOf c.K (c.ca cl) (toS m) p (fa f)
theorem ve_prop {m : String} (G : Gd Y fa k T TI) (mo : PrOk Y.c fa m ms) (ho : VE Y e w) (hab : attributeBase e (toS m) Y.X.env (eval e Y.X.env) = eval e Y.X.env := by rfl) : VE Y (.Attribute e (toS m) pos) (wProp T ms w) := by
  refine ⟨fun pins s σ H Q I ⟨g, ρ, S, Qv, Ev, r, hw, ec, hq⟩ => ?_⟩
  refine attr_of hab (thn (ho.run pins s σ H (fun x H1 => ∃ g1 ρ1 S1 d, R Y.c Y.F g1 σ H1 ρ1 S1 ∧ Stp Y.F g σ ρ H g1 σ ρ1 H1 ∧ Rep Y.c g1.sm (MU Y.F g1 σ ρ1) H1 d x ∧ own1D ms (dr S1 d) fun f => T f [d] S1 (fun d S2 => Qv d ρ1 S2) (fun x S2 => False)) I
    ⟨g, ρ, S, _, Ev, r, hw, ec, fun v H1 g1 ρ1 S1 d r1 st1 rp1 q1 => ⟨g1, ρ1, S1, d, r1, st1, rp1, q1⟩⟩) fun u s1 ⟨x, H1, I1, rx, g1, ρ1, S1, d, r1, st1, rp1, q1⟩ => ?_)
  have b := r1.dr (.inl rp1)
  obtain ⟨cl, fs, f, e1, hf, q2⟩ := own1D_of q1
  rw [e1] at b
  obtain ⟨a, dx, vs, ex, hv, gi, rf⟩ := b.obj
  subst ex
  obtain rfl : u = Value.ref a := rx
  obtain ⟨hc, p, hp⟩ := mo cl f hf
  rw [G.hK] at hc hp
  obtain ⟨mA, O, _, _, _, _⟩ := ins_get I1.hok hv
  obtain ⟨od, J, _⟩ := O.look
  obtain ⟨rest, hrec⟩ := hp.rec_
  have I2 := I1.tok (s1.toks + 1)
  have hcs : (PySem.W.clsIn Y.X.K (Y.c.ca cl)).isSome = true := by
    obtain ⟨cd, hc, _⟩ := PySem.W.any_some hc.hd
    rw [hc]
    rfl
  have hr1 : Room k Y.X.A.in1 := (show Room (k + 1) Y.X.A from G.hr).in1
  refine PySem.W.get_bind I1.kIn J (PySem.W.plainGet_of (hc.get (toS m))).1 (PySem.W.findObj_data hcs hp.at_ hp.get hp.tak) (PySem.W.plainGet_of (hc.get (toS m))).2 (wpAny_call (PySem.W.prop_get (s := { s1 with toks := s1.toks + 1 }) I1.kIn hrec ?_))
  have sp : spV Y.c (T f) [.ref a] H1 Q (fun _ _ _ => False) := by
    have em : MU Y.F g1 σ ρ1 = fun a => MoOf Y.F g1 σ ρ1 a ∨ a ∈ g1.sm := mu_mo
    refine ⟨MoOf Y.F g1 σ ρ1, g1.sm, [d], S1, _, _, r1.mo_there, r1.smn, r1.sm_mo, by rw [← em]; exact r1.sto, by rw [← em]; exact Reps.one rp1, q2, fun v H' sm' S' d p rp' q => ?_, fun x cls dx H' sm' S' p xi q => q⟩
    obtain ⟨r2, st, em2⟩ := r1.called p
    exact hq v H' ⟨sm', g1.tm⟩ ρ1 S' d r2 (st1.trans st) (by rw [em2]; exact rp') q
  refine codeAny_mono (G.f0 f Y.X.A.in1 Y.X.stack { s1 with toks := s1.toks + 1 } H1 [.ref a] [.ref a] Q _ hr1 I2.env0.in1 (.cons rfl .nil) sp) fun r s' hq => ?_
  cases r with
  | error er =>
    obtain ⟨_, _, _, _, _, _, _, _, _, _, _, _, _, z⟩ := hq
  | ok fl =>
    cases fl with
    | ret u =>
      obtain ⟨v, H', I3, rv, q3⟩ := I2.after hq
      show wpAny _ _ (handedOut u) _ _ _
      rw [PySem.W.handedOut_of (handed_of rv)]
      exact wpAny_pure ⟨v, H', I3, rv, q3⟩
    | next => exact False.elim hq
    | brk => exact False.elim hq
    | cont => exact False.elim hq
end
end VL

set_option Elab.async false
set_option linter.all false
set_option autoImplicit false
set_option maxRecDepth 100000
/-! VLSuper: super().__init__(a, *b) as the first statement of an __init__. -/
namespace VLN
open PySem PySem.Calls PyProof.Rows PySem.W Builtin
section
variable {prog : Program} {w : World} {M : Model} {A : Around} {E : Value → Shared → Prop} {h : Heap} {g : Array GenState} {d : Drawn} {t : Nat} {os : OsState}
theorem getAttr_super {so D x C f : Addr} {of : Obj} {l₀ l : List Value} {K : Frag} {name : Str} {Q : Value → Shared → Prop}
    (hso : h.get? so = some { cls := .type "super", dict := none, data := .fields #[.ref D, .ref x, .ref C], slots := #[] }) (hno : Looks (model prog w) h (opaqueClassAbove (.ref C)) none)
    (hC : Looks (model prog w) h (mroOf (.ref C)) l₀) (hl : (l₀.dropWhile (· != .ref D)).drop 1 = l) (X : K.In h)
    (hf : alongIn K name l = some (some (.ref f))) (hfo : h.get? f = some of) (hfc : of.cls = .type "function") (hxC : x ≠ C) (hn : (name == ("__class__" : Str)) = false)
    (hq : Q (.ref h.objs.size) ⟨h.push { cls := .type "method", data := .fields #[.ref f, .ref x] }, g, d, t + 1, os⟩) :
    wpAny (model prog w) A (getAttr (.ref so) name true) Q E ⟨h, g, d, t, os⟩ := by
  have hlk := F.ks_slot_super_ga.lookup
  have hT : ∀ t', (⟨h, g, d, t', os⟩ : Shared).TypeIs (.ref so) "super" := fun _ => ⟨_, hso, rfl⟩
  unfold getAttr getAttrBy
  refine wpAny_bind (wpAny_mkText (wpAny_holding (wpAny_bind (wpAny_typeOf (hT _) (wpAny_bind (wpAny_of_eq hlk ?_))))))
  show wpAny _ _ (getAttrByItsOwn (.ref so) (.str name t) (.type "super") (.builtin "super.__getattribute__") true true) _ _ _
  unfold getAttrByItsOwn hookBefore callGetattribute boundAndCalled
  refine wpAny_bind (wpAny_of_eq (show (if onTheHeap (.type "super") then typeLookup (.type "super") "__getattr__" else pure none) = pure none from rfl) ?_)
  refine wpAny_bind (wpAny_attempt (wpAny_holding ?_))
  show wpAny _ _ (bindSpecial (.builtin "super.__getattribute__") (.ref so) >>= _) _ _ _
  refine wpAny_bind (wpAny_of_eq (F.ks_slot_super_ga.bind _) ?_)
  refine wpAny_mono (Q := fun v s' => v = .ref h.objs.size ∧ s' = ⟨h.push { cls := .type "method", data := .fields #[.ref f, .ref x] }, g, d, t + 1, os⟩) (E := fun _ _ => False)
    (wpAny_call_entry F.ks_slot_super_ga (hT _) F.ks_entry_super_ga (ks_wpAny_super_ga hso hno hC hl X hf hfo hfc hxC hn ⟨_, rfl, rfl, rfl⟩) (F.ks_gaArgs_super _ _)) (fun v s' hv => ?_) fun _ _ z => z.elim
  obtain ⟨rfl, rfl⟩ := hv
  exact wpAny_pure hq
end
/-- what a def with super() in it needs of the top -/
structure SupF (P : Program) (K : Frag) (mg : Str → Option Value) (f cda cc D : Addr) (fd : FuncData) : Prop where
  fn : ∃ oc od osl, K.lookup f = some ⟨oc, od, .func fd, osl⟩
  code : ∃ ccl cdd vs ccs file tf, K.lookup cda = some ⟨ccl, cdd, .fields vs, ccs⟩ ∧ vs[2]? = some (.str file tf) ∧ ((P.main.file : Str) == file) = true
  cell : ∃ cl cld csl, K.lookup cc = some ⟨cl, cld, .cell (some (.ref D)), csl⟩
  cls : ∃ cdD, clsIn K D = some cdD
  sup : mg "super" = none
  top : (P.main.scope.names.lookup ("super" : Str)).isSome = false
  opq : nsIn K cStatics "thirdparty.any" = some none
/-- .. of the class of self -/
structure SupC (K : Frag) (C D : Addr) (name : Str) (g : Addr) : Prop where
  sub : mroIn K C (.ref D) = some true
  at_ : ks_superIn K C D name = some (some (.ref g))
  ty : typeIn K (.ref g) = some (.type "function")
  fi : fnIn K g = true
end VLN
namespace VLN
open PySem PySem.Spec PyProof.Rows L2
section
variable {X : Cx} {pins : List (Addr × Obj)} {σ : L2.St} {H : Hp} {s : Shared} {f cda cc D x C dx g : Addr} {fd : FuncData} {fs : List (Str × V)} {ar : Arg} {name : Str} {p0 p1 apos pos : Pos} {args : List Expr} {body : List Stmt} {Q : Value → Shared → Prop}
theorem sup_at (I : Inv X pins σ H s) (S : SupF X.prog X.K X.mg f cda cc D fd) (hfu : X.env.func = some f) (hco : X.env.code = .ref cda) (hcl : X.env.cells.lookup ("__class__" : Str) = some cc)
    (hks : X.env.kindOf "super" = some .globalImplicit) (hkc : X.env.kindOf "__class__" = some .free) (hp : (fd.params.posonlyargs ++ fd.params.args).head? = some ar) (hN : X.N[0]? = some ar.arg) (hka : X.env.kindOf ar.arg = some .local)
    (h0 : σ[0]? = some (some (.ref x))) (hx : H x = some (.ins C dx fs)) (hC : SupC X.K C D name g) (hn : (name == ("__class__" : Str)) = false) (hform : methodCallForm (args.length + ([] : List Keyword).length) (backTo pos (starEach args X.env)) [] = false)
    (h : ∀ q s', H q = none → Inv X pins σ (upd H q (.met g x)) s' → wpAny (model X.prog X.w) X.A (callWith pos (.ref q) [] (backTo pos (starEach args X.env)) []) Q X.xe s') :
    _root_.PySem.wpAt (model X.prog X.w) X.A (.func body X.env) (eval (.Call (.Attribute (.Call (.Name "super" p0) [] [] p1) name apos) args [] pos) X.env) Q X.xe s := by
  have hke : backToKw pos (keywordEach [] X.env) = [] := rfl
  have hpos : methodCallPos false (.Call (.Name "super" p0) [] [] p1) X.env apos pos = pure pos := rfl
  have hcal : ∀ ov, calleeOf false (.Call (.Name "super" p0) [] [] p1) X.env ov name = (getAttr ov name true >>= fun v => pure (v, [])) := fun _ => rfl
  obtain ⟨oc, od, osl, efn⟩ := S.fn
  obtain ⟨ccl, cdd, vs, ccs, file, tf, ecode, evs, efile⟩ := S.code
  obtain ⟨cl, cld, csl, ecell⟩ := S.cell
  obtain ⟨cdD, ecls⟩ := S.cls
  have KX := I.kIn
  obtain ⟨oD, hD1, hD2⟩ : ∃ oD, s.heap.get? D = some oD ∧ oD.data = .cls cdD := by
    unfold PySem.W.clsIn at ecls
    split at ecls
    · rename_i c d cd' sl ho
      cases ecls
      exact ⟨_, KX _ _ ho, rfl⟩
    · cases ecls
  obtain ⟨mA, J, _⟩ := ins_get I.hok hx
  obtain ⟨odx, J, _⟩ := J.look
  obtain ⟨m, hns, hl⟩ := I.loc
  obtain ⟨u, ru, lk⟩ := hl 0 ar.arg (.ref x) hN h0 (.inl hka)
  obtain rfl : u = Value.ref x := ru
  have hself : m ar.arg = some (.ref x) := by
    rcases lk with ⟨_, z⟩ | ⟨z, _⟩
    · exact z
    · rcases z with z | z <;> (rw [hka] at z; cases z)
  obtain ⟨mb, hb1, hb2⟩ := I.mod.blt
  rw [arm_eval_Call, hke]
  refine _root_.PySem.wpAt_bind (PySem.ks_wpAt_mono (Q := fun ov s1 => ov = .ref s.heap.objs.size ∧ ∃ h', s1 = { s with heap := h' } ∧ h'.get? s.heap.objs.size = some { cls := .type "super", dict := none, data := .fields #[.ref D, .ref x, .ref C], slots := #[] } ∧ ∀ y o, s.heap.get? y = some o → h'.get? y = some o)
    (PySem.ks_wpAt_super_base hks hkc hn hfu (KX _ _ efn) rfl hp hco (KX _ _ ecode) rfl evs efile S.top ?_) (fun ov s1 h1 => _root_.PySem.wpAt_of_wpAny ?_) fun _ _ z => z)
  · refine PySem.W.ks_loadName_global I.ok.kind hks (Calls.loadGlobal_builtin (by rw [I.ok.glob]; exact I.mod.glob.keeps I.bk) S.sup (by rw [I.ok.blt]; exact hb1.keeps I.bk) ((hb2 "super" (by decide)).trans (by decide +kernel)) ⟨rfl, ?_⟩)
    refine wpAny_loadName_free I.ok.kind hkc hcl ⟨_, KX _ _ ecell, rfl⟩ ?_
    refine wpAny_loadName_local I.ok.kind hka hns hself ?_
    obtain ⟨hh, gg, dd, tt, oo⟩ := s
    refine PySem.ks_wpAny_isType_cls hD1 hD2 ⟨rfl, ?_⟩
    refine PySem.ks_wpAny_call_super hD1 hD2 J.at_ J.cls (fun c e => ?_) (PySem.W.looks_mroIn KX hC.sub) (fun h' e k => ⟨rfl, h', rfl, e, k⟩)
    have := J.no
    unfold PySem.W.notCls at this
    rw [e] at this
    exact Bool.noConfusion this
  · obtain ⟨rfl, h', rfl, eso, k⟩ := h1
    have I1 : Inv X pins σ H { s with heap := h' } := I.kept (t' := s.toks) k
    refine wpAny_bind (wpAny_standAt ?_)
    unfold methodCall
    rw [hform, hpos, hcal]
    have KX1 := I1.kIn
    obtain ⟨mA1, J1, _⟩ := ins_get I1.hok hx
    obtain ⟨odx1, J1, _⟩ := J1.look
    obtain ⟨of, hof, hofc⟩ : ∃ of, h'.get? g = some of ∧ of.cls = .type "function" := by
      have ht' : (X.K.lookup g).map (·.cls) = some (.type "function") := hC.ty
      cases z : X.K.lookup g with
      | none => rw [z] at ht'; cases ht'
      | some of => rw [z] at ht'; exact ⟨of, KX1 _ _ z, Option.some.inj ht'⟩
    cases hc : PySem.W.clsIn X.K C with
    | none => have := hC.at_; unfold PySem.W.ks_superIn at this; rw [hc] at this; cases this
    | some cd =>
      have hm := hC.at_
      unfold PySem.W.ks_superIn at hm
      rw [hc] at hm
      obtain ⟨hh, gg, dd, tt, oo⟩ := s
      refine wpAny_bind (wpAny_holding (wpAny_bind (getAttr_super eso (PySem.W.looks_opaque KX1 S.opq) (l₀ := cd.mro) ?_ rfl KX1 hm hof hofc (PySem.W.ks_ne KX1 J1 hc) hn (wpAny_pure ?_))))
      · exact fun A Q E s k q => wpAny_bind ((PySem.W.looks_clsIn KX1 hc) A _ E s k (wpAny_pure q))
      · refine wpAny_bind (wpAny_pure ?_)
        refine h h'.objs.size _ (I1.hok.fresh (Nat.le_refl _)) ?_
        exact I1.laid (t' := tt + 1) (a := h'.objs.size) (o := .met g x) (fun b u z => Heap.get?_push_of_some _ z) (Nat.le_refl _)
          (show (h'.push (PySem.W.methodObj (.ref g) (.ref x))).get? h'.objs.size = some (PySem.W.methodObj (.ref g) (.ref x)) from Heap.get?_push_size h' rfl)
end
end VLN
namespace VLN
open PySem PySem.Calls PyProof.Rows PySem.W
theorem callWith_SM {M : Model} {A : Around} {E : Value → Shared → Prop} {s : Shared} {K : Frag} {env : Env} {pos : Pos} {first : List Value} {Q : Value → Shared → Prop} {e : PySem.Expr} {rest : List PySem.Expr} {q g : Addr} {self : Value} (hf : fnIn K g = true)
    (h : wpAny M A (spliced (backTo pos (starEach (e :: rest) env))) (fun vs s₁ => MethP K q g self s₁.heap ∧ wpAny M A (call (.ref q) (first ++ vs)) Q E s₁) E s)
    (he : starEach (e :: rest) env = (false, eval e env) :: starEach rest env) (hst : (backTo pos (starEach rest env)).any (·.1) = true) : wpAny M A (callWith pos (.ref q) first (backTo pos (starEach (e :: rest) env)) []) Q E s := by
  rw [he] at h ⊢
  exact ks_call (by show (false || (backTo pos (starEach rest env)).any (·.1)) = true; rw [hst]; rfl) (keeps_M hf) (evalArgs_plain h)
end VLN
namespace VL
open PySem PySem.Spec PyProof.Rows L2
/-- super().__init__(args): self stands alone in the slot 0; no exception -/
def wSuper (TI : FWI) (wa : TVA) : TVS := fun ρ S Q E => wa ρ S (fun ds ρ1 S1 => ∃ cl fs, ρ1[0]? = some (.o (.obj cl fs)) ∧ TI cl fs ds S1 (fun fs' S2 => Q .nx (ρ1.set 0 (.o (.obj cl fs'))) S2) (fun _ _ => False)) E
section
variable {c : Cf} {F : Fr} {g : Gs} {σ : St} {H : Hp} {ρ : En} {S : Sto} {cl : String} {fs : List (String × D)} {p : Addr} {ds : List D} {vs : List V} {w : FWI} {Qv : List (String × D) → Sto → Prop} {Q : VK} {E : XK}
theorem spI_own (r : R c F g σ H ρ S) (e0 : ρ[0]? = some (Sl.o (.obj cl fs))) (h0 : σ[0]? = some (some (V.ref p))) (rp : Reps c g.sm (MU F g σ ρ) H ds vs) (hw : w cl fs ds S Qv (fun _ _ => False))
    (hq : ∀ H' g' S' fs', R c F g' σ H' (ρ.set 0 (.o (.obj cl fs'))) S' → Stp F g σ ρ H g' σ (ρ.set 0 (.o (.obj cl fs'))) H' → Qv fs' S' → Q .non H') : spI c w (V.ref p :: vs) H Q E := by
  have em : MU F g σ ρ = fun a => MoOf F g σ ρ a ∨ a ∈ g.sm := mu_mo
  obtain ⟨a, ea, ow⟩ := r.own 0 _ e0
  rw [h0] at ea
  cases ea
  simp only [Own] at ow
  obtain ⟨dx, vfs, hp, gi, rf⟩ := ow
  have mp : MoOf F g σ ρ p := .inr (.inr ⟨0, _, e0, h0⟩)
  obtain ⟨s1, s2, s3, s4⟩ := r.sep 0 _ p e0 h0
  have hi : 0 < ρ.length := (List.getElem?_eq_some_iff.mp e0).1
  refine ⟨MoOf F g σ ρ, g.sm, p, dx, cl, fs, vfs, vs, ds, S, Qv, fun _ _ => False, rfl, hp, gi, by rw [← em]; exact rf, mp, r.mo_there, r.smn, r.sm_mo, by rw [← em]; exact r.sto, by rw [← em]; exact rp, hw, fun H' sm' S' fs' po ow' q => ?_, fun x cls dx H' sm' S' _ _ _ z => z.elim⟩
  obtain ⟨r2, st, em3⟩ := r.after (ρ' := ρ.set 0 (.o (.obj cl fs'))) po (fun a h => by rw [h]; exact ⟨mp, s1⟩) (by simp) (fun i d h => by
      by_cases hj : 0 = i
      · subst hj
        rw [List.getElem?_set_self hi] at h; cases h
      · rw [List.getElem?_set_ne hj] at h; exact h) (fun i d h => by
      by_cases hj : 0 = i
      · subst hj
        rw [List.getElem?_set_self hi] at h
        cases h
        refine ⟨_, e0, fun a ha => .inr ?_⟩
        rw [h0] at ha
        cases ha
        exact ow'
      · rw [List.getElem?_set_ne hj] at h
        exact ⟨d, h, fun a ha => .inl ⟨fun z => hj (r.inj 0 i _ d p e0 h h0 (by rw [← z]; exact ha)), rfl⟩⟩) (fun i d h => by
      by_cases hj : 0 = i
      · subst hj
        exact ⟨_, List.getElem?_set_self hi⟩
      · exact ⟨d, by rw [List.getElem?_set_ne hj]; exact h⟩) (fun a h => by rw [h]; exact ow'.there)
  exact hq H' ⟨sm', g.tm⟩ S' fs' r2 st q
end
theorem startF_start {N : List Str} {vs : List V} (h : vs.length + 1 ≤ N.length) : NdefX.startF N vs [none] = L2.start N vs := by
  unfold NdefX.startF L2.start
  congr 1
  show [none] ++ List.replicate (N.length - vs.length - 1) none = _
  have e : N.length - vs.length = (N.length - vs.length - 1) + 1 := by omega
  rw [e, List.replicate_succ]
  rfl
/-- an __init__ with super() in it -/
structure FunS (K : PySem.W.Frag) (x qual : Str) (st : Stmt) (f cda cc : Addr) (fd : FuncData) : Prop where
  ex : ∃ (oc : Value) (od : Option Addr) (doc pm ct : Value) (osl : Array (Option Value)),
    fd = PySem.W.fnX x qual (defArgs st) (defBody st) (defScope st) [("__class__", cc)] .none .none doc pm none (.ref cda) ct ∧ K.lookup f = some ⟨oc, od, .func fd, osl⟩ ∧ PySem.W.codeIn K (.ref cda) qual = true
abbrev nfS (x qual : Str) (st : Stmt) (cda cc : Addr) : NdefX.NF := ⟨x, qual, defArgs st, defBody st, defScope st, [("__class__", cc)], cda⟩
section
variable (P : Program) (w : World) (K : PySem.W.Frag) (mg : Str → Option Value) (base : Heap) (c : Cf)
abbrev YofS (N : List Str) (x qual : Str) (st : Stmt) (cda cc f : Addr) (A : Around) (outer : List Env) (s : Shared) (H : Hp) (E : XK) (F : Fr) : VC :=
  ⟨NdefX.ncx (L2.CX P w) P w K mg base N (nfS x qual st cda cc) f A outer s H E, c, F, fun cls d _ H' => E cls d H'⟩
/-- the parts of its body -/
structure BodyS (fa : String → Addr) (k : Nat) (T : Tab) (TI : String → FWI) (N : List Str) (x qual : Str) (st : Stmt) (cda cc f : Addr) (p0 p1 apos pos epos : Pos) (e1 : Expr) (es : List Expr) (rest : List Stmt) (wa : TVA) (wb : TVS) : Prop where
  body : defBody st = .Expr (.Call (.Attribute (.Call (.Name "super" p0) [] [] p1) "__init__" apos) (e1 :: es) [] pos) epos :: rest
  ha : ∀ (A : Around) (outer : List Env) (s : Shared) (H : Hp) (E : XK) (F : Fr), Gd (YofS P w K mg base c N x qual st cda cc f A outer s H E F) fa k T TI → VA (YofS P w K mg base c N x qual st cda cc f A outer s H E F) (e1 :: es) wa
  hb : ∀ (A : Around) (outer : List Env) (s : Shared) (H : Hp) (E : XK) (F : Fr), Gd (YofS P w K mg base c N x qual st cda cc f A outer s H E F) fa k T TI → VSs (YofS P w K mg base c N x qual st cda cc f A outer s H E F) rest wb
  first : ∀ env, starEach (e1 :: es) env = (false, eval e1 env) :: starEach es env
  star : ∀ env, (backTo pos (starEach es env)).any (·.1) = true
end
/-- how the class of self finds the __init__ above -/
def SupT (c : Cf) (fa : String → Addr) (D : Addr) (tb : String → Option String) : Prop := ∀ cl f, tb cl = some f → VLN.SupC c.K (c.ca cl) D "__init__" (fa f)
def wSuperT (TI : String → FWI) (tb : String → Option String) (wa : TVA) : TVS := fun ρ S Q E => ∃ cl fs f, ρ[0]? = some (.o (.obj cl fs)) ∧ tb cl = some f ∧ wa ρ S (fun ds ρ1 S1 => ∃ fs1, ρ1[0]? = some (.o (.obj cl fs1)) ∧ TI f cl fs1 ds S1 (fun fs' S2 => Q .nx (ρ1.set 0 (.o (.obj cl fs'))) S2) (fun _ _ => False)) E
section
variable {P : Program} {w : World} {K : PySem.W.Frag} {mg : Str → Option Value} {base : Heap} {c : Cf} {fa : String → Addr} {k : Nat} {T : Tab} {TI : String → FWI} {N ps : List Str} {pv x qual : Str} {st : Stmt} {f cda cc Dd : Addr} {fd : FuncData} {wa : TVA} {wb : TVS} {tb : String → Option String}
  {p0 p1 apos pos epos : Pos} {e1 : Expr} {es : List Expr} {rest : List Stmt}
theorem sup_run (S : NdefX.NScope N (ps ++ [pv]) ["__class__"] (defScope st)) (hks : (defScope st).names.lookup ("super" : Str) = some .globalImplicit) {ar : Arg} (hp : (fd.params.posonlyargs ++ fd.params.args).head? = some ar) (har : ps.head? = some ar.arg)
    (Sf : VLN.SupF P K mg f cda cc Dd fd) (St : SupT c fa Dd tb) (B : Tb P w K mg base c fa k T TI) (Bs : BodyS P w K mg base c fa k T TI N x qual st cda cc f p0 p1 apos pos epos e1 es rest wa wb)
    {A : Around} {outer : List Env} {s s1 : Shared} {H : Hp} {vs : List V} {Q : VK} {E : XK} (hr : Room (k + 3) (A.deeper (NdefX.envF (nfS x qual st cda cc) f s.heap.objs.size))) (hvl : vs.length = ps.length + 1)
    (I : Inv (NdefX.ncx (L2.CX P w) P w K mg base N (nfS x qual st cda cc) f A outer s H E) [] (L2.start N vs) H s1)
    (h : spI c (runI N.length (ps.length + 1) (wSeq (wSuperT TI tb wa) wb)) vs H Q E) :
    _root_.PySem.wpAt (model P w) (A.deeper (NdefX.envF (nfS x qual st cda cc) f s.heap.objs.size)) (.func (defBody st) (NdefX.envF (nfS x qual st cda cc) f s.heap.objs.size)) (execs (defBody st) (NdefX.envF (nfS x qual st cda cc) f s.heap.objs.size))
      (SP (NdefX.ncx (L2.CX P w) P w K mg base N (nfS x qual st cda cc) f A outer s H E) [] { nx := fun _ H' => Q .non H', rt := Q }) (NdefX.ncx (L2.CX P w) P w K mg base N (nfS x qual st cda cc) f A outer s H E).xe s1 := by
  obtain ⟨Mo, sm, p, dx, cl, fs, vfs, as, ds, S', Qv, Ev, ev, hpo, gi, rf, mp, h1, h2, h3, h4, h5, ⟨hn, hw⟩, hq, he⟩ := h
  subst ev
  have hal := h5.length
  have hN2 : ps.length + 2 ≤ N.length := by
    have := congrArg List.length S.pre
    rw [List.length_take] at this
    simp only [List.length_append, List.length_cons, List.length_nil] at this
    omega
  have ow : Own c sm (fun a => Mo a ∨ a ∈ sm) H p (.obj cl fs) := by
    simp only [Own]; exact ⟨dx, vfs, hpo, gi, rf⟩
  have r0 := R.startI (N := N) mp ow h1 h2 h3 h4 h5 (by omega)
  have G : Gd (YofS P w K mg base c N x qual st cda cc f A outer s H E (FrI0 H Mo sm p)) fa k T TI := ⟨B.fn, B.ff, B.fi, hr, takes_of rfl rfl rfl rfl, rfl, B.hK⟩
  have ec : EC (YofS P w K mg base c N x qual st cda cc f A outer s H E (FrI0 H Mo sm p)) ⟨sm, []⟩ (L2.start N (.ref p :: as)) (.o (.obj cl fs) :: startE (N.length - 1) ds) H (fun x ρ S' => (∃ d, ρ[0]? = some (.o d)) ∧ Ev x S') := by
    intro ex cls dx' σ' H' g' ρ' S' r st xi ⟨⟨d', e0⟩, hev⟩
    obtain ⟨po, e, ow'⟩ := r.endI mp e0
    exact he ex cls dx' H' g'.sm S' po ow'.there (xi.ext e) hev
  have hNar : N[0]? = some ar.arg := by
    have e1 : (N.take ((ps ++ [pv]).length + [("__class__" : Str)].length))[0]? = some ar.arg := by
      rw [S.pre]
      cases ps with
      | nil => cases har
      | cons a r => simpa using har
    rw [List.getElem?_take_of_lt (by simp)] at e1
    exact e1
  have hka : (defScope st).names.lookup ar.arg = some .local := by
    refine S.par _ ?_
    cases ps with
    | nil => cases har
    | cons a r => simp at har; simp [har]
  have hkc : (defScope st).names.lookup ("__class__" : Str) = some .free := S.frk _ (by simp)
  have at0 : (L2.start N (.ref p :: as))[0]? = some (some (V.ref p)) := rfl
  rw [Bs.body]
  refine PySem.ks_wpAt_execs_cons (PySem.ks_wpAt_Expr_any (hi := by unfold interactive; rw [show (NdefX.envF (nfS x qual st cda cc) f s.heap.objs.size).scope.kind = .function from S.kind]; rfl) (hs := by rfl) ?_)
  refine PySem.ks_wpAt_mono (Q := fun _ s2 => ∃ H2 g2 ρ2 S2, Inv (NdefX.ncx (L2.CX P w) P w K mg base N (nfS x qual st cda cc) f A outer s H E) [] (L2.start N (.ref p :: as)) H2 s2 ∧ R c (FrI0 H Mo sm p) g2 (L2.start N (.ref p :: as)) H2 ρ2 S2 ∧ Stp (FrI0 H Mo sm p) ⟨sm, []⟩ (L2.start N (.ref p :: as)) (.o (.obj cl fs) :: startE (N.length - 1) ds) H g2 (L2.start N (.ref p :: as)) ρ2 H2 ∧
      wb ρ2 S2 (fun o ρ S' => (∃ fs', ρ[0]? = some (.o (.obj cl fs')) ∧ Qv fs' S') ∧ match o with
        | .nx => True
        | .rt .non => True
        | _ => False) (fun x ρ S' => (∃ d, ρ[0]? = some (.o d)) ∧ Ev x S')) ?_ (fun _ s2 ⟨H2, g2, ρ2, S2, I2, r2, st2, q2⟩ => ?_) fun _ _ z => z
  · obtain ⟨cl', fs0, f2, e0, hf2, hw⟩ := hw
    have e0 : some (Sl.o (.obj cl fs)) = some (Sl.o (.obj cl' fs0)) := e0
    cases e0
    have hC := St cl f2 hf2
    rw [B.hK] at hC
    refine VLN.sup_at (X := NdefX.ncx (L2.CX P w) P w K mg base N (nfS x qual st cda cc) f A outer s H E) I Sf rfl rfl rfl hks hkc hp hNar hka at0 hpo hC (by decide) (by
        show methodCallForm _ (backTo pos (starEach (e1 :: es) _)) [] = false
        obtain ⟨b, hb1, hb2⟩ := List.any_eq_true.mp (Bs.star (NdefX.envF (nfS x qual st cda cc) f s.heap.objs.size))
        have : (backTo pos (starEach (e1 :: es) (NdefX.envF (nfS x qual st cda cc) f s.heap.objs.size))).all (!·.1) = false := by
          rw [List.all_eq_false]
          rw [Bs.first]
          exact ⟨b, List.mem_cons_of_mem _ hb1, by simp [hb2]⟩
        unfold methodCallForm
        show ((backTo pos (starEach (e1 :: es) (NdefX.envF (nfS x qual st cda cc) f s.heap.objs.size))).all (!·.1) && _ && _) = false
        rw [this]
        rfl) fun q s2 hq0 I2 => ?_
    have gr := grow_upd (o := .met (fa f2) p) hq0
    have r1 := r0.grow gr
    refine VLN.callWith_SM (K := K) (g := fa f2) (self := .ref p) hC.fi (thn ((Bs.ha A outer s H E (FrI0 H Mo sm p) G).run pos [] s2 _ _ (fun vs H1 => ∃ g1 ρ1 S1 ds1, R c (FrI0 H Mo sm p) g1 (L2.start N (.ref p :: as)) H1 ρ1 S1 ∧ Stp (FrI0 H Mo sm p) ⟨sm, []⟩ (L2.start N (.ref p :: as)) (.o (.obj cl fs) :: startE (N.length - 1) ds) (upd H q (.met (fa f2) p)) g1 (L2.start N (.ref p :: as)) ρ1 H1 ∧ Reps c g1.sm (MU (FrI0 H Mo sm p) g1 (L2.start N (.ref p :: as)) ρ1) H1 ds1 vs ∧
        ∃ fs1, ρ1[0]? = some (.o (.obj cl fs1)) ∧ TI f2 cl fs1 ds1 S1 (fun fs' S2 => wb (ρ1.set 0 (.o (.obj cl fs'))) S2 (fun o ρ S' => (∃ fs', ρ[0]? = some (.o (.obj cl fs')) ∧ Qv fs' S') ∧ match o with
          | .nx => True
          | .rt .non => True
          | _ => False) (fun x ρ S' => (∃ d, ρ[0]? = some (.o d)) ∧ Ev x S')) (fun _ _ => False)) I2
      ⟨⟨sm, []⟩, _, S', _, _, r1, hw, ec.step (.grow gr), fun v H1 g1 ρ1 S1 d r1 st1 rp1 q1 => ⟨g1, ρ1, S1, d, r1, st1, rp1, q1⟩⟩) fun us s3 ⟨ws, H3, I3, rv, g3, ρ3, S3, ds3, r3, st3, rp3, fs3, e3, q3⟩ => ?_) (Bs.first _) (Bs.star _)
    have hmet : H3 q = some (.met (fa f2) p) := st3.ext.keep q _ upd_same (r0.fresh hq0)
    refine ⟨met_P I3 hmet, wpAny_mono (wpAny_call (PySem.W.method_call (met_P I3 hmet).1 (run_fnV (us := Value.ref p :: us) (vs := V.ref p :: ws) (Q := fun v H' => ∃ g2 ρ2 S2, R c (FrI0 H Mo sm p) g2 (L2.start N (.ref p :: as)) H' ρ2 S2 ∧ Stp (FrI0 H Mo sm p) ⟨sm, []⟩ (L2.start N (.ref p :: as)) (.o (.obj cl fs) :: startE (N.length - 1) ds) H g2 (L2.start N (.ref p :: as)) ρ2 H' ∧
      wb ρ2 S2 (fun o ρ S' => (∃ fs', ρ[0]? = some (.o (.obj cl fs')) ∧ Qv fs' S') ∧ match o with
        | .nx => True
        | .rt .non => True
        | _ => False) (fun x ρ S' => (∃ d, ρ[0]? = some (.o d)) ∧ Ev x S')) (B.fi f2) (hr.mono (by omega)) G.tk I3 (.cons rfl rv) ?_))) (fun v s' ⟨z, H', I', rz, g2, ρ2, S2, h4, h5, h6⟩ => ⟨H', g2, ρ2, S2, I', h4, h5, h6⟩) fun _ _ z => z⟩
    refine spI_own r3 e3 at0 rp3 q3 fun H' g' S'' fs' r' st' q' => ⟨g', _, S'', r', ((Stp.grow gr).trans st3).trans st', q'⟩
  · refine _root_.PySem.wpAt_of_wpAny ?_
    refine (Bs.hb A outer s H E (FrI0 H Mo sm p) G).run [] s2 _ H2 _ I2 ⟨g2, ρ2, S2, _, _, r2, q2, ec.step st2, ?_⟩
    refine ⟨fun σ' H' g' ρ' S' r st q => ?_, fun σ' H' g' ρ' S' r st q => q.2.elim, fun σ' H' g' ρ' S' r st q => q.2.elim, fun v σ' H' g' ρ' S' d r st rp q => ?_⟩
    · obtain ⟨⟨fs', e0, q⟩, _⟩ := q
      obtain ⟨po, e, ow'⟩ := r.endI mp e0
      exact hq H' g'.sm S' fs' po ow' q
    · obtain ⟨⟨fs', e0, q⟩, q2⟩ := q
      obtain ⟨po, e, ow'⟩ := r.endI mp e0
      cases d <;> first
        | exact q2.elim
        | (simp only [Rep] at rp
           subst rp
           exact hq H' g'.sm S' fs' po ow' q)
/-- __init__(self, a, .., *v) that begins with super().__init__(..) -/
theorem fn_initSup (F : FunS K x qual st f cda cc fd) (S : NdefX.NScope N (ps ++ [pv]) ["__class__"] (defScope st)) (hks : (defScope st).names.lookup ("super" : Str) = some .globalImplicit) {ar : Arg} (hp : (fd.params.posonlyargs ++ fd.params.args).head? = some ar) (har : ps.head? = some ar.arg)
    (Sf : VLN.SupF P K mg f cda cc Dd fd) (St : SupT c fa Dd tb) (hbd : ∀ us rest : List Value, us.length = ps.length → bindArgs fd ⟨us ++ rest, []⟩ = (newTuple rest >>= fun t => pure (ps.zip us ++ [(pv, t)])))
    (B : Tb P w K mg base c fa k T TI) (Bs : BodyS P w K mg base c fa k T TI N x qual st cda cc f p0 p1 apos pos epos e1 es rest wa wb) :
    FnR P w K mg base (L2.CX P w) (k + 4) f (spI c (runIS N.length ps.length (wSeq (wSuperT TI tb wa) wb))) := by
  obtain ⟨oc, od, doc, pm, ct, osl, efd, lk, hcd⟩ := F.ex
  intro A outer s H us vs Q E hr e0 r hsp
  obtain ⟨ws, rst, ev, hl, hz, hq⟩ := spI_star hsp
  subst ev
  obtain ⟨u1, u2, eu, r1, r2⟩ := StX.vals_split r
  subst eu
  have KX : K.In s.heap := e0.mod.kin.keeps fun b o e => (e0.bs b o e).1
  have hn : H s.heap.objs.size = Option.none := e0.hok.fresh (Nat.le_refl _)
  have hl1 : u1.length = ps.length := by rw [← r1.length]; exact hl
  have hl2 : u2.length ≤ sizeLine := by rw [← r2.length]; exact hz
  have hbd' := hbd u1 u2 hl1
  have Sf' := Sf
  have hp' := hp
  subst efd
  refine codeAny_call_function hr.depth (KX _ _ lk) rfl S.co S.gen rfl (PySem.W.codeRec_of KX hcd) ?_
  rw [hbd']
  refine wpAny_bind (wpAny_newTuple (wpAny_pure ?_) hl2)
  have new : ObjOk P w (upd H s.heap.objs.size (.tup rst)) (s.heap.push ({ cls := .type "tuple", data := .seq u2.toArray } : Obj)) s.heap.objs.size (.tup rst) := ⟨hz, u2, r2, ⟨_, Heap.get?_push_size _ rfl, rfl, _, rfl⟩⟩
  have un := StX.un_laid (fs := frs outer) (s := s) (o := ({ cls := .type "tuple", data := .seq u2.toArray } : Obj)) (u := .tup rst) hn
  have e2 := StX.env0_laid e0 new
  have r3 : Vals (ws ++ [V.ref s.heap.objs.size]) (u1 ++ [Value.ref s.heap.objs.size]) := r1.append (.cons rfl .nil)
  have hl3 : (ws ++ [V.ref s.heap.objs.size]).length = (ps ++ [pv]).length := by rw [List.length_append, List.length_append, hl] <;> rfl
  have ez : (ps ++ [pv]).zip (u1 ++ [Value.ref s.heap.objs.size]) = ps.zip u1 ++ [(pv, Value.ref s.heap.objs.size)] := by rw [List.zip_append hl1.symm]; rfl
  have hsp2 := hq s.heap.objs.size hn
  generalize hs2 : ({ s with heap := s.heap.push ({ cls := .type "tuple", data := .seq u2.toArray } : Obj) } : Shared) = s2 at e2
  have ho2 : s2.os = s.os := by rw [← hs2]
  have eh2 : s2.heap = s.heap.push ({ cls := .type "tuple", data := .seq u2.toArray } : Obj) := by rw [← hs2]
  rw [← ez]
  have lim : s2.heap.NoLimit := e2.mod.nolimit.keeps fun b o e => (e2.bs b o e).1
  have CH : NdefX.CellsAt [("__class__", cc)] ["__class__"] [none] s2.heap (upd H s.heap.objs.size (.tup rst)) := by
    obtain ⟨cl0, cld, csl, ecell⟩ := Sf'.cell
    have hb1 := e2.mod.kin _ _ ecell
    obtain ⟨hb2, hb3⟩ := e2.bs _ _ hb1
    have one : ∀ {y : Str} {c' : Addr}, ([("__class__", cc)] : List (Str × Addr)).lookup y = some c' → c' = cc ∧ y = "__class__" := fun {y c'} e => by
      rw [List.lookup_cons] at e
      split at e
      · rename_i hb
        cases e
        exact ⟨rfl, by simpa using hb⟩
      · cases e
    refine ⟨rfl, fun y c' e => ?_, fun x y c' a b => by rw [(one a).2, (one b).2], fun i y e => ?_⟩
    · rw [(one e).1]
      exact ⟨hb3, _, _, hb2, rfl⟩
    · cases i with
      | zero =>
        simp at e
        subst e
        exact ⟨cc, by simp [List.lookup], fun v h => by cases h⟩
      | succ i => simp at e
  refine wpAny_newFunctionEnv S.nocell (fun ⟨n, _⟩ hy => S.par n (List.of_mem_zip hy).1) (fun h₁ hns hsb => ⟨lim.fresh _ hsb, ?_⟩) S.kind
  have kp : ∀ b o, s2.heap.get? b = some o → h₁.get? b = some o := fun b o e => hsb.extBut b o (Nat.ne_of_lt (Heap.lt_size e)) (Heap.get?_push_of_some _ e)
  have hN2 : ps.length + 2 ≤ N.length := by
    have := congrArg List.length S.pre
    rw [List.length_take] at this
    simp only [List.length_append, List.length_cons, List.length_nil] at this
    omega
  have I := NdefX.inv_startN (CX := L2.CX P w) (E := E) (N := N) (F := nfS x qual st cda cc) (f := f) (ws := [none]) (tk := s2.toks + ((ps ++ [pv]).zip (u1 ++ [Value.ref s.heap.objs.size])).length) S hr.hd e2 hl3 r3 CH hns kp
  have hws : (ws ++ [V.ref s.heap.objs.size]).length + 1 ≤ N.length := by rw [hl3, List.length_append, List.length_singleton]; omega
  rw [startF_start hws] at I
  have hr' : Room (k + 3) (A.deeper (NdefX.envF (nfS x qual st cda cc) f s2.heap.objs.size)) := hr.deeper _
  have hx : ∀ e s', L2.CX P w outer (upd H s.heap.objs.size (.tup rst)) s2 E e s' → L2.CX P w outer H s E e s' := fun e s' z => StX.cxUp outer s H s2 _ E e s' (by rw [eh2]; exact un) (fun b o q => by rw [eh2]; exact Heap.get?_push_of_some _ q) (by rw [← hs2]) z
  refine PySem.ks_codeAny_funcAt (PySem.ks_wpAt_mono (sup_run S hks hp har Sf' St B Bs (A := A) (outer := outer) (s := s2) (Q := Q) (E := E) hr' (by rw [hl3]; simp) I hsp2) (fun fl s' hs => ?_) fun e s' hs => ?_)
  · have fin : ∀ {σ' : L2.St} {H' : Hp} {v' : V} {u' : Value}, Inv (NdefX.ncx (L2.CX P w) P w K mg base N (nfS x qual st cda cc) f A outer s2 (upd H s.heap.objs.size (.tup rst)) E) [] σ' H' s' → RelV v' u' → Q v' H' → CE outer P w H s Q u' s' :=
      fun {σ' H' v' u'} J rv' q => ⟨v', H', J.os.trans ho2, J.bare, (by rw [← eh2] at un; exact un.trans J.base), J.hok, rv', q⟩
    cases fl with
    | ret u' =>
      obtain ⟨v', σ', H', J, rv', q⟩ := hs
      exact fin J rv' q
    | next =>
      obtain ⟨σ', H', J, q⟩ := hs
      exact fin (v' := V.non) (u' := Value.none) J rfl q
    | brk =>
      obtain ⟨_, _, _, q⟩ := hs
      exact False.elim q
    | cont =>
      obtain ⟨_, _, _, q⟩ := hs
      exact False.elim q
  · exact wpAny_mono hs (fun _ s'' z => hx e s'' z) fun e' s'' z => hx e' s'' z
end
end VL

set_option Elab.async false
set_option linter.all false
set_option autoImplicit false
set_option maxRecDepth 100000
/-! VLKw: max(l, default=d). -/
namespace VL
open PySem PySem.Spec PyProof.Rows L2
theorem hold_ints {h : Heap} : ∀ {ns : List Int} {its : List Value}, Vals (ns.map V.int) its → PySem.W.HoldAll h its ns
  | [], _, .nil => ⟨_, .nil⟩
  | n :: ns, _, .cons r t => by
    obtain ⟨tk, e⟩ := r
    obtain ⟨as, q⟩ := hold_ints t
    subst e
    exact ⟨_, .cons (.int n tk) q⟩
def maxD (ns : List Int) (d : Int) : Int := match ns with
  | [] => d
  | x :: xs => xs.foldl (fun a y => if a < y then y else a) x
def rMaxC (K : PySem.W.Frag) : List V → List V → Hp → VK → Prop := fun vs zs H Q => ∃ (a : Addr) (ns : List Int) (j : Int), vs = [.ref a] ∧ zs = [.int j] ∧ SqL K H a (ns.map V.int) ∧ Q (.int (maxD ns j)) H
theorem maxOf_int (x : Int) (xs : List Int) : PySem.W.maxOf x xs = maxD (x :: xs) 0 := by
  unfold PySem.W.maxOf maxD
  congr 1
  funext a y
  show (if decide (a < y) = true then y else a) = _
  simp
theorem cr_maxC {X : Cx} (hc : X.calm = true) (hu : X.A.units + 1 < cLine) : CallRK X (.builtin "max") [Str.ofString "default"] (rMaxC X.K) := by
  intro pins s σ H xs zs us ws Q I r rz h
  obtain ⟨a, ns, j, rfl, rfl, hs, q⟩ := h
  obtain ⟨u, rfl, ru⟩ := r.one
  obtain ⟨z, rfl, rz1⟩ := rz.one
  cases (show u = Value.ref a from ru)
  obtain ⟨its, rv, hl, hz⟩ := I.list hs
  refine PySem.W.max_list_datum_default (α := Int) (xs := ns) (I.ok.hd hc) hl.isList (by rw [List.toList_toArray]; exact hold_ints rv) hu (fun e h' tk k => ?_) (fun y ys i v h' tk e hi hv k => ?_)
  · subst e
    exact ⟨.int j, H, I.kept (t' := tk) k, rz1, q⟩
  · subst e
    obtain ⟨as, rd⟩ := hv
    have ev : ∃ t, v = .int (PySem.W.maxOf y ys) t := by
      cases rd with
      | int i t => exact ⟨t, rfl⟩
    rw [maxOf_int] at ev
    exact ⟨.int (maxD (y :: ys) j), H, I.kept (t' := tk) k, ev, q⟩
def wMaxC (j : Int) (w : TV) : TV := fun ρ S Q E => w ρ S (fun d ρ1 S1 => ∃ ns : List Int, d = .lst (ns.map D.int) ∧ Q (.int (maxD ns j)) ρ1 S1) E
section
variable {Y : VC} {e : Expr} {w : TV} {p pos kpos cpos : Pos} {j : Int} {ck : Nat}
theorem ve_maxC (hc : Y.X.calm = true) (hu : Y.X.A.units + 1 < cLine) (hg : Gl Y.X "max") (hm : Y.X.mg "max" = none) (h : VE Y e w) (hst : starEach [e] Y.X.env = (false, eval e Y.X.env) :: starEach [] Y.X.env := by rfl) :
    VE Y (.Call (.Name "max" p) [e] [⟨some "default", .Constant (.int j) ck cpos, kpos⟩] pos) (wMaxC j w) :=
  PE.imp (pe_callBK (cr_maxC hc hu) hg hm PyProof.Rows.boot_max (pa_cons h pa_nil hst) (pk_cons pe_int pk_nil) (by decide) (by decide) (by rw [hst]; rfl) (by rw [hst]; rfl)) fun σ H Q ⟨g, ρ, S, Qv, Ev, r, hw, ec, hq⟩ =>
    ⟨g, ρ, S, _, Ev, r, hw, ec, fun v H1 g1 ρ1 S1 d r1 st1 rp ⟨ns, ed, q⟩ => by
      subst ed
      simp only [Rep] at rp
      obtain ⟨a, vs, e1, h1, n1, q1⟩ := rp
      subst e1
      rw [ints_of q1] at h1
      exact ⟨a, ns, j, rfl, rfl, SqL.of h1, hq _ H1 g1 ρ1 S1 _ r1 st1 (by simp only [Rep]) q⟩⟩
end
/-! ### a fresh thing becomes a shared one -/
def wShare (w : TV) : TV := fun ρ S Q E => w ρ S (fun d ρ1 S1 => Q (.ref S1.length) ρ1 (S1 ++ [d])) E
theorem ve_share {Y : VC} {e : Expr} {w : TV} (h : VF Y e w) : VE Y e (wShare w) := PE.imp h fun σ H Q ⟨g, ρ, S, Qv, Ev, r, hw, ec, hq⟩ => by
  refine ⟨g, ρ, S, _, Ev, r, hw, ec, fun a H' sm ρ' S' d r' ex ow q => ?_⟩
  obtain ⟨r2, e2⟩ := r'.share ow
  refine hq _ H' ⟨sm ++ [a], g.tm⟩ ρ' _ _ r2 ⟨rfl, ex.trans e2⟩ ?_ q
  simp only [Rep]
  refine ⟨a, ?_, rfl⟩
  have hl : sm.length = S'.length := r'.sto.1
  rw [← hl]
  simp
/-! ### not, of True or False, as a value -/
def wNotB (w : TV) : TV := fun ρ S Q E => w ρ S (fun d ρ1 S1 => ∃ t, d = .bl t ∧ Q (.bl (!t)) ρ1 S1) E
theorem ve_notB {Y : VC} {e : Expr} {w : TV} {pos : Pos} (h : VE Y e w) : VE Y (.UnaryOp .Not e pos) (wNotB w) := PE.imp (pe_not h) fun σ H Q ⟨g, ρ, S, Qv, Ev, r, hw, ec, hq⟩ =>
  ⟨g, ρ, S, _, Ev, r, hw, ec, fun v H1 g1 ρ1 S1 d r1 st1 rp ⟨t, ed, q⟩ => by
    subst ed
    simp only [Rep] at rp
    exact ⟨t, rp, hq _ H1 g1 ρ1 S1 _ r1 st1 (by simp only [Rep]) q⟩⟩
end VL

set_option Elab.async false
set_option linter.all false
set_option autoImplicit false
set_option maxRecDepth 100000
/-! VLShort: the rules in short, for printed derivations. -/
namespace VL
open PySem PySem.Spec PyProof.Rows L2

/-- built-in names that the module leaves alone -/
structure NoB (mg : Str → Option Value) : Prop where
  len : mg "len" = none
  int : mg "int" = none
  abs : mg "abs" = none
  str : mg "str" = none
  tuple : mg "tuple" = none
  list : mg "list" = none
  sorted : mg "sorted" = none
  sum : mg "sum" = none
  max : mg "max" = none
  min : mg "min" = none
  all : mg "all" = none
  any : mg "any" = none
  range : mg "range" = none
  isinstance : mg "isinstance" = none
def visB (sc : Scope) (x : Str) : Bool := match sc.names.lookup x with
  | some .local => true
  | some .cell => true
  | some .free => true
  | _ => false
theorem vis_of {sc : Scope} {x : Str} (h : visB sc x = true) : Vis sc x := by
  unfold visB at h
  split at h
  · exact .inl (by assumption)
  · exact .inr (.inl (by assumption))
  · exact .inr (.inr (by assumption))
  · cases h
def locB (sc : Scope) (x : Str) : Bool := match sc.names.lookup x with
  | some .local => true
  | some .cell => true
  | _ => false
theorem loc_of {sc : Scope} {x : Str} (h : locB sc x = true) : Loc sc x := by
  unfold locB at h
  split at h
  · exact .inl (by assumption)
  · exact .inr (by assumption)
  · cases h
def lolB (sc : Scope) (x : Str) : Bool := match sc.names.lookup x with
  | some .local => true
  | _ => false
theorem lol_one {sc : Scope} {x : Str} (h : lolB sc x = true) : sc.names.lookup x = some .local := by
  unfold lolB at h
  split at h
  · assumption
  · cases h
theorem lol_of {X : Cx} {x : Str} (h : (X.fn x || lolB X.env.scope x) = true) : X.fn x = true ∨ X.env.scope.names.lookup x = some .local := by
  rcases Bool.or_eq_true_iff.mp h with h | h
  · exact .inl h
  · exact .inr (lol_one h)
def glB (X : Cx) (x : Str) : Bool := match X.env.kindOf x with
  | some .globalImplicit => true
  | _ => false
theorem gl_of {X : Cx} {x : Str} (h : glB X x = true) : Gl X x := by
  unfold glB at h
  split at h
  · assumption
  · cases h
/-- BlkOk as a test -/
def blkB (N : List Str) (sc scope : Scope) (own : List (Str × Nat)) : Bool :=
  decide (scope.kind = .function) && decide (∀ y ∈ scope.names, scope.names.lookup y.1 = some y.2) && decide (∀ p ∈ own, N[p.2]? = some p.1) &&
    decide (∀ y ∈ scope.names, y.2 = .free → sc.names.lookup y.1 = some .cell ∨ sc.names.lookup y.1 = some .free) && decide (∀ y ∈ scope.names, y.2 = .local ∨ y.2 = .cell → y.1 ∈ own.map (·.1) ∨ y.1 ∉ N)
theorem blk_of {N : List Str} {sc scope : Scope} {own : List (Str × Nat)} (h : blkB N sc scope own = true) : BlkOk N sc scope own := by
  unfold blkB at h
  simp only [Bool.and_eq_true, decide_eq_true_eq] at h
  exact ⟨h.1.1.1.1, h.1.1.1.2, h.1.1.2, h.1.2, h.2⟩
theorem tgs_of {t : Tg} {own : List (Str × Nat)} (h : (tgIx t).all (fun i => (own.map (·.2)).contains i) = true) : ∀ i ∈ tgIx t, i ∈ own.map (·.2) := fun i hi => by
  have := List.all_eq_true.mp h i hi
  simpa using this
section
variable {Y : VC} {fa : String → Addr} {k : Nat} {T : Tab} {TI : String → FWI} {x : Str} {p pos p0 pos' apos cpos : Pos} {e a b c ix value iter tg elt : Expr} {es ifs : List Expr} {w wa wb wk wv we : TV} {wo wo2 : TVO} {wt wc : TVT} {wl : TVA} {woa : TVOA} {w1 w2 : TVS} {wi : TVI} {t : Tg} {body s1 s2 : List Stmt} {f : MutF}
theorem xv (i : Nat) (hN : Y.X.N[i]? = some x := by rfl) (hv : visB Y.X.env.scope x = true := by kernel_rfl) (hd : (x == ("__debug__" : Str)) = false := by kernel_rfl) (hcd : (x == ("__classdict__" : Str)) = false := by kernel_rfl) : VE Y (.Name x pos) (wVar i) := ve_var hN (vis_of hv) hd hcd
theorem xo (i : Nat) (hN : Y.X.N[i]? = some x := by rfl) (hv : visB Y.X.env.scope x = true := by kernel_rfl) (hd : (x == ("__debug__" : Str)) = false := by kernel_rfl) (hcd : (x == ("__classdict__" : Str)) = false := by kernel_rfl) : VO Y (.Name x pos) (oS i) := vo_s hN (vis_of hv) hd hcd
theorem xset (i : Nat) (he : VE Y e w) (hN : decide Y.X.N.Nodup = true := by kernel_rfl) (hi : Y.X.N[i]? = some x := by rfl) (hx : locB Y.X.env.scope x = true := by kernel_rfl) (hs : swapsWith e (some (.Name x pos')) pos.line Y.X.env = pure false := by rfl) (hf : (Y.X.fn x || lolB Y.X.env.scope x) = true := by kernel_rfl) :
    VS Y (.Assign [.Name x pos'] e pos) (wAsg w (.nm i)) := vs_set (of_decide_eq_true hN) hi (loc_of hx) he hs (lol_of hf)
theorem xseto (i : Nat) (he : VF Y e w) (hN : decide Y.X.N.Nodup = true := by kernel_rfl) (hi : Y.X.N[i]? = some x := by rfl) (hx : locB Y.X.env.scope x = true := by kernel_rfl) (hs : swapsWith e (some (.Name x pos')) pos.line Y.X.env = pure false := by rfl) (h0 : 0 < i := by decide) (hf : (Y.X.fn x || lolB Y.X.env.scope x) = true := by kernel_rfl) :
    VS Y (.Assign [.Name x pos'] e pos) (wSetO i w) := vs_seto (of_decide_eq_true hN) hi (loc_of hx) he hs h0 (lol_of hf)
theorem xgn (i : Nat) (hN : decide Y.X.N.Nodup = true := by kernel_rfl) (hi : Y.X.N[i]? = some x := by rfl) (hx : locB Y.X.env.scope x = true := by kernel_rfl) (hf : (Y.X.fn x || lolB Y.X.env.scope x) = true := by kernel_rfl) : VG Y (.Name x pos) (.nm i) := vg_nm (of_decide_eq_true hN) hi (loc_of hx) (lol_of hf)
theorem xgs (z : Str) {tk : Tok} (hm : Y.X.mg x = some (.str z tk)) (hg : glB Y.X x = true := by kernel_rfl) (hd : (x == ("__debug__" : Str)) = false := by kernel_rfl) : VE Y (.Name x pos) (wC (.str z)) := ve_gstr (gl_of hg) hm hd
theorem xgi (z : Int) {tk : Tok} (hm : Y.X.mg x = some (.int z tk)) (hg : glB Y.X x = true := by kernel_rfl) (hd : (x == ("__debug__" : Str)) = false := by kernel_rfl) : VE Y (.Name x pos) (wC (.int z)) := ve_gint (gl_of hg) hm hd
theorem xfor (G : Gd Y fa k T TI) (hi : VI Y tg iter wi) (hg : VG Y tg t) (hb : VSs Y body w1) (hp : PassesOwn (model Y.X.prog Y.X.w) Y.X.A Y.X.env Y.X.xe := by exact passes_of rfl) (hs : ∀ x, foldedSetIterable iter Y.X.env x = pure x := by intro _; rfl) : VS Y (.For tg iter body [] pos) (wFor wi t w1) := vs_for hp G.cm hi hg hb hs
theorem xwhile (hc : VT Y c wc) (hb : VSs Y body w1) (hp : PassesOwn (model Y.X.prog Y.X.w) Y.X.A Y.X.env Y.X.xe := by exact passes_of rfl) : VS Y (.While c body [] pos) (wWhile wc w1) := vs_while hp hc hb
theorem xit (G : Gd Y fa k T TI) (h : VE Y e w) : VI Y tg e (wIt w) := vi_val G.hK h
theorem xrng1 (B : NoB Y.X.mg) (ha : VA Y [a] wl) (hg : glB Y.X "range" = true := by kernel_rfl) (hs : starEach [a] Y.X.env = [(false, eval a Y.X.env)] := by rfl) : VI Y tg (.Call (.Name "range" p) [a] [] pos) (wRng1 wl) := vi_rng1 (gl_of hg) B.range ha hs
theorem xrng2 (B : NoB Y.X.mg) (ha : VA Y [a, b] wl) (hg : glB Y.X "range" = true := by kernel_rfl) (hs : starEach [a, b] Y.X.env = [(false, eval a Y.X.env), (false, eval b Y.X.env)] := by rfl) (hs2 : starEach [b] Y.X.env = [(false, eval b Y.X.env)] := by rfl) : VI Y tg (.Call (.Name "range" p) [a, b] [] pos) (wRng2 wl) := vi_rng2 (gl_of hg) B.range ha hs hs2
theorem xix (G : Gd Y fa k T TI) (ha : VO Y a wo) (hb : VO Y b wo2) (hs : PlainIx b := by exact fun _ _ => rfl) : VE Y (.Subscript a b pos) (wBin vIx wo wo2) := ve_ix G.hu4 G.hK ha hb hs
theorem xfld (f : String) (G : Gd Y fa k T TI) (he : VO Y e wo) (hb : attributeBase e (toS f) Y.X.env (eval e Y.X.env) = eval e Y.X.env := by rfl) : VE Y (.Attribute e (toS f) pos) (wFld f wo) := ve_fld f G.hK he hb
/-- == and its kin -/
theorem xeq (G : Gd Y fa k T TI) (ha : VO Y a wo) (hb : VO Y b wo2) (hm : behindInMarks .Eq b = false := by rfl) : VE Y (.Compare a [.Eq] [b] pos) (wBin vEq wo wo2) := ve_cmp (ov_eq G.hu4 G.hK) ha hb hm
theorem xne (G : Gd Y fa k T TI) (ha : VO Y a wo) (hb : VO Y b wo2) (hm : behindInMarks .NotEq b = false := by rfl) : VE Y (.Compare a [.NotEq] [b] pos) (wBin vNe wo wo2) := ve_cmp (ov_ne G.hu4 G.hK) ha hb hm
theorem xin (G : Gd Y fa k T TI) (ha : VO Y a wo) (hb : VO Y b wo2) (hm : behindInMarks .In b = false := by rfl) : VE Y (.Compare a [.In] [b] pos) (wBin vIn wo wo2) := ve_cmp (ov_in G.hu G.hK) ha hb hm
theorem xnin (G : Gd Y fa k T TI) (ha : VO Y a wo) (hb : VO Y b wo2) (hm : behindInMarks .NotIn b = false := by rfl) : VE Y (.Compare a [.NotIn] [b] pos) (wBin vNotIn wo wo2) := ve_cmp (ov_notIn G.hu G.hK) ha hb hm
theorem xlt (ha : VO Y a wo) (hb : VO Y b wo2) (hm : behindInMarks .Lt b = false := by rfl) : VE Y (.Compare a [.Lt] [b] pos) (wBin vLt wo wo2) := ve_cmp ov_lt ha hb hm
theorem xle (ha : VO Y a wo) (hb : VO Y b wo2) (hm : behindInMarks .LtE b = false := by rfl) : VE Y (.Compare a [.LtE] [b] pos) (wBin vLe wo wo2) := ve_cmp ov_le ha hb hm
theorem xgt (ha : VO Y a wo) (hb : VO Y b wo2) (hm : behindInMarks .Gt b = false := by rfl) : VE Y (.Compare a [.Gt] [b] pos) (wBin vGt wo wo2) := ve_cmp ov_gt ha hb hm
theorem xge (ha : VO Y a wo) (hb : VO Y b wo2) (hm : behindInMarks .GtE b = false := by rfl) : VE Y (.Compare a [.GtE] [b] pos) (wBin vGe wo wo2) := ve_cmp ov_ge ha hb hm
theorem xis (ha : VO Y a wo) (hb : VO Y b wo2) (hm : behindInMarks .Is b = false := by rfl) : VE Y (.Compare a [.Is] [b] pos) (wBin vIs wo wo2) := ve_cmp ov_is ha hb hm
theorem xisN (ha : VO Y a wo) (hb : VO Y b wo2) (hm : behindInMarks .IsNot b = false := by rfl) : VE Y (.Compare a [.IsNot] [b] pos) (wBin vIsN wo wo2) := ve_cmp ov_isN ha hb hm
/-! built-ins -/
theorem xlen (G : Gd Y fa k T TI) (B : NoB Y.X.mg) (ha : VOA Y [e] woa) (hg : glB Y.X "len" = true := by kernel_rfl) (he : starEach [e] Y.X.env = (false, eval e Y.X.env) :: starEach [] Y.X.env := by rfl) : VE Y (.Call (.Name "len" p) [e] [] pos) (wCB (on1 lenD) woa) := ve_blt (cr_len G.hK) (gl_of hg) B.len boot_len ha (by decide) (by decide) he
theorem xint (B : NoB Y.X.mg) (ha : VOA Y [e] woa) (hg : glB Y.X "int" = true := by kernel_rfl) (he : starEach [e] Y.X.env = (false, eval e Y.X.env) :: starEach [] Y.X.env := by rfl) : VE Y (.Call (.Name "int" p) [e] [] pos) (wCB (on1 intD) woa) := ve_ty cr_int (gl_of hg) B.int boot_int ha (by decide) (by decide) he
theorem xabs (B : NoB Y.X.mg) (ha : VOA Y [e] woa) (hg : glB Y.X "abs" = true := by kernel_rfl) (he : starEach [e] Y.X.env = (false, eval e Y.X.env) :: starEach [] Y.X.env := by rfl) : VE Y (.Call (.Name "abs" p) [e] [] pos) (wCB (on1 absD) woa) := ve_blt cr_abs (gl_of hg) B.abs boot_abs ha (by decide) (by decide) he
theorem xstr (B : NoB Y.X.mg) (ha : VOA Y [e] woa) (hg : glB Y.X "str" = true := by kernel_rfl) (he : starEach [e] Y.X.env = (false, eval e Y.X.env) :: starEach [] Y.X.env := by rfl) : VE Y (.Call (.Name "str" p) [e] [] pos) (wCB (on1 strD) woa) := ve_ty cr_str (gl_of hg) B.str boot_str ha (by decide) (by decide) he
theorem xtuple (B : NoB Y.X.mg) (ha : VOA Y [e] woa) (hg : glB Y.X "tuple" = true := by kernel_rfl) (he : starEach [e] Y.X.env = (false, eval e Y.X.env) :: starEach [] Y.X.env := by rfl) : VE Y (.Call (.Name "tuple" p) [e] [] pos) (wCB (on1 tupD) woa) := ve_ty cr_tup (gl_of hg) B.tuple boot_tuple ha (by decide) (by decide) he
theorem xlist (B : NoB Y.X.mg) (ha : VOA Y [e] woa) (hg : glB Y.X "list" = true := by kernel_rfl) (he : starEach [e] Y.X.env = (false, eval e Y.X.env) :: starEach [] Y.X.env := by rfl) : VF Y (.Call (.Name "list" p) [e] [] pos) (wCB (on1 listD) woa) := vf_ty cf_list (gl_of hg) B.list boot_list ha (by decide) (by decide) he
theorem xsorted (B : NoB Y.X.mg) (ha : VOA Y [e] woa) (hg : glB Y.X "sorted" = true := by kernel_rfl) (he : starEach [e] Y.X.env = (false, eval e Y.X.env) :: starEach [] Y.X.env := by rfl) : VF Y (.Call (.Name "sorted" p) [e] [] pos) (wCB (on1 sortedD) woa) := vf_blt cf_sorted (gl_of hg) B.sorted boot_sorted ha (by decide) (by decide) he
theorem xsum (G : Gd Y fa k T TI) (B : NoB Y.X.mg) (ha : VOA Y [e] woa) (hg : glB Y.X "sum" = true := by kernel_rfl) (he : starEach [e] Y.X.env = (false, eval e Y.X.env) :: starEach [] Y.X.env := by rfl) : VE Y (.Call (.Name "sum" p) [e] [] pos) (wCB (on1 sumD) woa) := ve_blt (cr_sumL G.cm) (gl_of hg) B.sum boot_sum ha (by decide) (by decide) he
theorem xall (G : Gd Y fa k T TI) (B : NoB Y.X.mg) (ha : VOA Y [e] woa) (hg : glB Y.X "all" = true := by kernel_rfl) (he : starEach [e] Y.X.env = (false, eval e Y.X.env) :: starEach [] Y.X.env := by rfl) : VE Y (.Call (.Name "all" p) [e] [] pos) (wCB (on1 allD) woa) := ve_blt (cr_allL G.cm) (gl_of hg) B.all boot_all ha (by decide) (by decide) he
theorem xany (G : Gd Y fa k T TI) (B : NoB Y.X.mg) (ha : VOA Y [e] woa) (hg : glB Y.X "any" = true := by kernel_rfl) (he : starEach [e] Y.X.env = (false, eval e Y.X.env) :: starEach [] Y.X.env := by rfl) : VE Y (.Call (.Name "any" p) [e] [] pos) (wCB (on1 anyD) woa) := ve_blt (cr_anyL G.cm) (gl_of hg) B.any boot_any ha (by decide) (by decide) he
theorem xmax2 (G : Gd Y fa k T TI) (B : NoB Y.X.mg) (ha : VOA Y [a, b] woa) (hg : glB Y.X "max" = true := by kernel_rfl) (he : starEach [a, b] Y.X.env = (false, eval a Y.X.env) :: starEach [b] Y.X.env := by rfl) (hpl : (backTo pos (starEach [b] Y.X.env)).any (·.1) = false := by rfl) : VE Y (.Call (.Name "max" p) [a, b] [] pos) (wCB (on2 max2D) woa) := ve_blt (cr_max2 G.cm) (gl_of hg) B.max boot_max ha (by decide) (by decide) he hpl
theorem xmin2 (G : Gd Y fa k T TI) (B : NoB Y.X.mg) (ha : VOA Y [a, b] woa) (hg : glB Y.X "min" = true := by kernel_rfl) (he : starEach [a, b] Y.X.env = (false, eval a Y.X.env) :: starEach [b] Y.X.env := by rfl) (hpl : (backTo pos (starEach [b] Y.X.env)).any (·.1) = false := by rfl) : VE Y (.Call (.Name "min" p) [a, b] [] pos) (wCB (on2 min2D) woa) := ve_blt (cr_min2 G.cm) (gl_of hg) B.min boot_min ha (by decide) (by decide) he hpl
theorem xmaxC {j : Int} {ck : Nat} {kpos : Pos} (G : Gd Y fa k T TI) (B : NoB Y.X.mg) (h : VE Y e w) (hg : glB Y.X "max" = true := by kernel_rfl) (hst : starEach [e] Y.X.env = (false, eval e Y.X.env) :: starEach [] Y.X.env := by rfl) : VE Y (.Call (.Name "max" p) [e] [⟨some "default", .Constant (.int j) ck cpos, kpos⟩] pos) (wMaxC j w) := ve_maxC G.cm (by have := G.hu4; omega) (gl_of hg) B.max h hst
theorem xisi {cv : V} {u : Value} {tb : (Bool × String) → Option Bool} (G : Gd Y fa k T TI) (B : NoB Y.X.mg) (ti : IsiT Y.c u tb) (hk : ClsV cv u) (ho : VO Y e wo) (hc : PE Y.X c (tC cv)) (hg : glB Y.X "isinstance" = true := by kernel_rfl)
    (he : starEach [e, c] Y.X.env = (false, eval e Y.X.env) :: starEach [c] Y.X.env := by rfl) (he2 : starEach [c] Y.X.env = (false, eval c Y.X.env) :: starEach [] Y.X.env := by rfl) (hpl : (backTo pos (starEach [c] Y.X.env)).any (·.1) = false := by rfl) :
    VE Y (.Call (.Name "isinstance" p) [e, c] [] pos) (wUn (vIsi tb) wo) := ve_isi G.hK ti hk (gl_of hg) B.isinstance ho hc he he2 hpl
/-! lists that change -/
theorem xapp (i : Nat) (ha : VA Y [e] wl) (hN : Y.X.N[i]? = some x := by rfl) (hv : visB Y.X.env.scope x = true := by kernel_rfl) (hd : (x == ("__debug__" : Str)) = false := by kernel_rfl) (hcd : (x == ("__classdict__" : Str)) = false := by kernel_rfl)
    (hbase : attributeBase (.Name x p0) "append" Y.X.env (eval (.Name x p0) Y.X.env) = eval (.Name x p0) Y.X.env := by rfl)
    (hfew : ((backTo cpos (starEach [e] Y.X.env)).all (fun x => !x.1) && (backToKw cpos (keywordEach [] Y.X.env)).all (fun x => x.1.isSome)
      && decide ([e].length + ([] : List Keyword).length + (if ([] : List Keyword).isEmpty then 0 else 1) < 30)) = true := by rfl)
    (hline : (apos.endLine == cpos.line) = true := by rfl) (hs : starEach [e] Y.X.env = (false, eval e Y.X.env) :: starEach [] Y.X.env := by rfl) :
    VE Y (.Call (.Attribute (.Name x p0) "append" apos) [e] [] cpos) (wMut i mAppend wl) := ve_mut PySem.F.slot_list_append PySem.F.type_list_append mr_append hN (vis_of hv) ha hd hcd hbase hfew hline hs
theorem xpop (i : Nat) (hN : Y.X.N[i]? = some x := by rfl) (hv : visB Y.X.env.scope x = true := by kernel_rfl) (hd : (x == ("__debug__" : Str)) = false := by kernel_rfl) (hcd : (x == ("__classdict__" : Str)) = false := by kernel_rfl)
    (hbase : attributeBase (.Name x p0) "pop" Y.X.env (eval (.Name x p0) Y.X.env) = eval (.Name x p0) Y.X.env := by rfl) (hline : (apos.endLine == cpos.line) = true := by rfl) :
    VE Y (.Call (.Attribute (.Name x p0) "pop" apos) [] [] cpos) (wMut i mPop wANil) := ve_mut0 PySem.F.slot_list_pop PySem.F.type_list_pop mr_pop hN (vis_of hv) hd hcd hbase hline
theorem xrev (i : Nat) (hN : Y.X.N[i]? = some x := by rfl) (hv : visB Y.X.env.scope x = true := by kernel_rfl) (hd : (x == ("__debug__" : Str)) = false := by kernel_rfl) (hcd : (x == ("__classdict__" : Str)) = false := by kernel_rfl)
    (hbase : attributeBase (.Name x p0) "reverse" Y.X.env (eval (.Name x p0) Y.X.env) = eval (.Name x p0) Y.X.env := by rfl) (hline : (apos.endLine == cpos.line) = true := by rfl) :
    VE Y (.Call (.Attribute (.Name x p0) "reverse" apos) [] [] cpos) (wMut i mReverse wANil) := ve_mut0 PySem.F.slot_list_reverse PySem.F.type_list_reverse mr_reverse hN (vis_of hv) hd hcd hbase hline
theorem xjoin (ho : VO Y a wo) (ha : VOA Y [e] woa) (hbase : attributeBase a "join" Y.X.env (eval a Y.X.env) = eval a Y.X.env := by rfl)
    (hfew : ((backTo cpos (starEach [e] Y.X.env)).all (fun x => !x.1) && (backToKw cpos (keywordEach [] Y.X.env)).all (fun x => x.1.isSome)
      && decide ([e].length + ([] : List Keyword).length + (if ([] : List Keyword).isEmpty then 0 else 1) < 30)) = true := by rfl)
    (hline : (apos.endLine == cpos.line) = true := by rfl) (hs : starEach [e] Y.X.env = (false, eval e Y.X.env) :: starEach [] Y.X.env := by rfl) :
    VE Y (.Call (.Attribute a "join" apos) [e] [] cpos) (wBMT "str" joinD wo woa) := ve_bm PySem.F.plainAttrs_str PySem.F.slot_str_join PySem.F.type_str_join mr_join ho ha hbase hfew hline hs
/-! calls -/
theorem xcall (f : String) (G : Gd Y fa k T TI) (gf : GF Y.c fa Y.X.mg f) (ha : VA Y (e :: es) wl) (hg : glB Y.X (toS f) = true := by kernel_rfl) (hdb : (toS f == ("__debug__" : Str)) = false := by kernel_rfl) (he : starEach (e :: es) Y.X.env = (false, eval e Y.X.env) :: starEach es Y.X.env := by rfl) (hpl : (backTo pos (starEach es Y.X.env)).any (·.1) = false := by rfl) :
    VE Y (.Call (.Name (toS f) p) (e :: es) [] pos) (wCall (T f) wl) := ve_call f G gf (gl_of hg) ha hdb he hpl
theorem xcall0 (f : String) (G : Gd Y fa k T TI) (gf : GF Y.c fa Y.X.mg f) (hg : glB Y.X (toS f) = true := by kernel_rfl) (hdb : (toS f == ("__debug__" : Str)) = false := by kernel_rfl) : VE Y (.Call (.Name (toS f) p) [] [] pos) (wCall (T f) wANil) := ve_call0 f G gf (gl_of hg) hdb
theorem xcallS (f : String) (G : Gd Y fa k T TI) (gf : GF Y.c fa Y.X.mg f) (ha : VA Y (e :: es) wl) (hg : glB Y.X (toS f) = true := by kernel_rfl) (hdb : (toS f == ("__debug__" : Str)) = false := by kernel_rfl) (he : starEach (e :: es) Y.X.env = (false, eval e Y.X.env) :: starEach es Y.X.env := by rfl) (hst : (backTo pos (starEach es Y.X.env)).any (·.1) = true := by rfl) :
    VE Y (.Call (.Name (toS f) p) (e :: es) [] pos) (wCall (T f) wl) := ve_callS f G gf (gl_of hg) ha hdb he hst
theorem xmake (cl f : String) (G : Gd Y fa k T TI) (gc : GC Y.c fa Y.X.mg cl f) (ha : VA Y (e :: es) wl) (hg : glB Y.X (toS cl) = true := by kernel_rfl) (hdb : (toS cl == ("__debug__" : Str)) = false := by kernel_rfl) (he : starEach (e :: es) Y.X.env = (false, eval e Y.X.env) :: starEach es Y.X.env := by rfl) (hpl : (backTo pos (starEach es Y.X.env)).any (·.1) = false := by rfl) :
    VF Y (.Call (.Name (toS cl) p) (e :: es) [] pos) (wMake (TI f) cl wl) := vf_make cl f G gc (gl_of hg) ha hdb he hpl
theorem xmake0 (cl f : String) (G : Gd Y fa k T TI) (gc : GC Y.c fa Y.X.mg cl f) (hg : glB Y.X (toS cl) = true := by kernel_rfl) (hdb : (toS cl == ("__debug__" : Str)) = false := by kernel_rfl) : VF Y (.Call (.Name (toS cl) p) [] [] pos) (wMake (TI f) cl wANil) := vf_make0 cl f G gc (gl_of hg) hdb
theorem xmakeS (cl f : String) (G : Gd Y fa k T TI) (gc : GC Y.c fa Y.X.mg cl f) (ha : VA Y (e :: es) wl) (hg : glB Y.X (toS cl) = true := by kernel_rfl) (hdb : (toS cl == ("__debug__" : Str)) = false := by kernel_rfl) (he : starEach (e :: es) Y.X.env = (false, eval e Y.X.env) :: starEach es Y.X.env := by rfl) (hst : (backTo pos (starEach es Y.X.env)).any (·.1) = true := by rfl) :
    VF Y (.Call (.Name (toS cl) p) (e :: es) [] pos) (wMake (TI f) cl wl) := vf_makeS cl f G gc (gl_of hg) ha hdb he hst
theorem xmake1S {sp_ : Pos} (cl f : String) (G : Gd Y fa k T TI) (gc : GC Y.c fa Y.X.mg cl f) (ho : VO Y e wo) (hg : glB Y.X (toS cl) = true := by kernel_rfl) (hdb : (toS cl == ("__debug__" : Str)) = false := by kernel_rfl) (hst : starEach [.Starred e sp_] Y.X.env = [(true, eval e Y.X.env)] := by rfl) :
    VF Y (.Call (.Name (toS cl) p) [.Starred e sp_] [] pos) (wMake (TI f) cl (wAStar wo wANil)) := vf_make1S cl f G gc (gl_of hg) ho hdb hst
theorem xstrO {ms : Ms} (G : Gd Y fa k T TI) (B : NoB Y.X.mg) (mo : MsOk Y.c fa "__str__" ms) (ho : VE Y e w) (hg : glB Y.X "str" = true := by kernel_rfl) (hst : starEach [e] Y.X.env = (false, eval e Y.X.env) :: starEach [] Y.X.env := by rfl) : VE Y (.Call (.Name "str" p) [e] [] pos) (wOwnStr T ms w) := ve_strO (gl_of hg) B.str G mo ho hst
/-! comprehensions -/
theorem xcomp {scope : Scope} (own : List (Str × Nat)) (G : Gd Y fa k T TI) (hi : VI Y tg iter wi)
    (hg : ∀ (s : Shared) (H : Hp) (C : Addr) (cl : List (Str × Addr)) (fp : List Addr) (F : Fr), VG (Blk Y scope s H C cl fp F) tg t)
    (ht : ∀ (s : Shared) (H : Hp) (C : Addr) (cl : List (Str × Addr)) (fp : List Addr) (F : Fr), Gd (Blk Y scope s H C cl fp F) fa k T TI → VTs (Blk Y scope s H C cl fp F) ifs wt)
    (he : ∀ (s : Shared) (H : Hp) (C : Addr) (cl : List (Str × Addr)) (fp : List Addr) (F : Fr), Gd (Blk Y scope s H C cl fp F) fa k T TI → VE (Blk Y scope s H C cl fp F) elt we)
    (ok : blkB Y.X.N Y.X.env.scope scope own = true := by kernel_rfl) (htg : (tgIx t).all (fun i => (own.map (·.2)).contains i) = true := by kernel_rfl) (hN : decide Y.X.N.Nodup = true := by kernel_rfl)
    (hs : ∀ x, foldedSetIterable iter Y.X.env x = pure x := by intro _; rfl) : VF Y (.ListComp elt [⟨tg, iter, ifs, 0⟩] scope pos) (wComp wi t (own.map (·.2)) wt we) :=
  vf_comp G.cm (of_decide_eq_true hN) hi (blk_of ok) (tgs_of htg) hg (fun s H C cl fp F => ht s H C cl fp F G.blk) (fun s H C cl fp F => he s H C cl fp F G.blk) hs
/-- name = [..] on one line -/
theorem xsetlc {scope : Scope} (i : Nat) (own : List (Str × Nat)) (G : Gd Y fa k T TI) (hi : VI Y tg iter wi)
    (hg : ∀ (s : Shared) (H : Hp) (C : Addr) (cl : List (Str × Addr)) (fp : List Addr) (F : Fr), VG (Blk Y scope s H C cl fp F) tg t)
    (ht : ∀ (s : Shared) (H : Hp) (C : Addr) (cl : List (Str × Addr)) (fp : List Addr) (F : Fr), Gd (Blk Y scope s H C cl fp F) fa k T TI → VTs (Blk Y scope s H C cl fp F) ifs wt)
    (he : ∀ (s : Shared) (H : Hp) (C : Addr) (cl : List (Str × Addr)) (fp : List Addr) (F : Fr), Gd (Blk Y scope s H C cl fp F) fa k T TI → VE (Blk Y scope s H C cl fp F) elt we)
    (hy : Y.X.N[i]? = some x := by rfl) (hyl : lolB Y.X.env.scope x = true := by kernel_rfl) (hsw : swapsWith (.ListComp elt [⟨tg, iter, ifs, 0⟩] scope pos) (some (.Name x p0)) pos'.line Y.X.env = pure true := by rfl)
    (ok : blkB Y.X.N Y.X.env.scope scope own = true := by kernel_rfl) (htg : (tgIx t).all (fun i => (own.map (·.2)).contains i) = true := by kernel_rfl) (hN : decide Y.X.N.Nodup = true := by kernel_rfl)
    (hs : ∀ x, foldedSetIterable iter Y.X.env x = pure x := by intro _; rfl) : VS Y (.Assign [.Name x p0] (.ListComp elt [⟨tg, iter, ifs, 0⟩] scope pos) pos') (wAsg (wComp wi t (own.map (·.2)) wt we) (.nm i)) :=
  PS.imp (ps_setLc (g := fun v σ H Q => ∃ F, LG ⟨Y.X, Y.c, F, fun _ _ _ _ => False⟩ t v σ H Q) (tt := fun σ H Q => ∃ F, LT ⟨Y.X, Y.c, F, fun _ _ _ _ => False⟩ wt σ H Q) (te := fun σ H Q => ∃ F, LE ⟨Y.X, Y.c, F, fun _ _ _ _ => False⟩ we σ H Q) G.cm (of_decide_eq_true hN) hy (lol_one hyl) hsw hi (blk_of ok)
    (fun s H C cl fp => ⟨fun pins s' σ' H' v u Q I rv ⟨F, h⟩ => (hg s H C cl fp F).run pins s' σ' H' v u Q I rv h⟩)
    (fun s H C cl fp => ⟨fun pins s' σ' H' Q I ⟨F, h⟩ => (ht s H C cl fp F G.blk).run pins s' σ' H' Q I h⟩)
    (fun s H C cl fp => ⟨fun pins s' σ' H' Q I ⟨F, h⟩ => (he s H C cl fp F G.blk).run pins s' σ' H' Q I h⟩) hs)
    fun D σ H ⟨g, ρ, S, Qv, Ev, r, hw, ec, sc⟩ => lc_te (tgs_of htg) ⟨g, ρ, S, _, Ev, r, hw, ec, fun a H' sm ρ' S' d r' ex ow ⟨ρ2, hb, q⟩ => by
      obtain ⟨r2, e2, rp⟩ := r'.letgo ow
      simp only [bindT] at hb
      split at hb
      · rename_i hl
        cases hb
        obtain ⟨r3, e3⟩ := r2.setv (i := i) (by rw [← r2.len]; exact hl) rp
        exact sc.nx _ H' ⟨sm, g.tm⟩ _ S' r3 ⟨rfl, (ex.trans e2).trans e3⟩ q
      · cases hb⟩ _ _ _ (fun F _ _ _ _ h => ⟨F, h⟩) (fun F _ _ _ h => ⟨F, h⟩) (fun F _ _ _ h => ⟨F, h⟩)
theorem xsetlco {scope : Scope} (i : Nat) (own : List (Str × Nat)) (G : Gd Y fa k T TI) (hi : VI Y tg iter wi)
    (hg : ∀ (s : Shared) (H : Hp) (C : Addr) (cl : List (Str × Addr)) (fp : List Addr) (F : Fr), VG (Blk Y scope s H C cl fp F) tg t)
    (ht : ∀ (s : Shared) (H : Hp) (C : Addr) (cl : List (Str × Addr)) (fp : List Addr) (F : Fr), Gd (Blk Y scope s H C cl fp F) fa k T TI → VTs (Blk Y scope s H C cl fp F) ifs wt)
    (he : ∀ (s : Shared) (H : Hp) (C : Addr) (cl : List (Str × Addr)) (fp : List Addr) (F : Fr), Gd (Blk Y scope s H C cl fp F) fa k T TI → VE (Blk Y scope s H C cl fp F) elt we)
    (hy : Y.X.N[i]? = some x := by rfl) (hyl : lolB Y.X.env.scope x = true := by kernel_rfl) (hsw : swapsWith (.ListComp elt [⟨tg, iter, ifs, 0⟩] scope pos) (some (.Name x p0)) pos'.line Y.X.env = pure true := by rfl) (h0 : 0 < i := by decide)
    (ok : blkB Y.X.N Y.X.env.scope scope own = true := by kernel_rfl) (htg : (tgIx t).all (fun i => (own.map (·.2)).contains i) = true := by kernel_rfl) (hN : decide Y.X.N.Nodup = true := by kernel_rfl)
    (hs : ∀ x, foldedSetIterable iter Y.X.env x = pure x := by intro _; rfl) : VS Y (.Assign [.Name x p0] (.ListComp elt [⟨tg, iter, ifs, 0⟩] scope pos) pos') (wSetO i (wComp wi t (own.map (·.2)) wt we)) :=
  PS.imp (ps_setLc (g := fun v σ H Q => ∃ F, LG ⟨Y.X, Y.c, F, fun _ _ _ _ => False⟩ t v σ H Q) (tt := fun σ H Q => ∃ F, LT ⟨Y.X, Y.c, F, fun _ _ _ _ => False⟩ wt σ H Q) (te := fun σ H Q => ∃ F, LE ⟨Y.X, Y.c, F, fun _ _ _ _ => False⟩ we σ H Q) G.cm (of_decide_eq_true hN) hy (lol_one hyl) hsw hi (blk_of ok)
    (fun s H C cl fp => ⟨fun pins s' σ' H' v u Q I rv ⟨F, h⟩ => (hg s H C cl fp F).run pins s' σ' H' v u Q I rv h⟩)
    (fun s H C cl fp => ⟨fun pins s' σ' H' Q I ⟨F, h⟩ => (ht s H C cl fp F G.blk).run pins s' σ' H' Q I h⟩)
    (fun s H C cl fp => ⟨fun pins s' σ' H' Q I ⟨F, h⟩ => (he s H C cl fp F G.blk).run pins s' σ' H' Q I h⟩) hs)
    fun D σ H ⟨g, ρ, S, Qv, Ev, r, hw, ec, sc⟩ => lc_te (tgs_of htg) ⟨g, ρ, S, _, Ev, r, hw, ec, fun a H' sm ρ' S' d r' ex ow ⟨hl, q⟩ => by
      obtain ⟨r2, e2⟩ := r'.seto (i := i) (by rw [← r'.len]; exact hl) h0 ow
      exact sc.nx _ H' ⟨sm, g.tm⟩ _ S' r2 ⟨rfl, ex.trans e2⟩ q⟩ _ _ _ (fun F _ _ _ _ h => ⟨F, h⟩) (fun F _ _ _ h => ⟨F, h⟩) (fun F _ _ _ h => ⟨F, h⟩)
end
end VL

set_option Elab.async false
set_option linter.all false
set_option autoImplicit false
set_option maxRecDepth 100000
/-! VLCmp: < and its like on plain data (numbers, texts, nested tuples and lists). -/
namespace VL
open PySem PySem.Spec PyProof.Rows L2
def vCmpD (f : PyData → PyData → Bool) : D → D → Sto → (D → Prop) → Prop := fun x y S P =>
  plain (dr S x) = true ∧ plain (dr S y) = true ∧ dep (dr S x) ≤ 64 ∧ PySem.W.alike (toP (dr S x)) (toP (dr S y)) = true ∧ toP (dr S x) ≠ .none ∧ P (.bl (f (toP (dr S x)) (toP (dr S y))))
abbrev vLtD := vCmpD fun a b => PySem.W.dataLt a b
abbrev vLeD := vCmpD fun a b => !PySem.W.dataLt b a
abbrev vGtD := vCmpD fun a b => PySem.W.dataLt b a
abbrev vGeD := vCmpD fun a b => !PySem.W.dataLt a b
section
variable {Y : VC}
theorem room_min {u a b : Nat} (h : u + 64 < cLine) (h2 : a ≤ 64) : u + min a b < cLine := by omega
theorem ov_ltD (hu : Y.X.A.units + 64 < cLine) (hK : Y.c.K = Y.X.K) : OpV Y (compareOp .Lt) vLtD := by
  intro pins s σ H g ρ S x y v u dx dy P Q I rx ry r bx bY h k
  have bx := r.dr bx
  have bY := r.dr bY
  obtain ⟨p1, p2, d1, ha, hn, h⟩ := h
  obtain ⟨as, r1⟩ := Dp.reads I _ _ _ (by rw [← hK]; exact bx.dp p1) rx
  obtain ⟨bs, r2⟩ := Dp.reads I _ _ _ (by rw [← hK]; exact bY.dp p2) ry
  exact PySem.W.lt_data r1 r2 ha hn (room_min hu (by rw [depth_toP p1]; exact d1)) ⟨.bl _, H, I, rfl, k _ _ H (fun _ _ h => h) rep_bl h⟩
theorem ov_leD (hu : Y.X.A.units + 64 < cLine) (hK : Y.c.K = Y.X.K) : OpV Y (compareOp .LtE) vLeD := by
  intro pins s σ H g ρ S x y v u dx dy P Q I rx ry r bx bY h k
  have bx := r.dr bx
  have bY := r.dr bY
  obtain ⟨p1, p2, d1, ha, hn, h⟩ := h
  obtain ⟨as, r1⟩ := Dp.reads I _ _ _ (by rw [← hK]; exact bx.dp p1) rx
  obtain ⟨bs, r2⟩ := Dp.reads I _ _ _ (by rw [← hK]; exact bY.dp p2) ry
  exact PySem.W.le_data r1 r2 ha hn (room_min hu (by rw [depth_toP p1]; exact d1)) ⟨.bl _, H, I, rfl, k _ _ H (fun _ _ h => h) rep_bl h⟩
theorem ov_gtD (hu : Y.X.A.units + 64 < cLine) (hK : Y.c.K = Y.X.K) : OpV Y (compareOp .Gt) vGtD := by
  intro pins s σ H g ρ S x y v u dx dy P Q I rx ry r bx bY h k
  have bx := r.dr bx
  have bY := r.dr bY
  obtain ⟨p1, p2, d1, ha, hn, h⟩ := h
  obtain ⟨as, r1⟩ := Dp.reads I _ _ _ (by rw [← hK]; exact bx.dp p1) rx
  obtain ⟨bs, r2⟩ := Dp.reads I _ _ _ (by rw [← hK]; exact bY.dp p2) ry
  exact PySem.W.gt_data r1 r2 ha hn (room_min hu (by rw [depth_toP p1]; exact d1)) ⟨.bl _, H, I, rfl, k _ _ H (fun _ _ h => h) rep_bl h⟩
theorem ov_geD (hu : Y.X.A.units + 64 < cLine) (hK : Y.c.K = Y.X.K) : OpV Y (compareOp .GtE) vGeD := by
  intro pins s σ H g ρ S x y v u dx dy P Q I rx ry r bx bY h k
  have bx := r.dr bx
  have bY := r.dr bY
  obtain ⟨p1, p2, d1, ha, hn, h⟩ := h
  obtain ⟨as, r1⟩ := Dp.reads I _ _ _ (by rw [← hK]; exact bx.dp p1) rx
  obtain ⟨bs, r2⟩ := Dp.reads I _ _ _ (by rw [← hK]; exact bY.dp p2) ry
  exact PySem.W.ge_data r1 r2 ha hn (room_min hu (by rw [depth_toP p1]; exact d1)) ⟨.bl _, H, I, rfl, k _ _ H (fun _ _ h => h) rep_bl h⟩
end
section
variable {Y : VC} {a b : Expr} {wo wo2 : TVO} {pos : Pos} {fa : String → Addr} {k : Nat} {T : Tab} {TI : String → FWI}
theorem xltD (G : Gd Y fa k T TI) (ha : VO Y a wo) (hb : VO Y b wo2) (hm : behindInMarks .Lt b = false := by rfl) : VE Y (.Compare a [.Lt] [b] pos) (wBin vLtD wo wo2) := ve_cmp (ov_ltD G.hu4 G.hK) ha hb hm
theorem xleD (G : Gd Y fa k T TI) (ha : VO Y a wo) (hb : VO Y b wo2) (hm : behindInMarks .LtE b = false := by rfl) : VE Y (.Compare a [.LtE] [b] pos) (wBin vLeD wo wo2) := ve_cmp (ov_leD G.hu4 G.hK) ha hb hm
theorem xgtD (G : Gd Y fa k T TI) (ha : VO Y a wo) (hb : VO Y b wo2) (hm : behindInMarks .Gt b = false := by rfl) : VE Y (.Compare a [.Gt] [b] pos) (wBin vGtD wo wo2) := ve_cmp (ov_gtD G.hu4 G.hK) ha hb hm
theorem xgeD (G : Gd Y fa k T TI) (ha : VO Y a wo) (hb : VO Y b wo2) (hm : behindInMarks .GtE b = false := by rfl) : VE Y (.Compare a [.GtE] [b] pos) (wBin vGeD wo wo2) := ve_cmp (ov_geD G.hu4 G.hK) ha hb hm
end
end VL

set_option Elab.async false
set_option linter.all false
set_option autoImplicit false
set_option maxRecDepth 100000
/-! VLLock: a for over a dict that stays: the dict is locked meanwhile. -/
namespace VL
open PySem PySem.Spec PyProof.Rows L2
def kD : Key → D
  | .inl i => .int i
  | .inr x => .str x
theorem rd_inj {H : Hp} {a : Addr} {u v : HO} (hu : ∀ o w, u ≠ .frz o w) (hv : ∀ o w, v ≠ .frz o w) (h1 : Rd H a u) (h2 : Rd H a v) : u = v := by
  rcases h1 with h1 | ⟨o1, h1⟩ <;> rcases h2 with h2 | ⟨o2, h2⟩ <;> rw [h1] at h2 <;> cases h2
  · rfl
  · exact absurd rfl (hu _ _)
  · exact absurd rfl (hv _ _)
  · rfl
/-- only the dict at a has changed its state -/
structure Chg (a : Addr) (vs : List (Key × V)) (H H' : Hp) : Prop where
  ne : ∀ b o, b ≠ a → H b = some o → H' b = some o
  at1 : Rd H a (.dK vs)
  at2 : Rd H' a (.dK vs)
section
variable {c : Cf} {sm : List Addr} {M : Addr → Prop} {H H' : Hp} {a : Addr} {vs : List (Key × V)}
theorem Chg.off (k : Chg a vs H H') {b : Addr} {o : HO} (h : H b = some o) (h1 : o ≠ .dK vs) (h2 : ∀ z w, o ≠ .frz z w) : H' b = some o := by
  refine k.ne b o (fun e => ?_) h
  subst e
  rcases k.at1 with q | ⟨z, q⟩
  · rw [q] at h; cases h; exact h1 rfl
  · rw [q] at h; cases h; exact h2 _ _ rfl
theorem Chg.rd (k : Chg a vs H H') {b : Addr} {o : HO} (h : Rd H b o) (h2 : ∀ z w, o ≠ .frz z w) : Rd H' b o := by
  by_cases e : b = a
  · subst e
    have := rd_inj (v := .dK vs) h2 (by intro _ _ z; cases z) h k.at1
    rw [this]; exact k.at2
  · rcases h with h | ⟨z, h⟩
    · exact .inl (k.ne b _ e h)
    · exact .inr ⟨z, k.ne b _ e h⟩
mutual
theorem Rep.chg (k : Chg a vs H H') : ∀ {d : D} {v : V}, Rep c sm M H d v → Rep c sm M H' d v
  | .non, _, h => h
  | .bl _, _, h => h
  | .int _, _, h => h
  | .str _, _, h => h
  | .tup ds, v, h => by
    simp only [Rep] at h ⊢
    obtain ⟨b, ws, e1, r, n, q⟩ := h
    exact ⟨b, ws, e1, k.off r (fun z => nomatch z) (fun _ _ z => nomatch z), n, Reps.chg k q⟩
  | .lst ds, v, h => by
    simp only [Rep] at h ⊢
    obtain ⟨b, ws, e1, r, n, q⟩ := h
    exact ⟨b, ws, e1, k.off r (fun z => nomatch z) (fun _ _ z => nomatch z), n, Reps.chg k q⟩
  | .scr ns, v, h => by
    simp only [Rep] at h ⊢
    obtain ⟨b, e1, h⟩ := h
    exact ⟨b, e1, h.imp (fun ⟨r, n⟩ => ⟨k.rd r (fun _ _ z => nomatch z), n⟩) id⟩
  | .dic ds, v, h => by
    simp only [Rep] at h ⊢
    obtain ⟨b, ws, e1, r, n, q⟩ := h
    exact ⟨b, ws, e1, k.rd r (fun _ _ z => nomatch z), n, RepK.chg k q⟩
  | .obj cl fs, v, h => by
    simp only [Rep] at h ⊢
    obtain ⟨b, dx, ws, e1, r, n, g, q⟩ := h
    exact ⟨b, dx, ws, e1, k.off r (fun z => nomatch z) (fun _ _ z => nomatch z), n, g, RepF.chg k q⟩
  | .ref n, v, h => h
  | .cls n, v, h => h
theorem Reps.chg (k : Chg a vs H H') : ∀ {ds : List D} {ws : List V}, Reps c sm M H ds ws → Reps c sm M H' ds ws
  | [], _, h => h
  | d :: ds, ws, h => by
    simp only [Reps] at h ⊢
    obtain ⟨x, r, e1, h1, h2⟩ := h
    exact ⟨x, r, e1, Rep.chg k h1, Reps.chg k h2⟩
theorem RepK.chg (k : Chg a vs H H') : ∀ {ds : List (Key × D)} {ws : List (Key × V)}, RepK c sm M H ds ws → RepK c sm M H' ds ws
  | [], _, h => h
  | (j, d) :: ds, ws, h => by
    simp only [RepK] at h ⊢
    obtain ⟨x, r, e1, h1, h2⟩ := h
    exact ⟨x, r, e1, Rep.chg k h1, RepK.chg k h2⟩
theorem RepF.chg (k : Chg a vs H H') : ∀ {ds : List (String × D)} {ws : List (Str × V)}, RepF c sm M H ds ws → RepF c sm M H' ds ws
  | [], _, h => h
  | (j, d) :: ds, ws, h => by
    simp only [RepF] at h ⊢
    obtain ⟨x, r, e1, h1, h2⟩ := h
    exact ⟨x, r, e1, Rep.chg k h1, RepF.chg k h2⟩
end
theorem Own.chg (k : Chg a vs H H') {b : Addr} {d : D} (hb : b ≠ a) (h : Own c sm M H b d) : Own c sm M H' b d := by
  cases d <;> simp only [Own] at h ⊢
  · obtain ⟨ws, h, q⟩ := h; exact ⟨ws, k.ne b _ hb h, Reps.chg k q⟩
  · obtain ⟨ws, h, q⟩ := h; exact ⟨ws, k.ne b _ hb h, RepK.chg k q⟩
  · obtain ⟨dx, ws, h, g, q⟩ := h; exact ⟨dx, ws, k.ne b _ hb h, g, RepF.chg k q⟩
end
section
variable {c : Cf} {F : Fr} {g g2 : Gs} {σ σ2 : St} {H H2 : Hp} {ρ ρ2 : En} {S S2 : Sto} {a : Addr} {vs : List (Key × V)}
/-- the frame with another picture of the entry -/
abbrev reF (F : Fr) (H0 : Hp) : Fr := { F with H0 := H0 }
theorem R.chg {H' H0' : Hp} (k : Chg a vs H H') (na : ¬ MU F g σ ρ a) (r : R c F g σ H ρ S) (h0 : ∀ b, F.H0 b = none ↔ H0' b = none) (kp : ∀ b o, H0' b = some o → ¬ F.exc b → H' b = some o) : R c (reF F H0') g σ H' ρ S := by
  have hn : ∀ b, (F.H0 b = none ∨ F.exc b) → (H0' b = none ∨ F.exc b) := fun b h => h.imp (h0 b).mp id
  refine ⟨r.len, fun i d h => ?_, fun i d h => ?_, r.inj, fun i d b h1 h2 => ?_, ⟨r.sto.1, fun n b d h1 h2 => ?_⟩, r.smn, fun b h => ?_, fun b h => ?_, r.tmn, ?_, kp, fun b h => ?_, fun b h => ?_, r.fx, fun i ex h => ?_⟩
  · obtain ⟨x, q1, q2⟩ := r.val i d h
    exact ⟨x, q1, Rep.chg k q2⟩
  · obtain ⟨b, q1, q2⟩ := r.own i d h
    exact ⟨b, q1, Own.chg k (fun e => na (by rw [← e]; exact .inr (.inr (.inr ⟨i, d, h, q1⟩)))) q2⟩
  · obtain ⟨q1, q2, q3, q4⟩ := r.sep i d b h1 h2
    exact ⟨q1, q2, q3, hn b q4⟩
  · have nb : b ≠ a := fun e => na (by rw [← e]; exact .inr (.inl (List.mem_of_getElem? h1)))
    exact Own.chg k nb (r.sto.2 n b d h1 h2)
  · obtain ⟨q1, q2, q3⟩ := r.smo b h
    exact ⟨q1, q2, hn b q3⟩
  · obtain ⟨q1, q2, o, q3, q4⟩ := r.tmo b h
    have nb : b ≠ a := fun e => na (by rw [← e]; exact .inr (.inr (.inl h)))
    exact ⟨q1, (h0 b).mp q2, o, k.ne b o nb q3, q4⟩
  · obtain ⟨more, e, h⟩ := r.pre
    exact ⟨more, e, fun b hb => (h0 b).mp (h b hb)⟩
  · obtain ⟨o, q1, q2⟩ := r.moT b h
    cases q : H0' b with
    | none => rw [(h0 b).mpr q] at q1; cases q1
    | some o' => exact ⟨o', q, q2⟩
  · obtain ⟨o, q⟩ := r.exT b h
    by_cases e : b = a
    · subst e
      rcases k.at2 with z | ⟨_, z⟩
      · exact ⟨_, z⟩
      · exact ⟨_, z⟩
    · exact ⟨o, k.ne b o e q⟩
  · obtain ⟨b, cls, dx, q1, q2, x1, x2, x3⟩ := r.exs i ex h
    refine ⟨b, cls, dx, q1, q2, x1, x2, fun d hd => ?_⟩
    obtain ⟨ws, z1, z2, z3⟩ := x3 d hd
    exact ⟨ws, k.off z1 (by intro z; cases z) (by intro _ _ z; cases z), z2, RepF.chg k z3⟩
/-- the picture of the entry while a is locked -/
def lkH (H0 : Hp) (a : Addr) (z : HO) : Hp := fun b => if b = a then (match H0 a with | some _ => some z | none => none) else H0 b
theorem lkH_none {H0 : Hp} {z : HO} (b : Addr) : H0 b = none ↔ lkH H0 a z b = none := by
  unfold lkH
  by_cases e : b = a
  · subst e; cases H0 b <;> simp
  · simp [e]
theorem chg_lock {od : Obj} (hd : H a = some (.dK vs)) : Chg a vs H (upd H a (.frz od (.dK vs))) := ⟨fun b o n h => by rw [upd_ne n]; exact h, .inl hd, .inr ⟨od, upd_same⟩⟩
theorem chg_unlock {od : Obj} (hd : H a = some (.frz od (.dK vs))) : Chg a vs H (upd H a (.dK vs)) := ⟨fun b o n h => by rw [upd_ne n]; exact h, .inr ⟨od, hd⟩, .inl upd_same⟩
theorem R.lock {od : Obj} (r : R c F g σ H ρ S) (hd : H a = some (.dK vs)) (na : ¬ MU F g σ ρ a) : R c (reF F (lkH F.H0 a (.frz od (.dK vs)))) g σ (upd H a (.frz od (.dK vs))) ρ S := by
  refine r.chg (chg_lock hd) na lkH_none fun b o h n => ?_
  unfold lkH at h
  by_cases e : b = a
  · subst e
    rw [upd_same]
    simp only [if_true] at h
    cases q : F.H0 b with
    | none => rw [q] at h; cases h
    | some o' => rw [q] at h; exact h
  · rw [if_neg e] at h
    rw [upd_ne e]; exact r.keep b o h n
theorem R.unlock {od : Obj} (r : R c F g σ H ρ S) (hd : H a = some (.dK vs)) (na : ¬ MU F g σ ρ a) (r2 : R c (reF F (lkH F.H0 a (.frz od (.dK vs)))) g2 σ2 H2 ρ2 S2)
    (st : Stp (reF F (lkH F.H0 a (.frz od (.dK vs)))) g σ ρ (upd H a (.frz od (.dK vs))) g2 σ2 ρ2 H2) :
    H2 a = some (.frz od (.dK vs)) ∧ R c F g2 σ2 (upd H2 a (.dK vs)) ρ2 S2 ∧ Stp F g σ ρ H g2 σ2 ρ2 (upd H2 a (.dK vs)) ∧ ∀ d v, Rep c g2.sm (MU F g2 σ2 ρ2) H2 d v → Rep c g2.sm (MU F g2 σ2 ρ2) (upd H2 a (.dK vs)) d v := by
  have na' : ¬ MU (reF F (lkH F.H0 a (.frz od (.dK vs)))) g σ ρ a := na
  have h2 : H2 a = some (.frz od (.dK vs)) := st.ext.keep a _ upd_same na'
  have na2 : ¬ MU (reF F (lkH F.H0 a (.frz od (.dK vs)))) g2 σ2 ρ2 a := st.ext.nm upd_same na'
  refine ⟨h2, ?_, ⟨st.tm, st.ext.sm, fun b o h n => ?_, fun b h => ?_⟩, fun d v h => Rep.chg (chg_unlock h2) h⟩
  · have := r2.chg (H0' := F.H0) (chg_unlock h2) na2 (fun b => (lkH_none b).symm) fun b o h n => ?_
    · exact this
    · by_cases e : b = a
      · subst e
        have := r.keep b o h n
        rw [hd] at this; cases this
        exact upd_same
      · rw [upd_ne e]
        refine r2.keep b o ?_ n
        show lkH F.H0 a (.frz od (.dK vs)) b = some o
        unfold lkH
        rw [if_neg e]; exact h
  · by_cases e : b = a
    · subst e
      rw [hd] at h; cases h
      exact upd_same
    · rw [upd_ne e]
      exact st.ext.keep b o (by rw [upd_ne e]; exact h) n
  · rcases st.ext.old b h with z | z
    · exact .inl z
    · by_cases e : b = a
      · subst e; rw [upd_same] at z; cases z
      · rw [upd_ne e] at z; exact .inr z
end
theorem RepK.keys {c : Cf} {sm : List Addr} {M : Addr → Prop} {H : Hp} : ∀ {ds : List (Key × D)} {vs : List (Key × V)}, RepK c sm M H ds vs → ds.map (·.1) = vs.map (·.1)
  | [], _, h => by simp only [RepK] at h; subst h; rfl
  | (k, d) :: ds, vs, h => by
    simp only [RepK] at h
    obtain ⟨x, r, e1, _, h2⟩ := h
    subst e1
    simp [h2.keys]
theorem rep_kV {c : Cf} {sm : List Addr} {M : Addr → Prop} {H : Hp} (k : Key) : Rep c sm M H (kD k) (kV k) := by
  cases k <;> simp only [kD, kV, Rep]
/-- for x in d: .., d the dict of a slot; no exception leaves the body -/
def wForK (i : Nat) (t : Tg) (wb : TVS) : TVS := fun ρ S Q _ => match ρ[i]? with
  | some (.v (.dic kvs)) => forGo GdT t wb (kvs.map fun kv => kD kv.1) ρ S Q (fun _ _ _ => False)
  | _ => False
abbrev yF (Y : VC) (F : Fr) : VC := ⟨Y.X, Y.c, F, fun _ _ _ _ => False⟩
section
variable {Y : VC} {tg : Expr} {body : List Stmt} {t : Tg} {wb : TVS} {pos p : Pos} {x : Str} {i : Nat}
/-- the turns over a locked dict -/
theorem for_keys {F : Fr} {g : Gs} {σ : St} {H : Hp} {ρ : En} {S : Sto} {a : Addr} {od : Obj} {vs : List (Key × V)} {kvs : List (Key × D)} {Qv : Out → En → Sto → Prop} {E : Ends} (r : R Y.c F g σ H ρ S) (ha : H a = some (.frz od (.dK vs))) (na : ¬ MU F g σ ρ a) (hσ : σ[i]? = some (some (V.ref a))) (rk : RepK Y.c g.sm (MU F g σ ρ) H kvs vs)
    (q : forGo GdT t wb (kvs.map fun kv => kD kv.1) ρ S Qv (fun _ _ _ => False)) (sc : SC (yF Y F) g σ ρ H Qv E) :
    tFor (iKeys (tVar i)) (fun v σ H Q => ∃ F, LG (yF Y F) t v σ H Q) (fun D σ H => ∃ F, LS (yF Y F) wb D σ H) E σ H := by
  have hl : kvs.length = vs.length := rk.length
  have hk := rk.keys
  generalize hds : (kvs.map fun kv => kD kv.1) = ds at q
  have hdl : ds.length = vs.length := by rw [← hds, List.length_map]; exact hl
  have hdi : ∀ (j : Nat) (k : Key) (v : V), vs[j]? = some (k, v) → ds[j]? = some (kD k) := fun j k v h => by
    have h1 : (vs.map (·.1))[j]? = some k := by rw [List.getElem?_map, h]; rfl
    rw [← hk, List.getElem?_map] at h1
    rw [← hds, List.getElem?_map]
    cases e : kvs[j]? with
    | none => rw [e] at h1; cases h1
    | some z => rw [e] at h1; cases h1; rfl
  refine ⟨.ref a, hσ, a, od, rfl, .inl ⟨vs, ha, ?_⟩⟩
  have noE : ∀ {g' : Gs} {σ' : St} {ρ' : En} {H' : Hp}, EC (yF Y F) g' σ' ρ' H' (fun _ _ _ => False) := fun {g' σ' ρ' H'} _ _ _ _ _ _ _ _ _ _ _ h => h
  refine ⟨fun j m σ2 H2 => m + j = ds.length ∧ ∃ g2 ρ2 S2, R Y.c F g2 σ2 H2 ρ2 S2 ∧ Stp F g σ ρ H g2 σ2 ρ2 H2 ∧ forGo GdT t wb (ds.drop j) ρ2 S2 Qv (fun _ _ _ => False), ⟨ds.length, rfl, g, ρ, S, r, .refl, by simpa using q⟩, ?_⟩
  rintro j m σ2 H2 ⟨hm, g2, ρ2, S2, r2, st2, q2⟩
  have h2 : H2 a = some (.frz od (.dK vs)) := st2.ext.keep a _ ha na
  by_cases hj : j < ds.length
  · refine .inr ⟨⟨h2, by omega⟩, fun σ3 H3 => ∃ g3 ρ3 S3, R Y.c F g3 σ3 H3 ρ3 S3 ∧ Stp F g σ ρ H g3 σ3 ρ3 H3 ∧ forGo GdT t wb (ds.drop (j + 1)) ρ3 S3 Qv (fun _ _ _ => False), fun σ3 H3 q3 => ⟨m - 1, by omega, by omega, q3⟩, fun x H3 y3 => ?_⟩
    obtain ⟨e3, k, v, hv, ex⟩ := y3
    subst e3 ex
    have e1 : ds.drop j = kD k :: ds.drop (j + 1) := by
      rw [List.drop_eq_getElem_cons hj]
      have := hdi j k v hv
      rw [List.getElem?_eq_getElem hj] at this
      rw [Option.some.inj this]
    rw [e1] at q2
    obtain ⟨_, ρ3, hb3, q3⟩ := q2
    refine ⟨F, g2, ρ2, S2, kD k, ρ3, r2, rep_kV k, hb3, fun σ4 r4 st4 _ => ?_⟩
    have s4 := st2.trans st4
    exact ⟨F, g2, ρ3, S2, _, _, r4, q3, noE, ⟨fun σ5 H5 g5 ρ5 S5 r5 st5 q5 => ⟨g5, ρ5, S5, r5, s4.trans st5, q5⟩, fun σ5 H5 g5 ρ5 S5 r5 st5 q5 => sc.nx σ5 H5 g5 ρ5 S5 r5 (s4.trans st5) q5,
      fun σ5 H5 g5 ρ5 S5 r5 st5 q5 => ⟨g5, ρ5, S5, r5, s4.trans st5, q5⟩, fun v σ5 H5 g5 ρ5 S5 d r5 st5 rp5 q5 => sc.rt v σ5 H5 g5 ρ5 S5 d r5 (s4.trans st5) rp5 q5⟩⟩
  · have hj' : j = ds.length := by omega
    subst hj'
    refine .inl ⟨⟨h2, by omega⟩, ?_⟩
    rw [List.drop_length] at q2
    exact sc.nx σ2 H2 g2 ρ2 S2 r2 st2 q2.2
theorem vs_forK (hp : PassesOwn (model Y.X.prog Y.X.w) Y.X.A Y.X.env Y.X.xe) (hc : Y.X.calm = true) (hN : Y.X.N[i]? = some x) (hv : Vis Y.X.env.scope x) (hd : (x == ("__debug__" : Str)) = false := by decide) (hcd : (x == ("__classdict__" : Str)) = false := by decide)
    (hg : ∀ F, VG (yF Y F) tg t) (hb : ∀ F, VSs (yF Y F) body wb) (hs : ∀ z, foldedSetIterable (.Name x p) Y.X.env z = pure z := by intro _; rfl) : VS Y (.For tg (.Name x p) body [] pos) (wForK i t wb) := by
  have base : PS Y.X (.For tg (.Name x p) body [] pos) (tFor (iKeys (tVar i)) (fun v σ H Q => ∃ F, LG (yF Y F) t v σ H Q) (fun D σ H => ∃ F, LS (yF Y F) wb D σ H)) :=
    ps_for hp hc (pi_keys (pe_var hN hv hd hcd)) ⟨fun pins s' σ' H' v u Q I rv ⟨F, h⟩ => (hg F).run pins s' σ' H' v u Q I rv h⟩ ⟨fun pins s' σ' H' D I ⟨F, h⟩ => (hb F).run pins s' σ' H' D I h⟩ hs
  have lk := ps_lock base
  refine ⟨fun pins s σ H E I ⟨g, ρ, S, Qv, Ev, r, hw, ec, sc⟩ => ?_⟩
  unfold wForK at hw
  split at hw
  case h_2 => exact hw.elim
  rename_i kvs e
  obtain ⟨v, hσ, rp⟩ := r.val i _ e
  simp only [Rep] at rp
  obtain ⟨a, vs, ev, rd, na, rk⟩ := rp
  subst ev
  rcases rd with hda | ⟨od, hda⟩
  · refine lk.run pins s σ H E I ⟨a, _, hda, trivial, fun od => ?_⟩
    have r' := r.lock (od := od) hda na
    refine for_keys (F := reF Y.F (lkH Y.F.H0 a (.frz od (.dK vs)))) r' upd_same na hσ (RepK.chg (chg_lock hda) rk) hw ⟨fun σ2 H2 g2 ρ2 S2 r2 st2 q2 => ?_, fun σ2 H2 g2 ρ2 S2 r2 st2 q2 => ?_, fun σ2 H2 g2 ρ2 S2 r2 st2 q2 => ?_, fun v σ2 H2 g2 ρ2 S2 d r2 st2 rp2 q2 => ?_⟩
    · obtain ⟨u1, u2, u3, u4⟩ := r.unlock hda na r2 st2
      exact ⟨u1, sc.nx _ _ _ _ _ u2 u3 q2⟩
    · obtain ⟨u1, u2, u3, u4⟩ := r.unlock hda na r2 st2
      exact ⟨u1, sc.bk _ _ _ _ _ u2 u3 q2⟩
    · obtain ⟨u1, u2, u3, u4⟩ := r.unlock hda na r2 st2
      exact ⟨u1, sc.ct _ _ _ _ _ u2 u3 q2⟩
    · obtain ⟨u1, u2, u3, u4⟩ := r.unlock hda na r2 st2
      exact ⟨u1, sc.rt _ _ _ _ _ _ _ u2 u3 (u4 _ _ rp2) q2⟩
  · refine base.run pins s σ H E I (for_keys (F := Y.F) r hda na hσ rk hw ⟨sc.nx, sc.bk, sc.ct, sc.rt⟩)
end
/-- the keys of the dict of a slot -/
def wItK (i : Nat) : TVI := fun ρ S Q _ => match ρ[i]? with
  | some (.v (.dic kvs)) => Q (kvs.map fun kv => kD kv.1) GdT ρ S
  | _ => False
section
variable {c : Cf} {F : Fr} {g g2 : Gs} {σ σ2 : St} {H H2 : Hp} {ρ ρ2 : En} {S S2 : Sto} {a : Addr} {vs : List (Key × V)}
theorem R.unlockE {od : Obj} (r : R c F g σ H ρ S) (hd : H a = some (.dK vs)) (na : ¬ MU F g σ ρ a) (r2 : R c (reF F (lkH F.H0 a (.frz od (.dK vs)))) g2 σ2 H2 ρ2 S2)
    (st : Ext g.sm (MU F g σ ρ) (upd H a (.frz od (.dK vs))) g2.sm (MU F g2 σ2 ρ2) H2) :
    H2 a = some (.frz od (.dK vs)) ∧ R c F g2 σ2 (upd H2 a (.dK vs)) ρ2 S2 ∧ Ext g.sm (MU F g σ ρ) H g2.sm (MU F g2 σ2 ρ2) (upd H2 a (.dK vs)) ∧ ¬ MU F g2 σ2 ρ2 a := by
  have h2 : H2 a = some (.frz od (.dK vs)) := st.keep a _ upd_same na
  have na2 : ¬ MU F g2 σ2 ρ2 a := st.nm upd_same na
  refine ⟨h2, ?_, ⟨st.sm, fun b o h n => ?_, fun b h => ?_⟩, na2⟩
  · have na2' : ¬ MU (reF F (lkH F.H0 a (.frz od (.dK vs)))) g2 σ2 ρ2 a := na2
    have := r2.chg (H0' := F.H0) (chg_unlock h2) na2' (fun b => (lkH_none b).symm) fun b o h n => ?_
    · exact this
    · by_cases e : b = a
      · subst e
        have := r.keep b o h n
        rw [hd] at this; cases this
        exact upd_same
      · rw [upd_ne e]
        refine r2.keep b o ?_ n
        show lkH F.H0 a (.frz od (.dK vs)) b = some o
        unfold lkH
        rw [if_neg e]; exact h
  · by_cases e : b = a
    · subst e
      rw [hd] at h; cases h
      exact upd_same
    · rw [upd_ne e]
      exact st.keep b o (by rw [upd_ne e]; exact h) n
  · rcases st.old b h with z | z
    · exact .inl z
    · by_cases e : b = a
      · subst e; rw [upd_same] at z; cases z
      · rw [upd_ne e] at z; exact .inr z
end
section
variable {Y : VC} {t : Tg} {i : Nat}
theorem io_keys {F : Fr} {g : Gs} {σ : St} {H : Hp} {ρ : En} {a : Addr} {od : Obj} {vs : List (Key × V)} {kvs : List (Key × D)} (ha : H a = some (.frz od (.dK vs))) (na : ¬ MU F g σ ρ a) (rk : RepK Y.c g.sm (MU F g σ ρ) H kvs vs) :
    IterOk (yF Y F) (Itk a od vs) (kvs.map fun kv => kD kv.1) GdT g σ ρ H := by
  intro σ' H' g' ρ' S' r ex _ j
  have h' : H' a = some (.frz od (.dK vs)) := ex.keep a _ ha na
  have hl : kvs.length = vs.length := rk.length
  have hk := rk.keys
  rw [List.length_map]
  refine ⟨fun hj => ⟨⟨h', by omega⟩, fun x H3 y => ?_⟩, fun hj => ⟨h', by omega⟩⟩
  obtain ⟨e3, k, v, hv, ek⟩ := y
  subst e3 ek
  refine ⟨fun _ _ z => z, kD k, ?_, rep_kV k⟩
  have h1 : (vs.map (·.1))[j]? = some k := by rw [List.getElem?_map, hv]; rfl
  rw [← hk, List.getElem?_map] at h1
  rw [List.getElem?_map]
  cases e : kvs[j]? with
  | none => rw [e] at h1; cases h1
  | some z => rw [e] at h1; cases h1; rfl
theorem li_keys {F : Fr} {σ : St} {H : Hp} {a : Addr} {od : Obj} {vs : List (Key × V)} {K : It → Hp → Prop} (ha : H a = some (.frz od (.dK vs))) (hσ : σ[i]? = some (some (V.ref a))) (h : LI (yF Y F) (wItK i) σ H K) : iKeys (tVar i) σ H K := by
  obtain ⟨g, ρ, S, Qv, Ev, r, hw, ec, hq⟩ := h
  unfold wItK at hw
  split at hw
  case h_2 => exact hw.elim
  rename_i kvs e
  obtain ⟨v, hv, rp⟩ := r.val i _ e
  rw [hσ] at hv
  cases hv
  simp only [Rep] at rp
  obtain ⟨a', vs', ev, rd, na, rk⟩ := rp
  cases ev
  have hvs : HO.dK vs = HO.dK vs' := rd_inj (by intro _ _ z; cases z) (by intro _ _ z; cases z) (.inr ⟨od, ha⟩) rd
  cases hvs
  exact ⟨.ref a, hσ, a, od, rfl, .inl ⟨vs, ha, hq _ H g ρ S _ _ r .refl (io_keys ha na rk) hw⟩⟩
variable {elt tg : Expr} {ifs : List Expr} {scope : Scope} {own : List (Str × Nat)} {pos p : Pos} {x : Str} {wt : TVT} {we : TV}
theorem vf_compK (hc : Y.X.calm = true) (hNd : Y.X.N.Nodup) (hN : Y.X.N[i]? = some x) (hv : Vis Y.X.env.scope x) (ok : BlkOk Y.X.N Y.X.env.scope scope own) (htg : ∀ j ∈ tgIx t, j ∈ own.map (·.2))
    (hg : ∀ (s : Shared) (H : Hp) (C : Addr) (cl : List (Str × Addr)) (fp : List Addr) (F : Fr), VG (Blk Y scope s H C cl fp F) tg t)
    (ht : ∀ (s : Shared) (H : Hp) (C : Addr) (cl : List (Str × Addr)) (fp : List Addr) (F : Fr), VTs (Blk Y scope s H C cl fp F) ifs wt)
    (he : ∀ (s : Shared) (H : Hp) (C : Addr) (cl : List (Str × Addr)) (fp : List Addr) (F : Fr), VE (Blk Y scope s H C cl fp F) elt we)
    (hd : (x == ("__debug__" : Str)) = false := by decide) (hcd : (x == ("__classdict__" : Str)) = false := by decide) (hs : ∀ z, foldedSetIterable (.Name x p) Y.X.env z = pure z := by intro _; rfl) :
    VF Y (.ListComp elt [⟨tg, .Name x p, ifs, 0⟩] scope pos) (wComp (wItK i) t (own.map (·.2)) wt we) := by
  have base := pe_lc (X := Y.X) (scope := scope) (pos := pos) (g := fun v σ H Q => ∃ F, LG ⟨Y.X, Y.c, F, fun _ _ _ _ => False⟩ t v σ H Q) (tt := fun σ H Q => ∃ F, LT ⟨Y.X, Y.c, F, fun _ _ _ _ => False⟩ wt σ H Q) (te := fun σ H Q => ∃ F, LE ⟨Y.X, Y.c, F, fun _ _ _ _ => False⟩ we σ H Q) hc hNd (pi_keys (tg := tg) (pe_var (pos := p) hN hv hd hcd)) ok
    (fun s H C cl fp => ⟨fun pins s' σ' H' v u Q I rv ⟨F, h⟩ => (hg s H C cl fp F).run pins s' σ' H' v u Q I rv h⟩)
    (fun s H C cl fp => ⟨fun pins s' σ' H' Q I ⟨F, h⟩ => (ht s H C cl fp F).run pins s' σ' H' Q I h⟩)
    (fun s H C cl fp => ⟨fun pins s' σ' H' Q I ⟨F, h⟩ => (he s H C cl fp F).run pins s' σ' H' Q I h⟩) hs
  have lk := pe_lock base
  refine ⟨fun pins s σ H Q I ⟨g, ρ, S, Qv, Ev, r, hw, ec, hq⟩ => ?_⟩
  have hw0 := hw
  unfold wComp wItK at hw
  split at hw
  case h_2 => exact hw.elim
  rename_i kvs e
  obtain ⟨v, hσ, rp⟩ := r.val i _ e
  simp only [Rep] at rp
  obtain ⟨a, vs, ev, rd, na, rk⟩ := rp
  subst ev
  have noE : ∀ {F : Fr} {g' : Gs} {σ' : St} {ρ' : En} {H' : Hp}, EC (yF Y F) g' σ' ρ' H' (fun _ _ _ => False) := fun {F g' σ' ρ' H'} _ _ _ _ _ _ _ _ _ _ _ h => h
  have hwE : wComp (wItK i) t (own.map (·.2)) wt we ρ S Qv (fun _ _ _ => False) := by
    unfold wComp wItK
    rw [e]; exact hw
  rcases rd with hda | ⟨od, hda⟩
  · refine lk.run pins s σ H Q I ⟨a, _, hda, trivial, fun od => ?_⟩
    have r' := r.lock (od := od) hda na
    have h := lc_te (Y := yF Y (reF Y.F (lkH Y.F.H0 a (.frz od (.dK vs))))) (wi := wItK i) (t := t) (own := own) (wt := wt) (we := we) (Q := fun v H' => H' a = some (.frz od (.dK vs)) ∧ Q v (upd H' a (.dK vs))) htg ⟨g, ρ, S, Qv, _, r', hwE, noE, fun a' H' sm ρ' S' d r2 ext ow q => ?_⟩ (fun σ H Q => ∃ F, LE ⟨Y.X, Y.c, F, fun _ _ _ _ => False⟩ we σ H Q) (fun v σ H Q => ∃ F, LG ⟨Y.X, Y.c, F, fun _ _ _ _ => False⟩ t v σ H Q) (fun σ H Q => ∃ F, LT ⟨Y.X, Y.c, F, fun _ _ _ _ => False⟩ wt σ H Q)
      (fun F _ _ _ _ h => ⟨F, h⟩) (fun F _ _ _ h => ⟨F, h⟩) (fun F _ _ _ h => ⟨F, h⟩)
    · exact li_keys upd_same hσ h
    · obtain ⟨u1, u2, u3, u4⟩ := R.unlockE (g2 := ⟨sm, a' :: g.tm⟩) r hda na r2 ext
      have hne : a' ≠ a := fun z => u4 (by rw [← z]; exact .inr (.inr (.inl List.mem_cons_self)))
      exact ⟨u1, hq a' _ sm ρ' S' d u2 u3 (Own.chg (chg_unlock u1) hne ow) q⟩
  · have h := lc_te (Y := yF Y Y.F) (wi := wItK i) (t := t) (own := own) (wt := wt) (we := we) (Q := Q) htg ⟨g, ρ, S, Qv, _, r, hwE, noE, hq⟩ (fun σ H Q => ∃ F, LE ⟨Y.X, Y.c, F, fun _ _ _ _ => False⟩ we σ H Q) (fun v σ H Q => ∃ F, LG ⟨Y.X, Y.c, F, fun _ _ _ _ => False⟩ t v σ H Q) (fun σ H Q => ∃ F, LT ⟨Y.X, Y.c, F, fun _ _ _ _ => False⟩ wt σ H Q)
      (fun F _ _ _ _ h => ⟨F, h⟩) (fun F _ _ _ h => ⟨F, h⟩) (fun F _ _ _ h => ⟨F, h⟩)
    exact base.run pins s σ H Q I (li_keys hda hσ h)
end
end VL

set_option Elab.async false
set_option linter.all false
set_option autoImplicit false
set_option maxRecDepth 100000
/-! VLLend: an own dict lent to an expression; a call whose result is new. -/
namespace VL
open PySem PySem.Spec PyProof.Rows L2
mutual
/-- no dict within -/
def nd : D → Bool
  | .tup l => nds l
  | .lst l => nds l
  | .dic _ => false
  | .obj _ fs => ndF fs
  | _ => true
def nds : List D → Bool
  | [] => true
  | d :: l => nd d && nds l
def ndF : List (String × D) → Bool
  | [] => true
  | f :: l => nd f.2 && ndF l
end
/-- what a thing that may change has within -/
def ndC : D → Bool
  | .lst l => nds l
  | .dic l => l.all fun kv => nd kv.2
  | .obj _ fs => ndF fs
  | _ => true
def ndSl : Sl → Bool
  | .o d => ndC d
  | _ => true
section
variable {c : Cf} {sm : List Addr} {M M' : Addr → Prop} {H : Hp}
mutual
theorem Rep.up (h : ∀ b, M' b → M b ∨ ∃ u, H b = some (.dK u)) : ∀ {d : D} {v : V}, nd d = true → Rep c sm M H d v → Rep c sm M' H d v
  | .non, _, _, q => q
  | .bl _, _, _, q => q
  | .int _, _, _, q => q
  | .str _, _, _, q => q
  | .ref _, _, _, q => q
  | .cls _, _, _, q => q
  | .dic _, _, e, _ => by simp [nd] at e
  | .tup ds, v, e, q => by
    simp only [Rep, nd] at q e ⊢
    obtain ⟨a, vs, e1, r, n, q⟩ := q
    refine ⟨a, vs, e1, r, fun z => ?_, Reps.up h e q⟩
    rcases h a z with z | ⟨u, z⟩
    · exact n z
    · rw [r] at z; cases z
  | .lst ds, v, e, q => by
    simp only [Rep, nd] at q e ⊢
    obtain ⟨a, vs, e1, r, n, q⟩ := q
    refine ⟨a, vs, e1, r, fun z => ?_, Reps.up h e q⟩
    rcases h a z with z | ⟨u, z⟩
    · exact n z
    · rw [r] at z; cases z
  | .obj cl fs, v, e, q => by
    simp only [Rep, nd] at q e ⊢
    obtain ⟨a, dx, vs, e1, r, n, g, q⟩ := q
    refine ⟨a, dx, vs, e1, r, fun z => ?_, g, RepF.up h e q⟩
    rcases h a z with z | ⟨u, z⟩
    · exact n z
    · rw [r] at z; cases z
  | .scr ns, v, e, q => by
    simp only [Rep] at q ⊢
    obtain ⟨a, e1, q⟩ := q
    refine ⟨a, e1, ?_⟩
    rcases q with ⟨r, n⟩ | q
    · refine .inl ⟨r, fun z => ?_⟩
      rcases h a z with z | ⟨u, z⟩
      · exact n z
      · rcases r with r | ⟨o, r⟩ <;> (rw [r] at z; cases z)
    · exact .inr q
theorem Reps.up (h : ∀ b, M' b → M b ∨ ∃ u, H b = some (.dK u)) : ∀ {ds : List D} {vs : List V}, nds ds = true → Reps c sm M H ds vs → Reps c sm M' H ds vs
  | [], _, _, q => q
  | d :: ds, vs, e, q => by
    simp only [Reps, nds, Bool.and_eq_true] at q e ⊢
    obtain ⟨x, r, e1, h1, h2⟩ := q
    exact ⟨x, r, e1, Rep.up h e.1 h1, Reps.up h e.2 h2⟩
theorem RepF.up (h : ∀ b, M' b → M b ∨ ∃ u, H b = some (.dK u)) : ∀ {ds : List (String × D)} {vs : List (Str × V)}, ndF ds = true → RepF c sm M H ds vs → RepF c sm M' H ds vs
  | [], _, _, q => q
  | (k, d) :: ds, vs, e, q => by
    simp only [RepF, ndF, Bool.and_eq_true] at q e ⊢
    obtain ⟨x, r, e1, h1, h2⟩ := q
    exact ⟨x, r, e1, Rep.up h e.1 h1, RepF.up h e.2 h2⟩
end
theorem RepK.up (h : ∀ b, M' b → M b ∨ ∃ u, H b = some (.dK u)) : ∀ {ds : List (Key × D)} {vs : List (Key × V)}, (ds.all fun kv => nd kv.2) = true → RepK c sm M H ds vs → RepK c sm M' H ds vs
  | [], _, _, q => q
  | (k, d) :: ds, vs, e, q => by
    simp only [RepK, List.all_cons, Bool.and_eq_true] at q e ⊢
    obtain ⟨x, r, e1, h1, h2⟩ := q
    exact ⟨x, r, e1, Rep.up h e.1 h1, RepK.up h e.2 h2⟩
theorem Own.up (h : ∀ b, M' b → M b ∨ ∃ u, H b = some (.dK u)) {a : Addr} : ∀ {d : D}, ndC d = true → Own c sm M H a d → Own c sm M' H a d := fun {d} e q => by
  cases d <;> simp only [Own, ndC] at q e ⊢
  · obtain ⟨vs, q1, q2⟩ := q; exact ⟨vs, q1, Reps.up h e q2⟩
  · obtain ⟨vs, q1, q2⟩ := q; exact ⟨vs, q1, RepK.up h e q2⟩
  · obtain ⟨dx, vs, q1, g, q2⟩ := q; exact ⟨dx, vs, q1, g, RepF.up h e q2⟩
end
section
variable {c : Cf} {F : Fr} {g g2 : Gs} {σ σ2 : St} {H H2 : Hp} {ρ ρ2 : En} {S S2 : Sto} {i : Nat} {kvs : List (Key × D)} {a : Addr}
theorem mu_frz {d : D} (hi : ρ[i]? = some (Sl.o d)) : ∀ b, MU F g σ (ρ.set i (.v d)) b → MU F g σ ρ b := fun b m => by
  rcases m with m | m | m | ⟨j, e, h1, h2⟩
  · exact .inl m
  · exact .inr (.inl m)
  · exact .inr (.inr (.inl m))
  · by_cases hj : i = j
    · subst hj
      rw [List.getElem?_set_self (List.getElem?_eq_some_iff.mp hi).1] at h1
      cases h1
    · rw [List.getElem?_set_ne hj] at h1
      exact .inr (.inr (.inr ⟨j, e, h1, h2⟩))
/-- .. and let go again -/
theorem R.thaw (r : R c F g σ H ρ S) (hi : ρ[i]? = some (.o (.dic kvs))) (r2 : R c F g2 σ H2 (ρ.set i (.v (.dic kvs))) S2) (st : Ext g.sm (MU F g σ (ρ.set i (.v (.dic kvs)))) H g2.sm (MU F g2 σ (ρ.set i (.v (.dic kvs)))) H2)
    (nS : (S2.all ndC) = true) (nρ : (ρ.all ndSl) = true) :
    R c F g2 σ H2 ρ S2 ∧ Ext g.sm (MU F g σ ρ) H g2.sm (MU F g2 σ ρ) H2 ∧ ∀ b, MU F g2 σ ρ b → MU F g2 σ (ρ.set i (.v (.dic kvs))) b ∨ ∃ u, H2 b = some (.dK u) := by
  have il : i < ρ.length := (List.getElem?_eq_some_iff.mp hi).1
  obtain ⟨a, ha, oa⟩ := r.own i _ hi
  have nma : ¬ MU F g σ (ρ.set i (.v (.dic kvs))) a := by
    obtain ⟨_, _, x, hx, rp⟩ := r.freeze hi
    rw [ha] at hx; cases hx
    simp only [Rep] at rp
    obtain ⟨_, _, e, _, n, _⟩ := rp
    cases e; exact n
  obtain ⟨vs, hva, rk⟩ : ∃ vs, H a = some (.dK vs) ∧ RepK c g.sm (MU F g σ ρ) H kvs vs := by simpa only [Own] using oa
  have h2a : H2 a = some (.dK vs) := st.keep a _ hva nma
  have nma2 := st.nm hva nma
  have mu2 : ∀ b, MU F g2 σ ρ b → MU F g2 σ (ρ.set i (.v (.dic kvs))) b ∨ b = a := fun b m => by
    rcases m with m | m | m | ⟨j, e, h1, h2⟩
    · exact .inl (.inl m)
    · exact .inl (.inr (.inl m))
    · exact .inl (.inr (.inr (.inl m)))
    · by_cases hj : i = j
      · subst hj
        rw [ha] at h2; cases h2
        exact .inr rfl
      · exact .inl (.inr (.inr (.inr ⟨j, e, by rw [List.getElem?_set_ne hj]; exact h1, h2⟩)))
  have up : ∀ b, MU F g2 σ ρ b → MU F g2 σ (ρ.set i (.v (.dic kvs))) b ∨ ∃ u, H2 b = some (.dK u) := fun b m => (mu2 b m).imp_right fun e => by subst e; exact ⟨vs, h2a⟩
  have mui : ∀ b, b = a → MU F g σ ρ b := fun b e => by subst e; exact .inr (.inr (.inr ⟨i, _, hi, ha⟩))
  have ex : Ext g.sm (MU F g σ ρ) H g2.sm (MU F g2 σ ρ) H2 := by
    refine ⟨st.sm, fun b o h n => st.keep b o h fun z => n (mu_frz hi b z), fun b h => ?_⟩
    rcases mu2 b h with z | z
    · exact (st.old b z).imp_left (mu_frz hi b)
    · exact .inl (mui b z)
  have nown : ∀ (j : Nat) (d : D), ρ[j]? = some (.o d) → ndC d = true := fun j d h => List.all_eq_true.mp nρ (.o d) (List.mem_of_getElem? h)
  refine ⟨⟨by rw [← r2.len]; simp, fun j d h => ?_, fun j d h => ?_, r.inj, fun j d b h1 h2 => ?_, ⟨r2.sto.1, fun n b d h1 h2 => (r2.sto.2 n b d h1 h2).up up (List.all_eq_true.mp nS d (List.mem_of_getElem? h2))⟩, r2.smn, r2.smo, r2.tmo, r2.tmn, r2.pre, r2.keep, r2.moT, r2.exT, r.fx, r.xe ex⟩, ex, up⟩
  · obtain ⟨x, h1, h2⟩ := r.val j d h
    exact ⟨x, h1, h2.ext ex⟩
  · by_cases hj : i = j
    · subst hj
      rw [hi] at h; cases h
      exact ⟨a, ha, oa.ext ex fun o ho => by rw [hva] at ho; cases ho; exact h2a⟩
    · obtain ⟨b, h1, h2⟩ := r2.own j d (by rw [List.getElem?_set_ne hj]; exact h)
      exact ⟨b, h1, h2.up up (nown j d h)⟩
  · by_cases hj : i = j
    · subst hj
      rw [hi] at h1; cases h1
      obtain ⟨q1, q2, q3, q4⟩ := r.sep i _ b hi h2
      rw [ha] at h2; cases h2
      exact ⟨q1, fun z => nma2 (.inr (.inl z)), fun z => nma2 (.inr (.inr (.inl z))), q4⟩
    · exact r2.sep j d b (by rw [List.getElem?_set_ne hj]; exact h1) h2
end
/-- the dict of slot i is held still while w runs -/
def wLend (i : Nat) (w : TV) : TV := fun ρ S Q _ => match ρ[i]? with
  | some (.o (.dic kvs)) => (ρ.all ndSl) = true ∧ w (ρ.set i (.v (.dic kvs))) S (fun d ρ1 S1 => ρ1 = ρ.set i (.v (.dic kvs)) ∧ nd d = true ∧ (S1.all ndC) = true ∧ Q d ρ S1) (fun _ _ _ => False)
  | _ => False
section
variable {Y : VC} {e : Expr} {w : TV}
theorem ve_lend (i : Nat) (h : VE Y e w) : VE Y e (wLend i w) := PE.imp h fun σ H Q ⟨g, ρ, S, Qv, Ev, r, hw, ec, hq⟩ => by
  unfold wLend at hw
  split at hw
  case h_2 => exact hw.elim
  rename_i kvs hi
  obtain ⟨nρ, hw⟩ := hw
  refine ⟨g, _, S, _, _, (r.freeze hi).1, hw, fun _ _ _ _ _ _ _ _ _ _ _ z => z.elim, fun v H' g' ρ' S' d r' st rp ⟨e1, n1, n2, q⟩ => ?_⟩
  subst e1
  obtain ⟨t1, t2, t3⟩ := r.thaw hi r' st.ext n2 nρ
  exact hq v H' g' ρ S' d t1 ⟨st.tm, t2⟩ (Rep.up t3 n1 rp) q
end
/-- .. where what comes is new -/
def wLendF (i : Nat) (w : TV) : TV := fun ρ S Q _ => match ρ[i]? with
  | some (.o (.dic kvs)) => (ρ.all ndSl) = true ∧ w (ρ.set i (.v (.dic kvs))) S (fun d ρ1 S1 => ρ1 = ρ.set i (.v (.dic kvs)) ∧ ndC d = true ∧ (S1.all ndC) = true ∧ Q d ρ S1) (fun _ _ _ => False)
  | _ => False
section
variable {Y : VC} {e : Expr} {w : TV}
theorem vf_lend (i : Nat) (h : VF Y e w) : VF Y e (wLendF i w) := PE.imp h fun σ H Q ⟨g, ρ, S, Qv, Ev, r, hw, ec, hq⟩ => by
  unfold wLendF at hw
  split at hw
  case h_2 => exact hw.elim
  rename_i kvs hi
  obtain ⟨nρ, hw⟩ := hw
  refine ⟨g, _, S, _, _, (r.freeze hi).1, hw, fun _ _ _ _ _ _ _ _ _ _ _ z => z.elim, fun a H' sm ρ' S' d r' ex ow ⟨e1, n1, n2, q⟩ => ?_⟩
  subst e1
  obtain ⟨t1, t2, t3⟩ := r.thaw hi r' ex n2 nρ
  exact hq a H' sm ρ S' d t1 t2 (Own.up t3 n1 ow) q
end
/-! ### d.get(k, x) -/
def isDic (d : D) : Bool := match d with | .dic _ => true | _ => false
def dicOf (d : D) (P : List (Key × D) → Prop) : Prop := match d with | .dic kvs => P kvs | _ => False
def wDGet2 (wo : TVO) (wk wx : TV) : TV := fun ρ S Q E => wo ρ S (fun h ρ1 S1 => rsv ρ1 h fun d => isDic (dr S1 d) = true ∧ wk ρ1 S1 (fun kd ρ2 S2 => wx ρ2 S2 (fun x ρ3 S3 => rsv ρ3 h fun d => dicOf (dr S3 d) fun kvs => ∃ k, keyD kd = some k ∧ Q ((valD kvs k).getD x) ρ3 S3) E) E) E
section
variable {Y : VC} {o e f : Expr} {wo : TVO} {wk wx : TV} {apos cpos : Pos}
theorem ve_dget2 (hu : Y.X.A.units + 1 < cLine) (ho : VO Y o wo) (he : VE Y e wk) (hf : VE Y f wx) (m : M2 Y.X o "get" apos e f cpos := by exact ⟨rfl, rfl, rfl, rfl⟩) : VE Y (.Call (.Attribute o "get" apos) [e, f] [] cpos) (wDGet2 wo wk wx) :=
  PE.imp (pe_dget2 hu ho he hf m) fun σ H Q ⟨g, ρ, S, Qv, Ev, r, hw, ec, hq⟩ => ⟨g, ρ, S, _, Ev, r, hw, ec, fun v H1 g1 ρ1 S1 h r1 st1 hr1 q1 => by
    obtain ⟨d, b1, hd, q2⟩ := r1.rsv hr1 q1
    have b1 := r1.dr b1
    unfold isDic at hd
    split at hd
    case h_2 => cases hd
    rename_i kvs ed
    rw [ed] at b1
    obtain ⟨a, vs, ev, h1, _⟩ := b1.dic
    subst ev
    refine ⟨a, rfl, .inl ⟨vs, h1⟩, g1, ρ1, S1, _, Ev, r1, q2, ec.step st1, fun y H2 g2 ρ2 S2 kd r2 st2 rk q3 => ⟨g2, ρ2, S2, _, Ev, r2, q3, (ec.step st1).step st2, fun z H3 g3 ρ3 S3 x r3 st3 rx q4 => ?_⟩⟩
    obtain ⟨d3, b3, q5⟩ := r3.rsv ((hr1.ext st2.ext).ext st3.ext) q4
    have b3 := r3.dr b3
    unfold dicOf at q5
    split at q5
    case h_2 => exact q5.elim
    rename_i kvs3 e3
    rw [e3] at b3
    obtain ⟨kk, ek, q6⟩ := q5
    obtain ⟨p, vs3, ep, h3, rp⟩ := b3.dic
    cases ep
    have key := key_of (.inl (rk.ext st3.ext)) ek
    have st := (st1.trans st2).trans st3
    rcases rp.val kk with ⟨q1, q2⟩ | ⟨d', z', q1, q2, q3⟩
    · refine ⟨none, .inl ⟨vs3, kk, h3, key, q2.symm⟩, hq z H3 g3 ρ3 S3 x r3 st rx ?_⟩
      rw [q1] at q6; exact q6
    · refine ⟨some z', .inl ⟨vs3, kk, h3, key, q2.symm⟩, hq z' H3 g3 ρ3 S3 d' r3 st q3 ?_⟩
      rw [q1] at q6; exact q6⟩
end
/-! ### short forms -/
section
variable {Y : VC} {fa : String → Addr} {k : Nat} {T : Tab} {TI : String → FWI} {x : Str} {p pos p0 pos' apos cpos : Pos} {e f a ix value tg elt : Expr} {ifs : List Expr} {w wk wv we wx : TV} {wo : TVO} {wt : TVT} {w1 : TVS} {t : Tg} {body : List Stmt}
theorem Gd.yF (G : Gd Y fa k T TI) {F : Fr} : Gd (yF Y F) fa k T TI := by
  refine ⟨G.f0, G.f1, G.i0, G.hr0, ?_, G.cm, G.hK⟩
  rintro e s ⟨a, B, sI, pins, σ, H, cls, d, _, _, _, _, _, _, _, _, w⟩
  exact w.elim
theorem xforK (i : Nat) (G : Gd Y fa k T TI) (hg : ∀ F, VG (VL.yF Y F) tg t) (hb : ∀ F, Gd (VL.yF Y F) fa k T TI → VSs (VL.yF Y F) body w1) (hN : Y.X.N[i]? = some x := by rfl) (hv : visB Y.X.env.scope x = true := by kernel_rfl) (hd : (x == ("__debug__" : Str)) = false := by kernel_rfl) (hcd : (x == ("__classdict__" : Str)) = false := by kernel_rfl)
    (hp : PassesOwn (model Y.X.prog Y.X.w) Y.X.A Y.X.env Y.X.xe := by exact passes_of rfl) (hs : ∀ z, foldedSetIterable (.Name x p) Y.X.env z = pure z := by intro _; rfl) : VS Y (.For tg (.Name x p) body [] pos) (wForK i t w1) :=
  vs_forK hp G.cm hN (vis_of hv) hd hcd hg (fun F => hb F G.yF) hs
theorem xcompK {scope : Scope} (i : Nat) (own : List (Str × Nat)) (G : Gd Y fa k T TI)
    (hg : ∀ (s : Shared) (H : Hp) (C : Addr) (cl : List (Str × Addr)) (fp : List Addr) (F : Fr), VG (Blk Y scope s H C cl fp F) tg t)
    (ht : ∀ (s : Shared) (H : Hp) (C : Addr) (cl : List (Str × Addr)) (fp : List Addr) (F : Fr), Gd (Blk Y scope s H C cl fp F) fa k T TI → VTs (Blk Y scope s H C cl fp F) ifs wt)
    (he : ∀ (s : Shared) (H : Hp) (C : Addr) (cl : List (Str × Addr)) (fp : List Addr) (F : Fr), Gd (Blk Y scope s H C cl fp F) fa k T TI → VE (Blk Y scope s H C cl fp F) elt we)
    (hi : Y.X.N[i]? = some x := by rfl) (hv : visB Y.X.env.scope x = true := by kernel_rfl) (hd : (x == ("__debug__" : Str)) = false := by kernel_rfl) (hcd : (x == ("__classdict__" : Str)) = false := by kernel_rfl)
    (ok : blkB Y.X.N Y.X.env.scope scope own = true := by kernel_rfl) (htg : (tgIx t).all (fun i => (own.map (·.2)).contains i) = true := by kernel_rfl) (hN : decide Y.X.N.Nodup = true := by kernel_rfl)
    (hs : ∀ z, foldedSetIterable (.Name x p) Y.X.env z = pure z := by intro _; rfl) : VF Y (.ListComp elt [⟨tg, .Name x p, ifs, 0⟩] scope pos) (wComp (wItK i) t (own.map (·.2)) wt we) :=
  vf_compK G.cm (of_decide_eq_true hN) hi (vis_of hv) (blk_of ok) (tgs_of htg) hg (fun s H C cl fp F => ht s H C cl fp F G.blk) (fun s H C cl fp F => he s H C cl fp F G.blk) hd hcd hs
theorem xsetd (i : Nat) (G : Gd Y fa k T TI) (hk : VE Y ix wk) (he : VE Y value wv) (hN : Y.X.N[i]? = some x := by rfl) (hv : visB Y.X.env.scope x = true := by kernel_rfl) (hd : (x == ("__debug__" : Str)) = false := by kernel_rfl) (hcd : (x == ("__classdict__" : Str)) = false := by kernel_rfl)
    (hs : swapsWith value (some (.Subscript (.Name x p0) ix pos')) pos.line Y.X.env = pure false := by rfl) : VS Y (.Assign [.Subscript (.Name x p0) ix pos'] value pos) (wSetIx i wk wv) := vs_setD G hN (vis_of hv) hk he hd hcd hs
theorem xdget2 (G : Gd Y fa k T TI) (ho : VO Y a wo) (he : VE Y e wk) (hf : VE Y f wx) (m1 : attributeBase a "get" Y.X.env (eval a Y.X.env) = eval a Y.X.env := by rfl)
    (m2 : ((backTo cpos (starEach [e, f] Y.X.env)).all (fun x => !x.1) && (backToKw cpos (keywordEach [] Y.X.env)).all (fun x => x.1.isSome) && decide (([e, f] : List Expr).length + ([] : List Keyword).length + (if ([] : List Keyword).isEmpty then 0 else 1) < 30)) = true := by rfl)
    (m3 : (apos.endLine == cpos.line) = true := by rfl) (m4 : backTo cpos (starEach [e, f] Y.X.env) = [(false, eval e Y.X.env), (false, eval f Y.X.env)] := by rfl) : VE Y (.Call (.Attribute a "get" apos) [e, f] [] cpos) (wDGet2 wo wk wx) := ve_dget2 (by have := G.hu; omega) ho he hf ⟨m1, m2, m3, m4⟩
theorem xcallF (f : String) (G : Gd Y fa k T TI) (gf : GF Y.c fa Y.X.mg f) {es : List Expr} {wa : TVA} (ha : VA Y (e :: es) wa) (hg : glB Y.X (toS f) = true := by kernel_rfl) (hdb : (toS f == ("__debug__" : Str)) = false := by kernel_rfl) (he : starEach (e :: es) Y.X.env = (false, eval e Y.X.env) :: starEach es Y.X.env := by rfl) (hpl : (backTo pos (starEach es Y.X.env)).any (·.1) = false := by rfl) :
    VF Y (.Call (.Name (toS f) p) (e :: es) [] pos) (wCall (T.fr f) wa) := vf_call f G gf (gl_of hg) ha hdb he hpl
theorem xretF (i : Nat) (hN : Y.X.N[i]? = some x := by rfl) (hv : visB Y.X.env.scope x = true := by kernel_rfl) (hd : (x == ("__debug__" : Str)) = false := by kernel_rfl) (hcd : (x == ("__classdict__" : Str)) = false := by kernel_rfl) : VRs Y [.Return (some (.Name x p)) pos] (wRetF i) := vrs_ret hN (vis_of hv) hd hcd
end
end VL

set_option Elab.async false
set_option linter.all false
set_option autoImplicit false
set_option maxRecDepth 100000
/-! VLExc: raise, try. -/
namespace VL
open PySem PySem.Spec PyProof.Rows L2
/-- an own exception class without its own __init__ -/
structure CE (c : Cf) (mg : Str → Option Value) (cl : String) : Prop where
  mg : mg (toS cl) = some (.ref (c.ca cl))
  ex : ∃ B newId initId bmB, ExcBaseFacts B newId initId bmB ∧ PySem.W.excIn c.K (c.ca cl) bmB newId = true
  kp : PySem.W.keepIn c.K (.ref (c.ca cl)) = true
  s1 : PySem.W.subIn c.K (.ref (c.ca cl)) (.type "BaseException") = some true
  s2 : PySem.W.typeIn c.K (.ref (c.ca cl)) = some (.type "type")
/-- raise X(e): nothing of e is told -/
def wRaise1 (cl : String) (w : TV) : TVS := fun ρ S _ E => w ρ S (fun _ ρ1 S1 => E ⟨cl, []⟩ ρ1 S1) E
section
variable {Y : VC} {fa : String → Addr} {k : Nat} {T : Tab} {TI : String → FWI} {e : Expr} {w : TV} {p pos pos' : Pos}
theorem vs_raise1 (cl : String) (G : Gd Y fa k T TI) (ce : CE Y.c Y.X.mg cl) (hg : Gl Y.X (toS cl)) (he : VE Y e w) (hs : starEach [e] Y.X.env = (false, eval e Y.X.env) :: starEach [] Y.X.env := by rfl) (hdb : (toS cl == ("__debug__" : Str)) = false := by decide +kernel) :
    VS Y (.Raise (some (.Call (.Name (toS cl) p) [e] [] pos)) none pos') (wRaise1 cl w) := by
  obtain ⟨B, newId, initId, bmB, F, q⟩ := ce.ex
  have hK := G.hK
  refine PS.imp (ps_raise G.cm G.tk (SkE.pmk_own1 F (by rw [← hK]; exact q) ce.mg (by rw [← hK]; exact ce.kp) (raises_own (by rw [← hK]; exact ce.s1) (by rw [← hK]; exact ce.s2)) hg he hs hdb)) fun D σ H ⟨g, ρ, S, Qv, Ev, r, hw, ec, sc⟩ =>
    ⟨g, ρ, S, _, Ev, r, hw, ec, fun v H' g' ρ' S' d r' st rp q => ec ⟨cl, []⟩ _ none σ H' g' ρ' S' r' st ⟨rfl, ⟨fun _ => rfl, fun _ => rfl⟩, fun _ h => nomatch h⟩ q⟩
end
end VL

set_option Elab.async false
set_option linter.all false
set_option autoImplicit false
set_option maxRecDepth 100000
/-! VLTry: try .. except X as e. -/
namespace VL
open PySem PySem.Spec PyProof.Rows L2
/-- no slot holds an error -/
def noX (ρ : En) : Bool := ρ.all Sl.nx
theorem noX_no {ρ : En} (h : noX ρ = true) {i : Nat} {ex : Ex} : ρ[i]? ≠ some (Sl.x ex) := fun e => by
  have := List.all_eq_true.mp h _ (List.mem_of_getElem? e)
  cases this
/-- the frame where the error at a is handled -/
abbrev xF (F : Fr) (a : Addr) (cls : Value) (d : Option Addr) : Fr := { F with xs := fun a' c' d' => a' = a ∧ c' = cls ∧ d' = d }
section
variable {c : Cf} {F : Fr} {g g2 : Gs} {σ σ2 : St} {H H2 : Hp} {ρ ρ2 : En} {S S2 : Sto} {i : Nat} {a : Addr} {cls : Value} {dx : Option Addr} {ex : Ex}
theorem R.reX {xs : Addr → Value → Option Addr → Prop} (r : R c F g σ H ρ S) (hx : noX ρ = true) : R c { F with xs := xs } g σ H ρ S :=
  ⟨r.len, r.val, r.own, r.inj, r.sep, r.sto, r.smn, r.smo, r.tmo, r.tmn, r.pre, r.keep, r.moT, r.exT, r.fx, fun i ex h => absurd h (noX_no hx)⟩
/-- a slot forgets -/
theorem R.setu {y : Option V} (r : R c F g σ H ρ S) : R c F g (σ.set i y) H (ρ.set i .un) S ∧ Ext g.sm (MU F g σ ρ) H g.sm (MU F g (σ.set i y) (ρ.set i .un)) H := by
  have off : ∀ {j : Nat} {s : Sl}, (ρ.set i .un)[j]? = some s → s ≠ .un → i ≠ j ∧ ρ[j]? = some s := fun {j s} h n => by
    by_cases hj : i = j
    · subst hj
      by_cases hl : i < ρ.length
      · rw [List.getElem?_set_self hl] at h
        cases h
        exact absurd rfl n
      · rw [List.getElem?_eq_none (by simpa using hl)] at h
        cases h
    · rw [List.getElem?_set_ne hj] at h
      exact ⟨hj, h⟩
  have hm : ∀ b, MU F g (σ.set i y) (ρ.set i .un) b → MU F g σ ρ b := fun b m => by
    rcases m with m | m | m | ⟨j, e, h1, h2⟩
    · exact .inl m
    · exact .inr (.inl m)
    · exact .inr (.inr (.inl m))
    · obtain ⟨nj, h⟩ := off h1 (by simp)
      rw [List.getElem?_set_ne nj] at h2
      exact .inr (.inr (.inr ⟨j, e, h, h2⟩))
  have e : Ext g.sm (MU F g σ ρ) H g.sm (MU F g (σ.set i y) (ρ.set i .un)) H := less_ext hm
  refine ⟨?_, e⟩
  refine R.less (g := g) (tm' := g.tm) r (by simp [r.len]) hm (fun j e1 h1 => ?_) (fun j e1 h1 => ?_) (fun j k e1 e2 b h1 h2 h3 h4 => ?_) (fun _ h => h) r.tmn (fun d' h => ?_)
  · obtain ⟨nj, h⟩ := off h1 (by simp)
    obtain ⟨x, h2, h3⟩ := r.val j e1 h
    exact ⟨x, by rw [List.getElem?_set_ne nj]; exact h2, h3.ext e⟩
  · obtain ⟨nj, h⟩ := off h1 (by simp)
    obtain ⟨b, h2, h3⟩ := r.own j e1 h
    exact ⟨b, by rw [List.getElem?_set_ne nj]; exact h2, h3, r.sep j e1 b h h2⟩
  · obtain ⟨nj, h⟩ := off h1 (by simp)
    obtain ⟨nk, h'⟩ := off h2 (by simp)
    rw [List.getElem?_set_ne nj] at h3
    rw [List.getElem?_set_ne nk] at h4
    exact r.inj j k e1 e2 b h h' h3 h4
  · obtain ⟨nj, h⟩ := off h (by simp)
    exact ⟨d', h, List.getElem?_set_ne nj⟩
theorem mu_putx (hi : ρ[i]? = some .un) : MU F g σ (ρ.set i (.x ex)) = MU F g σ ρ := by
  funext b
  apply propext
  have hl := (List.getElem?_eq_some_iff.mp hi).1
  constructor
  · rintro (m | m | m | ⟨j, e, h1, h2⟩)
    · exact .inl m
    · exact .inr (.inl m)
    · exact .inr (.inr (.inl m))
    · by_cases hj : i = j
      · subst hj
        rw [List.getElem?_set_self hl] at h1; cases h1
      · rw [List.getElem?_set_ne hj] at h1
        exact .inr (.inr (.inr ⟨j, e, h1, h2⟩))
  · rintro (m | m | m | ⟨j, e, h1, h2⟩)
    · exact .inl m
    · exact .inr (.inl m)
    · exact .inr (.inr (.inl m))
    · by_cases hj : i = j
      · subst hj
        rw [hi] at h1; cases h1
      · exact .inr (.inr (.inr ⟨j, e, by rw [List.getElem?_set_ne hj]; exact h1, h2⟩))
/-- a slot takes the error -/
theorem R.putx (r : R c F g σ H ρ S) (hi : ρ[i]? = some .un) (ha : σ[i]? = some (some (V.ref a))) (hx : noX ρ = true) (xi : ExIs c g.sm (MU F g σ ρ) H ex cls dx) : R c (xF F a cls dx) g σ H (ρ.set i (.x ex)) S := by
  have hl := (List.getElem?_eq_some_iff.mp hi).1
  have em : MU (xF F a cls dx) g σ (ρ.set i (.x ex)) = MU F g σ ρ := mu_putx hi
  have off : ∀ {j : Nat} {s : Sl}, (ρ.set i (.x ex))[j]? = some s → (i ≠ j ∧ ρ[j]? = some s) ∨ (i = j ∧ s = .x ex) := fun {j s} h => by
    by_cases hj : i = j
    · subst hj
      rw [List.getElem?_set_self hl] at h
      cases h
      exact .inr ⟨rfl, rfl⟩
    · rw [List.getElem?_set_ne hj] at h
      exact .inl ⟨hj, h⟩
  have offd : ∀ {j : Nat} {s : Sl}, (ρ.set i (.x ex))[j]? = some s → s.nx = true → ρ[j]? = some s := fun {j s} h n => by
    rcases off h with ⟨_, q⟩ | ⟨_, q⟩
    · exact q
    · rw [q] at n; cases n
  refine ⟨by simp [r.len], fun j d h => ?_, fun j d h => ?_, fun j k d e b h1 h2 => r.inj j k d e b (offd h1 rfl) (offd h2 rfl), fun j d b h => r.sep j d b (offd h rfl), by rw [em]; exact r.sto, r.smn, r.smo, r.tmo, r.tmn, r.pre, r.keep, r.moT, r.exT, fun p hp d h => r.fx p hp d (offd h rfl), fun j e h => ?_⟩
  · rw [em]; exact r.val j d (offd h rfl)
  · rw [em]; exact r.own j d (offd h rfl)
  · rcases off h with ⟨_, q⟩ | ⟨hj, q⟩
    · exact absurd q (noX_no hx)
    · subst hj
      cases q
      exact ⟨a, cls, dx, ha, ⟨rfl, rfl, rfl⟩, by rw [em]; exact xi⟩
end
/-- try: wb, except as slot i: ws, where cm tells which classes are caught -/
def wTry (i : Nat) (cm : String → Option Bool) (wb ws : TVS) : TVS := fun ρ S Q E => wb ρ S Q (fun ex ρ1 S1 => noX ρ1 = true ∧ i < ρ1.length ∧ match cm ex.c with
  | some true => ws ((ρ1.set i .un).set i (.x ex)) S1 (fun o ρ2 S2 => noX (ρ2.set i .un) = true ∧ Q o (ρ2.set i .un) S2) (fun _ _ _ => False)
  | some false => E ex ρ1 S1
  | none => False)
/-- which classes an except clause catches -/
structure ExmT (c : Cf) (u : Value) (cm : String → Option Bool) : Prop where
  ans : ∀ cl b, cm cl = some b → PySem.W.exmOne c.K (.ref (c.ca cl)) u = some b
theorem Gd.tr {Y : VC} {fa : String → Addr} {k : Nat} {T : Tab} {TI : String → FWI} (G : Gd Y fa k T TI) {pn : List (Addr × Obj)} {xe : Value → Shared → Prop} {W : WX} (tk : Takes (Y.X.tr pn xe) W) : Gd ⟨Y.X.tr pn xe, Y.c, Y.F, W⟩ fa k T TI :=
  ⟨G.f0, G.f1, G.i0, G.hr0, tk, G.cm, G.hK⟩
/-- what stands around an except suite: the error's pin -/
structure Su (Y : VC) : Prop where
  xs : ∀ a cls d, Y.F.xs a cls d → ∃ oe, (a, oe) ∈ Y.X.pn ∧ Zc cls d oe ∧ ∃ vs, oe.data = .fields vs
  hK : Y.c.K = Y.X.K
theorem LS.re {X1 X2 : Cx} {c : Cf} {F : Fr} {W : WX} {w : TVS} {D : Ends} {σ : St} {H : Hp} (h : LS ⟨X1, c, F, W⟩ w D σ H) : LS ⟨X2, c, F, W⟩ w D σ H :=
  let ⟨g, ρ, S, Qv, Ev, r, hw, ec, sc⟩ := h; ⟨g, ρ, S, Qv, Ev, r, hw, ec, ⟨sc.nx, sc.bk, sc.ct, sc.rt⟩⟩
section
variable {Y : VC} {fa : String → Addr} {k : Nat} {T : Tab} {TI : String → FWI} {x n : Str} {u : Value} {i : Nat} {body suite : List Stmt} {b₀ : Stmt} {np pos pos' : Pos} {wb ws : TVS} {cm : String → Option Bool}
theorem vs_try (G : Gd Y fa k T TI) (em : ExmT Y.c u cm) (hs : Y.X.stack = Y.X.env :: Y.X.outer) (hf : Y.X.env.frame = some Y.X.env.locals) (hN : Y.X.N.Nodup) (hi : Y.X.N[i]? = some n) (hln : Y.X.env.kindOf n = some .local) (hc : Names Y.X x u)
    (hb : ∀ (W : WX) (pn : List (Addr × Obj)) (xe : Value → Shared → Prop), Gd ⟨Y.X.tr pn xe, Y.c, Y.F, W⟩ fa k T TI → VSs ⟨Y.X.tr pn xe, Y.c, Y.F, W⟩ body wb)
    (hsu : ∀ (a : Addr) (pn : List (Addr × Obj)) (F : Fr), Su ⟨Y.X.suite a pn, Y.c, F, fun _ _ _ _ => False⟩ → VSs ⟨Y.X.suite a pn, Y.c, F, fun _ _ _ _ => False⟩ (b₀ :: suite) ws) :
    VS Y (.Try body [.ExceptHandler (some (.Name x np)) (some n) (b₀ :: suite) pos'] [] [] pos) (wTry i cm wb ws) := by
  have base := ps_try_as (X := Y.X) (x := x) (n := n) (c := u) (i := i) (body := body) (suite := suite) (b₀ := b₀) (np := np) (pos := pos) (pos' := pos') (Wout := Y.W)
    (tb := fun W D σ H => LS ⟨Y.X, Y.c, Y.F, W⟩ wb D σ H) (ts := fun a cls d D σ H => LS ⟨Y.X, Y.c, xF Y.F a cls d, fun _ _ _ _ => False⟩ ws D σ H) hs hf hN hi hln hc G.tk
    (fun W pn xe tk _ => PSs.imp (hb W pn xe (G.tr tk)) fun D σ H h => LS.re h)
    (fun a oe cls d pn hz hd => PSs.imp (hsu a ((a, oe) :: pn) (xF Y.F a cls d) ⟨fun a' c' d' h => by
      obtain ⟨e1, e2, e3⟩ := h
      subst e1 e2 e3
      exact ⟨oe, List.mem_cons_self, hz, hd⟩, G.hK⟩) fun D σ H h => LS.re h)
  refine PS.imp base fun D σ H ⟨g, ρ, S, Qv, Ev, r, hw, ec, sc⟩ => ?_
  refine ⟨g, ρ, S, Qv, _, r, hw, ?_, ⟨sc.nx, sc.bk, sc.ct, sc.rt⟩⟩
  intro ex cls dx σ' H' g' ρ' S' r' st xi ⟨hx', hl0, q⟩
  refine (show wAs Y.X.K u i (fun a cls d D σ H => LS ⟨Y.X, Y.c, xF Y.F a cls d, fun _ _ _ _ => False⟩ ws D σ H) Y.W D cls dx σ' H' from ?_)
  have hl' : i < σ'.length := by rw [← r'.len]; exact hl0
  cases e : cm ex.c with
  | none => rw [e] at q; exact q.elim
  | some b =>
    have hb1 := em.ans ex.c b e
    rw [G.hK] at hb1
    refine ⟨b, by rw [xi.1]; exact hb1, fun hb => ?_, fun hb => ?_⟩
    · subst hb
      rw [e] at q
      intro a na
      obtain ⟨r2, e2⟩ := r'.setu (i := i) (y := some (V.ref a))
      have hu : (ρ'.set i .un)[i]? = some Sl.un := List.getElem?_set_self (by rw [r'.len]; exact hl')
      have hxu : noX (ρ'.set i .un) = true := by
        refine List.all_eq_true.mpr fun s hs => ?_
        rcases List.mem_or_eq_of_mem_set hs with h | h
        · exact List.all_eq_true.mp hx' s h
        · rw [h]; rfl
      have r3 := r2.putx (a := a) (cls := cls) (dx := dx) (ex := ex) hu (List.getElem?_set_self hl') hxu (xi.ext e2)
      have em3 : MU (xF Y.F a cls dx) g' (σ'.set i (some (V.ref a))) ((ρ'.set i .un).set i (.x ex)) = MU Y.F g' (σ'.set i (some (V.ref a))) (ρ'.set i .un) := mu_putx hu
      have fin : ∀ {σ5 : St} {H5 : Hp} {g5 : Gs} {ρ5 : En} {S5 : Sto}, R Y.c (xF Y.F a cls dx) g5 σ5 H5 ρ5 S5 → Stp (xF Y.F a cls dx) g' (σ'.set i (some (V.ref a))) ((ρ'.set i .un).set i (.x ex)) H' g5 σ5 ρ5 H5 → noX (ρ5.set i .un) = true →
          R Y.c Y.F g5 (σ5.set i none) H5 (ρ5.set i .un) S5 ∧ Stp Y.F g σ ρ H g5 (σ5.set i none) (ρ5.set i .un) H5 ∧ Ext g5.sm (MU (xF Y.F a cls dx) g5 σ5 ρ5) H5 g5.sm (MU Y.F g5 (σ5.set i none) (ρ5.set i .un)) H5 := fun {σ5 H5 g5 ρ5 S5} r5 st5 hx5 => by
        obtain ⟨r6, e6⟩ := r5.setu (i := i) (y := none)
        refine ⟨r6.reX (xs := Y.F.xs) hx5, ⟨st5.tm.trans st.tm, ?_⟩, e6⟩
        have q := st5.ext
        rw [em3] at q
        exact ((st.ext.trans e2).trans q).trans e6
      exact ⟨g', _, S', _, _, r3, q, fun _ _ _ _ _ _ _ _ _ _ _ z => z.elim, ⟨fun σ5 H5 g5 ρ5 S5 r5 st5 ⟨hx5, q5⟩ => let ⟨f1, f2, _⟩ := fin r5 st5 hx5; sc.nx _ _ _ _ _ f1 f2 q5,
        fun σ5 H5 g5 ρ5 S5 r5 st5 ⟨hx5, q5⟩ => let ⟨f1, f2, _⟩ := fin r5 st5 hx5; sc.bk _ _ _ _ _ f1 f2 q5, fun σ5 H5 g5 ρ5 S5 r5 st5 ⟨hx5, q5⟩ => let ⟨f1, f2, _⟩ := fin r5 st5 hx5; sc.ct _ _ _ _ _ f1 f2 q5,
        fun v σ5 H5 g5 ρ5 S5 d r5 st5 rp5 ⟨hx5, q5⟩ => let ⟨f1, f2, f3⟩ := fin r5 st5 hx5; sc.rt v _ _ _ _ _ d f1 f2 (rp5.ext f3) q5⟩⟩
    · subst hb
      rw [e] at q
      exact ec ex cls dx σ' H' g' ρ' S' r' st xi q
end
/-! ### isinstance(e, C) in the suite -/
/-- the answers to isinstance(e, u) by the class of the error -/
structure XsiT (c : Cf) (u : Value) (tb : String → Option Bool) : Prop where
  ans : ∀ cl b, tb cl = some b → PySem.W.kitOne c.K (.ref (c.ca cl)) u = some b
  exc : ∀ cl b, tb cl = some b → ExcC c.K (c.ca cl)
def rIsX (X : Cx) : List V → Hp → VK → Prop := fun xs H Q => ∃ (a D : Addr) (oe : Obj) (cv : V) (u : Value) (b : Bool), (a, oe) ∈ X.pn ∧ Zc (.ref D) none oe ∧ (∃ vs, oe.data = .fields vs) ∧ ExcC X.K D ∧ xs = [.ref a, cv] ∧ (∀ w, RelV cv w → w = u) ∧ PySem.W.kitOne X.K (.ref D) u = some b ∧ Q (.bl b) H
theorem call_isX {X : Cx} : CallR X (.builtin "isinstance") (rIsX X) := by
  intro pins s σ H xs us Q I r h
  obtain ⟨a, D, oe, cv, u, b, hp, hz, ⟨vs, hv⟩, C, rfl, hcv, e, q⟩ := h
  cases r with
  | cons rx rr =>
    cases rr with
    | cons rt rr =>
      cases rr
      cases rx
      have ec := hcv _ rt
      subst ec
      obtain ⟨hget, _⟩ := I.pin (a, oe) (List.mem_append.mpr (.inl hp))
      have J : PySem.W.InstAt s.heap a oe D none := by
        obtain ⟨oc, od, oda, osl⟩ := oe
        obtain ⟨h1, h2⟩ := hz
        dsimp only at h1 h2 hv
        subst h1 h2 hv
        exact ⟨hget, rfl, rfl, trivial⟩
      exact PySem.W.kia_one (PySem.W.handS_kitx_exc C.hg C.hk C.hs C.hd C.ha C.hn C.ht C.hm) I.kIn J e (fun z => nomatch z) fun tk => ⟨.bl b, H, I.kept (t' := tk) fun _ _ z => z, rfl, q⟩
def wIsX (i : Nat) (tb : String → Option Bool) : TV := fun ρ S Q _ => match ρ[i]? with
  | some (.x ex) => ex.fs = [] ∧ ∃ b, tb ex.c = some b ∧ Q (.bl b) ρ S
  | _ => False
section
variable {Y : VC} {x : Str} {ce : Expr} {i : Nat} {p p0 pos : Pos} {cv : V} {u : Value} {tb : String → Option Bool}
theorem ve_isx (Sx : Su Y) (ti : XsiT Y.c u tb) (hk : ClsV cv u) (hg : Gl Y.X "isinstance") (hm : Y.X.mg "isinstance" = none) (hN : Y.X.N[i]? = some x) (hv : Vis Y.X.env.scope x) (hc : PE Y.X ce (tC cv)) (hd : (x == ("__debug__" : Str)) = false := by decide) (hcd : (x == ("__classdict__" : Str)) = false := by decide)
    (he : starEach [.Name x p0, ce] Y.X.env = (false, eval (.Name x p0) Y.X.env) :: starEach [ce] Y.X.env := by rfl) (he2 : starEach [ce] Y.X.env = (false, eval ce Y.X.env) :: starEach [] Y.X.env := by rfl) (hpl : (backTo pos (starEach [ce] Y.X.env)).any (·.1) = false := by rfl) :
    VE Y (.Call (.Name "isinstance" p) [.Name x p0, ce] [] pos) (wIsX i tb) :=
  PE.imp (pe_callB call_isX hg hm PyProof.Rows.boot_isinstance (pa_cons (pe_var hN hv hd hcd) (pa_cons hc pa_nil he2) he) (by decide) (by decide) he hpl) fun σ H Q ⟨g, ρ, S, Qv, Ev, r, hw, ec, hq⟩ => by
    unfold wIsX at hw
    split at hw
    case h_2 => exact hw.elim
    rename_i ex hi
    obtain ⟨hf, b, hb, q⟩ := hw
    obtain ⟨a, cls, dx, ha, hxs, x1, x2, x3⟩ := r.exs i ex hi
    obtain ⟨oe, hp, hz, hv⟩ := Sx.xs a cls dx hxs
    have hd0 := x2.mpr hf
    subst hd0 x1
    have hK := Sx.hK
    refine ⟨.ref a, ha, ?_⟩
    exact ⟨a, Y.c.ca ex.c, oe, cv, u, b, hp, hz, hv, by rw [← hK]; exact ti.exc _ _ hb, rfl, fun w rw => hk.eq rw, by rw [← hK]; exact ti.ans _ _ hb, hq _ H g ρ S (.bl b) r .refl (by simp only [Rep]) q⟩
end
end VL

set_option Elab.async false
set_option linter.all false
set_option autoImplicit false
set_option maxRecDepth 100000
/-! VLSet: sets of keys of one kind, with their members. -/
namespace VLS
open PySem PySem.Spec PyProof.Rows L2
section
variable {P : Program} {w : World} {κ : Type} [DecidableEq κ] (knd : PySem.KeyKind P w κ)
/-- the entry e is the key k's -/
def Ent (e : Int × Value) (k : κ) : Prop := knd.is k e.2 = true ∧ e.1 = knd.hash k ∧ e.2.scannable = true
def Ents : List (Int × Value) → List κ → Prop
  | [], ks => ks = []
  | e :: es, ks => ∃ k r, ks = k :: r ∧ Ent knd e k ∧ Ents es r
/-- the set at a has the members l -/
def SetL (h : Heap) (a : Addr) (l : List κ) : Prop :=
  ∃ o es ep t, h.get? a = some o ∧ o.ExactSet ∧ o.data = .set es ep t ∧ (∃ ks : List κ, ks.Perm l ∧ Ents knd es.toList ks) ∧ l.Nodup ∧ es.size < scanBound ∧ t.fits es.size = true ∧ Ris t.place.toList ∧ (w.params.followText "set-order" = true ∨ t.led = true)
end
section
variable {P : Program} {w : World} {κ : Type} [DecidableEq κ] {knd : PySem.KeyKind P w κ}
theorem Ents.perm {es es' : List (Int × Value)} (p : es.Perm es') : ∀ {ks : List κ}, Ents knd es ks → ∃ ks' : List κ, ks'.Perm ks ∧ Ents knd es' ks' := by
  induction p with
  | nil => intro ks h; exact ⟨ks, .refl _, h⟩
  | cons e p ih =>
    rintro ks ⟨k, r, rfl, h1, h2⟩
    obtain ⟨r', q1, q2⟩ := ih h2
    exact ⟨k :: r', q1.cons k, k, r', rfl, h1, q2⟩
  | swap e f p =>
    rintro ks ⟨k, r, rfl, h1, k2, r2, rfl, h2, h3⟩
    exact ⟨k2 :: k :: r2, .swap _ _ _, k2, _, rfl, h2, k, r2, rfl, h1, h3⟩
  | trans _ _ i1 i2 =>
    intro ks h
    obtain ⟨k1, q1, q2⟩ := i1 h
    obtain ⟨k2, q3, q4⟩ := i2 q2
    exact ⟨k2, q3.trans q1, q4⟩
theorem Ents.elems : ∀ {es : List (Int × Value)} {ks : List κ}, Ents knd es ks → ElemsOf knd es
  | [], _, _ => fun e h => nomatch h
  | e :: es, _, ⟨k, r, _, h1, h2⟩ => fun f hf => by
    rcases List.mem_cons.mp hf with hf | hf
    · subst hf; exact ⟨⟨k, h1.1, h1.2.1⟩, h1.2.2⟩
    · exact h2.elems f hf
theorem Ents.mem : ∀ {es : List (Int × Value)} {ks : List κ} (k : κ), Ents knd es ks → (k ∈ ks ↔ ∃ e ∈ es, knd.is k e.2 = true)
  | [], _, k, h => by simp only [Ents] at h; subst h; simp
  | e :: es, _, k, ⟨k', r, eq, h1, h2⟩ => by
    subst eq
    rw [List.mem_cons, h2.mem k]
    constructor
    · rintro (rfl | ⟨f, hf, q⟩)
      · exact ⟨e, List.mem_cons_self, h1.1⟩
      · exact ⟨f, List.mem_cons_of_mem _ hf, q⟩
    · rintro ⟨f, hf, q⟩
      rcases List.mem_cons.mp hf with hf | hf
      · subst hf; exact .inl (knd.inj _ _ _ q h1.1)
      · exact .inr ⟨f, hf, q⟩
theorem Ents.length : ∀ {es : List (Int × Value)} {ks : List κ}, Ents knd es ks → es.length = ks.length
  | [], _, h => by simp only [Ents] at h; subst h; rfl
  | e :: es, _, ⟨k', r, eq, h1, h2⟩ => by subst eq; simp [h2.length]
variable {A : Around} {E : Value → Shared → Prop} {s : Shared} {a : Addr} {l : List κ}
theorem SetL.at {h h' : Heap} (R : SetL knd h a l) (k : ∀ o, h.get? a = some o → h'.get? a = some o) : SetL knd h' a l := by
  obtain ⟨o, es, ep, t, ho, r⟩ := R
  exact ⟨o, es, ep, t, k o ho, r⟩
/-- what is stored behind an add -/
theorem put_in {h : Heap} {o : Obj} {es es' : Array (Int × Value)} {ep : Nat} {t t' : SetTable} (ho : h.get? a = some o) (hx : o.ExactSet) (hd : o.data = .set es ep t)
    (he : ∃ ks : List κ, ks.Perm l ∧ Ents knd es'.toList ks) (nd : l.Nodup) (hb : es'.size < scanBound) (hf : t'.fits es'.size = true) (hr : Ris t'.place.toList) (hl : w.params.followText "set-order" = true ∨ t'.led = true) :
    SetL knd (h.update a (Obj.putSet es' t')) a l :=
  ⟨_, es', _, t', PpSet.storeB_at ho hd, hx, rfl, he, nd, hb, hf, hr, hl⟩
theorem grow_ok {g : Bool → Sem Unit} (hg : ∀ (b : Bool) (s₁ : Shared) (Q' : Unit → Shared → Prop), Q' () s₁ → wpAny (model P w) A (g b) Q' E s₁)
    {o : Obj} {es es1 : Array (Int × Value)} {ep : Nat} {t t2 : SetTable} (ho : s.heap.get? a = some o) (hx : o.ExactSet) (hd : o.data = .set es ep t) (he : ∃ ks : List κ, ks.Perm l ∧ Ents knd es1.toList ks) (nd : l.Nodup) (hb : es1.size < scanBound) (hf : t2.fits es1.size = true) (hr : Ris t2.place.toList)
    (hl : w.params.followText "set-order" = true ∨ t2.led = true) {dummy : Bool} {R : Option Bool → Shared → Prop} (hR : ∀ h', Heap.SameBut a s.heap h' → SetL knd h' a l → R (some true) { s with heap := h' }) :
    wpAny (model P w) A (do
        storeSet a es1 t2
        if (!dummy && t2.tooFull) = true then do
            g (relayAll t2 es1 (SetTable.grown es1.size)).2.2
            storeSet a (relayAll t2 es1 (SetTable.grown es1.size)).1 (relayAll t2 es1 (SetTable.grown es1.size)).2.1
            pure (some true)
          else pure (some true)) R E s := by
  have sb1 := Heap.SameBut.update s.heap a (Obj.putSet es1 t2)
  refine wpAny_bind (wpAny_storeSet_of ho hd ?_ (fits_of_scanBound hb))
  split
  · have pm := relayAll_perm t2 es1 (SetTable.grown es1.size)
    have hz : (relayAll t2 es1 (SetTable.grown es1.size)).1.size = es1.size := by rw [← Array.length_toList, pm.length_eq, Array.length_toList]
    refine wpAny_bind (hg _ _ _ (wpAny_bind (wpAny_storeSet_of (PpSet.storeB_at ho hd) rfl ?_ (fits_of_scanBound (by rw [hz]; exact hb)))))
    refine wpAny_pure (hR _ (sb1.trans (Heap.SameBut.update _ a _)) (put_in (PpSet.storeB_at ho hd) hx rfl ?_ nd (by rw [hz]; exact hb) (relayAll_fits _ _ _) (relayAll_ris _ _ _) (hl.imp id fun z => by rw [relayAll_led]; exact z)))
    obtain ⟨ks, q1, q2⟩ := he
    obtain ⟨ks', q3, q4⟩ := q2.perm pm.symm
    exact ⟨ks', q3.trans q1, q4⟩
  · exact wpAny_pure (hR _ sb1 (put_in ho hx hd he nd hb hf hr hl))
/-- a key is added -/
theorem add_ok {k : κ} {x : Value} (hk : knd.is k x = true) (hs : x.scannable = true) {Q : Bool → Shared → Prop} (R : SetL knd s.heap a l) (room : l.length + 1 < scanBound)
    (hQ : ∀ b h', Heap.SameBut a s.heap h' → SetL knd h' a (if k ∈ l then l else k :: l) → Q b { s with heap := h' }) : wpAny (model P w) A (setAddHashed a x (knd.hash k)) Q E s := by
  obtain ⟨o, es, ep, t, ho, hx, hd, ⟨ks, kp, ke⟩, nd, hb, hf, hr, hl⟩ := id R
  have hel := ke.elems
  unfold setAddHashed setAddHashedIn
  refine wpAny_holding (wpAny_bind (wpAny_setState_of ho hd hf ?_))
  dsimp only
  rw [byScan_of hs hb hel]
  simp only [↓reduceIte]
  unfold setAddByScan
  refine wpAny_bind ?_
  refine wpAny_bind (wpAny_rule ?_)
  refine wpAny_bind (wpAny_setScan_of hk ho hd hf hel ?_)
  cases hfi : List.findIdx? (fun e => knd.is k e.2) es.toList with
  | some j =>
    dsimp only
    obtain ⟨hj, pj, _⟩ := List.findIdx?_eq_some_iff_getElem.mp hfi
    have m : k ∈ l := kp.mem_iff.mp ((ke.mem k).mpr ⟨es.toList[j], List.getElem_mem hj, pj⟩)
    refine wpAny_pure (wpAny_pure ?_)
    exact hQ false s.heap (Heap.SameBut.refl a s.heap) (by rw [if_pos m]; exact R)
  | none =>
    dsimp only
    have nm : k ∉ l := fun z => by
      obtain ⟨e, he, q⟩ := (ke.mem k).mp (kp.mem_iff.mpr z)
      have c := List.findIdx?_eq_none_iff.mp hfi e he
      rw [q] at c
      cases c
    have hgw : ∀ (b : Bool) {s₁ : Shared} {Q' : Unit → Shared → Prop}, Q' () s₁ → wpAny (model P w) A (match b with | true => rule "set.scan.the-table-gave-way" | false => pure ()) Q' E s₁ :=
      fun b s₁ Q' q => by cases b <;> first | exact wpAny_pure q | exact wpAny_rule q
    have pm := layNew_perm t es (knd.hash k) x
    have hf1 := layNew_fits t es (knd.hash k) x
    have hr1 := layNew_ris t es (knd.hash k) x hr
    have hl1 := layNew_led t es (knd.hash k) x
    generalize layNew t es (knd.hash k) x = Z at pm hf1 hr1 hl1 ⊢
    obtain ⟨es1, t1, dummy, gave⟩ := Z
    dsimp only at pm hf1 hr1 hl1 ⊢
    rw [Array.toList_push] at pm
    have pc : ((knd.hash k, x) :: es.toList).Perm es1.toList := (pm.trans (List.perm_append_singleton _ _)).symm
    have he : ∃ ks' : List κ, ks'.Perm (k :: l) ∧ Ents knd es1.toList ks' := by
      obtain ⟨ks', q1, q2⟩ := Ents.perm pc (ks := k :: ks) ⟨k, ks, rfl, ⟨hk, rfl, hs⟩, ke⟩
      exact ⟨ks', q1.trans (kp.cons k), q2⟩
    have nd1 : (k :: l).Nodup := List.nodup_cons.mpr ⟨nm, nd⟩
    have hb1 : es1.size < scanBound := by
      have e1 : es1.size = es.size + 1 := by rw [← Array.length_toList, ← pc.length_eq, List.length_cons, Array.length_toList]
      have e2 : es.size = l.length := by rw [← Array.length_toList, ke.length, kp.length_eq]
      rw [e1, e2]; exact room
    have hled : w.params.followText "set-order" = true ∨ t1.led = true := hl.imp id fun z => by rw [hl1]; exact z
    have fin : ∀ h', Heap.SameBut a s.heap h' → SetL knd h' a (k :: l) → Q true { s with heap := h' } := fun h' sb r => hQ true h' sb (by rw [if_neg nm]; exact r)
    refine wpAny_bind (hgw _ ?_)
    split
    · refine wpAny_bind ?_
      rw [hashByValue_scannable 8 hs]
      refine wpAny_pure ?_
      refine grow_ok (knd := knd) (l := k :: l) ?_ ho hx hd he nd1 hb1 ?_ ?_ ?_ ?_
      · intro b s₁ Q' q; cases b <;> first | exact wpAny_pure q | exact wpAny_rule q
      · first | (split <;> first | exact hf1 | exact SetTable.fits_plain_off hf1) | exact hf1
      · first | (split <;> exact hr1) | exact hr1
      · first | (split <;> exact hled) | exact hled
      · intro h' sb r; dsimp only; exact wpAny_pure (fin h' sb r)
    · refine wpAny_bind (wpAny_pure ?_)
      simp only [↓reduceIte]
      refine grow_ok (knd := knd) (l := k :: l) ?_ ho hx hd he nd1 hb1 hf1 hr1 hled ?_
      · intro b s₁ Q' q; cases b <;> first | exact wpAny_pure q | exact wpAny_rule q
      · intro h' sb r; dsimp only; exact wpAny_pure (fin h' sb r)
end
/-! ### texts -/
section
variable {P : Program} {w : World} {A : Around} {E : Value → Shared → Prop} {s : Shared} {a : Addr} {l : List Str}
abbrev SetT (P : Program) (w : World) (h : Heap) (a : Addr) (l : List Str) : Prop := SetL (PySem.strKind P w) h a l
theorem SetT.isSet (R : SetT P w s.heap a l) : s.TypeIs (.ref a) "set" := by
  obtain ⟨o, es, ep, t, ho, hx, _⟩ := R
  exact ⟨o, ho, hx.1⟩
/-- found.add(x) -/
theorem add_txt {x : Str} {u : Tok} {Q : Value → Shared → Prop} (R : SetT P w s.heap a l) (room : l.length + 1 < scanBound)
    (hQ : ∀ h', Heap.SameBut a s.heap h' → SetT P w h' a (if x ∈ l then l else x :: l) → Q .none { s with heap := h', toks := s.toks + 1 }) :
    wpAny (model P w) A (call (.builtin "set.add") [.ref a, .str x u]) Q E s := by
  refine wpAny_call_entry F.slot_set_add R.isSet F.entry_set_add ?_ (F.args_set_add_2 _ _)
  unfold Builtin.«set.add» Builtin.Frozenset.oneOther
  simp only [List.isEmpty_nil, bind_assoc]
  unfold Builtin.Frozenset.addrOf setAdd
  refine wpAny_bind (wpAny_pure ?_)
  try dsimp only
  refine wpAny_bind (wpAny_pure ?_)
  try dsimp only
  refine wpAny_bind ?_
  refine wpAny_holding ?_
  refine wpAny_bind ((PySem.strKind P w).pyHash (PySem.Froz.is_str x u) ?_)
  refine add_ok (knd := PySem.strKind P w) (k := x) (s := { s with toks := s.toks + 1 }) (PySem.Froz.is_str x u) rfl R room fun b h' sb r => ?_
  show wpAny _ _ (ret Value.none) _ _ _
  exact wpAny_pure ⟨_, rfl, hQ h' sb r⟩
theorem fresh_txt {h : Heap} : SetT P w (h.push { cls := .type "set", dict := none, data := .set #[] 0 (.fresh 0 0 (!w.params.followText "set-order")) }) h.objs.size [] :=
  ⟨_, #[], 0, _, Heap.get?_push_size _ rfl, ⟨rfl, rfl, rfl⟩, rfl, ⟨[], .refl _, rfl⟩, List.nodup_nil, (by decide), (by rfl), List.Pairwise.nil, by
    show _ ∨ (!w.params.followText "set-order") = true
    cases w.params.followText "set-order"
    · exact .inr rfl
    · exact .inl rfl⟩
end
end VLS

set_option Elab.async false
set_option linter.all false
set_option autoImplicit false
set_option maxRecDepth 100000
/-! VLSet2: sorted of a set of texts. -/
namespace VLS
open PySem PySem.Spec PyProof.Rows L2
def strOf (v : Value) : Str := match v with
  | .str k _ => k
  | _ => default
theorem strs_of_all : ∀ {vs : List Value}, (∀ v ∈ vs, ∃ k u, v = Value.str k u) → StrsAre vs (vs.map strOf)
  | [], _ => .nil
  | v :: vs, h => by
    obtain ⟨k, u, rfl⟩ := h v List.mem_cons_self
    exact .cons k u (strs_of_all fun v hv => h v (List.mem_cons_of_mem _ hv))
section
variable {P : Program} {w : World} {A : Around} {E : Value → Shared → Prop} {s : Shared} {a : Addr} {l : List Str}
theorem ents_strs : ∀ {es : List (Int × Value)} {ks : List Str}, Ents (PySem.strKind P w) es ks → (∀ v ∈ es.map (·.2), ∃ k u, v = Value.str k u) ∧ (es.map (·.2)).map strOf = ks
  | [], ks, h => by simp only [Ents] at h; subst h; exact ⟨(fun _ h => nomatch h), rfl⟩
  | e :: es, _, ⟨k, r, eq, h1, h2⟩ => by
    subst eq
    obtain ⟨q1, q2⟩ := ents_strs h2
    have hv : ∃ u, e.2 = Value.str k u := by
      have h := h1.1
      have h : Value.isStrOf k e.2 = true := h
      cases hv : e.2 <;> rw [hv] at h <;> simp [Value.isStrOf] at h
      subst h; exact ⟨_, rfl⟩
    obtain ⟨u, hu⟩ := hv
    refine ⟨fun v hv => ?_, ?_⟩
    · rcases List.mem_cons.mp hv with hv | hv
      · exact ⟨k, u, hv.trans hu⟩
      · exact q1 v hv
    · rw [List.map_cons, List.map_cons, q2]; show strOf e.2 :: r = _; rw [hu]; rfl
/-- sorted(found) -/
theorem sorted_txt {Q : Value → Shared → Prop} (R : SetT P w s.heap a l) (hh : A.handled = none) (h64 : l.length < 64)
    (hQ : ∀ s' p (out : Array Value) (c : Nat) (ys : List Str), (∀ b o, s.heap.get? b = some o → s'.heap.get? b = some o) → s'.gens = s.gens → s'.os = s.os → s.heap.objs.size ≤ p →
      s'.heap.get? p = some (seqObj "list" out c) → StrsAre out.toList ys → ys.Perm l → sortedS ys = true → Q (.ref p) s') :
    wpAny (model P w) A (call (.builtin "sorted") [.ref a]) Q E s := by
  obtain ⟨o, es, ep, t, ho, hx, hd, ⟨ks, kp, ke⟩, nd, hb, hf, hr, hl⟩ := R
  obtain ⟨q1, q2⟩ := ents_strs ke
  refine Calls.call_function_entry kind_sorted plain_sorted entry_sorted (args_sorted1 _) ?_
  unfold Builtin.«sorted»
  refine wpAny_bind (m := checkCount "sorted" 1 1 _) (wpAny_pure ?_)
  refine wpAny_bind (collect_set (A := A.in1) hh ⟨o, ho, hx.1, hd⟩ hf hb hr hl fun s1 vs k1 hz g1 o1 pm => ?_)
  have hS : StrsAre vs (vs.map strOf) := strs_of_all fun v hv => q1 v (pm.mem_iff.mp hv)
  have pl : (vs.map strOf).Perm l := by
    have := pm.map strOf
    rw [q2] at this
    exact this.trans kp
  have hvl : vs.length = l.length := by rw [← pl.length_eq, List.length_map]
  refine wpAny_bind (wpAny_newList ?_ (by rw [hvl, sizeLine_eq]; omega))
  have hoL : (s1.heap.push (seqObj "list" vs.toArray 0)).get? s1.heap.objs.size = some (seqObj "list" vs.toArray 0) := Heap.get?_push_size _ rfl
  refine wpAny_bind (wpAny_holding (wpAny_call_entry slot_list_sort ⟨_, hoL, rfl⟩ entry_list_sort (list_sort_treeK strKind_oneLt hoL hS.keysOf (fun v₁ v₂ rest e => keyKind_strs (by rw [← e]; exact hS)) (by rw [hvl]; exact h64) fun st' hp hs => ?_) (args_list_sort _)))
  obtain ⟨ss', a1, a2, a3⟩ := sorted_out_str hS hp hs
  refine ⟨_, rfl, ?_⟩
  obtain ⟨c, hc⟩ := sortedHeap_at (vs := vs) (out := (arrOf st').map (·.2)) hoL
  refine wpAny_pure ⟨_, rfl, hQ _ s1.heap.objs.size _ c ss' (fun b u e => ?_) g1 o1 hz hc a1 (a2.trans pl) a3⟩
  have q := k1 b u e
  have hlt := Heap.lt_size q
  show (sortedHeap (s1.heap.push (seqObj "list" vs.toArray 0)) s1.heap.objs.size vs _).get? b = some u
  rw [sortedHeap_old (Nat.ne_of_lt hlt) (by rw [size_push']; exact Nat.lt_succ_of_lt hlt)]
  exact Heap.get?_push_of_some _ q
end
end VLS

set_option Elab.async false
set_option linter.all false
set_option autoImplicit false
set_option maxRecDepth 100000
set_option maxHeartbeats 1000000
/-! VLSetC: {elt for target in iter}, elt a text. -/
namespace VLS
open PySem PySem.Spec PyProof.Rows L2
/-- the set of texts at D, as a tracked thing -/
def SetO (P : Program) (w : World) (D : Addr) (l : List Str) : HO := .ext fun h => SetT P w h D l
theorem setO_ok {P : Program} {w : World} {H : Hp} {h : Heap} {D : Addr} {l : List Str} (R : SetT P w h D l) : ObjOk P w H h D (SetO P w D l) := by
  have ⟨o, _, _, _, ho, _⟩ := R
  exact ⟨R, ⟨o, ho⟩, fun h1 h2 p k => SetL.at p k⟩
section
variable {X : Cx} {pins : List (Addr × Obj)} {σ : L2.St} {H : Hp} {s : Shared}
theorem setO_get {D : Addr} {l : List Str} (I : Inv X pins σ H s) (h : H D = some (SetO X.prog X.w D l)) : SetT X.prog X.w s.heap D l := (I.hok D _ h).1
theorem add_step {E : Value → Shared → Prop} {D : Addr} {l : List Str} {y : V} {x : Str} {v : Value} {Q : Value → Shared → Prop} (I : Inv X pins σ H s) (hD : H D = some (SetO X.prog X.w D l)) (room : l.length + 1 < scanBound) (e : y = .str x) (rv : RelV y v)
    (h : ∀ s', Inv X pins σ (upd H D (SetO X.prog X.w D (if x ∈ l then l else x :: l))) s' → Q .none s') : wpAny (model X.prog X.w) X.A (call (.builtin "set.add") [.ref D, v]) Q E s := by
  subst e
  obtain ⟨u, rfl⟩ := (show ∃ t, v = Value.str x t from rv)
  refine add_txt (setO_get I hD) room fun h' sb new => ?_
  have ⟨o, _, _, _, ho, _⟩ := new
  exact h _ (I.write (e := D) (t' := s.toks + 1) (by rw [hD]; trivial) (.inl rfl) (fun b u hb hu => (sb.2 b hb).trans hu) ⟨o, ho⟩ (setO_ok new))
/-- what a turn does -/
def tSx (P : Program) (w : World) (wi : TI) (g : TG) (te : TE) (vs : List Nat) : TE := fun σ H Q => wi σ H fun J H1 => ∀ D, H1 D = none → ∃ W : Nat → Nat → Hp → Prop, (∃ m, W 0 m (upd H1 D (SetO P w D []))) ∧ ∀ i m H, W i m H →
  (J.stop i H ∧ Q (.ref D) H) ∨ (J.go i H ∧ ∃ Nx : Hp → Prop, (∀ H', Nx H' → ∃ m', m' < m ∧ W (i + 1) m' H') ∧ ∀ x H', J.yld i H x H' → g x (wipe σ vs) H' fun σ2 H2 => wipe σ2 vs = wipe σ vs ∧
    te σ2 H2 fun y H4 => ∃ (z : Str) (l : List Str), y = .str z ∧ H4 D = some (SetO P w D l) ∧ l.length + 1 < scanBound ∧ Nx (upd H4 D (SetO P w D (if z ∈ l then l else z :: l))))
theorem pe_sx {elt tg iter : Expr} {scope : Scope} {own : List (PySem.Str × Nat)} {pos : Pos} {wi : TI} {g : TG} {te : TE} (hc : X.calm = true) (hN : X.N.Nodup) (hi : PI X tg iter wi) (ok : BlkOk X.N X.env.scope scope own)
    (hg : ∀ (s : Shared) (H : Hp) (C : Addr) (cl : List (PySem.Str × Addr)) (fp : List Addr), PG (X.blk s H scope (compEnvC scope cl C X.env) fp) tg g)
    (he : ∀ (s : Shared) (H : Hp) (C : Addr) (cl : List (PySem.Str × Addr)) (fp : List Addr), PE (X.blk s H scope (compEnvC scope cl C X.env) fp) elt te) (hs : ∀ x, foldedSetIterable iter X.env x = pure x := by intro _; rfl) :
    PE X (.SetComp elt [⟨tg, iter, [], 0⟩] scope pos) (tSx X.prog X.w wi g te (own.map (·.2))) := by
  refine ⟨fun pins s σ H Q I h => ?_⟩
  rw [PpSet.eval_SetComp]
  have hfree : ∀ y ∈ scope.names, y.2 = .free → ∃ c, X.env.cells.lookup y.1 = some c := fun y hy e => (ok.free y hy e).elim (fun k => I.ok.has _ (.inl k)) (fun k => I.ok.has _ (.inr k))
  refine wpAny_comprehension_free (use := none) rfl hs (closure_ok hfree) ok.kind (fun y hy e => by rw [ok.uniq y hy, e]) (thn (hi.run pins s σ H _ I h) fun xv s1 hx => thn hx fun itv s2 h2 => ?_)
  obtain ⟨it, fp, tn, J, H2, e, I2, T, st2, f2, q⟩ := h2
  subst e
  refine PpSet.newSet_ok (newEnv_comp ?_)
  obtain ⟨W, ⟨m0, w0⟩, turn⟩ := q s2.heap.objs.size (I2.hok.fresh (Nat.le_refl _))
  generalize hD : s2.heap.objs.size = D at w0 turn ⊢
  have hDn : H2 D = none := I2.hok.fresh (Nat.le_of_eq hD)
  -- the set is laid
  generalize hs3 : ({ s2 with heap := s2.heap.push { cls := .type "set", dict := none, data := .set #[] 0 (.fresh 0 0 (!X.w.params.followText "set-order")) } } : Shared) = s3
  have kp : ∀ b o, s2.heap.get? b = some o → s3.heap.get? b = some o := fun b o e => by rw [← hs3]; exact Heap.get?_push_of_some _ e
  have I3 : Inv X pins σ (upd H2 D (SetO X.prog X.w D [])) s3 := by
    rw [← hs3]
    refine I2.laid (t' := s2.toks) (fun b o e => Heap.get?_push_of_some _ e) (Nat.le_of_eq hD) (setO_ok ?_)
    rw [← hD]
    exact fresh_txt
  generalize hH3 : upd H2 D (SetO X.prog X.w D []) = H3 at I3 w0
  have f3 : ∀ b ∈ fp, FpOk X pins H3 b ∧ b < s3.heap.objs.size := fun b hb => by
    obtain ⟨o, e, _⟩ := T.obj _ _ st2 b hb
    have lt := Heap.lt_size e
    refine ⟨⟨?_, (f2 b hb).2⟩, Heap.lt_size (kp b o e)⟩
    rw [← hH3, upd_ne (by rw [← hD]; exact Nat.ne_of_lt lt)]
    exact (f2 b hb).1
  have st3 : tn 0 s3.heap := T.keep _ _ _ st2 fun b _ o e => kp b o e
  have I4 := block_start I3 ok hN f3
  have pg := hg s3 H3 s3.heap.objs.size (cellsFrom (s3.heap.objs.size + 1) scope.names (cloFrom X.env.cells scope.names [])) fp
  have pe := he s3 H3 s3.heap.objs.size (cellsFrom (s3.heap.objs.size + 1) scope.names (cloFrom X.env.cells scope.names [])) fp
  show codeAny _ _ (.compStart (.SetComp elt [⟨tg, iter, [], 0⟩] scope pos) 0 (.ref it) (.ref D) (compEnvC scope (cellsFrom (s3.heap.objs.size + 1) scope.names (cloFrom X.env.cells scope.names [])) s3.heap.objs.size X.env)) (compPost (model X.prog X.w) X.A X.xe none _ (.ref D) s3.heap.objs.size) { s3 with heap := pushCells (s3.heap.push { cls := .type "dict", data := .dict #[] }) scope.names }
  generalize hce : compEnvC scope (cellsFrom (s3.heap.objs.size + 1) scope.names (cloFrom X.env.cells scope.names [])) s3.heap.objs.size X.env = ce at I4 pg pe ⊢
  have cL : ce.locals = s3.heap.objs.size := by subst hce; rfl
  generalize hs4 : ({ s3 with heap := pushCells (s3.heap.push { cls := .type "dict", data := .dict #[] }) scope.names } : Shared) = s4 at I4 ⊢
  have st4 : tn 0 s4.heap := T.keep _ _ _ st3 fun b _ o e => by rw [← hs4]; exact pushCells_keeps _ _ _ _ (Heap.get?_push_of_some _ e)
  have stat : ∀ {σ' : L2.St} {H' : Hp} {s' : Shared}, Inv (X.blk s3 H3 scope ce fp) [] σ' H' s' → (∀ b ∈ fp, H' b = none) → ∀ b ∈ fp, FpOk (X.blk s3 H3 scope ce fp) [] H' b := fun {σ' H' s'} I' hn b hb =>
    ⟨hn b hb, (I'.ok.exf b hb).1, I'.ok.exfs b hb, .inl hb, fun x c e => (I'.ok.exf b hb).2 x c e, fun p hp => by cases hp⟩
  refine PpSet.codeAny_compStart_set ?lp (T.self X.A 0 _ _ _ st4 ?lp)
  refine PpSet.compLoopS_any (fun n s' => ∃ i H', Inv (X.blk s3 H3 scope ce fp) [] (wipe σ (own.map (·.2))) H' s' ∧ tn i s'.heap ∧ (∀ b ∈ fp, H' b = none) ∧ W i n H') ?_ m0 ⟨0, H3, I4, st4, fun b hb => (f3 b hb).1.1, w0⟩
  rintro n s5 ⟨i, H5, I5, st5, n5, w5⟩
  rcases turn i n H5 w5 with ⟨stop, qq⟩ | ⟨go, Nx, hNx, step⟩
  · refine thnF (T.done (X.blk s3 H3 scope ce fp) rfl rfl rfl hc i [] s5 _ H5 (fun _ _ => False) I5 (stat I5 n5) st5 stop) fun r s6 ⟨hr, I6⟩ => ?_
    subst hr
    have I7 : Inv X pins σ H5 s6 := I3.call' (ch := fp) I6.os I6.base I6.hok I6.bare fun b hb => ⟨(f3 b hb).1.2.2.2.1, (f3 b hb).1.2.1, (f3 b hb).1.2.2.2.2.1, (f3 b hb).1.2.2.2.2.2⟩
    have nC : H5 s3.heap.objs.size = none := by rw [← cL]; exact I6.free
    obtain ⟨m, hn, _⟩ := I6.loc
    have hn : s6.heap.Ns ce.locals m := hn
    rw [cL] at hn
    refine ⟨m, hn, fun h'' sb => ?_⟩
    obtain ⟨g0, g1, g2, g3, g4, g5⟩ := I3.fpOk (Nat.le_refl _) nC
    exact ⟨.ref D, H5, I7.turned (t' := s6.toks) (fun b o hb e => (sb.2 b hb).trans e) g0 g1 g3 g4 g5, rfl, qq⟩
  · refine thnF (T.item (X.blk s3 H3 scope ce fp) rfl rfl rfl hc i [] s5 _ H5 (fun _ _ => False) I5 (stat I5 n5) st5 go) fun r s6 ⟨u, hr, h6⟩ => ?_
    subst hr
    refine thnF h6 fun _ s7 ⟨x, H7, I7, r7, y7, st7, n7⟩ => ?_
    refine thnF (pg.run _ s7 _ H7 x u _ (I7.pinned (stat I7 n7) (T.obj _ _ st7)) r7 (step x H7 y7)) fun _ s8 ⟨σ8, H8, I8, hw8, q8⟩ => ?_
    refine wpAny_pure ?_
    refine thnF (pe.run _ s8 σ8 H8 _ I8 q8) fun z s10 ⟨yv, H10, I10, r10, t0, l0, ey, hD10, hz10, nx⟩ => ?_
    refine add_step (X := X.blk s3 H3 scope ce fp) I10 hD10 hz10 ey r10 fun s11 I11 => ?_
    obtain ⟨m', hm, w'⟩ := hNx _ nx
    have pin' : ∀ b ∈ fp, ∀ o, s7.heap.get? b = some o → s11.heap.get? b = some o ∧ _ := fun b hb o e => I11.pin (b, o) (List.mem_append_right _ (List.mem_append_right _ (mem_pinsAt hb e)))
    refine ⟨m', hm, i + 1, _, (I11.unpinned (pins := [])).weak (by rw [← hw8, wipe_length]) (fun j v e => ?_), T.keep _ _ _ st7 fun b hb o e => (pin' b hb o e).1, fun b hb => ?_, w'⟩
    · rw [← hw8] at e
      exact (wipe_some e).1
    · obtain ⟨o, e, _⟩ := T.obj _ _ st7 b hb
      exact (pin' b hb o e).2.1
end
end VLS

set_option Elab.async false
set_option linter.all false
set_option autoImplicit false
set_option maxRecDepth 100000
/-! VLSetV: sorted({elt for t in it}), elt a text. -/
namespace VL
open PySem PySem.Spec PyProof.Rows L2 VLS
/-- sorted of the set of texts at a -/
def rSS (P : Program) (w : World) : List V → Hp → VK → Prop := fun vs H Q => ∃ (a : Addr) (l : List Str), vs = [V.ref a] ∧ H a = some (SetO P w a l) ∧ l.length < 64 ∧
  ∀ (ys : List Str) (p : Addr), ys.Perm l → sortedS ys = true → H p = none → Q (.ref p) (upd H p (.lst (ys.map V.str)))
theorem cr_sortedSS {X : Cx} (hc : X.calm = true) : CallR X (.builtin "sorted") (rSS X.prog X.w) := by
  intro pins s σ H vs us Q I r h
  obtain ⟨a, l, rfl, ha, h64, q⟩ := h
  rw [Vals.ref1 r]
  refine sorted_txt (setO_get I ha) (I.ok.hd hc) h64 fun s' p out c ys k g o hp hg hi hm hs => ?_
  have hlen : (ys.map V.str).length ≤ sizeLine := by rw [List.length_map, hm.length_eq, sizeLine_eq]; omega
  have hn : H p = none := I.hok.fresh hp
  have J : Inv X pins σ (upd H p (.lst (ys.map V.str))) { s with heap := s'.heap, gens := s'.gens, drawn := s'.drawn, toks := s'.toks } :=
    I.call (ch := []) (Un.laid k hp hn) (I.hok.laid k hp ⟨hlen, out.toList, c, vals_of_strs hi, hg⟩) (by rw [g]; exact I.bare) (fun _ z => nomatch z)
  have e : s' = { s with heap := s'.heap, gens := s'.gens, drawn := s'.drawn, toks := s'.toks } := by
    cases s'
    cases s
    cases o
    rfl
  rw [e]
  exact ⟨.ref p, _, J, rfl, q ys p hm hs hn⟩
def sxGo (Gd : Sto → Prop) (tg : Tg) (vs : List Nat) (we : TV) : List D → List Str → En → Sto → (List Str → En → Sto → Prop) → Prop
  | [], acc, ρ, S, Q => Gd S ∧ Q acc ρ S
  | d :: ds, acc, ρ, S, Q => Gd S ∧ ∃ ρ1, bindT tg d ρ = some ρ1 ∧ we ρ1 S (fun y ρ3 S3 => ∃ z : Str, y = .str z ∧ acc.length + 1 < scanBound ∧ sxGo Gd tg vs we ds (if z ∈ acc then acc else z :: acc) (wipeE ρ3 vs) S3 Q) (fun _ _ _ => False)
def wSortSet (wi : TVI) (tg : Tg) (vs : List Nat) (we : TV) : TV := fun ρ S Q E => wi ρ S (fun ds Gd ρ1 S1 => noOwn ρ1 vs = true ∧ sxGo Gd tg vs we ds [] (wipeE ρ1 vs) S1 fun l ρ2 S2 => l.length < 64 ∧ ∀ ys : List Str, ys.Perm l → sortedS ys = true → Q (.lst (ys.map D.str)) (backE ρ1 ρ2 vs) S2) E
theorem sxGo_gd {Gd : Sto → Prop} {tg : Tg} {vs : List Nat} {we : TV} {ds : List D} {acc : List Str} {ρ : En} {S : Sto} {Q : List Str → En → Sto → Prop} (h : sxGo Gd tg vs we ds acc ρ S Q) : Gd S := by
  cases ds <;> exact h.1
section
variable {Y : VC} {elt tg iter : Expr} {scope : Scope} {own : List (Str × Nat)} {pos p0 pos' : Pos} {wi : TVI} {t : Tg} {we : TV}
theorem vf_sortset (hc : Y.X.calm = true) (hN : Y.X.N.Nodup) (hi : VI Y tg iter wi) (ok : BlkOk Y.X.N Y.X.env.scope scope own) (htg : ∀ i ∈ tgIx t, i ∈ own.map (·.2)) (hgl : Gl Y.X "sorted") (hm : Y.X.mg "sorted" = none)
    (hg : ∀ (s : Shared) (H : Hp) (C : Addr) (cl : List (Str × Addr)) (fp : List Addr) (F : Fr), VG (Blk Y scope s H C cl fp F) tg t)
    (he : ∀ (s : Shared) (H : Hp) (C : Addr) (cl : List (Str × Addr)) (fp : List Addr) (F : Fr), VE (Blk Y scope s H C cl fp F) elt we)
    (hs : ∀ x, foldedSetIterable iter Y.X.env x = pure x := by intro _; rfl) (hst : starEach [.SetComp elt [⟨tg, iter, [], 0⟩] scope pos] Y.X.env = (false, eval (.SetComp elt [⟨tg, iter, [], 0⟩] scope pos) Y.X.env) :: starEach [] Y.X.env := by rfl) (hpl : (backTo pos' (starEach [] Y.X.env)).any (·.1) = false := by rfl) :
    VF Y (.Call (.Name "sorted" p0) [.SetComp elt [⟨tg, iter, [], 0⟩] scope pos] [] pos') (wSortSet wi t (own.map (·.2)) we) := by
  have base := pe_callB (p := p0) (pos := pos') (cr_sortedSS (X := Y.X) hc) hgl hm PyProof.Rows.boot_sorted
    (pa_cons (pe_sx (g := fun v σ H Q => ∃ F, LG ⟨Y.X, Y.c, F, fun _ _ _ _ => False⟩ t v σ H Q) (te := fun σ H Q => ∃ F, LE ⟨Y.X, Y.c, F, fun _ _ _ _ => False⟩ we σ H Q) hc hN hi ok
      (fun s H C cl fp => ⟨fun pins s' σ' H' v u Q I rv ⟨F, h⟩ => (hg s H C cl fp F).run pins s' σ' H' v u Q I rv h⟩)
      (fun s H C cl fp => ⟨fun pins s' σ' H' Q I ⟨F, h⟩ => (he s H C cl fp F).run pins s' σ' H' Q I h⟩) hs) pa_nil hst) (by decide) (by decide) hst hpl
  refine PE.imp base fun σ H Q ⟨g, ρ, S, Qv, Ev, r, hw, ec, hq⟩ => ?_
  refine ⟨g, ρ, S, _, Ev, r, hw, ec, fun J H1 g1 ρ1 S1 ds Gd r1 st1 iok q => ?_⟩
  obtain ⟨hno, q⟩ := q
  intro D hD
  generalize hvs : own.map (·.2) = vs at *
  refine ⟨fun i m H2 => m + i = ds.length ∧ ∃ sm ρ2 S2 acc, R Y.c Y.F ⟨sm, D :: g1.tm⟩ (L2.wipe σ vs) H2 ρ2 S2 ∧ Ext g1.sm (MU Y.F g1 σ ρ1) H1 sm (MU Y.F ⟨sm, D :: g1.tm⟩ (L2.wipe σ vs) ρ2) H2 ∧ H2 D = some (SetO Y.X.prog Y.X.w D acc) ∧
      sxGo Gd t vs we (ds.drop i) acc ρ2 S2 fun l ρ2 S2 => l.length < 64 ∧ ∀ ys : List Str, ys.Perm l → sortedS ys = true → Qv (.lst (ys.map VL.D.str)) (backE ρ1 ρ2 vs) S2, ⟨ds.length, rfl, ?_⟩, ?_⟩
  · obtain ⟨r2, e2⟩ := r1.newtm (o := SetO Y.X.prog Y.X.w D []) hD trivial
    obtain ⟨r3, st3⟩ := R.wipe (vs := vs) r2
    exact ⟨g1.sm, wipeE ρ1 vs, S1, [], r3, e2.trans st3.ext, upd_same, by simpa using q⟩
  rintro i m H2 ⟨hm2, sm, ρ2, S2, acc, r2, e2, hD2, q2⟩
  have k := iok (L2.wipe σ vs) H2 ⟨sm, D :: g1.tm⟩ ρ2 S2 r2 e2 (sxGo_gd q2) i
  by_cases hi : i < ds.length
  · obtain ⟨go, yl⟩ := k.1 hi
    refine .inr ⟨go, fun H3 => ∃ sm ρ2 S2 acc, R Y.c Y.F ⟨sm, D :: g1.tm⟩ (L2.wipe σ vs) H3 ρ2 S2 ∧ Ext g1.sm (MU Y.F g1 σ ρ1) H1 sm (MU Y.F ⟨sm, D :: g1.tm⟩ (L2.wipe σ vs) ρ2) H3 ∧ H3 D = some (SetO Y.X.prog Y.X.w D acc) ∧
      sxGo Gd t vs we (ds.drop (i + 1)) acc ρ2 S2 fun l ρ2 S2 => l.length < 64 ∧ ∀ ys : List Str, ys.Perm l → sortedS ys = true → Qv (.lst (ys.map VL.D.str)) (backE ρ1 ρ2 vs) S2, fun H3 q3 => ⟨m - 1, by omega, by omega, q3⟩, fun x H3 y3 => ?_⟩
    obtain ⟨gr, d, hd, rp⟩ := yl x H3 y3
    have e1 : ds.drop i = d :: ds.drop (i + 1) := by
      rw [List.drop_eq_getElem_cons hi]
      have : ds[i] = d := by
        rw [List.getElem?_eq_getElem hi] at hd
        exact Option.some.inj hd
      rw [this]
    rw [e1] at q2
    obtain ⟨_, ρ3, hb3, q3⟩ := q2
    have r3 := r2.grow gr
    have e3 := e2.trans (Ext.grow (sm := sm) (M := MU Y.F ⟨sm, D :: g1.tm⟩ (L2.wipe σ vs) ρ2) gr)
    have hD3 := gr D _ hD2
    have r4 := r3.inner
    have em : ∀ {sm' : List Addr} {σ' : St} {ρ' : En}, MU (FrI Y.F ⟨sm, D :: g1.tm⟩ (L2.wipe σ vs) ρ2 H3) ⟨sm', []⟩ σ' ρ' = MU Y.F ⟨sm', D :: g1.tm⟩ σ' ρ' := mu_in
    refine ⟨FrI Y.F ⟨sm, D :: g1.tm⟩ (L2.wipe σ vs) ρ2 H3, ⟨sm, []⟩, ρ2, S2, d, ρ3, r4, by rw [em]; exact rp, hb3, fun σ4 r5 st5 a5 => ?_⟩
    have hwp := wipe_agr a5 htg
    refine ⟨hwp, FrI Y.F ⟨sm, D :: g1.tm⟩ (L2.wipe σ vs) ρ2 H3, ⟨sm, []⟩, ρ3, S2, _, _, r5, q3, fun _ _ _ _ _ _ _ _ _ _ _ h => h, fun v H7 g7 ρ7 S7 d7 r7 st7 rp7 q7 => ?_⟩
    obtain ⟨z, rfl, hz, q8⟩ := q7
    simp only [Rep] at rp7
    obtain ⟨sm5, tm5⟩ := g7
    obtain rfl : tm5 = [] := (st5.trans st7).tm
    obtain ⟨r6, kt⟩ := r3.outer r7
    have ex := (st5.trans st7).ext
    rw [em, em] at ex
    obtain ⟨r8, st8⟩ := R.wipe (vs := vs) r6
    rw [hwp] at r8 st8
    have hD8 := kt D List.mem_cons_self _ hD3
    obtain ⟨r9, st9⟩ := R.settm (a := D) (o := SetO Y.X.prog Y.X.w D (if z ∈ acc then acc else z :: acc)) r8 List.mem_cons_self trivial
    exact ⟨z, acc, rp7, hD8, hz, sm5, wipeE ρ7 vs, S7, _, r9, ((e3.trans ex).trans st8.ext).trans st9.ext, upd_same, q8⟩
  · have hi' : i = ds.length := by omega
    subst hi'
    refine .inl ⟨k.2 rfl, ?_⟩
    rw [List.drop_length] at q2
    obtain ⟨_, h64, q3⟩ := q2
    obtain ⟨r3, e3⟩ := r1.unwipe hno r2 e2
    refine ⟨D, acc, rfl, hD2, h64, fun ys p pm so hp => ?_⟩
    have hmu : ∀ b, MU Y.F ⟨sm, g1.tm⟩ σ (backE ρ1 ρ2 vs) b → MU Y.F ⟨sm, D :: g1.tm⟩ σ (backE ρ1 ρ2 vs) b := fun b m => by
      rcases m with m | m | m | m
      · exact .inl m
      · exact .inr (.inl m)
      · exact .inr (.inr (.inl (List.mem_cons_of_mem _ m)))
      · exact .inr (.inr (.inr m))
    have le := less_ext (sm := sm) (H := H2) hmu
    have r4 : R Y.c Y.F ⟨sm, g1.tm⟩ σ H2 (backE ρ1 ρ2 vs) S2 := R.less (g := ⟨sm, D :: g1.tm⟩) (tm' := g1.tm) r3 r3.len hmu (fun i d h => by
        obtain ⟨z, h1, h2⟩ := r3.val i d h
        exact ⟨z, h1, h2.ext le⟩) (fun i d h => by
        obtain ⟨b, h1, h2⟩ := r3.own i d h
        obtain ⟨q1, q2, q3, q4⟩ := r3.sep i d b h h1
        exact ⟨b, h1, h2, q1, q2, fun z => q3 (List.mem_cons_of_mem _ z), q4⟩) r3.inj (fun b h => List.mem_cons_of_mem _ h) r1.tmn (fun d h => ⟨d, h, rfl⟩)
    obtain ⟨r5, e5⟩ := r4.newtm (a := p) (o := .lst (ys.map V.str)) hp trivial
    have et := st1.tm
    rw [et] at r5 e5
    refine hq p _ sm (backE ρ1 ρ2 vs) S2 (.lst (ys.map VL.D.str)) r5 ?_ ?_ (q3 ys pm so)
    · have e6 := ((st1.ext.trans e2).trans e3).trans le
      rw [et] at e6
      exact e6.trans e5
    · simp only [Own]
      exact ⟨_, upd_same, reps_txts ys⟩
end
section
variable {Y : VC} {fa : String → Addr} {k : Nat} {T : Tab} {TI : String → FWI} {elt tg iter : Expr} {scope : Scope} {pos p0 pos' : Pos} {wi : TVI} {t : Tg} {we : TV}
theorem xsortset (own : List (Str × Nat)) (G : Gd Y fa k T TI) (B : NoB Y.X.mg) (hi : VI Y tg iter wi)
    (hg : ∀ (s : Shared) (H : Hp) (C : Addr) (cl : List (Str × Addr)) (fp : List Addr) (F : Fr), VG (Blk Y scope s H C cl fp F) tg t)
    (he : ∀ (s : Shared) (H : Hp) (C : Addr) (cl : List (Str × Addr)) (fp : List Addr) (F : Fr), Gd (Blk Y scope s H C cl fp F) fa k T TI → VE (Blk Y scope s H C cl fp F) elt we)
    (hgl : glB Y.X "sorted" = true := by kernel_rfl) (ok : blkB Y.X.N Y.X.env.scope scope own = true := by kernel_rfl) (htg : (tgIx t).all (fun i => (own.map (·.2)).contains i) = true := by kernel_rfl) (hN : decide Y.X.N.Nodup = true := by kernel_rfl)
    (hs : ∀ x, foldedSetIterable iter Y.X.env x = pure x := by intro _; rfl) (hst : starEach [.SetComp elt [⟨tg, iter, [], 0⟩] scope pos] Y.X.env = (false, eval (.SetComp elt [⟨tg, iter, [], 0⟩] scope pos) Y.X.env) :: starEach [] Y.X.env := by rfl) (hpl : (backTo pos' (starEach [] Y.X.env)).any (·.1) = false := by rfl) :
    VF Y (.Call (.Name "sorted" p0) [.SetComp elt [⟨tg, iter, [], 0⟩] scope pos] [] pos') (wSortSet wi t (own.map (·.2)) we) :=
  vf_sortset G.cm (of_decide_eq_true hN) hi (blk_of ok) (tgs_of htg) (gl_of hgl) B.sorted hg (fun s H C cl fp F => he s H C cl fp F G.blk) hs hst hpl
end
end VL

set_option Elab.async false
set_option linter.all false
set_option autoImplicit false
set_option maxRecDepth 100000
/-! VLHead: from the facts of the top to the defs' promises. -/
namespace VL
open PySem PySem.Spec PyProof.Rows L2

/-- a def stands at f -/
def FAt (K : PySem.W.Frag) (x qual : Str) (st : Stmt) (f : Addr) : Prop := ∃ (oc : Value) (od : Option Addr) (kV doc pm : Value) (an : Option Addr) (cdv ct : Value) (osl : Array (Option Value)),
  K.lookup f = some ⟨oc, od, .func (PySem.W.fnOf x qual (defArgs st) (defBody st) (defScope st) .none kV doc pm an cdv ct), osl⟩ ∧ PySem.W.codeIn K cdv qual = true ∧ PySem.W.keepIn K (.ref f) = true
theorem FAt.of {K : PySem.W.Frag} {x qual : Str} {st : Stmt} {f : Addr} {oc : Value} {od : Option Addr} {kV doc pm : Value} {an : Option Addr} {cdv ct : Value} {osl : Array (Option Value)}
    (l : K.lookup f = some ⟨oc, od, .func (PySem.W.fnOf x qual (defArgs st) (defBody st) (defScope st) .none kV doc pm an cdv ct), osl⟩) (c : PySem.W.codeIn K cdv qual = true) (k : PySem.W.keepIn K (.ref f) = true) : FAt K x qual st f := ⟨_, _, _, _, _, _, _, _, _, l, c, k⟩
theorem FAt.fn {K : PySem.W.Frag} {x qual : Str} {st : Stmt} {f : Addr} (h : FAt K x qual st f) : ∃ fd, Fun K x qual st f fd := by
  obtain ⟨oc, od, kV, doc, pm, an, cdv, ct, osl, l, c, k⟩ := h
  exact ⟨_, fun_mk l c k⟩
theorem FAt.kp {K : PySem.W.Frag} {x qual : Str} {st : Stmt} {f : Addr} (h : FAt K x qual st f) : PySem.W.keepIn K (.ref f) = true := by
  obtain ⟨oc, od, kV, doc, pm, an, cdv, ct, osl, l, c, k⟩ := h
  exact k
/-- .. with super() in it -/
def FAtS (P : Program) (K : PySem.W.Frag) (x qual : Str) (st : Stmt) (f D : Addr) : Prop := ∃ (oc : Value) (od : Option Addr) (doc pm ct : Value) (osl : Array (Option Value)) (cda cc : Addr) (ccl : Value) (cdd : Option Addr) (vs : Array Value) (ccs : Array (Option Value)) (file : Str) (tf : Tok) (cl : Value) (cld : Option Addr) (csl : Array (Option Value)),
  K.lookup f = some ⟨oc, od, .func (PySem.W.fnX x qual (defArgs st) (defBody st) (defScope st) [("__class__", cc)] .none .none doc pm none (.ref cda) ct), osl⟩ ∧ PySem.W.codeIn K (.ref cda) qual = true ∧
  K.lookup cda = some ⟨ccl, cdd, .fields vs, ccs⟩ ∧ vs[2]? = some (.str file tf) ∧ ((P.main.file : Str) == file) = true ∧ K.lookup cc = some ⟨cl, cld, .cell (some (.ref D)), csl⟩
theorem FAtS.of {P : Program} {K : PySem.W.Frag} {x qual : Str} {st : Stmt} {f D : Addr} {oc : Value} {od : Option Addr} {doc pm ct : Value} {osl : Array (Option Value)} {cda cc : Addr} {ccl : Value} {cdd : Option Addr} {vs : Array Value} {ccs : Array (Option Value)} {file : Str} {tf : Tok} {cl : Value} {cld : Option Addr} {csl : Array (Option Value)}
    (l1 : K.lookup f = some ⟨oc, od, .func (PySem.W.fnX x qual (defArgs st) (defBody st) (defScope st) [("__class__", cc)] .none .none doc pm none (.ref cda) ct), osl⟩) (l2 : PySem.W.codeIn K (.ref cda) qual = true)
    (l3 : K.lookup cda = some ⟨ccl, cdd, .fields vs, ccs⟩) (l4 : vs[2]? = some (.str file tf)) (l5 : ((P.main.file : Str) == file) = true) (l6 : K.lookup cc = some ⟨cl, cld, .cell (some (.ref D)), csl⟩) : FAtS P K x qual st f D :=
  ⟨_, _, _, _, _, _, _, _, _, _, _, _, _, _, _, _, _, l1, l2, l3, l4, l5, l6⟩
theorem ex_of {α : Type} {p : α → Prop} {a : α} (h : p a) : ∃ x, p x := ⟨a, h⟩
/-- an own class -/
structure CAt (K : PySem.W.Frag) (C : Addr) : Prop where
  pg : PySem.W.plainGet K C Str.empty = true
  hd : PySem.W.hasDictIn K C = true
  po : PySem.W.plainOver K C = true
  sa : PySem.W.findIn K (.ref C) "__setattr__" = some (some (.builtin "object.__setattr__"))
  mks : PySem.W.makesIn K C = true
  kc : PySem.W.keepIn K (.ref C) = true
  ca : PySem.W.findIn K (.ref C) "__class__" = some (some (.builtin "object.__class__"))
  cn : PySem.W.specialIn K (.builtin "object.__class__") "__get__" = some (some (.builtin "getset_descriptor.__get__"))
  ct : PySem.W.takesIn K (.builtin "object.__class__") = some true
  cm : PySem.W.mroIn K C (.type "object") = some true
theorem CAt.cls {K : PySem.W.Frag} {C : Addr} (h : CAt K C) : Cls K C := ⟨h.pg, h.hd, h.po, h.sa⟩
theorem CAt.isi {K : PySem.W.Frag} {C : Addr} (h : CAt K C) : SlX.SIsi K C := ⟨h.ca, h.cn, h.ct, h.cm⟩
/-- a class as the second argument of isinstance -/
structure CIs (K : PySem.W.Frag) (C : Addr) : Prop where
  hcl : ∃ cd, PySem.W.clsIn K C = some cd
  ty : PySem.W.typeIn K (.ref C) = some (.type "type")
theorem CIs.cl {K : PySem.W.Frag} {C : Addr} (h : CIs K C) : (PySem.W.clsIn K C).isSome = true := by
  obtain ⟨cd, e⟩ := h.hcl
  rw [e]; rfl
theorem CIs.of {K : PySem.W.Frag} {C : Addr} {cd : ClassData} (h1 : PySem.W.clsIn K C = some cd) (h2 : PySem.W.typeIn K (.ref C) = some (.type "type")) : CIs K C := ⟨⟨cd, h1⟩, h2⟩
theorem kit_bo {K : PySem.W.Frag} {C : Addr} {T : String} {l : List Value} (h : CIs K C) (hm : PySem.fastBuiltinMro T = some l) (hl : l.all (fun v => match v with | .type _ => true | _ => false) = true) : PySem.W.kitOne K (.type T) (.ref C) = some false := by
  have hn : (Value.type T == Value.ref C) = false := by rfl
  unfold PySem.W.kitOne
  rw [hn]
  simp only [Bool.false_eq_true, if_false]
  unfold PySem.W.kitCls
  simp only [h.cl, h.ty, beq_self_eq_true, Bool.and_self, if_true]
  unfold PySem.W.subIn
  show Option.map (fun x => x.contains (Value.ref C)) (PySem.fastBuiltinMro T) = some false
  rw [hm]
  simp only [Option.map_some]
  congr 1
  rw [List.contains_eq_any_beq, List.any_eq_false]
  intro v hv
  have := List.all_eq_true.mp hl v hv
  split at this
  · simp
  · cases this
theorem kit_ob {K : PySem.W.Frag} {C : Addr} {T : String} {b : Bool} (ht : PySem.W.kitMeta T = true) (h : PySem.W.mroIn K C (.type T) = some b) : PySem.W.kitOne K (.ref C) (.type T) = some b := by
  have hn : (Value.ref C == Value.type T) = false := by rfl
  unfold PySem.W.kitOne
  rw [hn]
  simp only [Bool.false_eq_true, if_false]
  unfold PySem.W.kitCls
  simp only [ht, if_true]
  exact h
theorem kit_oo {K : PySem.W.Frag} {C D : Addr} {b : Bool} (h : CIs K D) (hb : PySem.W.mroIn K C (.ref D) = some b) (hs : C = D → b = true) : PySem.W.kitOne K (.ref C) (.ref D) = some b := by
  unfold PySem.W.kitOne
  by_cases e : C = D
  · subst e
    simp [hs rfl]
  · have hn : (Value.ref C == Value.ref D) = false := by simp [e]
    rw [hn]
    simp only [Bool.false_eq_true, if_false]
    unfold PySem.W.kitCls
    simp only [h.cl, h.ty, beq_self_eq_true, Bool.and_self, if_true]
    exact hb
theorem kit_same {K : PySem.W.Frag} {C : Addr} : PySem.W.kitOne K (.ref C) (.ref C) = some true := by
  unfold PySem.W.kitOne
  simp
/-- a table of addresses -/
def lookA (l : List (String × Addr)) (s : String) : Addr := match l.lookup s with
  | some a => a
  | none => 0
theorem mem_lookupD {β : Type} : ∀ {l : List (String × β)} {n : String} {c : β}, l.lookup n = some c → (n, c) ∈ l
  | (k, v) :: r, n, c, h => by
    rw [List.lookup_cons] at h
    split at h
    · rename_i hb
      cases h
      cases beq_iff_eq.mp hb
      exact List.mem_cons_self
    · exact List.mem_cons_of_mem _ (mem_lookupD h)
theorem no_spV {c : Cf} {vs : List V} {H : Hp} {Q : VK} {E : XK} (h : spV c (fun _ _ _ _ => False) vs H Q E) : False := by
  obtain ⟨_, _, _, _, _, _, _, _, _, _, _, z, _⟩ := h
  exact z
theorem no_spI {c : Cf} {vs : List V} {H : Hp} {Q : VK} {E : XK} (h : spI c (fun _ _ _ _ _ _ => False) vs H Q E) : False := by
  obtain ⟨_, _, _, _, _, _, _, _, _, _, _, _, _, _, _, _, _, _, _, _, _, _, z, _⟩ := h
  exact z
theorem fn_no {P : Program} {w : World} {K : PySem.W.Frag} {mg : Str → Option Value} {base : Heap} {c : Cf} {k : Nat} {f : Addr} : FnR P w K mg base (L2.CX P w) k f (spV c (fun _ _ _ _ => False)) := fun _ _ _ _ _ _ _ _ _ _ _ h => (no_spV h).elim
theorem no_spVF {c : Cf} {vs : List V} {H : Hp} {Q : VK} {E : XK} (h : spVF c (fun _ _ _ _ => False) vs H Q E) : False := by
  obtain ⟨_, _, _, _, _, _, _, _, _, _, _, z, _⟩ := h
  exact z
theorem ff_no {P : Program} {w : World} {K : PySem.W.Frag} {mg : Str → Option Value} {base : Heap} {c : Cf} {k : Nat} {f : Addr} : FnR P w K mg base (L2.CX P w) k f (spVF c (fun _ _ _ _ => False)) := fun _ _ _ _ _ _ _ _ _ _ _ h => (no_spVF h).elim
theorem fi_no {P : Program} {w : World} {K : PySem.W.Frag} {mg : Str → Option Value} {base : Heap} {c : Cf} {k : Nat} {f : Addr} : FnR P w K mg base (L2.CX P w) k f (spI c (fun _ _ _ _ _ _ => False)) := fun _ _ _ _ _ _ _ _ _ _ _ h => (no_spI h).elim
/-- what the law asks -/
def spLaw (K : PySem.W.Frag) : Sp := fun vs H Q _ => ∃ (a : Addr) (ns : List Int), vs = [.ref a] ∧ SqL K H a (ns.map V.int) ∧ ns.length ≤ 63 ∧ (∀ z ∈ ns, Builtin.Int.intBits z ≤ 1048576) ∧ ∀ H', Q (.bl true) H'
theorem law_sp {c : Cf} {K : PySem.W.Frag} (hK : c.K = K) {w : FW} (h : ∀ ns : List Int, ns.length ≤ 63 → (∀ z ∈ ns, Builtin.Int.intBits z ≤ 1048576) → w [.scr ns] [] (fun d _ => d = .bl true) (fun _ _ => False)) (vs : List V) (H : Hp) (Q : VK) (E : XK) (hs : spLaw K vs H Q E) : spV c w vs H Q E := by
  obtain ⟨a, ns, ev, hS, hl, hb, k⟩ := hs
  subst ev
  have em : ∀ b, ¬ ((fun _ : Addr => False) b ∨ b ∈ ([] : List Addr)) := fun b z => z.elim id (fun z => nomatch z)
  refine ⟨fun _ => False, [], [.scr ns], [], _, _, fun _ z => z.elim, List.nodup_nil, (fun _ z => nomatch z), ⟨rfl, fun n a d z => by simp at z⟩, Reps.one ?_, h ns hl hb, fun v H' sm' S' d _ rp q => ?_, fun _ _ _ _ _ _ _ _ z => z.elim⟩
  · simp only [Rep]
    refine ⟨a, rfl, ?_⟩
    rw [hK]
    rcases hS with h | h
    · exact .inl ⟨h, em a⟩
    · exact .inr fun H' => .inr h
  · subst q
    simp only [Rep] at rp
    subst rp
    exact k H'
theorem cx_no {P : Program} {w : World} {H : Hp} {s : Shared} {e : Value} {s' : Shared} (h : L2.CX P w [] H s (fun _ _ _ => False) e s') : False := by
  obtain ⟨_, _, _, _, _, _, _, _, _, _, _, _, z⟩ := h
  exact z
end VL

set_option Elab.async false
set_option linter.all false
set_option autoImplicit false
set_option maxRecDepth 100000
set_option maxHeartbeats 1000000
/-! VLCompX: list comprehensions whose element may raise. -/
namespace VLX
open PySem PySem.Spec PyProof.Rows L2

theorem noteFrame_frame {e : Value} {env env' : Env} (h : env'.frame = env.frame) : noteFrame e env' = noteFrame e env := by
  unfold noteFrame PySem.frameOf
  rw [h]
theorem funFrames_at {base B h h' : Heap} : ∀ {l : List Env}, h.FunFrames base l → (∀ L ∈ frs l, B.get? L = none ∧ ∀ o, h.get? L = some o → h'.get? L = some o) → h'.FunFrames B l
  | [], _, _ => trivial
  | env :: l, h, hn => by
    obtain ⟨hk, ⟨L, o, hf, _, ho, hd⟩, hr⟩ := h
    have z := hn L (List.mem_filterMap.mpr ⟨env, List.mem_cons_self, hf⟩)
    exact ⟨hk, ⟨L, o, hf, z.1, z.2 o ho, hd⟩, funFrames_at hr fun b hb => by
      obtain ⟨e, he, q⟩ := List.mem_filterMap.mp hb
      exact hn b (List.mem_filterMap.mpr ⟨e, List.mem_cons_of_mem _ he, q⟩)⟩
/-- noted elsewhere: this frame notes it anew -/
theorem looks_elseZ {M : Model} {A : Around} {E : Value → Shared → Prop} {s : Shared} {Z : Obj → Prop} {base : Heap} {env : Env} {outer : List Env} {L e : Addr} {fl : Value} {Q : Unit → Shared → Prop} (hZ : HandSPX.Steady Z) (hfr : A.frames = some (env :: outer)) (hf : env.frame = some L)
    (hkb : base.StaysIn s.heap) (hen : base.get? e = none) (hl : s.heap.FunFrames base (env :: outer)) (ht : HandSPX.TracedZ s.heap base e Z fl) (hne : (fl == rawInt L) = false)
    (hQ : ∀ h', HandSPX.HeldZ base (env :: outer) e Z L h' → s.heap.UpToSlots h' → Q () { s with heap := h' }) : wpAny M A (noteFrame (.ref e) env) Q E s := by
  obtain ⟨oe, vs, T, oT, ts, he, hz, hd, h1, hnT, hTe, hT, hdT, h3⟩ := ht
  unfold noteFrame
  simp only [hf]
  refine wpAny_bind (wpAny_field he hd h1 ?_)
  rw [if_pos (show (Value.ref T != Value.none) = true from by simp)]
  refine wpAny_bind (wpAny_field hT hdT h3 ?_)
  rw [if_neg (by rw [hne]; exact Bool.false_ne_true)]
  refine wpAny_bind (wpAny_setField hT hdT (Array.getElem?_eq_some_iff.mp h3).1 ?_)
  have other : ∀ b, b ≠ T → (s.heap.update T (Obj.mapFields (·.setIfInBounds 3 Value.none))).get? b = s.heap.get? b := fun b hb => Heap.get?_update_other _ _ (Ne.symm hb)
  have noRecord : ∀ b o, s.heap.get? b = some o → (∀ vs, o.data ≠ .fields vs) → b ≠ T := fun b o hb hnf q => by
    rw [q, hT] at hb; injection hb with hb; subst hb; exact hnf ts hdT
  refine HandSPX.wpAny_entryZ hZ hfr (hl.of_keeps fun b o hb hnf => ⟨o, (other b (noRecord b o hb hnf)).trans hb, rfl⟩) hf ((other e (Ne.symm hTe)).trans he)
    (fun b o hbo => (other b fun q => by rw [q, hnT] at hbo; cases hbo).trans (hkb b o hbo)) hen hd (Array.getElem?_eq_some_iff.mp h1).1 hz fun h' hN => ?_
  obtain ⟨x1, x2, x3, x4⟩ := hN
  exact hQ h' ⟨x1, hen, x2, x3⟩ fun b o hb hnf => x4 b o ((other b (noRecord b o hb hnf)).trans hb) hnf

/-! ### the end of a comprehension, errors too -/
def compPostX (M : Model) (A : Around) (E : Value → Shared → Prop) (use : Option (Value → Sem Unit)) (Q : Value → Shared → Prop) (acc : Value) (C : Addr) (fr : Option Addr) (r : Result) (s' : Shared) : Prop :=
  match r, use with
  | .ok _, none => ∃ m, s'.heap.Ns C m ∧ ∀ h', Heap.SameBut C s'.heap h' → Q acc { s' with heap := h' }
  | .ok _, some u => wpAny M A (u acc) (fun _ s'' => ∃ m, s''.heap.Ns C m ∧ ∀ h', Heap.SameBut C s''.heap h' → Q .none { s'' with heap := h' }) E s'
  | .error x, _ => ∃ m, s'.heap.Ns C m ∧ ∀ h', Heap.SameBut C s'.heap h' → ∀ cenv : Env, cenv.frame = fr → wpAny M A (passOn "comprehension.variables-let-go" x cenv : Sem Value) (fun _ _ => False) E { s' with heap := h' }

theorem comprehension_freeX {M : Model} {A : Around} {E : Value → Shared → Prop} {s : Shared} {env : Env} {e : Expr} {scope : Scope} {pos : Pos} {newAcc first : Sem Value} {g : Comprehension} {gs : List Comprehension} {cl : List (Str × Addr)} {use : Option (Value → Sem Unit)}
    {Q : Value → Shared → Prop}
    (hcl : clausesOf e = g :: gs) (hs : ∀ x, foldedSetIterable g.iter env x = pure x) (hclos : closureFor scope env = pure cl)
    (hkind : scope.kind = .function) (hnames : ∀ x ∈ scope.names, x.2 = .local → scope.names.lookup x.1 = some .local)
    (h : wpAny M A first (fun x s₁ => wpAny M A (pyIter x) (fun it s₂ => wpAny M A newAcc (fun acc s₃ =>
      wpAny M A (newFunctionEnv scope env.globals cl [] env.qual none .none (some env)) (fun cenv s₄ =>
        codeAny M A (.compStart e 0 it acc { cenv with scope := relabel scope env }) (compPostX M A E use Q acc cenv.locals cenv.frame) s₄) E s₃) E s₂) E s₁) E s) :
    wpAny M A (comprehension e scope env pos newAcc false first use) Q E s := by
  unfold comprehension
  rw [hclos, hcl]
  refine wpAny_bind (wpAny_mono h (fun x s₁ h₁ => wpAny_bind (wpAny_standAt (wpAny_bind (wpAny_of_eq (hs x) (wpAny_bind (wpAny_holding (wpAny_mono h₁ (fun it s₂ h₂ =>
    wpAny_standIf (wpAny_bind (wpAny_mono h₂ (fun acc s₃ h₃ => wpAny_bind (wpAny_pure (wpAny_bind (wpAny_mono h₃ (fun cenv s₄ h₄ => ?_) fun _ _ h' => h')))) fun _ _ h' => h')))
      fun _ _ h' => h'))))))) fun _ _ h' => h')
  dsimp only
  have hv : ∀ x ∈ (scope.names.filter fun x => (x.2 == .local || x.2 == .cell) && x.1 != (".0" : Str)).reverse, x.2 = .local →
      Env.kindOf { cenv with scope := relabel scope env } x.1 = some .local := fun x hx hl => lookup_relabel_local (hnames x (List.mem_filter.mp (List.mem_reverse.mp hx)).1 hl)
  have hv' : ∀ x ∈ (scope.names.filter fun x => (x.2 == .local || x.2 == .cell) && x.1 != (".0" : Str)).reverse.drop 1 ++ (scope.names.filter fun x => (x.2 == .local || x.2 == .cell) && x.1 != (".0" : Str)).reverse.take 1,
      x.2 = .local → Env.kindOf { cenv with scope := relabel scope env } x.1 = some .local := fun x hx hl => by
    rcases List.mem_append.mp hx with h1 | h1
    · exact hv x (List.mem_of_mem_drop h1) hl
    · exact hv x (List.mem_of_mem_take h1) hl
  refine wpAny_holding (wpAny_bind (wpAny_attempt (wpAny_holding (wpAny_run (codeAny_mono h₄ fun r s' hr => ?_)))))
  cases r with
  | ok f =>
    cases use with
    | none =>
      obtain ⟨m, hn, hr⟩ := hr
      exact wpAny_bind (wpAny_holding (wpAny_comp_letGo (cenv := { cenv with scope := relabel scope env }) hkind _ s' m hv hn fun h' m' _ hs' => wpAny_pure (hr h' hs')))
    | some u =>
      refine wpAny_bind (wpAny_rule (wpAny_bind (wpAny_holding (wpAny_mono hr (fun _ s'' hr' => ?_) fun _ _ h' => h'))))
      obtain ⟨m, hn, hr'⟩ := hr'
      exact wpAny_bind (wpAny_comp_letGo (cenv := { cenv with scope := relabel scope env }) hkind _ s'' m hv' hn fun h' m' _ hs' => wpAny_pure (hr' h' hs'))
  | error x =>
    have hr' : ∃ m, s'.heap.Ns cenv.locals m ∧ ∀ h', Heap.SameBut cenv.locals s'.heap h' → ∀ cenv' : Env, cenv'.frame = cenv.frame → wpAny M A (passOn "comprehension.variables-let-go" x cenv' : Sem Value) (fun _ _ => False) E { s' with heap := h' } := by cases use <;> exact hr
    obtain ⟨m, hn, hr⟩ := hr'
    exact wpAny_bind (wpAny_holding (wpAny_comp_letGo (cenv := { cenv with scope := relabel scope env }) hkind _ s' m hv hn fun h' m' _ hs' => wpAny_mono (hr h' hs' _ rfl) (fun _ _ f => f.elim) fun _ _ y => y))

/-! ### the block's context -/
abbrev blkE (X : Cx) (s : Shared) (H : Hp) (scope : Scope) (cenv : Env) (fp : List Addr) (xe : Value → Shared → Prop) : Cx := { X.blk s H scope cenv fp with xe := xe }
section
variable {X : Cx} {pins : List (Addr × Obj)} {σ : L2.St} {H : Hp} {s : Shared}
theorem Ok.rexe {xe : Value → Shared → Prop} (ok : X.Ok) : ({ X with xe := xe } : Cx).Ok :=
  ⟨ok.mod, ok.kind, ok.glob, ok.blt, ok.above, ok.inj, ok.has, ok.cab, ok.hd, ok.frames, ok.stk, ok.exf, ok.bs, ok.bsz, ok.noex, ok.exfs, ok.funs, ok.frf⟩
theorem Ok.unxe {xe : Value → Shared → Prop} (ok : ({ X with xe := xe } : Cx).Ok) : X.Ok :=
  ⟨ok.mod, ok.kind, ok.glob, ok.blt, ok.above, ok.inj, ok.has, ok.cab, ok.hd, ok.frames, ok.stk, ok.exf, ok.bs, ok.bsz, ok.noex, ok.exfs, ok.funs, ok.frf⟩
theorem Inv.rexe {xe : Value → Shared → Prop} (I : Inv X pins σ H s) : Inv { X with xe := xe } pins σ H s := ⟨Ok.rexe I.ok, I.os, I.bare, I.base, I.loc, I.cell, I.free, I.freeC, I.pin, I.hok, I.len⟩
theorem Inv.unxe {xe : Value → Shared → Prop} (I : Inv { X with xe := xe } pins σ H s) : Inv X pins σ H s := ⟨Ok.unxe I.ok, I.os, I.bare, I.base, I.loc, I.cell, I.free, I.freeC, I.pin, I.hok, I.len⟩
theorem XE.unxe {xe : Value → Shared → Prop} {W : WX} {u : Value} {s' : Shared} (x : XE { X with xe := xe } W u s') : XE X W u s' := by
  obtain ⟨a, B, sI, pins, σ, H, cls, d, e, I, r⟩ := x
  exact ⟨a, B, sI, pins, σ, H, cls, d, e, Inv.unxe I, r⟩
end
section
variable {X : Cx} {pins : List (Addr × Obj)} {σ : L2.St} {H3 : Hp} {s3 : Shared} {Wout : WX} {scope : Scope} {ce : Env} {fp : List Addr} {use : Option (Value → Sem Unit)} {Qf : Value → Shared → Prop} {acc : Value} {E : Value → Shared → Prop}
/-- an error in the block: noted, the block's names let go, passed on -/
theorem blk_err (hs : X.stack = X.env :: X.outer) (hf : X.env.frame = some X.env.locals) (tk : Takes X Wout) (I3 : Inv X pins σ H3 s3) (f3 : ∀ b ∈ fp, FpOk X pins H3 b ∧ b < s3.heap.objs.size) (cL : ce.locals = s3.heap.objs.size) (cF : ce.frame = X.env.frame)
    {u : Value} {s' : Shared} (x : XE (X.blk s3 H3 scope ce fp) (fun cls d _ H' => Wout cls d σ H') u s') :
    wpAny (model X.prog X.w) X.A (noteFrame u ce) (fun _ s'' => compPostX (model X.prog X.w) X.A X.xe use Qf acc s3.heap.objs.size ce.frame (.error u) s'') E s' := by
  obtain ⟨a, B, sI, pins', σ', H', cls, d, rfl, I6, nb, up, sky, na, os, ag, w⟩ := x
  have hfr : X.A.frames = some (X.env :: X.outer) := by rw [I3.ok.frames, hs]
  rw [noteFrame_frame cF]
  have sky : Sky B (X.env :: X.outer) a (Zc cls d) ce.locals s'.heap := by
    have z : Sky B X.stack a (Zc cls d) ce.locals s'.heap := sky
    rw [hs] at z
    exact z
  have neL : X.env.locals ≠ s3.heap.objs.size := Nat.ne_of_lt I3.lt
  have noted : ∀ {Q : Unit → Shared → Prop}, (∀ h1, HandSPX.HeldZ B (X.env :: X.outer) a (Zc cls d) X.env.locals h1 → s'.heap.UpToSlots h1 → Q () { s' with heap := h1 }) → wpAny (model X.prog X.w) X.A (noteFrame (.ref a) X.env) Q E s' := fun {Q} fin => by
    rcases sky with ⟨hB, hn, hl, oe, vs, he, hz, hd, h1⟩ | fl | ⟨g1, g2, g3, g4⟩
    · exact HandSPX.look_newZ Zc.steady hfr hl hf he hB hn hd h1 hz fin
    · exact HandSPX.looks_onZ Zc.steady hfr hf fl fin
    · refine looks_elseZ Zc.steady hfr hf g1 g2 g3 g4 ?_ fin
      rw [cL]
      refine beq_eq_false_iff_ne.mpr fun e => neL ?_
      have z : rawInt s3.heap.objs.size = rawInt X.env.locals := e
      unfold rawInt at z
      injection z with z1 z2
      exact (Int.ofNat.inj z1).symm
  refine noted fun h1 hh up1 => ?_
  have I7 : Inv X pins σ H' sI := I3.call' (ch := fp) I6.os I6.base I6.hok I6.bare fun b hb => ⟨(f3 b hb).1.2.2.2.1, (f3 b hb).1.2.1, (f3 b hb).1.2.2.2.2.1, (f3 b hb).1.2.2.2.2.2⟩
  have nC : H' s3.heap.objs.size = none := by
    have z : H' ce.locals = none := I6.free
    rw [cL] at z
    exact z
  obtain ⟨m, hn, _⟩ := I6.loc
  have hn : sI.heap.Ns ce.locals m := hn
  rw [cL] at hn
  have fC := I3.fpOk (Nat.le_refl _) nC
  generalize hCe : s3.heap.objs.size = C at *
  have nst : C ∉ frs X.stack := fun hm => by
    rcases List.mem_cons.mp (I3.stkSub C hm) with z | z
    · exact fC.2.1 z
    · exact fC.2.2.1 z
  obtain ⟨oC, es, ep, hoC, rC⟩ := hn
  have hBC : B.get? C = some oC := nb C oC hoC nst
  obtain ⟨k1, k2, k3, oe, vs, T, oT, ts, he, hz, hd, h1t, hnT, hTe, hT, hdT, h3⟩ := hh
  have neA : a ≠ C := fun z => by rw [z, hBC] at k2; cases k2
  have neT : T ≠ C := fun z => by rw [z, hBC] at hnT; cases hnT
  have hB2 : ∀ b o, (PySem.W.hideAll B [C]).get? b = some o → b ≠ C ∧ B.get? b = some o := fun b o e => by
    refine ⟨fun z => ?_, PySem.W.of_hideAll _ e⟩
    rw [z, PySem.W.hideAll_none [C] (List.mem_singleton.mpr rfl)] at e
    cases e
  have hS2 : ∀ b o, (PySem.W.hideAll sI.heap [C]).get? b = some o → b ≠ C ∧ sI.heap.get? b = some o := fun b o e => by
    refine ⟨fun z => ?_, PySem.W.of_hideAll _ e⟩
    rw [z, PySem.W.hideAll_none [C] (List.mem_singleton.mpr rfl)] at e
    cases e
  have gone : ∀ b, B.get? b = none → (PySem.W.hideAll B [C]).get? b = none := fun b z => by
    cases q : (PySem.W.hideAll B [C]).get? b with
    | none => rfl
    | some o =>
      have := (hB2 b o q).2
      rw [z] at this; cases this
  show compPostX (model X.prog X.w) X.A X.xe use Qf acc C ce.frame (.error (.ref a)) { s' with heap := h1 }
  have goal : ∃ m, h1.Ns C m ∧ ∀ h', Heap.SameBut C h1 h' → ∀ cenv : Env, cenv.frame = ce.frame → wpAny (model X.prog X.w) X.A (passOn "comprehension.variables-let-go" (.ref a) cenv : Sem Value) (fun _ _ => False) X.xe { s' with heap := h' } := by
    refine ⟨m, ⟨oC, es, ep, k1 C oC hBC, rC⟩, fun h2 sb cenv hce => ?_⟩
    have he2 : h2.get? a = some oe := (sb.2 a neA).trans he
    have hh2 : HandSPX.HeldZ (PySem.W.hideAll B [C]) (X.env :: X.outer) a (Zc cls d) X.env.locals h2 := by
      refine ⟨fun b o e => (sb.2 b (hB2 b o e).1).trans (k1 b o (hB2 b o e).2), gone a k2, funFrames_at k3 fun L hL => ?_, oe, vs, T, oT, ts, he2, hz, hd, h1t, gone T hnT, hTe, (sb.2 T neT).trans hT, hdT, h3⟩
      have nL : L ≠ C := fun z => nst (by rw [hs, ← z]; exact hL)
      exact ⟨gone L (k3.mem hL).1, fun o e => (sb.2 L nL).trans e⟩
    unfold PySem.passOn
    refine wpAny_bind (wpAny_field he2 hd h1t ?_)
    rw [if_neg (show ¬ ((Value.ref T == Value.none) = true) from by simp)]
    have fin : wpAny (model X.prog X.w) X.A (setFlight (.ref a) cenv.frame) (fun _ s4 => wpAny (model X.prog X.w) X.A (throw (.ref a) : Sem Value) (fun _ _ => False) X.xe s4) X.xe { s' with heap := h2 } := by
      rw [hce, cF, hf]
      refine HandSPX.setFlight_onZ hh2 fun h4 hh4 up4 => wpAny_throw (tk _ _ ?_)
      refine ⟨a, PySem.W.hideAll B [C], { sI with heap := PySem.W.hideAll sI.heap [C] }, pins, σ, H', cls, d, rfl, I7.turned (t' := sI.toks) (fun b o hb e => PySem.W.hideAll_get _ e fun z => hb (List.mem_singleton.mp z)) nC fC.2.1 fC.2.2.2.1 fC.2.2.2.2.1 fC.2.2.2.2.2, fun b o e hb => ?_, fun b o e hnf => ?_, .inr (.inr (by rw [hs]; exact hh4)), na, os, ag, w⟩
      · obtain ⟨n1, e1⟩ := hS2 b o e
        exact PySem.W.hideAll_get _ (nb b o e1 hb) fun z => n1 (List.mem_singleton.mp z)
      · obtain ⟨n1, e1⟩ := hS2 b o e
        obtain ⟨sl, e2⟩ := up b o e1 hnf
        obtain ⟨sl2, e3⟩ := up1 b _ e2 hnf
        have e4 : h2.get? b = some { o with slots := sl2 } := (sb.2 b n1).trans e3
        obtain ⟨sl3, e5⟩ := up4 b _ e4 hnf
        exact ⟨sl3, e5⟩
    first
      | exact wpAny_bind (wpAny_pure (wpAny_bind fin))
      | exact wpAny_bind fin
  cases use <;> exact goal
end
end VLX
namespace VLX
open PySem PySem.Spec PyProof.Rows L2
section
variable {X : Cx}
def tLcX (Wout : WX) (wi : TI) (g : TG) (tt : TT) (te : WX → TE) (vs : List Nat) : TE := fun σ H Q => tLc wi g tt (te fun cls d _ H' => Wout cls d σ H') vs σ H Q
theorem lc_coreX {Wout : WX} {pins : List (Addr × Obj)} {s : Shared} {σ : L2.St} {H : Hp} {Q : VK} {elt tg iter : Expr} {ifs : List Expr} {scope : Scope} {own : List (Str × Nat)} {pos pos' : Pos} {wi : TI} {g : TG} {tt : TT} {te : WX → TE} {use : Option (Value → Sem Unit)} {Qf : Value → Shared → Prop}
    (hc : X.calm = true) (hst : X.stack = X.env :: X.outer) (hfL : X.env.frame = some X.env.locals) (tk : Takes X Wout) (hN : X.N.Nodup) (I : Inv X pins σ H s) (hi : PI X tg iter wi) (ok : BlkOk X.N X.env.scope scope own)
    (hg : ∀ (s : Shared) (H : Hp) (C : Addr) (cl : List (Str × Addr)) (fp : List Addr) (xe : Value → Shared → Prop), PG (blkE X s H scope (compEnvC scope cl C X.env) fp xe) tg g) (ht : ∀ (s : Shared) (H : Hp) (C : Addr) (cl : List (Str × Addr)) (fp : List Addr) (xe : Value → Shared → Prop), PTs (blkE X s H scope (compEnvC scope cl C X.env) fp xe) ifs tt)
    (he : ∀ (s : Shared) (H : Hp) (C : Addr) (cl : List (Str × Addr)) (fp : List Addr) (xe : Value → Shared → Prop) (W : WX), Takes (blkE X s H scope (compEnvC scope cl C X.env) fp xe) W → PE (blkE X s H scope (compEnvC scope cl C X.env) fp xe) elt (te W)) (hs : ∀ x, foldedSetIterable iter X.env x = pure x)
    (h : tLcX Wout wi g tt te (own.map (·.2)) σ H Q)
    (hRR : ∀ D C s' m H' fr, Inv X pins σ H' s' → Q (.ref D) H' → s'.heap.Ns C m → FpOk X pins H' C → compPostX (model X.prog X.w) X.A X.xe use Qf (.ref D) C fr (.ok .next) s') :
    wpAny (model X.prog X.w) X.A (comprehension (.ListComp elt [⟨tg, iter, ifs, 0⟩] scope pos) scope X.env pos' (newList []) false (eval iter X.env) use) Qf X.xe s := by
  have hfree : ∀ y ∈ scope.names, y.2 = .free → ∃ c, X.env.cells.lookup y.1 = some c := fun y hy e => by
    rcases ok.free y hy e with k | k
    · exact I.ok.has _ (.inl k)
    · exact I.ok.has _ (.inr k)
  refine comprehension_freeX (use := use) rfl hs (closure_ok hfree) ok.kind (fun y hy e => by rw [ok.uniq y hy, e])
    (thn (hi.run pins s σ H _ I h) fun xv s1 hx => thn hx fun itv s2 h2 => ?_)
  obtain ⟨it, fp, tn, J, H2, e, I2, T, st2, f2, q⟩ := h2
  subst e
  refine wpAny_newObj_type (newEnv_comp ?_) (by show 0 ≤ sizeLine; decide)
  generalize hD : s2.heap.objs.size = D
  have hDn : H2 D = none := I2.hok.fresh (Nat.le_of_eq hD)
  obtain ⟨W, ⟨m0, w0⟩, turn⟩ := q D hDn
  -- the new list
  generalize hs3 : ({ s2 with heap := s2.heap.push { cls := .type "list", data := .seq ([] : List Value).toArray } } : Shared) = s3
  have I3 : Inv X pins σ (upd H2 D (.lst [])) s3 := by
    rw [← hs3]
    refine I2.laid (t' := s2.toks) (fun b o e => Heap.get?_push_of_some _ e) (Nat.le_of_eq hD) ⟨Nat.zero_le _, [], 0, .nil, ?_⟩
    rw [← hD]
    exact Heap.get?_push_size _ rfl
  have h3 : s3.heap = s2.heap.push { cls := .type "list", data := .seq ([] : List Value).toArray } := by rw [← hs3]
  have sz : ∀ b ∈ fp, b < s2.heap.objs.size := fun b hb => by
    obtain ⟨o, e, _⟩ := T.obj _ _ st2 b hb
    exact Heap.lt_size e
  have f3 : ∀ b ∈ fp, FpOk X pins (upd H2 D (.lst [])) b ∧ b < s3.heap.objs.size := fun b hb => by
    have hlt := sz b hb
    refine ⟨⟨?_, (f2 b hb).2⟩, by rw [h3, Heap.size_push]; exact Nat.lt_succ_of_lt hlt⟩
    rw [upd_ne (by rw [← hD]; exact Nat.ne_of_lt hlt)]
    exact (f2 b hb).1
  have st3 : tn 0 s3.heap := T.keep _ _ _ st2 fun b _ o e => by rw [h3]; exact Heap.get?_push_of_some _ e
  have I4 := block_start I3 ok hN f3
  have pg := hg s3 (upd H2 D (.lst [])) s3.heap.objs.size (cellsFrom (s3.heap.objs.size + 1) scope.names (cloFrom X.env.cells scope.names [])) fp
  have pt := ht s3 (upd H2 D (.lst [])) s3.heap.objs.size (cellsFrom (s3.heap.objs.size + 1) scope.names (cloFrom X.env.cells scope.names [])) fp
  have pe := he s3 (upd H2 D (.lst [])) s3.heap.objs.size (cellsFrom (s3.heap.objs.size + 1) scope.names (cloFrom X.env.cells scope.names [])) fp
  show codeAny _ _ (.compStart (.ListComp elt [⟨tg, iter, ifs, 0⟩] scope pos) 0 (.ref it) (.ref D) (compEnvC scope (cellsFrom (s3.heap.objs.size + 1) scope.names (cloFrom X.env.cells scope.names [])) s3.heap.objs.size X.env)) (compPostX (model X.prog X.w) X.A X.xe use Qf (.ref D) s3.heap.objs.size X.env.frame) { s3 with heap := pushCells (s3.heap.push { cls := .type "dict", data := .dict #[] }) scope.names }
  have nfp : ∀ b ∈ fp, (upd H2 D (.lst [])) b = none := fun b hb => (f3 b hb).1.1
  generalize hce : compEnvC scope (cellsFrom (s3.heap.objs.size + 1) scope.names (cloFrom X.env.cells scope.names [])) s3.heap.objs.size X.env = ce at I4 pg pt pe ⊢
  have cL : ce.locals = s3.heap.objs.size := by subst hce; rfl
  have cF : ce.frame = X.env.frame := by subst hce; rfl
  generalize hH3 : upd H2 D (.lst []) = H3 at I3 I4 pg pt pe w0 nfp f3
  generalize hs4 : ({ s3 with heap := pushCells (s3.heap.push { cls := .type "dict", data := .dict #[] }) scope.names } : Shared) = s4 at I4 ⊢
  have st4 : tn 0 s4.heap := T.keep _ _ _ st3 fun b _ o e => by rw [← hs4]; exact pushCells_keeps _ _ _ _ (Heap.get?_push_of_some _ e)
  -- errors
  generalize hxe : (fun u s' => XE (X.blk s3 H3 scope ce fp) (fun cls d _ H' => Wout cls d σ H') u s') = xe
  have I4 : Inv (blkE X s3 H3 scope ce fp xe) [] (wipe σ (own.map (·.2))) H3 s4 := Inv.rexe I4
  have pg := pg xe
  have pt := pt xe
  have pe := pe xe (fun cls d _ H' => Wout cls d σ H') (fun u s' x => by
    rw [← hxe]
    exact XE.unxe (X := X.blk s3 H3 scope ce fp) x)
  have err : ∀ {E' : Value → Shared → Prop} (u : Value) (s' : Shared), xe u s' → wpAny (model X.prog X.w) X.A (noteFrame u ce) (fun _ s'' => compPostX (model X.prog X.w) X.A X.xe use Qf (.ref D) s3.heap.objs.size X.env.frame (.error u) s'') E' s' := fun {E'} u s' x => by
    rw [← hxe] at x
    have z := blk_err (use := use) (Qf := Qf) (acc := .ref D) (E := E') hst hfL tk I3 f3 cL cF x
    rw [cF] at z
    exact z
  have stat : ∀ {σ' : L2.St} {H' : Hp} {s' : Shared}, Inv (blkE X s3 H3 scope ce fp xe) [] σ' H' s' → (∀ b ∈ fp, H' b = none) → ∀ b ∈ fp, FpOk (blkE X s3 H3 scope ce fp xe) [] H' b := fun {σ' H' s'} I' hn b hb =>
    ⟨hn b hb, (I'.ok.exf b hb).1, I'.ok.exfs b hb, .inl hb, fun x c e => (I'.ok.exf b hb).2 x c e, fun p hp => absurd (show p ∈ ([] : List (Addr × Obj)) ++ [] from hp) (by simp)⟩
  have loop : codeAny (model X.prog X.w) X.A (.compLoop (.ListComp elt [⟨tg, iter, ifs, 0⟩] scope pos) 0 (.ref it) (.ref D) ce) (compPostX (model X.prog X.w) X.A X.xe use Qf (.ref D) s3.heap.objs.size X.env.frame) s4 := by
    refine compLoop_any (fun n s' => ∃ i H', Inv (blkE X s3 H3 scope ce fp xe) [] (wipe σ (own.map (·.2))) H' s' ∧ tn i s'.heap ∧ (∀ b ∈ fp, H' b = none) ∧ W i n H') ?_ m0 ⟨0, H3, I4, st4, nfp, w0⟩
    rintro n s5 ⟨i, H5, I5, st5, n5, w5⟩
    rcases turn i n H5 w5 with ⟨stop, qq⟩ | ⟨go, Nx, hNx, step⟩
    · have td := T.done (blkE X s3 H3 scope ce fp xe) rfl rfl rfl hc i [] s5 _ H5 (fun _ _ => False) I5 (stat I5 n5) st5 stop
      refine thnF td fun r s6 ⟨hr, I6⟩ => ?_
      subst hr
      -- back in the def's context
      have I7 : Inv X pins σ H5 s6 := I3.call' (ch := fp) I6.os I6.base I6.hok I6.bare fun b hb => ⟨(f3 b hb).1.2.2.2.1, (f3 b hb).1.2.1, (f3 b hb).1.2.2.2.2.1, (f3 b hb).1.2.2.2.2.2⟩
      have nC : H5 s3.heap.objs.size = none := by
        have z : H5 ce.locals = none := I6.free
        rw [cL] at z
        exact z
      obtain ⟨m, hn, _⟩ := I6.loc
      have hn : s6.heap.Ns ce.locals m := hn
      rw [cL] at hn
      exact hRR D s3.heap.objs.size s6 m H5 _ I7 qq hn (I3.fpOk (Nat.le_refl _) nC)
    · have ti := T.item (blkE X s3 H3 scope ce fp xe) rfl rfl rfl hc i [] s5 _ H5 (fun _ _ => False) I5 (stat I5 n5) st5 go
      refine thnF ti fun r s6 ⟨u, hr, h6⟩ => ?_
      subst hr
      refine thnF h6 fun _ s7 ⟨x, H7, I7, r7, y7, st7, n7⟩ => ?_
      have I7' := I7.pinned (stat I7 n7) (T.obj _ _ st7)
      refine wpAny_mono (pg.run _ s7 _ H7 x u _ I7' r7 (step x H7 y7)) (fun _ s8 ⟨σ8, H8, I8, hw8, q8⟩ => ?_) (fun u s' x => err u s' x)
      refine wpAny_mono (pt.run _ s8 σ8 H8 _ I8 q8) (fun b s9 ⟨H9, I9, q9⟩ => ?_) (fun u s' x => err u s' x)
      -- the turn's end
      have fin : ∀ {s' : Shared} {H' : Hp}, Inv (blkE X s3 H3 scope ce fp xe) ([] ++ pinsAt fp s7.heap) σ8 H' s' → Nx H' → ∃ m, m < n ∧ ∃ i H', Inv (blkE X s3 H3 scope ce fp xe) [] (wipe σ (own.map (·.2))) H' s' ∧ tn i s'.heap ∧ (∀ b ∈ fp, H' b = none) ∧ W i m H' := fun {s' H'} I' nx => by
        obtain ⟨m', hm, w'⟩ := hNx H' nx
        have pin' : ∀ b ∈ fp, ∀ o, s7.heap.get? b = some o → s'.heap.get? b = some o ∧ H' b = none := fun b hb o e =>
          let z := I'.pin (b, o) (List.mem_append_right _ (List.mem_append_right _ (mem_pinsAt hb e)))
          ⟨z.1, z.2.1⟩
        have hl : (wipe σ (own.map (·.2))).length = σ8.length := by rw [← hw8, wipe_length]
        refine ⟨m', hm, i + 1, H', (I'.unpinned (pins := [])).weak hl (fun j v e => ?_), T.keep _ _ _ st7 fun b hb o e => (pin' b hb o e).1, fun b hb => ?_, w'⟩
        · rw [← hw8] at e
          exact (wipe_some e).1
        · obtain ⟨o, e, _⟩ := T.obj _ _ st7 b hb
          exact (pin' b hb o e).2
      cases b with
      | false =>
        simp only [Bool.false_eq_true, if_false] at q9 ⊢
        exact fin I9 q9
      | true =>
        simp only [if_true] at q9 ⊢
        refine wpAny_mono (pe.run _ s9 σ8 H9 _ I9 q9) (fun z s10 ⟨yv, H10, I10, r10, acc, hD10, hz10, nx⟩ => ?_) (fun u s' x => err u s' x)
        exact app_ok (X := blkE X s3 H3 scope ce fp xe) I10 hD10 hz10 r10 fun s11 I11 => fin I11 nx
  exact codeAny_compStart_list loop (T.self X.A 0 _ _ _ st4 loop)
section
variable {Wout : WX} {elt tg iter : Expr} {ifs : List Expr} {scope : Scope} {own : List (Str × Nat)} {wi : TI} {g : TG} {tt : TT} {te : WX → TE}
theorem pe_lcX {pos : Pos} (hc : X.calm = true) (hst : X.stack = X.env :: X.outer) (hfL : X.env.frame = some X.env.locals) (tk : Takes X Wout) (hN : X.N.Nodup) (hi : PI X tg iter wi) (ok : BlkOk X.N X.env.scope scope own)
    (hg : ∀ (s : Shared) (H : Hp) (C : Addr) (cl : List (Str × Addr)) (fp : List Addr) (xe : Value → Shared → Prop), PG (blkE X s H scope (compEnvC scope cl C X.env) fp xe) tg g) (ht : ∀ (s : Shared) (H : Hp) (C : Addr) (cl : List (Str × Addr)) (fp : List Addr) (xe : Value → Shared → Prop), PTs (blkE X s H scope (compEnvC scope cl C X.env) fp xe) ifs tt)
    (he : ∀ (s : Shared) (H : Hp) (C : Addr) (cl : List (Str × Addr)) (fp : List Addr) (xe : Value → Shared → Prop) (W : WX), Takes (blkE X s H scope (compEnvC scope cl C X.env) fp xe) W → PE (blkE X s H scope (compEnvC scope cl C X.env) fp xe) elt (te W)) (hs : ∀ x, foldedSetIterable iter X.env x = pure x := by intro _; rfl) :
    PE X (.ListComp elt [⟨tg, iter, ifs, 0⟩] scope pos) (tLcX Wout wi g tt te (own.map (·.2))) := by
  refine ⟨fun pins s σ H Q I h => ?_⟩
  rw [eval_ListComp]
  refine lc_coreX hc hst hfL tk hN I hi ok hg ht he hs h fun D C s' m H' fr I' q hn f => ⟨m, hn, fun h'' sb => ?_⟩
  obtain ⟨f0, f1, f2, f3, f4, f5⟩ := f
  exact ⟨.ref D, H', I'.turned (t' := s'.toks) (fun b o hb e => (sb.2 b hb).trans e) f0 f1 f3 f4 f5, rfl, q⟩
theorem ps_setLcX {i : Nat} {y : Str} {py : Pos} {pos spos : Pos} (hc : X.calm = true) (hst : X.stack = X.env :: X.outer) (hfL : X.env.frame = some X.env.locals) (tk : Takes X Wout) (hN : X.N.Nodup) (hy : X.N[i]? = some y) (hyl : X.env.scope.names.lookup y = some .local)
    (hsw : swapsWith (.ListComp elt [⟨tg, iter, ifs, 0⟩] scope pos) (some (.Name y py)) spos.line X.env = pure true) (hi : PI X tg iter wi) (ok : BlkOk X.N X.env.scope scope own)
    (hg : ∀ (s : Shared) (H : Hp) (C : Addr) (cl : List (Str × Addr)) (fp : List Addr) (xe : Value → Shared → Prop), PG (blkE X s H scope (compEnvC scope cl C X.env) fp xe) tg g) (ht : ∀ (s : Shared) (H : Hp) (C : Addr) (cl : List (Str × Addr)) (fp : List Addr) (xe : Value → Shared → Prop), PTs (blkE X s H scope (compEnvC scope cl C X.env) fp xe) ifs tt)
    (he : ∀ (s : Shared) (H : Hp) (C : Addr) (cl : List (Str × Addr)) (fp : List Addr) (xe : Value → Shared → Prop) (W : WX), Takes (blkE X s H scope (compEnvC scope cl C X.env) fp xe) W → PE (blkE X s H scope (compEnvC scope cl C X.env) fp xe) elt (te W)) (hs : ∀ x, foldedSetIterable iter X.env x = pure x := by intro _; rfl) :
    PS X (.Assign [.Name y py] (.ListComp elt [⟨tg, iter, ifs, 0⟩] scope pos) spos) (tAsg (tLcX Wout wi g tt te (own.map (·.2))) (gName i)) := by
  refine ⟨fun pins s σ H D I h => ?_⟩
  rw [exec_Assign_Name_used _ _ _ _ hsw]
  refine wpAny_bind (wpAny_standAt (wpAny_bind ?_))
  show wpAny _ X.A (do let _ ← comprehension (.ListComp elt [⟨tg, iter, ifs, 0⟩] scope pos) scope X.env (firstIterPos [⟨tg, iter, ifs, 0⟩] pos) (newList []) false (eval iter X.env) (some (assign (.Name y py) X.env))) _ _ s
  have h : tLcX Wout wi g tt te (own.map (·.2)) σ H (fun x H1 => gName i x σ H1 D.nx) := h
  refine wpAny_bind (thn (lc_coreX (Qf := fun _ s' => SP X pins D .next s') hc hst hfL tk hN I hi ok hg ht he hs h fun L C s' m H' fr I' q hn f => ?_) fun _ s' hq => wpAny_pure (wpAny_pure hq))
  show wpAny _ _ (assign (.Name y py) X.env (.ref L)) _ _ _
  refine wpAny_assign_Name (store_ok2 (v := V.ref L) I' hN hy (.inl hyl) rfl (fun s2 I2 ⟨a, sb, ha⟩ => ?_) (.inr hyl))
  obtain ⟨f0, f1, f2, f3, f4, f5⟩ := f
  have haC : C ≠ a := by
    rcases ha with z | z
    · rw [z]; exact f1
    · exact fun e => f4 y a z e.symm
  refine ⟨m, hn.sameBut sb haC, fun h3 sb3 => ?_⟩
  exact ⟨_, H', I2.turned (t' := s2.toks) (fun b o hb e => (sb3.2 b hb).trans e) f0 f1 f3 f4 f5, q⟩
end
end
end VLX
namespace VL
open PySem PySem.Spec PyProof.Rows L2
/-- what stays of the slots: values -/
def dropE (ρ : En) : En := ρ.map fun s => match s with | .v d => .v d | _ => .un
theorem dropE_v {ρ : En} {i : Nat} {d : D} (h : (dropE ρ)[i]? = some (.v d)) : ρ[i]? = some (.v d) := by
  unfold dropE at h
  rw [List.getElem?_map] at h
  cases e : ρ[i]? with
  | none => rw [e] at h; cases h
  | some s =>
    rw [e] at h
    cases s with
    | v d' => simpa using h
    | un => simp at h
    | o _ => simp at h
    | x _ => simp at h
theorem dropE_o {ρ : En} {i : Nat} {d : D} : (dropE ρ)[i]? ≠ some (.o d) := fun h => by
  unfold dropE at h
  rw [List.getElem?_map] at h
  cases e : ρ[i]? with
  | none => rw [e] at h; cases h
  | some s => rw [e] at h; cases s <;> simp at h
theorem dropE_x {ρ : En} {i : Nat} {d : Ex} : (dropE ρ)[i]? ≠ some (.x d) := fun h => by
  unfold dropE at h
  rw [List.getElem?_map] at h
  cases e : ρ[i]? with
  | none => rw [e] at h; cases h
  | some s => rw [e] at h; cases s <;> simp at h
theorem R.dropAt {c : Cf} {F : Fr} {g1 : Gs} {σ σ' : St} {H1 H' : Hp} {ρ1 ρ' : En} {S1 S' : Sto} {sm' tm' : List Addr} (r1 : R c F g1 σ H1 ρ1 S1) (r' : R c F ⟨sm', tm'⟩ σ' H' ρ' S') (ht : ∀ a ∈ g1.tm, a ∈ tm') (ex : Ext g1.sm (MU F g1 σ ρ1) H1 sm' (MU F ⟨sm', tm'⟩ σ' ρ') H') :
    R c F ⟨sm', g1.tm⟩ σ H' (dropE ρ1) S' ∧ Ext sm' (MU F ⟨sm', tm'⟩ σ' ρ') H' sm' (MU F ⟨sm', g1.tm⟩ σ (dropE ρ1)) H' := by
  have hm : ∀ a, MU F ⟨sm', g1.tm⟩ σ (dropE ρ1) a → MU F ⟨sm', tm'⟩ σ' ρ' a := fun a m => by
    rcases m with m | m | m | ⟨i, d, h, _⟩
    · exact .inl m
    · exact .inr (.inl m)
    · exact .inr (.inr (.inl (ht a m)))
    · exact absurd h dropE_o
  have e : Ext sm' (MU F ⟨sm', tm'⟩ σ' ρ') H' sm' (MU F ⟨sm', g1.tm⟩ σ (dropE ρ1)) H' := less_ext hm
  refine ⟨?_, e⟩
  refine R.less (g := ⟨sm', tm'⟩) (tm' := g1.tm) r' (by unfold dropE; rw [List.length_map]; exact r1.len) hm (fun i d h => ?_) (fun i d h => absurd h dropE_o) (fun i j d _ a h => absurd h dropE_o) ht r1.tmn (fun d h => absurd h dropE_o) (fun i ex h => absurd h dropE_x)
  obtain ⟨x, h1, h2⟩ := r1.val i d (dropE_v h)
  exact ⟨x, h1, (h2.ext ex).ext e⟩
def lcGoX (Gd : Sto → Prop) (tg : Tg) (vs : List Nat) (wt : TVT) (we : TV) (Ee : Ex → Sto → Prop) : List D → List D → En → Sto → (List D → En → Sto → Prop) → Prop
  | [], acc, ρ, S, Q => Gd S ∧ Q acc ρ S
  | d :: ds, acc, ρ, S, Q => Gd S ∧ ∃ ρ1, bindT tg d ρ = some ρ1 ∧ wt ρ1 S (fun b ρ2 S2 => if b = true then we ρ2 S2 (fun y ρ3 S3 => acc.length < sizeLine ∧ lcGoX Gd tg vs wt we Ee ds (acc ++ [y]) (wipeE ρ3 vs) S3 Q) (fun x _ S' => Ee x S')
      else lcGoX Gd tg vs wt we Ee ds acc (wipeE ρ2 vs) S2 Q) (fun _ _ _ => False)
/-- a comprehension whose element may raise -/
def wCompX (wi : TVI) (tg : Tg) (vs : List Nat) (wt : TVT) (we : TV) : TV := fun ρ S Q E => wi ρ S (fun ds Gd ρ1 S1 => noOwn ρ1 vs = true ∧ lcGoX Gd tg vs wt we (fun x S' => E x (dropE ρ1) S') ds [] (wipeE ρ1 vs) S1 fun l ρ2 S2 => Q (.lst l) (backE ρ1 ρ2 vs) S2) E
theorem lcGoX_gd {Gd : Sto → Prop} {tg : Tg} {vs : List Nat} {wt : TVT} {we : TV} {Ee : Ex → Sto → Prop} {ds acc : List D} {ρ : En} {S : Sto} {Q : List D → En → Sto → Prop} (h : lcGoX Gd tg vs wt we Ee ds acc ρ S Q) : Gd S := by
  cases ds <;> exact h.1
abbrev BlkX (Y : VC) (scope : Scope) (s : Shared) (H : Hp) (C : Addr) (cl : List (Str × Addr)) (fp : List Addr) (xe : Value → Shared → Prop) (F : Fr) (W : WX) : VC := ⟨VLX.blkE Y.X s H scope (compEnvC scope cl C Y.X.env) fp xe, Y.c, F, W⟩
section
variable {Y : VC} {elt tg iter : Expr} {ifs : List Expr} {scope : Scope} {own : List (Str × Nat)} {pos : Pos} {wi : TVI} {t : Tg} {wt : TVT} {we : TV}
theorem lc_teX (ht : ∀ i ∈ tgIx t, i ∈ own.map (·.2)) {σ : St} {H : Hp} {Q : VK} (h : LF Y (wCompX wi t (own.map (·.2)) wt we) σ H Q)
    (te : WX → TE) (tg' : TG) (tt : TT)
    (hg : ∀ F σ H v Q, LG ⟨Y.X, Y.c, F, fun _ _ _ _ => False⟩ t v σ H Q → tg' v σ H Q) (htt : ∀ F σ H Q, LT ⟨Y.X, Y.c, F, fun _ _ _ _ => False⟩ wt σ H Q → tt σ H Q) (hte : ∀ W F σ H Q, LE ⟨Y.X, Y.c, F, W⟩ we σ H Q → te W σ H Q) :
    VLX.tLcX Y.W (LI Y wi) tg' tt te (own.map (·.2)) σ H Q := by
  obtain ⟨g, ρ, S, Qv, Ev, r, hw, ec, hq⟩ := h
  refine ⟨g, ρ, S, _, Ev, r, hw, ec, fun J H1 g1 ρ1 S1 ds Gd r1 st1 iok q => ?_⟩
  obtain ⟨hno, q⟩ := q
  intro D hD
  generalize hvs : own.map (·.2) = vs at *
  refine ⟨fun i m H2 => m + i = ds.length ∧ ∃ sm ρ2 S2 acc xs, R Y.c Y.F ⟨sm, D :: g1.tm⟩ (L2.wipe σ vs) H2 ρ2 S2 ∧ Ext g1.sm (MU Y.F g1 σ ρ1) H1 sm (MU Y.F ⟨sm, D :: g1.tm⟩ (L2.wipe σ vs) ρ2) H2 ∧ H2 D = some (.lst xs) ∧
      Reps Y.c sm (MU Y.F ⟨sm, D :: g1.tm⟩ (L2.wipe σ vs) ρ2) H2 acc xs ∧ lcGoX Gd t vs wt we (fun x S' => Ev x (dropE ρ1) S') (ds.drop i) acc ρ2 S2 fun l ρ2 S2 => Qv (.lst l) (backE ρ1 ρ2 vs) S2, ⟨ds.length, rfl, ?_⟩, ?_⟩
  · obtain ⟨r2, e2⟩ := r1.newtm (o := .lst []) hD trivial
    obtain ⟨r3, st3⟩ := R.wipe (vs := vs) r2
    exact ⟨g1.sm, wipeE ρ1 vs, S1, [], [], r3, e2.trans st3.ext, upd_same, by simp only [Reps], by simpa using q⟩
  rintro i m H2 ⟨hm, sm, ρ2, S2, acc, xs, r2, e2, hD2, racc, q2⟩
  have k := iok (L2.wipe σ vs) H2 ⟨sm, D :: g1.tm⟩ ρ2 S2 r2 e2 (lcGoX_gd q2) i
  by_cases hi : i < ds.length
  · obtain ⟨go, yl⟩ := k.1 hi
    refine .inr ⟨go, fun H3 => ∃ sm ρ2 S2 acc xs, R Y.c Y.F ⟨sm, D :: g1.tm⟩ (L2.wipe σ vs) H3 ρ2 S2 ∧ Ext g1.sm (MU Y.F g1 σ ρ1) H1 sm (MU Y.F ⟨sm, D :: g1.tm⟩ (L2.wipe σ vs) ρ2) H3 ∧ H3 D = some (.lst xs) ∧
      Reps Y.c sm (MU Y.F ⟨sm, D :: g1.tm⟩ (L2.wipe σ vs) ρ2) H3 acc xs ∧ lcGoX Gd t vs wt we (fun x S' => Ev x (dropE ρ1) S') (ds.drop (i + 1)) acc ρ2 S2 fun l ρ2 S2 => Qv (.lst l) (backE ρ1 ρ2 vs) S2, fun H3 q3 => ⟨m - 1, by omega, by omega, q3⟩, fun x H3 y3 => ?_⟩
    obtain ⟨gr, d, hd, rp⟩ := yl x H3 y3
    have e1 : ds.drop i = d :: ds.drop (i + 1) := by
      rw [List.drop_eq_getElem_cons hi]
      have : ds[i] = d := by
        rw [List.getElem?_eq_getElem hi] at hd
        exact Option.some.inj hd
      rw [this]
    rw [e1] at q2
    obtain ⟨_, ρ3, hb3, q3⟩ := q2
    have r3 := r2.grow gr
    have e3 := e2.trans (Ext.grow (sm := sm) (M := MU Y.F ⟨sm, D :: g1.tm⟩ (L2.wipe σ vs) ρ2) gr)
    have racc3 := Reps.ext (Ext.grow (sm := sm) (M := MU Y.F ⟨sm, D :: g1.tm⟩ (L2.wipe σ vs) ρ2) gr) racc
    have hD3 := gr D _ hD2
    have r4 := r3.inner
    have em : ∀ {sm' : List Addr} {σ' : St} {ρ' : En}, MU (FrI Y.F ⟨sm, D :: g1.tm⟩ (L2.wipe σ vs) ρ2 H3) ⟨sm', []⟩ σ' ρ' = MU Y.F ⟨sm', D :: g1.tm⟩ σ' ρ' := mu_in
    refine hg (FrI Y.F ⟨sm, D :: g1.tm⟩ (L2.wipe σ vs) ρ2 H3) _ _ _ _ ⟨⟨sm, []⟩, ρ2, S2, d, ρ3, r4, by rw [em]; exact rp, hb3, fun σ4 r5 st5 a5 => ?_⟩
    have hwp := wipe_agr a5 ht
    refine ⟨hwp, ?_⟩
    have noE : ∀ {g' : Gs} {σ' : St} {ρ' : En} {H' : Hp}, EC ⟨Y.X, Y.c, FrI Y.F ⟨sm, D :: g1.tm⟩ (L2.wipe σ vs) ρ2 H3, fun _ _ _ _ => False⟩ g' σ' ρ' H' (fun _ _ _ => False) := fun {g' σ' ρ' H'} _ _ _ _ _ _ _ _ _ _ _ h => h
    -- the end of a turn
    have fin : ∀ {H5 : Hp} {g5 : Gs} {ρ5 : En} {S5 : Sto} (r5 : R Y.c (FrI Y.F ⟨sm, D :: g1.tm⟩ (L2.wipe σ vs) ρ2 H3) g5 σ4 H5 ρ5 S5), Stp (FrI Y.F ⟨sm, D :: g1.tm⟩ (L2.wipe σ vs) ρ2 H3) ⟨sm, []⟩ (L2.wipe σ vs) ρ2 H3 g5 σ4 ρ5 H5 →
        ∃ sm5, g5 = ⟨sm5, []⟩ ∧ H5 D = some (.lst xs) ∧ R Y.c Y.F ⟨sm5, D :: g1.tm⟩ (L2.wipe σ vs) H5 (wipeE ρ5 vs) S5 ∧ Ext sm (MU Y.F ⟨sm, D :: g1.tm⟩ (L2.wipe σ vs) ρ2) H3 sm5 (MU Y.F ⟨sm5, D :: g1.tm⟩ (L2.wipe σ vs) (wipeE ρ5 vs)) H5 ∧
          ∀ d v, Rep Y.c sm5 (MU (FrI Y.F ⟨sm, D :: g1.tm⟩ (L2.wipe σ vs) ρ2 H3) ⟨sm5, []⟩ σ4 ρ5) H5 d v → Rep Y.c sm5 (MU Y.F ⟨sm5, D :: g1.tm⟩ (L2.wipe σ vs) (wipeE ρ5 vs)) H5 d v := fun {H5 g5 ρ5 S5} r5 st5 => by
      obtain ⟨sm5, tm5⟩ := g5
      obtain rfl : tm5 = [] := st5.tm
      obtain ⟨r6, kt⟩ := r3.outer r5
      have ex := st5.ext
      rw [em, em] at ex
      obtain ⟨r7, st7⟩ := R.wipe (vs := vs) r6
      rw [hwp] at r7 st7
      refine ⟨sm5, rfl, kt D List.mem_cons_self _ hD3, r7, ex.trans st7.ext, fun d v h => ?_⟩
      rw [em] at h
      exact h.ext st7.ext
    refine htt (FrI Y.F ⟨sm, D :: g1.tm⟩ (L2.wipe σ vs) ρ2 H3) _ _ _ ⟨⟨sm, []⟩, ρ3, S2, _, _, r5, q3, noE, fun b H6 g6 ρ6 S6 r6 st6 q6 => ?_⟩
    cases b with
    | false =>
      simp only [Bool.false_eq_true, if_false] at q6 ⊢
      obtain ⟨sm7, eg, hD7, r7, e7, _⟩ := fin r6 (st5.trans st6)
      exact ⟨sm7, wipeE ρ6 vs, S6, acc, xs, r7, e3.trans e7, hD7, Reps.ext e7 racc3, q6⟩
    | true =>
      simp only [if_true] at q6 ⊢
      have err : EC ⟨Y.X, Y.c, FrI Y.F ⟨sm, D :: g1.tm⟩ (L2.wipe σ vs) ρ2 H3, fun cls d _ H' => Y.W cls d σ H'⟩ g6 σ4 ρ6 H6 (fun x _ S' => Ev x (dropE ρ1) S') := by
        intro ex cls dx σ' H' g' ρ' S' r' st' xi qe
        have st9 := (st5.trans st6).trans st'
        obtain ⟨sm5, tm5⟩ := g'
        obtain rfl : tm5 = [] := st9.tm
        obtain ⟨r9, _⟩ := r3.outer r'
        have ex9 := st9.ext
        rw [em, em] at ex9
        obtain ⟨r10, e10⟩ := R.dropAt r1 r9 (fun a h => List.mem_cons_of_mem _ h) (e3.trans ex9)
        have xi : ExIs Y.c sm5 (MU (FrI Y.F ⟨sm, D :: g1.tm⟩ (L2.wipe σ vs) ρ2 H3) ⟨sm5, []⟩ σ' ρ') H' ex cls dx := xi
        rw [em] at xi
        exact ec ex cls dx σ H' ⟨sm5, g1.tm⟩ (dropE ρ1) S' r10 ⟨st1.tm, st1.ext.trans ((e3.trans ex9).trans e10)⟩ (xi.ext e10) qe
      refine hte _ (FrI Y.F ⟨sm, D :: g1.tm⟩ (L2.wipe σ vs) ρ2 H3) _ _ _ ⟨g6, ρ6, S6, _, _, r6, q6, err, fun v H7 g7 ρ7 S7 d7 r7 st7 rp7 q7 => ?_⟩
      obtain ⟨sm8, eg, hD8, r8, e8, rr⟩ := fin r7 ((st5.trans st6).trans st7)
      subst eg
      obtain ⟨q7, q8⟩ := q7
      have racc8 := Reps.ext e8 racc3
      refine ⟨xs, hD8, by rw [← racc8.length]; exact q7, ?_⟩
      obtain ⟨r9, st9⟩ := R.settm (a := D) (o := .lst (xs ++ [v])) r8 List.mem_cons_self trivial
      exact ⟨sm8, wipeE ρ7 vs, S7, acc ++ [d7], xs ++ [v], r9, (e3.trans e8).trans st9.ext, upd_same, (Reps.ext st9.ext racc8).append (Reps.one ((rr d7 v rp7).ext st9.ext)), q8⟩
  · have hi' : i = ds.length := by omega
    subst hi'
    refine .inl ⟨k.2 rfl, ?_⟩
    rw [List.drop_length] at q2
    obtain ⟨r3, e3⟩ := r1.unwipe hno r2 e2
    refine hq D H2 sm (backE ρ1 ρ2 vs) S2 (.lst acc) (by rw [← st1.tm]; exact r3) ?_ ?_ q2.2
    · rw [← st1.tm]
      exact (st1.ext.trans e2).trans e3
    · simp only [Own]
      rw [← st1.tm]
      exact ⟨xs, hD2, Reps.ext e3 racc⟩
theorem Gd.blkX {fa : String → Addr} {k : Nat} {T : Tab} {TI : String → FWI} (G : Gd Y fa k T TI) {s : Shared} {H : Hp} {C : Addr} {cl : List (Str × Addr)} {fp : List Addr} {xe : Value → Shared → Prop} {F : Fr} {W : WX} (tk : Takes (VLX.blkE Y.X s H scope (compEnvC scope cl C Y.X.env) fp xe) W) : Gd (BlkX Y scope s H C cl fp xe F W) fa k T TI :=
  ⟨G.f0, G.f1, G.i0, G.hr0, tk, G.cm, G.hK⟩
theorem takes_no {X : Cx} : Takes X (fun _ _ _ _ => False) := by
  rintro e s ⟨a, B, sI, pins, σ, H, cls, d, _, _, _, _, _, _, _, _, w⟩
  exact w.elim
end
section
variable {Y : VC} {fa : String → Addr} {k : Nat} {T : Tab} {TI : String → FWI} {x : Str} {p0 pos pos' : Pos} {elt tg iter : Expr} {ifs : List Expr} {scope : Scope} {wi : TVI} {t : Tg} {wt : TVT} {we : TV}
theorem xcompX (own : List (Str × Nat)) (G : Gd Y fa k T TI) (hi : VI Y tg iter wi)
    (hg : ∀ (s : Shared) (H : Hp) (C : Addr) (cl : List (Str × Addr)) (fp : List Addr) (xe : Value → Shared → Prop) (F : Fr) (W : WX), VG (BlkX Y scope s H C cl fp xe F W) tg t)
    (ht : ∀ (s : Shared) (H : Hp) (C : Addr) (cl : List (Str × Addr)) (fp : List Addr) (xe : Value → Shared → Prop) (F : Fr) (W : WX), Gd (BlkX Y scope s H C cl fp xe F W) fa k T TI → VTs (BlkX Y scope s H C cl fp xe F W) ifs wt)
    (he : ∀ (s : Shared) (H : Hp) (C : Addr) (cl : List (Str × Addr)) (fp : List Addr) (xe : Value → Shared → Prop) (F : Fr) (W : WX), Gd (BlkX Y scope s H C cl fp xe F W) fa k T TI → VE (BlkX Y scope s H C cl fp xe F W) elt we)
    (hst : Y.X.stack = Y.X.env :: Y.X.outer := by rfl) (hfL : Y.X.env.frame = some Y.X.env.locals := by rfl)
    (ok : blkB Y.X.N Y.X.env.scope scope own = true := by kernel_rfl) (htg : (tgIx t).all (fun i => (own.map (·.2)).contains i) = true := by kernel_rfl) (hN : decide Y.X.N.Nodup = true := by kernel_rfl)
    (hs : ∀ x, foldedSetIterable iter Y.X.env x = pure x := by intro _; rfl) : VF Y (.ListComp elt [⟨tg, iter, ifs, 0⟩] scope pos) (wCompX wi t (own.map (·.2)) wt we) :=
  PE.imp (VLX.pe_lcX (g := fun v σ H Q => ∃ F, LG ⟨Y.X, Y.c, F, fun _ _ _ _ => False⟩ t v σ H Q) (tt := fun σ H Q => ∃ F, LT ⟨Y.X, Y.c, F, fun _ _ _ _ => False⟩ wt σ H Q) (te := fun W σ H Q => ∃ F, LE ⟨Y.X, Y.c, F, W⟩ we σ H Q) G.cm hst hfL G.tk (of_decide_eq_true hN) hi (blk_of ok)
    (fun s H C cl fp xe => ⟨fun pins s' σ' H' v u Q I rv ⟨F, h⟩ => (hg s H C cl fp xe F fun _ _ _ _ => False).run pins s' σ' H' v u Q I rv h⟩)
    (fun s H C cl fp xe => ⟨fun pins s' σ' H' Q I ⟨F, h⟩ => (ht s H C cl fp xe F _ (G.blkX takes_no)).run pins s' σ' H' Q I h⟩)
    (fun s H C cl fp xe W tk => ⟨fun pins s' σ' H' Q I ⟨F, h⟩ => (he s H C cl fp xe F W (G.blkX tk)).run pins s' σ' H' Q I h⟩) hs)
    fun σ H Q h => lc_teX (tgs_of htg) h _ _ _ (fun F _ _ _ _ h => ⟨F, h⟩) (fun F _ _ _ h => ⟨F, h⟩) (fun W F _ _ _ h => ⟨F, h⟩)
theorem xsetlcX (i : Nat) (own : List (Str × Nat)) (G : Gd Y fa k T TI) (hi : VI Y tg iter wi)
    (hg : ∀ (s : Shared) (H : Hp) (C : Addr) (cl : List (Str × Addr)) (fp : List Addr) (xe : Value → Shared → Prop) (F : Fr) (W : WX), VG (BlkX Y scope s H C cl fp xe F W) tg t)
    (ht : ∀ (s : Shared) (H : Hp) (C : Addr) (cl : List (Str × Addr)) (fp : List Addr) (xe : Value → Shared → Prop) (F : Fr) (W : WX), Gd (BlkX Y scope s H C cl fp xe F W) fa k T TI → VTs (BlkX Y scope s H C cl fp xe F W) ifs wt)
    (he : ∀ (s : Shared) (H : Hp) (C : Addr) (cl : List (Str × Addr)) (fp : List Addr) (xe : Value → Shared → Prop) (F : Fr) (W : WX), Gd (BlkX Y scope s H C cl fp xe F W) fa k T TI → VE (BlkX Y scope s H C cl fp xe F W) elt we)
    (hst : Y.X.stack = Y.X.env :: Y.X.outer := by rfl) (hfL : Y.X.env.frame = some Y.X.env.locals := by rfl)
    (hy : Y.X.N[i]? = some x := by rfl) (hyl : lolB Y.X.env.scope x = true := by kernel_rfl) (hsw : swapsWith (.ListComp elt [⟨tg, iter, ifs, 0⟩] scope pos) (some (.Name x p0)) pos'.line Y.X.env = pure true := by rfl)
    (ok : blkB Y.X.N Y.X.env.scope scope own = true := by kernel_rfl) (htg : (tgIx t).all (fun i => (own.map (·.2)).contains i) = true := by kernel_rfl) (hN : decide Y.X.N.Nodup = true := by kernel_rfl)
    (hs : ∀ x, foldedSetIterable iter Y.X.env x = pure x := by intro _; rfl) : VS Y (.Assign [.Name x p0] (.ListComp elt [⟨tg, iter, ifs, 0⟩] scope pos) pos') (wAsg (wCompX wi t (own.map (·.2)) wt we) (.nm i)) :=
  PS.imp (VLX.ps_setLcX (g := fun v σ H Q => ∃ F, LG ⟨Y.X, Y.c, F, fun _ _ _ _ => False⟩ t v σ H Q) (tt := fun σ H Q => ∃ F, LT ⟨Y.X, Y.c, F, fun _ _ _ _ => False⟩ wt σ H Q) (te := fun W σ H Q => ∃ F, LE ⟨Y.X, Y.c, F, W⟩ we σ H Q) G.cm hst hfL G.tk (of_decide_eq_true hN) hy (lol_one hyl) hsw hi (blk_of ok)
    (fun s H C cl fp xe => ⟨fun pins s' σ' H' v u Q I rv ⟨F, h⟩ => (hg s H C cl fp xe F fun _ _ _ _ => False).run pins s' σ' H' v u Q I rv h⟩)
    (fun s H C cl fp xe => ⟨fun pins s' σ' H' Q I ⟨F, h⟩ => (ht s H C cl fp xe F _ (G.blkX takes_no)).run pins s' σ' H' Q I h⟩)
    (fun s H C cl fp xe W tk => ⟨fun pins s' σ' H' Q I ⟨F, h⟩ => (he s H C cl fp xe F W (G.blkX tk)).run pins s' σ' H' Q I h⟩) hs)
    fun D σ H ⟨g, ρ, S, Qv, Ev, r, hw, ec, sc⟩ => lc_teX (tgs_of htg) ⟨g, ρ, S, _, Ev, r, hw, ec, fun a H' sm ρ' S' d r' ex ow ⟨ρ2, hb, q⟩ => by
      obtain ⟨r2, e2, rp⟩ := r'.letgo ow
      simp only [bindT] at hb
      split at hb
      · rename_i hl
        cases hb
        obtain ⟨r3, e3⟩ := r2.setv (i := i) (by rw [← r2.len]; exact hl) rp
        exact sc.nx _ H' ⟨sm, g.tm⟩ _ S' r3 ⟨rfl, (ex.trans e2).trans e3⟩ q
      · cases hb⟩ _ _ _ (fun F _ _ _ _ h => ⟨F, h⟩) (fun F _ _ _ h => ⟨F, h⟩) (fun W F _ _ _ h => ⟨F, h⟩)
end
end VL

set_option Elab.async false
set_option linter.all false
set_option autoImplicit false
set_option maxRecDepth 100000
set_option maxHeartbeats 1000000
/-! VLX1: class methods, op=, raise and try in short, replace. -/
namespace VL
open PySem PySem.Spec PyProof.Rows L2

/-! ### C.m(..), m a classmethod -/
structure CMt (c : Cf) (fa : String → Addr) (mg : Str → Option Value) (cl m f : String) : Prop where
  mg : mg (toS cl) = some (.ref (c.ca cl))
  ex : ∃ mc p, ClX.CRead c.K (c.ca cl) mc ∧ ClX.CMet c.K (c.ca cl) mc (toS m) p (fa f)
def wCallC (w : FW) (cl : String) (wa : TVA) : TV := fun ρ S Q E => wa ρ S (fun ds ρ1 S1 => w (.cls cl :: ds) S1 (fun d S2 => Q d ρ1 S2) (fun x S2 => E x ρ1 S2)) E
section
variable {Y : VC} {fa : String → Addr} {k : Nat} {T : Tab} {TI : String → FWI} {e : Expr} {es : List Expr} {wa : TVA} {pos p apos : Pos} {pl : Sem Bool}
theorem ve_cmeth (cl m f : String) (G : Gd Y fa k T TI) (cm : CMt Y.c fa Y.X.mg cl m f) (hg : Gl Y.X (toS cl)) (ha : VA Y (e :: es) wa) (hdb : (toS cl == ("__debug__" : Str)) = false := by decide +kernel)
    (hst : starEach (e :: es) Y.X.env = (false, eval e Y.X.env) :: starEach es Y.X.env := by rfl) (hpl : (backTo pos (starEach es Y.X.env)).any (·.1) = false := by rfl)
    (ht : eval (.Call (.Attribute (.Name (toS cl) p) (toS m) apos) (e :: es) [] pos) Y.X.env = (do
      let ov ← eval (.Name (toS cl) p) Y.X.env
      standAt apos.atName
      let (f, first) ← holding [ov] (getMethod ov (toS m) pl)
      callWith pos f first (backTo pos (starEach (e :: es) Y.X.env)) (backToKw pos (keywordEach [] Y.X.env))) := by rfl) :
    VE Y (.Call (.Attribute (.Name (toS cl) p) (toS m) apos) (e :: es) [] pos) (wCallC (T f) cl wa) := by
  refine ⟨fun pins s σ H Q I ⟨g, ρ, S, Qv, Ev, r, hw, ec, hq⟩ => ?_⟩
  obtain ⟨mc, pp, rd, met⟩ := cm.ex
  rw [G.hK] at rd met
  refine PySem.W.methodCall_KW (pl := pl) (ld_glob I hg cm.mg ?_ hdb) ht
  refine ClX.getmethcm_ok (I.tok _) rd met fun s2 I2 => ?_
  refine ClX.callwith_cm I2 (ClX.base_none I (Nat.le_refl _)) met.fi (thn (ha.run pos _ s2 σ H (fun vs H1 => ∃ g1 ρ1 S1 ds, R Y.c Y.F g1 σ H1 ρ1 S1 ∧ Stp Y.F g σ ρ H g1 σ ρ1 H1 ∧ Reps Y.c g1.sm (MU Y.F g1 σ ρ1) H1 ds vs ∧ T f (.cls cl :: ds) S1 (fun d S2 => Qv d ρ1 S2) (fun x S2 => Ev x ρ1 S2)) I2
    ⟨g, ρ, S, _, Ev, r, hw, ec, fun vs H1 g1 ρ1 S1 ds r1 st1 rp1 q1 => ⟨g1, ρ1, S1, ds, r1, st1, rp1, q1⟩⟩) fun us s3 ⟨vs, H1, I3, rv, g1, ρ1, S1, ds, r1, st1, rp1, q1⟩ => ⟨⟨ClX.pin_at I3, I3.kIn⟩, ?_⟩) hst hpl
  refine thn (wpAny_call (PySem.W.method_call (ClX.pin_at I3) (run_fnV (us := .ref (Y.c.ca cl) :: us) (vs := .ref (Y.c.ca cl) :: vs) (G.fn f) G.hr G.tk I3 (.cons rfl rv)
    (spV_here (ds := .cls cl :: ds) r1 (ec.step st1) (by simp only [Reps, Rep]; exact ⟨_, _, rfl, rfl, rp1⟩) q1 fun v H' g' S' d r' st' rp' q' => hq v H' g' ρ1 S' d r' (st1.trans st') rp' q')))) fun _ _ y => ClX.unpinE y
end

/-! ### name op= e, ints -/
def wAug (i : Nat) (f : Int → Int → Int) (w : TV) : TVS := fun ρ S Q E => rsv ρ (.s i) fun x => ∃ a : Int, x = .int a ∧ w ρ S (fun d ρ1 S1 => ∃ b : Int, d = .int b ∧ i < ρ1.length ∧ Q .nx (ρ1.set i (.v (.int (f a b)))) S1) E
section
variable {Y : VC} {x : Str} {i : Nat} {e : Expr} {w : TV} {pos pos' : Pos} {op : Operator} {f : Int → Int → Int}
theorem vs_aug (hN : Y.X.N.Nodup) (hi : Y.X.N[i]? = some x) (hx : Loc Y.X.env.scope x) (he : VE Y e w) (ho : PIp Y.X op (ipI f)) (hf : Y.X.fn x = true ∨ Y.X.env.scope.names.lookup x = some .local) :
    VS Y (.AugAssign (.Name x pos') op e pos) (wAug i f w) :=
  PS.imp (ps_aug hN hi hx he ho hf) fun D σ H ⟨g, ρ, S, Qv, Ev, r, hw, ec, sc⟩ => by
    unfold wAug rsv at hw
    have key : ∃ a : Int, (ρ[i]? = some (Sl.v (.int a))) ∧ w ρ S (fun d ρ1 S1 => ∃ b : Int, d = .int b ∧ i < ρ1.length ∧ Qv .nx (ρ1.set i (.v (.int (f a b)))) S1) Ev := by
      simp only at hw
      split at hw
      · rename_i d e1
        obtain ⟨a, rfl, q⟩ := hw
        exact ⟨a, e1, q⟩
      · rename_i d e1
        obtain ⟨a, rfl, q⟩ := hw
        obtain ⟨p, _, ow⟩ := r.own i _ e1
        simp only [Own] at ow
      · exact hw.elim
    obtain ⟨a, e1, q⟩ := key
    obtain ⟨v, h1, h2⟩ := r.val i _ e1
    simp only [Rep] at h2
    subst h2
    refine ⟨.int a, h1, g, ρ, S, _, Ev, r, q, ec, fun v H1 g1 ρ1 S1 d r1 st1 rp1 ⟨b, ed, hl, q1⟩ => ?_⟩
    subst ed
    simp only [Rep] at rp1
    subst rp1
    refine ⟨a, b, rfl, rfl, ?_⟩
    obtain ⟨r2, e2⟩ := r1.setv (i := i) (d := .int (f a b)) (x := .int (f a b)) (by rw [← r1.len]; exact hl) (by simp only [Rep])
    exact sc.nx _ H1 g1 _ S1 r2 (st1.trans ⟨rfl, e2⟩) q1
end

/-! ### short forms -/
section
variable {Y : VC} {fa : String → Addr} {k : Nat} {T : Tab} {TI : String → FWI} {x n : Str} {e : Expr} {es : List Expr} {w : TV} {wl : TVA} {ws wb : TVS} {p p0 np pos pos' apos : Pos} {body suite : List Stmt} {b₀ : Stmt} {cm : String → Option Bool} {pl : Sem Bool}
theorem xcmeth (cl m f : String) (G : Gd Y fa k T TI) (cm : CMt Y.c fa Y.X.mg cl m f) (ha : VA Y (e :: es) wl) (hg : glB Y.X (toS cl) = true := by kernel_rfl) (hdb : (toS cl == ("__debug__" : Str)) = false := by kernel_rfl)
    (hst : starEach (e :: es) Y.X.env = (false, eval e Y.X.env) :: starEach es Y.X.env := by rfl) (hpl : (backTo pos (starEach es Y.X.env)).any (·.1) = false := by rfl)
    (ht : eval (.Call (.Attribute (.Name (toS cl) p) (toS m) apos) (e :: es) [] pos) Y.X.env = (do
      let ov ← eval (.Name (toS cl) p) Y.X.env
      standAt apos.atName
      let (f, first) ← holding [ov] (getMethod ov (toS m) pl)
      callWith pos f first (backTo pos (starEach (e :: es) Y.X.env)) (backToKw pos (keywordEach [] Y.X.env))) := by rfl) :
    VE Y (.Call (.Attribute (.Name (toS cl) p) (toS m) apos) (e :: es) [] pos) (wCallC (T f) cl wl) := ve_cmeth cl m f G cm (gl_of hg) ha hdb hst hpl ht
theorem xaugA (i : Nat) (he : VE Y e w) (hN : decide Y.X.N.Nodup = true := by kernel_rfl) (hi : Y.X.N[i]? = some x := by rfl) (hx : locB Y.X.env.scope x = true := by kernel_rfl) (hf : (Y.X.fn x || lolB Y.X.env.scope x) = true := by kernel_rfl) :
    VS Y (.AugAssign (.Name x pos') .Add e pos) (wAug i (fun a b => a + b) w) := vs_aug (of_decide_eq_true hN) hi (loc_of hx) he ip_add (lol_of hf)
theorem xaugS (i : Nat) (he : VE Y e w) (hN : decide Y.X.N.Nodup = true := by kernel_rfl) (hi : Y.X.N[i]? = some x := by rfl) (hx : locB Y.X.env.scope x = true := by kernel_rfl) (hf : (Y.X.fn x || lolB Y.X.env.scope x) = true := by kernel_rfl) :
    VS Y (.AugAssign (.Name x pos') .Sub e pos) (wAug i (fun a b => a - b) w) := vs_aug (of_decide_eq_true hN) hi (loc_of hx) he ip_sub (lol_of hf)
theorem xraise1 (cl : String) (G : Gd Y fa k T TI) (ce : CE Y.c Y.X.mg cl) (he : VE Y e w) (hg : glB Y.X (toS cl) = true := by kernel_rfl) (hs : starEach [e] Y.X.env = (false, eval e Y.X.env) :: starEach [] Y.X.env := by rfl) (hdb : (toS cl == ("__debug__" : Str)) = false := by kernel_rfl) :
    VS Y (.Raise (some (.Call (.Name (toS cl) p) [e] [] pos)) none pos') (wRaise1 cl w) := vs_raise1 cl G ce (gl_of hg) he hs hdb
def kndB (X : Cx) (x : Str) : Bool := match X.env.kindOf x with
  | some .local => true
  | _ => false
theorem knd_of {X : Cx} {x : Str} (h : kndB X x = true) : X.env.kindOf x = some .local := by
  unfold kndB at h
  split at h
  · assumption
  · cases h
theorem xtry (i : Nat) (cl : String) (G : Gd Y fa k T TI) (em : ExmT Y.c (.ref (Y.c.ca cl)) cm) (hm : Y.X.mg (toS cl) = some (.ref (Y.c.ca cl)))
    (hb : ∀ (W : WX) (pn : List (Addr × Obj)) (xe : Value → Shared → Prop), Gd ⟨Y.X.tr pn xe, Y.c, Y.F, W⟩ fa k T TI → VSs ⟨Y.X.tr pn xe, Y.c, Y.F, W⟩ body wb)
    (hsu : ∀ (a : Addr) (pn : List (Addr × Obj)) (F : Fr), Su ⟨Y.X.suite a pn, Y.c, F, fun _ _ _ _ => False⟩ → VSs ⟨Y.X.suite a pn, Y.c, F, fun _ _ _ _ => False⟩ (b₀ :: suite) ws)
    (hs : Y.X.stack = Y.X.env :: Y.X.outer := by rfl) (hf : Y.X.env.frame = some Y.X.env.locals := by rfl) (hN : decide Y.X.N.Nodup = true := by kernel_rfl) (hi : Y.X.N[i]? = some n := by rfl) (hln : kndB Y.X n = true := by kernel_rfl)
    (hg : glB Y.X (toS cl) = true := by kernel_rfl) (hdb : (toS cl == ("__debug__" : Str)) = false := by kernel_rfl) :
    VS Y (.Try body [.ExceptHandler (some (.Name (toS cl) np)) (some n) (b₀ :: suite) pos'] [] [] pos) (wTry i cm wb ws) :=
  vs_try G em hs hf (of_decide_eq_true hN) hi (knd_of hln) ⟨gl_of hg, hdb, .inl hm⟩ hb hsu
theorem xisx {ce : Expr} {cv : V} {u : Value} {tb : String → Option Bool} (i : Nat) (Sx : Su Y) (B : NoB Y.X.mg) (ti : XsiT Y.c u tb) (hk : ClsV cv u) (hc : PE Y.X ce (tC cv)) (hg : glB Y.X "isinstance" = true := by kernel_rfl) (hN : Y.X.N[i]? = some x := by rfl) (hv : visB Y.X.env.scope x = true := by kernel_rfl) (hd : (x == ("__debug__" : Str)) = false := by kernel_rfl) (hcd : (x == ("__classdict__" : Str)) = false := by kernel_rfl)
    (he : starEach [.Name x p0, ce] Y.X.env = (false, eval (.Name x p0) Y.X.env) :: starEach [ce] Y.X.env := by rfl) (he2 : starEach [ce] Y.X.env = (false, eval ce Y.X.env) :: starEach [] Y.X.env := by rfl) (hpl : (backTo pos (starEach [ce] Y.X.env)).any (·.1) = false := by rfl) :
    VE Y (.Call (.Name "isinstance" p) [.Name x p0, ce] [] pos) (wIsX i tb) := ve_isx Sx ti hk (gl_of hg) B.isinstance hN (vis_of hv) hc hd hcd he he2 hpl
end

/-! ### where a token is out: x.replace(..) -/
theorem PSsT.imp {X : Cx} {e : List Stmt} {t t' : TS} (h : PSsT X e t) (hi : ∀ D σ H, t' D σ H → t D σ H) : PSsT X e t' := fun pins s σ H D h0 I hq => h pins s σ H D h0 I (hi D σ H hq)
theorem PST.imp {X : Cx} {e : Stmt} {t t' : TS} (h : PST X e t) (hi : ∀ D σ H, t' D σ H → t D σ H) : PST X e t' := fun pins s σ H D h0 I hq => h pins s σ H D h0 I (hi D σ H hq)
theorem PET.imp {X : Cx} {e : Expr} {t t' : TE} (h : PET X e t) (hi : ∀ σ H Q, t' σ H Q → t σ H Q) : PET X e t' := fun pins s σ H Q h0 I hq => h pins s σ H Q h0 I (hi σ H Q hq)
abbrev VSsT (Y : VC) (st : List Stmt) (w : TVS) : Prop := PSsT Y.X st (LS Y w)
abbrev VST (Y : VC) (st : Stmt) (w : TVS) : Prop := PST Y.X st (LS Y w)
abbrev VET (Y : VC) (e : Expr) (w : TV) : Prop := PET Y.X e (LE Y w)
section
variable {Y : VC} {st : Stmt} {rest : List Stmt} {w w1 w2 : TVS} {e c : Expr} {we : TV} {wc : TVT} {a b : List Stmt} {x : Str} {pos pos' cpos : Pos}
theorem vst_of (h : VS Y st w) : VST Y st w := PST.of h
theorem vsst_of (h : VSs Y rest w) : VSsT Y rest w := PSsT.of h
theorem vsst_cons (h1 : VST Y st w1) (h2 : VSsT Y rest w2) : VSsT Y (st :: rest) (wSeq w1 w2) :=
  PSsT.imp (psst_cons h1 h2) fun D σ H ⟨g, ρ, S, Qv, Ev, r, hw, ec, sc⟩ =>
    ⟨g, ρ, S, _, Ev, r, hw, ec, fun σ' H' g' ρ' S' r' st q => ⟨g', ρ', S', Qv, Ev, r', q, ec.step st,
        fun σ2 H2 g2 ρ2 S2 r2 st2 q2 => sc.nx σ2 H2 g2 ρ2 S2 r2 (st.trans st2) q2, fun σ2 H2 g2 ρ2 S2 r2 st2 q2 => sc.bk σ2 H2 g2 ρ2 S2 r2 (st.trans st2) q2,
        fun σ2 H2 g2 ρ2 S2 r2 st2 q2 => sc.ct σ2 H2 g2 ρ2 S2 r2 (st.trans st2) q2, fun v σ2 H2 g2 ρ2 S2 d r2 st2 rp q2 => sc.rt v σ2 H2 g2 ρ2 S2 d r2 (st.trans st2) rp q2⟩,
      fun σ' H' g' ρ' S' r' st q => sc.bk σ' H' g' ρ' S' r' st q, fun σ' H' g' ρ' S' r' st q => sc.ct σ' H' g' ρ' S' r' st q, fun v σ' H' g' ρ' S' d r' st rp q => sc.rt v σ' H' g' ρ' S' d r' st rp q⟩
theorem vsst_one (h : VST Y st w) : VSsT Y [st] w := PSsT.imp (CwR.psst_one h) fun D σ H z => z
theorem vst_if (hc : VT Y c wc) (ha : VSsT Y a w1) (hb : VSsT Y b w2) : VST Y (.If c a b pos) (wIfS wc w1 w2) :=
  PST.imp (CwR.pst_if hc ha hb) fun D σ H ⟨g, ρ, S, Qv, Ev, r, hw, ec, sc⟩ => ⟨g, ρ, S, _, Ev, r, hw, ec, fun t H' g' ρ' S' r' st q => by
    have sc' : SC Y g' σ ρ' H' Qv D := ⟨fun σ2 H2 g2 ρ2 S2 r2 st2 q2 => sc.nx σ2 H2 g2 ρ2 S2 r2 (st.trans st2) q2, fun σ2 H2 g2 ρ2 S2 r2 st2 q2 => sc.bk σ2 H2 g2 ρ2 S2 r2 (st.trans st2) q2,
        fun σ2 H2 g2 ρ2 S2 r2 st2 q2 => sc.ct σ2 H2 g2 ρ2 S2 r2 (st.trans st2) q2, fun v σ2 H2 g2 ρ2 S2 d r2 st2 rp q2 => sc.rt v σ2 H2 g2 ρ2 S2 d r2 (st.trans st2) rp q2⟩
    cases t with
    | true => exact ⟨g', ρ', S', Qv, Ev, r', q, ec.step st, sc'⟩
    | false => exact ⟨g', ρ', S', Qv, Ev, r', q, ec.step st, sc'⟩⟩
theorem vst_ret (he : VET Y e we) : VST Y (.Return (some e) pos) (wRet we) :=
  PST.imp (CwR.pst_ret he) fun D σ H ⟨g, ρ, S, Qv, Ev, r, hw, ec, sc⟩ => ⟨g, ρ, S, _, Ev, r, hw, ec, fun v H' g' ρ' S' d r' st rp q => sc.rt v σ H' g' ρ' S' d r' st rp q⟩
theorem vss_strT {z : Str} {j : Nat} (i : Nat) (h2 : VSsT Y rest w2) (hN : decide Y.X.N.Nodup = true := by kernel_rfl) (hi : Y.X.N[i]? = some x := by rfl) (hx : locB Y.X.env.scope x = true := by kernel_rfl) (hs : swapsWith (.Constant (.str z) j cpos) (some (.Name x pos')) pos.line Y.X.env = pure false := by rfl) (hf : (Y.X.fn x || lolB Y.X.env.scope x) = true := by kernel_rfl) :
    VSs Y (.Assign [.Name x pos'] (.Constant (.str z) j cpos) pos :: rest) (wSeq (wAsg (wC (.str z)) (.nm i)) w2) :=
  PSs.imp (pss_str (of_decide_eq_true hN) hi (loc_of hx) h2 hs (lol_of hf)) fun D σ H ⟨g, ρ, S, Qv, Ev, r, hw, ec, sc⟩ => by
    obtain ⟨ρ2, hb, q⟩ := hw
    simp only [bindT] at hb
    split at hb
    · rename_i hl
      cases hb
      obtain ⟨r2, e2⟩ := r.setv (i := i) (d := .str z) (x := .str z) (by rw [← r.len]; exact hl) (by simp only [Rep])
      have st : Stp Y.F g σ ρ H g (σ.set i (some (.str z))) (ρ.set i (.v (.str z))) H := ⟨rfl, e2⟩
      exact ⟨g, _, S, Qv, Ev, r2, q, ec.step st, ⟨fun σ2 H2 g2 ρ2 S2 r2 st2 q2 => sc.nx σ2 H2 g2 ρ2 S2 r2 (st.trans st2) q2, fun σ2 H2 g2 ρ2 S2 r2 st2 q2 => sc.bk σ2 H2 g2 ρ2 S2 r2 (st.trans st2) q2,
        fun σ2 H2 g2 ρ2 S2 r2 st2 q2 => sc.ct σ2 H2 g2 ρ2 S2 r2 (st.trans st2) q2, fun v σ2 H2 g2 ρ2 S2 d r2 st2 rp q2 => sc.rt v σ2 H2 g2 ρ2 S2 d r2 (st.trans st2) rp q2⟩⟩
    · cases hb
end
/-- x.replace(y, [z0, z1, z2][e]) -/
def tRepl3 (i : Nat) (y z0 z1 z2 : Str) (ti : TE) : TE := fun σ H Q => ∃ x, σ[i]? = some (some (V.str x)) ∧ ∀ (a : Addr) (o : Obj), H a = none → ti σ (upd H a (.frz o (.lst [.str z0, .str z1, .str z2]))) fun v H' => H' a = some (.frz o (.lst [.str z0, .str z1, .str z2])) ∧
  ∃ (k : Int) (z : Str), v = .int k ∧ 0 ≤ k ∧ k < 3 ∧ [z0, z1, z2][k.toNat]? = some z ∧ (y == z) = false ∧ x.length + (x.length + 1) * z.length ≤ 16777216 ∧ Q (.str (Txt.replace x y z)) H'
theorem pet_repl3 {X : Cx} {i : Nat} {x y z0 z1 z2 : Str} {j j0 j1 j2 : Nat} {p1 c0 q0 q1 q2 lp sp apos pos : Pos} {ix : Expr} {ti : TE} (hN : X.N[i]? = some x) (hv : Vis X.env.scope x) (hi : PE X ix ti) (hd : (x == ("__debug__" : Str)) = false) (hcd : (x == ("__classdict__" : Str)) = false)
    (hs : PlainIx ix)
    (hst : starEach [.Constant (.str y) j c0, .Subscript (.List [.Constant (.str z0) j0 q0, .Constant (.str z1) j1 q1, .Constant (.str z2) j2 q2] lp) ix sp] X.env = [(false, eval (.Constant (.str y) j c0) X.env), (false, eval (.Subscript (.List [.Constant (.str z0) j0 q0, .Constant (.str z1) j1 q1, .Constant (.str z2) j2 q2] lp) ix sp) X.env)] := by rfl)
    (hbase : attributeBase (.Name x p1) "replace" X.env (eval (.Name x p1) X.env) = eval (.Name x p1) X.env := by rfl) (hline : (apos.endLine == pos.line) = true := by rfl) :
    PET X (.Call (.Attribute (.Name x p1) "replace" apos) [.Constant (.str y) j c0, .Subscript (.List [.Constant (.str z0) j0 q0, .Constant (.str z1) j1 q1, .Constant (.str z2) j2 q2] lp) ix sp] [] pos) (tRepl3 i y z0 z1 z2 ti) := by
  intro pins s σ H Q h0 I h
  obtain ⟨t, hx, h⟩ := h
  refine PySem.Call_method2 hbase hst hline (raw_name hN hv I hx (fun v r => ?_) hd hcd)
  obtain ⟨tx, e⟩ := r
  subst e
  refine ⟨"str", _, F.plainAttrs_str, F.slot_str_replace, F.type_str_replace, typeIs_str _ _ _, (fun _ e => nomatch e), Calls.callWith_builtin rfl (Calls.evalArgs_plain (Calls.spliced_cons ?_))⟩
  refine Calls.Constant_str (Calls.spliced_cons (Subscript_ (wpAny_List_spliced ?_)))
  show wpAny _ _ (spliced ((false, eval (.Constant (.str z0) j0 q0) X.env) :: backTo lp (starEach [.Constant (.str z1) j1 q1, .Constant (.str z2) j2 q2] X.env))) _ _ _
  refine Calls.spliced_cons (Calls.Constant_str ?_)
  show wpAny _ _ (spliced ((false, eval (.Constant (.str z1) j1 q1) X.env) :: backTo lp (starEach [.Constant (.str z2) j2 q2] X.env))) _ _ _
  refine Calls.spliced_cons (Calls.Constant_str ?_)
  show wpAny _ _ (spliced ((false, eval (.Constant (.str z2) j2 q2) X.env) :: backTo lp (starEach [] X.env))) _ _ _
  refine Calls.spliced_cons (Calls.Constant_str (Calls.spliced_nil ?_))
  have h3 : (3 : Nat) ≤ sizeLine := by decide
  refine ⟨h3, ?_⟩
  have hn : H s.heap.objs.size = none := I.hok.fresh (Nat.le_refl _)
  have I2 : Inv X pins σ (upd H s.heap.objs.size (.frz { cls := .type "list", data := .seq #[.str z0 (s.toks + 1), .str z1 (s.toks + 1 + 1), .str z2 (s.toks + 1 + 1 + 1)] 0 } (.lst [.str z0, .str z1, .str z2]))) { s with heap := s.heap.push { cls := .type "list", data := .seq #[.str z0 (s.toks + 1), .str z1 (s.toks + 1 + 1), .str z2 (s.toks + 1 + 1 + 1)] }, toks := s.toks + 1 + 1 + 1 + 1 } :=
    I.laid (t' := s.toks + 1 + 1 + 1 + 1) (fun b u e => Heap.get?_push_of_some _ e) (Nat.le_refl _) ⟨Heap.get?_push_size _ rfl, h3, [.str z0 (s.toks + 1), .str z1 (s.toks + 1 + 1), .str z2 (s.toks + 1 + 1 + 1)], 0, .cons ⟨_, rfl⟩ (.cons ⟨_, rfl⟩ (.cons ⟨_, rfl⟩ .nil)), Heap.get?_push_size _ rfl⟩
  refine thn (hi.run pins _ σ _ _ I2 (h s.heap.objs.size _ hn)) fun u s3 ⟨v, H', I3, rv, ha, k, z, ev, k0, k3, hz, hne, hb, q⟩ => ?_
  subst ev
  obtain ⟨tk, e⟩ := rv
  subst e
  obtain ⟨ho, _⟩ := (show ObjOk X.prog X.w H' s3.heap s.heap.objs.size (.frz _ _) from I3.hok _ _ ha)
  have hl : s3.heap.IsList s.heap.objs.size #[.str z0 (s.toks + 1), .str z1 (s.toks + 1 + 1), .str z2 (s.toks + 1 + 1 + 1)] := ⟨_, ho, rfl, _, rfl⟩
  obtain ⟨tz, e2, hz0, hzy⟩ : ∃ tz : Tok, (#[Value.str z0 (s.toks + 1), .str z1 (s.toks + 1 + 1), .str z2 (s.toks + 1 + 1 + 1)] : Array Value)[k.toNat]? = some (Value.str z tz) ∧ tz ≠ 0 ∧ s.toks ≠ tz := by
    obtain ⟨n, rfl⟩ : ∃ n : Nat, k = n := ⟨k.toNat, by omega⟩
    have hn3 : n < 3 := by omega
    match n, hn3 with
    | 0, _ =>
      have e : z0 = z := by simpa using hz
      subst e
      exact ⟨s.toks + 1, rfl, show s.toks + 1 ≠ 0 by omega, show s.toks ≠ s.toks + 1 by omega⟩
    | 1, _ =>
      have e : z1 = z := by simpa using hz
      subst e
      exact ⟨s.toks + 1 + 1, rfl, show s.toks + 1 + 1 ≠ 0 by omega, show s.toks ≠ s.toks + 1 + 1 by omega⟩
    | 2, _ =>
      have e : z2 = z := by simpa using hz
      subst e
      exact ⟨s.toks + 1 + 1 + 1, rfl, show s.toks + 1 + 1 + 1 ≠ 0 by omega, show s.toks ≠ s.toks + 1 + 1 + 1 by omega⟩
  refine item_listR hl k0 (by omega) e2 ?_ (hs _ _)
  refine Calls.spliced_nil ?_
  exact PySem.SC.replace (show s.toks ≠ 0 by omega) hz0 hzy hne hb fun t' k => ⟨.str (Txt.replace t y z), H', I3.tok k, ⟨t', rfl⟩, q⟩
def wRepl3 (i : Nat) (y z0 z1 z2 : Str) (wi : TV) : TV := fun ρ S Q E => rsv ρ (.s i) fun x => ∃ t : Str, x = .str t ∧ wi ρ S (fun d ρ1 S1 => ∃ (k : Int) (z : Str), d = .int k ∧ 0 ≤ k ∧ k < 3 ∧ [z0, z1, z2][k.toNat]? = some z ∧ (y == z) = false ∧ t.length + (t.length + 1) * z.length ≤ 16777216 ∧ Q (.str (Txt.replace t y z)) ρ1 S1) E
theorem xrepl3 {Y : VC} {x y z0 z1 z2 : Str} {j j0 j1 j2 : Nat} {p1 c0 q0 q1 q2 lp sp apos pos : Pos} {ix : Expr} {wi : TV} (i : Nat) (hi : VE Y ix wi) (hN : Y.X.N[i]? = some x := by rfl) (hv : visB Y.X.env.scope x = true := by kernel_rfl) (hd : (x == ("__debug__" : Str)) = false := by kernel_rfl) (hcd : (x == ("__classdict__" : Str)) = false := by kernel_rfl)
    (hs : PlainIx ix := by exact fun _ _ => rfl)
    (hst : starEach [.Constant (.str y) j c0, .Subscript (.List [.Constant (.str z0) j0 q0, .Constant (.str z1) j1 q1, .Constant (.str z2) j2 q2] lp) ix sp] Y.X.env = [(false, eval (.Constant (.str y) j c0) Y.X.env), (false, eval (.Subscript (.List [.Constant (.str z0) j0 q0, .Constant (.str z1) j1 q1, .Constant (.str z2) j2 q2] lp) ix sp) Y.X.env)] := by rfl)
    (hbase : attributeBase (.Name x p1) "replace" Y.X.env (eval (.Name x p1) Y.X.env) = eval (.Name x p1) Y.X.env := by rfl) (hline : (apos.endLine == pos.line) = true := by rfl) :
    VET Y (.Call (.Attribute (.Name x p1) "replace" apos) [.Constant (.str y) j c0, .Subscript (.List [.Constant (.str z0) j0 q0, .Constant (.str z1) j1 q1, .Constant (.str z2) j2 q2] lp) ix sp] [] pos) (wRepl3 i y z0 z1 z2 wi) :=
  PET.imp (pet_repl3 hN (vis_of hv) hi hd hcd hs hst hbase hline) fun σ H Q ⟨g, ρ, S, Qv, Ev, r, hw, ec, hq⟩ => by
    unfold wRepl3 rsv at hw
    have key : ∃ t : Str, (ρ[i]? = some (Sl.v (.str t))) ∧ wi ρ S (fun d ρ1 S1 => ∃ (k : Int) (z : Str), d = .int k ∧ 0 ≤ k ∧ k < 3 ∧ [z0, z1, z2][k.toNat]? = some z ∧ (y == z) = false ∧ t.length + (t.length + 1) * z.length ≤ 16777216 ∧ Qv (.str (Txt.replace t y z)) ρ1 S1) Ev := by
      simp only at hw
      split at hw
      · rename_i d e1
        obtain ⟨a, rfl, q⟩ := hw
        exact ⟨a, e1, q⟩
      · rename_i d e1
        obtain ⟨a, rfl, q⟩ := hw
        obtain ⟨p, _, ow⟩ := r.own i _ e1
        simp only [Own] at ow
      · exact hw.elim
    obtain ⟨t, e1, q⟩ := key
    obtain ⟨v, h1, h2⟩ := r.val i _ e1
    simp only [Rep] at h2
    subst h2
    refine ⟨t, h1, fun a o ha => ?_⟩
    have gr := grow_upd (o := .frz o (.lst [.str z0, .str z1, .str z2])) ha
    refine ⟨g, ρ, S, _, Ev, r.grow gr, q, ec.step (.grow gr), fun v H1 g1 ρ1 S1 d r1 st1 rp1 ⟨k, z, ed, k0, k3, hz, hne, hb, q1⟩ => ⟨st1.ext.keep a _ upd_same (r.fresh ha), k, z, ?_, k0, k3, hz, hne, hb, hq _ H1 g1 ρ1 S1 _ r1 ((Stp.grow gr).trans st1) (by simp only [Rep]) q1⟩⟩
    subst ed
    simpa only [Rep] using rp1
end VL
namespace VL
/-- a class of the module by its name -/
structure CN (c : Cf) (mg : PySem.Str → Option PySem.Value) (cl : String) : Prop where
  mg : mg (toS cl) = some (.ref (c.ca cl))
end VL

set_option Elab.async false
set_option linter.all false
set_option autoImplicit false
set_option maxRecDepth 100000
set_option maxHeartbeats 1000000
/-! VLX2: zip of two tuples, static methods, an own list's item set. -/
namespace VL
open PySem PySem.Spec PyProof.Rows L2
/-! ### C.m(..), m a staticmethod -/
structure SMt (c : Cf) (fa : String → Addr) (mg : Str → Option Value) (cl m f : String) : Prop where
  mg : mg (toS cl) = some (.ref (c.ca cl))
  ex : ∃ mc p, ClX.CRead c.K (c.ca cl) mc ∧ PySem.W.findCls c.K (.ref (c.ca cl)) mc (toS m) = some (.get (.builtin "staticmethod.__get__") (.ref p) .none (.ref (c.ca cl))) ∧ (∃ rest, PySem.W.recIn c.K p "staticmethod" = some (.ref (fa f) :: rest)) ∧ PySem.W.keepIn c.K (.ref (fa f)) = true
section
variable {Y : VC} {fa : String → Addr} {k : Nat} {T : Tab} {TI : String → FWI} {e : Expr} {es : List Expr} {wa : TVA} {pos p apos : Pos} {pl : Sem Bool}
theorem ve_smeth (cl m f : String) (G : Gd Y fa k T TI) (cm : SMt Y.c fa Y.X.mg cl m f) (hg : Gl Y.X (toS cl)) (ha : VA Y (e :: es) wa) (hdb : (toS cl == ("__debug__" : Str)) = false := by decide +kernel)
    (he : starEach (e :: es) Y.X.env = (false, eval e Y.X.env) :: starEach es Y.X.env := by rfl) (hpl : (backTo pos (starEach es Y.X.env)).any (·.1) = false := by rfl)
    (ht : eval (.Call (.Attribute (.Name (toS cl) p) (toS m) apos) (e :: es) [] pos) Y.X.env = (do
      let ov ← eval (.Name (toS cl) p) Y.X.env
      standAt apos.atName
      let (f, first) ← holding [ov] (getMethod ov (toS m) pl)
      callWith pos f first (backTo pos (starEach (e :: es) Y.X.env)) (backToKw pos (keywordEach [] Y.X.env))) := by rfl) :
    VE Y (.Call (.Attribute (.Name (toS cl) p) (toS m) apos) (e :: es) [] pos) (wCall (T f) wa) := by
  refine ⟨fun pins s σ H Q I ⟨g, ρ, S, Qv, Ev, r, hw, ec, hq⟩ => ?_⟩
  obtain ⟨mc, pp, rd, hfi, ⟨rest, hp⟩, kp⟩ := cm.ex
  rw [G.hK] at rd hfi hp kp
  refine PySem.W.methodCall_KW (pl := pl) (ld_glob I hg cm.mg ?_ hdb) ht
  refine PySem.W.method_cls (I.tok _).kIn rd.ga (PySem.W.cls_bind (I.tok _).kIn rd.rd hfi ?_)
  refine wpAny_call (PySem.W.sm_get (I.tok _).kIn hp (PySem.W.handed_on rfl ?_))
  refine PySem.W.callWith_K (h₀ := Y.X.base) (first := []) I.ok.mod.kin kp (thn (ha.run pos pins _ σ H (fun vs H1 => ∃ g1 ρ1 S1 ds, R Y.c Y.F g1 σ H1 ρ1 S1 ∧ Stp Y.F g σ ρ H g1 σ ρ1 H1 ∧ Reps Y.c g1.sm (MU Y.F g1 σ ρ1) H1 ds vs ∧ T f ds S1 (fun d S2 => Qv d ρ1 S2) (fun x S2 => Ev x ρ1 S2)) (I.tok _)
    ⟨g, ρ, S, _, Ev, r, hw, ec, fun vs H1 g1 ρ1 S1 ds r1 st1 rp1 q1 => ⟨g1, ρ1, S1, ds, r1, st1, rp1, q1⟩⟩) fun us s1 ⟨vs, H1, I1, rv, g1, ρ1, S1, ds, r1, st1, rp1, q1⟩ => ⟨I1.kIn, ?_⟩) he hpl
  exact wpAny_call (run_call G I1 rv r1 (ec.step st1) rp1 q1 fun v H' g' S' d r' st' rp' q' => hq v H' g' ρ1 S' d r' (st1.trans st') rp' q')
theorem xsmeth (cl m f : String) (G : Gd Y fa k T TI) (cm : SMt Y.c fa Y.X.mg cl m f) (ha : VA Y (e :: es) wa) (hg : glB Y.X (toS cl) = true := by kernel_rfl) (hdb : (toS cl == ("__debug__" : Str)) = false := by kernel_rfl)
    (hst : starEach (e :: es) Y.X.env = (false, eval e Y.X.env) :: starEach es Y.X.env := by rfl) (hpl : (backTo pos (starEach es Y.X.env)).any (·.1) = false := by rfl)
    (ht : eval (.Call (.Attribute (.Name (toS cl) p) (toS m) apos) (e :: es) [] pos) Y.X.env = (do
      let ov ← eval (.Name (toS cl) p) Y.X.env
      standAt apos.atName
      let (f, first) ← holding [ov] (getMethod ov (toS m) pl)
      callWith pos f first (backTo pos (starEach (e :: es) Y.X.env)) (backToKw pos (keywordEach [] Y.X.env))) := by rfl) :
    VE Y (.Call (.Attribute (.Name (toS cl) p) (toS m) apos) (e :: es) [] pos) (wCall (T f) wa) := ve_smeth cl m f G cm (gl_of hg) ha hdb hst hpl ht
end
/-! ### zip -/
def wZip (wa : TVA) : TVI := fun ρ S Q E => wa ρ S (fun args ρ1 S1 => ∃ xs ys, args = [.tup xs, .tup ys] ∧ Q ((xs.zip ys).map fun p => .tup [p.1, p.2]) GdT ρ1 S1) E
section
variable {Y : VC} {g : Gs} {σ : St} {ρ : En} {H : Hp} {a b : Addr} {xs ys : List V} {dx dy : List D}
theorem io_zipT (h1 : H a = some (.tup xs)) (n1 : ¬ MU Y.F g σ ρ a) (q1 : Reps Y.c g.sm (MU Y.F g σ ρ) H dx xs) (h2 : H b = some (.tup ys)) (n2 : ¬ MU Y.F g σ ρ b) (q2 : Reps Y.c g.sm (MU Y.F g σ ρ) H dy ys) :
    IterOk Y (RZ.ItzT Y.X.K a b) ((dx.zip dy).map fun p => .tup [p.1, p.2]) GdT g σ ρ H := by
  intro σ' H' g' ρ' S' r ex _ i
  have h1' := ex.keep a _ h1 n1
  have h2' := ex.keep b _ h2 n2
  have q1' := Reps.ext ex q1
  have q2' := Reps.ext ex q2
  have l1 := q1'.length
  have l2 := q2'.length
  refine ⟨fun hi => ?_, fun hi => ?_⟩
  · rw [List.length_map, List.length_zip] at hi
    have i1 : i < dx.length := by omega
    have i2 : i < dy.length := by omega
    refine ⟨⟨xs, ys, xs[i]'(by omega), ys[i]'(by omega), SqT.of h1', SqT.of h2', List.getElem?_eq_getElem (by omega), List.getElem?_eq_getElem (by omega)⟩, fun x H3 y => ?_⟩
    obtain ⟨T, x', y', rfl, hT, rfl, f1, f2⟩ := y
    have kp : ∀ c o, H' c = some o → upd H' T (.tup [x', y']) c = some o := fun c o hc => by
      rw [upd_ne (fun e => by rw [e, hT] at hc; cases hc)]; exact hc
    refine ⟨kp, .tup [dx[i], dy[i]], by simp [List.getElem?_zip_eq_some, i1, i2], ?_⟩
    have ex2 : Ext g'.sm (MU Y.F g' σ' ρ') H' g'.sm (MU Y.F g' σ' ρ') (upd H' T (.tup [x', y'])) := ⟨⟨[], by simp⟩, fun c o hc _ => kp c o hc, fun c z => .inl z⟩
    obtain ⟨v1, e1, p1⟩ := q1'.get (List.getElem?_eq_getElem i1)
    obtain ⟨v2, e2, p2⟩ := q2'.get (List.getElem?_eq_getElem i2)
    rw [f1 xs (SqT.of h1')] at e1
    rw [f2 ys (SqT.of h2')] at e2
    cases e1
    cases e2
    simp only [Rep]
    refine ⟨T, [x', y'], rfl, upd_same, r.fresh hT, ?_⟩
    simp only [Reps]
    exact ⟨_, _, rfl, p1.ext ex2, _, _, rfl, p2.ext ex2, rfl⟩
  · rw [List.length_map, List.length_zip] at hi
    exact ⟨xs, ys, SqT.of h1', SqT.of h2', by omega⟩
end
section
variable {Y : VC} {e e2 : Expr} {wa : TVA} {p pos tpos : Pos} {elts : List Expr} {kk : Nat}
theorem vi_zip (hK : Y.c.K = Y.X.K) (hg : Gl Y.X "zip") (hm : Y.X.mg "zip" = none) (ha : VA Y [e, e2] wa)
    (hs : starEach [e, e2] Y.X.env = (false, eval e Y.X.env) :: starEach [e2] Y.X.env := by rfl) (hpl : (backTo pos (starEach [e2] Y.X.env)).any (·.1) = false := by rfl) :
    VI Y (.Tuple elts kk tpos) (.Call (.Name "zip" p) [e, e2] [] pos) (wZip wa) := by
  refine ⟨fun pins s σ H R' I ⟨g, ρ, S, Qv, Ev, r, hw, ec, hq⟩ => ?_⟩
  refine (RZ.pi_zipA hg hm ha hs hpl).run pins s σ H R' I ⟨g, ρ, S, _, Ev, r, hw, ec, fun vs H1 g1 ρ1 S1 ds r1 st1 rp q => ?_⟩
  obtain ⟨dx, dy, e, q⟩ := q
  subst e
  simp only [Reps, Rep] at rp
  obtain ⟨x, r', e1, ⟨a, xs, e2, h1, n1, q1⟩, y, r'', e4, ⟨b, ys, e5, h2, n2, q2⟩, e6⟩ := rp
  subst e1 e2 e4 e5 e6
  exact ⟨a, b, xs, ys, rfl, .inr ⟨SqT.of h1, SqT.of h2, hq _ H1 g1 ρ1 S1 _ GdT r1 st1 (io_zipT h1 n1 q1 h2 n2 q2) q⟩⟩
theorem xzip {fa : String → Addr} {k : Nat} {T : Tab} {TI : String → FWI} (G : Gd Y fa k T TI) (hm : Y.X.mg "zip" = none) (ha : VA Y [e, e2] wa) (hg : glB Y.X "zip" = true := by kernel_rfl)
    (hs : starEach [e, e2] Y.X.env = (false, eval e Y.X.env) :: starEach [e2] Y.X.env := by rfl) (hpl : (backTo pos (starEach [e2] Y.X.env)).any (·.1) = false := by rfl) :
    VI Y (.Tuple elts kk tpos) (.Call (.Name "zip" p) [e, e2] [] pos) (wZip wa) := vi_zip G.hK (gl_of hg) hm ha hs hpl
end
section
variable {Y : VC} {i : Nat} {x : Str} {value ix : Expr} {wk wv : TV} {p0 pos pos' : Pos}
theorem xsetl (i : Nat) (hk : VE Y ix wk) (he : VE Y value wv) (hN : Y.X.N[i]? = some x := by rfl) (hv : visB Y.X.env.scope x = true := by kernel_rfl) (hd : (x == ("__debug__" : Str)) = false := by kernel_rfl) (hcd : (x == ("__classdict__" : Str)) = false := by kernel_rfl)
    (ha : ∀ v, assign (.Subscript (.Name x p0) ix pos') Y.X.env v = (do
      let ov ← holding [v] (eval (.Name x p0) Y.X.env)
      let iv ← holding [v, ov] (eval ix Y.X.env)
      standAt pos'
      holding [v, ov, iv] (setItem ov iv v)
      release [v, ov, iv] []) := by intro _; rfl)
    (hs : swapsWithSole [.Subscript (.Name x p0) ix pos'] value pos.line Y.X.env = pure false := by rfl) (hw : swappedStores [.Subscript (.Name x p0) ix pos'] value Y.X.env = pure none := by rfl)
    (h1 : (assignEach [.Subscript (.Name x p0) ix pos'] Y.X.env).map (·.2) = [assign (.Subscript (.Name x p0) ix pos') Y.X.env] := by rfl) : VS Y (.Assign [.Subscript (.Name x p0) ix pos'] value pos) (wSetLx i wk wv) := vs_setL hN (vis_of hv) hk he hd hcd ha hs hw h1
end
end VL

set_option Elab.async false
set_option linter.all false
set_option autoImplicit false
set_option maxRecDepth 100000
/-! VLIt: iter(t), t a tuple: a tracked iterator. -/
namespace VL
open PySem PySem.Spec PyProof.Rows L2
/-- at it an iterator over the tuple at t, the next place is i -/
def ItT (t it : Addr) (i : Nat) : HO := .ext fun h => h.IsTupleIter it t i
theorem itT_ok {P : Program} {w : World} {H : Hp} {h : Heap} {t it : Addr} {i : Nat} (e : h.IsTupleIter it t i) : ObjOk P w H h it (ItT t it i) :=
  ⟨e, let ⟨o, ho, _⟩ := e; ⟨o, ho⟩, fun h1 h2 p k => let ⟨o, ho, r⟩ := p; ⟨o, k o ho, r⟩⟩
theorem itup {h : Heap} {t : Addr} {its : List Value} (p : IsTup h t its.toArray) : h.IsTuple t its.toArray := by
  obtain ⟨o, h1, h2, n, h3⟩ := p
  exact ⟨o, h1, h2, n, h3⟩
def rIterT (K : PySem.W.Frag) : List V → Hp → VK → Prop := fun xs H Q => ∃ (t : Addr) (zs : List V), xs = [.ref t] ∧ SqT K H t zs ∧ ∀ it, H it = none → Q (.ref it) (upd H it (ItT t it 0))
theorem call_iterT {X : Cx} : CallR X (.builtin "iter") (rIterT X.K) := by
  intro pins s σ H xs us Q I r h
  obtain ⟨t, zs, rfl, hq, q⟩ := h
  obtain rfl := Vals.ref1 r
  obtain ⟨its, rv, pl, hz⟩ := I.tuple hq
  refine Calls.call_function_entry (by decide +kernel) (by decide +kernel) PySem.W.kdk_entry_iter (PySem.W.kdk_args_iter _) ?_
  unfold Builtin.«iter»
  refine wpAny_bind (m := someArgs "iter" 1 2 _) (wpAny_of_eq (a := [Value.ref t]) (by first | rfl | kernel_rfl!) ?_)
  show wpAny _ _ (pyIter (.ref t) >>= _) _ _ _
  refine wpAny_bind (wpAny_pyIter_tuple (itup pl) (wpAny_pure ⟨_, rfl, ?_⟩))
  exact ⟨.ref s.heap.objs.size, _, I.laid (t' := s.toks) (fun b u e => Heap.get?_push_of_some _ e) (Nat.le_refl _) (itT_ok ⟨_, Heap.get?_push_size _ rfl, rfl, rfl⟩), rfl, q _ (I.hok.fresh (Nat.le_refl _))⟩
end VL

set_option Elab.async false
set_option linter.all false
set_option autoImplicit false
set_option maxRecDepth 100000
set_option maxHeartbeats 2000000
/-! VLIt2: list(o) of an own instance whose __iter__ hands back the iterator of a tuple that is its field. -/
namespace VL
open PySem PySem.Spec PyProof.Rows L2
/-- a class with an __iter__ of its own, without __len__ and __length_hint__ -/
structure ItF (K : PySem.W.Frag) (C fi : Addr) : Prop where
  it : PySem.W.findIn K (.ref C) "__iter__" = some (some (.ref fi))
  itF : PySem.W.isFn K (.ref fi) = true
  nolen : PySem.W.findIn K (.ref C) "__len__" = some none
  nohint : PySem.W.findIn K (.ref C) "__length_hint__" = some none
/-- what such an __iter__ promises: a new iterator, younger than all that is tracked -/
def spIter (K : PySem.W.Frag) (C : Addr) (f : Str) : Sp := fun vs H Q _ => ∃ (a dx : Addr) (fs : List (Str × V)) (t : Addr) (zs : List V), vs = [.ref a] ∧ H a = some (.ins C dx fs) ∧ fs.lookup f = some (.ref t) ∧ H t = some (.tup zs) ∧ Cls K C ∧ NoAttr K C f ∧
  ∀ it, H it = none → (∀ b o, H b = some o → b < it) → Q (.ref it) (upd H it (ItT t it 0))
section
variable {X : Cx} {pins : List (Addr × Obj)} {σ : L2.St} {H : Hp} {s : Shared} {A1 : Around} {C fi a q t it n : Addr} {fdI : FuncData} {psI : List Str} {CI : CXT} {EI : XK} {f : Str} {zs : List V}
theorem hint_F {M : Model} {A : Around} {E : Value → Shared → Prop} {Q : Bool → Shared → Prop} {K : PySem.W.Frag} {ox : Obj} {od : Option Obj} (hc : ItF K C fi) (hK : K.In s.heap) (J : PySem.W.InstAt s.heap a ox C od) (h : Q true s) :
    wpAny M A (Builtin.List.listLengthHint (.ref a)) Q E s := by
  unfold Builtin.List.listLengthHint
  refine wpAny_bind (wpAny_bind (J.type.here ((PySem.W.looks_findIn hK hc.nolen).here ?_)))
  refine PySem.W.KFB.if_not rfl ?_
  refine PySem.W.KFB.if_not rfl ?_
  refine wpAny_bind (wpAny_bind (J.type.here ((PySem.W.looks_findIn hK hc.nohint).here ?_)))
  exact wpAny_pure h
/-- the list filled from the iterator -/
theorem fill_loop {Rs : Result → Shared → Prop} (hh : A1.in1.handled = none) (hqn : q ≠ it) (hq0 : H q = none) (ht : H t = some (.tup zs)) (hzl : zs.length ≤ sizeLine) (hdone : ∀ s, Inv X pins σ (upd H q (.lst zs)) s → Rs (.ok (.ret .none)) s) :
    ∀ (rest acc : List V) (s : Shared), acc ++ rest = zs → Inv X pins σ (upd H q (.lst acc)) s → s.heap.IsTupleIter it t acc.length → FpOk X pins (upd H q (.lst acc)) it →
      codeAny (model X.prog X.w) A1 (.builtin "list.extend.loop" ⟨[.ref q, .ref it, .none], []⟩) Rs s
  | [], acc, s, e, I, st, hf => by
    rw [List.append_nil] at e
    rw [e] at I st hf
    have hqt : SqT X.K (upd H q (.lst zs)) t zs := SqT.of (by rw [upd_ne (fun z => by rw [z, hq0] at ht; cases ht)]; exact ht)
    refine codeAny_builtin PySem.F.entry_extend_loop ?_
    rw [Around.under_plainId PySem.F.plain_extend_loop _]
    show wpAny _ A1.in1 (pyNext (.ref it) >>= _) _ _ s
    obtain ⟨its, rv, p, hz⟩ := I.tuple hqt
    obtain ⟨f0, f1, f2, f3, f4, f5⟩ := hf
    have hl := rv.length
    refine wpAny_bind (wpAny_pyNext_tuple_end hh st (itup p) (by simp; omega) fun h' eb => ?_)
    exact wpAny_pure (hdone _ (I.turned (t' := s.toks) (fun b o hb e => eb b o hb e) f0 f1 f3 f4 f5))
  | z :: rest, acc, s, e, I, st, hf => by
    have hqt : SqT X.K (upd H q (.lst acc)) t zs := SqT.of (by rw [upd_ne (fun z => by rw [z, hq0] at ht; cases ht)]; exact ht)
    refine codeAny_builtin PySem.F.entry_extend_loop ?_
    rw [Around.under_plainId PySem.F.plain_extend_loop _]
    show wpAny _ A1.in1 (pyNext (.ref it) >>= _) _ _ s
    obtain ⟨its, rv, p, hz⟩ := I.tuple hqt
    obtain ⟨f0, f1, f2, f3, f4, f5⟩ := id hf
    have hx : zs[acc.length]? = some z := by rw [← e, List.getElem?_append_right (Nat.le_refl _), Nat.sub_self]; rfl
    obtain ⟨u, hu, ru⟩ := rv.get hx
    refine wpAny_bind (wpAny_pyNext_tuple_item st (itup p) (x := u) (by simpa using hu) fun h' st' sb => ?_)
    have I1 : Inv X pins σ (upd H q (.lst acc)) { s with heap := h' } := I.turned (t' := s.toks) (fun b o hb e => (sb.2 b hb).trans e) f0 f1 f3 f4 f5
    show wpAny _ A1.in1 (updateSeq q (·.push u) >>= _) _ _ _
    have hlen : acc.length < zs.length := by rw [← e]; simp
    obtain ⟨hzz, its2, k, r2, hl2, e2⟩ := I1.lstM upd_same
    refine wpAny_bind (wpAny_updateSeq e2 rfl (wpAny_pure ⟨plainId_quiet PySem.F.plain_extend_loop _, ?_⟩) (by rw [List.size_toArray]; omega) (by show (its2.toArray.push u).size ≤ sizeLine + 1; rw [Array.size_push, List.size_toArray]; omega))
    have I2 := I1.lset (f := (·.push u)) (its' := its2 ++ [u]) (ys := acc ++ [z]) (t' := s.toks) upd_same e2 (by simp) (r2.append (.cons ru .nil)) (by rw [List.length_append, List.length_singleton]; omega)
    rw [upd_upd] at I2
    have up : ∀ b, b ≠ q → upd H q (.lst (acc ++ [z])) b = upd H q (.lst acc) b := fun b hb => by rw [upd_ne hb, upd_ne hb]
    refine fill_loop hh hqn hq0 ht hzl hdone rest (acc ++ [z]) _ (by rw [← e]; simp) I2 ?_ ⟨by rw [up it (Ne.symm hqn)]; exact f0, f1, f2, f3, f4, f5⟩
    rw [List.length_append, List.length_singleton]
    exact st'.at fun o ho => (Heap.get?_update_other _ _ hqn).trans ho
/-- [].extend(o) -/
theorem fill_extend {Rs : Result → Shared → Prop} {dx : Addr} {fs : List (Str × V)} (sb : Sub X n A1.in1) (hh : A1.in1.handled = none) (hc : ItF X.K C fi)
    (FI : FnOk X.prog X.w X.K X.mg X.base CI n fi fdI psI (spIter X.K C f)) (bI : Binds X.K fdI psI []) (xI : Passes CI X EI) (hdone : ∀ s, Inv X pins σ (upd H q (.lst zs)) s → Rs (.ok (.ret .none)) s) (herr : ∀ e s, X.xe e s → Rs (.error e) s)
    (hq0 : H q = none) (hqs : X.s_0.heap.objs.size ≤ q) (I : Inv X pins σ (upd H q (.lst [])) s) (ha : H a = some (.ins C dx fs)) (hl : fs.lookup f = some (.ref t)) (ht : H t = some (.tup zs)) (hzl : zs.length ≤ sizeLine) (hcl : Cls X.K C) (hna : NoAttr X.K C f) :
    wpAny (model X.prog X.w) A1.in1 (Builtin.List.listExtendWith (.ref q) (.ref a) .none)
      (fun fin s' => match fin with | .done f => Rs (.ok f) s' | .again c' => c'.quiet = true ∧ codeAny (model X.prog X.w) A1 c' Rs s') (fun e s' => Rs (.error e) s') s := by
  have ne : ∀ {b : Addr} {o : HO}, H b = some o → b ≠ q := fun e z => by rw [z, hq0] at e; cases e
  have ha1 : upd H q (.lst []) a = some (.ins C dx fs) := by rw [upd_ne (ne ha)]; exact ha
  have ht1 : upd H q (.lst []) t = some (.tup zs) := by rw [upd_ne (ne ht)]; exact ht
  have hne : q ≠ a := Ne.symm (ne ha)
  obtain ⟨mA, J, _⟩ := ins_get I.hok ha1
  obtain ⟨od, J, _⟩ := J.look
  obtain ⟨m0, hF⟩ := I.fr
  unfold Builtin.List.listExtendWith
  refine wpAny_bind (J.type.here ?_)
  have h1 : Builtin.List.listSameRef (.ref q) (.ref a) = false := by simp [Builtin.List.listSameRef, hne]
  have h2 : (Value.ref C == Value.type "list") = false := rfl
  have h3 : (Value.ref C == Value.type "tuple") = false := rfl
  simp only [h1, h2, h3, Bool.or_false, Bool.false_eq_true, if_false]
  refine wpAny_bind (PySem.W.owit_iter hF I.ok.mod.kin J hc.it hc.itF ?_)
  have e0 : Env0 X.prog X.w X.K X.mg X.base A1.in1 X.stack s (upd H q (.lst [])) := by
    have e := I.env0
    exact ⟨by rw [sb.fr]; exact e.frames, e.mod, e.bs, e.bsz, e.funs, e.frf, e.hok, e.bare⟩
  have hspI : spIter X.K C f [.ref a] (upd H q (.lst [])) (fun v H' => ∃ it, v = .ref it ∧ upd H q (.lst []) it = none ∧ q < it ∧ H' = upd (upd H q (.lst [])) it (ItT t it 0)) EI :=
    ⟨a, dx, fs, t, zs, rfl, ha1, hl, ht1, hcl, hna, fun it hn hy => ⟨it, rfl, hn, hy q _ upd_same, rfl⟩⟩
  have hll := FI.len _ _ _ _ hspI
  have r2 : Vals [V.ref a] [Value.ref a] := .cons rfl .nil
  refine wpAny_call (codeAny_mono (FI.run A1.in1 X.stack s _ ⟨[.ref a], []⟩ [.ref a] [.ref a] _ EI sb.room e0 (by
    have := bI s [.ref a] I.kIn (by simpa using hll)
    simpa using this) r2 hspI) fun r s' hq' => ?_)
  cases r with
  | error e => exact herr e s' (xI pins σ _ s e s' I hq')
  | ok fl =>
    cases fl with
    | next => exact False.elim hq'
    | brk => exact False.elim hq'
    | cont => exact False.elim hq'
    | ret u =>
      obtain ⟨v, H', I', rv, it, ev, hn, hy, eH⟩ := I.after hq'
      subst ev
      rw [eH] at I'
      cases rv
      have hit : upd (upd H q (.lst [])) it (ItT t it 0) it = some (ItT t it 0) := upd_same
      have st0 : s'.heap.IsTupleIter it t 0 := (I'.hok it _ hit).1
      have hqi : q ≠ it := Nat.ne_of_lt hy
      have hai : a ≠ it := fun z => by rw [z, hn] at ha1; cases ha1
      have ha2 : upd (upd H q (.lst [])) it (ItT t it 0) a = some (.ins C dx fs) := by rw [upd_ne hai]; exact ha1
      have hq2 : upd (upd H q (.lst [])) it (ItT t it 0) q = some (.lst []) := by rw [upd_ne hqi]; exact upd_same
      obtain ⟨mA', J', _⟩ := ins_get I'.hok ha2
      obtain ⟨od', J', _⟩ := J'.look
      unfold PySem.W.OwitIt
      refine wpAny_specialOf st0.typeIs PySem.F.slot_tuple_iterator_next.lookup ?_
      refine wpAny_bind (wpAny_holding (hint_F hc I'.kIn J' ?_))
      obtain ⟨z, its, k, r3, hl3, e3⟩ := I'.lstM hq2
      cases r3
      have fin : ∀ s2 : Shared, Inv X pins σ (upd (upd H q (.lst [])) it (ItT t it 0)) s2 → codeAny (model X.prog X.w) A1 (.builtin "list.extend.loop" ⟨[.ref q, .ref it, .none], []⟩) Rs s2 := fun s2 I2 => by
        have st2 : s2.heap.IsTupleIter it t 0 := (I2.hok it _ hit).1
        have fp := ItX.inv_fp I2 hit (Nat.le_trans hqs (Nat.le_of_lt hy))
        have I3 := ItX.inv_drop I2 hit
        rw [ItX.dropH_upd hn] at I3 fp
        exact fill_loop hh hqi hq0 ht hzl hdone zs [] s2 rfl I3 st2 fp
      refine wpAny_ite_split (fun _ => ?_) (fun _ => wpAny_pure ⟨plainId_quiet PySem.F.plain_extend_loop _, fin s' I'⟩)
      refine wpAny_bind (wpAny_rule ?_)
      refine wpAny_bind ?_
      show wpAny _ _ (updateSeq q (·.push .none) >>= fun _ => updateSeq q (·.pop)) _ _ _
      refine wpAny_bind (wpAny_updateSeq e3 rfl ?_)
      have I2 := I'.lset (f := (·.push Value.none)) (its' := [Value.none]) (ys := [.non]) (t' := s'.toks) hq2 e3 (by simp) (.cons rfl .nil) (by rw [List.length_singleton, sizeLine_eq]; decide)
      obtain ⟨z4, its4, k4, r4, hl4, e4⟩ := I2.lstM upd_same
      obtain ⟨u4, rfl, ru4⟩ := r4.one
      refine wpAny_updateSeq e4 rfl ?_ (by show 1 ≤ sizeLine; rw [sizeLine_eq]; decide) (by show 0 ≤ sizeLine + 1; exact Nat.zero_le _)
      refine wpAny_pure ⟨plainId_quiet PySem.F.plain_extend_loop _, fin _ ?_⟩
      have I3 := I2.lset (f := (·.pop)) (its := [u4]) (its' := []) (ys := []) (t' := s'.toks) upd_same e4 (by rfl) .nil (Nat.zero_le _)
      rw [upd_upd] at I3
      have hH : upd (upd (upd H q (.lst [])) it (ItT t it 0)) q (.lst []) = upd (upd H q (.lst [])) it (ItT t it 0) := by
        funext b
        by_cases hb : b = q
        · rw [hb, upd_same, hq2]
        · rw [upd_ne hb]
      rw [hH] at I3
      exact I3
/-- list(o) -/
def rListIt (K : PySem.W.Frag) (C : Addr) (f : Str) : List V → Hp → VK → Prop := fun xs H Q => ∃ (a dx : Addr) (fs : List (Str × V)) (t : Addr) (zs : List V), xs = [.ref a] ∧ H a = some (.ins C dx fs) ∧ fs.lookup f = some (.ref t) ∧ H t = some (.tup zs) ∧ Cls K C ∧ NoAttr K C f ∧
  ∀ q, H q = none → Q (.ref q) (upd H q (.lst zs))
theorem call_listIt (hcalm : X.A.handled = none) (hc : ItF X.K C fi) (FI : FnOk X.prog X.w X.K X.mg X.base CI n fi fdI psI (spIter X.K C f)) (bI : Binds X.K fdI psI []) (xI : Passes CI X EI) (hr : Room (n + 2) X.A) : CallR X (.type "list") (rListIt X.K C f) := by
  intro pins s σ H xs us Q I rv h
  obtain ⟨a, dx, fs, t, zs, rfl, ha, hl, ht, hcl, hna, hq⟩ := h
  obtain ⟨u, rfl, ru⟩ := rv.one
  cases ru
  have sb : Sub X n X.A.in1.in1 := (Sub.in1 (Sub.in1 (⟨hr, rfl⟩ : Sub X (n + 2) X.A)))
  refine callType_codes (Q₁ := fun obj s₁ => obj = .ref s.heap.objs.size ∧ s₁ = { s with heap := s.heap.push { cls := .type "list", data := .seq #[] } }) PySem.F.called_list (PySem.F.typeCall_list_1 _) PySem.F.entry_list_init
    (code_list_new _ ⟨rfl, rfl⟩) fun obj s₁ h₁ => ?_
  obtain ⟨rfl, rfl⟩ := h₁
  have hS : (s.heap.push { cls := .type "list", data := .seq #[] }).get? s.heap.objs.size = some { cls := .type "list", data := .seq #[] } := Heap.get?_push_size _ rfl
  refine ⟨⟨_, hS, rfl⟩, PySem.F.args_list_init_2 _ _, ?_⟩
  have fr : H s.heap.objs.size = none := I.hok.fresh (Nat.le_refl _)
  have I1 : Inv X pins σ (upd H s.heap.objs.size (.lst [])) { s with heap := s.heap.push { cls := .type "list", data := .seq #[] } } := I.lnew (its := []) (t' := s.toks) .nil (Nat.zero_le _)
  show wpAny _ _ (do let old ← Builtin.List.listItems (.ref s.heap.objs.size); Builtin.List.listUpdate (.ref s.heap.objs.size) (fun _ => #[]); letGo old.toList.reverse; Builtin.List.listExtendWith (.ref s.heap.objs.size) (.ref a) .none) _ _ _
  refine wpAny_bind ?_
  unfold Builtin.List.listItems
  refine wpAny_bind (wpAny_seqItems hS rfl (wpAny_pure ?_))
  show wpAny _ _ (updateSeq s.heap.objs.size (fun _ => #[]) >>= fun _ => letGo (#[] : Array Value).toList.reverse >>= fun _ => Builtin.List.listExtendWith (.ref s.heap.objs.size) (.ref a) .none) _ _ _
  refine wpAny_bind (wpAny_updateSeq hS rfl ?_)
  have I2 := I1.lset (f := fun _ => #[]) (its := []) (its' := []) (ys := []) (t' := s.toks) upd_same hS rfl .nil (Nat.zero_le _)
  rw [upd_upd] at I2
  refine wpAny_bind (wpAny_letGo ?_)
  obtain ⟨_, _, _, hzl⟩ := I.tuple (SqT.of ht)
  exact fill_extend (A1 := X.A.in1) (Rs := wants (fun r s₂ => r = .none ∧ EP X pins σ Q (.ref s.heap.objs.size) s₂) X.xe) sb hcalm hc FI bI xI
    (fun s' I' => ⟨rfl, .ref s.heap.objs.size, _, I', rfl, hq _ fr⟩) (fun e s' he => he) fr I.sz I2 ha hl ht hzl hcl hna
end
end VL

set_option Elab.async false
set_option linter.all false
set_option autoImplicit false
set_option maxRecDepth 100000
set_option maxHeartbeats 2000000
/-! VLIt3: .. as a rule of the layer. -/
namespace VL
open PySem PySem.Spec PyProof.Rows L2
def rIterY (K : PySem.W.Frag) : List V → Hp → VK → Prop := fun xs H Q => ∃ (t : Addr) (zs : List V), xs = [.ref t] ∧ SqT K H t zs ∧ ∀ it, H it = none → (∀ b o, H b = some o → b < it) → Q (.ref it) (upd H it (ItT t it 0))
theorem call_iterY {X : Cx} : CallR X (.builtin "iter") (rIterY X.K) := by
  intro pins s σ H xs us Q I r h
  obtain ⟨t, zs, rfl, hq, q⟩ := h
  obtain rfl := Vals.ref1 r
  obtain ⟨its, rv, pl, hz⟩ := I.tuple hq
  refine Calls.call_function_entry (by decide +kernel) (by decide +kernel) PySem.W.kdk_entry_iter (PySem.W.kdk_args_iter _) ?_
  unfold Builtin.«iter»
  refine wpAny_bind (m := someArgs "iter" 1 2 _) (wpAny_of_eq (a := [Value.ref t]) (by first | rfl | kernel_rfl!) ?_)
  show wpAny _ _ (pyIter (.ref t) >>= _) _ _ _
  refine wpAny_bind (wpAny_pyIter_tuple (itup pl) (wpAny_pure ⟨_, rfl, ?_⟩))
  exact ⟨.ref s.heap.objs.size, _, I.laid (t' := s.toks) (fun b u e => Heap.get?_push_of_some _ e) (Nat.le_refl _) (itT_ok ⟨_, Heap.get?_push_size _ rfl, rfl, rfl⟩), rfl, q _ (I.hok.fresh (Nat.le_refl _)) fun b o e => by
    obtain ⟨u, hu⟩ := objOk_get (I.hok b o e)
    exact Heap.lt_size hu⟩
/-- return iter(self.f) -/
def tRetIter (K : PySem.W.Frag) (f : Str) : TS := tRet (tCB (rIterY K) (tCons (tFld K (tVar 0) f) tNil))
theorem iter_fn {P : Program} {w : World} {K : PySem.W.Frag} {mg : Str → Option Value} {base : Heap} {qual : Str} {st : Stmt} {f : Addr} {fd : FuncData} {C : Addr} {fld : Str} (F : Fun K "__iter__" qual st f fd) (S : FnScope ["self"] ["self"] (defScope st))
    (hps : ∀ (cdv : Value) (A : Around) (outer : List Env) (s : Shared) (H : Hp) (E : XK), PSs (cxOf (L2.CX P w) P w K mg base ["self"] qual (defScope st) f cdv A outer s H E) (defBody st) (tRetIter K fld)) :
    FnOk P w K mg base (L2.CX P w) 1 f fd ["self"] (spIter K C fld) := by
  refine F.okX (k := 0) S (fun vs H Q E h => ?_) fun cdv A outer s H vs Q E hr h => ⟨_, hps cdv A outer s H E, ?_⟩
  · obtain ⟨a, dx, fs, t, zs, rfl, _⟩ := h
    rfl
  · obtain ⟨a, dx, fs, t, zs, rfl, ha, hl, ht, hc, hn, q⟩ := h
    exact ⟨.ref a, rfl, a, C, dx, fs, .ref t, rfl, ha, hc, hn, hl, t, zs, rfl, SqT.of ht, fun it hi hy => q it hi hy⟩
/-- the facts of such a class -/
structure ItO' (c : Cf) (fa : String → Addr) (mg : Str → Option Value) (cl fk : String) (qual : Str) (st : Stmt) : Prop where
  cf : ItF c.K (c.ca cl) (fa fk)
  fu : ∃ fd, Fun c.K "__iter__" qual st (fa fk) fd ∧ Binds c.K fd ["self"] []
/-- list(o): the items of the tuple o.f -/
def listItD (cl f : String) (d : D) (P : D → Prop) : Prop := match d with
  | .obj c fs => c = cl ∧ ∃ ds, fs.lookup f = some (.tup ds) ∧ P (.lst ds)
  | _ => False
section
variable {Y : VC} {fa : String → Addr} {k : Nat} {T : Tab} {TI : String → FWI}
theorem cf_listIt {cl fk f : String} {qual : Str} {st : Stmt} (G : Gd Y fa k T TI) (io : ItO' Y.c fa Y.X.mg cl fk qual st) (S : FnScope ["self"] ["self"] (defScope st))
    (hps : ∀ (cdv : Value) (A : Around) (outer : List Env) (s : Shared) (H : Hp) (E : XK), PSs (cxOf (L2.CX Y.X.prog Y.X.w) Y.X.prog Y.X.w Y.X.K Y.X.mg Y.X.base ["self"] qual (defScope st) (fa fk) cdv A outer s H E) (defBody st) (tRetIter Y.X.K (toS f))) :
    CallR Y.X (.type "list") (rF Y (on1 (listItD cl f))) := cf_on1 fun pins s σ H u Q g σ' ρ S' d x P I rx r b hv kq => by
  unfold listItD at hv
  split at hv
  · obtain ⟨rfl, ds, e, hv⟩ := hv
    obtain ⟨a, dx, vs, ex, ha, gi, rf⟩ := b.obj
    subst ex
    obtain ⟨v, hl, rp⟩ := rf.lookup e (fun gg _ h => toS_inj h)
    simp only [Rep] at rp
    obtain ⟨t, zs, ev, ht, _, rz⟩ := rp
    subst ev
    obtain ⟨fd, F, bd⟩ := io.fu
    have cf := io.cf
    rw [G.hK] at F bd cf
    have gi1 := gi.1
    have gi2 := gi.2 _ (mem_lookupD e)
    rw [G.hK] at gi1 gi2
    exact call_listIt (I.ok.hd G.cm) cf (iter_fn (C := Y.c.ca _) F S hps) bd passL (G.hr0.mono (by omega)) pins s σ H _ _ Q I (.cons rx .nil) ⟨a, dx, vs, t, zs, rfl, ha, hl, ht, gi1, gi2, fun q hq => kq q _ (.lst _) hq ⟨zs, rfl, rz⟩ hv⟩
  · exact hv.elim
end
end VL

set_option Elab.async false
set_option linter.all false
set_option autoImplicit false
set_option maxRecDepth 100000
/-! VLSym: the w functions run by simp -dsimp, the head first: nothing behind the head is looked at before its turn. -/
namespace VL
open PySem PySem.Spec PyProof.Rows L2

/-! ### bits that wait: what a token names is not looked at -/
abbrev Tok {α : Sort _} (_ : α) : Type := Unit
def opt {α : Type} (o : Option α) (P : α → Prop) (_ : Tok P) : Prop := match o with | some a => P a | none => False
@[simp] theorem opt_some {α : Type} {a : α} {P : α → Prop} {t : Tok P} : opt (some a) P t = P a := rfl
@[simp] theorem opt_none {α : Type} {P : α → Prop} {t : Tok P} : opt none P t = False := rfl
theorem opt_ex {α : Type} {o : Option α} {P : α → Prop} : (∃ a, o = some a ∧ P a) = opt o P () := by
  cases o <;> simp
/-- the value first -/
def letE {α : Type} (a : α) (P : α → Prop) (_ : Tok P) : Prop := P a
@[simp] theorem letE_go {α : Type} {a : α} {P : α → Prop} {t : Tok P} : letE a P t = P a := rfl
/-- the test first -/
def andL (p q : Prop) (_ : Tok q) : Prop := p ∧ q
@[simp] theorem andL_true {q : Prop} {t : Tok q} : andL True q t = q := by simp [andL]
@[simp] theorem andL_false {q : Prop} {t : Tok q} : andL False q t = False := by simp [andL]
theorem andL_of {p q : Prop} {t : Tok q} (h : p) : andL p q t = q := by simp [andL, h]
def iteL (b : Bool) (p q : Prop) (_ : Tok (p, q)) : Prop := if b = true then p else q
@[simp] theorem iteL_true {p q : Prop} {t : Tok (p, q)} : iteL true p q t = p := rfl
@[simp] theorem iteL_false {p q : Prop} {t : Tok (p, q)} : iteL false p q t = q := rfl
theorem iteL_of {b : Bool} {p q : Prop} {t : Tok (p, q)} (h1 : b = true → p) (h2 : b = false → q) : iteL b p q t := by
  cases b
  · exact h2 rfl
  · exact h1 rfl
theorem iteL_same {b : Bool} {p q r : Prop} {t : Tok (p, q)} (h1 : b = true → p = r) (h2 : b = false → q = r) : iteL b p q t = r := by
  cases b
  · exact h2 rfl
  · exact h1 rfl
def asB (d : D) (P : Bool → Prop) (_ : Tok P) : Prop := match d with | .bl b => P b | _ => False
@[simp] theorem asB_bl {b : Bool} {P : Bool → Prop} {t : Tok P} : asB (.bl b) P t = letE b P () := rfl
theorem asB_ex {d : D} {P : Bool → Prop} : (∃ b, d = .bl b ∧ P b) = asB d P () := by cases d <;> simp [asB]
def asI (d : D) (P : Int → Prop) (_ : Tok P) : Prop := match d with | .int b => P b | _ => False
@[simp] theorem asI_int {b : Int} {P : Int → Prop} {t : Tok P} : asI (.int b) P t = P b := rfl
theorem asI_ex {d : D} {P : Int → Prop} : (∃ b, d = .int b ∧ P b) = asI d P () := by cases d <;> simp [asI]
/-- a slot's thing -/
def slot (s : Option Sl) (P : D → Prop) (R : D → Prop) (_ : Tok (P, R)) : Prop := match s with | some (.v d) => P d | some (.o d) => R d | _ => False
@[simp] theorem slot_v {d : D} {P R : D → Prop} {t : Tok (P, R)} : slot (some (.v d)) P R t = P d := rfl
@[simp] theorem slot_o {d : D} {P R : D → Prop} {t : Tok (P, R)} : slot (some (.o d)) P R t = R d := rfl
/-- a call that waits for its law -/
def Wd (w : FW) (ds : List D) (S : Sto) (Q : D → Sto → Prop) (E : Ex → Sto → Prop) (_ : Tok (w, Q, E)) : Prop := w ds S Q E
def WdI (w : FWI) (cl : String) (fs : List (String × D)) (ds : List D) (S : Sto) (Q : List (String × D) → Sto → Prop) (E : Ex → Sto → Prop) (_ : Tok (w, Q, E)) : Prop := w cl fs ds S Q E
def forG (Gd : Sto → Prop) (tg : Tg) (wb : TVS) (ds : List D) (ρ : En) (S : Sto) (Q : Out → En → Sto → Prop) (E : QE) (_ : Tok (Gd, tg, wb, Q, E)) : Prop := forGo Gd tg wb ds ρ S Q E
def lcG (Gd : Sto → Prop) (tg : Tg) (vs : List Nat) (wt : TVT) (we : TV) (ds acc : List D) (ρ : En) (S : Sto) (Q : List D → En → Sto → Prop) (_ : Tok (Gd, tg, vs, wt, we, Q)) : Prop := lcGo Gd tg vs wt we ds acc ρ S Q
def itG (d : D) (S : Sto) (P : List D → (Sto → Prop) → Prop) (_ : Tok P) : Prop := itD d S P
def truG (d : D) (P : Bool → Prop) (_ : Tok P) : Prop := truD d P
def fldG (f : String) (d : D) (P : D → Prop) (_ : Tok P) : Prop := fldD f d P
def itemsG (d : D) (P : List D → Prop) (_ : Tok P) : Prop := items d P
def slG (x : D) (lo hi : Option Int) (P : D → Prop) (_ : Tok P) : Prop := sliceD x lo hi P
def methG (ms : Ms) (m : String) (d : D) (P : String → Prop) (_ : Tok (ms, P)) : Prop := methD ms m d P
def own1G (ms : Ms) (o : D) (P : String → Prop) (_ : Tok (ms, P)) : Prop := own1D ms o P
def ownG (ms : Ms) (o y : D) (P : String → Prop) (_ : Tok (ms, P)) : Prop := ownD ms o y P
def eqG (neg : Bool) (x y : D) (P : Bool → Prop) (_ : Tok P) : Prop := eqD neg x y P
def inG (neg : Bool) (x y : D) (P : Bool → Prop) (_ : Tok P) : Prop := inD neg x y P
def isG (neg : Bool) (x y : D) (P : Bool → Prop) (_ : Tok P) : Prop := isD neg x y P
/-- an operation that waits for its data -/
def bi (f : D → D → Sto → (D → Prop) → Prop) (x y : D) (S : Sto) (P : D → Prop) (_ : Tok (f, P)) : Prop := f x y S P
def un (f : D → Sto → (D → Prop) → Prop) (x : D) (S : Sto) (P : D → Prop) (_ : Tok (f, P)) : Prop := f x S P
def cb (f : List D → Sto → (D → Prop) → Prop) (x : List D) (S : Sto) (P : D → Prop) (_ : Tok (f, P)) : Prop := f x S P
def c1 (f : D → (D → Prop) → Prop) (x : D) (P : D → Prop) (_ : Tok (f, P)) : Prop := f x P
def c2 (f : D → D → (D → Prop) → Prop) (x y : D) (P : D → Prop) (_ : Tok (f, P)) : Prop := f x y P
def bm (f : D → List D → Sto → (D → Prop) → Prop) (o : D) (x : List D) (S : Sto) (P : D → Prop) (_ : Tok (f, P)) : Prop := f o x S P
def mt (f : MutF) (x y : List D) (P : D → List D → Prop) (_ : Tok (f, P)) : Prop := f x y P
/-- the list that a slot has -/
def lsOf (s : Option Sl) (S : Sto) : Option (List D) := match s with
  | some (.o (.lst ds)) => some ds
  | some (.v (.ref n)) => (match S[n]? with | some (.lst ds) => some ds | _ => none)
  | _ => none
@[simp] theorem lsOf_o {ds : List D} {S : Sto} : lsOf (some (.o (.lst ds))) S = some ds := rfl
@[simp] theorem lsOf_r {n : Nat} {S : Sto} : lsOf (some (.v (.ref n))) S = (match S[n]? with | some (.lst ds) => some ds | _ => none) := rfl
/-- a list put into a slot -/
def putS (s : Option Sl) (ρ : En) (S : Sto) (i : Nat) (ds : List D) (P : En → Sto → Prop) (_ : Tok (ρ, S, P)) : Prop := match s with
  | some (.o _) => letE (ρ.set i (.o (.lst ds))) (fun ρ' => P ρ' S) ()
  | some (.v (.ref n)) => letE (S.set n (.lst ds)) (fun S' => P ρ S') ()
  | _ => False
@[simp] theorem putS_o {d : D} {ρ : En} {S : Sto} {i : Nat} {ds : List D} {P : En → Sto → Prop} {t : Tok (ρ, S, P)} : putS (some (.o d)) ρ S i ds P t = letE (ρ.set i (.o (.lst ds))) (fun ρ' => P ρ' S) () := rfl
@[simp] theorem putS_r {n : Nat} {ρ : En} {S : Sto} {i : Nat} {ds : List D} {P : En → Sto → Prop} {t : Tok (ρ, S, P)} : putS (some (.v (.ref n))) ρ S i ds P t = letE (S.set n (.lst ds)) (fun S' => P ρ S') () := rfl
/-- the instance that a slot has alone -/
def insOf (s : Option Sl) (P : String → List (String × D) → Prop) (_ : Tok P) : Prop := match s with
  | some (.o (.obj cl fs)) => P cl fs
  | _ => False
@[simp] theorem insOf_o {cl : String} {fs : List (String × D)} {P : String → List (String × D) → Prop} {t : Tok P} : insOf (some (.o (.obj cl fs))) P t = P cl fs := rfl

section
variable {ρ : En} {S : Sto} {Q : QD} {E : QE} {QT : Bool → En → Sto → Prop} {QA : List D → En → Sto → Prop} {QS : Out → En → Sto → Prop} {QO : Hd → En → Sto → Prop} {QOA : List Hd → En → Sto → Prop} {QI : List D → (Sto → Prop) → En → Sto → Prop} {QP : Option Int → En → Sto → Prop}
@[simp ↓] theorem e_wVar (i : Nat) : wVar i ρ S Q E = slot ρ[i]? (fun d => Q d ρ S) (fun d => letE (ρ.set i (.v d)) (fun ρ' => Q d ρ' S) ()) () := rfl
@[simp ↓] theorem e_wC (d : D) : wC d ρ S Q E = Q d ρ S := rfl
@[simp ↓] theorem e_rsv_d (x : D) (P : D → Prop) : rsv ρ (.d x) P = P x := rfl
@[simp ↓] theorem e_rsv_s (i : Nat) (P : D → Prop) : rsv ρ (.s i) P = slot ρ[i]? P P () := rfl
@[simp ↓] theorem e_oE (w : TV) : oE w ρ S QO E = w ρ S (fun d ρ1 S1 => QO (.d d) ρ1 S1) E := rfl
@[simp ↓] theorem e_oS (i : Nat) : oS i ρ S QO E = slot ρ[i]? (fun _ => QO (.s i) ρ S) (fun _ => QO (.s i) ρ S) () := rfl
@[simp ↓] theorem e_wBin (f : D → D → Sto → (D → Prop) → Prop) (wa wb : TVO) : wBin f wa wb ρ S Q E = wa ρ S (fun hx ρ1 S1 => wb ρ1 S1 (fun hy ρ2 S2 => rsv ρ2 hx fun x => rsv ρ2 hy fun y => bi f x y S2 (fun d => Q d ρ2 S2) ()) E) E := rfl
@[simp ↓] theorem e_wUn (f : D → Sto → (D → Prop) → Prop) (wa : TVO) : wUn f wa ρ S Q E = wa ρ S (fun hx ρ1 S1 => rsv ρ1 hx fun x => un f x S1 (fun d => Q d ρ1 S1) ()) E := rfl
@[simp ↓] theorem e_wTru (w : TVO) : wTru w ρ S QT E = w ρ S (fun h ρ1 S1 => rsv ρ1 h fun d => truG (dr S1 d) (fun b => QT b ρ1 S1) ()) E := rfl
@[simp ↓] theorem e_wTB (w : TV) : wTB w ρ S QT E = w ρ S (fun d ρ1 S1 => asB d (fun b => QT b ρ1 S1) ()) E := by
  simp only [wTB, asB_ex]
@[simp ↓] theorem e_wNx : wNx ρ S QS E = QS .nx ρ S := rfl
@[simp ↓] theorem e_wBk : wBk ρ S QS E = QS .bk ρ S := rfl
@[simp ↓] theorem e_wCt : wCt ρ S QS E = QS .ct ρ S := rfl
@[simp ↓] theorem e_wNever : wNever ρ S QS E = False := rfl
@[simp ↓] theorem e_wSeq (w1 w2 : TVS) : wSeq w1 w2 ρ S QS E = w1 ρ S (fun o ρ1 S1 => match o with | .nx => w2 ρ1 S1 QS E | .bk => QS .bk ρ1 S1 | .ct => QS .ct ρ1 S1 | .rt d => QS (.rt d) ρ1 S1) E := rfl
@[simp ↓] theorem e_wDrop (w : TV) : wDrop w ρ S QS E = w ρ S (fun _ ρ1 S1 => QS .nx ρ1 S1) E := rfl
@[simp ↓] theorem e_wRet (w : TV) : wRet w ρ S QS E = w ρ S (fun d ρ1 S1 => letE d (fun d => QS (.rt d) ρ1 S1) ()) E := rfl
@[simp ↓] theorem e_wRetN : wRetN ρ S QS E = QS (.rt .non) ρ S := rfl
@[simp ↓] theorem e_wIfS (c : TVT) (a b : TVS) : wIfS c a b ρ S QS E = c ρ S (fun t ρ1 S1 => iteL t (a ρ1 S1 QS E) (b ρ1 S1 QS E) ()) E := rfl
@[simp ↓] theorem e_wAsgN (w : TV) (i : Nat) : wAsg w (.nm i) ρ S QS E = w ρ S (fun d ρ1 S1 => letE ρ1.length (fun n => andL (i < n) (letE (ρ1.set i (.v d)) (fun ρ2 => QS .nx ρ2 S1) ()) ()) ()) E := by
  simp only [wAsg, bindT, letE, andL]
  congr 1
  funext d ρ1 S1
  by_cases h : i < ρ1.length <;> simp [h]
@[simp ↓] theorem e_wAsgT (w : TV) (ts : List Tg) : wAsg w (.tp ts) ρ S QS E = w ρ S (fun d ρ1 S1 => letE d (fun d => opt (bindT (.tp ts) d ρ1) (fun ρ2 => QS .nx ρ2 S1) ()) ()) E := by
  simp only [wAsg, opt_ex, letE]
@[simp ↓] theorem e_wSetO (i : Nat) (w : TV) : wSetO i w ρ S QS E = w ρ S (fun d ρ1 S1 => letE ρ1.length (fun n => andL (i < n) (letE (ρ1.set i (.o d)) (fun ρ2 => QS .nx ρ2 S1) ()) ()) ()) E := rfl
@[simp ↓] theorem e_wAnd (a b : TVT) : wAnd a b ρ S QT E = a ρ S (fun t ρ1 S1 => iteL t (b ρ1 S1 QT E) (QT false ρ1 S1) ()) E := rfl
@[simp ↓] theorem e_wOr (a b : TVT) : wOr a b ρ S QT E = a ρ S (fun t ρ1 S1 => iteL t (QT true ρ1 S1) (b ρ1 S1 QT E) ()) E := rfl
@[simp ↓] theorem e_wNot (a : TVT) : wNot a ρ S QT E = a ρ S (fun t ρ1 S1 => letE (!t) (fun t => QT t ρ1 S1) ()) E := rfl
@[simp ↓] theorem e_wIfE (c : TVT) (a b : TV) : wIfE c a b ρ S Q E = c ρ S (fun t ρ1 S1 => iteL t (a ρ1 S1 Q E) (b ρ1 S1 Q E) ()) E := rfl
@[simp ↓] theorem e_wAndE (a b : TV) : wAndE a b ρ S Q E = a ρ S (fun d ρ1 S1 => asB d (fun t => iteL t (b ρ1 S1 Q E) (Q (.bl false) ρ1 S1) ()) ()) E := by
  simp only [wAndE, asB_ex, iteL]
@[simp ↓] theorem e_wOrE (a b : TV) : wOrE a b ρ S Q E = a ρ S (fun d ρ1 S1 => asB d (fun t => iteL t (Q (.bl true) ρ1 S1) (b ρ1 S1 Q E) ()) ()) E := by
  simp only [wOrE, asB_ex, iteL]
@[simp ↓] theorem e_wNotB (w : TV) : wNotB w ρ S Q E = w ρ S (fun d ρ1 S1 => asB d (fun t => letE (!t) (fun t => Q (.bl t) ρ1 S1) ()) ()) E := by
  simp only [wNotB, asB_ex, letE]
@[simp ↓] theorem e_wNotE (a : TVT) : wNotE a ρ S Q E = a ρ S (fun t ρ1 S1 => letE (!t) (fun t => Q (.bl t) ρ1 S1) ()) E := rfl
@[simp ↓] theorem e_wFor (wi : TVI) (tg : Tg) (wb : TVS) : wFor wi tg wb ρ S QS E = wi ρ S (fun ds Gd ρ1 S1 => forG Gd tg wb ds ρ1 S1 QS E ()) E := rfl
@[simp ↓] theorem e_wIt (w : TV) : wIt w ρ S QI E = w ρ S (fun d ρ1 S1 => itG d S1 (fun ds Gd => QI ds Gd ρ1 S1) ()) E := rfl
/-- how far a range goes -/
def rgN (d : D) (P : Nat → Prop) (_ : Tok P) : Prop := match d with | .int j => (-(2 ^ 62) ≤ j ∧ j < 2 ^ 62) ∧ P j.toNat | _ => False
@[simp] theorem rgN_int {j : Int} {P : Nat → Prop} {t : Tok P} : rgN (.int j) P t = andL (-4611686018427387904 ≤ j ∧ j < 4611686018427387904) (letE j.toNat P ()) () := rfl
@[simp ↓] theorem e_wRng1 (w : TV) : wRng1 (wACons w wANil) ρ S QI E = w ρ S (fun d ρ1 S1 => rgN d (fun j => QI ((List.range j).map fun k => .int (k : Nat)) GdT ρ1 S1) ()) E := by
  simp only [wRng1, wACons, wANil]
  congr 1
  funext d ρ1 S1
  cases d <;> simp [rgN]
@[simp ↓] theorem e_wRng2 (wa : TVA) : wRng2 wa ρ S QI E = wa ρ S (fun args ρ1 S1 => ∃ i j : Int, args = [.int i, .int j] ∧ (-(2 ^ 62) ≤ i ∧ i < 2 ^ 62 ∧ -(2 ^ 62) ≤ j ∧ j < 2 ^ 62) ∧ QI ((List.range (j - i).toNat).map fun k => .int (i + (k : Nat))) GdT ρ1 S1) E := rfl
@[simp ↓] theorem e_wANil : wANil ρ S QA E = QA [] ρ S := rfl
@[simp ↓] theorem e_wACons (w : TV) (wr : TVA) : wACons w wr ρ S QA E = w ρ S (fun d ρ1 S1 => wr ρ1 S1 (fun ds ρ2 S2 => QA (d :: ds) ρ2 S2) E) E := rfl
@[simp ↓] theorem e_wAStar (w : TVO) (wr : TVA) : wAStar w wr ρ S QA E = w ρ S (fun h ρ1 S1 => rsv ρ1 h fun d => itemsG (dr S1 d) (fun xs => wr ρ1 S1 (fun ds ρ2 S2 => QA (xs ++ ds) ρ2 S2) E) ()) E := rfl
@[simp ↓] theorem e_wONil : wONil ρ S QOA E = QOA [] ρ S := rfl
@[simp ↓] theorem e_wOCons (w : TVO) (wr : TVOA) : wOCons w wr ρ S QOA E = w ρ S (fun h ρ1 S1 => wr ρ1 S1 (fun hs ρ2 S2 => QOA (h :: hs) ρ2 S2) E) E := rfl
@[simp ↓] theorem e_rsvs_nil (P : List D → Prop) : rsvs ρ [] P = P [] := rfl
@[simp ↓] theorem e_rsvs_cons (h : Hd) (hs : List Hd) (P : List D → Prop) : rsvs ρ (h :: hs) P = rsv ρ h fun d => rsvs ρ hs fun ds => P (d :: ds) := rfl
@[simp ↓] theorem e_wCB (vf : List D → Sto → (D → Prop) → Prop) (w : TVOA) : wCB vf w ρ S Q E = w ρ S (fun hs ρ1 S1 => rsvs ρ1 hs fun ds => cb vf ds S1 (fun d => Q d ρ1 S1) ()) E := rfl
@[simp ↓] theorem e_wTup (w : TVA) : wTup w ρ S Q E = w ρ S (fun ds ρ1 S1 => letE ds (fun ds => andL (ds.length ≤ sizeLine) (Q (.tup ds) ρ1 S1) ()) ()) E := rfl
@[simp ↓] theorem e_wLst (w : TVA) : wLst w ρ S Q E = w ρ S (fun ds ρ1 S1 => letE ds (fun ds => andL (ds.length ≤ sizeLine) (Q (.lst ds) ρ1 S1) ()) ()) E := rfl
@[simp ↓] theorem e_wDic0 : wDic0 ρ S Q E = Q (.dic []) ρ S := rfl
@[simp ↓] theorem e_wNoP : wNoP ρ S QP E = QP none ρ S := rfl
@[simp ↓] theorem e_wPart (w : TV) : wPart w ρ S QP E = w ρ S (fun d ρ1 S1 => asI d (fun i => QP (some i) ρ1 S1) ()) E := by
  simp only [wPart, asI_ex]
@[simp ↓] theorem e_wSl (w : TVO) (wl wh : TVP) : wSl w wl wh ρ S Q E = w ρ S (fun h ρ1 S1 => wl ρ1 S1 (fun lo ρ2 S2 => wh ρ2 S2 (fun hi ρ3 S3 => rsv ρ3 h fun d => slG (dr S3 d) lo hi (fun z => Q z ρ3 S3) ()) E) E) E := rfl
@[simp ↓] theorem e_wFld (f : String) (w : TVO) : wFld f w ρ S Q E = w ρ S (fun h ρ1 S1 => rsv ρ1 h fun d => fldG f (dr S1 d) (fun x => Q x ρ1 S1) ()) E := rfl
@[simp ↓] theorem e_wCall (w : FW) (wa : TVA) : wCall w wa ρ S Q E = wa ρ S (fun ds ρ1 S1 => Wd w ds S1 (fun d S2 => Q d ρ1 S2) (fun x S2 => E x ρ1 S2) ()) E := rfl
@[simp ↓] theorem e_wMake (w : FWI) (cl : String) (wa : TVA) : wMake w cl wa ρ S Q E = wa ρ S (fun ds ρ1 S1 => WdI w cl [] ds S1 (fun fs S2 => Q (.obj cl fs) ρ1 S2) (fun x S2 => E x ρ1 S2) ()) E := rfl
@[simp ↓] theorem e_wMakeR (w : FWI) (cl : String) (wa : TVA) : wMakeR w cl wa ρ S Q E = wa ρ S (fun ds ρ1 S1 => WdI w cl [] ds S1 (fun fs S2 => letE (S2 ++ [.obj cl fs]) (fun S3 => letE S2.length (fun n => Q (.ref n) ρ1 S3) ()) ()) (fun x S2 => E x ρ1 S2) ()) E := rfl
@[simp ↓] theorem e_wShare (w : TV) : wShare w ρ S Q E = w ρ S (fun d ρ1 S1 => letE (S1 ++ [d]) (fun S2 => letE S1.length (fun n => Q (.ref n) ρ1 S2) ()) ()) E := rfl
@[simp ↓] theorem e_wMut (i : Nat) (f : MutF) (wa : TVA) : wMut i f wa ρ S Q E = opt (lsOf ρ[i]? S) (fun _ => wa ρ S (fun args ρ1 S1 => opt (lsOf ρ1[i]? S1) (fun ds => mt f ds args (fun z ds' => putS ρ1[i]? ρ1 S1 i ds' (fun ρ2 S2 => Q z ρ2 S2) ()) ()) ()) E) () := by
  have e : ∀ ρ S, listAt ρ S i = lsOf ρ[i]? S := fun ρ S => rfl
  have e2 : ∀ ρ S ds (P : En → Sto → Prop), putL ρ S i ds P = putS ρ[i]? ρ S i ds P () := fun ρ S ds P => rfl
  simp only [wMut, opt_ex, e, e2, mt]
  cases lsOf ρ[i]? S <;> simp
@[simp ↓] theorem e_wBMT (T : String) (vf : D → List D → Sto → (D → Prop) → Prop) (wo : TVO) (wa : TVOA) : wBMT T vf wo wa ρ S Q E = wo ρ S (fun h ρ1 S1 => rsv ρ1 h fun d => andL (tyD T (dr S1 d) = true) (wa ρ1 S1 (fun hs ρ2 S2 => rsv ρ2 h fun x => rsvs ρ2 hs fun ds => bm vf (dr S2 x) ds S2 (fun d => Q d ρ2 S2) ()) E) ()) E := rfl
@[simp ↓] theorem e_wComp (wi : TVI) (tg : Tg) (vs : List Nat) (wt : TVT) (we : TV) : wComp wi tg vs wt we ρ S Q E = wi ρ S (fun ds Gd ρ1 S1 => andL (noOwn ρ1 vs = true) (letE (wipeE ρ1 vs) (fun ρ' => lcG Gd tg vs wt we ds [] ρ' S1 (fun l ρ2 S2 => letE (backE ρ1 ρ2 vs) (fun ρ3 => Q (.lst l) ρ3 S2) ()) ()) ()) ()) E := rfl
@[simp ↓] theorem e_wYes : wYes ρ S QT E = QT true ρ S := rfl
/-- a list of numbers -/
def asIs (d : D) (P : List Int → Prop) (_ : Tok P) : Prop := ∃ ns : List Int, d = .lst (ns.map D.int) ∧ P ns
theorem map_int_inj : ∀ {a b : List Int}, a.map D.int = b.map D.int → a = b
  | [], [], _ => rfl
  | [], _ :: _, h => by cases h
  | _ :: _, [], h => by cases h
  | x :: a, y :: b, h => by
    simp only [List.map_cons, List.cons.injEq, D.int.injEq] at h
    rw [h.1, map_int_inj h.2]
theorem map_bl_inj : ∀ {a b : List Bool}, a.map D.bl = b.map D.bl → a = b
  | [], [], _ => rfl
  | [], _ :: _, h => by cases h
  | _ :: _, [], h => by cases h
  | x :: a, y :: b, h => by
    simp only [List.map_cons, List.cons.injEq, D.bl.injEq] at h
    rw [h.1, map_bl_inj h.2]
theorem map_str_inj : ∀ {a b : List Str}, a.map D.str = b.map D.str → a = b
  | [], [], _ => rfl
  | [], _ :: _, h => by cases h
  | _ :: _, [], h => by cases h
  | x :: a, y :: b, h => by
    simp only [List.map_cons, List.cons.injEq, D.str.injEq] at h
    rw [h.1, map_str_inj h.2]
theorem asIs_map {α : Type} {xs : List α} {f : α → Int} {P : List Int → Prop} {t : Tok P} : asIs (.lst (xs.map fun x => D.int (f x))) P t = P (xs.map f) := by
  apply propext
  constructor
  · rintro ⟨ns, e, h⟩
    have e' : (xs.map f).map D.int = ns.map D.int := by rw [List.map_map]; exact D.lst.inj e
    rw [map_int_inj e']; exact h
  · intro h
    exact ⟨xs.map f, by rw [List.map_map]; rfl, h⟩
/-- a list of texts -/
def asTs (d : D) (P : List Str → Prop) (_ : Tok P) : Prop := ∃ ns : List Str, d = .lst (ns.map D.str) ∧ P ns
theorem asTs_map {α : Type} {xs : List α} {f : α → Str} {P : List Str → Prop} {t : Tok P} : asTs (.lst (xs.map fun x => D.str (f x))) P t = P (xs.map f) := by
  apply propext
  constructor
  · rintro ⟨ns, e, h⟩
    have e' : (xs.map f).map D.str = ns.map D.str := by rw [List.map_map]; exact D.lst.inj e
    rw [map_str_inj e']; exact h
  · intro h
    exact ⟨xs.map f, by rw [List.map_map]; rfl, h⟩
/-- a list of truths -/
def asBs (d : D) (P : List Bool → Prop) (_ : Tok P) : Prop := ∃ ns : List Bool, d = .lst (ns.map D.bl) ∧ P ns
theorem asBs_map {α : Type} {xs : List α} {f : α → Bool} {P : List Bool → Prop} {t : Tok P} : asBs (.lst (xs.map fun x => D.bl (f x))) P t = P (xs.map f) := by
  apply propext
  constructor
  · rintro ⟨ns, e, h⟩
    have e' : (xs.map f).map D.bl = ns.map D.bl := by rw [List.map_map]; exact D.lst.inj e
    rw [map_bl_inj e']; exact h
  · intro h
    exact ⟨xs.map f, by rw [List.map_map]; rfl, h⟩
@[simp ↓] theorem e_wMaxC (j : Int) (w : TV) : wMaxC j w ρ S Q E = w ρ S (fun d ρ1 S1 => asIs d (fun ns => Q (.int (maxD ns j)) ρ1 S1) ()) E := rfl
@[simp ↓] theorem e_wMeth (T : String → FW) (ms : Ms) (m : String) (w : TV) (wa : TVA) : wMeth T ms m w wa ρ S Q E = w ρ S (fun o ρ1 S1 => methG ms m (dr S1 o) (fun f => wa ρ1 S1 (fun ds ρ2 S2 => Wd (T f) (o :: ds) S2 (fun d S3 => Q d ρ2 S3) (fun x S3 => E x ρ2 S3) ()) E) ()) E := rfl
/-- it must be a text -/
def asT (d : D) (P : Prop) (_ : Tok P) : Prop := (∃ z, d = .str z) ∧ P
@[simp] theorem asT_str {z : Str} {P : Prop} {t : Tok P} : asT (.str z) P t = P := by simp [asT]
@[simp ↓] theorem e_wOwnStr (T : String → FW) (ms : Ms) (w : TV) : wOwnStr T ms w ρ S Q E = w ρ S (fun o ρ1 S1 => own1G ms (dr S1 o) (fun f => Wd (T f) [o] S1 (fun d S2 => asT d (Q d ρ1 S2) ()) (fun x S2 => E x ρ1 S2) ()) ()) E := rfl
@[simp ↓] theorem e_wProp (T : String → FW) (ms : Ms) (w : TV) : wProp T ms w ρ S Q E = w ρ S (fun o ρ1 S1 => own1G ms (dr S1 o) (fun f => Wd (T f) [o] S1 (fun d S2 => Q d ρ1 S2) (fun _ _ => False) ()) ()) E := rfl
@[simp ↓] theorem e_wOwnB (T : String → FW) (ms : Ms) (wa wb : TV) : wOwnB T ms wa wb ρ S Q E = wa ρ S (fun o ρ1 S1 => wb ρ1 S1 (fun y ρ2 S2 => ownG ms (dr S2 o) (dr S2 y) (fun f => Wd (T f) [o, y] S2 (fun d S3 => Q d ρ2 S3) (fun x S3 => E x ρ2 S3) ()) ()) E) E := rfl
@[simp ↓] theorem e_wOwnT (T : String → FW) (ms : Ms) (neg : Bool) (wa wb : TV) : wOwnT T ms neg wa wb ρ S Q E = wa ρ S (fun o ρ1 S1 => wb ρ1 S1 (fun y ρ2 S2 => ownG ms (dr S2 o) (dr S2 y) (fun f => Wd (T f) [o, y] S2 (fun d S3 => asB d (fun t => letE (t != neg) (fun t => Q (.bl t) ρ2 S3) ()) ()) (fun x S3 => E x ρ2 S3) ()) ()) E) E := by
  simp only [wOwnT, asB_ex, Wd, letE, ownG]
@[simp ↓] theorem e_wOwnIn (T : String → FW) (ms : Ms) (neg : Bool) (wa wb : TV) : wOwnIn T ms neg wa wb ρ S Q E = wa ρ S (fun y ρ1 S1 => wb ρ1 S1 (fun o ρ2 S2 => own1G ms (dr S2 o) (fun f => Wd (T f) [o, y] S2 (fun d S3 => asB d (fun t => letE (t != neg) (fun t => Q (.bl t) ρ2 S3) ()) ()) (fun x S3 => E x ρ2 S3) ()) ()) E) E := by
  simp only [wOwnIn, asB_ex, Wd, letE, own1G]
@[simp ↓] theorem e_wSetF (cs : List String) (i : Nat) (f : String) (wv : TV) : wSetF cs i f wv ρ S QS E = wv ρ S (fun d ρ1 S1 => insOf ρ1[i]? (fun cl fs => andL (cs.contains cl = true ∧ fs.length < 1000) (letE (ρ1.set i (.o (.obj cl (putFd f d fs)))) (fun ρ2 => QS .nx ρ2 S1) ()) ()) ()) E := by
  simp only [wSetF]
  congr 1
  funext d ρ1 S1
  unfold insOf
  simp only [andL, letE, and_assoc]
  all_goals (rcases ρ1[i]? with _ | s)
  all_goals first | rfl | (rcases s with _ | d | d)
  all_goals first | rfl | (cases d <;> rfl)
/-- the fields of the own thing in a slot -/
def insFs (cl : String) (s : Option Sl) : Option (List (String × D)) := match s with
  | some (.o (.obj c fs)) => if c = cl then some fs else none
  | _ => none
@[simp] theorem insFs_o {cl : String} {fs : List (String × D)} : insFs cl (some (.o (.obj cl fs))) = some fs := by simp [insFs]
theorem insFs_iff {cl : String} {s : Option Sl} {fs : List (String × D)} : s = some (.o (.obj cl fs)) ↔ insFs cl s = some fs := by
  unfold insFs
  split
  · rename_i c fs'
    constructor
    · intro h; cases h; simp
    · intro h
      split at h
      · rename_i hc; subst hc; cases h; rfl
      · cases h
  · rename_i h
    constructor
    · intro e; exact absurd e (h _ _)
    · intro e; cases e
@[simp ↓] theorem e_wSuperT (TI : String → FWI) (tb : String → Option String) (wa : TVA) : wSuperT TI tb wa ρ S QS E = insOf ρ[0]? (fun cl fs => opt (tb cl) (fun f => wa ρ S (fun ds ρ1 S1 => opt (insFs cl ρ1[0]?) (fun fs1 => WdI (TI f) cl fs1 ds S1 (fun fs' S2 => letE (ρ1.set 0 (.o (.obj cl fs'))) (fun ρ2 => QS .nx ρ2 S2) ()) (fun _ _ => False) ()) ()) E) ()) () := by
  apply propext
  unfold wSuperT insOf
  have e0 : ∀ (cl : String) (s : Option Sl) (P : List (String × D) → Prop), (∃ fs1, s = some (Sl.o (.obj cl fs1)) ∧ P fs1) = opt (insFs cl s) P () := fun cl s P => by
    simp only [insFs_iff, opt_ex]
  simp only [e0]
  constructor
  · rintro ⟨cl, fs, f, e, h1, h2⟩
    simp only [e, h1, opt_some]
    exact h2
  · intro h
    split at h
    · rename_i cl fs e
      rw [← opt_ex] at h
      obtain ⟨f, h1, h2⟩ := h
      exact ⟨cl, fs, f, e, h1, h2⟩
    · exact h.elim
/-- the end of an __init__ -/
def initK (cl : String) (Q : List (String × D) → Sto → Prop) : Out → En → Sto → Prop := fun o ρ S' => (∃ fs', ρ[0]? = some (.o (.obj cl fs')) ∧ Q fs' S') ∧ match o with
  | .nx => True
  | .rt .non => True
  | _ => False
@[simp] theorem initK_nx {cl : String} {Q : List (String × D) → Sto → Prop} {fs : List (String × D)} {r : En} : initK cl Q .nx (.o (.obj cl fs) :: r) S = Q fs S := by simp [initK]
@[simp] theorem initK_rt {cl : String} {Q : List (String × D) → Sto → Prop} {fs : List (String × D)} {r : En} : initK cl Q (.rt .non) (.o (.obj cl fs) :: r) S = Q fs S := by simp [initK]
@[simp ↓] theorem e_runI {n np : Nat} {wb : TVS} {cl : String} {fs : List (String × D)} {ds : List D} {Q : List (String × D) → Sto → Prop} {E : Ex → Sto → Prop} : runI n np wb cl fs ds S Q E = andL (ds.length + 1 = np) (letE (.o (.obj cl fs) :: startE (n - 1) ds) (fun ρ => wb ρ S (initK cl Q) (fun x ρ S' => (∃ d, ρ[0]? = some (.o d)) ∧ E x S')) ()) () := rfl
@[simp ↓] theorem e_runIS {n np : Nat} {wb : TVS} {cl : String} {fs : List (String × D)} {ds : List D} {Q : List (String × D) → Sto → Prop} {E : Ex → Sto → Prop} : runIS n np wb cl fs ds S Q E = andL (np ≤ ds.length + 1 ∧ ds.length + 1 - np ≤ sizeLine ∧ 0 < np) (letE (ds.take (np - 1) ++ [.tup (ds.drop (np - 1))]) (fun ds => runI n (np + 1) wb cl fs ds S Q E) ()) () := by
  simp only [runIS, andL, letE, and_assoc]
@[simp] theorem e_bindT_nm (i : Nat) (d : D) : bindT (.nm i) d ρ = if i < ρ.length then some (ρ.set i (.v d)) else none := by simp only [bindT]
@[simp] theorem e_bindT_tp (ts : List Tg) (ds : List D) : bindT (.tp ts) (.tup ds) ρ = bindTs ts ds ρ := by simp only [bindT]
@[simp] theorem e_bindTs_nil : bindTs [] [] ρ = some ρ := by simp only [bindTs]
@[simp] theorem e_bindTs_cons (t : Tg) (ts : List Tg) (d : D) (ds : List D) : bindTs (t :: ts) (d :: ds) ρ = (bindT t d ρ).bind (bindTs ts ds) := by
  simp only [bindTs]
  cases bindT t d ρ <;> rfl
/-- a def's end -/
def retK (Q : D → Sto → Prop) : Out → En → Sto → Prop := fun o _ S' => match o with
  | .nx => Q .non S'
  | .rt d => Q d S'
  | _ => False
@[simp ↓] theorem retK_nx {Q : D → Sto → Prop} : retK Q .nx ρ S = Q .non S := rfl
@[simp ↓] theorem retK_rt {Q : D → Sto → Prop} {d : D} : retK Q (.rt d) ρ S = Q d S := rfl
@[simp ↓] theorem e_runV {n np : Nat} {wb : TVS} {ds : List D} {Q : D → Sto → Prop} {E : Ex → Sto → Prop} : runV n np wb ds S Q E = letE ds.length (fun l => andL (l = np) (letE (startE n ds) (fun ρ => wb ρ S (retK Q) (fun x _ S' => E x S')) ()) ()) () := rfl
@[simp] theorem e_startE (n : Nat) (ds : List D) : startE n ds = ds.map Sl.v ++ List.replicate (n - ds.length) Sl.un := rfl
@[simp] theorem e_noOwn_nil : noOwn ρ [] = true := rfl
@[simp] theorem e_noOwn_cons (v : Nat) (vs : List Nat) : noOwn ρ (v :: vs) = (!ownB ρ[v]? && noOwn ρ vs) := rfl
@[simp] theorem e_ownB_v {d : D} : ownB (some (.v d)) = false := rfl
@[simp] theorem e_ownB_o {d : D} : ownB (some (.o d)) = true := rfl
@[simp] theorem e_ownB_un : ownB (some .un) = false := rfl
@[simp] theorem e_ownB_none : ownB none = false := rfl
@[simp] theorem e_wipe_nil : wipeE ρ [] = ρ := rfl
@[simp] theorem e_wipe_cons (v : Nat) (vs : List Nat) : wipeE ρ (v :: vs) = (wipeE ρ vs).set v .un := rfl
@[simp] theorem e_back_nil {ρ' : En} : backE ρ ρ' [] = ρ' := rfl
@[simp] theorem e_back_cons {ρ' : En} (v : Nat) (vs : List Nat) : backE ρ ρ' (v :: vs) = (backE ρ ρ' vs).set v (ρ.getD v .un) := rfl
@[simp ↓] theorem e_on1 (f : D → (D → Prop) → Prop) (d : D) (P : D → Prop) {t : Tok (on1 f, P)} : cb (on1 f) [d] S P t = c1 f (dr S d) P () := rfl
@[simp ↓] theorem e_on2 (f : D → D → (D → Prop) → Prop) (d e : D) (P : D → Prop) {t : Tok (on2 f, P)} : cb (on2 f) [d, e] S P t = c2 f (dr S d) (dr S e) P () := rfl
/-- the data that are no references -/
@[simp] theorem dr_non : dr S .non = .non := rfl
@[simp] theorem dr_bl (b : Bool) : dr S (.bl b) = .bl b := rfl
@[simp] theorem dr_int (b : Int) : dr S (.int b) = .int b := rfl
@[simp] theorem dr_str (b : Str) : dr S (.str b) = .str b := rfl
@[simp] theorem dr_tup (b : List D) : dr S (.tup b) = .tup b := rfl
@[simp] theorem dr_lst (b : List D) : dr S (.lst b) = .lst b := rfl
@[simp] theorem dr_dic (b : List (Key × D)) : dr S (.dic b) = .dic b := rfl
@[simp] theorem dr_obj (c : String) (b : List (String × D)) : dr S (.obj c b) = .obj c b := rfl
@[simp] theorem dr_scr (b : List Int) : dr S (.scr b) = .scr b := rfl
@[simp] theorem dr_ref (n : Nat) : dr S (.ref n) = S.getD n (.ref n) := rfl
@[simp] theorem e_mAppend (ds : List D) (d : D) (P : D → List D → Prop) {t : Tok (mAppend, P)} : mt mAppend ds [d] P t = andL (ds.length < sizeLine) (letE (ds ++ [d]) (fun l => P .non l) ()) () := by simp [mt, mAppend, andL]
@[simp] theorem e_mPop (ds : List D) (P : D → List D → Prop) {t : Tok (mPop, P)} : mt mPop ds [] P t = opt ds[ds.length - 1]? (fun d => letE ds.dropLast (fun l => P d l) ()) () := by simp [mt, mPop, opt_ex]
@[simp] theorem e_mReverse (ds : List D) (P : D → List D → Prop) {t : Tok (mReverse, P)} : mt mReverse ds [] P t = letE ds.reverse (fun l => P .non l) () := by simp [mt, mReverse]
@[simp ↓] theorem e_vEq (x y : D) (P : D → Prop) {t : Tok (vEq, P)} : bi vEq x y S P t = eqG false (dr S x) (dr S y) (fun b => P (.bl b)) () := rfl
@[simp ↓] theorem e_vNe (x y : D) (P : D → Prop) {t : Tok (vNe, P)} : bi vNe x y S P t = eqG true (dr S x) (dr S y) (fun b => P (.bl b)) () := rfl
@[simp ↓] theorem e_vIn (x y : D) (P : D → Prop) {t : Tok (vIn, P)} : bi vIn x y S P t = inG false x (dr S y) (fun b => P (.bl b)) () := rfl
@[simp ↓] theorem e_vNotIn (x y : D) (P : D → Prop) {t : Tok (vNotIn, P)} : bi vNotIn x y S P t = inG true x (dr S y) (fun b => P (.bl b)) () := rfl
@[simp ↓] theorem e_vIs (x y : D) (P : D → Prop) {t : Tok (vIs, P)} : bi vIs x y S P t = isG false x y (fun b => P (.bl b)) () := rfl
@[simp ↓] theorem e_vIsN (x y : D) (P : D → Prop) {t : Tok (vIsN, P)} : bi vIsN x y S P t = isG true x y (fun b => P (.bl b)) () := rfl
@[simp] theorem itD_lst {l : List D} {P : List D → (Sto → Prop) → Prop} {t : Tok P} : itG (.lst l) S P t = P l GdT := rfl
@[simp] theorem itD_tup {l : List D} {P : List D → (Sto → Prop) → Prop} {t : Tok P} : itG (.tup l) S P t = P l GdT := rfl
@[simp] theorem itD_scr {l : List Int} {P : List D → (Sto → Prop) → Prop} {t : Tok P} : itG (.scr l) S P t = P (l.map D.int) GdT := rfl
@[simp] theorem truD_bl {b : Bool} {P : Bool → Prop} {t : Tok P} : truG (.bl b) P t = P b := rfl
@[simp] theorem truD_int {b : Int} {P : Bool → Prop} {t : Tok P} : truG (.int b) P t = letE (b != 0) P () := rfl
@[simp] theorem truD_non {P : Bool → Prop} {t : Tok P} : truG .non P t = P false := rfl
@[simp] theorem truD_tup {b : List D} {P : Bool → Prop} {t : Tok P} : truG (.tup b) P t = letE (!b.isEmpty) P () := rfl
@[simp] theorem truD_lst {b : List D} {P : Bool → Prop} {t : Tok P} : truG (.lst b) P t = letE (!b.isEmpty) P () := rfl
@[simp] theorem items_tup {b : List D} {P : List D → Prop} {t : Tok P} : itemsG (.tup b) P t = P b := rfl
@[simp] theorem fldD_obj {f cl : String} {fs : List (String × D)} {P : D → Prop} {t : Tok P} : fldG f (.obj cl fs) P t = opt (fs.lookup f) P () := by simp only [fldG, fldD, opt_ex]
@[simp] theorem methD_obj {ms : Ms} {m cl : String} {fs : List (String × D)} {P : String → Prop} {t : Tok (ms, P)} : methG ms m (.obj cl fs) P t = opt (ms.lookup cl) (fun f => andL ((fs.all fun x => x.1 != m) = true) (P f) ()) () := by simp only [methG, methD, opt_ex, andL]
@[simp] theorem own1D_obj {ms : Ms} {cl : String} {fs : List (String × D)} {P : String → Prop} {t : Tok (ms, P)} : own1G ms (.obj cl fs) P t = opt (ms.lookup cl) P () := by simp only [own1G, own1D, opt_ex]
@[simp] theorem ownD_obj {ms : Ms} {cl cl2 : String} {fs fs2 : List (String × D)} {P : String → Prop} {t : Tok (ms, P)} : ownG ms (.obj cl fs) (.obj cl2 fs2) P t = andL (cl2 = cl) (opt (ms.lookup cl) P ()) () := by simp only [ownG, ownD, opt_ex, andL]
section
variable {neg : Bool} {PB : Bool → Prop} {P : D → Prop} {i j : Int} {x y : Str} {a b : List D}
@[simp] theorem e_eq_int {t : Tok PB} : eqG neg (.int i) (.int j) PB t = letE (decide (i = j) != neg) PB () := rfl
@[simp] theorem e_eq_str {t : Tok PB} : eqG neg (.str x) (.str y) PB t = letE (decide (x = y) != neg) PB () := rfl
@[simp] theorem e_eq_bl {x y : Bool} {t : Tok PB} : eqG neg (.bl x) (.bl y) PB t = letE (decide (x = y) != neg) PB () := rfl
@[simp] theorem e_eq_lst {t : Tok PB} : eqG neg (.lst a) (.lst b) PB t = andL (plain (.lst a) = true ∧ plain (.lst b) = true ∧ dep (.lst a) ≤ 64 ∧ dep (.lst b) ≤ 64) (letE (PyData.eqv (toP (.lst a)) (toP (.lst b)) != neg) PB ()) () := by simp only [andL, letE, and_assoc]; rfl
@[simp] theorem e_eq_tup {t : Tok PB} : eqG neg (.tup a) (.tup b) PB t = andL (plain (.tup a) = true ∧ plain (.tup b) = true ∧ dep (.tup a) ≤ 64 ∧ dep (.tup b) ≤ 64) (letE (PyData.eqv (toP (.tup a)) (toP (.tup b)) != neg) PB ()) () := by simp only [andL, letE, and_assoc]; rfl
@[simp] theorem e_in_str {t : Tok PB} : inG neg (.str x) (.str y) PB t = letE (strIn x y != neg) PB () := rfl
@[simp] theorem e_in_lst {d : D} {t : Tok PB} : inG neg d (.lst b) PB t = andL (plain d = true ∧ plains b = true ∧ dep d ≤ 63 ∧ deps b ≤ 63) (letE ((toPs b).any (fun z => PyData.eqv z (toP d)) != neg) PB ()) () := by simp only [andL, letE, and_assoc]; rfl
@[simp] theorem e_in_tup {d : D} {t : Tok PB} : inG neg d (.tup b) PB t = andL (isStr d = true ∧ b.all isStr = true) (letE ((toPs b).any (fun z => PyData.eqv z (toP d)) != neg) PB ()) () := by simp only [andL, letE, and_assoc]; rfl
@[simp] theorem e_is_bl {x y : Bool} {t : Tok PB} : isG neg (.bl x) (.bl y) PB t = letE (decide (x = y) != neg) PB () := rfl
@[simp] theorem e_is_nn {t : Tok PB} : isG neg .non .non PB t = PB (!neg) := rfl
@[simp] theorem e_is_tn {t : Tok PB} : isG neg (.tup a) .non PB t = PB neg := rfl
@[simp] theorem e_is_on {c : String} {fs : List (String × D)} {t : Tok PB} : isG neg (.obj c fs) .non PB t = PB neg := rfl
@[simp] theorem e_is_ln {t : Tok PB} : isG neg (.lst a) .non PB t = PB neg := rfl
@[simp] theorem e_is_sn {t : Tok PB} : isG neg (.str x) .non PB t = PB neg := rfl
@[simp] theorem e_add_int {t : Tok (vAdd, P)} : bi vAdd (.int i) (.int j) S P t = letE (i + j) (fun n => P (.int n)) () := rfl
@[simp] theorem e_add_str {t : Tok (vAdd, P)} : bi vAdd (.str x) (.str y) S P t = andL (x.length + y.length ≤ sizeLine) (P (.str (x ++ y))) () := rfl
@[simp] theorem e_add_tup {t : Tok (vAdd, P)} : bi vAdd (.tup a) (.tup b) S P t = andL (a.length + b.length ≤ sizeLine) (letE (a ++ b) (fun n => P (.tup n)) ()) () := rfl
@[simp] theorem e_add_lst {t : Tok (vAdd, P)} : bi vAdd (.lst a) (.lst b) S P t = andL (a.length + b.length ≤ sizeLine) (letE (a ++ b) (fun n => P (.lst n)) ()) () := rfl
@[simp] theorem e_sub_int {t : Tok (vSub, P)} : bi vSub (.int i) (.int j) S P t = letE (i - j) (fun n => P (.int n)) () := rfl
@[simp] theorem e_mul_int {t : Tok (vMul, P)} : bi vMul (.int i) (.int j) S P t = andL (CMul i j) (letE (i * j) (fun n => P (.int n)) ()) () := rfl
@[simp] theorem e_fdiv_int {t : Tok (vFDiv, P)} : bi vFDiv (.int i) (.int j) S P t = andL (CDiv i j) (letE (i / j) (fun n => P (.int n)) ()) () := rfl
@[simp] theorem e_mod_int {t : Tok (vMod, P)} : bi vMod (.int i) (.int j) S P t = andL (0 < j) (letE (i % j) (fun n => P (.int n)) ()) () := rfl
@[simp] theorem e_pow_int {t : Tok (vPow, P)} : bi vPow (.int i) (.int j) S P t = andL (CPow i j) (letE (i ^ j.toNat) (fun n => P (.int n)) ()) () := rfl
@[simp] theorem e_neg_int {t : Tok (vNeg, P)} : un vNeg (.int i) S P t = letE (-i) (fun n => P (.int n)) () := rfl
@[simp ↓] theorem e_isi {tb : (Bool × String) → Option Bool} {d : D} {t : Tok (vIsi tb, P)} : un (vIsi tb) d S P t = opt (tagD (dr S d)) (fun t => opt (tb t) (fun b => P (.bl b)) ()) () := by
  apply propext
  simp only [un, vIsi]
  constructor
  · rintro ⟨t, b, h1, h2, h3⟩
    rw [h1, opt_some, h2]; exact h3
  · intro h
    rw [← opt_ex] at h
    obtain ⟨t, h1, h⟩ := h
    rw [← opt_ex] at h
    obtain ⟨b, h2, h⟩ := h
    exact ⟨t, b, h1, h2, h⟩
@[simp] theorem e_lt_int {f : Int → Int → Bool} {t : Tok (vCmpI f, P)} : bi (vCmpI f) (.int i) (.int j) S P t = letE (f i j) (fun b => P (.bl b)) () := rfl
@[simp] theorem e_ltD_int {t : Tok (vLtD, P)} : bi vLtD (.int i) (.int j) S P t = letE (decide (i < j)) (fun b => P (.bl b)) () := by
  show (plain (.int i) = true ∧ plain (.int j) = true ∧ dep (.int i) ≤ 64 ∧ PySem.W.alike (.int i) (.int j) = true ∧ PyData.int i ≠ .none ∧ P (.bl (PySem.W.dataLt (.int i) (.int j)))) = _
  rw [PySem.W.dataLt_int]
  simp [plain, dep, PySem.W.alike]
@[simp] theorem e_ltD_str {t : Tok (vLtD, P)} : bi vLtD (.str x) (.str y) S P t = andL (PyData.strOk x = true ∧ PyData.strOk y = true) (letE (decide (x.cps.toList < y.cps.toList)) (fun b => P (.bl b)) ()) () := by
  show (plain (.str x) = true ∧ plain (.str y) = true ∧ dep (.str x) ≤ 64 ∧ PySem.W.alike (.str x) (.str y) = true ∧ PyData.str x ≠ .none ∧ P (.bl (PySem.W.dataLt (.str x) (.str y)))) = _
  rw [PySem.W.dataLt_str]
  simp [plain, dep, PySem.W.alike, andL, and_assoc]
@[simp] theorem e_int_int {t : Tok (intD, P)} : c1 intD (.int i) P t = P (.int i) := rfl
@[simp] theorem e_abs_int {t : Tok (absD, P)} : c1 absD (.int i) P t = P (.int i.natAbs) := by
  show P (.int (if i < 0 then -i else i)) = _
  congr 2
  split <;> omega
@[simp] theorem e_len_str {t : Tok (lenD, P)} : c1 lenD (.str x) P t = andL (x.length ≤ sizeLine) (P (.int x.length)) () := rfl
@[simp] theorem e_len_tup {t : Tok (lenD, P)} : c1 lenD (.tup a) P t = letE a.length (fun n => P (.int n)) () := rfl
@[simp] theorem e_len_lst {t : Tok (lenD, P)} : c1 lenD (.lst a) P t = letE a.length (fun n => P (.int n)) () := rfl
@[simp] theorem e_len_scr {ns : List Int} {t : Tok (lenD, P)} : c1 lenD (.scr ns) P t = P (.int ns.length) := rfl
@[simp] theorem e_sum_lst {t : Tok (sumD, P)} : c1 sumD (.lst a) P t = asIs (.lst a) (fun ns => P (.int ns.sum)) () := by
  simp only [c1, sumD, asIs, D.lst.injEq]
@[simp] theorem e_all_lst {t : Tok (allD, P)} : c1 allD (.lst a) P t = asBs (.lst a) (fun ns => letE (ns.all id) (fun b => P (.bl b)) ()) () := by
  simp only [c1, allD, asBs, D.lst.injEq, letE]
@[simp] theorem e_any_lst {t : Tok (anyD, P)} : c1 anyD (.lst a) P t = asBs (.lst a) (fun ns => letE (ns.any id) (fun b => P (.bl b)) ()) () := by
  simp only [c1, anyD, asBs, D.lst.injEq, letE]
@[simp] theorem e_join {t : Tok (joinD, P)} : bm joinD (.str x) [.lst a] S P t = asTs (.lst a) (fun ys => andL ((ys.map (·.length)).sum + ys.length * x.length ≤ 16777216) (P (.str (Txt.join x ys))) ()) () := by
  show (∃ ys : List Str, a = ys.map D.str ∧ _) = _
  simp only [asTs, D.lst.injEq, andL]
@[simp] theorem e_list_tup {t : Tok (listD, P)} : c1 listD (.tup a) P t = P (.lst a) := rfl
@[simp] theorem e_list_lst {t : Tok (listD, P)} : c1 listD (.lst a) P t = P (.lst a) := rfl
@[simp] theorem e_min2 {t : Tok (min2D, P)} : c2 min2D (.int i) (.int j) P t = letE (if j < i then j else i) (fun n => P (.int n)) () := rfl
@[simp] theorem e_max2 {t : Tok (max2D, P)} : c2 max2D (.int i) (.int j) P t = letE (if j > i then j else i) (fun n => P (.int n)) () := rfl
@[simp] theorem e_ix_tup {t : Tok (vIx, P)} : bi vIx (.tup a) (.int i) S P t = opt (atI a i) P () := by
  show (∃ i' d, D.int i = .int i' ∧ atI a i' = some d ∧ P d) = _
  simp [← opt_ex]
@[simp] theorem e_ix_lst {t : Tok (vIx, P)} : bi vIx (.lst a) (.int i) S P t = opt (atI a i) P () := by
  show (∃ i' d, D.int i = .int i' ∧ atI a i' = some d ∧ P d) = _
  simp [← opt_ex]
@[simp] theorem e_ix_scr {ns : List Int} {t : Tok (vIx, P)} : bi vIx (.scr ns) (.int i) S P t = opt (atI ns i) (fun n => P (.int n)) () := by
  show (∃ i' n, D.int i = .int i' ∧ atI ns i' = some n ∧ P (.int n)) = _
  simp [← opt_ex]
@[simp] theorem e_ix_str {t : Tok (vIx, P)} : bi vIx (.str x) (.int i) S P t = andL (x.length ≤ sizeLine) (opt (atI x.cps.toList i) (fun k => P (.str ⟨#[k]⟩)) ()) () := by
  show (∃ i' k, D.int i = .int i' ∧ x.length ≤ sizeLine ∧ atI x.cps.toList i' = some k ∧ P (.str ⟨#[k]⟩)) = _
  rw [← opt_ex]
  apply propext
  constructor
  · rintro ⟨i', k, e, h1, h2, h3⟩
    cases e
    exact ⟨h1, k, h2, h3⟩
  · rintro ⟨h1, k, h2, h3⟩
    exact ⟨i, k, rfl, h1, h2, h3⟩
@[simp] theorem e_tup_tup {t : Tok (tupD, P)} : c1 tupD (.tup a) P t = P (.tup a) := rfl
@[simp] theorem e_tup_lst {t : Tok (tupD, P)} : c1 tupD (.lst a) P t = P (.tup a) := rfl
@[simp] theorem e_str_str {t : Tok (strD, P)} : c1 strD (.str x) P t = P (.str x) := rfl
@[simp] theorem e_sl_lst {lo hi : Option Int} {t : Tok P} : slG (.lst a) lo hi P t = letE (cutD a lo hi) (fun l => P (.lst l)) () := rfl
@[simp] theorem e_sl_tup {lo hi : Option Int} {t : Tok P} : slG (.tup a) lo hi P t = letE (cutD a lo hi) (fun l => P (.tup l)) () := rfl
end
end
@[simp] theorem e_sizeLine : sizeLine = 16777216 := sizeLine_eq

@[simp] theorem look_cons {β : Type} {k a : String} {b : β} {l : List (String × β)} : List.lookup k ((a, b) :: l) = if k = a then some b else l.lookup k := by
  rw [List.lookup_cons]
  by_cases h : k = a
  · simp [h]
  · have : (k == a) = false := by simpa using h
    simp [h, this]
/-! ### whole loops of pure bodies -/
theorem lc_pure {α : Type} {Gd : Sto → Prop} {tg : Tg} {vs : List Nat} {we : TV} {ρ : En} {S : Sto} {g f : α → D} {Q : List D → En → Sto → Prop} (hG : Gd S) :
    ∀ {xs : List α} {acc : List D} {t : Tok (Gd, tg, vs, wYes, we, Q)}, acc.length + xs.length ≤ sizeLine → (∀ x ∈ xs, ∀ K : QD, opt (bindT tg (g x) ρ) (fun ρ1 => wipeE ρ1 vs = ρ ∧ we ρ1 S K (fun _ _ _ => False) = K (f x) ρ1 S) ()) →
    lcG Gd tg vs wYes we (xs.map g) acc ρ S Q t = Q (acc ++ xs.map f) ρ S
  | [], acc, t, hl, h => by simp [lcG, lcGo, hG]
  | x :: xs, acc, t, hl, h => by
    have h0 := fun K => h x List.mem_cons_self K
    obtain ⟨ρ1, e⟩ : ∃ ρ1, bindT tg (g x) ρ = some ρ1 := by
      have := h0 fun _ _ _ => True
      rw [← opt_ex] at this
      obtain ⟨ρ1, e, _⟩ := this
      exact ⟨ρ1, e⟩
    simp only [e, opt_some] at h0
    have hl' : acc.length < sizeLine := by simp only [List.length_cons] at hl; omega
    have ih := lc_pure (Q := Q) hG (xs := xs) (acc := acc ++ [f x]) (t := ()) (by simp only [List.length_append, List.length_cons, List.length_nil] at hl ⊢; omega) fun y hy => h y (List.mem_cons_of_mem _ hy)
    unfold lcG at ih ⊢
    simp only [List.map_cons, lcGo, e]
    have e2 : ∀ (ρ : En) (S : Sto) (Q : Bool → En → Sto → Prop) (E : QE), wYes ρ S Q E = Q true ρ S := fun _ _ _ _ => rfl
    simp only [Option.some.injEq, exists_eq_left', e2, if_true, ↓reduceIte, (h0 _).2, hG, true_and, (h0 fun _ _ _ => True).1, hl']
    rw [ih]
    simp
theorem lc_filt {α : Type} {Gd : Sto → Prop} {tg : Tg} {vs : List Nat} {wt : TVT} {we : TV} {ρ : En} {S : Sto} {g f : α → D} {p : α → Bool} {Q : List D → En → Sto → Prop} (hG : Gd S) :
    ∀ {xs : List α} {acc : List D} {t : Tok (Gd, tg, vs, wt, we, Q)}, acc.length + xs.length ≤ sizeLine → (∀ x ∈ xs, opt (bindT tg (g x) ρ) (fun ρ1 => wipeE ρ1 vs = ρ ∧ (∀ KT : Bool → En → Sto → Prop, wt ρ1 S KT (fun _ _ _ => False) = KT (p x) ρ1 S) ∧ (p x = true → ∀ K : QD, we ρ1 S K (fun _ _ _ => False) = K (f x) ρ1 S)) ()) →
    lcG Gd tg vs wt we (xs.map g) acc ρ S Q t = Q (acc ++ (xs.filter p).map f) ρ S
  | [], acc, t, hl, h => by simp [lcG, lcGo, hG]
  | x :: xs, acc, t, hl, h => by
    have h0 := h x List.mem_cons_self
    rw [← opt_ex] at h0
    obtain ⟨ρ1, e, h1, h2, h3⟩ := h0
    have hl' : acc.length < sizeLine := by simp only [List.length_cons] at hl; omega
    unfold lcG
    simp only [List.map_cons, lcGo, e, Option.some.injEq, exists_eq_left', h2, hG, true_and]
    by_cases hp : p x = true
    · have ih := lc_filt (Q := Q) hG (xs := xs) (acc := acc ++ [f x]) (t := ()) (by simp only [List.length_append, List.length_cons, List.length_nil] at hl ⊢; omega) fun y hy => h y (List.mem_cons_of_mem _ hy)
      unfold lcG at ih
      simp only [hp, if_true, ↓reduceIte, h3 hp, h1, hl', true_and]
      rw [ih]
      simp [hp]
    · have ih := lc_filt (Q := Q) hG (xs := xs) (acc := acc) (t := ()) (by simp only [List.length_cons] at hl; omega) fun y hy => h y (List.mem_cons_of_mem _ hy)
      unfold lcG at ih
      simp only [hp, if_false, ↓reduceIte, h1]
      simp only [Bool.false_eq_true, ↓reduceIte]
      rw [ih]
      simp [hp]
theorem for_pure {α β : Type} {Gd : Sto → Prop} {tg : Tg} {wb : TVS} {S : Sto} {g : α → D} {r : β → En} {st : β → α → β} {Q : Out → En → Sto → Prop} {E : QE} (hG : Gd S) :
    ∀ {xs : List α} {b : β} {t : Tok (Gd, tg, wb, Q, E)} (I : Nat → β → Prop), I 0 b → (∀ i x, xs[i]? = some x → x ∈ xs → i < xs.length → ∀ b, I i b → I (i + 1) (st b x) ∧ ∀ K : Out → En → Sto → Prop, opt (bindT tg (g x) (r b)) (fun ρ1 => wb ρ1 S K E = K .nx (r (st b x)) S) ()) →
    forG Gd tg wb (xs.map g) (r b) S Q E t = Q .nx (r (xs.foldl st b)) S
  | [], b, t, I, hb, h => by simp [forG, forGo, hG]
  | x :: xs, b, t, I, hb, h => by
    have h0 := (h 0 x rfl List.mem_cons_self (by simp) b hb).2
    have hb' := (h 0 x rfl List.mem_cons_self (by simp) b hb).1
    obtain ⟨ρ1, e⟩ : ∃ ρ1, bindT tg (g x) (r b) = some ρ1 := by
      have := h0 fun _ _ _ => True
      rw [← opt_ex] at this
      obtain ⟨ρ1, e, _⟩ := this
      exact ⟨ρ1, e⟩
    simp only [e, opt_some] at h0
    unfold forG
    simp only [List.map_cons, forGo, e, Option.some.injEq, exists_eq_left', h0, hG, true_and, List.foldl_cons]
    exact for_pure (t := ()) hG (fun i => I (i + 1)) hb' fun i y hi hy hl => h (i + 1) y (by simpa using hi) (List.mem_cons_of_mem _ hy) (by simp; omega)
theorem lc_pureI {α : Type} {Gd : Sto → Prop} {tg : Tg} {vs : List Nat} {we : TV} {ρ : En} {S : Sto} {g : α → D} {Q : List D → En → Sto → Prop} {xs : List α} {acc : List D} {t : Tok (Gd, tg, vs, wYes, we, Q)} {R : Prop} (f : α → D) (hG : Gd S)
    (hl : acc.length + xs.length ≤ sizeLine) (h : ∀ x ∈ xs, ∀ K : QD, opt (bindT tg (g x) ρ) (fun ρ1 => wipeE ρ1 vs = ρ ∧ we ρ1 S K (fun _ _ _ => False) = K (f x) ρ1 S) ())
    (k : Q (acc ++ xs.map f) ρ S ↔ R) : lcG Gd tg vs wYes we (xs.map g) acc ρ S Q t ↔ R := by
  rw [lc_pure hG hl h]; exact k
theorem lc_pureR {α : Type} {Gd : Sto → Prop} {tg : Tg} {vs : List Nat} {we : TV} {ρ : En} {S : Sto} {g : α → D} {Q : List D → En → Sto → Prop} {xs : List α} {acc : List D} {t : Tok (Gd, tg, vs, wYes, we, Q)} (f : α → D) (hG : Gd S)
    (hl : acc.length + xs.length ≤ sizeLine) (h : ∀ x ∈ xs, ∀ K : QD, opt (bindT tg (g x) ρ) (fun ρ1 => wipeE ρ1 vs = ρ ∧ we ρ1 S K (fun _ _ _ => False) = K (f x) ρ1 S) ())
    (k : Q (acc ++ xs.map f) ρ S) : lcG Gd tg vs wYes we (xs.map g) acc ρ S Q t := by
  rw [lc_pure hG hl h]; exact k
theorem lc_filtI {α : Type} {Gd : Sto → Prop} {tg : Tg} {vs : List Nat} {wt : TVT} {we : TV} {ρ : En} {S : Sto} {g : α → D} {Q : List D → En → Sto → Prop} {xs : List α} {acc : List D} {t : Tok (Gd, tg, vs, wt, we, Q)} {R : Prop} (p : α → Bool) (f : α → D) (hG : Gd S)
    (hl : acc.length + xs.length ≤ sizeLine) (h : ∀ x ∈ xs, opt (bindT tg (g x) ρ) (fun ρ1 => wipeE ρ1 vs = ρ ∧ (∀ KT : Bool → En → Sto → Prop, wt ρ1 S KT (fun _ _ _ => False) = KT (p x) ρ1 S) ∧ (p x = true → ∀ K : QD, we ρ1 S K (fun _ _ _ => False) = K (f x) ρ1 S)) ())
    (k : Q (acc ++ (xs.filter p).map f) ρ S ↔ R) : lcG Gd tg vs wt we (xs.map g) acc ρ S Q t ↔ R := by
  rw [lc_filt hG hl h]; exact k
theorem lc_filtR {α : Type} {Gd : Sto → Prop} {tg : Tg} {vs : List Nat} {wt : TVT} {we : TV} {ρ : En} {S : Sto} {g : α → D} {Q : List D → En → Sto → Prop} {xs : List α} {acc : List D} {t : Tok (Gd, tg, vs, wt, we, Q)} (p : α → Bool) (f : α → D) (hG : Gd S)
    (hl : acc.length + xs.length ≤ sizeLine) (h : ∀ x ∈ xs, opt (bindT tg (g x) ρ) (fun ρ1 => wipeE ρ1 vs = ρ ∧ (∀ KT : Bool → En → Sto → Prop, wt ρ1 S KT (fun _ _ _ => False) = KT (p x) ρ1 S) ∧ (p x = true → ∀ K : QD, we ρ1 S K (fun _ _ _ => False) = K (f x) ρ1 S)) ())
    (k : Q (acc ++ (xs.filter p).map f) ρ S) : lcG Gd tg vs wt we (xs.map g) acc ρ S Q t := by
  rw [lc_filt hG hl h]; exact k
theorem for_pureI {α β : Type} {Gd : Sto → Prop} {tg : Tg} {wb : TVS} {S : Sto} {g : α → D} {Q : Out → En → Sto → Prop} {E : QE} {xs : List α} {R : Prop} (r : β → En) (st : β → α → β) (b : β) {t : Tok (Gd, tg, wb, Q, E)} (I : Nat → β → Prop) (hG : Gd S)
    (hb : I 0 b) (h : ∀ i x, xs[i]? = some x → x ∈ xs → i < xs.length → ∀ b, I i b → I (i + 1) (st b x) ∧ ∀ K : Out → En → Sto → Prop, opt (bindT tg (g x) (r b)) (fun ρ1 => wb ρ1 S K E = K .nx (r (st b x)) S) ())
    (k : Q .nx (r (xs.foldl st b)) S ↔ R) : forG Gd tg wb (xs.map g) (r b) S Q E t ↔ R := by
  rw [for_pure hG I hb h]; exact k
theorem for_pureR {α β : Type} {Gd : Sto → Prop} {tg : Tg} {wb : TVS} {S : Sto} {g : α → D} {Q : Out → En → Sto → Prop} {E : QE} {xs : List α} (r : β → En) (st : β → α → β) (b : β) {t : Tok (Gd, tg, wb, Q, E)} (I : Nat → β → Prop) (hG : Gd S)
    (hb : I 0 b) (h : ∀ i x, xs[i]? = some x → x ∈ xs → i < xs.length → ∀ b, I i b → I (i + 1) (st b x) ∧ ∀ K : Out → En → Sto → Prop, opt (bindT tg (g x) (r b)) (fun ρ1 => wb ρ1 S K E = K .nx (r (st b x)) S) ())
    (k : Q .nx (r (xs.foldl st b)) S) : forG Gd tg wb (xs.map g) (r b) S Q E t := by
  rw [for_pure hG I hb h]; exact k
/-- a for over things that are written down -/
theorem forG_nil {Gd : Sto → Prop} {tg : Tg} {wb : TVS} {ρ : En} {S : Sto} {Q : Out → En → Sto → Prop} {E : QE} {t : Tok (Gd, tg, wb, Q, E)} : forG Gd tg wb [] ρ S Q E t = andL (Gd S) (Q .nx ρ S) () := rfl
theorem forG_cons {Gd : Sto → Prop} {tg : Tg} {wb : TVS} {d : D} {ds : List D} {ρ : En} {S : Sto} {Q : Out → En → Sto → Prop} {E : QE} {t : Tok (Gd, tg, wb, Q, E)} : forG Gd tg wb (d :: ds) ρ S Q E t = andL (Gd S) (opt (bindT tg d ρ) (fun ρ1 => wb ρ1 S (fun o ρ2 S2 => match o with
      | .nx => forG Gd tg wb ds ρ2 S2 Q E ()
      | .ct => forG Gd tg wb ds ρ2 S2 Q E ()
      | .bk => Q .nx ρ2 S2
      | .rt d => Q (.rt d) ρ2 S2) E) ()) () := by
  unfold forG
  simp only [forGo, opt_ex, andL]
  all_goals rfl
/-- a for by what holds ahead of each turn -/
theorem for_inv {Gd : Sto → Prop} {tg : Tg} {wb : TVS} {Q : Out → En → Sto → Prop} {E : QE} : ∀ {ds : List D} {t : Tok (Gd, tg, wb, Q, E)} (I : Nat → En → Sto → Prop)
    (hs : ∀ i d ρ S (K : En → Sto → Prop), ds[i]? = some d → I i ρ S → (∀ ρ2 S2, I (i + 1) ρ2 S2 → K ρ2 S2) → Gd S ∧ opt (bindT tg d ρ) (fun ρ1 => wb ρ1 S (fun o ρ2 S2 => match o with | .nx => K ρ2 S2 | .ct => K ρ2 S2 | .bk => Q .nx ρ2 S2 | .rt d => Q (.rt d) ρ2 S2) E) ())
    (hd : ∀ ρ S, I ds.length ρ S → Gd S ∧ Q .nx ρ S) {ρ : En} {S : Sto} (h0 : I 0 ρ S), forG Gd tg wb ds ρ S Q E t
  | [], t, I, hs, hd, ρ, S, h0 => by
    simp only [forG, forGo]
    exact hd ρ S h0
  | d :: ds, t, I, hs, hd, ρ, S, h0 => by
    rw [forG_cons]
    refine hs 0 d ρ S _ rfl h0 fun ρ2 S2 h1 => ?_
    exact for_inv (ds := ds) (t := ()) (fun i => I (i + 1)) (fun i d ρ S K e h k => hs (i + 1) d ρ S K (by simpa using e) h k) (fun ρ S h => hd ρ S (by simpa using h)) h1
/-- a comprehension by what holds ahead of each turn (the list so far, too) -/
theorem lc_inv {Gd : Sto → Prop} {tg : Tg} {vs : List Nat} {we : TV} {Q : List D → En → Sto → Prop} : ∀ {ds acc : List D} {t : Tok (Gd, tg, vs, wYes, we, Q)} (I : Nat → List D → En → Sto → Prop)
    (hs : ∀ i d acc ρ S (K : List D → En → Sto → Prop), ds[i]? = some d → I i acc ρ S → (∀ acc2 ρ2 S2, I (i + 1) acc2 ρ2 S2 → K acc2 ρ2 S2) → Gd S ∧ opt (bindT tg d ρ) (fun ρ1 => we ρ1 S (fun y ρ3 S3 => andL (acc.length < sizeLine) (letE (wipeE ρ3 vs) (fun ρ4 => K (acc ++ [y]) ρ4 S3) ()) ()) (fun _ _ _ => False)) ())
    (hd : ∀ acc ρ S, I ds.length acc ρ S → Gd S ∧ Q acc ρ S) {ρ : En} {S : Sto} (h0 : I 0 acc ρ S), lcG Gd tg vs wYes we ds acc ρ S Q t
  | [], acc, t, I, hs, hd, ρ, S, h0 => by
    simp only [lcG, lcGo]
    exact hd acc ρ S h0
  | d :: ds, acc, t, I, hs, hd, ρ, S, h0 => by
    simp only [lcG, lcGo, opt_ex, wYes, if_true]
    refine hs 0 d acc ρ S (fun acc2 ρ2 S2 => lcGo Gd tg vs wYes we ds acc2 ρ2 S2 Q) rfl h0 fun acc2 ρ2 S2 h1 => ?_
    exact lc_inv (ds := ds) (t := ()) (fun i => I (i + 1)) (fun i d acc ρ S K e h k => hs (i + 1) d acc ρ S K (by simpa using e) h k) (fun acc ρ S h => hd acc ρ S (by simpa using h)) h1
end VL

set_option Elab.async false
set_option linter.all false
set_option autoImplicit false
set_option maxRecDepth 100000
/-! VLLaw: small plain facts for the laws: indices, equality of data. -/
namespace VL
open PySem PySem.Spec PyProof.Rows L2
theorem atI_ok {α : Type} {xs : List α} {i : Int} (h0 : 0 ≤ i) (h1 : i < xs.length) : ∃ d, atI xs i = some d ∧ d ∈ xs ∧ xs[i.toNat]? = some d := by
  obtain ⟨j, rfl⟩ : ∃ j : Nat, i = j := ⟨i.toNat, by omega⟩
  have hj : j < xs.length := by omega
  have e : xs[j]? = some xs[j] := List.getElem?_eq_getElem hj
  exact ⟨xs[j], atI_nat e, List.getElem_mem hj, by simpa using e⟩
theorem atI_getE {α : Type} {xs : List α} {i : Nat} (h : i < xs.length) : atI xs (i : Int) = some xs[i] := atI_nat (List.getElem?_eq_getElem h)
@[simp] theorem atI_0 {α : Type} {x : α} {xs : List α} : atI (x :: xs) 0 = some x := atI_nat (j := 0) rfl
@[simp] theorem atI_1 {α : Type} {x y : α} {xs : List α} : atI (x :: y :: xs) 1 = some y := atI_nat (j := 1) rfl
@[simp] theorem atI_2 {α : Type} {x y z : α} {xs : List α} : atI (x :: y :: z :: xs) 2 = some z := atI_nat (j := 2) rfl
@[simp] theorem atI_3 {α : Type} {x y z u : α} {xs : List α} : atI (x :: y :: z :: u :: xs) 3 = some u := atI_nat (j := 3) rfl
@[simp] theorem atI_4 {α : Type} {x y z u v : α} {xs : List α} : atI (x :: y :: z :: u :: v :: xs) 4 = some v := atI_nat (j := 4) rfl
theorem atI_m1 {α : Type} {xs : List α} (h : xs ≠ []) : ∃ d, atI xs (-1) = some d ∧ d ∈ xs ∧ xs.getLast? = some d := by
  rcases List.eq_nil_or_concat xs with e | ⟨p', x, e⟩
  · exact absurd e h
  · simp only [List.concat_eq_append] at e
    subst e
    exact ⟨x, atI_last _ _, by simp, by simp⟩
theorem opt_atI {α : Type} {xs : List α} {i : Int} {P : α → Prop} {t : Tok P} (h0 : 0 ≤ i) (h1 : i < xs.length) (h : ∀ d ∈ xs, xs[i.toNat]? = some d → P d) : opt (atI xs i) P t := by
  obtain ⟨d, e, hm, hg⟩ := atI_ok h0 h1
  rw [e]
  exact h d hm hg
/-! == of data without True and False -/
mutual
def strict : D → Bool
  | .non => true
  | .int _ => true
  | .str _ => true
  | .tup l => stricts l
  | .lst l => stricts l
  | _ => false
def stricts : List D → Bool
  | [] => true
  | d :: ds => strict d && stricts ds
end
mutual
theorem eqv_iff : ∀ {a b : D}, strict a = true → strict b = true → (PyData.eqv (toP a) (toP b) = true ↔ a = b)
  | .non, b, ha, hb => by cases b <;> simp_all [strict, toP, PyData.eqv]
  | .int i, b, ha, hb => by cases b <;> simp_all [strict, toP, PyData.eqv]
  | .str i, b, ha, hb => by cases b <;> simp_all [strict, toP, PyData.eqv]
  | .tup l, b, ha, hb => by
    cases b with
    | tup m =>
      simp only [strict] at ha hb
      simp only [toP, PyData.eqv]
      rw [eqvs_iff ha hb]
      simp
    | _ => simp_all [strict, toP, PyData.eqv]
  | .lst l, b, ha, hb => by
    cases b with
    | lst m =>
      simp only [strict] at ha hb
      simp only [toP, PyData.eqv]
      rw [eqvs_iff ha hb]
      simp
    | _ => simp_all [strict, toP, PyData.eqv]
  | .bl _, b, ha, hb => by simp [strict] at ha
  | .dic _, b, ha, hb => by simp [strict] at ha
  | .obj _ _, b, ha, hb => by simp [strict] at ha
  | .ref _, b, ha, hb => by simp [strict] at ha
  | .scr _, b, ha, hb => by simp [strict] at ha
  | .cls _, b, ha, hb => by simp [strict] at ha
theorem eqvs_iff : ∀ {a b : List D}, stricts a = true → stricts b = true → (PyData.eqvAll (toPs a) (toPs b) = true ↔ a = b)
  | [], [], _, _ => by simp [toPs, PyData.eqvAll]
  | [], _ :: _, _, _ => by simp [toPs, PyData.eqvAll]
  | _ :: _, [], _, _ => by simp [toPs, PyData.eqvAll]
  | x :: xs, y :: ys, ha, hb => by
    simp only [stricts, Bool.and_eq_true] at ha hb
    simp only [toPs, PyData.eqvAll, Bool.and_eq_true]
    rw [eqv_iff ha.1 hb.1, eqvs_iff ha.2 hb.2]
    simp
end
open Classical in
theorem eqv_dec {a b : D} (ha : strict a = true) (hb : strict b = true) : PyData.eqv (toP a) (toP b) = decide (a = b) := by
  rw [Bool.eq_iff_iff, eqv_iff ha hb]
  simp
theorem eqv_self {a : D} (ha : strict a = true) : PyData.eqv (toP a) (toP a) = true := (eqv_iff ha ha).mpr rfl
theorem eqv_ne {a b : D} (ha : strict a = true) (hb : strict b = true) (h : a ≠ b) : PyData.eqv (toP a) (toP b) = false := by
  rw [← Bool.not_eq_true, eqv_iff ha hb]; exact h
/-- x in a list of texts -/
theorem any_str {xs : List Str} {x : Str} : ((toPs (xs.map D.str)).any fun z => PyData.eqv z (toP (.str x))) = decide (x ∈ xs) := by
  induction xs with
  | nil => rfl
  | cons y ys ih =>
    simp only [List.map_cons, toPs, List.any_cons, ih, toP, PyData.eqv, List.mem_cons]
    by_cases h : x = y
    · subst h; simp
    · have h' : (y == x) = false := beq_eq_false_iff_ne.mpr fun e => h e.symm
      rw [h', Bool.false_or]
      refine Eq.trans ih ?_
      simp [h]
theorem cmul_l {i j : Int} (h0 : -18446744073709551616 < i) (h : i < 18446744073709551616) : CMul i j := by
  unfold CMul; left; exact ⟨by simpa using h0, by simpa using h⟩
theorem cmul_r {i j : Int} (h0 : -18446744073709551616 < j) (h : j < 18446744073709551616) : CMul i j := by
  unfold CMul; right; exact ⟨by simpa using h0, by simpa using h⟩
theorem cdiv_of {i j : Int} (h0 : 0 < j) (h : j < 1073741824) : CDiv i j := ⟨h0, h⟩
end VL

set_option Elab.async false
set_option linter.all false
set_option autoImplicit false
set_option maxRecDepth 100000
/-! VLTree: trees of names, and what the programs compute of them; no program in sight. -/
namespace VL
open PySem PySem.Spec PyProof.Rows L2
/-- the first character is among these -/
def fstIn (cs : Str) (n : Str) : Bool := match n.cps.toList with
  | k :: _ => strIn ⟨#[k]⟩ cs
  | [] => false
abbrev smallS : Str := "abcdefghijklmnopqrstuvwxyz"
abbrev sm (n : Str) : Bool := fstIn smallS n
inductive Tre where
  | mk (n : Str) (ps : List Tre)
  deriving Inhabited
def Tre.nm : Tre → Str
  | .mk n _ => n
def Tre.ps : Tre → List Tre
  | .mk _ ps => ps
mutual
def tD : Tre → D
  | .mk n ps => .tup [.str n, .tup (tDs ps)]
def tDs : List Tre → List D
  | [] => []
  | p :: ps => tD p :: tDs ps
end
theorem tDs_map : ∀ ps : List Tre, tDs ps = ps.map tD
  | [] => rfl
  | p :: ps => by simp [tDs, tDs_map ps]
theorem tD_mk (n : Str) (ps : List Tre) : tD (.mk n ps) = .tup [.str n, .tup (ps.map tD)] := by rw [tD, tDs_map]
/-! how deep -/
mutual
def dp : Tre → Nat
  | .mk _ ps => dps ps + 1
def dps : List Tre → Nat
  | [] => 0
  | p :: ps => max (dp p) (dps ps)
end
theorem dps_mem : ∀ {ps : List Tre} {p : Tre}, p ∈ ps → dp p ≤ dps ps
  | _ :: ps, p, h => by
    simp only [dps]
    cases h with
    | head => omega
    | tail _ h => have := dps_mem h; omega
theorem dps_le : ∀ {ps : List Tre} {k : Nat}, (∀ p ∈ ps, dp p ≤ k) → dps ps ≤ k
  | [], k, _ => by simp [dps]
  | p :: ps, k, h => by
    simp only [dps]
    have h1 := h p List.mem_cons_self
    have h2 := dps_le (ps := ps) (k := k) fun q hq => h q (List.mem_cons_of_mem _ hq)
    omega
theorem dp_mk {n : Str} {ps : List Tre} {k : Nat} : dp (.mk n ps) ≤ k + 1 ↔ dps ps ≤ k := by simp [dp]
theorem Tre.ind {P : Tre → Prop} (h : ∀ n ps, (∀ p ∈ ps, P p) → P (.mk n ps)) (t : Tre) : P t := by
  suffices ∀ k t, dp t ≤ k → P t from this _ t (Nat.le_refl _)
  intro k
  induction k with
  | zero => intro t ht; cases t; simp [dp] at ht
  | succ k ih =>
    intro t ht
    cases t with
    | mk n ps =>
      refine h n ps fun p hp => ih p ?_
      have := dps_mem hp
      rw [dp_mk] at ht
      omega
/-! how many names -/
mutual
def sz : Tre → Int
  | .mk _ ps => 1 + szs ps
def szs : List Tre → Int
  | [] => 0
  | p :: ps => sz p + szs ps
end
theorem szs_map : ∀ ps : List Tre, szs ps = (ps.map sz).sum
  | [] => rfl
  | p :: ps => by simp [szs, szs_map ps]
theorem sz_mk (n : Str) (ps : List Tre) : sz (.mk n ps) = 1 + (ps.map sz).sum := by rw [sz, szs_map]
/-- levels, as max is taken -/
def mxs : List Int → Int
  | [] => 0
  | n :: ns => max n (mxs ns)
mutual
def lv : Tre → Int
  | .mk _ ps => 1 + lvs ps
def lvs : List Tre → Int
  | [] => 0
  | p :: ps => max (lv p) (lvs ps)
end
theorem lvs_map : ∀ ps : List Tre, lvs ps = mxs (ps.map lv)
  | [] => rfl
  | p :: ps => by simp [lvs, mxs, lvs_map ps]
theorem lv_mk (n : Str) (ps : List Tre) : lv (.mk n ps) = 1 + mxs (ps.map lv) := by rw [lv, lvs_map]
theorem lvs_nonneg : ∀ ns : List Int, 0 ≤ mxs ns
  | [] => Int.le_refl _
  | n :: ns => by have := lvs_nonneg ns; simp only [mxs]; omega
theorem lv_pos (t : Tre) : 0 < lv t := by
  cases t with
  | mk n ps => rw [lv_mk]; have := lvs_nonneg (ps.map lv); omega
theorem foldl_max : ∀ {ns : List Int} {a : Int}, 0 ≤ a → ns.foldl (fun m n => if n > m then n else m) a = max a (mxs ns)
  | [], a, h => by simp [mxs]; omega
  | n :: ns, a, h => by
    simp only [List.foldl_cons, mxs]
    rw [foldl_max (by split <;> omega)]
    split <;> omega
theorem maxD_eq {ns : List Int} (h : ∀ n ∈ ns, 0 ≤ n) : maxD ns 0 = mxs ns := by
  cases ns with
  | nil => rfl
  | cons n ns =>
    have h0 := h n List.mem_cons_self
    simp only [mxs]
    rw [← foldl_max h0]
    rfl
/-- the letters, each once -/
def addL (acc : List Str) (x : Str) : List Str := if x ∈ acc then acc else acc ++ [x]
mutual
def lts : Tre → List Str
  | .mk n ps => if sm n = true then [n] else ltss ps []
def ltss : List Tre → List Str → List Str
  | [], acc => acc
  | p :: ps, acc => ltss ps ((lts p).foldl addL acc)
end
theorem ltss_fold : ∀ {ps : List Tre} {acc : List Str}, ltss ps acc = ps.foldl (fun a p => (lts p).foldl addL a) acc
  | [], acc => rfl
  | p :: ps, acc => by rw [ltss, ltss_fold]; rfl
theorem lts_mk (n : Str) (ps : List Tre) : lts (.mk n ps) = if sm n = true then [n] else ps.foldl (fun a p => (lts p).foldl addL a) [] := by rw [lts, ltss_fold]
/-! the written form -/
mutual
def tx : Tre → Str
  | .mk n ps => if ps.isEmpty = true then n else n ++ ("(" : Str) ++ Txt.join (", " : Str) (txs ps) ++ (")" : Str)
def txs : List Tre → List Str
  | [] => []
  | p :: ps => tx p :: txs ps
end
theorem txs_map : ∀ ps : List Tre, txs ps = ps.map tx
  | [] => rfl
  | p :: ps => by simp [txs, txs_map ps]
theorem tx_mk (n : Str) (ps : List Tre) : tx (.mk n ps) = if ps.isEmpty = true then n else n ++ ("(" : Str) ++ Txt.join (", " : Str) (ps.map tx) ++ (")" : Str) := by rw [tx, txs_map]
/-! the key -/
mutual
def kyD : Tre → D
  | .mk n ps => .tup [.int (sz (.mk n ps)), .str n, .tup (kyDs ps)]
def kyDs : List Tre → List D
  | [] => []
  | p :: ps => kyD p :: kyDs ps
end
theorem kyDs_map : ∀ ps : List Tre, kyDs ps = ps.map kyD
  | [] => rfl
  | p :: ps => by simp [kyDs, kyDs_map ps]
theorem kyD_mk (n : Str) (ps : List Tre) : kyD (.mk n ps) = .tup [.int (sz (.mk n ps)), .str n, .tup (ps.map kyD)] := by rw [kyD, kyDs_map]
/-! names with how many parts are allowed -/
mutual
def okT (A : Str → Nat → Prop) : Tre → Prop
  | .mk n ps => A n ps.length ∧ okTs A ps
def okTs (A : Str → Nat → Prop) : List Tre → Prop
  | [] => True
  | p :: ps => okT A p ∧ okTs A ps
end
theorem okTs_iff {A : Str → Nat → Prop} : ∀ {ps : List Tre}, okTs A ps ↔ ∀ p ∈ ps, okT A p
  | [] => by simp [okTs]
  | p :: ps => by simp [okTs, okTs_iff (ps := ps)]
theorem okT_mk {A : Str → Nat → Prop} {n : Str} {ps : List Tre} : okT A (.mk n ps) ↔ A n ps.length ∧ ∀ p ∈ ps, okT A p := by rw [okT, okTs_iff]
theorem okT_mono {A B : Str → Nat → Prop} (h : ∀ n k, A n k → B n k) (t : Tre) : okT A t → okT B t := by
  induction t using Tre.ind with
  | h n ps ih =>
    rw [okT_mk, okT_mk]
    exact fun ⟨h1, h2⟩ => ⟨h _ _ h1, fun p hp => ih p hp (h2 p hp)⟩
/-- a name that the laws use -/
structure Nm (n : Str) : Prop where
  ok : PyData.strOk n = true
  pos : 0 < n.length
  len : n.length ≤ 8
/-- good trees: names of at most 8 characters, at most 3 parts, letters without parts -/
def GdA (n : Str) (k : Nat) : Prop := Nm n ∧ k ≤ 3 ∧ (sm n = true → k = 0)
abbrev gd (t : Tre) : Prop := okT GdA t
theorem plains_map {α : Type} {f : α → D} : ∀ {xs : List α}, (∀ x ∈ xs, plain (f x) = true) → plains (xs.map f) = true
  | [], _ => rfl
  | x :: xs, h => by
    simp only [List.map_cons, plains, h x List.mem_cons_self, Bool.true_and]
    exact plains_map fun y hy => h y (List.mem_cons_of_mem _ hy)
theorem stricts_map {α : Type} {f : α → D} : ∀ {xs : List α}, (∀ x ∈ xs, strict (f x) = true) → stricts (xs.map f) = true
  | [], _ => rfl
  | x :: xs, h => by
    simp only [List.map_cons, stricts, h x List.mem_cons_self, Bool.true_and]
    exact stricts_map fun y hy => h y (List.mem_cons_of_mem _ hy)
theorem deps_map {α : Type} {f : α → D} {k : Nat} : ∀ {xs : List α}, (∀ x ∈ xs, dep (f x) ≤ k) → deps (xs.map f) ≤ k
  | [], _ => by simp [deps]
  | x :: xs, h => by
    simp only [List.map_cons, deps]
    have h1 := h x List.mem_cons_self
    have h2 := deps_map (xs := xs) fun y hy => h y (List.mem_cons_of_mem _ hy)
    omega
theorem plain_tD (t : Tre) : gd t → plain (tD t) = true := by
  induction t using Tre.ind with
  | h n ps ih =>
    intro hh
    obtain ⟨h1, h2⟩ := okT_mk.mp hh
    rw [tD_mk]
    simp [plain, plains, h1.1.ok, plains_map fun p hp => ih p hp (h2 p hp)]
theorem strict_tD (t : Tre) : strict (tD t) = true := by
  induction t using Tre.ind with
  | h n ps ih =>
    rw [tD_mk]
    simp [strict, stricts, stricts_map ih]
theorem dep_tD (t : Tre) : dep (tD t) ≤ 2 * dp t := by
  induction t using Tre.ind with
  | h n ps ih =>
    rw [tD_mk]
    simp only [dep, deps, dp]
    have := deps_map (f := tD) (xs := ps) (k := 2 * dps ps) fun p hp => by have := ih p hp; have := dps_mem hp; omega
    omega
theorem tD_inj (t : Tre) : ∀ u, tD t = tD u → t = u := by
  induction t using Tre.ind with
  | h n ps ih =>
    intro u e
    cases u with
    | mk m qs =>
      rw [tD_mk, tD_mk] at e
      simp only [D.tup.injEq, List.cons.injEq, D.str.injEq, and_true] at e
      obtain ⟨rfl, e⟩ := e
      congr 1
      induction ps generalizing qs with
      | nil => cases qs with
        | nil => rfl
        | cons q qs => cases e
      | cons p ps ihp =>
        cases qs with
        | nil => cases e
        | cons q qs =>
          simp only [List.map_cons, List.cons.injEq] at e
          rw [ih p List.mem_cons_self q e.1, ihp (fun x hx => ih x (List.mem_cons_of_mem _ hx)) qs e.2]
theorem len_append (a b : Str) : (a ++ b).length = a.length + b.length := by
  show (a.cps ++ b.cps).size = _
  simp [PySem.Str.length]
end VL

set_option Elab.async false
set_option linter.all false
set_option autoImplicit false
set_option maxRecDepth 100000
/-! VLTree2: lengths of what is computed of trees. -/
namespace VL
open PySem PySem.Spec PyProof.Rows L2
theorem foldl_fst {α β γ : Type} {f : β × γ → α → β × γ} {g : β → α → β} (h : ∀ b x, (f b x).1 = g b.1 x) : ∀ {xs : List α} {b : β × γ}, (xs.foldl f b).1 = xs.foldl g b.1
  | [], b => rfl
  | x :: xs, b => by
    simp only [List.foldl_cons]
    rw [foldl_fst h, h]
theorem fold2 {h : Tre → D} {ps : List Tre} : ∀ {acc : List Str} {s1 s2 : Sl}, (ps.foldl (fun (b : List Str × Sl × Sl) p => (((lts p).foldl (fun (b : List Str × Sl) x => (addL b.1 x, Sl.v (.str x))) (b.1, b.2.2)).1, Sl.v (h p), ((lts p).foldl (fun (b : List Str × Sl) x => (addL b.1 x, Sl.v (.str x))) (b.1, b.2.2)).2)) (acc, s1, s2)).1 = ps.foldl (fun a p => (lts p).foldl addL a) acc := by
  induction ps with
  | nil => intros; rfl
  | cons p ps ih =>
    intro acc s1 s2
    simp only [List.foldl_cons]
    rw [ih]
    congr 1
    exact foldl_fst fun _ _ => rfl
theorem foldl_lv {ps : List Tre} : ps.foldl (fun m p => if m < lv p then lv p else m) 0 = mxs (ps.map lv) := by
  have := foldl_max (ns := ps.map lv) (a := 0) (Int.le_refl _)
  rw [List.foldl_map] at this
  have h0 := lvs_nonneg (ps.map lv)
  rw [Int.max_eq_right h0] at this
  exact this
/-! lengths -/
theorem addL_len {acc : List Str} {x : Str} : (addL acc x).length ≤ acc.length + 1 := by
  unfold addL; split <;> simp
theorem foldl_addL_len : ∀ {xs acc : List Str}, (xs.foldl addL acc).length ≤ acc.length + xs.length
  | [], acc => by simp
  | x :: xs, acc => by
    have h1 := foldl_addL_len (xs := xs) (acc := addL acc x)
    have h2 := addL_len (acc := acc) (x := x)
    simp only [List.foldl_cons, List.length_cons]; omega
theorem addL_mem {acc : List Str} {x y : Str} : y ∈ addL acc x ↔ y ∈ acc ∨ y = x := by
  unfold addL
  split
  · rename_i h
    constructor
    · exact .inl
    · rintro (h' | rfl)
      · exact h'
      · exact h
  · simp
theorem foldl_addL_mem {y : Str} : ∀ {xs acc : List Str}, y ∈ xs.foldl addL acc ↔ y ∈ acc ∨ y ∈ xs
  | [], acc => by simp
  | x :: xs, acc => by
    simp only [List.foldl_cons, List.mem_cons]
    rw [foldl_addL_mem, addL_mem]
    constructor
    · rintro ((h | h) | h)
      · exact .inl h
      · exact .inr (.inl h)
      · exact .inr (.inr h)
    · rintro (h | h | h)
      · exact .inl (.inl h)
      · exact .inl (.inr h)
      · exact .inr h
theorem foldl_lts_len {M : Nat} : ∀ {ps : List Tre} {acc : List Str}, (∀ p ∈ ps, (lts p).length ≤ M) → (ps.foldl (fun a p => (lts p).foldl addL a) acc).length ≤ acc.length + ps.length * M
  | [], acc, _ => by simp
  | p :: ps, acc, h => by
    have h1 := foldl_lts_len (ps := ps) (acc := (lts p).foldl addL acc) fun q hq => h q (List.mem_cons_of_mem _ hq)
    have h2 := foldl_addL_len (xs := lts p) (acc := acc)
    have h3 := h p List.mem_cons_self
    simp only [List.foldl_cons, List.length_cons, Nat.succ_mul]; omega
theorem foldl_lts_mem {y : Str} : ∀ {ps : List Tre} {acc : List Str}, y ∈ ps.foldl (fun a p => (lts p).foldl addL a) acc ↔ y ∈ acc ∨ ∃ p ∈ ps, y ∈ lts p
  | [], acc => by simp
  | p :: ps, acc => by
    simp only [List.foldl_cons]
    rw [foldl_lts_mem, foldl_addL_mem]
    simp only [List.mem_cons, exists_eq_or_imp]
    constructor
    · rintro ((h | h) | h)
      · exact .inl h
      · exact .inr (.inl h)
      · exact .inr (.inr h)
    · rintro (h | h | h)
      · exact .inl (.inl h)
      · exact .inl (.inr h)
      · exact .inr h
theorem lts_len (u : Tre) : gd u → (lts u).length ≤ 3 ^ dp u := by
  induction u using Tre.ind with
  | h n ps ih =>
    intro hh
    obtain ⟨h1, h2⟩ := okT_mk.mp hh
    rw [lts_mk, dp]
    have h0 : 0 < 3 ^ dps ps := Nat.pow_pos (by omega)
    rw [Nat.pow_succ]
    split
    · simp; omega
    · have := foldl_lts_len (M := 3 ^ dps ps) (ps := ps) (acc := []) fun p hp => Nat.le_trans (ih p hp (h2 p hp)) (Nat.pow_le_pow_right (by omega) (dps_mem hp))
      have h3 : ps.length * 3 ^ dps ps ≤ 3 * 3 ^ dps ps := Nat.mul_le_mul_right _ h1.2.1
      simp only [List.length_nil, Nat.zero_add] at this
      omega
theorem lts_nm (u : Tre) : gd u → ∀ x ∈ lts u, Nm x ∧ sm x = true := by
  induction u using Tre.ind with
  | h n ps ih =>
    intro hh
    obtain ⟨h1, h2⟩ := okT_mk.mp hh
    rw [lts_mk]
    split
    · rename_i hs
      intro x hx
      simp only [List.mem_singleton] at hx
      subst hx
      exact ⟨h1.1, hs⟩
    · intro x hx
      rw [foldl_lts_mem] at hx
      rcases hx with hx | ⟨p, hp, hx⟩
      · cases hx
      · exact ih p hp (h2 p hp) x hx
theorem pow_dp {k : Nat} (h : k ≤ 12) : 3 ^ k ≤ 531441 := by
  have := Nat.pow_le_pow_right (n := 3) (by omega) h
  simpa using this
theorem join_len (sep : Str) (ys : List Str) : (Txt.join sep ys).length ≤ (ys.map (·.length)).sum + ys.length * sep.length := by
  show (Builtin.Str.glued sep ys).length ≤ _
  rw [StrLaws.glued_eq_join]
  exact StrLaws.join_length_le sep ys
theorem sum_le {α : Type} {f : α → Nat} {M : Nat} : ∀ {xs : List α}, (∀ x ∈ xs, f x ≤ M) → (xs.map f).sum ≤ xs.length * M
  | [], _ => by simp
  | x :: xs, h => by
    have h1 := h x List.mem_cons_self
    have h2 := sum_le (xs := xs) fun y hy => h y (List.mem_cons_of_mem _ hy)
    simp only [List.map_cons, List.sum_cons, List.length_cons, Nat.succ_mul]; omega
@[simp] theorem str_len1 : (("(" : Str)).length = 1 := rfl
@[simp] theorem str_len2 : ((")" : Str)).length = 1 := rfl
@[simp] theorem str_len3 : ((", " : Str)).length = 2 := rfl
theorem tx_sum (u : List Tre) (h : ∀ p ∈ u, (tx p).length + 8 ≤ 8 * 3 ^ dps u) (hl : u.length ≤ 3) : ((u.map tx).map (·.length)).sum + u.length * 2 + 18 ≤ 8 * 3 ^ (dps u + 1) := by
  have h0 : 0 < 3 ^ dps u := Nat.pow_pos (by omega)
  have h1 := sum_le (f := fun p => (tx p).length) (M := 8 * 3 ^ dps u - 8) (xs := u) fun p hp => by have := h p hp; omega
  rw [List.map_map, Nat.pow_succ]
  have e : ((fun x : Str => x.length) ∘ tx) = fun p => (tx p).length := rfl
  rw [e]
  have h2 : u.length * (8 * 3 ^ dps u - 8) ≤ 3 * (8 * 3 ^ dps u - 8) := Nat.mul_le_mul_right _ hl
  omega
theorem tx_len (u : Tre) : gd u → (tx u).length + 8 ≤ 8 * 3 ^ dp u := by
  induction u using Tre.ind with
  | h n ps ih =>
    intro hh
    obtain ⟨h1, h2⟩ := okT_mk.mp hh
    have hb := tx_sum ps (fun p hp => Nat.le_trans (ih p hp (h2 p hp)) (Nat.mul_le_mul_left _ (Nat.pow_le_pow_right (by omega) (dps_mem hp)))) h1.2.1
    rw [tx_mk, dp]
    have h0 : 0 < 3 ^ dps ps := Nat.pow_pos (by omega)
    have h3 := h1.1.len
    split
    · rw [Nat.pow_succ]; omega
    · have := join_len (", " : Str) (ps.map tx)
      rw [len_append, len_append, len_append, str_len1, str_len2]
      rw [str_len3, List.length_map] at this
      omega
theorem tx_bd {u : Tre} (h : gd u) (hd : dp u ≤ 12) : (tx u).length ≤ 4251520 := by
  have h1 := tx_len u h
  have h2 := pow_dp hd
  omega
/-- what join asks, and its length with the brackets -/
theorem tx_join {n : Str} {ps : List Tre} (h : gd (.mk n ps)) (hd : dps ps + 1 ≤ 12) : ((ps.map tx).map (·.length)).sum + (ps.map tx).length * (", " : Str).length ≤ 16777216 ∧ n.length + (Txt.join (", " : Str) (ps.map tx)).length + 2 ≤ 16777216 := by
  obtain ⟨h1, h2⟩ := okT_mk.mp h
  have hb := tx_sum ps (fun p hp => Nat.le_trans (tx_len p (h2 p hp)) (Nat.mul_le_mul_left _ (Nat.pow_le_pow_right (by omega) (dps_mem hp)))) h1.2.1
  have h3 := pow_dp hd
  have h4 := join_len (", " : Str) (ps.map tx)
  have h5 := h1.1.len
  rw [str_len3, List.length_map] at h4 ⊢
  exact ⟨by omega, by omega⟩
/-! a mark -/
mutual
def mD : Tre → D
  | .mk n ps => .obj "Mark" [("name", .str n), ("parts", .tup (mDs ps)), ("size", .int (sz (.mk n ps))), ("levels", .int (lv (.mk n ps))), ("key", kyD (.mk n ps)), ("letters", .tup ((lts (.mk n ps)).map D.str))]
def mDs : List Tre → List D
  | [] => []
  | p :: ps => mD p :: mDs ps
end
theorem mDs_map : ∀ ps : List Tre, mDs ps = ps.map mD
  | [] => rfl
  | p :: ps => by simp [mDs, mDs_map ps]
theorem mD_mk (n : Str) (ps : List Tre) : mD (.mk n ps) = .obj "Mark" [("name", .str n), ("parts", .tup (ps.map mD)), ("size", .int (sz (.mk n ps))), ("levels", .int (lv (.mk n ps))), ("key", kyD (.mk n ps)), ("letters", .tup ((lts (.mk n ps)).map D.str))] := by rw [mD, mDs_map]
def mFs (u : Tre) : List (String × D) := [("name", .str u.nm), ("parts", .tup (u.ps.map mD)), ("size", .int (sz u)), ("levels", .int (lv u)), ("key", kyD u), ("letters", .tup ((lts u).map D.str))]
theorem mD_fs (u : Tre) : mD u = .obj "Mark" (mFs u) := by
  obtain ⟨n, ps⟩ := u
  rw [mD_mk]; rfl
section
variable {u : Tre} {S : Sto} {P : D → Prop} {t : Tok P}
@[simp] theorem f_name : fldG "name" (mD u) P t = P (.str u.nm) := by rw [mD_fs]; simp [mFs]
@[simp] theorem f_parts : fldG "parts" (mD u) P t = P (.tup (u.ps.map mD)) := by rw [mD_fs]; simp [mFs]
@[simp] theorem f_size : fldG "size" (mD u) P t = P (.int (sz u)) := by rw [mD_fs]; simp [mFs]
@[simp] theorem f_levels : fldG "levels" (mD u) P t = P (.int (lv u)) := by rw [mD_fs]; simp [mFs]
@[simp] theorem f_key : fldG "key" (mD u) P t = P (kyD u) := by rw [mD_fs]; simp [mFs]
@[simp] theorem f_letters : fldG "letters" (mD u) P t = P (.tup ((lts u).map D.str)) := by rw [mD_fs]; simp [mFs]
@[simp] theorem dr_mD : dr S (mD u) = mD u := by rw [mD_fs]; rfl
@[simp] theorem tag_mD : tagD (mD u) = some (true, "Mark") := by rw [mD_fs]; rfl
@[simp] theorem own1_mD {ms : Ms} {P : String → Prop} {t : Tok (ms, P)} : own1G ms (mD u) P t = opt (ms.lookup "Mark") P () := by rw [mD_fs]; simp
@[simp] theorem meth_mD {ms : Ms} {m : String} {P : String → Prop} {t : Tok (ms, P)} : methG ms m (mD u) P t = opt (ms.lookup "Mark") (fun f => andL (((mFs u).all fun x => x.1 != m) = true) (P f) ()) () := by rw [mD_fs]; simp
@[simp] theorem tag_bl {b : Bool} : tagD (.bl b) = some (false, "bool") := rfl
@[simp] theorem tag_int {b : Int} : tagD (.int b) = some (false, "int") := rfl
@[simp] theorem tag_str {b : Str} : tagD (.str b) = some (false, "str") := rfl
@[simp] theorem tag_tup {b : List D} : tagD (.tup b) = some (false, "tuple") := rfl
@[simp] theorem tag_lst {b : List D} : tagD (.lst b) = some (false, "list") := rfl
@[simp] theorem tag_non : tagD .non = some (false, "NoneType") := rfl
end
section
variable {u : Tre} {S : Sto} {P : D → Prop} {PB : Bool → Prop} {neg : Bool}
@[simp] theorem dr_tD : dr S (tD u) = tD u := by obtain ⟨n, ps⟩ := u; rw [tD_mk]; rfl
@[simp] theorem ix_tD0 {t : Tok (vIx, P)} : bi vIx (tD u) (.int 0) S P t = P (.str u.nm) := by obtain ⟨n, ps⟩ := u; rw [tD_mk]; simp; rfl
@[simp] theorem ix_tD1 {t : Tok (vIx, P)} : bi vIx (tD u) (.int 1) S P t = P (.tup (u.ps.map tD)) := by obtain ⟨n, ps⟩ := u; rw [tD_mk]; simp; rfl
theorem eq_tD {t : Tok PB} (hg : gd u) (hd : dp u ≤ 32) : eqG neg (tD u) (tD u) PB t = letE (true != neg) PB () := by
  have h1 : VL.plain (tD u) = true := plain_tD u hg
  have h2 : dep (tD u) ≤ 64 := by have := dep_tD u; omega
  have h3 : PyData.eqv (toP (tD u)) (toP (tD u)) = true := eqv_self (strict_tD u)
  obtain ⟨n, ps⟩ := u
  rw [tD_mk] at h1 h2 h3 ⊢
  rw [e_eq_tup, h3, andL_of ⟨h1, h1, h2, h2⟩]
theorem eq_strs {l : List Str} {t : Tok PB} (hg : ∀ x ∈ l, PyData.strOk x = true) : eqG neg (.lst (l.map D.str)) (.lst (l.map D.str)) PB t = letE (true != neg) PB () := by
  have h1 : VL.plain (.lst (l.map D.str)) = true := by
    simp only [VL.plain]
    exact plains_map fun x hx => hg x hx
  have h2 : dep (.lst (l.map D.str)) ≤ 64 := by
    simp only [dep]
    have := deps_map (f := D.str) (xs := l) (k := 0) fun _ _ => by simp [dep]
    omega
  have h3 : PyData.eqv (toP (.lst (l.map D.str))) (toP (.lst (l.map D.str))) = true := eqv_self (by simp only [strict]; exact stricts_map fun _ _ => rfl)
  rw [e_eq_lst, h3, andL_of ⟨h1, h1, h2, h2⟩]
theorem eq_strs0 {l : List Str} {t : Tok PB} (hg : ∀ x ∈ l, PyData.strOk x = true) : eqG neg (.lst (l.map D.str)) (.lst []) PB t = letE (l.isEmpty != neg) PB () := by
  cases l with
  | nil => exact eq_strs (l := []) (fun _ h => nomatch h)
  | cons x l =>
    have h1 : VL.plain (.lst ((x :: l).map D.str)) = true := by
      simp only [VL.plain]
      exact plains_map fun x hx => hg x hx
    have h2 : dep (.lst ((x :: l).map D.str)) ≤ 64 := by
      simp only [dep]
      have := deps_map (f := D.str) (xs := x :: l) (k := 0) fun _ _ => by simp [dep]
      omega
    have h3 : PyData.eqv (toP (.lst ((x :: l).map D.str))) (toP (.lst [])) = false := rfl
    rw [e_eq_lst, h3, andL_of ⟨h1, rfl, h2, by simp [dep, deps]⟩]
    rfl
end
@[simp] theorem ps_mk {n : Str} {ps : List Tre} : (Tre.mk n ps).ps = ps := rfl
@[simp] theorem nm_mk {n : Str} {ps : List Tre} : (Tre.mk n ps).nm = n := rfl
/-! drawn systems -/
def rot (menu : List Str) (st many : Nat) : List Str := (List.range many).map fun k => menu.getD ((st + k) % menu.length) default
def sgD (signs : List (Str × Nat)) : D := .lst (signs.map fun s => .tup [.str s.1, .int s.2])
/-- what a drawn term has: letters, and signs with their number of parts -/
def tA (signs : List (Str × Nat)) (letters : List Str) (n : Str) (k : Nat) : Prop := (n ∈ letters ∧ k = 0) ∨ (n, k) ∈ signs
structure GdS (signs : List (Str × Nat)) (letters : List Str) : Prop where
  len : signs.length ≤ 4
  leaf : ∃ s ∈ signs, s.2 = 0
  sg : ∀ s ∈ signs, Nm s.1 ∧ sm s.1 = false ∧ s.2 ≤ 2
  ll : letters.length ≤ 3
  lt : ∀ x ∈ letters, Nm x ∧ sm x = true
theorem tA_gd {signs : List (Str × Nat)} {letters : List Str} (G : GdS signs letters) {u : Tre} (h : okT (tA signs letters) u) : gd u := by
  refine okT_mono (fun n k hk => ?_) u h
  rcases hk with ⟨h1, h2⟩ | h1
  · exact ⟨(G.lt n h1).1, by omega, fun _ => h2⟩
  · have := G.sg _ h1
    refine ⟨this.1, ?_, fun hs => ?_⟩
    · have := this.2.2; simp only at this; omega
    · rw [this.2.1] at hs; cases hs
theorem rng_get {n i : Nat} {d : D} (h : ((List.range n).map fun k => D.int (k : Nat))[i]? = some d) : i < n ∧ d = .int i := by
  simp only [List.getElem?_map, Option.map_eq_some_iff] at h
  obtain ⟨j, hj, rfl⟩ := h
  by_cases hi : i < n
  · rw [List.getElem?_eq_getElem (by simpa using hi)] at hj
    simp at hj
    exact ⟨hi, by rw [hj]⟩
  · rw [List.getElem?_eq_none (by simp; omega)] at hj
    cases hj
theorem rot_mem {menu : List Str} {st many : Nat} {x : Str} (h : 0 < menu.length) (hx : x ∈ rot menu st many) : x ∈ menu := by
  unfold rot at hx
  obtain ⟨k, _, rfl⟩ := List.mem_map.mp hx
  have hlt : (st + k) % menu.length < menu.length := Nat.mod_lt _ h
  rw [List.getD_eq_getElem?_getD, List.getElem?_eq_getElem hlt]
  exact List.getElem_mem hlt
@[simp] theorem rot_len {menu : List Str} {st many : Nat} : (rot menu st many).length = many := by simp [rot]
theorem atI_neg1 {α : Type} {a : α} : atI [a] (-1) = some a := rfl
theorem atI_neg2 {α : Type} {a b : α} : atI [a, b] (-1) = some b := rfl
theorem atI_neg3 {α : Type} {a b c : α} : atI [a, b, c] (-1) = some c := rfl
def nmB (n : Str) : Bool := PyData.strOk n && decide (0 < n.length) && decide (n.length ≤ 8)
theorem nmB_iff {n : Str} : nmB n = true ↔ Nm n := by
  simp only [nmB, Bool.and_eq_true, decide_eq_true_eq]
  exact ⟨fun ⟨⟨h1, h2⟩, h3⟩ => ⟨h1, h2, h3⟩, fun ⟨h1, h2, h3⟩ => ⟨⟨h1, h2⟩, h3⟩⟩
def mnS : List Str := ["Num", "Pair", "N", "Nu", "Truth", "S1", "Abcdefgh"]
def mnK : List Str := ["Code", "Show", "C", "Kind2", "Num"]
def mnC : List Str := ["Zero", "Both", "Fst", "Yes", "Z", "If", "Pair", "Wrapping", "B2", "Ab", "Abc"]
def mnL : List Str := ["a", "b", "x1", "x2", "ab", "z"]
theorem mnS_ok : ∀ x ∈ mnS, Nm x ∧ sm x = false := by
  have h : mnS.all (fun n => nmB n && !sm n) = true := by decide +kernel
  intro x hx
  have := List.all_eq_true.mp h x hx
  simp only [Bool.and_eq_true, Bool.not_eq_true'] at this
  exact ⟨nmB_iff.mp this.1, this.2⟩
theorem mnL_ok : ∀ x ∈ mnL, Nm x ∧ sm x = true := by
  have h : mnL.all (fun n => nmB n && sm n) = true := by decide +kernel
  intro x hx
  have := List.all_eq_true.mp h x hx
  simp only [Bool.and_eq_true] at this
  exact ⟨nmB_iff.mp this.1, this.2⟩
/-- the signs over these names with these numbers of parts -/
def mkSg (names : List Str) (cs : List Nat) : List (Str × Nat) := (List.range cs.length).map fun k => (names.getD k default, cs.getD k 0)
structure CsOk (cs : List Nat) : Prop where
  len : cs.length ≤ 4
  leaf : 0 ∈ cs
  le : ∀ c ∈ cs, c ≤ 2
theorem mkSg_ok {names letters : List Str} {cs : List Nat} (hn : names.length = 4) (hN : ∀ x ∈ names, x ∈ mnS) (hc : CsOk cs) (hl : letters.length = 3) (hL : ∀ x ∈ letters, x ∈ mnL) : GdS (mkSg names cs) letters := by
  refine ⟨by simp [mkSg]; exact hc.len, ?_, ?_, by omega, fun x hx => mnL_ok x (hL x hx)⟩
  · obtain ⟨k, hk, e⟩ := List.getElem_of_mem hc.leaf
    refine ⟨(names.getD k default, cs.getD k 0), List.mem_map.mpr ⟨k, List.mem_range.mpr hk, rfl⟩, ?_⟩
    simp [List.getD_eq_getElem?_getD, List.getElem?_eq_getElem hk, e]
  · intro s hs
    obtain ⟨k, hk, rfl⟩ := List.mem_map.mp hs
    have hk := List.mem_range.mp hk
    have hk4 : k < names.length := by have := hc.len; omega
    have h1 := mnS_ok names[k] (hN _ (List.getElem_mem hk4))
    simp only [List.getD_eq_getElem?_getD, List.getElem?_eq_getElem hk, List.getElem?_eq_getElem hk4, Option.getD_some]
    exact ⟨h1.1, h1.2, hc.le _ (List.getElem_mem hk)⟩
def csD (cs : List Nat) : D := .lst (cs.map fun c => .int (c : Nat))
theorem len3 {α : Type} {l : List α} (h : l.length = 3) : ∃ a b c, l = [a, b, c] := by
  match l, h with
  | [a, b, c], _ => exact ⟨a, b, c, rfl⟩
theorem len4 {α : Type} {l : List α} (h : l.length = 4) : ∃ a b c d, l = [a, b, c, d] := by
  match l, h with
  | [a, b, c, d], _ => exact ⟨a, b, c, d, rfl⟩
end VL

set_option Elab.async false
set_option linter.all false
set_option autoImplicit false
set_option maxRecDepth 100000
/-! VLOrd: the order of trees: by size, name, parts. -/
namespace VL
open PySem PySem.Spec PyProof.Rows L2
noncomputable instance : DecidableEq Tre := fun _ _ => Classical.propDecidable _
def slt (x y : Str) : Bool := decide (x.cps.toList < y.cps.toList)
mutual
noncomputable def bef : Tre → Tre → Bool
  | .mk n ps, .mk m qs => if sz (.mk n ps) = sz (.mk m qs) then (if n = m then befs ps qs else slt n m) else decide (sz (.mk n ps) < sz (.mk m qs))
noncomputable def befs : List Tre → List Tre → Bool
  | p :: ps, q :: qs => if p = q then befs ps qs else bef p q
  | _, _ => false
end
theorem bef_mk {n m : Str} {ps qs : List Tre} : bef (.mk n ps) (.mk m qs) = if sz (.mk n ps) = sz (.mk m qs) then (if n = m then befs ps qs else slt n m) else decide (sz (.mk n ps) < sz (.mk m qs)) := by rw [bef]
theorem befs_cons {p q : Tre} {ps qs : List Tre} : befs (p :: ps) (q :: qs) = if p = q then befs ps qs else bef p q := by rw [befs]
theorem befs_nil {qs : List Tre} : befs [] qs = false := by rw [befs]; intros; contradiction
theorem befs_self : ∀ ps : List Tre, befs ps ps = false
  | [] => befs_nil
  | p :: ps => by rw [befs_cons, if_pos rfl]; exact befs_self ps
theorem slt_irr (x : Str) : slt x x = false := by
  simp only [slt, decide_eq_false_iff_not]
  exact List.lt_irrefl _
theorem slt_tri {x y : Str} (h : x ≠ y) : slt y x = !slt x y := by
  have hne : x.cps.toList ≠ y.cps.toList := fun e => h (PySem.W.str_of_cps e)
  have h1 : x.cps.toList < y.cps.toList ∨ y.cps.toList < x.cps.toList := by
    rcases Nat.lt_or_ge 0 0 with h | _
    · omega
    · by_cases h1 : x.cps.toList < y.cps.toList
      · exact .inl h1
      · exact .inr ((List.le_iff_lt_or_eq.mp (List.not_lt.mp h1)).resolve_right fun e => hne e.symm)
  simp only [slt]
  rcases h1 with h1 | h1
  · simp [h1, List.lt_asymm h1]
  · simp [h1, List.lt_asymm h1]
/-- one number of parts a name -/
def Fnl (A : Str → Nat → Prop) : Prop := ∀ n j k, A n j → A n k → j = k
theorem bef_tri {A : Str → Nat → Prop} (hA : Fnl A) (u : Tre) : ∀ v, okT A u → okT A v → u ≠ v → bef v u = !bef u v := by
  induction u using Tre.ind with
  | h n ps ih =>
    intro v hu hv hne
    obtain ⟨m, qs⟩ := v
    obtain ⟨hu1, hu2⟩ := okT_mk.mp hu
    obtain ⟨hv1, hv2⟩ := okT_mk.mp hv
    rw [bef_mk, bef_mk]
    by_cases hs : sz (.mk n ps) = sz (.mk m qs)
    · rw [if_pos hs, if_pos hs.symm]
      by_cases hn : n = m
      · subst hn
        rw [if_pos rfl, if_pos rfl]
        have hl : ps.length = qs.length := hA _ _ _ hu1 hv1
        have hps : ps ≠ qs := fun e => hne (by rw [e])
        clear hu hv hs hu1 hv1 hne
        induction ps generalizing qs with
        | nil =>
          cases qs with
          | nil => exact absurd rfl hps
          | cons q qs => simp at hl
        | cons p ps ihp =>
          cases qs with
          | nil => simp at hl
          | cons q qs =>
            rw [befs_cons, befs_cons]
            by_cases hpq : p = q
            · subst hpq
              rw [if_pos rfl, if_pos rfl]
              exact ihp (fun x hx => ih x (List.mem_cons_of_mem _ hx)) qs (fun x hx => hu2 x (List.mem_cons_of_mem _ hx)) (fun x hx => hv2 x (List.mem_cons_of_mem _ hx)) (by simpa using hl) (fun e => hps (by rw [e]))
            · rw [if_neg hpq, if_neg (fun e => hpq e.symm)]
              exact ih p List.mem_cons_self q (hu2 p List.mem_cons_self) (hv2 q List.mem_cons_self) hpq
      · rw [if_neg hn, if_neg (fun e => hn e.symm)]
        exact slt_tri hn
    · rw [if_neg hs, if_neg (fun e => hs e.symm)]
      by_cases h : sz (.mk n ps) < sz (.mk m qs)
      · have h' : ¬ sz (.mk m qs) < sz (.mk n ps) := by omega
        simp [h, h']
      · have h' : sz (.mk m qs) < sz (.mk n ps) := by omega
        simp [h, h']
theorem bef_self (u : Tre) : bef u u = false := by
  obtain ⟨n, ps⟩ := u
  rw [bef_mk, if_pos rfl, if_pos rfl]
  exact befs_self ps
/-! the keys -/
theorem strict_kyD (u : Tre) : strict (kyD u) = true := by
  induction u using Tre.ind with
  | h n ps ih =>
    rw [kyD_mk]
    simp [strict, stricts, stricts_map ih]
theorem plain_kyD (u : Tre) : gd u → plain (kyD u) = true := by
  induction u using Tre.ind with
  | h n ps ih =>
    intro hh
    obtain ⟨h1, h2⟩ := okT_mk.mp hh
    rw [kyD_mk]
    simp [plain, plains, h1.1.ok, plains_map fun p hp => ih p hp (h2 p hp)]
theorem dep_kyD (u : Tre) : dep (kyD u) ≤ 2 * dp u := by
  induction u using Tre.ind with
  | h n ps ih =>
    rw [kyD_mk]
    simp only [dep, deps, dp]
    have := deps_map (f := kyD) (xs := ps) (k := 2 * dps ps) fun p hp => by have := ih p hp; have := dps_mem hp; omega
    omega
theorem kyD_inj (u : Tre) : ∀ v, kyD u = kyD v → u = v := by
  induction u using Tre.ind with
  | h n ps ih =>
    intro v e
    obtain ⟨m, qs⟩ := v
    rw [kyD_mk, kyD_mk] at e
    simp only [D.tup.injEq, List.cons.injEq, D.str.injEq, and_true] at e
    obtain ⟨hsz, rfl, e⟩ := e
    clear hsz
    congr 1
    induction ps generalizing qs with
    | nil => cases qs with
      | nil => rfl
      | cons q qs => cases e
    | cons p ps ihp =>
      cases qs with
      | nil => cases e
      | cons q qs =>
        simp only [List.map_cons, List.cons.injEq] at e
        rw [ih p List.mem_cons_self q e.1, ihp (fun x hx => ih x (List.mem_cons_of_mem _ hx)) qs e.2]
theorem toPs_map {α : Type} {f : α → D} : ∀ xs : List α, toPs (xs.map f) = xs.map fun x => toP (f x)
  | [] => rfl
  | x :: xs => by simp [toPs, toPs_map xs]
theorem toP_ky (n : Str) (ps : List Tre) : toP (kyD (.mk n ps)) = .tuple [.int (sz (.mk n ps)), .str n, .tuple (ps.map fun p => toP (kyD p))] := by
  rw [kyD_mk]
  simp only [toP, toPs, toPs_map]
theorem alike_ky (u : Tre) : ∀ v, PySem.W.alike (toP (kyD u)) (toP (kyD v)) = true := by
  induction u using Tre.ind with
  | h n ps ih =>
    intro v
    obtain ⟨m, qs⟩ := v
    rw [toP_ky, toP_ky]
    simp only [PySem.W.alike, PySem.W.alikeAll, Bool.true_and, Bool.and_true]
    induction ps generalizing qs with
    | nil => cases qs <;> simp [PySem.W.alikeAll]
    | cons p ps ihp =>
      cases qs with
      | nil => simp [PySem.W.alikeAll]
      | cons q qs =>
        simp only [List.map_cons, PySem.W.alikeAll, Bool.and_eq_true]
        exact ⟨ih p List.mem_cons_self q, ihp (fun x hx => ih x (List.mem_cons_of_mem _ hx)) qs⟩
theorem eqv_ky (u v : Tre) : PyData.eqv (toP (kyD u)) (toP (kyD v)) = decide (u = v) := by
  rw [Bool.eq_iff_iff, eqv_iff (strict_kyD u) (strict_kyD v)]
  simp only [decide_eq_true_eq]
  exact ⟨kyD_inj u v, fun e => by rw [e]⟩
theorem lt_ky {A : Str → Nat → Prop} (hA : Fnl A) (u : Tre) : ∀ v, okT A u → okT A v → PySem.W.dataLt (toP (kyD u)) (toP (kyD v)) = bef u v := by
  induction u using Tre.ind with
  | h n ps ih =>
    intro v hu hv
    obtain ⟨m, qs⟩ := v
    obtain ⟨hu1, hu2⟩ := okT_mk.mp hu
    obtain ⟨hv1, hv2⟩ := okT_mk.mp hv
    have hal := alike_ky (.mk n ps) (.mk m qs)
    rw [toP_ky, toP_ky] at hal ⊢
    rw [PySem.W.dataLt_tuple, bef_mk]
    simp only [PySem.W.alike, PySem.W.alikeAll, Bool.true_and, Bool.and_true] at hal
    rw [PySem.W.dataLt_cons (by simp [PySem.W.alike])]
    by_cases hs : sz (.mk n ps) = sz (.mk m qs)
    · rw [if_pos hs, hs]
      have e1 : PyData.eqv (.int (sz (.mk m qs))) (.int (sz (.mk m qs))) = true := by simp [PyData.eqv]
      rw [if_pos e1, PySem.W.dataLt_cons (by simp [PySem.W.alike])]
      by_cases hn : n = m
      · subst hn
        have e2 : PyData.eqv (.str n) (.str n) = true := by simp [PyData.eqv]
        rw [if_pos e2, if_pos rfl, PySem.W.dataLt_cons (by simpa [PySem.W.alike] using hal)]
        have hl : ps.length = qs.length := hA _ _ _ hu1 hv1
        have key : PySem.W.dataLt (.tuple (ps.map fun p => toP (kyD p))) (.tuple (qs.map fun p => toP (kyD p))) = befs ps qs := by
          rw [PySem.W.dataLt_tuple]
          clear hu hv hs hu1 hv1 hal e1
          induction ps generalizing qs with
          | nil =>
            cases qs with
            | nil => rw [befs_nil]; exact PySem.W.dataLt_self (.tuple [])
            | cons q qs => simp at hl
          | cons p ps ihp =>
            cases qs with
            | nil => simp at hl
            | cons q qs =>
              simp only [List.map_cons]
              rw [PySem.W.dataLt_cons (alike_ky p q), befs_cons, eqv_ky, ih p List.mem_cons_self q (hu2 p List.mem_cons_self) (hv2 q List.mem_cons_self)]
              by_cases hpq : p = q
              · subst hpq
                simp only [decide_true, if_true, ↓reduceIte]
                exact ihp (fun x hx => ih x (List.mem_cons_of_mem _ hx)) qs (fun x hx => hu2 x (List.mem_cons_of_mem _ hx)) (fun x hx => hv2 x (List.mem_cons_of_mem _ hx)) (by simpa using hl)
              · simp [hpq]
        rw [key]
        by_cases hpq : ps = qs
        · subst hpq
          rw [befs_self]
          split
          · exact PySem.W.dataLt_self (.tuple [])
          · rfl
        · rw [if_neg]
          intro e
          have e3 := eqv_ky (.mk n ps) (.mk n qs)
          rw [toP_ky, toP_ky] at e3
          have e4 : decide (Tre.mk n ps = Tre.mk n qs) = false := by simp [hpq]
          rw [e4] at e3
          simp [PyData.eqv, PyData.eqvAll, hs] at e3 e
          rw [e] at e3
          cases e3
      · have e2 : PyData.eqv (.str n) (.str m) = false := by simp [PyData.eqv, hn]
        rw [if_neg (by rw [e2]; decide), if_neg hn, PySem.W.dataLt_str]
        rfl
    · have e1 : PyData.eqv (.int (sz (.mk n ps))) (.int (sz (.mk m qs))) = false := by simp [PyData.eqv, hs]
      rw [if_neg (by rw [e1]; decide), if_neg hs, PySem.W.dataLt_int]
section
variable {u v : Tre} {S : Sto} {P : D → Prop} {PB : Bool → Prop} {neg : Bool}
@[simp] theorem dr_kyD : dr S (kyD u) = kyD u := by obtain ⟨n, ps⟩ := u; rw [kyD_mk]; rfl
theorem eq_kyD {t : Tok PB} (hu : gd u) (hv : gd v) (du : dp u ≤ 32) (dv : dp v ≤ 32) : eqG neg (kyD u) (kyD v) PB t = letE (decide (u = v) != neg) PB () := by
  have h1 := plain_kyD u hu
  have h2 := plain_kyD v hv
  have h3 : dep (kyD u) ≤ 64 := by have := dep_kyD u; omega
  have h4 : dep (kyD v) ≤ 64 := by have := dep_kyD v; omega
  have h5 := eqv_ky u v
  obtain ⟨n, ps⟩ := u
  obtain ⟨m, qs⟩ := v
  rw [kyD_mk] at h1 h3
  rw [kyD_mk] at h2 h4
  rw [kyD_mk, kyD_mk] at h5
  rw [kyD_mk, kyD_mk, e_eq_tup, h5, andL_of ⟨h1, h2, h3, h4⟩]
theorem eq_tD2 {t : Tok PB} (hu : gd u) (hv : gd v) (du : dp u ≤ 32) (dv : dp v ≤ 32) : eqG neg (tD u) (tD v) PB t = letE (decide (u = v) != neg) PB () := by
  have h1 := plain_tD u hu
  have h2 := plain_tD v hv
  have h3 : dep (tD u) ≤ 64 := by have := dep_tD u; omega
  have h4 : dep (tD v) ≤ 64 := by have := dep_tD v; omega
  have h5 : PyData.eqv (toP (tD u)) (toP (tD v)) = decide (u = v) := by
    rw [Bool.eq_iff_iff, eqv_iff (strict_tD u) (strict_tD v)]
    simp only [decide_eq_true_eq]
    exact ⟨tD_inj u v, fun e => by rw [e]⟩
  obtain ⟨n, ps⟩ := u
  obtain ⟨m, qs⟩ := v
  rw [tD_mk] at h1 h3
  rw [tD_mk] at h2 h4
  rw [tD_mk, tD_mk] at h5
  rw [tD_mk, tD_mk, e_eq_tup, h5, andL_of ⟨h1, h2, h3, h4⟩]
theorem lt_kyD {A : Str → Nat → Prop} (hA : Fnl A) {t : Tok (vLtD, P)} (ou : okT A u) (ov : okT A v) (hu : gd u) (hv : gd v) (du : dp u ≤ 32) : bi vLtD (kyD u) (kyD v) S P t = letE (bef u v) (fun b => P (.bl b)) () := by
  have h1 := plain_kyD u hu
  have h2 := plain_kyD v hv
  have h3 : dep (kyD u) ≤ 64 := by have := dep_kyD u; omega
  have h4 := alike_ky u v
  have h5 : toP (kyD u) ≠ .none := by obtain ⟨n, ps⟩ := u; rw [toP_ky]; intro e; cases e
  show (plain (dr S (kyD u)) = true ∧ plain (dr S (kyD v)) = true ∧ dep (dr S (kyD u)) ≤ 64 ∧ PySem.W.alike (toP (dr S (kyD u))) (toP (dr S (kyD v))) = true ∧ toP (dr S (kyD u)) ≠ .none ∧ P (.bl (PySem.W.dataLt (toP (dr S (kyD u))) (toP (dr S (kyD v)))))) = _
  rw [dr_kyD, dr_kyD, lt_ky hA u v ou ov]
  simp [h1, h2, h3, h4, h5]
theorem le_kyD {A : Str → Nat → Prop} (hA : Fnl A) {t : Tok (vLeD, P)} (ou : okT A u) (ov : okT A v) (hu : gd u) (hv : gd v) (du : dp u ≤ 32) : bi vLeD (kyD u) (kyD v) S P t = letE (!bef v u) (fun b => P (.bl b)) () := by
  have h1 := plain_kyD u hu
  have h2 := plain_kyD v hv
  have h3 : dep (kyD u) ≤ 64 := by have := dep_kyD u; omega
  have h4 := alike_ky u v
  have h5 : toP (kyD u) ≠ .none := by obtain ⟨n, ps⟩ := u; rw [toP_ky]; intro e; cases e
  show (plain (dr S (kyD u)) = true ∧ plain (dr S (kyD v)) = true ∧ dep (dr S (kyD u)) ≤ 64 ∧ PySem.W.alike (toP (dr S (kyD u))) (toP (dr S (kyD v))) = true ∧ toP (dr S (kyD u)) ≠ .none ∧ P (.bl (!PySem.W.dataLt (toP (dr S (kyD v))) (toP (dr S (kyD u)))))) = _
  rw [dr_kyD, dr_kyD, lt_ky hA v u ov ou]
  simp [h1, h2, h3, h4, h5]
end
/-! names told apart -/
theorem rot_nodup {menu : List Str} {st many : Nat} (hn : menu.Nodup) (hm : many ≤ menu.length) : (rot menu st many).Nodup := by
  unfold rot
  rw [List.nodup_iff_pairwise_ne, List.pairwise_map]
  refine List.Pairwise.imp_of_mem ?_ List.pairwise_lt_range
  intro a b ha hb hab e
  have ha := List.mem_range.mp ha
  have hb := List.mem_range.mp hb
  have h0 : 0 < menu.length := by omega
  have h1 : (st + a) % menu.length < menu.length := Nat.mod_lt _ h0
  have h2 : (st + b) % menu.length < menu.length := Nat.mod_lt _ h0
  rw [List.getD_eq_getElem?_getD, List.getD_eq_getElem?_getD, List.getElem?_eq_getElem h1, List.getElem?_eq_getElem h2] at e
  have e := (List.getElem_inj hn).mp e
  have h3 : (st + b) % menu.length = (st + a) % menu.length := e.symm
  have h4 : (b - a) % menu.length = 0 := by
    have := Nat.sub_mod_eq_zero_of_mod_eq h3
    have h5 : st + b - (st + a) = b - a := by omega
    rwa [h5] at this
  rw [Nat.mod_eq_of_lt (by omega)] at h4
  omega
@[simp] theorem own_mD2 {u v : Tre} {ms : Ms} {P : String → Prop} {t : Tok (ms, P)} : ownG ms (mD u) (mD v) P t = opt (ms.lookup "Mark") P () := by rw [mD_fs, mD_fs]; simp
theorem mkSg_fn {names letters : List Str} {cs : List Nat} (hn : names.length = 4) (hd : names.Nodup) (G : GdS (mkSg names cs) letters) (hc : cs.length ≤ 4) : Fnl (tA (mkSg names cs) letters) := by
  intro n j k hj hk
  rcases hj with ⟨h1, h2⟩ | h1 <;> rcases hk with ⟨h3, h4⟩ | h3
  · omega
  · have a := (G.lt n h1).2
    have b := (G.sg _ h3).2.1
    simp only at b
    rw [a] at b; cases b
  · have a := (G.lt n h3).2
    have b := (G.sg _ h1).2.1
    simp only at b
    rw [a] at b; cases b
  · obtain ⟨a, ha, e1⟩ := List.mem_map.mp h1
    obtain ⟨b, hb, e2⟩ := List.mem_map.mp h3
    have ha := List.mem_range.mp ha
    have hb := List.mem_range.mp hb
    have la : a < names.length := by omega
    have lb : b < names.length := by omega
    simp only [Prod.mk.injEq, List.getD_eq_getElem?_getD, List.getElem?_eq_getElem la, List.getElem?_eq_getElem lb, Option.getD_some] at e1 e2
    have hab : a = b := (List.getElem_inj hd).mp (e1.1.trans e2.1.symm)
    subst hab
    exact e1.2.symm.trans e2.2
/-! the last leaf exchanged -/
mutual
def ol : Tre → Tre → Tre
  | .mk n ps, l => if ps.isEmpty = true then l else .mk n (ols ps l)
def ols : List Tre → Tre → List Tre
  | [], _ => []
  | [p], l => [ol p l]
  | p :: q :: r, l => p :: ols (q :: r) l
end
theorem ol_mk {n : Str} {ps : List Tre} {l : Tre} : ol (.mk n ps) l = if ps.isEmpty = true then l else .mk n (ols ps l) := by rw [ol]
theorem ols_last {l p : Tre} : ∀ ps : List Tre, ols (ps ++ [p]) l = ps ++ [ol p l]
  | [] => by simp [ols]
  | [q] => by simp [ols]
  | q :: r :: s => by
    have := ols_last (l := l) (p := p) (r :: s)
    simp only [List.cons_append] at this ⊢
    rw [ols, this]
theorem ol_ok {A : Str → Nat → Prop} {l : Tre} (hl : okT A l) (u : Tre) : okT A u → okT A (ol u l) ∧ (dp l ≤ 1 → dp (ol u l) ≤ dp u) := by
  induction u using Tre.ind with
  | h n ps ih =>
    intro hu
    obtain ⟨hu1, hu2⟩ := okT_mk.mp hu
    rw [ol_mk]
    split
    · exact ⟨hl, fun h => by simp only [dp]; omega⟩
    · rename_i hne
      rcases List.eq_nil_or_concat ps with e | ⟨qs, p, e⟩
      · subst e; simp at hne
      · simp only [List.concat_eq_append] at e
        subst e
        rw [ols_last]
        have hp := ih p (by simp) (hu2 p (by simp))
        refine ⟨okT_mk.mpr ⟨by simpa using hu1, ?_⟩, fun h => ?_⟩
        · intro q hq
          rcases List.mem_append.mp hq with hq | hq
          · exact hu2 q (by simp [hq])
          · simp only [List.mem_singleton] at hq
            subst hq; exact hp.1
        · rw [dp, dp]
          have : dps (qs ++ [ol p l]) ≤ dps (qs ++ [p]) := dps_le fun q hq => by
            rcases List.mem_append.mp hq with hq | hq
            · exact dps_mem (by simp [hq])
            · simp only [List.mem_singleton] at hq
              subst hq
              have h1 := hp.2 h
              have h2 : dp p ≤ dps (qs ++ [p]) := dps_mem (by simp)
              omega
          omega
end VL

set_option Elab.async false
set_option linter.all false
set_option autoImplicit false
set_option maxRecDepth 100000
/-! VLSym2: dicts, lent dicts, new results, run by simp; dicts of trees. -/
namespace VL
open PySem PySem.Spec PyProof.Rows L2
def odic (s : Option Sl) (P : List (Key × D) → Prop) (_ : Tok P) : Prop := match s with
  | some (.o (.dic kvs)) => P kvs
  | _ => False
@[simp] theorem odic_o {kvs : List (Key × D)} {P : List (Key × D) → Prop} {t : Tok P} : odic (some (.o (.dic kvs))) P t = P kvs := rfl
def vdic (s : Option Sl) (P : List (Key × D) → Prop) (_ : Tok P) : Prop := match s with
  | some (.v (.dic kvs)) => P kvs
  | _ => False
@[simp] theorem vdic_v {kvs : List (Key × D)} {P : List (Key × D) → Prop} {t : Tok P} : vdic (some (.v (.dic kvs))) P t = P kvs := rfl
def oAny (s : Option Sl) (P : D → Prop) (_ : Tok P) : Prop := match s with
  | some (.o d) => P d
  | _ => False
@[simp] theorem oAny_o {d : D} {P : D → Prop} {t : Tok P} : oAny (some (.o d)) P t = P d := rfl
def dicG (d : D) (P : List (Key × D) → Prop) (_ : Tok P) : Prop := dicOf d P
@[simp] theorem dicG_dic {kvs : List (Key × D)} {P : List (Key × D) → Prop} {t : Tok P} : dicG (.dic kvs) P t = P kvs := rfl
@[simp] theorem isDic_dic {kvs : List (Key × D)} : isDic (.dic kvs) = true := rfl
section
variable {ρ : En} {S : Sto} {Q : QD} {E : QE} {QS : Out → En → Sto → Prop} {QI : List D → (Sto → Prop) → En → Sto → Prop}
@[simp ↓] theorem e_wLend (i : Nat) (w : TV) : wLend i w ρ S Q E = odic ρ[i]? (fun kvs => andL ((ρ.all ndSl) = true) (letE (ρ.set i (.v (.dic kvs))) (fun ρ' => w ρ' S (fun d ρ1 S1 => andL (ρ1 = ρ' ∧ nd d = true ∧ (S1.all ndC) = true) (Q d ρ S1) ()) (fun _ _ _ => False)) ()) ()) () := by
  simp only [wLend, odic, andL, letE, and_assoc]
  all_goals rfl
@[simp ↓] theorem e_wLendF (i : Nat) (w : TV) : wLendF i w ρ S Q E = odic ρ[i]? (fun kvs => andL ((ρ.all ndSl) = true) (letE (ρ.set i (.v (.dic kvs))) (fun ρ' => w ρ' S (fun d ρ1 S1 => andL (ρ1 = ρ' ∧ ndC d = true ∧ (S1.all ndC) = true) (Q d ρ S1) ()) (fun _ _ _ => False)) ()) ()) () := by
  simp only [wLendF, odic, andL, letE, and_assoc]
  all_goals rfl
@[simp ↓] theorem e_wForK (i : Nat) (tg : Tg) (wb : TVS) : wForK i tg wb ρ S QS E = vdic ρ[i]? (fun kvs => letE (kvs.map fun kv => kD kv.1) (fun ds => forG GdT tg wb ds ρ S QS (fun _ _ _ => False) ()) ()) () := rfl
@[simp ↓] theorem e_wItK (i : Nat) : wItK i ρ S QI E = vdic ρ[i]? (fun kvs => letE (kvs.map fun kv => kD kv.1) (fun ds => QI ds GdT ρ S) ()) () := rfl
@[simp ↓] theorem e_wSetIx (i : Nat) (wk wv : TV) : wSetIx i wk wv ρ S QS E = wv ρ S (fun d ρ1 S1 => rsv ρ1 (.s i) fun _ => wk ρ1 S1 (fun kd ρ2 S2 => odic ρ2[i]? (fun kvs => opt (keyD kd) (fun k => andL (kvs.length < sizeLine) (letE (putD kvs k d) (fun kvs' => letE (ρ2.set i (.o (.dic kvs'))) (fun ρ3 => QS .nx ρ3 S2) ()) ()) ()) ()) ()) E) E := by
  simp only [wSetIx, odic, andL, letE, opt_ex]
  all_goals rfl
@[simp ↓] theorem e_wDGet2 (wo : TVO) (wk wx : TV) : wDGet2 wo wk wx ρ S Q E = wo ρ S (fun h ρ1 S1 => rsv ρ1 h fun d => andL (isDic (dr S1 d) = true) (wk ρ1 S1 (fun kd ρ2 S2 => wx ρ2 S2 (fun x ρ3 S3 => rsv ρ3 h fun d => dicG (dr S3 d) (fun kvs => opt (keyD kd) (fun k => letE ((valD kvs k).getD x) (fun z => Q z ρ3 S3) ()) ()) ()) E) E) ()) E := by
  simp only [wDGet2, dicG, andL, letE, opt_ex]
@[simp ↓] theorem e_wSeqF (w1 w2 : TVS) : wSeqF w1 w2 ρ S QS E = w1 ρ S (fun o ρ1 S1 => match o with | .nx => w2 ρ1 S1 QS E | _ => False) E := rfl
@[simp ↓] theorem e_wRetF (i : Nat) : wRetF i ρ S QS E = oAny ρ[i]? (fun d => QS (.rt d) ρ S) () := rfl
@[simp] theorem e_ix_dic {kvs : List (Key × D)} {y : D} {P : D → Prop} {t : Tok (vIx, P)} : bi vIx (.dic kvs) y S P t = opt (keyD y) (fun k => opt (valD kvs k) P ()) () := by
  show (∃ k d, keyD y = some k ∧ valD kvs k = some d ∧ P d) = _
  simp only [← opt_ex, exists_and_left]
@[simp] theorem e_in_dic {neg : Bool} {kvs : List (Key × D)} {y : D} {PB : Bool → Prop} {t : Tok PB} : inG neg y (.dic kvs) PB t = opt (keyD y) (fun k => letE ((valD kvs k).isSome != neg) PB ()) () := by
  show (∃ k, keyD y = some k ∧ PB ((valD kvs k).isSome != neg)) = _
  simp only [← opt_ex, letE]
@[simp] theorem items_lst {b : List D} {P : List D → Prop} {t : Tok P} : itemsG (.lst b) P t = P b := rfl
@[simp] theorem keyD_str (x : Str) : keyD (.str x) = some (.inr x) := rfl
@[simp] theorem keyD_int (x : Int) : keyD (.int x) = some (.inl x) := rfl
@[simp] theorem ndSl_v (d : D) : ndSl (.v d) = true := rfl
@[simp] theorem ndSl_un : ndSl .un = true := rfl
@[simp] theorem ndSl_o (d : D) : ndSl (.o d) = ndC d := rfl
@[simp] theorem nd_non : nd .non = true := by simp only [nd]
@[simp] theorem nd_bl (b : Bool) : nd (.bl b) = true := by simp only [nd]
@[simp] theorem nd_int (b : Int) : nd (.int b) = true := by simp only [nd]
@[simp] theorem nd_str (b : Str) : nd (.str b) = true := by simp only [nd]
@[simp] theorem nd_tup (l : List D) : nd (.tup l) = nds l := by simp only [nd]
@[simp] theorem nd_lst (l : List D) : nd (.lst l) = nds l := by simp only [nd]
@[simp] theorem nd_obj (c : String) (l : List (String × D)) : nd (.obj c l) = ndF l := by simp only [nd]
@[simp] theorem nds_nil : nds [] = true := by simp only [nds]
@[simp] theorem nds_cons (d : D) (l : List D) : nds (d :: l) = (nd d && nds l) := by simp only [nds]
@[simp] theorem ndF_nil : ndF [] = true := by simp only [ndF]
@[simp] theorem ndF_cons (f : String) (d : D) (l : List (String × D)) : ndF ((f, d) :: l) = (nd d && ndF l) := by simp only [ndF]
@[simp] theorem ndC_lst (l : List D) : ndC (.lst l) = nds l := rfl
theorem nds_map {α : Type} {f : α → D} : ∀ {xs : List α}, (∀ x ∈ xs, nd (f x) = true) → nds (xs.map f) = true
  | [], _ => nds_nil
  | x :: xs, h => by
    rw [List.map_cons, nds_cons, h x List.mem_cons_self, Bool.true_and]
    exact nds_map fun y hy => h y (List.mem_cons_of_mem _ hy)
@[simp] theorem nds_ints (l : List Int) : nds (l.map D.int) = true := nds_map fun _ _ => nd_int _
@[simp] theorem nds_strs (l : List Str) : nds (l.map D.str) = true := nds_map fun _ _ => nd_str _
end
@[simp] theorem nd_tD (u : Tre) : nd (tD u) = true := by
  induction u using Tre.ind with
  | h n ps ih => rw [tD_mk]; simp [nds_map ih]
@[simp] theorem nd_kyD (u : Tre) : nd (kyD u) = true := by
  induction u using Tre.ind with
  | h n ps ih => rw [kyD_mk]; simp [nds_map ih]
@[simp] theorem nd_mD (u : Tre) : nd (mD u) = true := by
  induction u using Tre.ind with
  | h n ps ih => rw [mD_mk]; simp [nds_map ih]
/-! dicts of trees -/
abbrev As := List (Str × Tre)
def kvT (vs : As) : List (Key × D) := vs.map fun x => (.inr x.1, tD x.2)
def kvM (vs : As) : List (Key × D) := vs.map fun x => (.inr x.1, mD x.2)
def getA (vs : As) (x : Str) : Option Tre := (vs.find? fun kv => decide (kv.1 = x)).map (·.2)
def putA (vs : As) (x : Str) (u : Tre) : As := if (vs.any fun kv => decide (kv.1 = x)) = true then vs.map (fun kv => if kv.1 = x then (kv.1, u) else kv) else vs ++ [(x, u)]
theorem valD_mapA {f : Tre → D} (x : Str) : ∀ vs : As, valD (vs.map fun x => (Sum.inr x.1, f x.2)) (.inr x) = (getA vs x).map f
  | [] => rfl
  | (y, u) :: vs => by
    have ih := valD_mapA (f := f) x vs
    unfold valD getA at ih ⊢
    by_cases h : y = x
    · subst h; simp
    · have h' : ¬ ((Sum.inr y : Key) = .inr x) := fun e => h (Sum.inr.inj e)
      simp only [List.map_cons, List.find?_cons, h', h, decide_false]
      exact ih
@[simp] theorem val_kvT (vs : As) (x : Str) : valD (kvT vs) (.inr x) = (getA vs x).map tD := valD_mapA x vs
@[simp] theorem val_kvM (vs : As) (x : Str) : valD (kvM vs) (.inr x) = (getA vs x).map mD := valD_mapA x vs
theorem putD_mapA {f : Tre → D} (x : Str) (u : Tre) (vs : As) : putD (vs.map fun x => (Sum.inr x.1, f x.2)) (.inr x) (f u) = (putA vs x u).map fun x => (Sum.inr x.1, f x.2) := by
  have e : ((vs.map fun x => ((Sum.inr x.1 : Key), f x.2)).any fun kv => decide (kv.1 = .inr x)) = (vs.any fun kv => decide (kv.1 = x)) := by
    rw [List.any_map]
    congr 1
    funext kv
    simp
  unfold putD putA
  rw [e]
  split
  · rw [List.map_map, List.map_map]
    refine List.map_congr_left fun kv _ => ?_
    by_cases h : kv.1 = x
    · simp [h]
    · have h' : ¬ ((Sum.inr kv.1 : Key) = .inr x) := fun e => h (Sum.inr.inj e)
      simp [h]
  · simp
@[simp] theorem put_kvT (vs : As) (x : Str) (u : Tre) : putD (kvT vs) (.inr x) (tD u) = kvT (putA vs x u) := putD_mapA x u vs
@[simp] theorem put_kvM (vs : As) (x : Str) (u : Tre) : putD (kvM vs) (.inr x) (mD u) = kvM (putA vs x u) := putD_mapA x u vs
@[simp] theorem keys_kvT (vs : As) : ((kvT vs).map fun kv => kD kv.1) = vs.map fun x => D.str x.1 := by simp [kvT, kD]
@[simp] theorem keys_kvM (vs : As) : ((kvM vs).map fun kv => kD kv.1) = vs.map fun x => D.str x.1 := by simp [kvM, kD]
@[simp] theorem len_kvT (vs : As) : (kvT vs).length = vs.length := by simp [kvT]
@[simp] theorem len_kvM (vs : As) : (kvM vs).length = vs.length := by simp [kvM]
@[simp] theorem ndC_kvT (vs : As) : ndC (.dic (kvT vs)) = true := by simp [ndC, kvT]
@[simp] theorem ndC_kvM (vs : As) : ndC (.dic (kvM vs)) = true := by simp [ndC, kvM]
theorem getA_mem {vs : As} {x : Str} {u : Tre} (h : getA vs x = some u) : (x, u) ∈ vs := by
  unfold getA at h
  cases e : vs.find? fun kv => decide (kv.1 = x) with
  | none => rw [e] at h; cases h
  | some kv =>
    rw [e] at h
    cases h
    have h1 := List.find?_some e
    have h2 := List.mem_of_find?_eq_some e
    simp only [decide_eq_true_eq] at h1
    rw [← h1]; exact h2
theorem getA_some {vs : As} {x : Str} {u : Tre} (hn : (vs.map (·.1)).Nodup) (h : (x, u) ∈ vs) : getA vs x = some u := by
  induction vs with
  | nil => cases h
  | cons kv vs ih =>
    unfold getA
    rw [List.find?_cons]
    simp only [List.map_cons, List.nodup_cons] at hn
    by_cases e : kv.1 = x
    · rcases List.mem_cons.mp h with h | h
      · subst h; simp
      · exact absurd (List.mem_map_of_mem (f := (·.1)) h) (by rw [e] at hn; exact hn.1)
    · rcases List.mem_cons.mp h with h | h
      · subst h; exact absurd rfl e
      · rw [decide_eq_false e]; exact ih hn.2 h
theorem putA_keys {vs : As} {x : Str} {u : Tre} (hn : (vs.map (·.1)).Nodup) : ((putA vs x u).map (·.1)).Nodup := by
  unfold putA
  split
  · rw [List.map_map]
    have e : ((fun kv : Str × Tre => kv.1) ∘ fun kv : Str × Tre => if kv.1 = x then (kv.1, u) else kv) = (·.1) := by
      funext kv
      simp only [Function.comp]
      split <;> rfl
    rw [e]; exact hn
  · rename_i h
    rw [List.map_append, List.nodup_append]
    refine ⟨hn, by simp, fun a ha b hb => ?_⟩
    simp only [List.map_cons, List.map_nil, List.mem_singleton] at hb
    subst hb
    obtain ⟨kv, hk, rfl⟩ := List.mem_map.mp ha
    intro e
    exact h (List.any_eq_true.mpr ⟨kv, hk, by simpa using e⟩)
theorem putA_mem {vs : As} {x : Str} {u : Tre} {kv : Str × Tre} (h : kv ∈ putA vs x u) : kv = (x, u) ∨ kv ∈ vs := by
  unfold putA at h
  split at h
  · obtain ⟨kv', hk, rfl⟩ := List.mem_map.mp h
    split
    · rename_i e; left; rw [e]
    · exact .inr hk
  · rcases List.mem_append.mp h with h | h
    · exact .inr h
    · left; simpa using h
theorem putA_len {vs : As} {x : Str} {u : Tre} : (putA vs x u).length ≤ vs.length + 1 := by
  unfold putA
  split <;> simp
theorem putA_fresh {vs : As} {x : Str} {u : Tre} (h : ∀ kv ∈ vs, kv.1 ≠ x) : putA vs x u = vs ++ [(x, u)] := by
  unfold putA
  rw [if_neg]
  intro e
  obtain ⟨kv, hk, e⟩ := List.any_eq_true.mp e
  exact h kv hk (by simpa using e)
/-! letters replaced -/
mutual
def rp (vs : As) : Tre → Tre
  | .mk n ps => match getA vs n with
    | some u => u
    | none => .mk n (rps vs ps)
def rps (vs : As) : List Tre → List Tre
  | [] => []
  | p :: ps => rp vs p :: rps vs ps
end
theorem rps_map (vs : As) : ∀ ps : List Tre, rps vs ps = ps.map (rp vs)
  | [] => by simp [rps]
  | p :: ps => by simp [rps, rps_map vs ps]
theorem rp_mk (vs : As) (n : Str) (ps : List Tre) : rp vs (.mk n ps) = match getA vs n with
    | some u => u
    | none => .mk n (ps.map (rp vs)) := by rw [rp, rps_map]
theorem rp_nil (u : Tre) : rp [] u = u := by
  induction u using Tre.ind with
  | h n ps ih =>
    rw [rp_mk]
    show Tre.mk n (ps.map (rp [])) = _
    congr 1
    exact (List.map_congr_left (g := id) fun p hp => ih p hp).trans (List.map_id ps)
/-- a dict that names letters only, whose trees are of this kind -/
structure AsOk (A : Str → Nat → Prop) (M : Nat) (vs : As) : Prop where
  nd : (vs.map (·.1)).Nodup
  len : vs.length < 60
  sm : ∀ kv ∈ vs, sm kv.1 = true ∧ PyData.strOk kv.1 = true
  ok : ∀ kv ∈ vs, okT A kv.2 ∧ dp kv.2 ≤ M
theorem rp_dp {vs : As} {M : Nat} (h : ∀ kv ∈ vs, dp kv.2 ≤ M) (u : Tre) : dp (rp vs u) ≤ dp u + M := by
  induction u using Tre.ind with
  | h n ps ih =>
    rw [rp_mk]
    split
    · rename_i u e
      have := h _ (getA_mem e)
      simp only at this
      omega
    · simp only [dp]
      have : dps (ps.map (rp vs)) ≤ dps ps + M := dps_le fun q hq => by
        obtain ⟨p, hp, rfl⟩ := List.mem_map.mp hq
        have := ih p hp
        have := dps_mem hp
        omega
      omega
theorem rp_ok {A : Str → Nat → Prop} {vs : As} (h : ∀ kv ∈ vs, okT A kv.2) (u : Tre) : okT A u → okT A (rp vs u) := by
  induction u using Tre.ind with
  | h n ps ih =>
    intro hu
    obtain ⟨h1, h2⟩ := okT_mk.mp hu
    rw [rp_mk]
    split
    · rename_i u e
      exact h _ (getA_mem e)
    · refine okT_mk.mpr ⟨by rw [List.length_map]; exact h1, fun q hq => ?_⟩
      obtain ⟨p, hp, rfl⟩ := List.mem_map.mp hq
      exact ih p hp (h2 p hp)
/-! sorted texts are one list -/
def leS (x y : Str) : Prop := x.cps.toList ≤ y.cps.toList
theorem risingS_pw : ∀ {r : List Str} {p : Str}, risingS p r = true → (p :: r).Pairwise leS
  | [], p, _ => by simp
  | x :: r, p, h => by
    rw [risingS, Bool.and_eq_true, Bool.not_eq_true', ltCps_eq, decide_eq_false_iff_not] at h
    have ih := risingS_pw (p := x) h.2
    have hp : leS p x := List.not_lt.mp h.1
    refine List.pairwise_cons.mpr ⟨fun y hy => ?_, ih⟩
    rcases List.mem_cons.mp hy with rfl | hy
    · exact hp
    · exact List.le_trans hp ((List.pairwise_cons.mp ih).1 y hy)
theorem sortedS_pw : ∀ {l : List Str}, sortedS l = true → l.Pairwise leS
  | [], _ => List.Pairwise.nil
  | x :: r, h => risingS_pw h
theorem sorted_one : ∀ {ys zs : List Str}, ys.Pairwise leS → zs.Pairwise leS → ys.Perm zs → ys = zs
  | [], zs, _, _, p => (List.nil_perm.mp p).symm
  | y :: ys, [], _, _, p => absurd p.length_eq (by simp)
  | y :: ys, z :: zs, h1, h2, p => by
    have e : y = z := by
      rcases List.mem_cons.mp (p.mem_iff.mp List.mem_cons_self) with e | m1
      · exact e
      · rcases List.mem_cons.mp (p.mem_iff.mpr (List.mem_cons_self (a := z))) with e | m2
        · exact e.symm
        · have a := (List.pairwise_cons.mp h2).1 y m1
          have b := (List.pairwise_cons.mp h1).1 z m2
          exact PySem.W.str_of_cps (List.le_antisymm b a)
    subst e
    rw [sorted_one (List.pairwise_cons.mp h1).2 (List.pairwise_cons.mp h2).2 ((List.perm_cons y).mp p)]
theorem sortedS_one {ys zs ns : List Str} (p1 : ys.Perm ns) (s1 : sortedS ys = true) (p2 : zs.Perm ns) (s2 : sortedS zs = true) : ys = zs :=
  sorted_one (sortedS_pw s1) (sortedS_pw s2) (p1.trans p2.symm)
end VL

set_option Elab.async false
set_option linter.all false
set_option autoImplicit false
set_option maxRecDepth 100000
/-! VLSym3: raise, try, isinstance of an error, sorted({..}), run by simp. -/
namespace VL
open PySem PySem.Spec PyProof.Rows L2
def sxG (Gd : Sto → Prop) (tg : Tg) (vs : List Nat) (we : TV) (ds : List D) (acc : List Str) (ρ : En) (S : Sto) (Q : List Str → En → Sto → Prop) (_ : Tok (Gd, tg, vs, we, Q)) : Prop := sxGo Gd tg vs we ds acc ρ S Q
/-- the error's turn -/
def xTurn (cm : String → Option Bool) (ex : Ex) (p q : Prop) (_ : Tok (p, q)) : Prop := match cm ex.c with
  | some true => p
  | some false => q
  | none => False
theorem xTurn_yes {cm : String → Option Bool} {ex : Ex} {p q : Prop} {t : Tok (p, q)} (h : cm ex.c = some true) : xTurn cm ex p q t = p := by simp [xTurn, h]
theorem xTurn_no {cm : String → Option Bool} {ex : Ex} {p q : Prop} {t : Tok (p, q)} (h : cm ex.c = some false) : xTurn cm ex p q t = q := by simp [xTurn, h]
def xSl (s : Option Sl) (P : Ex → Prop) (_ : Tok P) : Prop := match s with
  | some (.x ex) => P ex
  | _ => False
@[simp] theorem xSl_x {ex : Ex} {P : Ex → Prop} {t : Tok P} : xSl (some (.x ex)) P t = P ex := rfl
section
variable {ρ : En} {S : Sto} {Q : QD} {E : QE} {QS : Out → En → Sto → Prop}
@[simp ↓] theorem e_wRaise1 (cl : String) (w : TV) : wRaise1 cl w ρ S QS E = w ρ S (fun _ ρ1 S1 => E ⟨cl, []⟩ ρ1 S1) E := rfl
@[simp ↓] theorem e_wTry (i : Nat) (cm : String → Option Bool) (wb ws : TVS) : wTry i cm wb ws ρ S QS E = wb ρ S QS (fun ex ρ1 S1 => andL (noX ρ1 = true ∧ i < ρ1.length) (xTurn cm ex (letE ((ρ1.set i .un).set i (.x ex)) (fun ρ' => ws ρ' S1 (fun o ρ2 S2 => letE (ρ2.set i .un) (fun ρ3 => andL (noX ρ3 = true) (QS o ρ3 S2) ()) ()) (fun _ _ _ => False)) ()) (E ex ρ1 S1) ()) ()) := by
  simp only [wTry, xTurn, andL, letE, and_assoc]
  all_goals rfl
@[simp ↓] theorem e_wIsX (i : Nat) (tb : String → Option Bool) : wIsX i tb ρ S Q E = xSl ρ[i]? (fun ex => andL (ex.fs = []) (opt (tb ex.c) (fun b => Q (.bl b) ρ S) ()) ()) () := by
  simp only [wIsX, xSl, andL, opt_ex]
  all_goals rfl
@[simp ↓] theorem e_wSortSet (wi : TVI) (tg : Tg) (vs : List Nat) (we : TV) : wSortSet wi tg vs we ρ S Q E = wi ρ S (fun ds Gd ρ1 S1 => andL (noOwn ρ1 vs = true) (letE (wipeE ρ1 vs) (fun ρ' => sxG Gd tg vs we ds [] ρ' S1 (fun l ρ2 S2 => l.length < 64 ∧ ∀ ys : List Str, ys.Perm l → sortedS ys = true → letE (backE ρ1 ρ2 vs) (fun ρ3 => Q (.lst (ys.map D.str)) ρ3 S2) ()) ()) ()) ()) E := rfl
@[simp] theorem nx_v (d : D) : Sl.nx (.v d) = true := rfl
@[simp] theorem nx_o (d : D) : Sl.nx (.o d) = true := rfl
@[simp] theorem nx_un : Sl.nx .un = true := rfl
@[simp] theorem noX_nil : noX [] = true := rfl
@[simp] theorem noX_cons (s : Sl) (ρ : En) : noX (s :: ρ) = (s.nx && noX ρ) := rfl
end
/-- each once, as a set takes them -/
def setL (acc : List Str) (x : Str) : List Str := if x ∈ acc then acc else x :: acc
theorem sx_pure {α : Type} {Gd : Sto → Prop} {tg : Tg} {vs : List Nat} {we : TV} {ρ : En} {S : Sto} {g : α → D} {f : α → Str} {Q : List Str → En → Sto → Prop} (hG : Gd S) : ∀ {xs : List α} {acc : List Str} {t : Tok (Gd, tg, vs, we, Q)}, acc.length + xs.length + 1 < scanBound →
    (∀ x ∈ xs, ∀ K : QD, opt (bindT tg (g x) ρ) (fun ρ1 => wipeE ρ1 vs = ρ ∧ we ρ1 S K (fun _ _ _ => False) = K (.str (f x)) ρ1 S) ()) → sxG Gd tg vs we (xs.map g) acc ρ S Q t = Q ((xs.map f).foldl setL acc) ρ S
  | [], acc, t, _, _ => by simp [sxG, sxGo, hG]
  | x :: xs, acc, t, hl, h => by
    have h0 := h x List.mem_cons_self
    obtain ⟨ρ1, e⟩ : ∃ ρ1, bindT tg (g x) ρ = some ρ1 := by
      have := h0 fun _ _ _ => True
      rw [← opt_ex] at this
      obtain ⟨ρ1, e, _⟩ := this
      exact ⟨ρ1, e⟩
    simp only [e, opt_some] at h0
    have hw := (h0 fun _ _ _ => True).1
    simp only [List.length_cons] at hl
    have ll : (setL acc (f x)).length + xs.length + 1 < scanBound := by
      unfold setL
      split
      · omega
      · simp only [List.length_cons]; omega
    have hl1 : acc.length + 1 < scanBound := by omega
    have ih := sx_pure (α := α) (Q := Q) (t := ()) (acc := setL acc (f x)) hG ll fun y hy => h y (List.mem_cons_of_mem _ hy)
    unfold sxG at ih ⊢
    simp only [List.map_cons, sxGo, e, Option.some.injEq, exists_eq_left', hG, true_and, List.foldl_cons]
    rw [(h0 _).2]
    simp only [D.str.injEq, exists_eq_left', hw, hl1, true_and]
    exact ih
theorem sx_pureR {α : Type} {Gd : Sto → Prop} {tg : Tg} {vs : List Nat} {we : TV} {ρ : En} {S : Sto} {g : α → D} {Q : List Str → En → Sto → Prop} {xs : List α} {acc : List Str} {t : Tok (Gd, tg, vs, we, Q)} (f : α → Str) (hG : Gd S) (hl : acc.length + xs.length + 1 < scanBound)
    (h : ∀ x ∈ xs, ∀ K : QD, opt (bindT tg (g x) ρ) (fun ρ1 => wipeE ρ1 vs = ρ ∧ we ρ1 S K (fun _ _ _ => False) = K (.str (f x)) ρ1 S) ()) (k : Q ((xs.map f).foldl setL acc) ρ S) : sxG Gd tg vs we (xs.map g) acc ρ S Q t := by
  rw [sx_pure hG hl h]; exact k
theorem setL_mem {x : Str} : ∀ {xs acc : List Str}, x ∈ xs.foldl setL acc ↔ x ∈ acc ∨ x ∈ xs
  | [], acc => by simp
  | y :: ys, acc => by
    simp only [List.foldl_cons]
    rw [setL_mem]
    unfold setL
    split
    · rename_i h
      simp only [List.mem_cons]
      constructor
      · rintro (q | q)
        · exact .inl q
        · exact .inr (.inr q)
      · rintro (q | q | q)
        · exact .inl q
        · subst q; exact .inl h
        · exact .inr q
    · simp only [List.mem_cons]
      constructor
      · rintro ((q | q) | q)
        · exact .inr (.inl q)
        · exact .inl q
        · exact .inr (.inr q)
      · rintro (q | q | q)
        · exact .inl (.inr q)
        · exact .inl (.inl q)
        · exact .inr q
theorem setL_nodup : ∀ {xs acc : List Str}, acc.Nodup → (xs.foldl setL acc).Nodup
  | [], acc, h => h
  | y :: ys, acc, h => by
    simp only [List.foldl_cons]
    refine setL_nodup ?_
    unfold setL
    split
    · exact h
    · rename_i n
      exact List.nodup_cons.mpr ⟨n, h⟩
theorem setL_len : ∀ {xs acc : List Str}, (xs.foldl setL acc).length ≤ acc.length + xs.length
  | [], acc => by simp
  | y :: ys, acc => by
    have h1 := setL_len (xs := ys) (acc := setL acc y)
    have h2 : (setL acc y).length ≤ acc.length + 1 := by
      unfold setL; split <;> simp
    simp only [List.foldl_cons, List.length_cons]; omega
end VL

set_option Elab.async false
set_option linter.all false
set_option autoImplicit false
set_option maxRecDepth 100000
/-! VLTree3: trees by their number of names; reading and writing them. No program in sight. -/
namespace VL
open PySem PySem.Spec PyProof.Rows L2
open TL (tl)
open SX (S S_tl S_inj S_len S_cat S_beq_eq)
/-! ### by the number of names -/
mutual
def nz : Tre → Nat
  | .mk _ ps => nzs ps + 1
def nzs : List Tre → Nat
  | [] => 0
  | p :: ps => nz p + nzs ps
end
theorem nz_mk {n : Str} {ps : List Tre} : nz (.mk n ps) = nzs ps + 1 := by rw [nz]
theorem nz_pos (t : Tre) : 0 < nz t := by cases t; rw [nz_mk]; omega
theorem nzs_mem : ∀ {ps : List Tre} {p : Tre}, p ∈ ps → nz p ≤ nzs ps
  | q :: ps, p, h => by
    rw [nzs]
    rcases List.mem_cons.mp h with rfl | h
    · omega
    · have := nzs_mem h; omega
theorem nzs_len : ∀ {ps : List Tre}, ps.length ≤ nzs ps
  | [] => Nat.le_refl _
  | p :: ps => by
    have h1 := nzs_len (ps := ps)
    have h2 := nz_pos p
    rw [nzs, List.length_cons]; omega
theorem nzs_sum {f : Tre → Nat} {a : Nat} : ∀ {ps : List Tre}, (∀ p ∈ ps, f p ≤ a * nz p) → (ps.map f).sum ≤ a * nzs ps
  | [], _ => by simp [nzs]
  | p :: ps, h => by
    have h1 := h p List.mem_cons_self
    have h2 := nzs_sum (ps := ps) fun q hq => h q (List.mem_cons_of_mem _ hq)
    rw [nzs, List.map_cons, List.sum_cons, Nat.mul_add]; omega
theorem dps_nzs : ∀ {ps : List Tre}, (∀ p ∈ ps, dp p ≤ nz p) → dps ps ≤ nzs ps
  | [], _ => Nat.le_refl _
  | p :: ps, h => by
    have h1 := h p List.mem_cons_self
    have h2 := dps_nzs (ps := ps) fun q hq => h q (List.mem_cons_of_mem _ hq)
    rw [dps, nzs]; omega
theorem dp_nz (t : Tre) : dp t ≤ nz t := by
  induction t using Tre.ind with
  | h n ps ih =>
    rw [dp, nz_mk]
    have := dps_nzs ih
    omega
def GdN (n : Str) (k : Nat) : Prop := Nm n ∧ (sm n = true → k = 0)
/-- names, letters without parts, at most 2000 names -/
structure gz (t : Tre) : Prop where
  ok : okT GdN t
  n : nz t ≤ 2000
theorem gz.nm {n : Str} {ps : List Tre} (h : gz (.mk n ps)) : Nm n := (okT_mk.mp h.ok).1.1
theorem gz.len {n : Str} {ps : List Tre} (h : gz (.mk n ps)) : ps.length ≤ 2000 := by
  have h1 := h.n
  have h2 := nzs_len (ps := ps)
  rw [nz_mk] at h1; omega
theorem gz.lt {n : Str} {ps : List Tre} (h : gz (.mk n ps)) (hs : sm n = true) : ps = [] := List.eq_nil_of_length_eq_zero ((okT_mk.mp h.ok).1.2 hs)
theorem gz.sub {n : Str} {ps : List Tre} (h : gz (.mk n ps)) {p : Tre} (hp : p ∈ ps) : gz p := ⟨(okT_mk.mp h.ok).2 p hp, by
  have h1 := h.n
  have h2 := nzs_mem hp
  rw [nz_mk] at h1; omega⟩
theorem foldl_lts_sum : ∀ {ps : List Tre} {acc : List Str}, (ps.foldl (fun a p => (lts p).foldl addL a) acc).length ≤ acc.length + (ps.map fun p => (lts p).length).sum
  | [], acc => by simp
  | p :: ps, acc => by
    have h1 := foldl_lts_sum (ps := ps) (acc := (lts p).foldl addL acc)
    have h2 := foldl_addL_len (xs := lts p) (acc := acc)
    simp only [List.foldl_cons, List.map_cons, List.sum_cons]; omega
theorem lts_nz (t : Tre) : (lts t).length ≤ nz t := by
  induction t using Tre.ind with
  | h n ps ih =>
    rw [lts_mk, nz_mk]
    split
    · simp
    · have h1 := foldl_lts_sum (ps := ps) (acc := [])
      have h2 := nzs_sum (f := fun p => (lts p).length) (a := 1) (ps := ps) fun p hp => by have := ih p hp; omega
      simp only [List.length_nil, Nat.zero_add, Nat.one_mul] at h1 h2
      omega
theorem lts_nmN {A : Str → Nat → Prop} (hA : ∀ n k, A n k → Nm n) (u : Tre) : okT A u → ∀ x ∈ lts u, Nm x ∧ sm x = true := by
  induction u using Tre.ind with
  | h n ps ih =>
    intro hh
    obtain ⟨h1, h2⟩ := okT_mk.mp hh
    rw [lts_mk]
    split
    · rename_i hs
      intro x hx
      simp only [List.mem_singleton] at hx
      subst hx
      exact ⟨hA _ _ h1, hs⟩
    · intro x hx
      rw [foldl_lts_mem] at hx
      rcases hx with hx | ⟨p, hp, hx⟩
      · cases hx
      · exact ih p hp (h2 p hp) x hx
theorem gz.ltsN {u : Tre} (h : gz u) : ∀ x ∈ lts u, Nm x ∧ sm x = true := lts_nmN (fun _ _ h => h.1) u h.ok
theorem sum_add2 {f : Tre → Nat} {ps : List Tre} : (ps.map fun p => f p + 2).sum = (ps.map f).sum + ps.length * 2 := by
  induction ps with
  | nil => rfl
  | cons p ps ih => simp only [List.map_cons, List.sum_cons, List.length_cons, Nat.succ_mul, ih]; omega
theorem tx_nz (t : Tre) : okT (fun n _ => n.length ≤ 8) t → (tx t).length + 2 ≤ 12 * nz t := by
  induction t using Tre.ind with
  | h n ps ih =>
    intro hh
    obtain ⟨h1, h2⟩ := okT_mk.mp hh
    have h1 : n.length ≤ 8 := h1
    rw [tx_mk, nz_mk]
    split
    · omega
    · have h3 := join_len (", " : Str) (ps.map tx)
      have h4 := nzs_sum (f := fun p => (tx p).length + 2) (a := 12) (ps := ps) fun p hp => ih p hp (h2 p hp)
      have h5 := sum_add2 (f := fun p => (tx p).length) (ps := ps)
      rw [len_append, len_append, len_append, str_len1, str_len2]
      rw [str_len3, List.length_map, List.map_map] at h3
      have e : ((fun x : Str => x.length) ∘ tx) = fun p => (tx p).length := rfl
      rw [e] at h3
      omega
theorem gz.len8 {u : Tre} (h : gz u) : okT (fun n _ => n.length ≤ 8) u := okT_mono (fun n k h => h.1.len) u h.ok
theorem gz.txl {u : Tre} (h : gz u) : (tx u).length + 2 ≤ 24000 := by
  have h1 := tx_nz u h.len8
  have h2 := h.n
  omega
theorem gz.joinl {n : Str} {ps : List Tre} (h : gz (.mk n ps)) : ((ps.map tx).map (·.length)).sum + (ps.map tx).length * 2 ≤ 24000 ∧ n.length + (Txt.join (", " : Str) (ps.map tx)).length + 2 ≤ 24100 := by
  have h4 := nzs_sum (f := fun p => (tx p).length + 2) (a := 12) (ps := ps) fun p hp => tx_nz p (h.sub hp).len8
  have h5 := sum_add2 (f := fun p => (tx p).length) (ps := ps)
  have h6 := h.n
  rw [nz_mk] at h6
  have h7 := h.nm.len
  have h3 := join_len (", " : Str) (ps.map tx)
  rw [str_len3, List.length_map, List.map_map] at h3
  rw [List.length_map, List.map_map]
  have e : ((fun x : Str => x.length) ∘ tx) = fun p => (tx p).length := rfl
  rw [e] at h3 ⊢
  exact ⟨by omega, by omega⟩
theorem plain_tDN {A : Str → Nat → Prop} (hA : ∀ n k, A n k → PyData.strOk n = true) (t : Tre) : okT A t → plain (tD t) = true := by
  induction t using Tre.ind with
  | h n ps ih =>
    intro hh
    obtain ⟨h1, h2⟩ := okT_mk.mp hh
    rw [tD_mk]
    simp [plain, plains, hA _ _ h1, plains_map fun p hp => ih p hp (h2 p hp)]
theorem gz.pln {u : Tre} (h : gz u) : plain (tD u) = true := plain_tDN (fun _ _ h => h.1.ok) u h.ok
theorem eq_tDN {u v : Tre} {PB : Bool → Prop} {neg : Bool} {t : Tok PB} (hu : plain (tD u) = true) (hv : plain (tD v) = true) (du : dp u ≤ 32) (dv : dp v ≤ 32) : eqG neg (tD u) (tD v) PB t = letE ((@decide (u = v) (Classical.propDecidable _)) != neg) PB () := by
  have h1 : dep (tD u) ≤ 64 := by have := dep_tD u; omega
  have h2 : dep (tD v) ≤ 64 := by have := dep_tD v; omega
  have h3 : PyData.eqv (toP (tD u)) (toP (tD v)) = (@decide (u = v) (Classical.propDecidable _)) := by
    rw [eqv_dec (strict_tD u) (strict_tD v)]
    by_cases e : u = v
    · subst e; simp
    · have : ¬ tD u = tD v := fun z => e (tD_inj u v z)
      simp [e, this]
  obtain ⟨n, ps⟩ := u
  obtain ⟨m, qs⟩ := v
  rw [tD_mk] at hu h1 h3 ⊢
  rw [tD_mk m] at hv h2 h3 ⊢
  rw [e_eq_tup, h3, andL_of ⟨hu, hv, h1, h2⟩]
/-! ### codes -/
abbrev alnS : Str := "abcdefghijklmnopqrstuvwxyzABCDEFGHIJKLMNOPQRSTUVWXYZ0123456789"
abbrev capS : Str := "ABCDEFGHIJKLMNOPQRSTUVWXYZ"
abbrev digS : Str := "0123456789"
def aln (c : Nat) : Bool := decide (c ∈ alnS.cps.toList)
def capB (c : Nat) : Bool := decide (c ∈ capS.cps.toList)
def digB (c : Nat) : Bool := decide (c ∈ digS.cps.toList)
def smaB (c : Nat) : Bool := decide (c ∈ smallS.cps.toList)
theorem strIn_one (c : Nat) (s : Str) : strIn ⟨#[c]⟩ s = decide (c ∈ s.cps.toList) := StrLaws.found_one s c
theorem aln_mem {c : Nat} (h : aln c = true) : c ∈ alnS.cps.toList := of_decide_eq_true h
theorem aln_all {p : Nat → Bool} (h : alnS.cps.toList.all p = true) {c : Nat} (hc : aln c = true) : p c = true := List.all_eq_true.mp h c (aln_mem hc)
theorem cap_all {p : Nat → Bool} (h : capS.cps.toList.all p = true) {c : Nat} (hc : capB c = true) : p c = true := List.all_eq_true.mp h c (of_decide_eq_true hc)
theorem sma_all {p : Nat → Bool} (h : smallS.cps.toList.all p = true) {c : Nat} (hc : smaB c = true) : p c = true := List.all_eq_true.mp h c (of_decide_eq_true hc)
theorem cap_aln {c : Nat} (h : capB c = true) : aln c = true := cap_all (p := aln) (by decide +kernel) h
theorem cap_sma {c : Nat} (h : capB c = true) : smaB c = false := by
  have := cap_all (p := fun c => !smaB c) (by decide +kernel) h
  simpa using this
theorem cap_dig {c : Nat} (h : capB c = true) : digB c = false := by
  have := cap_all (p := fun c => !digB c) (by decide +kernel) h
  simpa using this
theorem aln_three {c : Nat} (h : aln c = true) : (smaB c || capB c) = !digB c := by
  have := aln_all (p := fun c => (smaB c || capB c) == !digB c) (by decide +kernel) h
  simpa using this
theorem aln_no {c : Nat} (h : aln c = true) : c ≠ 95 ∧ c ≠ 40 ∧ c ≠ 41 ∧ c ≠ 44 ∧ c ≠ 32 ∧ c < 1114112 := by
  have := aln_all (p := fun c => decide (c ≠ 95 ∧ c ≠ 40 ∧ c ≠ 41 ∧ c ≠ 44 ∧ c ≠ 32 ∧ c < 1114112)) (by decide +kernel) h
  simpa using this
theorem aln_40 : aln 40 = false := by decide +kernel
theorem aln_41 : aln 41 = false := by decide +kernel
theorem aln_44 : aln 44 = false := by decide +kernel
theorem aln_95 : aln 95 = false := by decide +kernel
/-- the codes of a name: letters and digits, a letter first, at most eight -/
def nmC (l : List Nat) : Bool := l.all aln && decide (l.length ≤ 8) && (match l with | c :: _ => !digB c | [] => false)
/-- the hole -/
abbrev holC : List Nat := [95]
def fstB (p : Nat → Bool) (l : List Nat) : Bool := match l with | c :: _ => p c | [] => false
/-- names with how many parts, as a text has them -/
def GdH (n : Str) (k : Nat) : Prop := (n = "_" ∧ k = 0) ∨ (nmC n.cps.toList = true ∧ (0 < k → fstB capB n.cps.toList = true))
theorem nmC_len {l : List Nat} (h : nmC l = true) : 0 < l.length ∧ l.length ≤ 8 := by
  unfold nmC at h
  simp only [Bool.and_eq_true, decide_eq_true_eq] at h
  refine ⟨?_, h.1.2⟩
  cases l with
  | nil => simp at h
  | cons c l => simp
theorem nmC_aln {l : List Nat} (h : nmC l = true) : ∀ c ∈ l, aln c = true := by
  unfold nmC at h
  simp only [Bool.and_eq_true, decide_eq_true_eq] at h
  exact List.all_eq_true.mp h.1.1
theorem len_tl' (n : Str) : n.length = n.cps.toList.length := by simp [Str.length]
theorem nmC_Nm {n : Str} (h : nmC n.cps.toList = true) : Nm n := by
  obtain ⟨h1, h2⟩ := nmC_len h
  have h3 := nmC_aln h
  refine ⟨?_, by rw [len_tl']; exact h1, by rw [len_tl']; exact h2⟩
  show n.cps.all (· < 0x110000) = true
  rw [← Array.all_toList]
  exact List.all_eq_true.mpr fun c hc => decide_eq_true (aln_no (h3 c hc)).2.2.2.2.2
theorem hole_Nm : Nm "_" := ⟨by decide +kernel, by decide +kernel, by decide +kernel⟩
theorem fstIn_fst (s n : Str) : fstIn s n = fstB (fun c => decide (c ∈ s.cps.toList)) n.cps.toList := by
  unfold fstIn
  cases n.cps.toList with
  | nil => rfl
  | cons k r => exact strIn_one k s
theorem GdH_Nm {n : Str} {k : Nat} (h : GdH n k) : Nm n := by
  rcases h with ⟨rfl, _⟩ | ⟨h, _⟩
  · exact hole_Nm
  · exact nmC_Nm h
theorem GdH_GdN {n : Str} {k : Nat} (h : GdH n k) : GdN n k := by
  refine ⟨GdH_Nm h, fun hs => ?_⟩
  rcases h with ⟨rfl, h⟩ | ⟨_, h⟩
  · exact h
  · rcases Nat.eq_zero_or_pos k with e | e
    · exact e
    · have h1 := h e
      have h2 : fstB smaB n.cps.toList = true := by rw [← hs]; exact (fstIn_fst smallS n).symm
      unfold fstB at h1 h2
      split at h1
      · rename_i c r e; rw [e] at h2
        have h2 : smaB c = true := h2
        rw [cap_sma h1] at h2; cases h2
      · cases h1
/-! ### written -/
mutual
def wrC : Tre → List Nat
  | .mk n ps => n.cps.toList ++ wrP ps
def wrP : List Tre → List Nat
  | [] => []
  | p :: ps => 40 :: (wrC p ++ wrR ps)
def wrR : List Tre → List Nat
  | [] => [41]
  | p :: ps => 44 :: 32 :: (wrC p ++ wrR ps)
end
theorem wrC_mk {n : Str} {ps : List Tre} : wrC (.mk n ps) = n.cps.toList ++ wrP ps := by rw [wrC]
theorem joinL_wr {f : Tre → List Nat} : ∀ {ps : List Tre} {p : Tre}, (∀ q ∈ p :: ps, f q = wrC q) → TL.joinL [44, 32] ((p :: ps).map f) ++ [41] = wrC p ++ wrR ps
  | [], p, h => by
    simp only [List.map_cons, List.map_nil, TL.joinL]
    rw [h p List.mem_cons_self, wrR]
  | q :: ps, p, h => by
    simp only [List.map_cons, TL.joinL]
    have ih := joinL_wr (ps := ps) (p := q) fun x hx => h x (List.mem_cons_of_mem _ hx)
    rw [List.map_cons] at ih
    rw [wrR, ← ih, h p List.mem_cons_self]
    simp
theorem tx_wr (t : Tre) : (tx t).cps.toList = wrC t := by
  induction t using Tre.ind with
  | h n ps ih =>
    rw [tx_mk, wrC_mk]
    cases ps with
    | nil => simp [wrP]
    | cons p ps =>
      have e1 : tl ("(" : Str) = [40] := by decide +kernel
      have e2 : tl (")" : Str) = [41] := by decide +kernel
      have e3 : tl (", " : Str) = [44, 32] := by decide +kernel
      show tl (if (p :: ps).isEmpty = true then n else _) = _
      rw [if_neg (by simp), TL.tl_append, TL.tl_append, TL.tl_append, e1, e2, TL.join_eq, TL.tl_join, e3, List.map_map]
      have := joinL_wr (f := tl ∘ tx) (ps := ps) (p := p) fun q hq => ih q hq
      rw [wrP, ← this]
      simp
theorem tx_S (t : Tre) : tx t = S (wrC t) := by
  rw [← tx_wr]
/-! ### read -/
def rdPs (f : List Nat → Option (Tre × List Nat)) : Nat → List Nat → List Nat → Option (List Tre × List Nat)
  | 0, _, cs => some ([], cs)
  | k + 1, mk, cs => if mk.isPrefixOf cs = true then (match f (cs.drop mk.length) with
      | none => none
      | some (p, r) => (match rdPs f k [44, 32] r with
        | none => none
        | some (ps, r') => some (p :: ps, r'))) else some ([], cs)
def nmOf (cs : List Nat) : List Nat := if cs.take 1 = [95] then [95] else cs.takeWhile aln
def rdT : Nat → List Nat → Option (Tre × List Nat)
  | 0, _ => none
  | d + 1, cs => if (nmOf cs == [95] || nmC (nmOf cs)) = true then (match rdPs (rdT d) (cs.length + 1) [40] (cs.drop (nmOf cs).length) with
      | none => none
      | some ([], r) => some (.mk (S (nmOf cs)) [], r)
      | some (p :: ps, r) => if (r.take 1 = [41] ∧ fstB capB (nmOf cs) = true) then some (.mk (S (nmOf cs)) (p :: ps), r.drop 1) else none) else none
def rdA (d : Nat) (cs : List Nat) : Option Tre := match rdT d cs with
  | some (t, []) => some t
  | _ => none
end VL

set_option Elab.async false
set_option linter.all false
set_option autoImplicit false
set_option maxRecDepth 100000
/-! VLTree4: what is read is what is written. -/
namespace VL
open PySem PySem.Spec PyProof.Rows L2
open SX (S S_tl S_inj S_len S_cat S_beq_eq)
def jm : List Nat → List Tre → List Nat
  | _, [] => []
  | mk, p :: ps => mk ++ (wrC p ++ jm [44, 32] ps)
theorem wrR_jm : ∀ ps : List Tre, wrR ps = jm [44, 32] ps ++ [41]
  | [] => by rw [wrR]; rfl
  | p :: ps => by rw [wrR, wrR_jm ps, jm]; simp
theorem wrP_jm (p : Tre) (ps : List Tre) : wrP (p :: ps) = jm [40] (p :: ps) ++ [41] := by rw [wrP, wrR_jm, jm]; simp
theorem jm_len : ∀ (mk : List Nat) (ps : List Tre), mk ≠ [] → ps.length ≤ (jm mk ps).length
  | _, [], _ => Nat.le_refl _
  | mk, p :: ps, h => by
    have h1 := jm_len [44, 32] ps (by simp)
    have h2 : 0 < mk.length := List.length_pos_iff.mpr h
    rw [jm, List.length_cons, List.length_append, List.length_append]; omega
theorem takeWhile_drop {p : Nat → Bool} : ∀ l : List Nat, l = l.takeWhile p ++ l.drop (l.takeWhile p).length
  | [] => rfl
  | c :: l => by
    rw [List.takeWhile_cons]
    split
    · rw [List.length_cons, List.drop_succ_cons, List.cons_append, ← takeWhile_drop l]
    · rfl
theorem nmOf_pre (cs : List Nat) : cs = nmOf cs ++ cs.drop (nmOf cs).length := by
  unfold nmOf
  split
  · rename_i h
    cases cs with
    | nil => cases h
    | cons c cs => simp at h; subst h; rfl
  · exact takeWhile_drop cs
theorem pre_drop {mk cs : List Nat} (h : mk.isPrefixOf cs = true) : cs = mk ++ cs.drop mk.length := by
  obtain ⟨r, rfl⟩ := List.isPrefixOf_iff_prefix.mp h
  simp
theorem S_hole : S [95] = ("_" : Str) := by decide +kernel
theorem cap_95 : capB 95 = false := by decide +kernel
theorem rdPs_wr {d : Nat} {f : List Nat → Option (Tre × List Nat)} (hf : ∀ cs t r, f cs = some (t, r) → cs = wrC t ++ r ∧ okT GdH t ∧ dp t ≤ d) :
    ∀ (k : Nat) (mk cs : List Nat) (ps : List Tre) (r : List Nat), rdPs f k mk cs = some (ps, r) → cs = jm mk ps ++ r ∧ ∀ p ∈ ps, okT GdH p ∧ dp p ≤ d
  | 0, mk, cs, ps, r, h => by
    cases h
    exact ⟨rfl, (fun _ z => nomatch z)⟩
  | k + 1, mk, cs, ps, r, h => by
    rw [rdPs] at h
    split at h
    · rename_i hp
      split at h
      · cases h
      · rename_i p r1 e1
        split at h
        · cases h
        · rename_i qs r2 e2
          cases h
          obtain ⟨a1, a2, a3⟩ := hf _ _ _ e1
          obtain ⟨b1, b2⟩ := rdPs_wr hf k _ _ _ _ e2
          refine ⟨?_, fun q hq => ?_⟩
          · conv => lhs; rw [pre_drop hp, a1, b1]
            rw [jm]; simp
          · rcases List.mem_cons.mp hq with rfl | hq
            · exact ⟨a2, a3⟩
            · exact b2 q hq
    · cases h
      exact ⟨rfl, (fun _ z => nomatch z)⟩
theorem rdT_wr : ∀ (d : Nat) (cs : List Nat) (t : Tre) (r : List Nat), rdT d cs = some (t, r) → cs = wrC t ++ r ∧ okT GdH t ∧ dp t ≤ d
  | 0, cs, t, r, h => by cases h
  | d + 1, cs, t, r, h => by
    rw [rdT] at h
    split at h
    · rename_i hn
      split at h
      · cases h
      · rename_i r1 e1
        cases h
        obtain ⟨b1, _⟩ := rdPs_wr (rdT_wr d) _ _ _ _ _ e1
        refine ⟨?_, okT_mk.mpr ⟨?_, fun _ z => nomatch z⟩, by simp [dp, dps]⟩
        · rw [wrC_mk, wrP]
          conv => lhs; rw [nmOf_pre cs, b1]
          simp [jm]
        · rcases Bool.or_eq_true_iff.mp hn with h | h
          · left
            have e : nmOf cs = [95] := by simpa using h
            exact ⟨by rw [e]; exact S_hole, rfl⟩
          · right
            exact ⟨h, fun z => absurd z (by simp)⟩
      · rename_i p ps r1 e1
        split at h
        · rename_i hc
          cases h
          obtain ⟨b1, b2⟩ := rdPs_wr (rdT_wr d) _ _ _ _ _ e1
          obtain ⟨h1, h2⟩ := hc
          have er : r1 = 41 :: r1.drop 1 := by
            cases r1 with
            | nil => cases h1
            | cons c r1 => simp at h1; subst h1; rfl
          refine ⟨?_, okT_mk.mpr ⟨?_, fun q hq => (b2 q hq).1⟩, by rw [dp_mk]; exact dps_le fun q hq => (b2 q hq).2⟩
          · rw [wrC_mk, wrP_jm]
            conv => lhs; rw [nmOf_pre cs, b1, er]
            simp
          · rcases Bool.or_eq_true_iff.mp hn with h | h
            · exfalso
              have e : nmOf cs = [95] := by simpa using h
              rw [e] at h2
              have : capB 95 = true := h2
              rw [cap_95] at this; cases this
            · right
              exact ⟨h, fun _ => h2⟩
        · cases h
    · cases h
/-- what may stand behind a part -/
def okR (r : List Nat) : Prop := ∀ c, r.head? = some c → c = 44 ∨ c = 41
theorem rdPs_of {f : List Nat → Option (Tre × List Nat)} {r : List Nat} : ∀ (ps : List Tre) (k : Nat) (mk : List Nat), ps.length < k → (mk = [40] ∨ mk = [44, 32]) → (∀ p ∈ ps, ∀ r, okR r → f (wrC p ++ r) = some (p, r)) →
    rdPs f k mk (jm mk ps ++ 41 :: r) = some (ps, 41 :: r)
  | [], k + 1, mk, _, hm, _ => by
    rw [rdPs]
    have : mk.isPrefixOf (jm mk [] ++ 41 :: r) = false := by
      rcases hm with rfl | rfl <;> rfl
    rw [this]; rfl
  | p :: ps, k + 1, mk, hk, hm, hf => by
    have e : jm mk (p :: ps) ++ 41 :: r = mk ++ (wrC p ++ (jm [44, 32] ps ++ 41 :: r)) := by rw [jm]; simp
    have h1 : mk.isPrefixOf (mk ++ (wrC p ++ (jm [44, 32] ps ++ 41 :: r))) = true := List.isPrefixOf_iff_prefix.mpr ⟨_, rfl⟩
    have h2 : okR (jm [44, 32] ps ++ 41 :: r) := by
      intro c hc
      cases ps with
      | nil => simp [jm] at hc; exact .inr hc.symm
      | cons q qs => simp [jm] at hc; exact .inl hc.symm
    have h3 := hf p List.mem_cons_self _ h2
    have h4 := rdPs_of (r := r) ps k [44, 32] (by simp only [List.length_cons] at hk; omega) (.inr rfl) fun q hq => hf q (List.mem_cons_of_mem _ hq)
    rw [rdPs, e, if_pos h1, List.drop_left, h3]
    simp only
    rw [h4]
theorem takeWhile_of {p : Nat → Bool} {l r : List Nat} (h : ∀ c ∈ l, p c = true) (hr : ∀ c, r.head? = some c → p c = false) : (l ++ r).takeWhile p = l := by
  induction l with
  | nil =>
    cases r with
    | nil => rfl
    | cons c r => rw [List.nil_append, List.takeWhile_cons, hr c rfl]; rfl
  | cons c l ih =>
    rw [List.cons_append, List.takeWhile_cons, h c List.mem_cons_self, if_pos rfl, ih fun x hx => h x (List.mem_cons_of_mem _ hx)]
theorem nmOf_of {n : Str} {k : Nat} (h : GdH n k) {r : List Nat} (hr : ∀ c, r.head? = some c → aln c = false) : nmOf (n.cps.toList ++ r) = n.cps.toList ∧ (n.cps.toList == [95] || nmC n.cps.toList) = true := by
  rcases h with ⟨rfl, _⟩ | ⟨h, _⟩
  · have e : ("_" : Str).cps.toList = [95] := by decide +kernel
    rw [e]
    exact ⟨rfl, rfl⟩
  · have h1 := nmC_aln h
    have h2 := nmC_len h
    refine ⟨?_, by rw [h]; simp⟩
    unfold nmOf
    rw [if_neg, takeWhile_of h1 hr]
    cases e : n.cps.toList with
    | nil => rw [e] at h2; simp at h2
    | cons c l =>
      intro z
      simp at z
      subst z
      have := h1 95 (by rw [e]; exact List.mem_cons_self)
      rw [aln_95] at this; cases this
theorem S_cps (n : Str) : S n.cps.toList = n := S_tl n
theorem wr_rdT (t : Tre) : okT GdH t → ∀ (d : Nat) (r : List Nat), dp t ≤ d → okR r → rdT d (wrC t ++ r) = some (t, r) := by
  induction t using Tre.ind with
  | h n ps ih =>
    intro hh d r hd hr
    obtain ⟨h1, h2⟩ := okT_mk.mp hh
    obtain ⟨d, rfl⟩ : ∃ k, d = k + 1 := ⟨d - 1, by rw [dp] at hd; omega⟩
    rw [dp_mk] at hd
    have hal : ∀ c, (wrP ps ++ r).head? = some c → aln c = false := by
      intro c hc
      cases ps with
      | nil =>
        simp only [wrP, List.nil_append] at hc
        rcases hr c hc with rfl | rfl
        · exact aln_44
        · exact aln_41
      | cons p ps =>
        rw [wrP] at hc
        simp at hc
        subst hc
        exact aln_40
    obtain ⟨e1, e2⟩ := nmOf_of h1 hal
    rw [wrC_mk, List.append_assoc, rdT, e1, if_pos e2, List.drop_left]
    cases ps with
    | nil =>
      have : rdPs (rdT d) ((n.cps.toList ++ (wrP [] ++ r)).length + 1) [40] (wrP [] ++ r) = some ([], r) := by
        rw [rdPs, wrP, List.nil_append, if_neg]
        intro z
        cases r with
        | nil => simp at z
        | cons c r =>
          simp at z
          subst z
          rcases hr 40 rfl with z | z <;> cases z
      rw [this]
    | cons p ps =>
      have e3 : wrP (p :: ps) ++ r = jm [40] (p :: ps) ++ 41 :: r := by rw [wrP_jm]; simp
      have hk : (p :: ps).length < (n.cps.toList ++ (jm [40] (p :: ps) ++ 41 :: r)).length + 1 := by
        have := jm_len [40] (p :: ps) (by simp)
        simp only [List.length_append] at this ⊢
        omega
      rw [e3, rdPs_of (r := r) (p :: ps) _ [40] hk (.inl rfl) fun q hq r' hr' => ih q hq (h2 q hq) d r' (Nat.le_trans (dps_mem hq) hd) hr']
      simp only
      have hc : fstB capB n.cps.toList = true := by
        rcases h1 with ⟨_, z⟩ | ⟨_, z⟩
        · simp at z
        · exact z (by simp)
      rw [if_pos ⟨by simp, hc⟩, S_cps]
      rfl
theorem okR_nil : okR [] := fun _ h => nomatch h
theorem rdA_iff {d : Nat} {cs : List Nat} {t : Tre} : rdA d cs = some t → cs = wrC t ∧ okT GdH t ∧ dp t ≤ d := by
  intro h
  unfold rdA at h
  split at h
  · rename_i u e
    cases h
    have := rdT_wr d cs _ _ e
    simpa using this
  · cases h
theorem rdA_of {d : Nat} {t : Tre} (h : okT GdH t) (hd : dp t ≤ d) : rdA d (wrC t) = some t := by
  have := wr_rdT t h d [] hd okR_nil
  rw [List.append_nil] at this
  unfold rdA
  rw [this]
/- a name somewhere begins so -/
mutual
def hasT (p : Nat → Bool) : Tre → Bool
  | .mk n ps => fstB p n.cps.toList || hasTs p ps
def hasTs (p : Nat → Bool) : List Tre → Bool
  | [] => false
  | t :: ts => hasT p t || hasTs p ts
end
theorem hasTs_any {p : Nat → Bool} : ∀ ts : List Tre, hasTs p ts = ts.any (hasT p)
  | [] => rfl
  | t :: ts => by rw [hasTs, hasTs_any ts]; rfl
theorem hasT_mk {p : Nat → Bool} {n : Str} {ps : List Tre} : hasT p (.mk n ps) = (fstB p n.cps.toList || ps.any (hasT p)) := by rw [hasT, hasTs_any]
theorem wrC_len (t : Tre) : okT (fun n _ => 0 < n.length) t → nz t ≤ (wrC t).length := by
  induction t using Tre.ind with
  | h n ps ih =>
    intro hh
    obtain ⟨h1, h2⟩ := okT_mk.mp hh
    have h1 : 0 < n.length := h1
    rw [wrC_mk, nz_mk, List.length_append, ← len_tl']
    have key : ∀ (mk : List Nat) (ps : List Tre), (∀ p ∈ ps, nz p ≤ (wrC p).length) → nzs ps ≤ (jm mk ps).length := by
      intro mk ps
      induction ps generalizing mk with
      | nil => intro _; exact Nat.zero_le _
      | cons p ps ih =>
        intro h
        have a := h p List.mem_cons_self
        have b := ih [44, 32] fun q hq => h q (List.mem_cons_of_mem _ hq)
        rw [jm, nzs, List.length_append, List.length_append]; omega
    have := key [40] ps fun p hp => ih p hp (h2 p hp)
    cases ps with
    | nil => simp only [wrP, nzs, List.length_nil] at this ⊢; omega
    | cons p ps => rw [wrP_jm, List.length_append]; omega
theorem gz_of {t : Tre} (h : okT GdH t) (hl : (wrC t).length ≤ 2000) : gz t :=
  ⟨okT_mono (fun _ _ h => GdH_GdN h) t h, Nat.le_trans (wrC_len t (okT_mono (fun _ _ h => (GdH_Nm h).pos) t h)) hl⟩
end VL

set_option Elab.async false
set_option linter.all false
set_option autoImplicit false
set_option maxRecDepth 100000
/-! VLSym4: while, op=, class methods, comprehensions that raise, slices of texts, run by simp. -/
namespace VL
open PySem PySem.Spec PyProof.Rows L2
open SX (S S_tl S_inj S_len S_cat S_beq_eq)
def whG (c : TVT) (b : TVS) (ρ : En) (S : Sto) (Q : Out → En → Sto → Prop) (E : QE) (_ : Tok (c, b, Q, E)) : Prop := wWhile c b ρ S Q E
def lcGX (Gd : Sto → Prop) (tg : Tg) (vs : List Nat) (wt : TVT) (we : TV) (Ee : Ex → Sto → Prop) (ds acc : List D) (ρ : En) (S : Sto) (Q : List D → En → Sto → Prop) (_ : Tok (Gd, tg, vs, wt, we, Ee, Q)) : Prop := lcGoX Gd tg vs wt we Ee ds acc ρ S Q
def asTx (d : D) (P : Str → Prop) (_ : Tok P) : Prop := ∃ x, d = .str x ∧ P x
@[simp] theorem asTx_str {x : Str} {P : Str → Prop} {t : Tok P} : asTx (.str x) P t = P x := by simp [asTx]
def r3G (x y z0 z1 z2 : Str) (d : D) (P : D → Prop) (_ : Tok P) : Prop := ∃ (k : Int) (z : Str), d = .int k ∧ 0 ≤ k ∧ k < 3 ∧ [z0, z1, z2][k.toNat]? = some z ∧ (y == z) = false ∧ x.length + (x.length + 1) * z.length ≤ 16777216 ∧ P (.str (Txt.replace x y z))
section
variable {ρ : En} {S : Sto} {Q : QD} {E : QE} {QS : Out → En → Sto → Prop}
@[simp ↓] theorem e_wWhile (c : TVT) (b : TVS) : wWhile c b ρ S QS E = whG c b ρ S QS E () := rfl
@[simp ↓] theorem e_wAug (i : Nat) (f : Int → Int → Int) (w : TV) : wAug i f w ρ S QS E = rsv ρ (.s i) fun x => asI x (fun a => w ρ S (fun d ρ1 S1 => asI d (fun b => letE ρ1.length (fun n => andL (i < n) (letE (ρ1.set i (.v (.int (f a b)))) (fun ρ2 => QS .nx ρ2 S1) ()) ()) ()) ()) E) () := by
  simp only [wAug, asI_ex, letE, andL]
@[simp ↓] theorem e_wCallC (w : FW) (cl : String) (wa : TVA) : wCallC w cl wa ρ S Q E = wa ρ S (fun ds ρ1 S1 => Wd w (.cls cl :: ds) S1 (fun d S2 => Q d ρ1 S2) (fun x S2 => E x ρ1 S2) ()) E := rfl
@[simp ↓] theorem e_wCompX (wi : TVI) (tg : Tg) (vs : List Nat) (wt : TVT) (we : TV) : wCompX wi tg vs wt we ρ S Q E = wi ρ S (fun ds Gd ρ1 S1 => andL (noOwn ρ1 vs = true) (letE (wipeE ρ1 vs) (fun ρ' => letE (dropE ρ1) (fun ρd => lcGX Gd tg vs wt we (fun x S' => E x ρd S') ds [] ρ' S1 (fun l ρ2 S2 => letE (backE ρ1 ρ2 vs) (fun ρ3 => Q (.lst l) ρ3 S2) ()) ()) ()) ()) ()) E := rfl
@[simp ↓] theorem e_wRepl3 (i : Nat) (y z0 z1 z2 : Str) (wi : TV) : wRepl3 i y z0 z1 z2 wi ρ S Q E = rsv ρ (.s i) fun x => asTx x (fun x => wi ρ S (fun d ρ1 S1 => r3G x y z0 z1 z2 d (fun v => Q v ρ1 S1) ()) E) () := rfl
@[simp] theorem e_dropE_nil : dropE [] = [] := rfl
@[simp] theorem e_dropE_v {d : D} : dropE (.v d :: ρ) = .v d :: dropE ρ := rfl
@[simp] theorem e_dropE_o {d : D} : dropE (.o d :: ρ) = .un :: dropE ρ := rfl
@[simp] theorem e_dropE_un : dropE (.un :: ρ) = .un :: dropE ρ := rfl
@[simp] theorem itD_str {x : Str} {P : List D → (Sto → Prop) → Prop} {t : Tok P} : itG (.str x) S P t = P (x.cps.toList.map fun c => .str ⟨#[c]⟩) GdT := rfl
@[simp] theorem e_sl_str {x : Str} {lo hi : Option Int} {P : D → Prop} {t : Tok P} : slG (.str x) lo hi P t = andL (x.length ≤ sizeLine) (letE (cutS x lo hi) (fun z => P (.str z)) ()) () := rfl
end
/-- while by what holds ahead of each turn, m going down -/
theorem wh_inv {c : TVT} {b : TVS} {Q : Out → En → Sto → Prop} {E : QE} {t : Tok (c, b, Q, E)} (I : Nat → En → Sto → Prop)
    (hs : ∀ m ρ S (K : En → Sto → Prop), I m ρ S → (∀ m' ρ2 S2, m' < m → I m' ρ2 S2 → K ρ2 S2) →
      c ρ S (fun t ρ1 S1 => iteL t (b ρ1 S1 (fun o ρ2 S2 => match o with | .nx => K ρ2 S2 | .ct => K ρ2 S2 | .bk => Q .nx ρ2 S2 | .rt d => Q (.rt d) ρ2 S2) E) (Q .nx ρ1 S1) ()) E) {m : Nat} {ρ : En} {S : Sto} (h : I m ρ S) : whG c b ρ S Q E t := by
  have key : ∀ n m ρ S, m < n → I m ρ S → whGo c b n ρ S Q E := by
    intro n
    induction n with
    | zero => intro m ρ S h; omega
    | succ n ih =>
      intro m ρ S h hI
      exact hs m ρ S (whGo c b n · · Q E) hI fun m' ρ2 S2 hm h2 => ih m' ρ2 S2 (by omega) h2
  exact ⟨m + 1, key (m + 1) m ρ S (by omega) h⟩
theorem lcX_pure {α : Type} {Gd : Sto → Prop} {tg : Tg} {vs : List Nat} {we : TV} {ρ : En} {S : Sto} {g f : α → D} {p : α → Bool} {ex0 : Ex} {Ee : Ex → Sto → Prop} {Q : List D → En → Sto → Prop} (hG : Gd S) :
    ∀ {xs : List α} {acc : List D} {t : Tok (Gd, tg, vs, wYes, we, Ee, Q)}, acc.length + xs.length ≤ sizeLine →
    (∀ x ∈ xs, ∀ (K : QD) (KE : Ex → Sto → Prop), opt (bindT tg (g x) ρ) (fun ρ1 => wipeE ρ1 vs = ρ ∧ we ρ1 S K (fun x _ S' => KE x S') = iteL (p x) (KE ex0 S) (K (f x) ρ1 S) ()) ()) →
    lcGX Gd tg vs wYes we Ee (xs.map g) acc ρ S Q t = iteL (xs.any p) (Ee ex0 S) (Q (acc ++ xs.map f) ρ S) ()
  | [], acc, t, hl, h => by simp [lcGX, lcGoX, hG]
  | x :: xs, acc, t, hl, h => by
    have h0 := fun K KE => h x List.mem_cons_self K KE
    obtain ⟨ρ1, e⟩ : ∃ ρ1, bindT tg (g x) ρ = some ρ1 := by
      have := h0 (fun _ _ _ => True) (fun _ _ => True)
      rw [← opt_ex] at this
      obtain ⟨ρ1, e, _⟩ := this
      exact ⟨ρ1, e⟩
    simp only [e, opt_some] at h0
    have hl' : acc.length < sizeLine := by simp only [List.length_cons] at hl; omega
    have ih := lcX_pure (Ee := Ee) (Q := Q) hG (xs := xs) (acc := acc ++ [f x]) (t := ()) (by simp only [List.length_append, List.length_cons, List.length_nil] at hl ⊢; omega) fun y hy => h y (List.mem_cons_of_mem _ hy)
    unfold lcGX at ih ⊢
    simp only [List.map_cons, lcGoX, e]
    have e2 : ∀ (ρ : En) (S : Sto) (Q : Bool → En → Sto → Prop) (E : QE), wYes ρ S Q E = Q true ρ S := fun _ _ _ _ => rfl
    simp only [Option.some.injEq, exists_eq_left', e2, if_true, ↓reduceIte, (h0 _ _).2, hG, true_and, (h0 (fun _ _ _ => True) (fun _ _ => True)).1, hl']
    rw [(h0 (fun _ _ _ => True) (fun _ _ => True)).1, ih]
    have ea : acc ++ [f x] ++ xs.map f = acc ++ (x :: xs).map f := by simp
    rw [ea, List.any_cons]
    cases hp : p x <;> simp
theorem lcX_pureI {α : Type} {Gd : Sto → Prop} {tg : Tg} {vs : List Nat} {we : TV} {ρ : En} {S : Sto} {g : α → D} {Ee : Ex → Sto → Prop} {Q : List D → En → Sto → Prop} {xs : List α} {acc : List D} {t : Tok (Gd, tg, vs, wYes, we, Ee, Q)} {R : Prop} (p : α → Bool) (f : α → D) (ex0 : Ex) (hG : Gd S) (hl : acc.length + xs.length ≤ sizeLine)
    (h : ∀ x ∈ xs, ∀ (K : QD) (KE : Ex → Sto → Prop), opt (bindT tg (g x) ρ) (fun ρ1 => wipeE ρ1 vs = ρ ∧ we ρ1 S K (fun x _ S' => KE x S') = iteL (p x) (KE ex0 S) (K (f x) ρ1 S) ()) ())
    (k : iteL (xs.any p) (Ee ex0 S) (Q (acc ++ xs.map f) ρ S) () ↔ R) : lcGX Gd tg vs wYes we Ee (xs.map g) acc ρ S Q t ↔ R := by
  rw [lcX_pure hG hl h]; exact k
/-! ### slices of texts -/
theorem cps_S (l : List Nat) : (SX.S l).cps.toList = l := rfl
theorem len_S (l : List Nat) : (SX.S l).length = l.length := S_len l
theorem cut_nn (l : List Nat) {i j : Int} (hi : 0 ≤ i) (hj : 0 ≤ j) : cutS (SX.S l) (some i) (some j) = SX.S ((l.drop i.toNat).take (j.toNat - i.toNat)) := by
  obtain ⟨a, rfl⟩ : ∃ a : Nat, i = a := ⟨i.toNat, by omega⟩
  obtain ⟨b, rfl⟩ : ∃ a : Nat, j = a := ⟨j.toNat, by omega⟩
  unfold cutS
  rw [HT.sIx_nat, HT.sIx_nat, len_S, cps_S]
  apply congrArg
  simp only [Int.toNat_natCast]
  by_cases h : a ≤ l.length
  · rw [Nat.min_eq_left h]
    by_cases h2 : b ≤ l.length
    · rw [Nat.min_eq_left h2]
    · rw [List.take_of_length_le (i := b - a) (by rw [List.length_drop]; omega), List.take_of_length_le (by rw [List.length_drop]; omega)]
  · rw [List.drop_eq_nil_of_le (by omega), List.drop_eq_nil_of_le (by omega), List.take_nil, List.take_nil]
theorem cut_nN (l : List Nat) {i : Int} (hi : 0 ≤ i) : cutS (SX.S l) (some i) none = SX.S (l.drop i.toNat) := by
  obtain ⟨a, rfl⟩ : ∃ a : Nat, i = a := ⟨i.toNat, by omega⟩
  unfold cutS
  rw [HT.sIx_nat, HT.sIx_none, len_S, cps_S]
  apply congrArg
  simp only [Int.toNat_natCast]
  by_cases h : a ≤ l.length
  · rw [Nat.min_eq_left h, List.take_of_length_le (by rw [List.length_drop]; omega)]
  · rw [List.drop_eq_nil_of_le (by omega), List.drop_eq_nil_of_le (by omega), List.take_nil]
theorem cut_Nn (l : List Nat) {i : Int} (hi : 0 ≤ i) : cutS (SX.S l) none (some i) = SX.S (l.take i.toNat) := by
  obtain ⟨a, rfl⟩ : ∃ a : Nat, i = a := ⟨i.toNat, by omega⟩
  unfold cutS
  rw [HT.sIx_nat, HT.sIx_none, len_S, cps_S]
  apply congrArg
  simp only [Int.toNat_natCast, List.drop_zero, Nat.sub_zero]
  by_cases h : a ≤ l.length
  · rw [Nat.min_eq_left h]
  · rw [List.take_of_length_le (i := a) (by omega), List.take_of_length_le (by omega)]
theorem cut_at (l : List Nat) (a k : Nat) : cutS (SX.S l) (some (a : Nat)) (some ((a : Int) + (k : Nat))) = SX.S ((l.drop a).take k) := by
  rw [cut_nn l (by omega) (by omega)]
  congr 2
  omega
theorem cut_at1 (l : List Nat) (a : Nat) : cutS (SX.S l) (some (a : Nat)) (some ((a : Int) + 1)) = SX.S ((l.drop a).take 1) := cut_at l a 1
theorem S_inj' {a b : List Nat} : SX.S a = SX.S b ↔ a = b := ⟨fun h => S_inj h, fun h => by rw [h]⟩
theorem s_hole : ("_" : Str) = SX.S [95] := by decide +kernel
theorem s_open : ("(" : Str) = SX.S [40] := by decide +kernel
theorem s_close : (")" : Str) = SX.S [41] := by decide +kernel
theorem s_comma : (", " : Str) = SX.S [44, 32] := by decide +kernel
theorem s_empty : ("" : Str) = SX.S [] := by decide +kernel
/-! ### letters and digits, added up -/
abbrev scS : Str := "abcdefghijklmnopqrstuvwxyzABCDEFGHIJKLMNOPQRSTUVWXYZ"
section
variable {S : Sto} {P : D → Prop}
theorem e_add_sc {t : Tok (vAdd, P)} : bi vAdd (.str smallS) (.str capS) S P t = P (.str scS) := by
  rw [e_add_str, andL_of (by decide +kernel)]
  have : smallS ++ capS = scS := by decide +kernel
  rw [this]
theorem e_add_scd {t : Tok (vAdd, P)} : bi vAdd (.str scS) (.str digS) S P t = P (.str alnS) := by
  rw [e_add_str, andL_of (by decide +kernel)]
  have : scS ++ digS = alnS := by decide +kernel
  rw [this]
end
theorem in_aln (c : Nat) : strIn ⟨#[c]⟩ alnS = aln c := strIn_one c _
theorem in_cap (c : Nat) : strIn ⟨#[c]⟩ capS = capB c := strIn_one c _
theorem in_dig (c : Nat) : strIn ⟨#[c]⟩ digS = digB c := strIn_one c _
theorem in_sma (c : Nat) : strIn ⟨#[c]⟩ smallS = smaB c := strIn_one c _
theorem in_sc (c : Nat) : strIn ⟨#[c]⟩ scS = (smaB c || capB c) := by
  rw [strIn_one]
  have e : scS.cps.toList = smallS.cps.toList ++ capS.cps.toList := by decide +kernel
  rw [e]
  unfold smaB capB
  rw [← Bool.decide_or]
  simp [List.mem_append]
theorem in_hol (c : Nat) : strIn ⟨#[c]⟩ ("_" : Str) = (c == 95) := by
  rw [strIn_one]
  have e : ("_" : Str).cps.toList = [95] := by decide +kernel
  rw [e]
  by_cases h : c = 95 <;> simp [h]
/-! ### where a tree ends -/
theorem rdT_end {d : Nat} {l : List Nat} {a : Nat} {t : Tre} {r : List Nat} (h : rdT d (l.drop a) = some (t, r)) (ha : a ≤ l.length) : a ≤ l.length - r.length ∧ r.length ≤ l.length ∧ l.drop (l.length - r.length) = r ∧ okT GdH t ∧ dp t ≤ d ∧ (wrC t).length ≤ l.length := by
  obtain ⟨h1, h2, h3⟩ := rdT_wr _ _ _ _ h
  have e : l = (l.take a ++ wrC t) ++ r := by
    conv => lhs; rw [← List.take_append_drop a l, h1]
    simp
  have hl := congrArg List.length e
  simp only [List.length_append, List.length_take] at hl
  refine ⟨by omega, by omega, ?_, h2, h3, by omega⟩
  conv => lhs; arg 2; rw [e]
  have : l.length - r.length = (l.take a ++ wrC t).length := by simp only [List.length_append, List.length_take]; omega
  rw [this, List.drop_left]
theorem isPre_take {mk cs : List Nat} : decide (cs.take mk.length = mk) = mk.isPrefixOf cs := by
  rw [Bool.eq_iff_iff, decide_eq_true_iff, List.isPrefixOf_iff_prefix]
  constructor
  · intro h; rw [← h]; exact List.take_prefix _ _
  · rintro ⟨r, rfl⟩; simp
/-! ### texts longer by replace -/
theorem replS_count {y z : List Nat} {c : Nat} (hz : z.count c = 0) : ∀ (s : Nat) (l : List Nat), (StrLaws.replS y z s l).count c ≤ l.count c
  | s, [] => by cases s <;> simp [StrLaws.replS]
  | 0, d :: r => by
    rw [StrLaws.replS]
    split
    · rw [List.count_append, hz]
      have := replS_count (y := y) hz (y.length - 1) r
      rw [List.count_cons]; omega
    · have := replS_count (y := y) hz 0 r
      rw [List.count_cons, List.count_cons]; omega
  | s + 1, d :: r => by
    rw [StrLaws.replS]
    have := replS_count (y := y) hz s r
    rw [List.count_cons]; omega
theorem repl_count {x y z : Str} {c : Nat} (hy : 1 ≤ y.length) (hz : z.cps.toList.count c = 0) : (Txt.replace x y z).cps.toList.count c ≤ x.cps.toList.count c := by
  rw [StrLaws.replace_list hy]
  exact replS_count hz 0 _
end VL

set_option Elab.async false
set_option linter.all false
set_option autoImplicit false
set_option maxRecDepth 100000
/-! VLTree5: values and shapes as data. -/
namespace VL
open PySem PySem.Spec PyProof.Rows L2
mutual
def oD (cl : String) (h : Tre → Int) : Tre → D
  | .mk n ps => .obj cl [("name", .str n), ("parts", .tup (oDs cl h ps)), ("size", .int (sz (.mk n ps))), ("levels", .int (lv (.mk n ps))), ("key", kyD (.mk n ps)), ("holes", .int (h (.mk n ps)))]
def oDs (cl : String) (h : Tre → Int) : List Tre → List D
  | [] => []
  | p :: ps => oD cl h p :: oDs cl h ps
end
theorem oDs_map {cl : String} {h : Tre → Int} : ∀ ps : List Tre, oDs cl h ps = ps.map (oD cl h)
  | [] => by rw [oDs]; rfl
  | p :: ps => by rw [oDs, oDs_map ps]; rfl
def oFs (cl : String) (h : Tre → Int) (u : Tre) : List (String × D) := [("name", .str u.nm), ("parts", .tup (u.ps.map (oD cl h))), ("size", .int (sz u)), ("levels", .int (lv u)), ("key", kyD u), ("holes", .int (h u))]
theorem oD_fs (cl : String) (h : Tre → Int) (u : Tre) : oD cl h u = .obj cl (oFs cl h u) := by
  obtain ⟨n, ps⟩ := u
  rw [oD, oDs_map]; rfl
section
variable {cl : String} {h : Tre → Int} {u : Tre} {S : Sto} {P : D → Prop} {t : Tok P}
@[simp] theorem o_name : fldG "name" (oD cl h u) P t = P (.str u.nm) := by rw [oD_fs]; simp [oFs]
@[simp] theorem o_parts : fldG "parts" (oD cl h u) P t = P (.tup (u.ps.map (oD cl h))) := by rw [oD_fs]; simp [oFs]
@[simp] theorem o_size : fldG "size" (oD cl h u) P t = P (.int (sz u)) := by rw [oD_fs]; simp [oFs]
@[simp] theorem o_levels : fldG "levels" (oD cl h u) P t = P (.int (lv u)) := by rw [oD_fs]; simp [oFs]
@[simp] theorem o_key : fldG "key" (oD cl h u) P t = P (kyD u) := by rw [oD_fs]; simp [oFs]
@[simp] theorem o_holes : fldG "holes" (oD cl h u) P t = P (.int (h u)) := by rw [oD_fs]; simp [oFs]
@[simp] theorem dr_oD : dr S (oD cl h u) = oD cl h u := by rw [oD_fs]; rfl
@[simp] theorem tag_oD : tagD (oD cl h u) = some (true, cl) := by rw [oD_fs]; rfl
@[simp] theorem own1_oD {ms : Ms} {P : String → Prop} {t : Tok (ms, P)} : own1G ms (oD cl h u) P t = opt (ms.lookup cl) P () := by rw [oD_fs]; simp
@[simp] theorem own_oD {ms : Ms} {cl2 : String} {h2 : Tre → Int} {v : Tre} {P : String → Prop} {t : Tok (ms, P)} : ownG ms (oD cl h u) (oD cl2 h2 v) P t = andL (cl2 = cl) (opt (ms.lookup cl) P ()) () := by rw [oD_fs, oD_fs]; simp
@[simp] theorem meth_oD {ms : Ms} {m : String} {P : String → Prop} {t : Tok (ms, P)} : methG ms m (oD cl h u) P t = opt (ms.lookup cl) (fun f => andL (((oFs cl h u).all fun x => x.1 != m) = true) (P f) ()) () := by rw [oD_fs]; simp
end
def zh (_ : Tre) : Int := 0
abbrev vD : Tre → D := oD "Value" zh
mutual
def hs : Tre → Int
  | .mk n ps => (if n = ("_" : Str) then 1 else 0) + hss ps
def hss : List Tre → Int
  | [] => 0
  | p :: ps => hs p + hss ps
end
theorem hss_map : ∀ ps : List Tre, hss ps = (ps.map hs).sum
  | [] => rfl
  | p :: ps => by rw [hss, hss_map ps]; rfl
theorem hs_mk {n : Str} {ps : List Tre} : hs (.mk n ps) = (if n = ("_" : Str) then 1 else 0) + (ps.map hs).sum := by rw [hs, hss_map]
abbrev sD : Tre → D := oD "Shape" hs
/-! ### keys compared, names of any number -/
theorem plain_kyN {A : Str → Nat → Prop} (hA : ∀ n k, A n k → PyData.strOk n = true) (t : Tre) : okT A t → VL.plain (kyD t) = true := by
  induction t using Tre.ind with
  | h n ps ih =>
    intro hh
    obtain ⟨h1, h2⟩ := okT_mk.mp hh
    rw [kyD_mk]
    simp [VL.plain, plains, hA _ _ h1, plains_map fun p hp => ih p hp (h2 p hp)]
theorem eq_kyN {PB : Bool → Prop} {neg : Bool} {u v : Tre} {t : Tok PB} (hu : gz u) (hv : gz v) (du : dp u ≤ 32) (dv : dp v ≤ 32) : eqG neg (kyD u) (kyD v) PB t = letE (decide (u = v) != neg) PB () := by
  have p1 := plain_kyN (A := GdN) (fun _ _ h => h.1.ok) u hu.ok
  have p2 := plain_kyN (A := GdN) (fun _ _ h => h.1.ok) v hv.ok
  have h1 : dep (kyD u) ≤ 64 := by have := dep_kyD u; omega
  have h2 : dep (kyD v) ≤ 64 := by have := dep_kyD v; omega
  have h3 := eqv_ky u v
  obtain ⟨n, ps⟩ := u
  obtain ⟨m, qs⟩ := v
  rw [kyD_mk] at p1 h1 h3 ⊢
  rw [kyD_mk m] at p2 h2 h3 ⊢
  rw [e_eq_tup, h3, andL_of ⟨p1, p2, h1, h2⟩]
/-- decided alike -/
theorem eq_tDd {u v : Tre} {PB : Bool → Prop} {neg : Bool} {t : Tok PB} (hu : gz u) (hv : gz v) (du : dp u ≤ 32) (dv : dp v ≤ 32) : eqG neg (tD u) (tD v) PB t = letE (decide (u = v) != neg) PB () := by
  rw [eq_tDN hu.pln hv.pln du dv]
/-- as deep as its signs ( -/
theorem dp_jm {ps : List Tre} : ∀ (mk : List Nat), (∀ p ∈ ps, dp p ≤ (wrC p).count 40 + 1) → ps ≠ [] → dps ps ≤ (jm mk ps).count 40 + 1 := by
  induction ps with
  | nil => intro _ _ z; exact absurd rfl z
  | cons p ps ih =>
    intro mk h _
    have h1 := h p List.mem_cons_self
    rw [jm, dps, List.count_append, List.count_append]
    cases ps with
    | nil => simp [jm, dps]; omega
    | cons q qs =>
      have h2 := ih [44, 32] (fun r hr => h r (List.mem_cons_of_mem _ hr)) (by simp)
      omega
theorem dp_cnt (u : Tre) : dp u ≤ (wrC u).count 40 + 1 := by
  induction u using Tre.ind with
  | h n ps ih =>
    rw [dp, wrC_mk, List.count_append]
    cases ps with
    | nil => simp [dps]
    | cons p ps =>
      have := dp_jm (ps := p :: ps) [] ih (by simp)
      have e1 : List.count 40 [40] = 1 := rfl
      rw [wrP_jm, List.count_append]
      have e2 : (jm [40] (p :: ps)).count 40 = (jm [] (p :: ps)).count 40 + 1 := by
        rw [jm, jm, List.count_append, List.count_append, List.count_append]; simp; omega
      omega
/-- a text and more behind it is no text of one tree -/
theorem rdA_two {d : Nat} {u : Tre} {r : List Nat} (h : okT GdH u) (hd : dp u ≤ d) (hr : okR r) (hn : r ≠ []) : rdA d (wrC u ++ r) = none := by
  unfold rdA
  rw [wr_rdT u h d r hd hr]
  cases r with
  | nil => exact absurd rfl hn
  | cons c r => rfl
/-- how many names -/
def B2 : Nat → Nat
  | 0 => 0
  | k + 1 => 2 * B2 k + 1
theorem nz_two (u : Tre) : okT (fun _ k => k ≤ 2) u → ∀ d, dp u ≤ d → nz u ≤ B2 d := by
  induction u using Tre.ind with
  | h n ps ih =>
    intro hh d hd
    obtain ⟨h1, h2⟩ := okT_mk.mp hh
    obtain ⟨d, rfl⟩ : ∃ k, d = k + 1 := ⟨d - 1, by rw [dp] at hd; omega⟩
    rw [dp_mk] at hd
    rw [nz_mk, B2]
    have : nzs ps ≤ ps.length * B2 d := by
      clear h1 hh
      induction ps with
      | nil => simp [nzs]
      | cons p ps ihp =>
        have a := ih p List.mem_cons_self (h2 p List.mem_cons_self) d (Nat.le_trans (dps_mem List.mem_cons_self) hd)
        have b := ihp (fun q hq => ih q (List.mem_cons_of_mem _ hq)) (fun q hq => h2 q (List.mem_cons_of_mem _ hq)) (by rw [dps] at hd; omega)
        rw [nzs, List.length_cons, Nat.succ_mul]; omega
    have h3 : ps.length * B2 d ≤ 2 * B2 d := Nat.mul_le_mul_right _ h1
    omega
end VL

set_option Elab.async false
set_option linter.all false
set_option autoImplicit false
set_option maxRecDepth 100000
/-! VLTree6: how deep a tree is that stands in a doubled text. -/
namespace VL
open PySem PySem.Spec PyProof.Rows L2
def bal (l : List Nat) : Int := (l.count 40 : Int) - (l.count 41 : Nat)
theorem bal_app (a b : List Nat) : bal (a ++ b) = bal a + bal b := by unfold bal; rw [List.count_append, List.count_append]; omega
theorem bal_nil : bal [] = 0 := rfl
theorem bal_take_app (a b : List Nat) (k : Nat) : bal ((a ++ b).take k) = bal (a.take k) + bal (b.take (k - a.length)) := by rw [List.take_append, bal_app]
/-- balanced, never below 0 nor above m -/
structure Bl (l : List Nat) (m : Int) : Prop where
  all : bal l = 0
  pre : ∀ k, 0 ≤ bal (l.take k) ∧ bal (l.take k) ≤ m
theorem Bl.mono {l : List Nat} {m n : Int} (h : Bl l m) (h2 : m ≤ n) : Bl l n := ⟨h.all, fun k => ⟨(h.pre k).1, Int.le_trans (h.pre k).2 h2⟩⟩
theorem Bl.app {a b : List Nat} {m : Int} (ha : Bl a m) (hb : Bl b m) : Bl (a ++ b) m := ⟨by rw [bal_app, ha.all, hb.all]; rfl, fun k => by
  rw [bal_take_app]
  rcases Nat.le_total k a.length with h | h
  · rw [Nat.sub_eq_zero_of_le h, List.take_zero, bal_nil]
    have := ha.pre k
    omega
  · rw [List.take_of_length_le h, ha.all]
    have := hb.pre (k - a.length)
    omega⟩
theorem Bl.none {l : List Nat} (h1 : 40 ∉ l) (h2 : 41 ∉ l) {m : Int} (hm : 0 ≤ m) : Bl l m := by
  have e : ∀ k, bal (l.take k) = 0 := fun k => by
    have a : (l.take k).count 40 = 0 := List.count_eq_zero.mpr fun z => h1 (List.mem_of_mem_take z)
    have b : (l.take k).count 41 = 0 := List.count_eq_zero.mpr fun z => h2 (List.mem_of_mem_take z)
    unfold bal; rw [a, b]; rfl
  refine ⟨?_, fun k => by rw [e k]; omega⟩
  have := e l.length
  rwa [List.take_length] at this
theorem Bl.paren {l : List Nat} {m : Int} (h : Bl l m) : Bl (40 :: (l ++ [41])) (m + 1) := by
  have e1 : ∀ x : List Nat, bal (40 :: x) = 1 + bal x := fun x => by
    exact bal_app [40] x
  have e2 : bal [41] = -1 := rfl
  refine ⟨by rw [e1, bal_app, h.all, e2]; rfl, fun k => ?_⟩
  cases k with
  | zero =>
    rw [List.take_zero, bal_nil]
    have := (h.pre 0)
    omega
  | succ k =>
    rw [List.take_succ_cons, e1, bal_take_app]
    rcases Nat.le_total k l.length with hk | hk
    · rw [Nat.sub_eq_zero_of_le hk, List.take_zero, bal_nil]
      have := h.pre k
      omega
    · rw [List.take_of_length_le hk, h.all]
      have := (h.pre 0)
      cases hz : k - l.length with
      | zero => rw [List.take_zero, bal_nil]; omega
      | succ z => rw [List.take_of_length_le (by simp), e2]; omega
theorem nm_no {n : Str} {k : Nat} (h : GdH n k) : 40 ∉ n.cps.toList ∧ 41 ∉ n.cps.toList := by
  rcases h with ⟨rfl, _⟩ | ⟨h, _⟩
  · decide +kernel
  · have := nmC_aln h
    exact ⟨fun z => (aln_no (this 40 z)).2.1 rfl, fun z => (aln_no (this 41 z)).2.2.1 rfl⟩
theorem bl_jm {ps : List Tre} {m : Int} (hm : 0 ≤ m) (h : ∀ p ∈ ps, Bl (wrC p) m) : Bl (jm [44, 32] ps) m := by
  induction ps with
  | nil => exact .none (by simp [jm]) (by simp [jm]) hm
  | cons p ps ih =>
    rw [jm]
    exact (Bl.none (by decide) (by decide) hm).app ((h p List.mem_cons_self).app (ih fun q hq => h q (List.mem_cons_of_mem _ hq)))
theorem bl_wr (t : Tre) : okT GdH t → Bl (wrC t) ((dp t : Int) - 1) := by
  induction t using Tre.ind with
  | h n ps ih =>
    intro hh
    obtain ⟨h1, h2⟩ := okT_mk.mp hh
    obtain ⟨n1, n2⟩ := nm_no h1
    rw [wrC_mk]
    cases ps with
    | nil =>
      rw [wrP, List.append_nil]
      exact .none n1 n2 (by simp only [dp]; omega)
    | cons p ps =>
      have hd : ∀ q ∈ p :: ps, Bl (wrC q) ((dps (p :: ps) : Int) - 1) := fun q hq => (ih q hq (h2 q hq)).mono (by have := dps_mem hq; omega)
      have hp0 : 0 ≤ (dps (p :: ps) : Int) - 1 := by
        have := dps_mem (ps := p :: ps) List.mem_cons_self
        have h0 : 1 ≤ dp p := by cases p; simp only [dp]; omega
        omega
      have e : wrP (p :: ps) = 40 :: ((wrC p ++ jm [44, 32] ps) ++ [41]) := by rw [wrP_jm, jm]; simp
      rw [e]
      refine Bl.app (.none n1 n2 (by simp only [dp]; omega)) ((((hd p List.mem_cons_self).app (bl_jm hp0 fun q hq => hd q (List.mem_cons_of_mem _ hq))).paren).mono ?_)
      simp only [dp]; omega
theorem deep_jm {ps : List Tre} (h0 : ∀ p ∈ ps, bal (wrC p) = 0) (h : ∀ p ∈ ps, ∃ k, bal ((wrC p).take k) = (dp p : Int) - 1) : ∀ mk : List Nat, ps ≠ [] → ∃ k, bal ((jm mk ps).take k) = bal mk + (dps ps : Int) - 1 := by
  induction ps with
  | nil => intro _ z; exact absurd rfl z
  | cons p ps ih =>
    intro mk _
    obtain ⟨k, hk⟩ := h p List.mem_cons_self
    by_cases hc : dps ps ≤ dp p
    · have hs : ∀ (x y : List Nat) (j : Nat), bal ((x ++ y).take (x.length + j)) = bal x + bal (y.take j) := fun x y j => by
        rw [bal_take_app, List.take_of_length_le (by omega)]
        congr 3; omega
      by_cases hkl : k ≤ (wrC p).length
      · refine ⟨mk.length + k, ?_⟩
        rw [jm, hs, bal_take_app, Nat.sub_eq_zero_of_le hkl, List.take_zero, bal_nil, hk, dps]
        omega
      · rw [List.take_of_length_le (by omega), h0 p List.mem_cons_self] at hk
        refine ⟨mk.length + 0, ?_⟩
        rw [jm, hs, List.take_zero, bal_nil, dps]
        omega
    · have hne : ps ≠ [] := fun e => by subst e; simp [dps] at hc
      obtain ⟨j, hj⟩ := ih (fun q hq => h0 q (List.mem_cons_of_mem _ hq)) (fun q hq => h q (List.mem_cons_of_mem _ hq)) [44, 32] hne
      have hs : ∀ (x y : List Nat) (j : Nat), bal ((x ++ y).take (x.length + j)) = bal x + bal (y.take j) := fun x y j => by
        rw [bal_take_app, List.take_of_length_le (by omega)]
        congr 3; omega
      refine ⟨mk.length + ((wrC p).length + j), ?_⟩
      rw [jm, hs, hs, h0 p List.mem_cons_self, hj, dps]
      have : bal [44, 32] = 0 := rfl
      rw [this]; omega
theorem deep_wr (t : Tre) : okT GdH t → ∃ k, bal ((wrC t).take k) = (dp t : Int) - 1 := by
  induction t using Tre.ind with
  | h n ps ih =>
    intro hh
    obtain ⟨h1, h2⟩ := okT_mk.mp hh
    obtain ⟨n1, n2⟩ := nm_no h1
    rw [wrC_mk]
    cases ps with
    | nil => exact ⟨0, by simp only [List.take_zero, bal_nil, dp, dps]; omega⟩
    | cons p ps =>
      obtain ⟨k, hk⟩ := deep_jm (ps := p :: ps) (fun q hq => (bl_wr q (h2 q hq)).all) (fun q hq => ih q hq (h2 q hq)) [40] (by simp)
      have hb : bal n.cps.toList = 0 := (Bl.none n1 n2 (Int.le_refl 0)).all
      have e1 : bal [40] = 1 := rfl
      have hs : ∀ (x y : List Nat) (j : Nat), bal ((x ++ y).take (x.length + j)) = bal x + bal (y.take j) := fun x y j => by
        rw [bal_take_app, List.take_of_length_le (by omega)]
        congr 3; omega
      by_cases hkl : k ≤ (jm [40] (p :: ps)).length
      · refine ⟨n.cps.toList.length + k, ?_⟩
        rw [wrP_jm, hs, hb, bal_take_app, Nat.sub_eq_zero_of_le hkl, List.take_zero, bal_nil, hk, e1]
        simp only [dp]; omega
      · refine ⟨n.cps.toList.length + (jm [40] (p :: ps)).length, ?_⟩
        rw [List.take_of_length_le (by omega)] at hk
        rw [wrP_jm, hs, hb, bal_take_app, List.take_length, Nat.sub_self, List.take_zero, bal_nil, hk, e1]
        simp only [dp]; omega
/-- in a balanced text no tree is deeper than the text -/
theorem bl_dp {l : List Nat} {m : Int} (h : Bl l m) {a : Nat} {t : Tre} {r : List Nat} (e : l.drop a = wrC t ++ r) (ht : okT GdH t) : (dp t : Int) ≤ m + 1 := by
  obtain ⟨k, hk⟩ := deep_wr t ht
  by_cases hkl : k ≤ (wrC t).length
  · have h1 := h.pre a
    have h2 := h.pre (a + k)
    have e2 : l.take (a + k) = l.take a ++ (wrC t).take k := by
      rw [List.take_add, e, List.take_append, Nat.sub_eq_zero_of_le hkl, List.take_zero, List.append_nil]
    rw [e2, bal_app, hk] at h2
    omega
  · rw [List.take_of_length_le (by omega), (bl_wr t ht).all] at hk
    have h1 := h.pre a
    omega
theorem dp_two {u : Tre} (hu : okT GdH u) {d a : Nat} {t : Tre} {r : List Nat} (h : rdT d ((wrC u ++ ([44, 32] ++ wrC u)).drop a) = some (t, r)) : dp t ≤ dp u := by
  obtain ⟨h1, h2, _⟩ := rdT_wr _ _ _ _ h
  have hb := bl_wr u hu
  have hp : 0 ≤ (dp u : Int) - 1 := Int.le_trans (hb.pre 0).1 (hb.pre 0).2
  have := bl_dp (hb.app ((Bl.none (l := [44, 32]) (by decide) (by decide) hp).app hb)) h1 h2
  omega
theorem dp_any {l : List Nat} {d a : Nat} {t : Tre} {r : List Nat} (h : rdT d (l.drop a) = some (t, r)) : dp t ≤ l.count 40 + 1 := by
  obtain ⟨h1, _, _⟩ := rdT_wr _ _ _ _ h
  have h2 := dp_cnt t
  have h3 := (List.drop_sublist a l).count_le 40
  rw [h1, List.count_append] at h3
  omega
end VL

set_option Elab.async false
set_option linter.all false
set_option autoImplicit false
set_option maxRecDepth 100000
/-! VLSym5: zip, an own list's item, int of a truth; taking and covering. -/
namespace VL
open PySem PySem.Spec PyProof.Rows L2
/-- two tuples -/
def tup2 (ds : List D) (P : List D → List D → Prop) (_ : Tok P) : Prop := match ds with
  | [.tup xs, .tup ys] => P xs ys
  | _ => False
@[simp] theorem tup2_go {xs ys : List D} {P : List D → List D → Prop} {t : Tok P} : tup2 [.tup xs, .tup ys] P t = P xs ys := rfl
theorem tup2_ex {ds : List D} {P : List D → List D → Prop} : (∃ xs ys, ds = [.tup xs, .tup ys] ∧ P xs ys) = tup2 ds P () := by
  apply propext
  constructor
  · rintro ⟨xs, ys, rfl, h⟩; exact h
  · intro h
    unfold tup2 at h
    split at h
    · exact ⟨_, _, rfl, h⟩
    · exact h.elim
def olst (s : Option Sl) (P : List D → Prop) (_ : Tok P) : Prop := match s with
  | some (.o (.lst ds)) => P ds
  | _ => False
@[simp] theorem olst_o {ds : List D} {P : List D → Prop} {t : Tok P} : olst (some (.o (.lst ds))) P t = P ds := rfl
section
variable {ρ : En} {S : Sto} {Q : QD} {E : QE} {QS : Out → En → Sto → Prop} {QI : List D → (Sto → Prop) → En → Sto → Prop}
@[simp ↓] theorem e_wZip (wa : TVA) : wZip wa ρ S QI E = wa ρ S (fun args ρ1 S1 => tup2 args (fun xs ys => QI ((xs.zip ys).map fun p => .tup [p.1, p.2]) GdT ρ1 S1) ()) E := by
  simp only [wZip, tup2_ex]
theorem lx_ex {s : Option Sl} {kd : D} {P : List D → Nat → Prop} : (match s with
  | some (.o (.lst ds)) => ∃ k j, kd = .int k ∧ ixN ds.length k = some j ∧ P ds j
  | _ => False) = olst s (fun ds => asI kd (fun k => opt (ixN ds.length k) (fun j => P ds j) ()) ()) () := by
  unfold olst
  rcases s with _ | s
  · rfl
  · rcases s with _ | d | d
    all_goals first | rfl | skip
    cases d
    all_goals first | rfl | skip
    rename_i ds
    simp only [← opt_ex, ← asI_ex]
    apply propext
    constructor
    · rintro ⟨k, j, h1, h2, h3⟩; exact ⟨k, h1, j, h2, h3⟩
    · rintro ⟨k, h1, j, h2, h3⟩; exact ⟨k, j, h1, h2, h3⟩
@[simp ↓] theorem e_wSetLx (i : Nat) (wk wv : TV) : wSetLx i wk wv ρ S QS E = wv ρ S (fun d ρ1 S1 => rsv ρ1 (.s i) fun _ => wk ρ1 S1 (fun kd ρ2 S2 => olst ρ2[i]? (fun ds => asI kd (fun k => opt (ixN ds.length k) (fun j => letE (ds.set j d) (fun ds' => letE (ρ2.set i (.o (.lst ds'))) (fun ρ3 => QS .nx ρ3 S2) ()) ()) ()) ()) ()) E) E := by
  simp only [wSetLx, letE]
  congr 1
  funext d ρ1 S1
  congr 1
  funext _
  congr 1
  funext kd ρ2 S2
  exact lx_ex
end
@[simp] theorem e_int_bl {b : Bool} {P : D → Prop} {t : Tok (intD, P)} : c1 intD (.bl b) P t = letE (if b = true then 1 else 0 : Int) (fun n => P (.int n)) () := rfl
/-! ### taking -/
mutual
def tk : Tre → Tre → Bool
  | .mk n ps, .mk m qs => if n = ("_" : Str) then true else if n = m ∧ ps.length = qs.length then tks ps qs else false
def tks : List Tre → List Tre → Bool
  | p :: ps, q :: qs => tk p q && tks ps qs
  | _, _ => true
end
theorem tk_mk {n m : Str} {ps qs : List Tre} : tk (.mk n ps) (.mk m qs) = if n = ("_" : Str) then true else if n = m ∧ ps.length = qs.length then tks ps qs else false := by rw [tk]
theorem tks_zip : ∀ {ps qs : List Tre}, tks ps qs = (ps.zip qs).all fun p => tk p.1 p.2
  | [], qs => by simp [tks]
  | p :: ps, [] => by simp [tks]
  | p :: ps, q :: qs => by rw [tks, List.zip_cons_cons, List.all_cons, tks_zip]
theorem tks_ix {ps qs : List Tre} (h : ps.length = qs.length) : tks ps qs = (List.range qs.length).all fun k => tk (ps.getD k default) (qs.getD k default) := by
  induction ps generalizing qs with
  | nil =>
    cases qs with
    | nil => rfl
    | cons q qs => cases h
  | cons p ps ih =>
    cases qs with
    | nil => cases h
    | cons q qs =>
      rw [tks, List.length_cons, List.range_succ_eq_map, List.all_cons, ih (by simpa using h), List.all_map]
      rfl
theorem zip_map2 {α β γ δ : Type} {f : α → γ} {g : β → δ} : ∀ {xs : List α} {ys : List β}, (xs.map f).zip (ys.map g) = (xs.zip ys).map fun p => (f p.1, g p.2)
  | [], _ => rfl
  | _ :: _, [] => rfl
  | x :: xs, y :: ys => by simp [zip_map2]
/-! covering: as taking, where a name tells how many parts -/
mutual
def cv : Tre → Tre → Bool
  | .mk n ps, .mk m qs => if n = ("_" : Str) then true else if n = m then cvs ps qs else false
def cvs : List Tre → List Tre → Bool
  | p :: ps, q :: qs => cv p q && cvs ps qs
  | _, _ => true
end
theorem cv_mk {n m : Str} {ps qs : List Tre} : cv (.mk n ps) (.mk m qs) = if n = ("_" : Str) then true else if n = m then cvs ps qs else false := by rw [cv]
theorem cvs_zip : ∀ {ps qs : List Tre}, cvs ps qs = (ps.zip qs).all fun p => cv p.1 p.2
  | [], qs => by simp [cvs]
  | p :: ps, [] => by simp [cvs]
  | p :: ps, q :: qs => by rw [cvs, List.zip_cons_cons, List.all_cons, cvs_zip]
theorem cv_tk {A : Str → Nat → Prop} (hA : ∀ n j k, A n j → A n k → j = k) (u : Tre) : ∀ v, okT A u → okT A v → cv u v = tk u v := by
  induction u using Tre.ind with
  | h n ps ih =>
    intro v hu hv
    obtain ⟨m, qs⟩ := v
    obtain ⟨u1, u2⟩ := okT_mk.mp hu
    obtain ⟨v1, v2⟩ := okT_mk.mp hv
    rw [cv_mk, tk_mk]
    by_cases h1 : n = ("_" : Str)
    · rw [if_pos h1, if_pos h1]
    · rw [if_neg h1, if_neg h1]
      by_cases h2 : n = m
      · subst h2
        rw [if_pos rfl, if_pos ⟨rfl, hA _ _ _ u1 v1⟩, cvs_zip, tks_zip]
        clear hu hv u1 v1 h1
        induction ps generalizing qs with
        | nil => rfl
        | cons p ps ihp =>
          cases qs with
          | nil => rfl
          | cons q qs =>
            rw [List.zip_cons_cons, List.all_cons, List.all_cons, ih p List.mem_cons_self q (u2 p List.mem_cons_self) (v2 q List.mem_cons_self), ihp (fun x hx => ih x (List.mem_cons_of_mem _ hx)) qs (fun x hx => u2 x (List.mem_cons_of_mem _ hx)) (fun x hx => v2 x (List.mem_cons_of_mem _ hx))]
      · rw [if_neg h2, if_neg fun h => h2 h.1]
end VL

set_option Elab.async false
set_option linter.all false
set_option autoImplicit false
set_option maxRecDepth 100000
set_option maxHeartbeats 0
/-! K14: the defs of law_k14_lots_as_sets, printed by gen.py. -/
namespace K14
open PySem PySem.Spec PyProof.Rows L2 VL
def top (i : Nat) : Stmt := PySem.Challenge.pw_makermatch_k14_lots_as_sets.main.body.getD i (.Pass ⟨0, 0, 0, 0⟩)
def ms___eq__ : Ms := [("Lot", "Lot.__eq__")]
def ms___contains__ : Ms := [("Lot", "Lot.__contains__")]
def ms___and__ : Ms := [("Lot", "Lot.__and__")]
def cs_names : List String := ["Lot"]
def isi_Lot : (Bool × String) → Option Bool := fun t => match t with
  | (false, "NoneType") => some false
  | (false, "bool") => some false
  | (false, "int") => some false
  | (false, "str") => some false
  | (false, "tuple") => some false
  | (false, "list") => some false
  | (false, "dict") => some false
  | (true, "Lot") => some true
  | _ => none
def isi_str : (Bool × String) → Option Bool := fun t => match t with
  | (false, "NoneType") => some false
  | (false, "bool") => some false
  | (false, "int") => some false
  | (false, "str") => some true
  | (false, "tuple") => some false
  | (false, "list") => some false
  | (false, "dict") => some false
  | (true, "Lot") => some false
  | _ => none
def isi_tuple : (Bool × String) → Option Bool := fun t => match t with
  | (false, "NoneType") => some false
  | (false, "bool") => some false
  | (false, "int") => some false
  | (false, "str") => some false
  | (false, "tuple") => some true
  | (false, "list") => some false
  | (false, "dict") => some false
  | (true, "Lot") => some false
  | _ => none
/-- what the top has made -/
abbrev s_Lot___iter__ : Stmt := inClass (top 1) 1
abbrev N_Lot___iter__ : List Str := ["self"]
abbrev p_Lot___iter__ : List Str := ["self"]
theorem sc_Lot___iter__ : FnScope N_Lot___iter__ ["self"] (defScope s_Lot___iter__) := ⟨rfl, rfl, rfl, by decide +kernel, rfl, by decide +kernel, by decide +kernel⟩
theorem it_Lot {P : Program} {w : World} {K : PySem.W.Frag} {mg : Str → Option Value} {base : Heap} (hm : mg "iter" = none) (f : Addr) (cdv : Value) (A : Around) (outer : List Env) (s : Shared) (H : Hp) (E : XK) :
    PSs (cxOf (L2.CX P w) P w K mg base ["self"] "Lot.__iter__" (defScope s_Lot___iter__) f cdv A outer s H E) (defBody s_Lot___iter__) (tRetIter K "names") :=
  pss_one (ps_ret (pe_callB call_iterY (gl_of (by kernel_rfl)) hm (by kernel_rfl) (pa_cons (pe_fld (pe_var (i := 0) rfl (vis_of (by kernel_rfl))) (by rfl)) pa_nil)))
structure Facts (c : Cf) (fa : String → Addr) (mg : Str → Option Value) : Prop where
  b : NoB mg
  f__law_pool : GF c fa mg "_law_pool"
  f__law_draw : GF c fa mg "_law_draw"
  f__law_free_name : GF c fa mg "_law_free_name"
  f__law_lot_names : GF c fa mg "_law_lot_names"
  f__law_lot : GF c fa mg "_law_lot"
  f__law_set : GF c fa mg "_law_set"
  f__law_names_drawn : GF c fa mg "_law_names_drawn"
  f__law_right : GF c fa mg "_law_right"
  f_law : GF c fa mg "law"
  c_Lot : GC c fa mg "Lot" "Lot.__init__"
  zi : mg "iter" = none
  io_Lot : ItO' c fa mg "Lot" "Lot.__iter__" "Lot.__iter__" s_Lot___iter__
  m___eq__ : MsOk c fa "__eq__" ms___eq__
  m___contains__ : MsOk c fa "__contains__" ms___contains__
  m___and__ : MsOk c fa "__and__" ms___and__
  n_names : ∀ cl, cs_names.contains cl = true → NoAttr c.K (c.ca cl) (toS "names")
  i_Lot : IsiT c (.ref (c.ca "Lot")) isi_Lot
  i_str : IsiT c (.type "str") isi_str
  i_tuple : IsiT c (.type "tuple") isi_tuple
  b_str : mg "str" = none
  b_tuple : mg "tuple" = none
  ne : ∀ cl f, ms___eq__.lookup cl = some f → NeOk c cl
  sf___and__ : ∀ cl f, ms___and__.lookup cl = some f → PySem.W.selfFirst c.K (c.ca cl) = true

section
variable {P : Program} {w : World} {K : PySem.W.Frag} {mg : Str → Option Value} {base : Heap} {c : Cf} {fa : String → Addr} {k : Nat} {T : Tab} {TI : String → FWI}
abbrev s_Lot___init__ : Stmt := inClass (top 1) 0
abbrev N_Lot___init__ : List Str := ["self", "names", "name"]
abbrev p_Lot___init__ : List Str := ["self"]
theorem sc_Lot___init__ : FnScope N_Lot___init__ ["self", "names"] (defScope s_Lot___init__) := ⟨rfl, rfl, rfl, by decide +kernel, rfl, by decide +kernel, by decide +kernel⟩
def w_Lot___init__ (T : Tab) (TI : String → FWI) : TVS := (wSetF cs_names 0 "names" (wCB (on1 tupD) (wOCons (oE (wSortSet (wIt (wVar 1)) (.nm 2) [2] (wCB (on1 strD) (wOCons (oS 2) wONil)))) wONil)))
theorem d_Lot___init__ (B : Facts c fa mg) (f : Addr) : Body P w K mg base c fa k T TI N_Lot___init__ "Lot.__init__" s_Lot___init__ f (w_Lot___init__ T TI) := by
  intro cdv A outer s H E F G
  exact (vss_one (vs_setF "names" G rfl (Or.inl rfl) (xtuple B.b (voa_cons (vo_e (vf_ve (xsortset [("name", 2)] G B.b (xit G (xv 1)) (fun _ _ _ _ _ _ => (xgn 2)) (fun _ _ _ _ _ _ G => (xstr B.b (voa_cons (xo 2) voa_nil)))))) voa_nil)) B.n_names))
abbrev s_Lot___contains__ : Stmt := inClass (top 1) 2
abbrev N_Lot___contains__ : List Str := ["self", "name"]
abbrev p_Lot___contains__ : List Str := ["self", "name"]
theorem sc_Lot___contains__ : FnScope N_Lot___contains__ ["self", "name"] (defScope s_Lot___contains__) := ⟨rfl, rfl, rfl, by decide +kernel, rfl, by decide +kernel, by decide +kernel⟩
def w_Lot___contains__ (T : Tab) (TI : String → FWI) : TVS := (wRet (wBin vIn (oS 1) (oE (wCB (on1 listD) (wOCons (oE (wFld "names" (oS 0))) wONil)))))
theorem d_Lot___contains__ (B : Facts c fa mg) (f : Addr) : Body P w K mg base c fa k T TI N_Lot___contains__ "Lot.__contains__" s_Lot___contains__ f (w_Lot___contains__ T TI) := by
  intro cdv A outer s H E F G
  exact (vss_one (vs_ret (xin G (xo 1) (vo_e (vf_ve (xlist B.b (voa_cons (vo_e (xfld "names" G (xo 0))) voa_nil)))))))
abbrev s_Lot___eq__ : Stmt := inClass (top 1) 3
abbrev N_Lot___eq__ : List Str := ["self", "other"]
abbrev p_Lot___eq__ : List Str := ["self", "other"]
theorem sc_Lot___eq__ : FnScope N_Lot___eq__ ["self", "other"] (defScope s_Lot___eq__) := ⟨rfl, rfl, rfl, by decide +kernel, rfl, by decide +kernel, by decide +kernel⟩
def w_Lot___eq__ (T : Tab) (TI : String → FWI) : TVS := (wRet (wAndE (wUn (vIsi isi_Lot) (oS 1)) (wBin vEq (oE (wFld "names" (oS 0))) (oE (wFld "names" (oS 1))))))
theorem d_Lot___eq__ (B : Facts c fa mg) (f : Addr) : Body P w K mg base c fa k T TI N_Lot___eq__ "Lot.__eq__" s_Lot___eq__ f (w_Lot___eq__ T TI) := by
  intro cdv A outer s H E F G
  exact (vss_one (vs_ret (ve_and (xisi G B.b B.i_Lot (.own _) (xo 1) (pe_glob rfl B.c_Lot.mg rfl)) (ve_one (xeq G (vo_e (xfld "names" G (xo 0))) (vo_e (xfld "names" G (xo 1))))))))
abbrev s_Lot___and__ : Stmt := inClass (top 1) 4
abbrev N_Lot___and__ : List Str := ["self", "other", "names"]
abbrev p_Lot___and__ : List Str := ["self", "other"]
theorem sc_Lot___and__ : FnScope N_Lot___and__ ["self", "other"] (defScope s_Lot___and__) := ⟨rfl, rfl, rfl, by decide +kernel, rfl, by decide +kernel, by decide +kernel⟩
def w_Lot___and__ (T : Tab) (TI : String → FWI) : TVS := (wSeq (wIfS (wNot (wTB (wUn (vIsi isi_Lot) (oS 1)))) wNever wNx)
  (wSeq (wAsg (wLst (wAStar (oE (wFld "names" (oS 0))) (wAStar (oE (wFld "names" (oS 1))) wANil))) (.nm 2))
  (wRet (wMake (TI "Lot.__init__") "Lot" (wAStar (oS 2) wANil)))))
theorem d_Lot___and__ (B : Facts c fa mg) (f : Addr) : Body P w K mg base c fa k T TI N_Lot___and__ "Lot.__and__" s_Lot___and__ f (w_Lot___and__ T TI) := by
  intro cdv A outer s H E F G
  exact (vss_cons (vs_if (vt_not (vt_val (xisi G B.b B.i_Lot (.own _) (xo 1) (pe_glob rfl B.c_Lot.mg rfl)))) (vss_one vs_never) vss_nil)
  (vss_cons (xset 2 (vf_ve (vf_lst (va_star (vo_e (xfld "names" G (xo 0))) (va_star (vo_e (xfld "names" G (xo 1))) va_nil)))))
  (vss_one (vs_ret (vf_ve (xmake1S "Lot" "Lot.__init__" G B.c_Lot (xo 2)))))))
abbrev s__law_pool : Stmt := top 3
abbrev N__law_pool : List Str := ["_law_script", "_law_pool_here", "_law_k", "_law_cell", "_law_rest", "_law_turn", "_law_first", "_law_second"]
abbrev p__law_pool : List Str := ["_law_script"]
theorem sc__law_pool : FnScope N__law_pool ["_law_script"] (defScope s__law_pool) := ⟨rfl, rfl, rfl, by decide +kernel, rfl, by decide +kernel, by decide +kernel⟩
def w__law_pool (T : Tab) (TI : String → FWI) : TVS := (wSeq (wAsg (wShare (wLst wANil)) (.nm 1))
  (wSeq (wFor (wRng1 (wACons (wCB (on2 min2D) (wOCons (oE (wCB (on1 lenD) (wOCons (oS 0) wONil))) (wOCons (oE (wC (.int 63))) wONil))) wANil)) (.nm 2) (wSeq (wAsg (wCB (on1 intD) (wOCons (oE (wBin vIx (oS 0) (oS 2))) wONil)) (.nm 3))
  (wSeq (wAsg (wCB (on1 absD) (wOCons (oS 3) wONil)) (.nm 4))
  (wIfS (wTB (wBin vGe (oS 4) (oE (wBin vPow (oE (wC (.int 10))) (oE (wC (.int 18))))))) (wFor (wRng1 (wACons (wC (.int 60)) wANil)) (.nm 5) (wIfS (wTB (wBin vGt (oS 4) (oE (wC (.int 0))))) (wSeq (wDrop (wMut 1 mAppend (wACons (wBin vMod (oE (wCB (on1 intD) (wOCons (oS 4) wONil))) (oE (wC (.int 1000)))) wANil)))
  (wAsg (wBin vFDiv (oS 4) (oE (wC (.int 1000)))) (.nm 4))) wNx)) (wFor (wRng1 (wACons (wC (.int 12)) wANil)) (.nm 5) (wSeq (wAsg (wBin vMod (oE (wCB (on1 intD) (wOCons (oE (wBin vAdd (oE (wBin vAdd (oE (wBin vMul (oS 3) (oE (wC (.int 48271))))) (oE (wBin vMul (oE (wBin vAdd (oE (wBin vMul (oE (wC (.int 12))) (oS 2))) (oS 5))) (oE (wC (.int 69621))))))) (oE (wC (.int 11))))) wONil))) (oE (wC (.int 2147483647)))) (.nm 6))
  (wSeq (wAsg (wBin vMod (oE (wCB (on1 intD) (wOCons (oE (wBin vAdd (oE (wBin vAdd (oE (wBin vMul (oS 6) (oE (wC (.int 16807))))) (oE (wBin vFDiv (oS 6) (oE (wC (.int 127773))))))) (oE (wBin vMul (oS 5) (oE (wC (.int 977))))))) wONil))) (oE (wC (.int 999983)))) (.nm 7))
  (wDrop (wMut 1 mAppend (wACons (wBin vMod (oE (wCB (on1 intD) (wOCons (oE (wBin vAdd (oE (wBin vMul (oS 7) (oS 7))) (oE (wBin vMul (oE (wC (.int 7919))) (oS 2))))) wONil))) (oE (wC (.int 1000)))) wANil))))))))))
  (wSeq (wDrop (wMut 1 mReverse wANil))
  (wRet (wVar 1)))))
theorem d__law_pool (B : Facts c fa mg) (f : Addr) : Body P w K mg base c fa k T TI N__law_pool "_law_pool" s__law_pool f (w__law_pool T TI) := by
  intro cdv A outer s H E F G
  exact (vss_cons (xset 1 (ve_share (vf_lst va_nil)))
  (vss_cons (xfor G (xrng1 B.b (va_cons (xmin2 G B.b (voa_cons (vo_e (xlen G B.b (voa_cons (xo 0) voa_nil))) (voa_cons (vo_e ve_int) voa_nil))) va_nil)) (xgn 2) (vss_cons (xset 3 (xint B.b (voa_cons (vo_e (xix G (xo 0) (xo 2))) voa_nil)))
  (vss_cons (xset 4 (xabs B.b (voa_cons (xo 3) voa_nil)))
  (vss_one (vs_if (vt_cmp ov_ge (xo 4) (vo_e (ve_bin ov_pow (vo_e ve_int) (vo_e ve_int))) rfl) (vss_one (xfor G (xrng1 B.b (va_cons ve_int va_nil)) (xgn 5) (vss_one (vs_if (vt_cmp ov_gt (xo 4) (vo_e ve_int) rfl) (vss_cons (vs_expr (xapp 1 (va_cons (ve_bin ov_mod (vo_e (xint B.b (voa_cons (xo 4) voa_nil))) (vo_e ve_int)) va_nil)))
  (vss_one (xset 4 (ve_bin ov_fdiv (xo 4) (vo_e ve_int))))) vss_nil)))) (vss_one (xfor G (xrng1 B.b (va_cons ve_int va_nil)) (xgn 5) (vss_cons (xset 6 (ve_bin ov_mod (vo_e (xint B.b (voa_cons (vo_e (ve_bin ov_add (vo_e (ve_bin ov_add (vo_e (ve_bin ov_mul (xo 3) (vo_e ve_int))) (vo_e (ve_bin ov_mul (vo_e (ve_bin ov_add (vo_e (ve_bin ov_mul (vo_e ve_int) (xo 2))) (xo 5))) (vo_e ve_int))))) (vo_e ve_int))) voa_nil))) (vo_e ve_int)))
  (vss_cons (xset 7 (ve_bin ov_mod (vo_e (xint B.b (voa_cons (vo_e (ve_bin ov_add (vo_e (ve_bin ov_add (vo_e (ve_bin ov_mul (xo 6) (vo_e ve_int))) (vo_e (ve_bin ov_fdiv (xo 6) (vo_e ve_int))))) (vo_e (ve_bin ov_mul (xo 5) (vo_e ve_int))))) voa_nil))) (vo_e ve_int)))
  (vss_one (vs_expr (xapp 1 (va_cons (ve_bin ov_mod (vo_e (xint B.b (voa_cons (vo_e (ve_bin ov_add (vo_e (ve_bin ov_mul (xo 7) (xo 7))) (vo_e (ve_bin ov_mul (vo_e ve_int) (xo 2))))) voa_nil))) (vo_e ve_int)) va_nil)))))))))))))
  (vss_cons (vs_expr (xrev 1))
  (vss_one (vs_ret (xv 1))))))
abbrev s__law_draw : Stmt := top 4
abbrev N__law_draw : List Str := ["_law_pool_here", "_law_many"]
abbrev p__law_draw : List Str := ["_law_pool_here", "_law_many"]
theorem sc__law_draw : FnScope N__law_draw ["_law_pool_here", "_law_many"] (defScope s__law_draw) := ⟨rfl, rfl, rfl, by decide +kernel, rfl, by decide +kernel, by decide +kernel⟩
def w__law_draw (T : Tab) (TI : String → FWI) : TVS := (wSeq (wIfS (wTB (wBin vEq (oS 0) (oE (wLst wANil)))) (wRet (wC (.int 0))) wNx)
  (wRet (wBin vMod (oE (wCB (on1 intD) (wOCons (oE (wMut 0 mPop wANil)) wONil))) (oS 1))))
theorem d__law_draw (B : Facts c fa mg) (f : Addr) : Body P w K mg base c fa k T TI N__law_draw "_law_draw" s__law_draw f (w__law_draw T TI) := by
  intro cdv A outer s H E F G
  exact (vss_cons (vs_if (vt_cmp (ov_eq G.hu4 G.hK) (xo 0) (vo_e (vf_ve (vf_lst va_nil))) rfl) (vss_one (vs_ret ve_int)) vss_nil)
  (vss_one (vs_ret (ve_bin ov_mod (vo_e (xint B.b (voa_cons (vo_e (xpop 0)) voa_nil))) (xo 1)))))
abbrev s__law_free_name : Stmt := top 5
abbrev N__law_free_name : List Str := ["_law_pool_here", "_law_first", "_law_signs", "_law_name", "_law_k"]
abbrev p__law_free_name : List Str := ["_law_pool_here", "_law_first"]
theorem sc__law_free_name : FnScope N__law_free_name ["_law_pool_here", "_law_first"] (defScope s__law_free_name) := ⟨rfl, rfl, rfl, by decide +kernel, rfl, by decide +kernel, by decide +kernel⟩
def w__law_free_name (T : Tab) (TI : String → FWI) : TVS := (wSeq (wAsg (wC (.str "abcdefghijklmnopqrstuvwxyzABCDEFGHIJKLMNOPQRSTUVWXYZ0123456789")) (.nm 2))
  (wSeq (wAsg (wBin vIx (oS 1) (oE (wCall (T "_law_draw") (wACons (wVar 0) (wACons (wCB (on1 lenD) (wOCons (oS 1) wONil)) wANil))))) (.nm 3))
  (wSeq (wFor (wRng1 (wACons (wCall (T "_law_draw") (wACons (wVar 0) (wACons (wC (.int 8)) wANil))) wANil)) (.nm 4) (wAsg (wBin vAdd (oS 3) (oE (wBin vIx (oS 2) (oE (wCall (T "_law_draw") (wACons (wVar 0) (wACons (wC (.int 62)) wANil))))))) (.nm 3)))
  (wRet (wVar 3)))))
theorem d__law_free_name (B : Facts c fa mg) (f : Addr) : Body P w K mg base c fa k T TI N__law_free_name "_law_free_name" s__law_free_name f (w__law_free_name T TI) := by
  intro cdv A outer s H E F G
  exact (vss_cons (xset 2 ve_str)
  (vss_cons (xset 3 (xix G (xo 1) (vo_e (xcall "_law_draw" G B.f__law_draw (va_cons (xv 0) (va_cons (xlen G B.b (voa_cons (xo 1) voa_nil)) va_nil))))))
  (vss_cons (xfor G (xrng1 B.b (va_cons (xcall "_law_draw" G B.f__law_draw (va_cons (xv 0) (va_cons ve_int va_nil))) va_nil)) (xgn 4) (vss_one (xset 3 (ve_bin ov_add (xo 3) (vo_e (xix G (xo 2) (vo_e (xcall "_law_draw" G B.f__law_draw (va_cons (xv 0) (va_cons ve_int va_nil))))))))))
  (vss_one (vs_ret (xv 3))))))
abbrev s__law_lot_names : Stmt := top 7
abbrev N__law_lot_names : List Str := ["_law_lot_here", "_law_name"]
abbrev p__law_lot_names : List Str := ["_law_lot_here"]
theorem sc__law_lot_names : FnScope N__law_lot_names ["_law_lot_here"] (defScope s__law_lot_names) := ⟨rfl, rfl, rfl, by decide +kernel, rfl, by decide +kernel, by decide +kernel⟩
def w__law_lot_names (T : Tab) (TI : String → FWI) : TVS := (wSeq (wIfS (wOr (wNot (wTB (wUn (vIsi isi_Lot) (oS 0)))) (wNot (wTB (wUn (vIsi isi_tuple) (oE (wFld "names" (oS 0))))))) (wRet (wC .non)) wNx)
  (wSeq (wIfS (wNot (wTB (wCB (on1 allD) (wOCons (oE (wComp (wIt (wFld "names" (oS 0))) (.nm 1) [1] wYes (wUn (vIsi isi_str) (oS 1)))) wONil)))) (wRet (wC .non)) wNx)
  (wRet (wCB (on1 listD) (wOCons (oE (wFld "names" (oS 0))) wONil)))))
theorem d__law_lot_names (B : Facts c fa mg) (f : Addr) : Body P w K mg base c fa k T TI N__law_lot_names "_law_lot_names" s__law_lot_names f (w__law_lot_names T TI) := by
  intro cdv A outer s H E F G
  exact (vss_cons (vs_if (vt_w (vw_or (vt_not (vt_val (xisi G B.b B.i_Lot (.own _) (xo 0) (pe_glob rfl B.c_Lot.mg rfl)))) (vw_or1 (vt_not (vt_val (xisi G B.b B.i_tuple (.ty "tuple") (vo_e (xfld "names" G (xo 0))) (pe_tyN rfl B.b_tuple boot_tuple))))))) (vss_one (vs_ret ve_non)) vss_nil)
  (vss_cons (vs_if (vt_not (vt_val (xall G B.b (voa_cons (vo_e (vf_ve (xcomp [("_law_name", 1)] G (xit G (xfld "names" G (xo 0))) (fun _ _ _ _ _ _ => (xgn 1)) (fun _ _ _ _ _ _ G => vts_nil) (fun _ _ _ _ _ _ G => (xisi G B.b B.i_str (.ty "str") (xo 1) (pe_tyN rfl B.b_str boot_str)))))) voa_nil)))) (vss_one (vs_ret ve_non)) vss_nil)
  (vss_one (vs_ret (vf_ve (xlist B.b (voa_cons (vo_e (xfld "names" G (xo 0))) voa_nil)))))))
abbrev s__law_lot : Stmt := top 8
abbrev N__law_lot : List Str := ["_law_names"]
abbrev p__law_lot : List Str := ["_law_names"]
theorem sc__law_lot : FnScope N__law_lot ["_law_names"] (defScope s__law_lot) := ⟨rfl, rfl, rfl, by decide +kernel, rfl, by decide +kernel, by decide +kernel⟩
def w__law_lot (T : Tab) (TI : String → FWI) : TVS := (wSeq (wIfS (wTB (wBin vEq (oE (wCB (on1 lenD) (wOCons (oS 0) wONil))) (oE (wC (.int 0))))) (wRet (wMake (TI "Lot.__init__") "Lot" wANil)) wNx)
  (wSeq (wIfS (wTB (wBin vEq (oE (wCB (on1 lenD) (wOCons (oS 0) wONil))) (oE (wC (.int 1))))) (wRet (wMake (TI "Lot.__init__") "Lot" (wACons (wBin vIx (oS 0) (oE (wC (.int 0)))) wANil))) wNx)
  (wSeq (wIfS (wTB (wBin vEq (oE (wCB (on1 lenD) (wOCons (oS 0) wONil))) (oE (wC (.int 2))))) (wRet (wMake (TI "Lot.__init__") "Lot" (wACons (wBin vIx (oS 0) (oE (wC (.int 0)))) (wACons (wBin vIx (oS 0) (oE (wC (.int 1)))) wANil)))) wNx)
  (wSeq (wIfS (wTB (wBin vEq (oE (wCB (on1 lenD) (wOCons (oS 0) wONil))) (oE (wC (.int 3))))) (wRet (wMake (TI "Lot.__init__") "Lot" (wACons (wBin vIx (oS 0) (oE (wC (.int 0)))) (wACons (wBin vIx (oS 0) (oE (wC (.int 1)))) (wACons (wBin vIx (oS 0) (oE (wC (.int 2)))) wANil))))) wNx)
  (wRet (wMake (TI "Lot.__init__") "Lot" (wACons (wBin vIx (oS 0) (oE (wC (.int 0)))) (wACons (wBin vIx (oS 0) (oE (wC (.int 1)))) (wACons (wBin vIx (oS 0) (oE (wC (.int 2)))) (wACons (wBin vIx (oS 0) (oE (wC (.int 3)))) wANil))))))))))
theorem d__law_lot (B : Facts c fa mg) (f : Addr) : Body P w K mg base c fa k T TI N__law_lot "_law_lot" s__law_lot f (w__law_lot T TI) := by
  intro cdv A outer s H E F G
  exact (vss_cons (vs_if (vt_cmp (ov_eq G.hu4 G.hK) (vo_e (xlen G B.b (voa_cons (xo 0) voa_nil))) (vo_e ve_int) rfl) (vss_one (vs_ret (vf_ve (xmake0 "Lot" "Lot.__init__" G B.c_Lot)))) vss_nil)
  (vss_cons (vs_if (vt_cmp (ov_eq G.hu4 G.hK) (vo_e (xlen G B.b (voa_cons (xo 0) voa_nil))) (vo_e ve_int) rfl) (vss_one (vs_ret (vf_ve (xmake "Lot" "Lot.__init__" G B.c_Lot (va_cons (xix G (xo 0) (vo_e ve_int)) va_nil))))) vss_nil)
  (vss_cons (vs_if (vt_cmp (ov_eq G.hu4 G.hK) (vo_e (xlen G B.b (voa_cons (xo 0) voa_nil))) (vo_e ve_int) rfl) (vss_one (vs_ret (vf_ve (xmake "Lot" "Lot.__init__" G B.c_Lot (va_cons (xix G (xo 0) (vo_e ve_int)) (va_cons (xix G (xo 0) (vo_e ve_int)) va_nil)))))) vss_nil)
  (vss_cons (vs_if (vt_cmp (ov_eq G.hu4 G.hK) (vo_e (xlen G B.b (voa_cons (xo 0) voa_nil))) (vo_e ve_int) rfl) (vss_one (vs_ret (vf_ve (xmake "Lot" "Lot.__init__" G B.c_Lot (va_cons (xix G (xo 0) (vo_e ve_int)) (va_cons (xix G (xo 0) (vo_e ve_int)) (va_cons (xix G (xo 0) (vo_e ve_int)) va_nil))))))) vss_nil)
  (vss_one (vs_ret (vf_ve (xmake "Lot" "Lot.__init__" G B.c_Lot (va_cons (xix G (xo 0) (vo_e ve_int)) (va_cons (xix G (xo 0) (vo_e ve_int)) (va_cons (xix G (xo 0) (vo_e ve_int)) (va_cons (xix G (xo 0) (vo_e ve_int)) va_nil))))))))))))
abbrev s__law_set : Stmt := top 9
abbrev N__law_set : List Str := ["_law_names", "_law_found", "_law_name"]
abbrev p__law_set : List Str := ["_law_names"]
theorem sc__law_set : FnScope N__law_set ["_law_names"] (defScope s__law_set) := ⟨rfl, rfl, rfl, by decide +kernel, rfl, by decide +kernel, by decide +kernel⟩
def w__law_set (T : Tab) (TI : String → FWI) : TVS := (wSeq (wSetO 1 (wLst wANil))
  (wSeq (wFor (wIt (wCB (on1 sortedD) (wOCons (oE (wComp (wIt (wVar 0)) (.nm 2) [2] wYes (wCB (on1 strD) (wOCons (oS 2) wONil)))) wONil))) (.nm 2) (wIfS (wTB (wBin vNotIn (oS 2) (oS 1))) (wDrop (wMut 1 mAppend (wACons (wVar 2) wANil))) wNx))
  (wRet (wVar 1))))
theorem d__law_set (B : Facts c fa mg) (f : Addr) : Body P w K mg base c fa k T TI N__law_set "_law_set" s__law_set f (w__law_set T TI) := by
  intro cdv A outer s H E F G
  exact (vss_cons (xseto 1 (vf_lst va_nil))
  (vss_cons (xfor G (xit G (vf_ve (xsorted B.b (voa_cons (vo_e (vf_ve (xcomp [("_law_name", 2)] G (xit G (xv 0)) (fun _ _ _ _ _ _ => (xgn 2)) (fun _ _ _ _ _ _ G => vts_nil) (fun _ _ _ _ _ _ G => (xstr B.b (voa_cons (xo 2) voa_nil)))))) voa_nil)))) (xgn 2) (vss_one (vs_if (vt_cmp (ov_notIn G.hu G.hK) (xo 2) (xo 1) rfl) (vss_one (vs_expr (xapp 1 (va_cons (xv 2) va_nil)))) vss_nil)))
  (vss_one (vs_ret (xv 1)))))
abbrev s__law_names_drawn : Stmt := top 10
abbrev N__law_names_drawn : List Str := ["_law_pool_here", "_law_names", "_law_k"]
abbrev p__law_names_drawn : List Str := ["_law_pool_here"]
theorem sc__law_names_drawn : FnScope N__law_names_drawn ["_law_pool_here"] (defScope s__law_names_drawn) := ⟨rfl, rfl, rfl, by decide +kernel, rfl, by decide +kernel, by decide +kernel⟩
def w__law_names_drawn (T : Tab) (TI : String → FWI) : TVS := (wSeq (wSetO 1 (wLst wANil))
  (wSeq (wFor (wRng1 (wACons (wCall (T "_law_draw") (wACons (wVar 0) (wACons (wC (.int 5)) wANil))) wANil)) (.nm 2) (wIfS (wTB (wBin vEq (oE (wCall (T "_law_draw") (wACons (wVar 0) (wACons (wC (.int 4)) wANil)))) (oE (wC (.int 3))))) (wDrop (wMut 1 mAppend (wACons (wCall (T "_law_free_name") (wACons (wVar 0) (wACons (wC (.str "ABCDEFGHIJKLMNOPQRSTUVWXYZ")) wANil))) wANil))) (wDrop (wMut 1 mAppend (wACons (wBin vIx (oE (wLst (wACons (wC (.str "Code")) (wACons (wC (.str "Show")) (wACons (wC (.str "C")) (wACons (wC (.str "Co")) (wACons (wC (.str "Zed")) wANil))))))) (oE (wCall (T "_law_draw") (wACons (wVar 0) (wACons (wC (.int 5)) wANil))))) wANil)))))
  (wRet (wVar 1))))
theorem d__law_names_drawn (B : Facts c fa mg) (f : Addr) : Body P w K mg base c fa k T TI N__law_names_drawn "_law_names_drawn" s__law_names_drawn f (w__law_names_drawn T TI) := by
  intro cdv A outer s H E F G
  exact (vss_cons (xseto 1 (vf_lst va_nil))
  (vss_cons (xfor G (xrng1 B.b (va_cons (xcall "_law_draw" G B.f__law_draw (va_cons (xv 0) (va_cons ve_int va_nil))) va_nil)) (xgn 2) (vss_one (vs_if (vt_cmp (ov_eq G.hu4 G.hK) (vo_e (xcall "_law_draw" G B.f__law_draw (va_cons (xv 0) (va_cons ve_int va_nil)))) (vo_e ve_int) rfl) (vss_one (vs_expr (xapp 1 (va_cons (xcall "_law_free_name" G B.f__law_free_name (va_cons (xv 0) (va_cons ve_str va_nil))) va_nil)))) (vss_one (vs_expr (xapp 1 (va_cons (xix G (vo_e (vf_ve (vf_lst (va_cons ve_str (va_cons ve_str (va_cons ve_str (va_cons ve_str (va_cons ve_str va_nil)))))))) (vo_e (xcall "_law_draw" G B.f__law_draw (va_cons (xv 0) (va_cons ve_int va_nil))))) va_nil)))))))
  (vss_one (vs_ret (xv 1)))))
abbrev s__law_right : Stmt := top 11
abbrev N__law_right : List Str := ["_law_lot_here", "_law_names", "_law_due", "_law_name"]
abbrev p__law_right : List Str := ["_law_lot_here", "_law_names"]
theorem sc__law_right : FnScope N__law_right ["_law_lot_here", "_law_names"] (defScope s__law_right) := ⟨rfl, rfl, rfl, by decide +kernel, rfl, by decide +kernel, by decide +kernel⟩
def w__law_right (T : Tab) (TI : String → FWI) : TVS := (wSeq (wAsg (wCall (T "_law_set") (wACons (wVar 1) wANil)) (.nm 2))
  (wSeq (wIfS (wOr (wTB (wBin vNe (oE (wCall (T "_law_lot_names") (wACons (wVar 0) wANil))) (oS 2))) (wTB (wBin vNe (oE (wCB (on1 (listItD "Lot" "names")) (wOCons (oS 0) wONil))) (oS 2)))) (wRet (wC (.bl false))) wNx)
  (wSeq (wFor (wIt (wBin vAdd (oE (wLst (wACons (wC (.str "Code")) (wACons (wC (.str "Show")) (wACons (wC (.str "C")) (wACons (wC (.str "Co")) (wACons (wC (.str "Zed")) (wACons (wC (.str "Unseen")) (wACons (wC (.str "")) wANil))))))))) (oS 1))) (.nm 3) (wIfS (wOr (wAnd (wTB (wBin vIsN (oE (wOwnIn T ms___contains__ false (wVar 3) (wVar 0))) (oE (wC (.bl true))))) (wTB (wBin vIn (oS 3) (oS 2)))) (wAnd (wTB (wBin vIsN (oE (wOwnIn T ms___contains__ false (wVar 3) (wVar 0))) (oE (wC (.bl false))))) (wTB (wBin vNotIn (oS 3) (oS 2))))) (wRet (wC (.bl false))) wNx))
  (wRet (wC (.bl true))))))
theorem d__law_right (B : Facts c fa mg) (f : Addr) : Body P w K mg base c fa k T TI N__law_right "_law_right" s__law_right f (w__law_right T TI) := by
  intro cdv A outer s H E F G
  exact (vss_cons (xset 2 (xcall "_law_set" G B.f__law_set (va_cons (xv 1) va_nil)))
  (vss_cons (vs_if (vt_w (vw_or (vt_cmp (ov_ne G.hu4 G.hK) (vo_e (xcall "_law_lot_names" G B.f__law_lot_names (va_cons (xv 0) va_nil))) (xo 2) rfl) (vw_or1 (vt_cmp (ov_ne G.hu4 G.hK) (vo_e (vf_ve (vf_ty (cf_listIt (cl := "Lot") (fk := "Lot.__iter__") (f := "names") G B.io_Lot sc_Lot___iter__ (fun cdv A outer s H E => it_Lot B.zi _ cdv A outer s H E)) (gl_of (by kernel_rfl)) B.b.list boot_list (voa_cons (xo 0) voa_nil) (by decide) (by decide)))) (xo 2) rfl)))) (vss_one (vs_ret ve_bl)) vss_nil)
  (vss_cons (xfor G (xit G (ve_bin ov_add (vo_e (vf_ve (vf_lst (va_cons ve_str (va_cons ve_str (va_cons ve_str (va_cons ve_str (va_cons ve_str (va_cons ve_str (va_cons ve_str va_nil)))))))))) (xo 1))) (xgn 3) (vss_one (vs_if (vt_w (vw_or (vt_w (vw_and (vt_cmp ov_isN (vo_e (ve_inO_ (.inl ⟨rfl, rfl⟩) G B.m___contains__ (xv 3) (xv 0) rfl)) (vo_e ve_bl) rfl) (vw_and1 (vt_cmp (ov_in G.hu G.hK) (xo 3) (xo 2) rfl)))) (vw_or1 (vt_w (vw_and (vt_cmp ov_isN (vo_e (ve_inO_ (.inl ⟨rfl, rfl⟩) G B.m___contains__ (xv 3) (xv 0) rfl)) (vo_e ve_bl) rfl) (vw_and1 (vt_cmp (ov_notIn G.hu G.hK) (xo 3) (xo 2) rfl))))))) (vss_one (vs_ret ve_bl)) vss_nil)))
  (vss_one (vs_ret ve_bl)))))
abbrev s_law : Stmt := top 12
abbrev N_law : List Str := ["_law_script", "_law_pool_here", "_law_rows", "_law_lots", "_law_names", "_law_k", "_law_j", "_law_same", "_law_both"]
abbrev p_law : List Str := ["_law_script"]
theorem sc_law : FnScope N_law ["_law_script"] (defScope s_law) := ⟨rfl, rfl, rfl, by decide +kernel, rfl, by decide +kernel, by decide +kernel⟩
def w_law_t4 (T : Tab) (TI : String → FWI) : TVS := (wRet (wC (.bl true)))
def w_law (T : Tab) (TI : String → FWI) : TVS := (wSeq (wAsg (wCall (T "_law_pool") (wACons (wVar 0) wANil)) (.nm 1))
  (wSeq (wAsg (wLst (wACons (wCall (T "_law_names_drawn") (wACons (wVar 1) wANil)) (wACons (wCall (T "_law_names_drawn") (wACons (wVar 1) wANil)) (wACons (wCall (T "_law_names_drawn") (wACons (wVar 1) wANil)) (wACons (wLst (wACons (wC (.str "Show")) (wACons (wC (.str "Code")) (wACons (wC (.str "Show")) wANil)))) (wACons (wLst wANil) wANil)))))) (.nm 2))
  (wSeq (wAsg (wComp (wIt (wVar 2)) (.nm 4) [4] wYes (wCall (T "_law_lot") (wACons (wVar 4) wANil))) (.nm 3))
  (wSeq (wFor (wRng1 (wACons (wC (.int 5)) wANil)) (.nm 5) (wSeq (wIfS (wNot (wTB (wCall (T "_law_right") (wACons (wBin vIx (oS 3) (oS 5)) (wACons (wBin vIx (oS 2) (oS 5)) wANil))))) (wRet (wC (.bl false))) wNx)
  (wFor (wRng1 (wACons (wC (.int 5)) wANil)) (.nm 6) (wSeq (wAsg (wBin vEq (oE (wCall (T "_law_set") (wACons (wBin vIx (oS 2) (oS 5)) wANil))) (oE (wCall (T "_law_set") (wACons (wBin vIx (oS 2) (oS 6)) wANil)))) (.nm 7))
  (wSeq (wIfS (wOr (wAnd (wTB (wBin vIsN (oE (wOwnB T ms___eq__ (wBin vIx (oS 3) (oS 5)) (wBin vIx (oS 3) (oS 6)))) (oE (wC (.bl true))))) (wTru (oS 7))) (wAnd (wTB (wBin vIsN (oE (wOwnB T ms___eq__ (wBin vIx (oS 3) (oS 5)) (wBin vIx (oS 3) (oS 6)))) (oE (wC (.bl false))))) (wNot (wTru (oS 7))))) (wRet (wC (.bl false))) wNx)
  (wSeq (wIfS (wOr (wAnd (wTB (wBin vIsN (oE (wOwnT T ms___eq__ true (wBin vIx (oS 3) (oS 5)) (wBin vIx (oS 3) (oS 6)))) (oE (wC (.bl false))))) (wTru (oS 7))) (wAnd (wTB (wBin vIsN (oE (wOwnT T ms___eq__ true (wBin vIx (oS 3) (oS 5)) (wBin vIx (oS 3) (oS 6)))) (oE (wC (.bl true))))) (wNot (wTru (oS 7))))) (wRet (wC (.bl false))) wNx)
  (wSeq (wAsg (wOwnB T ms___and__ (wBin vIx (oS 3) (oS 5)) (wBin vIx (oS 3) (oS 6))) (.nm 8))
  (wSeq (wIfS (wOr (wNot (wTB (wCall (T "_law_right") (wACons (wVar 8) (wACons (wBin vAdd (oE (wBin vIx (oS 2) (oS 5))) (oE (wBin vIx (oS 2) (oS 6)))) wANil))))) (wTB (wBin vIsN (oE (wOwnB T ms___eq__ (wVar 8) (wOwnB T ms___and__ (wBin vIx (oS 3) (oS 6)) (wBin vIx (oS 3) (oS 5))))) (oE (wC (.bl true)))))) (wRet (wC (.bl false))) wNx)
  (wIfS (wOr (wNot (wTB (wCall (T "_law_right") (wACons (wBin vIx (oS 3) (oS 5)) (wACons (wBin vIx (oS 2) (oS 5)) wANil))))) (wNot (wTB (wCall (T "_law_right") (wACons (wBin vIx (oS 3) (oS 6)) (wACons (wBin vIx (oS 2) (oS 6)) wANil)))))) (wRet (wC (.bl false))) wNx)))))))))
  (w_law_t4 T TI)))))
theorem d_law (B : Facts c fa mg) (f : Addr) : Body P w K mg base c fa k T TI N_law "law" s_law f (w_law T TI) := by
  intro cdv A outer s H E F G
  exact (vss_cons (xset 1 (xcall "_law_pool" G B.f__law_pool (va_cons (xv 0) va_nil)))
  (vss_cons (xset 2 (vf_ve (vf_lst (va_cons (xcall "_law_names_drawn" G B.f__law_names_drawn (va_cons (xv 1) va_nil)) (va_cons (xcall "_law_names_drawn" G B.f__law_names_drawn (va_cons (xv 1) va_nil)) (va_cons (xcall "_law_names_drawn" G B.f__law_names_drawn (va_cons (xv 1) va_nil)) (va_cons (vf_ve (vf_lst (va_cons ve_str (va_cons ve_str (va_cons ve_str va_nil))))) (va_cons (vf_ve (vf_lst va_nil)) va_nil))))))))
  (vss_cons (xsetlc 3 [("_law_names", 4)] G (xit G (xv 2)) (fun _ _ _ _ _ _ => (xgn 4)) (fun _ _ _ _ _ _ G => vts_nil) (fun _ _ _ _ _ _ G => (xcall "_law_lot" G B.f__law_lot (va_cons (xv 4) va_nil))))
  (vss_cons (xfor G (xrng1 B.b (va_cons ve_int va_nil)) (xgn 5) (vss_cons (vs_if (vt_not (vt_val (xcall "_law_right" G B.f__law_right (va_cons (xix G (xo 3) (xo 5)) (va_cons (xix G (xo 2) (xo 5)) va_nil))))) (vss_one (vs_ret ve_bl)) vss_nil)
  (vss_one (xfor G (xrng1 B.b (va_cons ve_int va_nil)) (xgn 6) (vss_cons (xset 7 (xeq G (vo_e (xcall "_law_set" G B.f__law_set (va_cons (xix G (xo 2) (xo 5)) va_nil))) (vo_e (xcall "_law_set" G B.f__law_set (va_cons (xix G (xo 2) (xo 6)) va_nil)))))
  (vss_cons (vs_if (vt_w (vw_or (vt_w (vw_and (vt_cmp ov_isN (vo_e (ve_cmpO (m := "__eq__") (fun _ _ => rfl) rfl G B.m___eq__ (xix G (xo 3) (xo 5)) (xix G (xo 3) (xo 6)) rfl)) (vo_e ve_bl) rfl) (vw_and1 (vt_tru (xo 7))))) (vw_or1 (vt_w (vw_and (vt_cmp ov_isN (vo_e (ve_cmpO (m := "__eq__") (fun _ _ => rfl) rfl G B.m___eq__ (xix G (xo 3) (xo 5)) (xix G (xo 3) (xo 6)) rfl)) (vo_e ve_bl) rfl) (vw_and1 (vt_not (vt_tru (xo 7))))))))) (vss_one (vs_ret ve_bl)) vss_nil)
  (vss_cons (vs_if (vt_w (vw_or (vt_w (vw_and (vt_cmp ov_isN (vo_e (ve_neO G B.m___eq__ B.ne (xix G (xo 3) (xo 5)) (xix G (xo 3) (xo 6)) rfl)) (vo_e ve_bl) rfl) (vw_and1 (vt_tru (xo 7))))) (vw_or1 (vt_w (vw_and (vt_cmp ov_isN (vo_e (ve_neO G B.m___eq__ B.ne (xix G (xo 3) (xo 5)) (xix G (xo 3) (xo 6)) rfl)) (vo_e ve_bl) rfl) (vw_and1 (vt_not (vt_tru (xo 7))))))))) (vss_one (vs_ret ve_bl)) vss_nil)
  (vss_cons (xset 8 (ve_binO (m := "__and__") (by decide) G B.m___and__ B.sf___and__ (xix G (xo 3) (xo 5)) (xix G (xo 3) (xo 6))))
  (vss_cons (vs_if (vt_w (vw_or (vt_not (vt_val (xcall "_law_right" G B.f__law_right (va_cons (xv 8) (va_cons (ve_bin ov_add (vo_e (xix G (xo 2) (xo 5))) (vo_e (xix G (xo 2) (xo 6)))) va_nil))))) (vw_or1 (vt_cmp ov_isN (vo_e (ve_cmpO (m := "__eq__") (fun _ _ => rfl) rfl G B.m___eq__ (xv 8) (ve_binO (m := "__and__") (by decide) G B.m___and__ B.sf___and__ (xix G (xo 3) (xo 6)) (xix G (xo 3) (xo 5))) rfl)) (vo_e ve_bl) rfl)))) (vss_one (vs_ret ve_bl)) vss_nil)
  (vss_one (vs_if (vt_w (vw_or (vt_not (vt_val (xcall "_law_right" G B.f__law_right (va_cons (xix G (xo 3) (xo 5)) (va_cons (xix G (xo 2) (xo 5)) va_nil))))) (vw_or1 (vt_not (vt_val (xcall "_law_right" G B.f__law_right (va_cons (xix G (xo 3) (xo 6)) (va_cons (xix G (xo 2) (xo 6)) va_nil)))))))) (vss_one (vs_ret ve_bl)) vss_nil)))))))))))
  (vss_one (vs_ret ve_bl))))))
end
end K14
namespace K14
open PySem PySem.Spec PyProof.Rows L2 VL
def WW : Nat → Tab × (String → FWI)
  | 0 => (⟨fun _ _ _ _ _ => False, fun _ _ _ _ _ => False⟩, fun _ _ _ _ _ _ _ => False)
  | n + 1 => (⟨fun f => match f with
      | "Lot.__contains__" => runV 2 2 (w_Lot___contains__ (WW n).1 (WW n).2)
      | "Lot.__eq__" => runV 2 2 (w_Lot___eq__ (WW n).1 (WW n).2)
      | "Lot.__and__" => runV 3 2 (w_Lot___and__ (WW n).1 (WW n).2)
      | "_law_pool" => runV 8 1 (w__law_pool (WW n).1 (WW n).2)
      | "_law_draw" => runV 2 2 (w__law_draw (WW n).1 (WW n).2)
      | "_law_free_name" => runV 5 2 (w__law_free_name (WW n).1 (WW n).2)
      | "_law_lot_names" => runV 2 1 (w__law_lot_names (WW n).1 (WW n).2)
      | "_law_lot" => runV 1 1 (w__law_lot (WW n).1 (WW n).2)
      | "_law_set" => runV 3 1 (w__law_set (WW n).1 (WW n).2)
      | "_law_names_drawn" => runV 3 1 (w__law_names_drawn (WW n).1 (WW n).2)
      | "_law_right" => runV 4 2 (w__law_right (WW n).1 (WW n).2)
      | "law" => runV 9 1 (w_law (WW n).1 (WW n).2)
      | _ => fun _ _ _ _ => False, fun _ _ _ _ _ => False⟩, fun f => match f with
      | "Lot.__init__" => runIS 3 1 (w_Lot___init__ (WW n).1 (WW n).2)
      | _ => fun _ _ _ _ _ _ => False)
theorem W_Lot___contains__ (n : Nat) : (WW (n + 1)).1 "Lot.__contains__" = runV 2 2 (w_Lot___contains__ (WW n).1 (WW n).2) := rfl
theorem W_Lot___eq__ (n : Nat) : (WW (n + 1)).1 "Lot.__eq__" = runV 2 2 (w_Lot___eq__ (WW n).1 (WW n).2) := rfl
theorem W_Lot___and__ (n : Nat) : (WW (n + 1)).1 "Lot.__and__" = runV 3 2 (w_Lot___and__ (WW n).1 (WW n).2) := rfl
theorem W__law_pool (n : Nat) : (WW (n + 1)).1 "_law_pool" = runV 8 1 (w__law_pool (WW n).1 (WW n).2) := rfl
theorem W__law_draw (n : Nat) : (WW (n + 1)).1 "_law_draw" = runV 2 2 (w__law_draw (WW n).1 (WW n).2) := rfl
theorem W__law_free_name (n : Nat) : (WW (n + 1)).1 "_law_free_name" = runV 5 2 (w__law_free_name (WW n).1 (WW n).2) := rfl
theorem W__law_lot_names (n : Nat) : (WW (n + 1)).1 "_law_lot_names" = runV 2 1 (w__law_lot_names (WW n).1 (WW n).2) := rfl
theorem W__law_lot (n : Nat) : (WW (n + 1)).1 "_law_lot" = runV 1 1 (w__law_lot (WW n).1 (WW n).2) := rfl
theorem W__law_set (n : Nat) : (WW (n + 1)).1 "_law_set" = runV 3 1 (w__law_set (WW n).1 (WW n).2) := rfl
theorem W__law_names_drawn (n : Nat) : (WW (n + 1)).1 "_law_names_drawn" = runV 3 1 (w__law_names_drawn (WW n).1 (WW n).2) := rfl
theorem W__law_right (n : Nat) : (WW (n + 1)).1 "_law_right" = runV 4 2 (w__law_right (WW n).1 (WW n).2) := rfl
theorem W_law (n : Nat) : (WW (n + 1)).1 "law" = runV 9 1 (w_law (WW n).1 (WW n).2) := rfl
theorem WI_Lot___init__ (n : Nat) : (WW (n + 1)).2 "Lot.__init__" = runIS 3 1 (w_Lot___init__ (WW n).1 (WW n).2) := rfl
/-- the defs stand where the top has put them -/
structure Funs (c : Cf) (fa : String → Addr) (mg : Str → Option Value) (K : PySem.W.Frag) (P : Program) : Prop where
  u_Lot___init__ : ∃ fd, Fun K "__init__" "Lot.__init__" s_Lot___init__ (fa "Lot.__init__") fd ∧ ∀ us rest : List Value, us.length = p_Lot___init__.length → bindArgs fd ⟨us ++ rest, []⟩ = (newTuple rest >>= fun t => pure (p_Lot___init__.zip us ++ [(("names" : Str), t)]))
  u_Lot___contains__ : ∃ fd, Fun K "__contains__" "Lot.__contains__" s_Lot___contains__ (fa "Lot.__contains__") fd ∧ Binds K fd p_Lot___contains__ []
  u_Lot___eq__ : ∃ fd, Fun K "__eq__" "Lot.__eq__" s_Lot___eq__ (fa "Lot.__eq__") fd ∧ Binds K fd p_Lot___eq__ []
  u_Lot___and__ : ∃ fd, Fun K "__and__" "Lot.__and__" s_Lot___and__ (fa "Lot.__and__") fd ∧ Binds K fd p_Lot___and__ []
  u__law_pool : ∃ fd, Fun K "_law_pool" "_law_pool" s__law_pool (fa "_law_pool") fd ∧ Binds K fd p__law_pool []
  u__law_draw : ∃ fd, Fun K "_law_draw" "_law_draw" s__law_draw (fa "_law_draw") fd ∧ Binds K fd p__law_draw []
  u__law_free_name : ∃ fd, Fun K "_law_free_name" "_law_free_name" s__law_free_name (fa "_law_free_name") fd ∧ Binds K fd p__law_free_name []
  u__law_lot_names : ∃ fd, Fun K "_law_lot_names" "_law_lot_names" s__law_lot_names (fa "_law_lot_names") fd ∧ Binds K fd p__law_lot_names []
  u__law_lot : ∃ fd, Fun K "_law_lot" "_law_lot" s__law_lot (fa "_law_lot") fd ∧ Binds K fd p__law_lot []
  u__law_set : ∃ fd, Fun K "_law_set" "_law_set" s__law_set (fa "_law_set") fd ∧ Binds K fd p__law_set []
  u__law_names_drawn : ∃ fd, Fun K "_law_names_drawn" "_law_names_drawn" s__law_names_drawn (fa "_law_names_drawn") fd ∧ Binds K fd p__law_names_drawn []
  u__law_right : ∃ fd, Fun K "_law_right" "_law_right" s__law_right (fa "_law_right") fd ∧ Binds K fd p__law_right []
  u_law : ∃ fd, Fun K "law" "law" s_law (fa "law") fd ∧ Binds K fd p_law []
theorem lev {P : Program} {w : World} {K : PySem.W.Frag} {mg : Str → Option Value} {base : Heap} {c : Cf} {fa : String → Addr} (hK : c.K = K) (B : Facts c fa mg) (U : Funs c fa mg K P) :
    ∀ n, (∀ f, FnR P w K mg base (L2.CX P w) (4 * n + 1) (fa f) (spV c ((WW n).1 f))) ∧ (∀ f, FnR P w K mg base (L2.CX P w) (4 * n + 1) (fa f) (spVF c ((WW n).1.fr f))) ∧ (∀ f, FnR P w K mg base (L2.CX P w) (4 * n + 1) (fa f) (spI c ((WW n).2 f)))
  | 0 => ⟨fun _ => fn_no, fun _ => ff_no, fun _ => fi_no⟩
  | n + 1 => by
    obtain ⟨h1, h3, h2⟩ := lev (w := w) (base := base) hK B U n
    have TB : Tb P w K mg base c fa (4 * n + 1) (WW n).1 (WW n).2 := ⟨h1, h3, h2, hK⟩
    have e : 4 * (n + 1) + 1 = (4 * n + 1) + 4 := by omega
    rw [e]
    refine ⟨fun f => ?_, fun f => ?_, fun f => ?_⟩
    · simp only [WW]
      split
      · obtain ⟨fd, F, b⟩ := U.u_Lot___contains__; exact fn_val F sc_Lot___contains__ b TB (d_Lot___contains__ B _)
      · obtain ⟨fd, F, b⟩ := U.u_Lot___eq__; exact fn_val F sc_Lot___eq__ b TB (d_Lot___eq__ B _)
      · obtain ⟨fd, F, b⟩ := U.u_Lot___and__; exact fn_val F sc_Lot___and__ b TB (d_Lot___and__ B _)
      · obtain ⟨fd, F, b⟩ := U.u__law_pool; exact fn_val F sc__law_pool b TB (d__law_pool B _)
      · obtain ⟨fd, F, b⟩ := U.u__law_draw; exact fn_val F sc__law_draw b TB (d__law_draw B _)
      · obtain ⟨fd, F, b⟩ := U.u__law_free_name; exact fn_val F sc__law_free_name b TB (d__law_free_name B _)
      · obtain ⟨fd, F, b⟩ := U.u__law_lot_names; exact fn_val F sc__law_lot_names b TB (d__law_lot_names B _)
      · obtain ⟨fd, F, b⟩ := U.u__law_lot; exact fn_val F sc__law_lot b TB (d__law_lot B _)
      · obtain ⟨fd, F, b⟩ := U.u__law_set; exact fn_val F sc__law_set b TB (d__law_set B _)
      · obtain ⟨fd, F, b⟩ := U.u__law_names_drawn; exact fn_val F sc__law_names_drawn b TB (d__law_names_drawn B _)
      · obtain ⟨fd, F, b⟩ := U.u__law_right; exact fn_val F sc__law_right b TB (d__law_right B _)
      · obtain ⟨fd, F, b⟩ := U.u_law; exact fn_val F sc_law b TB (d_law B _)
      · exact fn_no
    · simp only [WW]; exact ff_no
    · simp only [WW]
      split
      · obtain ⟨fd, F, b⟩ := U.u_Lot___init__; exact fn_initS F sc_Lot___init__ b TB (d_Lot___init__ B _)
      · exact fi_no
theorem all_mk {P : Program} {w : World} {K : PySem.W.Frag} {h : Heap} {mg : Str → Option Value} {fl : Addr} (X : K.In h) (G : h.Ns mainGlobals mg) (hfl : mg "law" = some (.ref fl)) {C_Lot f__law_pool f__law_draw f__law_free_name f__law_lot_names f__law_lot f__law_set f__law_names_drawn f__law_right f_law f_Lot___iter__ f_Lot___and__ f_Lot___contains__ f_Lot___eq__ f_Lot___init__ : Addr}
    (z_len : PySem.W.nsIn K mainGlobals "len" = some none)
    (z_int : PySem.W.nsIn K mainGlobals "int" = some none)
    (z_abs : PySem.W.nsIn K mainGlobals "abs" = some none)
    (z_str : PySem.W.nsIn K mainGlobals "str" = some none)
    (z_tuple : PySem.W.nsIn K mainGlobals "tuple" = some none)
    (z_list : PySem.W.nsIn K mainGlobals "list" = some none)
    (z_sorted : PySem.W.nsIn K mainGlobals "sorted" = some none)
    (z_sum : PySem.W.nsIn K mainGlobals "sum" = some none)
    (z_max : PySem.W.nsIn K mainGlobals "max" = some none)
    (z_min : PySem.W.nsIn K mainGlobals "min" = some none)
    (z_all : PySem.W.nsIn K mainGlobals "all" = some none)
    (z_any : PySem.W.nsIn K mainGlobals "any" = some none)
    (z_range : PySem.W.nsIn K mainGlobals "range" = some none)
    (z_isinstance : PySem.W.nsIn K mainGlobals "isinstance" = some none)
    (a_Lot : PySem.W.nsIn K mainGlobals "Lot" = some (some (.ref C_Lot)))
    (ca_Lot : CAt K C_Lot)
    (ci_Lot : CIs K C_Lot)
    (a__law_pool : PySem.W.nsIn K mainGlobals "_law_pool" = some (some (.ref f__law_pool)))
    (l__law_pool : FAt K "_law_pool" "_law_pool" s__law_pool f__law_pool)
    (a__law_draw : PySem.W.nsIn K mainGlobals "_law_draw" = some (some (.ref f__law_draw)))
    (l__law_draw : FAt K "_law_draw" "_law_draw" s__law_draw f__law_draw)
    (a__law_free_name : PySem.W.nsIn K mainGlobals "_law_free_name" = some (some (.ref f__law_free_name)))
    (l__law_free_name : FAt K "_law_free_name" "_law_free_name" s__law_free_name f__law_free_name)
    (a__law_lot_names : PySem.W.nsIn K mainGlobals "_law_lot_names" = some (some (.ref f__law_lot_names)))
    (l__law_lot_names : FAt K "_law_lot_names" "_law_lot_names" s__law_lot_names f__law_lot_names)
    (a__law_lot : PySem.W.nsIn K mainGlobals "_law_lot" = some (some (.ref f__law_lot)))
    (l__law_lot : FAt K "_law_lot" "_law_lot" s__law_lot f__law_lot)
    (a__law_set : PySem.W.nsIn K mainGlobals "_law_set" = some (some (.ref f__law_set)))
    (l__law_set : FAt K "_law_set" "_law_set" s__law_set f__law_set)
    (a__law_names_drawn : PySem.W.nsIn K mainGlobals "_law_names_drawn" = some (some (.ref f__law_names_drawn)))
    (l__law_names_drawn : FAt K "_law_names_drawn" "_law_names_drawn" s__law_names_drawn f__law_names_drawn)
    (a__law_right : PySem.W.nsIn K mainGlobals "_law_right" = some (some (.ref f__law_right)))
    (l__law_right : FAt K "_law_right" "_law_right" s__law_right f__law_right)
    (a_law : PySem.W.nsIn K mainGlobals "law" = some (some (.ref f_law)))
    (l_law : FAt K "law" "law" s_law f_law)
    (z_iter : PySem.W.nsIn K mainGlobals "iter" = some none)
    (ii_Lot : PySem.W.findIn K (.ref C_Lot) "__iter__" = some (some (.ref f_Lot___iter__)))
    (if_Lot : PySem.W.isFn K (.ref f_Lot___iter__) = true)
    (il_Lot : PySem.W.findIn K (.ref C_Lot) "__len__" = some none)
    (ih_Lot : PySem.W.findIn K (.ref C_Lot) "__length_hint__" = some none)
    (l_Lot___iter__ : FAt K "__iter__" "Lot.__iter__" s_Lot___iter__ f_Lot___iter__)
    (a_Lot_Lot___and__ : PySem.W.findIn K (.ref C_Lot) "__and__" = some (some (.ref f_Lot___and__)))
    (i_Lot___and__ : PySem.W.isFn K (.ref f_Lot___and__) = true)
    (l_Lot___and__ : FAt K "__and__" "Lot.__and__" s_Lot___and__ f_Lot___and__)
    (a_Lot_Lot___contains__ : PySem.W.findIn K (.ref C_Lot) "__contains__" = some (some (.ref f_Lot___contains__)))
    (i_Lot___contains__ : PySem.W.isFn K (.ref f_Lot___contains__) = true)
    (l_Lot___contains__ : FAt K "__contains__" "Lot.__contains__" s_Lot___contains__ f_Lot___contains__)
    (a_Lot_Lot___eq__ : PySem.W.findIn K (.ref C_Lot) "__eq__" = some (some (.ref f_Lot___eq__)))
    (i_Lot___eq__ : PySem.W.isFn K (.ref f_Lot___eq__) = true)
    (l_Lot___eq__ : FAt K "__eq__" "Lot.__eq__" s_Lot___eq__ f_Lot___eq__)
    (a_Lot_Lot___init__ : PySem.W.findIn K (.ref C_Lot) "__init__" = some (some (.ref f_Lot___init__)))
    (i_Lot___init__ : PySem.W.isFn K (.ref f_Lot___init__) = true)
    (l_Lot___init__ : FAt K "__init__" "Lot.__init__" s_Lot___init__ f_Lot___init__)
    (n_names_Lot : PySem.W.findIn K (.ref C_Lot) "names" = some none)
    (m_Lot_str : PySem.W.mroIn K C_Lot (.type "str") = some false)
    (m_Lot_tuple : PySem.W.mroIn K C_Lot (.type "tuple") = some false)
    (ne_Lot : PySem.W.findIn K (.ref C_Lot) "__ne__" = some (some (.builtin "object.__ne__")))
    (sf_Lot : PySem.W.selfFirst K C_Lot = true)
    (LV : Nat) (LT : ∀ ns : List Int, ns.length ≤ 63 → (∀ z ∈ ns, Builtin.Int.intBits z ≤ 1048576) → (WW (LV + 1)).1 "law" [.scr ns] [] (fun d _ => d = .bl true) (fun _ _ => False)) :
    ∃ fd : FuncData, (∀ (s : Shared) (v : Value), BindsTo s fd ⟨[v], []⟩ [("_law_script", v)]) ∧ ∀ base : Heap, K.In base → base.Ns mainGlobals mg → FnOk P w K mg base (L2.CX P w) (4 * LV + 5) fl fd ["_law_script"] (spLaw K) := by
  obtain ⟨fa, e_Lot___init__, e_Lot___contains__, e_Lot___eq__, e_Lot___and__, e__law_pool, e__law_draw, e__law_free_name, e__law_lot_names, e__law_lot, e__law_set, e__law_names_drawn, e__law_right, e_law, e_Lot___iter__⟩ : ∃ fa : String → Addr, fa "Lot.__init__" = f_Lot___init__ ∧ fa "Lot.__contains__" = f_Lot___contains__ ∧ fa "Lot.__eq__" = f_Lot___eq__ ∧ fa "Lot.__and__" = f_Lot___and__ ∧ fa "_law_pool" = f__law_pool ∧ fa "_law_draw" = f__law_draw ∧ fa "_law_free_name" = f__law_free_name ∧ fa "_law_lot_names" = f__law_lot_names ∧ fa "_law_lot" = f__law_lot ∧ fa "_law_set" = f__law_set ∧ fa "_law_names_drawn" = f__law_names_drawn ∧ fa "_law_right" = f__law_right ∧ fa "law" = f_law ∧ fa "Lot.__iter__" = f_Lot___iter__ := ⟨lookA [("Lot.__init__", f_Lot___init__), ("Lot.__contains__", f_Lot___contains__), ("Lot.__eq__", f_Lot___eq__), ("Lot.__and__", f_Lot___and__), ("_law_pool", f__law_pool), ("_law_draw", f__law_draw), ("_law_free_name", f__law_free_name), ("_law_lot_names", f__law_lot_names), ("_law_lot", f__law_lot), ("_law_set", f__law_set), ("_law_names_drawn", f__law_names_drawn), ("_law_right", f__law_right), ("law", f_law), ("Lot.__iter__", f_Lot___iter__)], by kernel_rfl, by kernel_rfl, by kernel_rfl, by kernel_rfl, by kernel_rfl, by kernel_rfl, by kernel_rfl, by kernel_rfl, by kernel_rfl, by kernel_rfl, by kernel_rfl, by kernel_rfl, by kernel_rfl, by kernel_rfl⟩
  obtain ⟨ca, ec_Lot⟩ : ∃ ca : String → Addr, ca "Lot" = C_Lot := ⟨lookA [("Lot", C_Lot)], by kernel_rfl⟩
  obtain ⟨c, eK, eca⟩ : ∃ c : Cf, c.K = K ∧ c.ca = ca := ⟨⟨K, ca⟩, rfl, rfl⟩
  have B : Facts c fa mg := by
    constructor
    case b => exact ⟨PySem.W.mg_none_of X G z_len, PySem.W.mg_none_of X G z_int, PySem.W.mg_none_of X G z_abs, PySem.W.mg_none_of X G z_str, PySem.W.mg_none_of X G z_tuple, PySem.W.mg_none_of X G z_list, PySem.W.mg_none_of X G z_sorted, PySem.W.mg_none_of X G z_sum, PySem.W.mg_none_of X G z_max, PySem.W.mg_none_of X G z_min, PySem.W.mg_none_of X G z_all, PySem.W.mg_none_of X G z_any, PySem.W.mg_none_of X G z_range, PySem.W.mg_none_of X G z_isinstance⟩
    case f__law_pool => exact ⟨by rw [e__law_pool]; exact PySem.W.mg_of X G a__law_pool, by rw [e__law_pool, eK]; exact l__law_pool.kp⟩
    case f__law_draw => exact ⟨by rw [e__law_draw]; exact PySem.W.mg_of X G a__law_draw, by rw [e__law_draw, eK]; exact l__law_draw.kp⟩
    case f__law_free_name => exact ⟨by rw [e__law_free_name]; exact PySem.W.mg_of X G a__law_free_name, by rw [e__law_free_name, eK]; exact l__law_free_name.kp⟩
    case f__law_lot_names => exact ⟨by rw [e__law_lot_names]; exact PySem.W.mg_of X G a__law_lot_names, by rw [e__law_lot_names, eK]; exact l__law_lot_names.kp⟩
    case f__law_lot => exact ⟨by rw [e__law_lot]; exact PySem.W.mg_of X G a__law_lot, by rw [e__law_lot, eK]; exact l__law_lot.kp⟩
    case f__law_set => exact ⟨by rw [e__law_set]; exact PySem.W.mg_of X G a__law_set, by rw [e__law_set, eK]; exact l__law_set.kp⟩
    case f__law_names_drawn => exact ⟨by rw [e__law_names_drawn]; exact PySem.W.mg_of X G a__law_names_drawn, by rw [e__law_names_drawn, eK]; exact l__law_names_drawn.kp⟩
    case f__law_right => exact ⟨by rw [e__law_right]; exact PySem.W.mg_of X G a__law_right, by rw [e__law_right, eK]; exact l__law_right.kp⟩
    case f_law => exact ⟨by rw [e_law]; exact PySem.W.mg_of X G a_law, by rw [e_law, eK]; exact l_law.kp⟩
    case c_Lot => exact ⟨by rw [eca, ec_Lot]; exact PySem.W.mg_of X G a_Lot, by rw [eca, ec_Lot, eK, e_Lot___init__]; exact ⟨ca_Lot.mks, a_Lot_Lot___init__, i_Lot___init__, ca_Lot.kc⟩, by rw [eca, ec_Lot, eK]; exact ca_Lot.cls⟩
    case m___eq__ =>
      intro cl f hf
      have hf := mem_lookupD hf
      simp only [ms___eq__, List.mem_cons, List.not_mem_nil, or_false, Prod.mk.injEq] at hf
      obtain ⟨h1, h2⟩ := hf
      subst h1 h2
      exact ⟨by rw [eca, ec_Lot, eK]; exact ca_Lot.cls, by rw [eca, ec_Lot, eK, e_Lot___eq__]; exact ⟨a_Lot_Lot___eq__, i_Lot___eq__, l_Lot___eq__.kp⟩⟩
    case m___contains__ =>
      intro cl f hf
      have hf := mem_lookupD hf
      simp only [ms___contains__, List.mem_cons, List.not_mem_nil, or_false, Prod.mk.injEq] at hf
      obtain ⟨h1, h2⟩ := hf
      subst h1 h2
      exact ⟨by rw [eca, ec_Lot, eK]; exact ca_Lot.cls, by rw [eca, ec_Lot, eK, e_Lot___contains__]; exact ⟨a_Lot_Lot___contains__, i_Lot___contains__, l_Lot___contains__.kp⟩⟩
    case m___and__ =>
      intro cl f hf
      have hf := mem_lookupD hf
      simp only [ms___and__, List.mem_cons, List.not_mem_nil, or_false, Prod.mk.injEq] at hf
      obtain ⟨h1, h2⟩ := hf
      subst h1 h2
      exact ⟨by rw [eca, ec_Lot, eK]; exact ca_Lot.cls, by rw [eca, ec_Lot, eK, e_Lot___and__]; exact ⟨a_Lot_Lot___and__, i_Lot___and__, l_Lot___and__.kp⟩⟩
    case n_names =>
      intro cl hc
      simp only [cs_names, List.contains_cons, List.contains_nil, Bool.or_false, Bool.or_eq_true, beq_iff_eq] at hc
      subst hc
      rw [eca, ec_Lot, eK]; exact n_names_Lot
    case i_Lot =>
      refine ⟨fun t b ht => ?_, fun cl b ht => ?_⟩
      · obtain ⟨o, n⟩ := t
        unfold isi_Lot at ht
        split at ht <;> rename_i hh <;> (try cases hh) <;> (try cases ht)
        · rw [eca, ec_Lot, eK]; exact kit_bo (T := "NoneType") ci_Lot rfl (by decide)
        · rw [eca, ec_Lot, eK]; exact kit_bo (T := "bool") ci_Lot rfl (by decide)
        · rw [eca, ec_Lot, eK]; exact kit_bo (T := "int") ci_Lot rfl (by decide)
        · rw [eca, ec_Lot, eK]; exact kit_bo (T := "str") ci_Lot rfl (by decide)
        · rw [eca, ec_Lot, eK]; exact kit_bo (T := "tuple") ci_Lot rfl (by decide)
        · rw [eca, ec_Lot, eK]; exact kit_bo (T := "list") ci_Lot rfl (by decide)
        · rw [eca, ec_Lot, eK]; exact kit_bo (T := "dict") ci_Lot rfl (by decide)
        · rw [eK]; exact kit_same
      · unfold isi_Lot at ht
        split at ht <;> rename_i hh <;> (try cases hh) <;> (try cases ht)
        · rw [eca, ec_Lot, eK]; exact ca_Lot.isi
    case i_str =>
      refine ⟨fun t b ht => ?_, fun cl b ht => ?_⟩
      · obtain ⟨o, n⟩ := t
        unfold isi_str at ht
        split at ht <;> rename_i hh <;> (try cases hh) <;> (try cases ht)
        · exact kit_ty (by decide +kernel)
        · exact kit_ty (by decide +kernel)
        · exact kit_ty (by decide +kernel)
        · exact kit_ty (by decide +kernel)
        · exact kit_ty (by decide +kernel)
        · exact kit_ty (by decide +kernel)
        · exact kit_ty (by decide +kernel)
        · rw [eK]; show PySem.W.kitOne K (.ref (c.ca "Lot")) (.type "str") = _; rw [eca, ec_Lot]; exact kit_ob (by decide +kernel) m_Lot_str
      · unfold isi_str at ht
        split at ht <;> rename_i hh <;> (try cases hh) <;> (try cases ht)
        · rw [eca, ec_Lot, eK]; exact ca_Lot.isi
    case i_tuple =>
      refine ⟨fun t b ht => ?_, fun cl b ht => ?_⟩
      · obtain ⟨o, n⟩ := t
        unfold isi_tuple at ht
        split at ht <;> rename_i hh <;> (try cases hh) <;> (try cases ht)
        · exact kit_ty (by decide +kernel)
        · exact kit_ty (by decide +kernel)
        · exact kit_ty (by decide +kernel)
        · exact kit_ty (by decide +kernel)
        · exact kit_ty (by decide +kernel)
        · exact kit_ty (by decide +kernel)
        · exact kit_ty (by decide +kernel)
        · rw [eK]; show PySem.W.kitOne K (.ref (c.ca "Lot")) (.type "tuple") = _; rw [eca, ec_Lot]; exact kit_ob (by decide +kernel) m_Lot_tuple
      · unfold isi_tuple at ht
        split at ht <;> rename_i hh <;> (try cases hh) <;> (try cases ht)
        · rw [eca, ec_Lot, eK]; exact ca_Lot.isi
    case b_str => exact PySem.W.mg_none_of X G z_str
    case b_tuple => exact PySem.W.mg_none_of X G z_tuple
    case zi => exact PySem.W.mg_none_of X G z_iter
    case io_Lot =>
      obtain ⟨fd, F⟩ := l_Lot___iter__.fn
      exact ⟨by rw [eca, ec_Lot, eK, e_Lot___iter__]; exact ⟨ii_Lot, if_Lot, il_Lot, ih_Lot⟩, fd, by rw [eK, e_Lot___iter__]; exact F, by rw [eK]; exact F.binds (ps := p_Lot___iter__) fun _ _ _ _ _ _ us hl => match us, hl with | [_], _ => rfl⟩
    case ne =>
      intro cl f hf
      have hf := mem_lookupD hf
      simp only [ms___eq__, List.mem_cons, List.not_mem_nil, or_false, Prod.mk.injEq] at hf
      obtain ⟨h1, h2⟩ := hf
      subst h1 h2
      exact ⟨by rw [eca, ec_Lot, eK]; exact ne_Lot, by rw [eca, ec_Lot, eK]; exact ca_Lot.cm⟩
    case sf___and__ =>
      intro cl f hf
      have hf := mem_lookupD hf
      simp only [ms___and__, List.mem_cons, List.not_mem_nil, or_false, Prod.mk.injEq] at hf
      obtain ⟨h1, h2⟩ := hf
      subst h1 h2
      rw [eca, ec_Lot, eK]; exact sf_Lot
  have U : Funs c fa mg K P := by
    constructor
    case u_Lot___init__ =>
      rw [e_Lot___init__]
      obtain ⟨fd, F⟩ := l_Lot___init__.fn
      refine ⟨fd, F, ?_⟩
      obtain ⟨oc, od, kV, doc, pm, an, cdv, ct, osl, rfl, _, _⟩ := F.ex
      exact StX.bind_star1 (B := fun us => bindArgs _ ⟨us, []⟩) (fun a => rfl) (fun a r rs => rfl)
    case u_Lot___contains__ =>
      rw [e_Lot___contains__]
      obtain ⟨fd, F⟩ := l_Lot___contains__.fn
      exact ⟨fd, F, F.binds (ps := p_Lot___contains__) fun _ _ _ _ _ _ us hl => match us, hl with | [_, _], _ => rfl⟩
    case u_Lot___eq__ =>
      rw [e_Lot___eq__]
      obtain ⟨fd, F⟩ := l_Lot___eq__.fn
      exact ⟨fd, F, F.binds (ps := p_Lot___eq__) fun _ _ _ _ _ _ us hl => match us, hl with | [_, _], _ => rfl⟩
    case u_Lot___and__ =>
      rw [e_Lot___and__]
      obtain ⟨fd, F⟩ := l_Lot___and__.fn
      exact ⟨fd, F, F.binds (ps := p_Lot___and__) fun _ _ _ _ _ _ us hl => match us, hl with | [_, _], _ => rfl⟩
    case u__law_pool =>
      rw [e__law_pool]
      obtain ⟨fd, F⟩ := l__law_pool.fn
      exact ⟨fd, F, F.binds (ps := p__law_pool) fun _ _ _ _ _ _ us hl => match us, hl with | [_], _ => rfl⟩
    case u__law_draw =>
      rw [e__law_draw]
      obtain ⟨fd, F⟩ := l__law_draw.fn
      exact ⟨fd, F, F.binds (ps := p__law_draw) fun _ _ _ _ _ _ us hl => match us, hl with | [_, _], _ => rfl⟩
    case u__law_free_name =>
      rw [e__law_free_name]
      obtain ⟨fd, F⟩ := l__law_free_name.fn
      exact ⟨fd, F, F.binds (ps := p__law_free_name) fun _ _ _ _ _ _ us hl => match us, hl with | [_, _], _ => rfl⟩
    case u__law_lot_names =>
      rw [e__law_lot_names]
      obtain ⟨fd, F⟩ := l__law_lot_names.fn
      exact ⟨fd, F, F.binds (ps := p__law_lot_names) fun _ _ _ _ _ _ us hl => match us, hl with | [_], _ => rfl⟩
    case u__law_lot =>
      rw [e__law_lot]
      obtain ⟨fd, F⟩ := l__law_lot.fn
      exact ⟨fd, F, F.binds (ps := p__law_lot) fun _ _ _ _ _ _ us hl => match us, hl with | [_], _ => rfl⟩
    case u__law_set =>
      rw [e__law_set]
      obtain ⟨fd, F⟩ := l__law_set.fn
      exact ⟨fd, F, F.binds (ps := p__law_set) fun _ _ _ _ _ _ us hl => match us, hl with | [_], _ => rfl⟩
    case u__law_names_drawn =>
      rw [e__law_names_drawn]
      obtain ⟨fd, F⟩ := l__law_names_drawn.fn
      exact ⟨fd, F, F.binds (ps := p__law_names_drawn) fun _ _ _ _ _ _ us hl => match us, hl with | [_], _ => rfl⟩
    case u__law_right =>
      rw [e__law_right]
      obtain ⟨fd, F⟩ := l__law_right.fn
      exact ⟨fd, F, F.binds (ps := p__law_right) fun _ _ _ _ _ _ us hl => match us, hl with | [_, _], _ => rfl⟩
    case u_law =>
      rw [e_law]
      obtain ⟨fd, F⟩ := l_law.fn
      exact ⟨fd, F, F.binds (ps := p_law) fun _ _ _ _ _ _ us hl => match us, hl with | [_], _ => rfl⟩
  have e := hfl.symm.trans (PySem.W.mg_of X G a_law)
  cases e
  obtain ⟨fd, F, b⟩ := U.u_law
  refine ⟨fd, ?_, fun base _ _ => ?_⟩
  · obtain ⟨oc, od, kV, doc, pm, an, cdv, ct, osl, rfl, _, _⟩ := F.ex
    exact fun s v => .of_eq rfl
  · obtain ⟨h1, h3, h2⟩ := lev (w := w) (base := base) eK B U LV
    rw [e_law] at F
    have hk : 4 * LV + 5 = (4 * LV + 1) + 4 := by omega
    rw [hk]
    exact (fn_ok F sc_law ⟨h1, h3, h2, eK⟩ (d_law B _)).imp (law_sp eK LT)
theorem walk {l : PySem.W.OpenLaw} {q : Program} {loose : List Str} {XP : (Str → Option Value) → Heap → Prop} {YP : World → Heap → Prop} {d : DefRec} {K : Params → PySem.W.Frag} {k : Nat} (hn : l.most = some 63) (hdf : d.params.defaults = []) (hr : Room k callerA)
    (hY : ∀ (w : World) (h : Heap), YP w h → (K w.params).In h)
    (F : ∀ (w : World) (mg : Str → Option Value) (fa : Addr) (h : Heap), (K w.params).In h → h.Ns mainGlobals mg → mg d.name = some (.ref fa) →
      ∃ fd : FuncData, (∀ (s : Shared) (u : Value), BindsTo s fd ⟨[u], []⟩ [("_law_script", u)]) ∧ ∀ base : Heap, (K w.params).In base → base.Ns mainGlobals mg → FnOk l.prog w (K w.params) mg base (L2.CX l.prog w) k fa fd ["_law_script"] (spLaw (K w.params))) :
    PySem.W.WalkO q loose XP YP l.row.toRowW d [] (fun f vs => PySem.call f vs) :=
  L2.walk_ofB (n := 63) (x := "_law_script") (CX := fun w => L2.CX l.prog w) (sp := fun w => spLaw (K w.params)) hn (by decide) hdf hr hY F (fun w H a ns hl hb _ hS => ⟨a, ns, rfl, hS, hl, hb, fun _ => rfl⟩) fun _ _ _ _ _ z => cx_no z
end K14

set_option Elab.async false
set_option linter.all false
set_option autoImplicit false
set_option maxRecDepth 100000
namespace K14
open PySem PySem.Spec PyProof.Rows L2 VL
abbrev pl (p : List Int) : D := .lst (p.map D.int)
theorem pl_plain (p : List Int) : plains (p.map D.int) = true := plains_map fun _ _ => rfl
theorem pl_strict (p : List Int) : stricts (p.map D.int) = true := stricts_map fun _ _ => rfl
theorem pl_dep (p : List Int) : deps (p.map D.int) = 0 := by
  have := deps_map (f := D.int) (xs := p) (k := 0) fun _ _ => by simp [dep]
  omega
theorem sp_draw {n : Nat} {p : List Int} {S : Sto} {m : Int} {Q : D → Sto → Prop} {E : Ex → Sto → Prop} {t : Tok ((WW n).1 "_law_draw", Q, E)} (hn : 1 ≤ n) (hm : 0 < m)
    (h : ∀ j p', 0 ≤ j → j < m → p'.length ≤ p.length → Q (.int j) (pl p' :: S)) : Wd ((WW n).1 "_law_draw") [.ref 0, .int m] (pl p :: S) Q E t := by
  obtain ⟨n, rfl⟩ : ∃ k, n = k + 1 := ⟨n - 1, by omega⟩
  unfold Wd
  rw [W__law_draw]
  unfold w__law_draw
  simp -dsimp -implicitDefEqProofs [VL.plain, plains, pl_plain, dep, deps, pl_dep]
  rcases List.eq_nil_or_concat p with e | ⟨p', x, e⟩
  · subst e
    simp -dsimp -implicitDefEqProofs [eqv_dec, strict, stricts]
    exact h _ [] (Int.le_refl _) hm (by simp)
  · simp only [List.concat_eq_append] at e
    subst e
    have hs : stricts (p'.map D.int ++ [D.int x]) = true := by
      have := pl_strict (p' ++ [x]); simpa using this
    have he : PyData.eqv (toP (D.lst (p'.map D.int ++ [D.int x]))) (toP (D.lst [])) = false := eqv_ne (by simpa [strict] using hs) rfl (by simp)
    simp -dsimp -implicitDefEqProofs [he, hm]
    exact h _ p' (Int.emod_nonneg _ (by omega)) (Int.emod_lt_of_pos _ hm) (by simp)
theorem sp_pool {n : Nat} {ns : List Int} {Q : D → Sto → Prop} {E : Ex → Sto → Prop} {t : Tok ((WW n).1 "_law_pool", Q, E)} (hn : 1 ≤ n) (hl : ns.length ≤ 63)
    (h : ∀ p, p.length ≤ 3780 → Q (.ref 0) [pl p]) : Wd ((WW n).1 "_law_pool") [.scr ns] [] Q E t := by
  obtain ⟨n, rfl⟩ : ∃ k, n = k + 1 := ⟨n - 1, by omega⟩
  unfold Wd
  rw [W__law_pool]
  unfold w__law_pool
  have c1 : CPow 10 18 := by unfold CPow; decide
  have c2 : ∀ i : Int, CMul i 48271 := fun i => cmul_r (by decide) (by decide)
  have c3 : ∀ i : Int, CMul i 69621 := fun i => cmul_r (by decide) (by decide)
  have c4 : ∀ i : Int, CMul 12 i := fun i => cmul_l (by decide) (by decide)
  have c5 : ∀ i : Int, CMul i 16807 := fun i => cmul_r (by decide) (by decide)
  have c6 : ∀ i : Int, CMul i 977 := fun i => cmul_r (by decide) (by decide)
  have c7 : ∀ i : Int, CMul 7919 i := fun i => cmul_l (by decide) (by decide)
  have c8 : ∀ i : Int, CDiv i 1000 := fun i => cdiv_of (by decide) (by decide)
  have c9 : ∀ i : Int, CDiv i 127773 := fun i => cdiv_of (by decide) (by decide)
  have c10 : ∀ i : Int, CMul (i % 999983) (i % 999983) := fun i => cmul_l (by omega) (by omega)
  simp -dsimp -implicitDefEqProofs
  have e0 : (if (63 : Int) < (ns.length : Nat) then 63 else ((ns.length : Nat) : Int)) = (ns.length : Nat) := by split <;> omega
  rw [e0]
  have b1 : (ns.length : Int) < 4611686018427387904 := by omega
  have b2 : -4611686018427387904 ≤ (ns.length : Int) := by omega
  simp -dsimp -implicitDefEqProofs [b1, b2]
  refine for_inv (fun i ρ S => ∃ p s2 s3 s4 s5 s6 s7, p.length ≤ 60 * i ∧ S = [pl p] ∧ ρ = [.v (.scr ns), .v (.ref 0), s2, s3, s4, s5, s6, s7]) ?_ ?_ ⟨[], _, _, _, _, _, _, by simp, rfl, rfl⟩
  · rintro i d ρ S K hd ⟨p, s2, s3, s4, s5, s6, s7, hp, rfl, rfl⟩ hK
    refine ⟨trivial, ?_⟩
    obtain ⟨hi, rfl⟩ : i < ns.length ∧ d = .int i := rng_get hd
    have ha : atI ns (i : Nat) = some ns[i] := atI_getE hi
    simp -dsimp -implicitDefEqProofs [ha, c1]
    refine iteL_of ?_ ?_
    · intro hb
      simp -dsimp -implicitDefEqProofs
      refine for_inv (fun j ρ S => ∃ q r s5, q.length ≤ 60 * i + j ∧ S = [pl q] ∧ ρ = [.v (.scr ns), .v (.ref 0), .v (.int i), .v (.int ns[i]), .v (.int r), s5, s6, s7]) ?_ ?_ ⟨p, _, _, by simpa using hp, rfl, rfl⟩
      · rintro j d ρ S K' hd ⟨q, r, s5, hq, rfl, rfl⟩ hK'
        refine ⟨trivial, ?_⟩
        obtain ⟨hj, rfl⟩ : j < 60 ∧ d = .int j := rng_get hd
        simp -dsimp -implicitDefEqProofs
        refine iteL_of ?_ ?_
        · intro hr
          have hqq : q.length < 16777216 := by omega
          simp -dsimp -implicitDefEqProofs [hqq, c8]
          refine hK' _ _ ⟨q ++ [r % 1000], _, _, by simp; omega, by simp, rfl⟩
        · intro hr
          simp -dsimp -implicitDefEqProofs
          exact hK' _ _ ⟨q, _, _, by omega, rfl, rfl⟩
      · rintro ρ S ⟨q, r, s5, hq, rfl, rfl⟩
        refine ⟨trivial, ?_⟩
        simp -dsimp -implicitDefEqProofs
        simp at hq
        exact hK _ _ ⟨q, _, _, _, _, _, _, by omega, rfl, rfl⟩
    · intro hb
      simp -dsimp -implicitDefEqProofs
      refine for_inv (fun j ρ S => ∃ q s4 s5 s6 s7, q.length ≤ 60 * i + j ∧ S = [pl q] ∧ ρ = [.v (.scr ns), .v (.ref 0), .v (.int i), .v (.int ns[i]), s4, s5, s6, s7]) ?_ ?_ ⟨p, _, _, _, _, by simpa using hp, rfl, rfl⟩
      · rintro j d ρ S K' hd ⟨q, s4, s5, s6, s7, hq, rfl, rfl⟩ hK'
        refine ⟨trivial, ?_⟩
        obtain ⟨hj, rfl⟩ : j < 12 ∧ d = .int j := rng_get hd
        have hqq : q.length < 16777216 := by omega
        simp -dsimp -implicitDefEqProofs [c2, c3, c4, c5, c6, c7, c9, c10, hqq]
        refine hK' _ _ ⟨q ++ [_ % 1000], _, _, _, _, by simp; omega, by simp [pl]; rfl, rfl⟩
      · rintro ρ S ⟨q, s4, s5, s6, s7, hq, rfl, rfl⟩
        refine ⟨trivial, ?_⟩
        simp -dsimp -implicitDefEqProofs
        simp at hq
        exact hK _ _ ⟨q, _, _, _, _, _, _, by omega, rfl, rfl⟩
  · rintro ρ S ⟨p, s2, s3, s4, s5, s6, s7, hp, rfl, rfl⟩
    refine ⟨trivial, ?_⟩
    simp -dsimp -implicitDefEqProofs
    simp at hp
    have := h p.reverse (by simp; omega)
    unfold pl at this
    rw [List.map_reverse] at this
    exact this
structure Fst (f : Str) (P : Nat → Bool) : Prop where
  len : f.length = 26
  all : ∀ c ∈ f.cps.toList, aln c = true ∧ digB c = false ∧ P c = true
theorem fst_cap : Fst capS capB := ⟨by decide +kernel, fun c h => ⟨cap_aln (decide_eq_true h), cap_dig (decide_eq_true h), decide_eq_true h⟩⟩
theorem aln_len : alnS.length = 62 := by decide +kernel
theorem S_add (a b : List Nat) : SX.S a ++ SX.S b = SX.S (a ++ b) := SX.S_cat a b
theorem S_one (c : Nat) : (⟨#[c]⟩ : Str) = SX.S [c] := rfl
theorem sp_freename {n : Nat} {p : List Int} {St : Sto} {f : Str} {P : Nat → Bool} {Q : D → Sto → Prop} {E : Ex → Sto → Prop} {t : Tok ((WW n).1 "_law_free_name", Q, E)} (hn : 2 ≤ n) (hf : Fst f P)
    (h : ∀ cs p', nmC cs = true → fstB P cs = true → p'.length ≤ p.length → Q (.str (SX.S cs)) (pl p' :: St)) : Wd ((WW n).1 "_law_free_name") [.ref 0, .str f] (pl p :: St) Q E t := by
  obtain ⟨n, rfl⟩ : ∃ k, n = k + 1 := ⟨n - 1, by omega⟩
  unfold Wd
  rw [W__law_free_name]
  unfold w__law_free_name
  have hL : f.length ≤ 16777216 := by rw [hf.len]; omega
  simp -dsimp -implicitDefEqProofs [hL, hf.len]
  refine sp_draw (by omega) (by omega) fun j p1 h0 h1 hp1 => ?_
  have hfl : f.cps.toList.length = 26 := by rw [← hf.len, len_tl']
  obtain ⟨c, e1, hc, _⟩ := atI_ok (xs := f.cps.toList) (i := j) h0 (by rw [hfl]; omega)
  obtain ⟨a1, a2, a3⟩ := hf.all c hc
  simp -dsimp -implicitDefEqProofs [e1, hL]
  refine sp_draw (by omega) (by omega) fun m p2 i0 i1 hp2 => ?_
  obtain ⟨m, rfl⟩ : ∃ k : Nat, m = k := ⟨m.toNat, by omega⟩
  have b1 : (m : Int) < 4611686018427387904 := by omega
  have b2 : -4611686018427387904 ≤ (m : Int) := by omega
  simp -dsimp -implicitDefEqProofs [b1, b2]
  refine for_inv (fun i ρ S' => ∃ cs q s4, cs.length ≤ 1 + i ∧ cs.all aln = true ∧ fstB P cs = true ∧ fstB digB cs = false ∧ q.length ≤ p.length ∧ S' = pl q :: St ∧ ρ = [.v (.ref 0), .v (.str f), .v (.str alnS), .v (.str (SX.S cs)), s4]) ?_ ?_ ⟨[c], p2, .un, by simp, by simp [a1], by simp [fstB, a3], by simp [fstB, a2], by omega, rfl, rfl⟩
  · rintro i d ρ S' K hd ⟨cs, q, s4, hl, ha, hP, hD, hq, rfl, rfl⟩ hK
    refine ⟨trivial, ?_⟩
    obtain ⟨hi, rfl⟩ := rng_get hd
    simp -dsimp -implicitDefEqProofs
    refine sp_draw (by omega) (by omega) fun j p3 k0 k1 hp3 => ?_
    have hal : alnS.cps.toList.length = 62 := by rw [← aln_len, len_tl']
    have hAL : alnS.length ≤ 16777216 := by rw [aln_len]; omega
    obtain ⟨x, e2, hx, _⟩ := atI_ok (xs := alnS.cps.toList) (i := j) k0 (by rw [hal]; omega)
    have hx : aln x = true := decide_eq_true hx
    have hcl : (SX.S cs).length + (⟨#[x]⟩ : Str).length ≤ 16777216 := by
      rw [len_S]
      show cs.length + 1 ≤ _
      omega
    simp -dsimp -implicitDefEqProofs [e2, hAL, hcl, -e_add_str, e_add_str, S_one, S_add]
    refine hK _ _ ⟨cs ++ [x], p3, _, by simp; omega, by simp [ha, hx], ?_, ?_, by omega, rfl, rfl⟩
    · cases cs with
      | nil => simp [fstB] at hP
      | cons y ys => exact hP
    · cases cs with
      | nil => simp [fstB] at hP
      | cons y ys => exact hD
  · rintro ρ S' ⟨cs, q, s4, hl, ha, hP, hD, hq, rfl, rfl⟩
    refine ⟨trivial, ?_⟩
    simp at hl
    simp -dsimp -implicitDefEqProofs
    refine h cs q ?_ hP hq
    unfold nmC
    rw [ha, decide_eq_true (by omega)]
    cases cs with
    | nil => simp [fstB] at hP
    | cons y ys => simpa [fstB] using hD
/-- sorted, each once -/
structure SS (ns ys : List Str) : Prop where
  pw : ys.Pairwise leS
  nd : ys.Nodup
  mem : ∀ x, x ∈ ys ↔ x ∈ ns
theorem SS.one {ns ms ys zs : List Str} (h1 : SS ns ys) (h2 : SS ms zs) (h : ∀ x, x ∈ ns ↔ x ∈ ms) : ys = zs :=
  sorted_one h1.pw h2.pw ((List.perm_ext_iff_of_nodup h1.nd h2.nd).mpr fun x => by rw [h1.mem, h2.mem, h])
theorem len_sub : ∀ {ys ns : List Str}, ys.Nodup → (∀ x ∈ ys, x ∈ ns) → ys.length ≤ ns.length
  | [], _, _, _ => by simp
  | y :: ys, ns, hn, h => by
    have h1 := h y List.mem_cons_self
    rw [List.nodup_cons] at hn
    have h2 := len_sub (ys := ys) (ns := ns.erase y) hn.2 fun x hx => by
      have hne : x ≠ y := fun e => by subst e; exact hn.1 hx
      exact (List.mem_erase_of_ne hne).mpr (h x (List.mem_cons_of_mem _ hx))
    have h3 := List.length_erase_of_mem h1
    have h4 := List.length_pos_of_mem h1
    rw [List.length_cons]; omega
theorem SS.len {ns ys : List Str} (h : SS ns ys) : ys.length ≤ ns.length := len_sub h.nd fun x hx => (h.mem x).mp hx
theorem SS.ok {ns ys : List Str} (h : SS ns ys) (hn : ∀ x ∈ ns, PyData.strOk x = true) : ∀ x ∈ ys, PyData.strOk x = true := fun x hx => hn x ((h.mem x).mp hx)
theorem addL_sub : ∀ {l acc : List Str}, ∃ m, l.foldl addL acc = acc ++ m ∧ m.Sublist l
  | [], acc => ⟨[], by simp, List.Sublist.slnil⟩
  | x :: l, acc => by
    simp only [List.foldl_cons]
    by_cases h : x ∈ acc
    · have e : addL acc x = acc := by unfold addL; rw [if_pos h]
      rw [e]
      obtain ⟨m, h1, h2⟩ := addL_sub (l := l) (acc := acc)
      exact ⟨m, h1, h2.cons x⟩
    · have e : addL acc x = acc ++ [x] := by unfold addL; rw [if_neg h]
      rw [e]
      obtain ⟨m, h1, h2⟩ := addL_sub (l := l) (acc := acc ++ [x])
      exact ⟨x :: m, by rw [h1]; simp, h2.cons_cons x⟩
theorem addL_nd : ∀ {l acc : List Str}, acc.Nodup → (l.foldl addL acc).Nodup
  | [], acc, h => h
  | x :: l, acc, h => by
    simp only [List.foldl_cons]
    refine addL_nd ?_
    unfold addL
    split
    · exact h
    · rename_i n
      rw [List.nodup_append]
      exact ⟨h, by simp, fun a ha b hb => by
        simp only [List.mem_singleton] at hb
        subst hb
        intro e; subst e; exact n ha⟩
theorem SS.of_sorted {ns ys : List Str} (p : ys.Perm ns) (s : sortedS ys = true) : SS ns (ys.foldl addL []) := by
  obtain ⟨m, h1, h2⟩ := addL_sub (l := ys) (acc := [])
  refine ⟨?_, addL_nd List.nodup_nil, fun x => ?_⟩
  · rw [h1, List.nil_append]
    exact (sortedS_pw s).sublist h2
  · rw [foldl_addL_mem]
    simp [p.mem_iff]
theorem SS.of_set {ns ys : List Str} (p : ys.Perm (ns.foldl setL [])) (s : sortedS ys = true) : SS ns ys :=
  ⟨sortedS_pw s, (p.nodup_iff).mpr (setL_nodup List.nodup_nil), fun x => by rw [p.mem_iff, setL_mem]; simp⟩
abbrev lotD (ys : List Str) : D := .obj "Lot" [("names", .tup (ys.map D.str))]
theorem st_plain {ys : List Str} (h : ∀ x ∈ ys, PyData.strOk x = true) : plains (ys.map D.str) = true := plains_map fun x hx => h x hx
theorem st_dep (ys : List Str) : deps (ys.map D.str) = 0 := by
  have := deps_map (f := D.str) (xs := ys) (k := 0) fun _ _ => by simp [dep]
  omega
theorem eq_lstS {ys zs : List Str} {PB : Bool → Prop} {neg : Bool} {t : Tok PB} (hy : ∀ x ∈ ys, PyData.strOk x = true) (hz : ∀ x ∈ zs, PyData.strOk x = true) : eqG neg (.lst (ys.map D.str)) (.lst (zs.map D.str)) PB t = letE (decide (ys = zs) != neg) PB () := by
  have h3 : PyData.eqv (toP (.lst (ys.map D.str))) (toP (.lst (zs.map D.str))) = decide (ys = zs) := by
    rw [eqv_dec (by simp only [strict]; exact stricts_map fun _ _ => rfl) (by simp only [strict]; exact stricts_map fun _ _ => rfl)]
    by_cases e : ys = zs
    · subst e; simp
    · have : ¬ (D.lst (ys.map D.str)) = .lst (zs.map D.str) := fun z => e (map_str_inj (D.lst.inj z))
      simp [e, this]
  rw [e_eq_lst, h3, andL_of ⟨by simpa [VL.plain] using st_plain hy, by simpa [VL.plain] using st_plain hz, by simp only [dep, st_dep]; omega, by simp only [dep, st_dep]; omega⟩]
theorem eq_tupS {ys zs : List Str} {PB : Bool → Prop} {neg : Bool} {t : Tok PB} (hy : ∀ x ∈ ys, PyData.strOk x = true) (hz : ∀ x ∈ zs, PyData.strOk x = true) : eqG neg (.tup (ys.map D.str)) (.tup (zs.map D.str)) PB t = letE (decide (ys = zs) != neg) PB () := by
  have h3 : PyData.eqv (toP (.tup (ys.map D.str))) (toP (.tup (zs.map D.str))) = decide (ys = zs) := by
    rw [eqv_dec (by simp only [strict]; exact stricts_map fun _ _ => rfl) (by simp only [strict]; exact stricts_map fun _ _ => rfl)]
    by_cases e : ys = zs
    · subst e; simp
    · have : ¬ (D.tup (ys.map D.str)) = .tup (zs.map D.str) := fun z => e (map_str_inj (D.tup.inj z))
      simp [e, this]
  rw [e_eq_tup, h3, andL_of ⟨by simpa [VL.plain] using st_plain hy, by simpa [VL.plain] using st_plain hz, by simp only [dep, st_dep]; omega, by simp only [dep, st_dep]; omega⟩]
theorem in_lstS {ys : List Str} {x : Str} {PB : Bool → Prop} {neg : Bool} {t : Tok PB} (hy : ∀ z ∈ ys, PyData.strOk z = true) (hx : PyData.strOk x = true) : inG neg (.str x) (.lst (ys.map D.str)) PB t = letE (decide (x ∈ ys) != neg) PB () := by
  rw [e_in_lst, any_str, andL_of ⟨by simpa [VL.plain] using hx, st_plain hy, by simp [dep], by rw [st_dep]; omega⟩]
theorem e_listIt {ys : List Str} {P : D → Prop} {t : Tok (listItD "Lot" "names", P)} : c1 (listItD "Lot" "names") (lotD ys) P t = P (.lst (ys.map D.str)) := by
  apply propext
  constructor
  · rintro ⟨_, ds, h1, h2⟩
    cases h1
    exact h2
  · intro h
    exact ⟨rfl, _, rfl, h⟩
theorem sorted_go {ns : List Str} {P : D → Prop} {t : Tok (sortedD, P)} (hl : ns.length < 64) (h : ∀ ys : List Str, ys.Perm ns → sortedS ys = true → P (.lst (ys.map D.str))) : c1 sortedD (.lst (ns.map D.str)) P t := ⟨ns, rfl, hl, h⟩
theorem sp_lotinit {n : Nat} {ns : List Str} {S : Sto} {Q : List (String × D) → Sto → Prop} {E : Ex → Sto → Prop} {t : Tok ((WW n).2 "Lot.__init__", Q, E)} (hn : 1 ≤ n) (hl : ns.length ≤ 60) (h : ∀ ys, SS ns ys → Q [("names", .tup (ys.map D.str))] S) :
    WdI ((WW n).2 "Lot.__init__") "Lot" [] (ns.map D.str) S Q E t := by
  obtain ⟨n, rfl⟩ : ∃ k, n = k + 1 := ⟨n - 1, by omega⟩
  unfold WdI
  rw [WI_Lot___init__]
  unfold w_Lot___init__
  have h0 : ns.length ≤ 16777216 := by omega
  have h1 : ns.length + 1 - 1 = ns.length := by omega
  simp -dsimp -implicitDefEqProofs [h0, h1]
  refine sx_pureR (fun x => x) trivial (by simp [scanBound]; omega) ?_ ?_
  · intro x hx K
    simp -dsimp -implicitDefEqProofs
  · have hlen := setL_len (xs := ns) (acc := [])
    simp only [List.length_nil] at hlen
    refine ⟨by simp only [List.map_id']; omega, fun ys p s => ?_⟩
    simp only [List.map_id'] at p
    simp -dsimp -implicitDefEqProofs [cs_names, putFd]
    exact h ys (SS.of_set p s)
theorem e_contains {n : Nat} {ys : List Str} {x : Str} {S : Sto} {Q : D → Sto → Prop} {E : Ex → Sto → Prop} {t : Tok ((WW n).1 "Lot.__contains__", Q, E)} (hn : 1 ≤ n) (hy : ∀ z ∈ ys, PyData.strOk z = true) (hx : PyData.strOk x = true) :
    Wd ((WW n).1 "Lot.__contains__") [lotD ys, .str x] S Q E t = Q (.bl (decide (x ∈ ys))) S := by
  obtain ⟨n, rfl⟩ : ∃ k, n = k + 1 := ⟨n - 1, by omega⟩
  unfold Wd
  rw [W_Lot___contains__]
  unfold w_Lot___contains__
  simp -dsimp -implicitDefEqProofs [in_lstS hy hx, -e_in_lst]
theorem tag_o {cl : String} {fs : List (String × D)} : tagD (.obj cl fs) = some (true, cl) := rfl
theorem e_eq {n : Nat} {ys zs : List Str} {S : Sto} {Q : D → Sto → Prop} {E : Ex → Sto → Prop} {t : Tok ((WW n).1 "Lot.__eq__", Q, E)} (hn : 1 ≤ n) (hy : ∀ z ∈ ys, PyData.strOk z = true) (hz : ∀ z ∈ zs, PyData.strOk z = true) :
    Wd ((WW n).1 "Lot.__eq__") [lotD ys, lotD zs] S Q E t = Q (.bl (decide (ys = zs))) S := by
  obtain ⟨n, rfl⟩ : ∃ k, n = k + 1 := ⟨n - 1, by omega⟩
  unfold Wd
  rw [W_Lot___eq__]
  unfold w_Lot___eq__
  simp -dsimp -implicitDefEqProofs [tag_o, isi_Lot, eq_tupS hy hz, -e_eq_tup]
theorem sp_and {n : Nat} {ys zs : List Str} {S : Sto} {Q : D → Sto → Prop} {E : Ex → Sto → Prop} {t : Tok ((WW n).1 "Lot.__and__", Q, E)} (hn : 2 ≤ n) (h1 : ys.length ≤ 30) (h2 : zs.length ≤ 30) (h : ∀ us, SS (ys ++ zs) us → Q (lotD us) S) :
    Wd ((WW n).1 "Lot.__and__") [lotD ys, lotD zs] S Q E t := by
  obtain ⟨n, rfl⟩ : ∃ k, n = k + 1 := ⟨n - 1, by omega⟩
  unfold Wd
  rw [W_Lot___and__]
  unfold w_Lot___and__
  have h3 : ys.length + zs.length ≤ 16777216 := by omega
  simp -dsimp -implicitDefEqProofs [tag_o, isi_Lot, h3]
  rw [← List.map_append]
  refine sp_lotinit (by omega) (by simp; omega) fun us hu => ?_
  simp -dsimp -implicitDefEqProofs
  exact h us hu
theorem e_lotnames {n : Nat} {ys : List Str} {S : Sto} {Q : D → Sto → Prop} {E : Ex → Sto → Prop} {t : Tok ((WW n).1 "_law_lot_names", Q, E)} (hn : 1 ≤ n) (hl : ys.length ≤ 100) :
    Wd ((WW n).1 "_law_lot_names") [lotD ys] S Q E t = Q (.lst (ys.map D.str)) S := by
  obtain ⟨n, rfl⟩ : ∃ k, n = k + 1 := ⟨n - 1, by omega⟩
  unfold Wd
  rw [W__law_lot_names]
  unfold w__law_lot_names
  simp -dsimp -implicitDefEqProofs [tag_o, isi_Lot, isi_tuple]
  refine lc_pureI (fun _ => D.bl true) trivial (by simp; omega) ?_ ?_
  · intro x hx K
    simp -dsimp -implicitDefEqProofs [isi_str]
  · have et : (ys.all fun _ => true) = true := by simp [List.all_eq_true]
    simp -dsimp -implicitDefEqProofs [asBs_map, et]
theorem sp_lot {n : Nat} {ns : List Str} {S : Sto} {Q : D → Sto → Prop} {E : Ex → Sto → Prop} {t : Tok ((WW n).1 "_law_lot", Q, E)} (hn : 2 ≤ n) (hl : ns.length ≤ 4) (h : ∀ ys, SS ns ys → Q (lotD ys) S) :
    Wd ((WW n).1 "_law_lot") [.lst (ns.map D.str)] S Q E t := by
  obtain ⟨n, rfl⟩ : ∃ k, n = k + 1 := ⟨n - 1, by omega⟩
  have go := fun (Q' : List (String × D) → Sto → Prop) (E' : Ex → Sto → Prop) (t' : Tok ((WW n).2 "Lot.__init__", Q', E')) (h' : ∀ ys, SS ns ys → Q' [("names", .tup (ys.map D.str))] S) => sp_lotinit (n := n) (ns := ns) (S := S) (t := t') (by omega) (by omega) h'
  unfold Wd
  rw [W__law_lot]
  unfold w__law_lot
  match ns, hl, go, h with
  | [], _, go, h =>
    simp -dsimp -implicitDefEqProofs
    refine go _ _ _ fun ys hy => ?_
    simp -dsimp -implicitDefEqProofs
    exact h ys hy
  | [a], _, go, h =>
    simp -dsimp -implicitDefEqProofs
    refine go _ _ _ fun ys hy => ?_
    simp -dsimp -implicitDefEqProofs
    exact h ys hy
  | [a, b], _, go, h =>
    simp -dsimp -implicitDefEqProofs
    refine go _ _ _ fun ys hy => ?_
    simp -dsimp -implicitDefEqProofs
    exact h ys hy
  | [a, b, c], _, go, h =>
    simp -dsimp -implicitDefEqProofs
    refine go _ _ _ fun ys hy => ?_
    simp -dsimp -implicitDefEqProofs
    exact h ys hy
  | [a, b, c, d], _, go, h =>
    simp -dsimp -implicitDefEqProofs
    refine go _ _ _ fun ys hy => ?_
    simp -dsimp -implicitDefEqProofs
    exact h ys hy
  | _ :: _ :: _ :: _ :: _ :: _, hl, _, _ => simp at hl
theorem sp_lawset {n : Nat} {ns : List Str} {S : Sto} {Q : D → Sto → Prop} {E : Ex → Sto → Prop} {t : Tok ((WW n).1 "_law_set", Q, E)} (hn : 1 ≤ n) (hl : ns.length ≤ 60) (hok : ∀ x ∈ ns, PyData.strOk x = true) (h : ∀ ys, SS ns ys → Q (.lst (ys.map D.str)) S) :
    Wd ((WW n).1 "_law_set") [.lst (ns.map D.str)] S Q E t := by
  obtain ⟨n, rfl⟩ : ∃ k, n = k + 1 := ⟨n - 1, by omega⟩
  unfold Wd
  rw [W__law_set]
  unfold w__law_set
  simp -dsimp -implicitDefEqProofs
  refine lc_pureR (fun x => D.str x) trivial (by simp; omega) ?_ ?_
  · intro x hx K
    simp -dsimp -implicitDefEqProofs
  simp -dsimp -implicitDefEqProofs
  refine sorted_go (by omega) fun ys p s => ?_
  simp -dsimp -implicitDefEqProofs
  have hyl : ys.length = ns.length := p.length_eq
  refine for_pureR (fun c : List Str × Sl => [.v (.lst (ns.map D.str)), .o (.lst (c.1.map D.str)), c.2]) (fun b x => (addL b.1 x, Sl.v (.str x))) ([], .un) (fun j c => c.1.length ≤ j ∧ ∀ x ∈ c.1, PyData.strOk x = true) trivial ⟨by simp, by simp⟩ ?_ ?_
  · intro j x _ hx hj c hc
    have h6 := hok x ((p.mem_iff).mp hx)
    have h9 : c.1.length < 16777216 := by have := hc.1; omega
    refine ⟨⟨?_, ?_⟩, fun K => ?_⟩
    · have := addL_len (acc := c.1) (x := x)
      have := hc.1
      show (addL c.1 x).length ≤ _
      omega
    · intro y hy
      rcases addL_mem.mp hy with hy | rfl
      · exact hc.2 y hy
      · exact h6
    · simp -dsimp -implicitDefEqProofs [in_lstS hc.2 h6, -e_in_lst]
      by_cases hm : x ∈ c.1
      · simp -dsimp -implicitDefEqProofs [hm, addL]
      · simp -dsimp -implicitDefEqProofs [hm, addL, h9]
  · simp -dsimp -implicitDefEqProofs
    have e : (ys.foldl (fun b x => (addL b.1 x, Sl.v (.str x))) (([], .un) : List Str × Sl)).1 = ys.foldl addL [] := foldl_fst fun _ _ => rfl
    rw [e]
    exact h _ (SS.of_sorted p s)
end K14

set_option Elab.async false
set_option linter.all false
set_option autoImplicit false
set_option maxRecDepth 100000
namespace K14
open PySem PySem.Spec PyProof.Rows L2 VL
abbrev mn7 : List Str := ["Code", "Show", "C", "Co", "Zed", "Unseen", ""]
abbrev rowS : List Str := ["Show", "Code", "Show"]
abbrev mn5 : List Str := ["Code", "Show", "C", "Co", "Zed"]
theorem nm_ok {cs : List Nat} (h : nmC cs = true) : PyData.strOk (SX.S cs) = true := (nmC_Nm (n := SX.S cs) h).ok
theorem sp_drawn {n : Nat} {p : List Int} {S : Sto} {Q : D → Sto → Prop} {E : Ex → Sto → Prop} {t : Tok ((WW n).1 "_law_names_drawn", Q, E)} (hn : 4 ≤ n)
    (h : ∀ (ns : List Str) p', ns.length ≤ 4 → (∀ x ∈ ns, PyData.strOk x = true) → p'.length ≤ p.length → Q (.lst (ns.map D.str)) (pl p' :: S)) : Wd ((WW n).1 "_law_names_drawn") [.ref 0] (pl p :: S) Q E t := by
  obtain ⟨n, rfl⟩ : ∃ k, n = k + 1 := ⟨n - 1, by omega⟩
  unfold Wd
  rw [W__law_names_drawn]
  unfold w__law_names_drawn
  simp -dsimp -implicitDefEqProofs
  refine sp_draw (by omega) (by omega) fun m p1 m0 m1 hp1 => ?_
  obtain ⟨m, rfl⟩ : ∃ k : Nat, m = k := ⟨m.toNat, by omega⟩
  have b1 : (m : Int) < 4611686018427387904 := by omega
  have b2 : -4611686018427387904 ≤ (m : Int) := by omega
  simp -dsimp -implicitDefEqProofs [b1, b2]
  refine for_inv (fun i ρ S' => ∃ ns q s2, ns.length = i ∧ (∀ x ∈ ns, PyData.strOk x = true) ∧ q.length ≤ p1.length ∧ S' = pl q :: S ∧ ρ = [.v (.ref 0), .o (.lst (ns.map D.str)), s2]) ?_ ?_ ⟨[], p1, _, rfl, (fun _ z => nomatch z), Nat.le_refl _, rfl, rfl⟩
  · rintro i d ρ S' K hd ⟨ns, q, s2, hl, hok, hq, rfl, rfl⟩ hK
    refine ⟨trivial, ?_⟩
    obtain ⟨hi, rfl⟩ := rng_get hd
    have hl9 : ns.length < 16777216 := by omega
    have step : ∀ (x : Str) (q2 : List Int), PyData.strOk x = true → q2.length ≤ p1.length → K [.v (.ref 0), .o (.lst (ns.map D.str ++ [.str x])), .v (.int i)] (pl q2 :: S) := fun x q2 hx hq2 => by
      refine hK _ _ ⟨ns ++ [x], q2, .v (.int i), by simp [hl], ?_, hq2, rfl, by simp⟩
      intro y hy
      rcases List.mem_append.mp hy with hy | hy
      · exact hok y hy
      · simp only [List.mem_singleton] at hy
        subst hy; exact hx
    simp -dsimp -implicitDefEqProofs
    refine sp_draw (by omega) (by omega) fun j q1 j0 j1 hq1 => ?_
    simp -dsimp -implicitDefEqProofs
    refine iteL_of ?_ ?_
    · intro _
      simp -dsimp -implicitDefEqProofs
      refine sp_freename (by omega) fst_cap fun cs q2 c1 c2 hq2 => ?_
      simp -dsimp -implicitDefEqProofs [hl9]
      exact step _ _ (nm_ok c1) (by omega)
    · intro _
      simp -dsimp -implicitDefEqProofs
      refine sp_draw (by omega) (by omega) fun a q2 a0 a1 hq2 => ?_
      obtain ⟨x, e1, hx⟩ : ∃ x : Str, atI (mn5.map D.str) a = some (D.str x) ∧ PyData.strOk x = true := by
        obtain ⟨a, rfl⟩ : ∃ k : Nat, a = k := ⟨a.toNat, by omega⟩
        have ha : a < mn5.length := by show a < 5; omega
        refine ⟨mn5[a], atI_nat (by rw [List.getElem?_map, List.getElem?_eq_getElem ha]; rfl), ?_⟩
        have hall : mn5.all (fun x => PyData.strOk x) = true := by decide +kernel
        exact List.all_eq_true.mp hall _ (List.getElem_mem ha)
      simp only [List.map_cons, List.map_nil] at e1
      simp -dsimp -implicitDefEqProofs [e1, hl9]
      exact step _ _ hx (by omega)
  · rintro ρ S' ⟨ns, q, s2, hl, hok, hq, rfl, rfl⟩
    refine ⟨trivial, ?_⟩
    simp at hl
    simp -dsimp -implicitDefEqProofs
    exact h ns q (by omega) hok (by omega)
theorem sp_right {n : Nat} {ns ys : List Str} {S : Sto} {Q : D → Sto → Prop} {E : Ex → Sto → Prop} {t : Tok ((WW n).1 "_law_right", Q, E)} (hn : 4 ≤ n) (hl : ns.length ≤ 20) (hok : ∀ x ∈ ns, PyData.strOk x = true) (hs : SS ns ys) (h : Q (.bl true) S) :
    Wd ((WW n).1 "_law_right") [lotD ys, .lst (ns.map D.str)] S Q E t := by
  obtain ⟨n, rfl⟩ : ∃ k, n = k + 1 := ⟨n - 1, by omega⟩
  unfold Wd
  rw [W__law_right]
  unfold w__law_right
  have hyl := hs.len
  have hyo := hs.ok hok
  simp -dsimp -implicitDefEqProofs
  refine sp_lawset (by omega) (by omega) hok fun zs hz => ?_
  obtain rfl : zs = ys := hz.one hs fun _ => Iff.rfl
  have h9 : ns.length + 7 ≤ 16777216 := by omega
  have h9' : 7 + ns.length ≤ 16777216 := by omega
  simp -dsimp -implicitDefEqProofs [e_lotnames (n := n) (by omega) (by omega : zs.length ≤ 100), eq_lstS hyo hyo, -e_eq_lst, e_listIt, h9, h9']
  have hall : ∀ x ∈ mn7 ++ ns, PyData.strOk x = true := by
    have hc : (mn7).all (fun x => PyData.strOk x) = true := by decide +kernel
    intro x hx
    rcases List.mem_append.mp hx with hx | hx
    · exact List.all_eq_true.mp hc x hx
    · exact hok x hx
  show forG _ _ _ ((mn7 ++ ns).map D.str) _ _ _ _ _
  generalize mn7 ++ ns = all at hall
  refine for_pureR (fun s : Sl => [.v (lotD zs), .v (.lst (ns.map D.str)), .v (.lst (zs.map D.str)), s]) (fun _ x => .v (.str x)) .un (fun _ _ => True) trivial trivial ?_ ?_
  · intro i x _ hx _ s _
    have hx' := hall x hx
    refine ⟨trivial, fun K => ?_⟩
    by_cases hm : x ∈ zs
    · simp -dsimp -implicitDefEqProofs [ms___contains__, e_contains (n := n) (by omega) hyo hx', in_lstS hyo hx', -e_in_lst, hm]
    · simp -dsimp -implicitDefEqProofs [ms___contains__, e_contains (n := n) (by omega) hyo hx', in_lstS hyo hx', -e_in_lst, hm]
  · simp -dsimp -implicitDefEqProofs
    exact h
theorem law_true : ∀ ns : List Int, ns.length ≤ 63 → (∀ z ∈ ns, Builtin.Int.intBits z ≤ 1048576) → (WW (40 + 1)).1 "law" [.scr ns] [] (fun d _ => d = .bl true) (fun _ _ => False) := by
  intro ns hl _
  rw [W_law]
  unfold w_law w_law_t4
  simp -dsimp -implicitDefEqProofs
  refine sp_pool (by omega) hl fun p hp => ?_
  simp -dsimp -implicitDefEqProofs
  refine sp_drawn (by omega) fun n0 p0 l0 o0 hp0 => ?_
  simp -dsimp -implicitDefEqProofs
  refine sp_drawn (by omega) fun n1 p1 l1 o1 hp1 => ?_
  simp -dsimp -implicitDefEqProofs
  refine sp_drawn (by omega) fun n2 p2 l2 o2 hp2 => ?_
  simp -dsimp -implicitDefEqProofs
  have hrow : ∀ r ∈ [n0, n1, n2, rowS, []], r.length ≤ 4 ∧ ∀ x ∈ r, PyData.strOk x = true := by
    have hc : (rowS).all (fun x => PyData.strOk x) = true := by decide +kernel
    intro r hr
    simp only [List.mem_cons, List.not_mem_nil, or_false] at hr
    rcases hr with rfl | rfl | rfl | rfl | rfl
    · exact ⟨l0, o0⟩
    · exact ⟨l1, o1⟩
    · exact ⟨l2, o2⟩
    · exact ⟨by simp, List.all_eq_true.mp hc⟩
    · exact ⟨by simp, fun _ z => nomatch z⟩
  have er : ([.lst (n0.map D.str), .lst (n1.map D.str), .lst (n2.map D.str), .lst [.str ("Show" : Str), .str ("Code" : Str), .str ("Show" : Str)], .lst []] : List D) = ([n0, n1, n2, rowS, []]).map fun r => D.lst (r.map D.str) := rfl
  rw [er]
  have hrl : ([n0, n1, n2, rowS, []] : List (List Str)).length = 5 := rfl
  generalize [n0, n1, n2, rowS, []] = rows at hrow hrl
  refine lc_inv (fun i acc ρ S => ∃ lots : List (List Str), acc = lots.map lotD ∧ lots.length = i ∧ (∀ j (h1 : j < lots.length) (h2 : j < rows.length), SS rows[j] lots[j]) ∧ S = [pl p2] ∧
    ρ = [.v (.scr ns), .v (.ref 0), .v (.lst (rows.map fun r => D.lst (r.map D.str))), .un, .un, .un, .un, .un, .un]) ?_ ?_ ⟨[], rfl, rfl, (fun j h1 => by simp at h1), rfl, rfl⟩
  · rintro i d acc ρ S K hd ⟨lots, rfl, hll, hss, rfl, rfl⟩ hK
    refine ⟨trivial, ?_⟩
    rw [List.getElem?_map, Option.map_eq_some_iff] at hd
    obtain ⟨r, hr, rfl⟩ := hd
    have hi : i < rows.length := (List.getElem?_eq_some_iff.mp hr).1
    have hri : rows[i] = r := (List.getElem?_eq_some_iff.mp hr).2
    have R := hrow r (List.mem_of_getElem? hr)
    simp -dsimp -implicitDefEqProofs
    refine sp_lot (by omega) R.1 fun ys hy => ?_
    have h9 : lots.length < 16777216 := by omega
    simp -dsimp -implicitDefEqProofs [h9]
    refine hK _ _ _ ⟨lots ++ [ys], by simp, by simp [hll], fun j h1 h2 => ?_, rfl, rfl⟩
    by_cases hj : j < lots.length
    · rw [List.getElem_append_left hj]
      exact hss j hj h2
    · have : j = i := by simp at h1; omega
      subst this
      rw [List.getElem_append_right (by omega)]
      simp only [hll, Nat.sub_self, List.getElem_cons_zero]
      rw [hri]; exact hy
  · rintro acc ρ S ⟨lots, rfl, hll, hss, rfl, rfl⟩
    refine ⟨trivial, ?_⟩
    rw [List.length_map] at hll
    simp -dsimp -implicitDefEqProofs
    have at1 : ∀ i (h : i < rows.length), atI (rows.map fun r => D.lst (r.map D.str)) (i : Nat) = some (D.lst (rows[i].map D.str)) := fun i h => atI_nat (by rw [List.getElem?_map, List.getElem?_eq_getElem h]; rfl)
    have at2 : ∀ i (h : i < lots.length), atI (lots.map lotD) (i : Nat) = some (lotD lots[i]) := fun i h => atI_nat (by rw [List.getElem?_map, List.getElem?_eq_getElem h]; rfl)
    refine for_inv (fun i ρ S => ∃ s6 s5 s7 s8, S = [pl p2] ∧ ρ = [.v (.scr ns), .v (.ref 0), .v (.lst (rows.map fun r => D.lst (r.map D.str))), .v (.lst (lots.map lotD)), .un, s5, s6, s7, s8]) ?_ ?_ ⟨_, _, _, _, rfl, rfl⟩
    · rintro i d ρ S K hd ⟨s6, s5, s7, s8, rfl, rfl⟩ hK
      refine ⟨trivial, ?_⟩
      obtain ⟨hi, rfl⟩ : i < 5 ∧ d = .int i := rng_get hd
      have hi1 : i < rows.length := by omega
      have hi2 : i < lots.length := by omega
      have Ri := hrow _ (List.getElem_mem hi1)
      have Si := hss i hi2 hi1
      have yoi := Si.ok Ri.2
      have yli := Si.len
      simp -dsimp -implicitDefEqProofs [at1 i hi1, at2 i hi2]
      refine sp_right (by omega) (by omega) Ri.2 Si ?_
      simp -dsimp -implicitDefEqProofs
      refine for_inv (fun j ρ S => ∃ s6 s7 s8, S = [pl p2] ∧ ρ = [.v (.scr ns), .v (.ref 0), .v (.lst (rows.map fun r => D.lst (r.map D.str))), .v (.lst (lots.map lotD)), .un, .v (.int i), s6, s7, s8]) ?_ ?_ ⟨_, _, _, rfl, rfl⟩
      · rintro j d ρ S K' hd ⟨s6, s7, s8, rfl, rfl⟩ hK'
        refine ⟨trivial, ?_⟩
        obtain ⟨hj, rfl⟩ : j < 5 ∧ d = .int j := rng_get hd
        have hj1 : j < rows.length := by omega
        have hj2 : j < lots.length := by omega
        have Rj := hrow _ (List.getElem_mem hj1)
        have Sj := hss j hj2 hj1
        have yoj := Sj.ok Rj.2
        have ylj := Sj.len
        have a1i := at1 i hi1
        have a2i := at2 i hi2
        have a1j := at1 j hj1
        have a2j := at2 j hj2
        generalize lots[i] = yi at *
        generalize lots[j] = yj at *
        generalize rows[i] = ri at *
        generalize rows[j] = rj at *
        simp -dsimp -implicitDefEqProofs [a1i, a2i, a1j, a2j]
        refine sp_lawset (by omega) (by omega) Ri.2 fun zi hzi => ?_
        obtain rfl : zi = yi := hzi.one Si fun _ => Iff.rfl
        simp -dsimp -implicitDefEqProofs [a1j]
        refine sp_lawset (by omega) (by omega) Rj.2 fun zj hzj => ?_
        obtain rfl : zj = yj := hzj.one Sj fun _ => Iff.rfl
        have hl9 : ri.length + rj.length ≤ 16777216 := by omega
        have hok2 : ∀ x ∈ ri ++ rj, PyData.strOk x = true := fun x hx => by
          rcases List.mem_append.mp hx with hx | hx
          · exact Ri.2 x hx
          · exact Rj.2 x hx
        by_cases hij : zi = zj
        · subst hij
          simp -dsimp -implicitDefEqProofs [eq_lstS yoi yoi, -e_eq_lst, a2i, a2j, ms___eq__, ms___and__, e_eq (n := 40) (by omega) yoi yoi]
          refine sp_and (by omega) (by omega) (by omega) fun us hu => ?_
          simp -dsimp -implicitDefEqProofs [a1i, a1j, hl9]
          rw [← List.map_append]
          have hu2 : SS (ri ++ rj) us := ⟨hu.pw, hu.nd, fun x => by rw [hu.mem, List.mem_append, List.mem_append, ← Si.mem, ← Sj.mem]⟩
          refine sp_right (by omega) (by simp; omega) hok2 hu2 ?_
          simp -dsimp -implicitDefEqProofs [a2i, a2j, ms___and__]
          refine sp_and (by omega) (by omega) (by omega) fun us' hv => ?_
          obtain rfl : us' = us := hv.one hu fun _ => Iff.rfl
          have huo := hu2.ok hok2
          simp -dsimp -implicitDefEqProofs [ms___eq__, e_eq (n := 40) (by omega) huo huo, a1i, a2i, a1j, a2j]
          refine sp_right (by omega) (by omega) Ri.2 Si ?_
          simp -dsimp -implicitDefEqProofs [a1j, a2j]
          refine sp_right (by omega) (by omega) Rj.2 Sj ?_
          simp -dsimp -implicitDefEqProofs
          exact hK' _ _ ⟨_, _, _, rfl, rfl⟩
        · simp -dsimp -implicitDefEqProofs [eq_lstS yoi yoj, -e_eq_lst, hij, a2i, a2j, ms___eq__, ms___and__, e_eq (n := 40) (by omega) yoi yoj]
          refine sp_and (by omega) (by omega) (by omega) fun us hu => ?_
          simp -dsimp -implicitDefEqProofs [a1i, a1j, hl9]
          rw [← List.map_append]
          have hu2 : SS (ri ++ rj) us := ⟨hu.pw, hu.nd, fun x => by rw [hu.mem, List.mem_append, List.mem_append, Si.mem, Sj.mem]⟩
          refine sp_right (by omega) (by simp; omega) hok2 hu2 ?_
          simp -dsimp -implicitDefEqProofs [a2i, a2j, ms___and__]
          refine sp_and (by omega) (by omega) (by omega) fun us' hv => ?_
          obtain rfl : us' = us := hv.one hu fun x => by rw [List.mem_append, List.mem_append]; exact Or.comm
          have huo := hu2.ok hok2
          simp -dsimp -implicitDefEqProofs [ms___eq__, e_eq (n := 40) (by omega) huo huo, a1i, a2i, a1j, a2j]
          refine sp_right (by omega) (by omega) Ri.2 Si ?_
          simp -dsimp -implicitDefEqProofs [a1j, a2j]
          refine sp_right (by omega) (by omega) Rj.2 Sj ?_
          simp -dsimp -implicitDefEqProofs
          exact hK' _ _ ⟨_, _, _, rfl, rfl⟩
      · rintro ρ S ⟨s6, s7, s8, rfl, rfl⟩
        refine ⟨trivial, ?_⟩
        simp -dsimp -implicitDefEqProofs
        exact hK _ _ ⟨_, _, _, _, rfl, rfl⟩
    · rintro ρ S ⟨s6, s5, s7, s8, rfl, rfl⟩
      refine ⟨trivial, ?_⟩
      simp -dsimp -implicitDefEqProofs
end K14

open PySem PySem.W PyProof.Rows
set_option maxRecDepth 100000 in
set_option maxHeartbeats 0 in
theorem PySem.Challenge.cw_makermatch_k14_lots_as_sets_holds : PySem.Challenge.rw_makermatch_k14_lots_as_sets.Holds := by
  w_on; o_law; k_head; (case hw => w_witness2)
  k_fill
  refine K14.walk (l := PySem.Challenge.rw_makermatch_k14_lots_as_sets) (k := 4 * 40 + 5) rfl rfl ⟨rfl, by decide, by decide⟩ (fun w h Y => PySem.W.kIn_of Y) ?F
  case F =>
    intro w mg fa h KX G hmg
    refine' K14.all_mk KX G hmg ?z_len ?z_int ?z_abs ?z_str ?z_tuple ?z_list ?z_sorted ?z_sum ?z_max ?z_min ?z_all ?z_any ?z_range ?z_isinstance ?a_Lot ?ca_Lot ?ci_Lot ?a__law_pool ?l__law_pool ?a__law_draw ?l__law_draw ?a__law_free_name ?l__law_free_name ?a__law_lot_names ?l__law_lot_names ?a__law_lot ?l__law_lot ?a__law_set ?l__law_set ?a__law_names_drawn ?l__law_names_drawn ?a__law_right ?l__law_right ?a_law ?l_law ?z_iter ?ii_Lot ?if_Lot ?il_Lot ?ih_Lot ?l_Lot___iter__ ?a_Lot_Lot___and__ ?i_Lot___and__ ?l_Lot___and__ ?a_Lot_Lot___contains__ ?i_Lot___contains__ ?l_Lot___contains__ ?a_Lot_Lot___eq__ ?i_Lot___eq__ ?l_Lot___eq__ ?a_Lot_Lot___init__ ?i_Lot___init__ ?l_Lot___init__ ?n_names_Lot ?m_Lot_str ?m_Lot_tuple ?ne_Lot ?sf_Lot 40 K14.law_true
    (case z_len => k_is)
    (case z_int => k_is)
    (case z_abs => k_is)
    (case z_str => k_is)
    (case z_tuple => k_is)
    (case z_list => k_is)
    (case z_sorted => k_is)
    (case z_sum => k_is)
    (case z_max => k_is)
    (case z_min => k_is)
    (case z_all => k_is)
    (case z_any => k_is)
    (case z_range => k_is)
    (case z_isinstance => k_is)
    (case a_Lot => k_is)
    (case ca_Lot => refine' ⟨?l1, ?l2, ?l3, ?l4, ?l5, ?l6, ?l7, ?l8, ?l9, ?l10⟩; (case l1 => k_is); (case l2 => k_is); (case l3 => k_is); (case l4 => k_is); (case l5 => k_is); (case l6 => k_is); (case l7 => k_is); (case l8 => k_is); (case l9 => k_is); (case l10 => k_is))
    (case ci_Lot => refine' VL.CIs.of ?l1 ?l2; (case l1 => k_is); (case l2 => k_is))
    (case a__law_pool => k_is)
    (case l__law_pool => refine' VL.FAt.of ?l1 ?l2 ?l3; (case l1 => k_is); (case l2 => k_is); (case l3 => k_is))
    (case a__law_draw => k_is)
    (case l__law_draw => refine' VL.FAt.of ?l1 ?l2 ?l3; (case l1 => k_is); (case l2 => k_is); (case l3 => k_is))
    (case a__law_free_name => k_is)
    (case l__law_free_name => refine' VL.FAt.of ?l1 ?l2 ?l3; (case l1 => k_is); (case l2 => k_is); (case l3 => k_is))
    (case a__law_lot_names => k_is)
    (case l__law_lot_names => refine' VL.FAt.of ?l1 ?l2 ?l3; (case l1 => k_is); (case l2 => k_is); (case l3 => k_is))
    (case a__law_lot => k_is)
    (case l__law_lot => refine' VL.FAt.of ?l1 ?l2 ?l3; (case l1 => k_is); (case l2 => k_is); (case l3 => k_is))
    (case a__law_set => k_is)
    (case l__law_set => refine' VL.FAt.of ?l1 ?l2 ?l3; (case l1 => k_is); (case l2 => k_is); (case l3 => k_is))
    (case a__law_names_drawn => k_is)
    (case l__law_names_drawn => refine' VL.FAt.of ?l1 ?l2 ?l3; (case l1 => k_is); (case l2 => k_is); (case l3 => k_is))
    (case a__law_right => k_is)
    (case l__law_right => refine' VL.FAt.of ?l1 ?l2 ?l3; (case l1 => k_is); (case l2 => k_is); (case l3 => k_is))
    (case a_law => k_is)
    (case l_law => refine' VL.FAt.of ?l1 ?l2 ?l3; (case l1 => k_is); (case l2 => k_is); (case l3 => k_is))
    (case z_iter => k_is)
    (case ii_Lot => k_is)
    (case if_Lot => k_is)
    (case il_Lot => k_is)
    (case ih_Lot => k_is)
    (case l_Lot___iter__ => refine' VL.FAt.of ?l1 ?l2 ?l3; (case l1 => k_is); (case l2 => k_is); (case l3 => k_is))
    (case a_Lot_Lot___and__ => k_is)
    (case i_Lot___and__ => k_is)
    (case l_Lot___and__ => refine' VL.FAt.of ?l1 ?l2 ?l3; (case l1 => k_is); (case l2 => k_is); (case l3 => k_is))
    (case a_Lot_Lot___contains__ => k_is)
    (case i_Lot___contains__ => k_is)
    (case l_Lot___contains__ => refine' VL.FAt.of ?l1 ?l2 ?l3; (case l1 => k_is); (case l2 => k_is); (case l3 => k_is))
    (case a_Lot_Lot___eq__ => k_is)
    (case i_Lot___eq__ => k_is)
    (case l_Lot___eq__ => refine' VL.FAt.of ?l1 ?l2 ?l3; (case l1 => k_is); (case l2 => k_is); (case l3 => k_is))
    (case a_Lot_Lot___init__ => k_is)
    (case i_Lot___init__ => k_is)
    (case l_Lot___init__ => refine' VL.FAt.of ?l1 ?l2 ?l3; (case l1 => k_is); (case l2 => k_is); (case l3 => k_is))
    (case n_names_Lot => k_is)
    (case m_Lot_str => k_is)
    (case m_Lot_tuple => k_is)
    (case ne_Lot => k_is)
    (case sf_Lot => k_is)
#print axioms PySem.Challenge.cw_makermatch_k14_lots_as_sets_holds

