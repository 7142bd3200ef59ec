import PyProof.Rows.All
import Wide.All
import OpenK.AllK
import Wide.FinOn
import HandS.ForMost
import HandS.ForExc
import HandS.Wide
import HandS.TupAny
import HandS.IsInst
import HandS.SortInts
import HandS.SortRule
import HandS.CallSlots
import HandS.ExcInit
import HandS.ExcIs
import HandS.ExcField
import HandS.Remove
import HandS.TryMany
import HandS.ExcCtx
import HandS.ExcInitHot
import HandS.HotCalls
import HandS.Deep
import HandS.Zip
import HandS.SetFor
import KE.DataMinMax
import KE.SortData
import PyProof.SumAny
import HandS.Conv
import HandS.TupMul
import HandS.TupLe
import KE.LtData
import HandS.Iter
import KE.KExcIs
import HandS.Small
import HandS.TupSets
import HandS.Text
import HandS.Replace
import PySem.Challenge.RW_throwskept_k07_lengths_of_bridges
set_option Elab.async false
set_option linter.all false
set_option maxRecDepth 100000
set_option maxHeartbeats 4000000
namespace TK
open PySem PySem.Spec PyProof.Rows L2

/-! ## data -/
abbrev D := PyData
abbrev Sg := List (Option V)
structure Ex where
  name : Str
  fs : List (Str × D)
inductive SV where
  | emp
  | val (d : D)
  | own (io : Bool) (ds : List D)
  | own2 (dss : List (List D))
  | al (i : Nat)
  | scr (ns : List Int)
  | exc (x : Ex) (a : Addr) (d : Option Addr)
  | dct (t : Bool) (kvs : List (List Int × D))

def SV.noal : SV → Bool
  | .al _ => false
  | _ => true

def SV.isOwn : SV → Bool
  | .own _ _ => true
  | .own2 _ => true
  | .dct _ _ => true
  | _ => false

mutual
inductive RV (Z : Addr → Prop) (H : Hp) : V → D → Prop
  | non : RV Z H .non .none
  | bl (b : Bool) : RV Z H (.bl b) (.bool b)
  | int (i : Int) : RV Z H (.int i) (.int i)
  | str (x : Str) : RV Z H (.str x) (.str x)
  | lst {a : Addr} {xs : List V} {ds : List D} : H a = some (.lst xs) → ¬ Z a → RVs Z H xs ds → RV Z H (.ref a) (.list ds)
  | tup {a : Addr} {xs : List V} {ds : List D} : H a = some (.tup xs) → ¬ Z a → RVs Z H xs ds → RV Z H (.ref a) (.tuple ds)
inductive RVs (Z : Addr → Prop) (H : Hp) : List V → List D → Prop
  | nil : RVs Z H [] []
  | cons {v : V} {vs : List V} {d : D} {ds : List D} : RV Z H v d → RVs Z H vs ds → RVs Z H (v :: vs) (d :: ds)
end

def Keep (Z Z' : Addr → Prop) (H H' : Hp) : Prop := ∀ a o, H a = some o → ¬ Z a → H' a = some o ∧ ¬ Z' a
mutual
theorem RV.frame {Z Z' : Addr → Prop} {H H' : Hp} (k : Keep Z Z' H H') : ∀ (d : D) (v : V), RV Z H v d → RV Z' H' v d
  | .none, _, h => by cases h; exact .non
  | .bool b, _, h => by cases h; exact .bl b
  | .int i, _, h => by cases h; exact .int i
  | .str x, _, h => by cases h; exact .str x
  | .list ds, _, h => by
    cases h with
    | lst h1 h2 h3 => exact .lst (k _ _ h1 h2).1 (k _ _ h1 h2).2 (RVs.frame k ds _ h3)
  | .tuple ds, _, h => by
    cases h with
    | tup h1 h2 h3 => exact .tup (k _ _ h1 h2).1 (k _ _ h1 h2).2 (RVs.frame k ds _ h3)
  | .dict _, _, h => by cases h
theorem RVs.frame {Z Z' : Addr → Prop} {H H' : Hp} (k : Keep Z Z' H H') : ∀ (ds : List D) (vs : List V), RVs Z H vs ds → RVs Z' H' vs ds
  | [], _, h => by cases h; exact .nil
  | d :: ds, _, h => by
    cases h with
    | cons h1 h2 => exact .cons (RV.frame k d _ h1) (RVs.frame k ds _ h2)
end
mutual
theorem RV.dp {K : PySem.W.Frag} {Z : Addr → Prop} {H : Hp} : ∀ (d : D) (v : V), RV Z H v d → Dp K H v d
  | .none, _, h => by cases h; exact .non
  | .bool b, _, h => by cases h; exact .bl b
  | .int i, _, h => by cases h; exact .int i
  | .str x, _, h => by cases h; exact .str x
  | .list ds, _, h => by
    cases h with
    | lst h1 h2 h3 => exact .lst (SqL.of h1) (RVs.dp ds _ h3)
  | .tuple ds, _, h => by
    cases h with
    | tup h1 h2 h3 => exact .tup (SqT.of h1) (RVs.dp ds _ h3)
  | .dict _, _, h => by cases h
theorem RVs.dp {K : PySem.W.Frag} {Z : Addr → Prop} {H : Hp} : ∀ (ds : List D) (vs : List V), RVs Z H vs ds → DpAll K H vs ds
  | [], _, h => by cases h; exact .nil
  | d :: ds, _, h => by
    cases h with
    | cons h1 h2 => exact .cons (RV.dp d _ h1) (RVs.dp ds _ h2)
end
section
variable {Z Z' : Addr → Prop} {H H' : Hp}
theorem RVs.length : ∀ {vs : List V} {ds : List D}, RVs Z H vs ds → vs.length = ds.length
  | _, _, .nil => rfl
  | _, _, .cons _ t => by rw [List.length_cons, List.length_cons, RVs.length t]
theorem RVs.get : ∀ {vs : List V} {ds : List D} {i : Nat} {d : D}, RVs Z H vs ds → ds[i]? = some d → ∃ v, vs[i]? = some v ∧ RV Z H v d
  | _, _, _, _, .nil, e => by simp at e
  | _, _, 0, _, .cons r _, e => by simp at e; subst e; exact ⟨_, rfl, r⟩
  | _, _, i + 1, d, .cons _ t, e => by
    obtain ⟨v, h1, h2⟩ := RVs.get (i := i) (d := d) t (by simpa using e)
    exact ⟨v, by simpa using h1, h2⟩
theorem RVs.getV : ∀ {vs : List V} {ds : List D} {i : Nat} {v : V}, RVs Z H vs ds → vs[i]? = some v → ∃ d, ds[i]? = some d ∧ RV Z H v d
  | _, _, _, _, .nil, e => by simp at e
  | _, _, 0, _, .cons r _, e => by simp at e; subst e; exact ⟨_, rfl, r⟩
  | _, _, i + 1, d, .cons _ t, e => by
    obtain ⟨v, h1, h2⟩ := RVs.getV (i := i) (v := d) t (by simpa using e)
    exact ⟨v, by simpa using h1, h2⟩
theorem RVs.append : ∀ {vs ws : List V} {ds es : List D}, RVs Z H vs ds → RVs Z H ws es → RVs Z H (vs ++ ws) (ds ++ es)
  | _, _, _, _, .nil, s => s
  | _, _, _, _, .cons r t, s => .cons r (RVs.append t s)
theorem RVs.take : ∀ {vs : List V} {ds : List D} (n : Nat), RVs Z H vs ds → RVs Z H (vs.take n) (ds.take n)
  | _, _, 0, _ => .nil
  | _, _, _ + 1, .nil => .nil
  | _, _, n + 1, .cons r t => .cons r (RVs.take n t)
theorem RVs.drop : ∀ {vs : List V} {ds : List D} (n : Nat), RVs Z H vs ds → RVs Z H (vs.drop n) (ds.drop n)
  | _, _, 0, r => r
  | _, _, _ + 1, .nil => .nil
  | _, _, n + 1, .cons _ t => RVs.drop n t
theorem RVs.set {v : V} {d : D} (r : RV Z H v d) : ∀ {vs : List V} {ds : List D} (i : Nat), RVs Z H vs ds → RVs Z H (vs.set i v) (ds.set i d)
  | _, _, _, .nil => .nil
  | _, _, 0, .cons _ t => .cons r t
  | _, _, i + 1, .cons q t => .cons q (RVs.set r i t)
theorem RVs.eraseIdx : ∀ {vs : List V} {ds : List D} (i : Nat), RVs Z H vs ds → RVs Z H (vs.eraseIdx i) (ds.eraseIdx i)
  | _, _, _, .nil => .nil
  | _, _, 0, .cons _ t => t
  | _, _, i + 1, .cons q t => .cons q (RVs.eraseIdx i t)
theorem RVs.reverse : ∀ {vs : List V} {ds : List D}, RVs Z H vs ds → RVs Z H vs.reverse ds.reverse
  | _, _, .nil => .nil
  | _, _, .cons r t => by
    rw [List.reverse_cons, List.reverse_cons]
    exact RVs.append (RVs.reverse t) (.cons r .nil)
theorem RVs.rep {vs : List V} {ds : List D} (h : RVs Z H vs ds) : ∀ k : Nat, RVs Z H (List.replicate k vs).flatten (List.replicate k ds).flatten
  | 0 => .nil
  | k + 1 => by
    rw [List.replicate_succ, List.replicate_succ, List.flatten_cons, List.flatten_cons]
    exact RVs.append h (RVs.rep h k)
theorem RVs.ints : ∀ (ns : List Int), RVs Z H (ns.map V.int) (ns.map PyData.int)
  | [] => .nil
  | n :: ns => .cons (.int n) (RVs.ints ns)
theorem RVs.of_ints : ∀ {vs : List V} {ns : List Int}, RVs Z H vs (ns.map PyData.int) → vs = ns.map V.int
  | [], [], _ => rfl
  | v :: vs, n :: ns, h => by
    cases h with
    | cons h1 h2 =>
      cases h1
      rw [RVs.of_ints h2]; rfl
  | [], _ :: _, h => by cases h
  | _ :: _, [], h => by cases h
end

/-! ## the state -/
structure Gh where
  H0 : Hp
  wr : Addr → Prop
  zx : Addr → Prop
  io : Option Addr

inductive All3 {A B C : Type} (P : A → B → C → Prop) : List A → List B → List C → Prop
  | nil : All3 P [] [] []
  | cons {a b c as bs cs} : P a b c → All3 P as bs cs → All3 P (a :: as) (b :: bs) (c :: cs)
namespace All3
variable {A B C : Type} {P Q : A → B → C → Prop}
theorem imp (f : ∀ a b c, c ∈ cs → P a b c → Q a b c) {as : List A} {bs : List B} (h : All3 P as bs cs) : All3 Q as bs cs := by
  induction h with
  | nil => exact .nil
  | cons h1 _ ih => exact .cons (f _ _ _ (by simp) h1) (ih fun a b c hc => f a b c (by simp [hc]))
theorem impB {as : List A} {bs : List B} {cs : List C} (h : All3 P as bs cs) : (∀ a b c, b ∈ bs → P a b c → Q a b c) → All3 Q as bs cs := by
  induction h with
  | nil => intro _; exact .nil
  | cons h1 _ ih => exact fun f => .cons (f _ _ _ (by simp) h1) (ih fun a b c hb => f a b c (by simp [hb]))
theorem len {as : List A} {bs : List B} {cs : List C} (h : All3 P as bs cs) : as.length = bs.length ∧ cs.length = bs.length := by
  induction h with
  | nil => exact ⟨rfl, rfl⟩
  | cons _ _ ih => simp [ih.1, ih.2]
theorem get {as : List A} {bs : List B} {cs : List C} (h : All3 P as bs cs) : ∀ {i : Nat} {b : B}, bs[i]? = some b → ∃ a c, as[i]? = some a ∧ cs[i]? = some c ∧ P a b c := by
  induction h with
  | nil => intro i b e; simp at e
  | cons h1 _ ih =>
    intro i b e
    cases i with
    | zero => simp at e; subst e; exact ⟨_, _, rfl, rfl, h1⟩
    | succ i => simpa using ih (i := i) (by simpa using e)
theorem set {as : List A} {bs : List B} {cs : List C} (h : All3 P as bs cs) {a : A} {b : B} {c : C} (p : P a b c) : ∀ i : Nat, All3 P (as.set i a) (bs.set i b) (cs.set i c) := by
  induction h with
  | nil => intro i; exact .nil
  | cons h1 h2 ih =>
    intro i
    cases i with
    | zero => exact .cons p h2
    | succ i => exact .cons h1 (ih i)
theorem imp2 {as : List A} {bs : List B} {cs : List C} (h : All3 P as bs cs) : (∀ (j : Nat) a b c, cs[j]? = some c → P a b c → Q a b c) → All3 Q as bs cs := by
  induction h with
  | nil => intro _; exact .nil
  | cons h1 _ ih => exact fun f => .cons (f 0 _ _ _ rfl h1) (ih fun j a b c hc p => f (j + 1) a b c (by simpa using hc) p)
theorem append {as as' : List A} {bs bs' : List B} {cs cs' : List C} (h : All3 P as bs cs) (h' : All3 P as' bs' cs') : All3 P (as ++ as') (bs ++ bs') (cs ++ cs') := by
  induction h with
  | nil => exact h'
  | cons h1 _ ih => exact .cons h1 ih
end All3

def Rows (Z : Addr → Prop) (H : Hp) (qs : List Addr) (dss : List (List D)) : Prop := Paired (fun q ds => ∃ vs, H q = some (.lst vs) ∧ RVs Z H vs ds) qs dss
/-- the script at a, to be read -/
def ScrAt (K : PySem.W.Frag) (Z : Addr → Prop) (H : Hp) (a : Addr) (ns : List Int) : Prop :=
  SqL K H a (ns.map V.int) ∧ ((H a ≠ none ∧ ¬ Z a) ∨ ∀ H', SqL K H' a (ns.map V.int))
def dctO (t : Bool) (ks : List (List Int)) (vs : List V) : HO := if t then .dT ((ks.zip vs).map fun p => (p.1.map Sum.inl, p.2)) else .dK ((ks.zip vs).map fun p => (Sum.inl (p.1.headD 0), p.2))
/-- what of an exception is told by its dict -/
def ExD (Z : Addr → Prop) (H : Hp) (d : Option Addr) (fs : List (Str × D)) : Prop := match d with
  | none => fs = []
  | some dd => ¬ Z dd ∧ ∃ vs, H dd = some (.xd vs) ∧ Paired (fun (q : Str × V) (p : Str × D) => q.1 = p.1 ∧ RV Z H q.2 p.2) vs fs
theorem ExD.frame {Z Z' : Addr → Prop} {H H' : Hp} (k : Keep Z Z' H H') {d : Option Addr} {fs : List (Str × D)} (h : ExD Z H d fs) : ExD Z' H' d fs := by
  cases d with
  | none => exact h
  | some dd =>
    obtain ⟨h1, vs, h2, h3⟩ := h
    refine ⟨(k _ _ h2 h1).2, vs, (k _ _ h2 h1).1, ?_⟩
    clear h2
    induction h3 with
    | nil => exact .nil
    | cons r _ ih => exact .cons ⟨r.1, RV.frame k _ _ r.2⟩ ih
def isMut : HO → Bool
  | .lst _ => true
  | .dK _ => true
  | .dT _ => true
  | _ => false
theorem isMut_dct (t : Bool) (ks : List (List Int)) (vs : List V) : isMut (dctO t ks vs) = true := by cases t <;> rfl
def SlotOk (K : PySem.W.Frag) (G : Gh) (Z : Addr → Prop) (H : Hp) (σ : Sg) (v : Option V) (sv : SV) (f : List Addr) : Prop :=
  match sv with
  | .emp => f = []
  | .val d => f = [] ∧ ∃ x, v = some x ∧ RV Z H x d
  | .own io ds => ∃ p vs, f = [p] ∧ v = some (.ref p) ∧ H p = some (.lst vs) ∧ RVs Z H vs ds ∧ (io = true → G.io = some p)
  | .own2 dss => ∃ p qs, f = p :: qs ∧ v = some (.ref p) ∧ H p = some (.lst (qs.map .ref)) ∧ Rows Z H qs dss
  | .al i => f = [] ∧ ∃ x, v = some x ∧ σ[i]? = some (some x)
  | .scr ns => f = [] ∧ ∃ a, v = some (.ref a) ∧ ScrAt K Z H a ns
  | .exc x a d => f = [] ∧ v = some (.ref a) ∧ ExD Z H d x.fs
  | .dct t kvs => ∃ p vs, f = [p] ∧ v = some (.ref p) ∧ H p = some (dctO t (kvs.map (·.1)) vs) ∧ RVs Z H vs (kvs.map (·.2))
def Zf (G : Gh) (ow : List Addr) (a : Addr) : Prop := G.zx a ∨ a ∈ ow

structure RepF (K : PySem.W.Frag) (G : Gh) (fs fp : List (List Addr)) (st : List SV) (σ : Sg) (pst : List SV) (pσ : List (Option V)) (H : Hp) : Prop where
  slots : All3 (SlotOk K G (Zf G (fs.flatten ++ fp.flatten)) H σ) σ st fs
  pend : All3 (SlotOk K G (Zf G (fs.flatten ++ fp.flatten)) H σ) pσ pst fp
  nd : (fs.flatten ++ fp.flatten).Nodup
  fresh : ∀ a ∈ fs.flatten ++ fp.flatten, (G.wr a ∨ G.H0 a = none) ∧ ¬ G.zx a
  frame : ∀ a o, G.H0 a = some o → ¬ G.wr a → H a = some o
  there : ∀ a, G.H0 a ≠ none → H a ≠ none
  zxt : ∀ a, G.zx a → (∃ o, G.H0 a = some o ∧ isMut o = true) ∧ ¬ G.wr a
  na : ∀ sv ∈ st, sv.noal = true
  alk : ∀ i : Nat, SV.al i ∈ pst → ∃ s, st[i]? = some s ∧ s.isOwn = true
def Rep (K : PySem.W.Frag) (G : Gh) (st : List SV) (σ : Sg) (pst : List SV) (pσ : List (Option V)) (H : Hp) : Prop := ∃ fs fp, RepF K G fs fp st σ pst pσ H

section
variable {K : PySem.W.Frag} {G : Gh} {fs fp : List (List Addr)} {st : List SV} {σ : Sg} {pst : List SV} {pσ : List (Option V)} {H H' : Hp}
theorem Rows.frame {Z Z' : Addr → Prop} (k : Keep Z Z' H H') {qs : List Addr} {dss : List (List D)} (hq : ∀ a ∈ qs, H' a = H a) (h : Rows Z H qs dss) : Rows Z' H' qs dss := by
  unfold Rows at *
  induction h with
  | nil => exact .nil
  | cons h1 _ ih =>
    obtain ⟨vs, e, r⟩ := h1
    refine .cons ⟨vs, (hq _ (by simp)).trans e, RVs.frame k _ _ r⟩ (ih fun a ha => hq a (by simp [ha]))
theorem ScrAt.frame {Z Z' : Addr → Prop} (k : Keep Z Z' H H') {a : Addr} {ns : List Int} (h : ScrAt K Z H a ns) : ScrAt K Z' H' a ns := by
  obtain ⟨h1, h2⟩ := h
  rcases h2 with ⟨h2, h3⟩ | h2
  · obtain ⟨o, ho⟩ := Option.ne_none_iff_exists'.mp h2
    obtain ⟨k1, k2⟩ := k _ _ ho h3
    refine ⟨?_, .inl ⟨by rw [k1]; simp, k2⟩⟩
    rcases h1 with (h1 | ⟨u, h1⟩) | h1
    · exact .inl (.inl (k _ _ h1 h3).1)
    · exact .inl (.inr ⟨u, (k _ _ h1 h3).1⟩)
    · exact .inr h1
  · exact ⟨h2 H', .inr h2⟩
theorem SlotOk.frame {Z Z' : Addr → Prop} (k : Keep Z Z' H H') {v : Option V} {sv : SV} {f : List Addr} (hf : ∀ a ∈ f, H' a = H a) (h : SlotOk K G Z H σ v sv f) : SlotOk K G Z' H' σ v sv f := by
  cases sv with
  | emp => exact h
  | val d => obtain ⟨e, x, e2, r⟩ := h; exact ⟨e, x, e2, RV.frame k _ _ r⟩
  | own io ds =>
    obtain ⟨p, vs, rfl, e2, hp, r, io⟩ := h
    exact ⟨p, vs, rfl, e2, (hf p (by simp)).trans hp, RVs.frame k _ _ r, io⟩
  | own2 dss =>
    obtain ⟨p, qs, rfl, e2, hp, r⟩ := h
    exact ⟨p, qs, rfl, e2, (hf p (by simp)).trans hp, Rows.frame k (fun a ha => hf a (by simp [ha])) r⟩
  | al i => exact h
  | scr ns => obtain ⟨e, a, e2, r⟩ := h; exact ⟨e, a, e2, r.frame k⟩
  | exc x a d => obtain ⟨e, e2, r⟩ := h; exact ⟨e, e2, r.frame k⟩
  | dct t kvs =>
    obtain ⟨p, vs, rfl, e2, hp, r⟩ := h
    exact ⟨p, vs, rfl, e2, (hf p (by simp)).trans hp, RVs.frame k _ _ r⟩
theorem SlotOk.sig {Z : Addr → Prop} {σ' : Sg} {v : Option V} {sv : SV} {f : List Addr} (hn : ∀ i, sv ≠ .al i) (h : SlotOk K G Z H σ v sv f) : SlotOk K G Z H σ' v sv f := by
  cases sv with
  | al i => exact absurd rfl (hn i)
  | emp => exact h
  | val d => exact h
  | own io ds => exact h
  | own2 dss => exact h
  | scr ns => exact h
  | exc x a d => exact h
  | dct t kvs => exact h

theorem mem_ff {fs : List (List Addr)} {f : List Addr} (hf : f ∈ fs) {a : Addr} (ha : a ∈ f) : a ∈ fs.flatten := List.mem_flatten.mpr ⟨f, hf, ha⟩
/-- the same owners, fewer owned: a smaller set -/
theorem Keep.sub {Z Z' : Addr → Prop} (h : ∀ a, H a ≠ none → Z' a → Z a) : Keep Z Z' H H := fun a o e n => ⟨e, fun z => n (h a (by rw [e]; simp) z)⟩

theorem Rep.pop {r : SV} {v : Option V} (h : Rep K G st σ (r :: pst) (v :: pσ) H) : Rep K G st σ pst pσ H := by
  obtain ⟨fs, fp, h⟩ := h
  obtain ⟨hs, hp, nd, fr, f1, f2, f3, f4, f5⟩ := h
  cases hp with
  | @cons _ _ f _ _ fp hp1 hp2 =>
    have sub : ∀ a, a ∈ fs.flatten ++ fp.flatten → a ∈ fs.flatten ++ (f :: fp).flatten := fun a ha => by
      simp only [List.flatten_cons, List.mem_append] at *
      rcases ha with h | h
      · exact .inl h
      · exact .inr (.inr h)
    have k : Keep (Zf G (fs.flatten ++ (f :: fp).flatten)) (Zf G (fs.flatten ++ fp.flatten)) H H := .sub fun a _ z => z.imp id (sub a)
    refine ⟨fs, fp, ⟨hs.imp fun a b c _ q => q.frame k fun _ _ => rfl, hp2.imp fun a b c _ q => q.frame k fun _ _ => rfl, ?_, fun a ha => fr a (sub a ha), f1, f2, f3, f4, fun i hi => f5 i (List.mem_cons_of_mem _ hi)⟩⟩
    rw [List.flatten_cons, ← List.append_assoc] at nd
    refine nd.sublist ?_
    rw [List.append_assoc]
    exact List.Sublist.append (List.Sublist.refl _) (List.sublist_append_right _ _)
theorem RepF.pushv {d : D} {v : V} (h : RepF K G fs fp st σ pst pσ H) (r : RV (Zf G (fs.flatten ++ fp.flatten)) H v d) : RepF K G fs ([] :: fp) st σ (.val d :: pst) (some v :: pσ) H :=
  ⟨h.slots, .cons ⟨rfl, v, rfl, r⟩ h.pend, h.nd, h.fresh, h.frame, h.there, h.zxt, h.na, fun i hi => h.alk i ((List.mem_cons.mp hi).elim (fun e => nomatch e) id)⟩
theorem Rep.pushI (h : Rep K G st σ pst pσ H) (i : Int) : Rep K G st σ (.val (.int i) :: pst) (some (.int i) :: pσ) H := let ⟨fs, fp, h⟩ := h; ⟨fs, _, h.pushv (.int i)⟩
theorem Rep.pushB (h : Rep K G st σ pst pσ H) (i : Bool) : Rep K G st σ (.val (.bool i) :: pst) (some (.bl i) :: pσ) H := let ⟨fs, fp, h⟩ := h; ⟨fs, _, h.pushv (.bl i)⟩
theorem Rep.pushS (h : Rep K G st σ pst pσ H) (i : Str) : Rep K G st σ (.val (.str i) :: pst) (some (.str i) :: pσ) H := let ⟨fs, fp, h⟩ := h; ⟨fs, _, h.pushv (.str i)⟩
theorem Rep.pushN (h : Rep K G st σ pst pσ H) : Rep K G st σ (.val .none :: pst) (some .non :: pσ) H := let ⟨fs, fp, h⟩ := h; ⟨fs, _, h.pushv .non⟩

/-- a new object at p -/
theorem RepF.keepNew {p : Addr} {o : HO} (h : RepF K G fs fp st σ pst pσ H) (hp : H p = none) {Z' : Addr → Prop} (hz : ∀ a, Z' a → Zf G (fs.flatten ++ fp.flatten) a ∨ a = p) : Keep (Zf G (fs.flatten ++ fp.flatten)) Z' H (upd H p o) := fun a u e n => by
  have na : a ≠ p := ne_of_none e hp
  exact ⟨by rw [upd_ne na]; exact e, fun z => (hz a z).elim n na⟩
theorem All3.owned {Z : Addr → Prop} {as : List (Option V)} {bs : List SV} {cs : List (List Addr)} (h : All3 (SlotOk K G Z H σ) as bs cs) : ∀ a ∈ cs.flatten, ∃ o, H a = some o ∧ isMut o = true := by
  induction h with
  | nil => intro a ha; simp at ha
  | @cons v sv f as bs cs h1 _ ih =>
    intro a ha
    rw [List.flatten_cons, List.mem_append] at ha
    rcases ha with ha | ha
    · cases sv with
      | emp => rw [show f = [] from h1] at ha; simp at ha
      | val d => rw [h1.1] at ha; simp at ha
      | al i => rw [h1.1] at ha; simp at ha
      | scr ns => rw [h1.1] at ha; simp at ha
      | exc x a d => rw [h1.1] at ha; simp at ha
      | dct t kvs =>
        obtain ⟨p, vs, rfl, _, hp, _⟩ := h1
        have : a = p := by simpa using ha
        subst this
        exact ⟨_, hp, isMut_dct _ _ _⟩
      | own io ds =>
        obtain ⟨p, vs, rfl, _, hp, _⟩ := h1
        have : a = p := by simpa using ha
        subst this
        exact ⟨_, hp, rfl⟩
      | own2 dss =>
        obtain ⟨p, qs, rfl, _, hp, r⟩ := h1
        rcases List.mem_cons.mp ha with e | ha
        · subst e; exact ⟨_, hp, rfl⟩
        · clear hp
          unfold Rows at r
          induction r with
          | nil => simp at ha
          | cons r1 _ ihr =>
            rcases List.mem_cons.mp ha with e | ha
            · subst e; obtain ⟨vs, e, _⟩ := r1; exact ⟨_, e, rfl⟩
            · exact ihr (by simp [ha]) ha
    · exact ih a ha
theorem RepF.owned (h : RepF K G fs fp st σ pst pσ H) : ∀ a ∈ fs.flatten ++ fp.flatten, ∃ o, H a = some o ∧ isMut o = true := fun a ha => by
  rcases List.mem_append.mp ha with ha | ha
  · exact All3.owned h.slots a ha
  · exact All3.owned h.pend a ha
theorem RepF.zTracked (h : RepF K G fs fp st σ pst pσ H) {a : Addr} (z : Zf G (fs.flatten ++ fp.flatten) a) : H a ≠ none := by
  rcases z with z | z
  · exact h.there a (by obtain ⟨⟨xs, e, _⟩, _⟩ := h.zxt a z; rw [e]; simp)
  · obtain ⟨xs, e, _⟩ := h.owned a z
    rw [e]; simp
theorem RepF.notZ (h : RepF K G fs fp st σ pst pσ H) {p : Addr} (hp : H p = none) : ¬ Zf G (fs.flatten ++ fp.flatten) p := fun z => h.zTracked z hp
theorem RepF.h0 (h : RepF K G fs fp st σ pst pσ H) {p : Addr} (hp : H p = none) : G.H0 p = none := by
  cases e : G.H0 p with
  | none => rfl
  | some o => exact absurd hp (h.there p (by rw [e]; simp))
/-- everything else stays when a new object is laid; the owned may grow by it -/
theorem RepF.laid {p : Addr} {o : HO} (h : RepF K G fs fp st σ pst pσ H) (hp : H p = none) : RepF K G fs fp st σ pst pσ (upd H p o) := by
  have k : Keep (Zf G (fs.flatten ++ fp.flatten)) (Zf G (fs.flatten ++ fp.flatten)) H (upd H p o) := h.keepNew hp fun a z => .inl z
  have hn : ∀ a ∈ fs.flatten ++ fp.flatten, upd H p o a = H a := fun a ha => by
    obtain ⟨xs, e, _⟩ := h.owned a ha
    rw [upd_ne (ne_of_none e hp)]
  refine ⟨h.slots.imp fun a b c hc q => q.frame k fun x hx => hn x (List.mem_append_left _ (mem_ff hc hx)), h.pend.imp fun a b c hc q => q.frame k fun x hx => hn x (List.mem_append_right _ (mem_ff hc hx)), h.nd, h.fresh, fun a u e w => ?_, fun a e => ?_, h.zxt, h.na, h.alk⟩
  · have q := h.frame a u e w
    rw [upd_ne (ne_of_none q hp)]; exact q
  · by_cases ea : a = p
    · subst ea; rw [upd_same]; simp
    · rw [upd_ne ea]; exact h.there a e
theorem RepF.newTup {p : Addr} {vs : List V} {ds : List D} (h : RepF K G fs fp st σ pst pσ H) (hp : H p = none) (r : RVs (Zf G (fs.flatten ++ fp.flatten)) H vs ds) :
    RepF K G fs ([] :: fp) st σ (.val (.tuple ds) :: pst) (some (.ref p) :: pσ) (upd H p (.tup vs)) := by
  refine (h.laid (o := .tup vs) hp).pushv (.tup upd_same (h.notZ hp) (RVs.frame (h.keepNew hp fun a z => .inl z) _ _ r))
theorem RepF.newLst {p : Addr} {vs : List V} {ds : List D} (h : RepF K G fs fp st σ pst pσ H) (hp : H p = none) (r : RVs (Zf G (fs.flatten ++ fp.flatten)) H vs ds) :
    RepF K G fs ([p] :: fp) st σ (.own false ds :: pst) (some (.ref p) :: pσ) (upd H p (.lst vs)) := by
  have em : ∀ a, a ∈ fs.flatten ++ ([p] :: fp).flatten → a ∈ fs.flatten ++ fp.flatten ∨ a = p := fun a ha => by
    simp only [List.flatten_cons, List.mem_append, List.mem_singleton, List.singleton_append, List.mem_cons] at ha ⊢
    rcases ha with ha | ha | ha
    · exact .inl (.inl ha)
    · exact .inr ha
    · exact .inl (.inr ha)
  have k : Keep (Zf G (fs.flatten ++ fp.flatten)) (Zf G (fs.flatten ++ ([p] :: fp).flatten)) H (upd H p (.lst vs)) := h.keepNew hp fun a z => by
    rcases z with z | z
    · exact .inl (.inl z)
    · exact (em a z).imp .inr id
  have hl := h.laid (o := .lst vs) hp
  have hn : ∀ a ∈ fs.flatten ++ fp.flatten, upd H p (.lst vs) a = H a := fun a ha => by
    obtain ⟨xs, e, _⟩ := h.owned a ha
    rw [upd_ne (ne_of_none e hp)]
  refine ⟨h.slots.imp fun a b c hc q => q.frame k fun x hx => hn x (List.mem_append_left _ (mem_ff hc hx)), .cons ⟨p, vs, rfl, rfl, upd_same, RVs.frame k _ _ r, fun z => nomatch z⟩ (h.pend.imp fun a b c hc q => q.frame k fun x hx => hn x (List.mem_append_right _ (mem_ff hc hx))), ?_, fun a ha => ?_, hl.frame, hl.there, h.zxt, h.na, fun i hi => h.alk i ((List.mem_cons.mp hi).elim (fun e => nomatch e) id)⟩
  · rw [List.flatten_cons]
    have np : p ∉ fs.flatten ++ fp.flatten := fun z => h.notZ hp (.inr z)
    have q : (p :: (fs.flatten ++ fp.flatten)).Nodup := List.nodup_cons.mpr ⟨np, h.nd⟩
    refine (List.Perm.nodup_iff ?_).mp q
    show (p :: (fs.flatten ++ fp.flatten)).Perm (fs.flatten ++ ([p] ++ fp.flatten))
    exact List.perm_middle.symm
  · rcases em a ha with ha | ha
    · exact h.fresh a ha
    · subst ha
      exact ⟨.inr (h.h0 hp), fun z => h.notZ hp (.inl z)⟩

/-- take away the second from the top -/
theorem Rep.under {r r2 : SV} {v v2 : Option V} (h : Rep K G st σ (r :: r2 :: pst) (v :: v2 :: pσ) H) : Rep K G st σ (r :: pst) (v :: pσ) H := by
  obtain ⟨fs, fp, h⟩ := h
  obtain ⟨hs, hp, nd, fr, f1, f2, f3, f4, f5⟩ := h
  cases hp with
  | @cons _ _ f _ _ fp hp1 hp2 =>
    cases hp2 with
    | @cons _ _ g _ _ fp hp2 hp3 =>
      have sub : ∀ a, a ∈ fs.flatten ++ (f :: fp).flatten → a ∈ fs.flatten ++ (f :: g :: fp).flatten := fun a ha => by
        simp only [List.flatten_cons, List.mem_append] at *
        rcases ha with h | h | h
        · exact .inl h
        · exact .inr (.inl h)
        · exact .inr (.inr (.inr h))
      have k : Keep (Zf G (fs.flatten ++ (f :: g :: fp).flatten)) (Zf G (fs.flatten ++ (f :: fp).flatten)) H H := .sub fun a _ z => z.imp id (sub a)
      refine ⟨fs, f :: fp, ⟨hs.imp fun a b c _ q => q.frame k fun _ _ => rfl, .cons (hp1.frame k fun _ _ => rfl) (hp3.imp fun a b c _ q => q.frame k fun _ _ => rfl), ?_, fun a ha => fr a (sub a ha), f1, f2, f3, f4, fun i hi => f5 i ((List.mem_cons.mp hi).elim (fun e => by rw [e]; exact List.mem_cons_self) fun h => List.mem_cons_of_mem _ (List.mem_cons_of_mem _ h))⟩⟩
      refine nd.sublist (List.Sublist.append (List.Sublist.refl _) ?_)
      rw [List.flatten_cons, List.flatten_cons, List.flatten_cons]
      exact List.Sublist.append (List.Sublist.refl _) (List.sublist_append_right _ _)

theorem flat_apart : ∀ {l : List (List Addr)} {i j : Nat} {f g : List Addr} {a : Addr}, l.flatten.Nodup → l[i]? = some f → l[j]? = some g → i ≠ j → a ∈ f → a ∉ g
  | [], i, j, f, g, a, _, e, _, _, _ => by simp at e
  | x :: l, 0, 0, f, g, a, _, _, _, n, _ => absurd rfl n
  | x :: l, 0, j + 1, f, g, a, nd, e, e2, _, hf => by
    simp at e e2
    subst e
    rw [List.flatten_cons, List.nodup_append] at nd
    exact fun hg => nd.2.2 a hf a (mem_ff (List.mem_of_getElem? e2) hg) rfl
  | x :: l, i + 1, 0, f, g, a, nd, e, e2, _, hf => by
    simp at e e2
    subst e2
    rw [List.flatten_cons, List.nodup_append] at nd
    exact fun hg => nd.2.2 a hg a (mem_ff (List.mem_of_getElem? e) hf) rfl
  | x :: l, i + 1, j + 1, f, g, a, nd, e, e2, n, hf => by
    simp at e e2
    rw [List.flatten_cons, List.nodup_append] at nd
    exact flat_apart nd.2.1 e e2 (fun q => n (by rw [q])) hf
theorem All3.impSet {A B C : Type} {P Q : A → B → C → Prop} {as : List A} {bs : List B} {cs : List C} (h : All3 P as bs cs) : ∀ (i : Nat) {a : A} {b : B} {c : C}, Q a b c → (∀ (j : Nat) a b c, j ≠ i → cs[j]? = some c → P a b c → Q a b c) → All3 Q (as.set i a) (bs.set i b) (cs.set i c) := by
  induction h with
  | nil => intro i a b c _ _; exact .nil
  | cons h1 h2 ih =>
    intro i a b c q f
    cases i with
    | zero => exact .cons q (h2.imp2 fun j a b c hc p => f (j + 1) a b c (by omega) (by simpa using hc) p)
    | succ i => exact .cons (f 0 _ _ _ (by omega) rfl h1) (ih i q fun j a b c hj hc p => f (j + 1) a b c (by omega) (by simpa using hc) p)
theorem set_same {A : Type} {l : List A} {i : Nat} {a : A} (h : l[i]? = some a) : l.set i a = l := by
  apply List.ext_getElem?
  intro j
  by_cases e : i = j
  · subst e
    obtain ⟨h1, h2⟩ := List.getElem?_eq_some_iff.mp h
    rw [List.getElem?_set_self h1, h]
  · rw [List.getElem?_set_ne e]

/-- a slot's own list -/
theorem RepF.ownAt {i : Nat} {io : Bool} {ds : List D} (h : RepF K G fs fp st σ pst pσ H) (hi : st[i]? = some (.own io ds)) :
    ∃ p vs, σ[i]? = some (some (.ref p)) ∧ fs[i]? = some [p] ∧ H p = some (.lst vs) ∧ RVs (Zf G (fs.flatten ++ fp.flatten)) H vs ds ∧ (io = true → G.io = some p) := by
  obtain ⟨v, f, e1, e2, p, vs, rfl, rfl, h1, h2, h3⟩ := h.slots.get hi
  exact ⟨p, vs, e1, e2, h1, h2, h3⟩
theorem RepF.keepMut {p : Addr} {o : HO} (h : RepF K G fs fp st σ pst pσ H) (hp : p ∈ fs.flatten ++ fp.flatten) : Keep (Zf G (fs.flatten ++ fp.flatten)) (Zf G (fs.flatten ++ fp.flatten)) H (upd H p o) := fun a u e n => by
  have na : a ≠ p := fun q => n (.inr (by rw [q]; exact hp))
  exact ⟨by rw [upd_ne na]; exact e, n⟩
theorem RepF.mutate {i : Nat} {io : Bool} {ds : List D} (h : RepF K G fs fp st σ pst pσ H) (hi : st[i]? = some (.own io ds)) {p : Addr} {vs' : List V} {ds' : List D} (hσ : σ[i]? = some (some (.ref p)))
    (r : RVs (Zf G (fs.flatten ++ fp.flatten)) H vs' ds') : RepF K G fs fp (st.set i (.own io ds')) σ pst pσ (upd H p (.lst vs')) := by
  obtain ⟨p', vs, e1, e2, h1, h2, h3⟩ := h.ownAt hi
  rw [hσ] at e1
  cases e1
  have hm : p ∈ fs.flatten := mem_ff (List.mem_of_getElem? e2) (by simp)
  have k := h.keepMut (o := .lst vs') (List.mem_append_left _ hm)
  have nd1 : fs.flatten.Nodup := (List.nodup_append.mp h.nd).1
  have q := h.slots.impSet (Q := SlotOk K G (Zf G (fs.flatten ++ fp.flatten)) (upd H p (.lst vs')) σ) i (a := some (.ref p)) (b := .own io ds') (c := [p]) ⟨p, vs', rfl, rfl, upd_same, RVs.frame k _ _ r, h3⟩
    fun j a b c hj hc q => q.frame k fun x hx => upd_ne fun e => flat_apart (a := p) nd1 e2 hc (Ne.symm hj) (by simp) (by rw [e] at hx; exact hx)
  rw [set_same hσ, set_same e2] at q
  refine ⟨q, h.pend.imp fun a b c hc q => q.frame k fun x hx => upd_ne fun e => (List.nodup_append.mp h.nd).2.2 p hm x (mem_ff hc hx) e.symm, h.nd, h.fresh, fun a o e w => ?_, fun a e => ?_, h.zxt, fun sv hs => (List.mem_or_eq_of_mem_set hs).elim (h.na sv) fun e => by rw [e]; rfl, fun j hj => ?_⟩
  · have q := h.frame a o e w
    have na : a ≠ p := fun z => by
      subst z
      rcases (h.fresh a (List.mem_append_left _ hm)).1 with z | z
      · exact w z
      · rw [z] at e; cases e
    rw [upd_ne na]; exact q
  · by_cases ea : a = p
    · subst ea; rw [upd_same]; simp
    · rw [upd_ne ea]; exact h.there a e
  · obtain ⟨s, e, q⟩ := h.alk j hj
    by_cases ej : i = j
    · subst ej
      exact ⟨_, List.getElem?_set_self (List.getElem?_eq_some_iff.mp e).1, rfl⟩
    · exact ⟨s, by rw [List.getElem?_set_ne ej]; exact e, q⟩

theorem flat_set : ∀ {fs : List (List Addr)} {i : Nat} {x f : List Addr}, fs[i]? = some x → ∃ l1 l2 : List (List Addr), fs = l1 ++ x :: l2 ∧ fs.set i f = l1 ++ f :: l2
  | [], i, x, f, h => by simp at h
  | a :: fs, 0, x, f, h => by simp at h; subst h; exact ⟨[], fs, rfl, rfl⟩
  | a :: fs, i + 1, x, f, h => by
    obtain ⟨l1, l2, e1, e2⟩ := flat_set (f := f) (show fs[i]? = some x by simpa using h)
    exact ⟨a :: l1, l2, by rw [e1]; rfl, by rw [List.set_cons_succ, e2]; rfl⟩
/-- the owners when slot i takes f from the stack -/
theorem flat_move {fs : List (List Addr)} {i : Nat} {x f P : List Addr} (h : fs[i]? = some x) (nd : (fs.flatten ++ (f ++ P)).Nodup) :
    ((fs.set i f).flatten ++ P).Nodup ∧ ∀ a ∈ (fs.set i f).flatten ++ P, a ∈ fs.flatten ++ (f ++ P) := by
  obtain ⟨l1, l2, e1, e2⟩ := flat_set (f := f) h
  rw [e2]
  rw [e1] at nd ⊢
  simp only [List.flatten_append, List.flatten_cons] at nd ⊢
  constructor
  · have q : ((l1.flatten ++ l2.flatten) ++ (f ++ P)).Nodup := nd.sublist (List.Sublist.append (List.Sublist.append (List.Sublist.refl _) (List.sublist_append_right _ _)) (List.Sublist.refl _))
    refine (List.Perm.nodup_iff ?_).mp q
    rw [List.append_assoc, List.append_assoc]
    refine List.Perm.append_left _ ?_
    rw [← List.append_assoc]
    exact List.Perm.append_right P List.perm_append_comm
  · intro a ha
    simp only [List.mem_append] at ha ⊢
    rcases ha with (h | h | h) | h
    · exact .inl (.inl h)
    · exact .inr (.inl h)
    · exact .inl (.inr (.inr h))
    · exact .inr (.inr h)
theorem Rep.lens (h : Rep K G st σ pst pσ H) : σ.length = st.length := let ⟨_, _, h⟩ := h; h.slots.len.1
/-- the top goes into slot i -/
theorem Rep.setTop {i : Nat} {sv : SV} {v : V} (h : Rep K G st σ (sv :: pst) (some v :: pσ) H) (hi : i < st.length) (hs : sv.noal = true) (hp : SV.al i ∉ pst) : Rep K G (st.set i sv) (σ.set i (some v)) pst pσ H := by
  obtain ⟨fs, fp, h⟩ := h
  obtain ⟨hs1, hp1, nd, fr, f1, f2, f3, f4, f5⟩ := h
  cases hp1 with
  | @cons _ _ f _ _ fp hp1 hp2 =>
    have hfl : fs.length = st.length := hs1.len.2
    obtain ⟨x, hx⟩ : ∃ x, fs[i]? = some x := ⟨_, List.getElem?_eq_getElem (by omega)⟩
    rw [List.flatten_cons] at nd fr
    obtain ⟨nd', sub⟩ := flat_move hx nd
    have sub' : ∀ a, a ∈ (fs.set i f).flatten ++ fp.flatten → a ∈ fs.flatten ++ (f :: fp).flatten := fun a ha => by rw [List.flatten_cons]; exact sub a ha
    have k : Keep (Zf G (fs.flatten ++ (f :: fp).flatten)) (Zf G ((fs.set i f).flatten ++ fp.flatten)) H H := .sub fun a _ z => z.imp id (sub' a)
    refine ⟨fs.set i f, fp, ⟨?_, ?_, nd', fun a ha => fr a (sub a ha), f1, f2, f3, fun s hs2 => (List.mem_or_eq_of_mem_set hs2).elim (f4 s) fun e => by rw [e]; exact hs, fun j hj => by
      obtain ⟨s, e, q⟩ := f5 j (List.mem_cons_of_mem _ hj)
      have hij : i ≠ j := fun e => hp (by rw [e]; exact hj)
      exact ⟨s, by rw [List.getElem?_set_ne hij]; exact e, q⟩⟩⟩
    · have q : All3 (SlotOk K G (Zf G ((fs.set i f).flatten ++ fp.flatten)) H (σ.set i (some v))) σ st fs := by
        refine hs1.impB fun a b c hb q => (q.frame k fun _ _ => rfl).sig fun j e => ?_
        have := f4 b hb
        rw [e] at this; cases this
      exact q.set ((hp1.frame k fun _ _ => rfl).sig fun j e => by rw [e] at hs; cases hs) i
    · refine hp2.impB fun a b c hb q => ?_
      by_cases eb : ∃ j, b = .al j
      · obtain ⟨j, rfl⟩ := eb
        obtain ⟨q1, x, q2, q3⟩ := q
        have hj : i ≠ j := fun e => hp (by rw [e]; exact hb)
        exact ⟨q1, x, q2, by rw [List.getElem?_set_ne hj]; exact q3⟩
      · exact (q.frame k fun _ _ => rfl).sig fun j e => eb ⟨j, e⟩
/-- the top, a new list, is owned by nobody from now on -/
theorem Rep.frzTop {io : Bool} {ds : List D} {v : Option V} (h : Rep K G st σ (.own io ds :: pst) (v :: pσ) H) : Rep K G st σ (.val (.list ds) :: pst) (v :: pσ) H := by
  obtain ⟨fs, fp, h⟩ := h
  obtain ⟨hs1, hp1, nd, fr, f1, f2, f3, f4, f5⟩ := h
  cases hp1 with
  | @cons _ _ f _ _ fp hp1 hp2 =>
    obtain ⟨p, vs, rfl, rfl, e, r, _⟩ := hp1
    have sub : ∀ a, a ∈ fs.flatten ++ fp.flatten → a ∈ fs.flatten ++ ([p] :: fp).flatten := fun a ha => by
      simp only [List.flatten_cons, List.mem_append] at *
      rcases ha with h | h
      · exact .inl h
      · exact .inr (.inr h)
    have k : Keep (Zf G (fs.flatten ++ ([p] :: fp).flatten)) (Zf G (fs.flatten ++ fp.flatten)) H H := .sub fun a _ z => z.imp id (sub a)
    have np : p ∉ fs.flatten ++ fp.flatten := by
      have q : (p :: (fs.flatten ++ fp.flatten)).Nodup := (List.Perm.nodup_iff (show (fs.flatten ++ ([p] :: fp).flatten).Perm (p :: (fs.flatten ++ fp.flatten)) from List.perm_middle)).mp nd
      exact (List.nodup_cons.mp q).1
    refine ⟨fs, [] :: fp, ⟨hs1.imp fun a b c _ q => q.frame k fun _ _ => rfl, .cons ⟨rfl, _, rfl, .lst e (fun z => z.elim (fr p (by simp [List.flatten_cons])).2 np) (RVs.frame k _ _ r)⟩ (hp2.imp fun a b c _ q => q.frame k fun _ _ => rfl), ?_, fun a ha => fr a (sub a ha), f1, f2, f3, f4, fun i hi => f5 i ((List.mem_cons.mp hi).elim (fun e => nomatch e) (List.mem_cons_of_mem _))⟩⟩
    refine nd.sublist (List.Sublist.append (List.Sublist.refl _) ?_)
    rw [List.flatten_cons, List.flatten_cons]
    exact List.sublist_append_right [p] _
theorem Rows.val {Z : Addr → Prop} : ∀ {qs : List Addr} {dss : List (List D)}, Rows Z H qs dss → (∀ q ∈ qs, ¬ Z q) → RVs Z H (qs.map V.ref) (dss.map PyData.list)
  | [], _, h, _ => by cases h; exact .nil
  | q :: qs, _, h, n => by
    cases h with
    | cons h1 h2 =>
      obtain ⟨vs, e, r⟩ := h1
      exact .cons (.lst e (n q (by simp)) r) (Rows.val h2 fun a ha => n a (by simp [ha]))
theorem Rep.frzTop2 {dss : List (List D)} {v : Option V} (h : Rep K G st σ (.own2 dss :: pst) (v :: pσ) H) : Rep K G st σ (.val (.list (dss.map PyData.list)) :: pst) (v :: pσ) H := by
  obtain ⟨fs, fp, h⟩ := h
  obtain ⟨hs1, hp1, nd, fr, f1, f2, f3, f4, f5⟩ := h
  cases hp1 with
  | @cons _ _ f _ _ fp hp1 hp2 =>
    obtain ⟨p, qs, rfl, rfl, e, r⟩ := hp1
    have sub : ∀ a, a ∈ fs.flatten ++ fp.flatten → a ∈ fs.flatten ++ ((p :: qs) :: fp).flatten := fun a ha => by
      simp only [List.flatten_cons, List.mem_append] at *
      rcases ha with h | h
      · exact .inl h
      · exact .inr (.inr h)
    have k : Keep (Zf G (fs.flatten ++ ((p :: qs) :: fp).flatten)) (Zf G (fs.flatten ++ fp.flatten)) H H := .sub fun a _ z => z.imp id (sub a)
    have np : ∀ a ∈ p :: qs, ¬ Zf G (fs.flatten ++ fp.flatten) a := fun a ha z => by
      rcases z with z | z
      · exact (fr a (by simp only [List.flatten_cons, List.mem_append]; exact .inr (.inl ha))).2 z
      · rw [List.flatten_cons] at nd
        obtain ⟨n1, n2, n3⟩ := List.nodup_append.mp nd
        rcases List.mem_append.mp z with z | z
        · exact n3 a z a (List.mem_append_left _ ha) rfl
        · exact (List.nodup_append.mp n2).2.2 a ha a z rfl
    refine ⟨fs, [] :: fp, ⟨hs1.imp fun a b c _ q => q.frame k fun _ _ => rfl, .cons ⟨rfl, _, rfl, .lst e (np p (by simp)) (Rows.val (Rows.frame k (fun _ _ => rfl) r) fun q hq => np q (by simp [hq]))⟩ (hp2.imp fun a b c _ q => q.frame k fun _ _ => rfl), ?_, fun a ha => fr a (sub a ha), f1, f2, f3, f4, fun i hi => f5 i ((List.mem_cons.mp hi).elim (fun e => nomatch e) (List.mem_cons_of_mem _))⟩⟩
    refine nd.sublist (List.Sublist.append (List.Sublist.refl _) ?_)
    rw [List.flatten_cons, List.flatten_cons]
    exact List.sublist_append_right (p :: qs) _

/-! ## looking at the top -/
def dataOf (st : List SV) : SV → Option D
  | .val d => some d
  | .own _ ds => some (.list ds)
  | .own2 dss => some (.list (dss.map PyData.list))
  | .scr ns => some (.list (ns.map PyData.int))
  | .emp => none
  | .exc _ _ _ => none
  | .dct _ _ => none
  | .al i => match st[i]? with
    | some (.val d) => some d
    | some (.own _ ds) => some (.list ds)
    | some (.own2 dss) => some (.list (dss.map PyData.list))
    | _ => none
/-- a tuple (true) or a list (false) of data -/
def itemsOf (st : List SV) (sv : SV) : Option (Bool × List D) := match sv with
  | .val (.list ds) => some (false, ds)
  | .val (.tuple ds) => some (true, ds)
  | .own _ ds => some (false, ds)
  | .al i => match st[i]? with
    | some (.own _ ds) => some (false, ds)
    | some (.val (.list ds)) => some (false, ds)
    | some (.val (.tuple ds)) => some (true, ds)
    | _ => none
  | _ => none
def seqO (t : Bool) (vs : List V) : HO := if t then .tup vs else .lst vs
theorem Rows.dp {Z : Addr → Prop} : ∀ {qs : List Addr} {dss : List (List D)}, Rows Z H qs dss → DpAll K H (qs.map V.ref) (dss.map PyData.list)
  | [], _, h => by cases h; exact .nil
  | q :: qs, _, h => by
    cases h with
    | cons h1 h2 =>
      obtain ⟨vs, e, r⟩ := h1
      exact .cons (.lst (SqL.of e) (RVs.dp _ _ r)) (Rows.dp h2)
theorem dp_ints : ∀ ns : List Int, DpAll K H (ns.map V.int) (ns.map PyData.int)
  | [] => .nil
  | n :: ns => .cons (.int n) (dp_ints ns)
theorem RepF.data {sv : SV} {v : Option V} {f : List Addr} {d : D} (h : RepF K G fs fp st σ pst pσ H) (q : SlotOk K G (Zf G (fs.flatten ++ fp.flatten)) H σ v sv f) (hd : dataOf st sv = some d) : ∃ x, v = some x ∧ Dp K H x d := by
  have base : ∀ {sv : SV} {v : Option V} {f : List Addr} {d : D}, (∀ i, sv ≠ .al i) → SlotOk K G (Zf G (fs.flatten ++ fp.flatten)) H σ v sv f → dataOf st sv = some d → ∃ x, v = some x ∧ Dp K H x d := fun {sv v f d} n q hd => by
    cases sv with
    | al i => exact absurd rfl (n i)
    | emp => cases hd
    | val d' => cases hd; obtain ⟨_, x, e, r⟩ := q; exact ⟨x, e, RV.dp _ _ r⟩
    | own io ds => cases hd; obtain ⟨p, vs, _, e, hp, r, _⟩ := q; exact ⟨_, e, .lst (SqL.of hp) (RVs.dp _ _ r)⟩
    | own2 dss => cases hd; obtain ⟨p, qs, _, e, hp, r⟩ := q; exact ⟨_, e, .lst (SqL.of hp) (Rows.dp r)⟩
    | scr ns => cases hd; obtain ⟨_, a, e, r, _⟩ := q; exact ⟨_, e, .lst r (dp_ints ns)⟩
    | exc x a d => cases hd
    | dct t kvs => cases hd
  by_cases n : ∃ i, sv = .al i
  · obtain ⟨i, rfl⟩ := n
    obtain ⟨_, x, rfl, ex⟩ := q
    have hd : (match st[i]? with | some (.val d) => some d | some (.own _ ds) => some (.list ds) | some (.own2 dss) => some (.list (dss.map PyData.list)) | _ => none) = some d := hd
    cases e : st[i]? with
    | none => rw [e] at hd; cases hd
    | some s =>
      obtain ⟨v', f', e1, _, q'⟩ := h.slots.get e
      rw [ex] at e1
      cases e1
      rw [e] at hd
      cases s with
      | val d' => exact base (by intro _ z; cases z) q' hd
      | own io ds => exact base (by intro _ z; cases z) q' hd
      | own2 dss => exact base (by intro _ z; cases z) q' hd
      | emp => cases hd
      | al j => cases hd
      | scr ns => cases hd
      | exc x a d => cases hd
      | dct t kvs => cases hd
  · exact base (fun i e => n ⟨i, e⟩) q hd
theorem RepF.items {sv : SV} {v : Option V} {f : List Addr} {t : Bool} {ds : List D} (h : RepF K G fs fp st σ pst pσ H) (q : SlotOk K G (Zf G (fs.flatten ++ fp.flatten)) H σ v sv f) (hd : itemsOf st sv = some (t, ds)) :
    ∃ a vs, v = some (.ref a) ∧ H a = some (seqO t vs) ∧ RVs (Zf G (fs.flatten ++ fp.flatten)) H vs ds := by
  have base : ∀ {sv : SV} {v : Option V} {f : List Addr} {t : Bool} {ds : List D}, (∀ i, sv ≠ .al i) → SlotOk K G (Zf G (fs.flatten ++ fp.flatten)) H σ v sv f → itemsOf st sv = some (t, ds) →
      ∃ a vs, v = some (.ref a) ∧ H a = some (seqO t vs) ∧ RVs (Zf G (fs.flatten ++ fp.flatten)) H vs ds := fun {sv v f t ds} n q hd => by
    cases sv with
    | al i => exact absurd rfl (n i)
    | emp => cases hd
    | val d' =>
      obtain ⟨_, x, e, r⟩ := q
      cases d' with
      | list ds' => cases hd; cases r with | lst h1 h2 h3 => exact ⟨_, _, e, h1, h3⟩
      | tuple ds' => cases hd; cases r with | tup h1 h2 h3 => exact ⟨_, _, e, h1, h3⟩
      | none => cases hd
      | bool b => cases hd
      | int i => cases hd
      | str x => cases hd
      | dict k => cases hd
    | own io ds => cases hd; obtain ⟨p, vs, _, e, hp, r, _⟩ := q; exact ⟨_, _, e, hp, r⟩
    | own2 dss => cases hd
    | scr ns => cases hd
    | exc x a d => cases hd
    | dct t kvs => cases hd
  by_cases n : ∃ i, sv = .al i
  · obtain ⟨i, rfl⟩ := n
    obtain ⟨_, x, rfl, ex⟩ := q
    have hd : (match st[i]? with | some (.own _ ds) => some (false, ds) | some (.val (.list ds)) => some (false, ds) | some (.val (.tuple ds)) => some (true, ds) | _ => none) = some (t, ds) := hd
    cases e : st[i]? with
    | none => rw [e] at hd; cases hd
    | some s =>
      obtain ⟨v', f', e1, _, q'⟩ := h.slots.get e
      rw [ex] at e1
      cases e1
      rw [e] at hd
      cases s with
      | val d' => cases d' <;> first | exact base (by intro _ z; cases z) q' hd | cases hd
      | own io ds => exact base (by intro _ z; cases z) q' hd
      | own2 dss => cases hd
      | emp => cases hd
      | al j => cases hd
      | scr ns => cases hd
      | exc x a d => cases hd
      | dct t kvs => cases hd
  · exact base (fun i e => n ⟨i, e⟩) q hd
end
end TK

namespace TK
open PySem PySem.Spec PyProof.Rows L2

/-! ## outcomes -/
inductive Out (α : Type) where
  | ok (a : α) (st : List SV)
  | ex (x : Ex) (st : List SV)
abbrev SM (α : Type) := List SV → Option (Out α)
def Out.bind {α β : Type} (o : Option (Out α)) (k : α → List SV → Option (Out β)) : Option (Out β) := match o with
  | none => none
  | some (.ok a st) => k a st
  | some (.ex x st) => some (.ex x st)
@[simp] theorem Out.bind_ok {α β : Type} (a : α) (st : List SV) (k : α → List SV → Option (Out β)) : Out.bind (some (.ok a st)) k = k a st := rfl
@[simp] theorem Out.bind_ex {α β : Type} (x : Ex) (st : List SV) (k : α → List SV → Option (Out β)) : Out.bind (some (.ex x st)) k = some (.ex x st) := rfl
@[simp] theorem Out.bind_none {α β : Type} (k : α → List SV → Option (Out β)) : Out.bind none k = none := rfl
theorem Out.bind_some {α β : Type} {o : Option (Out α)} {k : α → List SV → Option (Out β)} {r : Out β} (h : Out.bind o k = some r) :
    (∃ a st, o = some (.ok a st) ∧ k a st = some r) ∨ ∃ x st, o = some (.ex x st) ∧ r = .ex x st := by
  cases o with
  | none => cases h
  | some o =>
    cases o with
    | ok a st => exact .inl ⟨a, st, rfl, h⟩
    | ex x st => cases h; exact .inr ⟨x, st, rfl, rfl⟩
def okM {α : Type} (o : Option α) (st : List SV) : Option (Out α) := match o with
  | none => none
  | some a => some (.ok a st)
@[simp] theorem okM_some {α : Type} (a : α) (st : List SV) : okM (some a) st = some (.ok a st) := rfl
@[simp] theorem okM_none {α : Type} (st : List SV) : okM (none : Option α) st = none := rfl

def ExOk (mg : Str → Option Value) (x : Ex) (cls : Value) (d : Option Addr) (H : Hp) : Prop :=
  ∃ C, mg x.name = some (.ref C) ∧ cls = .ref C ∧ match d with
    | none => x.fs = []
    | some dd => ∃ vs, H dd = some (.xd vs) ∧ Paired (fun (q : Str × V) (p : Str × D) => q.1 = p.1 ∧ RV (fun _ => False) H q.2 p.2) vs x.fs

/-! ## judgements -/
section
variable (X : Cx) (W : WX)
def PostX (G : Gh) (σ : Sg) (pst : List SV) (pσ : List (Option V)) (x : Ex) (st' : List SV) : Prop := ∀ cls d H', ExOk X.mg x cls d H' → Rep X.K G st' σ pst pσ H' → W cls d σ H'
def PostE (G : Gh) (σ : Sg) (pst : List SV) (pσ : List (Option V)) (Q : VK) : Out SV → Prop
  | .ok r st' => ∀ v H', Rep X.K G st' σ (r :: pst) (some v :: pσ) H' → Q v H'
  | .ex x st' => PostX X W G σ pst pσ x st'
def PostT (G : Gh) (σ : Sg) (pst : List SV) (pσ : List (Option V)) (Q : Bool → Hp → Prop) : Out Bool → Prop
  | .ok b st' => ∀ H', Rep X.K G st' σ pst pσ H' → Q b H'
  | .ex x st' => PostX X W G σ pst pσ x st'
/-- the stack of arguments: the last on top -/
def PostA (G : Gh) (σ : Sg) (pst : List SV) (pσ : List (Option V)) (Q : List V → Hp → Prop) : Out (List SV) → Prop
  | .ok rs st' => ∀ vs H', vs.length = rs.length → Rep X.K G st' σ (rs.reverse ++ pst) ((vs.map some).reverse ++ pσ) H' → Q vs H'
  | .ex x st' => PostX X W G σ pst pσ x st'
def SE (e : Expr) (f : SM SV) : Prop := ∃ t : TE, PE X e t ∧ ∀ (G : Gh) (st : List SV) (σ : Sg) (pst : List SV) (pσ : List (Option V)) (H : Hp) (Q : VK) (o : Out SV),
  Rep X.K G st σ pst pσ H → f st = some o → PostE X W G σ pst pσ Q o → t σ H Q
def ST (e : Expr) (f : SM Bool) : Prop := ∃ t : TT, PT X e t ∧ ∀ (G : Gh) (st : List SV) (σ : Sg) (pst : List SV) (pσ : List (Option V)) (H : Hp) (Q : Bool → Hp → Prop) (o : Out Bool),
  Rep X.K G st σ pst pσ H → f st = some o → PostT X W G σ pst pσ Q o → t σ H Q
/-- a test within and, or -/
def SWt (e : Expr) (f : SM Bool) : Prop := ∃ t : TT, PW X e t ∧ ∀ (G : Gh) (st : List SV) (σ : Sg) (pst : List SV) (pσ : List (Option V)) (H : Hp) (Q : Bool → Hp → Prop) (o : Out Bool),
  Rep X.K G st σ pst pσ H → f st = some o → PostT X W G σ pst pσ Q o → t σ H Q
def SA (es : List Expr) (f : SM (List SV)) : Prop := ∃ t : TA, PA X es t ∧ ∀ (G : Gh) (st : List SV) (σ : Sg) (pst : List SV) (pσ : List (Option V)) (H : Hp) (Q : List V → Hp → Prop) (o : Out (List SV)),
  Rep X.K G st σ pst pσ H → f st = some o → PostA X W G σ pst pσ Q o → t σ H Q
end

/-! ## the top of the stack -/
section
variable {K : PySem.W.Frag} {G : Gh} {st : List SV} {σ : Sg} {pst : List SV} {pσ : List (Option V)} {H H' : Hp}
theorem Rep.top {r : SV} {v : Option V} (h : Rep K G st σ (r :: pst) (v :: pσ) H) : ∃ fs f fp, RepF K G fs (f :: fp) st σ (r :: pst) (v :: pσ) H ∧ SlotOk K G (Zf G (fs.flatten ++ (f :: fp).flatten)) H σ v r f := by
  obtain ⟨fs, fp, h⟩ := h
  obtain ⟨hs1, hp1, nd, fr, f1, f2, f3, f4, f5⟩ := h
  cases hp1 with
  | @cons _ _ f _ _ fp hp1 hp2 => exact ⟨fs, f, fp, ⟨hs1, .cons hp1 hp2, nd, fr, f1, f2, f3, f4, f5⟩, hp1⟩
theorem Rep.top2 {r r2 : SV} {v v2 : Option V} (h : Rep K G st σ (r2 :: r :: pst) (v2 :: v :: pσ) H) : ∃ fs f2 f fp, RepF K G fs (f2 :: f :: fp) st σ (r2 :: r :: pst) (v2 :: v :: pσ) H ∧
    SlotOk K G (Zf G (fs.flatten ++ (f2 :: f :: fp).flatten)) H σ v r f ∧ SlotOk K G (Zf G (fs.flatten ++ (f2 :: f :: fp).flatten)) H σ v2 r2 f2 := by
  obtain ⟨fs, fp, h⟩ := h
  obtain ⟨hs1, hp1, nd, fr, f1, f2, f3, f4, f5⟩ := h
  cases hp1 with
  | @cons _ _ f _ _ fp hp1 hp2 =>
    cases hp2 with
    | @cons _ _ g _ _ fp hp2 hp3 => exact ⟨fs, f, g, fp, ⟨hs1, .cons hp1 (.cons hp2 hp3), nd, fr, f1, f2, f3, f4, f5⟩, hp2, hp1⟩
theorem Rep.ofF {fs fp : List (List Addr)} (h : RepF K G fs fp st σ pst pσ H) : Rep K G st σ pst pσ H := ⟨fs, fp, h⟩
/-- a new list over two operands -/
theorem Rep.fin2 {r r2 a : SV} {v v2 x : Option V} (h : Rep K G st σ (a :: r2 :: r :: pst) (x :: v2 :: v :: pσ) H) : Rep K G st σ (a :: pst) (x :: pσ) H := h.under.under
end

/-! ## names, constants -/
section
variable {X : Cx} {W : WX}
def varS (i : Nat) : SM SV := fun st => match st[i]? with
  | some (.val d) => some (.ok (.val d) st)
  | some (.own _ _) => some (.ok (.al i) st)
  | some (.own2 _) => some (.ok (.al i) st)
  | some (.dct _ _) => some (.ok (.al i) st)
  | some (.scr ns) => some (.ok (.scr ns) st)
  | _ => none
theorem se_var {e : Expr} {i : Nat} (h : PE X e (tVar i)) : SE X W e (varS i) := by
  refine ⟨_, h, fun G st σ pst pσ H Q o R hf post => ?_⟩
  obtain ⟨fs, fp, F⟩ := id R
  unfold varS at hf
  cases e : st[i]? with
  | none => rw [e] at hf; cases hf
  | some sv =>
    obtain ⟨v, f, e1, e2, q⟩ := F.slots.get e
    rw [e] at hf
    cases sv with
    | emp => cases hf
    | al j => cases hf
    | val d =>
      cases hf
      obtain ⟨_, x, rfl, r⟩ := q
      exact ⟨x, e1, post x H ⟨fs, _, F.pushv r⟩⟩
    | own io ds =>
      cases hf
      obtain ⟨p, vs, _, rfl, _⟩ := q
      exact ⟨_, e1, post _ H ⟨fs, [] :: fp, ⟨F.slots, .cons ⟨rfl, _, rfl, e1⟩ F.pend, F.nd, F.fresh, F.frame, F.there, F.zxt, F.na, fun j hj => (List.mem_cons.mp hj).elim (fun q => by cases q; exact ⟨_, e, rfl⟩) (F.alk j)⟩⟩⟩
    | own2 dss =>
      cases hf
      obtain ⟨p, vs, _, rfl, _⟩ := q
      exact ⟨_, e1, post _ H ⟨fs, [] :: fp, ⟨F.slots, .cons ⟨rfl, _, rfl, e1⟩ F.pend, F.nd, F.fresh, F.frame, F.there, F.zxt, F.na, fun j hj => (List.mem_cons.mp hj).elim (fun q => by cases q; exact ⟨_, e, rfl⟩) (F.alk j)⟩⟩⟩
    | exc x a d => cases hf
    | dct t kvs =>
      cases hf
      obtain ⟨p, vs, _, rfl, _⟩ := q
      exact ⟨_, e1, post _ H ⟨fs, [] :: fp, ⟨F.slots, .cons ⟨rfl, _, rfl, e1⟩ F.pend, F.nd, F.fresh, F.frame, F.there, F.zxt, F.na, fun j hj => (List.mem_cons.mp hj).elim (fun q => by cases q; exact ⟨_, e, rfl⟩) (F.alk j)⟩⟩⟩
    | scr ns =>
      cases hf
      obtain ⟨_, a, rfl, r⟩ := q
      exact ⟨_, e1, post _ H ⟨fs, [] :: fp, ⟨F.slots, .cons ⟨rfl, a, rfl, r⟩ F.pend, F.nd, F.fresh, F.frame, F.there, F.zxt, F.na, fun j hj => (List.mem_cons.mp hj).elim (fun q => by cases q) (F.alk j)⟩⟩⟩
/-- a constant value -/
def conS (d : D) : SM SV := fun st => some (.ok (.val d) st)
theorem se_int {i j pos} : SE X W (.Constant (.int i) j pos) (conS (.int i)) :=
  ⟨_, pe_int, fun G st σ pst pσ H Q o R hf post => by cases hf; exact post _ H (R.pushI i)⟩
theorem se_bl {i j pos} : SE X W (.Constant (.bool i) j pos) (conS (.bool i)) :=
  ⟨_, pe_bl, fun G st σ pst pσ H Q o R hf post => by cases hf; exact post _ H (R.pushB i)⟩
theorem se_non {j pos} : SE X W (.Constant .none j pos) (conS .none) :=
  ⟨_, pe_non, fun G st σ pst pσ H Q o R hf post => by cases hf; exact post _ H R.pushN⟩
theorem se_str {x j pos} : SE X W (.Constant (.str x) j pos) (conS (.str x)) :=
  ⟨_, pe_str, fun G st σ pst pσ H Q o R hf post => by cases hf; exact post _ H (R.pushS x)⟩
/-- a module's text -/
theorem se_gstr {x : Str} {z : Str} {t : Tok} {pos : Pos} (hg : Gl X x) (hm : X.mg x = some (.str z t)) (hd : (x == ("__debug__" : Str)) = false := by decide) : SE X W (.Name x pos) (conS (.str z)) :=
  ⟨_, pe_glob (v := .str z) hg hm ⟨_, rfl⟩ hd, fun G st σ pst pσ H Q o R hf post => by cases hf; exact post _ H (R.pushS z)⟩

/-! ## two operands -/
abbrev G2 := List SV → SV → SV → Option SV
def OpS (K : PySem.W.Frag) (r : R2) (g : G2) : Prop := ∀ (G : Gh) (st : List SV) (σ : Sg) (pst : List SV) (pσ : List (Option V)) (H : Hp) (r1 r2 : SV) (x y : V) (Q : VK) (res : SV),
  Rep K G st σ (r2 :: r1 :: pst) (some y :: some x :: pσ) H → g st r1 r2 = some res → (∀ v H', Rep K G st σ (res :: pst) (some v :: pσ) H' → Q v H') → r x y H Q
def binS (g : G2) (f1 f2 : SM SV) : SM SV := fun st => Out.bind (f1 st) fun r1 st1 => Out.bind (f2 st1) fun r2 st2 => okM (g st2 r1 r2) st2
theorem se_bin {r : R2} {g : G2} {a b e : Expr} {f1 f2 : SM SV} (mk : ∀ ta tb, PE X a ta → PE X b tb → PE X e (tOp r ta tb)) (hs : OpS X.K r g) (ha : SE X W a f1) (hb : SE X W b f2) : SE X W e (binS g f1 f2) := by
  obtain ⟨ta, pa, sa⟩ := ha
  obtain ⟨tb, pb, sb⟩ := hb
  refine ⟨_, mk ta tb pa pb, fun G st σ pst pσ H Q o R hf post => ?_⟩
  unfold binS at hf
  rcases Out.bind_some hf with ⟨r1, st1, h1, hf⟩ | ⟨x, st1, h1, rfl⟩
  · refine sa G st σ pst pσ H _ _ R h1 fun v H1 R1 => ?_
    rcases Out.bind_some hf with ⟨r2, st2, h2, hf⟩ | ⟨x, st2, h2, rfl⟩
    · refine sb G st1 σ _ _ H1 _ _ R1 h2 fun v2 H2 R2 => ?_
      cases e : g st2 r1 r2 with
      | none => rw [e] at hf; cases hf
      | some res =>
        rw [e] at hf
        cases hf
        exact hs G st2 σ pst pσ H2 r1 r2 v v2 Q res R2 e post
    · exact sb G st1 σ _ _ H1 _ _ R1 h2 fun cls d H' ex R' => post cls d H' ex R'.pop
  · exact sa G st σ pst pσ H _ _ R h1 post
variable {a b : Expr} {f1 f2 : SM SV} {pos : Pos}
theorem se_op {op : Operator} {r : R2} {g : G2} (ho : OpR X (binaryOp op) r) (hs : OpS X.K r g) (ha : SE X W a f1) (hb : SE X W b f2) : SE X W (.BinOp a op b pos) (binS g f1 f2) :=
  se_bin (fun _ _ pa pb => pe_op ho pa pb) hs ha hb
theorem se_cmp {op : CmpOp} {r : R2} {g : G2} (ho : OpR X (compareOp op) r) (hs : OpS X.K r g) (ha : SE X W a f1) (hb : SE X W b f2) (hm : behindInMarks op b = false) : SE X W (.Compare a [op] [b] pos) (binS g f1 f2) :=
  se_bin (fun _ _ pa pb => pe_cmpR ho pa pb hm) hs ha hb
/-- .. as a test -/
def asB (o : Option SV) : Option Bool := match o with
  | some (.val (.bool b)) => some b
  | _ => none
@[simp] theorem asB_some (b : Bool) : asB (some (.val (.bool b))) = some b := rfl
def binT (g : G2) (f1 f2 : SM SV) : SM Bool := fun st => Out.bind (f1 st) fun r1 st1 => Out.bind (f2 st1) fun r2 st2 => okM (asB (g st2 r1 r2)) st2
theorem Rep.isB {K : PySem.W.Frag} {G : Gh} {st : List SV} {σ : Sg} {pst : List SV} {pσ : List (Option V)} {H : Hp} {b : Bool} {v : V} (h : Rep K G st σ (.val (.bool b) :: pst) (some v :: pσ) H) : v = .bl b := by
  obtain ⟨fs, f, fp, F, q⟩ := h.top
  obtain ⟨_, x, e, r⟩ := q
  cases e; cases r; rfl
theorem st_cmp {op : CmpOp} {r : R2} {g : G2} (ho : OpR X (compareOp op) r) (hs : OpS X.K r g) (ha : SE X W a f1) (hb : SE X W b f2) (hm : behindInMarks op b = false) : ST X W (.Compare a [op] [b] pos) (binT g f1 f2) := by
  obtain ⟨ta, pa, sa⟩ := ha
  obtain ⟨tb, pb, sb⟩ := hb
  refine ⟨_, pt_cmpR ho pa pb hm, fun G st σ pst pσ H Q o R hf post => ?_⟩
  unfold binT at hf
  rcases Out.bind_some hf with ⟨r1, st1, h1, hf⟩ | ⟨x, st1, h1, rfl⟩
  · refine sa G st σ pst pσ H _ _ R h1 fun v H1 R1 => ?_
    rcases Out.bind_some hf with ⟨r2, st2, h2, hf⟩ | ⟨x, st2, h2, rfl⟩
    · refine sb G st1 σ _ _ H1 _ _ R1 h2 fun v2 H2 R2 => ?_
      cases e : g st2 r1 r2 with
      | none => rw [e] at hf; cases hf
      | some res =>
        rw [e] at hf
        cases eb : asB (some res) with
        | none => rw [eb] at hf; cases hf
        | some k =>
          rw [eb] at hf
          cases hf
          have er : res = .val (.bool k) := by
            unfold asB at eb
            split at eb
            · rename_i z; cases eb; cases z; rfl
            · cases eb
          subst er
          exact hs G st2 σ pst pσ H2 r1 r2 v v2 _ _ R2 e fun w H' R' => ⟨k, R'.isB, post H' R'.pop⟩
    · exact sb G st1 σ _ _ H1 _ _ R1 h2 fun cls d H' ex R' => post cls d H' ex R'.pop
  · exact sa G st σ pst pσ H _ _ R h1 post
/-- a value that is a bool, as a test -/
def boolT (f : SM SV) : SM Bool := fun st => Out.bind (f st) fun r st1 => okM (asB (some r)) st1
theorem asB_eq {r : SV} {k : Bool} (h : asB (some r) = some k) : r = .val (.bool k) := by
  unfold asB at h
  split at h
  · rename_i z; cases h; cases z; rfl
  · cases h
theorem st_val {e : Expr} {f : SM SV} (h : SE X W e f) (he : ∀ whole, isTrue e X.env whole = (do let v ← whole; standAt e.pos; holding [v] (truthy v)) := by intro _; rfl) : ST X W e (boolT f) := by
  obtain ⟨t, p, s⟩ := h
  refine ⟨_, pt_val p he, fun G st σ pst pσ H Q o R hf post => ?_⟩
  unfold boolT at hf
  rcases Out.bind_some hf with ⟨r1, st1, h1, hf⟩ | ⟨x, st1, h1, rfl⟩
  · refine s G st σ pst pσ H _ _ R h1 fun v H1 R1 => ?_
    cases eb : asB (some r1) with
    | none => rw [eb] at hf; cases hf
    | some k =>
      rw [eb] at hf
      cases hf
      have er := asB_eq eb
      subst er
      exact ⟨k, R1.isB, post H1 R1.pop⟩
  · exact s G st σ pst pσ H _ _ R h1 post

/-! ## tests -/
def notT (f : SM Bool) : SM Bool := fun st => Out.bind (f st) fun b st1 => some (.ok (!b) st1)
theorem st_not {f : SM Bool} (h : ST X W a f) : ST X W (.UnaryOp .Not a pos) (notT f) := by
  obtain ⟨t, p, s⟩ := h
  refine ⟨_, pt_not p, fun G st σ pst pσ H Q o R hf post => ?_⟩
  unfold notT at hf
  rcases Out.bind_some hf with ⟨r1, st1, h1, hf⟩ | ⟨x, st1, h1, rfl⟩
  · cases hf; exact s G st σ pst pσ H _ _ R h1 fun H1 R1 => post H1 R1
  · exact s G st σ pst pσ H _ _ R h1 post
def andT (f g : SM Bool) : SM Bool := fun st => Out.bind (f st) fun b st1 => if b then g st1 else some (.ok false st1)
def orT (f g : SM Bool) : SM Bool := fun st => Out.bind (f st) fun b st1 => if b then some (.ok true st1) else g st1
theorem sw_st {e : Expr} {f : SM Bool} (h : SWt X W e f) : ST X W e f := by
  obtain ⟨t, p, s⟩ := h
  exact ⟨t, p.pt, s⟩
theorem sw_and1 {f : SM Bool} (h : ST X W a f) : SWt X W (.BoolOp .And [a] pos) f := by
  obtain ⟨t, p, s⟩ := h
  exact ⟨t, pw_and1 p, s⟩
theorem sw_or1 {f : SM Bool} (h : ST X W a f) : SWt X W (.BoolOp .Or [a] pos) f := by
  obtain ⟨t, p, s⟩ := h
  exact ⟨t, pw_or1 p, s⟩
theorem sw_and {rest : List Expr} {f g : SM Bool} (h : ST X W a f) (h2 : SWt X W (.BoolOp .And (b :: rest) pos) g) : SWt X W (.BoolOp .And (a :: b :: rest) pos) (andT f g) := by
  obtain ⟨t, p, s⟩ := h
  obtain ⟨t2, p2, s2⟩ := h2
  refine ⟨_, pw_and p p2, fun G st σ pst pσ H Q o R hf post => ?_⟩
  unfold andT at hf
  rcases Out.bind_some hf with ⟨r1, st1, h1, hf⟩ | ⟨x, st1, h1, rfl⟩
  · refine s G st σ pst pσ H _ _ R h1 fun H1 R1 => ?_
    cases r1 with
    | true => rw [if_pos rfl]; exact s2 G st1 σ pst pσ H1 Q o R1 hf post
    | false => cases hf; exact iteF (post H1 R1)
  · exact s G st σ pst pσ H _ _ R h1 post
theorem sw_or {rest : List Expr} {f g : SM Bool} (h : ST X W a f) (h2 : SWt X W (.BoolOp .Or (b :: rest) pos) g) : SWt X W (.BoolOp .Or (a :: b :: rest) pos) (orT f g) := by
  obtain ⟨t, p, s⟩ := h
  obtain ⟨t2, p2, s2⟩ := h2
  refine ⟨_, pw_or p p2, fun G st σ pst pσ H Q o R hf post => ?_⟩
  unfold orT at hf
  rcases Out.bind_some hf with ⟨r1, st1, h1, hf⟩ | ⟨x, st1, h1, rfl⟩
  · refine s G st σ pst pσ H _ _ R h1 fun H1 R1 => ?_
    cases r1 with
    | true => cases hf; exact iteT (post H1 R1)
    | false => exact iteF (s2 G st1 σ pst pσ H1 Q o R1 hf post)
  · exact s G st σ pst pσ H _ _ R h1 post
/-- a chain a < b < c of comparisons, as a test -/
def chainT (g g' : G2) (f1 f2 f3 : SM SV) : SM Bool := fun st => Out.bind (f1 st) fun r1 st1 => Out.bind (f2 st1) fun r2 st2 =>
  match asB (g st2 r1 r2) with
  | none => none
  | some false => some (.ok false st2)
  | some true => Out.bind (f3 st2) fun r3 st3 => okM (asB (g' st3 r2 r3)) st3
theorem Rep.swap {K : PySem.W.Frag} {G : Gh} {st : List SV} {σ : Sg} {pst : List SV} {pσ : List (Option V)} {H : Hp} {r1 r2 : SV} {v1 v2 : Option V} (h : Rep K G st σ (r2 :: r1 :: pst) (v2 :: v1 :: pσ) H) : Rep K G st σ (r1 :: r2 :: pst) (v1 :: v2 :: pσ) H := by
  obtain ⟨fs, fp, h⟩ := h
  obtain ⟨hs1, hp1, nd, fr, q1, q2, q3, q4, q5⟩ := h
  cases hp1 with
  | @cons _ _ f2 _ _ fp hp1 hp2 =>
    cases hp2 with
    | @cons _ _ f1 _ _ fp hp2 hp3 =>
      have pm : (fs.flatten ++ (f2 :: f1 :: fp).flatten).Perm (fs.flatten ++ (f1 :: f2 :: fp).flatten) := by
        refine List.Perm.append_left _ ?_
        simp only [List.flatten_cons]
        rw [← List.append_assoc, ← List.append_assoc]
        exact List.Perm.append_right _ List.perm_append_comm
      have k : Keep (Zf G (fs.flatten ++ (f2 :: f1 :: fp).flatten)) (Zf G (fs.flatten ++ (f1 :: f2 :: fp).flatten)) H H := .sub fun a _ z => z.imp id fun m => pm.mem_iff.mpr m
      exact ⟨fs, f1 :: f2 :: fp, ⟨hs1.imp fun a b c _ q => q.frame k fun _ _ => rfl, .cons (hp2.frame k fun _ _ => rfl) (.cons (hp1.frame k fun _ _ => rfl) (hp3.imp fun a b c _ q => q.frame k fun _ _ => rfl)), (List.Perm.nodup_iff pm).mp nd,
        fun a ha => fr a (pm.mem_iff.mpr ha), q1, q2, q3, q4, fun i hi => q5 i (by simp only [List.mem_cons] at hi ⊢; rcases hi with h | h | h <;> simp [h])⟩⟩
/-- an operation that leaves its operands on the stack -/
def OpT (K : PySem.W.Frag) (r : R2) (g : G2) : Prop := ∀ (G : Gh) (st : List SV) (σ : Sg) (pst : List SV) (pσ : List (Option V)) (H : Hp) (r1 r2 : SV) (x y : V) (Q : VK) (k : Bool),
  Rep K G st σ (r2 :: r1 :: pst) (some y :: some x :: pσ) H → g st r1 r2 = some (.val (.bool k)) → Q (.bl k) H → r x y H Q
theorem st_chain {op op' : CmpOp} {r r' : R2} {g g' : G2} {c : Expr} {f3 : SM SV} (ho : OpR X (compareOp op) r) (ho' : OpR X (compareOp op') r') (hs : OpT X.K r g) (hs' : OpT X.K r' g') (ha : SE X W a f1) (hb : SE X W b f2) (hc : SE X W c f3)
    (hm : lastMarks [op, op'] [b, c] = false := by with_unfolding_all rfl) : ST X W (.Compare a [op, op'] [b, c] pos) (chainT g g' f1 f2 f3) := by
  obtain ⟨ta, pa, sa⟩ := ha
  obtain ⟨tb, pb, sb⟩ := hb
  obtain ⟨tc, pc, sc⟩ := hc
  refine ⟨_, pt_chain ho ho' pa pb pc hm, fun G st σ pst pσ H Q o R hf post => ?_⟩
  unfold chainT at hf
  rcases Out.bind_some hf with ⟨r1, st1, h1, hf⟩ | ⟨x, st1, h1, rfl⟩
  · refine sa G st σ pst pσ H _ _ R h1 fun v H1 R1 => ?_
    rcases Out.bind_some hf with ⟨r2, st2, h2, hf⟩ | ⟨x, st2, h2, rfl⟩
    · refine sb G st1 σ _ _ H1 _ _ R1 h2 fun v2 H2 R2 => ?_
      cases eg : g st2 r1 r2 with
      | none => rw [eg] at hf; cases hf
      | some rg =>
        rw [eg] at hf
        cases eb : asB (some rg) with
        | none => rw [eb] at hf; cases hf
        | some k =>
          rw [eb] at hf
          have er := asB_eq eb
          subst er
          refine hs G st2 σ pst pσ H2 r1 r2 v v2 _ k R2 eg ⟨k, rfl, ?_⟩
          cases k with
          | false => cases hf; exact iteF ⟨false, rfl, post H2 R2.pop.pop⟩
          | true =>
            refine iteT ?_
            rcases Out.bind_some hf with ⟨r3, st3, h3, hf⟩ | ⟨x, st3, h3, rfl⟩
            · refine sc G st2 σ _ _ H2 _ _ R2 h3 fun v3 H3 R3 => ?_
              cases eg' : g' st3 r2 r3 with
              | none => rw [eg'] at hf; cases hf
              | some rg' =>
                rw [eg'] at hf
                cases eb' : asB (some rg') with
                | none => rw [eb'] at hf; cases hf
                | some k' =>
                  rw [eb'] at hf
                  cases hf
                  have er := asB_eq eb'
                  subst er
                  exact hs' G st3 σ _ _ H3 r2 r3 v2 v3 _ k' R3 eg' ⟨k', rfl, post H3 R3.pop.pop.pop⟩
            · exact sc G st2 σ _ _ H2 _ _ R2 h3 fun cls d H' ex R' => post cls d H' ex R'.pop.pop
    · exact sb G st1 σ _ _ H1 _ _ R1 h2 fun cls d H' ex R' => post cls d H' ex R'.pop
  · exact sa G st σ pst pσ H _ _ R h1 post

/-! ## tests as values -/
def valS (f : SM Bool) : SM SV := fun st => Out.bind (f st) fun b st1 => some (.ok (.val (.bool b)) st1)
def notS (f : SM SV) : SM SV := fun st => Out.bind (f st) fun r st1 => match asB (some r) with
  | some b => some (.ok (.val (.bool (!b))) st1)
  | none => none
theorem se_not {f : SM SV} (h : SE X W a f) : SE X W (.UnaryOp .Not a pos) (notS f) := by
  obtain ⟨t, p, s⟩ := h
  refine ⟨_, pe_not p, fun G st σ pst pσ H Q o R hf post => ?_⟩
  unfold notS at hf
  rcases Out.bind_some hf with ⟨r1, st1, h1, hf⟩ | ⟨x, st1, h1, rfl⟩
  · refine s G st σ pst pσ H _ _ R h1 fun v H1 R1 => ?_
    cases eb : asB (some r1) with
    | none => rw [eb] at hf; cases hf
    | some k =>
      rw [eb] at hf
      cases hf
      have er := asB_eq eb
      subst er
      exact ⟨k, R1.isB, post _ H1 (R1.pop.pushB _)⟩
  · exact s G st σ pst pσ H _ _ R h1 post
def andS (f g : SM SV) : SM SV := fun st => Out.bind (f st) fun r st1 => match asB (some r) with
  | some true => g st1
  | some false => some (.ok (.val (.bool false)) st1)
  | none => none
def orS (f g : SM SV) : SM SV := fun st => Out.bind (f st) fun r st1 => match asB (some r) with
  | some false => g st1
  | some true => some (.ok (.val (.bool true)) st1)
  | none => none
theorem se_one {op} {f : SM SV} (h : SE X W a f) : SE X W (.BoolOp op [a] pos) f := by
  obtain ⟨t, p, s⟩ := h
  exact ⟨t, pe_one p, s⟩
theorem se_and {rest : List Expr} {f g : SM SV} (h : SE X W a f) (h2 : SE X W (.BoolOp .And (b :: rest) pos) g) : SE X W (.BoolOp .And (a :: b :: rest) pos) (andS f g) := by
  obtain ⟨t, p, s⟩ := h
  obtain ⟨t2, p2, s2⟩ := h2
  refine ⟨_, pe_and p p2, fun G st σ pst pσ H Q o R hf post => ?_⟩
  unfold andS at hf
  rcases Out.bind_some hf with ⟨r1, st1, h1, hf⟩ | ⟨x, st1, h1, rfl⟩
  · refine s G st σ pst pσ H _ _ R h1 fun v H1 R1 => ?_
    cases eb : asB (some r1) with
    | none => rw [eb] at hf; cases hf
    | some k =>
      rw [eb] at hf
      have er := asB_eq eb
      subst er
      refine ⟨k, R1.isB, ?_⟩
      cases k with
      | true => exact iteT (s2 G st1 σ pst pσ H1 Q o R1.pop hf post)
      | false => cases hf; exact iteF (post _ H1 (R1.pop.pushB _))
  · exact s G st σ pst pσ H _ _ R h1 post
theorem se_or {rest : List Expr} {f g : SM SV} (h : SE X W a f) (h2 : SE X W (.BoolOp .Or (b :: rest) pos) g) : SE X W (.BoolOp .Or (a :: b :: rest) pos) (orS f g) := by
  obtain ⟨t, p, s⟩ := h
  obtain ⟨t2, p2, s2⟩ := h2
  refine ⟨_, pe_or p p2, fun G st σ pst pσ H Q o R hf post => ?_⟩
  unfold orS at hf
  rcases Out.bind_some hf with ⟨r1, st1, h1, hf⟩ | ⟨x, st1, h1, rfl⟩
  · refine s G st σ pst pσ H _ _ R h1 fun v H1 R1 => ?_
    cases eb : asB (some r1) with
    | none => rw [eb] at hf; cases hf
    | some k =>
      rw [eb] at hf
      have er := asB_eq eb
      subst er
      refine ⟨k, R1.isB, ?_⟩
      cases k with
      | true => cases hf; exact iteT (post _ H1 (R1.pop.pushB _))
      | false => exact iteF (s2 G st1 σ pst pσ H1 Q o R1.pop hf post)
  · exact s G st σ pst pσ H _ _ R h1 post
def ifS (c : SM Bool) (f g : SM SV) : SM SV := fun st => Out.bind (c st) fun b st1 => if b then f st1 else g st1
theorem se_if {c : Expr} {fc : SM Bool} {f g : SM SV} (hc : ST X W c fc) (ha : SE X W a f) (hb : SE X W b g) : SE X W (.IfExp c a b pos) (ifS fc f g) := by
  obtain ⟨t, p, s⟩ := hc
  obtain ⟨t1, p1, s1⟩ := ha
  obtain ⟨t2, p2, s2⟩ := hb
  refine ⟨_, pe_ifExp p p1 p2, fun G st σ pst pσ H Q o R hf post => ?_⟩
  unfold ifS at hf
  rcases Out.bind_some hf with ⟨r1, st1, h1, hf⟩ | ⟨x, st1, h1, rfl⟩
  · refine s G st σ pst pσ H _ _ R h1 fun H1 R1 => ?_
    cases r1 with
    | true => exact iteT (s1 G st1 σ pst pσ H1 Q o R1 hf post)
    | false => exact iteF (s2 G st1 σ pst pσ H1 Q o R1 hf post)
  · exact s G st σ pst pσ H _ _ R h1 post
end
end TK

namespace TK
open PySem PySem.Spec PyProof.Rows L2

/-! ## scalars at the top -/
section
variable {K : PySem.W.Frag} {G : Gh} {st : List SV} {σ : Sg} {pst : List SV} {pσ : List (Option V)} {H H' : Hp}
theorem Rep.isI {i : Int} {v : V} (h : Rep K G st σ (.val (.int i) :: pst) (some v :: pσ) H) : v = .int i := by
  obtain ⟨fs, f, fp, F, q⟩ := h.top
  obtain ⟨_, x, e, r⟩ := q
  cases e; cases r; rfl
theorem Rep.isS {i : Str} {v : V} (h : Rep K G st σ (.val (.str i) :: pst) (some v :: pσ) H) : v = .str i := by
  obtain ⟨fs, f, fp, F, q⟩ := h.top
  obtain ⟨_, x, e, r⟩ := q
  cases e; cases r; rfl
theorem Rep.isN {v : V} (h : Rep K G st σ (.val .none :: pst) (some v :: pσ) H) : v = .non := by
  obtain ⟨fs, f, fp, F, q⟩ := h.top
  obtain ⟨_, x, e, r⟩ := q
  cases e; cases r; rfl
end

/-! ## ints -/
def iiS (c : Int → Int → Bool) (h : Int → Int → D) : G2 := fun _ r1 r2 => match r1, r2 with
  | .val (.int i), .val (.int j) => if c i j then some (.val (h i j)) else none
  | _, _ => none
@[simp] theorem iiS_int (c : Int → Int → Bool) (h : Int → Int → D) (st : List SV) (i j : Int) : iiS c h st (.val (.int i)) (.val (.int j)) = if c i j then some (.val (h i j)) else none := rfl
theorem iiS_some {c : Int → Int → Bool} {h : Int → Int → D} {st : List SV} {r1 r2 res : SV} (e : iiS c h st r1 r2 = some res) : ∃ i j, r1 = .val (.int i) ∧ r2 = .val (.int j) ∧ c i j = true ∧ res = .val (h i j) := by
  unfold iiS at e
  split at e
  · rename_i i j
    by_cases q : c i j = true
    · rw [if_pos q] at e; cases e; exact ⟨i, j, rfl, rfl, q, rfl⟩
    · rw [if_neg q] at e; cases e
  · cases e
section
variable {K : PySem.W.Frag}
theorem ops_int {c : Int → Int → Bool} {g : Int → Int → Int} {r : R2} (hr : ∀ i j H Q, c i j = true → Q (.int (g i j)) H → r (.int i) (.int j) H Q) : OpS K r (iiS c fun i j => .int (g i j)) := by
  intro G st σ pst pσ H r1 r2 x y Q res R e post
  obtain ⟨i, j, rfl, rfl, q, rfl⟩ := iiS_some e
  have ey := R.isI
  have ex := R.pop.isI
  subst ex ey
  exact hr i j H Q q (post _ H (R.pop.pop.pushI _))
theorem ops_intB {c : Int → Int → Bool} {g : Int → Int → Bool} {r : R2} (hr : ∀ i j H Q, c i j = true → Q (.bl (g i j)) H → r (.int i) (.int j) H Q) : OpS K r (iiS c fun i j => .bool (g i j)) := by
  intro G st σ pst pσ H r1 r2 x y Q res R e post
  obtain ⟨i, j, rfl, rfl, q, rfl⟩ := iiS_some e
  have ey := R.isI
  have ex := R.pop.isI
  subst ex ey
  exact hr i j H Q q (post _ H (R.pop.pop.pushB _))
theorem opt_intB {c : Int → Int → Bool} {g : Int → Int → Bool} {r : R2} (hr : ∀ i j H Q, c i j = true → Q (.bl (g i j)) H → r (.int i) (.int j) H Q) : OpT K r (iiS c fun i j => .bool (g i j)) := by
  intro G st σ pst pσ H r1 r2 x y Q k R e post
  obtain ⟨i, j, rfl, rfl, q, er⟩ := iiS_some e
  have ey := R.isI
  have ex := R.pop.isI
  subst ex ey
  cases er
  exact hr i j H Q q post
end
def yes2 : Int → Int → Bool := fun _ _ => true
@[simp] theorem yes2_ (i j : Int) : yes2 i j = true := rfl
def subS : G2 := iiS yes2 fun i j => .int (i - j)
def divS : G2 := iiS (fun _ j => decide (0 < j) && decide (j.natAbs.log2 < 9000)) fun i j => .int (i / j)
def modS : G2 := iiS (fun _ j => decide (0 < j)) fun i j => .int (i % j)
def powS : G2 := iiS (fun i j => decide (0 ≤ j) && decide (j ≤ 1000000) && decide (i.natAbs < 2 ^ 64)) fun i j => .int (i ^ j.toNat)
def ltS : G2 := iiS yes2 fun i j => .bool (decide (i < j))
def leS : G2 := iiS yes2 fun i j => .bool (decide (i ≤ j))
def gtS : G2 := iiS yes2 fun i j => .bool (decide (j < i))
def geS : G2 := iiS yes2 fun i j => .bool (decide (j ≤ i))
section
variable {X : Cx} {W : WX} {a b : Expr} {f1 f2 : SM SV} {pos : Pos}
theorem se_sub (ha : SE X W a f1) (hb : SE X W b f2) : SE X W (.BinOp a .Sub b pos) (binS subS f1 f2) := se_op op_sub (ops_int fun i j H Q _ q => ⟨i, j, rfl, rfl, q⟩) ha hb
theorem se_fdiv (ha : SE X W a f1) (hb : SE X W b f2) : SE X W (.BinOp a .FloorDiv b pos) (binS divS f1 f2) :=
  se_op op_fdivW (ops_int fun i j H Q c q => ⟨i, j, rfl, rfl, by rw [Bool.and_eq_true, decide_eq_true_eq, decide_eq_true_eq] at c; exact c, q⟩) ha hb
theorem se_mod (ha : SE X W a f1) (hb : SE X W b f2) : SE X W (.BinOp a .Mod b pos) (binS modS f1 f2) := se_op op_mod (ops_int fun i j H Q c q => ⟨i, j, rfl, rfl, of_decide_eq_true c, q⟩) ha hb
theorem se_pow (ha : SE X W a f1) (hb : SE X W b f2) : SE X W (.BinOp a .Pow b pos) (binS powS f1 f2) :=
  se_op op_pow (ops_int fun i j H Q c q => ⟨i, j, rfl, rfl, by simp only [Bool.and_eq_true, decide_eq_true_eq] at c; exact ⟨c.1.1, c.1.2, c.2⟩, q⟩) ha hb
theorem se_lt (ha : SE X W a f1) (hb : SE X W b f2) : SE X W (.Compare a [.Lt] [b] pos) (binS ltS f1 f2) := se_cmp op_lt (ops_intB fun i j H Q _ q => ⟨i, j, rfl, rfl, q⟩) ha hb (nomark _)
theorem se_le (ha : SE X W a f1) (hb : SE X W b f2) : SE X W (.Compare a [.LtE] [b] pos) (binS leS f1 f2) := se_cmp op_le (ops_intB fun i j H Q _ q => ⟨i, j, rfl, rfl, q⟩) ha hb (nomark _)
theorem se_gt (ha : SE X W a f1) (hb : SE X W b f2) : SE X W (.Compare a [.Gt] [b] pos) (binS gtS f1 f2) := se_cmp op_gt (ops_intB fun i j H Q _ q => ⟨i, j, rfl, rfl, q⟩) ha hb (nomark _)
theorem se_ge (ha : SE X W a f1) (hb : SE X W b f2) : SE X W (.Compare a [.GtE] [b] pos) (binS geS f1 f2) := se_cmp op_ge (ops_intB fun i j H Q _ q => ⟨i, j, rfl, rfl, q⟩) ha hb (nomark _)
theorem st_lt (ha : SE X W a f1) (hb : SE X W b f2) : ST X W (.Compare a [.Lt] [b] pos) (binT ltS f1 f2) := st_cmp op_lt (ops_intB fun i j H Q _ q => ⟨i, j, rfl, rfl, q⟩) ha hb (nomark _)
theorem st_le (ha : SE X W a f1) (hb : SE X W b f2) : ST X W (.Compare a [.LtE] [b] pos) (binT leS f1 f2) := st_cmp op_le (ops_intB fun i j H Q _ q => ⟨i, j, rfl, rfl, q⟩) ha hb (nomark _)
theorem st_gt (ha : SE X W a f1) (hb : SE X W b f2) : ST X W (.Compare a [.Gt] [b] pos) (binT gtS f1 f2) := st_cmp op_gt (ops_intB fun i j H Q _ q => ⟨i, j, rfl, rfl, q⟩) ha hb (nomark _)
theorem st_ge (ha : SE X W a f1) (hb : SE X W b f2) : ST X W (.Compare a [.GtE] [b] pos) (binT geS f1 f2) := st_cmp op_ge (ops_intB fun i j H Q _ q => ⟨i, j, rfl, rfl, q⟩) ha hb (nomark _)
/-- 0 <= a < b -/
theorem st_le_lt {c : Expr} {f3 : SM SV} (ha : SE X W a f1) (hb : SE X W b f2) (hc : SE X W c f3) (hm : lastMarks [.LtE, .Lt] [b, c] = false := by with_unfolding_all rfl) : ST X W (.Compare a [.LtE, .Lt] [b, c] pos) (chainT leS ltS f1 f2 f3) :=
  st_chain op_le op_lt (opt_intB fun i j H Q _ q => ⟨i, j, rfl, rfl, q⟩) (opt_intB fun i j H Q _ q => ⟨i, j, rfl, rfl, q⟩) ha hb hc hm
def negS (f : SM SV) : SM SV := fun st => Out.bind (f st) fun r st1 => match r with
  | .val (.int i) => some (.ok (.val (.int (-i))) st1)
  | _ => none
theorem se_neg (ha : SE X W a f1) : SE X W (.UnaryOp .USub a pos) (negS f1) := by
  obtain ⟨t, p, s⟩ := ha
  refine ⟨_, pe_un un_neg p, fun G st σ pst pσ H Q o R hf post => ?_⟩
  unfold negS at hf
  rcases Out.bind_some hf with ⟨r1, st1, h1, hf⟩ | ⟨x, st1, h1, rfl⟩
  · refine s G st σ pst pσ H _ _ R h1 fun v H1 R1 => ?_
    split at hf
    · cases hf
      exact ⟨_, R1.isI, post _ H1 (R1.pop.pushI _)⟩
    · cases hf
  · exact s G st σ pst pσ H _ _ R h1 post
end

/-! ## +, * -/
def catS (st : List SV) (r1 r2 : SV) : Option SV := match itemsOf st r1, itemsOf st r2 with
  | some (false, ds), some (false, es) => if ds.length + es.length ≤ sizeLine then some (.own false (ds ++ es)) else none
  | some (true, ds), some (true, es) => if ds.length + es.length ≤ sizeLine then some (.val (.tuple (ds ++ es))) else none
  | _, _ => none
def addS : G2 := fun st r1 r2 => match r1, r2 with
  | .val (.int i), .val (.int j) => some (.val (.int (i + j)))
  | .val (.str x), .val (.str y) => if x.length + y.length ≤ sizeLine then some (.val (.str (x ++ y))) else none
  | r1, r2 => catS st r1 r2
@[simp] theorem addS_int (st : List SV) (i j : Int) : addS st (.val (.int i)) (.val (.int j)) = some (.val (.int (i + j))) := rfl
@[simp] theorem addS_str (st : List SV) (x y : Str) : addS st (.val (.str x)) (.val (.str y)) = if x.length + y.length ≤ sizeLine then some (.val (.str (x ++ y))) else none := rfl
def rAddA (K : PySem.W.Frag) : R2 := fun x y H Q => rI0 (fun i j => .int (i + j)) x y H Q ∨ (∃ i j, x = .str i ∧ y = .str j ∧ i.length + j.length ≤ sizeLine ∧ Q (.str (i ++ j)) H) ∨ rCat x y H Q ∨ rCatA K x y H Q
section
variable {K : PySem.W.Frag} {G : Gh} {st : List SV} {σ : Sg} {pst : List SV} {pσ : List (Option V)} {H H' : Hp}
theorem cat_ok {r1 r2 res : SV} {x y : V} {Q : VK} (R : Rep K G st σ (r2 :: r1 :: pst) (some y :: some x :: pσ) H) (e : catS st r1 r2 = some res) (post : ∀ v H', Rep K G st σ (res :: pst) (some v :: pσ) H' → Q v H') : rCat x y H Q ∨ rCatA K x y H Q := by
  obtain ⟨fs, f2, f1, fp, F, q1, q2⟩ := R.top2
  unfold catS at e
  split at e
  · rename_i ds es e1 e2
    obtain ⟨a, vs, h1, h2, h3⟩ := F.items q1 e1
    obtain ⟨b, ws, k1, k2, k3⟩ := F.items q2 e2
    cases h1; cases k1
    by_cases hz : ds.length + es.length ≤ sizeLine
    · rw [if_pos hz] at e
      cases e
      exact .inl ⟨a, b, vs, ws, rfl, rfl, h2, k2, by rw [h3.length, k3.length]; exact hz, fun p np => post _ _ (Rep.fin2 ⟨fs, _, F.newLst np (h3.append k3)⟩)⟩
    · rw [if_neg hz] at e; cases e
  · rename_i ds es e1 e2
    obtain ⟨a, vs, h1, h2, h3⟩ := F.items q1 e1
    obtain ⟨b, ws, k1, k2, k3⟩ := F.items q2 e2
    cases h1; cases k1
    by_cases hz : ds.length + es.length ≤ sizeLine
    · rw [if_pos hz] at e
      cases e
      have z1 : ds = [] ↔ vs = [] := by rw [← List.length_eq_zero_iff, ← List.length_eq_zero_iff, h3.length]
      have z2 : es = [] ↔ ws = [] := by rw [← List.length_eq_zero_iff, ← List.length_eq_zero_iff, k3.length]
      have hal : ∀ {c : Addr} {us : List V} {cs : List D}, H c = some (seqO true us) → RVs (Zf G (fs.flatten ++ (f2 :: f1 :: fp).flatten)) H us cs → (¬ Zf G (fs.flatten ++ (f2 :: f1 :: fp).flatten) c) → Rep K G st σ (.val (.tuple cs) :: pst) (some (.ref c) :: pσ) H := fun hc hr n => Rep.fin2 ⟨fs, _, F.pushv (.tup hc n hr)⟩
      have nz : ∀ {c : Addr} {us : List V}, H c = some (seqO true us) → ¬ Zf G (fs.flatten ++ (f2 :: f1 :: fp).flatten) c ∨ G.zx c := fun {c us} hc => by
        by_cases z : c ∈ fs.flatten ++ (f2 :: f1 :: fp).flatten
        · obtain ⟨xs, ex, em⟩ := F.owned c z
          rw [hc] at ex; cases ex; exact absurd em Bool.false_ne_true
        · by_cases z2 : G.zx c
          · exact .inr z2
          · exact .inl fun w => w.elim z2 z
      have nzt : ∀ {sv : SV} {c : Addr} {f : List Addr} {cs : List D}, SlotOk K G (Zf G (fs.flatten ++ (f2 :: f1 :: fp).flatten)) H σ (some (.ref c)) sv f → itemsOf st sv = some (true, cs) → ¬ Zf G (fs.flatten ++ (f2 :: f1 :: fp).flatten) c := fun {sv c f cs} q ei => by
        have bs : ∀ {sv : SV} {f : List Addr} {cs : List D}, (∀ i, sv ≠ .al i) → SlotOk K G (Zf G (fs.flatten ++ (f2 :: f1 :: fp).flatten)) H σ (some (.ref c)) sv f → itemsOf st sv = some (true, cs) → ¬ Zf G (fs.flatten ++ (f2 :: f1 :: fp).flatten) c := fun {sv f cs} n q ei => by
          cases sv with
          | val d => cases d <;> cases ei; obtain ⟨_, x, ex, r⟩ := q; cases ex; cases r; assumption
          | al i => exact absurd rfl (n i)
          | emp => cases ei
          | own io ds => cases ei
          | own2 dss => cases ei
          | scr ns => cases ei
          | exc _ _ _ => cases ei
          | dct _ _ => cases ei
        by_cases n : ∃ i, sv = .al i
        · obtain ⟨i, rfl⟩ := n
          obtain ⟨_, x, exx, ex⟩ := q
          cases exx
          have ei : (match st[i]? with | some (.own _ ds) => some (false, ds) | some (.val (.list ds)) => some (false, ds) | some (.val (.tuple ds)) => some (true, ds) | _ => none) = some (true, cs) := ei
          cases e : st[i]? with
          | none => rw [e] at ei; cases ei
          | some s =>
            obtain ⟨v', f', e1, _, q'⟩ := F.slots.get e
            rw [ex] at e1
            cases e1
            rw [e] at ei
            cases s with
            | val d => cases d <;> first | exact bs (by intro _ z; cases z) q' ei | cases ei
            | own io ds => cases ei
            | own2 dss => cases ei
            | emp => cases ei
            | al j => cases ei
            | scr ns => cases ei
            | exc _ _ _ => cases ei
            | dct _ _ => cases ei
        · exact bs (fun i e => n ⟨i, e⟩) q ei
      refine .inr ⟨a, b, vs, ws, rfl, rfl, SqT.of h2, SqT.of k2, by rw [h3.length, k3.length]; exact hz, fun hv => ?_, fun hv hw => ?_, fun _ _ p np => ?_⟩
      · rw [z1.mpr hv, List.nil_append] at post
        exact post _ H (hal k2 k3 (nzt q2 e2))
      · rw [z2.mpr hw, List.append_nil] at post
        exact post _ H (hal h2 h3 (nzt q1 e1))
      · exact post _ _ (Rep.fin2 ⟨fs, _, F.newTup np (h3.append k3)⟩)
    · rw [if_neg hz] at e; cases e
  · cases e
theorem ops_add : OpS K (rAddA K) addS := by
  intro G st σ pst pσ H r1 r2 x y Q res R e post
  unfold addS at e
  split at e
  · cases e
    have ey := R.isI
    have ex := R.pop.isI
    subst ex ey
    exact .inl ⟨_, _, rfl, rfl, post _ H (R.pop.pop.pushI _)⟩
  · have ey := R.isS
    have ex := R.pop.isS
    subst ex ey
    split at e
    · cases e
      exact .inr (.inl ⟨_, _, rfl, rfl, by assumption, post _ H (R.pop.pop.pushS _)⟩)
    · cases e
  · exact .inr (.inr (cat_ok R e post))
end
section
variable {X : Cx} {W : WX} {a b : Expr} {f1 f2 : SM SV} {pos : Pos}
theorem op_addA : OpR X (binaryOp .Add) (rAddA X.K) := op_add.or (op_add_str.or (op_cat.or op_catA))
theorem se_add (ha : SE X W a f1) (hb : SE X W b f2) : SE X W (.BinOp a .Add b pos) (binS addS f1 f2) := se_op op_addA ops_add ha hb
end
def mulOk (i j : Int) : Bool := decide (i.natAbs < 2 ^ 64) || decide (j.natAbs < 2 ^ 64) || decide (i.natAbs.log2 + j.natAbs.log2 < 1000000)
def mulS : G2 := fun st r1 r2 => match r2 with
  | .val (.int k) => match r1 with
    | .val (.int i) => if mulOk i k then some (.val (.int (i * k))) else none
    | r1 => match itemsOf st r1 with
      | some (false, ds) => if k < 2 ^ 31 ∧ -(2 ^ 31) < k ∧ ds.length * k.toNat ≤ sizeLine then some (.own false (List.replicate k.toNat ds).flatten) else none
      | _ => none
  | _ => none
@[simp] theorem mulS_int (st : List SV) (i j : Int) : mulS st (.val (.int i)) (.val (.int j)) = if mulOk i j then some (.val (.int (i * j))) else none := rfl
def rMulA : R2 := fun x y H Q => rI CMul (fun i j => .int (i * j)) x y H Q ∨ rI CMulW (fun i j => .int (i * j)) x y H Q ∨ rRep x y H Q
theorem mulOk_or {i j : Int} (h : mulOk i j = true) : CMul i j ∨ CMulW i j := by
  unfold mulOk at h
  simp only [Bool.or_eq_true, decide_eq_true_eq] at h
  unfold CMul CMulW
  rcases h with (h | h) | h
  · exact .inl (.inl (by omega))
  · exact .inl (.inr (by omega))
  · exact .inr h
section
variable {K : PySem.W.Frag}
theorem ops_mul : OpS K rMulA mulS := by
  intro G st σ pst pσ H r1 r2 x y Q res R e post
  unfold mulS at e
  split at e
  · rename_i k
    have ey := R.isI
    subst ey
    split at e
    · rename_i i
      have ex := R.pop.isI
      subst ex
      split at e
      · rename_i c
        cases e
        rcases mulOk_or c with c | c
        · exact .inl ⟨_, _, rfl, rfl, c, post _ H (R.pop.pop.pushI _)⟩
        · exact .inr (.inl ⟨_, _, rfl, rfl, c, post _ H (R.pop.pop.pushI _)⟩)
      · cases e
    · obtain ⟨fs, f2, f1, fp, F, q1, q2⟩ := R.top2
      split at e
      · rename_i ds e1
        obtain ⟨a, vs, h1, h2, h3⟩ := F.items q1 e1
        cases h1
        split at e
        · rename_i c
          cases e
          refine .inr (.inr ⟨a, k, vs, rfl, rfl, h2, by omega, by omega, by rw [h3.length]; exact c.2.2, fun p np => ?_⟩)
          exact post _ _ (Rep.fin2 ⟨fs, _, F.newLst np (h3.rep _)⟩)
        · cases e
      · cases e
  · cases e
end
section
variable {X : Cx} {W : WX} {a b : Expr} {f1 f2 : SM SV} {pos : Pos}
theorem op_mulA : OpR X (binaryOp .Mult) rMulA := op_mul.or (op_mulW.or op_rep)
theorem se_mul (ha : SE X W a f1) (hb : SE X W b f2) : SE X W (.BinOp a .Mult b pos) (binS mulS f1 f2) := se_op op_mulA ops_mul ha hb
end

/-! ## ==, !=, is None, in -/
def eqS : G2 := fun st r1 r2 => match dataOf st r1, dataOf st r2 with
  | some d, some e => if SeqAt.shaped d = true ∧ SeqAt.shaped e = true then some (.val (.bool (PyData.eqv d e))) else none
  | _, _ => none
def neS : G2 := fun st r1 r2 => match dataOf st r1, dataOf st r2 with
  | some d, some e => if SeqAt.shaped d = true ∧ SeqAt.shaped e = true then some (.val (.bool (!PyData.eqv d e))) else none
  | _, _ => none
def isNone : D → Bool
  | .none => true
  | _ => false
def isNS : G2 := fun st r1 r2 => match dataOf st r1, r2 with
  | some d, .val .none => some (.val (.bool (isNone d)))
  | _, _ => none
def notNS : G2 := fun st r1 r2 => match dataOf st r1, r2 with
  | some d, .val .none => some (.val (.bool (!isNone d)))
  | _, _ => none
def intsOf : List D → Option (List Int)
  | [] => some []
  | .int i :: ds => (intsOf ds).map (i :: ·)
  | _ :: _ => none
@[simp] theorem intsOf_nil : intsOf [] = some [] := rfl
@[simp] theorem intsOf_cons (i : Int) (ds : List D) : intsOf (.int i :: ds) = (intsOf ds).map (i :: ·) := rfl
@[simp] theorem intsOf_map : ∀ ns : List Int, intsOf (ns.map PyData.int) = some ns
  | [] => rfl
  | n :: ns => by rw [List.map_cons, intsOf_cons, intsOf_map ns]; rfl
theorem intsOf_eq : ∀ {ds : List D} {ns : List Int}, intsOf ds = some ns → ds = ns.map PyData.int
  | [], _, e => by cases e; rfl
  | .int i :: ds, ns, e => by
    rw [intsOf_cons] at e
    cases e2 : intsOf ds with
    | none => rw [e2] at e; cases e
    | some ns' => rw [e2] at e; cases e; rw [intsOf_eq e2]; rfl
  | .none :: _, _, e => by cases e
  | .bool _ :: _, _, e => by cases e
  | .str _ :: _, _, e => by cases e
  | .list _ :: _, _, e => by cases e
  | .tuple _ :: _, _, e => by cases e
  | .dict _ :: _, _, e => by cases e
theorem dpAll_ints {K : PySem.W.Frag} {H : Hp} : ∀ {xs : List V} {ns : List Int}, DpAll K H xs (ns.map PyData.int) → xs = ns.map V.int
  | [], [], _ => rfl
  | _ :: _, n :: ns, h => by
    cases h with
    | cons h1 h2 => cases h1; rw [dpAll_ints h2]; rfl
  | [], _ :: _, h => by cases h
  | _ :: _, [], h => by cases h
theorem flat_ints : ∀ ns : List Int, (ns.map V.int).all flatV = true
  | [] => rfl
  | n :: ns => by rw [List.map_cons, List.all_cons, flat_ints ns]; rfl
theorem inV_ints (k : Int) : ∀ ns : List Int, inV (.int k) (ns.map V.int) = decide (k ∈ ns)
  | [] => rfl
  | n :: ns => by
    have ih := inV_ints k ns
    unfold inV at *
    rw [List.map_cons, List.any_cons, ih]
    by_cases h : n = k
    · subst h; simp [eqV]
    · have h' : ¬ k = n := fun q => h q.symm
      simp [eqV, h, h']
/-- in a list of data -/
def inS : G2 := fun st r1 r2 => match dataOf st r1, dataOf st r2 with
  | some d, some (.list ds) => if SeqAt.shaped d = true ∧ SeqAt.shaped (.list ds) = true then some (.val (.bool (ds.any fun z => PyData.eqv z d))) else none
  | some (.str c), some (.str z) => if c.length = 1 then some (.val (.bool (decide (c.cps.getD 0 0 ∈ z.cps.toList)))) else none
  | some (.int k), some (.tuple ds) => match intsOf ds with
    | some ns => some (.val (.bool (decide (k ∈ ns))))
    | none => none
  | _, _ => none
def notInS : G2 := fun st r1 r2 => match dataOf st r1, dataOf st r2 with
  | some d, some (.list ds) => if SeqAt.shaped d = true ∧ SeqAt.shaped (.list ds) = true then some (.val (.bool (!ds.any fun z => PyData.eqv z d))) else none
  | some (.str c), some (.str z) => if c.length = 1 then some (.val (.bool (!decide (c.cps.getD 0 0 ∈ z.cps.toList)))) else none
  | some (.int k), some (.tuple ds) => match intsOf ds with
    | some ns => some (.val (.bool (!decide (k ∈ ns))))
    | none => none
  | _, _ => none
theorem isNone_dp {K : PySem.W.Frag} {H : Hp} {x : V} {d : D} (h : Dp K H x d) : isNone d = decide (x = .non) := by
  cases h <;> rfl
theorem one_sign {c : Str} (h : c.length = 1) : c = ⟨#[c.cps.getD 0 0]⟩ := by
  obtain ⟨⟨l⟩⟩ := c
  cases l with
  | nil => cases h
  | cons a l =>
    cases l with
    | nil => rfl
    | cons b l =>
      have h : (a :: b :: l).length = 1 := h
      simp at h
def rInA (K : PySem.W.Frag) : R2 := fun x y H Q => rInD K x y H Q ∨ (∃ (c : Nat) (z : Str), x = .str ⟨#[c]⟩ ∧ y = .str z ∧ Q (.bl (decide (c ∈ z.cps.toList))) H) ∨ rIn K false x y H Q
def rNotInA (K : PySem.W.Frag) : R2 := fun x y H Q => rNotInD K x y H Q ∨ (∃ (c : Nat) (z : Str), x = .str ⟨#[c]⟩ ∧ y = .str z ∧ Q (.bl (!decide (c ∈ z.cps.toList))) H) ∨ rIn K true x y H Q
section
variable {K : PySem.W.Frag} {G : Gh} {st : List SV} {σ : Sg} {pst : List SV} {pσ : List (Option V)} {H H' : Hp}
theorem ops_eq : OpS K (rEqD K) eqS := by
  intro G st σ pst pσ H r1 r2 x y Q res R e post
  obtain ⟨fs, f2, f1, fp, F, q1, q2⟩ := R.top2
  unfold eqS at e
  split at e
  · rename_i d e' e1 e2
    obtain ⟨_, h1, h2⟩ := F.data q1 e1
    obtain ⟨_, k1, k2⟩ := F.data q2 e2
    cases h1; cases k1
    split at e
    · rename_i c
      cases e
      exact ⟨d, e', h2, k2, c.1, c.2, post _ H (R.pop.pop.pushB _)⟩
    · cases e
  · cases e
theorem ops_ne : OpS K (rNeD K) neS := by
  intro G st σ pst pσ H r1 r2 x y Q res R e post
  obtain ⟨fs, f2, f1, fp, F, q1, q2⟩ := R.top2
  unfold neS at e
  split at e
  · rename_i d e' e1 e2
    obtain ⟨_, h1, h2⟩ := F.data q1 e1
    obtain ⟨_, k1, k2⟩ := F.data q2 e2
    cases h1; cases k1
    split at e
    · rename_i c
      cases e
      exact ⟨d, e', h2, k2, c.1, c.2, post _ H (R.pop.pop.pushB _)⟩
    · cases e
  · cases e
theorem ops_isN : OpS K (fun x y H Q => y = .non ∧ Q (.bl (decide (x = .non))) H) isNS := by
  intro G st σ pst pσ H r1 r2 x y Q res R e post
  obtain ⟨fs, f2, f1, fp, F, q1, q2⟩ := R.top2
  unfold isNS at e
  split at e
  · rename_i d e1
    obtain ⟨_, h1, h2⟩ := F.data q1 e1
    cases h1
    cases e
    rw [isNone_dp h2] at post
    exact ⟨R.isN, post _ H (R.pop.pop.pushB _)⟩
  · cases e
theorem ops_notN : OpS K (fun x y H Q => y = .non ∧ Q (.bl (!decide (x = .non))) H) notNS := by
  intro G st σ pst pσ H r1 r2 x y Q res R e post
  obtain ⟨fs, f2, f1, fp, F, q1, q2⟩ := R.top2
  unfold notNS at e
  split at e
  · rename_i d e1
    obtain ⟨_, h1, h2⟩ := F.data q1 e1
    cases h1
    cases e
    rw [isNone_dp h2] at post
    exact ⟨R.isN, post _ H (R.pop.pop.pushB _)⟩
  · cases e
theorem ops_in : OpS K (rInA K) inS := by
  intro G st σ pst pσ H r1 r2 x y Q res R e post
  obtain ⟨fs, f2, f1, fp, F, q1, q2⟩ := R.top2
  unfold inS at e
  split at e
  · rename_i d ds e1 e2
    obtain ⟨_, h1, h2⟩ := F.data q1 e1
    obtain ⟨_, k1, k2⟩ := F.data q2 e2
    cases h1; cases k1
    split at e
    · rename_i c
      cases e
      exact .inl ⟨d, ds, h2, k2, c.1, c.2, post _ H (R.pop.pop.pushB _)⟩
    · cases e
  · rename_i c z e1 e2
    obtain ⟨_, h1, h2⟩ := F.data q1 e1
    obtain ⟨_, k1, k2⟩ := F.data q2 e2
    cases h1; cases k1; cases h2; cases k2
    split at e
    · rename_i hc
      cases e
      exact .inr (.inl ⟨_, z, by rw [← one_sign hc], rfl, post _ H (R.pop.pop.pushB _)⟩)
    · cases e
  · rename_i k ds e1 e2
    obtain ⟨_, h1, h2⟩ := F.data q1 e1
    obtain ⟨_, k1, k2⟩ := F.data q2 e2
    cases h1; cases k1; cases h2
    cases k2 with
    | @tup a xs _ hs hd =>
      split at e
      · rename_i ns en
        cases e
        rw [intsOf_eq en] at hd
        have ex := dpAll_ints hd
        subst ex
        exact .inr (.inr ⟨_, _, rfl, .inr hs, rfl, flat_ints ns, by rw [inV_ints]; exact post _ H (R.pop.pop.pushB _)⟩)
      · cases e
  · cases e
theorem ops_notIn : OpS K (rNotInA K) notInS := by
  intro G st σ pst pσ H r1 r2 x y Q res R e post
  obtain ⟨fs, f2, f1, fp, F, q1, q2⟩ := R.top2
  unfold notInS at e
  split at e
  · rename_i d ds e1 e2
    obtain ⟨_, h1, h2⟩ := F.data q1 e1
    obtain ⟨_, k1, k2⟩ := F.data q2 e2
    cases h1; cases k1
    split at e
    · rename_i c
      cases e
      exact .inl ⟨d, ds, h2, k2, c.1, c.2, post _ H (R.pop.pop.pushB _)⟩
    · cases e
  · rename_i c z e1 e2
    obtain ⟨_, h1, h2⟩ := F.data q1 e1
    obtain ⟨_, k1, k2⟩ := F.data q2 e2
    cases h1; cases k1; cases h2; cases k2
    split at e
    · rename_i hc
      cases e
      exact .inr (.inl ⟨_, z, by rw [← one_sign hc], rfl, post _ H (R.pop.pop.pushB _)⟩)
    · cases e
  · rename_i k ds e1 e2
    obtain ⟨_, h1, h2⟩ := F.data q1 e1
    obtain ⟨_, k1, k2⟩ := F.data q2 e2
    cases h1; cases k1; cases h2
    cases k2 with
    | @tup a xs _ hs hd =>
      split at e
      · rename_i ns en
        cases e
        rw [intsOf_eq en] at hd
        have ex := dpAll_ints hd
        subst ex
        exact .inr (.inr ⟨_, _, rfl, .inr hs, rfl, flat_ints ns, by rw [inV_ints]; exact post _ H (R.pop.pop.pushB _)⟩)
      · cases e
  · cases e
end
section
variable {X : Cx} {W : WX} {a b : Expr} {f1 f2 : SM SV} {pos : Pos} {k : Nat}
theorem hu64 (hr : Room k X.A) : X.A.units + 64 < cLine := hr.units
theorem hu65 (hr : Room k X.A) : X.A.units + 65 < cLine := by have := hr.un; omega
theorem se_eq (hr : Room k X.A) (ha : SE X W a f1) (hb : SE X W b f2) : SE X W (.Compare a [.Eq] [b] pos) (binS eqS f1 f2) := se_cmp (op_eqD (hu64 hr)) ops_eq ha hb (nomark _)
theorem se_ne (hr : Room k X.A) (ha : SE X W a f1) (hb : SE X W b f2) : SE X W (.Compare a [.NotEq] [b] pos) (binS neS f1 f2) := se_cmp (op_neD (hu64 hr)) ops_ne ha hb (nomark _)
theorem st_eq (hr : Room k X.A) (ha : SE X W a f1) (hb : SE X W b f2) : ST X W (.Compare a [.Eq] [b] pos) (binT eqS f1 f2) := st_cmp (op_eqD (hu64 hr)) ops_eq ha hb (nomark _)
theorem st_ne (hr : Room k X.A) (ha : SE X W a f1) (hb : SE X W b f2) : ST X W (.Compare a [.NotEq] [b] pos) (binT neS f1 f2) := st_cmp (op_neD (hu64 hr)) ops_ne ha hb (nomark _)
theorem se_is (ha : SE X W a f1) (hb : SE X W b f2) : SE X W (.Compare a [.Is] [b] pos) (binS isNS f1 f2) := se_cmp op_isN ops_isN ha hb (nomark _)
theorem se_isnot (ha : SE X W a f1) (hb : SE X W b f2) : SE X W (.Compare a [.IsNot] [b] pos) (binS notNS f1 f2) := se_cmp op_notN ops_notN ha hb (nomark _)
theorem st_is (ha : SE X W a f1) (hb : SE X W b f2) : ST X W (.Compare a [.Is] [b] pos) (binT isNS f1 f2) := st_cmp op_isN ops_isN ha hb (nomark _)
theorem st_isnot (ha : SE X W a f1) (hb : SE X W b f2) : ST X W (.Compare a [.IsNot] [b] pos) (binT notNS f1 f2) := st_cmp op_notN ops_notN ha hb (nomark _)
theorem op_inA (hr : Room k X.A) : OpR X (compareOp .In) (rInA X.K) := (op_inD (hu65 hr)).or (op_in_sign.or op_in_seq)
theorem op_notInA (hr : Room k X.A) : OpR X (compareOp .NotIn) (rNotInA X.K) := (op_notInD (hu65 hr)).or (op_notIn_sign.or op_notIn_seq)
theorem se_in (hr : Room k X.A) (ha : SE X W a f1) (hb : SE X W b f2) (hm : behindInMarks .In b = false) : SE X W (.Compare a [.In] [b] pos) (binS inS f1 f2) := se_cmp (op_inA hr) ops_in ha hb hm
theorem se_notIn (hr : Room k X.A) (ha : SE X W a f1) (hb : SE X W b f2) (hm : behindInMarks .NotIn b = false) : SE X W (.Compare a [.NotIn] [b] pos) (binS notInS f1 f2) := se_cmp (op_notInA hr) ops_notIn ha hb hm
theorem st_in (hr : Room k X.A) (ha : SE X W a f1) (hb : SE X W b f2) (hm : behindInMarks .In b = false) : ST X W (.Compare a [.In] [b] pos) (binT inS f1 f2) := st_cmp (op_inA hr) ops_in ha hb hm
theorem st_notIn (hr : Room k X.A) (ha : SE X W a f1) (hb : SE X W b f2) (hm : behindInMarks .NotIn b = false) : ST X W (.Compare a [.NotIn] [b] pos) (binT notInS f1 f2) := st_cmp (op_notInA hr) ops_notIn ha hb hm
end
end TK

namespace TK
open PySem PySem.Spec PyProof.Rows L2

/-! ## lists of operands -/
/-- an operand as it is kept: new lists are owned by nobody -/
def frzS : SV → Option SV
  | .val d => some (.val d)
  | .own _ ds => some (.val (.list ds))
  | .own2 dss => some (.val (.list (dss.map PyData.list)))
  | .al i => some (.al i)
  | .scr ns => some (.scr ns)
  | .emp => none
  | .exc _ _ _ => none
  | .dct _ _ => none
theorem Rep.frz {K : PySem.W.Frag} {G : Gh} {st : List SV} {σ : Sg} {pst : List SV} {pσ : List (Option V)} {H : Hp} {r r' : SV} {v : Option V} (h : Rep K G st σ (r :: pst) (v :: pσ) H) (e : frzS r = some r') : Rep K G st σ (r' :: pst) (v :: pσ) H := by
  cases r with
  | val d => cases e; exact h
  | own io ds => cases e; exact h.frzTop
  | own2 dss => cases e; exact h.frzTop2
  | al i => cases e; exact h
  | scr ns => cases e; exact h
  | exc _ _ _ => cases e
  | dct _ _ => cases e
  | emp => cases e
def nilA : SM (List SV) := fun st => some (.ok [] st)
def consA (f : SM SV) (fs : SM (List SV)) : SM (List SV) := fun st => Out.bind (f st) fun r st1 => match frzS r with
  | none => none
  | some r => Out.bind (fs st1) fun rs st2 => some (.ok (r :: rs) st2)
section
variable {X : Cx} {W : WX} {a b e : Expr} {es : List Expr} {f f1 f2 : SM SV} {fs : SM (List SV)} {pos : Pos}
theorem sa_nil : SA X W [] nilA := ⟨_, pa_nil, fun G st σ pst pσ H Q o R hf post => by cases hf; exact post [] H rfl R⟩
theorem sa_cons (ha : SE X W e f) (hr : SA X W es fs) (hs : starEach (e :: es) X.env = (false, eval e X.env) :: starEach es X.env := by rfl) : SA X W (e :: es) (consA f fs) := by
  obtain ⟨t, p, s⟩ := ha
  obtain ⟨t2, p2, s2⟩ := hr
  refine ⟨_, pa_cons p p2 hs, fun G st σ pst pσ H Q o R hf post => ?_⟩
  unfold consA at hf
  rcases Out.bind_some hf with ⟨r1, st1, h1, hf⟩ | ⟨x, st1, h1, rfl⟩
  · refine s G st σ pst pσ H _ _ R h1 fun v H1 R1 => ?_
    cases ef : frzS r1 with
    | none => rw [ef] at hf; cases hf
    | some r =>
      rw [ef] at hf
      have R1' := R1.frz ef
      rcases Out.bind_some hf with ⟨rs, st2, h2, hf⟩ | ⟨x, st2, h2, rfl⟩
      · cases hf
        refine s2 G st1 σ _ _ H1 _ _ R1' h2 fun vs H2 hl R2 => post (v :: vs) H2 (by rw [List.length_cons, List.length_cons, hl]) ?_
        rw [List.map_cons, List.reverse_cons, List.reverse_cons, List.append_assoc, List.append_assoc]
        exact R2
      · exact s2 G st1 σ _ _ H1 _ _ R1' h2 fun cls d H' ex R' => post cls d H' ex R'.pop
  · exact s G st σ pst pσ H _ _ R h1 post

/-! ## displays -/
def valsOf : List SV → Option (List D)
  | [] => some []
  | .val d :: rs => (valsOf rs).map (d :: ·)
  | _ :: _ => none
@[simp] theorem valsOf_nil : valsOf [] = some [] := rfl
@[simp] theorem valsOf_cons (d : D) (rs : List SV) : valsOf (.val d :: rs) = (valsOf rs).map (d :: ·) := rfl
def popsTo (rs : List SV) : List SV := rs
end
section
variable {K : PySem.W.Frag} {G : Gh} {st : List SV} {σ : Sg} {H H' : Hp}
theorem Rep.drops : ∀ {rs : List SV} {vs : List (Option V)} {pst : List SV} {pσ : List (Option V)}, rs.length = vs.length → Rep K G st σ (rs ++ pst) (vs ++ pσ) H → Rep K G st σ pst pσ H
  | [], [], _, _, _, h => h
  | _ :: rs, _ :: vs, _, _, e, h => Rep.drops (rs := rs) (vs := vs) (by simpa using e) h.pop
  | [], _ :: _, _, _, e, _ => by simp at e
  | _ :: _, [], _, _, e, _ => by simp at e
theorem Rep.unders : ∀ {rs : List SV} {vs : List (Option V)} {pst : List SV} {pσ : List (Option V)} {r : SV} {v : Option V}, rs.length = vs.length → Rep K G st σ (r :: (rs ++ pst)) (v :: (vs ++ pσ)) H → Rep K G st σ (r :: pst) (v :: pσ) H
  | [], [], _, _, _, _, _, h => h
  | _ :: rs, _ :: vs, _, _, _, _, e, h => Rep.unders (rs := rs) (vs := vs) (by simpa using e) h.under
  | [], _ :: _, _, _, _, _, e, _ => by simp at e
  | _ :: _, [], _, _, _, _, e, _ => by simp at e
theorem all3_vals {Z : Addr → Prop} : ∀ {rs : List SV} {vs : List V} {ds : List D} {as : List (Option V)} {bs : List SV} {cs : List (List Addr)}, valsOf rs = some ds → vs.length = rs.length →
    All3 (SlotOk K G Z H σ) ((vs.map some).reverse ++ as) (rs.reverse ++ bs) cs → RVs Z H vs ds := by
  intro rs
  induction rs with
  | nil =>
    intro vs ds as bs cs e hl h
    cases e
    cases vs with
    | nil => exact .nil
    | cons _ _ => simp at hl
  | cons r rs ih =>
    intro vs ds as bs cs e hl h
    cases vs with
    | nil => simp at hl
    | cons v vs =>
      cases r with
      | val d =>
        rw [valsOf_cons] at e
        cases e2 : valsOf rs with
        | none => rw [e2] at e; cases e
        | some ds' =>
          rw [e2] at e
          cases e
          have hl' : vs.length = rs.length := by simpa using hl
          have h' : All3 (SlotOk K G Z H σ) ((vs.map some).reverse ++ (some v :: as)) (rs.reverse ++ (.val d :: bs)) cs := by
            rw [List.map_cons, List.reverse_cons, List.reverse_cons, List.append_assoc, List.append_assoc] at h
            exact h
          refine .cons ?_ (ih e2 hl' h')
          obtain ⟨x, c, e1, e3, q⟩ := h'.get (i := rs.length) (b := .val d) (by
            rw [List.getElem?_append_right (by simp)]
            simp)
          rw [List.getElem?_append_right (by simp [hl'])] at e1
          simp [hl'] at e1
          subst e1
          obtain ⟨_, y, ey, r⟩ := q
          cases ey
          exact r
      | emp => cases e
      | own io ds => cases e
      | own2 dss => cases e
      | al i => cases e
      | scr ns => cases e
      | exc _ _ _ => cases e
      | dct _ _ => cases e
end
section
variable {X : Cx} {W : WX} {a b e : Expr} {es : List Expr} {f f1 f2 : SM SV} {fs : SM (List SV)} {pos : Pos}
def tupS (fs : SM (List SV)) : SM SV := fun st => Out.bind (fs st) fun rs st1 => match valsOf rs with
  | some ds => if ds.length ≤ sizeLine then some (.ok (.val (.tuple ds)) st1) else none
  | none => none
def lstS (fs : SM (List SV)) : SM SV := fun st => Out.bind (fs st) fun rs st1 => match valsOf rs with
  | some ds => if ds.length ≤ sizeLine then some (.ok (.own false ds) st1) else none
  | none => none
theorem valsOf_len : ∀ {rs : List SV} {ds : List D}, valsOf rs = some ds → rs.length = ds.length
  | [], _, e => by cases e; rfl
  | .val d :: rs, ds, e => by
    rw [valsOf_cons] at e
    cases e2 : valsOf rs with
    | none => rw [e2] at e; cases e
    | some ds' =>
      rw [e2] at e
      cases e
      rw [List.length_cons, List.length_cons, valsOf_len e2]
  | .emp :: _, _, e => by cases e
  | .own _ _ :: _, _, e => by cases e
  | .own2 _ :: _, _, e => by cases e
  | .al _ :: _, _, e => by cases e
  | .scr _ :: _, _, e => by cases e
  | .exc _ _ _ :: _, _, e => by cases e
  | .dct _ _ :: _, _, e => by cases e
theorem se_tup {x1} (h : SA X W es fs) : SE X W (.Tuple es x1 pos) (tupS fs) := by
  obtain ⟨t, p, s⟩ := h
  refine ⟨_, pe_tup p, fun G st σ pst pσ H Q o R hf post => ?_⟩
  unfold tupS at hf
  rcases Out.bind_some hf with ⟨rs, st1, h1, hf⟩ | ⟨x, st1, h1, rfl⟩
  · refine s G st σ pst pσ H _ _ R h1 fun vs H1 hl R1 => ?_
    split at hf
    · rename_i ds eds
      split at hf
      · rename_i hz
        cases hf
        obtain ⟨ff, fp, F⟩ := R1
        refine ⟨by rw [hl, valsOf_len eds]; exact hz, fun q nq => post _ _ ?_⟩
        exact Rep.unders (by simp [hl]) ⟨ff, _, F.newTup nq (all3_vals eds hl F.pend)⟩
      · cases hf
    · cases hf
  · exact s G st σ pst pσ H _ _ R h1 post
theorem se_lst (h : SA X W es fs) : SE X W (.List es pos) (lstS fs) := by
  obtain ⟨t, p, s⟩ := h
  refine ⟨_, pe_lst p, fun G st σ pst pσ H Q o R hf post => ?_⟩
  unfold lstS at hf
  rcases Out.bind_some hf with ⟨rs, st1, h1, hf⟩ | ⟨x, st1, h1, rfl⟩
  · refine s G st σ pst pσ H _ _ R h1 fun vs H1 hl R1 => ?_
    split at hf
    · rename_i ds eds
      split at hf
      · rename_i hz
        cases hf
        obtain ⟨ff, fp, F⟩ := R1
        refine ⟨by rw [hl, valsOf_len eds]; exact hz, fun q nq => post _ _ ?_⟩
        exact Rep.unders (by simp [hl]) ⟨ff, _, F.newLst nq (all3_vals eds hl F.pend)⟩
      · cases hf
    · cases hf
  · exact s G st σ pst pσ H _ _ R h1 post
end

/-! ## an item, a slice -/
def idxS : G2 := fun st r1 r2 => match r2 with
  | .val (.int k) => match r1 with
    | .scr ns => match atI ns k with
      | some n => some (.val (.int n))
      | none => none
    | .val (.str z) => if z.length ≤ sizeLine then match atI z.cps.toList k with
      | some c => some (.val (.str ⟨#[c]⟩))
      | none => none else none
    | r1 => match itemsOf st r1 with
      | some (_, ds) => match atI ds k with
        | some d => some (.val d)
        | none => none
      | none => none
  | _ => none
section
variable {K : PySem.W.Frag} {G : Gh} {st : List SV} {σ : Sg} {pst : List SV} {pσ : List (Option V)} {H H' : Hp}
theorem RVs.at {Z : Addr → Prop} {vs : List V} {ds : List D} {k : Int} {d : D} (h : RVs Z H vs ds) (e : atI ds k = some d) : ∃ v, atI vs k = some v ∧ RV Z H v d := by
  unfold atI at *
  rw [h.length]
  cases q : ixN ds.length k with
  | none => rw [q] at e; cases e
  | some j =>
    rw [q] at e
    exact h.get e
theorem ops_idx : OpS K (rIx K) idxS := by
  intro G st σ pst pσ H r1 r2 x y Q res R e post
  obtain ⟨fs, f2, f1, fp, F, q1, q2⟩ := R.top2
  unfold idxS at e
  split at e
  · rename_i k
    have ey := R.isI
    subst ey
    split at e
    · rename_i ns
      split at e
      · rename_i n en
        cases e
        obtain ⟨_, a, ea, hs, _⟩ := q1
        cases ea
        have : atI (ns.map V.int) k = some (.int n) := by
          unfold atI at en ⊢
          rw [List.length_map]
          cases q : ixN ns.length k with
          | none => rw [q] at en; cases en
          | some j =>
            rw [q] at en
            show (ns.map V.int)[j]? = _
            rw [List.getElem?_map, show ns[j]? = some n from en]; rfl
        exact .inl ⟨a, _, k, _, rfl, rfl, hs, this, post _ H (R.pop.pop.pushI _)⟩
      · cases e
    · rename_i z
      have ex := R.pop.isS
      subst ex
      split at e
      · rename_i hz
        split at e
        · rename_i c ec
          cases e
          exact .inr (.inr ⟨z, k, c, rfl, rfl, hz, ec, post _ H (R.pop.pop.pushS _)⟩)
        · cases e
      · cases e
    · split at e
      · rename_i t ds e1
        split at e
        · rename_i d ed
          cases e
          obtain ⟨a, vs, ea, hH, hr⟩ := F.items q1 e1
          cases ea
          obtain ⟨v, hv, rv⟩ := hr.at ed
          have fin : Q v H := post _ H (Rep.fin2 ⟨fs, _, F.pushv rv⟩)
          cases t with
          | true => exact .inr (.inl ⟨a, vs, k, v, rfl, rfl, SqT.of hH, hv, fin⟩)
          | false => exact .inl ⟨a, vs, k, v, rfl, rfl, SqL.of hH, hv, fin⟩
        · cases e
      · cases e
  · cases e
end
/-- a part of a slice -/
def SPo (X : Cx) (W : WX) (e : Option Expr) (f : SM (Option Int)) : Prop := ∃ t : TO, PO X e t ∧ ∀ (G : Gh) (st : List SV) (σ : Sg) (pst : List SV) (pσ : List (Option V)) (H : Hp) (Q : Option Int → Hp → Prop) (o : Out (Option Int)),
  Rep X.K G st σ pst pσ H → f st = some o → (match o with
    | .ok k st' => ∀ H', Rep X.K G st' σ pst pσ H' → Q k H'
    | .ex x st' => PostX X W G σ pst pσ x st') → t σ H Q
def noPo : SM (Option Int) := fun st => some (.ok none st)
def somePo (f : SM SV) : SM (Option Int) := fun st => Out.bind (f st) fun r st1 => match r with
  | .val (.int k) => some (.ok (some k) st1)
  | _ => none
def cutD (ds : List D) (lo hi : Option Int) : List D := (ds.drop (HT.sIx ds.length 0 lo)).take (HT.sIx ds.length ds.length hi - HT.sIx ds.length 0 lo)
def sliceS (f : SM SV) (fl fh : SM (Option Int)) : SM SV := fun st => Out.bind (f st) fun r st1 => Out.bind (fl st1) fun lo st2 => Out.bind (fh st2) fun hi st3 => match r with
  | .val (.str z) => if z.length ≤ sizeLine then some (.ok (.val (.str (cutS z lo hi))) st3) else none
  | r => match itemsOf st3 r with
    | some (false, ds) => some (.ok (.own false (cutD ds lo hi)) st3)
    | some (true, ds) => some (.ok (.val (.tuple (cutD ds lo hi))) st3)
    | none => none
def rSlAny (K : PySem.W.Frag) : V → Option Int → Option Int → Hp → VK → Prop := fun x lo hi H Q => rSlL K x lo hi H Q ∨ rSlA K x lo hi H Q ∨ rSlS x lo hi H Q
section
variable {X : Cx} {W : WX} {a b e : Expr} {es : List Expr} {f f1 f2 : SM SV} {fs : SM (List SV)} {pos p2 : Pos} {lo hi : Option Expr} {fl fh : SM (Option Int)}
theorem se_idx (ha : SE X W a f1) (hb : SE X W b f2) (hp : PlainIx b) : SE X W (.Subscript a b pos) (binS idxS f1 f2) := se_bin (fun _ _ pa pb => pe_ix ix_seq pa pb hp) ops_idx ha hb
theorem sp_none : SPo X W none noPo := ⟨_, po_none, fun G st σ pst pσ H Q o R hf post => by cases hf; exact post H R⟩
theorem sp_some (h : SE X W e f) : SPo X W (some e) (somePo f) := by
  obtain ⟨t, p, s⟩ := h
  refine ⟨_, po_some p, fun G st σ pst pσ H Q o R hf post => ?_⟩
  unfold somePo at hf
  rcases Out.bind_some hf with ⟨r, st1, h1, hf⟩ | ⟨x, st1, h1, rfl⟩
  · refine s G st σ pst pσ H _ _ R h1 fun v H1 R1 => ?_
    split at hf
    · cases hf
      exact ⟨_, R1.isI, post H1 R1.pop⟩
    · cases hf
  · exact s G st σ pst pσ H _ _ R h1 post
theorem RVs.cut {Z : Addr → Prop} {H : Hp} {vs : List V} {ds : List D} (h : RVs Z H vs ds) (lo hi : Option Int) : RVs Z H (cutV vs lo hi) (cutD ds lo hi) := by
  unfold cutV cutD
  rw [h.length]
  exact (h.drop _).take _
theorem cutD_whole {ds : List D} {lo hi : Option Int} (h : HT.sIx ds.length 0 lo = 0 ∧ HT.sIx ds.length ds.length hi = ds.length) : cutD ds lo hi = ds := by
  unfold cutD
  rw [h.1, h.2]
  simp
theorem RepF.tupZ {K : PySem.W.Frag} {G : Gh} {fs fp : List (List Addr)} {st : List SV} {σ : Sg} {pst : List SV} {pσ : List (Option V)} {H : Hp} {sv : SV} {c : Addr} {f : List Addr} {cs : List D} (F : RepF K G fs fp st σ pst pσ H)
    (q : SlotOk K G (Zf G (fs.flatten ++ fp.flatten)) H σ (some (.ref c)) sv f) (ei : itemsOf st sv = some (true, cs)) : ¬ Zf G (fs.flatten ++ fp.flatten) c := by
  have bs : ∀ {sv : SV} {f : List Addr} {cs : List D}, (∀ i, sv ≠ .al i) → SlotOk K G (Zf G (fs.flatten ++ fp.flatten)) H σ (some (.ref c)) sv f → itemsOf st sv = some (true, cs) → ¬ Zf G (fs.flatten ++ fp.flatten) c := fun {sv f cs} n q ei => by
    cases sv with
    | val d => cases d <;> cases ei; obtain ⟨_, x, ex, r⟩ := q; cases ex; cases r; assumption
    | al i => exact absurd rfl (n i)
    | emp => cases ei
    | own io ds => cases ei
    | own2 dss => cases ei
    | scr ns => cases ei
    | exc _ _ _ => cases ei
    | dct _ _ => cases ei
  by_cases n : ∃ i, sv = .al i
  · obtain ⟨i, rfl⟩ := n
    obtain ⟨_, x, exx, ex⟩ := q
    cases exx
    have ei : (match st[i]? with | some (.own _ ds) => some (false, ds) | some (.val (.list ds)) => some (false, ds) | some (.val (.tuple ds)) => some (true, ds) | _ => none) = some (true, cs) := ei
    cases e : st[i]? with
    | none => rw [e] at ei; cases ei
    | some s =>
      obtain ⟨v', f', e1, _, q'⟩ := F.slots.get e
      rw [ex] at e1
      cases e1
      rw [e] at ei
      cases s with
      | val d => cases d <;> first | exact bs (by intro _ z; cases z) q' ei | cases ei
      | own io ds => cases ei
      | own2 dss => cases ei
      | emp => cases ei
      | al j => cases ei
      | scr ns => cases ei
      | exc _ _ _ => cases ei
      | dct _ _ => cases ei
  · exact bs (fun i e => n ⟨i, e⟩) q ei
theorem se_slice (he : SE X W e f) (hl : SPo X W lo fl) (hh : SPo X W hi fh) : SE X W (.Subscript e (.Slice lo hi none p2) pos) (sliceS f fl fh) := by
  obtain ⟨t, p, s⟩ := he
  obtain ⟨tl, pl, sl⟩ := hl
  obtain ⟨th, ph, sh⟩ := hh
  refine ⟨_, pe_slice (r := rSlAny X.K) (sl_list.or (sl_tupA.or sl_str)) p pl ph, fun G st σ pst pσ H Q o R hf post => ?_⟩
  unfold sliceS at hf
  rcases Out.bind_some hf with ⟨r, st1, h1, hf⟩ | ⟨x, st1, h1, rfl⟩
  · refine s G st σ pst pσ H _ _ R h1 fun v H1 R1 => ?_
    rcases Out.bind_some hf with ⟨l, st2, h2, hf⟩ | ⟨x, st2, h2, rfl⟩
    · refine sl G st1 σ _ _ H1 _ _ R1 h2 fun H2 R2 => ?_
      rcases Out.bind_some hf with ⟨u, st3, h3, hf⟩ | ⟨x, st3, h3, rfl⟩
      · refine sh G st2 σ _ _ H2 _ _ R2 h3 fun H3 R3 => ?_
        split at hf
        · rename_i z _ _
          split at hf
          · rename_i hz
            cases hf
            exact .inr (.inr ⟨z, R3.isS, hz, post _ H3 (R3.pop.pushS _)⟩)
          · cases hf
        · obtain ⟨fs, f1, fp, F, q1⟩ := R3.top
          split at hf
          · rename_i ds ei
            cases hf
            obtain ⟨a, vs, ea, hH, hr⟩ := F.items q1 ei
            cases ea
            exact .inl ⟨a, vs, rfl, SqL.of hH, fun p np => post _ _ (Rep.under ⟨fs, _, F.newLst np (hr.cut l u)⟩)⟩
          · rename_i ds ei
            cases hf
            obtain ⟨a, vs, ea, hH, hr⟩ := F.items q1 ei
            cases ea
            refine .inr (.inl ⟨a, vs, rfl, SqT.of hH, fun hw => ?_, fun _ p np => post _ _ (Rep.under ⟨fs, _, F.newTup np (hr.cut l u)⟩)⟩)
            rw [hr.length] at hw
            rw [cutD_whole hw] at post
            exact post _ H3 (Rep.under ⟨fs, _, F.pushv (.tup hH (F.tupZ q1 ei) hr)⟩)
          · cases hf
      · exact sh G st2 σ _ _ H2 _ _ R2 h3 fun cls d H' ex R' => post cls d H' ex R'.pop
    · exact sl G st1 σ _ _ H1 _ _ R1 h2 fun cls d H' ex R' => post cls d H' ex R'.pop
  · exact s G st σ pst pσ H _ _ R h1 post
end

/-! ## calls of built-ins -/
/-- one argument -/
def C1 (K : PySem.W.Frag) (r : List V → Hp → VK → Prop) (g : List SV → SV → Option SV) : Prop := ∀ (G : Gh) (st : List SV) (σ : Sg) (pst : List SV) (pσ : List (Option V)) (H : Hp) (r1 : SV) (x : V) (Q : VK) (res : SV),
  Rep K G st σ (r1 :: pst) (some x :: pσ) H → g st r1 = some res → (∀ v H', Rep K G st σ (res :: pst) (some v :: pσ) H' → Q v H') → r [x] H Q
def call1 (g : List SV → SV → Option SV) (f : SM SV) : SM SV := fun st => Out.bind (f st) fun r st1 => match frzS r with
  | none => none
  | some r => okM (g st1 r) st1
def call2 (g : G2) (f1 f2 : SM SV) : SM SV := fun st => Out.bind (f1 st) fun r1 st1 => match frzS r1 with
  | none => none
  | some r1 => Out.bind (f2 st1) fun r2 st2 => match frzS r2 with
    | none => none
    | some r2 => okM (g st2 r1 r2) st2
def C2 (K : PySem.W.Frag) (r : List V → Hp → VK → Prop) (g : G2) : Prop := OpS K (fun x y H Q => r [x, y] H Q) g
section
variable {X : Cx} {W : WX} {a b e : Expr} {es : List Expr} {f f1 f2 : SM SV} {fs : SM (List SV)} {pos p : Pos} {x : Str}
theorem se_c1 {c : Expr} {r : List V → Hp → VK → Prop} {g : List SV → SV → Option SV} (mk : ∀ t, PA X [a] t → PE X c (tCB r t)) (hs : C1 X.K r g) (ha : SE X W a f) (hst : starEach [a] X.env = (false, eval a X.env) :: starEach [] X.env := by rfl) : SE X W c (call1 g f) := by
  obtain ⟨t, p, s⟩ := ha
  refine ⟨_, mk _ (pa_cons p pa_nil hst), fun G st σ pst pσ H Q o R hf post => ?_⟩
  unfold call1 at hf
  rcases Out.bind_some hf with ⟨r1, st1, h1, hf⟩ | ⟨x, st1, h1, rfl⟩
  · refine s G st σ pst pσ H _ _ R h1 fun v H1 R1 => ?_
    cases ef : frzS r1 with
    | none => rw [ef] at hf; cases hf
    | some r =>
      rw [ef] at hf
      dsimp only at hf
      cases eg : g st1 r with
      | none => rw [eg] at hf; cases hf
      | some res =>
        rw [eg] at hf
        cases hf
        exact hs G st1 σ pst pσ H1 r v Q res (R1.frz ef) eg post
  · exact s G st σ pst pσ H _ _ R h1 post
theorem se_c2 {c : Expr} {r : List V → Hp → VK → Prop} {g : G2} (mk : ∀ t, PA X [a, b] t → PE X c (tCB r t)) (hs : C2 X.K r g) (ha : SE X W a f1) (hb : SE X W b f2)
    (hst : starEach [a, b] X.env = (false, eval a X.env) :: starEach [b] X.env := by rfl) (hst2 : starEach [b] X.env = (false, eval b X.env) :: starEach [] X.env := by rfl) : SE X W c (call2 g f1 f2) := by
  obtain ⟨t, p, s⟩ := ha
  obtain ⟨t2, p2, s2⟩ := hb
  refine ⟨_, mk _ (pa_cons p (pa_cons p2 pa_nil hst2) hst), fun G st σ pst pσ H Q o R hf post => ?_⟩
  unfold call2 at hf
  rcases Out.bind_some hf with ⟨r1, st1, h1, hf⟩ | ⟨x, st1, h1, rfl⟩
  · refine s G st σ pst pσ H _ _ R h1 fun v H1 R1 => ?_
    cases ef : frzS r1 with
    | none => rw [ef] at hf; cases hf
    | some r1' =>
      rw [ef] at hf
      have R1' := R1.frz ef
      rcases Out.bind_some hf with ⟨r2, st2, h2, hf⟩ | ⟨x, st2, h2, rfl⟩
      · refine s2 G st1 σ _ _ H1 _ _ R1' h2 fun v2 H2 R2 => ?_
        cases ef2 : frzS r2 with
        | none => rw [ef2] at hf; cases hf
        | some r2' =>
          rw [ef2] at hf
          dsimp only at hf
          cases eg : g st2 r1' r2' with
          | none => rw [eg] at hf; cases hf
          | some res =>
            rw [eg] at hf
            cases hf
            exact hs G st2 σ pst pσ H2 r1' r2' v v2 Q res (R2.frz ef2) eg post
      · exact s2 G st1 σ _ _ H1 _ _ R1' h2 fun cls d H' ex R' => post cls d H' ex R'.pop
  · exact s G st σ pst pσ H _ _ R h1 post
end
def boolsOf : List D → Option (List Bool)
  | [] => some []
  | .bool i :: ds => (boolsOf ds).map (i :: ·)
  | _ :: _ => none
@[simp] theorem boolsOf_nil : boolsOf [] = some [] := rfl
@[simp] theorem boolsOf_cons (i : Bool) (ds : List D) : boolsOf (.bool i :: ds) = (boolsOf ds).map (i :: ·) := rfl
theorem boolsOf_eq : ∀ {ds : List D} {ns : List Bool}, boolsOf ds = some ns → ds = ns.map PyData.bool
  | [], _, e => by cases e; rfl
  | .bool i :: ds, ns, e => by
    rw [boolsOf_cons] at e
    cases e2 : boolsOf ds with
    | none => rw [e2] at e; cases e
    | some ns' => rw [e2] at e; cases e; rw [boolsOf_eq e2]; rfl
  | .none :: _, _, e => by cases e
  | .int _ :: _, _, e => by cases e
  | .str _ :: _, _, e => by cases e
  | .list _ :: _, _, e => by cases e
  | .tuple _ :: _, _, e => by cases e
  | .dict _ :: _, _, e => by cases e
theorem RVs.of_bools {Z : Addr → Prop} {H : Hp} : ∀ {vs : List V} {ns : List Bool}, RVs Z H vs (ns.map PyData.bool) → vs = ns.map V.bl
  | [], [], _ => rfl
  | v :: vs, n :: ns, h => by
    cases h with
    | cons h1 h2 =>
      cases h1
      rw [RVs.of_bools h2]; rfl
  | [], _ :: _, h => by cases h
  | _ :: _, [], h => by cases h

def lenS (st : List SV) (r : SV) : Option SV := match dataOf st r with
  | some (.list ds) => some (.val (.int ds.length))
  | some (.tuple ds) => some (.val (.int ds.length))
  | some (.str z) => if z.length ≤ sizeLine then some (.val (.int z.length)) else none
  | _ => none
def absS (_ : List SV) (r : SV) : Option SV := match r with
  | .val (.int i) => some (.val (.int (if i < 0 then -i else i)))
  | _ => none
def intS (_ : List SV) (r : SV) : Option SV := match r with
  | .val (.int i) => some (.val (.int i))
  | .val (.bool b) => some (.val (.int (if b then 1 else 0)))
  | _ => none
def sumS (st : List SV) (r : SV) : Option SV := match itemsOf st r with
  | some (false, ds) => match intsOf ds with
    | some ns => some (.val (.int ns.sum))
    | none => none
  | _ => none
def maxL : List Int → Int
  | [] => 0
  | n :: ns => ns.foldl (fun a b => if b > a then b else a) n
def minL : List Int → Int
  | [] => 0
  | n :: ns => ns.foldl (fun a b => if b < a then b else a) n
def max1S (st : List SV) (r : SV) : Option SV := match itemsOf st r with
  | some (false, ds) => match intsOf ds with
    | some (n :: ns) => some (.val (.int (maxL (n :: ns))))
    | _ => none
  | _ => none
def min1S (st : List SV) (r : SV) : Option SV := match itemsOf st r with
  | some (false, ds) => match intsOf ds with
    | some (n :: ns) => some (.val (.int (minL (n :: ns))))
    | _ => none
  | _ => none
def anyS (st : List SV) (r : SV) : Option SV := match itemsOf st r with
  | some (false, ds) => match boolsOf ds with
    | some bs => some (.val (.bool (bs.any id)))
    | none => none
  | _ => none
def tuple1S (st : List SV) (r : SV) : Option SV := match itemsOf st r with
  | some (_, ds) => some (.val (.tuple ds))
  | none => none
def list1S (st : List SV) (r : SV) : Option SV := match itemsOf st r with
  | some (_, ds) => some (.own false ds)
  | none => none
def isort (ns : List Int) : List Int := ns.mergeSort (fun a b => decide (a ≤ b))
def sort1S (st : List SV) (r : SV) : Option SV := match itemsOf st r with
  | some (false, ds) => match intsOf ds with
    | some ns => some (.own false ((isort ns).map PyData.int))
    | none => none
  | _ => none
def max2S : G2 := iiS yes2 fun i j => .int (if j > i then j else i)
def min2S : G2 := iiS yes2 fun i j => .int (if j < i then j else i)

theorem foldmax : ∀ (ns : List Int) (n : Int), (ns.foldl (fun a b => if b > a then b else a) n ∈ n :: ns) ∧ ∀ y ∈ n :: ns, y ≤ ns.foldl (fun a b => if b > a then b else a) n
  | [], n => ⟨by simp, by simp⟩
  | m :: ns, n => by
    obtain ⟨h1, h2⟩ := foldmax ns (if m > n then m else n)
    rw [List.foldl_cons]
    refine ⟨?_, fun y hy => ?_⟩
    · rcases List.mem_cons.mp h1 with e | h
      · rw [e]; split <;> simp
      · exact List.mem_cons_of_mem _ (List.mem_cons_of_mem _ h)
    · have b := h2 _ (List.mem_cons_self)
      rcases List.mem_cons.mp hy with e | h
      · subst e; split at b <;> split <;> simp_all <;> omega
      · rcases List.mem_cons.mp h with e | h
        · subst e; split at b <;> split <;> simp_all <;> omega
        · exact h2 y (List.mem_cons_of_mem _ h)
theorem foldmin : ∀ (ns : List Int) (n : Int), (ns.foldl (fun a b => if b < a then b else a) n ∈ n :: ns) ∧ ∀ y ∈ n :: ns, ns.foldl (fun a b => if b < a then b else a) n ≤ y
  | [], n => ⟨by simp, by simp⟩
  | m :: ns, n => by
    obtain ⟨h1, h2⟩ := foldmin ns (if m < n then m else n)
    rw [List.foldl_cons]
    refine ⟨?_, fun y hy => ?_⟩
    · rcases List.mem_cons.mp h1 with e | h
      · rw [e]; split <;> simp
      · exact List.mem_cons_of_mem _ (List.mem_cons_of_mem _ h)
    · have b := h2 _ (List.mem_cons_self)
      rcases List.mem_cons.mp hy with e | h
      · subst e; split at b <;> split <;> simp_all <;> omega
      · rcases List.mem_cons.mp h with e | h
        · subst e; split at b <;> split <;> simp_all <;> omega
        · exact h2 y (List.mem_cons_of_mem _ h)
section
variable {X : Cx} {K : PySem.W.Frag} {G : Gh} {st : List SV} {σ : Sg} {pst : List SV} {pσ : List (Option V)} {H H' : Hp}
theorem _root_.L2.DpAll.len : ∀ {vs : List V} {ds : List PyData}, DpAll K H vs ds → vs.length = ds.length
  | _, _, .nil => rfl
  | _, _, .cons _ t => by rw [List.length_cons, List.length_cons, L2.DpAll.len t]
theorem c1_len : C1 K (fun xs H Q => ∃ x n, xs = [x] ∧ LenV K x H n ∧ Q (.int n) H) lenS := by
  intro G st σ pst pσ H r1 x Q res R e post
  obtain ⟨fs, f1, fp, F, q1⟩ := R.top
  unfold lenS at e
  split at e
  · rename_i ds e1
    cases e
    obtain ⟨_, h1, h2⟩ := F.data q1 e1
    cases h1
    cases h2 with
    | lst hs ha => exact ⟨_, ds.length, rfl, .inl ⟨_, hs, ha.len.symm ▸ rfl⟩, post _ H (R.pop.pushI _)⟩
  · rename_i ds e1
    cases e
    obtain ⟨_, h1, h2⟩ := F.data q1 e1
    cases h1
    cases h2 with
    | tup hs ha => exact ⟨_, ds.length, rfl, .inr ⟨_, hs, ha.len.symm ▸ rfl⟩, post _ H (R.pop.pushI _)⟩
  · rename_i z e1
    split at e
    · rename_i hz
      cases e
      obtain ⟨_, h1, h2⟩ := F.data q1 e1
      cases h1; cases h2
      exact ⟨_, z.length, rfl, ⟨hz, rfl⟩, post _ H (R.pop.pushI _)⟩
    · cases e
  · cases e
theorem c1_abs : C1 K (fun xs H Q => ∃ i, xs = [.int i] ∧ Q (.int (if i < 0 then -i else i)) H) absS := by
  intro G st σ pst pσ H r1 x Q res R e post
  unfold absS at e
  split at e
  · cases e
    have ex := R.isI
    subst ex
    exact ⟨_, rfl, post _ H (R.pop.pushI _)⟩
  · cases e
theorem c1_int : C1 K (fun xs H Q => (∃ i, xs = [.int i] ∧ Q (.int i) H) ∨ ∃ k, xs = [.bl k] ∧ Q (.int (if k then 1 else 0)) H) intS := by
  intro G st σ pst pσ H r1 x Q res R e post
  unfold intS at e
  split at e
  · cases e
    have ex := R.isI
    subst ex
    exact .inl ⟨_, rfl, post _ H R⟩
  · cases e
    have ex := R.isB
    subst ex
    exact .inr ⟨_, rfl, post _ H (R.pop.pushI _)⟩
  · cases e
theorem ints_at {r1 : SV} {x : V} {ds : List D} {ns : List Int} (R : Rep K G st σ (r1 :: pst) (some x :: pσ) H) (e1 : itemsOf st r1 = some (false, ds)) (e2 : intsOf ds = some ns) : ∃ a, x = .ref a ∧ H a = some (.lst (ns.map V.int)) := by
  obtain ⟨fs, f1, fp, F, q1⟩ := R.top
  obtain ⟨a, vs, ea, hH, hr⟩ := F.items q1 e1
  cases ea
  rw [intsOf_eq e2] at hr
  rw [hr.of_ints] at hH
  exact ⟨a, rfl, hH⟩
theorem c1_sum : C1 K (rSum K) sumS := by
  intro G st σ pst pσ H r1 x Q res R e post
  unfold sumS at e
  split at e
  · rename_i ds e1
    split at e
    · rename_i ns e2
      cases e
      obtain ⟨a, rfl, hH⟩ := ints_at R e1 e2
      exact ⟨a, ns, rfl, SqL.of hH, post _ H (R.pop.pushI _)⟩
    · cases e
  · cases e
theorem c1_max : C1 K (rMax K) max1S := by
  intro G st σ pst pσ H r1 x Q res R e post
  unfold max1S at e
  split at e
  · rename_i ds e1
    split at e
    · rename_i n ns e2
      cases e
      obtain ⟨a, rfl, hH⟩ := ints_at R e1 e2
      refine ⟨a, n :: ns, rfl, SqL.of hH, by simp, fun m hm hle => ?_⟩
      have : m = maxL (n :: ns) := Int.le_antisymm ((foldmax ns n).2 m hm) (hle _ (foldmax ns n).1)
      subst this
      exact post _ H (R.pop.pushI _)
    · cases e
  · cases e
theorem c1_min : C1 K (rMin K) min1S := by
  intro G st σ pst pσ H r1 x Q res R e post
  unfold min1S at e
  split at e
  · rename_i ds e1
    split at e
    · rename_i n ns e2
      cases e
      obtain ⟨a, rfl, hH⟩ := ints_at R e1 e2
      refine ⟨a, n :: ns, rfl, SqL.of hH, by simp, fun m hm hle => ?_⟩
      have : m = minL (n :: ns) := Int.le_antisymm (hle _ (foldmin ns n).1) ((foldmin ns n).2 m hm)
      subst this
      exact post _ H (R.pop.pushI _)
    · cases e
  · cases e
theorem c1_any : C1 K (rAny K) anyS := by
  intro G st σ pst pσ H r1 x Q res R e post
  unfold anyS at e
  split at e
  · rename_i ds e1
    split at e
    · rename_i bs e2
      cases e
      obtain ⟨fs, f1, fp, F, q1⟩ := R.top
      obtain ⟨a, vs, ea, hH, hr⟩ := F.items q1 e1
      cases ea
      rw [boolsOf_eq e2] at hr
      rw [hr.of_bools] at hH
      exact ⟨a, bs, rfl, SqL.of hH, post _ H (R.pop.pushB _)⟩
    · cases e
  · cases e
theorem c1_tuple : C1 K (fun xs H Q => ∃ p ys, xs = [.ref p] ∧ ((SqL K H p ys ∧ ∀ l, H l = none → Q (.ref l) (upd H l (.tup ys))) ∨ (SqT K H p ys ∧ Q (.ref p) H))) tuple1S := by
  intro G st σ pst pσ H r1 x Q res R e post
  obtain ⟨fs, f1, fp, F, q1⟩ := R.top
  unfold tuple1S at e
  split at e
  · rename_i t ds e1
    cases e
    obtain ⟨a, vs, ea, hH, hr⟩ := F.items q1 e1
    cases ea
    cases t with
    | false => exact ⟨a, vs, rfl, .inl ⟨SqL.of hH, fun l nl => post _ _ (Rep.under ⟨fs, _, F.newTup nl hr⟩)⟩⟩
    | true => exact ⟨a, vs, rfl, .inr ⟨SqT.of hH, post _ H (Rep.under ⟨fs, _, F.pushv (.tup hH (F.tupZ q1 e1) hr)⟩)⟩⟩
  · cases e
theorem c1_list : C1 K (fun xs H Q => ∃ p ys, xs = [.ref p] ∧ (SqL K H p ys ∨ SqT K H p ys) ∧ ∀ l, H l = none → Q (.ref l) (upd H l (.lst ys))) list1S := by
  intro G st σ pst pσ H r1 x Q res R e post
  obtain ⟨fs, f1, fp, F, q1⟩ := R.top
  unfold list1S at e
  split at e
  · rename_i t ds e1
    cases e
    obtain ⟨a, vs, ea, hH, hr⟩ := F.items q1 e1
    cases ea
    refine ⟨a, vs, rfl, ?_, fun l nl => post _ _ (Rep.under ⟨fs, _, F.newLst nl hr⟩)⟩
    cases t with
    | false => exact .inl (SqL.of hH)
    | true => exact .inr (SqT.of hH)
  · cases e
theorem isort_eq {ns ms : List Int} (hp : ms.Perm ns) (hs : ms.Pairwise (· ≤ ·)) : ms = isort ns := by
  have h1 : (isort ns).Pairwise (· ≤ ·) := by
    have := List.pairwise_mergeSort (le := fun a b : Int => decide (a ≤ b)) (by intro a b c; simp; omega) (by intro a b; simp; omega) ns
    exact this.imp (by simp)
  exact List.Perm.eq_of_pairwise (le := (· ≤ ·)) (fun a b _ _ h1 h2 => Int.le_antisymm h1 h2) hs h1 (hp.trans (List.mergeSort_perm ns _).symm)
theorem c1_sort : C1 K (rSortedI K) sort1S := by
  intro G st σ pst pσ H r1 x Q res R e post
  unfold sort1S at e
  split at e
  · rename_i ds e1
    split at e
    · rename_i ns e2
      cases e
      obtain ⟨a, rfl, hH⟩ := ints_at R e1 e2
      refine ⟨a, ns, rfl, SqL.of hH, fun ns' p hp hs np => ?_⟩
      rw [isort_eq hp hs]
      obtain ⟨fs, f1, fp, F, q1⟩ := R.top
      exact post _ _ (Rep.under ⟨fs, _, F.newLst np (RVs.ints _)⟩)
    · cases e
  · cases e
theorem c2_max : C2 K (fun xs H Q => ∃ i j, xs = [.int i, .int j] ∧ Q (.int (if j > i then j else i)) H) max2S := ops_int fun i j H Q _ q => ⟨i, j, rfl, q⟩
theorem c2_min : C2 K (fun xs H Q => ∃ i j, xs = [.int i, .int j] ∧ Q (.int (if j < i then j else i)) H) min2S := ops_int fun i j H Q _ q => ⟨i, j, rfl, q⟩
end
section
variable {X : Cx} {W : WX} {a b e : Expr} {es : List Expr} {f f1 f2 : SM SV} {pos p : Pos}
theorem se_len (hg : Gl X "len") (hm : X.mg "len" = none) (ha : SE X W a f) (hst : starEach [a] X.env = (false, eval a X.env) :: starEach [] X.env := by rfl) (h3 : (backTo pos (starEach [] X.env)).any (·.1) = false := by rfl) : SE X W (.Call (.Name "len" p) [a] [] pos) (call1 lenS f) :=
  se_c1 (fun _ pa => pe_callB call_len hg hm PySem.boot_len pa (by decide) (by decide) hst h3) c1_len ha hst
theorem se_abs (hg : Gl X "abs") (hm : X.mg "abs" = none) (ha : SE X W a f) (hst : starEach [a] X.env = (false, eval a X.env) :: starEach [] X.env := by rfl) (h3 : (backTo pos (starEach [] X.env)).any (·.1) = false := by rfl) : SE X W (.Call (.Name "abs" p) [a] [] pos) (call1 absS f) :=
  se_c1 (fun _ pa => pe_callB call_abs hg hm (by decide +kernel) pa (by decide) (by decide) hst h3) c1_abs ha hst
theorem se_sum (hc : X.calm = true) (hg : Gl X "sum") (hm : X.mg "sum" = none) (ha : SE X W a f) (hst : starEach [a] X.env = (false, eval a X.env) :: starEach [] X.env := by rfl) (h3 : (backTo pos (starEach [] X.env)).any (·.1) = false := by rfl) : SE X W (.Call (.Name "sum" p) [a] [] pos) (call1 sumS f) :=
  se_c1 (fun _ pa => pe_callB (cr_sum hc) hg hm (by decide +kernel) pa (by decide) (by decide) hst h3) c1_sum ha hst
theorem se_max (hc : X.calm = true) (hg : Gl X "max") (hm : X.mg "max" = none) (ha : SE X W a f) (hst : starEach [a] X.env = (false, eval a X.env) :: starEach [] X.env := by rfl) (h3 : (backTo pos (starEach [] X.env)).any (·.1) = false := by rfl) : SE X W (.Call (.Name "max" p) [a] [] pos) (call1 max1S f) :=
  se_c1 (fun _ pa => pe_callB (cr_max hc) hg hm (by decide +kernel) pa (by decide) (by decide) hst h3) c1_max ha hst
theorem se_min (hc : X.calm = true) (hg : Gl X "min") (hm : X.mg "min" = none) (ha : SE X W a f) (hst : starEach [a] X.env = (false, eval a X.env) :: starEach [] X.env := by rfl) (h3 : (backTo pos (starEach [] X.env)).any (·.1) = false := by rfl) : SE X W (.Call (.Name "min" p) [a] [] pos) (call1 min1S f) :=
  se_c1 (fun _ pa => pe_callB (cr_min hc) hg hm (by decide +kernel) pa (by decide) (by decide) hst h3) c1_min ha hst
theorem se_any (hc : X.calm = true) (hg : Gl X "any") (hm : X.mg "any" = none) (ha : SE X W a f) (hst : starEach [a] X.env = (false, eval a X.env) :: starEach [] X.env := by rfl) (h3 : (backTo pos (starEach [] X.env)).any (·.1) = false := by rfl) : SE X W (.Call (.Name "any" p) [a] [] pos) (call1 anyS f) :=
  se_c1 (fun _ pa => pe_callB (cr_any hc) hg hm (by decide +kernel) pa (by decide) (by decide) hst h3) c1_any ha hst
theorem se_sorted (hg : Gl X "sorted") (hm : X.mg "sorted" = none) (ha : SE X W a f) (hst : starEach [a] X.env = (false, eval a X.env) :: starEach [] X.env := by rfl) (h3 : (backTo pos (starEach [] X.env)).any (·.1) = false := by rfl) : SE X W (.Call (.Name "sorted" p) [a] [] pos) (call1 sort1S f) :=
  se_c1 (fun _ pa => pe_callB cr_sortedI hg hm (by decide +kernel) pa (by decide) (by decide) hst h3) c1_sort ha hst
theorem se_intc (hg : Gl X "int") (hm : X.mg "int" = none) (ha : SE X W a f) (hst : starEach [a] X.env = (false, eval a X.env) :: starEach [] X.env := by rfl) (h3 : (backTo pos (starEach [] X.env)).any (·.1) = false := by rfl) : SE X W (.Call (.Name "int" p) [a] [] pos) (call1 intS f) :=
  se_c1 (fun _ pa => pe_callTy call_int1 hg hm (by decide +kernel) pa (by decide) (by decide) hst h3) c1_int ha hst
theorem se_tuple (hg : Gl X "tuple") (hm : X.mg "tuple" = none) (ha : SE X W a f) (hst : starEach [a] X.env = (false, eval a X.env) :: starEach [] X.env := by rfl) (h3 : (backTo pos (starEach [] X.env)).any (·.1) = false := by rfl) : SE X W (.Call (.Name "tuple" p) [a] [] pos) (call1 tuple1S f) :=
  se_c1 (fun _ pa => pe_callTy call_tuple_of hg hm (by decide +kernel) pa (by decide) (by decide) hst h3) c1_tuple ha hst
theorem se_list (hg : Gl X "list") (hm : X.mg "list" = none) (ha : SE X W a f) (hst : starEach [a] X.env = (false, eval a X.env) :: starEach [] X.env := by rfl) (h3 : (backTo pos (starEach [] X.env)).any (·.1) = false := by rfl) : SE X W (.Call (.Name "list" p) [a] [] pos) (call1 list1S f) :=
  se_c1 (fun _ pa => pe_callTy call_list_of hg hm (by decide +kernel) pa (by decide) (by decide) hst h3) c1_list ha hst
theorem se_max2 (hc : X.calm = true) (hg : Gl X "max") (hm : X.mg "max" = none) (ha : SE X W a f1) (hb : SE X W b f2) (hst : starEach [a, b] X.env = (false, eval a X.env) :: starEach [b] X.env := by rfl) (hst2 : starEach [b] X.env = (false, eval b X.env) :: starEach [] X.env := by rfl)
    (h3 : (backTo pos (starEach [b] X.env)).any (·.1) = false := by rfl) : SE X W (.Call (.Name "max" p) [a, b] [] pos) (call2 max2S f1 f2) :=
  se_c2 (fun _ pa => pe_callB (call_max2 hc) hg hm (by decide +kernel) pa (by decide) (by decide) hst h3) c2_max ha hb hst hst2
theorem se_min2 (hc : X.calm = true) (hg : Gl X "min") (hm : X.mg "min" = none) (ha : SE X W a f1) (hb : SE X W b f2) (hst : starEach [a, b] X.env = (false, eval a X.env) :: starEach [b] X.env := by rfl) (hst2 : starEach [b] X.env = (false, eval b X.env) :: starEach [] X.env := by rfl)
    (h3 : (backTo pos (starEach [b] X.env)).any (·.1) = false := by rfl) : SE X W (.Call (.Name "min" p) [a, b] [] pos) (call2 min2S f1 f2) :=
  se_c2 (fun _ pa => pe_callB (call_min2 hc) hg hm (by decide +kernel) pa (by decide) (by decide) hst h3) c2_min ha hb hst hst2
end
end TK

namespace TK
open PySem PySem.Spec PyProof.Rows L2

/-! ## statements -/
inductive Fl where
  | nx (st : List SV) | rt (r : SV) (st : List SV) | bk (st : List SV) | ct (st : List SV) | ex (x : Ex) (st : List SV)
abbrev SF := List SV → Option Fl
section
variable (X : Cx) (W : WX)
def PostS (G : Gh) (pst : List SV) (pσ : List (Option V)) (D : Ends) : Fl → Prop
  | .nx st' => ∀ σ' H', Rep X.K G st' σ' pst pσ H' → D.nx σ' H'
  | .rt r st' => ∀ v σ' H', Rep X.K G st' σ' (r :: pst) (some v :: pσ) H' → D.rt v H'
  | .bk st' => ∀ σ' H', Rep X.K G st' σ' pst pσ H' → D.bk σ' H'
  | .ct st' => ∀ σ' H', Rep X.K G st' σ' pst pσ H' → D.ct σ' H'
  | .ex x st' => ∀ σ', PostX X W G σ' pst pσ x st'
def noals (pst : List SV) : Prop := ∀ s ∈ pst, s.noal = true
def S1 (s : Stmt) (f : SF) : Prop := ∃ t : TS, PS X s t ∧ ∀ (G : Gh) (st : List SV) (σ : Sg) (pst : List SV) (pσ : List (Option V)) (H : Hp) (D : Ends) (o : Fl), noals pst →
  Rep X.K G st σ pst pσ H → f st = some o → PostS X W G pst pσ D o → t D σ H
def SS (ss : List Stmt) (f : SF) : Prop := ∃ t : TS, PSs X ss t ∧ ∀ (G : Gh) (st : List SV) (σ : Sg) (pst : List SV) (pσ : List (Option V)) (H : Hp) (D : Ends) (o : Fl), noals pst →
  Rep X.K G st σ pst pσ H → f st = some o → PostS X W G pst pσ D o → t D σ H
/-- a target: it takes a datum -/
def SG (tg : Expr) (ts : List Nat) (b : D → List SV → Option (List SV)) : Prop := ∃ g : TG, PG X tg g ∧ ∀ (G : Gh) (st : List SV) (σ : Sg) (pst : List SV) (pσ : List (Option V)) (H : Hp) (v : V) (d : D) (Q : L2.St → Hp → Prop) (st' : List SV),
  Rep X.K G st σ (.val d :: pst) (some v :: pσ) H → b d st = some st' → (∀ σ', σ'.length = σ.length → (∀ i, i ∉ ts → σ'[i]? = σ[i]?) → Rep X.K G st' σ' pst pσ H → Q σ' H) → g v σ H Q
end
theorem noals.al {pst : List SV} (h : noals pst) (i : Nat) : SV.al i ∉ pst := fun z => by have := h _ z; cases this
theorem noals_cons {s : SV} {pst : List SV} (h : s.noal = true) (hp : noals pst) : noals (s :: pst) := fun x hx => by
  rcases List.mem_cons.mp hx with e | hx
  · rw [e]; exact h
  · exact hp x hx
def Fl.bind {α : Type} (o : Option (Out α)) (k : α → List SV → Option Fl) : Option Fl := match o with
  | none => none
  | some (.ok a st) => k a st
  | some (.ex x st) => some (.ex x st)
@[simp] theorem Fl.bind_ok {α : Type} (a : α) (st : List SV) (k : α → List SV → Option Fl) : Fl.bind (some (.ok a st)) k = k a st := rfl
@[simp] theorem Fl.bind_ex {α : Type} (x : Ex) (st : List SV) (k : α → List SV → Option Fl) : Fl.bind (some (.ex x st)) k = some (.ex x st) := rfl
@[simp] theorem Fl.bind_none {α : Type} (k : α → List SV → Option Fl) : Fl.bind none k = none := rfl
theorem Fl.bind_some {α : Type} {o : Option (Out α)} {k : α → List SV → Option Fl} {r : Fl} (h : Fl.bind o k = some r) :
    (∃ a st, o = some (.ok a st) ∧ k a st = some r) ∨ ∃ x st, o = some (.ex x st) ∧ r = .ex x st := by
  cases o with
  | none => cases h
  | some o =>
    cases o with
    | ok a st => exact .inl ⟨a, st, rfl, h⟩
    | ex x st => cases h; exact .inr ⟨x, st, rfl, rfl⟩
section
variable {X : Cx} {W : WX}
def nilS : SF := fun st => some (.nx st)
def seqS (f g : SF) : SF := fun st => match f st with
  | some (.nx st1) => g st1
  | o => o
theorem ss_nil : SS X W [] nilS := ⟨_, pss_nil, fun G st σ pst pσ H D o na R hf post => by cases hf; exact post σ H R⟩
theorem ss_one {s : Stmt} {f : SF} (h : S1 X W s f) : SS X W [s] f := by
  obtain ⟨t, p, q⟩ := h
  exact ⟨t, pss_one p, q⟩
theorem ss_cons {s : Stmt} {ss : List Stmt} {f g : SF} (h : S1 X W s f) (h2 : SS X W ss g) : SS X W (s :: ss) (seqS f g) := by
  obtain ⟨t, p, q⟩ := h
  obtain ⟨t2, p2, q2⟩ := h2
  refine ⟨_, pss_cons p p2, fun G st σ pst pσ H D o na R hf post => ?_⟩
  unfold seqS at hf
  show t { D with nx := t2 D } σ H
  cases e : f st with
  | none => rw [e] at hf; cases hf
  | some fl =>
    rw [e] at hf
    cases fl with
    | nx st1 => exact q G st σ pst pσ H _ _ na R e fun σ' H' R' => q2 G st1 σ' pst pσ H' D o na R' hf post
    | rt r st1 => cases hf; exact q G st σ pst pσ H _ _ na R e post
    | bk st1 => cases hf; exact q G st σ pst pσ H _ _ na R e post
    | ct st1 => cases hf; exact q G st σ pst pσ H _ _ na R e post
    | ex x st1 => cases hf; exact q G st σ pst pσ H _ _ na R e post
theorem s1_pass {pos} : S1 X W (.Pass pos) nilS := ⟨_, ps_pass, fun G st σ pst pσ H D o na R hf post => by cases hf; exact post σ H R⟩
def ifF (c : SM Bool) (f g : SF) : SF := fun st => Fl.bind (c st) fun b st1 => if b then f st1 else g st1
theorem s1_if {c : Expr} {a b : List Stmt} {fc : SM Bool} {f g : SF} {pos : Pos} (hc : ST X W c fc) (ha : SS X W a f) (hb : SS X W b g) : S1 X W (.If c a b pos) (ifF fc f g) := by
  obtain ⟨t, p, s⟩ := hc
  obtain ⟨t1, p1, s1⟩ := ha
  obtain ⟨t2, p2, s2⟩ := hb
  refine ⟨_, ps_if p p1 p2, fun G st σ pst pσ H D o na R hf post => ?_⟩
  unfold ifF at hf
  rcases Fl.bind_some hf with ⟨r1, st1, h1, hf⟩ | ⟨x, st1, h1, rfl⟩
  · refine s G st σ pst pσ H _ _ R h1 fun H1 R1 => ?_
    cases r1 with
    | true => exact iteT (s1 G st1 σ pst pσ H1 D o na R1 hf post)
    | false => exact iteF (s2 G st1 σ pst pσ H1 D o na R1 hf post)
  · exact s G st σ pst pσ H _ _ R h1 (post σ)
def exprF (f : SM SV) : SF := fun st => Fl.bind (f st) fun _ st1 => some (.nx st1)
theorem s1_expr {e : Expr} {f : SM SV} {pos : Pos} (h : SE X W e f) (hs : swapsWith e none pos.line X.env = pure false := by rfl) : S1 X W (.Expr e pos) (exprF f) := by
  obtain ⟨t, p, s⟩ := h
  refine ⟨_, ps_expr p hs, fun G st σ pst pσ H D o na R hf post => ?_⟩
  unfold exprF at hf
  rcases Fl.bind_some hf with ⟨r1, st1, h1, hf⟩ | ⟨x, st1, h1, rfl⟩
  · cases hf; exact s G st σ pst pσ H _ _ R h1 fun v H1 R1 => post σ H1 R1.pop
  · exact s G st σ pst pσ H _ _ R h1 (post σ)

/-! ## a value settles -/
def settle (st : List SV) (r : SV) : Option (SV × List SV) := match r with
  | .val d => some (.val d, st)
  | .own false ds => some (.val (.list ds), st)
  | .own2 dss => some (.val (.list (dss.map PyData.list)), st)
  | .al i => match st[i]? with
    | some (.own false ds) => some (.val (.list ds), st.set i (.val (.list ds)))
    | some (.own2 dss) => some (.val (.list (dss.map PyData.list)), st.set i (.val (.list (dss.map PyData.list))))
    | _ => none
  | _ => none
end
section
variable {K : PySem.W.Frag} {G : Gh} {fs fp : List (List Addr)} {st : List SV} {σ : Sg} {pst : List SV} {pσ : List (Option V)} {H H' : Hp}
/-- slot i's list is owned by nobody from now on -/
theorem RepF.frzSlot {i : Nat} {s : SV} {f : List Addr} {d : D} {v : Option V} (h : RepF K G fs (([] : List Addr) :: fp) st σ (.al i :: pst) (v :: pσ) H) (na : noals pst) (hi : st[i]? = some s) (hf : fs[i]? = some f)
    (hv : ∀ Z : Addr → Prop, (∀ a, Z a → Zf G (fs.flatten ++ fp.flatten) a) → (∀ a ∈ f, ¬ Z a) → ∀ x, σ[i]? = some (some x) → RV Z H x d) : Rep K G (st.set i (.val d)) σ (.val d :: pst) (v :: pσ) H := by
  obtain ⟨hs1, hp1, nd, fr, f1, f2, f3, f4, f5⟩ := h
  cases hp1 with
  | cons hp1 hp2 =>
    obtain ⟨_, x, rfl, ex⟩ := hp1
    have nd : (fs.flatten ++ fp.flatten).Nodup := nd
    have fr : ∀ a ∈ fs.flatten ++ fp.flatten, (G.wr a ∨ G.H0 a = none) ∧ ¬ G.zx a := fr
    obtain ⟨nd', sub⟩ := flat_move (f := []) (P := fp.flatten) hf nd
    have k : Keep (Zf G (fs.flatten ++ fp.flatten)) (Zf G ((fs.set i []).flatten ++ fp.flatten)) H H := .sub fun a _ z => z.imp id (sub a)
    have nz : ∀ a ∈ f, ¬ Zf G ((fs.set i []).flatten ++ fp.flatten) a := fun a ha z => by
      rcases z with z | z
      · exact (fr a (List.mem_append_left _ (mem_ff (List.mem_of_getElem? hf) ha))).2 z
      · obtain ⟨l1, l2, e1, e2⟩ := flat_set (f := []) hf
        rw [e2] at z
        rw [e1] at nd
        simp only [List.flatten_append, List.flatten_cons, List.nil_append] at nd z
        have q := nd
        rw [List.append_assoc, List.append_assoc] at q
        obtain ⟨_, q2, q3⟩ := List.nodup_append.mp q
        obtain ⟨_, _, q4⟩ := List.nodup_append.mp q2
        simp only [List.mem_append] at z
        rcases z with (z | z) | z
        · exact q3 a z a (List.mem_append_left _ ha) rfl
        · exact q4 a ha a (List.mem_append_left _ z) rfl
        · exact q4 a ha a (List.mem_append_right _ z) rfl
    have rv := hv _ (fun a z => z.imp id (sub a)) nz x ex
    refine ⟨fs.set i [], [] :: fp, ⟨?_, .cons ⟨rfl, x, rfl, rv⟩ (hp2.imp fun a b c _ q => q.frame k fun _ _ => rfl), nd', fun a ha => fr a (sub a ha), f1, f2, f3, fun s hs => (List.mem_or_eq_of_mem_set hs).elim (f4 s) fun e => by rw [e]; rfl, fun j hj => ?_⟩⟩
    · have q := (hs1.imp (Q := SlotOk K G (Zf G ((fs.set i []).flatten ++ fp.flatten)) H σ) fun a b c _ q => q.frame k fun _ _ => rfl).set (a := some x) (b := .val d) (c := []) ⟨rfl, x, rfl, rv⟩ i
      rw [set_same ex] at q
      exact q
    · rcases List.mem_cons.mp hj with e | hj
      · cases e
      · have := na _ hj; cases this
theorem Rep.settled {r r' : SV} {st' : List SV} {v : Option V} (h : Rep K G st σ (r :: pst) (v :: pσ) H) (na : noals pst) (e : settle st r = some (r', st')) : Rep K G st' σ (r' :: pst) (v :: pσ) H ∧ ∃ d, r' = .val d := by
  cases r with
  | val d => cases e; exact ⟨h, _, rfl⟩
  | own io ds =>
    cases io with
    | false => cases e; exact ⟨h.frzTop, _, rfl⟩
    | true => cases e
  | own2 dss => cases e; exact ⟨h.frzTop2, _, rfl⟩
  | scr ns => cases e
  | exc _ _ _ => cases e
  | dct _ _ => cases e
  | emp => cases e
  | al i =>
    obtain ⟨fs, f, fp, F, q⟩ := h.top
    obtain ⟨rfl, x, rfl, ex⟩ := q
    have e : (match st[i]? with
      | some (.own false ds) => some (SV.val (.list ds), st.set i (.val (.list ds)))
      | some (.own2 dss) => some (.val (.list (dss.map PyData.list)), st.set i (.val (.list (dss.map PyData.list))))
      | _ => none) = some (r', st') := e
    cases es : st[i]? with
    | none => rw [es] at e; cases e
    | some s =>
      rw [es] at e
      obtain ⟨v', f', e1, e2, q⟩ := F.slots.get es
      rw [ex] at e1
      cases e1
      cases s with
      | emp => cases e
      | val d => cases e
      | al j => cases e
      | scr ns => cases e
      | exc _ _ _ => cases e
      | dct _ _ => cases e
      | own io ds =>
        cases io with
        | true => cases e
        | false =>
          cases e
          obtain ⟨p, vs, rfl, ev, hp, r, _⟩ := q
          cases ev
          refine ⟨F.frzSlot na es e2 fun Z hz hn y hy => ?_, _, rfl⟩
          rw [ex] at hy
          cases hy
          exact .lst hp (hn p (by simp)) (RVs.frame (.sub fun a _ z => hz a z) _ _ r)
      | own2 dss =>
        cases e
        obtain ⟨p, qs, rfl, ev, hp, r⟩ := q
        cases ev
        refine ⟨F.frzSlot na es e2 fun Z hz hn y hy => ?_, _, rfl⟩
        rw [ex] at hy
        cases hy
        exact .lst hp (hn p (by simp)) (Rows.val (Rows.frame (.sub fun a _ z => hz a z) (fun _ _ => rfl) r) fun q hq => hn q (by simp [hq]))
end
section
variable {X : Cx} {W : WX}
def retF (f : SM SV) : SF := fun st => Fl.bind (f st) fun r st1 => match r with
  | .own false ds => some (.rt (.own false ds) st1)
  | .own2 dss => some (.rt (.own2 dss) st1)
  | r => match settle st1 r with
    | some (r', st2) => some (.rt r' st2)
    | none => none
theorem s1_ret {e : Expr} {f : SM SV} {pos : Pos} (h : SE X W e f) : S1 X W (.Return (some e) pos) (retF f) := by
  obtain ⟨t, p, s⟩ := h
  refine ⟨_, ps_ret p, fun G st σ pst pσ H D o na R hf post => ?_⟩
  unfold retF at hf
  rcases Fl.bind_some hf with ⟨r1, st1, h1, hf⟩ | ⟨x, st1, h1, rfl⟩
  · refine s G st σ pst pσ H _ _ R h1 fun v H1 R1 => ?_
    split at hf
    · cases hf; exact post v σ H1 R1
    · cases hf; exact post v σ H1 R1
    · split at hf
      · rename_i es
        cases hf
        exact post v σ H1 (R1.settled na es).1
      · cases hf
  · exact s G st σ pst pσ H _ _ R h1 (post σ)
def retN : SF := fun st => some (.rt (.val .none) st)
theorem s1_retN {pos : Pos} : S1 X W (.Return none pos) retN := ⟨_, ps_retN, fun G st σ pst pσ H D o na R hf post => by cases hf; exact post .non σ H R.pushN⟩

/-! ## targets, assignments -/
/-- the slot's own list is not lost in a target -/
def bindN (i : Nat) (d : D) (st : List SV) : Option (List SV) := match st[i]? with
  | some s => if s.isOwn = false then some (st.set i (.val d)) else none
  | none => none
theorem bindN_some {i : Nat} {d : D} {st st' : List SV} (h : bindN i d st = some st') : ∃ s, st[i]? = some s ∧ s.isOwn = false ∧ st' = st.set i (.val d) := by
  unfold bindN at h
  split at h
  · rename_i s e
    split at h
    · rename_i q; cases h; exact ⟨s, e, q, rfl⟩
    · cases h
  · cases h
theorem Rep.setN {K : PySem.W.Frag} {G : Gh} {st st' : List SV} {σ : Sg} {pst : List SV} {pσ : List (Option V)} {H : Hp} {i : Nat} {d : D} {v : V} (h : Rep K G st σ (.val d :: pst) (some v :: pσ) H) (e : bindN i d st = some st') : Rep K G st' (σ.set i (some v)) pst pσ H := by
  obtain ⟨s, e1, e2, rfl⟩ := bindN_some e
  obtain ⟨fs, fp, F⟩ := id h
  refine h.setTop (List.getElem?_eq_some_iff.mp e1).1 rfl fun hm => ?_
  obtain ⟨s', e3, e4⟩ := F.alk i (List.mem_cons_of_mem _ hm)
  rw [e1] at e3
  cases e3
  rw [e2] at e4; cases e4
theorem sg_name {i : Nat} {tg : Expr} (h : PG X tg (gName i)) : SG X tg [i] (bindN i) := by
  refine ⟨_, h, fun G st σ pst pσ H v d Q st' R e post => ?_⟩
  exact post _ List.length_set (fun j hj => List.getElem?_set_ne (fun e => hj (by simp [e]))) (R.setN e)
def bindL : List Nat → List D → List SV → Option (List SV)
  | [], [], st => some st
  | i :: is, d :: ds, st => match bindN i d st with
    | some st1 => bindL is ds st1
    | none => none
  | _, _, _ => none
def bindT (is : List Nat) (d : D) (st : List SV) : Option (List SV) := match d with
  | .tuple ds => bindL is ds st
  | _ => none
/-- several targets -/
def SGs (X : Cx) (tgs : List Expr) (ts : List Nat) : Prop := ∃ g : TGs, PGs X tgs g ∧ ∀ (G : Gh) (st : List SV) (σ : Sg) (pst : List SV) (pσ : List (Option V)) (H : Hp) (vs : List V) (ds : List D) (Q : L2.St → Hp → Prop) (st' : List SV),
  Rep X.K G st σ (ds.map SV.val ++ pst) (vs.map some ++ pσ) H → ds.length = vs.length → bindL ts ds st = some st' → (∀ σ', σ'.length = σ.length → (∀ i, i ∉ ts → σ'[i]? = σ[i]?) → Rep X.K G st' σ' pst pσ H → Q σ' H) → g vs σ H Q
theorem noals_vals (ds : List D) {pst : List SV} (na : noals pst) : noals (ds.map SV.val ++ pst) := fun s hs => by
  rcases List.mem_append.mp hs with hs | hs
  · obtain ⟨d, _, rfl⟩ := List.mem_map.mp hs; rfl
  · exact na s hs
theorem sgs_nil : SGs X [] [] := by
  refine ⟨_, pgs_nil, fun G st σ pst pσ H vs ds Q st' R hl e post => ?_⟩
  cases ds with
  | nil => cases vs with
    | nil => cases e; exact ⟨rfl, post σ rfl (fun _ _ => rfl) R⟩
    | cons _ _ => cases hl
  | cons _ _ => cases e
theorem sgs_cons {e : Expr} {es : List Expr} {i : Nat} {is : List Nat} (h1 : PG X e (gName i)) (h2 : SGs X es is)
    (hs : (assignEach (e :: es) X.env).map (·.2) = assign e X.env :: (assignEach es X.env).map (·.2) := by rfl) : SGs X (e :: es) (i :: is) := by
  obtain ⟨g, p, q⟩ := h2
  refine ⟨_, pgs_cons h1 p hs, fun G st σ pst pσ H vs ds Q st' R hl e post => ?_⟩
  cases ds with
  | nil => cases e
  | cons d ds =>
    cases vs with
    | nil => cases hl
    | cons v vs =>
      have e : (match bindN i d st with | some st1 => bindL is ds st1 | none => none) = some st' := e
      cases eb : bindN i d st with
      | none => rw [eb] at e; cases e
      | some st1 =>
        rw [eb] at e
        refine ⟨v, vs, rfl, ?_⟩
        show g vs (σ.set i (some v)) H Q
        refine q G _ _ pst pσ H vs ds Q st' (R.setN eb) (by simpa using hl) e fun σ' hl' hσ R' => post σ' (hl'.trans List.length_set) (fun j hj => ?_) R'
        rw [hσ j (fun h => hj (List.mem_cons_of_mem _ h)), List.getElem?_set_ne (fun e => hj (by simp [e]))]
theorem RepF.pushAll {K : PySem.W.Frag} {G : Gh} {fs : List (List Addr)} {st : List SV} {σ : Sg} {H : Hp} : ∀ {ds : List D} {vs : List V} {fp : List (List Addr)} {pst : List SV} {pσ : List (Option V)}, RepF K G fs fp st σ pst pσ H → RVs (Zf G (fs.flatten ++ fp.flatten)) H vs ds →
    ∃ fp', RepF K G fs fp' st σ (ds.map SV.val ++ pst) (vs.map some ++ pσ) H ∧ fp'.flatten = fp.flatten
  | [], _, fp, pst, pσ, h, r => by cases r; exact ⟨fp, h, rfl⟩
  | d :: ds, _, fp, pst, pσ, h, r => by
    cases r with
    | cons r1 r2 =>
      obtain ⟨fp', h', e⟩ := RepF.pushAll (ds := ds) h r2
      refine ⟨[] :: fp', h'.pushv ?_, by rw [List.flatten_cons, e]; rfl⟩
      rw [e]; exact r1
theorem sg_tup {es : List Expr} {k : Nat} {is : List Nat} {pos : Pos} (hc : X.calm = true) (h : SGs X es is)
    (hn : (assignEach es X.env).length = is.length := by rfl) (hst : (assignEach es X.env).findIdx? (·.1) = none := by rfl) : SG X (.Tuple es k pos) is (bindT is) := by
  obtain ⟨g, p, q⟩ := h
  refine ⟨_, pg_tup hc p hn hst, fun G st σ pst pσ H v d Q st' R e post => ?_⟩
  unfold bindT at e
  split at e
  · rename_i ds
    obtain ⟨fs, f, fp, F, q1⟩ := R.top
    obtain ⟨rfl, x, ex, r⟩ := q1
    cases ex
    cases r with
    | @tup a vs _ h1 h2 h3 =>
      have hl : ds.length = is.length := by
        clear q post hn p h3 R F
        revert e
        have : ∀ (is : List Nat) (ds : List D) (st : List SV), bindL is ds st = some st' → ds.length = is.length := by
          intro is
          induction is with
          | nil => intro ds st e; cases ds with
            | nil => rfl
            | cons _ _ => cases e
          | cons i is ih => intro ds st e; cases ds with
            | nil => cases e
            | cons d ds =>
              have e : (match bindN i d st with | some st1 => bindL is ds st1 | none => none) = some st' := e
              cases eb : bindN i d st with
              | none => rw [eb] at e; cases e
              | some st1 => rw [eb] at e; simp [ih ds st1 e]
        exact this is ds st
      refine ⟨a, vs, rfl, SqT.of h1, by rw [h3.length, hl], ?_⟩
      obtain ⟨fp', F', _⟩ := RepF.pushAll F h3
      refine q G st σ (.val (.tuple ds) :: pst) (some (.ref a) :: pσ) H vs ds Q st' ⟨fs, fp', F'⟩ h3.length.symm e fun σ' hl hσ R' => post σ' hl hσ R'.pop
  · cases e
/-- x = e, the value settles -/
def asgF (b : D → List SV → Option (List SV)) (f : SM SV) : SF := fun st => Fl.bind (f st) fun r st1 => match settle st1 r with
  | some (.val d, st2) => match b d st2 with
    | some st3 => some (.nx st3)
    | none => none
  | _ => none
theorem asg_core {te : TE} {g : TG} {ts : List Nat} {b : D → List SV → Option (List SV)} {f : SM SV} {s : Stmt} (hp : PS X s (tAsg te g))
    (hf' : ∀ (G : Gh) (st : List SV) (σ : Sg) (pst : List SV) (pσ : List (Option V)) (H : Hp) (Q : VK) (o : Out SV), Rep X.K G st σ pst pσ H → f st = some o → PostE X W G σ pst pσ Q o → te σ H Q)
    (hg : ∀ (G : Gh) (st : List SV) (σ : Sg) (pst : List SV) (pσ : List (Option V)) (H : Hp) (v : V) (d : D) (Q : L2.St → Hp → Prop) (st' : List SV),
      Rep X.K G st σ (.val d :: pst) (some v :: pσ) H → b d st = some st' → (∀ σ', σ'.length = σ.length → (∀ i, i ∉ ts → σ'[i]? = σ[i]?) → Rep X.K G st' σ' pst pσ H → Q σ' H) → g v σ H Q) : S1 X W s (asgF b f) := by
  refine ⟨_, hp, fun G st σ pst pσ H D o na R hf post => ?_⟩
  unfold asgF at hf
  rcases Fl.bind_some hf with ⟨r1, st1, h1, hf⟩ | ⟨x, st1, h1, rfl⟩
  · refine hf' G st σ pst pσ H _ _ R h1 fun v H1 R1 => ?_
    split at hf
    · rename_i d st2 es
      split at hf
      · rename_i st3 eb
        cases hf
        exact hg G st2 σ pst pσ H1 v d _ st3 (R1.settled na es).1 eb fun σ' _ _ R' => post σ' H1 R'
      · cases hf
    · cases hf
  · exact hf' G st σ pst pσ H _ _ R h1 (post σ)
theorem s1_asg {tg e : Expr} {ts : List Nat} {b : D → List SV → Option (List SV)} {f : SM SV} {pos : Pos} (he : SE X W e f) (hg : SG X tg ts b) (hs : swapsWithSole [tg] e pos.line X.env = pure false := by rfl) (hw : swappedStores [tg] e X.env = pure none := by rfl)
    (h1 : (assignEach [tg] X.env).map (·.2) = [assign tg X.env] := by rfl) : S1 X W (.Assign [tg] e pos) (asgF b f) := by
  obtain ⟨t, p, s⟩ := he
  obtain ⟨g, pg, sg⟩ := hg
  exact asg_core (ps_asg p pg hs hw h1) s sg
/-- x = e, a new list stays x's own -/
def asgO (i : Nat) (f : SM SV) : SF := fun st => Fl.bind (f st) fun r st1 => if i < st1.length then match r with
  | .own false ds => some (.nx (st1.set i (.own false ds)))
  | .own2 dss => some (.nx (st1.set i (.own2 dss)))
  | r => match settle st1 r with
    | some (r', st2) => if i < st2.length then some (.nx (st2.set i r')) else none
    | none => none else none
theorem asgO_core {te : TE} {i : Nat} {f : SM SV} {s : Stmt} (hp : PS X s (tAsg te (gName i)))
    (hf' : ∀ (G : Gh) (st : List SV) (σ : Sg) (pst : List SV) (pσ : List (Option V)) (H : Hp) (Q : VK) (o : Out SV), Rep X.K G st σ pst pσ H → f st = some o → PostE X W G σ pst pσ Q o → te σ H Q) : S1 X W s (asgO i f) := by
  refine ⟨_, hp, fun G st σ pst pσ H D o na R hf post => ?_⟩
  unfold asgO at hf
  rcases Fl.bind_some hf with ⟨r1, st1, h1, hf⟩ | ⟨x, st1, h1, rfl⟩
  · refine hf' G st σ pst pσ H _ _ R h1 fun v H1 R1 => ?_
    show D.nx (σ.set i (some v)) H1
    split at hf
    · rename_i hi
      split at hf
      · cases hf; exact post _ H1 (R1.setTop hi rfl (na.al i))
      · cases hf; exact post _ H1 (R1.setTop hi rfl (na.al i))
      · split at hf
        · rename_i es
          obtain ⟨R2, d, rfl⟩ := R1.settled na es
          split at hf
          · rename_i hi2
            cases hf
            exact post _ H1 (R2.setTop hi2 rfl (na.al i))
          · cases hf
        · cases hf
    · cases hf
  · exact hf' G st σ pst pσ H _ _ R h1 (post σ)
theorem s1_asgO {i : Nat} {tg e : Expr} {f : SM SV} {pos : Pos} (he : SE X W e f) (hg : PG X tg (gName i)) (hs : swapsWithSole [tg] e pos.line X.env = pure false := by rfl) (hw : swappedStores [tg] e X.env = pure none := by rfl)
    (h1 : (assignEach [tg] X.env).map (·.2) = [assign tg X.env] := by rfl) : S1 X W (.Assign [tg] e pos) (asgO i f) := by
  obtain ⟨t, p, s⟩ := he
  exact asgO_core (ps_asg p hg hs hw h1) s
/-- x op= e, x an int -/
def augF (i : Nat) (g : Int → Int → Option Int) (f : SM SV) : SF := fun st => match st[i]? with
  | some (.val (.int n)) => Fl.bind (f st) fun r st1 => match r with
    | .val (.int m) => match g n m with
      | some k => if i < st1.length then some (.nx (st1.set i (.val (.int k)))) else none
      | none => none
    | _ => none
  | _ => none
theorem s1_aug {i : Nat} {e : Expr} {s : Stmt} {f : SM SV} {g : Int → Int → Option Int} {ti : TIp} (hr : ∀ n m k H Q, g n m = some k → Q (.int k) H → ti (.int n) (.int m) H Q) (mk : ∀ te, PE X e te → PS X s (tAug i te ti)) (he : SE X W e f) : S1 X W s (augF i g f) := by
  obtain ⟨t, p, q⟩ := he
  refine ⟨_, mk _ p, fun G st σ pst pσ H D o na R hf post => ?_⟩
  unfold augF at hf
  split at hf
  · rename_i n en
    obtain ⟨fs, fp, F⟩ := id R
    obtain ⟨v, f', e1, e2, q1⟩ := F.slots.get en
    obtain ⟨_, x, rfl, r⟩ := q1
    cases r
    refine ⟨_, e1, ?_⟩
    rcases Fl.bind_some hf with ⟨r1, st1, h1, hf⟩ | ⟨x, st1, h1, rfl⟩
    · refine q G st σ pst pσ H _ _ R h1 fun v H1 R1 => ?_
      split at hf
      · rename_i m
        split at hf
        · rename_i k ek
          split at hf
          · rename_i hi
            cases hf
            have ev := R1.isI
            subst ev
            refine hr n m k H1 _ ek (post _ H1 ?_)
            exact (R1.pop.pushI k).setTop hi rfl (na.al i)
          · cases hf
        · cases hf
      · cases hf
    · exact q G st σ pst pσ H _ _ R h1 (post σ)
  · cases hf
def addG (n m : Int) : Option Int := some (n + m)
def subG (n m : Int) : Option Int := some (n - m)
def mulG (n m : Int) : Option Int := if mulOk n m then some (n * m) else none
def ipMul : TIp := fun x y H Q => ∃ i j, x = .int i ∧ y = .int j ∧ (CMul i j ∨ CMulW i j) ∧ Q (.int (i * j)) H
theorem ip_mul : PIp X .Mult ipMul := by
  intro pins s σ H x y v u Q I r1 r2 h
  obtain ⟨i, j, e1, e2, c, q⟩ := h
  subst e1; subst e2
  obtain ⟨t, rfl⟩ := r1
  obtain ⟨t', rfl⟩ := r2
  exact imul_int ⟨.int _, H, I.tok _, ⟨_, rfl⟩, q⟩ (c.elim CMul.ok CMulW.ok)
theorem s1_augAdd {i : Nat} {x : Str} {e : Expr} {f : SM SV} {pos pos' : Pos} (hN : X.N.Nodup) (hi : X.N[i]? = some x) (hx : Loc X.env.scope x) (he : SE X W e f) (hf : X.fn x = true ∨ X.env.scope.names.lookup x = some .local := by first | exact .inl rfl | exact .inr rfl | assumption) :
    S1 X W (.AugAssign (.Name x pos') .Add e pos) (augF i addG f) :=
  s1_aug (ti := ipI fun i j => i + j) (fun n m k H Q ek q => by cases ek; exact ⟨n, m, rfl, rfl, q⟩) (fun te p => ps_aug hN hi hx p ip_add hf) he
theorem s1_augSub {i : Nat} {x : Str} {e : Expr} {f : SM SV} {pos pos' : Pos} (hN : X.N.Nodup) (hi : X.N[i]? = some x) (hx : Loc X.env.scope x) (he : SE X W e f) (hf : X.fn x = true ∨ X.env.scope.names.lookup x = some .local := by first | exact .inl rfl | exact .inr rfl | assumption) :
    S1 X W (.AugAssign (.Name x pos') .Sub e pos) (augF i subG f) :=
  s1_aug (ti := ipI fun i j => i - j) (fun n m k H Q ek q => by cases ek; exact ⟨n, m, rfl, rfl, q⟩) (fun te p => ps_aug hN hi hx p ip_sub hf) he
theorem s1_augMul {i : Nat} {x : Str} {e : Expr} {f : SM SV} {pos pos' : Pos} (hN : X.N.Nodup) (hi : X.N[i]? = some x) (hx : Loc X.env.scope x) (he : SE X W e f) (hf : X.fn x = true ∨ X.env.scope.names.lookup x = some .local := by first | exact .inl rfl | exact .inr rfl | assumption) :
    S1 X W (.AugAssign (.Name x pos') .Mult e pos) (augF i mulG f) :=
  s1_aug (ti := ipMul) (fun n m k H Q ek q => by
    unfold mulG at ek
    split at ek
    · rename_i c; cases ek; exact ⟨n, m, rfl, rfl, mulOk_or c, q⟩
    · cases ek) (fun te p => ps_aug hN hi hx p ip_mul hf) he

/-! ## while -/
def whileN : Nat → SM Bool → SF → SF
  | 0, _, _, _ => none
  | n + 1, c, b, st => match c st with
    | none => none
    | some (.ex x st1) => some (.ex x st1)
    | some (.ok false st1) => some (.nx st1)
    | some (.ok true st1) => match b st1 with
      | some (.nx st2) => whileN n c b st2
      | some (.ct st2) => whileN n c b st2
      | some (.bk st2) => some (.nx st2)
      | o => o
theorem whileN_mono (c : SM Bool) (b : SF) : ∀ (n : Nat) (st : List SV) (o : Fl), whileN n c b st = some o → whileN (n + 1) c b st = some o
  | 0, st, o, h => by cases h
  | n + 1, st, o, h => by
    rw [whileN] at h ⊢
    cases ec : c st with
    | none => rw [ec] at h; cases h
    | some oc =>
      rw [ec] at h
      cases oc with
      | ex x st1 => exact h
      | ok k st1 =>
        cases k with
        | false => exact h
        | true =>
          dsimp only at h ⊢
          cases eb : b st1 with
          | none => rw [eb] at h; cases h
          | some ob =>
            rw [eb] at h
            cases ob with
            | nx st2 => exact whileN_mono c b n st2 o h
            | ct st2 => exact whileN_mono c b n st2 o h
            | bk st2 => exact h
            | rt r st2 => exact h
            | ex x st2 => exact h
theorem whileN_le (c : SM Bool) (b : SF) {n m : Nat} (h : n ≤ m) {st : List SV} {o : Fl} (e : whileN n c b st = some o) : whileN m c b st = some o := by
  induction h with
  | refl => exact e
  | step _ ih => exact whileN_mono c b _ _ _ ih
open Classical in
noncomputable def whileF (c : SM Bool) (b : SF) : SF := fun st => if h : ∃ n o, whileN n c b st = some o then some (Classical.choose (Classical.choose_spec h)) else none
theorem whileF_of {c : SM Bool} {b : SF} {st : List SV} {n : Nat} {o : Fl} (h : whileN n c b st = some o) : whileF c b st = some o := by
  have hx : ∃ n o, whileN n c b st = some o := ⟨n, o, h⟩
  unfold whileF
  rw [dif_pos hx]
  have q := Classical.choose_spec (Classical.choose_spec hx)
  have q1 := whileN_le c b (Nat.le_max_left n (Classical.choose hx)) h
  have q2 := whileN_le c b (Nat.le_max_right n (Classical.choose hx)) q
  rw [q1] at q2
  exact q2.symm
theorem whileF_some {c : SM Bool} {b : SF} {st : List SV} {o : Fl} (h : whileF c b st = some o) : ∃ n, whileN n c b st = some o := by
  unfold whileF at h
  split at h
  · rename_i hx
    cases h
    exact ⟨_, Classical.choose_spec (Classical.choose_spec hx)⟩
  · cases h
theorem s1_while {c : Expr} {body : List Stmt} {fc : SM Bool} {fb : SF} {pos : Pos} (hp : PassesOwn (model X.prog X.w) X.A X.env X.xe) (hc : ST X W c fc) (hb : SS X W body fb) : S1 X W (.While c body [] pos) (whileF fc fb) := by
  obtain ⟨t, p, s⟩ := hc
  obtain ⟨t2, p2, s2⟩ := hb
  refine ⟨_, ps_while hp p p2, fun G st σ pst pσ H D o na R hf post => ?_⟩
  obtain ⟨n, hf⟩ := whileF_some hf
  refine ⟨fun m σ H => ∃ st, Rep X.K G st σ pst pσ H ∧ whileN m fc fb st = some o, ⟨n, st, R, hf⟩, ?_⟩
  rintro m σ H ⟨st, R, hf⟩
  cases m with
  | zero => cases hf
  | succ m =>
    rw [whileN] at hf
    cases ec : fc st with
    | none => rw [ec] at hf; cases hf
    | some oc =>
      rw [ec] at hf
      refine s G st σ pst pσ H _ oc R ec ?_
      cases oc with
      | ex x st1 => cases hf; exact post σ
      | ok k st1 =>
        intro H1 R1
        cases k with
        | false => cases hf; exact iteF (post σ H1 R1)
        | true =>
          refine iteT ⟨fun σ H => ∃ st, Rep X.K G st σ pst pσ H ∧ whileN m fc fb st = some o, fun σ' H' q => ⟨m, Nat.lt_succ_self m, q⟩, ?_⟩
          dsimp only at hf
          cases eb : fb st1 with
          | none => rw [eb] at hf; cases hf
          | some ob =>
            rw [eb] at hf
            refine s2 G st1 σ pst pσ H1 _ ob na R1 eb ?_
            cases ob with
            | nx st2 => exact fun σ' H' R' => ⟨st2, R', hf⟩
            | ct st2 => exact fun σ' H' R' => ⟨st2, R', hf⟩
            | bk st2 => cases hf; exact post
            | rt r st2 => cases hf; exact post
            | ex x st2 => cases hf; exact post
end
end TK

/-! enumerate over a tuple -/
namespace PySem
open Sem (wp)
open AutoSeq1 (wpAny_loadPart')
theorem tk_enum_newT (l : Addr) (items : Array Value) (n : Nat) (dct : Option Addr) (sl : Array (Option Value)) :
    Meets (Builtin.«enumerate.__new__» ⟨[.type "enumerate", .ref l], []⟩) (fun _ R s => s.heap.get? l = some { cls := .type "tuple", dict := dct, data := .seq items n, slots := sl } ∧
      R (.ok (.ret (.ref (s.heap.push { cls := .type "tuple_iterator", data := .fields #[.ref l, .int 0 0] }).objs.size)))
        { s with heap := (s.heap.push { cls := .type "tuple_iterator", data := .fields #[.ref l, .int 0 0] }).push { cls := .type "enumerate", data := .fields #[.none, .bool false, .ref s.heap.objs.size, rawInt 0, .none, .none] } }) :=
  .of_wp fun prog w A R s h => by
    obtain ⟨hp, g, d, tk, os⟩ := s; obtain ⟨hl, h⟩ := h
    have hsub := sub_enumerate
    have hL : Heap.IsTuple (Shared.heap ⟨hp, g, d, tk, os⟩) l items := ⟨_, hl, rfl, n, rfl⟩
    wp_walk using wpAny_loadPart' hl
    refine wpAny_stack_any fun st => wpAny_pure ?_
    split
    · rename_i c _ _ _ _ _
      cases (c == Value.type "enumerate")
      · wp_walk using wpAny_loadPart' hl, wpAny_pyIter_tuple hL
        exact ⟨_, rfl, h⟩
      · wp_walk using wpAny_loadPart' hl, wpAny_pyIter_tuple hL
        exact ⟨_, rfl, h⟩
    · wp_walk using wpAny_loadPart' hl, wpAny_pyIter_tuple hL
      exact ⟨_, rfl, h⟩
section
variable {prog : Program} {w : World} {A : Around} {E : Value → Shared → Prop} {s : Shared}
theorem tk_call_enumerate_tup {l : Addr} {items : Array Value} {Q : Value → Shared → Prop} (hL : s.heap.IsTuple l items)
    (h : ∀ h', IsEnum h' (s.heap.objs.size + 1) s.heap.objs.size 0 .none → h'.IsTupleIter s.heap.objs.size l 0 → h'.objs.size = s.heap.objs.size + 2 →
      (∀ b o, s.heap.get? b = some o → h'.get? b = some o) → Q (.ref (s.heap.objs.size + 1)) { s with heap := h' }) :
    wpAny (model prog w) A (call (.type "enumerate") [.ref l]) Q E s := by
  obtain ⟨⟨c, dct, dt, sl⟩, hl, hc, n, hd⟩ := hL
  replace hc : c = .type "tuple" := hc
  replace hd : dt = .seq items n := hd
  subst hc hd
  refine callType_new F.called_enumerate (by decide) (F.typeCall_enumerate_1 _) (F.newCall_enumerate_1 _) (fun obj => F.args_object_init_2 obj _) F.entry_enumerate_new
    (tk_enum_newT l items n dct sl) ⟨hl, ?_⟩
  have hz : (s.heap.push { cls := .type "tuple_iterator", data := .fields #[.ref l, .int 0 0] }).objs.size = s.heap.objs.size + 1 := Heap.size_push ..
  show _ ∧ _
  rw [hz]
  have he : IsEnum ((s.heap.push { cls := .type "tuple_iterator", data := .fields #[.ref l, .int 0 0] }).push
      { cls := .type "enumerate", data := .fields #[.none, .bool false, .ref s.heap.objs.size, rawInt 0, .none, .none] }) (s.heap.objs.size + 1) s.heap.objs.size 0 .none := by
    have := Heap.get?_push_size (s.heap.push { cls := .type "tuple_iterator", data := .fields #[.ref l, .int 0 0] })
      (o := { cls := .type "enumerate", data := .fields #[.none, .bool false, .ref s.heap.objs.size, rawInt 0, .none, .none] }) rfl
    rw [hz] at this; exact this
  refine ⟨⟨_, he, rfl⟩, h _ he ⟨_, Heap.get?_push_of_some _ (Heap.get?_push_size _ rfl), rfl, rfl⟩ (by rw [Heap.size_push, hz]) fun b o x => Heap.get?_push_of_some _ (Heap.get?_push_of_some _ x)⟩
theorem tk_drawsT {A : Around} (hh : A.handled = none) (it l : Addr) (hne : l ≠ it) (items : Array Value) :
    Draws prog w A it [it, l] items.size (fun i x => items[i]? = some x) (fun i h => h.IsTupleIter it l i ∧ h.IsTuple l items) where
  live := fun i h st => let ⟨⟨o, e, _⟩, _⟩ := st; ⟨o, e⟩
  frame := fun i h h' st k => ⟨st.1.at fun o e => k it (by simp) o e, let ⟨o, e, r⟩ := st.2; ⟨o, k l (by simp) o e, r⟩⟩
  item := fun i s Q E hi st hQ => by
    have hx : items[i]? = some items[i] := by simp [hi]
    exact RZ.nextOf_tuple_item st.1 st.2 hx fun h' st' sb => hQ _ h' s.toks hx ⟨st', let ⟨o, e, r⟩ := st.2; ⟨o, (sb.2 l hne).trans e, r⟩⟩ sb
  done := fun s Q E st hE => RZ.nextOf_tuple_end hh st.1 st.2 (by simp) hE
end
end PySem
namespace TK
open PySem PySem.Spec PyProof.Rows L2
def IteT (K : PySem.W.Frag) (a : Addr) : It :=
  ⟨fun i H => ∃ (xs : List V) (x : V), SqT K H a xs ∧ xs[i]? = some x, fun i H v H' => ∃ T x, v = .ref T ∧ H T = none ∧ H' = upd H T (.tup [.int (i : Nat), x]) ∧ ∀ xs, SqT K H a xs → xs[i]? = some x, fun i H => ∃ xs : List V, SqT K H a xs ∧ xs.length ≤ i⟩
theorem turn_enumT {P : Program} {w : World} {K : PySem.W.Frag} {elts : List Expr} {kk : Nat} {tpos : Pos} (a e it : Addr) :
    Turn P w K (.Tuple elts kk tpos) (IteT K a) [e, it] e (fun i h => (∃ old, IsEnum h e it ((i : Nat) : Int) old) ∧ h.IsTupleIter it a i ∧ e ≠ it ∧ e ≠ a ∧ a ≠ it) where
  mem := by simp
  obj := fun i h st b hb => by
    obtain ⟨⟨old, he⟩, ⟨o, ho, hc, hd⟩, _⟩ := st
    have e' : b = e ∨ b = it := by simpa using hb
    rcases e' with z | z
    · rw [z]; exact ⟨_, he, fun v q => nomatch q⟩
    · rw [z]; exact ⟨o, ho, fun v q => by rw [hd] at q; cases q⟩
  keep := fun i h h' st k => let ⟨⟨old, he⟩, hi, hne⟩ := st; ⟨⟨old, k e (by simp) _ he⟩, hi.at fun o q => k it (by simp) o q, hne⟩
  item := by
    intro X hP hw hK hc i pins s σ H E I hf st hg
    subst hP hw hK
    obtain ⟨⟨old, he⟩, hit, hne, hea, hai⟩ := st
    obtain ⟨xs, x, hq, hx⟩ := hg
    obtain ⟨its, rv, p, hz⟩ := I.tuple hq
    obtain ⟨u, hu, ru⟩ := rv.get hx
    have hel : e < s.heap.objs.size := Heap.lt_size he
    have hil : it < s.heap.objs.size := by obtain ⟨_, q, _⟩ := hit; exact Heap.lt_size q
    have hlt : i < its.toArray.size := by
      have := (List.getElem?_eq_some_iff.mp hu).1
      simpa using this
    refine wpAny_pyNext_enum_itemD (tk_drawsT (A := X.A.in1) (I.ok.hd hc) it a hai its.toArray) he ⟨hit, p⟩ hlt hne (by simp [hne, hea]) fun x' h' tk hP ho st' hT hsz hk => ?_
    have hu' : its.toArray[i]? = some u := by simpa using hu
    rw [hu'] at hP
    cases hP
    refine ⟨_, rfl, wpAny_letOwnedTupleGo_enum (s := { s with heap := h', toks := tk + 1 }) ho fun h'' he' sb => ?_⟩
    have hT2 : h''.get? s.heap.objs.size = some { cls := .type "tuple", data := .seq #[.int i tk, u] } := (sb.2 _ (Nat.ne_of_gt hel)).trans hT
    have new : ObjOk X.prog X.w (upd H s.heap.objs.size (.tup [.int (i : Nat), x])) h'' s.heap.objs.size (.tup [.int (i : Nat), x]) :=
      ⟨by show 2 ≤ sizeLine; decide, [.int i tk, u], .cons ⟨_, rfl⟩ (.cons ru .nil), ⟨_, hT2, rfl, _, rfl⟩⟩
    have I1 : Inv X pins σ (upd H s.heap.objs.size (.tup [.int (i : Nat), x])) { s with heap := h'', toks := tk + 1 } :=
      I.turnedNew (ch := [e, it]) (fun b ob hb q => (sb.2 b (fun z => hb (by simp [z]))).trans (hk b ob (fun z => hb (by simp [z])) (fun z => hb (by simp [z])) q)) hf (Nat.le_refl _) new
    refine ⟨.ref s.heap.objs.size, _, I1, rfl, ⟨_, x, rfl, I.hok.fresh (Nat.le_refl _), rfl, fun ys hy => by rw [I.tuple_inj hy hq]; exact hx⟩, ⟨⟨u, ?_⟩, st'.1.at fun o q => (sb.2 it (Ne.symm hne)).trans q, hne, hea, hai⟩, fun b hb => ?_⟩
    · have e1 : ((i + 1 : Nat) : Int) = (i : Int) + 1 := by omega
      rw [e1]; exact he'
    · have hb' : b < s.heap.objs.size := by
        have e' : b = e ∨ b = it := by simpa using hb
        rcases e' with z | z
        · rw [z]; exact hel
        · rw [z]; exact hil
      rw [upd_ne (Nat.ne_of_lt hb')]
      exact (hf b hb).1
  done := by
    intro X hP hw hK hc i pins s σ H E I hf st hg
    subst hP hw hK
    obtain ⟨⟨old, he⟩, hit, hne, hea, hai⟩ := st
    obtain ⟨xs, hq, hx⟩ := hg
    obtain ⟨its, rv, p, hz⟩ := I.tuple hq
    obtain ⟨f0, f1, f2, f3, f4, f5⟩ := hf it (by simp)
    have hl := rv.length
    have hT : s.TypeIs (.ref e) "enumerate" := ⟨_, he, rfl⟩
    unfold pyNext
    refine wpAny_bind (wpAny_attempt (wpAny_callSpecial?_slot (name := Str.ofString "__next__") hT F.slot_enumerate_next
      (wpAny_call_entry F.slot_enumerate_next hT F.entry_enumerate_next ?_ (F.args_enumerate_next_1 _))))
    show wpAny _ _ (field (.ref e) 2 >>= _) _ _ _
    refine wpAny_bind (wpAny_field he rfl (x := .ref it) rfl ?_)
    refine wpAny_bind (RZ.nextOf_tuple_end (I.ok.hd hc) hit (show s.heap.IsTuple a its.toArray from p) (by simp; omega) fun h' x eb hx' => ?_)
    obtain ⟨o, ho, hcx⟩ := hx'
    refine wpAny_bind (wpAny_isInstance (T := "StopIteration") (b := true) ⟨o, ho, hcx⟩ isSubtype_stop ?_)
    exact wpAny_pure ⟨rfl, I.turned (t' := s.toks) (fun b o hb q => eb b o hb q) f0 f1 f3 f4 f5⟩
  self := fun A i s Q E st h => let ⟨⟨_, he⟩, _⟩ := st; wpAny_pyIter_enum he h
def iEnumA (K : PySem.W.Frag) (ta : TA) : TI := fun σ H R => ta σ H fun vs H1 => ∃ a xs, vs = [.ref a] ∧ ((SqL K H1 a xs ∧ R (Ite K a) H1) ∨ (SqT K H1 a xs ∧ R (IteT K a) H1))
theorem pi_enumA {X : Cx} {e : Expr} {ta : TA} {p pos tpos : Pos} {elts : List Expr} {kk : Nat} (hg : Gl X "enumerate") (hm : X.mg "enumerate" = none) (ha : PA X [e] ta) (hs : starEach [e] X.env = [(false, eval e X.env)] := by rfl) :
    PI X (.Tuple elts kk tpos) (.Call (.Name "enumerate" p) [e] [] pos) (iEnumA X.K ta) := by
  refine ⟨fun pins s σ H R I h => ?_⟩
  refine Call_ (ld_blt I hg hm boot_enumerate (PyProof.Rows.callWith_type1 (thn (ha.run pos pins s σ H _ I h) fun us s1 ⟨vs, H1, I1, r1, q1⟩ => ?_) hs rfl))
  obtain ⟨a, xs, ex, q⟩ := q1
  subst ex
  cases r1 with
  | cons r rr =>
    cases rr
    cases r
    rcases q with ⟨hq, q⟩ | ⟨hq, q⟩
    · obtain ⟨its, rv, p', hz⟩ := I1.list hq
      refine call_enumerate_list p'.isList fun h' he hit hsz hk => wpAny_pyIter_enum he ?_
      have I2 : Inv X pins σ H1 { s1 with heap := h' } := I1.kept (t' := s1.toks) hk
      refine ⟨s1.heap.objs.size + 1, [s1.heap.objs.size + 1, s1.heap.objs.size], _, _, H1, rfl, I2, turn_enum a (s1.heap.objs.size + 1) s1.heap.objs.size, ⟨⟨.none, he⟩, hit, Nat.succ_ne_self _⟩, fun b hb => ?_, q⟩
      have e' : b = s1.heap.objs.size + 1 ∨ b = s1.heap.objs.size := by simpa using hb
      have hle : s1.heap.objs.size ≤ b := by
        rcases e' with z | z
        · rw [z]; exact Nat.le_add_right _ _
        · rw [z]; exact Nat.le_refl _
      exact I1.fpOk hle (I1.hok.fresh hle)
    · obtain ⟨its, rv, p', hz⟩ := I1.tuple hq
      have hal : a < s1.heap.objs.size := p'.lt
      refine tk_call_enumerate_tup (show s1.heap.IsTuple a its.toArray from p') fun h' he hit hsz hk => wpAny_pyIter_enum he ?_
      have I2 : Inv X pins σ H1 { s1 with heap := h' } := I1.kept (t' := s1.toks) hk
      refine ⟨s1.heap.objs.size + 1, [s1.heap.objs.size + 1, s1.heap.objs.size], _, _, H1, rfl, I2, turn_enumT a (s1.heap.objs.size + 1) s1.heap.objs.size, ⟨⟨.none, he⟩, hit, Nat.succ_ne_self _, Nat.ne_of_gt (Nat.lt_of_lt_of_le hal (Nat.le_succ _)), Nat.ne_of_lt hal⟩, fun b hb => ?_, q⟩
      have e' : b = s1.heap.objs.size + 1 ∨ b = s1.heap.objs.size := by simpa using hb
      have hle : s1.heap.objs.size ≤ b := by
        rcases e' with z | z
        · rw [z]; exact Nat.le_add_right _ _
        · rw [z]; exact Nat.le_refl _
      exact I1.fpOk hle (I1.hok.fresh hle)
/-- a list or a tuple, walked -/
def iSeq (K : PySem.W.Frag) (tl : TE) : TI := fun σ H R => tl σ H fun x H1 => ∃ a, x = .ref a ∧ (((∃ xs, SqL K H1 a xs) ∧ R (Itl K a) H1) ∨ ((∃ xs, SqT K H1 a xs) ∧ R (Itt K a) H1))
theorem pi_seq {X : Cx} {tg l : Expr} {tl : TE} (hl : PE X l tl) : PI X tg l (iSeq X.K tl) := by
  refine ⟨fun pins s σ H R I h => ?_⟩
  refine thn (hl.run pins s σ H _ I h) fun v s1 ⟨x, H1, I1, r1, q1⟩ => ?_
  obtain ⟨a, e, q⟩ := q1
  subst e
  cases r1
  rcases q with ⟨⟨xs, hq⟩, q⟩ | ⟨⟨xs, hq⟩, q⟩
  · obtain ⟨its, rv, p, hz⟩ := I1.list hq
    refine wpAny_pyIter_list p.isList ?_
    refine ⟨s1.heap.objs.size, [s1.heap.objs.size], _, _, H1, rfl, I1.kept (t' := s1.toks) fun b o e => Heap.get?_push_of_some _ e, turn_list a _, ⟨_, Heap.get?_push_size _ rfl, rfl, rfl⟩, fun b hb => ?_, q⟩
    have e : b = s1.heap.objs.size := by simpa using hb
    subst e
    exact I1.fpOk (Nat.le_refl _) (I1.hok.fresh (Nat.le_refl _))
  · obtain ⟨its, rv, p, hz⟩ := I1.tuple hq
    refine wpAny_pyIter_tuple (show s1.heap.IsTuple a its.toArray from p) ?_
    refine ⟨s1.heap.objs.size, [s1.heap.objs.size], _, _, H1, rfl, I1.kept (t' := s1.toks) fun b o e => Heap.get?_push_of_some _ e, turn_tuple a _, ⟨_, Heap.get?_push_size _ rfl, rfl, rfl⟩, fun b hb => ?_, q⟩
    have e : b = s1.heap.objs.size := by simpa using hb
    subst e
    exact I1.fpOk (Nat.le_refl _) (I1.hok.fresh (Nat.le_refl _))
end TK

namespace TK
open PySem PySem.Spec PyProof.Rows L2

/-! ## the very same data -/
mutual
def same : D → D → Bool
  | .none, .none => true
  | .bool a, .bool b => a == b
  | .int a, .int b => a == b
  | .str a, .str b => decide (a = b)
  | .list a, .list b => sameL a b
  | .tuple a, .tuple b => sameL a b
  | _, _ => false
def sameL : List D → List D → Bool
  | [], [] => true
  | a :: as, b :: bs => same a b && sameL as bs
  | _, _ => false
end
mutual
theorem same_eq : ∀ (a b : D), same a b = true → a = b
  | .none, b, h => by cases b <;> simp [same] at h; rfl
  | .bool x, b, h => by cases b <;> simp [same] at h; rw [h]
  | .int x, b, h => by cases b <;> simp [same] at h; rw [h]
  | .str x, b, h => by cases b <;> simp [same] at h; rw [h]
  | .list xs, b, h => by
    cases b with
    | list ys => simp only [same] at h; rw [sameL_eq xs ys h]
    | _ => simp [same] at h
  | .tuple xs, b, h => by
    cases b with
    | tuple ys => simp only [same] at h; rw [sameL_eq xs ys h]
    | _ => simp [same] at h
  | .dict k, b, h => by cases b <;> simp [same] at h
theorem sameL_eq : ∀ (a b : List D), sameL a b = true → a = b
  | [], b, h => by cases b <;> simp [sameL] at h; rfl
  | a :: as, b, h => by
    cases b with
    | nil => simp [sameL] at h
    | cons b bs =>
      simp only [sameL, Bool.and_eq_true] at h
      rw [same_eq a b h.1, sameL_eq as bs h.2]
end
mutual
def nodict : D → Bool
  | .dict _ => false
  | .list xs => nodictL xs
  | .tuple xs => nodictL xs
  | _ => true
def nodictL : List D → Bool
  | [] => true
  | x :: xs => nodict x && nodictL xs
end
mutual
theorem same_refl : ∀ (a : D), nodict a = true → same a a = true
  | .none, _ => rfl
  | .bool x, _ => by simp [same]
  | .int x, _ => by simp [same]
  | .str x, _ => by simp [same]
  | .list xs, h => by simp only [same]; exact sameL_refl xs h
  | .tuple xs, h => by simp only [same]; exact sameL_refl xs h
  | .dict k, h => by simp [nodict] at h
theorem sameL_refl : ∀ (a : List D), nodictL a = true → sameL a a = true
  | [], _ => rfl
  | a :: as, h => by
    simp only [nodictL, Bool.and_eq_true] at h
    simp only [sameL, Bool.and_eq_true]
    exact ⟨same_refl a h.1, sameL_refl as h.2⟩
end

/-! ## what is walked -/
structure Src where
  ds : List D
  al : Option Nat
def Src.ok (s : Src) (st : List SV) : Bool := match s.al with
  | none => true
  | some j => match st[j]? with
    | some (.own _ ds) => sameL ds s.ds
    | _ => false
/-- the walk's turns, whatever goes on (src, the source, stays in the stack) -/
def ItOk (K : PySem.W.Frag) (J : It) (src : SV) (pv : V) (s : Src) : Prop := ∀ (G : Gh) (st : List SV) (σ : Sg) (p2 : List SV) (v2 : List (Option V)) (pst : List SV) (pσ : List (Option V)) (H : Hp) (i : Nat), p2.length = v2.length → s.ok st = true →
  Rep K G st σ (p2 ++ src :: pst) (v2 ++ some pv :: pσ) H →
    (∀ d, s.ds[i]? = some d → J.go i H ∧ ∀ x H', J.yld i H x H' → Rep K G st σ (.val d :: (p2 ++ src :: pst)) (some x :: (v2 ++ some pv :: pσ)) H') ∧ (s.ds.length ≤ i → J.stop i H)
def SI (X : Cx) (W : WX) (tg iter : Expr) (f : SM Src) : Prop := ∃ wi : TI, PI X tg iter wi ∧ ∀ (G : Gh) (st : List SV) (σ : Sg) (pst : List SV) (pσ : List (Option V)) (H : Hp) (R : It → Hp → Prop) (o : Out Src),
  Rep X.K G st σ pst pσ H → f st = some o → (match o with
    | .ok s st' => ∀ J src pv H', ItOk X.K J src pv s → (s.al = none → src.noal = true) → s.ok st' = true → Rep X.K G st' σ (src :: pst) (some pv :: pσ) H' → R J H'
    | .ex x st' => PostX X W G σ pst pσ x st') → wi σ H R
section
variable {K : PySem.W.Frag} {G : Gh} {st : List SV} {σ : Sg} {H : Hp}
theorem All3.mid {A B C : Type} {P : A → B → C → Prop} : ∀ {as1 : List A} {bs1 : List B} {a : A} {b : B} {as : List A} {bs : List B} {cs : List C}, bs1.length = as1.length → All3 P (as1 ++ a :: as) (bs1 ++ b :: bs) cs → ∃ c ∈ cs, P a b c
  | [], [], a, b, as, bs, cs, _, h => by cases h with | cons h1 _ => exact ⟨_, by simp, h1⟩
  | x :: as1, y :: bs1, a, b, as, bs, cs, e, h => by
    cases h with
    | cons h1 h2 =>
      obtain ⟨c, hc, q⟩ := All3.mid (as1 := as1) (bs1 := bs1) (by simpa using e) h2
      exact ⟨c, by simp [hc], q⟩
  | [], _ :: _, _, _, _, _, _, e, _ => by simp at e
  | _ :: _, [], _, _, _, _, _, e, _ => by simp at e
theorem itok_seq {a : Addr} {r : SV} {s : Src} {t : Bool} (hr : ∀ st : List SV, s.ok st = true → itemsOf st r = some (t, s.ds)) : ItOk K (if t then Itt K a else Itl K a) r (.ref a) s := by
  intro G st σ p2 v2 pst pσ H i hl hok R
  obtain ⟨fs, fp, F⟩ := id R
  obtain ⟨f, _, q⟩ := All3.mid hl F.pend
  obtain ⟨b, vs, eb, hH, rv⟩ := F.items q (hr st hok)
  cases eb
  constructor
  · intro d hd
    obtain ⟨v, hv, r1⟩ := rv.get hd
    cases t with
    | false =>
      refine ⟨⟨vs, v, SqL.of hH, hv⟩, fun x H' y => ?_⟩
      obtain ⟨rfl, y⟩ := y
      have := y vs (SqL.of hH)
      rw [hv] at this
      cases this
      exact ⟨fs, _, F.pushv r1⟩
    | true =>
      refine ⟨⟨vs, v, SqT.of hH, hv⟩, fun x H' y => ?_⟩
      obtain ⟨rfl, y⟩ := y
      have := y vs (SqT.of hH)
      rw [hv] at this
      cases this
      exact ⟨fs, _, F.pushv r1⟩
  · intro hlen
    cases t with
    | false => exact ⟨vs, SqL.of hH, by rw [rv.length]; exact hlen⟩
    | true => exact ⟨vs, SqT.of hH, by rw [rv.length]; exact hlen⟩
def enumD (ds : List D) : List D := ds.mapIdx fun i d => .tuple [.int i, d]
end
/-- the source of a walk over a value -/
def srcOf (st : List SV) (r : SV) : Option (Bool × List D × Option Nat) := match r with
  | .al i => match st[i]? with
    | some (.own _ ds) => if sameL ds ds then some (false, ds, some i) else none
    | _ => none
  | r => match itemsOf st r with
    | some (t, ds) => some (t, ds, none)
    | none => none
theorem srcOf_items {st : List SV} {r : SV} {t : Bool} {ds : List D} {al : Option Nat} (h : srcOf st r = some (t, ds, al)) :
    (∀ st' : List SV, Src.ok ⟨ds, al⟩ st' = true → itemsOf st' r = some (t, ds)) ∧ Src.ok ⟨ds, al⟩ st = true ∧ (al = none → r.noal = true) ∧ itemsOf st r = some (t, ds) := by
  unfold srcOf at h
  split at h
  · rename_i i
    split at h
    · rename_i io ds' e
      split at h
      · rename_i hs
        cases h
        refine ⟨fun st' ok => ?_, ?_, (fun z => by cases z), ?_⟩
        · unfold Src.ok at ok
          dsimp only at ok
          split at ok
          · rename_i io' ds2 e2
            rw [sameL_eq _ _ ok] at e2
            show (match st'[i]? with | some (.own _ ds) => some (false, ds) | some (.val (.list ds)) => some (false, ds) | some (.val (.tuple ds)) => some (true, ds) | _ => none) = _
            rw [e2]
          · cases ok
        · unfold Src.ok
          dsimp only
          rw [e]
          exact hs
        · show (match st[i]? with | some (.own _ ds) => some (false, ds) | some (.val (.list ds)) => some (false, ds) | some (.val (.tuple ds)) => some (true, ds) | _ => none) = _
          rw [e]
      · cases h
    · cases h
  · rename_i n
    split at h
    · rename_i t' ds' e
      cases h
      have nal : ∀ i, r ≠ .al i := n
      refine ⟨fun st' _ => ?_, rfl, fun _ => ?_, e⟩
      · cases r with
        | al i => exact absurd rfl (nal i)
        | val d => cases d <;> first | exact e | cases e
        | emp => cases e
        | own io ds => exact e
        | own2 dss => cases e
        | scr ns => cases e
        | exc _ _ _ => cases e
        | dct _ _ => cases e
      · cases r with
        | al i => exact absurd rfl (nal i)
        | _ => rfl
    · cases h
def seqI (f : SM SV) : SM Src := fun st => Out.bind (f st) fun r st1 => match srcOf st1 r with
  | some (_, ds, al) => some (.ok ⟨ds, al⟩ st1)
  | none => none
def enumI (f : SM SV) : SM Src := fun st => Out.bind (f st) fun r st1 => match frzS r with
  | none => none
  | some r => match srcOf st1 r with
    | some (_, ds, none) => some (.ok ⟨enumD ds, none⟩ st1)
    | _ => none
def rangeD (lo : Int) (n : Nat) : List D := (List.range n).map fun (i : Nat) => PyData.int (lo + (i : Int))
def range1I (f : SM SV) : SM Src := fun st => Out.bind (f st) fun r st1 => match r with
  | .val (.int j) => if -(2 ^ 62) ≤ j ∧ j < 2 ^ 62 then some (.ok ⟨rangeD 0 j.toNat, none⟩ st1) else none
  | _ => none
def range2I (f g : SM SV) : SM Src := fun st => Out.bind (f st) fun r st1 => Out.bind (g st1) fun r2 st2 => match r, r2 with
  | .val (.int i), .val (.int j) => if -(2 ^ 62) ≤ i ∧ i < 2 ^ 62 ∧ -(2 ^ 62) ≤ j ∧ j < 2 ^ 62 then some (.ok ⟨rangeD i (j - i).toNat, none⟩ st2) else none
  | _, _ => none
theorem rangeD_get (lo : Int) (n i : Nat) (d : D) (h : (rangeD lo n)[i]? = some d) : i < n ∧ d = .int (lo + i) := by
  unfold rangeD at h
  rw [List.getElem?_map] at h
  cases e : (List.range n)[i]? with
  | none => rw [e] at h; cases h
  | some k =>
    rw [e] at h
    cases h
    obtain ⟨h1, h2⟩ := List.getElem?_eq_some_iff.mp e
    simp at h1 h2
    subst h2
    exact ⟨h1, rfl⟩
theorem rangeD_length (lo : Int) (n : Nat) : (rangeD lo n).length = n := by simp [rangeD]
section
variable {X : Cx} {W : WX} {tg e e2 : Expr} {f g : SM SV} {pos p tpos : Pos} {elts : List Expr} {kk : Nat}
theorem si_seq (h : SE X W e f) : SI X W tg e (seqI f) := by
  obtain ⟨t, p, s⟩ := h
  refine ⟨_, pi_seq p, fun G st σ pst pσ H Rr o R hf post => ?_⟩
  unfold seqI at hf
  rcases Out.bind_some hf with ⟨r, st1, h1, hf⟩ | ⟨x, st1, h1, rfl⟩
  · refine s G st σ pst pσ H _ _ R h1 fun v H1 R1 => ?_
    split at hf
    · rename_i t ds al es
      cases hf
      obtain ⟨q1, q2, q3, q4⟩ := srcOf_items es
      obtain ⟨fs, f1, fp, F, q⟩ := R1.top
      obtain ⟨a, vs, ea, hH, rv⟩ := F.items q q4
      cases ea
      have io := itok_seq (K := X.K) (a := a) (s := ⟨ds, al⟩) q1
      cases t with
      | false => exact ⟨a, rfl, .inl ⟨⟨vs, SqL.of hH⟩, post _ _ _ H1 io q3 q2 R1⟩⟩
      | true => exact ⟨a, rfl, .inr ⟨⟨vs, SqT.of hH⟩, post _ _ _ H1 io q3 q2 R1⟩⟩
    · cases hf
  · exact s G st σ pst pσ H _ _ R h1 post
theorem itok_enumA {K : PySem.W.Frag} {a : Addr} {r : SV} {ds : List D} {t : Bool} (hr : ∀ st : List SV, itemsOf st r = some (t, ds)) : ItOk K (if t then IteT K a else Ite K a) r (.ref a) ⟨enumD ds, none⟩ := by
  intro G st σ p2 v2 pst pσ H i hl hok R
  obtain ⟨fs, fp, F⟩ := id R
  obtain ⟨f, _, q⟩ := All3.mid hl F.pend
  obtain ⟨b, vs, eb, hH, rv⟩ := F.items q (hr st)
  cases eb
  have gl : ∀ d, (enumD ds)[i]? = some d → ∃ d', ds[i]? = some d' ∧ d = .tuple [.int i, d'] := fun d hd => by
    unfold enumD at hd
    rw [List.getElem?_mapIdx] at hd
    cases e : ds[i]? with
    | none => rw [e] at hd; cases hd
    | some d' => rw [e] at hd; cases hd; exact ⟨d', rfl, rfl⟩
  have hlen' : (enumD ds).length = vs.length := by rw [rv.length]; simp [enumD]
  constructor
  · intro d hd
    obtain ⟨d', hd', rfl⟩ := gl d hd
    obtain ⟨v, hv, r1⟩ := rv.get hd'
    cases t with
    | false =>
      refine ⟨⟨vs, v, SqL.of hH, hv⟩, fun x H' y => ?_⟩
      obtain ⟨T, z, rfl, nT, rfl, y⟩ := y
      have := y vs (SqL.of hH)
      rw [hv] at this
      cases this
      exact ⟨fs, _, F.newTup nT (.cons (.int _) (.cons r1 .nil))⟩
    | true =>
      refine ⟨⟨vs, v, SqT.of hH, hv⟩, fun x H' y => ?_⟩
      obtain ⟨T, z, rfl, nT, rfl, y⟩ := y
      have := y vs (SqT.of hH)
      rw [hv] at this
      cases this
      exact ⟨fs, _, F.newTup nT (.cons (.int _) (.cons r1 .nil))⟩
  · intro hlen
    cases t with
    | false => exact ⟨vs, SqL.of hH, by rw [← hlen']; exact hlen⟩
    | true => exact ⟨vs, SqT.of hH, by rw [← hlen']; exact hlen⟩
theorem si_enum (hg : Gl X "enumerate") (hm : X.mg "enumerate" = none) (h : SE X W e f) (hs : starEach [e] X.env = [(false, eval e X.env)] := by rfl) : SI X W (.Tuple elts kk tpos) (.Call (.Name "enumerate" p) [e] [] pos) (enumI f) := by
  obtain ⟨t, p, s⟩ := h
  refine ⟨_, pi_enumA hg hm (pa_cons p pa_nil hs) hs, fun G st σ pst pσ H Rr o R hf post => ?_⟩
  unfold enumI at hf
  rcases Out.bind_some hf with ⟨r, st1, h1, hf⟩ | ⟨x, st1, h1, rfl⟩
  · refine s G st σ pst pσ H _ _ R h1 fun v H1 R1 => ?_
    cases ef : frzS r with
    | none => rw [ef] at hf; cases hf
    | some r' =>
      rw [ef] at hf
      dsimp only at hf
      have R1 := R1.frz ef
      split at hf
      · rename_i t ds es
        cases hf
        obtain ⟨q1, q2, q3, q4⟩ := srcOf_items es
        obtain ⟨fs, f1, fp, F, q⟩ := R1.top
        obtain ⟨a, vs, ea, hH, rv⟩ := F.items q q4
        cases ea
        have io := itok_enumA (K := X.K) (a := a) fun st => q1 st rfl
        refine ⟨a, vs, rfl, ?_⟩
        cases t with
        | false => exact .inl ⟨SqL.of hH, post _ _ _ H1 io q3 rfl R1⟩
        | true => exact .inr ⟨SqT.of hH, post _ _ _ H1 io q3 rfl R1⟩
      · cases hf
  · exact s G st σ pst pσ H _ _ R h1 post
theorem itok_range {K : PySem.W.Frag} {lo : Int} {n : Nat} {pv : V} : ItOk K (Itr lo n) .emp pv ⟨rangeD lo n, none⟩ := by
  intro G st σ p2 v2 pst pσ H i hl hok R
  constructor
  · intro d hd
    obtain ⟨h1, rfl⟩ := rangeD_get lo n i d hd
    refine ⟨h1, fun x H' y => ?_⟩
    obtain ⟨rfl, rfl⟩ := y
    exact R.pushI _
  · intro hlen
    have hlen : (rangeD lo n).length ≤ i := hlen
    rw [rangeD_length] at hlen
    exact hlen
theorem Rep.pushEmp {K : PySem.W.Frag} {G : Gh} {st : List SV} {σ : Sg} {pst : List SV} {pσ : List (Option V)} {H : Hp} {v : Option V} (h : Rep K G st σ pst pσ H) : Rep K G st σ (.emp :: pst) (v :: pσ) H := by
  obtain ⟨fs, fp, F⟩ := h
  exact ⟨fs, [] :: fp, ⟨F.slots, .cons rfl F.pend, F.nd, F.fresh, F.frame, F.there, F.zxt, F.na, fun i hi => F.alk i ((List.mem_cons.mp hi).elim (fun e => nomatch e) id)⟩⟩
theorem si_range1 (hg : Gl X "range") (hm : X.mg "range" = none) (h : SE X W e f) (hs : starEach [e] X.env = [(false, eval e X.env)] := by rfl) : SI X W tg (.Call (.Name "range" p) [e] [] pos) (range1I f) := by
  obtain ⟨t, p, s⟩ := h
  refine ⟨_, pi_range1 hg hm (pa_cons p pa_nil hs) hs, fun G st σ pst pσ H Rr o R hf post => ?_⟩
  unfold range1I at hf
  rcases Out.bind_some hf with ⟨r, st1, h1, hf⟩ | ⟨x, st1, h1, rfl⟩
  · refine s G st σ pst pσ H _ _ R h1 fun v H1 R1 => ?_
    split at hf
    · rename_i j
      split at hf
      · rename_i hb
        cases hf
        have ev := R1.isI
        subst ev
        exact ⟨j, rfl, hb.1, hb.2, post _ .emp .non H1 itok_range (fun _ => rfl) rfl R1.pop.pushEmp⟩
      · cases hf
    · cases hf
  · exact s G st σ pst pσ H _ _ R h1 post
theorem si_range2 (hg : Gl X "range") (hm : X.mg "range" = none) (h : SE X W e f) (h' : SE X W e2 g) (hs : starEach [e, e2] X.env = [(false, eval e X.env), (false, eval e2 X.env)] := by rfl) (hs2 : starEach [e2] X.env = [(false, eval e2 X.env)] := by rfl) :
    SI X W tg (.Call (.Name "range" p) [e, e2] [] pos) (range2I f g) := by
  obtain ⟨t, p, s⟩ := h
  obtain ⟨t2, p2, s2⟩ := h'
  refine ⟨_, pi_range2 hg hm (pa_cons p (pa_cons p2 pa_nil hs2) (by rw [hs, hs2])) hs hs2, fun G st σ pst pσ H Rr o R hf post => ?_⟩
  unfold range2I at hf
  rcases Out.bind_some hf with ⟨r, st1, h1, hf⟩ | ⟨x, st1, h1, rfl⟩
  · refine s G st σ pst pσ H _ _ R h1 fun v H1 R1 => ?_
    rcases Out.bind_some hf with ⟨r2, st2, h2, hf⟩ | ⟨x, st2, h2, rfl⟩
    · refine s2 G st1 σ _ _ H1 _ _ R1 h2 fun v2 H2 R2 => ?_
      split at hf
      · rename_i i j _
        split at hf
        · rename_i hb
          cases hf
          have ev2 := R2.isI
          have ev := R2.pop.isI
          subst ev ev2
          exact ⟨i, j, rfl, hb, post _ .emp .non H2 itok_range (fun _ => rfl) rfl R2.pop.pop.pushEmp⟩
        · cases hf
      · cases hf
    · exact s2 G st1 σ _ _ H1 _ _ R1 h2 fun cls d H' ex R' => post cls d H' ex R'.pop
  · exact s G st σ pst pσ H _ _ R h1 post
end

/-! ## for -/
def forL (b : D → List SV → Option (List SV)) (body : SF) : List D → List SV → Option Fl
  | [], st => some (.nx st)
  | d :: ds, st => match b d st with
    | none => none
    | some st1 => match body st1 with
      | some (.nx st2) => forL b body ds st2
      | some (.ct st2) => forL b body ds st2
      | some (.bk st2) => some (.nx st2)
      | o => o
def forF (it : SM Src) (b : D → List SV → Option (List SV)) (body : SF) : SF := fun st => Fl.bind (it st) fun s st1 => match s.al with
  | none => forL b body s.ds st1
  | some _ => none
section
variable {X : Cx} {W : WX} {tg iter : Expr} {pos : Pos} {fi : SM Src} {ts : List Nat} {b : D → List SV → Option (List SV)} {body : List Stmt} {fb : SF}
theorem s1_for (hp : PassesOwn (model X.prog X.w) X.A X.env X.xe) (hc : X.calm = true) (hi : SI X W tg iter fi) (hg : SG X tg ts b) (hb : SS X W body fb) (hs : ∀ x, foldedSetIterable iter X.env x = pure x := by intro _; rfl) :
    S1 X W (.For tg iter body [] pos) (forF fi b fb) := by
  obtain ⟨wi, p, s⟩ := hi
  obtain ⟨g, pg, sg⟩ := hg
  obtain ⟨t, pb, sb⟩ := hb
  refine ⟨_, ps_for hp hc p pg pb hs, fun G st σ pst pσ H D o na R hf post => ?_⟩
  unfold forF at hf
  show wi σ H _
  rcases Fl.bind_some hf with ⟨src, st1, h1, hf⟩ | ⟨x, st1, h1, rfl⟩
  · refine s G st σ pst pσ H _ _ R h1 fun J sv pv H1 io nal _ R1 => ?_
    obtain ⟨ds, al⟩ := src
    cases al with
    | some j => cases hf
    | none =>
      have hf : forL b fb ds st1 = some o := hf
      have hsv := nal rfl
      have na1 : noals (sv :: pst) := noals_cons hsv na
      refine ⟨fun i m σ H => m = ds.length - i ∧ i ≤ ds.length ∧ ∃ st, Rep X.K G st σ (sv :: pst) (some pv :: pσ) H ∧ forL b fb (ds.drop i) st = some o, ⟨ds.length, by simp, Nat.zero_le _, st1, R1, hf⟩, ?_⟩
      rintro i m σ H ⟨rfl, hi, st, R, hf⟩
      have io' := io G st σ [] [] pst pσ H i rfl rfl R
      by_cases hlt : i < ds.length
      · have hd : ds[i]? = some ds[i] := by simp [hlt]
        obtain ⟨go, yl⟩ := io'.1 _ hd
        rw [List.drop_eq_getElem_cons hlt] at hf
        rw [forL] at hf
        cases eb : b ds[i] st with
        | none => rw [eb] at hf; cases hf
        | some st2 =>
          rw [eb] at hf
          dsimp only at hf
          refine .inr ⟨go, fun σ' H' => ∃ st, Rep X.K G st σ' (sv :: pst) (some pv :: pσ) H' ∧ forL b fb (ds.drop (i + 1)) st = some o, fun σ' H' ⟨st, R', e⟩ => ⟨ds.length - (i + 1), by omega, rfl, hlt, st, R', e⟩, fun x H' y => ?_⟩
          refine sg G st σ (sv :: pst) (some pv :: pσ) H' x ds[i] _ st2 (yl x H' y) eb fun σ2 _ _ R2 => ?_
          cases ebody : fb st2 with
          | none => rw [ebody] at hf; cases hf
          | some fl =>
            rw [ebody] at hf
            refine sb G st2 σ2 (sv :: pst) (some pv :: pσ) H' _ fl na1 R2 ebody ?_
            cases fl with
            | nx st3 => exact fun σ' H'' R' => ⟨st3, R', hf⟩
            | ct st3 => exact fun σ' H'' R' => ⟨st3, R', hf⟩
            | bk st3 => cases hf; exact fun σ' H'' R' => post σ' H'' R'.pop
            | rt r st3 => cases hf; exact fun v σ' H'' R' => post v σ' H'' R'.under
            | ex x st3 => cases hf; exact fun σ' cls d H'' ex R' => post σ' cls d H'' ex R'.pop
      · have e : i = ds.length := by omega
        subst e
        rw [List.drop_length] at hf
        cases hf
        exact .inl ⟨io'.2 (Nat.le_refl _), post σ H R.pop⟩
  · exact s G st σ pst pσ H _ _ R h1 (post σ)
end
end TK

namespace TK
open PySem PySem.Spec PyProof.Rows L2

/-! ## the readings, one for each meaning -/
def WF : WX := fun _ _ _ _ => False
section
variable (K : PySem.W.Frag) (mg : Str → Option Value)
/-- within a comprehension nothing is raised -/
def tE0 (f : SM SV) : TE := fun σ H Q => ∃ G st pst pσ r st', Rep K G st σ pst pσ H ∧ f st = some (.ok r st') ∧ ∀ v H', Rep K G st' σ (r :: pst) (some v :: pσ) H' → Q v H'
def tT0 (f : SM Bool) : TT := fun σ H Q => ∃ G st pst pσ b st', Rep K G st σ pst pσ H ∧ f st = some (.ok b st') ∧ ∀ H', Rep K G st' σ pst pσ H' → Q b H'
def tG0 (ts : List Nat) (b : D → List SV → Option (List SV)) : TG := fun v σ H Q => ∃ G st pst pσ d st', Rep K G st σ (.val d :: pst) (some v :: pσ) H ∧ b d st = some st' ∧ ∀ σ', σ'.length = σ.length → (∀ i, i ∉ ts → σ'[i]? = σ[i]?) → Rep K G st' σ' pst pσ H → Q σ' H
end
section
variable {X : Cx} {e : Expr} {f : SM SV} {fb : SM Bool} {ts : List Nat} {b : D → List SV → Option (List SV)}
theorem SE.can (h : SE X WF e f) : PE X e (tE0 X.K f) := by
  obtain ⟨t, p, s⟩ := h
  refine ⟨fun pins s1 σ H Q I hq => ?_⟩
  obtain ⟨G, st, pst, pσ, r, st', R, hf, post⟩ := hq
  exact p.run pins s1 σ H Q I (s G st σ pst pσ H Q _ R hf post)
theorem ST.can (h : ST X WF e fb) : PT X e (tT0 X.K fb) := by
  obtain ⟨t, p, s⟩ := h
  refine ⟨fun pins s1 σ H Q I hq => ?_⟩
  obtain ⟨G, st, pst, pσ, r, st', R, hf, post⟩ := hq
  exact p.run pins s1 σ H Q I (s G st σ pst pσ H Q _ R hf post)
theorem SG.can (h : SG X e ts b) : PG X e (tG0 X.K ts b) := by
  obtain ⟨t, p, s⟩ := h
  refine ⟨fun pins s1 σ H v u Q I r hq => ?_⟩
  obtain ⟨G, st, pst, pσ, d, st', R, hf, post⟩ := hq
  exact p.run pins s1 σ H v u Q I r (s G st σ pst pσ H v d Q st' R hf post)
end
/-- the tests of a comprehension -/
def SPt (X : Cx) (ifs : List Expr) (f : SM Bool) : Prop := PTs X ifs (tT0 X.K f)
def yesT : SM Bool := fun st => some (.ok true st)
theorem spt_nil {X : Cx} : SPt X [] yesT := ⟨fun pins s σ H Q I hq => by
  obtain ⟨G, st, pst, pσ, r, st', R, hf, post⟩ := hq
  cases hf
  exact (pts_nil (X := X)).run pins s σ H Q I (post H R)⟩
theorem spt_one {X : Cx} {e : Expr} {f : SM Bool} (h : ST X WF e f) : SPt X [e] f := pts_one h.can

/-! ## wiping -/
def wipeS (st : List SV) : List Nat → List SV
  | [] => st
  | v :: vs => (wipeS st vs).set v .emp
def plain (st : List SV) (vs : List Nat) : Bool := vs.all fun v => match st[v]? with
  | some s => !s.isOwn
  | none => true
section
variable {K : PySem.W.Frag} {G : Gh} {fs fp : List (List Addr)} {st : List SV} {σ : Sg} {pst : List SV} {pσ : List (Option V)} {H H' : Hp}
theorem Rep.wipe1 {i : Nat} (h : Rep K G st σ pst pσ H) (hi : ∀ s, st[i]? = some s → s.isOwn = false) : Rep K G (st.set i .emp) (σ.set i none) pst pσ H := by
  obtain ⟨fs, fp, F⟩ := h
  obtain ⟨hs1, hp1, nd, fr, f1, f2, f3, f4, f5⟩ := F
  by_cases hlt : i < st.length
  · have hfl : fs.length = st.length := hs1.len.2
    obtain ⟨x, hx⟩ : ∃ x, fs[i]? = some x := ⟨_, List.getElem?_eq_getElem (by omega)⟩
    have nd0 : (fs.flatten ++ ([] ++ fp.flatten)).Nodup := nd
    obtain ⟨nd', sub⟩ := flat_move hx nd0
    have sub' : ∀ a, a ∈ (fs.set i []).flatten ++ fp.flatten → a ∈ fs.flatten ++ fp.flatten := fun a ha => sub a ha
    have k : Keep (Zf G (fs.flatten ++ fp.flatten)) (Zf G ((fs.set i []).flatten ++ fp.flatten)) H H := .sub fun a _ z => z.imp id (sub' a)
    have nal : SV.al i ∉ pst := fun hm => by
      obtain ⟨s, e1, e2⟩ := f5 i hm
      rw [hi s e1] at e2; cases e2
    refine ⟨fs.set i [], fp, ⟨?_, ?_, nd', fun a ha => fr a (sub' a ha), f1, f2, f3, fun s hs2 => (List.mem_or_eq_of_mem_set hs2).elim (f4 s) fun e => by rw [e]; rfl, fun j hj => ?_⟩⟩
    · have q : All3 (SlotOk K G (Zf G ((fs.set i []).flatten ++ fp.flatten)) H (σ.set i none)) σ st fs := by
        refine hs1.impB fun a b c hb q => (q.frame k fun _ _ => rfl).sig fun j e => ?_
        have := f4 b hb
        rw [e] at this; cases this
      exact q.set (a := none) (b := .emp) (c := []) rfl i
    · refine hp1.impB fun a b c hb q => ?_
      by_cases eb : ∃ j, b = .al j
      · obtain ⟨j, rfl⟩ := eb
        obtain ⟨q1, x, q2, q3⟩ := q
        have hj : i ≠ j := fun e => nal (by rw [e]; exact hb)
        exact ⟨q1, x, q2, by rw [List.getElem?_set_ne hj]; exact q3⟩
      · exact (q.frame k fun _ _ => rfl).sig fun j e => eb ⟨j, e⟩
    · obtain ⟨s, e, q⟩ := f5 j hj
      have hij : i ≠ j := fun e => nal (by rw [e]; exact hj)
      exact ⟨s, by rw [List.getElem?_set_ne hij]; exact e, q⟩
  · have e1 : st.set i .emp = st := List.set_eq_of_length_le (by omega)
    have e2 : σ.set i none = σ := List.set_eq_of_length_le (by rw [hs1.len.1]; omega)
    rw [e1, e2]
    exact ⟨fs, fp, ⟨hs1, hp1, nd, fr, f1, f2, f3, f4, f5⟩⟩
theorem Rep.wiped (h : Rep K G st σ pst pσ H) : ∀ {vs : List Nat}, plain st vs = true → Rep K G (wipeS st vs) (wipe σ vs) pst pσ H
  | [], _ => h
  | v :: vs, hp => by
    simp only [plain, List.all_cons, Bool.and_eq_true] at hp
    refine (Rep.wiped h (vs := vs) (by simpa [plain] using hp.2)).wipe1 fun s hs => ?_
    have : ∀ (vs : List Nat) (s : SV), (wipeS st vs)[v]? = some s → s = .emp ∨ st[v]? = some s := by
      intro vs
      induction vs with
      | nil => intro s h; exact .inr h
      | cons u us ih =>
        intro s h
        by_cases e : u = v
        · subst e
          have h : ((wipeS st us).set u .emp)[u]? = some s := h
          rw [List.getElem?_set] at h
          simp only [if_true] at h
          split at h
          · cases h; exact .inl rfl
          · cases h
        · have h : ((wipeS st us).set u .emp)[v]? = some s := h
          rw [List.getElem?_set_ne e] at h
          exact ih s h
    rcases this vs s hs with e | e
    · rw [e]; rfl
    · have h1 := hp.1
      rw [e] at h1
      simpa using h1
theorem wipeS_emp : ∀ (vs : List Nat) (v : Nat), v ∈ vs → (wipeS st vs)[v]? = some .emp ∨ (wipeS st vs)[v]? = none
  | u :: vs, v, h => by
    show ((wipeS st vs).set u .emp)[v]? = some .emp ∨ ((wipeS st vs).set u .emp)[v]? = none
    by_cases e : u = v
    · subst e
      rw [List.getElem?_set]
      simp only [if_true]
      split
      · exact .inl rfl
      · exact .inr rfl
    · rw [List.getElem?_set_ne e]
      exact wipeS_emp vs v ((List.mem_cons.mp h).resolve_left (fun q => e q.symm))
theorem All3.mapA {A B C : Type} {P Q : A → B → C → Prop} : ∀ {as as' : List A} {bs : List B} {cs : List C}, as'.length = as.length → All3 P as bs cs → (∀ (i : Nat) a a' b c, as[i]? = some a → as'[i]? = some a' → bs[i]? = some b → P a b c → Q a' b c) → All3 Q as' bs cs
  | [], [], _, _, _, h, _ => by cases h; exact .nil
  | a :: as, a' :: as', _, _, e, h, f => by
    cases h with
    | cons h1 h2 => exact .cons (f 0 a a' _ _ rfl rfl rfl h1) (All3.mapA (by simpa using e) h2 fun i x x' b c e1 e2 e3 p => f (i + 1) x x' b c e1 e2 e3 p)
  | [], _ :: _, _, _, e, _, _ => by simp at e
  | _ :: _, [], _, _, e, _, _ => by simp at e
theorem Rep.unwiped {vs : List Nat} (h : Rep K G st (wipe σ vs) pst pσ H) (he : ∀ v ∈ vs, st[v]? = some .emp ∨ st[v]? = none) : Rep K G st σ pst pσ H := by
  obtain ⟨fs, fp, F⟩ := h
  obtain ⟨hs1, hp1, nd, fr, f1, f2, f3, f4, f5⟩ := F
  refine ⟨fs, fp, ⟨?_, ?_, nd, fr, f1, f2, f3, f4, f5⟩⟩
  · refine All3.mapA (wipe_length σ vs).symm hs1 fun i a a' b c e1 e2 e3 q => ?_
    by_cases hi : i ∈ vs
    · rcases he i hi with e | e
      · rw [e3] at e; cases e; exact q
      · rw [e3] at e; cases e
    · rw [wipe_out hi, e2] at e1
      cases e1
      refine q.sig fun j e => ?_
      have := f4 b (List.mem_of_getElem? e3)
      rw [e] at this; cases this
  · refine hp1.impB fun a b c hb q => ?_
    by_cases eb : ∃ j, b = .al j
    · obtain ⟨j, rfl⟩ := eb
      obtain ⟨q1, x, q2, q3⟩ := q
      exact ⟨q1, x, q2, (wipe_some q3).1⟩
    · exact q.sig fun j e => eb ⟨j, e⟩
/-- the list under the top takes the top -/
theorem Rep.appTop {d : D} {y : V} {io : Bool} {acc : List D} {a : Addr} (h : Rep K G st σ (.val d :: .own io acc :: pst) (some y :: some (.ref a) :: pσ) H) :
    ∃ vs, H a = some (.lst vs) ∧ vs.length = acc.length ∧ Rep K G st σ (.own io (acc ++ [d]) :: pst) (some (.ref a) :: pσ) (upd H a (.lst (vs ++ [y]))) := by
  obtain ⟨fs, fp, F⟩ := h
  obtain ⟨hs1, hp1, nd, fr, f1, f2, f3, f4, f5⟩ := F
  cases hp1 with
  | @cons _ _ f _ _ fp hp1 hp2 =>
    cases hp2 with
    | @cons _ _ g _ _ fp hp2 hp3 =>
      obtain ⟨rfl, y', ey, ry⟩ := hp1
      cases ey
      obtain ⟨p, vs, rfl, ep, hp, rv, hio⟩ := hp2
      cases ep
      have ow : fs.flatten ++ ([] :: [a] :: fp).flatten = fs.flatten ++ ([a] :: fp).flatten := rfl
      rw [ow] at nd fr ry rv hs1 hp3
      have hm : a ∈ fs.flatten ++ ([a] :: fp).flatten := by simp [List.flatten_cons]
      have k : Keep (Zf G (fs.flatten ++ ([a] :: fp).flatten)) (Zf G (fs.flatten ++ ([a] :: fp).flatten)) H (upd H a (.lst (vs ++ [y]))) := fun b u e n => by
        have na : b ≠ a := fun q => n (.inr (by rw [q]; exact hm))
        exact ⟨by rw [upd_ne na]; exact e, n⟩
      have nd2 : (a :: (fs.flatten ++ fp.flatten)).Nodup := (List.Perm.nodup_iff (show (fs.flatten ++ ([a] :: fp).flatten).Perm (a :: (fs.flatten ++ fp.flatten)) from List.perm_middle)).mp nd
      have np := (List.nodup_cons.mp nd2).1
      refine ⟨vs, hp, rv.length, fs, [a] :: fp, ⟨hs1.imp fun x b c hc q => q.frame k fun z hz => upd_ne fun e => np (List.mem_append_left _ (mem_ff hc (by rw [← e]; exact hz))),
        .cons ⟨a, vs ++ [y], rfl, rfl, upd_same, (RVs.frame k _ _ rv).append (.cons (RV.frame k _ _ ry) .nil), hio⟩ (hp3.imp fun x b c hc q => q.frame k fun z hz => upd_ne fun e => np (List.mem_append_right _ (mem_ff hc (by rw [← e]; exact hz)))),
        nd, fr, fun b o e w => ?_, fun b e => ?_, f3, f4, fun i hi => f5 i (by simp only [List.mem_cons] at hi ⊢; rcases hi with h | h <;> simp_all)⟩⟩
      · have q := f1 b o e w
        have na : b ≠ a := fun z => by
          subst z
          rcases (fr b hm).1 with z | z
          · exact w z
          · rw [z] at e; cases e
        rw [upd_ne na]; exact q
      · by_cases ea : b = a
        · subst ea; rw [upd_same]; simp
        · rw [upd_ne ea]; exact f2 b e
end

/-! ## comprehensions -/
def kept (r : SV) : Option D := match r with
  | .val d => some d
  | .own _ ds => some (.list ds)
  | .own2 dss => some (.list (dss.map PyData.list))
  | _ => none
theorem kept_frz {r : SV} {d : D} (h : kept r = some d) : frzS r = some (.val d) := by
  cases r <;> simp [kept] at h <;> simp [frzS, h]
def compL (s : Src) (vs : List Nat) (b : D → List SV → Option (List SV)) (test : SM Bool) (elt : SM SV) : List D → List SV → List D → Option (List D × List SV)
  | [], st, acc => if s.ok st then some (acc, st) else none
  | d :: ds, st, acc => if s.ok st then match b d st with
    | none => none
    | some st1 => match test st1 with
      | some (.ok true st2) => match elt st2 with
        | some (.ok r st3) => match kept r with
          | some e => if acc.length < sizeLine ∧ plain st3 vs = true then compL s vs b test elt ds (wipeS st3 vs) (acc ++ [e]) else none
          | none => none
        | _ => none
      | some (.ok false st2) => if plain st2 vs = true then compL s vs b test elt ds (wipeS st2 vs) acc else none
      | _ => none else none
def compS (it : SM Src) (vs : List Nat) (b : D → List SV → Option (List SV)) (test : SM Bool) (elt : SM SV) : SM SV := fun st => Out.bind (it st) fun s st1 => if plain st1 vs then match compL s vs b test elt s.ds (wipeS st1 vs) [] with
  | some (acc, st2) => some (.ok (.own false acc) st2)
  | none => none else none
theorem wipe_eq {σ σ' : Sg} {vs ts : List Nat} (hl : σ'.length = (wipe σ vs).length) (h : ∀ i, i ∉ ts → σ'[i]? = (wipe σ vs)[i]?) (hs : ∀ i ∈ ts, i ∈ vs) : wipe σ' vs = wipe σ vs := by
  have wl : ∀ {σ : Sg} {vs : List Nat} {i : Nat}, i ∈ vs → (wipe σ vs)[i]? = if i < σ.length then some none else none := by
    intro σ vs
    induction vs with
    | nil => intro i h; cases h
    | cons v vs ih =>
      intro i hi
      show ((wipe σ vs).set v none)[i]? = _
      by_cases e : v = i
      · subst e
        rw [List.getElem?_set, wipe_length]
        simp
      · rw [List.getElem?_set_ne e]
        exact ih ((List.mem_cons.mp hi).resolve_left (fun q => e q.symm))
  rw [wipe_length] at hl
  apply List.ext_getElem?
  intro i
  by_cases hi : i ∈ vs
  · rw [wl hi, wl hi, hl]
  · rw [wipe_out hi, h i (fun q => hi (hs i q))]
section
variable {X : Cx} {W : WX} {elt tg iter : Expr} {ifs : List Expr} {scope : Scope} {own : List (Str × Nat)} {pos : Pos} {fi : SM Src} {ts : List Nat} {b : D → List SV → Option (List SV)} {ft : SM Bool} {fe : SM SV}
theorem compL_emp {s : Src} {vs : List Nat} : ∀ {ds : List D} {st st' : List SV} {acc acc' : List D}, (∀ v ∈ vs, st[v]? = some .emp ∨ st[v]? = none) → compL s vs b ft fe ds st acc = some (acc', st') → ∀ v ∈ vs, st'[v]? = some .emp ∨ st'[v]? = none
  | [], st, st', acc, acc', h, e => by
    rw [compL] at e
    split at e
    · cases e; exact h
    · cases e
  | d :: ds, st, st', acc, acc', h, e => by
    rw [compL] at e
    split at e
    · split at e
      · cases e
      · split at e
        · split at e
          · split at e
            · split at e
              · exact compL_emp (wipeS_emp vs) e
              · cases e
            · cases e
          · cases e
        · split at e
          · exact compL_emp (wipeS_emp vs) e
          · cases e
        · cases e
    · cases e
/-- the comprehension's reading -/
theorem comp_read {wi : TI} (hi : ∀ (G : Gh) (st : List SV) (σ : Sg) (pst : List SV) (pσ : List (Option V)) (H : Hp) (R : It → Hp → Prop) (o : Out Src),
      Rep X.K G st σ pst pσ H → fi st = some o → (match o with
        | .ok s st' => ∀ J src pv H', ItOk X.K J src pv s → (s.al = none → src.noal = true) → s.ok st' = true → Rep X.K G st' σ (src :: pst) (some pv :: pσ) H' → R J H'
        | .ex x st' => PostX X W G σ pst pσ x st') → wi σ H R) (hts : ∀ i ∈ ts, i ∈ own.map (·.2)) :
    ∀ (G : Gh) (st : List SV) (σ : Sg) (pst : List SV) (pσ : List (Option V)) (H : Hp) (Q : VK) (o : Out SV), Rep X.K G st σ pst pσ H → compS fi (own.map (·.2)) b ft fe st = some o → PostE X W G σ pst pσ Q o →
      tLc wi (tG0 X.K ts b) (tT0 X.K ft) (tE0 X.K fe) (own.map (·.2)) σ H Q := by
  intro G st σ pst pσ H Q o R hf post
  unfold compS at hf
  rcases Out.bind_some hf with ⟨s, st1, h1, hf⟩ | ⟨x, st1, h1, rfl⟩
  · refine hi G st σ pst pσ H _ _ R h1 fun J src pv H1 io nal ok1 R1 => ?_
    split at hf
    · rename_i hpl
      split at hf
      · rename_i acc st2 hL
        cases hf
        intro L hLn
        obtain ⟨fs, fp, F⟩ := R1
        have R2 := (Rep.ofF (F.newLst (ds := []) hLn .nil)).wiped hpl
        have emp0 := wipeS_emp (st := st1) (own.map (·.2))
        refine ⟨fun i m H => m = s.ds.length - i ∧ i ≤ s.ds.length ∧ ∃ st ac, (∀ v ∈ own.map (·.2), st[v]? = some .emp ∨ st[v]? = none) ∧ Rep X.K G st (wipe σ (own.map (·.2))) (.own false ac :: src :: pst) (some (.ref L) :: some pv :: pσ) H ∧ compL s (own.map (·.2)) b ft fe (s.ds.drop i) st ac = some (acc, st2),
          ⟨s.ds.length, by simp, Nat.zero_le _, _, [], emp0, R2, hL⟩, ?_⟩
        rintro i m H ⟨rfl, hile, st, ac, emp, R, hc⟩
        have hok : s.ok st = true := by
          by_cases hlt : i < s.ds.length
          · rw [List.drop_eq_getElem_cons hlt, compL] at hc
            split at hc
            · assumption
            · cases hc
          · have e : i = s.ds.length := by omega
            rw [e, List.drop_length, compL] at hc
            split at hc
            · assumption
            · cases hc
        have io' := io G st _ [.own false ac] [some (.ref L)] pst pσ H i rfl hok R
        by_cases hlt : i < s.ds.length
        · have hd : s.ds[i]? = some s.ds[i] := by simp [hlt]
          obtain ⟨go, yl⟩ := io'.1 _ hd
          rw [List.drop_eq_getElem_cons hlt, compL, if_pos hok] at hc
          cases eb : b s.ds[i] st with
          | none => rw [eb] at hc; cases hc
          | some st3 =>
            rw [eb] at hc
            dsimp only at hc
            cases et : ft st3 with
            | none => rw [et] at hc; cases hc
            | some ot =>
              rw [et] at hc
              cases ot with
              | ex x st4 => cases hc
              | ok kb st4 =>
                refine .inr ⟨go, fun H' => ∃ st ac, (∀ v ∈ own.map (·.2), st[v]? = some .emp ∨ st[v]? = none) ∧ Rep X.K G st (wipe σ (own.map (·.2))) (.own false ac :: src :: pst) (some (.ref L) :: some pv :: pσ) H' ∧ compL s (own.map (·.2)) b ft fe (s.ds.drop (i + 1)) st ac = some (acc, st2),
                  fun H' q => ⟨s.ds.length - (i + 1), by omega, rfl, hlt, q⟩, fun x H' y => ?_⟩
                refine ⟨G, st, _, _, s.ds[i], st3, yl x H' y, eb, fun σ2 hl2 hσ2 R3 => ?_⟩
                have weq : wipe σ2 (own.map (·.2)) = wipe σ (own.map (·.2)) := wipe_eq hl2 hσ2 hts
                refine ⟨weq, G, st3, _, _, kb, st4, R3, et, fun H3 R4 => ?_⟩
                cases kb with
                | false =>
                  dsimp only at hc
                  split at hc
                  · rename_i hp4
                    have R5 := R4.wiped hp4
                    rw [weq] at R5
                    exact iteF ⟨_, ac, wipeS_emp _, R5, hc⟩
                  · cases hc
                | true =>
                  dsimp only at hc
                  cases ee : fe st4 with
                  | none => rw [ee] at hc; cases hc
                  | some oe =>
                    rw [ee] at hc
                    cases oe with
                    | ex x st5 => cases hc
                    | ok r st5 =>
                      dsimp only at hc
                      refine iteT ⟨G, st4, _, _, r, st5, R4, ee, fun y H4 R5 => ?_⟩
                      split at hc
                      · rename_i e ek
                        split at hc
                        · rename_i hcond
                          obtain ⟨vs, hH, hvl, R6⟩ := (R5.frz (kept_frz ek)).appTop
                          refine ⟨vs, hH, by rw [hvl]; exact hcond.1, ?_⟩
                          have R7 := R6.wiped hcond.2
                          rw [weq] at R7
                          exact ⟨_, _, wipeS_emp _, R7, hc⟩
                        · cases hc
                      · cases hc
        · have e : i = s.ds.length := by omega
          subst e
          rw [List.drop_length, compL, if_pos hok] at hc
          cases hc
          exact .inl ⟨io'.2 (Nat.le_refl _), post _ H (R.under.unwiped emp)⟩
      · cases hf
    · cases hf
  · exact hi G st σ pst pσ H _ _ R h1 post
theorem se_comp (hc : X.calm = true) (hN : X.N.Nodup) (hi : SI X W tg iter fi) (ok : BlkOk X.N X.env.scope scope own)
    (hg : ∀ (s : Shared) (H : Hp) (C : Addr) (cl : List (Str × Addr)) (fp : List Addr), SG (X.blk s H scope (compEnvC scope cl C X.env) fp) tg ts b) (ht : ∀ (s : Shared) (H : Hp) (C : Addr) (cl : List (Str × Addr)) (fp : List Addr), SPt (X.blk s H scope (compEnvC scope cl C X.env) fp) ifs ft)
    (he : ∀ (s : Shared) (H : Hp) (C : Addr) (cl : List (Str × Addr)) (fp : List Addr), SE (X.blk s H scope (compEnvC scope cl C X.env) fp) WF elt fe) (hts : ∀ i ∈ ts, i ∈ own.map (·.2) := by decide) (hs : ∀ x, foldedSetIterable iter X.env x = pure x := by intro _; rfl) :
    SE X W (.ListComp elt [⟨tg, iter, ifs, 0⟩] scope pos) (compS fi (own.map (·.2)) b ft fe) := by
  obtain ⟨wi, p, s⟩ := hi
  exact ⟨_, pe_lc (g := tG0 X.K ts b) (tt := tT0 X.K ft) (te := tE0 X.K fe) hc hN p ok (fun s H C cl fp => (hg s H C cl fp).can) (fun s H C cl fp => ht s H C cl fp) (fun s H C cl fp => (he s H C cl fp).can) hs, comp_read s hts⟩
theorem s1_asgC {i : Nat} {y : Str} {py spos : Pos} (hc : X.calm = true) (hN : X.N.Nodup) (hy : X.N[i]? = some y) (hyl : X.env.scope.names.lookup y = some .local)
    (hsw : swapsWith (.ListComp elt [⟨tg, iter, ifs, 0⟩] scope pos) (some (.Name y py)) spos.line X.env = pure true) (hi : SI X W tg iter fi) (ok : BlkOk X.N X.env.scope scope own)
    (hg : ∀ (s : Shared) (H : Hp) (C : Addr) (cl : List (Str × Addr)) (fp : List Addr), SG (X.blk s H scope (compEnvC scope cl C X.env) fp) tg ts b) (ht : ∀ (s : Shared) (H : Hp) (C : Addr) (cl : List (Str × Addr)) (fp : List Addr), SPt (X.blk s H scope (compEnvC scope cl C X.env) fp) ifs ft)
    (he : ∀ (s : Shared) (H : Hp) (C : Addr) (cl : List (Str × Addr)) (fp : List Addr), SE (X.blk s H scope (compEnvC scope cl C X.env) fp) WF elt fe) (hts : ∀ i ∈ ts, i ∈ own.map (·.2) := by decide) (hs : ∀ x, foldedSetIterable iter X.env x = pure x := by intro _; rfl) :
    S1 X W (.Assign [.Name y py] (.ListComp elt [⟨tg, iter, ifs, 0⟩] scope pos) spos) (asgF (bindN i) (compS fi (own.map (·.2)) b ft fe)) := by
  obtain ⟨wi, p, s⟩ := hi
  obtain ⟨g, pg, sg⟩ := sg_name (X := X) (pg_name (pos := py) hN hy (.inl hyl) (.inr hyl))
  refine asg_core (ps_setLc (g := tG0 X.K ts b) (tt := tT0 X.K ft) (te := tE0 X.K fe) hc hN hy hyl hsw p ok (fun s H C cl fp => (hg s H C cl fp).can) (fun s H C cl fp => ht s H C cl fp) (fun s H C cl fp => (he s H C cl fp).can) hs) (comp_read s hts) (ts := [i]) fun G st σ pst pσ H v d Q st' R e post => ?_
  exact post _ List.length_set (fun j hj => List.getElem?_set_ne (fun e => hj (by simp [e]))) (R.setN e)
theorem s1_asgCO {i : Nat} {y : Str} {py spos : Pos} (hc : X.calm = true) (hN : X.N.Nodup) (hy : X.N[i]? = some y) (hyl : X.env.scope.names.lookup y = some .local)
    (hsw : swapsWith (.ListComp elt [⟨tg, iter, ifs, 0⟩] scope pos) (some (.Name y py)) spos.line X.env = pure true) (hi : SI X W tg iter fi) (ok : BlkOk X.N X.env.scope scope own)
    (hg : ∀ (s : Shared) (H : Hp) (C : Addr) (cl : List (Str × Addr)) (fp : List Addr), SG (X.blk s H scope (compEnvC scope cl C X.env) fp) tg ts b) (ht : ∀ (s : Shared) (H : Hp) (C : Addr) (cl : List (Str × Addr)) (fp : List Addr), SPt (X.blk s H scope (compEnvC scope cl C X.env) fp) ifs ft)
    (he : ∀ (s : Shared) (H : Hp) (C : Addr) (cl : List (Str × Addr)) (fp : List Addr), SE (X.blk s H scope (compEnvC scope cl C X.env) fp) WF elt fe) (hts : ∀ i ∈ ts, i ∈ own.map (·.2) := by decide) (hs : ∀ x, foldedSetIterable iter X.env x = pure x := by intro _; rfl) :
    S1 X W (.Assign [.Name y py] (.ListComp elt [⟨tg, iter, ifs, 0⟩] scope pos) spos) (asgO i (compS fi (own.map (·.2)) b ft fe)) := by
  obtain ⟨wi, p, s⟩ := hi
  exact asgO_core (ps_setLc (g := tG0 X.K ts b) (tt := tT0 X.K ft) (te := tE0 X.K fe) hc hN hy hyl hsw p ok (fun s H C cl fp => (hg s H C cl fp).can) (fun s H C cl fp => ht s H C cl fp) (fun s H C cl fp => (he s H C cl fp).can) hs) (comp_read s hts)
end
end TK

namespace TK
open PySem PySem.Spec PyProof.Rows L2

/-! ## calls of defs -/
inductive Ret where
  | ret (r : SV) (io : Option (List D))
  | ex (x : Ex) (io : Option (List D))
abbrev FS := List SV → Option Ret
def ioSV : Option (List D) → SV
  | none => .emp
  | some ds => .own true ds
def isRes : SV → Bool
  | .val _ => true
  | .own false _ => true
  | .own2 _ => true
  | .dct _ _ => true
  | _ => false
/-- the promise of a def of n parameters whose meaning is f -/
def spD (K : PySem.W.Frag) (mg : Str → Option Value) (n : Nat) (f : FS) : Sp := fun vs H Q E => ∃ (G : Gh) (as : List SV) (o : Ret), vs.length = n ∧ as.length = n ∧ G.H0 = H ∧ Rep K G as (vs.map some) [] [] H ∧ f as = some o ∧
  match o with
  | .ret r io => ∀ v H', isRes r = true → Rep K G [ioSV io] [G.io.map V.ref] [r] [some v] H' → Q v H'
  | .ex x io => ∀ cls d H', ExOk mg x cls d H' → Rep K G [ioSV io] [G.io.map V.ref] [] [] H' → E cls d H'
def isAl : SV → Bool
  | .al _ => true
  | _ => false
def argOf (st : List SV) : SV → Option SV
  | .val d => some (.val d)
  | .scr ns => some (.scr ns)
  | .al i => match dataOf st (.al i) with
    | some d => some (.val d)
    | none => none
  | _ => none
def argsOf (st : List SV) : List SV → Option (List SV)
  | [] => some []
  | r :: rs => match argOf st r with
    | none => none
    | some a => (argsOf st rs).map (a :: ·)
@[simp] theorem argsOf_nil (st : List SV) : argsOf st [] = some [] := rfl
@[simp] theorem argsOf_val (st : List SV) (d : D) (rs : List SV) : argsOf st (.val d :: rs) = (argsOf st rs).map (.val d :: ·) := rfl
@[simp] theorem argsOf_scr (st : List SV) (d : List Int) (rs : List SV) : argsOf st (.scr d :: rs) = (argsOf st rs).map (.scr d :: ·) := rfl
mutual
def nolst : D → Bool
  | .list _ => false
  | .dict _ => false
  | .tuple xs => nolstL xs
  | _ => true
def nolstL : List D → Bool
  | [] => true
  | x :: xs => nolst x && nolstL xs
end
def noAls (rs : List SV) : Bool := rs.all fun r => !isAl r
def okRes (rs : List SV) (r : SV) : Bool := noAls rs || (match r with
  | .val d => nolst d
  | _ => false)
def callS (F : FS) (fs : SM (List SV)) : SM SV := fun st => Out.bind (fs st) fun rs st1 => match argsOf st1 rs with
  | none => none
  | some as => match F as with
    | some (.ret r none) => if okRes rs r then some (.ok r st1) else none
    | some (.ex x none) => some (.ex x st1)
    | _ => none
/-- the first argument is a slot whose list the callee may change -/
def callIO (F : FS) (fs : SM (List SV)) : SM SV := fun st => Out.bind (fs st) fun rs st1 => match rs with
  | .al i :: rest => match st1[i]? with
    | some (.own b ds) => if noAls rest then match argsOf st1 rest with
      | none => none
      | some as => match F (.own true ds :: as) with
        | some (.ret r (some ds')) => some (.ok r (st1.set i (.own b ds')))
        | some (.ex x (some ds')) => some (.ex x (st1.set i (.own b ds')))
        | _ => none else none
    | _ => none
  | _ => none

section
variable {K : PySem.W.Frag} {G : Gh} {st : List SV} {σ : Sg} {pst : List SV} {pσ : List (Option V)} {H H' : Hp}
mutual
theorem RV.nolst {Z Z' : Addr → Prop} {H : Hp} (hz : ∀ a, Z' a → ∃ o, H a = some o ∧ isMut o = true) : ∀ (d : D) (v : V), nolst d = true → RV Z H v d → RV Z' H v d
  | .none, _, _, h => by cases h; exact .non
  | .bool b, _, _, h => by cases h; exact .bl b
  | .int i, _, _, h => by cases h; exact .int i
  | .str x, _, _, h => by cases h; exact .str x
  | .list ds, _, n, h => by simp [TK.nolst] at n
  | .tuple ds, _, n, h => by
    cases h with
    | tup h1 h2 h3 => exact .tup h1 (fun z => by obtain ⟨xs, e, em⟩ := hz _ z; rw [h1] at e; cases e; cases em) (RVs.nolst hz ds _ n h3)
  | .dict _, _, n, h => by cases h
theorem RVs.nolst {Z Z' : Addr → Prop} {H : Hp} (hz : ∀ a, Z' a → ∃ o, H a = some o ∧ isMut o = true) : ∀ (ds : List D) (vs : List V), nolstL ds = true → RVs Z H vs ds → RVs Z' H vs ds
  | [], _, _, h => by cases h; exact .nil
  | d :: ds, _, n, h => by
    simp only [TK.nolstL, Bool.and_eq_true] at n
    cases h with
    | cons h1 h2 => exact .cons (RV.nolst hz d _ n.1 h1) (RVs.nolst hz ds _ n.2 h2)
end
theorem RepF.zLst {fs fp : List (List Addr)} (h : RepF K G fs fp st σ pst pσ H) {a : Addr} (z : Zf G (fs.flatten ++ fp.flatten) a) : ∃ o, H a = some o ∧ isMut o = true := by
  rcases z with z | z
  · obtain ⟨⟨xs, e, em⟩, w⟩ := h.zxt a z
    exact ⟨xs, h.frame a _ e w, em⟩
  · exact h.owned a z
theorem arg_ok {fs fp : List (List Addr)} {G' : Gh} {Z' : Addr → Prop} {σ' : Sg} {v : Option V} {r a : SV} {f : List Addr} (F : RepF K G fs fp st σ pst pσ H) (q : SlotOk K G (Zf G (fs.flatten ++ fp.flatten)) H σ v r f) (e : argOf st r = some a)
    (hz : ∀ b, Z' b → Zf G (fs.flatten ++ fp.flatten) b) (hal : isAl r = true → ∀ b, ¬ Z' b) : SlotOk K G' Z' H σ' v a [] := by
  have k : Keep (Zf G (fs.flatten ++ fp.flatten)) Z' H H := .sub fun b _ z => hz b z
  cases r with
  | val d =>
    cases e
    obtain ⟨_, x, e, r⟩ := q
    exact ⟨rfl, x, e, RV.frame k _ _ r⟩
  | scr ns =>
    cases e
    obtain ⟨_, b, e, r⟩ := q
    exact ⟨rfl, b, e, r.frame k⟩
  | emp => cases e
  | exc _ _ _ => cases e
  | dct _ _ => cases e
  | own io ds => cases e
  | own2 dss => cases e
  | al i =>
    have hn := hal rfl
    have e : (match dataOf st (.al i) with | some d => some (SV.val d) | none => none) = some a := e
    obtain ⟨_, x, rfl, ex⟩ := q
    cases es : st[i]? with
    | none =>
      have : dataOf st (.al i) = none := by show (match st[i]? with | some (.val d) => some d | some (.own _ ds) => some (.list ds) | some (.own2 dss) => some (.list (dss.map PyData.list)) | _ => none) = none; rw [es]
      rw [this] at e; cases e
    | some s =>
      obtain ⟨v', f', e1, _, q⟩ := F.slots.get es
      rw [ex] at e1
      cases e1
      have ed : dataOf st (.al i) = (match (some s : Option SV) with | some (.val d) => some d | some (.own _ ds) => some (.list ds) | some (.own2 dss) => some (.list (dss.map PyData.list)) | _ => none) := by
        show (match st[i]? with | some (.val d) => some d | some (.own _ ds) => some (.list ds) | some (.own2 dss) => some (.list (dss.map PyData.list)) | _ => none) = _
        rw [es]
      rw [ed] at e
      cases s with
      | val d => cases e; obtain ⟨_, x', e', r⟩ := q; cases e'; exact ⟨rfl, x, rfl, RV.frame k _ _ r⟩
      | own io ds =>
        cases e
        obtain ⟨p, vs, rfl, ep, hp, r, _⟩ := q
        cases ep
        exact ⟨rfl, _, rfl, .lst hp (hn p) (RVs.frame k _ _ r)⟩
      | own2 dss =>
        cases e
        obtain ⟨p, qs, rfl, ep, hp, r⟩ := q
        cases ep
        exact ⟨rfl, _, rfl, .lst hp (hn p) (Rows.val (Rows.frame k (fun _ _ => rfl) r) fun q _ => hn q)⟩
      | emp => cases e
      | al j => cases e
      | scr ns => cases e
      | exc _ _ _ => cases e
      | dct _ _ => cases e
theorem args_all {fs fp : List (List Addr)} {p0 : List SV} {q0 : List (Option V)} {G' : Gh} {Z' : Addr → Prop} {σ' : Sg} (F : RepF K G fs fp st σ p0 q0 H) (hz : ∀ b, Z' b → Zf G (fs.flatten ++ fp.flatten) b) :
    ∀ {rs : List SV} {vs : List V} {as : List SV} {bs : List (Option V)} {cs : List SV} {ws : List (List Addr)}, (noAls rs = false → ∀ b, ¬ Z' b) → argsOf st rs = some as → vs.length = rs.length →
      All3 (SlotOk K G (Zf G (fs.flatten ++ fp.flatten)) H σ) ((vs.map some).reverse ++ bs) (rs.reverse ++ cs) ws → All3 (SlotOk K G' Z' H σ') (vs.map some) as (as.map fun _ => []) := by
  intro rs
  induction rs with
  | nil =>
    intro vs as bs cs ws _ e hl h
    cases e
    cases vs with
    | nil => exact .nil
    | cons _ _ => simp at hl
  | cons r rs ih =>
    intro vs as bs cs ws hal e hl h
    cases vs with
    | nil => simp at hl
    | cons v vs =>
      have e : (match argOf st r with | none => none | some a => (argsOf st rs).map (a :: ·)) = some as := e
      cases ea : argOf st r with
      | none => rw [ea] at e; cases e
      | some a =>
        rw [ea] at e
        dsimp only at e
        cases er : argsOf st rs with
        | none => rw [er] at e; cases e
        | some as' =>
          rw [er] at e
          cases e
          have hl' : vs.length = rs.length := by simpa using hl
          have h' : All3 (SlotOk K G (Zf G (fs.flatten ++ fp.flatten)) H σ) ((vs.map some).reverse ++ (some v :: bs)) (rs.reverse ++ (r :: cs)) ws := by
            rw [List.map_cons, List.reverse_cons, List.reverse_cons, List.append_assoc, List.append_assoc] at h
            exact h
          refine .cons ?_ (ih (fun hn => hal (by simp [noAls] at hn ⊢; exact fun _ => hn)) er hl' h')
          obtain ⟨c, _, q⟩ := All3.mid (by simp [hl']) h'
          exact arg_ok F q ea hz fun hr => hal (by simp [noAls, hr])
theorem flat_nils (as : List SV) : (as.map fun _ => ([] : List Addr)).flatten = [] := by
  induction as with
  | nil => rfl
  | cons a as ih => simpa using ih
/-- what the callee's end gives back -/
theorem RepF.after {fs fp : List (List Addr)} {G' : Gh} {Z' : Addr → Prop} {σ' : Sg} {r : SV} {v : V} {fr : List Addr} (F : RepF K G fs fp st σ pst pσ H) (sm : Same H H') (nd : fr.Nodup) (hfr : ∀ a ∈ fr, H a = none)
    (q : SlotOk K G' Z' H' σ' (some v) r fr) (hr : isRes r = true) (hz : (∀ a, Zf G (fs.flatten ++ fp.flatten) a ∨ a ∈ fr → Z' a) ∨ ∃ d, r = .val d ∧ nolst d = true) : Rep K G st σ (r :: pst) (some v :: pσ) H' := by
  have tr : ∀ a, Zf G (fs.flatten ++ fp.flatten) a → a ∉ fr := fun a z hm => F.zTracked z (hfr a hm)
  have k : Keep (Zf G (fs.flatten ++ fp.flatten)) (Zf G (fs.flatten ++ (fr :: fp).flatten)) H H' := fun a o e n => by
    refine ⟨sm a o e, fun z => ?_⟩
    rcases z with z | z
    · exact n (.inl z)
    · simp only [List.flatten_cons, List.mem_append] at z
      rcases z with z | z | z
      · exact n (.inr (List.mem_append_left _ z))
      · rw [hfr a z] at e; cases e
      · exact n (.inr (List.mem_append_right _ z))
  have hn : ∀ a ∈ fs.flatten ++ fp.flatten, H' a = H a := fun a ha => by
    obtain ⟨xs, e, _⟩ := F.owned a ha
    rw [e]; exact sm a _ e
  have ez : ∀ a, Zf G (fs.flatten ++ (fr :: fp).flatten) a → Zf G (fs.flatten ++ fp.flatten) a ∨ a ∈ fr := fun a z => by
    rcases z with z | z
    · exact .inl (.inl z)
    · simp only [List.flatten_cons, List.mem_append] at z
      rcases z with z | z | z
      · exact .inl (.inr (List.mem_append_left _ z))
      · exact .inr z
      · exact .inl (.inr (List.mem_append_right _ z))
  have q' : SlotOk K G (Zf G (fs.flatten ++ (fr :: fp).flatten)) H' σ (some v) r fr := by
    rcases hz with hz | ⟨d, rfl, hd⟩
    · have k' : Keep Z' (Zf G (fs.flatten ++ (fr :: fp).flatten)) H' H' := .sub fun a _ z => hz a (ez a z)
      have q := q.frame (K := K) (G := G') k' (f := fr) fun _ _ => rfl
      cases r with
      | val d => exact q
      | own io ds =>
        cases io with
        | false => obtain ⟨p, vs, h1, h2, h3, h4, _⟩ := q; exact ⟨p, vs, h1, h2, h3, h4, fun z => nomatch z⟩
        | true => cases hr
      | own2 dss => exact q
      | emp => cases hr
      | al i => cases hr
      | scr ns => cases hr
      | exc _ _ _ => cases hr
      | dct _ _ => exact q
    · obtain ⟨rfl, x, ex, rx⟩ := q
      refine ⟨rfl, x, ex, RV.nolst (fun a z => ?_) d x hd rx⟩
      rcases ez a z with z | z
      · obtain ⟨xs, e, em⟩ := F.zLst z
        exact ⟨xs, sm a _ e, em⟩
      · cases z
  refine ⟨fs, fr :: fp, ⟨F.slots.imp fun a b c hc q => q.frame k fun x hx => hn x (List.mem_append_left _ (mem_ff hc hx)), .cons q' (F.pend.imp fun a b c hc q => q.frame k fun x hx => hn x (List.mem_append_right _ (mem_ff hc hx))), ?_, fun a ha => ?_,
    fun a o e w => sm a o (F.frame a o e w), fun a e => ?_, F.zxt, F.na, fun i hi => F.alk i ((List.mem_cons.mp hi).elim (fun e => by rw [← e] at hr; cases hr) id)⟩⟩
  · rw [List.flatten_cons]
    refine (List.Perm.nodup_iff (show (fr ++ (fs.flatten ++ fp.flatten)).Perm (fs.flatten ++ (fr ++ fp.flatten)) from ?_)).mp ?_
    · rw [← List.append_assoc, ← List.append_assoc]
      exact List.Perm.append_right _ List.perm_append_comm
    · exact List.nodup_append.mpr ⟨nd, F.nd, fun a ha b hb e => by subst e; exact tr a (.inr hb) ha⟩
  · simp only [List.flatten_cons, List.mem_append] at ha
    rcases ha with ha | ha | ha
    · exact F.fresh a (List.mem_append_left _ ha)
    · exact ⟨.inr (F.h0 (hfr a ha)), fun z => F.notZ (hfr a ha) (.inl z)⟩
    · exact F.fresh a (List.mem_append_right _ ha)
  · have q := F.there a e
    cases e2 : H a with
    | none => exact absurd e2 q
    | some o => rw [sm a o e2]; simp
theorem RepF.sameTo {fs fp : List (List Addr)} (F : RepF K G fs fp st σ pst pσ H) (sm : Same H H') : RepF K G fs fp st σ pst pσ H' := by
  have k : Keep (Zf G (fs.flatten ++ fp.flatten)) (Zf G (fs.flatten ++ fp.flatten)) H H' := fun a o e n => ⟨sm a o e, n⟩
  have hn : ∀ a ∈ fs.flatten ++ fp.flatten, H' a = H a := fun a ha => by
    obtain ⟨xs, e, _⟩ := F.owned a ha
    rw [e]; exact sm a _ e
  refine ⟨F.slots.imp fun a b c hc q => q.frame k fun x hx => hn x (List.mem_append_left _ (mem_ff hc hx)), F.pend.imp fun a b c hc q => q.frame k fun x hx => hn x (List.mem_append_right _ (mem_ff hc hx)), F.nd, F.fresh,
    fun a o e w => sm a o (F.frame a o e w), fun a e => ?_, F.zxt, F.na, F.alk⟩
  have q := F.there a e
  cases e2 : H a with
  | none => exact absurd e2 q
  | some o => rw [sm a o e2]; simp
theorem Rep.unfoldC {G : Gh} {a b : SV} {va vb : Option V} (h : Rep K G [a] [va] [b] [vb] H) : ∃ f g, RepF K G [f] [g] [a] [va] [b] [vb] H ∧ SlotOk K G (Zf G (f ++ g)) H [va] va a f ∧ SlotOk K G (Zf G (f ++ g)) H [va] vb b g ∧ (f ++ g).Nodup := by
  obtain ⟨fs, fp, F⟩ := h
  have F' := F
  obtain ⟨hs1, hp1, nd, fr, f1, f2, f3, f4, f5⟩ := F
  cases hs1 with
  | @cons _ _ f _ _ fs q1 q2 =>
    cases q2
    cases hp1 with
    | @cons _ _ g _ _ fp q3 q4 =>
      cases q4
      have e : ([f] : List (List Addr)).flatten ++ ([g] : List (List Addr)).flatten = f ++ g := by simp
      rw [e] at q1 q3 nd
      exact ⟨f, g, F', q1, q3, nd⟩
theorem Rep.unfoldC0 {G : Gh} {a : SV} {va : Option V} (h : Rep K G [a] [va] [] [] H) : ∃ f, RepF K G [f] [] [a] [va] [] [] H ∧ SlotOk K G (Zf G (f ++ [])) H [va] va a f := by
  obtain ⟨fs, fp, F⟩ := h
  have F' := F
  obtain ⟨hs1, hp1, nd, fr, f1, f2, f3, f4, f5⟩ := F
  cases hs1 with
  | @cons _ _ f _ _ fs q1 q2 =>
    cases q2
    cases hp1
    have e : ([f] : List (List Addr)).flatten ++ ([] : List (List Addr)).flatten = f ++ [] := by simp
    rw [e] at q1
    exact ⟨f, F', q1⟩
end
section
variable {X : Cx} {W : WX} {F : FS} {fs : SM (List SV)} {k n : Nat} {f : Addr} {fd : FuncData} {ps : List Str} {x : Str} {p pos : Pos} {e : Expr} {es : List Expr}
theorem argsOf_len {st : List SV} : ∀ {rs as : List SV}, argsOf st rs = some as → as.length = rs.length
  | [], as, e => by cases e; rfl
  | r :: rs, as, e => by
    have e : (match argOf st r with | none => none | some a => (argsOf st rs).map (a :: ·)) = some as := e
    cases ea : argOf st r with
    | none => rw [ea] at e; cases e
    | some a =>
      rw [ea] at e
      dsimp only at e
      cases er : argsOf st rs with
      | none => rw [er] at e; cases e
      | some as' => rw [er] at e; cases e; simp [argsOf_len er]
theorem argsOf_noal {st : List SV} : ∀ {rs as : List SV}, argsOf st rs = some as → ∀ s ∈ as, s.noal = true
  | [], as, e => by cases e; intro s h; cases h
  | r :: rs, as, e => by
    have e : (match argOf st r with | none => none | some a => (argsOf st rs).map (a :: ·)) = some as := e
    cases ea : argOf st r with
    | none => rw [ea] at e; cases e
    | some a =>
      rw [ea] at e
      dsimp only at e
      cases er : argsOf st rs with
      | none => rw [er] at e; cases e
      | some as' =>
        rw [er] at e
        cases e
        intro s hs
        rcases List.mem_cons.mp hs with q | hs
        · subst q
          cases r with
          | val d => cases ea; rfl
          | scr d => cases ea; rfl
          | al i =>
            have ea : (match dataOf st (.al i) with | some d => some (SV.val d) | none => none) = some s := ea
            split at ea
            · cases ea; rfl
            · cases ea
          | emp => cases ea
          | own _ _ => cases ea
          | own2 _ => cases ea
          | exc _ _ _ => cases ea
          | dct _ _ => cases ea
        · exact argsOf_noal er s hs
theorem okRes_or {rs : List SV} {r : SV} (h : okRes rs r = true) : noAls rs = true ∨ ∃ d, r = .val d ∧ nolst d = true := by
  unfold okRes at h
  rw [Bool.or_eq_true] at h
  rcases h with h | h
  · exact .inl h
  · split at h
    · rename_i d; exact .inr ⟨d, rfl, h⟩
    · cases h
theorem se_call (FO : FnOk X.prog X.w X.K X.mg X.base (L2N.CX X.prog X.w) k f fd ps (spD X.K X.mg n F)) (hr : Room k X.A) (tk : L2N.Takes X W) (hg : Gl X x) (hm : X.mg x = some (.ref f)) (hk : PySem.W.keepIn X.K (.ref f) = true) (hb : Binds X.K fd ps [])
    (ha : SA X W (e :: es) fs) (hn : (e :: es).length = n) (hal : ∀ st rs st', fs st = some (.ok rs st') → rs.length = n) (hdb : (x == ("__debug__" : Str)) = false := by decide) (he : starEach (e :: es) X.env = (false, eval e X.env) :: starEach es X.env := by rfl) (hpl : (backTo pos (starEach es X.env)).any (·.1) = false := by rfl) :
    SE X W (.Call (.Name x p) (e :: es) [] pos) (callS F fs) := by
  obtain ⟨t, pt, s⟩ := ha
  refine ⟨_, pe_callSD (E := fun σ cls d H => W cls d σ H) FO hr hg hm hk hb .nil (fun σ => L2N.passAt tk σ) pt hdb he hpl, fun G st σ pst pσ H Q o R hf post => ?_⟩
  unfold callS at hf
  rcases Out.bind_some hf with ⟨rs, st1, h1, hf⟩ | ⟨x, st1, h1, rfl⟩
  · refine s G st σ pst pσ H _ _ R h1 fun vs H1 hl R1 => ?_
    rw [List.append_nil]
    obtain ⟨fs1, fp1, F1⟩ := R1
    split at hf
    · cases hf
    · rename_i as eas
      have hrl := hal _ _ _ h1
      refine (?_ : ∀ o', F as = some o' → spD X.K X.mg n F vs H1 Q fun cls d H => W cls d σ H) _ (?_ : F as = some (match F as with | some o => o | none => .ret .emp none))
      · intro o' eo
        rw [eo] at hf
        refine ⟨⟨H1, fun _ => False, fun a => noAls rs = true ∧ Zf G (fs1.flatten ++ fp1.flatten) a, none⟩, as, o', by rw [hl, hrl], by rw [argsOf_len eas, hrl], rfl, ?_, eo, ?_⟩
        · refine ⟨as.map fun _ => [], [], ⟨?_, .nil, by rw [flat_nils]; simp, (fun a ha => by rw [flat_nils] at ha; cases ha), fun a o e _ => e, fun a e => e, fun a z => ⟨F1.zLst z.2, fun w => w⟩, argsOf_noal eas, (fun i hi => by cases hi)⟩⟩
          rw [flat_nils]
          refine args_all F1 (fun b z => ?_) (fun hn b z => ?_) eas hl F1.pend
          · rcases z with z | z
            · exact z.2
            · cases z
          · rcases z with z | z
            · rw [hn] at z; cases z.1
            · cases z
        · cases o' with
          | ret r io =>
            cases io with
            | some ds => cases hf
            | none =>
              dsimp only at hf
              split at hf
              · rename_i hok
                cases hf
                intro v H' hres R'
                obtain ⟨f0, fr, F', q1, q2, nd⟩ := R'.unfoldC
                have e0 : f0 = [] := q1
                subst e0
                have sm : Same H1 H' := fun a o e => F'.frame a o e fun z => z
                have hfr : ∀ a ∈ fr, H1 a = none := fun a ha => by
                  rcases (F'.fresh a (by simp [ha])).1 with z | z
                  · exact z.elim
                  · exact z
                have z := F1.after sm nd hfr q2 hres ((okRes_or hok).imp (fun hno a z => ?_) id)
                · exact post v H' (Rep.unders (by simp [hl]) z)
                · rcases z with z | z
                  · exact .inl ⟨hno, z⟩
                  · exact .inr z
              · cases hf
          | ex x io =>
            cases io with
            | some ds => cases hf
            | none =>
              cases hf
              intro cls d H' ex R'
              obtain ⟨f0, F', _⟩ := R'.unfoldC0
              have sm : Same H1 H' := fun a o e => F'.frame a o e fun z => z
              exact post cls d H' ex (Rep.drops (by simp [hl]) (Rep.ofF (F1.sameTo sm)))
      · cases eF : F as with
        | none => rw [eF] at hf; cases hf
        | some o => rfl
  · exact s G st σ pst pσ H _ _ R h1 post
end
end TK

namespace TK
open PySem PySem.Spec PyProof.Rows L2
section
variable {K : PySem.W.Frag} {G : Gh} {st : List SV} {σ : Sg} {pst : List SV} {pσ : List (Option V)} {H H' : Hp}
theorem alk_set {i j : Nat} {b : Bool} {ds' : List D} {s : SV} (e : st[j]? = some s) (q : s.isOwn = true) : ∃ s, (st.set i (.own b ds'))[j]? = some s ∧ s.isOwn = true := by
  by_cases ej : i = j
  · subst ej
    exact ⟨_, List.getElem?_set_self (List.getElem?_eq_some_iff.mp e).1, rfl⟩
  · exact ⟨s, by rw [List.getElem?_set_ne ej]; exact e, q⟩
/-- the callee has changed the list of slot i; its result r (if any) at fr -/
theorem RepF.afterIO {fs fp : List (List Addr)} {i : Nat} {b : Bool} {ds ds' : List D} {p : Addr} {vs' : List V} {Z' : Addr → Prop} {fr : List Addr} (F : RepF K G fs fp st σ pst pσ H) (hi : st[i]? = some (.own b ds)) (hf : fs[i]? = some [p]) (hσ : σ[i]? = some (some (.ref p)))
    (hio : b = true → G.io = some p) (sm : ∀ a o, H a = some o → a ≠ p → H' a = some o) (hp : H' p = some (.lst vs')) (hfr : ∀ a ∈ fr, H a = none) (hfl : ∀ a ∈ fr, ∃ o, H' a = some o ∧ isMut o = true) (hv : RVs Z' H' vs' ds') (hz : (∀ a, Zf G (fs.flatten ++ fp.flatten) a ∨ a ∈ fr → Z' a) ∨ nolstL ds' = true) :
    All3 (SlotOk K G (Zf G (fs.flatten ++ (fr :: fp).flatten)) H' σ) σ (st.set i (.own b ds')) fs ∧ All3 (SlotOk K G (Zf G (fs.flatten ++ (fr :: fp).flatten)) H' σ) pσ pst fp ∧
      (∀ a o, G.H0 a = some o → ¬ G.wr a → H' a = some o) ∧ (∀ a, G.H0 a ≠ none → H' a ≠ none) ∧ (∀ a, Zf G (fs.flatten ++ (fr :: fp).flatten) a → Zf G (fs.flatten ++ fp.flatten) a ∨ a ∈ fr) ∧ (∀ a, Zf G (fs.flatten ++ fp.flatten) a → ∃ o, H' a = some o ∧ isMut o = true) := by
  have hm : p ∈ fs.flatten := mem_ff (List.mem_of_getElem? hf) (by simp)
  have ez : ∀ a, Zf G (fs.flatten ++ (fr :: fp).flatten) a → Zf G (fs.flatten ++ fp.flatten) a ∨ a ∈ fr := fun a z => by
    rcases z with z | z
    · exact .inl (.inl z)
    · simp only [List.flatten_cons, List.mem_append] at z
      rcases z with z | z | z
      · exact .inl (.inr (List.mem_append_left _ z))
      · exact .inr z
      · exact .inl (.inr (List.mem_append_right _ z))
  have k : Keep (Zf G (fs.flatten ++ fp.flatten)) (Zf G (fs.flatten ++ (fr :: fp).flatten)) H H' := fun a o e n => by
    have na : a ≠ p := fun q => n (.inr (List.mem_append_left _ (by rw [q]; exact hm)))
    refine ⟨sm a o e na, fun z => ?_⟩
    rcases ez a z with z | z
    · exact n z
    · rw [hfr a z] at e; cases e
  have hn : ∀ a ∈ fs.flatten ++ fp.flatten, a ≠ p → H' a = H a := fun a ha na => by
    obtain ⟨xs, e, _⟩ := F.owned a ha
    rw [e]; exact sm a _ e na
  have zl : ∀ a, Zf G (fs.flatten ++ fp.flatten) a → ∃ o, H' a = some o ∧ isMut o = true := fun a z => by
    by_cases na : a = p
    · subst na; exact ⟨_, hp, rfl⟩
    · obtain ⟨xs, e, em⟩ := F.zLst z
      exact ⟨xs, sm a _ e na, em⟩
  have nd1 : fs.flatten.Nodup := (List.nodup_append.mp F.nd).1
  have hv' : RVs (Zf G (fs.flatten ++ (fr :: fp).flatten)) H' vs' ds' := by
    rcases hz with hz | hd
    · exact RVs.frame (.sub fun a _ z => hz a (ez a z)) _ _ hv
    · refine RVs.nolst (fun a z => ?_) ds' vs' hd hv
      rcases ez a z with z | z
      · exact zl a z
      · exact hfl a z
  have q := F.slots.impSet (Q := SlotOk K G (Zf G (fs.flatten ++ (fr :: fp).flatten)) H' σ) i (a := some (.ref p)) (b := .own b ds') (c := [p]) ⟨p, vs', rfl, rfl, hp, hv', hio⟩
    fun j a b c hj hc q => q.frame k fun x hx => hn x (List.mem_append_left _ (mem_ff (List.mem_of_getElem? hc) hx)) fun e => flat_apart (a := p) nd1 hf hc (Ne.symm hj) (by simp) (by rw [e] at hx; exact hx)
  rw [set_same hσ, set_same hf] at q
  refine ⟨q, F.pend.imp fun a b c hc q => q.frame k fun x hx => hn x (List.mem_append_right _ (mem_ff hc hx)) fun e => (List.nodup_append.mp F.nd).2.2 p hm x (mem_ff hc hx) e.symm, fun a o e w => ?_, fun a e => ?_, ez, zl⟩
  · have q := F.frame a o e w
    have na : a ≠ p := fun z => by
      subst z
      rcases (F.fresh a (List.mem_append_left _ hm)).1 with z | z
      · exact w z
      · rw [z] at e; cases e
    exact sm a o q na
  · by_cases na : a = p
    · subst na; rw [hp]; simp
    · have q := F.there a e
      cases e2 : H a with
      | none => exact absurd e2 q
      | some o => rw [sm a o e2 na]; simp
end
section
variable {X : Cx} {W : WX} {F : FS} {fs : SM (List SV)} {k n : Nat} {f : Addr} {fd : FuncData} {ps : List Str} {x : Str} {p pos : Pos} {e : Expr} {es : List Expr}
theorem SlotOk.res {K : PySem.W.Frag} {G G' : Gh} {Z Z' : Addr → Prop} {H : Hp} {σ σ' : Sg} {v : V} {r : SV} {fr : List Addr} (q : SlotOk K G' Z' H σ' (some v) r fr) (hr : isRes r = true) (hz : (∀ a, H a ≠ none → Z a → Z' a) ∨ (∃ d, r = .val d ∧ nolst d = true) ∧ ∀ a, Z a → ∃ o, H a = some o ∧ isMut o = true) : SlotOk K G Z H σ (some v) r fr := by
  rcases hz with hz | ⟨⟨d, rfl, hd⟩, hz⟩
  · have q := q.frame (K := K) (G := G') (Z' := Z) (.sub hz) (f := fr) fun _ _ => rfl
    cases r with
    | val d => exact q
    | own io ds =>
      cases io with
      | false => obtain ⟨p, vs, h1, h2, h3, h4, _⟩ := q; exact ⟨p, vs, h1, h2, h3, h4, fun z => nomatch z⟩
      | true => cases hr
    | own2 dss => exact q
    | emp => cases hr
    | al i => cases hr
    | scr ns => cases hr
    | exc _ _ _ => cases hr
    | dct _ _ => exact q
  · obtain ⟨rfl, x, ex, rx⟩ := q
    exact ⟨rfl, x, ex, RV.nolst hz d x hd rx⟩
theorem se_callIO (FO : FnOk X.prog X.w X.K X.mg X.base (L2N.CX X.prog X.w) k f fd ps (spD X.K X.mg n F)) (hr : Room k X.A) (tk : L2N.Takes X W) (hg : Gl X x) (hm : X.mg x = some (.ref f)) (hk : PySem.W.keepIn X.K (.ref f) = true) (hb : Binds X.K fd ps [])
    (ha : SA X W (e :: es) fs) (hn : (e :: es).length = n) (hal : ∀ st rs st', fs st = some (.ok rs st') → rs.length = n) (hdb : (x == ("__debug__" : Str)) = false := by decide) (he : starEach (e :: es) X.env = (false, eval e X.env) :: starEach es X.env := by rfl) (hpl : (backTo pos (starEach es X.env)).any (·.1) = false := by rfl) :
    SE X W (.Call (.Name x p) (e :: es) [] pos) (callIO F fs) := by
  obtain ⟨t, pt, s⟩ := ha
  refine ⟨_, pe_callSD (E := fun σ cls d H => W cls d σ H) FO hr hg hm hk hb .nil (fun σ => L2N.passAt tk σ) pt hdb he hpl, fun G st σ pst pσ H Q o R hf post => ?_⟩
  unfold callIO at hf
  rcases Out.bind_some hf with ⟨rs, st1, h1, hf⟩ | ⟨x, st1, h1, rfl⟩
  · refine s G st σ pst pσ H _ _ R h1 fun vs H1 hl R1 => ?_
    rw [List.append_nil]
    obtain ⟨fs1, fp1, F1⟩ := R1
    have hrl := hal _ _ _ h1
    split at hf
    · rename_i i rest
      cases vs with
      | nil => simp at hl
      | cons v0 vr =>
      split at hf
      · rename_i b ds es0
        split at hf
        · rename_i hno
          split at hf
          · cases hf
          · rename_i as eas
            -- the first argument
            have hl' : vr.length = rest.length := by simpa using hl
            have hpend : All3 (SlotOk X.K G (Zf G (fs1.flatten ++ fp1.flatten)) H1 σ) ((vr.map some).reverse ++ (some v0 :: pσ)) (rest.reverse ++ (.al i :: pst)) fp1 := by
              have q := F1.pend
              rw [List.map_cons, List.reverse_cons, List.reverse_cons, List.append_assoc, List.append_assoc] at q
              exact q
            obtain ⟨c0, _, q0⟩ := All3.mid (by simp [hl']) hpend
            obtain ⟨_, x0, e0, hσ⟩ := q0
            cases e0
            obtain ⟨p0, vs0, e1, e2, hp0, rv0, hio⟩ := F1.ownAt es0
            rw [hσ] at e1
            cases e1
            have hm0 : p0 ∈ fs1.flatten := mem_ff (List.mem_of_getElem? e2) (by simp)
            refine (?_ : ∀ o', F (.own true ds :: as) = some o' → spD X.K X.mg n F (.ref p0 :: vr) H1 Q fun cls d H => W cls d σ H) _ (?_ : F (.own true ds :: as) = some (match F (.own true ds :: as) with | some o => o | none => .ret .emp none))
            · intro o' eo
              rw [eo] at hf
              have zof : ∀ a, Zf ⟨H1, fun a => a = p0, fun a => Zf G (fs1.flatten ++ fp1.flatten) a ∧ a ≠ p0, some p0⟩ (([[p0]] ++ as.map fun _ => ([] : List Addr)).flatten ++ ([] : List (List Addr)).flatten) a → Zf G (fs1.flatten ++ fp1.flatten) a := fun a z => by
                rcases z with z | z
                · exact z.1
                · simp [flat_nils] at z; exact .inr (by rw [z]; exact List.mem_append_left _ hm0)
              refine ⟨⟨H1, fun a => a = p0, fun a => Zf G (fs1.flatten ++ fp1.flatten) a ∧ a ≠ p0, some p0⟩, .own true ds :: as, o', by simpa using (show vr.length + 1 = n by rw [hl', ← hrl]; rfl), by simp [argsOf_len eas, ← hrl], rfl, ?_, eo, ?_⟩
              · refine ⟨[[p0]] ++ as.map fun _ => [], [], ⟨.cons ⟨p0, vs0, rfl, rfl, hp0, RVs.frame (.sub fun a _ z => zof a z) _ _ rv0, fun _ => rfl⟩ ?_, .nil, by simp [flat_nils], (fun a ha => by simp [flat_nils] at ha; subst ha; exact ⟨.inl rfl, fun z => z.2 rfl⟩), fun a o e _ => e, fun a e => e, fun a z => ⟨F1.zLst z.1, z.2⟩, (fun sv hs => (List.mem_cons.mp hs).elim (fun e => by rw [e]; rfl) (argsOf_noal eas sv)), (fun i hi => by cases hi)⟩⟩
                exact args_all F1 zof (fun hn => by rw [hno] at hn; cases hn) eas hl' hpend
              · cases o' with
                | ret r io =>
                  cases io with
                  | none => cases hf
                  | some ds' =>
                    cases hf
                    intro v H' hres R'
                    obtain ⟨f0, fr, F', q1, q2, nd⟩ := R'.unfoldC
                    obtain ⟨p', vs', rfl, ep, hp', rv', hio'⟩ := q1
                    cases ep
                    have nd' : p0 ∉ fr ∧ fr.Nodup := List.nodup_cons.mp nd
                    have sm : ∀ a o, H1 a = some o → a ≠ p0 → H' a = some o := fun a o e na => F'.frame a o e na
                    have hfr : ∀ a ∈ fr, H1 a = none := fun a ha => by
                      rcases (F'.fresh a (by simp [ha])).1 with z | z
                      · exact absurd ha (by rw [z]; exact nd'.1)
                      · exact z
                    have hfl : ∀ a ∈ fr, ∃ o, H' a = some o ∧ isMut o = true := fun a ha => F'.owned a (by simp [ha])
                    have hzz : ∀ a, Zf G (fs1.flatten ++ fp1.flatten) a ∨ a ∈ fr → Zf ⟨H1, fun a => a = p0, fun a => Zf G (fs1.flatten ++ fp1.flatten) a ∧ a ≠ p0, some p0⟩ ([p0] ++ fr) a := fun a z => by
                      by_cases na : a = p0
                      · exact .inr (by simp [na])
                      · rcases z with z | z
                        · exact .inl ⟨z, na⟩
                        · exact .inr (by simp [z])
                    obtain ⟨A1, A2, A3, A4, ez, zl⟩ := F1.afterIO (b := b) (ds' := ds') es0 e2 hσ hio sm hp' hfr hfl rv' (.inl hzz)
                    have q2' : SlotOk X.K G (Zf G (fs1.flatten ++ (fr :: fp1).flatten)) H' σ (some v) r fr := q2.res hres (.inl fun a _ z => hzz a (ez a z))
                    have RR : Rep X.K G (st1.set i (.own b ds')) σ (r :: ((SV.al i :: rest).reverse ++ pst)) (some v :: (((V.ref p0 :: vr).map some).reverse ++ pσ)) H' := by
                      refine ⟨fs1, fr :: fp1, ⟨A1, .cons q2' A2, ?_, fun a ha => ?_, A3, A4, F1.zxt, fun sv hs => (List.mem_or_eq_of_mem_set hs).elim (F1.na sv) fun e => by rw [e]; rfl, fun j hj => ?_⟩⟩
                      · rw [List.flatten_cons]
                        refine (List.Perm.nodup_iff (show (fr ++ (fs1.flatten ++ fp1.flatten)).Perm (fs1.flatten ++ (fr ++ fp1.flatten)) from ?_)).mp ?_
                        · rw [← List.append_assoc, ← List.append_assoc]
                          exact List.Perm.append_right _ List.perm_append_comm
                        · exact List.nodup_append.mpr ⟨nd'.2, F1.nd, fun a ha c hc e => by subst e; exact F1.zTracked (.inr hc) (hfr a ha)⟩
                      · simp only [List.flatten_cons, List.mem_append] at ha
                        rcases ha with ha | ha | ha
                        · exact F1.fresh a (List.mem_append_left _ ha)
                        · exact ⟨.inr (F1.h0 (hfr a ha)), fun z => F1.notZ (hfr a ha) (.inl z)⟩
                        · exact F1.fresh a (List.mem_append_right _ ha)
                      · rcases List.mem_cons.mp hj with e | hj
                        · rw [← e] at hres; cases hres
                        · obtain ⟨s, e, q⟩ := F1.alk j hj
                          exact alk_set e q
                    exact post v H' (Rep.unders (by simp [hl']) RR)
                | ex x io =>
                  cases io with
                  | none => cases hf
                  | some ds' =>
                    cases hf
                    intro cls d H' ex R'
                    obtain ⟨f0, F', q1⟩ := R'.unfoldC0
                    obtain ⟨p', vs', rfl, ep, hp', rv', hio'⟩ := q1
                    cases ep
                    have sm : ∀ a o, H1 a = some o → a ≠ p0 → H' a = some o := fun a o e na => F'.frame a o e na
                    have hzz : ∀ a, Zf G (fs1.flatten ++ fp1.flatten) a ∨ a ∈ ([] : List Addr) → Zf ⟨H1, fun a => a = p0, fun a => Zf G (fs1.flatten ++ fp1.flatten) a ∧ a ≠ p0, some p0⟩ ([p0] ++ []) a := fun a z => by
                      by_cases na : a = p0
                      · exact .inr (by simp [na])
                      · rcases z with z | z
                        · exact .inl ⟨z, na⟩
                        · cases z
                    obtain ⟨A1, A2, A3, A4, ez, zl⟩ := F1.afterIO (b := b) (ds' := ds') (fr := []) es0 e2 hσ hio sm hp' (fun _ h => by cases h) (fun _ h => by cases h) rv' (.inl hzz)
                    have RR : Rep X.K G (st1.set i (.own b ds')) σ ((SV.al i :: rest).reverse ++ pst) (((V.ref p0 :: vr).map some).reverse ++ pσ) H' :=
                      ⟨fs1, fp1, ⟨A1, A2, F1.nd, F1.fresh, A3, A4, F1.zxt, (fun sv hs => (List.mem_or_eq_of_mem_set hs).elim (F1.na sv) fun e => by rw [e]; rfl), fun j hj => let ⟨s, e, q⟩ := F1.alk j hj; alk_set e q⟩⟩
                    exact post cls d H' ex (Rep.drops (by simp [hl']) RR)
            · cases eF : F (.own true ds :: as) with
              | none => rw [eF] at hf; cases hf
              | some o => rfl
        · cases hf
      · cases hf
    · cases hf
  · exact s G st σ pst pσ H _ _ R h1 post
end
end TK

namespace TK
open PySem PySem.Spec PyProof.Rows L2

/-! ## a def keeps its promise -/
def ioOf (st : List SV) : Option (List D) := match st with
  | .own true ds :: _ => some ds
  | _ => none
def runDef (N : Nat) (b : SF) : FS := fun as => match b (as ++ List.replicate (N - as.length) .emp) with
  | some (.rt r st) => if isRes r then some (.ret r (ioOf st)) else none
  | some (.nx st) => some (.ret (.val .none) (ioOf st))
  | some (.ex x st) => some (.ex x (ioOf st))
  | _ => none
section
variable {K : PySem.W.Frag} {G : Gh} {st : List SV} {σ : Sg} {pst : List SV} {pσ : List (Option V)} {H H' : Hp}
theorem Rep.ioEnd (h : Rep K G st σ pst pσ H) (na : noals pst) : Rep K G [ioSV (ioOf st)] [G.io.map V.ref] pst pσ H := by
  obtain ⟨fs, fp, F⟩ := h
  obtain ⟨hs1, hp1, nd, fr, f1, f2, f3, f4, f5⟩ := F
  have base : ∀ {f : List Addr} {sv : SV}, List.Sublist (([f] : List (List Addr)).flatten ++ fp.flatten) (fs.flatten ++ fp.flatten) → sv.noal = true →
      (∀ Z : Addr → Prop, (∀ a, Z a → Zf G (fs.flatten ++ fp.flatten) a) → SlotOk K G Z H [G.io.map V.ref] (G.io.map V.ref) sv f) → Rep K G [sv] [G.io.map V.ref] pst pσ H := fun {f sv} sub hn q => by
    have k : Keep (Zf G (fs.flatten ++ fp.flatten)) (Zf G (([f] : List (List Addr)).flatten ++ fp.flatten)) H H := .sub fun a _ z => z.imp id fun m => sub.subset m
    refine ⟨[f], fp, ⟨.cons (q _ fun a z => z.imp id fun m => sub.subset m) .nil, hp1.impB fun a b c hb q => (q.frame k fun _ _ => rfl).sig fun j e => ?_, nd.sublist sub, fun a ha => fr a (sub.subset ha), f1, f2, f3, fun s hs => by rw [List.mem_singleton.mp hs]; exact hn, fun j hj => ?_⟩⟩
    · have := na b hb; rw [e] at this; cases this
    · have := na _ hj; cases this
  have none_case : ioOf st = none → Rep K G [ioSV (ioOf st)] [G.io.map V.ref] pst pσ H := fun e => by
    rw [e]
    exact base (f := []) (sv := .emp) (List.Sublist.append (by simp) (List.Sublist.refl _)) rfl fun Z hz => rfl
  cases hs1 with
  | nil => exact none_case rfl
  | @cons v sv f as bs cs q1 q2 =>
    cases e : ioOf (sv :: bs) with
    | none => rw [← e]; exact none_case e
    | some ds =>
      have es : sv = .own true ds := by
        unfold ioOf at e
        split at e
        · rename_i ds' _ eq
          cases e
          cases eq
          rfl
        · cases e
      subst es
      obtain ⟨p, vs, rfl, ev, hp, r, hio⟩ := q1
      have hi := hio rfl
      refine base (f := [p]) (sv := .own true ds) (List.Sublist.append (by simp) (List.Sublist.refl _)) rfl fun Z hz => ?_
      exact ⟨p, vs, rfl, by rw [hi]; rfl, hp, RVs.frame (.sub fun a _ z => hz a z) _ _ r, fun _ => hi⟩
theorem all3_emps {Z : Addr → Prop} : ∀ n : Nat, All3 (SlotOk K G Z H σ) (List.replicate n none) (List.replicate n SV.emp) (List.replicate n ([] : List Addr))
  | 0 => .nil
  | n + 1 => .cons rfl (all3_emps n)
theorem flat_reps (n : Nat) : (List.replicate n ([] : List Addr)).flatten = [] := by
  induction n with
  | zero => rfl
  | succ n ih => rw [List.replicate_succ, List.flatten_cons, ih]; rfl
theorem Rep.emps {n : Nat} (h : Rep K G st σ [] [] H) (hn : ∀ s ∈ st, s.noal = true) : Rep K G (st ++ List.replicate n .emp) (σ ++ List.replicate n none) [] [] H := by
  obtain ⟨fs, fp, F⟩ := h
  obtain ⟨hs1, hp1, nd, fr, f1, f2, f3, f4, f5⟩ := F
  cases hp1
  have e : (fs ++ List.replicate n ([] : List Addr)).flatten = fs.flatten := by rw [List.flatten_append, flat_reps, List.append_nil]
  refine ⟨fs ++ List.replicate n [], [], ⟨?_, .nil, by rw [e]; exact nd, by rw [e]; exact fr, f1, f2, f3, fun s hs => ?_, fun i hi => by cases hi⟩⟩
  · rw [e]
    exact (hs1.impB fun a b c hb q => q.sig fun j e => by have := hn b hb; rw [e] at this; cases this).append (all3_emps n)
  · rcases List.mem_append.mp hs with hs | hs
    · exact f4 s hs
    · rw [(List.mem_replicate.mp hs).2]; rfl
end
theorem okXN {P : Program} {w : World} {K : PySem.W.Frag} {mg : Str → Option Value} {base : Heap} {x qual : Str} {st : Stmt} {f : Addr} {fd : FuncData} {N ps : List Str} {k : Nat} {sp : Sp} (F : Fun K x qual st f fd) (S : FnScope N ps (defScope st)) (len : ∀ vs H Q E, sp vs H Q E → vs.length = ps.length)
    (hbody : ∀ (cdv : Value) (A : Around) (outer : List Env) (s : Shared) (H : Hp) (vs : List V) (Q : VK) (E : XK), Room k (A.deeper (envOfC qual (defScope st) s.heap.objs.size f cdv)) → sp vs H Q E →
      ∃ t, PSs (cxOf (L2N.CX P w) P w K mg base N qual (defScope st) f cdv A outer s H E) (defBody st) t ∧ t { nx := fun _ H' => Q .non H', rt := Q } (L2.start N vs) H) : FnOk P w K mg base (L2N.CX P w) (k + 1) f fd ps sp := by
  obtain ⟨oc, od, kV, doc, pm, an, cdv, ct, osl, rfl, lk, hcd⟩ := F.ex
  exact fn_of lk hcd S len fun A outer s H vs Q E hr hsp => hbody cdv A outer s H vs Q E hr hsp
theorem takes0N {X : Cx} : L2N.Takes X (fun _ _ _ _ => False) := fun _ _ x => by
  obtain ⟨_, _, _, _, _, _, _, _, _, _, _, _, _, _, _, _, z⟩ := x
  exact z.elim
theorem def_ok {P : Program} {w : World} {K : PySem.W.Frag} {mg : Str → Option Value} {base : Heap} {x qual : Str} {st : Stmt} {f : Addr} {fd : FuncData} {N ps : List Str} {k : Nat} {b : SF} (F : Fun K x qual st f fd) (S : FnScope N ps (defScope st))
    (hb : ∀ (cdv : Value) (A : Around) (outer : List Env) (s : Shared) (H : Hp) (E : XK), Room k (A.deeper (envOfC qual (defScope st) s.heap.objs.size f cdv)) →
      SS (cxOf (L2N.CX P w) P w K mg base N qual (defScope st) f cdv A outer s H E) (fun cls d _ H' => E cls d H') (defBody st) b) :
    FnOk P w K mg base (L2N.CX P w) (k + 1) f fd ps (spD K mg ps.length (runDef N.length b)) := by
  refine okXN F S (fun vs H Q E h => h.elim fun G h => h.elim fun as h => h.elim fun o h => h.1) fun cdv A outer s H vs Q E hr h => ?_
  obtain ⟨t, p, q⟩ := hb cdv A outer s H E hr
  refine ⟨t, p, ?_⟩
  obtain ⟨G, as, o, hl, hla, rfl, R, hf, post⟩ := h
  unfold runDef at hf
  have R' : Rep K G (as ++ List.replicate (N.length - as.length) .emp) (L2.start N vs) [] [] G.H0 := by
    unfold L2.start
    rw [hl, ← hla]
    obtain ⟨fs, fp, F⟩ := id R
    exact R.emps F.na
  cases eb : b (as ++ List.replicate (N.length - as.length) .emp) with
  | none => rw [eb] at hf; cases hf
  | some fl =>
    rw [eb] at hf
    refine q G _ _ [] [] G.H0 _ fl (fun s hs => by cases hs) R' eb ?_
    cases fl with
    | nx st' =>
      cases hf
      exact fun σ' H' R1 => post .non H' rfl (R1.pushN.ioEnd fun s hs => by rw [List.mem_singleton.mp hs]; rfl)
    | rt r st' =>
      dsimp only at hf
      split at hf
      · rename_i hr
        cases hf
        exact fun v σ' H' R1 => post v H' hr (R1.ioEnd fun s hs => by
          rw [List.mem_singleton.mp hs]
          cases r <;> first | rfl | cases hr)
      · cases hf
    | bk st' => cases hf
    | ct st' => cases hf
    | ex x st' =>
      cases hf
      exact fun σ' cls d H' ex R1 => post cls d H' ex (R1.ioEnd fun s hs => by cases hs)

/-! ## lists changed in place -/
/-- the receiver is slot i's own list -/
def ownAt (st : List SV) (i : Nat) : Option (Bool × List D) := match st[i]? with
  | some (.own b ds) => some (b, ds)
  | _ => none
theorem ownAt_eq {st : List SV} {i : Nat} {b : Bool} {ds : List D} (h : ownAt st i = some (b, ds)) : st[i]? = some (.own b ds) := by
  unfold ownAt at h
  split at h
  · rename_i e; cases h; exact e
  · cases h
def appendS (i : Nat) (f : SM SV) : SM SV := fun st => match ownAt st i with
  | some _ => Out.bind (f st) fun r st1 => match kept r, ownAt st1 i with
    | some d, some (b, ds) => if ds.length < sizeLine then some (.ok (.val .none) (st1.set i (.own b (ds ++ [d])))) else none
    | _, _ => none
  | none => none
section
variable {K : PySem.W.Frag} {G : Gh} {st : List SV} {σ : Sg} {pst : List SV} {pσ : List (Option V)} {H H' : Hp}
/-- slot i's list takes the top -/
theorem Rep.app {i : Nat} {d : D} {y : V} {b : Bool} {ds : List D} (h : Rep K G st σ (.val d :: pst) (some y :: pσ) H) (hi : ownAt st i = some (b, ds)) :
    ∃ p vs, σ[i]? = some (some (.ref p)) ∧ H p = some (.lst vs) ∧ vs.length = ds.length ∧ Rep K G (st.set i (.own b (ds ++ [d]))) σ pst pσ (upd H p (.lst (vs ++ [y]))) := by
  obtain ⟨fs, f, fp, F, q⟩ := h.top
  obtain ⟨rfl, x, ex, r⟩ := q
  cases ex
  obtain ⟨p, vs, e1, e2, hp, rv, _⟩ := F.ownAt (ownAt_eq hi)
  exact ⟨p, vs, e1, hp, rv.length, (Rep.ofF (F.mutate (ownAt_eq hi) e1 (rv.append (.cons r .nil)))).pop⟩
end
section
variable {X : Cx} {W : WX} {e o : Expr} {f g : SM SV} {pos apos : Pos} {i : Nat}
theorem se_append (h : SE X W e f) (hs : starEach [e] X.env = (false, eval e X.env) :: starEach [] X.env := by rfl) {c : Expr} (mk : ∀ t, PA X [e] t → PE X c (tBM X.K "list" rAppend (tVar i) t)) : SE X W c (appendS i f) := by
  obtain ⟨t, p, s⟩ := h
  refine ⟨_, mk _ (pa_cons p pa_nil hs), fun G st σ pst pσ H Q o R hf post => ?_⟩
  unfold appendS at hf
  split at hf
  · rename_i bd e0
    obtain ⟨fs, fp, F⟩ := id R
    obtain ⟨p0, vs0, e1, e2, hp0, _⟩ := F.ownAt (ownAt_eq (b := bd.1) (ds := bd.2) e0)
    refine ⟨_, e1, .inl ⟨rfl, _, SqL.of hp0⟩, ?_⟩
    rcases Out.bind_some hf with ⟨r1, st1, h1, hf⟩ | ⟨x, st1, h1, rfl⟩
    · refine s G st σ pst pσ H _ _ R h1 fun v H1 R1 => ?_
      split at hf
      · rename_i d b ds ek eo
        split at hf
        · rename_i hz
          cases hf
          obtain ⟨p, vs, e3, hp, hl, R2⟩ := (R1.frz (kept_frz ek)).app eo
          rw [e1] at e3
          cases e3
          exact ⟨p0, vs, v, rfl, rfl, hp, by rw [hl]; exact hz, post .non _ R2.pushN⟩
        · cases hf
      · cases hf
    · exact s G st σ pst pσ H _ _ R h1 post
  · cases hf
end
end TK

namespace TK
open PySem PySem.Spec PyProof.Rows L2

/-! ## isinstance of a built-in class -/
def tyName : D → String
  | .none => "NoneType"
  | .bool _ => "bool"
  | .int _ => "int"
  | .str _ => "str"
  | .list _ => "list"
  | .tuple _ => "tuple"
  | .dict _ => "dict"
theorem ty_of {K : PySem.W.Frag} {Z : Addr → Prop} {H : Hp} {x : V} {d : D} (r : RV Z H x d) : TyX K H x (.type (tyName d)) := by
  cases r with
  | non => exact .base .non
  | bl b => exact .base (.bl b)
  | int i => exact .base (.int i)
  | str s => exact .base (.str s)
  | lst h _ _ => exact .base (.lst h)
  | tup h _ _ => exact .base (.tup h)
def isiS (T : String) (f : SM SV) : SM SV := fun st => Out.bind (f st) fun r st1 => match r with
  | .val d => match kitB (tyName d) T with
    | some b => some (.ok (.val (.bool b)) st1)
    | none => none
  | .own _ _ => match kitB "list" T with
    | some b => some (.ok (.val (.bool b)) st1)
    | none => none
  | _ => none
section
variable {X : Cx} {W : WX} {a : Expr} {f : SM SV} {pos p p2 : Pos} {x : Str} {T : String}
theorem se_isi (hg : Gl X "isinstance") (hm : X.mg "isinstance" = none) (hg2 : Gl X x) (hm2 : X.mg x = none) (hv : bootBuiltins x = some (.type T)) (ha : SE X W a f)
    (hst : starEach [a, .Name x p2] X.env = (false, eval a X.env) :: starEach [.Name x p2] X.env := by rfl) (hst2 : starEach [.Name x p2] X.env = (false, eval (.Name x p2) X.env) :: starEach [] X.env := by rfl)
    (h3 : (backTo pos (starEach [.Name x p2] X.env)).any (·.1) = false := by rfl) (hn : x ≠ "__name__" := by decide) (hd : (x == ("__debug__" : Str)) = false := by decide) : SE X W (.Call (.Name "isinstance" p) [a, .Name x p2] [] pos) (isiS T f) := by
  obtain ⟨t, pt, s⟩ := ha
  refine ⟨_, pe_callB (r := rIsi X.K) call_isi hg hm (by decide +kernel) (pa_cons pt (pa_cons (pe_bltn (v := .ty T) hg2 hm2 hv rfl hn hd) pa_nil hst2) hst) (by decide) (by decide) hst h3, fun G st σ pst pσ H Q o R hf post => ?_⟩
  unfold isiS at hf
  rcases Out.bind_some hf with ⟨r1, st1, h1, hf⟩ | ⟨x, st1, h1, rfl⟩
  · refine s G st σ pst pσ H _ _ R h1 fun v H1 R1 => ?_
    obtain ⟨fs, f1, fp, F, q⟩ := R1.top
    cases r1 with
    | val d =>
      dsimp only at hf
      split at hf
      · rename_i b eb
        cases hf
        obtain ⟨_, y, ey, ry⟩ := q
        cases ey
        exact ⟨v, .ty T, _, _, b, rfl, .ty T, ty_of ry, kit_ty eb, post _ H1 (R1.pop.pushB _)⟩
      · cases hf
    | own io ds =>
      dsimp only at hf
      split at hf
      · rename_i b eb
        cases hf
        obtain ⟨pp, vs, _, ey, hp, _⟩ := q
        cases ey
        exact ⟨_, .ty T, _, _, b, rfl, .ty T, .base (.lst hp), kit_ty eb, post _ H1 (R1.pop.pushB _)⟩
      · cases hf
    | emp => cases hf
    | own2 _ => cases hf
    | al _ => cases hf
    | scr _ => cases hf
    | exc _ _ _ => cases hf
    | dct _ _ => cases hf
  · exact s G st σ pst pσ H _ _ R h1 post

/-! ## x[i] = v -/
def setF (i : Nat) (fi fv : SM SV) : SF := fun st => Fl.bind (fv st) fun r st1 => match kept r with
  | none => none
  | some d => match ownAt st1 i with
    | none => none
    | some _ => Fl.bind (fi st1) fun ri st2 => match ri, ownAt st2 i with
      | .val (.int k), some (b, ds) => match ixN ds.length k with
        | some j => some (.nx (st2.set i (.own b (ds.set j d))))
        | none => none
      | _, _ => none
theorem s1_set {o e ei : Expr} {i : Nat} {fi fv : SM SV} {spos : Pos} (ho : PE X o (tVar i)) (hv : SE X W e fv) (hi : SE X W ei fi) (hs : swapsWithSole [.Subscript o ei p] e spos.line X.env = pure false := by rfl) (hw : swappedStores [.Subscript o ei p] e X.env = pure none := by rfl)
    (h1 : (assignEach [.Subscript o ei p] X.env).map (·.2) = [assign (.Subscript o ei p) X.env] := by rfl)
    (ha : ∀ v, assign (.Subscript o ei p) X.env v = (do
      let ov ← holding [v] (eval o X.env)
      let iv ← holding [v, ov] (eval ei X.env)
      standAt p
      holding [v, ov, iv] (setItem ov iv v)
      release [v, ov, iv] []) := by intro _; rfl) : S1 X W (.Assign [.Subscript o ei p] e spos) (setF i fi fv) := by
  obtain ⟨tv, pv, sv⟩ := hv
  obtain ⟨ti, pi, si⟩ := hi
  refine ⟨_, ps_asg pv (pg_sub ho pi set_list ha) hs hw h1, fun G st σ pst pσ H D o na R hf post => ?_⟩
  unfold setF at hf
  rcases Fl.bind_some hf with ⟨r1, st1, h1, hf⟩ | ⟨x, st1, h1, rfl⟩
  · refine sv G st σ pst pσ H _ _ R h1 fun v H1 R1 => ?_
    split at hf
    · cases hf
    · rename_i d ek
      split at hf
      · cases hf
      · rename_i bd e0
        have R1' := R1.frz (kept_frz ek)
        obtain ⟨fs, fp, F⟩ := id R1'
        obtain ⟨p0, vs0, e1, e2, hp0, _⟩ := F.ownAt (ownAt_eq (b := bd.1) (ds := bd.2) e0)
        refine ⟨_, e1, ?_⟩
        rcases Fl.bind_some hf with ⟨r2, st2, h2, hf⟩ | ⟨x, st2, h2, rfl⟩
        · refine si G st1 σ _ _ H1 _ _ R1' h2 fun v2 H2 R2 => ?_
          split at hf
          · rename_i k b ds eo
            split at hf
            · rename_i j ej
              cases hf
              have ev := R2.isI
              subst ev
              have R3 := R2.pop
              obtain ⟨fs, f, fp, F, q⟩ := R3.top
              obtain ⟨rfl, y, ey, ry⟩ := q
              cases ey
              obtain ⟨p', vs, e3, e4, hp, rv, _⟩ := F.ownAt (ownAt_eq eo)
              rw [e1] at e3
              cases e3
              refine ⟨p0, vs, k, j, rfl, rfl, hp, by rw [rv.length]; exact ej, post σ _ ?_⟩
              exact (Rep.ofF (F.mutate (ownAt_eq eo) e1 (rv.set ry j))).pop
            · cases hf
          · cases hf
        · exact si G st1 σ _ _ H1 _ _ R1' h2 fun cls d H' ex R' => post σ cls d H' ex R'.pop
  · exact sv G st σ pst pσ H _ _ R h1 (post σ)
end

theorem lenA0 : ∀ st rs st', nilA st = some (.ok rs st') → rs.length = 0 := fun st rs st' h => by cases h; rfl
theorem lenA_cons {f : SM SV} {fs : SM (List SV)} {n : Nat} (h : ∀ st rs st', fs st = some (.ok rs st') → rs.length = n) : ∀ st rs st', consA f fs st = some (.ok rs st') → rs.length = n + 1 := fun st rs st' e => by
  unfold consA at e
  rcases Out.bind_some e with ⟨r1, st1, h1, e⟩ | ⟨x, st1, h1, e⟩
  · split at e
    · cases e
    · rcases Out.bind_some e with ⟨rs', st2, h2, e⟩ | ⟨x, st2, h2, e⟩
      · cases e
        rw [List.length_cons, h _ _ _ h2]
      · cases e
  · cases e
theorem lenA1 {f : SM SV} : ∀ st rs st', consA f nilA st = some (.ok rs st') → rs.length = 1 := lenA_cons lenA0
theorem lenA2 {f1 f2 : SM SV} : ∀ st rs st', consA f1 (consA f2 nilA) st = some (.ok rs st') → rs.length = 2 := lenA_cons lenA1
theorem lenA3 {f1 f2 f3 : SM SV} : ∀ st rs st', consA f1 (consA f2 (consA f3 nilA)) st = some (.ok rs st') → rs.length = 3 := lenA_cons lenA2
theorem lenA4 {f1 f2 f3 f4 : SM SV} : ∀ st rs st', consA f1 (consA f2 (consA f3 (consA f4 nilA))) st = some (.ok rs st') → rs.length = 4 := lenA_cons lenA3
theorem lenA5 {f1 f2 f3 f4 f5 : SM SV} : ∀ st rs st', consA f1 (consA f2 (consA f3 (consA f4 (consA f5 nilA)))) st = some (.ok rs st') → rs.length = 5 := lenA_cons lenA4

/-! ## the law's end -/
def spLaw (K : PySem.W.Frag) : Sp := fun vs H Q _ => ∃ (a : Addr) (ns : List Int), vs = [.ref a] ∧ SqL K H a (ns.map V.int) ∧ ns.length ≤ 63 ∧ ∀ H', Q (.bl true) H'
theorem law_of {P : Program} {w : World} {K : PySem.W.Frag} {mg : Str → Option Value} {base : Heap} {CX : CXT} {k : Nat} {f : Addr} {fd : FuncData} {ps : List Str} {F : FS} (h : FnOk P w K mg base CX k f fd ps (spD K mg 1 F))
    (hF : ∀ ns : List Int, ns.length ≤ 63 → ∃ io, F [.scr ns] = some (.ret (.val (.bool true)) io)) : FnOk P w K mg base CX k f fd ps (spLaw K) := by
  refine h.imp fun vs H Q E q => ?_
  obtain ⟨a, ns, rfl, hS, hl, q⟩ := q
  obtain ⟨io, e⟩ := hF ns hl
  refine ⟨⟨H, fun _ => False, fun _ => False, none⟩, [.scr ns], _, rfl, rfl, rfl, ?_, e, fun v H' _ R => ?_⟩
  · refine ⟨[[]], [], ⟨.cons ⟨rfl, a, rfl, hS, ?_⟩ .nil, .nil, by simp, (fun a ha => by simp at ha), fun a o e _ => e, fun a e => e, fun a z => z.elim, fun s hs => by rw [List.mem_singleton.mp hs]; rfl, fun i hi => by cases hi⟩⟩
    rcases hS with (h | ⟨o, h⟩) | h
    · exact .inl ⟨by rw [h]; simp, fun z => z.elim id (fun m => by simp at m)⟩
    · exact .inl ⟨by rw [h]; simp, fun z => z.elim id (fun m => by simp at m)⟩
    · exact .inr fun H' => .inr h
  · rw [R.isB]; exact q H'
theorem cx_false {P : Program} {w : World} {H : Hp} {s : Shared} {e : Value} {s' : Shared} (h : L2N.CX P w [] H s (fun _ _ _ => False) e s') : False := by
  obtain ⟨_, _, _, _, _, _, _, _, _, _, _, _, z⟩ := h
  exact z
end TK

namespace L2
open PySem PySem.Spec PyProof.Rows
section
variable {P : Program} {w : World} {A : Around} {E : Value → Shared → Prop} {s : Shared}
theorem tk_set_ints {l : Addr} {items : Array Value} (ns : List Int) {Q : Value → Shared → Prop} (hh : A.handled = none) (hl : s.heap.IsList l items) (hit : IntsAre items.toList ns) (hb : ns.length + 1 < scanBound)
    (h : ∀ (h' : Heap) (tk c : Nat), SetR w h' s.heap.objs.size (fun j => decide (j ∈ ns)) c → c ≤ ns.length → (∀ b o, s.heap.get? b = some o → h'.get? b = some o) → Q (.ref s.heap.objs.size) { s with heap := h', toks := tk }) :
    wpAny (model P w) A (call (.type "set") [.ref l]) Q E s := by
  have hisz : items.size = ns.length := by
    have q := IntsAre.length hit
    rw [Array.length_toList] at q
    exact q
  obtain ⟨c, tl, hmro⟩ := F.called_set.mro
  have hmade := F.called_set.made
  have hsub := F.called_set.sub
  refine wpAny_call (codeAny_of_tree ?_)
  show wpAny _ _ (callAny (.type "set") _) _ _ _
  refine wpAny_pure ⟨Code.quiet_builtin _ (by decide +kernel), codeAny_builtin F.entry_type_call ?_⟩
  rw [Around.under_plain (weight_type_call_type "set" [.ref l] []) rfl]
  have h1 := F.called_set.notType
  have h2 := F.called_set.canCreate
  have hct := F.typeCall_set_1 (.ref l)
  repeat (any_goals (first | assumption | wp_step))

  refine codeAny_mono (code_set_led1 (.ref l) (E := E) (Q₁ := fun obj s₁ => obj = .ref s.heap.objs.size ∧ s₁ = { s with heap := s.heap.push { cls := .type "set", dict := none, data := .set #[] 0 (.fresh 0 0 (!w.params.followText "set-order")) } }) ⟨rfl, rfl⟩) fun r s₁ hr => ?_
  cases r with
  | error e => exact hr
  | ok fl =>
    cases fl with
    | ret obj =>
      obtain ⟨rfl, rfl⟩ := hr
      have hS : (s.heap.push { cls := .type "set", dict := none, data := .set #[] 0 (.fresh 0 0 (!w.params.followText "set-order")) }).get? s.heap.objs.size = some { cls := .type "set", dict := none, data := .set #[] 0 (.fresh 0 0 (!w.params.followText "set-order")) } := Heap.get?_push_size _ rfl
      have hT : Shared.TypeIs { s with heap := s.heap.push { cls := .type "set", dict := none, data := .set #[] 0 (.fresh 0 0 (!w.params.followText "set-order")) } } (.ref s.heap.objs.size) "set" := ⟨_, hS, rfl⟩
      have hli := F.called_set.init.lookup
      have hbi := F.called_set.init.bind (.ref s.heap.objs.size)
      repeat (any_goals (first | assumption | wp_step))

      refine codeAny_mono (codeAny_call_builtin (R := wants (fun r s₂ => r = .none ∧ ∃ h' tk c, s₂ = { s with heap := h', toks := tk } ∧ SetR w h' s.heap.objs.size (fun j => decide (j ∈ ns)) c ∧ c ≤ ns.length ∧
          (∀ b o, s.heap.get? b = some o → h'.get? b = some o)) E) F.called_set.init.plain F.entry_set_init (check_set_init_1 hT ?_)) fun r₂ s₂ hr₂ => ?_
      · obtain ⟨ol, hol, hcl, nl, hdl⟩ := hl
        obtain ⟨ocls, odict, odata, oslots⟩ := ol
        simp only at hcl hdl
        subst hcl; subst hdl
        have hol' : (s.heap.push { cls := .type "set", dict := none, data := .set #[] 0 (.fresh 0 0 (!w.params.followText "set-order")) }).get? l = some { cls := .type "list", dict := odict, data := .seq items nl, slots := oslots } := Heap.get?_push_of_some _ hol
        have hsls := F.sub_list_set
        have hslf := F.sub_list_frozenset
        have hne : (Value.type "list" == Value.type "dict") = false := by decide
        have hl1 : (s.heap.push { cls := .type "set", dict := none, data := .set #[] 0 (.fresh 0 0 (!w.params.followText "set-order")) }).IsList l items := ⟨_, hol', rfl, nl, rfl⟩
        unfold Builtin.«set.__init__» noKeywords Builtin.Frozenset.updateFrom
        generalize hPI : pyIter = PI
        wp_walk
        subst hPI

        refine wpAny_pyIter_list hl1 ?_
        refine wpAny_bind (wpAny_runValue ?_)
        have hlS : l < s.heap.objs.size := Heap.lt_size hol
        have hh3 : A.in1.in1.in1.handled = none := by simp [hh]
        have hz1 : (s.heap.push { cls := .type "set", dict := none, data := .set #[] 0 (.fresh 0 0 (!w.params.followText "set-order")) }).objs.size = s.heap.objs.size + 1 := Heap.size_push ..
        have hneI : l ≠ (s.heap.push { cls := .type "set", dict := none, data := .set #[] 0 (.fresh 0 0 (!w.params.followText "set-order")) }).objs.size := by
          rw [Heap.size_push]; exact Nat.ne_of_lt (Nat.lt_succ_of_lt hlS)
        have hSf : s.heap.objs.size ∉ [(s.heap.push { cls := .type "set", dict := none, data := .set #[] 0 (.fresh 0 0 (!w.params.followText "set-order")) }).objs.size, l] := by
          rw [Heap.size_push]; simp only [List.mem_cons, List.mem_singleton, List.not_mem_nil, or_false, not_or]
          exact ⟨Nat.ne_of_lt (Nat.lt_succ_self _), Nat.ne_of_gt hlS⟩
        have hval : ∀ (i : Nat) (v : Value), items[i]? = some v → ∃ k t, ns[i]? = some k ∧ v = .int k t := fun i v hv => by
          have hi : i < ns.length := by rw [← hisz]; exact (Array.getElem?_eq_some_iff.mp hv).1
          obtain ⟨t, e⟩ := PyProof.Rows.IntsAre.int_at hit i v (by rw [Array.getElem?_toList]; exact hv)
          refine ⟨ns[i], t, List.getElem?_eq_getElem hi, ?_⟩
          rw [e, List.getD_eq_getElem?_getD, List.getElem?_eq_getElem hi] <;> rfl
        refine set_update_ints ((Walks.list hh3 _ l hneI items).toS) s.heap.objs.size
          hSf ns hisz hb hval (items.size - 0) 0 _ (by omega) (Nat.zero_le _)
          ⟨⟨_, Heap.get?_push_size _ rfl, rfl, rfl⟩, (hl1.push _)⟩ ?hS0 ?hR
        case hS0 =>
          have hget : ((s.heap.push { cls := .type "set", dict := none, data := .set #[] 0 (.fresh 0 0 (!w.params.followText "set-order")) }).push { cls := .type "list_iterator", data := .fields #[.ref l, .int 0 0] }).get? s.heap.objs.size
              = some { cls := .type "set", dict := none, data := .set #[] 0 (.fresh 0 0 (!w.params.followText "set-order")) } := Heap.get?_push_of_some _ hS
          exact ⟨0, Nat.le_refl 0, setR_new_at hget⟩
        case hR =>
          intro s' c' hm hc' hS'
          obtain ⟨h', g2, d', tk', os'⟩ := s'
          have eg : g2 = s.gens := hm.gens
          have ed : d' = s.drawn := hm.drawn
          have eo : os' = s.os := hm.os
          subst eg; subst ed; subst eo
          show wpAny _ _ _ _ _ _
          refine wpAny_pure ?_
          show wpAny _ _ (ret Value.none) _ _ _
          rw [hisz] at hc'
          refine wpAny_pure ⟨rfl, h', tk', c', rfl, hS', hc', fun b o e => ?_⟩
          have hb0 : b < s.heap.objs.size := Heap.lt_size e
          have hb1 : b ≠ s.heap.objs.size := Nat.ne_of_lt hb0
          have hb2 : b ≠ (s.heap.push { cls := .type "set", dict := none, data := .set #[] 0 (.fresh 0 0 (!w.params.followText "set-order")) }).objs.size := by
            rw [Heap.size_push]; exact Nat.ne_of_lt (Nat.lt_succ_of_lt hb0)
          exact hm.heap b o (by simp only [List.mem_cons, List.mem_singleton, List.not_mem_nil, or_false, not_or]; exact ⟨hb1, hb2⟩) (Heap.get?_push_of_some _ (Heap.get?_push_of_some _ e))

      · cases r₂ with
        | error e => exact hr₂
        | ok fl₂ =>
          cases fl₂ with
          | ret r =>
            obtain ⟨rfl, h', tk, c', rfl, hS', hc', hk'⟩ := hr₂
            repeat (any_goals (first | assumption | wp_step))
            exact h _ _ _ hS' hc' hk'
          | _ => exact hr₂.elim
    | _ => exact hr.elim

end
end L2
namespace TK
open PySem PySem.Spec PyProof.Rows L2

/-! ## set(xs) of a list of ints: its size, its members in order -/
def dedup (ns : List Int) : List Int := ns.eraseDups
def sortSet (ns : List Int) : List Int := isort ns.eraseDups
def lenSetS (st : List SV) (r : SV) : Option SV := match itemsOf st r with
  | some (false, ds) => match intsOf ds with
    | some ns => if ns.length ≤ 4000 then some (.val (.int ns.eraseDups.length)) else none
    | none => none
  | _ => none
def sortSetS (st : List SV) (r : SV) : Option SV := match itemsOf st r with
  | some (false, ds) => match intsOf ds with
    | some ns => if ns.length < 64 then some (.own false ((sortSet ns).map PyData.int)) else none
    | none => none
  | _ => none
theorem pairwise_lt_uniq : ∀ {l m : List Int}, l.Pairwise (· < ·) → m.Pairwise (· < ·) → (∀ k, k ∈ l ↔ k ∈ m) → l = m
  | [], [], _, _, _ => rfl
  | [], b :: m, _, _, h => by have := (h b).mpr (by simp); cases this
  | a :: l, [], _, _, h => by have := (h a).mp (by simp); cases this
  | a :: l, b :: m, h1, h2, h => by
    obtain ⟨p1, p2⟩ := List.pairwise_cons.mp h1
    obtain ⟨q1, q2⟩ := List.pairwise_cons.mp h2
    have hab : a = b := by
      rcases List.mem_cons.mp ((h a).mp (by simp)) with e | e
      · exact e
      · rcases List.mem_cons.mp ((h b).mpr (by simp)) with e2 | e2
        · exact e2.symm
        · have := q1 a e; have := p1 b e2; omega
    subst hab
    congr 1
    refine pairwise_lt_uniq p2 q2 fun k => ⟨fun hk => ?_, fun hk => ?_⟩
    · rcases List.mem_cons.mp ((h k).mp (List.mem_cons_of_mem _ hk)) with e | e
      · have := p1 k hk; omega
      · exact e
    · rcases List.mem_cons.mp ((h k).mpr (List.mem_cons_of_mem _ hk)) with e | e
      · have := q1 k hk; omega
      · exact e
theorem nodup_eraseDups (ns : List Int) : ns.eraseDups.Nodup := by
  have : ∀ (n : Nat) (ns : List Int), ns.length ≤ n → ns.eraseDups.Nodup := by
    intro n
    induction n with
    | zero => intro ns h; cases ns with
      | nil => simp
      | cons _ _ => simp at h
    | succ n ih =>
      intro ns h
      cases ns with
      | nil => simp
      | cons a ns =>
        rw [List.eraseDups_cons, List.nodup_cons]
        refine ⟨fun hm => ?_, ih _ (Nat.le_trans (List.length_filter_le _ _) (by simpa using h))⟩
        rw [List.mem_eraseDups] at hm
        simp at hm
  exact this ns.length ns (Nat.le_refl _)
theorem sortSet_spec (ns : List Int) : (sortSet ns).Pairwise (· < ·) ∧ ∀ k, k ∈ sortSet ns ↔ k ∈ ns := by
  have hp : (sortSet ns).Perm ns.eraseDups := List.mergeSort_perm _ _
  constructor
  · have h1 : (sortSet ns).Pairwise (· ≤ ·) := by
      have := List.pairwise_mergeSort (le := fun a b : Int => decide (a ≤ b)) (by intro a b c; simp; omega) (by intro a b; simp; omega) ns.eraseDups
      exact this.imp (by simp)
    have h2 : (sortSet ns).Nodup := hp.nodup_iff.mpr (nodup_eraseDups ns)
    exact (h1.and h2).imp fun h => by have := h.1; have := h.2; omega
  · intro k
    rw [hp.mem_iff, List.mem_eraseDups]
section
variable {X : Cx} {W : WX} {a : Expr} {f : SM SV} {p p2 q pos : Pos}
/-- sorted(set(xs)) -/
def tSortSet (ta : TE) : TE := fun σ H Q => ta σ H fun x H1 => ∃ (l : Addr) (ns : List Int), x = V.ref l ∧ H1 l = some (.lst (ns.map V.int)) ∧ ns.length < 64 ∧ ∀ (ms : List Int) (p : Addr), ms.Pairwise (· < ·) → (∀ k, k ∈ ms ↔ k ∈ ns) → H1 p = none → Q (.ref p) (upd H1 p (.lst (ms.map V.int)))
theorem pe_sortSet {ta : TE} (hc : X.calm = true) (hg : Gl X "sorted") (hm : X.mg "sorted" = none) (hg2 : Gl X "set") (hm2 : X.mg "set" = none) (ha : PE X a ta)
    (na : starEach [a] X.env = (false, eval a X.env) :: starEach [] X.env := by rfl) : PE X (.Call (.Name "sorted" p) [.Call (.Name "set" p2) [a] [] q] [] pos) (tSortSet ta) := by
  refine ⟨fun pins s σ H Q I h => ?_⟩
  refine Call_ (ld_blt I hg hm (by decide +kernel : bootBuiltins ("sorted" : Str) = some (.builtin "sorted")) ?_)
  refine PyProof.Rows.callWith_builtin1 (PyProof.Rows.args_cons ?_ rfl) rfl rfl
  refine Call_ (ld_blt I hg2 hm2 PyProof.Rows.boot_set ?_)
  refine PyProof.Rows.callWith_type1 (PyProof.Rows.args_cons (thn (ha.run pins s σ H _ I h) fun v s1 ⟨x, H1, I1, r1, q1⟩ => PyProof.Rows.args_nil ?_) na) na rfl
  obtain ⟨l, ns, rfl, hq, hl, q1⟩ := q1
  cases r1
  obtain ⟨its, r, pl, hz⟩ := I1.list (SqL.of hq)
  refine tk_set_ints (w := X.w) ns (I1.ok.hd hc) pl.isList (by simpa using r.ints) (by unfold scanBound; omega) fun h' tk c hS hcl hk => ?_
  refine PyProof.Rows.args_nil ?_
  have I2 : Inv X pins σ H1 { s1 with heap := h', toks := tk } := I1.kept hk
  refine sorted_set hS (I2.ok.hd hc) (by omega) fun s' p out c' ms k g o hp hg hi hs hmm hlen => ?_
  have hml : ms.length ≤ 63 := by rw [hlen]; omega
  have hlen : (ms.map V.int).length ≤ sizeLine := by rw [List.length_map, sizeLine_eq]; omega
  have hn : H1 p = none := I2.hok.fresh hp
  have J : Inv X pins σ (upd H1 p (.lst (ms.map V.int))) { ({ s1 with heap := h', toks := tk } : Shared) with heap := s'.heap, gens := s'.gens, drawn := s'.drawn, toks := s'.toks } :=
    I2.call (ch := []) (Un.laid k hp hn) (I2.hok.laid k hp ⟨hlen, out.toList, c', vals_of_ints hi, hg⟩) (by rw [g]; exact I2.bare) (fun _ z => nomatch z)
  have e : s' = { ({ s1 with heap := h', toks := tk } : Shared) with heap := s'.heap, gens := s'.gens, drawn := s'.drawn, toks := s'.toks } := by
    cases s'
    cases s1
    cases o
    rfl
  rw [e]
  exact ⟨.ref p, _, J, rfl, q1 ms p hs (fun k => by rw [hmm k]; simp) hn⟩
/-- len(set(xs)) -/
def tLenSetA (ta : TE) : TE := fun σ H Q => ta σ H fun x H1 => ∃ (l : Addr) (ns : List Int), x = V.ref l ∧ H1 l = some (.lst (ns.map V.int)) ∧ ns.length ≤ 4000 ∧ Q (.int ns.eraseDups.length) H1
theorem pe_lenSetA {ta : TE} (hc : X.calm = true) (hg : Gl X "len") (hm : X.mg "len" = none) (hg2 : Gl X "set") (hm2 : X.mg "set" = none) (ha : PE X a ta)
    (na : starEach [a] X.env = (false, eval a X.env) :: starEach [] X.env := by rfl) : PE X (.Call (.Name "len" p) [.Call (.Name "set" p2) [a] [] q] [] pos) (tLenSetA ta) := by
  refine ⟨fun pins s σ H Q I h => ?_⟩
  refine Call_ (ld_blt I hg hm PySem.boot_len ?_)
  refine PyProof.Rows.callWith_builtin1 (PyProof.Rows.args_cons ?_ rfl) rfl rfl
  refine Call_ (ld_blt I hg2 hm2 PyProof.Rows.boot_set ?_)
  refine PyProof.Rows.callWith_type1 (PyProof.Rows.args_cons (thn (ha.run pins s σ H _ I h) fun v s1 ⟨x, H1, I1, r1, q1⟩ => PyProof.Rows.args_nil ?_) na) na rfl
  obtain ⟨l, ns, rfl, hq, hl, q1⟩ := q1
  cases r1
  obtain ⟨its, r, pl, hz⟩ := I1.list (SqL.of hq)
  refine tk_set_ints (w := X.w) ns (I1.ok.hd hc) pl.isList (by simpa using r.ints) (by unfold scanBound; omega) fun h' tk c hS hcl hk => ?_
  refine PyProof.Rows.args_nil ?_
  have I2 : Inv X pins σ H1 { s1 with heap := h', toks := tk } := I1.kept hk
  obtain ⟨o, es, ep, t, ho, hex, hd, hgd, hnd, hS, hb, hf, hn, _⟩ := hS
  have e : es.size = ns.eraseDups.length := by
    rw [← Array.length_toList, ← List.length_map (f := keyOf) (as := es.toList)]
    refine List.Perm.length_eq ((List.perm_ext_iff_of_nodup hnd (nodup_eraseDups ns)).mpr fun k => ?_)
    rw [← hS k, List.mem_eraseDups]
    simp
  rw [← e] at q1
  exact call_len_set ho hex hd hf (by omega) ⟨.int es.size, H1, I2.tok _, ⟨_, rfl⟩, q1⟩
theorem se_core1 {g : List SV → SV → Option SV} {c : Expr} {r : V → Hp → VK → Prop} (ha : SE X W a f) (mk : ∀ ta, PE X a ta → PE X c (fun σ H Q => ta σ H fun x H1 => r x H1 Q))
    (hs : C1 X.K (fun xs H Q => ∃ x, xs = [x] ∧ r x H Q) g) : SE X W c (call1 g f) := by
  obtain ⟨t, pt, s⟩ := ha
  refine ⟨_, mk t pt, fun G st σ pst pσ H Q o R hf post => ?_⟩
  unfold call1 at hf
  rcases Out.bind_some hf with ⟨r1, st1, h1, hf⟩ | ⟨x, st1, h1, rfl⟩
  · refine s G st σ pst pσ H _ _ R h1 fun v H1 R1 => ?_
    cases ef : frzS r1 with
    | none => rw [ef] at hf; cases hf
    | some r =>
      rw [ef] at hf
      dsimp only at hf
      cases eg : g st1 r with
      | none => rw [eg] at hf; cases hf
      | some res =>
        rw [eg] at hf
        cases hf
        obtain ⟨x, ex, q⟩ := hs G st1 σ pst pσ H1 r v Q res (R1.frz ef) eg post
        cases ex
        exact q
  · exact s G st σ pst pσ H _ _ R h1 post
theorem se_sortSet (hc : X.calm = true) (hg : Gl X "sorted") (hm : X.mg "sorted" = none) (hg2 : Gl X "set") (hm2 : X.mg "set" = none) (ha : SE X W a f)
    (na : starEach [a] X.env = (false, eval a X.env) :: starEach [] X.env := by rfl) : SE X W (.Call (.Name "sorted" p) [.Call (.Name "set" p2) [a] [] q] [] pos) (call1 sortSetS f) := by
  refine se_core1 ha (fun ta pa => pe_sortSet hc hg hm hg2 hm2 pa na) fun G st σ pst pσ H r1 x Q res R e post => ?_
  unfold sortSetS at e
  split at e
  · rename_i ds e1
    split at e
    · rename_i ns e2
      split at e
      · rename_i hlen
        cases e
        obtain ⟨l, rfl, hH⟩ := ints_at R e1 e2
        refine ⟨_, rfl, l, ns, rfl, hH, hlen, fun ms p hs hm np => ?_⟩
        have em : ms = sortSet ns := pairwise_lt_uniq hs (sortSet_spec ns).1 fun k => by rw [hm k, (sortSet_spec ns).2 k]
        rw [em]
        obtain ⟨fs, f1, fp, F, q1⟩ := R.top
        exact post _ _ (Rep.under ⟨fs, _, F.newLst np (RVs.ints _)⟩)
      · cases e
    · cases e
  · cases e
theorem se_lenSet (hc : X.calm = true) (hg : Gl X "len") (hm : X.mg "len" = none) (hg2 : Gl X "set") (hm2 : X.mg "set" = none) (ha : SE X W a f)
    (na : starEach [a] X.env = (false, eval a X.env) :: starEach [] X.env := by rfl) : SE X W (.Call (.Name "len" p) [.Call (.Name "set" p2) [a] [] q] [] pos) (call1 lenSetS f) := by
  refine se_core1 ha (fun ta pa => pe_lenSetA hc hg hm hg2 hm2 pa na) fun G st σ pst pσ H r1 x Q res R e post => ?_
  unfold lenSetS at e
  split at e
  · rename_i ds e1
    split at e
    · rename_i ns e2
      split at e
      · rename_i hlen
        cases e
        obtain ⟨l, rfl, hH⟩ := ints_at R e1 e2
        exact ⟨_, rfl, l, ns, rfl, hH, hlen, post _ H (R.pop.pushI _)⟩
      · cases e
    · cases e
  · cases e
end

/-! ## pop(i), remove(k) -/
section
variable {X : Cx} {W : WX} {e o : Expr} {f g : SM SV} {pos apos : Pos} {i : Nat}
def mutS (i : Nat) (g : List D → D → Option (D × List D)) (f : SM SV) : SM SV := fun st => match ownAt st i with
  | some _ => Out.bind (f st) fun r st1 => match kept r, ownAt st1 i with
    | some d, some (b, ds) => match g ds d with
      | some (x, ds') => some (.ok (.val x) (st1.set i (.own b ds')))
      | none => none
    | _, _ => none
  | none => none
/-- a method of a list of one argument that changes the list -/
theorem se_mut {g : List D → D → Option (D × List D)} {r : V → List V → Hp → VK → Prop}
    (hg : ∀ (Z : Addr → Prop) (H : Hp) (p : Addr) (vs : List V) (ds ds' : List D) (y : V) (d x : D) (Q : VK), H p = some (.lst vs) → RVs Z H vs ds → RV Z H y d → g ds d = some (x, ds') →
      (∀ (z : V) (vs' : List V), RV Z H z x → RVs Z H vs' ds' → Q z (upd H p (.lst vs'))) → r (.ref p) [y] H Q)
    (h : SE X W e f) (hs : starEach [e] X.env = (false, eval e X.env) :: starEach [] X.env := by rfl) {c : Expr} (mk : ∀ t, PA X [e] t → PE X c (tBM X.K "list" r (tVar i) t)) : SE X W c (mutS i g f) := by
  obtain ⟨t, p, s⟩ := h
  refine ⟨_, mk _ (pa_cons p pa_nil hs), fun G st σ pst pσ H Q o R hf post => ?_⟩
  unfold mutS at hf
  split at hf
  · rename_i bd e0
    obtain ⟨fs, fp, F⟩ := id R
    obtain ⟨p0, vs0, e1, e2, hp0, _⟩ := F.ownAt (ownAt_eq (b := bd.1) (ds := bd.2) e0)
    refine ⟨_, e1, .inl ⟨rfl, _, SqL.of hp0⟩, ?_⟩
    rcases Out.bind_some hf with ⟨r1, st1, h1, hf⟩ | ⟨x, st1, h1, rfl⟩
    · refine s G st σ pst pσ H _ _ R h1 fun v H1 R1 => ?_
      split at hf
      · rename_i d b ds ek eo
        split at hf
        · rename_i x ds' eg
          cases hf
          obtain ⟨fs1, f1, fp1, F1, q1⟩ := (R1.frz (kept_frz ek)).top
          obtain ⟨rfl, y, ey, ry⟩ := q1
          cases ey
          obtain ⟨p, vs, e3, e4, hp, rv, _⟩ := F1.ownAt (ownAt_eq eo)
          rw [e1] at e3
          cases e3
          refine hg _ H1 p0 vs ds ds' v d x Q hp rv ry eg fun z vs' rz rv' => post z _ ?_
          have F2 := F1.pushv rz
          exact (Rep.ofF (F2.mutate (ownAt_eq eo) e1 rv')).under
        · cases hf
      · cases hf
    · exact s G st σ pst pσ H _ _ R h1 post
  · cases hf
def popD (ds : List D) (d : D) : Option (D × List D) := match d with
  | .int k => if ds.length ≤ 1000000 then match ixN ds.length k with
    | some j => match ds[j]? with
      | some x => some (x, ds.eraseIdx j)
      | none => none
    | none => none else none
  | _ => none
abbrev popAtS (i : Nat) (f : SM SV) : SM SV := mutS i popD f
theorem se_popAt (h : SE X W e f) (hs : starEach [e] X.env = (false, eval e X.env) :: starEach [] X.env := by rfl) {c : Expr} (mk : ∀ t, PA X [e] t → PE X c (tBM X.K "list" rPopAt (tVar i) t)) : SE X W c (popAtS i f) := by
  refine se_mut (fun Z H p vs ds ds' y d x Q hp rv ry eg post => ?_) h hs mk
  unfold popD at eg
  split at eg
  · rename_i k
    split at eg
    · rename_i hz
      split at eg
      · rename_i j ej
        split at eg
        · rename_i x' ex
          cases eg
          cases ry
          obtain ⟨h1, h2, h3, h4⟩ := ixN_seq ej
          obtain ⟨z, ez, rz⟩ := rv.get ex
          exact ⟨p, vs, k, j, z, rfl, rfl, hp, by omega, by omega, by rw [rv.length]; exact h1, ez, post z _ rz (rv.eraseIdx j)⟩
        · cases eg
      · cases eg
    · cases eg
  · cases eg
def remD (ds : List D) (d : D) : Option (D × List D) := match d, intsOf ds with
  | .int k, some ns => if k ∈ ns then some (.none, (ns.erase k).map PyData.int) else none
  | _, _ => none
abbrev removeS (i : Nat) (f : SM SV) : SM SV := mutS i remD f
theorem erase_at : ∀ {ns : List Int} {k : Int}, k ∈ ns → ∃ j, ns[j]? = some k ∧ (∀ m : Nat, m < j → ns[m]? ≠ some k) ∧ ns.eraseIdx j = ns.erase k
  | [], k, h => by cases h
  | n :: ns, k, h => by
    by_cases e : n = k
    · subst e
      exact ⟨0, rfl, fun m hm => absurd hm (Nat.not_lt_zero m), by simp⟩
    · obtain ⟨j, h1, h2, h3⟩ := erase_at ((List.mem_cons.mp h).resolve_left (fun q => e q.symm))
      refine ⟨j + 1, by simpa using h1, fun m hm => ?_, ?_⟩
      · cases m with
        | zero => simpa using e
        | succ m => simpa using h2 m (by omega)
      · rw [List.eraseIdx_cons_succ, h3, List.erase_cons_tail (by simpa using e)]
theorem se_remove (h : SE X W e f) (hs : starEach [e] X.env = (false, eval e X.env) :: starEach [] X.env := by rfl) {c : Expr} (mk : ∀ t, PA X [e] t → PE X c (tBM X.K "list" rRemI (tVar i) t)) : SE X W c (removeS i f) := by
  refine se_mut (fun Z H p vs ds ds' y d x Q hp rv ry eg post => ?_) h hs mk
  unfold remD at eg
  split at eg
  · rename_i k ns e1
    split at eg
    · rename_i hk
      cases eg
      cases ry
      rw [intsOf_eq e1] at rv
      rw [rv.of_ints] at hp
      obtain ⟨j, h1, h2, h3⟩ := erase_at hk
      refine ⟨p, ns, k, j, rfl, rfl, hp, h1, h2, ?_⟩
      rw [h3]
      exact post .non _ .non (RVs.ints _)
    · cases eg
  · cases eg
end
end TK

namespace L2
open PySem PySem.Spec PyProof.Rows
/-! ## min, max, sum, sorted of a row of data -/
section
variable {X : Cx} {pins : List (Addr × Obj)} {σ : St} {H : Hp} {s : Shared}
theorem readsAt {h : Heap} : ∀ {us : List Value} {ds : List PyData} {as : List Addr} {i : Nat} {u : Value} {d : PyData}, ReadsAll h us ds as → us[i]? = some u → ds[i]? = some d → ∃ bs, Reads h u d bs
  | _, _, _, _, _, _, .nil, e, _ => by simp at e
  | _, _, _, 0, _, _, .cons r _, e, e2 => by
    simp at e e2
    subst e e2
    exact ⟨_, r⟩
  | _, _, _, i + 1, _, _, .cons _ t, e, e2 => readsAt (i := i) t (by simpa using e) (by simpa using e2)
theorem canLayAt : ∀ {ds : List PyData} {i : Nat} {d : PyData}, PyData.canLayAll0 ds = true → ds[i]? = some d → d.canLay0 = true
  | [], _, _, _, e => by simp at e
  | a :: ds, 0, d, h, e => by
    simp at e
    subst e
    exact (by simpa [PyData.canLayAll0] using h : a.canLay0 = true ∧ PyData.canLayAll0 ds = true).1
  | a :: ds, i + 1, d, h, e => canLayAt (ds := ds) (i := i) (by simpa [PyData.canLayAll0] using h : a.canLay0 = true ∧ PyData.canLayAll0 ds = true).2 (by simpa using e)
def rBestD (K : PySem.W.Frag) (best : PyData → List PyData → PyData) : List V → Hp → VK → Prop := fun xs H Q => ∃ (p : Addr) (vs : List V) (d : PyData) (ds : List PyData), xs = [.ref p] ∧ (SqL K H p vs ∨ SqT K H p vs) ∧ DpAll K H vs (d :: ds) ∧
  PySem.W.AlikeAll (d :: ds) ∧ PyData.canLayAll0 (d :: ds) = true ∧ PyData.depthAll (d :: ds) ≤ 60 ∧ ∀ (i : Nat) (v : V), vs[i]? = some v → (d :: ds)[i]? = some (best d ds) → Q v H
theorem bestD_end {vs : List V} {its : List Value} {ds : List PyData} {as bs : List Addr} {i : Nat} {u : Value} {d : PyData} {h' : Heap} (I : Inv X pins σ H s) (rv : Vals vs its) (hr : ReadsAll s.heap its ds as) (hc : PyData.canLayAll0 ds = true)
    (hu : its[i]? = some u) (hd : Reads h' u d bs) (hk : ∀ b o, s.heap.get? b = some o → h'.get? b = some o) : ∃ v, vs[i]? = some v ∧ RelV v u ∧ ds[i]? = some d := by
  have hl1 : vs.length = its.length := rv.length
  have hl2 : its.length = ds.length := by
    exact SeqAt.ReadsAll.length _ _ _ hr
  have hi : i < its.length := by
    rcases Nat.lt_or_ge i its.length with h | h
    · exact h
    · rw [List.getElem?_eq_none h] at hu; cases hu
  obtain ⟨d', hd'⟩ : ∃ d', ds[i]? = some d' := ⟨_, List.getElem?_eq_getElem (by omega)⟩
  obtain ⟨v, hv⟩ : ∃ v, vs[i]? = some v := ⟨_, List.getElem?_eq_getElem (by omega)⟩
  obtain ⟨cs, hr'⟩ := readsAt hr hu hd'
  have e := SeqAt.Reads.unique d' d u _ _ (canLayAt hc hd') (Reads.keeps hk hr') hd
  subst e
  have key : ∀ {vs : List V} {us : List Value} {i : Nat} {v : V} {u : Value}, Vals vs us → vs[i]? = some v → us[i]? = some u → RelV v u := by
    intro vs us i v u r
    induction r generalizing i with
    | nil => intro e; simp at e
    | cons h _ ih =>
      intro e1 e2
      cases i with
      | zero => simp at e1 e2; subst e1 e2; exact h
      | succ i => exact ih (by simpa using e1) (by simpa using e2)
  exact ⟨v, hv, key rv hv hu, hd'⟩
theorem cr_minD (hc : X.calm = true) (hu : X.A.units + 65 < cLine) : CallR X (.builtin "min") (rBestD X.K PySem.W.minD) := by
  intro pins s σ H xs us Q I r h
  obtain ⟨p, vs, d, ds, rfl, hs, hd, hal, hcl, hdp, q⟩ := h
  obtain rfl := Vals.ref1 r
  rcases hs with hs | hs
  · obtain ⟨its, rv, hl, _⟩ := I.list hs
    obtain ⟨as, hr⟩ := Dp.readsAll I _ _ _ hd rv
    refine PySem.W.min_list_data (I.ok.hd hc) hl.isList (by simpa using hr) hal (by omega) fun i v h' tk bs hv rd hk => ?_
    obtain ⟨w, e1, e2, e3⟩ := bestD_end I rv hr hcl (by simpa using hv) rd hk
    exact ⟨w, H, I.kept hk, e2, q i w e1 e3⟩
  · obtain ⟨its, rv, hl, _⟩ := I.tuple hs
    obtain ⟨as, hr⟩ := Dp.readsAll I _ _ _ hd rv
    refine PySem.W.min_tuple_data (I.ok.hd hc) (by obtain ⟨o, ho, hc, n, hd⟩ := hl; exact ⟨o, ho, hc, n, hd⟩) (by simpa using hr) hal (by omega) fun i v h' tk bs hv rd hk => ?_
    obtain ⟨w, e1, e2, e3⟩ := bestD_end I rv hr hcl (by simpa using hv) rd hk
    exact ⟨w, H, I.kept hk, e2, q i w e1 e3⟩
theorem cr_maxD (hc : X.calm = true) (hu : X.A.units + 65 < cLine) : CallR X (.builtin "max") (rBestD X.K PySem.W.maxD) := by
  intro pins s σ H xs us Q I r h
  obtain ⟨p, vs, d, ds, rfl, hs, hd, hal, hcl, hdp, q⟩ := h
  obtain rfl := Vals.ref1 r
  rcases hs with hs | hs
  · obtain ⟨its, rv, hl, _⟩ := I.list hs
    obtain ⟨as, hr⟩ := Dp.readsAll I _ _ _ hd rv
    refine PySem.W.max_list_data (I.ok.hd hc) hl.isList (by simpa using hr) hal (by omega) fun i v h' tk bs hv rd hk => ?_
    obtain ⟨w, e1, e2, e3⟩ := bestD_end I rv hr hcl (by simpa using hv) rd hk
    exact ⟨w, H, I.kept hk, e2, q i w e1 e3⟩
  · obtain ⟨its, rv, hl, _⟩ := I.tuple hs
    obtain ⟨as, hr⟩ := Dp.readsAll I _ _ _ hd rv
    refine PySem.W.max_tuple_data (I.ok.hd hc) (by obtain ⟨o, ho, hc, n, hd⟩ := hl; exact ⟨o, ho, hc, n, hd⟩) (by simpa using hr) hal (by omega) fun i v h' tk bs hv rd hk => ?_
    obtain ⟨w, e1, e2, e3⟩ := bestD_end I rv hr hcl (by simpa using hv) rd hk
    exact ⟨w, H, I.kept hk, e2, q i w e1 e3⟩
theorem preSum_take (ns : List Int) : ∀ k, k ≤ ns.length → preSum (fun i => ns.getD i 0) k = (ns.take k).sum
  | 0, _ => by simp [preSum]
  | k + 1, h => by
    have hk : k < ns.length := h
    rw [preSum, preSum_take ns k (by omega), List.take_succ_eq_append_getElem hk, List.sum_append]
    simp [List.getD_eq_getElem?_getD, hk]
theorem preSum_all (ns : List Int) : preSum (fun i => ns.getD i 0) ns.length = ns.sum := by
  rw [preSum_take ns ns.length (Nat.le_refl _), List.take_length]
/-- sum of a tuple of whole numbers -/
def rSumT (K : PySem.W.Frag) : List V → Hp → VK → Prop := fun xs H Q => ∃ (p : Addr) (ns : List Int), xs = [.ref p] ∧ SqT K H p (ns.map V.int) ∧ Q (.int ns.sum) H
theorem cr_sumT (hc : X.calm = true) : CallR X (.builtin "sum") (rSumT X.K) := by
  intro pins s σ H xs us Q I r h
  obtain ⟨p, ns, rfl, hs, q⟩ := h
  obtain rfl := Vals.ref1 r
  obtain ⟨its, rv, hl, _⟩ := I.tuple hs
  have hi := rv.ints
  have hl' : s.heap.IsTuple p its.toArray := by obtain ⟨o, ho, hc, n, hd⟩ := hl; exact ⟨o, ho, hc, n, hd⟩
  refine call_sum_walkAnyS (PySem.W.iter_tupleW (A := X.A.in1) (I.ok.hd hc) hl' fun s₂ e W st hfp hw hk => ?_)
  refine ⟨_, _, _, _, _, _, _, fun i => ns.getD i 0, rfl, W, st, hfp, fun i v hv => ?_, fun s' t' m => ?_⟩
  · have hv : its[i]? = some v := by simpa using hv
    obtain ⟨n, t, e1, e2⟩ := hi.at i v hv
    exact ⟨t, by rw [e1]; dsimp only; rw [List.getD_eq_getElem?_getD, e2]; rfl⟩
  · obtain ⟨h', tk, rfl, hk'⟩ := PySem.W.moved_old e rfl m
    have e2 : preSum (fun i => ns.getD i 0) its.toArray.size = ns.sum := by
      rw [List.size_toArray, hi.length]
      exact preSum_all ns
    rw [e2]
    exact ⟨.int ns.sum, H, I.kept hk', ⟨_, rfl⟩, q⟩
end
end L2
namespace L2
open PySem PySem.Spec PyProof.Rows
section
variable {X : Cx}
/-- sorted of a list of data that are alike -/
def rSortD (K : PySem.W.Frag) : List V → Hp → VK → Prop := fun xs H Q => ∃ (p : Addr) (vs : List V) (ds : List PyData), xs = [.ref p] ∧ SqL K H p vs ∧ DpAll K H vs ds ∧ PySem.W.AllAlike ds ∧ PySem.W.Sortable ds ∧ PyData.depthAll ds ≤ 60 ∧
  ∀ (zs : List (V × PyData)) (q : Addr), zs.Perm (vs.zip ds) → zs.map (·.2) = ds.mergeSort (PySem.W.dataLe false id) → H q = none → Q (.ref q) (upd H q (.lst (zs.map (·.1))))
theorem depth_mem : ∀ {ds : List PyData} {d : PyData}, d ∈ ds → d.depth ≤ PyData.depthAll ds
  | a :: ds, d, h => by
    rw [PyData.depthAll]
    rcases List.mem_cons.mp h with rfl | h
    · omega
    · have := depth_mem h
      omega
theorem zip_snd {α β : Type} : ∀ (as : List α) (bs : List β), as.length = bs.length → (as.zip bs).map (·.2) = bs
  | [], [], _ => rfl
  | a :: as, b :: bs, h => by rw [List.zip_cons_cons, List.map_cons, zip_snd as bs (by simpa using h)]
  | [], _ :: _, h => by simp at h
  | _ :: _, [], h => by simp at h
theorem dpAll_length {K : PySem.W.Frag} {H : Hp} : ∀ {vs : List V} {ds : List PyData}, DpAll K H vs ds → vs.length = ds.length
  | _, _, .nil => rfl
  | _, _, .cons _ t => by rw [List.length_cons, List.length_cons, dpAll_length t]
theorem each_zip {R : Value → V × PyData → Prop} {h : Heap} : ∀ {ds : List PyData} {vs : List V} {us : List Value} {as : List Addr}, Vals vs us → ReadsAll h us ds as → (∀ v d u bs, RelV v u → Reads h u d bs → R u (v, d)) → PySem.W.EachIs R us (vs.zip ds)
  | [], vs, us, as, r, rd, f => by
    cases rd
    cases r
    exact .nil
  | d :: ds, vs, us, as, r, rd, f => by
    cases rd with
    | cons h1 h2 =>
      cases r with
      | cons r1 r2 => exact .cons (f _ _ _ _ r1 h1) (each_zip r2 h2 f)
theorem vals_each {R : Value → V × PyData → Prop} (f : ∀ u p, R u p → RelV p.1 u) : ∀ {us : List Value} {ps : List (V × PyData)}, PySem.W.EachIs R us ps → Vals (ps.map (·.1)) us
  | _, _, .nil => .nil
  | _, _, .cons h t => .cons (f _ _ h) (vals_each f t)
theorem cr_sortD (hu : X.A.units + 65 < cLine) : CallR X (.builtin "sorted") (rSortD X.K) := by
  intro pins s σ H xs us Q I r h
  obtain ⟨p, vs, ds, rfl, hs, hd, hal, hst, hdp, q⟩ := h
  obtain rfl := Vals.ref1 r
  obtain ⟨its, rv, hl, hz⟩ := I.list hs
  obtain ⟨as, hr⟩ := Dp.readsAll I _ _ _ hd rv
  have hlen := dpAll_length hd
  have hsnd := zip_snd vs ds hlen
  have hzl : (vs.zip ds).length = vs.length := by rw [List.length_zip, hlen, Nat.min_self]
  have hsnd' : (vs.zip ds).map (fun p : V × PyData => p.2) = ds := hsnd
  refine PySem.W.sorted_data (β := V × PyData) (enc := fun p => p.2) (R := fun u p => RelV p.1 u) (bs := vs.zip ds) hl.isList (each_zip rv hr fun v d u bs h1 h2 => h1) (each_zip rv hr fun v d u bs h1 h2 => ⟨bs, h2⟩)
    (by rw [hsnd']; exact hal) (by rw [hsnd']; exact hst) (by rw [hzl]; exact hz) (fun b hb => ?_) fun out hol he => ?_
  · have : b.2 ∈ (vs.zip ds).map (fun p : V × PyData => p.2) := List.mem_map_of_mem hb
    rw [hsnd'] at this
    have := depth_mem this
    omega
  · obtain ⟨ep, he'⟩ := PyProof.Rows.sortedAll_at s.heap its out.toArray
    have hp := List.mergeSort_perm (vs.zip ds) (PySem.W.dataLe false fun p : V × PyData => p.2)
    have hv := vals_each (fun u p h => h) he
    have hlen2 : (((vs.zip ds).mergeSort (PySem.W.dataLe false fun p : V × PyData => p.2)).map (·.1)).length ≤ sizeLine := by
      rw [List.length_map, hp.length_eq, hzl]; exact hz
    refine ⟨.ref _, upd H (s.heap.objs.size + 1) (.lst (((vs.zip ds).mergeSort (PySem.W.dataLe false fun p : V × PyData => p.2)).map (·.1))), I.laid (t' := s.toks) (fun _ _ => PyProof.Rows.sortedAll_old) (Nat.le_succ _) ⟨hlen2, out, ep, hv, he'⟩, rfl, q _ _ hp ?_ (I.hok.fresh (Nat.le_succ _))⟩
    have em := List.map_mergeSort (r := PySem.W.dataLe false fun p : V × PyData => p.2) (s := PySem.W.dataLe false id) (f := fun p : V × PyData => p.2) (l := vs.zip ds) (fun a _ b _ => rfl)
    rw [hsnd] at em
    exact em
end
end L2
namespace TK
open PySem PySem.Spec PyProof.Rows L2

/-! ## what is never reached -/
def noF : SF := fun _ => none
theorem s1_never {X : Cx} {W : WX} {s : Stmt} : S1 X W s noF := ⟨fun _ _ _ => False, ⟨fun _ _ _ _ _ _ h => h.elim⟩, fun _ _ _ _ _ _ _ _ _ _ hf _ => by cases hf⟩

/-! ## one rule or another -/
def orG (g1 g2 : List SV → SV → Option SV) (st : List SV) (r : SV) : Option SV := match g1 st r with
  | some x => some x
  | none => g2 st r
theorem C1.or {K : PySem.W.Frag} {r1 r2 : List V → Hp → VK → Prop} {g1 g2 : List SV → SV → Option SV} (h1 : C1 K r1 g1) (h2 : C1 K r2 g2) : C1 K (fun xs H Q => r1 xs H Q ∨ r2 xs H Q) (orG g1 g2) := by
  intro G st σ pst pσ H r x Q res R e post
  unfold orG at e
  cases e1 : g1 st r with
  | some y => rw [e1] at e; cases e; exact .inl (h1 G st σ pst pσ H r x Q _ R e1 post)
  | none => rw [e1] at e; exact .inr (h2 G st σ pst pσ H r x Q _ R e post)
theorem callR_or {X : Cx} {f : Value} {r1 r2 : List V → Hp → VK → Prop} (h1 : CallR X f r1) (h2 : CallR X f r2) : CallR X f (fun xs H Q => r1 xs H Q ∨ r2 xs H Q) := by
  intro pins s σ H xs us Q I r h
  rcases h with h | h
  · exact h1 pins s σ H xs us Q I r h
  · exact h2 pins s σ H xs us Q I r h

/-! ## min, max, sum, sorted -/
def okRow (ds : List D) : Prop := PySem.W.AlikeAll ds ∧ PyData.canLayAll0 ds = true ∧ PyData.depthAll ds ≤ 60
open Classical in
noncomputable def bestDS (best : D → List D → D) (st : List SV) (r : SV) : Option SV := match itemsOf st r with
  | some (_, d :: ds) => if okRow (d :: ds) then some (.val (best d ds)) else none
  | _ => none
def sumTS (st : List SV) (r : SV) : Option SV := match itemsOf st r with
  | some (true, ds) => match intsOf ds with
    | some ns => some (.val (.int ns.sum))
    | none => none
  | _ => none
open Classical in
noncomputable def sortDS (st : List SV) (r : SV) : Option SV := match itemsOf st r with
  | some (false, ds) => if PySem.W.AllAlike ds ∧ PySem.W.Sortable ds ∧ PyData.depthAll ds ≤ 60 then some (.own false (ds.mergeSort (PySem.W.dataLe false id))) else none
  | _ => none
section
variable {K : PySem.W.Frag} {Z : Addr → Prop} {H : Hp}
theorem RVs.unzip : ∀ {zs : List (V × D)}, (∀ p ∈ zs, RV Z H p.1 p.2) → RVs Z H (zs.map (·.1)) (zs.map (·.2))
  | [], _ => .nil
  | p :: zs, h => .cons (h p (by simp)) (RVs.unzip fun q hq => h q (by simp [hq]))
theorem RVs.zipAll : ∀ {vs : List V} {ds : List D}, RVs Z H vs ds → ∀ p ∈ vs.zip ds, RV Z H p.1 p.2
  | _, _, .nil => fun p hp => by simp at hp
  | _, _, .cons h t => fun p hp => by
    rw [List.zip_cons_cons] at hp
    rcases List.mem_cons.mp hp with rfl | hp
    · exact h
    · exact RVs.zipAll t p hp
theorem c1_best (best : D → List D → D) : C1 K (rBestD K best) (bestDS best) := by
  intro G st σ pst pσ H r1 x Q res R e post
  unfold bestDS at e
  split at e
  · rename_i t d ds e1
    split at e
    · rename_i ok
      cases e
      obtain ⟨fs, f1, fp, F, q1⟩ := R.top
      obtain ⟨a, vs, ea, hH, rv⟩ := F.items q1 e1
      cases ea
      refine ⟨a, vs, d, ds, rfl, ?_, RVs.dp _ _ rv, ok.1, ok.2.1, ok.2.2, fun i v hv hd => ?_⟩
      · cases t with
        | false => exact .inl (SqL.of hH)
        | true => exact .inr (SqT.of hH)
      · obtain ⟨d', hd', r⟩ := rv.getV hv
        rw [hd] at hd'; cases hd'
        exact post v H (Rep.under ⟨fs, _, F.pushv r⟩)
    · cases e
  · cases e
theorem c1_sumT : C1 K (rSumT K) sumTS := by
  intro G st σ pst pσ H r1 x Q res R e post
  unfold sumTS at e
  split at e
  · rename_i ds e1
    split at e
    · rename_i ns e2
      cases e
      obtain ⟨fs, f1, fp, F, q1⟩ := R.top
      obtain ⟨a, vs, ea, hH, rv⟩ := F.items q1 e1
      cases ea
      rw [intsOf_eq e2] at rv
      rw [rv.of_ints] at hH
      exact ⟨a, ns, rfl, SqT.of hH, post _ H (R.pop.pushI _)⟩
    · cases e
  · cases e
theorem c1_sortD : C1 K (rSortD K) sortDS := by
  intro G st σ pst pσ H r1 x Q res R e post
  unfold sortDS at e
  split at e
  · rename_i ds e1
    split at e
    · rename_i ok
      cases e
      obtain ⟨fs, f1, fp, F, q1⟩ := R.top
      obtain ⟨a, vs, ea, hH, rv⟩ := F.items q1 e1
      cases ea
      refine ⟨a, vs, ds, rfl, SqL.of hH, RVs.dp _ _ rv, ok.1, ok.2.1, ok.2.2, fun zs q hp hm np => ?_⟩
      have r2 : RVs (Zf G (fs.flatten ++ (f1 :: fp).flatten)) H (zs.map (·.1)) (zs.map (·.2)) := RVs.unzip fun p hp' => rv.zipAll p (hp.mem_iff.mp hp')
      rw [hm] at r2
      exact post _ _ (Rep.under ⟨fs, _, F.newLst np r2⟩)
    · cases e
  · cases e
end
section
variable {X : Cx} {W : WX} {a b e : Expr} {es : List Expr} {f f1 f2 : SM SV} {pos p p2 q : Pos} {k : Nat}
noncomputable def minG := orG min1S (bestDS PySem.W.minD)
noncomputable def maxG := orG max1S (bestDS PySem.W.maxD)
def sumG' := orG sumS sumTS
noncomputable def sortG := orG sort1S sortDS
theorem se_sumG (hc : X.calm = true) (hg : Gl X "sum") (hm : X.mg "sum" = none) (ha : SE X W a f) (hst : starEach [a] X.env = (false, eval a X.env) :: starEach [] X.env := by rfl) (h3 : (backTo pos (starEach [] X.env)).any (·.1) = false := by rfl) : SE X W (.Call (.Name "sum" p) [a] [] pos) (call1 sumG' f) :=
  se_c1 (fun _ pa => pe_callB (callR_or (cr_sum hc) (cr_sumT hc)) hg hm (by decide +kernel) pa (by decide) (by decide) hst h3) (c1_sum.or c1_sumT) ha hst
theorem se_minG (hr : Room k X.A) (hc : X.calm = true) (hg : Gl X "min") (hm : X.mg "min" = none) (ha : SE X W a f) (hst : starEach [a] X.env = (false, eval a X.env) :: starEach [] X.env := by rfl) (h3 : (backTo pos (starEach [] X.env)).any (·.1) = false := by rfl) : SE X W (.Call (.Name "min" p) [a] [] pos) (call1 minG f) :=
  se_c1 (fun _ pa => pe_callB (callR_or (cr_min hc) (cr_minD hc (hu65 hr))) hg hm (by decide +kernel) pa (by decide) (by decide) hst h3) (c1_min.or (c1_best _)) ha hst
theorem se_maxG (hr : Room k X.A) (hc : X.calm = true) (hg : Gl X "max") (hm : X.mg "max" = none) (ha : SE X W a f) (hst : starEach [a] X.env = (false, eval a X.env) :: starEach [] X.env := by rfl) (h3 : (backTo pos (starEach [] X.env)).any (·.1) = false := by rfl) : SE X W (.Call (.Name "max" p) [a] [] pos) (call1 maxG f) :=
  se_c1 (fun _ pa => pe_callB (callR_or (cr_max hc) (cr_maxD hc (hu65 hr))) hg hm (by decide +kernel) pa (by decide) (by decide) hst h3) (c1_max.or (c1_best _)) ha hst
theorem se_sortG (hr : Room k X.A) (hg : Gl X "sorted") (hm : X.mg "sorted" = none) (ha : SE X W a f) (hst : starEach [a] X.env = (false, eval a X.env) :: starEach [] X.env := by rfl) (h3 : (backTo pos (starEach [] X.env)).any (·.1) = false := by rfl) : SE X W (.Call (.Name "sorted" p) [a] [] pos) (call1 sortG f) :=
  se_c1 (fun _ pa => pe_callB (callR_or cr_sortedI (cr_sortD (hu65 hr))) hg hm (by decide +kernel) pa (by decide) (by decide) hst h3) (c1_sort.or c1_sortD) ha hst

/-! ## list(range(n)) -/
def lrg1S (f : SM SV) : SM SV := fun st => Out.bind (f st) fun r st1 => match r with
  | .val (.int n) => if -16777216 ≤ n ∧ n ≤ 16777216 then some (.ok (.own false (rangeD 0 n.toNat)) st1) else none
  | _ => none
theorem rgV_ints (lo hi : Int) : rgV lo hi = ((List.range (hi - lo).toNat).map fun i : Nat => lo + (i : Int)).map V.int := by
  unfold rgV
  rw [List.map_map]; rfl
theorem rangeD_ints (lo : Int) (n : Nat) : rangeD lo n = ((List.range n).map fun i : Nat => lo + (i : Int)).map PyData.int := by
  unfold rangeD
  rw [List.map_map]; rfl
theorem se_lrg1 (hc : X.calm = true) (hg : Gl X "list") (hm : X.mg "list" = none) (hg2 : Gl X "range") (hm2 : X.mg "range" = none) (ha : SE X W a f) (na : starEach [a] X.env = (false, eval a X.env) :: starEach [] X.env := by rfl)
    (na2 : starEach [.Call (.Name "range" p2) [a] [] q] X.env = (false, eval (.Call (.Name "range" p2) [a] [] q) X.env) :: starEach [] X.env := by rfl) : SE X W (.Call (.Name "list" p) [.Call (.Name "range" p2) [a] [] q] [] pos) (lrg1S f) := by
  obtain ⟨t, pt, s⟩ := ha
  refine ⟨_, pe_listRg hc hg hm (prg_1 hg2 hm2 pt na) na2, fun G st σ pst pσ H Q o R hf post => ?_⟩
  unfold lrg1S at hf
  rcases Out.bind_some hf with ⟨r1, st1, h1, hf⟩ | ⟨x, st1, h1, rfl⟩
  · refine s G st σ pst pσ H _ _ R h1 fun v H1 R1 => ?_
    split at hf
    · rename_i n
      split at hf
      · rename_i hn
        cases hf
        refine ⟨n, R1.isI, ⟨by omega, by omega, by omega, by omega, by omega⟩, fun p np => ?_⟩
        obtain ⟨fs, f1, fp, F, q1⟩ := R1.top
        rw [rgV_ints, Int.sub_zero]
        refine post _ _ ?_
        rw [rangeD_ints]
        exact Rep.under ⟨fs, _, F.newLst np (RVs.ints _)⟩
      · cases hf
    · cases hf
  · exact s G st σ pst pσ H _ _ R h1 post

/-! ## a, b = x, y -/
def parF (i j : Nat) (fs : SM (List SV)) : SF := fun st => Fl.bind (fs st) fun rs st1 => match rs with
  | [.val d, .val e] => match bindN i d st1 with
    | some st2 => match bindN j e st2 with
      | some st3 => some (.nx st3)
      | none => none
    | none => none
  | _ => none
theorem s1_par {i j : Nat} {x y : Str} {fs : SM (List SV)} {px py pt : Pos} {kt k2 pt2} (hc : X.calm = true) (hN : X.N.Nodup) (hi : X.N[i]? = some x) (hj : X.N[j]? = some y) (hij : i ≠ j)
    (hx : X.env.scope.names.lookup x = some .local) (hy : X.env.scope.names.lookup y = some .local) (ha : SA X W [a, b] fs)
    (hw : swappedStores [.Tuple [.Name x px, .Name y py] kt pt] (.Tuple [a, b] k2 pt2) X.env = pure (some [x, y]))
    (hs : swapsWithSole [.Tuple [.Name x px, .Name y py] kt pt] (.Tuple [a, b] k2 pt2) pos.line X.env = pure false := by rfl) :
    S1 X W (.Assign [.Tuple [.Name x px, .Name y py] kt pt] (.Tuple [a, b] k2 pt2) pos) (parF i j fs) := by
  obtain ⟨t, pt, s⟩ := ha
  refine ⟨_, ps_par hc hN hi hj hij hx hy pt hw hs, fun G st σ pst pσ H D o na R hf post => ?_⟩
  unfold parF at hf
  rcases Fl.bind_some hf with ⟨rs, st1, h1, hf⟩ | ⟨x, st1, h1, rfl⟩
  · refine s G st σ pst pσ H _ _ R h1 fun vs H1 hl R1 => ?_
    split at hf
    · rename_i d e
      split at hf
      · rename_i st2 e2
        split at hf
        · rename_i st3 e3
          cases hf
          match vs, hl with
          | [v, w], _ =>
            refine ⟨v, w, rfl, ?_⟩
            have R2 : Rep X.K G st1 σ (.val e :: .val d :: pst) (some w :: some v :: pσ) H1 := R1
            exact post _ _ ((R2.swap.setN e2).setN e3)
        · cases hf
      · cases hf
    · cases hf
  · exact s G st σ pst pσ H _ _ R h1 (post σ)
end
end TK

namespace L2
open PySem PySem.Spec PyProof.Rows
theorem tuple_mul1 (l : Addr) (items : Array Value) (n : Nat) (u : Tok) (dd : Option Addr) (sl : Array (Option Value)) :
    Meets (Builtin.«tuple.__mul__» ⟨[.ref l, .int 1 u], []⟩) (fun _ R s => s.heap.get? l = some { cls := .type "tuple", dict := dd, data := .seq items n, slots := sl } ∧ R (.ok (.ret (Value.ref l))) s) :=
  .of_wp fun prog w A R s h => by
    obtain ⟨hp, g, d, tk, os⟩ := s
    obtain ⟨hl, h⟩ := h
    have f1 := AutoSeq1.idx_int
    have c1 : (items.isEmpty || (1 : Int) == 1) = true := by simp
    wp_walk using wpAny_loadPart' hl
    repeat (first
      | (refine wpAny_ite_false (decide_eq_false (by decide)) ?_; wp_walk using wpAny_loadPart' hl)
      | (refine wpAny_ite_true (decide_eq_true (by rw [c1])) ?_; wp_walk using wpAny_loadPart' hl))
    exact ⟨_, rfl, h⟩
def rRepT1 (K : PySem.W.Frag) : R2 := fun x y H Q => ∃ l xs, x = .ref l ∧ y = .int 1 ∧ SqT K H l xs ∧ Q (.ref l) H
theorem op_repT1 {X : Cx} : OpR X (binaryOp .Mult) (rRepT1 X.K) := by
  intro pins s σ H x y v u Q I rx ry h
  obtain ⟨l, xs, rfl, rfl, hT, q⟩ := h
  cases rx
  obtain ⟨t, rfl⟩ := ry
  obtain ⟨its, r, ⟨⟨cls, dd, data, sl⟩, ho, hc, n, hd⟩, hs⟩ := I.tuple hT
  simp only at hc hd
  subst hc hd
  refine wpAny_binaryOp_repeat_ref (T := "tuple") (U := "int") (by decide) ⟨_, ho, rfl⟩ (fun s' => typeIs_int s' 1 t) noFill_tuple_mul F.fills_int_mul F.slot_int_rmul repeat_tuple F.slot_int_index.lookup
    (call_meets F.slot_int_rmul (typeIs_int s 1 t) F.entry_int_rmul (F.args_int_rmul_2 _ _) (int_rmul_tuple 1 t l its.toArray n dd sl)
      ⟨ho, rfl, ⟨_, ho, rfl⟩, call_meets F.slot_tuple_mul ⟨_, ho, rfl⟩ F.entry_tuple_mul (F.args_tuple_mul_2 _ _) (tuple_mul1 l its.toArray n t dd sl) ⟨ho, ?_⟩⟩)
  exact ⟨.ref l, H, I, rfl, q⟩
end L2
namespace TK
open PySem PySem.Spec PyProof.Rows L2
def tmulS : G2 := fun _ r1 r2 => match r1, r2 with
  | .val (.tuple ds), .val (.int k) => if k = 1 then some (.val (.tuple ds)) else if ds ≠ [] ∧ 2 ≤ k ∧ k ≤ 1000 ∧ ds.length ≤ 1000 then some (.val (.tuple (List.replicate k.toNat ds).flatten)) else none
  | _, _ => none
def orG2 (g1 g2 : G2) : G2 := fun st r1 r2 => match g1 st r1 r2 with
  | some x => some x
  | none => g2 st r1 r2
section
variable {K : PySem.W.Frag}
theorem OpS.or {r1 r2 : R2} {g1 g2 : G2} (h1 : OpS K r1 g1) (h2 : OpS K r2 g2) : OpS K (fun x y H Q => r1 x y H Q ∨ r2 x y H Q) (orG2 g1 g2) := by
  intro G st σ pst pσ H a b x y Q res R e post
  unfold orG2 at e
  cases e1 : g1 st a b with
  | some z => rw [e1] at e; cases e; exact .inl (h1 G st σ pst pσ H a b x y Q _ R e1 post)
  | none => rw [e1] at e; exact .inr (h2 G st σ pst pσ H a b x y Q _ R e post)
theorem ops_tmul : OpS K (fun x y H Q => rRepT1 K x y H Q ∨ rRepT K x y H Q) tmulS := by
  intro G st σ pst pσ H a b x y Q res R e post
  unfold tmulS at e
  split at e
  · rename_i ds k
    have ey := R.isI
    subst ey
    obtain ⟨fs, f2, f1, fp, F, q1, q2⟩ := R.top2
    obtain ⟨a, vs, ea, hH, rv⟩ := F.items q1 rfl
    cases ea
    split at e
    · rename_i hk
      subst hk
      cases e
      exact .inl ⟨a, vs, rfl, rfl, SqT.of hH, post _ H R.pop⟩
    · split at e
      · rename_i hk
        cases e
        refine .inr ⟨a, k, vs, rfl, rfl, SqT.of hH, fun e => hk.1 (List.length_eq_zero_iff.mp (by rw [← rv.length, e]; rfl)), hk.2.1, hk.2.2.1, by rw [rv.length]; exact hk.2.2.2, fun p np => ?_⟩
        exact post _ _ (Rep.fin2 ⟨fs, _, F.newTup np (rv.rep k.toNat)⟩)
      · cases e
  · cases e
end
def mulG2 : G2 := orG2 mulS tmulS
section
variable {X : Cx} {W : WX} {a b : Expr} {f1 f2 : SM SV} {pos : Pos}
theorem se_mulG (ha : SE X W a f1) (hb : SE X W b f2) : SE X W (.BinOp a .Mult b pos) (binS mulG2 f1 f2) := se_op (op_mulA.or (op_repT1.or op_repT)) (ops_mul.or ops_tmul) ha hb
end
end TK
namespace TK
open PySem PySem.Spec PyProof.Rows L2
theorem fn_no {P : Program} {w : World} {K : PySem.W.Frag} {mg : Str → Option Value} {base : Heap} {CX : CXT} {k n : Nat} {f : Addr} {fd : FuncData} {ps : List Str} : FnOk P w K mg base CX k f fd ps (spD K mg n fun _ => none) :=
  ⟨fun vs H Q E h => (by obtain ⟨G, as, o, _, _, _, _, e, _⟩ := h; cases e), fun A outer s H args us vs Q E _ _ _ _ h => (by obtain ⟨G, as, o, _, _, _, _, e, _⟩ := h; cases e)⟩
end TK
namespace TK
open PySem PySem.Spec PyProof.Rows L2
def isBS : G2 := fun _ r1 r2 => match r1, r2 with
  | .val (.bool a), .val (.bool b) => some (.val (.bool (decide (a = b))))
  | _, _ => none
theorem ops_isB {K : PySem.W.Frag} : OpS K (fun x y H Q => ∃ a b : Bool, x = .bl a ∧ y = .bl b ∧ Q (.bl (decide (a = b))) H) isBS := by
  intro G st σ pst pσ H r1 r2 x y Q res R e post
  unfold isBS at e
  split at e
  · cases e
    have ey := R.isB
    have ex := R.pop.isB
    subst ex ey
    exact ⟨_, _, rfl, rfl, post _ H (R.pop.pop.pushB _)⟩
  · cases e
section
variable {X : Cx} {W : WX} {a b : Expr} {f1 f2 : SM SV} {pos : Pos}
theorem st_isB (ha : SE X W a f1) (hb : SE X W b f2) : ST X W (.Compare a [.Is] [b] pos) (binT isBS f1 f2) := st_cmp op_is_bl ops_isB ha hb (nomark _)
theorem se_isB (ha : SE X W a f1) (hb : SE X W b f2) : SE X W (.Compare a [.Is] [b] pos) (binS isBS f1 f2) := se_cmp op_is_bl ops_isB ha hb (nomark _)
end
@[simp] theorem isBS_b (st : List SV) (a b : Bool) : isBS st (.val (.bool a)) (.val (.bool b)) = some (.val (.bool (decide (a = b)))) := rfl
end TK
namespace TK
open PySem PySem.Spec PyProof.Rows L2
def notBS : G2 := fun _ r1 r2 => match r1, r2 with
  | .val (.bool a), .val (.bool b) => some (.val (.bool (!decide (a = b))))
  | _, _ => none
theorem ops_notB {K : PySem.W.Frag} : OpS K (fun x y H Q => ∃ a b : Bool, x = .bl a ∧ y = .bl b ∧ Q (.bl (!decide (a = b))) H) notBS := by
  intro G st σ pst pσ H r1 r2 x y Q res R e post
  unfold notBS at e
  split at e
  · cases e
    have ey := R.isB
    have ex := R.pop.isB
    subst ex ey
    exact ⟨_, _, rfl, rfl, post _ H (R.pop.pop.pushB _)⟩
  · cases e
theorem st_notB {X : Cx} {W : WX} {a b : Expr} {f1 f2 : SM SV} {pos : Pos} (ha : SE X W a f1) (hb : SE X W b f2) : ST X W (.Compare a [.IsNot] [b] pos) (binT notBS f1 f2) := st_cmp op_isnot_bl ops_notB ha hb (nomark _)
@[simp] theorem notBS_b (st : List SV) (a b : Bool) : notBS st (.val (.bool a)) (.val (.bool b)) = some (.val (.bool (!decide (a = b)))) := rfl
end TK

namespace TK
open PySem PySem.Spec PyProof.Rows L2

/-! ## a list of lists that a slot owns with its rows -/
theorem flat_join {fs : List (List Addr)} {i : Nat} {x f P : List Addr} (h : fs[i]? = some x) : ((fs.set i (x ++ f)).flatten ++ P).Perm (fs.flatten ++ (f ++ P)) := by
  obtain ⟨l1, l2, e1, e2⟩ := flat_set (f := x ++ f) h
  rw [e2, e1]
  simp only [List.flatten_append, List.flatten_cons, List.append_assoc]
  refine List.Perm.append_left _ (List.Perm.append_left _ ?_)
  rw [← List.append_assoc, ← List.append_assoc]
  exact List.Perm.append_right _ List.perm_append_comm
section
variable {K : PySem.W.Frag} {G : Gh} {fs fp : List (List Addr)} {st : List SV} {σ : Sg} {pst : List SV} {pσ : List (Option V)} {H H' : Hp} {i : Nat}
theorem RepF.own2At {dss : List (List D)} (h : RepF K G fs fp st σ pst pσ H) (hi : st[i]? = some (.own2 dss)) : ∃ p qs, σ[i]? = some (some (.ref p)) ∧ fs[i]? = some (p :: qs) ∧ H p = some (.lst (qs.map .ref)) ∧ Rows (Zf G (fs.flatten ++ fp.flatten)) H qs dss := by
  obtain ⟨a, c, h1, h2, q⟩ := h.slots.get hi
  obtain ⟨p, qs, rfl, rfl, hp, r⟩ := q
  exact ⟨p, qs, h1, h2, hp, r⟩
theorem Rows.snoc {Z : Addr → Prop} {q : Addr} {ds : List D} {vs : List V} : ∀ {qs : List Addr} {dss : List (List D)}, Rows Z H qs dss → H q = some (.lst vs) → RVs Z H vs ds → Rows Z H (qs ++ [q]) (dss ++ [ds])
  | _, _, .nil, h1, h2 => .cons ⟨_, h1, h2⟩ .nil
  | _, _, .cons h t, h1, h2 => .cons h (Rows.snoc t h1 h2)
/-- the top, a list of its own, becomes the last row -/
theorem Rep.app2 {dss : List (List D)} {ds : List D} {b : Bool} {q : Addr} (h : Rep K G st σ (.own b ds :: pst) (some (.ref q) :: pσ) H) (hi : st[i]? = some (.own2 dss)) :
    ∃ p qs, σ[i]? = some (some (.ref p)) ∧ H p = some (.lst (qs.map .ref)) ∧ qs.length = dss.length ∧ Rep K G (st.set i (.own2 (dss ++ [ds]))) σ pst pσ (upd H p (.lst ((qs ++ [q]).map .ref))) := by
  obtain ⟨fs, fp, F⟩ := h
  obtain ⟨p, qs, e1, e2, hp, rows⟩ := F.own2At hi
  obtain ⟨hs1, hp1, nd, fr, f1, f2, f3, f4, f5⟩ := F
  cases hp1 with
  | @cons _ _ f _ _ fp hp1 hp2 =>
    obtain ⟨q', vs, rfl, eq, hq, rv, hio⟩ := hp1
    cases eq
    have pm : ((fs.set i (p :: qs ++ [q])).flatten ++ fp.flatten).Perm (fs.flatten ++ ([q] :: fp).flatten) := flat_join e2
    have hm : p ∈ fs.flatten ++ ([q] :: fp).flatten := List.mem_append_left _ (mem_ff (List.mem_of_getElem? e2) (by simp))
    have hmq : q ∈ fs.flatten ++ ([q] :: fp).flatten := by simp [List.flatten_cons]
    have hpq : p ≠ q := fun e => by
      subst e
      exact (List.nodup_append.mp nd).2.2 p (mem_ff (List.mem_of_getElem? e2) (by simp)) p (by simp [List.flatten_cons]) rfl
    have nd1 : fs.flatten.Nodup := (List.nodup_append.mp nd).1
    have ndp : (p :: qs).Nodup := by
      obtain ⟨l1, l2, q1, _⟩ := flat_set (f := []) e2
      rw [q1] at nd1
      simp only [List.flatten_append, List.flatten_cons] at nd1
      exact (List.nodup_append.mp (List.nodup_append.mp nd1).2.1).1
    have k : Keep (Zf G (fs.flatten ++ ([q] :: fp).flatten)) (Zf G ((fs.set i (p :: qs ++ [q])).flatten ++ fp.flatten)) H (upd H p (.lst ((qs ++ [q]).map .ref))) := fun a u e n => by
      have na : a ≠ p := fun z => n (.inr (by rw [z]; exact hm))
      exact ⟨by rw [upd_ne na]; exact e, fun z => n (z.imp id fun m => pm.mem_iff.mp m)⟩
    have hrows : Rows (Zf G ((fs.set i (p :: qs ++ [q])).flatten ++ fp.flatten)) (upd H p (.lst ((qs ++ [q]).map .ref))) (qs ++ [q]) (dss ++ [ds]) := by
      refine Rows.snoc (Rows.frame k (fun a ha => upd_ne fun z => (List.nodup_cons.mp ndp).1 (z ▸ ha)) rows) ((upd_ne (Ne.symm hpq)).trans hq) (RVs.frame k _ _ rv)
    have hlen : qs.length = dss.length := by
      have : ∀ {qs : List Addr} {dss : List (List D)}, Rows (Zf G (fs.flatten ++ ([q] :: fp).flatten)) H qs dss → qs.length = dss.length := by
        intro qs dss r
        induction r with
        | nil => rfl
        | cons _ _ ih => simp [ih]
      exact this rows
    have qn := hs1.impSet (Q := SlotOk K G (Zf G ((fs.set i (p :: qs ++ [q])).flatten ++ fp.flatten)) (upd H p (.lst ((qs ++ [q]).map .ref))) σ) i (a := some (.ref p)) (b := .own2 (dss ++ [ds])) (c := p :: qs ++ [q]) ⟨p, qs ++ [q], rfl, rfl, upd_same, hrows⟩
      fun j a b c hj hc q => q.frame k fun x hx => upd_ne fun e => flat_apart (a := p) nd1 e2 hc (Ne.symm hj) (by simp) (by rw [e] at hx; exact hx)
    rw [set_same e1] at qn
    refine ⟨p, qs, e1, hp, hlen, fs.set i (p :: qs ++ [q]), fp, ⟨qn, hp2.imp fun a b c hc q => q.frame k fun x hx => upd_ne fun e => (List.nodup_append.mp nd).2.2 p (mem_ff (List.mem_of_getElem? e2) (by simp)) x (by simp only [List.flatten_cons]; exact List.mem_append_right _ (mem_ff hc hx)) e.symm,
      pm.nodup_iff.mpr nd, fun a ha => fr a (pm.mem_iff.mp ha), fun a o e w => ?_, fun a e => ?_, f3, fun sv hs => (List.mem_or_eq_of_mem_set hs).elim (f4 sv) fun e => by rw [e]; rfl, fun j hj => ?_⟩⟩
    · have q := f1 a o e w
      have na : a ≠ p := fun z => by
        subst z
        rcases (fr a hm).1 with z | z
        · exact w z
        · rw [z] at e; cases e
      rw [upd_ne na]; exact q
    · by_cases ea : a = p
      · subst ea; rw [upd_same]; simp
      · rw [upd_ne ea]; exact f2 a e
    · obtain ⟨s, e, q⟩ := f5 j (List.mem_cons_of_mem _ hj)
      by_cases ej : i = j
      · subst ej
        exact ⟨_, List.getElem?_set_self (List.getElem?_eq_some_iff.mp e).1, rfl⟩
      · exact ⟨s, by rw [List.getElem?_set_ne ej]; exact e, q⟩
end
/-- xs.append(e), e a fresh list, xs a list of lists that slot i owns -/
def appendS2 (i : Nat) (f : SM SV) : SM SV := fun st => match st[i]? with
  | some (.own2 _) => Out.bind (f st) fun r st1 => match r, st1[i]? with
    | .own false ds, some (.own2 dss) => if dss.length < sizeLine then some (.ok (.val .none) (st1.set i (.own2 (dss ++ [ds])))) else none
    | _, _ => none
  | _ => none
section
variable {X : Cx} {W : WX} {e : Expr} {f : SM SV} {i : Nat}
theorem se_append2 (h : SE X W e f) (hs : starEach [e] X.env = (false, eval e X.env) :: starEach [] X.env := by rfl) {c : Expr} (mk : ∀ t, PA X [e] t → PE X c (tBM X.K "list" rAppend (tVar i) t)) : SE X W c (appendS2 i f) := by
  obtain ⟨t, p, s⟩ := h
  refine ⟨_, mk _ (pa_cons p pa_nil hs), fun G st σ pst pσ H Q o R hf post => ?_⟩
  unfold appendS2 at hf
  split at hf
  · rename_i dss0 e0
    obtain ⟨fs, fp, F⟩ := id R
    obtain ⟨p0, qs0, e1, e2, hp0, _⟩ := F.own2At e0
    refine ⟨_, e1, .inl ⟨rfl, _, SqL.of hp0⟩, ?_⟩
    rcases Out.bind_some hf with ⟨r1, st1, h1, hf⟩ | ⟨x, st1, h1, rfl⟩
    · refine s G st σ pst pσ H _ _ R h1 fun v H1 R1 => ?_
      split at hf
      · rename_i ds dss eo
        split at hf
        · rename_i hz
          cases hf
          obtain ⟨fs1, f1, fp1, F1, q1⟩ := R1.top
          obtain ⟨q, vs, _, ev, hq, rv, _⟩ := q1
          cases ev
          obtain ⟨p, qs, e3, hp, hl, R2⟩ := R1.app2 eo
          rw [e1] at e3
          cases e3
          refine ⟨p0, qs.map .ref, .ref q, rfl, rfl, hp, by rw [List.length_map, hl]; exact hz, post .non _ ?_⟩
          rw [show qs.map V.ref ++ [V.ref q] = (qs ++ [q]).map V.ref by simp]
          exact R2.pushN
        · cases hf
      · cases hf
    · exact s G st σ pst pσ H _ _ R h1 post
  · cases hf
end

/-! ## xs[a][b] += m -/
section
variable {K : PySem.W.Frag} {G : Gh} {fs fp : List (List Addr)} {st : List SV} {σ : Sg} {pst : List SV} {pσ : List (Option V)} {H H' : Hp} {i : Nat}
theorem Rows.setRow {Z : Addr → Prop} {q : Addr} {vs' : List V} {ds' : List D} (k : Keep Z Z H (upd H q (.lst vs'))) (r : RVs Z (upd H q (.lst vs')) vs' ds') : ∀ {qs : List Addr} {dss : List (List D)} {j : Nat}, Rows Z H qs dss → qs.Nodup → qs[j]? = some q → Rows Z (upd H q (.lst vs')) qs (dss.set j ds')
  | _, _, _, .nil, _, e => by simp at e
  | a :: qs, ds :: dss, 0, .cons h t, nd, e => by
    simp at e
    subst e
    exact .cons ⟨vs', upd_same, r⟩ (Rows.frame k (fun b hb => upd_ne fun z => (List.nodup_cons.mp nd).1 (z ▸ hb)) t)
  | a :: qs, ds :: dss, j + 1, .cons h t, nd, e => by
    have hj : qs[j]? = some q := by simpa using e
    obtain ⟨vs, ev, rv⟩ := h
    have hne : a ≠ q := fun z => (List.nodup_cons.mp nd).1 (by rw [z]; exact List.mem_of_getElem? hj)
    exact .cons ⟨vs, (upd_ne hne).trans ev, RVs.frame k _ _ rv⟩ (Rows.setRow k r t (List.nodup_cons.mp nd).2 hj)
theorem Rows.at {Z : Addr → Prop} : ∀ {qs : List Addr} {dss : List (List D)} {j : Nat} {ds : List D}, Rows Z H qs dss → dss[j]? = some ds → ∃ q vs, qs[j]? = some q ∧ H q = some (.lst vs) ∧ RVs Z H vs ds
  | _, _, _, _, .nil, e => by simp at e
  | a :: qs, d :: dss, 0, ds, .cons h t, e => by
    simp at e
    subst e
    obtain ⟨vs, h1, h2⟩ := h
    exact ⟨a, vs, rfl, h1, h2⟩
  | a :: qs, d :: dss, j + 1, ds, .cons h t, e => by
    obtain ⟨q, vs, h1, h2, h3⟩ := Rows.at (j := j) t (by simpa using e)
    exact ⟨q, vs, by simpa using h1, h2, h3⟩
theorem Rep.setRow {dss : List (List D)} {ds : List D} {j : Nat} (h : Rep K G st σ pst pσ H) (hi : st[i]? = some (.own2 dss)) (hj : dss[j]? = some ds) :
    ∃ (p : Addr) (qs : List Addr) (q : Addr) (vs : List V), σ[i]? = some (some (.ref p)) ∧ H p = some (.lst (qs.map .ref)) ∧ qs.length = dss.length ∧ qs[j]? = some q ∧ H q = some (.lst vs) ∧ vs.length = ds.length ∧ (∀ (c : Nat) (n : Int), ds[c]? = some (.int n) → vs[c]? = some (.int n)) ∧
      ∀ (c : Nat) (n : Int), Rep K G (st.set i (.own2 (dss.set j (ds.set c (.int n))))) σ pst pσ (upd H q (.lst (vs.set c (.int n)))) := by
  obtain ⟨fs, fp, F⟩ := h
  obtain ⟨p, qs, e1, e2, hp, rows⟩ := F.own2At hi
  obtain ⟨q, vs, eq, hq, rv⟩ := rows.at hj
  have hlen : qs.length = dss.length := by
    have : ∀ {qs : List Addr} {dss : List (List D)}, Rows (Zf G (fs.flatten ++ fp.flatten)) H qs dss → qs.length = dss.length := by
      intro qs dss r
      induction r with
      | nil => rfl
      | cons _ _ ih => simp [ih]
    exact this rows
  refine ⟨p, qs, q, vs, e1, hp, hlen, eq, hq, rv.length, fun c n hc => ?_, fun c n => ?_⟩
  · obtain ⟨v, hv, r⟩ := rv.get hc
    cases r
    exact hv
  · obtain ⟨hs1, hp1, nd, fr, f1, f2, f3, f4, f5⟩ := id F
    have nd1 : fs.flatten.Nodup := (List.nodup_append.mp nd).1
    have ndp : (p :: qs).Nodup := by
      obtain ⟨l1, l2, q1, _⟩ := flat_set (f := []) e2
      rw [q1] at nd1
      simp only [List.flatten_append, List.flatten_cons] at nd1
      exact (List.nodup_append.mp (List.nodup_append.mp nd1).2.1).1
    have hqm : q ∈ qs := List.mem_of_getElem? eq
    have hqf : q ∈ fs.flatten := mem_ff (List.mem_of_getElem? e2) (by simp [hqm])
    have hpq : p ≠ q := fun z => (List.nodup_cons.mp ndp).1 (z ▸ hqm)
    have k := F.keepMut (o := .lst (vs.set c (.int n))) (List.mem_append_left _ hqf)
    have hr := Rows.setRow k ((RVs.frame k _ _ rv).set (.int n) c) rows (List.nodup_cons.mp ndp).2 eq
    have qn := hs1.impSet (Q := SlotOk K G (Zf G (fs.flatten ++ fp.flatten)) (upd H q (.lst (vs.set c (.int n)))) σ) i (a := some (.ref p)) (b := .own2 (dss.set j (ds.set c (.int n)))) (c := p :: qs) ⟨p, qs, rfl, rfl, (upd_ne hpq).trans hp, hr⟩
      fun j a b c hj hc qq => qq.frame k fun x hx => upd_ne fun e => flat_apart (a := q) nd1 e2 hc (Ne.symm hj) (by simp [hqm]) (by rw [e] at hx; exact hx)
    rw [set_same e1, set_same e2] at qn
    refine ⟨fs, fp, qn, hp1.imp fun a b c hc qq => qq.frame k fun x hx => upd_ne fun e => (List.nodup_append.mp nd).2.2 q hqf x (mem_ff hc hx) e.symm, nd, fr, fun a o e w => ?_, fun a e => ?_, f3, fun sv hs => (List.mem_or_eq_of_mem_set hs).elim (f4 sv) fun e => by rw [e]; rfl, fun j hj => ?_⟩
    · have qq := f1 a o e w
      have na : a ≠ q := fun z => by
        subst z
        rcases (fr a (List.mem_append_left _ hqf)).1 with z | z
        · exact w z
        · rw [z] at e; cases e
      rw [upd_ne na]; exact qq
    · by_cases ea : a = q
      · subst ea; rw [upd_same]; simp
      · rw [upd_ne ea]; exact f2 a e
    · obtain ⟨s, e, qq⟩ := f5 j hj
      by_cases ej : i = j
      · subst ej
        exact ⟨_, List.getElem?_set_self (List.getElem?_eq_some_iff.mp e).1, rfl⟩
      · exact ⟨s, by rw [List.getElem?_set_ne ej]; exact e, qq⟩
end
end TK
namespace L2
open PySem PySem.Spec PyProof.Rows
/-- xs[i], i not below zero, as ps_augS asks it -/
def rIx0 : V → V → Hp → VK → Prop := fun x y H Q => ∃ (p : Addr) (xs : List V) (i : Int) (j : Nat) (v : V), x = .ref p ∧ y = .int i ∧ H p = some (.lst xs) ∧ i = (j : Int) ∧ xs[j]? = some v ∧ Q v H
theorem get_list0 {X : Cx} : PGet X rIx0 := by
  intro pins s σ H x y v u Q I rx ry h
  obtain ⟨p, xs, i, j, z, rfl, rfl, hp, rfl, he, q⟩ := h
  cases rx
  obtain ⟨t, rfl⟩ := ry
  obtain ⟨its, r, pl, hz⟩ := I.list (SqL.of hp)
  obtain ⟨w, ew, rw'⟩ := r.get he
  have hl := r.length
  have hn := line63
  have hj : j < xs.length := (List.getElem?_eq_some_iff.mp he).1
  have fin : EP X pins σ Q w s := ⟨z, H, I, rw', q⟩
  refine wpAny_getItem_list (Q := fun r s' => EP X pins σ Q r s') pl.isList (by omega) (by omega) (by simpa using ew) fin
end L2
namespace TK
open PySem PySem.Spec PyProof.Rows L2
/-- rows[a][b] += m: rows is slot i's list of lists, b a name of slot k -/
def augF2 (i k : Nat) (m : Int) (fi : SM SV) : SF := fun st => match st[i]? with
  | some (.own2 _) => Fl.bind (fi st) fun r st1 => match r, st1[i]?, st1[k]? with
    | .val (.int a), some (.own2 dss), some (.val (.int b)) => match ixN dss.length a with
      | some j => match dss[j]? with
        | some ds => if 0 ≤ b then match ds[b.toNat]? with
          | some (.int n) => some (.nx (st1.set i (.own2 (dss.set j (ds.set b.toNat (.int (n + m)))))))
          | _ => none else none
        | none => none
      | none => none
    | _, _, _ => none
  | _ => none
section
variable {X : Cx} {W : WX} {o ei eb e : Expr} {fi : SM SV} {i k : Nat} {m : Int} {p tpos pos : Pos}
theorem s1_aug2 (ho : PE X o (tVar i)) (hi : SE X W ei fi) (hb : PE X eb (tVar k)) (he : PE X e (tC (.int m))) (hp : PlainIx ei)
    (ha : ∀ ov iv new, augStore eb ov iv new = (do holding [new, ov, iv] (setItem ov iv new); release [new, ov, iv] []; pure .next) := by intros; rfl) : S1 X W (.AugAssign (.Subscript (.Subscript o ei p) eb tpos) .Add e pos) (augF2 i k m fi) := by
  obtain ⟨ti, pi, si⟩ := hi
  refine ⟨_, ps_augS (pe_ix ix_list ho pi hp) hb get_list0 he ip_add set_list ha, fun G st σ pst pσ H D o na R hf post => ?_⟩
  unfold augF2 at hf
  split at hf
  · rename_i dss0 e0
    obtain ⟨fs, fp, F⟩ := id R
    obtain ⟨p0, qs0, e1, e2, hp0, _⟩ := F.own2At e0
    refine ⟨_, e1, ?_⟩
    rcases Fl.bind_some hf with ⟨r1, st1, h1, hf⟩ | ⟨x, st1, h1, rfl⟩
    · refine si G st σ pst pσ H _ _ R h1 fun v H1 R1 => ?_
      split at hf
      · rename_i a dss b eo ek
        split at hf
        · rename_i j ej
          split at hf
          · rename_i ds ed
            split at hf
            · rename_i hb0
              split at hf
              · rename_i n en
                cases hf
                have ev := R1.isI
                subst ev
                have R2 := R1.pop
                obtain ⟨p, qs, q, vs, z1, z2, z3, z4, z5, z6, z7, z8⟩ := R2.setRow eo ed
                rw [e1] at z1
                cases z1
                have hat : atI (qs.map V.ref) a = some (.ref q) := by
                  unfold atI
                  rw [List.length_map, z3, ej]
                  simp [z4]
                refine ⟨p0, qs.map .ref, a, .ref q, rfl, rfl, SqL.of z2, hat, ?_⟩
                obtain ⟨fs2, fp2, F2⟩ := id R2
                obtain ⟨vb, c, y1, y2, y3⟩ := F2.slots.get ek
                obtain ⟨_, xb, rfl, rb⟩ := y3
                cases rb
                have hv := z7 b.toNat n en
                have hlt : b.toNat < vs.length := (List.getElem?_eq_some_iff.mp hv).1
                refine ⟨.int b, y1, q, vs, b, b.toNat, .int n, rfl, rfl, z5, by omega, hv, n, m, rfl, rfl, q, vs, b, b.toNat, rfl, rfl, z5, ?_, post σ _ (z8 b.toNat (n + m))⟩
                have : (b.toNat : Int) = b := Int.toNat_of_nonneg hb0
                rw [← this]
                unfold ixN
                rw [if_pos (by omega), if_pos (by omega)] <;> simp
              · cases hf
            · cases hf
          · cases hf
        · cases hf
      · cases hf
    · exact si G st σ pst pσ H _ _ R h1 (post σ)
  · cases hf
end
end TK
namespace TK
open PySem PySem.Spec PyProof.Rows L2
/-- an empty fresh list, as a list of lists of its own -/
def emp2S (f : SM SV) : SM SV := fun st => Out.bind (f st) fun r st1 => match r with
  | .own false [] => some (.ok (.own2 []) st1)
  | _ => none
theorem Rep.conv2 {K : PySem.W.Frag} {G : Gh} {st : List SV} {σ : Sg} {pst : List SV} {v : Option V} {pσ : List (Option V)} {H : Hp} (h : Rep K G st σ (.own false [] :: pst) (v :: pσ) H) : Rep K G st σ (.own2 [] :: pst) (v :: pσ) H := by
  obtain ⟨fs, fp, F⟩ := h
  obtain ⟨hs1, hp1, nd, fr, f1, f2, f3, f4, f5⟩ := F
  cases hp1 with
  | @cons _ _ f _ _ fp hp1 hp2 =>
    obtain ⟨p, vs, rfl, ev, hp, rv, _⟩ := hp1
    cases rv
    exact ⟨fs, [p] :: fp, ⟨hs1, .cons ⟨p, [], rfl, ev, hp, .nil⟩ hp2, nd, fr, f1, f2, f3, f4, fun i hi => f5 i ((List.mem_cons.mp hi).elim (fun e => nomatch e) (fun m => List.mem_cons_of_mem _ m))⟩⟩
theorem se_emp2 {X : Cx} {W : WX} {e : Expr} {f : SM SV} (h : SE X W e f) : SE X W e (emp2S f) := by
  obtain ⟨t, p, s⟩ := h
  refine ⟨t, p, fun G st σ pst pσ H Q o R hf post => ?_⟩
  unfold emp2S at hf
  rcases Out.bind_some hf with ⟨r1, st1, h1, hf⟩ | ⟨x, st1, h1, rfl⟩
  · refine s G st σ pst pσ H _ _ R h1 fun v H1 R1 => ?_
    split at hf
    · cases hf
      exact post v H1 R1.conv2
    · cases hf
  · exact s G st σ pst pσ H _ _ R h1 post
end TK

namespace TK
open PySem PySem.Spec PyProof.Rows L2
theorem Rows.length {Z : Addr → Prop} {H : Hp} : ∀ {qs : List Addr} {dss : List (List D)}, Rows Z H qs dss → qs.length = dss.length
  | _, _, .nil => rfl
  | _, _, .cons _ t => by rw [List.length_cons, List.length_cons, Rows.length t]
section
variable {K : PySem.W.Frag} {G : Gh} {st : List SV} {σ : Sg} {pst : List SV} {pσ : List (Option V)} {H : Hp}
/-- the list of rows under the top takes the top, a fresh list, as its last row -/
theorem Rep.appTop2 {ds : List D} {acc : List (List D)} {y : V} {a : Addr} (h : Rep K G st σ (.own false ds :: .own2 acc :: pst) (some y :: some (.ref a) :: pσ) H) :
    ∃ (q : Addr) (qs : List Addr), y = .ref q ∧ H a = some (.lst (qs.map .ref)) ∧ qs.length = acc.length ∧ Rep K G st σ (.own2 (acc ++ [ds]) :: pst) (some (.ref a) :: pσ) (upd H a (.lst ((qs ++ [q]).map .ref))) := by
  obtain ⟨fs, fp, F⟩ := h
  obtain ⟨hs1, hp1, nd, fr, f1, f2, f3, f4, f5⟩ := F
  cases hp1 with
  | @cons _ _ f _ _ fp hp1 hp2 =>
    cases hp2 with
    | @cons _ _ g _ _ fp hp2 hp3 =>
      obtain ⟨q, vs, rfl, ey, hq, rv, _⟩ := hp1
      cases ey
      obtain ⟨p, qs, rfl, ep, hp, rows⟩ := hp2
      cases ep
      have pm : (fs.flatten ++ ((a :: (qs ++ [q])) :: fp).flatten).Perm (fs.flatten ++ ([q] :: (a :: qs) :: fp).flatten) := by
        refine List.Perm.append_left _ ?_
        simp only [List.flatten_cons]
        rw [← List.append_assoc]
        refine List.Perm.append_right _ ?_
        exact (List.perm_append_comm (l₁ := [q]) (l₂ := a :: qs)).symm
      have hm : a ∈ fs.flatten ++ ([q] :: (a :: qs) :: fp).flatten := by simp [List.flatten_cons]
      have nd2 : ([q] ++ ((a :: qs) ++ fp.flatten)).Nodup := (List.nodup_append.mp nd).2.1
      have hqa : q ≠ a := fun e => by
        subst e
        have := (List.nodup_append.mp nd2).2.2 q (by simp) q (by simp)
        exact this rfl
      have nd3 : ((a :: qs) ++ fp.flatten).Nodup := (List.nodup_append.mp nd2).2.1
      have ndq : (a :: qs).Nodup := (List.nodup_append.mp nd3).1
      have hfs : ∀ x ∈ fs.flatten, x ≠ a := fun x hx => (List.nodup_append.mp nd).2.2 x hx a (by simp [List.flatten_cons])
      have hfp : ∀ x ∈ fp.flatten, x ≠ a := fun x hx e => (List.nodup_append.mp nd3).2.2 a (by simp) x hx e.symm
      have k : Keep (Zf G (fs.flatten ++ ([q] :: (a :: qs) :: fp).flatten)) (Zf G (fs.flatten ++ ((a :: (qs ++ [q])) :: fp).flatten)) H (upd H a (.lst ((qs ++ [q]).map .ref))) := fun b u e n => by
        have na : b ≠ a := fun z => n (.inr (by rw [z]; exact hm))
        exact ⟨by rw [upd_ne na]; exact e, fun z => n (z.imp id fun m => pm.mem_iff.mp m)⟩
      have hlen : qs.length = acc.length := Rows.length rows
      refine ⟨q, qs, rfl, hp, hlen, fs, (a :: (qs ++ [q])) :: fp, ⟨hs1.imp fun x b c hc qq => qq.frame k fun z hz => upd_ne (hfs z (mem_ff hc hz)),
        .cons ⟨a, qs ++ [q], rfl, rfl, upd_same, Rows.snoc (Rows.frame k (fun b hb => upd_ne fun z => (List.nodup_cons.mp ndq).1 (z ▸ hb)) rows) ((upd_ne hqa).trans hq) (RVs.frame k _ _ rv)⟩ (hp3.imp fun x b c hc qq => qq.frame k fun z hz => upd_ne (hfp z (mem_ff hc hz))),
        pm.nodup_iff.mpr nd, fun b hb => fr b (pm.mem_iff.mp hb), fun b o e w => ?_, fun b e => ?_, f3, f4, fun i hi => f5 i (by simp only [List.mem_cons] at hi ⊢; rcases hi with h | h <;> simp_all)⟩⟩
      · have qq := f1 b o e w
        have na : b ≠ a := fun z => by
          subst z
          rcases (fr b hm).1 with z | z
          · exact w z
          · rw [z] at e; cases e
        rw [upd_ne na]; exact qq
      · by_cases ea : b = a
        · subst ea; rw [upd_same]; simp
        · rw [upd_ne ea]; exact f2 b e
end
end TK

namespace TK
open PySem PySem.Spec PyProof.Rows L2
/-! ## a comprehension of fresh lists: a list of rows of its own -/
def compL2 (s : Src) (vs : List Nat) (b : D → List SV → Option (List SV)) (test : SM Bool) (elt : SM SV) : List D → List SV → List (List D) → Option (List (List D) × List SV)
  | [], st, acc => if s.ok st then some (acc, st) else none
  | d :: ds, st, acc => if s.ok st then match b d st with
    | none => none
    | some st1 => match test st1 with
      | some (.ok true st2) => match elt st2 with
        | some (.ok r st3) => match r with
          | .own false e => if acc.length < sizeLine ∧ plain st3 vs = true then compL2 s vs b test elt ds (wipeS st3 vs) (acc ++ [e]) else none
          | _ => none
        | _ => none
      | some (.ok false st2) => if plain st2 vs = true then compL2 s vs b test elt ds (wipeS st2 vs) acc else none
      | _ => none else none
def compS2 (it : SM Src) (vs : List Nat) (b : D → List SV → Option (List SV)) (test : SM Bool) (elt : SM SV) : SM SV := fun st => Out.bind (it st) fun s st1 => if plain st1 vs then match compL2 s vs b test elt s.ds (wipeS st1 vs) [] with
  | some (acc, st2) => some (.ok (.own2 acc) st2)
  | none => none else none
section
variable {X : Cx} {W : WX} {elt tg iter : Expr} {ifs : List Expr} {scope : Scope} {own : List (Str × Nat)} {pos : Pos} {fi : SM Src} {ts : List Nat} {b : D → List SV → Option (List SV)} {ft : SM Bool} {fe : SM SV}
theorem compL2_emp {s : Src} {vs : List Nat} : ∀ {ds : List D} {st st' : List SV} {acc acc' : List (List D)}, (∀ v ∈ vs, st[v]? = some .emp ∨ st[v]? = none) → compL2 s vs b ft fe ds st acc = some (acc', st') → ∀ v ∈ vs, st'[v]? = some .emp ∨ st'[v]? = none
  | [], st, st', acc, acc', h, e => by
    rw [compL2] at e
    split at e
    · cases e; exact h
    · cases e
  | d :: ds, st, st', acc, acc', h, e => by
    rw [compL2] at e
    split at e
    · split at e
      · cases e
      · split at e
        · split at e
          · split at e
            · split at e
              · exact compL2_emp (wipeS_emp vs) e
              · cases e
            · cases e
          · cases e
        · split at e
          · exact compL2_emp (wipeS_emp vs) e
          · cases e
        · cases e
    · cases e
/-- the comprehension's reading -/
theorem comp_read2 {wi : TI} (hi : ∀ (G : Gh) (st : List SV) (σ : Sg) (pst : List SV) (pσ : List (Option V)) (H : Hp) (R : It → Hp → Prop) (o : Out Src),
      Rep X.K G st σ pst pσ H → fi st = some o → (match o with
        | .ok s st' => ∀ J src pv H', ItOk X.K J src pv s → (s.al = none → src.noal = true) → s.ok st' = true → Rep X.K G st' σ (src :: pst) (some pv :: pσ) H' → R J H'
        | .ex x st' => PostX X W G σ pst pσ x st') → wi σ H R) (hts : ∀ i ∈ ts, i ∈ own.map (·.2)) :
    ∀ (G : Gh) (st : List SV) (σ : Sg) (pst : List SV) (pσ : List (Option V)) (H : Hp) (Q : VK) (o : Out SV), Rep X.K G st σ pst pσ H → compS2 fi (own.map (·.2)) b ft fe st = some o → PostE X W G σ pst pσ Q o →
      tLc wi (tG0 X.K ts b) (tT0 X.K ft) (tE0 X.K fe) (own.map (·.2)) σ H Q := by
  intro G st σ pst pσ H Q o R hf post
  unfold compS2 at hf
  rcases Out.bind_some hf with ⟨s, st1, h1, hf⟩ | ⟨x, st1, h1, rfl⟩
  · refine hi G st σ pst pσ H _ _ R h1 fun J src pv H1 io nal ok1 R1 => ?_
    split at hf
    · rename_i hpl
      split at hf
      · rename_i acc st2 hL
        cases hf
        intro L hLn
        obtain ⟨fs, fp, F⟩ := R1
        have R2 := (Rep.conv2 (Rep.ofF (F.newLst (ds := []) hLn .nil))).wiped hpl
        have emp0 := wipeS_emp (st := st1) (own.map (·.2))
        refine ⟨fun i m H => m = s.ds.length - i ∧ i ≤ s.ds.length ∧ ∃ st ac, (∀ v ∈ own.map (·.2), st[v]? = some .emp ∨ st[v]? = none) ∧ Rep X.K G st (wipe σ (own.map (·.2))) (.own2 ac :: src :: pst) (some (.ref L) :: some pv :: pσ) H ∧ compL2 s (own.map (·.2)) b ft fe (s.ds.drop i) st ac = some (acc, st2),
          ⟨s.ds.length, by simp, Nat.zero_le _, _, [], emp0, R2, hL⟩, ?_⟩
        rintro i m H ⟨rfl, hile, st, ac, emp, R, hc⟩
        have hok : s.ok st = true := by
          by_cases hlt : i < s.ds.length
          · rw [List.drop_eq_getElem_cons hlt, compL2] at hc
            split at hc
            · assumption
            · cases hc
          · have e : i = s.ds.length := by omega
            rw [e, List.drop_length, compL2] at hc
            split at hc
            · assumption
            · cases hc
        have io' := io G st _ [.own2 ac] [some (.ref L)] pst pσ H i rfl hok R
        by_cases hlt : i < s.ds.length
        · have hd : s.ds[i]? = some s.ds[i] := by simp [hlt]
          obtain ⟨go, yl⟩ := io'.1 _ hd
          rw [List.drop_eq_getElem_cons hlt, compL2, if_pos hok] at hc
          cases eb : b s.ds[i] st with
          | none => rw [eb] at hc; cases hc
          | some st3 =>
            rw [eb] at hc
            dsimp only at hc
            cases et : ft st3 with
            | none => rw [et] at hc; cases hc
            | some ot =>
              rw [et] at hc
              cases ot with
              | ex x st4 => cases hc
              | ok kb st4 =>
                refine .inr ⟨go, fun H' => ∃ st ac, (∀ v ∈ own.map (·.2), st[v]? = some .emp ∨ st[v]? = none) ∧ Rep X.K G st (wipe σ (own.map (·.2))) (.own2 ac :: src :: pst) (some (.ref L) :: some pv :: pσ) H' ∧ compL2 s (own.map (·.2)) b ft fe (s.ds.drop (i + 1)) st ac = some (acc, st2),
                  fun H' q => ⟨s.ds.length - (i + 1), by omega, rfl, hlt, q⟩, fun x H' y => ?_⟩
                refine ⟨G, st, _, _, s.ds[i], st3, yl x H' y, eb, fun σ2 hl2 hσ2 R3 => ?_⟩
                have weq : wipe σ2 (own.map (·.2)) = wipe σ (own.map (·.2)) := wipe_eq hl2 hσ2 hts
                refine ⟨weq, G, st3, _, _, kb, st4, R3, et, fun H3 R4 => ?_⟩
                cases kb with
                | false =>
                  dsimp only at hc
                  split at hc
                  · rename_i hp4
                    have R5 := R4.wiped hp4
                    rw [weq] at R5
                    exact iteF ⟨_, ac, wipeS_emp _, R5, hc⟩
                  · cases hc
                | true =>
                  dsimp only at hc
                  cases ee : fe st4 with
                  | none => rw [ee] at hc; cases hc
                  | some oe =>
                    rw [ee] at hc
                    cases oe with
                    | ex x st5 => cases hc
                    | ok r st5 =>
                      dsimp only at hc
                      refine iteT ⟨G, st4, _, _, r, st5, R4, ee, fun y H4 R5 => ?_⟩
                      split at hc
                      · rename_i e
                        split at hc
                        · rename_i hcond
                          obtain ⟨q, qs, rfl, hH, hvl, R6⟩ := R5.appTop2
                          refine ⟨qs.map .ref, hH, by rw [List.length_map, hvl]; exact hcond.1, ?_⟩
                          rw [show qs.map V.ref ++ [V.ref q] = (qs ++ [q]).map V.ref by simp]
                          have R7 := R6.wiped hcond.2
                          rw [weq] at R7
                          exact ⟨_, _, wipeS_emp _, R7, hc⟩
                        · cases hc
                      · cases hc
        · have e : i = s.ds.length := by omega
          subst e
          rw [List.drop_length, compL2, if_pos hok] at hc
          cases hc
          exact .inl ⟨io'.2 (Nat.le_refl _), post _ H (R.under.unwiped emp)⟩
      · cases hf
    · cases hf
  · exact hi G st σ pst pσ H _ _ R h1 post
theorem se_comp2 (hc : X.calm = true) (hN : X.N.Nodup) (hi : SI X W tg iter fi) (ok : BlkOk X.N X.env.scope scope own)
    (hg : ∀ (s : Shared) (H : Hp) (C : Addr) (cl : List (Str × Addr)) (fp : List Addr), SG (X.blk s H scope (compEnvC scope cl C X.env) fp) tg ts b) (ht : ∀ (s : Shared) (H : Hp) (C : Addr) (cl : List (Str × Addr)) (fp : List Addr), SPt (X.blk s H scope (compEnvC scope cl C X.env) fp) ifs ft)
    (he : ∀ (s : Shared) (H : Hp) (C : Addr) (cl : List (Str × Addr)) (fp : List Addr), SE (X.blk s H scope (compEnvC scope cl C X.env) fp) WF elt fe) (hts : ∀ i ∈ ts, i ∈ own.map (·.2) := by decide) (hs : ∀ x, foldedSetIterable iter X.env x = pure x := by intro _; rfl) :
    SE X W (.ListComp elt [⟨tg, iter, ifs, 0⟩] scope pos) (compS2 fi (own.map (·.2)) b ft fe) := by
  obtain ⟨wi, p, s⟩ := hi
  exact ⟨_, pe_lc (g := tG0 X.K ts b) (tt := tT0 X.K ft) (te := tE0 X.K fe) hc hN p ok (fun s H C cl fp => (hg s H C cl fp).can) (fun s H C cl fp => ht s H C cl fp) (fun s H C cl fp => (he s H C cl fp).can) hs, comp_read2 s hts⟩
theorem s1_asgCO2 {i : Nat} {y : Str} {py spos : Pos} (hc : X.calm = true) (hN : X.N.Nodup) (hy : X.N[i]? = some y) (hyl : X.env.scope.names.lookup y = some .local)
    (hsw : swapsWith (.ListComp elt [⟨tg, iter, ifs, 0⟩] scope pos) (some (.Name y py)) spos.line X.env = pure true) (hi : SI X W tg iter fi) (ok : BlkOk X.N X.env.scope scope own)
    (hg : ∀ (s : Shared) (H : Hp) (C : Addr) (cl : List (Str × Addr)) (fp : List Addr), SG (X.blk s H scope (compEnvC scope cl C X.env) fp) tg ts b) (ht : ∀ (s : Shared) (H : Hp) (C : Addr) (cl : List (Str × Addr)) (fp : List Addr), SPt (X.blk s H scope (compEnvC scope cl C X.env) fp) ifs ft)
    (he : ∀ (s : Shared) (H : Hp) (C : Addr) (cl : List (Str × Addr)) (fp : List Addr), SE (X.blk s H scope (compEnvC scope cl C X.env) fp) WF elt fe) (hts : ∀ i ∈ ts, i ∈ own.map (·.2) := by decide) (hs : ∀ x, foldedSetIterable iter X.env x = pure x := by intro _; rfl) :
    S1 X W (.Assign [.Name y py] (.ListComp elt [⟨tg, iter, ifs, 0⟩] scope pos) spos) (asgO i (compS2 fi (own.map (·.2)) b ft fe)) := by
  obtain ⟨wi, p, s⟩ := hi
  exact asgO_core (ps_setLc (g := tG0 X.K ts b) (tt := tT0 X.K ft) (te := tE0 X.K fe) hc hN hy hyl hsw p ok (fun s H C cl fp => (hg s H C cl fp).can) (fun s H C cl fp => ht s H C cl fp) (fun s H C cl fp => (he s H C cl fp).can) hs) (comp_read2 s hts)
end
end TK

/-! The pure side: what a meaning does, by a predicate on its outcomes. -/
namespace TK
open PySem

def wO {α : Type} (o : Option α) (Q : α → Prop) : Prop := ∃ a, o = some a ∧ Q a
def wE {α : Type} (f : SM α) (st : List SV) (Q : α → List SV → Prop) (X : Ex → List SV → Prop) : Prop := ∃ o, f st = some o ∧ match o with
  | .ok a st' => Q a st'
  | .ex x st' => X x st'
def wF (f : SF) (st : List SV) (Q : Fl → Prop) : Prop := ∃ o, f st = some o ∧ Q o
def wC (F : FS) (as : List SV) (Q : SV → Option (List D) → Prop) (X : Ex → Option (List D) → Prop) : Prop := ∃ o, F as = some o ∧ match o with
  | .ret r io => Q r io
  | .ex x io => X x io
section
variable {α β : Type} {Q : α → List SV → Prop} {X : Ex → List SV → Prop} {st : List SV}
@[simp] theorem wO_some (a : α) (Q : α → Prop) : wO (some a) Q ↔ Q a := ⟨fun ⟨b, e, q⟩ => by cases e; exact q, fun q => ⟨a, rfl, q⟩⟩
@[simp] theorem wO_none (Q : α → Prop) : wO none Q ↔ False := ⟨fun ⟨b, e, q⟩ => (by cases e), fun q => q.elim⟩
@[simp] theorem wO_ite (c : Prop) [Decidable c] (a b : Option α) (Q : α → Prop) : wO (if c then a else b) Q ↔ if c then wO a Q else wO b Q := by split <;> rfl
@[simp] theorem wO_map (o : Option α) (f : α → β) (Q : β → Prop) : wO (o.map f) Q ↔ wO o fun a => Q (f a) := by cases o <;> simp
theorem wO_bind (o : Option α) (f : α → Option β) (Q : β → Prop) : wO (o.bind f) Q ↔ wO o fun a => wO (f a) Q := by cases o <;> simp
theorem wE_bind {f : SM β} {k : β → List SV → Option (Out α)} : (∃ o, Out.bind (f st) k = some o ∧ match o with | .ok a st' => Q a st' | .ex x st' => X x st') ↔ wE f st (fun b st1 => ∃ o, k b st1 = some o ∧ match o with | .ok a st' => Q a st' | .ex x st' => X x st') X := by
  unfold wE
  cases f st with
  | none => simp [Out.bind]
  | some o => cases o with
    | ok b st1 => simp [Out.bind]
    | ex x st1 => simp [Out.bind]
theorem wE_okM {o : Option α} : (∃ o', okM o st = some o' ∧ match o' with | .ok a st' => Q a st' | .ex x st' => X x st') ↔ wO o fun a => Q a st := by
  cases o with
  | none => simp [okM]
  | some a => simp [okM]
end
section
variable {st : List SV} {Q : SV → List SV → Prop} {QB : Bool → List SV → Prop} {QA : List SV → List SV → Prop} {QI : Option Int → List SV → Prop} {QS : Src → List SV → Prop} {X : Ex → List SV → Prop} {a b c : SM SV} {ta tb : SM Bool}
@[simp] theorem wE_con (d : D) : wE (conS d) st Q X ↔ Q (.val d) st := ⟨fun ⟨o, e, q⟩ => by cases e; exact q, fun q => ⟨_, rfl, q⟩⟩
theorem wE_var (i : Nat) : wE (varS i) st Q X ↔ wO (st[i]?) fun s => match s with
    | .val d => Q (.val d) st
    | .own _ _ => Q (.al i) st
    | .own2 _ => Q (.al i) st
    | .dct _ _ => Q (.al i) st
    | .scr ns => Q (.scr ns) st
    | _ => False := by
  unfold wE varS
  cases st[i]? with
  | none => simp
  | some s => cases s <;> simp
theorem wE_bin (g : G2) : wE (binS g a b) st Q X ↔ wE a st (fun r1 st1 => wE b st1 (fun r2 st2 => wO (g st2 r1 r2) fun r => Q r st2) X) X := by
  unfold binS
  rw [show wE (fun st => Out.bind (a st) _) st Q X ↔ _ from wE_bind]
  simp only [wE_bind, wE_okM]
theorem wE_binT (g : G2) : wE (binT g a b) st QB X ↔ wE a st (fun r1 st1 => wE b st1 (fun r2 st2 => wO (asB (g st2 r1 r2)) fun r => QB r st2) X) X := by
  unfold binT
  rw [show wE (fun st => Out.bind (a st) _) st QB X ↔ _ from wE_bind]
  simp only [wE_bind, wE_okM]
theorem wE_boolT : wE (boolT a) st QB X ↔ wE a st (fun r st1 => wO (asB (some r)) fun b => QB b st1) X := by
  unfold boolT
  rw [show wE (fun st => Out.bind (a st) _) st QB X ↔ _ from wE_bind]
  simp only [wE_okM]
theorem wE_notT : wE (notT ta) st QB X ↔ wE ta st (fun b st1 => QB (!b) st1) X := by
  unfold notT
  rw [show wE (fun st => Out.bind (ta st) _) st QB X ↔ _ from wE_bind]
  simp
theorem wE_andT : wE (andT ta tb) st QB X ↔ wE ta st (fun b st1 => if b then wE tb st1 QB X else QB false st1) X := by
  unfold andT
  rw [show wE (fun st => Out.bind (ta st) _) st QB X ↔ _ from wE_bind]
  apply iff_of_eq; congr 1; funext b st1; cases b <;> simp [wE]
theorem wE_orT : wE (orT ta tb) st QB X ↔ wE ta st (fun b st1 => if b then QB true st1 else wE tb st1 QB X) X := by
  unfold orT
  rw [show wE (fun st => Out.bind (ta st) _) st QB X ↔ _ from wE_bind]
  apply iff_of_eq; congr 1; funext b st1; cases b <;> simp [wE]
theorem wE_chainT (g g' : G2) : wE (chainT g g' a b c) st QB X ↔ wE a st (fun r1 st1 => wE b st1 (fun r2 st2 => wO (asB (g st2 r1 r2)) fun k => if k then wE c st2 (fun r3 st3 => wO (asB (g' st3 r2 r3)) fun k => QB k st3) X else QB false st2) X) X := by
  unfold chainT
  rw [show wE (fun st => Out.bind (a st) _) st QB X ↔ _ from wE_bind]
  simp only [wE_bind]
  apply iff_of_eq; congr 1; funext r1 st1; congr 1; funext r2 st2
  cases asB (g st2 r1 r2) with
  | none => simp
  | some k => cases k with
    | false => simp
    | true => simp only [wO_some, if_true, wE_bind, wE_okM]
theorem wE_notS : wE (notS a) st Q X ↔ wE a st (fun r st1 => wO (asB (some r)) fun b => Q (.val (.bool (!b))) st1) X := by
  unfold notS
  rw [show wE (fun st => Out.bind (a st) _) st Q X ↔ _ from wE_bind]
  apply iff_of_eq; congr 1; funext r st1
  cases asB (some r) <;> simp
theorem wE_andS : wE (andS a b) st Q X ↔ wE a st (fun r st1 => wO (asB (some r)) fun k => if k then wE b st1 Q X else Q (.val (.bool false)) st1) X := by
  unfold andS
  rw [show wE (fun st => Out.bind (a st) _) st Q X ↔ _ from wE_bind]
  apply iff_of_eq; congr 1; funext r st1
  cases asB (some r) with
  | none => simp
  | some k => cases k <;> simp [wE]
theorem wE_orS : wE (orS a b) st Q X ↔ wE a st (fun r st1 => wO (asB (some r)) fun k => if k then Q (.val (.bool true)) st1 else wE b st1 Q X) X := by
  unfold orS
  rw [show wE (fun st => Out.bind (a st) _) st Q X ↔ _ from wE_bind]
  apply iff_of_eq; congr 1; funext r st1
  cases asB (some r) with
  | none => simp
  | some k => cases k <;> simp [wE]
theorem wE_ifS : wE (ifS ta a b) st Q X ↔ wE ta st (fun k st1 => if k then wE a st1 Q X else wE b st1 Q X) X := by
  unfold ifS
  rw [show wE (fun st => Out.bind (ta st) _) st Q X ↔ _ from wE_bind]
  apply iff_of_eq; congr 1; funext k st1; cases k <;> simp [wE]
theorem wE_negS : wE (negS a) st Q X ↔ wE a st (fun r st1 => match r with | .val (.int i) => Q (.val (.int (-i))) st1 | _ => False) X := by
  unfold negS
  rw [show wE (fun st => Out.bind (a st) _) st Q X ↔ _ from wE_bind]
  apply iff_of_eq; congr 1; funext r st1
  split <;> simp
@[simp] theorem wE_nilA : wE nilA st QA X ↔ QA [] st := ⟨fun ⟨o, e, q⟩ => by cases e; exact q, fun q => ⟨_, rfl, q⟩⟩
theorem wE_consA {fs : SM (List SV)} : wE (consA a fs) st QA X ↔ wE a st (fun r st1 => wO (frzS r) fun r => wE fs st1 (fun rs st2 => QA (r :: rs) st2) X) X := by
  unfold consA
  rw [show wE (fun st => Out.bind (a st) _) st QA X ↔ _ from wE_bind]
  apply iff_of_eq; congr 1; funext r st1
  cases frzS r with
  | none => simp
  | some r => simp only [wO_some, wE_bind]; simp
@[simp] theorem frzS_val (d : D) : frzS (.val d) = some (.val d) := rfl
@[simp] theorem frzS_own (b : Bool) (ds : List D) : frzS (.own b ds) = some (.val (.list ds)) := rfl
@[simp] theorem frzS_al (i : Nat) : frzS (.al i) = some (.al i) := rfl
@[simp] theorem frzS_scr (ns : List Int) : frzS (.scr ns) = some (.scr ns) := rfl
theorem wE_tupS {fs : SM (List SV)} : wE (tupS fs) st Q X ↔ wE fs st (fun rs st1 => wO (valsOf rs) fun ds => ds.length ≤ sizeLine ∧ Q (.val (.tuple ds)) st1) X := by
  unfold tupS
  rw [show wE (fun st => Out.bind (fs st) _) st Q X ↔ _ from wE_bind]
  apply iff_of_eq; congr 1; funext rs st1
  cases valsOf rs with
  | none => simp
  | some ds => by_cases h : ds.length ≤ sizeLine <;> simp [h]
theorem wE_lstS {fs : SM (List SV)} : wE (lstS fs) st Q X ↔ wE fs st (fun rs st1 => wO (valsOf rs) fun ds => ds.length ≤ sizeLine ∧ Q (.own false ds) st1) X := by
  unfold lstS
  rw [show wE (fun st => Out.bind (fs st) _) st Q X ↔ _ from wE_bind]
  apply iff_of_eq; congr 1; funext rs st1
  cases valsOf rs with
  | none => simp
  | some ds => by_cases h : ds.length ≤ sizeLine <;> simp [h]
theorem wE_call1 (g : List SV → SV → Option SV) : wE (call1 g a) st Q X ↔ wE a st (fun r st1 => wO (frzS r) fun r => wO (g st1 r) fun r => Q r st1) X := by
  unfold call1
  rw [show wE (fun st => Out.bind (a st) _) st Q X ↔ _ from wE_bind]
  apply iff_of_eq; congr 1; funext r st1
  cases frzS r with
  | none => simp
  | some r => simp only [wO_some, wE_okM]
theorem wE_call2 (g : G2) : wE (call2 g a b) st Q X ↔ wE a st (fun r1 st1 => wO (frzS r1) fun r1 => wE b st1 (fun r2 st2 => wO (frzS r2) fun r2 => wO (g st2 r1 r2) fun r => Q r st2) X) X := by
  unfold call2
  rw [show wE (fun st => Out.bind (a st) _) st Q X ↔ _ from wE_bind]
  apply iff_of_eq; congr 1; funext r1 st1
  cases frzS r1 with
  | none => simp
  | some r1 =>
    simp only [wO_some, wE_bind]
    apply congrArg (fun z => wE b st1 z X); funext r2 st2
    cases frzS r2 with
    | none => simp
    | some r2 => simp only [wO_some, wE_okM]
@[simp] theorem wE_noPo : wE noPo st QI X ↔ QI none st := ⟨fun ⟨o, e, q⟩ => by cases e; exact q, fun q => ⟨_, rfl, q⟩⟩
theorem wE_somePo : wE (somePo a) st QI X ↔ wE a st (fun r st1 => match r with | .val (.int k) => QI (some k) st1 | _ => False) X := by
  unfold somePo
  rw [show wE (fun st => Out.bind (a st) _) st QI X ↔ _ from wE_bind]
  apply iff_of_eq; congr 1; funext r st1
  split <;> simp
def cutSV (st : List SV) (r : SV) (lo hi : Option Int) : Option SV := match r with
  | .val (.str z) => if z.length ≤ sizeLine then some (.val (.str (L2.cutS z lo hi))) else none
  | r => match itemsOf st r with
    | some (false, ds) => some (.own false (cutD ds lo hi))
    | some (true, ds) => some (.val (.tuple (cutD ds lo hi)))
    | none => none
theorem wE_slice {fl fh : SM (Option Int)} : wE (sliceS a fl fh) st Q X ↔ wE a st (fun r st1 => wE fl st1 (fun lo st2 => wE fh st2 (fun hi st3 => wO (cutSV st3 r lo hi) fun r => Q r st3) X) X) X := by
  have e : sliceS a fl fh = fun st => Out.bind (a st) fun r st1 => Out.bind (fl st1) fun lo st2 => Out.bind (fh st2) fun hi st3 => okM (cutSV st3 r lo hi) st3 := by
    funext st; unfold sliceS cutSV
    congr 1; funext r st1; congr 1; funext lo st2; congr 1; funext hi st3
    split
    · (try dsimp only); split <;> rfl
    · rename_i h
      have e2 : (match r with
        | .val (.str z) => if z.length ≤ sizeLine then some (SV.val (.str (L2.cutS z lo hi))) else none
        | r => match itemsOf st3 r with
          | some (false, ds) => some (.own false (cutD ds lo hi))
          | some (true, ds) => some (.val (.tuple (cutD ds lo hi)))
          | none => none) = match itemsOf st3 r with
          | some (false, ds) => some (.own false (cutD ds lo hi))
          | some (true, ds) => some (.val (.tuple (cutD ds lo hi)))
          | none => none := by
        cases r with
        | val d => cases d with
          | str z => exact (h z rfl).elim
          | _ => rfl
        | _ => rfl
      (try rw [e2])
      cases itemsOf st3 r with
      | none => rfl
      | some z => obtain ⟨b, ds⟩ := z; cases b <;> rfl
  rw [e, show wE (fun st => Out.bind (a st) _) st Q X ↔ _ from wE_bind]
  simp only [wE_bind, wE_okM]
theorem wE_isi (T : String) : wE (isiS T a) st Q X ↔ wE a st (fun r st1 => match r with
    | .val d => wO (L2.kitB (tyName d) T) fun b => Q (.val (.bool b)) st1
    | .own _ _ => wO (L2.kitB "list" T) fun b => Q (.val (.bool b)) st1
    | _ => False) X := by
  unfold isiS
  rw [show wE (fun st => Out.bind (a st) _) st Q X ↔ _ from wE_bind]
  apply iff_of_eq; congr 1; funext r st1
  cases r with
  | val d => dsimp only; cases L2.kitB (tyName d) T <;> simp
  | own _ _ => dsimp only; cases L2.kitB "list" T <;> simp
  | _ => simp
/-! calls -/
theorem wE_callS (F : FS) {fs : SM (List SV)} : wE (callS F fs) st Q X ↔ wE fs st (fun rs st1 => wO (argsOf st1 rs) fun as => wC F as (fun r io => io = none ∧ okRes rs r = true ∧ Q r st1) fun x io => io = none ∧ X x st1) X := by
  unfold callS
  rw [show wE (fun st => Out.bind (fs st) _) st Q X ↔ _ from wE_bind]
  apply iff_of_eq; congr 1; funext rs st1
  cases argsOf st1 rs with
  | none => simp
  | some as =>
    simp only [wO_some, wC]
    cases F as with
    | none => simp
    | some o =>
      cases o with
      | ret r io => cases io with
        | none => by_cases h : okRes rs r = true <;> simp [h]
        | some ds => simp
      | ex x io => cases io <;> simp
theorem wE_callIO (F : FS) {fs : SM (List SV)} : wE (callIO F fs) st Q X ↔ wE fs st (fun rs st1 => match rs with
    | .al i :: rest => wO (ownAt st1 i) fun bd => noAls rest = true ∧ wO (argsOf st1 rest) fun as => wC F (.own true bd.2 :: as) (fun r io => wO io fun ds' => Q r (st1.set i (.own bd.1 ds'))) fun x io => wO io fun ds' => X x (st1.set i (.own bd.1 ds'))
    | _ => False) X := by
  unfold callIO
  rw [show wE (fun st => Out.bind (fs st) _) st Q X ↔ _ from wE_bind]
  apply iff_of_eq; congr 1; funext rs st1
  split
  · rename_i i rest
    cases e : st1[i]? with
    | none => simp [ownAt, e]
    | some s => cases s with
      | own b ds =>
        have eo : ownAt st1 i = some (b, ds) := by unfold ownAt; rw [e]
        dsimp only
        rw [eo]
        simp only [wO_some]
        by_cases hn : noAls rest = true
        · simp only [hn, if_true, wO_some, true_and]
          cases argsOf st1 rest with
          | none => simp
          | some as =>
            simp only [wO_some, wC]
            cases F (.own true ds :: as) with
            | none => simp
            | some o =>
              cases o with
              | ret r io => cases io <;> simp
              | ex x io => cases io <;> simp
        · simp [hn]
      | _ => simp [ownAt, e]
  · rename_i h
    first
      | (split
         · rename_i i rest
           exact absurd rfl (h i rest)
         · simp)
      | simp
/-! lists in place -/
theorem appendS_eq {i : Nat} {f : SM SV} {st : List SV} {z : Bool × List D} (h : ownAt st i = some z) : appendS i f st = Out.bind (f st) fun r st1 => match kept r, ownAt st1 i with
    | some d, some (b, ds) => (if ds.length < sizeLine then some (.ok (.val .none) (st1.set i (.own b (ds ++ [d])))) else none)
    | _, _ => none := by
  unfold appendS; (rw [h]) <;> rfl
theorem wE_append (i : Nat) : wE (appendS i a) st Q X ↔ wO (ownAt st i) fun _ => wE a st (fun r st1 => wO (kept r) fun d => wO (ownAt st1 i) fun bd => bd.2.length < sizeLine ∧ Q (.val .none) (st1.set i (.own bd.1 (bd.2 ++ [d])))) X := by
  cases ho : ownAt st i with
  | none => simp [wE, ho, appendS]
  | some bd0 =>
    rw [wO_some]
    unfold wE
    rw [appendS_eq ho, wE_bind]
    unfold wE
    apply iff_of_eq; congr 1; funext o; congr 1; cases o with
    | ex x s => rfl
    | ok r st1 =>
      dsimp only
      cases kept r with
      | none => simp
      | some d => cases ownAt st1 i with
        | none => simp
        | some bd => obtain ⟨b, ds⟩ := bd; by_cases h : ds.length < sizeLine <;> simp [h]
theorem mutS_eq {i : Nat} {g : List D → D → Option (D × List D)} {f : SM SV} {st : List SV} {z : Bool × List D} (h : ownAt st i = some z) : mutS i g f st = Out.bind (f st) fun r st1 => match kept r, ownAt st1 i with
    | some d, some (b, ds) => (match g ds d with
      | some (x, ds') => some (.ok (.val x) (st1.set i (.own b ds')))
      | none => none)
    | _, _ => none := by
  unfold mutS; (rw [h]) <;> rfl
theorem wE_mut (i : Nat) (g : List D → D → Option (D × List D)) : wE (mutS i g a) st Q X ↔ wO (ownAt st i) fun _ => wE a st (fun r st1 => wO (kept r) fun d => wO (ownAt st1 i) fun bd => wO (g bd.2 d) fun x => Q (.val x.1) (st1.set i (.own bd.1 x.2))) X := by
  cases ho : ownAt st i with
  | none => simp [wE, ho, mutS]
  | some bd0 =>
    rw [wO_some]
    unfold wE
    rw [mutS_eq ho, wE_bind]
    unfold wE
    apply iff_of_eq; congr 1; funext o; congr 1; cases o with
    | ex x s => rfl
    | ok r st1 =>
      dsimp only
      cases kept r with
      | none => simp
      | some d => cases ownAt st1 i with
        | none => simp
        | some bd =>
          obtain ⟨b, ds⟩ := bd
          cases hg : g ds d with
          | none => simp [hg]
          | some x => simp [hg]
/-! what is walked -/
theorem wE_seqI : wE (seqI a) st QS X ↔ wE a st (fun r st1 => wO (srcOf st1 r) fun z => QS ⟨z.2.1, z.2.2⟩ st1) X := by
  unfold seqI
  rw [show wE (fun st => Out.bind (a st) _) st QS X ↔ _ from wE_bind]
  apply iff_of_eq; congr 1; funext r st1
  cases srcOf st1 r with
  | none => simp
  | some z => obtain ⟨t, ds, al⟩ := z; simp
theorem wE_enumI : wE (enumI a) st QS X ↔ wE a st (fun r st1 => wO (frzS r) fun r => wO (srcOf st1 r) fun z => z.2.2 = none ∧ QS ⟨enumD z.2.1, none⟩ st1) X := by
  unfold enumI
  rw [show wE (fun st => Out.bind (a st) _) st QS X ↔ _ from wE_bind]
  apply iff_of_eq; congr 1; funext r st1
  cases frzS r with
  | none => simp
  | some r =>
    simp only [wO_some]
    cases srcOf st1 r with
    | none => simp
    | some z => obtain ⟨t, ds, al⟩ := z; cases al <;> simp
def inR (j : Int) : Prop := -(2 ^ 62) ≤ j ∧ j < 2 ^ 62
theorem inR_iff (j : Int) : inR j ↔ -4611686018427387904 ≤ j ∧ j < 4611686018427387904 := Iff.rfl
theorem wE_range1I : wE (range1I a) st QS X ↔ wE a st (fun r st1 => match r with | .val (.int j) => inR j ∧ QS ⟨rangeD 0 j.toNat, none⟩ st1 | _ => False) X := by
  unfold range1I
  rw [show wE (fun st => Out.bind (a st) _) st QS X ↔ _ from wE_bind]
  apply iff_of_eq; congr 1; funext r st1
  split
  · rename_i j
    by_cases h : -(2 ^ 62) ≤ j ∧ j < 2 ^ 62
    · rw [if_pos h]
      refine propext ⟨fun ⟨o, e, q⟩ => ?_, fun q => ⟨_, rfl, q.2⟩⟩
      cases e; exact ⟨h, q⟩
    · rw [if_neg h]
      refine propext ⟨fun ⟨o, e, q⟩ => ?_, fun q => absurd q.1 h⟩
      cases e
  · simp
theorem wE_range2I : wE (range2I a b) st QS X ↔ wE a st (fun r st1 => wE b st1 (fun r2 st2 => match r, r2 with | .val (.int i), .val (.int j) => inR i ∧ inR j ∧ QS ⟨rangeD i (j - i).toNat, none⟩ st2 | _, _ => False) X) X := by
  unfold range2I
  rw [show wE (fun st => Out.bind (a st) _) st QS X ↔ _ from wE_bind]
  simp only [wE_bind]
  apply iff_of_eq; congr 1; funext r st1; congr 1; funext r2 st2
  split
  · rename_i i j
    by_cases h : -(2 ^ 62) ≤ i ∧ i < 2 ^ 62 ∧ -(2 ^ 62) ≤ j ∧ j < 2 ^ 62
    · rw [if_pos h]
      refine propext ⟨fun ⟨o, e, q⟩ => ?_, fun q => ⟨_, rfl, q.2.2⟩⟩
      cases e; exact ⟨⟨h.1, h.2.1⟩, ⟨h.2.2.1, h.2.2.2⟩, q⟩
    · rw [if_neg h]
      refine propext ⟨fun ⟨o, e, q⟩ => ?_, fun q => absurd ⟨q.1.1, q.1.2, q.2.1.1, q.2.1.2⟩ h⟩
      cases e
  · simp
@[simp] theorem wE_var_c (i : Nat) {s0 : SV} {s1 : List SV} : wE (varS i) (s0 :: s1) Q X ↔ wO ((s0 :: s1)[i]?) fun s => match s with
    | .val d => Q (.val d) (s0 :: s1)
    | .own _ _ => Q (.al i) (s0 :: s1)
    | .own2 _ => Q (.al i) (s0 :: s1)
    | .dct _ _ => Q (.al i) (s0 :: s1)
    | .scr ns => Q (.scr ns) (s0 :: s1)
    | _ => False := wE_var i
@[simp] theorem wE_bin_c (g : G2) {s0 : SV} {s1 : List SV} : wE (binS g a b) (s0 :: s1) Q X ↔ wE a (s0 :: s1) (fun r1 st1 => wE b st1 (fun r2 st2 => wO (g st2 r1 r2) fun r => Q r st2) X) X := wE_bin g
@[simp] theorem wE_binT_c (g : G2) {s0 : SV} {s1 : List SV} : wE (binT g a b) (s0 :: s1) QB X ↔ wE a (s0 :: s1) (fun r1 st1 => wE b st1 (fun r2 st2 => wO (asB (g st2 r1 r2)) fun r => QB r st2) X) X := wE_binT g
@[simp] theorem wE_boolT_c  {s0 : SV} {s1 : List SV} : wE (boolT a) (s0 :: s1) QB X ↔ wE a (s0 :: s1) (fun r st1 => wO (asB (some r)) fun b => QB b st1) X := wE_boolT
@[simp] theorem wE_notT_c  {s0 : SV} {s1 : List SV} : wE (notT ta) (s0 :: s1) QB X ↔ wE ta (s0 :: s1) (fun b st1 => QB (!b) st1) X := wE_notT
@[simp] theorem wE_andT_c  {s0 : SV} {s1 : List SV} : wE (andT ta tb) (s0 :: s1) QB X ↔ wE ta (s0 :: s1) (fun b st1 => if b then wE tb st1 QB X else QB false st1) X := wE_andT
@[simp] theorem wE_orT_c  {s0 : SV} {s1 : List SV} : wE (orT ta tb) (s0 :: s1) QB X ↔ wE ta (s0 :: s1) (fun b st1 => if b then QB true st1 else wE tb st1 QB X) X := wE_orT
@[simp] theorem wE_chainT_c (g g' : G2) {s0 : SV} {s1 : List SV} : wE (chainT g g' a b c) (s0 :: s1) QB X ↔ wE a (s0 :: s1) (fun r1 st1 => wE b st1 (fun r2 st2 => wO (asB (g st2 r1 r2)) fun k => if k then wE c st2 (fun r3 st3 => wO (asB (g' st3 r2 r3)) fun k => QB k st3) X else QB false st2) X) X := wE_chainT g g'
@[simp] theorem wE_notS_c  {s0 : SV} {s1 : List SV} : wE (notS a) (s0 :: s1) Q X ↔ wE a (s0 :: s1) (fun r st1 => wO (asB (some r)) fun b => Q (.val (.bool (!b))) st1) X := wE_notS
@[simp] theorem wE_andS_c  {s0 : SV} {s1 : List SV} : wE (andS a b) (s0 :: s1) Q X ↔ wE a (s0 :: s1) (fun r st1 => wO (asB (some r)) fun k => if k then wE b st1 Q X else Q (.val (.bool false)) st1) X := wE_andS
@[simp] theorem wE_orS_c  {s0 : SV} {s1 : List SV} : wE (orS a b) (s0 :: s1) Q X ↔ wE a (s0 :: s1) (fun r st1 => wO (asB (some r)) fun k => if k then Q (.val (.bool true)) st1 else wE b st1 Q X) X := wE_orS
@[simp] theorem wE_ifS_c  {s0 : SV} {s1 : List SV} : wE (ifS ta a b) (s0 :: s1) Q X ↔ wE ta (s0 :: s1) (fun k st1 => if k then wE a st1 Q X else wE b st1 Q X) X := wE_ifS
@[simp] theorem wE_negS_c  {s0 : SV} {s1 : List SV} : wE (negS a) (s0 :: s1) Q X ↔ wE a (s0 :: s1) (fun r st1 => match r with | .val (.int i) => Q (.val (.int (-i))) st1 | _ => False) X := wE_negS
@[simp] theorem wE_consA_c {fs : SM (List SV)} {s0 : SV} {s1 : List SV} : wE (consA a fs) (s0 :: s1) QA X ↔ wE a (s0 :: s1) (fun r st1 => wO (frzS r) fun r => wE fs st1 (fun rs st2 => QA (r :: rs) st2) X) X := wE_consA
@[simp] theorem wE_tupS_c {fs : SM (List SV)} {s0 : SV} {s1 : List SV} : wE (tupS fs) (s0 :: s1) Q X ↔ wE fs (s0 :: s1) (fun rs st1 => wO (valsOf rs) fun ds => ds.length ≤ sizeLine ∧ Q (.val (.tuple ds)) st1) X := wE_tupS
@[simp] theorem wE_lstS_c {fs : SM (List SV)} {s0 : SV} {s1 : List SV} : wE (lstS fs) (s0 :: s1) Q X ↔ wE fs (s0 :: s1) (fun rs st1 => wO (valsOf rs) fun ds => ds.length ≤ sizeLine ∧ Q (.own false ds) st1) X := wE_lstS
@[simp] theorem wE_call1_c (g : List SV → SV → Option SV) {s0 : SV} {s1 : List SV} : wE (call1 g a) (s0 :: s1) Q X ↔ wE a (s0 :: s1) (fun r st1 => wO (frzS r) fun r => wO (g st1 r) fun r => Q r st1) X := wE_call1 g
@[simp] theorem wE_call2_c (g : G2) {s0 : SV} {s1 : List SV} : wE (call2 g a b) (s0 :: s1) Q X ↔ wE a (s0 :: s1) (fun r1 st1 => wO (frzS r1) fun r1 => wE b st1 (fun r2 st2 => wO (frzS r2) fun r2 => wO (g st2 r1 r2) fun r => Q r st2) X) X := wE_call2 g
@[simp] theorem wE_somePo_c  {s0 : SV} {s1 : List SV} : wE (somePo a) (s0 :: s1) QI X ↔ wE a (s0 :: s1) (fun r st1 => match r with | .val (.int k) => QI (some k) st1 | _ => False) X := wE_somePo
@[simp] theorem wE_slice_c {fl fh : SM (Option Int)} {s0 : SV} {s1 : List SV} : wE (sliceS a fl fh) (s0 :: s1) Q X ↔ wE a (s0 :: s1) (fun r st1 => wE fl st1 (fun lo st2 => wE fh st2 (fun hi st3 => wO (cutSV st3 r lo hi) fun r => Q r st3) X) X) X := wE_slice
@[simp] theorem wE_isi_c (T : String) {s0 : SV} {s1 : List SV} : wE (isiS T a) (s0 :: s1) Q X ↔ wE a (s0 :: s1) (fun r st1 => match r with
    | .val d => wO (L2.kitB (tyName d) T) fun b => Q (.val (.bool b)) st1
    | .own _ _ => wO (L2.kitB "list" T) fun b => Q (.val (.bool b)) st1
    | _ => False) X := wE_isi T
@[simp] theorem wE_callS_c (F : FS) {fs : SM (List SV)} {s0 : SV} {s1 : List SV} : wE (callS F fs) (s0 :: s1) Q X ↔ wE fs (s0 :: s1) (fun rs st1 => wO (argsOf st1 rs) fun as => wC F as (fun r io => io = none ∧ okRes rs r = true ∧ Q r st1) fun x io => io = none ∧ X x st1) X := wE_callS F
@[simp] theorem wE_callIO_c (F : FS) {fs : SM (List SV)} {s0 : SV} {s1 : List SV} : wE (callIO F fs) (s0 :: s1) Q X ↔ wE fs (s0 :: s1) (fun rs st1 => match rs with
    | .al i :: rest => wO (ownAt st1 i) fun bd => noAls rest = true ∧ wO (argsOf st1 rest) fun as => wC F (.own true bd.2 :: as) (fun r io => wO io fun ds' => Q r (st1.set i (.own bd.1 ds'))) fun x io => wO io fun ds' => X x (st1.set i (.own bd.1 ds'))
    | _ => False) X := wE_callIO F
@[simp] theorem wE_append_c (i : Nat) {s0 : SV} {s1 : List SV} : wE (appendS i a) (s0 :: s1) Q X ↔ wO (ownAt (s0 :: s1) i) fun _ => wE a (s0 :: s1) (fun r st1 => wO (kept r) fun d => wO (ownAt st1 i) fun bd => bd.2.length < sizeLine ∧ Q (.val .none) (st1.set i (.own bd.1 (bd.2 ++ [d])))) X := wE_append i
@[simp] theorem wE_mut_c (i : Nat) (g : List D → D → Option (D × List D)) {s0 : SV} {s1 : List SV} : wE (mutS i g a) (s0 :: s1) Q X ↔ wO (ownAt (s0 :: s1) i) fun _ => wE a (s0 :: s1) (fun r st1 => wO (kept r) fun d => wO (ownAt st1 i) fun bd => wO (g bd.2 d) fun x => Q (.val x.1) (st1.set i (.own bd.1 x.2))) X := wE_mut i g
@[simp] theorem wE_seqI_c  {s0 : SV} {s1 : List SV} : wE (seqI a) (s0 :: s1) QS X ↔ wE a (s0 :: s1) (fun r st1 => wO (srcOf st1 r) fun z => QS ⟨z.2.1, z.2.2⟩ st1) X := wE_seqI
@[simp] theorem wE_enumI_c  {s0 : SV} {s1 : List SV} : wE (enumI a) (s0 :: s1) QS X ↔ wE a (s0 :: s1) (fun r st1 => wO (frzS r) fun r => wO (srcOf st1 r) fun z => z.2.2 = none ∧ QS ⟨enumD z.2.1, none⟩ st1) X := wE_enumI
@[simp] theorem wE_range1I_c  {s0 : SV} {s1 : List SV} : wE (range1I a) (s0 :: s1) QS X ↔ wE a (s0 :: s1) (fun r st1 => match r with | .val (.int j) => inR j ∧ QS ⟨rangeD 0 j.toNat, none⟩ st1 | _ => False) X := wE_range1I
@[simp] theorem wE_range2I_c  {s0 : SV} {s1 : List SV} : wE (range2I a b) (s0 :: s1) QS X ↔ wE a (s0 :: s1) (fun r st1 => wE b st1 (fun r2 st2 => match r, r2 with | .val (.int i), .val (.int j) => inR i ∧ inR j ∧ QS ⟨rangeD i (j - i).toNat, none⟩ st2 | _, _ => False) X) X := wE_range2I
end

/-! ## statements -/
def kO (Q : Fl → Prop) (x : Ex) (st : List SV) : Prop := Q (.ex x st)
section
variable {st : List SV} {Q : Fl → Prop} {a b : SM SV} {c : SM Bool} {f g : SF}
theorem wF_bind {α : Type} {f : SM α} {k : α → List SV → Option Fl} : (∃ o, Fl.bind (f st) k = some o ∧ Q o) ↔ wE f st (fun b st1 => ∃ o, k b st1 = some o ∧ Q o) (fun x st1 => Q (.ex x st1)) := by
  unfold wE
  cases f st with
  | none => simp
  | some o => cases o <;> simp
def onNx (P : List SV → Prop) (Q : Fl → Prop) : Fl → Prop
  | .nx st => P st
  | o => Q o
@[simp] theorem onNx_nx (P : List SV → Prop) (st : List SV) : onNx P Q (.nx st) ↔ P st := Iff.rfl
@[simp] theorem onNx_rt (P : List SV → Prop) (r : SV) (st : List SV) : onNx P Q (.rt r st) ↔ Q (.rt r st) := Iff.rfl
@[simp] theorem onNx_ex (P : List SV → Prop) (r : Ex) (st : List SV) : onNx P Q (.ex r st) ↔ Q (.ex r st) := Iff.rfl
@[simp] theorem onNx_bk (P : List SV → Prop) (st : List SV) : onNx P Q (.bk st) ↔ Q (.bk st) := Iff.rfl
@[simp] theorem onNx_ct (P : List SV → Prop) (st : List SV) : onNx P Q (.ct st) ↔ Q (.ct st) := Iff.rfl
theorem wF_seq : wF (seqS f g) st Q ↔ wF f st (onNx (fun st1 => wF g st1 Q) Q) := by
  unfold wF seqS
  cases f st with
  | none => simp
  | some o => cases o <;> simp
@[simp] theorem wF_nil : wF nilS st Q ↔ Q (.nx st) := ⟨fun ⟨o, e, q⟩ => by cases e; exact q, fun q => ⟨_, rfl, q⟩⟩
@[simp] theorem wF_retN : wF retN st Q ↔ Q (.rt (.val .none) st) := ⟨fun ⟨o, e, q⟩ => by cases e; exact q, fun q => ⟨_, rfl, q⟩⟩
theorem wF_if : wF (ifF c f g) st Q ↔ wE c st (fun k st1 => if k then wF f st1 Q else wF g st1 Q) (fun x st1 => Q (.ex x st1)) := by
  unfold ifF
  rw [show wF (fun st => Fl.bind (c st) _) st Q ↔ _ from wF_bind]
  apply iff_of_eq; congr 1; funext k st1; cases k <;> simp [wF]
theorem wF_expr : wF (exprF a) st Q ↔ wE a st (fun _ st1 => Q (.nx st1)) (fun x st1 => Q (.ex x st1)) := by
  unfold exprF
  rw [show wF (fun st => Fl.bind (a st) _) st Q ↔ _ from wF_bind]
  simp
def retOf (st : List SV) (r : SV) : Option (SV × List SV) := match r with
  | .own false ds => some (.own false ds, st)
  | .own2 dss => some (.own2 dss, st)
  | r => settle st r
theorem wF_ret : wF (retF a) st Q ↔ wE a st (fun r st1 => wO (retOf st1 r) fun z => Q (.rt z.1 z.2)) (fun x st1 => Q (.ex x st1)) := by
  unfold retF
  rw [show wF (fun st => Fl.bind (a st) _) st Q ↔ _ from wF_bind]
  apply iff_of_eq; congr 1; funext r st1
  unfold retOf
  split <;> first | (simp; done) | skip
  cases e : settle st1 r with
  | none => simp [e]
  | some z => simp [e]
theorem wF_asg (bd : D → List SV → Option (List SV)) : wF (asgF bd a) st Q ↔ wE a st (fun r st1 => wO (settle st1 r) fun z => match z.1 with | .val d => wO (bd d z.2) fun st3 => Q (.nx st3) | _ => False) (fun x st1 => Q (.ex x st1)) := by
  unfold asgF
  rw [show wF (fun st => Fl.bind (a st) _) st Q ↔ _ from wF_bind]
  apply iff_of_eq; congr 1; funext r st1
  cases settle st1 r with
  | none => simp
  | some z =>
    obtain ⟨z1, z2⟩ := z
    cases z1 with
    | val d => cases e : bd d z2 <;> simp [e]
    | _ => simp
def ownOf (st : List SV) (r : SV) : Option (SV × List SV) := match r with
  | .own false ds => some (.own false ds, st)
  | .own2 dss => some (.own2 dss, st)
  | r => settle st r
theorem wF_asgO (i : Nat) : wF (asgO i a) st Q ↔ wE a st (fun r st1 => i < st1.length ∧ wO (ownOf st1 r) fun z => i < z.2.length ∧ Q (.nx (z.2.set i z.1))) (fun x st1 => Q (.ex x st1)) := by
  unfold asgO
  rw [show wF (fun st => Fl.bind (a st) _) st Q ↔ _ from wF_bind]
  apply iff_of_eq; congr 1; funext r st1
  by_cases hl : i < st1.length
  · rw [if_pos hl]
    unfold ownOf
    split <;> first | (simp [hl]; done) | skip
    cases e : settle st1 r with
    | none => simp [e]
    | some z => obtain ⟨z1, z2⟩ := z; by_cases h : i < z2.length <;> simp [h, hl, e]
  · simp [hl]
theorem wF_aug (i : Nat) (h : Int → Int → Option Int) : wF (augF i h a) st Q ↔ wO (st[i]?) fun s => match s with
    | .val (.int n) => wE a st (fun r st1 => match r with | .val (.int m) => wO (h n m) fun k => i < st1.length ∧ Q (.nx (st1.set i (.val (.int k)))) | _ => False) (fun x st1 => Q (.ex x st1))
    | _ => False := by
  unfold wF augF
  cases hs : st[i]? with
  | none => simp
  | some s =>
    rw [wO_some]
    split
    · rename_i n e
      cases e
      rw [wF_bind]
      apply iff_of_eq; congr 1; funext r st1
      split
      · rename_i m
        cases e : h n m with
        | none => simp [e]
        | some k => by_cases hl : i < st1.length <;> simp [hl, e]
      · simp
    · rename_i h1
      cases s with
      | val d => cases d with
        | int n => exact absurd rfl (h1 n)
        | _ => simp
      | _ => simp
theorem wF_set (i : Nat) : wF (setF i a b) st Q ↔ wE b st (fun r st1 => wO (kept r) fun d => wO (ownAt st1 i) fun _ => wE a st1 (fun ri st2 => wO (ownAt st2 i) fun bd => match ri with | .val (.int k) => wO (L2.ixN bd.2.length k) fun j => Q (.nx (st2.set i (.own bd.1 (bd.2.set j d)))) | _ => False) (fun x st1 => Q (.ex x st1))) (fun x st1 => Q (.ex x st1)) := by
  unfold setF
  rw [show wF (fun st => Fl.bind (b st) _) st Q ↔ _ from wF_bind]
  apply iff_of_eq; congr 1; funext r st1
  cases kept r with
  | none => simp
  | some d =>
    dsimp only
    rw [wO_some]
    cases ownAt st1 i with
    | none => simp
    | some bd =>
      rw [wO_some]
      rw [show (∃ o, Fl.bind (a st1) _ = some o ∧ Q o) ↔ _ from wF_bind]
      congr 1; funext ri st2
      cases ownAt st2 i with
      | none => simp
      | some bd =>
        obtain ⟨b, ds⟩ := bd
        rw [wO_some]
        cases ri with
        | val d0 => cases d0 with
          | int k => cases e : L2.ixN ds.length k <;> simp [e]
          | _ => simp
        | _ => simp
@[simp] theorem wF_seq_c  {s0 : SV} {s1 : List SV} : wF (seqS f g) (s0 :: s1) Q ↔ wF f (s0 :: s1) (onNx (fun st1 => wF g st1 Q) Q) := wF_seq
@[simp] theorem wF_if_c  {s0 : SV} {s1 : List SV} : wF (ifF c f g) (s0 :: s1) Q ↔ wE c (s0 :: s1) (fun k st1 => if k then wF f st1 Q else wF g st1 Q) (fun x st1 => Q (.ex x st1)) := wF_if
@[simp] theorem wF_expr_c  {s0 : SV} {s1 : List SV} : wF (exprF a) (s0 :: s1) Q ↔ wE a (s0 :: s1) (fun _ st1 => Q (.nx st1)) (fun x st1 => Q (.ex x st1)) := wF_expr
@[simp] theorem wF_ret_c  {s0 : SV} {s1 : List SV} : wF (retF a) (s0 :: s1) Q ↔ wE a (s0 :: s1) (fun r st1 => wO (retOf st1 r) fun z => Q (.rt z.1 z.2)) (fun x st1 => Q (.ex x st1)) := wF_ret
@[simp] theorem wF_asg_c (bd : D → List SV → Option (List SV)) {s0 : SV} {s1 : List SV} : wF (asgF bd a) (s0 :: s1) Q ↔ wE a (s0 :: s1) (fun r st1 => wO (settle st1 r) fun z => match z.1 with | .val d => wO (bd d z.2) fun st3 => Q (.nx st3) | _ => False) (fun x st1 => Q (.ex x st1)) := wF_asg bd
@[simp] theorem wF_asgO_c (i : Nat) {s0 : SV} {s1 : List SV} : wF (asgO i a) (s0 :: s1) Q ↔ wE a (s0 :: s1) (fun r st1 => i < st1.length ∧ wO (ownOf st1 r) fun z => i < z.2.length ∧ Q (.nx (z.2.set i z.1))) (fun x st1 => Q (.ex x st1)) := wF_asgO i
@[simp] theorem wF_aug_c (i : Nat) (h : Int → Int → Option Int) {s0 : SV} {s1 : List SV} : wF (augF i h a) (s0 :: s1) Q ↔ wO ((s0 :: s1)[i]?) fun s => match s with
    | .val (.int n) => wE a (s0 :: s1) (fun r st1 => match r with | .val (.int m) => wO (h n m) fun k => i < st1.length ∧ Q (.nx (st1.set i (.val (.int k)))) | _ => False) (fun x st1 => Q (.ex x st1))
    | _ => False := wF_aug i h
@[simp] theorem wF_set_c (i : Nat) {s0 : SV} {s1 : List SV} : wF (setF i a b) (s0 :: s1) Q ↔ wE b (s0 :: s1) (fun r st1 => wO (kept r) fun d => wO (ownAt st1 i) fun _ => wE a st1 (fun ri st2 => wO (ownAt st2 i) fun bd => match ri with | .val (.int k) => wO (L2.ixN bd.2.length k) fun j => Q (.nx (st2.set i (.own bd.1 (bd.2.set j d)))) | _ => False) (fun x st1 => Q (.ex x st1))) (fun x st1 => Q (.ex x st1)) := wF_set i
end
end TK

namespace TK
open PySem PySem.Spec PyProof.Rows L2

/-! ## defs -/
def onEnd (Q : SV → Option (List D) → Prop) (X : Ex → Option (List D) → Prop) : Fl → Prop
  | .rt r st => isRes r = true ∧ Q r (ioOf st)
  | .nx st => Q (.val .none) (ioOf st)
  | .ex x st => X x (ioOf st)
  | _ => False
section
variable {Q : SV → Option (List D) → Prop} {X : Ex → Option (List D) → Prop}
@[simp] theorem onEnd_rt (r : SV) (st : List SV) : onEnd Q X (.rt r st) ↔ isRes r = true ∧ Q r (ioOf st) := Iff.rfl
@[simp] theorem onEnd_nx (st : List SV) : onEnd Q X (.nx st) ↔ Q (.val .none) (ioOf st) := Iff.rfl
@[simp] theorem onEnd_ex (x : Ex) (st : List SV) : onEnd Q X (.ex x st) ↔ X x (ioOf st) := Iff.rfl
theorem wC_def {N : Nat} {b : SF} {as : List SV} : wC (runDef N b) as Q X ↔ wF b (as ++ List.replicate (N - as.length) .emp) (onEnd Q X) := by
  unfold wC wF runDef
  cases b (as ++ List.replicate (N - as.length) .emp) with
  | none => simp
  | some o =>
    cases o with
    | rt r st => by_cases h : isRes r = true <;> simp [h]
    | nx st => simp
    | ex x st => simp
    | bk st => simp [onEnd]
    | ct st => simp [onEnd]
theorem wC_ret {F : FS} {as : List SV} {r : SV} {io : Option (List D)} (h : F as = some (.ret r io)) : wC F as Q X ↔ Q r io :=
  ⟨fun ⟨o, e, q⟩ => by rw [h] at e; cases e; exact q, fun q => ⟨_, h, q⟩⟩
theorem wC_ex {F : FS} {as : List SV} {x : Ex} {io : Option (List D)} (h : F as = some (.ex x io)) : wC F as Q X ↔ X x io :=
  ⟨fun ⟨o, e, q⟩ => by rw [h] at e; cases e; exact q, fun q => ⟨_, h, q⟩⟩
theorem wC.mono {F : FS} {as : List SV} {Q' : SV → Option (List D) → Prop} {X' : Ex → Option (List D) → Prop} (h : wC F as Q X) (hq : ∀ r io, Q r io → Q' r io) (hx : ∀ x io, X x io → X' x io) : wC F as Q' X' := by
  obtain ⟨o, e, q⟩ := h
  refine ⟨o, e, ?_⟩
  cases o with
  | ret r io => exact hq r io q
  | ex x io => exact hx x io q
/-- it returns, and the result and the list behind are so -/
def rets (F : FS) (as : List SV) (Q : SV → Option (List D) → Prop) : Prop := ∃ r io, F as = some (.ret r io) ∧ Q r io
theorem rets.use {F : FS} {as : List SV} {P : SV → Option (List D) → Prop} (h : rets F as P) (hq : ∀ r io, P r io → Q r io) : wC F as Q X := by
  obtain ⟨r, io, e, q⟩ := h
  exact ⟨_, e, hq r io q⟩
theorem rets_of {F : FS} {as : List SV} (h : wC F as Q fun _ _ => False) : rets F as Q := by
  obtain ⟨o, e, q⟩ := h
  cases o with
  | ret r io => exact ⟨r, io, e, q⟩
  | ex x io => exact q.elim
theorem ret_of {F : FS} {as : List SV} {r : SV} {io : Option (List D)} (h : wC F as (fun r' io' => r' = r ∧ io' = io) fun _ _ => False) : F as = some (.ret r io) := by
  obtain ⟨r', io', e, rfl, rfl⟩ := rets_of h
  exact e
end
/-- frames -/
theorem wO.mono {α : Type} {o : Option α} {Q Q' : α → Prop} (h : wO o Q) (hq : ∀ a, Q a → Q' a) : wO o Q' := let ⟨a, e, q⟩ := h; ⟨a, e, hq a q⟩
theorem wE.mono {α : Type} {f : SM α} {st : List SV} {Q Q' : α → List SV → Prop} {X X' : Ex → List SV → Prop} (h : wE f st Q X) (hq : ∀ a s, Q a s → Q' a s) (hx : ∀ a s, X a s → X' a s) : wE f st Q' X' := by
  obtain ⟨o, e, q⟩ := h
  refine ⟨o, e, ?_⟩
  cases o with
  | ok a s => exact hq a s q
  | ex x s => exact hx x s q
theorem wF.mono {f : SF} {st : List SV} {Q Q' : Fl → Prop} (h : wF f st Q) (hq : ∀ o, Q o → Q' o) : wF f st Q' := let ⟨o, e, q⟩ := h; ⟨o, e, hq o q⟩

/-! ## loops -/
def onLoop (P : List SV → Prop) (Q : Fl → Prop) : Fl → Prop
  | .nx st => P st
  | .ct st => P st
  | .bk st => Q (.nx st)
  | .rt r st => Q (.rt r st)
  | .ex x st => Q (.ex x st)
section
variable {Q : Fl → Prop} {b : D → List SV → Option (List SV)} {body : SF} {st : List SV}
@[simp] theorem onLoop_nx (P : List SV → Prop) (st : List SV) : onLoop P Q (.nx st) ↔ P st := Iff.rfl
@[simp] theorem onLoop_ct (P : List SV → Prop) (st : List SV) : onLoop P Q (.ct st) ↔ P st := Iff.rfl
@[simp] theorem onLoop_bk (P : List SV → Prop) (st : List SV) : onLoop P Q (.bk st) ↔ Q (.nx st) := Iff.rfl
@[simp] theorem onLoop_rt (P : List SV → Prop) (r : SV) (st : List SV) : onLoop P Q (.rt r st) ↔ Q (.rt r st) := Iff.rfl
@[simp] theorem onLoop_ex (P : List SV → Prop) (r : Ex) (st : List SV) : onLoop P Q (.ex r st) ↔ Q (.ex r st) := Iff.rfl
theorem wF_for (it : SM Src) : wF (forF it b body) st Q ↔ wE it st (fun s st1 => s.al = none ∧ wF (forL b body s.ds) st1 Q) (fun x st1 => Q (.ex x st1)) := by
  unfold forF
  rw [show wF (fun st => Fl.bind (it st) _) st Q ↔ _ from wF_bind]
  apply iff_of_eq; congr 1; funext s st1
  obtain ⟨ds, al⟩ := s
  cases al with
  | none => simp [wF]
  | some j => simp
@[simp] theorem wF_forNil : wF (forL b body []) st Q ↔ Q (.nx st) := ⟨fun ⟨o, e, q⟩ => by cases e; exact q, fun q => ⟨_, rfl, q⟩⟩
theorem wF_forCons (d : D) (ds : List D) : wF (forL b body (d :: ds)) st Q ↔ wO (b d st) fun st1 => wF body st1 (onLoop (fun st2 => wF (forL b body ds) st2 Q) Q) := by
  unfold wF
  rw [forL]
  cases b d st with
  | none => simp
  | some st1 =>
    rw [wO_some]
    cases e : body st1 with
    | none => simp [e]
    | some o => cases o <;> simp [e]
/-- an invariant over the items that are left -/
theorem wF_walk {α : Type} {f : α → D} {I : List α → List SV → Prop} (step : ∀ x xs st, I (x :: xs) st → wO (b (f x) st) fun st1 => wF body st1 (onLoop (I xs) Q)) (fin : ∀ st, I [] st → Q (.nx st)) :
    ∀ (xs : List α) (st : List SV), I xs st → wF (forL b body (xs.map f)) st Q
  | [], st, h => by simpa using fin st h
  | x :: xs, st, h => by
    rw [List.map_cons, wF_forCons]
    refine (step x xs st h).mono fun st1 q => q.mono fun o q => ?_
    cases o with
    | nx s => exact wF_walk step fin xs s q
    | ct s => exact wF_walk step fin xs s q
    | bk s => exact q
    | rt r s => exact q
    | ex r s => exact q
/-- an invariant over the place -/
theorem wF_walkI {ds : List D} {I : Nat → List SV → Prop} (step : ∀ i d st, ds[i]? = some d → I i st → wO (b d st) fun st1 => wF body st1 (onLoop (I (i + 1)) Q)) (fin : ∀ st, I ds.length st → Q (.nx st))
    (st : List SV) (h : I 0 st) : wF (forL b body ds) st Q := by
  have key : ∀ (n i : Nat) (st : List SV), i + n = ds.length → I i st → wF (forL b body (ds.drop i)) st Q := by
    intro n
    induction n with
    | zero =>
      intro i st hi h
      have hi : i = ds.length := by omega
      subst hi
      rw [List.drop_length, wF_forNil]
      exact fin st h
    | succ n ih =>
      intro i st hi h
      have hlt : i < ds.length := by omega
      rw [List.drop_eq_getElem_cons hlt, wF_forCons]
      refine (step i ds[i] st (by simp [hlt]) h).mono fun st1 q => q.mono fun o q => ?_
      cases o with
      | nx s => exact ih (i + 1) s (by omega) q
      | ct s => exact ih (i + 1) s (by omega) q
      | bk s => exact q
      | rt r s => exact q
      | ex r s => exact q
  exact key ds.length 0 st (by omega) h
theorem wF_range {lo : Int} {n : Nat} {I : Nat → List SV → Prop} (step : ∀ i st, i < n → I i st → wO (b (.int (lo + (i : Int))) st) fun st1 => wF body st1 (onLoop (I (i + 1)) Q)) (fin : ∀ st, I n st → Q (.nx st))
    (st : List SV) (h : I 0 st) : wF (forL b body (rangeD lo n)) st Q := by
  refine wF_walkI (I := I) (fun i d st hd hi => ?_) (fun st h => fin st (by rwa [rangeD_length] at h)) st h
  obtain ⟨h1, rfl⟩ := rangeD_get lo n i d hd
  exact step i st h1 hi
theorem wF_while {c : SM Bool} {I : Nat → List SV → Prop} (step : ∀ n st, I n st → wE c st (fun k st1 => if k then wF body st1 (onLoop (fun st2 => ∃ m, m < n ∧ I m st2) Q) else Q (.nx st1)) (fun x st1 => Q (.ex x st1))) :
    ∀ (n : Nat) (st : List SV), I n st → wF (whileF c body) st Q := by
  have key : ∀ (n : Nat) (st : List SV), I n st → ∃ m o, whileN m c body st = some o ∧ Q o := by
    intro n
    induction n using Nat.strongRecOn with
    | _ n ih =>
      intro st h
      obtain ⟨o, e, q⟩ := step n st h
      cases o with
      | ex x st1 => exact ⟨1, .ex x st1, by rw [whileN, e], q⟩
      | ok k st1 =>
        cases k with
        | false => exact ⟨1, .nx st1, by rw [whileN, e], q⟩
        | true =>
          obtain ⟨o2, e2, q2⟩ : wF body st1 _ := q
          cases o2 with
          | nx s =>
            obtain ⟨m, hm, hi⟩ := q2
            obtain ⟨m', o', e', q'⟩ := ih m hm s hi
            exact ⟨m' + 1, o', by rw [whileN, e]; dsimp only; rw [e2]; exact e', q'⟩
          | ct s =>
            obtain ⟨m, hm, hi⟩ := q2
            obtain ⟨m', o', e', q'⟩ := ih m hm s hi
            exact ⟨m' + 1, o', by rw [whileN, e]; dsimp only; rw [e2]; exact e', q'⟩
          | bk s => exact ⟨1, .nx s, by rw [whileN, e]; dsimp only; rw [e2], q2⟩
          | rt r s => exact ⟨1, .rt r s, by rw [whileN, e]; dsimp only; rw [e2], q2⟩
          | ex r s => exact ⟨1, .ex r s, by rw [whileN, e]; dsimp only; rw [e2], q2⟩
  intro n st h
  obtain ⟨m, o, e, q⟩ := key n st h
  exact ⟨o, whileF_of e, q⟩
@[simp] theorem wF_for_c (it : SM Src) {s0 : SV} {s1 : List SV} : wF (forF it b body) (s0 :: s1) Q ↔ wE it (s0 :: s1) (fun s st1 => s.al = none ∧ wF (forL b body s.ds) st1 Q) (fun x st1 => Q (.ex x st1)) := wF_for it
end

/-! ## comprehensions -/
section
variable {it : SM Src} {vs : List Nat} {b : D → List SV → Option (List SV)} {test : SM Bool} {elt : SM SV} {st : List SV} {Q : SV → List SV → Prop} {X : Ex → List SV → Prop}
@[simp] theorem wE_yesT {QB : Bool → List SV → Prop} : wE yesT st QB X ↔ QB true st := ⟨fun ⟨o, e, q⟩ => by cases e; exact q, fun q => ⟨_, rfl, q⟩⟩
theorem wE_comp : wE (compS it vs b test elt) st Q X ↔ wE it st (fun s st1 => plain st1 vs = true ∧ wO (compL s vs b test elt s.ds (wipeS st1 vs) []) fun z => Q (.own false z.1) z.2) X := by
  unfold compS
  rw [show wE (fun st => Out.bind (it st) _) st Q X ↔ _ from wE_bind]
  apply iff_of_eq; congr 1; funext s st1
  by_cases h : plain st1 vs = true
  · simp only [h, if_true, true_and]
    cases compL s vs b test elt s.ds (wipeS st1 vs) [] <;> simp
  · simp [h]
/-- one item -/
def oneC (s : Src) (vs : List Nat) (b : D → List SV → Option (List SV)) (test : SM Bool) (elt : SM SV) (d : D) (st : List SV) (acc : List D) (R : List D → List SV → Prop) : Prop :=
  wO (b d st) fun st1 => wE test st1 (fun k st2 => if k then wE elt st2 (fun r st3 => wO (kept r) fun e => acc.length < sizeLine ∧ plain st3 vs = true ∧ R (acc ++ [e]) (wipeS st3 vs)) (fun _ _ => False) else plain st2 vs = true ∧ R acc (wipeS st2 vs)) fun _ _ => False
theorem compL_step {s : Src} {d : D} {ds acc : List D} {R : List D × List SV → Prop} (ok : s.ok st = true) (h : oneC s vs b test elt d st acc fun a s1 => wO (compL s vs b test elt ds s1 a) R) : wO (compL s vs b test elt (d :: ds) st acc) R := by
  obtain ⟨st1, e1, h⟩ := h
  rw [compL, if_pos ok, e1]
  dsimp only
  obtain ⟨o, e2, h⟩ := h
  rw [e2]
  cases o with
  | ex x s => exact h.elim
  | ok k st2 =>
    cases k with
    | true =>
      obtain ⟨o, e3, h⟩ : wE elt st2 _ _ := h
      dsimp only
      rw [e3]
      cases o with
      | ex x s => exact h.elim
      | ok r st3 =>
        obtain ⟨e, e4, h1, h2, h3⟩ := h
        dsimp only
        rw [e4]
        dsimp only
        rw [if_pos ⟨h1, h2⟩]
        exact h3
    | false =>
      obtain ⟨h1, h2⟩ : plain st2 vs = true ∧ _ := h
      dsimp only
      rw [if_pos h1]
      exact h2
theorem comp_walk {s : Src} {α : Type} {f : α → D} {R : List D × List SV → Prop} {J : List α → List D → List SV → Prop} (ok : ∀ xs acc st, J xs acc st → s.ok st = true)
    (step : ∀ x xs acc st, J (x :: xs) acc st → oneC s vs b test elt (f x) st acc (J xs)) (fin : ∀ acc st, J [] acc st → R (acc, st)) : ∀ (xs : List α) (acc : List D) (st : List SV), J xs acc st → wO (compL s vs b test elt (xs.map f) st acc) R
  | [], acc, st, h => by
    rw [List.map_nil, compL, if_pos (ok _ _ _ h)]
    simpa using fin acc st h
  | x :: xs, acc, st, h => by
    rw [List.map_cons]
    refine compL_step (ok _ _ _ h) ((step x xs acc st h).mono fun st1 q => q.mono (fun k st2 q => ?_) fun _ _ q => q)
    cases k with
    | true => exact wE.mono q (fun r st3 q => q.mono fun e q => ⟨q.1, q.2.1, comp_walk ok step fin xs _ _ q.2.2⟩) fun _ _ q => q
    | false => exact ⟨q.1, comp_walk ok step fin xs _ _ q.2⟩
/-- a comprehension that changes nothing -/
theorem comp_pure {s : Src} {α : Type} {f : α → D} {p : α → Bool} {g : α → D} {R : List D × List SV → Prop} {xs : List α} (hs : s.ds = xs.map f) (ok : s.ok st = true) (hl : xs.length < sizeLine)
    (step : ∀ x ∈ xs, wO (b (f x) st) fun st1 => wE test st1 (fun k st2 => k = p x ∧ if k then wE elt st2 (fun r st3 => wO (kept r) fun e => e = g x ∧ plain st3 vs = true ∧ wipeS st3 vs = st) (fun _ _ => False) else plain st2 vs = true ∧ wipeS st2 vs = st) fun _ _ => False)
    (h : R ((xs.filter p).map g, st)) : wO (compL s vs b test elt s.ds st []) R := by
  rw [hs]
  refine comp_walk (J := fun ys acc st' => st' = st ∧ ∃ zs, xs = zs ++ ys ∧ acc = (zs.filter p).map g) (fun _ _ _ j => by rw [j.1]; exact ok) (fun x ys acc st' j => ?_) (fun acc st' j => ?_) xs [] st ⟨rfl, [], rfl, rfl⟩
  · obtain ⟨rfl, zs, e, rfl⟩ := j
    refine (step x (by rw [e]; simp)).mono fun st1 q => q.mono (fun k st2 q => ?_) fun _ _ q => q
    obtain ⟨rfl, q⟩ := q
    cases hp : p x with
    | true =>
      rw [hp] at q
      simp only [if_true] at q ⊢
      refine wE.mono q (fun r st3 q => q.mono fun e' q => ⟨?_, q.2.1, q.2.2, zs ++ [x], by rw [e]; simp, by simp [List.filter_append, hp, q.1]⟩) fun _ _ q => q
      have h1 : (zs.filter p).length ≤ zs.length := List.length_filter_le _ _
      have h2 : xs.length = zs.length + (ys.length + 1) := by rw [e]; simp
      simp only [List.length_map]
      omega
    | false =>
      rw [hp] at q
      simp only [Bool.false_eq_true, if_false] at q ⊢
      exact ⟨q.1, q.2, zs ++ [x], by rw [e]; simp, by simp [List.filter_append, hp]⟩
  · obtain ⟨rfl, zs, e, rfl⟩ := j
    rw [List.append_nil] at e
    rw [← e]
    exact h
@[simp] theorem wE_comp_c  {s0 : SV} {s1 : List SV} : wE (compS it vs b test elt) (s0 :: s1) Q X ↔ wE it (s0 :: s1) (fun s st1 => plain st1 vs = true ∧ wO (compL s vs b test elt s.ds (wipeS st1 vs) []) fun z => Q (.own false z.1) z.2) X := wE_comp
end

/-- the same, of what is walked as the goal has it -/
theorem comp_of {al : Option Nat} {vs : List Nat} {b : D → List SV → Option (List SV)} {test : SM Bool} {elt : SM SV} {st : List SV} {α : Type} {f : α → D} {p : α → Bool} {g : α → D} {R : List D × List SV → Prop} {xs : List α} (ok : Src.ok ⟨xs.map f, al⟩ st = true) (hl : xs.length < sizeLine)
    (step : ∀ x ∈ xs, wO (b (f x) st) fun st1 => wE test st1 (fun k st2 => k = p x ∧ if k then wE elt st2 (fun r st3 => wO (kept r) fun e => e = g x ∧ plain st3 vs = true ∧ wipeS st3 vs = st) (fun _ _ => False) else plain st2 vs = true ∧ wipeS st2 vs = st) fun _ _ => False)
    (h : R ((xs.filter p).map g, st)) : wO (compL ⟨xs.map f, al⟩ vs b test elt (xs.map f) st []) R := comp_pure (s := ⟨xs.map f, al⟩) rfl ok hl step h
theorem comp_all {al : Option Nat} {vs : List Nat} {b : D → List SV → Option (List SV)} {elt : SM SV} {st : List SV} {α : Type} {f : α → D} {g : α → D} {R : List D × List SV → Prop} {xs : List α} (ok : Src.ok ⟨xs.map f, al⟩ st = true) (hl : xs.length < sizeLine)
    (step : ∀ x ∈ xs, wO (b (f x) st) fun st1 => wE elt st1 (fun r st3 => wO (kept r) fun e => e = g x ∧ plain st3 vs = true ∧ wipeS st3 vs = st) (fun _ _ => False))
    (h : R (xs.map g, st)) : wO (compL ⟨xs.map f, al⟩ vs b yesT elt (xs.map f) st []) R := by
  refine comp_of (p := fun _ => true) (g := g) ok hl (fun x hx => (step x hx).mono fun st1 q => ?_) (by rw [List.filter_eq_self.mpr (fun _ _ => rfl)]; exact h)
  rw [wE_yesT]
  exact ⟨rfl, q⟩
/-! ## shapes -/
theorem sizeLine_v : sizeLine = 16777216 := rfl
section
variable (ns ms : List Int)
@[simp] theorem shaped_int (i : Int) : SeqAt.shaped (.int i) = true := rfl
@[simp] theorem shaped_bool (i : Bool) : SeqAt.shaped (.bool i) = true := rfl
@[simp] theorem shaped_none : SeqAt.shaped .none = true := rfl
/-- data of so much depth -/
def good (k : Nat) (d : D) : Prop := d.canLay0 = true ∧ d.depth ≤ k
theorem good.shaped {k : Nat} {d : D} (h : good k d) (hk : k ≤ 64) : SeqAt.shaped d = true := by
  unfold SeqAt.shaped
  rw [h.1, Bool.true_and, decide_eq_true_eq]
  exact Nat.le_trans h.2 hk
theorem good_int (k : Nat) (i : Int) : good k (.int i) := ⟨rfl, Nat.zero_le _⟩
theorem good_bool (k : Nat) (i : Bool) : good k (.bool i) := ⟨rfl, Nat.zero_le _⟩
theorem good_none (k : Nat) : good k .none := ⟨rfl, Nat.zero_le _⟩
theorem goodAll {k : Nat} : ∀ {ds : List D}, (∀ d ∈ ds, good k d) → PyData.canLayAll0 ds = true ∧ PyData.depthAll ds ≤ k
  | [], _ => ⟨by simp [PyData.canLayAll0], by simp [PyData.depthAll]⟩
  | d :: ds, h => by
    obtain ⟨h1, h2⟩ := h d (by simp)
    obtain ⟨k1, k2⟩ := goodAll (ds := ds) fun d hd => h d (by simp [hd])
    refine ⟨by simp [PyData.canLayAll0, h1, k1], ?_⟩
    simp only [PyData.depthAll]
    omega
theorem good_list {k : Nat} {ds : List D} (h : ∀ d ∈ ds, good k d) : good (k + 1) (.list ds) := by
  obtain ⟨h1, h2⟩ := goodAll h
  refine ⟨by simpa [PyData.canLay0] using h1, ?_⟩
  simp only [PyData.depth]
  omega
theorem good_tuple {k : Nat} {ds : List D} (h : ∀ d ∈ ds, good k d) : good (k + 1) (.tuple ds) := by
  obtain ⟨h1, h2⟩ := goodAll h
  refine ⟨by simpa [PyData.canLay0] using h1, ?_⟩
  simp only [PyData.depth]
  omega
theorem good_ints (k : Nat) : ∀ d ∈ ns.map PyData.int, good k d := fun d hd => by
  obtain ⟨i, _, rfl⟩ := List.mem_map.mp hd
  exact good_int k i
@[simp] theorem shaped_li : SeqAt.shaped (.list (ns.map PyData.int)) = true := (good_list (good_ints ns 0)).shaped (by omega)
@[simp] theorem shaped_ti : SeqAt.shaped (.tuple (ns.map PyData.int)) = true := (good_tuple (good_ints ns 0)).shaped (by omega)
@[simp] theorem shaped_nil : SeqAt.shaped (.list []) = true := rfl
@[simp] theorem eqv_int (i j : Int) : PyData.eqv (.int i) (.int j) = (i == j) := by simp [PyData.eqv]
@[simp] theorem eqv_bool (i j : Bool) : PyData.eqv (.bool i) (.bool j) = (i == j) := by simp [PyData.eqv]
@[simp] theorem eqv_list (ds es : List D) : PyData.eqv (.list ds) (.list es) = PyData.eqvAll ds es := by simp [PyData.eqv]
@[simp] theorem eqv_tuple (ds es : List D) : PyData.eqv (.tuple ds) (.tuple es) = PyData.eqvAll ds es := by simp [PyData.eqv]
@[simp] theorem eqv_none_tuple (es : List D) : PyData.eqv .none (.tuple es) = false := by simp [PyData.eqv]
@[simp] theorem eqv_tuple_none (es : List D) : PyData.eqv (.tuple es) .none = false := by simp [PyData.eqv]
@[simp] theorem eqv_none_none : PyData.eqv .none .none = true := by simp [PyData.eqv]
@[simp] theorem eqvAll_nil : PyData.eqvAll [] [] = true := by simp [PyData.eqvAll]
@[simp] theorem eqvAll_nc (a : D) (as : List D) : PyData.eqvAll [] (a :: as) = false := by simp [PyData.eqvAll]
@[simp] theorem eqvAll_cn (a : D) (as : List D) : PyData.eqvAll (a :: as) [] = false := by simp [PyData.eqvAll]
@[simp] theorem eqvAll_cc (a b : D) (as bs : List D) : PyData.eqvAll (a :: as) (b :: bs) = (PyData.eqv a b && PyData.eqvAll as bs) := by rw [PyData.eqvAll]
theorem eqvAll_map {α : Type} [DecidableEq α] {f : α → D} (hf : ∀ a b, PyData.eqv (f a) (f b) = decide (a = b)) : ∀ xs ys : List α, PyData.eqvAll (xs.map f) (ys.map f) = decide (xs = ys)
  | [], [] => by simp
  | [], _ :: _ => by simp
  | _ :: _, [] => by simp
  | x :: xs, y :: ys => by
    rw [List.map_cons, List.map_cons, eqvAll_cc, hf, eqvAll_map hf xs ys]
    by_cases h1 : x = y <;> by_cases h2 : xs = ys <;> simp [h1, h2]
@[simp] theorem eqvAll_ints : PyData.eqvAll (ns.map PyData.int) (ms.map PyData.int) = decide (ns = ms) := eqvAll_map (fun a b => by rw [eqv_int]; rfl) ns ms
@[simp] theorem any_eqv (k : Int) : ((ns.map PyData.int).any fun z => PyData.eqv z (.int k)) = decide (k ∈ ns) := by
  induction ns with
  | nil => rfl
  | cons n ns ih =>
    rw [List.map_cons, List.any_cons, ih, eqv_int]
    by_cases h : n = k
    · subst h; simp
    · have h' : ¬ k = n := fun q => h q.symm
      simp [h, h']
end

/-! ## what operations do to data of a known shape -/
section
variable (st : List SV) (i j : Int) (ds es : List D) (b c : Bool)
@[simp] theorem dataOf_val (d : D) : dataOf st (.val d) = some d := rfl
@[simp] theorem dataOf_own : dataOf st (.own b ds) = some (.list ds) := rfl
@[simp] theorem dataOf_scr (ns : List Int) : dataOf st (.scr ns) = some (.list (ns.map PyData.int)) := rfl
@[simp] theorem itemsOf_list : itemsOf st (.val (.list ds)) = some (false, ds) := rfl
@[simp] theorem itemsOf_tuple : itemsOf st (.val (.tuple ds)) = some (true, ds) := rfl
@[simp] theorem itemsOf_own : itemsOf st (.own b ds) = some (false, ds) := rfl
@[simp] theorem dataOf_al' (n : Nat) : dataOf st (.al n) = (match st[n]? with
    | some (.val d) => some d
    | some (.own _ ds) => some (.list ds)
    | some (.own2 dss) => some (.list (dss.map PyData.list))
    | _ => none) := rfl
@[simp] theorem itemsOf_al' (n : Nat) : itemsOf st (.al n) = (match st[n]? with
    | some (.own _ ds) => some (false, ds)
    | some (.val (.list ds)) => some (false, ds)
    | some (.val (.tuple ds)) => some (true, ds)
    | _ => none) := rfl
@[simp] theorem argOf_al' (n : Nat) : argOf st (.al n) = (match dataOf st (.al n) with
    | some d => some (.val d)
    | none => none) := rfl
@[simp] theorem retOf_al (n : Nat) : retOf st (.al n) = (match st[n]? with
    | some (.own false ds) => some (.val (.list ds), st.set n (.val (.list ds)))
    | some (.own2 dss) => some (.val (.list (dss.map PyData.list)), st.set n (.val (.list (dss.map PyData.list))))
    | _ => none) := rfl
@[simp] theorem ownOf_al (n : Nat) : ownOf st (.al n) = (match st[n]? with
    | some (.own false ds) => some (.val (.list ds), st.set n (.val (.list ds)))
    | some (.own2 dss) => some (.val (.list (dss.map PyData.list)), st.set n (.val (.list (dss.map PyData.list))))
    | _ => none) := rfl
@[simp] theorem settle_al (n : Nat) : settle st (.al n) = (match st[n]? with
    | some (.own false ds) => some (.val (.list ds), st.set n (.val (.list ds)))
    | some (.own2 dss) => some (.val (.list (dss.map PyData.list)), st.set n (.val (.list (dss.map PyData.list))))
    | _ => none) := rfl
theorem dataOf_al (n : Nat) (io : Bool) (h : st[n]? = some (.own io ds)) : dataOf st (.al n) = some (.list ds) := by simp [dataOf, h]
theorem itemsOf_al (n : Nat) (io : Bool) (h : st[n]? = some (.own io ds)) : itemsOf st (.al n) = some (false, ds) := by simp [itemsOf, h]
@[simp] theorem asB_bool : asB (some (.val (.bool b))) = some b := rfl
@[simp] theorem asB_ite (p : Prop) [Decidable p] (x y : Option SV) : asB (if p then x else y) = if p then asB x else asB y := by split <;> rfl
@[simp] theorem asB_none' : asB none = none := rfl
@[simp] theorem subS_i : subS st (.val (.int i)) (.val (.int j)) = some (.val (.int (i - j))) := rfl
theorem divS_i (h : 0 < j) (h2 : j.natAbs.log2 < 9000) : divS st (.val (.int i)) (.val (.int j)) = some (.val (.int (i / j))) := by simp [divS, h, h2]
theorem modS_i (h : 0 < j) : modS st (.val (.int i)) (.val (.int j)) = some (.val (.int (i % j))) := by simp [modS, h]
@[simp] theorem ltS_i : ltS st (.val (.int i)) (.val (.int j)) = some (.val (.bool (decide (i < j)))) := rfl
@[simp] theorem leS_i : leS st (.val (.int i)) (.val (.int j)) = some (.val (.bool (decide (i ≤ j)))) := rfl
@[simp] theorem gtS_i : gtS st (.val (.int i)) (.val (.int j)) = some (.val (.bool (decide (j < i)))) := rfl
@[simp] theorem geS_i : geS st (.val (.int i)) (.val (.int j)) = some (.val (.bool (decide (j ≤ i)))) := rfl
@[simp] theorem absS_i : absS st (.val (.int i)) = some (.val (.int (if i < 0 then -i else i))) := rfl
@[simp] theorem intS_i : intS st (.val (.int i)) = some (.val (.int i)) := rfl
@[simp] theorem eqS_i : eqS st (.val (.int i)) (.val (.int j)) = some (.val (.bool (decide (i = j)))) := by
  simp [eqS]; rfl
@[simp] theorem neS_i : neS st (.val (.int i)) (.val (.int j)) = some (.val (.bool (!decide (i = j)))) := by
  simp [neS]; rfl
@[simp] theorem lenS_list : lenS st (.val (.list ds)) = some (.val (.int ds.length)) := rfl
@[simp] theorem lenS_tuple : lenS st (.val (.tuple ds)) = some (.val (.int ds.length)) := rfl
@[simp] theorem lenS_own : lenS st (.own b ds) = some (.val (.int ds.length)) := rfl
@[simp] theorem lenS_scr (ns : List Int) : lenS st (.scr ns) = some (.val (.int ns.length)) := by simp [lenS]
@[simp] theorem list1S_list : list1S st (.val (.list ds)) = some (.own false ds) := rfl
@[simp] theorem list1S_tuple : list1S st (.val (.tuple ds)) = some (.own false ds) := rfl
@[simp] theorem list1S_own : list1S st (.own b ds) = some (.own false ds) := rfl
@[simp] theorem tuple1S_list : tuple1S st (.val (.list ds)) = some (.val (.tuple ds)) := rfl
@[simp] theorem tuple1S_tuple : tuple1S st (.val (.tuple ds)) = some (.val (.tuple ds)) := rfl
@[simp] theorem tuple1S_own : tuple1S st (.own b ds) = some (.val (.tuple ds)) := rfl
@[simp] theorem kept_val (d : D) : kept (.val d) = some d := rfl
@[simp] theorem kept_own : kept (.own b ds) = some (.list ds) := rfl
@[simp] theorem isRes_val (d : D) : isRes (.val d) = true := rfl
@[simp] theorem isRes_own : isRes (.own false ds) = true := rfl
@[simp] theorem settle_val (d : D) : settle st (.val d) = some (.val d, st) := rfl
@[simp] theorem settle_own : settle st (.own false ds) = some (.val (.list ds), st) := rfl
@[simp] theorem retOf_val (d : D) : retOf st (.val d) = some (.val d, st) := rfl
@[simp] theorem retOf_own : retOf st (.own false ds) = some (.own false ds, st) := rfl
@[simp] theorem ownOf_val (d : D) : ownOf st (.val d) = some (.val d, st) := rfl
@[simp] theorem ownOf_own : ownOf st (.own false ds) = some (.own false ds, st) := rfl
@[simp] theorem srcOf_list : srcOf st (.val (.list ds)) = some (false, ds, none) := rfl
@[simp] theorem srcOf_tuple : srcOf st (.val (.tuple ds)) = some (true, ds, none) := rfl
@[simp] theorem srcOf_own : srcOf st (.own b ds) = some (false, ds, none) := rfl
@[simp] theorem srcok_none : Src.ok ⟨ds, none⟩ st = true := rfl
@[simp] theorem argOf_val (d : D) : argOf st (.val d) = some (.val d) := rfl
@[simp] theorem argOf_scr (ns : List Int) : argOf st (.scr ns) = some (.scr ns) := rfl
@[simp] theorem argsOf_cons (r : SV) (rs : List SV) : argsOf st (r :: rs) = (match argOf st r with | none => none | some a => (argsOf st rs).map (a :: ·)) := rfl
@[simp] theorem noAls_nil : noAls [] = true := rfl
@[simp] theorem noAls_cons (r : SV) (rs : List SV) : noAls (r :: rs) = (!isAl r && noAls rs) := rfl
@[simp] theorem isAl_val (d : D) : isAl (.val d) = false := rfl
@[simp] theorem isAl_al (n : Nat) : isAl (.al n) = true := rfl
@[simp] theorem isAl_scr (ns : List Int) : isAl (.scr ns) = false := rfl
@[simp] theorem okRes_noal {rs : List SV} {r : SV} (h : noAls rs = true) : okRes rs r = true := by unfold okRes; rw [h]; rfl
@[simp] theorem okRes_int (rs : List SV) : okRes rs (.val (.int i)) = true := by unfold okRes; simp [nolst]
@[simp] theorem okRes_bool (rs : List SV) : okRes rs (.val (.bool b)) = true := by unfold okRes; simp [nolst]
@[simp] theorem okRes_none (rs : List SV) : okRes rs (.val .none) = true := by unfold okRes; simp [nolst]
theorem nolstL_ints : ∀ ns : List Int, nolstL (ns.map PyData.int) = true
  | [] => rfl
  | n :: ns => by rw [List.map_cons, nolstL, nolstL_ints ns]; rfl
@[simp] theorem okRes_ti (rs : List SV) (ns : List Int) : okRes rs (.val (.tuple (ns.map PyData.int))) = true := by unfold okRes; simp [nolst, nolstL_ints]
@[simp] theorem isOwn_val (d : D) : (SV.val d).isOwn = false := rfl
@[simp] theorem isOwn_emp : SV.emp.isOwn = false := rfl
@[simp] theorem isOwn_scr (ns : List Int) : (SV.scr ns).isOwn = false := rfl
@[simp] theorem isOwn_own : (SV.own b ds).isOwn = true := rfl
@[simp] theorem plain_nil : plain st [] = true := rfl
@[simp] theorem plain_cons (v : Nat) (vs : List Nat) : plain st (v :: vs) = ((match st[v]? with | some s => !s.isOwn | none => true) && plain st vs) := rfl
@[simp] theorem wipeS_nil : wipeS st [] = st := rfl
@[simp] theorem wipeS_cons (v : Nat) (vs : List Nat) : wipeS st (v :: vs) = (wipeS st vs).set v .emp := rfl
theorem bindN_eq (n : Nat) (d : D) : bindN n d st = (match st[n]? with | some s => if s.isOwn = false then some (st.set n (.val d)) else none | none => none) := rfl
@[simp] theorem bindT_tuple (ns : List Nat) : bindT ns (.tuple ds) st = bindL ns ds st := rfl
@[simp] theorem bindL_nil : bindL [] [] st = some st := rfl
@[simp] theorem bindL_cons (n : Nat) (ns : List Nat) (d : D) : bindL (n :: ns) (d :: ds) st = (match bindN n d st with | some st1 => bindL ns ds st1 | none => none) := rfl
@[simp] theorem ioOf_own (r : List SV) : ioOf (.own true ds :: r) = some ds := rfl
@[simp] theorem ioOf_val (d : D) (r : List SV) : ioOf (.val d :: r) = none := rfl
@[simp] theorem ioOf_scr (ns : List Int) (r : List SV) : ioOf (.scr ns :: r) = none := rfl
theorem ownAt_of {n : Nat} (h : st[n]? = some (.own b ds)) : ownAt st n = some (b, ds) := by unfold ownAt; rw [h]
end
section
variable {α : Type} (xs ys : List α)
/-- a part of a list -/
def cutL (lo hi : Option Int) : List α := (xs.drop (HT.sIx xs.length 0 lo)).take (HT.sIx xs.length xs.length hi - HT.sIx xs.length 0 lo)
theorem cutD_map (f : α → D) (lo hi : Option Int) : cutD (xs.map f) lo hi = (cutL xs lo hi).map f := by
  unfold cutD cutL
  rw [List.length_map, List.map_take, List.map_drop]
theorem ixN_nat {n k : Nat} (h : k < n) : ixN n (k : Int) = some k := by
  unfold ixN
  rw [if_pos (by omega), if_pos (by omega), Int.toNat_natCast]
theorem ixN_pos {n : Nat} {k : Int} (h0 : 0 ≤ k) (h : k < n) : ixN n k = some k.toNat := by
  unfold ixN
  rw [if_pos h0, if_pos h]
theorem atI_nat {k : Nat} (h : k < xs.length) : atI xs (k : Int) = some xs[k] := by
  unfold atI
  rw [ixN_nat h]
  simp [h]
theorem atI_pos {k : Int} (h0 : 0 ≤ k) (h : k < xs.length) : atI xs k = some (xs[k.toNat]'(by omega)) := by
  unfold atI
  rw [ixN_pos h0 h]
  simp
end

/-! ## more operations -/
section
variable (st : List SV) (i j : Int) (ds es : List D) (b c : Bool) (ns ms : List Int) (r : SV)
@[simp] theorem ownAt_val (n : Nat) : ownAt st n = (match st[n]? with | some (.own b ds) => some (b, ds) | _ => none) := rfl
@[simp] theorem addS_list : addS st (.val (.list ds)) r = catS st (.val (.list ds)) r := rfl
@[simp] theorem addS_tuple : addS st (.val (.tuple ds)) r = catS st (.val (.tuple ds)) r := rfl
@[simp] theorem addS_own : addS st (.own b ds) r = catS st (.own b ds) r := rfl
@[simp] theorem addS_al (n : Nat) : addS st (.al n) r = catS st (.al n) r := rfl
theorem map_snoc {α β : Type} (f : α → β) (xs : List α) (x : α) : xs.map f ++ [f x] = (xs ++ [x]).map f := by simp
theorem map_app {α β : Type} (f : α → β) (xs ys : List α) : xs.map f ++ ys.map f = (xs ++ ys).map f := by simp
theorem catS_ll {r1 r2 : SV} (h1 : itemsOf st r1 = some (false, ds)) (h2 : itemsOf st r2 = some (false, es)) : catS st r1 r2 = if ds.length + es.length ≤ sizeLine then some (.own false (ds ++ es)) else none := by
  unfold catS; rw [h1, h2]
theorem catS_tt {r1 r2 : SV} (h1 : itemsOf st r1 = some (true, ds)) (h2 : itemsOf st r2 = some (true, es)) : catS st r1 r2 = if ds.length + es.length ≤ sizeLine then some (.val (.tuple (ds ++ es))) else none := by
  unfold catS; rw [h1, h2]
@[simp] theorem idxS_scr : idxS st (.scr ns) (.val (.int i)) = (atI ns i).map fun n => .val (.int n) := by
  unfold idxS; dsimp only; cases atI ns i <;> rfl
@[simp] theorem idxS_list : idxS st (.val (.list ds)) (.val (.int i)) = (atI ds i).map SV.val := by
  unfold idxS; dsimp only [itemsOf]; cases atI ds i <;> rfl
@[simp] theorem idxS_tuple : idxS st (.val (.tuple ds)) (.val (.int i)) = (atI ds i).map SV.val := by
  unfold idxS; dsimp only [itemsOf]; cases atI ds i <;> rfl
@[simp] theorem idxS_own : idxS st (.own b ds) (.val (.int i)) = (atI ds i).map SV.val := by
  unfold idxS; dsimp only [itemsOf]; cases atI ds i <;> rfl
theorem idxS_al (n : Nat) (h : itemsOf st (.al n) = some (b, ds)) : idxS st (.al n) (.val (.int i)) = (atI ds i).map SV.val := by
  unfold idxS; dsimp only; rw [h]; dsimp only; cases atI ds i <;> rfl
@[simp] theorem idxS_al' (n : Nat) : idxS st (.al n) (.val (.int i)) = (match st[n]? with
    | some (.own _ ds) => (atI ds i).map SV.val
    | some (.val (.list ds)) => (atI ds i).map SV.val
    | some (.val (.tuple ds)) => (atI ds i).map SV.val
    | _ => none) := by
  cases h : st[n]? with
  | none => simp [idxS, h]
  | some s =>
    cases s with
    | own b ds => exact idxS_al st i ds false n (by simp [h])
    | val d => cases d with
      | list ds => exact idxS_al st i ds false n (by simp [h])
      | tuple ds => exact idxS_al st i ds true n (by simp [h])
      | _ => simp [idxS, h]
    | _ => simp [idxS, h]
@[simp] theorem atI_map {α β : Type} (f : α → β) (xs : List α) : atI (xs.map f) i = (atI xs i).map f := by
  unfold atI
  rw [List.length_map]
  cases ixN xs.length i <;> simp
@[simp] theorem sort1S_own : sort1S st (.own b (ns.map PyData.int)) = some (.own false ((isort ns).map PyData.int)) := by simp [sort1S]
@[simp] theorem sort1S_list : sort1S st (.val (.list (ns.map PyData.int))) = some (.own false ((isort ns).map PyData.int)) := by simp [sort1S]
@[simp] theorem sumS_own : sumS st (.own b (ns.map PyData.int)) = some (.val (.int ns.sum)) := by simp [sumS]
@[simp] theorem sumS_list : sumS st (.val (.list (ns.map PyData.int))) = some (.val (.int ns.sum)) := by simp [sumS]
@[simp] theorem inS_tuple : inS st (.val (.int i)) (.val (.tuple (ns.map PyData.int))) = some (.val (.bool (decide (i ∈ ns)))) := by simp [inS]
@[simp] theorem inS_list : inS st (.val (.int i)) (.val (.list (ns.map PyData.int))) = some (.val (.bool (decide (i ∈ ns)))) := by
  simp only [inS, dataOf_val, shaped_int, shaped_li, and_self, if_true, any_eqv]
@[simp] theorem notInS_tuple : notInS st (.val (.int i)) (.val (.tuple (ns.map PyData.int))) = some (.val (.bool (!decide (i ∈ ns)))) := by simp [notInS]
@[simp] theorem notInS_list : notInS st (.val (.int i)) (.val (.list (ns.map PyData.int))) = some (.val (.bool (!decide (i ∈ ns)))) := by
  simp only [notInS, dataOf_val, shaped_int, shaped_li, and_self, if_true, any_eqv]
theorem inS_alH {n : Nat} (h : st[n]? = some (.own b (ns.map PyData.int))) : inS st (.val (.int i)) (.al n) = some (.val (.bool (decide (i ∈ ns)))) := by
  simp only [inS, dataOf_val, dataOf_al', h, shaped_int, shaped_li, and_self, if_true, any_eqv]
theorem notInS_alH {n : Nat} (h : st[n]? = some (.own b (ns.map PyData.int))) : notInS st (.val (.int i)) (.al n) = some (.val (.bool (!decide (i ∈ ns)))) := by
  simp only [notInS, dataOf_val, dataOf_al', h, shaped_int, shaped_li, and_self, if_true, any_eqv]
theorem eqS_of {r1 r2 : SV} {d e : D} (h1 : dataOf st r1 = some d) (h2 : dataOf st r2 = some e) (g1 : SeqAt.shaped d = true) (g2 : SeqAt.shaped e = true) : eqS st r1 r2 = some (.val (.bool (PyData.eqv d e))) := by
  simp [eqS, h1, h2, g1, g2]
theorem neS_of {r1 r2 : SV} {d e : D} (h1 : dataOf st r1 = some d) (h2 : dataOf st r2 = some e) (g1 : SeqAt.shaped d = true) (g2 : SeqAt.shaped e = true) : neS st r1 r2 = some (.val (.bool (!PyData.eqv d e))) := by
  simp [neS, h1, h2, g1, g2]
@[simp] theorem eqS_b : eqS st (.val (.bool b)) (.val (.bool c)) = some (.val (.bool (b == c))) := by simp [eqS]
theorem remD_ints (h : i ∈ ns) : remD (ns.map PyData.int) (.int i) = some (.none, (ns.erase i).map PyData.int) := by simp [remD, h]
theorem sortSetS_own (h : ns.length < 64) : sortSetS st (.own b (ns.map PyData.int)) = some (.own false ((sortSet ns).map PyData.int)) := by simp [sortSetS, h]
theorem mulS_c (h : j.natAbs < 2 ^ 64) : mulS st (.val (.int i)) (.val (.int j)) = some (.val (.int (i * j))) := by
  rw [mulS_int, if_pos]
  unfold mulOk
  simp only [Bool.or_eq_true, decide_eq_true_eq]
  exact .inl (.inr h)
theorem isort_perm : (isort ns).Perm ns := List.mergeSort_perm _ _
theorem isort_sorted : (isort ns).Pairwise (· ≤ ·) := by
  have := List.pairwise_mergeSort (le := fun a b : Int => decide (a ≤ b)) (by intro a b c; simp; omega) (by intro a b; simp; omega) ns
  exact this.imp (by simp)
@[simp] theorem mem_isort : i ∈ isort ns ↔ i ∈ ns := (isort_perm ns).mem_iff
@[simp] theorem length_isort : (isort ns).length = ns.length := (isort_perm ns).length_eq
theorem nodup_sortSet : (sortSet ns).Nodup := ((isort_perm _).nodup_iff).mpr (nodup_eraseDups ns)
theorem length_eraseDups_le : ∀ (n : Nat) (ns : List Int), ns.length ≤ n → ns.eraseDups.length ≤ ns.length := by
  intro n
  induction n with
  | zero => intro ns h; cases ns with
    | nil => simp
    | cons _ _ => simp at h
  | succ n ih =>
    intro ns h
    cases ns with
    | nil => simp
    | cons a ns =>
      rw [List.eraseDups_cons, List.length_cons, List.length_cons]
      have h1 : (ns.filter fun b => !b == a).length ≤ ns.length := List.length_filter_le _ _
      have h2 := ih (ns.filter fun b => !b == a) (Nat.le_trans h1 (by simpa using h))
      omega
theorem length_sortSet : (sortSet ns).length ≤ ns.length := by
  unfold sortSet
  rw [length_isort]
  exact length_eraseDups_le ns.length ns (Nat.le_refl _)
end

/-! ## numbers with a bound that is read off -/
section
variable (st : List SV) (i j : Int)
theorem log2_small {n : Nat} (h : n < 2 ^ 9000) : n.log2 < 9000 := by
  by_cases h0 : n = 0
  · subst h0; decide
  · exact (Nat.log2_lt h0).mpr h
@[simp] theorem modS_c (h : 0 < j) : modS st (.val (.int i)) (.val (.int j)) = some (.val (.int (i % j))) := modS_i st i j h
@[simp] theorem divS_c (h : 0 < j) (h2 : j < 18446744073709551616) : divS st (.val (.int i)) (.val (.int j)) = some (.val (.int (i / j))) := by
  refine divS_i st i j h (log2_small ?_)
  have h3 : j.natAbs < 2 ^ 64 := by omega
  exact Nat.lt_of_lt_of_le h3 (Nat.pow_le_pow_right (by omega) (by omega))
@[simp] theorem mulOk_c (h : -18446744073709551616 < j) (h2 : j < 18446744073709551616) : mulOk i j = true := by
  unfold mulOk
  simp only [Bool.or_eq_true, decide_eq_true_eq]
  exact .inl (.inr (by omega))
theorem mulOk_l (h : -18446744073709551616 < i) (h2 : i < 18446744073709551616) : mulOk i j = true := by
  unfold mulOk
  simp only [Bool.or_eq_true, decide_eq_true_eq]
  exact .inl (.inl (by omega))
@[simp] theorem powS_18 : powS st (.val (.int 10)) (.val (.int 18)) = some (.val (.int 1000000000000000000)) := by
  unfold powS iiS
  dsimp only
  rw [if_pos (by decide)]
  congr 1
theorem powS_c (h : -18446744073709551616 < i) (h2 : i < 18446744073709551616) (h3 : 0 ≤ j) (h4 : j ≤ 1000000) : powS st (.val (.int i)) (.val (.int j)) = some (.val (.int (i ^ j.toNat))) := by
  unfold powS iiS
  dsimp only
  rw [if_pos]
  simp only [Bool.and_eq_true, decide_eq_true_eq]
  omega
end

/-! ## an operand that is a slot's own list -/
def dealt (st : List SV) (n : Nat) : SV := match st[n]? with
  | some (.own b ds) => .own b ds
  | some (.val d) => .val d
  | some (.own2 dss) => .own2 dss
  | _ => .emp
section
variable (st : List SV) (n : Nat) (r : SV) (ds es : List D) (b c : Bool) (ns ms : List Int) (i : Int)
@[simp] theorem dealt_eq : dealt st n = (match st[n]? with
  | some (.own b ds) => .own b ds
  | some (.val d) => .val d
  | some (.own2 dss) => .own2 dss
  | _ => .emp) := rfl
theorem dataOf_dealt : dataOf st (.al n) = dataOf st (dealt st n) := by
  unfold dealt
  cases h : st[n]? with
  | none => simp [h]; rfl
  | some s => cases s <;> simp [h] <;> rfl
theorem itemsOf_dealt : itemsOf st (.al n) = itemsOf st (dealt st n) := by
  unfold dealt
  cases h : st[n]? with
  | none => simp [h]; rfl
  | some s => cases s with
    | val d => cases d <;> simp [h] <;> rfl
    | _ => simp [h] <;> rfl
@[simp] theorem lenS_al : lenS st (.al n) = lenS st (dealt st n) := by unfold lenS; rw [dataOf_dealt]
@[simp] theorem sort1S_al : sort1S st (.al n) = sort1S st (dealt st n) := by unfold sort1S; rw [itemsOf_dealt]
@[simp] theorem sumS_al : sumS st (.al n) = sumS st (dealt st n) := by unfold sumS; rw [itemsOf_dealt]
@[simp] theorem list1S_al : list1S st (.al n) = list1S st (dealt st n) := by unfold list1S; rw [itemsOf_dealt]
@[simp] theorem tuple1S_al : tuple1S st (.al n) = tuple1S st (dealt st n) := by unfold tuple1S; rw [itemsOf_dealt]
@[simp] theorem max1S_al : max1S st (.al n) = max1S st (dealt st n) := by unfold max1S; rw [itemsOf_dealt]
@[simp] theorem min1S_al : min1S st (.al n) = min1S st (dealt st n) := by unfold min1S; rw [itemsOf_dealt]
@[simp] theorem anyS_al : anyS st (.al n) = anyS st (dealt st n) := by unfold anyS; rw [itemsOf_dealt]
@[simp] theorem sortSetS_al : sortSetS st (.al n) = sortSetS st (dealt st n) := by unfold sortSetS; rw [itemsOf_dealt]
@[simp] theorem lenSetS_al : lenSetS st (.al n) = lenSetS st (dealt st n) := by unfold lenSetS; rw [itemsOf_dealt]
@[simp] theorem catS_al1 : catS st (.al n) r = catS st (dealt st n) r := by unfold catS; rw [itemsOf_dealt]
@[simp] theorem catS_al2 : catS st r (.al n) = catS st r (dealt st n) := by unfold catS; rw [itemsOf_dealt]
@[simp] theorem eqS_al1 : eqS st (.al n) r = eqS st (dealt st n) r := by unfold eqS; rw [dataOf_dealt]
@[simp] theorem eqS_al2 : eqS st r (.al n) = eqS st r (dealt st n) := by unfold eqS; rw [dataOf_dealt]
@[simp] theorem neS_al1 : neS st (.al n) r = neS st (dealt st n) r := by unfold neS; rw [dataOf_dealt]
@[simp] theorem neS_al2 : neS st r (.al n) = neS st r (dealt st n) := by unfold neS; rw [dataOf_dealt]
@[simp] theorem inS_al1 : inS st (.al n) r = inS st (dealt st n) r := by unfold inS; rw [dataOf_dealt]
@[simp] theorem inS_al2 : inS st r (.al n) = inS st r (dealt st n) := by unfold inS; rw [dataOf_dealt]
@[simp] theorem notInS_al1 : notInS st (.al n) r = notInS st (dealt st n) r := by unfold notInS; rw [dataOf_dealt]
@[simp] theorem notInS_al2 : notInS st r (.al n) = notInS st r (dealt st n) := by unfold notInS; rw [dataOf_dealt]
@[simp] theorem eqS_own_own : eqS st (.own b (ns.map PyData.int)) (.own c (ms.map PyData.int)) = some (.val (.bool (decide (ns = ms)))) := by simp [eqS]
@[simp] theorem neS_own_own : neS st (.own b (ns.map PyData.int)) (.own c (ms.map PyData.int)) = some (.val (.bool (!decide (ns = ms)))) := by simp [neS]
@[simp] theorem eqS_own_list : eqS st (.own b (ns.map PyData.int)) (.val (.list (ms.map PyData.int))) = some (.val (.bool (decide (ns = ms)))) := by simp [eqS]
@[simp] theorem neS_own_list : neS st (.own b (ns.map PyData.int)) (.val (.list (ms.map PyData.int))) = some (.val (.bool (!decide (ns = ms)))) := by simp [neS]
@[simp] theorem eqS_list_own : eqS st (.val (.list (ns.map PyData.int))) (.own c (ms.map PyData.int)) = some (.val (.bool (decide (ns = ms)))) := by simp [eqS]
@[simp] theorem neS_list_own : neS st (.val (.list (ns.map PyData.int))) (.own c (ms.map PyData.int)) = some (.val (.bool (!decide (ns = ms)))) := by simp [neS]
@[simp] theorem eqS_list_list : eqS st (.val (.list (ns.map PyData.int))) (.val (.list (ms.map PyData.int))) = some (.val (.bool (decide (ns = ms)))) := by simp [eqS]
@[simp] theorem neS_list_list : neS st (.val (.list (ns.map PyData.int))) (.val (.list (ms.map PyData.int))) = some (.val (.bool (!decide (ns = ms)))) := by simp [neS]
@[simp] theorem eqS_tt : eqS st (.val (.tuple (ns.map PyData.int))) (.val (.tuple (ms.map PyData.int))) = some (.val (.bool (decide (ns = ms)))) := by simp [eqS]
@[simp] theorem neS_tt : neS st (.val (.tuple (ns.map PyData.int))) (.val (.tuple (ms.map PyData.int))) = some (.val (.bool (!decide (ns = ms)))) := by simp [neS]
@[simp] theorem eqS_nt : eqS st (.val .none) (.val (.tuple (ms.map PyData.int))) = some (.val (.bool false)) := by simp [eqS]
@[simp] theorem eqS_tn : eqS st (.val (.tuple (ms.map PyData.int))) (.val .none) = some (.val (.bool false)) := by simp [eqS]
@[simp] theorem isNS_v (d : D) : isNS st (.val d) (.val .none) = some (.val (.bool (isNone d))) := rfl
@[simp] theorem notNS_v (d : D) : notNS st (.val d) (.val .none) = some (.val (.bool (!isNone d))) := rfl
@[simp] theorem isNone_n : isNone .none = true := rfl
@[simp] theorem isNone_int : isNone (.int i) = false := rfl
@[simp] theorem isNone_bool : isNone (.bool b) = false := rfl
@[simp] theorem isNone_list : isNone (.list ds) = false := rfl
@[simp] theorem isNone_tuple : isNone (.tuple ds) = false := rfl
@[simp] theorem inS_own : inS st (.val (.int i)) (.own b (ns.map PyData.int)) = some (.val (.bool (decide (i ∈ ns)))) := inS_list st i ns
@[simp] theorem notInS_own : notInS st (.val (.int i)) (.own b (ns.map PyData.int)) = some (.val (.bool (!decide (i ∈ ns)))) := notInS_list st i ns
@[simp] theorem catS_own_own : catS st (.own b ds) (.own c es) = if ds.length + es.length ≤ sizeLine then some (.own false (ds ++ es)) else none := rfl
@[simp] theorem catS_own_list : catS st (.own b ds) (.val (.list es)) = if ds.length + es.length ≤ sizeLine then some (.own false (ds ++ es)) else none := rfl
@[simp] theorem catS_list_own : catS st (.val (.list ds)) (.own c es) = if ds.length + es.length ≤ sizeLine then some (.own false (ds ++ es)) else none := rfl
@[simp] theorem catS_list_list : catS st (.val (.list ds)) (.val (.list es)) = if ds.length + es.length ≤ sizeLine then some (.own false (ds ++ es)) else none := rfl
@[simp] theorem catS_tuple_tuple : catS st (.val (.tuple ds)) (.val (.tuple es)) = if ds.length + es.length ≤ sizeLine then some (.val (.tuple (ds ++ es))) else none := rfl
@[simp] theorem srcOf_al : srcOf st (.al n) = (match st[n]? with
    | some (.own _ ds) => if sameL ds ds then some (false, ds, some n) else none
    | _ => none) := rfl
@[simp] theorem srcok_some : Src.ok ⟨ds, some n⟩ st = (match st[n]? with
    | some (.own _ es) => sameL es ds
    | _ => false) := rfl
@[simp] theorem sameL_ints : sameL (ns.map PyData.int) (ns.map PyData.int) = true := by
  induction ns with
  | nil => rfl
  | cons n ns ih => simp [sameL, same, ih]
@[simp] theorem remD_i : remD (ns.map PyData.int) (.int i) = if i ∈ ns then some (.none, (ns.erase i).map PyData.int) else none := by simp [remD]
@[simp] theorem cutSV_al (lo hi : Option Int) : cutSV st (.al n) lo hi = (match itemsOf st (.al n) with
    | some (false, ds) => some (.own false (cutD ds lo hi))
    | some (true, ds) => some (.val (.tuple (cutD ds lo hi)))
    | none => none) := rfl
@[simp] theorem cutSV_own (lo hi : Option Int) : cutSV st (.own b ds) lo hi = some (.own false (cutD ds lo hi)) := rfl
@[simp] theorem cutSV_list (lo hi : Option Int) : cutSV st (.val (.list ds)) lo hi = some (.own false (cutD ds lo hi)) := rfl
@[simp] theorem cutSV_tuple (lo hi : Option Int) : cutSV st (.val (.tuple ds)) lo hi = some (.val (.tuple (cutD ds lo hi))) := rfl
end
end TK

namespace TK
open PySem PySem.Spec PyProof.Rows L2
@[simp] theorem sizeLine_s : sizeLine = 16777216 := rfl
section
variable (st : List SV) (i j : Int) (ds es : List D) (b c : Bool) (ns ms : List Int) (n : Nat)
@[simp] theorem mulG2_int : mulG2 st (.val (.int i)) (.val (.int j)) = if mulOk i j then some (.val (.int (i * j))) else none := by
  unfold mulG2 orG2
  rw [mulS_int]
  by_cases h : mulOk i j = true <;> simp [h, tmulS]
@[simp] theorem sumG_own : sumG' st (.own b (ns.map PyData.int)) = some (.val (.int ns.sum)) := by simp [sumG', orG]
@[simp] theorem sumG_list : sumG' st (.val (.list (ns.map PyData.int))) = some (.val (.int ns.sum)) := by simp [sumG', orG]
@[simp] theorem sumG_tuple : sumG' st (.val (.tuple (ns.map PyData.int))) = some (.val (.int ns.sum)) := by simp [sumG', orG, sumS, sumTS]
@[simp] theorem sumG_al : sumG' st (.al n) = sumG' st (dealt st n) := by
  unfold sumG' orG sumS sumTS; rw [itemsOf_dealt]
@[simp] theorem sortG_own : sortG st (.own b (ns.map PyData.int)) = some (.own false ((isort ns).map PyData.int)) := by simp [sortG, orG]
@[simp] theorem sortG_list : sortG st (.val (.list (ns.map PyData.int))) = some (.own false ((isort ns).map PyData.int)) := by simp [sortG, orG]
@[simp] theorem sortG_al : sortG st (.al n) = sortG st (dealt st n) := by
  unfold sortG orG sort1S sortDS; rw [itemsOf_dealt]
@[simp] theorem minG_al : minG st (.al n) = minG st (dealt st n) := by
  unfold minG orG min1S bestDS; rw [itemsOf_dealt]
@[simp] theorem maxG_al : maxG st (.al n) = maxG st (dealt st n) := by
  unfold maxG orG max1S bestDS; rw [itemsOf_dealt]
theorem minG_own (h : ns ≠ []) : minG st (.own b (ns.map PyData.int)) = some (.val (.int (minL ns))) := by
  cases ns with
  | nil => exact absurd rfl h
  | cons n ns => simp [minG, orG, min1S]
theorem maxG_own (h : ns ≠ []) : maxG st (.own b (ns.map PyData.int)) = some (.val (.int (maxL ns))) := by
  cases ns with
  | nil => exact absurd rfl h
  | cons n ns => simp [maxG, orG, max1S]
end
section
variable {s0 : SV} {s1 : List SV} {st : List SV} {Q : SV → List SV → Prop} {X : Ex → List SV → Prop} {a : SM SV}
theorem wE_lrg1 : wE (lrg1S a) st Q X ↔ wE a st (fun r st1 => match r with | .val (.int n) => (-16777216 ≤ n ∧ n ≤ 16777216) ∧ Q (.own false (rangeD 0 n.toNat)) st1 | _ => False) X := by
  unfold lrg1S
  rw [show wE (fun st => Out.bind (a st) _) st Q X ↔ _ from wE_bind]
  apply iff_of_eq; congr 1; funext r st1
  cases r with
  | val d => cases d with
    | int n => by_cases h : -16777216 ≤ n ∧ n ≤ 16777216 <;> simp [h]
    | _ => simp
  | _ => simp
@[simp] theorem wE_lrg1_c : wE (lrg1S a) (s0 :: s1) Q X ↔ wE a (s0 :: s1) (fun r st1 => match r with | .val (.int n) => (-16777216 ≤ n ∧ n ≤ 16777216) ∧ Q (.own false (rangeD 0 n.toNat)) st1 | _ => False) X := wE_lrg1
@[simp] theorem wF_no {Q : Fl → Prop} : wF noF st Q ↔ False := ⟨fun ⟨o, e, _⟩ => (by cases e), fun h => h.elim⟩
theorem wF_par {i j : Nat} {fs : SM (List SV)} {Q : Fl → Prop} : wF (parF i j fs) st Q ↔ wE fs st (fun rs st1 => match rs with | [.val d, .val e] => wO (bindN i d st1) fun st2 => wO (bindN j e st2) fun st3 => Q (.nx st3) | _ => False) (fun x st1 => Q (.ex x st1)) := by
  unfold parF
  rw [show wF (fun st => Fl.bind (fs st) _) st Q ↔ _ from wF_bind]
  apply iff_of_eq; congr 1; funext rs st1
  split
  · rename_i d e
    cases h1 : bindN i d st1 with
    | none => simp [h1]
    | some st2 => cases h2 : bindN j e st2 <;> simp [h1, h2]
  · rename_i h
    first
      | (split
         · rename_i d e
           exact absurd rfl (h d e)
         · simp)
      | simp
@[simp] theorem wF_par_c {i j : Nat} {fs : SM (List SV)} {Q : Fl → Prop} : wF (parF i j fs) (s0 :: s1) Q ↔ wE fs (s0 :: s1) (fun rs st1 => match rs with | [.val d, .val e] => wO (bindN i d st1) fun st2 => wO (bindN j e st2) fun st3 => Q (.nx st3) | _ => False) (fun x st1 => Q (.ex x st1)) := wF_par
end
end TK

namespace TK
open PySem PySem.Spec PyProof.Rows L2

/-! ## the tape of a law -/
structure Tape where
  c : Int
  b : Bool
  i : Int
  s : Int
def Tape.ds (t : Tape) : List D := [.int t.c, .bool t.b, .int t.i, .int t.s]
def bTape : SF := (seqS (asgF (bindN 2) (conS (.int 0))) (seqS (ifF (binT ltS (varS 1) (call1 lenS (varS 0))) (asgF (bindN 2) (call1 absS (binS idxS (varS 0) (varS 1)))) nilS) (retF (lstS (consA (varS 2) (consA (binS geS (varS 2) (binS powS (conS (.int 10)) (conS (.int 18)))) (consA (conS (.int 0)) (consA (binS modS (call1 intS (binS addS (binS mulG2 (varS 2) (conS (.int 64))) (varS 1))) (conS (.int 2147483647))) nilA))))))))
def bTake : SF := (seqS (ifF (andT (boolT (binS idxS (varS 0) (conS (.int 1)))) (binT gtS (binS idxS (varS 0) (conS (.int 0))) (conS (.int 0)))) (seqS (asgF (bindN 3) (binS modS (call1 intS (binS idxS (varS 0) (conS (.int 0)))) (varS 1))) (seqS (setF 0 (conS (.int 0)) (binS divS (binS idxS (varS 0) (conS (.int 0))) (varS 1))) (retF (varS 3)))) nilS) (seqS (setF 0 (conS (.int 2)) (binS addS (binS idxS (varS 0) (conS (.int 2))) (conS (.int 1)))) (seqS (asgF (bindN 2) (binS modS (call1 intS (binS addS (binS addS (binS mulG2 (binS idxS (varS 0) (conS (.int 3))) (conS (.int 48271))) (binS mulG2 (binS idxS (varS 0) (conS (.int 2))) (conS (.int 69621)))) (conS (.int 17)))) (conS (.int 2147483647)))) (seqS (asgF (bindN 2) (binS modS (call1 intS (binS addS (binS addS (binS mulG2 (varS 2) (conS (.int 40692))) (binS mulG2 (binS divS (varS 2) (conS (.int 977))) (conS (.int 31)))) (binS idxS (varS 0) (conS (.int 2))))) (conS (.int 2147483399)))) (retF (binS modS (call1 intS (binS divS (varS 2) (conS (.int 7)))) (varS 1)))))))
theorem sp_tape (ns : List Int) (k : Nat) : ∃ t : Tape, runDef 3 bTape [.scr ns, .val (.int k)] = some (.ret (.own false t.ds) none) := by
  have h : wC (runDef 3 bTape) [.scr ns, .val (.int k)] (fun r io => ∃ t : Tape, r = .own false t.ds ∧ io = none) fun _ _ => False := by
    rw [wC_def]
    simp [bTape, bindN_eq, Tape.ds, sizeLine_v]
    split
    · rename_i h
      rw [atI_nat _ h]
      simp
      exact ⟨⟨_, _, _, _⟩, rfl, rfl, rfl, rfl⟩
    · exact ⟨⟨_, _, _, _⟩, rfl, rfl, rfl, rfl⟩
  obtain ⟨r, io, e, t, rfl, rfl⟩ := rets_of h
  exact ⟨t, e⟩
theorem sp_take (t : Tape) (n : Int) (h : 0 < n) (h2 : n.natAbs.log2 < 9000) : ∃ (r : Int) (t' : Tape), runDef 4 bTake [.own true t.ds, .val (.int n)] = some (.ret (.val (.int r)) (some t'.ds)) ∧ 0 ≤ r ∧ r < n := by
  have hd : ∀ (st : List SV) (i : Int), divS st (.val (.int i)) (.val (.int n)) = some (.val (.int (i / n))) := fun st i => divS_i st i n h h2
  have h : wC (runDef 4 bTake) [.own true t.ds, .val (.int n)] (fun r io => ∃ (k : Int) (t' : Tape), r = .val (.int k) ∧ io = some t'.ds ∧ 0 ≤ k ∧ k < n) fun _ _ => False := by
    rw [wC_def]
    simp [bTake, bindN_eq, Tape.ds, hd, h, atI, ixN]
    have m1 : ∀ a : Int, 0 ≤ a % n := fun a => Int.emod_nonneg a (by omega)
    have m2 : ∀ a : Int, a % n < n := fun a => Int.emod_lt_of_pos a h
    split
    · split
      · exact ⟨⟨⟨_, _, _, _⟩, rfl, rfl, rfl, rfl⟩, m1 _, m2 _⟩
      · exact ⟨⟨⟨t.c, t.b, t.i + 1, t.s⟩, rfl, rfl, rfl, rfl⟩, m1 _, m2 _⟩
    · exact ⟨⟨⟨t.c, t.b, t.i + 1, t.s⟩, rfl, rfl, rfl, rfl⟩, m1 _, m2 _⟩
  obtain ⟨r, io, e, k, t', rfl, rfl, q⟩ := rets_of h
  exact ⟨k, t', e, q⟩
theorem wC_tape {ns : List Int} {k : Nat} {Q : SV → Option (List D) → Prop} {X : Ex → Option (List D) → Prop} (h : ∀ t : Tape, Q (.own false t.ds) none) : wC (runDef 3 bTape) [.scr ns, .val (.int k)] Q X := by
  obtain ⟨t, e⟩ := sp_tape ns k
  exact ⟨_, e, h t⟩
theorem wC_takeW {t : Tape} {n : Int} {Q : SV → Option (List D) → Prop} {X : Ex → Option (List D) → Prop} (h : 0 < n) (h2 : n.natAbs.log2 < 9000) (hq : ∀ (r : Int) (t' : Tape), 0 ≤ r → r < n → Q (.val (.int r)) (some t'.ds)) : wC (runDef 4 bTake) [.own true t.ds, .val (.int n)] Q X := by
  obtain ⟨r, t', e, h1, h2⟩ := sp_take t n h h2
  exact ⟨_, e, hq r t' h1 h2⟩
theorem wC_take {t : Tape} {n : Int} {Q : SV → Option (List D) → Prop} {X : Ex → Option (List D) → Prop} (h : 0 < n) (h2 : n < 18446744073709551616) (hq : ∀ (r : Int) (t' : Tape), 0 ≤ r → r < n → Q (.val (.int r)) (some t'.ds)) : wC (runDef 4 bTake) [.own true t.ds, .val (.int n)] Q X := by
  refine wC_takeW h (log2_small ?_) hq
  have h3 : n.natAbs < 2 ^ 64 := by omega
  exact Nat.lt_of_lt_of_le h3 (Nat.pow_le_pow_right (by omega) (by omega))
end TK

namespace TK
open PySem PySem.Spec PyProof.Rows L2

/-! ## lists of whole numbers -/
def rangeI (lo : Int) (n : Nat) : List Int := (List.range n).map fun i : Nat => lo + (i : Int)
theorem rangeD_eq (lo : Int) (n : Nat) : rangeD lo n = (rangeI lo n).map PyData.int := by
  unfold rangeD rangeI
  rw [List.map_map]; rfl
@[simp] theorem length_rangeI (lo : Int) (n : Nat) : (rangeI lo n).length = n := by simp [rangeI]
@[simp] theorem mem_rangeI {lo : Int} {n : Nat} {k : Int} : k ∈ rangeI lo n ↔ lo ≤ k ∧ k < lo + n := by
  unfold rangeI
  rw [List.mem_map]
  constructor
  · rintro ⟨i, hi, rfl⟩
    have := List.mem_range.mp hi
    omega
  · rintro ⟨h1, h2⟩
    exact ⟨(k - lo).toNat, List.mem_range.mpr (by omega), by omega⟩
theorem nodup_rangeI (lo : Int) (n : Nat) : (rangeI lo n).Nodup := by
  unfold rangeI
  refine List.Pairwise.map _ (fun a b hab => ?_) (List.nodup_range (n := n))
  omega
theorem length_le_of_sub : ∀ {l m : List Int}, l.Nodup → (∀ x ∈ l, x ∈ m) → l.length ≤ m.length
  | [], _, _, _ => Nat.zero_le _
  | a :: l, m, hn, hs => by
    obtain ⟨h1, h2⟩ := List.nodup_cons.mp hn
    have ha := hs a (by simp)
    have := length_le_of_sub (l := l) (m := m.erase a) h2 fun x hx => (List.mem_erase_of_ne (fun e : x = a => h1 (e ▸ hx))).mpr (hs x (by simp [hx]))
    rw [List.length_erase_of_mem ha] at this
    have hm : 0 < m.length := List.length_pos_of_mem ha
    rw [List.length_cons]
    omega
theorem length_filter_not {α : Type} (p : α → Bool) : ∀ l : List α, (l.filter p).length + (l.filter fun x => !p x).length = l.length
  | [] => rfl
  | a :: l => by
    have ih := length_filter_not p l
    cases h : p a <;> simp [List.filter_cons, h] <;> omega
theorem length_free {l m : List Int} (h : l.Nodup) : l.length ≤ (l.filter fun x => !decide (x ∈ m)).length + m.length := by
  have h1 := length_filter_not (fun x => decide (x ∈ m)) l
  have h2 : (l.filter fun x => decide (x ∈ m)).length ≤ m.length := length_le_of_sub (h.filter _) fun x hx => by simpa using (List.mem_filter.mp hx).2
  omega
section
variable {α : Type} {xs : List α} {lo hi : Option Int} {x : α}
theorem mem_cutL (h : x ∈ cutL xs lo hi) : x ∈ xs := List.mem_of_mem_drop (List.mem_of_mem_take h)
theorem length_cutL : (cutL xs lo hi).length ≤ xs.length := by
  unfold cutL
  rw [List.length_take, List.length_drop]
  omega
theorem cutL_take {k : Int} (h : 0 ≤ k) : cutL xs none (some k) = xs.take k.toNat := by
  unfold cutL
  rw [HT.sIx_none, show (some k : Option Int) = some ((k.toNat : Nat) : Int) by rw [Int.toNat_of_nonneg h], HT.sIx_nat]
  rw [List.drop_zero, Nat.sub_zero]
  rw [List.take_eq_take_iff]
  omega
theorem cutL_drop {k : Int} (h : 0 ≤ k) : cutL xs (some k) none = xs.drop k.toNat := by
  unfold cutL
  rw [HT.sIx_none, show (some k : Option Int) = some ((k.toNat : Nat) : Int) by rw [Int.toNat_of_nonneg h], HT.sIx_nat]
  by_cases hl : k.toNat ≤ xs.length
  · rw [Nat.min_eq_left hl, List.take_of_length_le]
    rw [List.length_drop]; exact Nat.le_refl _
  · rw [Nat.min_eq_right (by omega), List.drop_eq_nil_of_le (Nat.le_refl _), List.drop_eq_nil_of_le (by omega)]
    simp
end
/-! ## isinstance -/
@[simp] theorem tyName_none : tyName (.none) = "NoneType" := rfl
@[simp] theorem tyName_bool (b : Bool) : tyName (.bool b) = "bool" := rfl
@[simp] theorem tyName_int (i : Int) : tyName (.int i) = "int" := rfl
@[simp] theorem tyName_str (x : Str) : tyName (.str x) = "str" := rfl
@[simp] theorem tyName_list (ds : List D) : tyName (.list ds) = "list" := rfl
@[simp] theorem tyName_tuple (ds : List D) : tyName (.tuple ds) = "tuple" := rfl
@[simp] theorem kit_NoneType_bool : kitB "NoneType" "bool" = some false := by decide +kernel
@[simp] theorem kit_NoneType_int : kitB "NoneType" "int" = some false := by decide +kernel
@[simp] theorem kit_NoneType_str : kitB "NoneType" "str" = some false := by decide +kernel
@[simp] theorem kit_NoneType_list : kitB "NoneType" "list" = some false := by decide +kernel
@[simp] theorem kit_NoneType_tuple : kitB "NoneType" "tuple" = some false := by decide +kernel
@[simp] theorem kit_bool_bool : kitB "bool" "bool" = some true := by decide +kernel
@[simp] theorem kit_bool_int : kitB "bool" "int" = some true := by decide +kernel
@[simp] theorem kit_bool_str : kitB "bool" "str" = some false := by decide +kernel
@[simp] theorem kit_bool_list : kitB "bool" "list" = some false := by decide +kernel
@[simp] theorem kit_bool_tuple : kitB "bool" "tuple" = some false := by decide +kernel
@[simp] theorem kit_int_bool : kitB "int" "bool" = some false := by decide +kernel
@[simp] theorem kit_int_int : kitB "int" "int" = some true := by decide +kernel
@[simp] theorem kit_int_str : kitB "int" "str" = some false := by decide +kernel
@[simp] theorem kit_int_list : kitB "int" "list" = some false := by decide +kernel
@[simp] theorem kit_int_tuple : kitB "int" "tuple" = some false := by decide +kernel
@[simp] theorem kit_str_bool : kitB "str" "bool" = some false := by decide +kernel
@[simp] theorem kit_str_int : kitB "str" "int" = some false := by decide +kernel
@[simp] theorem kit_str_str : kitB "str" "str" = some true := by decide +kernel
@[simp] theorem kit_str_list : kitB "str" "list" = some false := by decide +kernel
@[simp] theorem kit_str_tuple : kitB "str" "tuple" = some false := by decide +kernel
@[simp] theorem kit_list_bool : kitB "list" "bool" = some false := by decide +kernel
@[simp] theorem kit_list_int : kitB "list" "int" = some false := by decide +kernel
@[simp] theorem kit_list_str : kitB "list" "str" = some false := by decide +kernel
@[simp] theorem kit_list_list : kitB "list" "list" = some true := by decide +kernel
@[simp] theorem kit_list_tuple : kitB "list" "tuple" = some false := by decide +kernel
@[simp] theorem kit_tuple_bool : kitB "tuple" "bool" = some false := by decide +kernel
@[simp] theorem kit_tuple_int : kitB "tuple" "int" = some false := by decide +kernel
@[simp] theorem kit_tuple_str : kitB "tuple" "str" = some false := by decide +kernel
@[simp] theorem kit_tuple_list : kitB "tuple" "list" = some false := by decide +kernel
@[simp] theorem kit_tuple_tuple : kitB "tuple" "tuple" = some true := by decide +kernel
end TK

namespace TK
open PySem PySem.Spec PyProof.Rows L2
/-! ## the same, of the same kind -/
def bSame (F__law_same : FS) : SF := (seqS (ifF (orT (boolT (isiS "tuple" (varS 1))) (boolT (isiS "list" (varS 1)))) (seqS (ifF (orT (binT neS (isiS "tuple" (varS 1)) (isiS "tuple" (varS 0))) (binT neS (isiS "list" (varS 1)) (isiS "list" (varS 0)))) (retF (conS (.bool false))) nilS) (seqS (ifF (binT neS (call1 lenS (varS 0)) (call1 lenS (varS 1))) (retF (conS (.bool false))) nilS) (seqS (forF (range1I (call1 lenS (varS 1))) (bindN 2) (ifF (notT (boolT (callS F__law_same (consA (binS idxS (varS 0) (varS 2)) (consA (binS idxS (varS 1) (varS 2)) nilA))))) (retF (conS (.bool false))) nilS)) (retF (conS (.bool true)))))) nilS) (seqS (ifF (binT isNS (varS 1) (conS .none)) (retF (binS isNS (varS 0) (conS .none))) nilS) (seqS (ifF (boolT (isiS "str" (varS 1))) (retF (andS (isiS "str" (varS 0)) (binS eqS (varS 0) (varS 1)))) nilS) (retF (andS (isiS "int" (varS 0)) (andS (notS (isiS "bool" (varS 0))) (binS eqS (varS 0) (varS 1))))))))
def FsSame : Nat → FS
  | 0 => fun _ => none
  | k + 1 => runDef 3 (bSame (FsSame k))
mutual
def plainD : D → Bool
  | .none => true
  | .int _ => true
  | .str x => (PyData.str x).canLay0
  | .list ds => decide (ds.length < 1000000) && plainL ds
  | .tuple ds => decide (ds.length < 1000000) && plainL ds
  | _ => false
def plainL : List D → Bool
  | [] => true
  | d :: ds => plainD d && plainL ds
end
mutual
theorem plainD_lay : ∀ {d : D}, plainD d = true → d.canLay0 = true
  | .none, _ => rfl
  | .int _, _ => rfl
  | .str x, h => by simpa [plainD] using h
  | .list ds, h => by
    simp only [plainD, Bool.and_eq_true] at h
    simpa [PyData.canLay0] using plainL_lay h.2
  | .tuple ds, h => by
    simp only [plainD, Bool.and_eq_true] at h
    simpa [PyData.canLay0] using plainL_lay h.2
  | .bool _, h => by cases h
  | .dict _, h => by cases h
theorem plainL_lay : ∀ {ds : List D}, plainL ds = true → PyData.canLayAll0 ds = true
  | [], _ => by simp [PyData.canLayAll0]
  | d :: ds, h => by
    simp only [plainL, Bool.and_eq_true] at h
    simp [PyData.canLayAll0, plainD_lay h.1, plainL_lay h.2]
end
theorem plainL_mem : ∀ {ds : List D} {d : D}, plainL ds = true → d ∈ ds → plainD d = true
  | a :: ds, d, h, hm => by
    simp only [plainL, Bool.and_eq_true] at h
    rcases List.mem_cons.mp hm with rfl | hm
    · exact h.1
    · exact plainL_mem h.2 hm
theorem neS_bool (st : List SV) (b c : Bool) : neS st (.val (.bool b)) (.val (.bool c)) = some (.val (.bool (!(b == c)))) := by simp [neS]
theorem same_seq {F : FS} {ds : List D} (hF : ∀ d ∈ ds, F [.val d, .val d] = some (.ret (.val (.bool true)) none)) (hl : ds.length < 1000000) {y : D} (hy : y = .list ds ∨ y = .tuple ds) : wF (forL (bindN 2) (ifF (notT (boolT (callS F (consA (binS idxS (varS 0) (varS 2)) (consA (binS idxS (varS 1) (varS 2)) nilA))))) (retF (conS (.bool false))) nilS) (rangeD 0 ds.length)) [.val y, .val y, .emp]
    fun o => ∃ x, o = .nx [.val y, .val y, x] ∧ x.isOwn = false := by
  refine wF_range (I := fun i st => ∃ x : SV, st = [.val y, .val y, x] ∧ x.isOwn = false) (fun i st hi => ?_) (fun st => ?_) _ ⟨.emp, rfl, rfl⟩
  · rintro ⟨x, rfl, hx⟩
    have hat := atI_nat ds hi
    have hm : ds[i] ∈ ds := List.getElem_mem hi
    rcases hy with rfl | rfl
    · simp [bindN_eq, hx, hat]
      refine (wC_ret (hF _ hm)).mpr ?_
      simp
    · simp [bindN_eq, hx, hat]
      refine (wC_ret (hF _ hm)).mpr ?_
      simp
  · rintro ⟨x, rfl, hx⟩
    exact ⟨x, rfl, hx⟩
/-- what is plain is the same as itself -/
theorem depth_mem {d : D} {ds : List D} (h : d ∈ ds) : d.depth ≤ PyData.depthAll ds := L2.depth_mem h
theorem same_ok : ∀ (k : Nat) (d : D), plainD d = true → d.depth < k → FsSame k [.val d, .val d] = some (.ret (.val (.bool true)) none)
  | 0, _, _, h => absurd h (Nat.not_lt_zero _)
  | k + 1, d, hp, hk => by
    apply ret_of
    rw [FsSame, wC_def]
    cases d with
    | none => simp [bSame]
    | int i => simp [bSame]
    | str x =>
      have hs : SeqAt.shaped (.str x) = true := by
        unfold SeqAt.shaped
        rw [plainD_lay hp]; rfl
      simp [bSame]
      rw [eqS_of _ rfl rfl hs hs, SeqAt.eqv_refl _ (plainD_lay hp)]
      simp
    | bool b => cases hp
    | dict d => cases hp
    | list ds =>
      simp only [plainD, Bool.and_eq_true, decide_eq_true_eq] at hp
      have ih : ∀ d ∈ ds, FsSame k [.val d, .val d] = some (.ret (.val (.bool true)) none) := fun d hd => same_ok k d (plainL_mem hp.2 hd) (by
        have h1 := depth_mem hd
        rw [PyData.depth] at hk
        omega)
      simp [bSame, neS_bool, inR_iff]
      refine ⟨by omega, (same_seq ih hp.1 (.inl rfl)).mono ?_⟩
      rintro o ⟨x, rfl, hx⟩
      simp
    | tuple ds =>
      simp only [plainD, Bool.and_eq_true, decide_eq_true_eq] at hp
      have ih : ∀ d ∈ ds, FsSame k [.val d, .val d] = some (.ret (.val (.bool true)) none) := fun d hd => same_ok k d (plainL_mem hp.2 hd) (by
        have h1 := depth_mem hd
        rw [PyData.depth] at hk
        omega)
      simp [bSame, neS_bool, inR_iff]
      refine ⟨by omega, (same_seq ih hp.1 (.inr rfl)).mono ?_⟩
      rintro o ⟨x, rfl, hx⟩
      simp
theorem plainL_ints : ∀ ns : List Int, plainL (ns.map PyData.int) = true
  | [] => rfl
  | n :: ns => by rw [List.map_cons, plainL, plainL_ints ns]; rfl
theorem depth_ints : ∀ ns : List Int, PyData.depthAll (ns.map PyData.int) = 0
  | [] => by simp [PyData.depthAll]
  | n :: ns => by rw [List.map_cons, PyData.depthAll, depth_ints ns]; simp [PyData.depth]
theorem same_int (k : Nat) (hk : 0 < k) (i : Int) : FsSame k [.val (.int i), .val (.int i)] = some (.ret (.val (.bool true)) none) := same_ok k _ rfl (by simpa [PyData.depth] using hk)
theorem same_ti (k : Nat) (hk : 1 < k) {ns : List Int} (hl : ns.length < 1000000) : FsSame k [.val (.tuple (ns.map PyData.int)), .val (.tuple (ns.map PyData.int))] = some (.ret (.val (.bool true)) none) :=
  same_ok k _ (by simp [plainD, hl, plainL_ints]) (by rw [PyData.depth, depth_ints]; omega)
theorem same_li (k : Nat) (hk : 1 < k) {ns : List Int} (hl : ns.length < 1000000) : FsSame k [.val (.list (ns.map PyData.int)), .val (.list (ns.map PyData.int))] = some (.ret (.val (.bool true)) none) :=
  same_ok k _ (by simp [plainD, hl, plainL_ints]) (by rw [PyData.depth, depth_ints]; omega)
end TK

namespace TK
open PySem PySem.Spec PyProof.Rows L2
/-! ## t > u of tuples, at any depth -/
mutual
def dGt : D → D → Bool
  | .int i, .int j => decide (j < i)
  | .tuple xs, .tuple ys => dGtL xs ys
  | _, _ => false
def dGtL : List D → List D → Bool
  | [], _ => false
  | _ :: _, [] => true
  | x :: xs, y :: ys => if PyData.eqv x y = true then dGtL xs ys else dGt x y
end
mutual
def gtOk : D → Bool
  | .int _ => true
  | .tuple xs => gtOkL xs
  | _ => false
def gtOkL : List D → Bool
  | [] => true
  | x :: xs => gtOk x && gtOkL xs
end
theorem lexAt_shift (e r : Nat → Bool) (z : Bool) : ∀ k i : Nat, Ob.lexAt e r z (i + 1) k = Ob.lexAt (fun j => e (j + 1)) (fun j => r (j + 1)) z i k
  | 0, _ => rfl
  | k + 1, i => by rw [Ob.lexAt_succ, Ob.lexAt_succ, lexAt_shift e r z k (i + 1)]
theorem lexAt_gt : ∀ (xs ys : List D), Ob.lexAt (SeqAt.pairEq xs ys) (fun j => dGt (xs.getD j .none) (ys.getD j .none)) (decide (xs.length > ys.length)) 0 (min xs.length ys.length) = dGtL xs ys
  | [], ys => by simp [Ob.lexAt, dGtL]
  | x :: xs, [] => by simp [Ob.lexAt, dGtL]
  | x :: xs, y :: ys => by
    rw [List.length_cons, List.length_cons, Nat.add_min_add_right, Ob.lexAt_succ, lexAt_shift]
    have ih := lexAt_gt xs ys
    have e1 : (fun j => SeqAt.pairEq (x :: xs) (y :: ys) (j + 1)) = SeqAt.pairEq xs ys := rfl
    have e2 : decide (xs.length + 1 > ys.length + 1) = decide (xs.length > ys.length) := by simp
    rw [e1, e2]
    have e3 : (fun j => dGt ((x :: xs).getD (j + 1) .none) ((y :: ys).getD (j + 1) .none)) = fun j => dGt (xs.getD j .none) (ys.getD j .none) := rfl
    rw [e3, ih, dGtL]
    rfl
end TK
namespace TK
open PySem PySem.Spec PyProof.Rows L2 PySem.W
theorem depth_get : ∀ (xs : List D) (j : Nat), (xs.getD j .none).depth ≤ PyData.depthAll xs
  | [], j => by simp [PyData.depth, PyData.depthAll]
  | x :: xs, 0 => by simp [PyData.depthAll]; omega
  | x :: xs, j + 1 => by
    have := depth_get xs j
    simp [PyData.depthAll] at this ⊢
    omega
mutual
theorem rcGt : ∀ (da db : D) (A : Around) (s : Shared) (a b : Value) (as bs : List Addr), Reads s.heap a da as → Reads s.heap b db bs → alike da db = true → gtOk da = true → A.units + min da.depth db.depth < cLine → Ob.RcOp .Gt A s a b (dGt da db)
  | .int x, db, A, s, a, b, as, bs, ra, rb, h, g, _ => by
    cases db with
    | int y =>
      cases ra
      cases rb
      exact Ob.RcOp.gt_int _ _ _ _
    | _ => exact absurd h (by simp [alike])
  | .tuple xs, db, A, s, a, b, as, bs, ra, rb, h, g, hu => by
    cases db with
    | tuple ys =>
      have hal : alikeAll xs ys = true := by simpa [alike] using h
      have hg : gtOkL xs = true := by simpa [gtOk] using g
      cases ra with
      | @tuple l o vs n _ as₁ h1 h2 h3 h4 =>
        cases rb with
        | @tuple l' o' vs' n' _ bs₁ k1 k2 k3 k4 =>
          have n1 : vs.size = xs.length := by simpa using SeqAt.ReadsAll.length _ _ _ h4
          have n2 : vs'.size = ys.length := by simpa using SeqAt.ReadsAll.length _ _ _ k4
          rw [show dGt (.tuple xs) (.tuple ys) = dGtL xs ys by rw [dGt], ← lexAt_gt, ← n1, ← n2]
          have hin : A.in1.units + min (PyData.depthAll xs) (PyData.depthAll ys) < cLine := by
            simp only [PyData.depth] at hu
            show A.units + 1 + _ < _
            omega
          refine Ob.RcOp.tuples_gt ⟨_, h1, h2, _, h3⟩ ⟨_, k1, k2, _, k3⟩ (by omega) (fun j j1 j2 => ?_) fun j j1 j2 hj => ?_
          · have := eqAt_alikeAll xs ys A.in1 s vs.toList vs'.toList _ _ h4 k4 hal hin j (by simpa using j1) (by simpa using j2)
            simpa using this
          · have := rcGtL xs ys A.in1 s vs.toList vs'.toList _ _ h4 k4 hal hg hin j (by simpa using j1) (by simpa using j2)
            simpa using this
    | _ => exact absurd h (by simp [alike])
  | .none, _, _, _, _, _, _, _, _, _, _, g, _ => by cases g
  | .bool _, _, _, _, _, _, _, _, _, _, _, g, _ => by cases g
  | .str _, _, _, _, _, _, _, _, _, _, _, g, _ => by cases g
  | .list _, _, _, _, _, _, _, _, _, _, _, g, _ => by cases g
  | .dict _, _, _, _, _, _, _, _, _, _, _, g, _ => by cases g
theorem rcGtL : ∀ (xs ys : List D) (A : Around) (s : Shared) (vs ws : List Value) (as bs : List Addr), ReadsAll s.heap vs xs as → ReadsAll s.heap ws ys bs → alikeAll xs ys = true → gtOkL xs = true →
    A.units + min (PyData.depthAll xs) (PyData.depthAll ys) < cLine → ∀ j (h1 : j < vs.length) (h2 : j < ws.length), Ob.RcOp .Gt A s vs[j] ws[j] (dGt (xs.getD j .none) (ys.getD j .none))
  | [], _, _, _, _, _, _, _, ra, _, _, _, _, j, h1, _ => by cases ra; exact absurd h1 (Nat.not_lt_zero _)
  | _ :: _, [], _, _, _, _, _, _, _, rb, _, _, _, j, _, h2 => by cases rb; exact absurd h2 (Nat.not_lt_zero _)
  | x :: xs, y :: ys, A, s, _, _, _, _, ra, rb, h, g, hu, j, h1, h2 => by
    have hg : gtOk x = true ∧ gtOkL xs = true := by simpa [gtOkL] using g
    simp only [PyData.depthAll] at hu
    cases ra with
    | cons r rs =>
      cases rb with
      | cons r' rs' =>
        cases j with
        | zero => exact rcGt x y A s _ _ _ _ r r' (alike_all_cons h).1 hg.1 (by omega)
        | succ j => exact rcGtL xs ys A s _ _ _ _ rs rs' (alike_all_cons h).2 hg.2 (by omega) j (Nat.lt_of_succ_lt_succ h1) (Nat.lt_of_succ_lt_succ h2)
end
def rGtD (K : PySem.W.Frag) : R2 := fun x y H Q => ∃ d e, Dp K H x d ∧ Dp K H y e ∧ alike d e = true ∧ gtOk d = true ∧ d.depth ≤ 60 ∧ Q (.bl (dGt d e)) H
theorem op_gtD {X : Cx} (hu : X.A.units + 64 < cLine) : OpR X (compareOp .Gt) (rGtD X.K) := by
  intro pins s σ H x y v u Q I rx ry h
  obtain ⟨d, e, hd, he, al, g, dp, q⟩ := h
  obtain ⟨as, r1⟩ := Dp.reads I d x v hd rx
  obtain ⟨bs, r2⟩ := Dp.reads I e y u he ry
  exact rcGt d e X.A s v u as bs r1 r2 al g (by omega) X.prog X.w X.xe (EP X pins σ Q) ⟨.bl _, H, I, rfl, q⟩
def gtDS : G2 := fun st r1 r2 => match dataOf st r1, dataOf st r2 with
  | some d, some e => if alike d e = true ∧ gtOk d = true ∧ d.depth ≤ 60 then some (.val (.bool (dGt d e))) else none
  | _, _ => none
def gtG : G2 := orG2 gtS gtDS
end TK
namespace TK
open PySem PySem.Spec PyProof.Rows L2 PySem.W
section
variable {K : PySem.W.Frag}
theorem ops_gtD : OpS K (rGtD K) gtDS := by
  intro G st σ pst pσ H r1 r2 x y Q res R e post
  obtain ⟨fs, f2, f1, fp, F, q1, q2⟩ := R.top2
  unfold gtDS at e
  split at e
  · rename_i d e' e1 e2
    obtain ⟨_, h1, h2⟩ := F.data q1 e1
    obtain ⟨_, k1, k2⟩ := F.data q2 e2
    cases h1; cases k1
    split at e
    · rename_i c
      cases e
      exact ⟨d, e', h2, k2, c.1, c.2.1, c.2.2, post _ H (R.pop.pop.pushB _)⟩
    · cases e
  · cases e
def rLtD (K : PySem.W.Frag) : R2 := fun x y H Q => ∃ d e, Dp K H x d ∧ Dp K H y e ∧ alike d e = true ∧ d ≠ .none ∧ d.depth ≤ 60 ∧ Q (.bl (dataLt d e)) H
theorem op_ltD {X : Cx} (hu : X.A.units + 64 < cLine) : OpR X (compareOp .Lt) (rLtD X.K) := by
  intro pins s σ H x y v u Q I rx ry h
  obtain ⟨d, e, hd, he, al, g, dp, q⟩ := h
  obtain ⟨as, r1⟩ := Dp.reads I d x v hd rx
  obtain ⟨bs, r2⟩ := Dp.reads I e y u he ry
  exact rcLt_alike d e X.A s v u as bs r1 r2 al g (by omega) (prog := X.prog) (w := X.w) (E := X.xe) (Q := EP X pins σ Q) ⟨.bl _, H, I, rfl, q⟩
open Classical in
noncomputable def ltDS : G2 := fun st r1 r2 => match dataOf st r1, dataOf st r2 with
  | some d, some e => if alike d e = true ∧ d ≠ .none ∧ d.depth ≤ 60 then some (.val (.bool (dataLt d e))) else none
  | _, _ => none
theorem ops_ltD : OpS K (rLtD K) ltDS := by
  intro G st σ pst pσ H r1 r2 x y Q res R e post
  obtain ⟨fs, f2, f1, fp, F, q1, q2⟩ := R.top2
  unfold ltDS at e
  split at e
  · rename_i d e' e1 e2
    obtain ⟨_, h1, h2⟩ := F.data q1 e1
    obtain ⟨_, k1, k2⟩ := F.data q2 e2
    cases h1; cases k1
    split at e
    · rename_i c
      cases e
      exact ⟨d, e', h2, k2, c.1, c.2.1, c.2.2, post _ H (R.pop.pop.pushB _)⟩
    · cases e
  · cases e
noncomputable def ltG : G2 := orG2 ltS ltDS
variable {X : Cx} {W : WX} {a b : Expr} {f1 f2 : SM SV} {pos : Pos} {k : Nat}
theorem se_gtG (hr : Room k X.A) (ha : SE X W a f1) (hb : SE X W b f2) : SE X W (.Compare a [.Gt] [b] pos) (binS gtG f1 f2) := se_cmp (op_gt.or (op_gtD (hu64 hr))) ((ops_intB fun i j H Q _ q => ⟨i, j, rfl, rfl, q⟩).or ops_gtD) ha hb (nomark _)
theorem st_gtG (hr : Room k X.A) (ha : SE X W a f1) (hb : SE X W b f2) : ST X W (.Compare a [.Gt] [b] pos) (binT gtG f1 f2) := st_cmp (op_gt.or (op_gtD (hu64 hr))) ((ops_intB fun i j H Q _ q => ⟨i, j, rfl, rfl, q⟩).or ops_gtD) ha hb (nomark _)
theorem se_ltG (hr : Room k X.A) (ha : SE X W a f1) (hb : SE X W b f2) : SE X W (.Compare a [.Lt] [b] pos) (binS ltG f1 f2) := se_cmp (op_lt.or (op_ltD (hu64 hr))) ((ops_intB fun i j H Q _ q => ⟨i, j, rfl, rfl, q⟩).or ops_ltD) ha hb (nomark _)
theorem st_ltG (hr : Room k X.A) (ha : SE X W a f1) (hb : SE X W b f2) : ST X W (.Compare a [.Lt] [b] pos) (binT ltG f1 f2) := st_cmp (op_lt.or (op_ltD (hu64 hr))) ((ops_intB fun i j H Q _ q => ⟨i, j, rfl, rfl, q⟩).or ops_ltD) ha hb (nomark _)
end
/-! the pure side -/
section
variable (st : List SV) (i j : Int)
@[simp] theorem gtG_i : gtG st (.val (.int i)) (.val (.int j)) = some (.val (.bool (decide (j < i)))) := rfl
@[simp] theorem ltG_i : ltG st (.val (.int i)) (.val (.int j)) = some (.val (.bool (decide (i < j)))) := rfl
end
end TK

namespace TK
open PySem PySem.Spec PyProof.Rows L2
/-! ## range downwards -/
def rangeDn (hi : Int) (n : Nat) : List D := (List.range n).map fun (i : Nat) => PyData.int (hi - (i : Int))
theorem rangeDn_length (hi : Int) (n : Nat) : (rangeDn hi n).length = n := by simp [rangeDn]
theorem rangeDn_get (hi : Int) (n i : Nat) (d : D) (h : (rangeDn hi n)[i]? = some d) : i < n ∧ d = .int (hi - i) := by
  unfold rangeDn at h
  rw [List.getElem?_map] at h
  cases e : (List.range n)[i]? with
  | none => rw [e] at h; cases h
  | some k =>
    rw [e] at h
    cases h
    obtain ⟨h1, h2⟩ := List.getElem?_eq_some_iff.mp e
    simp at h1 h2
    subst h2
    exact ⟨h1, rfl⟩
def range3I (f g h : SM SV) : SM Src := fun st => Out.bind (f st) fun r st1 => Out.bind (g st1) fun r2 st2 => Out.bind (h st2) fun r3 st3 => match r, r2, r3 with
  | .val (.int i), .val (.int j), .val (.int c) => if c = -1 ∧ -(2 ^ 62) ≤ i ∧ i < 2 ^ 62 ∧ -(2 ^ 62) ≤ j ∧ j < 2 ^ 62 then some (.ok ⟨rangeDn i (i - j).toNat, none⟩ st3) else none
  | _, _, _ => none
theorem itok_down {K : PySem.W.Frag} {hi : Int} {n : Nat} {pv : V} : ItOk K (Itc hi (-1) n) .emp pv ⟨rangeDn hi n, none⟩ := by
  intro G st σ p2 v2 pst pσ H i hl hok R
  constructor
  · intro d hd
    obtain ⟨h1, rfl⟩ := rangeDn_get hi n i d hd
    refine ⟨h1, fun x H' y => ?_⟩
    obtain ⟨rfl, rfl⟩ := y
    rw [show hi + (i : Int) * -1 = hi - i by omega]
    exact R.pushI _
  · intro hlen
    have hlen : (rangeDn hi n).length ≤ i := hlen
    rw [rangeDn_length] at hlen
    exact hlen
section
variable {X : Cx} {W : WX} {tg e e2 e3 : Expr} {f g h : SM SV} {pos p : Pos}
theorem si_range3 (hg : Gl X "range") (hm : X.mg "range" = none) (h1 : SE X W e f) (h2 : SE X W e2 g) (h3 : SE X W e3 h) (hs : starEach [e, e2, e3] X.env = (false, eval e X.env) :: starEach [e2, e3] X.env := by rfl) (hs2 : starEach [e2, e3] X.env = (false, eval e2 X.env) :: starEach [e3] X.env := by rfl) (hs3 : starEach [e3] X.env = [(false, eval e3 X.env)] := by rfl)
    (hpl : (backTo pos (starEach [e2, e3] X.env)).any (·.1) = false := by rfl) :
    SI X W tg (.Call (.Name "range" p) [e, e2, e3] [] pos) (range3I f g h) := by
  obtain ⟨t, p, s⟩ := h1
  obtain ⟨t2, p2, s2⟩ := h2
  obtain ⟨t3, p3, s3⟩ := h3
  refine ⟨_, pi_range3 hg hm (pa_cons p (pa_cons p2 (pa_cons p3 pa_nil hs3) hs2) hs) hs hpl, fun G st σ pst pσ H Rr o R hf post => ?_⟩
  unfold range3I at hf
  rcases Out.bind_some hf with ⟨r, st1, h1, hf⟩ | ⟨x, st1, h1, rfl⟩
  · refine s G st σ pst pσ H _ _ R h1 fun v H1 R1 => ?_
    rcases Out.bind_some hf with ⟨r2, st2, h2, hf⟩ | ⟨x, st2, h2, rfl⟩
    · refine s2 G st1 σ _ _ H1 _ _ R1 h2 fun v2 H2 R2 => ?_
      rcases Out.bind_some hf with ⟨r3, st3, h3, hf⟩ | ⟨x, st3, h3, rfl⟩
      · refine s3 G st2 σ _ _ H2 _ _ R2 h3 fun v3 H3 R3 => ?_
        split at hf
        · rename_i i j c _ _
          split at hf
          · rename_i hb
            cases hf
            have e3 := R3.isI
            have e2 := R3.pop.isI
            have e1 := R3.pop.pop.isI
            subst e1 e2 e3
            obtain ⟨rfl, b1, b2, b3, b4⟩ := hb
            exact ⟨i, j, -1, (i - j).toNat, rfl, RgC.neg b1 b2 b3 b4, post _ .emp .non H3 itok_down (fun _ => rfl) rfl R3.pop.pop.pop.pushEmp⟩
          · cases hf
        · cases hf
      · exact s3 G st2 σ _ _ H2 _ _ R2 h3 fun cls d H' ex R' => post cls d H' ex R'.pop.pop
    · exact s2 G st1 σ _ _ H1 _ _ R1 h2 fun cls d H' ex R' => post cls d H' ex R'.pop
  · exact s G st σ pst pσ H _ _ R h1 post
end
/-! the pure side -/
section
variable {s0 : SV} {s1 : List SV} {st : List SV} {QS : Src → List SV → Prop} {X : Ex → List SV → Prop} {a b c : SM SV}
theorem wE_range3I : wE (range3I a b c) st QS X ↔ wE a st (fun r st1 => wE b st1 (fun r2 st2 => wE c st2 (fun r3 st3 => match r, r2, r3 with | .val (.int i), .val (.int j), .val (.int k) => k = -1 ∧ inR i ∧ inR j ∧ QS ⟨rangeDn i (i - j).toNat, none⟩ st3 | _, _, _ => False) X) X) X := by
  unfold range3I
  rw [show wE (fun st => Out.bind (a st) _) st QS X ↔ _ from wE_bind]
  simp only [wE_bind]
  apply iff_of_eq; congr 1; funext r st1; congr 1; funext r2 st2; congr 1; funext r3 st3
  split
  · rename_i i j k
    by_cases h : k = -1 ∧ -(2 ^ 62) ≤ i ∧ i < 2 ^ 62 ∧ -(2 ^ 62) ≤ j ∧ j < 2 ^ 62
    · rw [if_pos h]
      refine propext ⟨fun ⟨o, e, q⟩ => ?_, fun q => ⟨_, rfl, q.2.2.2⟩⟩
      cases e; exact ⟨h.1, ⟨h.2.1, h.2.2.1⟩, ⟨h.2.2.2.1, h.2.2.2.2⟩, q⟩
    · rw [if_neg h]
      refine propext ⟨fun ⟨o, e, q⟩ => ?_, fun q => absurd ⟨q.1, q.2.1.1, q.2.1.2, q.2.2.1.1, q.2.2.1.2⟩ h⟩
      cases e
  · simp
@[simp] theorem wE_range3I_c : wE (range3I a b c) (s0 :: s1) QS X ↔ wE a (s0 :: s1) (fun r st1 => wE b st1 (fun r2 st2 => wE c st2 (fun r3 st3 => match r, r2, r3 with | .val (.int i), .val (.int j), .val (.int k) => k = -1 ∧ inR i ∧ inR j ∧ QS ⟨rangeDn i (i - j).toNat, none⟩ st3 | _, _, _ => False) X) X) X := wE_range3I
theorem wF_down {b : D → List SV → Option (List SV)} {body : SF} {Q : Fl → Prop} {hi : Int} {n : Nat} {I : Nat → List SV → Prop} (step : ∀ i st, i < n → I i st → wO (b (.int (hi - (i : Int))) st) fun st1 => wF body st1 (onLoop (I (i + 1)) Q)) (fin : ∀ st, I n st → Q (.nx st))
    (st : List SV) (h : I 0 st) : wF (forL b body (rangeDn hi n)) st Q := by
  refine wF_walkI (I := I) (fun i d st hd hi => ?_) (fun st h => fin st (by rwa [rangeDn_length] at h)) st h
  obtain ⟨h1, rfl⟩ := rangeDn_get _ n i d hd
  exact step i st h1 hi
end
end TK

/-! ## any(list) while an exception is handled -/
namespace TK
open PySem PySem.Spec PyProof.Rows L2 HotX
section
variable {prog : Program} {w : World} {A : Around} {E : Value → Shared → Prop} {s : Shared}
theorem pyNext_list_end_hot {it l x1 : Addr} {i : Nat} {items} {Q : Option Value → Shared → Prop} (hot : HotAt A x1 s.heap) (hxi : x1 ≠ it)
    (hit : s.heap.IsListIter it l i) (hl : s.heap.IsList l items) (hx : items[i]? = none)
    (hQ : ∀ h', (∀ b o, b ≠ it → s.heap.get? b = some o → h'.get? b = some o) → Q none { s with heap := h' }) : wpAny (model prog w) A (pyNext (.ref it)) Q E s := by
  obtain ⟨o, ho, hc, hd⟩ := id hit
  obtain ⟨ol, hol, _, nl, hdl⟩ := hl
  obtain ⟨hh, o1, vs1, h1, d1, c1⟩ := hot
  unfold pyNext
  refine wpAny_bind (wpAny_attempt (wpAny_callSpecial?_slot (name := Str.ofString "__next__") hit.typeIs slot_listiter_next
    (wpAny_call_entry slot_listiter_next hit.typeIs entry_listiter_next ?_ (args_listiter_next _))))
  show wpAny _ _ (field (.ref it) 0 >>= _) _ _ s
  refine wpAny_bind (wpAny_field ho hd (x := .ref l) rfl ?_)
  show wpAny _ _ (if (Value.ref l == Value.none) = true then _ else _) _ _ s
  rw [if_neg (show ¬ ((Value.ref l == Value.none) = true) from Bool.false_ne_true)]
  show wpAny _ _ (field (.ref it) 1 >>= _) _ _ s
  refine wpAny_bind (wpAny_field ho hd (x := .int i 0) rfl ?_)
  show wpAny _ _ (seqItems? (.ref l) >>= _) _ _ s
  refine wpAny_bind (wpAny_seqItems hol hdl ?_)
  simp only [Int.toNat_natCast, hx]
  refine wpAny_bind (wpAny_rule (wpAny_bind (wpAny_setField ho hd (by simp) ?_)))
  show wpAny _ _ (newExc (.type "StopIteration") [] >>= _) _ _ _
  refine wpAny_bind ?_
  simp only [newExc, newTuple]
  refine wpAny_bind (wpAny_newObj_type ?_ (by size_fits))
  refine wpAny_bind (m := firstArgMember _ _) (wpAny_of_eq (a := Value.none) (by first | rfl | (simp only [firstArgMember]; rfl)) ?_)
  refine wpAny_newObj_type ?_ (by size_fits)
  have k1 : ∀ b o, b ≠ it → s.heap.get? b = some o → (s.heap.update it (Obj.mapFields (·.setIfInBounds 0 .none))).get? b = some o := fun b o hb e => (Heap.get?_update_other _ _ (Ne.symm hb)).trans e
  have hx1 := Heap.get?_push_of_some { cls := .type "tuple", data := .seq ([] : List Value).toArray } (k1 _ _ hxi h1)
  refine raiseNew_hot ⟨hh, o1, vs1, Heap.get?_push_of_some _ hx1, d1, c1⟩ (Nat.ne_of_lt (Heap.lt_size hx1)) (Heap.get?_push_size _ rfl) rfl (by first | (simp; done) | (simp; omega) | (simp only [Array.size_append]; simp; omega)) ?_
  refine wpAny_bind (wpAny_isInstance (T := "StopIteration") (b := true) ⟨_, Heap.get?_update_self _ (Heap.get?_push_size _ rfl) rfl, rfl⟩ isSubtype_stop ?_)
  refine wpAny_pure (hQ _ fun b o hb e => ?_)
  have e2 := Heap.get?_push_of_some { cls := .type "tuple", data := .seq ([] : List Value).toArray } (k1 b o hb e)
  rw [Heap.get?_update_other _ _ (Nat.ne_of_gt (Heap.lt_size e2))]
  exact Heap.get?_push_of_some _ e2
end
end TK
namespace TK
open PySem PySem.Spec PyProof.Rows L2 HotX
theorem walks_listH {prog : Program} {w : World} {A : Around} {x1 : Addr} {o1 : Obj} {vs1 : Array Value} (hh : A.handled = some (.ref x1)) (d1 : o1.data = .fields vs1) (c1 : vs1[2]? = some .none) (I ax : Addr) (hne : ax ≠ I) (hxi : x1 ≠ I) (items : Array Value) :
    Walks prog w A I [I, ax, x1] [I] items.size (fun i v => items[i]? = some v) (fun i h => h.IsListIter I ax i ∧ h.IsList ax items ∧ h.get? x1 = some o1) where
  sub := fun b hb => by simp at hb; simp [hb]
  frame := fun _ _ _ st hk => ⟨st.1.at fun o e => hk I (by simp) o e, st.2.1.at fun o e => hk ax (by simp) o e, hk x1 (by simp) _ st.2.2⟩
  item := fun i s Q E hi st hQ => by
    refine wpAny_pyNext_list_item st.1 st.2.1 (x := items[i]) (by simp [hi]) fun h' hit' hs' => ?_
    exact hQ _ h' s.toks (by simp [hi]) ⟨hit', st.2.1.extBut hs'.extBut hne, hs'.extBut x1 _ hxi st.2.2⟩ fun b o hb e => hs'.extBut b o (fun h => hb (by simp [h])) e
  done := fun s Q E st hQ => pyNext_list_end_hot ⟨hh, o1, vs1, st.2.2, d1, c1⟩ hxi st.1 st.2.1 (by simp) fun h' he' => hQ h' s.toks fun b o hb e => he' b o (fun h => hb (by simp [h])) e
  self := fun _ _ _ _ st hQ => wpAny_pyIter_listiter st.1 hQ
theorem cr_anyH {X : Cx} {a : Addr} {oe : Obj} {cls : Value} {d : Option Addr} {pn : List (Addr × Obj)} (hz : L2N.Zn cls d oe) (hf : ∃ vs, oe.data = .fields vs) : CallR (X.suite a ((a, oe) :: pn)) (.builtin "any") (rAny X.K) := by
  intro pins s σ H vs us Q I r h
  obtain ⟨l, bs, rfl, hs, q⟩ := h
  obtain ⟨its, rv, hl, _⟩ := I.list hs
  rw [Vals.ref1 r]
  have hb := rv.bls
  obtain ⟨vs1, d1⟩ := hf
  have c1 := hz.2.2 vs1 d1
  have g1 := (I.pin (a, oe) (List.mem_append.mpr (.inl List.mem_cons_self))).1
  refine call_any_walk (iter_any hl.isList fun s₂ e2 st hne => ?_)
  subst e2
  have hai : a ≠ s.heap.objs.size := Nat.ne_of_lt (Heap.lt_size g1)
  refine ⟨_, _, _, _, _, _, _, rfl, walks_listH (A := (X.suite a ((a, oe) :: pn)).A.in1) (x1 := a) (o1 := oe) rfl d1 c1 _ l hne hai its.toArray, ⟨st.1, st.2, Heap.get?_push_of_some _ g1⟩, truth_bools hb, fun h' tk hk => ?_⟩
  refine ⟨.bl _, H, I.kept fun b o eo => hk b o (fun hmem => ?_) (Heap.get?_push_of_some _ eo), ?_, q⟩
  · rcases List.mem_cons.mp hmem with e1 | hmem
    · exact absurd (e1 ▸ Heap.lt_size eo) (Nat.lt_irrefl _)
    · cases hmem
  · show Value.bool _ = Value.bool _
    rw [← L2.any_range, hb, List.size_toArray, List.length_map]
end TK
namespace TK
open PySem PySem.Spec PyProof.Rows L2 HotX
/-! ## canonical readings of a block -/
def tS0 (K : PySem.W.Frag) (mg : Str → Option Value) (W : WX) (f : SF) : TS := fun D σ H => ∃ (X : Cx) (G : Gh) (st : List SV) (pst : List SV) (pσ : List (Option V)) (o : Fl), X.K = K ∧ X.mg = mg ∧ noals pst ∧ Rep K G st σ pst pσ H ∧ f st = some o ∧ PostS X W G pst pσ D o
theorem SS.can {X : Cx} {W : WX} {ss : List Stmt} {f : SF} (h : SS X W ss f) : PSs X ss (tS0 X.K X.mg W f) := by
  obtain ⟨t, p, s⟩ := h
  refine ⟨fun pins s0 σ H D I q => ?_⟩
  obtain ⟨Y, G, st, pst, pσ, o, eK, eM, na, R, e, post⟩ := q
  refine p.run pins s0 σ H D I (s G st σ pst pσ H D o na R e ?_)
  cases o with
  | nx st' => exact fun σ' H' R' => post σ' H' (by rw [eK]; exact R')
  | rt r st' => exact fun v σ' H' R' => post v σ' H' (by rw [eK]; exact R')
  | bk st' => exact fun σ' H' R' => post σ' H' (by rw [eK]; exact R')
  | ct st' => exact fun σ' H' R' => post σ' H' (by rw [eK]; exact R')
  | ex x st' => exact fun σ' cls d H' ex R' => post σ' cls d H' (by rw [eM]; exact ex) (by rw [eK]; exact R')
/-! ## raise -/
def raiseF (n : Str) : SF := fun st => some (.ex ⟨n, []⟩ st)
theorem s1_raise {X : Cx} {W : WX} {C : Addr} {bmB : List Value} {B newId initId : String} {x m : Str} {j : Nat} {p p2 pos pos2 : Pos} (hc : X.calm = true) (tk : L2N.Takes X W) (F : ExcBaseFacts B newId initId bmB) (q : PySem.W.excIn X.K C bmB newId = true) (gC : X.mg x = some (.ref C)) (kC : PySem.W.keepIn X.K (.ref C) = true) (r : Raises X (.ref C)) (hg : Gl X x)
    (hdb : (x == ("__debug__" : Str)) = false := by decide) : S1 X W (.Raise (some (.Call (.Name x p) [.Constant (.str m) j p2] [] pos)) none pos2) (raiseF x) := by
  refine ⟨_, L2N.ps_raise hc tk (L2N.pmk_own F q gC kC r hg hdb), fun G st σ pst pσ H D o na R e post => ?_⟩
  cases e
  exact post σ (.ref C) none H ⟨C, gC, rfl, rfl⟩ R
end TK
namespace TK
open PySem PySem.Spec PyProof.Rows L2 HotX
/-! ## a slot for an exception -/
section
variable {K : PySem.W.Frag} {G : Gh} {st : List SV} {σ : Sg} {pst : List SV} {pσ : List (Option V)} {H : Hp} {i : Nat}
theorem rv_ints {Z : Addr → Prop} {q : Str × V} {p : Str × D} (hi : (match p.2 with | .int _ => true | _ => false) = true) (h : q.1 = p.1 ∧ RV (fun _ => False) H q.2 p.2) : q.1 = p.1 ∧ RV Z H q.2 p.2 := by
  obtain ⟨q1, q2⟩ := q
  obtain ⟨p1, p2⟩ := p
  obtain ⟨h1, h2⟩ := h
  refine ⟨h1, ?_⟩
  cases p2 <;> first | cases hi | skip
  dsimp only at h2 ⊢
  cases h2
  exact .int _
def intF (fs : List (Str × D)) : Bool := fs.all fun p => match p.2 with | .int _ => true | _ => false
theorem paired_ints {Z : Addr → Prop} : ∀ {vs : List (Str × V)} {fs : List (Str × D)}, intF fs = true → Paired (fun (q : Str × V) (p : Str × D) => q.1 = p.1 ∧ RV (fun _ => False) H q.2 p.2) vs fs →
    Paired (fun (q : Str × V) (p : Str × D) => q.1 = p.1 ∧ RV Z H q.2 p.2) vs fs
  | _, _, _, .nil => .nil
  | _, _, hi, .cons r t => by
    unfold intF at hi
    rw [List.all_cons, Bool.and_eq_true] at hi
    exact .cons (rv_ints hi.1 r) (paired_ints hi.2 t)
theorem Rep.setX {a : Addr} {d : Option Addr} {x : Ex} {mg : Str → Option Value} {cls : Value} (h : Rep K G st σ pst pσ H) (hi : st[i]? = some .emp) (hf : intF x.fs = true) (ex : ExOk mg x cls d H) : Rep K G (st.set i (.exc x a d)) (σ.set i (some (.ref a))) pst pσ H := by
  obtain ⟨fs, fp, F⟩ := h
  obtain ⟨v, f, e1, e2, q⟩ := F.slots.get hi
  have ef : f = [] := q
  subst ef
  have efs : fs.set i [] = fs := by
    refine List.ext_getElem? fun j => ?_
    rw [List.getElem?_set]
    split
    · rename_i e
      subst e
      split
      · exact e2.symm
      · rename_i hlt
        rw [List.getElem?_eq_none (by omega)]
    · rfl
  have hx : ExD (Zf G (fs.flatten ++ fp.flatten)) H d x.fs := by
    obtain ⟨C, _, _, ex⟩ := ex
    cases d with
    | none => exact ex
    | some dd =>
      obtain ⟨vs, e1, e2⟩ := ex
      refine ⟨fun z => ?_, vs, e1, paired_ints hf e2⟩
      have : ∃ o, H dd = some o ∧ isMut o = true := by
        rcases z with z | z
        · obtain ⟨⟨o, ho, hm⟩, hw⟩ := F.zxt dd z
          exact ⟨o, F.frame dd o ho hw, hm⟩
        · exact F.owned dd z
      obtain ⟨o, ho, hm⟩ := this
      rw [e1] at ho
      cases ho
      cases hm
  refine ⟨fs, fp, ⟨?_, ?_, F.nd, F.fresh, F.frame, F.there, F.zxt, fun sv hs => ?_, fun j hj => ?_⟩⟩
  · have := (F.slots.impB (Q := SlotOk K G (Zf G (fs.flatten ++ fp.flatten)) H (σ.set i (some (.ref a)))) fun a b c hb q => q.sig fun j e => by have := F.na b hb; rw [e] at this; cases this).set
      (show SlotOk K G (Zf G (fs.flatten ++ fp.flatten)) H (σ.set i (some (.ref a))) (some (.ref a)) (.exc x a d) [] from ⟨rfl, rfl, hx⟩) i
    rw [efs] at this
    exact this
  · refine F.pend.impB fun v b c hb q => ?_
    by_cases n : ∃ j, b = .al j
    · obtain ⟨j, rfl⟩ := n
      obtain ⟨s, hs, ho⟩ := F.alk j hb
      obtain ⟨q1, y, q2, q3⟩ := q
      refine ⟨q1, y, q2, ?_⟩
      rw [List.getElem?_set_ne]
      · exact q3
      · intro e
        rw [← e, hi] at hs
        cases hs
        cases ho
    · exact q.sig fun j e => n ⟨j, e⟩
  · rcases List.mem_or_eq_of_mem_set hs with hs | hs
    · exact F.na sv hs
    · rw [hs]; rfl
  · obtain ⟨s, hs, ho⟩ := F.alk j hj
    refine ⟨s, ?_, ho⟩
    rw [List.getElem?_set_ne]
    · exact hs
    · intro e
      rw [← e, hi] at hs
      cases hs
      cases ho
def isExc : SV → Bool
  | .exc _ _ _ => true
  | _ => false
theorem Rep.wipe {s : SV} (h : Rep K G st σ pst pσ H) (hi : st[i]? = some s) (he : isExc s = true) : Rep K G (st.set i .emp) (σ.set i none) pst pσ H := by
  obtain ⟨fs, fp, F⟩ := h
  obtain ⟨v, f, e1, e2, q⟩ := F.slots.get hi
  cases s <;> first | cases he | skip
  obtain ⟨ef, _⟩ := q
  subst ef
  have efs : fs.set i [] = fs := by
    refine List.ext_getElem? fun j => ?_
    rw [List.getElem?_set]
    split
    · rename_i e
      subst e
      split
      · exact e2.symm
      · rename_i hlt
        rw [List.getElem?_eq_none (by omega)]
    · rfl
  refine ⟨fs, fp, ⟨?_, ?_, F.nd, F.fresh, F.frame, F.there, F.zxt, fun sv hs => ?_, fun j hj => ?_⟩⟩
  · have := (F.slots.impB (Q := SlotOk K G (Zf G (fs.flatten ++ fp.flatten)) H (σ.set i none)) fun a b c hb q => q.sig fun j e => by have := F.na b hb; rw [e] at this; cases this).set
      (show SlotOk K G (Zf G (fs.flatten ++ fp.flatten)) H (σ.set i none) none .emp [] from rfl) i
    rw [efs] at this
    exact this
  · refine F.pend.impB fun v b c hb q => ?_
    by_cases n : ∃ j, b = .al j
    · obtain ⟨j, rfl⟩ := n
      obtain ⟨s, hs, ho⟩ := F.alk j hb
      obtain ⟨q1, y, q2, q3⟩ := q
      refine ⟨q1, y, q2, ?_⟩
      rw [List.getElem?_set_ne]
      · exact q3
      · intro e
        rw [← e, hi] at hs
        cases hs
        cases ho
    · exact q.sig fun j e => n ⟨j, e⟩
  · rcases List.mem_or_eq_of_mem_set hs with hs | hs
    · exact F.na sv hs
    · rw [hs]; rfl
  · obtain ⟨s, hs, ho⟩ := F.alk j hj
    refine ⟨s, ?_, ho⟩
    rw [List.getElem?_set_ne]
    · exact hs
    · intro e
      rw [← e, hi] at hs
      cases hs
      cases ho
end
/-! ## try .. except C as e -/
/-- slot i is empty behind the suite -/
def wipeF (i : Nat) : Fl → Option Fl
  | .nx st => if (st[i]?.any isExc) = true then some (.nx (st.set i .emp)) else none
  | .rt r st => if (st[i]?.any isExc) = true then some (.rt r (st.set i .emp)) else none
  | .bk st => if (st[i]?.any isExc) = true then some (.bk (st.set i .emp)) else none
  | .ct st => if (st[i]?.any isExc) = true then some (.ct (st.set i .emp)) else none
  | .ex _ _ => none
def suiteAns (i : Nat) (suite : Ex → Addr → Option Addr → SF) (x : Ex) (st1 : List SV) (o : Fl) : Prop := ∀ a d, ∃ o1, suite x a d (st1.set i (.exc x a d)) = some o1 ∧ wipeF i o1 = some o
open Classical in
noncomputable def tryF (i : Nat) (cs : Str → Option Bool) (body : SF) (suite : Ex → Addr → Option Addr → SF) : SF := fun st => match body st with
  | some (.ex x st1) => match cs x.name with
    | some true => if h : st1[i]? = some .emp ∧ intF x.fs = true ∧ ∃ o, suiteAns i suite x st1 o then some (Classical.choose h.2.2) else none
    | some false => some (.ex x st1)
    | none => none
  | o => o
theorem suiteAns_one {i : Nat} {suite : Ex → Addr → Option Addr → SF} {x : Ex} {st1 : List SV} {o o' : Fl} (h : suiteAns i suite x st1 o) (h' : suiteAns i suite x st1 o') : o = o' := by
  obtain ⟨o1, e1, e2⟩ := h 0 none
  obtain ⟨o2, e3, e4⟩ := h' 0 none
  rw [e1] at e3
  cases e3
  rw [e2] at e4
  cases e4
  rfl
theorem wF_try {i : Nat} {cs : Str → Option Bool} {body : SF} {suite : Ex → Addr → Option Addr → SF} {st st1 : List SV} {x : Ex} {o : Fl} (hb : body st = some (.ex x st1)) (hc : cs x.name = some true) (hi : st1[i]? = some .emp) (hf : intF x.fs = true)
    (hs : suiteAns i suite x st1 o) : tryF i cs body suite st = some o := by
  have h : st1[i]? = some .emp ∧ intF x.fs = true ∧ ∃ o, suiteAns i suite x st1 o := ⟨hi, hf, o, hs⟩
  unfold tryF
  rw [hb]
  dsimp only
  rw [hc]
  dsimp only
  rw [dif_pos h, suiteAns_one (Classical.choose_spec h.2.2) hs]
theorem wF_tryN {i : Nat} {cs : Str → Option Bool} {body : SF} {suite : Ex → Addr → Option Addr → SF} {st : List SV} {o : Fl} (hb : body st = some o) (hn : ∀ x st1, o ≠ .ex x st1) : tryF i cs body suite st = some o := by
  unfold tryF
  rw [hb]
  cases o <;> first | rfl | exact absurd rfl (hn _ _)
/-- which errors a clause takes -/
def CsOk (K : PySem.W.Frag) (mg : Str → Option Value) (c : Value) (cs : Str → Option Bool) : Prop := ∀ n b C, cs n = some b → mg n = some (.ref C) → PySem.W.exmOne K (.ref C) c = some b
theorem s1_try {X : Cx} {W : WX} {body suite : List Stmt} {b₀ : Stmt} {x n : Str} {np pos pos' : Pos} {i : Nat} {c : Value} {cs : Str → Option Bool} {fb : SF} {fs : Ex → Addr → Option Addr → SF}
    (hs : X.stack = X.env :: X.outer) (hf : X.env.frame = some X.env.locals) (hN : X.N.Nodup) (hi : X.N[i]? = some n) (hln : X.env.kindOf n = some .local) (hc : Names X x c) (hcs : CsOk X.K X.mg c cs) (tk : L2N.Takes X W)
    (hb : ∀ (W : WX) (pn : List (Addr × Obj)) (xe : Value → Shared → Prop), L2N.Takes (X.tr pn xe) W → PassesOwn (model X.prog X.w) X.A X.env xe → SS (X.tr pn xe) W body fb)
    (hsu : ∀ (x : Ex) (a : Addr) (oe : Obj) (cls : Value) (d : Option Addr) (pn : List (Addr × Obj)), X.mg x.name = some cls → L2N.Zn cls d oe → (∃ vs, oe.data = .fields vs) → SS (X.suite a ((a, oe) :: pn)) (fun _ _ _ _ => False) (b₀ :: suite) (fs x a d)) :
    S1 X W (.Try body [.ExceptHandler (some (.Name x np)) (some n) (b₀ :: suite) pos'] [] [] pos) (tryF i cs fb fs) := by
  refine ⟨_, L2N.ps_try_as (tb := fun W => tS0 X.K X.mg W fb) (ts := fun a cls d D σ H => ∃ x, X.mg x.name = some cls ∧ tS0 X.K X.mg (fun _ _ _ _ => False) (fs x a d) D σ H) hs hf hN hi hln hc tk (fun W pn xe tk hp => (hb W pn xe tk hp).can)
    (fun a oe cls d pn hz hf => ⟨fun pins s σ H D I h => h.elim fun x h => ((hsu x a oe cls d pn h.1 hz hf).can).run pins s σ H D I h.2⟩), fun G st σ pst pσ H D o na R hf post => ?_⟩
  unfold tryF at hf
  have same : ∀ o', fb st = some o' → (∀ x st1, o' ≠ .ex x st1) → o' = o → tS0 X.K X.mg (wAs X.K c i (fun a cls d D σ H => ∃ x, X.mg x.name = some cls ∧ tS0 X.K X.mg (fun _ _ _ _ => False) (fs x a d) D σ H) W D) fb D σ H := fun o' e nx eo => by
    subst eo
    refine ⟨X, G, st, pst, pσ, o', rfl, rfl, na, R, e, ?_⟩
    cases o' with
    | nx st' => exact post
    | rt r st' => exact post
    | bk st' => exact post
    | ct st' => exact post
    | ex x st' => exact absurd rfl (nx _ _)
  cases e : fb st with
  | none => rw [e] at hf; cases hf
  | some o' =>
    rw [e] at hf
    cases o' with
    | nx st' => cases hf; exact same _ e (fun _ _ z => by cases z) rfl
    | rt r st' => cases hf; exact same _ e (fun _ _ z => by cases z) rfl
    | bk st' => cases hf; exact same _ e (fun _ _ z => by cases z) rfl
    | ct st' => cases hf; exact same _ e (fun _ _ z => by cases z) rfl
    | ex x st1 =>
      dsimp only at hf
      refine ⟨X, G, st, pst, pσ, .ex x st1, rfl, rfl, na, R, e, fun σ' cls d H' ex R' => ?_⟩
      cases ec : cs x.name with
      | none => rw [ec] at hf; cases hf
      | some b =>
        rw [ec] at hf
        obtain ⟨C, mC, eC, _⟩ := id ex
        subst eC
        refine ⟨b, hcs _ _ _ ec mC, fun hb a ha => ?_, fun hb => ?_⟩
        · subst hb
          dsimp only at hf
          split at hf
          · rename_i h
            cases hf
            obtain ⟨o1, e1, e2⟩ := Classical.choose_spec h.2.2 a d
            refine ⟨x, mC, X, G, st1.set i (.exc x a d), pst, pσ, o1, rfl, rfl, na, R'.setX h.1 h.2.1 ex, e1, ?_⟩
            generalize Classical.choose h.2.2 = o at *
            have wp : ∀ {st' : List SV} {σ'' : Sg} {H'' : Hp} {ps : List SV} {pq : List (Option V)}, (st'[i]?.any isExc) = true → Rep X.K G st' σ'' ps pq H'' → Rep X.K G (st'.set i .emp) (σ''.set i none) ps pq H'' := fun {st' σ'' H'' ps pq} ha R'' => by
              cases es : st'[i]? with
              | none => rw [es] at ha; cases ha
              | some s => rw [es] at ha; exact R''.wipe es ha
            cases o1 with
            | nx st' =>
              dsimp only [wipeF] at e2
              split at e2
              · rename_i hx; cases e2; exact fun σ'' H'' R'' => post _ _ (wp hx R'')
              · cases e2
            | rt r st' =>
              dsimp only [wipeF] at e2
              split at e2
              · rename_i hx; cases e2; exact fun v σ'' H'' R'' => post v _ _ (wp hx R'')
              · cases e2
            | bk st' =>
              dsimp only [wipeF] at e2
              split at e2
              · rename_i hx; cases e2; exact fun σ'' H'' R'' => post _ _ (wp hx R'')
              · cases e2
            | ct st' =>
              dsimp only [wipeF] at e2
              split at e2
              · rename_i hx; cases e2; exact fun σ'' H'' R'' => post _ _ (wp hx R'')
              · cases e2
            | ex x' st' => cases e2
          · cases hf
        · subst hb
          cases hf
          exact post σ' _ d H' ex R'
end TK

namespace TK
open PySem PySem.Spec PyProof.Rows L2 HotX
/-! ## what is told of the classes of errors -/
structure XcOk (K : PySem.W.Frag) (D : Addr) : Prop where
  hc : PySem.W.isClsIn K D = true
  hd : PySem.W.hasDictIn K D = true
  hg : PySem.W.findIn K (.ref D) "__getattribute__" = some (some (.builtin "BaseException.__getattribute__"))
  hk : PySem.W.findIn K (.ref D) "__getattr__" = some none
  hs : PySem.W.subIn K (.ref D) (.type "BaseException") = some true
  ha : PySem.W.findIn K (.ref D) "__class__" = some (some (.builtin "object.__class__"))
  hm : PySem.W.mroIn K D (.type "object") = some true
  ht : PySem.W.typeIn K (.ref D) = some (.type "type")
structure XcAll (K : PySem.W.Frag) : Prop where
  hn : PySem.W.specialIn K (.builtin "object.__class__") "__get__" = some (some (.builtin "getset_descriptor.__get__"))
  ht : PySem.W.takesIn K (.builtin "object.__class__") = some true
/-- the class named n -/
def XcAt (K : PySem.W.Frag) (mg : Str → Option Value) (n : Str) : Prop := ∃ D, mg n = some (.ref D) ∧ XcOk K D
/-- isinstance of an error of the class n with the class c -/
def CvOf (mg : Str → Option Value) (c : Str) (cv : Value) : Prop := mg c = some cv ∨ (mg c = none ∧ bootBuiltins c = some cv)
theorem CvOf.one {mg : Str → Option Value} {c : Str} {u v : Value} (h : CvOf mg c u) (h' : CvOf mg c v) : u = v := by
  rcases h with h | ⟨h, h1⟩ <;> rcases h' with h' | ⟨h', h2⟩
  · rw [h] at h'; cases h'; rfl
  · rw [h] at h'; cases h'
  · rw [h] at h'; cases h'
  · rw [h1] at h2; cases h2; rfl
def IsaOk (K : PySem.W.Frag) (mg : Str → Option Value) (p : (Str × Str) × Bool) : Prop := ∃ D cv, mg p.1.1 = some (.ref D) ∧ XcOk K D ∧ CvOf mg p.1.2 cv ∧ PySem.W.kitOne K (.ref D) cv = some p.2
def rIsH (K : PySem.W.Frag) (cls : Value) (d : Option Addr) (a : Addr) : List V → Hp → VK → Prop := fun xs H Q => ∃ (c : V) (cv : Value) (D : Addr) (b : Bool), xs = [.ref a, c] ∧ cls = .ref D ∧ XcOk K D ∧ XcAll K ∧ (∀ u, RelV c u → u = cv) ∧
  (∀ dd, d = some dd → ∃ vs, H dd = some (.xd vs)) ∧ PySem.W.kitOne K (.ref D) cv = some b ∧ Q (.bl b) H
theorem call_isH {X : Cx} {a : Addr} {oe : Obj} {cls : Value} {d : Option Addr} {pn : List (Addr × Obj)} (hz : L2N.Zn cls d oe) (hf : ∃ vs, oe.data = .fields vs) : CallR (X.suite a ((a, oe) :: pn)) (.builtin "isinstance") (rIsH X.K cls d a) := by
  intro pins s σ H xs us Q I r h
  obtain ⟨c, cv, D, b, rfl, eD, C, CA, hcv, hd, e, q⟩ := h
  subst eD
  cases r with
  | cons rx rr =>
    cases rr with
    | cons rt rr =>
      cases rr
      cases rx
      have ec := hcv _ rt
      subst ec
      obtain ⟨hget, _⟩ := I.pin (a, oe) (List.mem_append.mpr (.inl List.mem_cons_self))
      obtain ⟨vs, hv⟩ := hf
      have J : ∃ od, PySem.W.InstAt s.heap a oe D od := by
        cases d with
        | none => exact ⟨none, hget, hz.1, by unfold PySem.W.notCls; rw [hv] <;> rfl, by rw [hz.2.1]; exact trivial⟩
        | some dd =>
          obtain ⟨fs, ea⟩ := hd dd rfl
          obtain ⟨mA, hns, _⟩ := (I.hok dd _ ea : ObjOk X.prog X.w H s.heap dd (.xd fs))
          obtain ⟨od, ho, _⟩ := lookIn_ns hns
          exact ⟨some od, hget, hz.1, by unfold PySem.W.notCls; rw [hv] <;> rfl, by rw [hz.2.1]; exact ho⟩
      obtain ⟨od, J⟩ := J
      exact PySem.W.kia_one (PySem.W.kitx_exc C.hc C.hg C.hk C.hs C.ha CA.hn CA.ht C.hm) I.kIn J e (fun z => nomatch z) fun tk => ⟨.bl b, H, I.kept (t' := tk) fun _ _ z => z, rfl, q⟩

/-- a class by its name -/
def CvAt (X : Cx) (c : Str) (p2 : Pos) : Prop := ∃ v cv, PE X (.Name c p2) (tC v) ∧ (∀ u, RelV v u → u = cv) ∧ CvOf X.mg c cv
theorem cv_cls {X : Cx} {c : Str} {p2 : Pos} {C : Addr} (hg : Gl X c) (hm : X.mg c = some (.ref C)) (hd : (c == ("__debug__" : Str)) = false := by decide) : CvAt X c p2 :=
  ⟨.ref C, .ref C, pe_glob (v := .ref C) hg hm rfl hd, fun u r => r, .inl hm⟩
theorem cv_ty {X : Cx} {c : Str} {p2 : Pos} {T : String} (hg : Gl X c) (hm : X.mg c = none) (hv : bootBuiltins c = some (.type T)) (hn : c ≠ "__name__" := by decide) (hd : (c == ("__debug__" : Str)) = false := by decide) : CvAt X c p2 :=
  ⟨.ty T, .type T, pe_bltn (v := .ty T) hg hm hv rfl hn hd, fun u r => r, .inr ⟨hm, hv⟩⟩
def isES (tab : List ((Str × Str) × Bool)) (i : Nat) (c : Str) (x : Ex) (a : Addr) (d : Option Addr) : SM SV := fun st => match st[i]? with
  | some (.exc _ a' d') => if a' = a ∧ d' = d then match tab.lookup (x.name, c) with
    | some b => some (.ok (.val (.bool b)) st)
    | none => none
    else none
  | _ => none
theorem lookup_mem {α β : Type} [BEq α] [LawfulBEq α] {k : α} {v : β} : ∀ {l : List (α × β)}, l.lookup k = some v → (k, v) ∈ l
  | [], h => by cases h
  | (a, b) :: l, h => by
    rw [List.lookup_cons] at h
    split at h
    · rename_i e
      cases h
      rw [eq_of_beq e]
      exact List.mem_cons_self
    · exact List.mem_cons_of_mem _ (lookup_mem h)
section
variable {X : Cx} {W : WX} {a : Addr} {oe : Obj} {cls : Value} {d : Option Addr} {pn : List (Addr × Obj)} {x : Ex} {i : Nat} {n c : Str} {pos p p1 p2 : Pos} {tab : List ((Str × Str) × Bool)}
theorem se_isE (hz : L2N.Zn cls d oe) (hf : ∃ vs, oe.data = .fields vs) (hx : X.mg x.name = some cls) (hT : ∀ q ∈ tab, IsaOk X.K X.mg q) (hA : XcAll X.K) (hg : Gl X "isinstance") (hm : X.mg "isinstance" = none)
    (hv : PE (X.suite a ((a, oe) :: pn)) (.Name n p1) (tVar i)) (hc : CvAt (X.suite a ((a, oe) :: pn)) c p2)
    (hst : starEach [.Name n p1, .Name c p2] X.env = (false, eval (.Name n p1) X.env) :: starEach [.Name c p2] X.env := by rfl) (hst2 : starEach [.Name c p2] X.env = (false, eval (.Name c p2) X.env) :: starEach [] X.env := by rfl)
    (h3 : (backTo pos (starEach [.Name c p2] X.env)).any (·.1) = false := by rfl) : SE (X.suite a ((a, oe) :: pn)) W (.Call (.Name "isinstance" p) [.Name n p1, .Name c p2] [] pos) (isES tab i c x a d) := by
  obtain ⟨v, cv, pc, rc, vc⟩ := hc
  refine ⟨_, pe_callB (r := rIsH X.K cls d a) (call_isH hz hf) hg hm (by decide +kernel) (pa_cons hv (pa_cons pc pa_nil hst2) hst) (by decide) (by decide) hst h3, fun G st σ pst pσ H Q o R hf post => ?_⟩
  unfold isES at hf
  split at hf
  · rename_i x' a' d' es
    split at hf
    · rename_i ea
      obtain ⟨rfl, rfl⟩ := ea
      split at hf
      · rename_i b eb
        cases hf
        obtain ⟨fs, fp, F⟩ := id R
        obtain ⟨y, f, e1, e2, q⟩ := F.slots.get es
        obtain ⟨_, ey, hD⟩ := q
        subst ey
        obtain ⟨D, cv', mD, hXc, hcv, kit⟩ := hT _ (lookup_mem eb)
        have eD : cls = .ref D := by rw [hx] at mD; cases mD; rfl
        have ec : cv' = cv := hcv.one vc
        subst ec
        refine ⟨.ref a', e1, ?_⟩
        refine ⟨v, cv', D, b, rfl, eD, hXc, hA, rc, fun dd e => ?_, kit, post _ H (R.pushB _)⟩
        subst e
        obtain ⟨_, vs, hH, _⟩ := hD
        exact ⟨vs, hH⟩
      · cases hf
    · cases hf
  · cases hf
theorem se_anyH {e : Expr} {f : SM SV} (hz : L2N.Zn cls d oe) (hf : ∃ vs, oe.data = .fields vs) (hg : Gl X "any") (hm : X.mg "any" = none) (ha : SE (X.suite a ((a, oe) :: pn)) W e f) (hst : starEach [e] X.env = (false, eval e X.env) :: starEach [] X.env := by rfl) (h3 : (backTo pos (starEach [] X.env)).any (·.1) = false := by rfl) :
    SE (X.suite a ((a, oe) :: pn)) W (.Call (.Name "any" p) [e] [] pos) (call1 anyS f) :=
  se_c1 (fun _ pa => pe_callB (cr_anyH hz hf) hg hm (by decide +kernel) pa (by decide) (by decide) hst h3) c1_any ha hst
/-- e.f, e an error of the class cn -/
def fldES (cn : Str) (i : Nat) (n : Str) (x : Ex) (a : Addr) (d : Option Addr) : SM SV := fun st => match st[i]? with
  | some (.exc x' a' d') => if a' = a ∧ d' = d ∧ x.name = cn then match x'.fs.lookup n with
    | some (.int k) => some (.ok (.val (.int k)) st)
    | _ => none
    else none
  | _ => none
theorem lookup_paired {Z : Addr → Prop} {H : Hp} {n : Str} {k : Int} : ∀ {vs : List (Str × V)} {fs : List (Str × D)}, Paired (fun (q : Str × V) (p : Str × D) => q.1 = p.1 ∧ RV Z H q.2 p.2) vs fs → fs.lookup n = some (.int k) → vs.lookup n = some (.int k)
  | _, _, .nil, h => by cases h
  | _, _, .cons (a := (q1, q2)) (b := (p1, p2)) r t, h => by
    obtain ⟨e, r⟩ := r
    dsimp only at e r
    subst e
    rw [List.lookup_cons] at h ⊢
    cases eq : (n == q1) with
    | true =>
      rw [eq] at h
      dsimp only at h ⊢
      cases h
      cases r
      rfl
    | false =>
      rw [eq] at h
      dsimp only at h ⊢
      exact lookup_paired t h
theorem se_fldE {e : Expr} {cn : Str} {C : Addr} (hz : L2N.Zn cls d oe) (hf : ∃ vs, oe.data = .fields vs) (hx : X.mg x.name = some cls) (hC : X.mg cn = some (.ref C)) (T : XcOk X.K C) (hno : PySem.W.findIn X.K (.ref C) n = some none)
    (hv : PE (X.suite a ((a, oe) :: pn)) e (tVar i)) (hb : attributeBase e n X.env (eval e X.env) = eval e X.env := by rfl) : SE (X.suite a ((a, oe) :: pn)) W (.Attribute e n pos) (fldES cn i n x a d) := by
  refine ⟨_, pe_xf (C := C) ⟨T.hg, T.hk, T.hs, T.hd⟩ hno hz.zc hf hv hb, fun G st σ pst pσ H Q o R hf post => ?_⟩
  unfold fldES at hf
  split at hf
  · rename_i x' a' d' es
    split at hf
    · rename_i ea
      obtain ⟨rfl, rfl, en⟩ := ea
      split at hf
      · rename_i k ek
        cases hf
        obtain ⟨fs, fp, F⟩ := id R
        obtain ⟨y, f, e1, e2, q⟩ := F.slots.get es
        obtain ⟨_, ey, hD⟩ := q
        subst ey
        refine ⟨.ref a', e1, rfl, ?_, ?_⟩
        · rw [en, hC] at hx; cases hx; rfl
        · cases d' with
          | none =>
            have : x'.fs = [] := hD
            rw [this] at ek
            cases ek
          | some dd =>
            obtain ⟨_, vs, hH, pp⟩ := hD
            exact ⟨dd, vs, .int k, rfl, hH, lookup_paired pp ek, post _ H (R.pushI _)⟩
      · cases hf
    · cases hf
  · cases hf
end
end TK
namespace TK
open PySem PySem.Spec PyProof.Rows L2
theorem csOk_of {K : PySem.W.Frag} {mg : Str → Option Value} {C : Addr} {tab : List (Str × Bool)} (hx : XcOk K C) (h : ∀ q ∈ tab, ∃ D, mg q.1 = some (.ref D) ∧ PySem.W.subIn K (.ref D) (.ref C) = some q.2) : CsOk K mg (.ref C) (fun n => tab.lookup n) := by
  intro n b E hn hm
  obtain ⟨D, h1, h2⟩ := h _ (lookup_mem hn)
  rw [hm] at h1
  cases h1
  exact PySem.W.exm_ref hx.hs hx.hd hx.ht h2
end TK

/-! ## dicts of their own, keys ints (t = false) or tuples of ints (t = true) -/
namespace TK
open PySem PySem.Spec PyProof.Rows L2
def dGet {α : Type} (kvs : List (List Int × α)) (k : List Int) : Option α := (kvs.find? fun kv => decide (kv.1 = k)).map (·.2)
def dPut {α : Type} (kvs : List (List Int × α)) (k : List Int) (v : α) : List (List Int × α) :=
  if (kvs.any fun kv => decide (kv.1 = k)) = true then kvs.map (fun kv => if kv.1 = k then (kv.1, v) else kv) else kvs ++ [(k, v)]
def keyOf : D → Option (Bool × List Int)
  | .int k => some (false, [k])
  | .tuple ds => (intsOf ds).map fun ns => (true, ns)
  | _ => none
abbrev RD (Z : Addr → Prop) (H : Hp) (es : List (List Int × V)) (kvs : List (List Int × D)) : Prop := Paired (fun (q : List Int × V) (p : List Int × D) => q.1 = p.1 ∧ RV Z H q.2 p.2) es kvs
section
variable {Z : Addr → Prop} {H : Hp}
theorem rd_of : ∀ {kvs : List (List Int × D)} {vs : List V}, RVs Z H vs (kvs.map (·.2)) → ∃ es, RD Z H es kvs ∧ (kvs.map (·.1)).zip vs = es ∧ es.map (·.2) = vs
  | [], _, h => by cases h; exact ⟨[], .nil, rfl, rfl⟩
  | p :: kvs, _, h => by
    cases h with
    | cons h1 h2 =>
      obtain ⟨es, r, e1, e2⟩ := rd_of h2
      exact ⟨_ :: es, .cons (a := (p.1, _)) ⟨rfl, h1⟩ r, by rw [List.map_cons, List.zip_cons_cons, e1], by rw [List.map_cons, e2]⟩
theorem rd_to : ∀ {es : List (List Int × V)} {kvs : List (List Int × D)}, RD Z H es kvs → (kvs.map (·.1)).zip (es.map (·.2)) = es ∧ RVs Z H (es.map (·.2)) (kvs.map (·.2)) ∧ es.length = kvs.length
  | _, _, .nil => ⟨rfl, .nil, rfl⟩
  | (q1, q2) :: es, (p1, p2) :: kvs, .cons r t => by
    obtain ⟨e, r⟩ := r
    dsimp only at e r
    subst e
    obtain ⟨h1, h2, h3⟩ := rd_to t
    exact ⟨by rw [List.map_cons, List.map_cons, List.zip_cons_cons, h1], .cons r h2, by simp [h3]⟩
theorem rd_get {k : List Int} : ∀ {es : List (List Int × V)} {kvs : List (List Int × D)}, RD Z H es kvs → (dGet kvs k = none ∧ dGet es k = none) ∨ ∃ v d, dGet kvs k = some d ∧ dGet es k = some v ∧ RV Z H v d
  | _, _, .nil => .inl ⟨rfl, rfl⟩
  | (q1, q2) :: es, (p1, p2) :: kvs, .cons r t => by
    obtain ⟨e, r⟩ := r
    dsimp only at e r
    subst e
    by_cases h : q1 = k
    · exact .inr ⟨q2, p2, by simp [dGet, List.find?_cons, h], by simp [dGet, List.find?_cons, h], r⟩
    · have e1 : dGet ((q1, p2) :: kvs) k = dGet kvs k := by simp [dGet, List.find?_cons, h]
      have e2 : dGet ((q1, q2) :: es) k = dGet es k := by simp [dGet, List.find?_cons, h]
      rw [e1, e2]
      exact rd_get t
theorem rd_any {k : List Int} : ∀ {es : List (List Int × V)} {kvs : List (List Int × D)}, RD Z H es kvs → (es.any fun kv => decide (kv.1 = k)) = (kvs.any fun kv => decide (kv.1 = k))
  | _, _, .nil => rfl
  | (q1, q2) :: es, (p1, p2) :: kvs, .cons r t => by
    obtain ⟨e, r⟩ := r
    dsimp only at e r
    subst e
    rw [List.any_cons, List.any_cons, rd_any t]
theorem rd_map {k : List Int} {v : V} {d : D} (r : RV Z H v d) : ∀ {es : List (List Int × V)} {kvs : List (List Int × D)}, RD Z H es kvs → RD Z H (es.map (fun kv => if kv.1 = k then (kv.1, v) else kv)) (kvs.map (fun kv => if kv.1 = k then (kv.1, d) else kv))
  | _, _, .nil => .nil
  | (q1, q2) :: es, (p1, p2) :: kvs, .cons r' t => by
    obtain ⟨e, r'⟩ := r'
    dsimp only at e r'
    subst e
    rw [List.map_cons, List.map_cons]
    by_cases h : q1 = k
    · simp only [h, if_true]; exact .cons ⟨rfl, r⟩ (rd_map r t)
    · simp only [h, if_false]; exact .cons ⟨rfl, r'⟩ (rd_map r t)
theorem rd_snoc {q : List Int × V} {p : List Int × D} (r : q.1 = p.1 ∧ RV Z H q.2 p.2) : ∀ {es : List (List Int × V)} {kvs : List (List Int × D)}, RD Z H es kvs → RD Z H (es ++ [q]) (kvs ++ [p])
  | _, _, .nil => .cons r .nil
  | _, _, .cons r' t => .cons r' (rd_snoc r t)
theorem rd_put {k : List Int} {v : V} {d : D} (r : RV Z H v d) {es : List (List Int × V)} {kvs : List (List Int × D)} (h : RD Z H es kvs) : RD Z H (dPut es k v) (dPut kvs k d) := by
  unfold dPut
  rw [rd_any h]
  split
  · exact rd_map r h
  · exact rd_snoc ⟨rfl, r⟩ h
end
theorem valV_map {κ : Type} [DecidableEq κ] (f : List Int → κ) {k : List Int} : ∀ {es : List (List Int × V)}, (∀ p ∈ es, f p.1 = f k → p.1 = k) → valV (es.map fun p => (f p.1, p.2)) (f k) = dGet es k
  | [], _ => rfl
  | p :: es, h => by
    rw [List.map_cons]
    by_cases e : p.1 = k
    · rw [valV_pos (by rw [e])]
      simp [dGet, List.find?_cons, e]
    · rw [valV_neg (fun z => e (h p (by simp) z)), valV_map f fun q hq => h q (by simp [hq])]
      simp [dGet, List.find?_cons, e]
theorem putK_map {κ : Type} [DecidableEq κ] (f : List Int → κ) {k : List Int} {v : V} {es : List (List Int × V)} (h : ∀ p ∈ es, f p.1 = f k → p.1 = k) : putK (es.map fun p => (f p.1, p.2)) (f k) v = (dPut es k v).map fun p => (f p.1, p.2) := by
  have ha : ((es.map fun p => (f p.1, p.2)).any fun kv => decide (kv.1 = f k)) = es.any fun kv => decide (kv.1 = k) := by
    rw [List.any_map, Bool.eq_iff_iff, List.any_eq_true, List.any_eq_true]
    constructor
    · rintro ⟨p, hp, e⟩; exact ⟨p, hp, by simpa using h p hp (by simpa using e)⟩
    · rintro ⟨p, hp, e⟩; exact ⟨p, hp, by have : p.1 = k := by simpa using e
                                          simp [this]⟩
  unfold putK dPut
  rw [ha]
  split
  · rw [List.map_map, List.map_map]
    refine List.map_congr_left fun p hp => ?_
    show (if f p.1 = f k then (f p.1, v) else (f p.1, p.2)) = _
    by_cases e : p.1 = k
    · simp [e]
    · have : ¬ f p.1 = f k := fun z => e (h p hp z)
      simp [e, this]
  · rw [List.map_append]
    rfl
end TK

namespace TK
open PySem PySem.Spec PyProof.Rows L2
def keysOk {α : Type} (t : Bool) (kvs : List (List Int × α)) (k : List Int) : Bool := t || (k.length == 1 && kvs.all fun p => p.1.length == 1)
theorem rd_keys {Z : Addr → Prop} {H : Hp} {t : Bool} {k : List Int} : ∀ {es : List (List Int × V)} {kvs : List (List Int × D)}, RD Z H es kvs → keysOk t kvs k = true → keysOk t es k = true
  | _, _, .nil, h => h
  | (q1, q2) :: es, (p1, p2) :: kvs, .cons r tt, h => by
    obtain ⟨e, r⟩ := r
    dsimp only at e r
    subst e
    unfold keysOk at h ⊢
    cases t with
    | true => rfl
    | false =>
      simp only [Bool.false_or, Bool.and_eq_true, List.all_cons] at h ⊢
      have := rd_keys (t := false) (k := k) tt (by unfold keysOk; simp only [Bool.false_or, Bool.and_eq_true]; exact ⟨h.1, h.2.2⟩)
      unfold keysOk at this
      simp only [Bool.false_or, Bool.and_eq_true] at this
      exact ⟨h.1, h.2.1, this.2⟩
theorem inlInj : ∀ {a b : List Int}, a.map (Sum.inl : Int → Key) = b.map Sum.inl → a = b
  | [], [], _ => rfl
  | [], _ :: _, h => by cases h
  | _ :: _, [], h => by cases h
  | x :: a, y :: b, h => by
    rw [List.map_cons, List.map_cons] at h
    obtain ⟨h1, h2⟩ := List.cons.inj h
    rw [Sum.inl.inj h1, inlInj h2]
theorem headInj {a b : List Int} (ha : a.length = 1) (hb : b.length = 1) (h : (Sum.inl (a.headD 0) : Key) = Sum.inl (b.headD 0)) : a = b := by
  match a, b, ha, hb with
  | [x], [y], _, _ => simpa using h
/-- reading -/
theorem dget_at {Z : Addr → Prop} {H : Hp} {p : Addr} {t : Bool} {es : List (List Int × V)} {kvs : List (List Int × D)} {k : List Int} {y : V} (hp : H p = some (dctO t (kvs.map (·.1)) (es.map (·.2)))) (r : RD Z H es kvs) (ok : keysOk t kvs k = true)
    (hy : if t = true then ∃ b, y = .ref b ∧ H b = some (.tup (k.map V.int)) else y = .int (k.headD 0)) : DGet H p y (dGet es k) := by
  have e1 := (rd_to r).1
  have ok2 := rd_keys r ok
  unfold dctO at hp
  rw [e1] at hp
  cases t with
  | true =>
    simp only [if_true] at hp hy
    obtain ⟨b, rfl, hb⟩ := hy
    refine .inr ⟨_, k.map Sum.inl, b, .inl hp, rfl, by rw [hb, List.map_map]; rfl, ?_⟩
    exact (valV_map (fun l => l.map Sum.inl) fun _ _ z => inlInj z).symm
  | false =>
    simp only [Bool.false_eq_true, if_false] at hp hy
    subst hy
    unfold keysOk at ok2
    simp only [Bool.false_or, Bool.and_eq_true, beq_iff_eq, List.all_eq_true] at ok2
    refine .inl ⟨_, Sum.inl (k.headD 0), .inl hp, rfl, ?_⟩
    exact (valV_map (fun l => (Sum.inl (l.headD 0) : Key)) fun q hq z => headInj (ok2.2 q hq) ok2.1 z).symm
theorem dput_at {Z : Addr → Prop} {H : Hp} {p : Addr} {t : Bool} {es : List (List Int × V)} {kvs : List (List Int × D)} {k : List Int} {y v : V} {d : D} (hp : H p = some (dctO t (kvs.map (·.1)) (es.map (·.2)))) (r : RD Z H es kvs) (rv : RV Z H v d) (ok : keysOk t kvs k = true) (hl : kvs.length < sizeLine)
    (hy : if t = true then ∃ b, y = .ref b ∧ H b = some (.tup (k.map V.int)) else y = .int (k.headD 0)) : DPut H p y v (upd H p (dctO t ((dPut kvs k d).map (·.1)) ((dPut es k v).map (·.2)))) := by
  have e1 := (rd_to r).1
  have e2 := (rd_to (rd_put (k := k) rv r)).1
  have ok2 := rd_keys r ok
  have el := (rd_to r).2.2
  unfold dctO at hp ⊢
  rw [e1] at hp
  rw [e2]
  cases t with
  | true =>
    simp only [if_true] at hp hy ⊢
    obtain ⟨b, rfl, hb⟩ := hy
    refine .inr ⟨_, k.map Sum.inl, b, hp, rfl, by rw [hb, List.map_map]; rfl, by rw [List.length_map]; omega, ?_⟩
    rw [← putK_map (fun l => l.map Sum.inl) fun _ _ z => inlInj z]
  | false =>
    simp only [Bool.false_eq_true, if_false] at hp hy ⊢
    subst hy
    unfold keysOk at ok2
    simp only [Bool.false_or, Bool.and_eq_true, beq_iff_eq, List.all_eq_true] at ok2
    refine .inl ⟨_, Sum.inl (k.headD 0), hp, rfl, by rw [List.length_map]; omega, ?_⟩
    rw [← putK_map (fun l => (Sum.inl (l.headD 0) : Key)) fun q hq z => headInj (ok2.2 q hq) ok2.1 z]
end TK

namespace TK
open PySem PySem.Spec PyProof.Rows L2
section
variable {K : PySem.W.Frag} {G : Gh} {fs fp : List (List Addr)} {st : List SV} {σ : Sg} {pst : List SV} {pσ : List (Option V)} {H H' : Hp}
theorem dctO_nil (t : Bool) : dctO t (([] : List (List Int × D)).map (·.1)) [] = if t then .dT [] else .dK [] := by cases t <;> rfl
theorem RepF.newDct {p : Addr} {t : Bool} {o : HO} (ho : o = dctO t (([] : List (List Int × D)).map (·.1)) []) (h : RepF K G fs fp st σ pst pσ H) (hp : H p = none) :
    RepF K G fs ([p] :: fp) st σ (.dct t [] :: pst) (some (.ref p) :: pσ) (upd H p o) := by
  have em : ∀ a, a ∈ fs.flatten ++ ([p] :: fp).flatten → a ∈ fs.flatten ++ fp.flatten ∨ a = p := fun a ha => by
    simp only [List.flatten_cons, List.mem_append, List.mem_singleton, List.singleton_append, List.mem_cons] at ha ⊢
    rcases ha with ha | ha | ha
    · exact .inl (.inl ha)
    · exact .inr ha
    · exact .inl (.inr ha)
  have k : Keep (Zf G (fs.flatten ++ fp.flatten)) (Zf G (fs.flatten ++ ([p] :: fp).flatten)) H (upd H p o) := h.keepNew hp fun a z => by
    rcases z with z | z
    · exact .inl (.inl z)
    · exact (em a z).imp .inr id
  have hl := h.laid (o := o) hp
  have hn : ∀ a ∈ fs.flatten ++ fp.flatten, upd H p o a = H a := fun a ha => by
    obtain ⟨xs, e, _⟩ := h.owned a ha
    rw [upd_ne (ne_of_none e hp)]
  refine ⟨h.slots.imp fun a b c hc q => q.frame k fun x hx => hn x (List.mem_append_left _ (mem_ff hc hx)), .cons ⟨p, [], rfl, rfl, by rw [upd_same, ho], .nil⟩ (h.pend.imp fun a b c hc q => q.frame k fun x hx => hn x (List.mem_append_right _ (mem_ff hc hx))), ?_, fun a ha => ?_, hl.frame, hl.there, h.zxt, h.na, fun i hi => h.alk i ((List.mem_cons.mp hi).elim (fun e => nomatch e) id)⟩
  · rw [List.flatten_cons]
    have np : p ∉ fs.flatten ++ fp.flatten := fun z => h.notZ hp (.inr z)
    have q : (p :: (fs.flatten ++ fp.flatten)).Nodup := List.nodup_cons.mpr ⟨np, h.nd⟩
    refine (List.Perm.nodup_iff ?_).mp q
    show (p :: (fs.flatten ++ fp.flatten)).Perm (fs.flatten ++ ([p] ++ fp.flatten))
    exact List.perm_middle.symm
  · rcases em a ha with ha | ha
    · exact h.fresh a ha
    · subst ha
      exact ⟨.inr (h.h0 hp), fun z => h.notZ hp (.inl z)⟩
theorem RepF.dctAt {i : Nat} {t : Bool} {kvs : List (List Int × D)} (h : RepF K G fs fp st σ pst pσ H) (hi : st[i]? = some (.dct t kvs)) :
    ∃ p es, σ[i]? = some (some (.ref p)) ∧ fs[i]? = some [p] ∧ H p = some (dctO t (kvs.map (·.1)) (es.map (·.2))) ∧ RD (Zf G (fs.flatten ++ fp.flatten)) H es kvs := by
  obtain ⟨v, f, e1, e2, p, vs, rfl, rfl, hp, r⟩ := h.slots.get hi
  obtain ⟨es, rd, ez, em⟩ := rd_of r
  exact ⟨p, es, e1, e2, by rw [em]; exact hp, rd⟩
theorem RepF.mutD {i : Nat} {t : Bool} {kvs kvs' : List (List Int × D)} {vs' : List V} (h : RepF K G fs fp st σ pst pσ H) (hi : st[i]? = some (.dct t kvs)) {p : Addr} (hσ : σ[i]? = some (some (.ref p)))
    (r : RVs (Zf G (fs.flatten ++ fp.flatten)) H vs' (kvs'.map (·.2))) : RepF K G fs fp (st.set i (.dct t kvs')) σ pst pσ (upd H p (dctO t (kvs'.map (·.1)) vs')) := by
  obtain ⟨p', es, e1, e2, h1, h2⟩ := h.dctAt hi
  rw [hσ] at e1
  cases e1
  have hm : p ∈ fs.flatten := mem_ff (List.mem_of_getElem? e2) (by simp)
  have k := h.keepMut (o := dctO t (kvs'.map (·.1)) vs') (List.mem_append_left _ hm)
  have nd1 : fs.flatten.Nodup := (List.nodup_append.mp h.nd).1
  have q := h.slots.impSet (Q := SlotOk K G (Zf G (fs.flatten ++ fp.flatten)) (upd H p (dctO t (kvs'.map (·.1)) vs')) σ) i (a := some (.ref p)) (b := .dct t kvs') (c := [p]) ⟨p, vs', rfl, rfl, upd_same, RVs.frame k _ _ r⟩
    fun j a b c hj hc q => q.frame k fun x hx => upd_ne fun e => flat_apart (a := p) nd1 e2 hc (Ne.symm hj) (by simp) (by rw [e] at hx; exact hx)
  rw [set_same hσ, set_same e2] at q
  refine ⟨q, h.pend.imp fun a b c hc q => q.frame k fun x hx => upd_ne fun e => (List.nodup_append.mp h.nd).2.2 p hm x (mem_ff hc hx) e.symm, h.nd, h.fresh, fun a o e w => ?_, fun a e => ?_, h.zxt, fun sv hs => (List.mem_or_eq_of_mem_set hs).elim (h.na sv) fun e => by rw [e]; rfl, fun j hj => ?_⟩
  · have q := h.frame a o e w
    have na : a ≠ p := fun z => by
      subst z
      rcases (h.fresh a (List.mem_append_left _ hm)).1 with z | z
      · exact w z
      · rw [z] at e; cases e
    rw [upd_ne na]; exact q
  · by_cases ea : a = p
    · subst ea; rw [upd_same]; simp
    · rw [upd_ne ea]; exact h.there a e
  · obtain ⟨s, e, q⟩ := h.alk j hj
    by_cases ej : i = j
    · subst ej
      exact ⟨_, List.getElem?_set_self (List.getElem?_eq_some_iff.mp e).1, rfl⟩
    · exact ⟨s, by rw [List.getElem?_set_ne ej]; exact e, q⟩
/-- a key on the stack -/
theorem key_at {d : D} {v : Option V} {t : Bool} {k : List Int} {Z : Addr → Prop} (q : SlotOk K G Z H σ v (.val d) []) (hk : keyOf d = some (t, k)) : ∃ y, v = some y ∧ (if t = true then ∃ b, y = .ref b ∧ H b = some (.tup (k.map V.int)) else y = .int (k.headD 0)) := by
  obtain ⟨_, y, rfl, r⟩ := q
  refine ⟨y, rfl, ?_⟩
  cases d with
  | int i => cases hk; cases r; rfl
  | tuple ds =>
    dsimp only [keyOf] at hk
    cases e : intsOf ds with
    | none => rw [e] at hk; cases hk
    | some ns =>
      rw [e] at hk
      cases hk
      cases r with
      | tup h1 _ h3 =>
        rw [intsOf_eq e] at h3
        rw [h3.of_ints] at h1
        exact ⟨_, rfl, h1⟩
  | none => cases hk
  | bool b => cases hk
  | str x => cases hk
  | list ds => cases hk
  | dict x => cases hk
end
/-- d = {} -/
def dnewF (i : Nat) (t : Bool) : SF := fun st => if i < st.length then some (.nx (st.set i (.dct t []))) else none
section
variable {X : Cx} {W : WX} {o e e2 tg : Expr} {i : Nat} {pos apos : Pos} {fk fd : SM SV}
theorem s1_dnew {t : Bool} (hg : PG X tg (gName i)) (hs : swapsWithSole [tg] (.Dict [] [] apos) pos.line X.env = pure false := by rfl) (hw : swappedStores [tg] (.Dict [] [] apos) X.env = pure none := by rfl)
    (h1 : (assignEach [tg] X.env).map (·.2) = [assign tg X.env] := by rfl) : S1 X W (.Assign [tg] (.Dict [] [] apos) pos) (dnewF i t) := by
  have core : ∀ {ob : HO}, ob = dctO t (([] : List (List Int × D)).map (·.1)) [] → PE X (.Dict [] [] apos) (fun _ H Q => ∀ p, H p = none → Q (.ref p) (upd H p ob)) → S1 X W (.Assign [tg] (.Dict [] [] apos) pos) (dnewF i t) := fun {ob} ho pe => by
    refine ⟨_, ps_asg pe hg hs hw h1, fun G st σ pst pσ H D o na R hf post => ?_⟩
    unfold dnewF at hf
    split at hf
    · rename_i hi
      cases hf
      refine fun p hp => ?_
      obtain ⟨fs, fp, F⟩ := R
      exact post _ _ ((Rep.ofF (F.newDct ho hp)).setTop hi rfl (na.al i))
    · cases hf
  cases t with
  | true => exact core rfl pe_dnewT
  | false => exact core rfl pe_dnewK
/-- d.get(k, x) -/
def getS (i : Nat) (fk fd : SM SV) : SM SV := fun st => match st[i]? with
  | some (.dct t kvs) => Out.bind (fk st) fun rk st1 => match rk with
    | .val dk => Out.bind (fd st1) fun rd st2 => match frzS rd, st2[i]?, keyOf dk with
      | some (.val dd), some (.dct t' kvs'), some (tk, k) => if t' = t ∧ tk = t ∧ keysOk t kvs' k = true then some (.ok (.val ((dGet kvs' k).getD dd)) st2) else none
      | _, _, _ => none
    | _ => none
  | _ => none
theorem se_dget (hu : X.A.units + 1 < cLine) (ho : PE X o (tVar i)) (hk : SE X W e fk) (hd : SE X W e2 fd) (m : M2 X o "get" apos e e2 pos) : SE X W (.Call (.Attribute o "get" apos) [e, e2] [] pos) (getS i fk fd) := by
  obtain ⟨tk, pk, sk⟩ := hk
  obtain ⟨td, pd, sd⟩ := hd
  refine ⟨_, pe_dget2 hu ho pk pd m, fun G st σ pst pσ H Q o R hf post => ?_⟩
  unfold getS at hf
  split at hf
  · rename_i t kvs es
    obtain ⟨fs0, fp0, F0⟩ := id R
    obtain ⟨p0, es0, eσ, _, hp0, rd0⟩ := F0.dctAt es
    refine ⟨.ref p0, eσ, p0, rfl, ?_, ?_⟩
    · unfold dctO at hp0
      cases t with
      | true => exact .inr ⟨_, .inl hp0⟩
      | false => exact .inl ⟨_, .inl hp0⟩
    · rcases Out.bind_some hf with ⟨rk, st1, h1, hf1⟩ | ⟨x, st1, h1, rfl⟩
      · refine sk G st σ pst pσ H _ _ R h1 fun y H1 R1 => ?_
        clear hf
        cases rk with
        | val dk =>
          dsimp only at hf1
          rcases Out.bind_some hf1 with ⟨rd, st2, h2, hf2⟩ | ⟨x, st2, h2, rfl⟩
          · refine sd G st1 σ _ _ H1 _ _ R1 h2 fun z H2 R2 => ?_
            clear hf1
            split at hf2
            · rename_i dd t' kvs' tk' k ef es2 ek
              split at hf2
              · rename_i hc
                obtain ⟨rfl, rfl, ok⟩ := hc
                have hf3 := Option.some.inj hf2
                subst hf3
                have R2' := R2.frz ef
                obtain ⟨fs, f2, f1, fp, F, q1, q2⟩ := R2'.top2
                obtain ⟨p, es, eσ2, _, hp, rdd⟩ := F.dctAt es2
                rw [eσ] at eσ2
                cases eσ2
                obtain ⟨ef1, _⟩ := id q1
                subst ef1
                obtain ⟨y', ey, hy⟩ := key_at q1 ek
                cases ey
                refine ⟨dGet es k, dget_at hp rdd ok hy, ?_⟩
                rcases rd_get (k := k) rdd with ⟨g1, g2⟩ | ⟨v, d, g1, g2, rv⟩
                · rw [g2]
                  rw [g1] at post
                  exact post _ H2 R2'.under
                · rw [g2]
                  rw [g1] at post
                  obtain ⟨ef2, _⟩ := id q2
                  subst ef2
                  refine post _ H2 ?_
                  have := Rep.ofF (F.pushv rv)
                  exact this.under.under
              · cases hf2
            · cases hf2
          · exact sd G st1 σ _ _ H1 _ _ R1 h2 (fun cls d H' ex R' => post cls d H' ex R'.pop)
        | emp => cases hf1
        | own _ _ => cases hf1
        | own2 _ => cases hf1
        | al _ => cases hf1
        | scr _ => cases hf1
        | exc _ _ _ => cases hf1
        | dct _ _ => cases hf1
      · exact sk G st σ pst pσ H _ _ R h1 post
  · cases hf
/-- d[k] = v -/
def putF (i : Nat) (fk fv : SM SV) : SF := fun st => Fl.bind (fv st) fun r st1 => match kept r with
  | none => none
  | some d => match st1[i]? with
    | some (.dct t kvs) => Fl.bind (fk st1) fun rk st2 => match rk with
      | .val dk => match st2[i]?, keyOf dk with
        | some (.dct t' kvs'), some (tk, k) => if tk = t' ∧ keysOk t' kvs' k = true ∧ kvs'.length < sizeLine then some (.nx (st2.set i (.dct t' (dPut kvs' k d)))) else none
        | _, _ => none
      | _ => none
    | _ => none
theorem s1_put {k : Expr} {p spos : Pos} {fv : SM SV} (hu : X.A.units + 1 < cLine) (ho : PE X o (tVar i)) (hv : SE X W e fv) (hi : SE X W k fk) (hs : swapsWithSole [.Subscript o k p] e spos.line X.env = pure false := by rfl) (hw : swappedStores [.Subscript o k p] e X.env = pure none := by rfl)
    (h1 : (assignEach [.Subscript o k p] X.env).map (·.2) = [assign (.Subscript o k p) X.env] := by rfl)
    (ha : ∀ v, assign (.Subscript o k p) X.env v = (do
      let ov ← holding [v] (eval o X.env)
      let iv ← holding [v, ov] (eval k X.env)
      standAt p
      holding [v, ov, iv] (setItem ov iv v)
      release [v, ov, iv] []) := by intro _; rfl) : S1 X W (.Assign [.Subscript o k p] e spos) (putF i fk fv) := by
  obtain ⟨tv, pv, sv⟩ := hv
  obtain ⟨ti, pi, si⟩ := hi
  refine ⟨_, ps_asg pv (pg_sub ho pi (set_dict hu) ha) hs hw h1, fun G st σ pst pσ H D o na R hf post => ?_⟩
  unfold putF at hf
  rcases Fl.bind_some hf with ⟨r1, st1, h1, hf1⟩ | ⟨x, st1, h1, rfl⟩
  · refine sv G st σ pst pσ H _ _ R h1 fun v H1 R1 => ?_
    clear hf
    split at hf1
    · cases hf1
    · rename_i d ek
      split at hf1
      · rename_i t kvs es
        have R1' := R1.frz (kept_frz ek)
        obtain ⟨fs0, fp0, F0⟩ := id R1'
        obtain ⟨p0, es0, eσ, _, hp0, rd0⟩ := F0.dctAt es
        refine ⟨.ref p0, eσ, ?_⟩
        rcases Fl.bind_some hf1 with ⟨rk, st2, h2, hf2⟩ | ⟨x, st2, h2, rfl⟩
        · refine si G st1 σ _ _ H1 _ _ R1' h2 fun y H2 R2 => ?_
          clear hf1
          cases rk with
          | val dk =>
            dsimp only at hf2
            split at hf2
            · rename_i t' kvs' tk k' es2 eky
              split at hf2
              · rename_i hc
                obtain ⟨rfl, ok, hl⟩ := hc
                have hf3 := Option.some.inj hf2
                subst hf3
                obtain ⟨fs, f2, f1, fp, F, q1, q2⟩ := R2.top2
                obtain ⟨ef2, _⟩ := id q2
                subst ef2
                obtain ⟨ef1, x1, ex1, rv⟩ := id q1
                subst ef1
                cases ex1
                obtain ⟨p, es', eσ2, _, hp, rdd⟩ := F.dctAt es2
                rw [eσ] at eσ2
                cases eσ2
                obtain ⟨y', ey, hy⟩ := key_at q2 eky
                cases ey
                refine ⟨p0, _, rfl, dput_at hp rdd rv ok hl hy, ?_⟩
                exact post _ _ (Rep.ofF (F.mutD es2 eσ (rd_to (rd_put (k := k') rv rdd)).2.1)).pop.pop
              · cases hf2
            · cases hf2
          | emp => cases hf2
          | own _ _ => cases hf2
          | own2 _ => cases hf2
          | al _ => cases hf2
          | scr _ => cases hf2
          | exc _ _ _ => cases hf2
          | dct _ _ => cases hf2
        · exact si G st1 σ _ _ H1 _ _ R1' h2 (fun cls d' H' ex R' => post σ cls d' H' ex R'.pop)
      · cases hf1
  · exact sv G st σ pst pσ H _ _ R h1 (post σ)
end
end TK
namespace TK
open PySem PySem.Spec PyProof.Rows L2
/-! ## a walk over a slot's own list: the slot gives it up first -/
def frzAt (i : Nat) (st : List SV) : List SV := match settle st (.al i) with
  | some (_, st') => st'
  | none => st
theorem Rep.pushAl {K : PySem.W.Frag} {G : Gh} {st : List SV} {σ : Sg} {pst : List SV} {pσ : List (Option V)} {H : Hp} {i : Nat} {s : SV} (h : Rep K G st σ pst pσ H) (hi : st[i]? = some s) (ho : s.isOwn = true) : ∃ x, Rep K G st σ (.al i :: pst) (some x :: pσ) H := by
  obtain ⟨fs, fp, F⟩ := h
  obtain ⟨v, f, e1, e2, q⟩ := F.slots.get hi
  have hv : ∃ x, v = some x := by
    cases s <;> first | cases ho | skip
    · obtain ⟨p, vs, _, e, _⟩ := q; exact ⟨_, e⟩
    · obtain ⟨p, vs, _, e, _⟩ := q; exact ⟨_, e⟩
    · obtain ⟨p, vs, _, e, _⟩ := q; exact ⟨_, e⟩
  obtain ⟨x, rfl⟩ := hv
  exact ⟨x, fs, [] :: fp, ⟨F.slots, .cons ⟨rfl, x, rfl, e1⟩ F.pend, F.nd, F.fresh, F.frame, F.there, F.zxt, F.na, fun j hj => (List.mem_cons.mp hj).elim (fun q => by cases q; exact ⟨_, hi, ho⟩) (F.alk j)⟩⟩
theorem Rep.frzAt {K : PySem.W.Frag} {G : Gh} {st : List SV} {σ : Sg} {pst : List SV} {pσ : List (Option V)} {H : Hp} {i : Nat} (h : Rep K G st σ pst pσ H) (na : noals pst) : Rep K G (frzAt i st) σ pst pσ H := by
  unfold TK.frzAt
  cases e : TK.settle st (.al i) with
  | none => exact h
  | some z =>
    obtain ⟨r', st'⟩ := z
    have hs : ∃ s, st[i]? = some s ∧ s.isOwn = true := by
      unfold TK.settle at e
      dsimp only at e
      split at e
      · rename_i e1; exact ⟨_, e1, rfl⟩
      · rename_i e1; exact ⟨_, e1, rfl⟩
      · cases e
    obtain ⟨s, hs, ho⟩ := hs
    obtain ⟨x, R⟩ := h.pushAl hs ho
    exact (R.settled na e).1.pop
def frzF (i : Nat) (f : SF) : SF := fun st => f (frzAt i st)
theorem s1_frz {X : Cx} {W : WX} {s : Stmt} {f : SF} {i : Nat} (h : S1 X W s f) : S1 X W s (frzF i f) := by
  obtain ⟨t, p, q⟩ := h
  exact ⟨t, p, fun G st σ pst pσ H D o na R hf post => q G _ σ pst pσ H D o na (R.frzAt na) hf post⟩
end TK
namespace TK
open PySem PySem.Spec PyProof.Rows L2
theorem hu1 {k : Nat} {A : Around} (hr : Room k A) : A.units + 1 < cLine := by
  have := hr.un
  omega
end TK

/-! ## an own error whose __init__ calls its base's and stores two fields -/
namespace TK
open PySem PySem.Spec PyProof.Rows L2
def clsBody : Stmt → List Stmt
  | .ClassDef _ _ _ b _ _ _ _ _ _ _ => b
  | _ => []
/-- D.__init__(self, ..), D an own class whose __init__ is ValueError's -/
theorem pe_vinitC {X : Cx} {e : Expr} {es : List Expr} {ta : TA} {x : Str} {D : Addr} {p1 p2 pos : Pos} {pl : Sem Bool} {mc : Value} (hg : Gl X x) (hm : X.mg x = some (.ref D))
    (hspec : PySem.W.specialIn X.K (.ref D) "__getattribute__" = some (some (.builtin "type.__getattribute__"))) (hr : PySem.W.readsIn X.K D mc = true) (hf : PySem.W.findCls X.K (.ref D) mc "__init__" = some (.val (.builtin "ValueError.__init__")))
    (ha : PA X (e :: es) ta) (hdb : (x == ("__debug__" : Str)) = false := by decide)
    (hc : eval (.Call (.Attribute (.Name x p1) "__init__" p2) (e :: es) [] pos) X.env = (do
      let ov ← eval (.Name x p1) X.env
      standAt p2.atName
      let (f, first) ← holding [ov] (getMethod ov "__init__" pl)
      callWith pos f first (backTo pos (starEach (e :: es) X.env)) (backToKw pos (keywordEach [] X.env))) := by rfl)
    (he : starEach (e :: es) X.env = (false, eval e X.env) :: starEach es X.env := by rfl) (hpl : (backTo pos (starEach es X.env)).any (·.1) = false := by rfl) :
    PE X (.Call (.Attribute (.Name x p1) "__init__" p2) (e :: es) [] pos) (tVeI X.K ta) := by
  refine ⟨fun pins s σ H Q I h => ?_⟩
  refine PySem.W.methodCall_KW (ld_glob I hg hm ?_ hdb) hc
  refine PySem.W.method_cls I.kIn hspec (PySem.W.cls_value I.kIn hr hf (by decide +kernel) ?_)
  show wpAny _ _ (callWith pos (Value.builtin "ValueError.__init__") [] (backTo pos (starEach (e :: es) X.env)) []) _ _ _
  refine PyProof.Rows.callWith_method1 (thn (ha.run pos pins _ σ H _ (I.tok _) h) fun us s1 ⟨vs, H1, I1, r1, a, C, ws, ev, hl, T, ea, q⟩ => ?_) he hpl
  subst ev
  cases r1 with
  | @cons _ u0 _ ur ra rw' =>
    obtain rfl : u0 = Value.ref a := ra
    have hlen : ur.length ≤ sizeLine := by
      rw [← Paired.length rw', sizeLine_eq]
      omega
    exact oinit_ok T I1 ea hlen fun s' J => ⟨.non, H1, J, rfl, q⟩
/-- what C's own __init__(self, i, j) keeps -/
def spI (C : Addr) (f1 f2 : Str) : Sp := fun vs H Q _ => ∃ (a : Addr) (i j : Int), vs = [.ref a, .int i, .int j] ∧ H a = some (exo a C none) ∧
  ∀ dx, H dx = none → dx ≠ a → Q .non (upd (upd (upd H dx (exd dx [(f1, .int i)])) a (exo a C (some dx))) dx (exd dx [(f2, .int j), (f1, .int i)]))
def tInit (K : PySem.W.Frag) (m f1 f2 : Str) : TS := tSeq (tDrop (tVeI K (tCons (tVar 0) (tCons (tC (.str m)) tNil)))) (tSeq (tOst K f1 (tVar 0) (tVar 1)) (tOst K f2 (tVar 0) (tVar 2)))
theorem init_ok {P : Program} {w : World} {K : PySem.W.Frag} {mg : Str → Option Value} {base : Heap} {x qual n0 n1 n2 m f1 f2 : Str} {st : Stmt} {f C : Addr} {fd : FuncData} (F : Fun K x qual st f fd) (S : FnScope [n0, n1, n2] [n0, n1, n2] (defScope st))
    (T : OexC K C) (h1 : PySem.W.findIn K (.ref C) f1 = some none) (h2 : PySem.W.findIn K (.ref C) f2 = some none)
    (hb : ∀ (cdv : Value) (A : Around) (outer : List Env) (s : Shared) (H : Hp) (E : XK), PSs (cxOf (L2N.CX P w) P w K mg base [n0, n1, n2] qual (defScope st) f cdv A outer s H E) (defBody st) (tInit K m f1 f2)) :
    FnOk P w K mg base (L2N.CX P w) 1 f fd [n0, n1, n2] (spI C f1 f2) := by
  refine okXN F S (fun vs H Q E h => by obtain ⟨a, i, j, rfl, _⟩ := h; rfl) fun cdv A outer s H vs Q E hr h => ⟨_, hb cdv A outer s H E, ?_⟩
  obtain ⟨a, i, j, rfl, ha, q⟩ := h
  refine ⟨.ref a, rfl, ?_⟩
  refine ⟨a, C, [.str m], rfl, by show (1 : Nat) ≤ 1000; decide, T, ha, ?_⟩
  refine ⟨.int i, rfl, .ref a, rfl, a, C, rfl, T, h1, .inl ⟨ha, fun dx hd hne => ?_⟩⟩
  refine ⟨.int j, rfl, .ref a, rfl, a, C, rfl, T, h2, .inr ⟨dx, [(f1, .int i)], upd_same, ?_, by show (1 : Nat) ≤ 900; decide, q dx hd hne⟩⟩
  rw [upd_ne hne, upd_same]
/-- C(e, ..), where nothing is handled -/
theorem pmkN_oex {X : Cx} {CX : CXT} {x : Str} {e : Expr} {es : List Expr} {ta : TA} {p pos : Pos} {C fI : Addr} {k : Nat} {fd : FuncData} {ps : List Str} {sp : Sp} (T : OexC X.K C) (iC : PySem.W.findIn X.K (.ref C) "__init__" = some (some (.ref fI))) (tI : PySem.W.typeIn X.K (.ref fI) = some (.type "function"))
    (F1 : FnOk X.prog X.w X.K X.mg X.base CX k fI fd ps sp) (hr : Room (k + 1) X.A) (hb : Binds X.K fd ps []) (hx : Passes CX X (fun _ _ _ => False)) (hg : Gl X x) (hm : X.mg x = some (.ref C)) (ha : PA X (e :: es) ta)
    (hdb : (x == ("__debug__" : Str)) = false := by decide) (he : starEach (e :: es) X.env = (false, eval e X.env) :: starEach es X.env := by rfl) (hpl : (backTo pos (starEach es X.env)).any (·.1) = false := by rfl) :
    L2N.PMk X (.Call (.Name x p) (e :: es) [] pos) (tMkO C sp [] ta) := by
  intro pins s σ H Q I h
  obtain ⟨nm, q, N, bs, bm, sn, sub, ab, col, dd, k0, k1, k2, k3, k5, hC, hbm⟩ := T.cls
  refine wpAny_Call_Name_kw (ld_glob I hg hm ?_ hdb)
  refine PySem.W.callWith_K (h₀ := X.base) I.ok.mod.kin T.kC (thn (ha.run pos pins s σ H _ I h) fun us s1 ⟨vs, H1, I1, r1, hz, q1⟩ => ⟨I1.kIn, ?_⟩) he hpl
  show wpAny _ _ (call (.ref C) us) _ _ _
  obtain ⟨hp, g, dr, tk, os⟩ := s1
  have hsz : hp.objs.size ≤ hp.objs.size + 1 := Nat.le_succ _
  have hn : H1 (hp.objs.size + 1) = none := I1.hok.fresh hsz
  have hq := q1 (hp.objs.size + 1) hn
  rw [List.append_nil] at hq
  have kk : ∀ b o, hp.get? b = some o → ((hp.push (PySem.W.kdv_tup us)).push (PySem.HandSPX.excO C hp.objs.size)).get? b = some o := fun b o e => Heap.get?_push_of_some _ (Heap.get?_push_of_some _ e)
  have hget : ((hp.push (PySem.W.kdv_tup us)).push (PySem.HandSPX.excO C hp.objs.size)).get? (hp.objs.size + 1) = some (PySem.HandSPX.excO C hp.objs.size) := by heap_get
  have I2 : Inv X pins σ (upd H1 (hp.objs.size + 1) (exo (hp.objs.size + 1) C none)) ⟨(hp.push (PySem.W.kdv_tup us)).push (PySem.HandSPX.excO C hp.objs.size), g, dr, tk, os⟩ :=
    I1.laid (t' := tk) (a := hp.objs.size + 1) (o := exo (hp.objs.size + 1) C none) (h' := (hp.push (PySem.W.kdv_tup us)).push (PySem.HandSPX.excO C hp.objs.size)) kk hsz (exo_ok hget)
  have r2 : Vals (V.ref (hp.objs.size + 1) :: vs) (Value.ref (hp.objs.size + 1) :: us) := .cons rfl r1
  have hl : (Value.ref (hp.objs.size + 1) :: us ++ []).length = ps.length := by
    have e := r2.length
    rw [F1.len _ _ _ _ hq] at e
    rw [List.append_nil]
    exact e.symm
  have hus : us.length ≤ sizeLine := by
    rw [← Paired.length r1, sizeLine_eq]
    omega
  have b2 := hb _ (Value.ref (hp.objs.size + 1) :: us) I2.kIn hl
  rw [List.append_nil] at b2
  refine wpAny_call (PySem.HandSPX.call_own F.excBase_ValueError (fun Y => PySem.HandSPX.refsVE_contains Y bm hbm) (I1.kIn _ _ hC) (PySem.W.looks_findIn I1.kIn iC) (fun self => PySem.W.bind_fn I1.kIn self tI) hus
    (codeAny_mono (F1.run _ X.stack _ _ ⟨Value.ref (hp.objs.size + 1) :: us, []⟩ (Value.ref (hp.objs.size + 1) :: us) _ _ (fun _ _ _ => False) (hr.make C us []) (I2.env0.make C us []) b2 r2 hq) fun r s' hq' => ?_))
  cases r with
  | error er => exact hx pins σ _ _ er s' I2 hq'
  | ok fl =>
    cases fl with
    | ret u =>
      obtain ⟨v, H2, os2, bare2, un2, hok2, rv, ev, d, fs, ea, ed, hd1, q2⟩ := hq'
      subst ev
      obtain ⟨h2, g2, d2, t2, os'⟩ := s'
      obtain ⟨t0, G, J, kG, ge, hoe, na⟩ := mk_end0 (d2 := d2) (t2 := t2) I1 hsz kk un2 hok2 os2 bare2 ea ed hd1
      exact ⟨rv, ⟨hp.objs.size + 1, _, _, ⟨G, g2, d2, t2, os'⟩, _, .ref C, some d, rfl, J, kG, ge, hoe, ⟨rfl, rfl, fun vs hv => by cases hv; rfl⟩, rfl, rfl, na, rfl, bare2, raises_own T.exC T.tyC, q2⟩⟩
    | next => exact False.elim hq'
    | brk => exact False.elim hq'
    | cont => exact False.elim hq'
/-- raise C(i, j) -/
def raiseIF (n f1 f2 : Str) (g : SM (List SV)) : SF := fun st => match g st with
  | some (.ok [.val (.int i), .val (.int j)] st1) => some (.ex ⟨n, [(f2, .int j), (f1, .int i)]⟩ st1)
  | some (.ex x st1) => some (.ex x st1)
  | _ => none
theorem passes0 {X : Cx} : Passes (L2N.CX X.prog X.w) X (fun _ _ _ => False) := fun _ _ _ _ _ _ _ h => by
  obtain ⟨_, _, _, _, _, _, _, _, _, _, _, _, z⟩ := h
  exact z.elim
theorem s1_raiseI {X : Cx} {W : WX} {x f1 f2 : Str} {e : Expr} {es : List Expr} {fa : SM (List SV)} {p pos pos2 : Pos} {C fI : Addr} {k : Nat} {fd : FuncData} {ps : List Str} (hc : X.calm = true) (tk : L2N.Takes X W) (T : OexC X.K C)
    (iC : PySem.W.findIn X.K (.ref C) "__init__" = some (some (.ref fI))) (tI : PySem.W.typeIn X.K (.ref fI) = some (.type "function")) (F1 : FnOk X.prog X.w X.K X.mg X.base (L2N.CX X.prog X.w) k fI fd ps (spI C f1 f2)) (hr : Room (k + 1) X.A) (hb : Binds X.K fd ps [])
    (hg : Gl X x) (hm : X.mg x = some (.ref C)) (ha : SA X W (e :: es) fa)
    (hdb : (x == ("__debug__" : Str)) = false := by decide) (he : starEach (e :: es) X.env = (false, eval e X.env) :: starEach es X.env := by rfl) (hpl : (backTo pos (starEach es X.env)).any (·.1) = false := by rfl) :
    S1 X W (.Raise (some (.Call (.Name x p) (e :: es) [] pos)) none pos2) (raiseIF x f1 f2 fa) := by
  obtain ⟨ta, pa, sa⟩ := ha
  refine ⟨_, L2N.ps_raise hc tk (pmkN_oex T iC tI F1 hr hb passes0 hg hm pa hdb he hpl), fun G st σ pst pσ H D o na R hf post => ?_⟩
  unfold raiseIF at hf
  split at hf
  · rename_i i j st1 e1
    cases hf
    refine sa G st σ pst pσ H _ _ R e1 fun vs H1 hl R1 => ?_
    match vs, hl with
    | [v1, v2], _ =>
      have R1 : Rep X.K G st1 σ (.val (.int j) :: .val (.int i) :: pst) (some v2 :: some v1 :: pσ) H1 := R1
      have ev2 := R1.isI
      have ev1 := R1.pop.isI
      subst ev1 ev2
      refine ⟨by show (2 : Nat) ≤ 1000; decide, fun a hn => ⟨a, i, j, rfl, upd_same, fun dx hd hne => ?_⟩⟩
      have hd1 : H1 dx = none := by rw [upd_ne hne] at hd; exact hd
      refine ⟨rfl, dx, [(f2, .int j), (f1, .int i)], ?_, upd_same, hd1, ?_⟩
      · rw [upd_ne (Ne.symm hne), upd_same]
      · have eH : upd (del (upd (upd (upd (upd H1 a (exo a C none)) dx (exd dx [(f1, .int i)])) a (exo a C (some dx))) dx (exd dx [(f2, .int j), (f1, .int i)])) a) dx (.xd [(f2, .int j), (f1, .int i)]) = upd H1 dx (.xd [(f2, .int j), (f1, .int i)]) := by
          funext b
          by_cases hb : b = dx
          · subst hb; rw [upd_same, upd_same]
          · rw [upd_ne hb, upd_ne hb]
            by_cases ha : b = a
            · subst ha; rw [del_same, hn]
            · rw [del_ne ha, upd_ne hb, upd_ne ha, upd_ne hb, upd_ne ha]
        rw [eH]
        obtain ⟨fs, fp, F⟩ := R1.pop.pop
        exact post σ (.ref C) (some dx) _ ⟨C, hm, rfl, _, upd_same, .cons ⟨rfl, .int j⟩ (.cons ⟨rfl, .int i⟩ .nil)⟩ ⟨fs, fp, F.laid hd1⟩
  · rename_i x' st1 e1
    cases hf
    exact sa G st σ pst pσ H _ _ R e1 (post σ)
  · cases hf
end TK

/-! ## defs called within an except suite -/
namespace TK
open PySem PySem.Spec PyProof.Rows L2 L2H
theorem hu64H {k : Nat} {A : Around} (hr : RoomH k A) : A.units + 64 < cLine := by have := hr.un; omega
section
variable {X : Cx} {W : WX} {a b : Expr} {f1 f2 : SM SV} {k : Nat} {pos : Pos}
theorem se_eqH (hr : RoomH k X.A) (ha : SE X W a f1) (hb : SE X W b f2) : SE X W (.Compare a [.Eq] [b] pos) (binS eqS f1 f2) := se_cmp (op_eqD (hu64H hr)) ops_eq ha hb (nomark _)
theorem se_neH (hr : RoomH k X.A) (ha : SE X W a f1) (hb : SE X W b f2) : SE X W (.Compare a [.NotEq] [b] pos) (binS neS f1 f2) := se_cmp (op_neD (hu64H hr)) ops_ne ha hb (nomark _)
theorem st_eqH (hr : RoomH k X.A) (ha : SE X W a f1) (hb : SE X W b f2) : ST X W (.Compare a [.Eq] [b] pos) (binT eqS f1 f2) := st_cmp (op_eqD (hu64H hr)) ops_eq ha hb (nomark _)
theorem st_neH (hr : RoomH k X.A) (ha : SE X W a f1) (hb : SE X W b f2) : ST X W (.Compare a [.NotEq] [b] pos) (binT neS f1 f2) := st_cmp (op_neD (hu64H hr)) ops_ne ha hb (nomark _)
end
theorem fnH_mono {P : Program} {w : World} {K : PySem.W.Frag} {mg : Str → Option Value} {base : Heap} {CX : CXT} {j k : Nat} {f : Addr} {fd : FuncData} {ps : List Str} {sp : Sp} (F : FnH P w K mg base CX j f fd ps sp) (h : j ≤ k) :
    FnH P w K mg base CX k f fd ps sp := ⟨F.len, fun A outer s H args us vs Q E p hr => F.run A outer s H args us vs Q E p (hr.mono h)⟩
theorem hotC_suite {X : Cx} {a : Addr} {oe : Obj} {cls : Value} {d : Option Addr} {pn : List (Addr × Obj)} (hz : L2N.Zn cls d oe) (hf : ∃ vs, oe.data = .fields vs) : HotC (X.suite a ((a, oe) :: pn)) := by
  obtain ⟨vs, hv⟩ := hf
  exact ⟨(a, oe), ⟨rfl, vs, hv, hz.2.2 vs hv⟩, List.mem_cons_self⟩
theorem def_okH {P : Program} {w : World} {K : PySem.W.Frag} {mg : Str → Option Value} {base : Heap} {x qual : Str} {st : Stmt} {f : Addr} {fd : FuncData} {N ps : List Str} {k : Nat} {b : SF} (F : Fun K x qual st f fd) (S : FnScope N ps (defScope st))
    (hb : ∀ (cdv : Value) (A : Around) (outer : List Env) (s : Shared) (H : Hp) (E : XK) (p : Addr × Obj), Hot1 A p → RoomH k (A.deeper (envOfC qual (defScope st) s.heap.objs.size f cdv)) →
      SS (cxH (L2N.CX P w) P w K mg base N qual (defScope st) f cdv A outer s H E p) (fun cls d _ H' => E cls d H') (defBody st) b) :
    FnH P w K mg base (L2N.CX P w) (k + 1) f fd ps (spD K mg ps.length (runDef N.length b)) := by
  obtain ⟨oc, od, kV, doc, pm, an, cdv, ct, osl, rfl, lk, hcd⟩ := F.ex
  refine fn_ofH lk hcd S (fun vs H Q E h => h.elim fun G h => h.elim fun as h => h.elim fun o h => h.1) fun A outer s H vs Q E pp hot hr h => ?_
  obtain ⟨t, p, q⟩ := hb cdv A outer s H E pp hot hr
  refine ⟨t, p, ?_⟩
  obtain ⟨G, as, o, hl, hla, rfl, R, hf, post⟩ := h
  unfold runDef at hf
  have R' : Rep K G (as ++ List.replicate (N.length - as.length) .emp) (L2.start N vs) [] [] G.H0 := by
    unfold L2.start
    rw [hl, ← hla]
    obtain ⟨fs, fp, F⟩ := id R
    exact R.emps F.na
  cases eb : b (as ++ List.replicate (N.length - as.length) .emp) with
  | none => rw [eb] at hf; cases hf
  | some fl =>
    rw [eb] at hf
    refine q G _ _ [] [] G.H0 _ fl (fun s hs => by cases hs) R' eb ?_
    cases fl with
    | nx st' =>
      cases hf
      exact fun σ' H' R1 => post .non H' rfl (R1.pushN.ioEnd fun s hs => by rw [List.mem_singleton.mp hs]; rfl)
    | rt r st' =>
      dsimp only at hf
      split at hf
      · rename_i hr
        cases hf
        exact fun v σ' H' R1 => post v H' hr (R1.ioEnd fun s hs => by
          rw [List.mem_singleton.mp hs]
          cases r <;> first | rfl | cases hr)
      · cases hf
    | bk st' => cases hf
    | ct st' => cases hf
    | ex x st' =>
      cases hf
      exact fun σ' cls d H' ex R1 => post cls d H' ex (R1.ioEnd fun s hs => by cases hs)

section
variable {X : Cx} {W : WX} {F : FS} {fs : SM (List SV)} {k n : Nat} {f : Addr} {fd : FuncData} {ps : List Str} {x : Str} {p pos : Pos} {e : Expr} {es : List Expr}
theorem se_callH (FO : FnH X.prog X.w X.K X.mg X.base (L2N.CX X.prog X.w) k f fd ps (spD X.K X.mg n F)) (hr : RoomH k X.A) (hc : HotC X) (tk : L2N.Takes X W) (hg : Gl X x) (hm : X.mg x = some (.ref f)) (hk : PySem.W.keepIn X.K (.ref f) = true) (hb : Binds X.K fd ps [])
    (ha : SA X W (e :: es) fs) (hn : (e :: es).length = n) (hal : ∀ st rs st', fs st = some (.ok rs st') → rs.length = n) (hdb : (x == ("__debug__" : Str)) = false := by decide) (he : starEach (e :: es) X.env = (false, eval e X.env) :: starEach es X.env := by rfl) (hpl : (backTo pos (starEach es X.env)).any (·.1) = false := by rfl) :
    SE X W (.Call (.Name x p) (e :: es) [] pos) (callS F fs) := by
  obtain ⟨t, pt, s⟩ := ha
  refine ⟨_, pe_callH (E := fun σ cls d H => W cls d σ H) FO hr hc hg hm hk hb (fun σ => L2N.passAt tk σ) pt hdb he hpl, fun G st σ pst pσ H Q o R hf post => ?_⟩
  unfold callS at hf
  rcases Out.bind_some hf with ⟨rs, st1, h1, hf⟩ | ⟨x, st1, h1, rfl⟩
  · refine s G st σ pst pσ H _ _ R h1 fun vs H1 hl R1 => ?_
    obtain ⟨fs1, fp1, F1⟩ := R1
    split at hf
    · cases hf
    · rename_i as eas
      have hrl := hal _ _ _ h1
      refine (?_ : ∀ o', F as = some o' → spD X.K X.mg n F vs H1 Q fun cls d H => W cls d σ H) _ (?_ : F as = some (match F as with | some o => o | none => .ret .emp none))
      · intro o' eo
        rw [eo] at hf
        refine ⟨⟨H1, fun _ => False, fun a => noAls rs = true ∧ Zf G (fs1.flatten ++ fp1.flatten) a, none⟩, as, o', by rw [hl, hrl], by rw [argsOf_len eas, hrl], rfl, ?_, eo, ?_⟩
        · refine ⟨as.map fun _ => [], [], ⟨?_, .nil, by rw [flat_nils]; simp, (fun a ha => by rw [flat_nils] at ha; cases ha), fun a o e _ => e, fun a e => e, fun a z => ⟨F1.zLst z.2, fun w => w⟩, argsOf_noal eas, (fun i hi => by cases hi)⟩⟩
          rw [flat_nils]
          refine args_all F1 (fun b z => ?_) (fun hn b z => ?_) eas hl F1.pend
          · rcases z with z | z
            · exact z.2
            · cases z
          · rcases z with z | z
            · rw [hn] at z; cases z.1
            · cases z
        · cases o' with
          | ret r io =>
            cases io with
            | some ds => cases hf
            | none =>
              dsimp only at hf
              split at hf
              · rename_i hok
                cases hf
                intro v H' hres R'
                obtain ⟨f0, fr, F', q1, q2, nd⟩ := R'.unfoldC
                have e0 : f0 = [] := q1
                subst e0
                have sm : Same H1 H' := fun a o e => F'.frame a o e fun z => z
                have hfr : ∀ a ∈ fr, H1 a = none := fun a ha => by
                  rcases (F'.fresh a (by simp [ha])).1 with z | z
                  · exact z.elim
                  · exact z
                have z := F1.after sm nd hfr q2 hres ((okRes_or hok).imp (fun hno a z => ?_) id)
                · exact post v H' (Rep.unders (by simp [hl]) z)
                · rcases z with z | z
                  · exact .inl ⟨hno, z⟩
                  · exact .inr z
              · cases hf
          | ex x io =>
            cases io with
            | some ds => cases hf
            | none =>
              cases hf
              intro cls d H' ex R'
              obtain ⟨f0, F', _⟩ := R'.unfoldC0
              have sm : Same H1 H' := fun a o e => F'.frame a o e fun z => z
              exact post cls d H' ex (Rep.drops (by simp [hl]) (Rep.ofF (F1.sameTo sm)))
      · cases eF : F as with
        | none => rw [eF] at hf; cases hf
        | some o => rfl
  · exact s G st σ pst pσ H _ _ R h1 post
end
end TK

namespace TK
open PySem PySem.Spec PyProof.Rows L2
/-! ## xs.extend(ys) -/
def extD (ds : List D) (d : D) : Option (D × List D) := match d with
  | .list es => if ds.length + es.length ≤ 1000000 then some (.none, ds ++ es) else none
  | _ => none
abbrev extS (i : Nat) (f : SM SV) : SM SV := mutS i extD f
section
variable {X : Cx} {W : WX} {e : Expr} {f : SM SV} {i : Nat}
theorem se_extend (h : SE X W e f) (hs : starEach [e] X.env = (false, eval e X.env) :: starEach [] X.env := by rfl) {c : Expr} (mk : ∀ t, PA X [e] t → PE X c (tBM X.K "list" rExtend (tVar i) t)) : SE X W c (extS i f) := by
  refine se_mut (fun Z H p vs ds ds' y d x Q hp rv ry eg post => ?_) h hs mk
  unfold extD at eg
  split at eg
  · rename_i es
    split at eg
    · rename_i hz
      cases eg
      cases ry with
      | lst h1 h2 h3 => exact ⟨p, _, vs, _, rfl, rfl, hp, h1, by rw [rv.length, h3.length, sizeLine_eq]; omega, post .non _ .non (rv.append h3)⟩
    · cases eg
  · cases eg
end
/-! ## min of two alike data -/
section
open PySem.W
variable {prog : Program} {w : World} {A : Around} {E : Value → Shared → Prop} {s : Shared}
theorem call_min_twoH {a b : Value} {Q : Value → Shared → Prop}
    (h : wpAny (model prog w) A.in1 (pyIter (.ref s.heap.objs.size)) (fun it s₂ => ∃ I fp wr G n P St H bt, it = .ref I ∧ WalksS prog w A.in1 I fp wr G n P St ∧ St 0 s₂ ∧ (∀ b ∈ fp, b < s₂.heap.objs.size) ∧ 0 < n ∧
      (∀ b o, H.get? b = some o → b ∉ wr) ∧ (∀ b o, H.get? b = some o → s₂.heap.get? b = some o) ∧ CmpIn prog w A.in1 .Lt H P bt ∧ ∀ v s', P (argBest bt (n - 1)) v → Moved wr G s₂ s' → Q v s') E
      { s with heap := s.heap.push { cls := .type "tuple", data := .seq #[a, b] } }) :
    wpAny (model prog w) A (call (.builtin "min") [a, b]) Q E s := by
  refine call_function_tree F.kind_min F.plain_min F.entry_min (F.args_min2 _ _) ?_
  show wpAny _ A.in1 (Builtin.Builtins.bindParams "min" ["key", "default"] 0 ⟨[], []⟩ >>= _) _ _ s
  refine wpAny_bind (wpAny_of_eq (show Builtin.Builtins.bindParams "min" ["key", "default"] 0 ⟨[], []⟩ = pure [none, none] from rfl) ?_)
  show wpAny _ A.in1 (newTuple [a, b] >>= _) _ _ s
  refine wpAny_bind (wpAny_newObj_type ?_)
  refine wpAny_bind (wpAny_mono h (fun it s₂ h₂ => ?_) fun _ _ e => e)
  obtain ⟨I, fp, wr, G, n, P, St, H, bt, rfl, W, hst, hfp, hn, hw, hkeep, hcmp, hQ⟩ := h₂
  refine wpAny_bind (wpAny_newObj_type ?_)
  rw [show (toString "min" ++ toString ".loop" : String) = "min.loop" from by decide]
  refine wpAny_pure ⟨plainId_quiet F.plain_min_loop _, codeAny_min_loop_firstH W H hw bt hcmp s₂.heap.objs.size (fun hm => Nat.lt_irrefl _ (hfp _ hm)) (fresh_in hkeep) _ hn (fun b o e => Heap.get?_push_of_some _ (hkeep b o e))
    (W.frame 0 s₂ _ s₂.toks hst (Nat.le_refl _) fun b _ o e => Heap.get?_push_of_some _ e) (Heap.get?_push_size _ rfl) fun v s' hP hm => ?_⟩
  exact hQ v s' hP (Moved.drop_new (tk := s₂.toks) hm (Nat.le_refl _))
theorem min_two_data {a b : Value} {x y : PyData} {as : List Addr} {Q : Value → Shared → Prop} (hh : A.handled = none) (hr : ReadsAll s.heap [a, b] [x, y] as) (ha : AlikeAll [x, y]) (hu : A.units + 1 + PyData.depthAll [x, y] < cLine)
    (h : ∀ h' tk, (∀ b o, s.heap.get? b = some o → h'.get? b = some o) → Q (if dataLt y x then b else a) { s with heap := h', toks := tk }) :
    wpAny (model prog w) A (call (.builtin "min") [a, b]) Q E s := by
  have kp : ∀ c o, s.heap.get? c = some o → (s.heap.push { cls := .type "tuple", data := .seq #[a, b] }).get? c = some o := fun c o e => Heap.get?_push_of_some _ e
  have hT : (s.heap.push { cls := .type "tuple", data := .seq #[a, b] }).IsTuple s.heap.objs.size #[a, b] := ⟨_, Heap.get?_push_size _ rfl, rfl, 0, rfl⟩
  have hr' : ReadsAll (s.heap.push { cls := .type "tuple", data := .seq #[a, b] }) [a, b] [x, y] as := by
    cases hr with
    | cons r1 rr =>
      cases rr with
      | cons r2 r0 =>
        cases r0
        exact .cons (reads_keeps kp r1) (.cons (reads_keeps kp r2) .nil)
  refine call_min_twoH (iter_tupleW (s := { s with heap := s.heap.push { cls := .type "tuple", data := .seq #[a, b] } }) (A := A.in1) hh hT fun s₂ e W st hfp hw hk => ?_)
  refine ⟨_, _, _, _, _, _, _, s.heap.push { cls := .type "tuple", data := .seq #[a, b] }, _, rfl, W, st, hfp, by show (0 : Nat) < 2; decide, hw, hk, cmpIn_lt (s := { s with heap := s.heap.push { cls := .type "tuple", data := .seq #[a, b] } }) (A := A.in1) hr' ha (by show A.units + 1 + _ < _; exact hu), fun v s' hP m => ?_⟩
  obtain ⟨h', tk, rfl, hk'⟩ := moved_old (s := { s with heap := s.heap.push { cls := .type "tuple", data := .seq #[a, b] } }) e rfl m
  have hv : v = if dataLt y x then b else a := by
    cases hd : dataLt y x with
    | true => simpa [argBest, hd] using hP.symm
    | false => simpa [argBest, hd] using hP.symm
  rw [hv]
  exact h h' tk fun c o ec => hk' c o (kp c o ec)
end
section
variable {X : Cx} {W : WX} {a b : Expr} {f1 f2 : SM SV} {pos p : Pos} {k : Nat}
def rMin2D (K : PySem.W.Frag) : List V → Hp → VK → Prop := fun xs H Q => ∃ (u v : V) (x y : D), xs = [u, v] ∧ DpAll K H [u, v] [x, y] ∧ okRow [x, y] ∧ Q (if PySem.W.dataLt y x then v else u) H
theorem cr_min2D (hc : X.calm = true) (hu : X.A.units + 65 < cLine) : CallR X (.builtin "min") (rMin2D X.K) := by
  intro pins s σ H xs us Q I r h
  obtain ⟨u, v, x, y, rfl, hd, ok, q⟩ := h
  obtain ⟨as, hr⟩ := Dp.readsAll I _ _ _ hd r
  obtain ⟨u1, u2, rfl, r1, r2⟩ := vals2 r
  refine min_two_data (I.ok.hd hc) hr ok.1 (by have := ok.2.2; omega) fun h' tk hk => ⟨if PySem.W.dataLt y x then v else u, H, I.kept hk, ?_, q⟩
  split
  · exact r2
  · exact r1
open Classical in
noncomputable def min2DS : G2 := fun _ r1 r2 => match r1, r2 with
  | .val x, .val y => if okRow [x, y] then some (.val (if PySem.W.dataLt y x then y else x)) else none
  | _, _ => none
noncomputable def min2G : G2 := orG2 min2S min2DS
theorem c2_min2D {K : PySem.W.Frag} : C2 K (rMin2D K) min2DS := by
  intro G st σ pst pσ H r1 r2 u v Q res R e post
  unfold min2DS at e
  split at e
  · rename_i x y
    split at e
    · rename_i ok
      cases e
      obtain ⟨fs, f2, f1, fp, F, q1, q2⟩ := R.top2
      obtain ⟨_, u', eu, ru⟩ := q1
      obtain ⟨_, v', ev, rv⟩ := q2
      cases eu
      cases ev
      refine ⟨u, v, x, y, rfl, .cons (RV.dp _ _ ru) (.cons (RV.dp _ _ rv) .nil), ok, ?_⟩
      by_cases hd : PySem.W.dataLt y x = true
      · rw [if_pos hd]
        rw [if_pos hd] at post
        exact post v H R.under
      · rw [if_neg hd]
        rw [if_neg hd] at post
        exact post u H R.pop
    · cases e
  · cases e
theorem se_min2G (hr : Room k X.A) (hc : X.calm = true) (hg : Gl X "min") (hm : X.mg "min" = none) (ha : SE X W a f1) (hb : SE X W b f2) (hst : starEach [a, b] X.env = (false, eval a X.env) :: starEach [b] X.env := by rfl) (hst2 : starEach [b] X.env = (false, eval b X.env) :: starEach [] X.env := by rfl)
    (h3 : (backTo pos (starEach [b] X.env)).any (·.1) = false := by rfl) : SE X W (.Call (.Name "min" p) [a, b] [] pos) (call2 min2G f1 f2) :=
  se_c2 (fun _ pa => pe_callB (callR_or (call_min2 hc) (cr_min2D hc (hu65 hr))) hg hm (by decide +kernel) pa (by decide) (by decide) hst h3) (OpS.or c2_min c2_min2D) ha hb hst hst2
end
/-! ## try .. except C: -/
def tryNF (cs : Str → Option Bool) (body suite : SF) : SF := fun st => match body st with
  | some (.ex x st1) => match cs x.name with
    | some true => match suite st1 with
      | some (.ex _ _) => none
      | o => o
    | some false => some (.ex x st1)
    | none => none
  | o => o
theorem s1_tryN {X : Cx} {W : WX} {body suite : List Stmt} {b₀ : Stmt} {x : Str} {np pos pos' : Pos} {c : Value} {cs : Str → Option Bool} {fb fs : SF}
    (hs : X.stack = X.env :: X.outer) (hf : X.env.frame = some X.env.locals) (hc : Names X x c) (hcs : CsOk X.K X.mg c cs) (tk : L2N.Takes X W)
    (hb : ∀ (W : WX) (pn : List (Addr × Obj)) (xe : Value → Shared → Prop), L2N.Takes (X.tr pn xe) W → PassesOwn (model X.prog X.w) X.A X.env xe → SS (X.tr pn xe) W body fb)
    (hsu : ∀ (a : Addr) (oe : Obj) (cls : Value) (d : Option Addr) (pn : List (Addr × Obj)), L2N.Zn cls d oe → (∃ vs, oe.data = .fields vs) → SS (X.suite a ((a, oe) :: pn)) (fun _ _ _ _ => False) (b₀ :: suite) fs) :
    S1 X W (.Try body [.ExceptHandler (some (.Name x np)) none (b₀ :: suite) pos'] [] [] pos) (tryNF cs fb fs) := by
  refine ⟨_, L2N.ps_try_many (l := [(c, fun _ _ _ => tS0 X.K X.mg (fun _ _ _ _ => False) fs)]) (tb := fun W => tS0 X.K X.mg W fb) hs hf tk (fun W pn xe tk hp => (hb W pn xe tk hp).can) (.cons hc (fun a oe cls d pn hz hf => (hsu a oe cls d pn hz hf).can) .nil), fun G st σ pst pσ H D o na R hf post => ?_⟩
  unfold tryNF at hf
  cases e : fb st with
  | none => rw [e] at hf; cases hf
  | some o' =>
    rw [e] at hf
    cases o' with
    | nx st' => cases hf; exact ⟨X, G, st, pst, pσ, _, rfl, rfl, na, R, e, post⟩
    | rt r st' => cases hf; exact ⟨X, G, st, pst, pσ, _, rfl, rfl, na, R, e, post⟩
    | bk st' => cases hf; exact ⟨X, G, st, pst, pσ, _, rfl, rfl, na, R, e, post⟩
    | ct st' => cases hf; exact ⟨X, G, st, pst, pσ, _, rfl, rfl, na, R, e, post⟩
    | ex x st1 =>
      dsimp only at hf
      refine ⟨X, G, st, pst, pσ, .ex x st1, rfl, rfl, na, R, e, fun σ' cls d H' ex R' => ?_⟩
      cases ec : cs x.name with
      | none => rw [ec] at hf; cases hf
      | some b =>
        rw [ec] at hf
        obtain ⟨C, mC, eC, _⟩ := id ex
        subst eC
        refine ⟨b, hcs _ _ _ ec mC, fun hb a ha => ?_, fun hb => ?_⟩
        · subst hb
          dsimp only at hf
          cases es : fs st1 with
          | none => rw [es] at hf; cases hf
          | some o1 =>
            rw [es] at hf
            cases o1 with
            | nx st' => cases hf; exact ⟨X, G, st1, pst, pσ, _, rfl, rfl, na, R', es, post⟩
            | rt r st' => cases hf; exact ⟨X, G, st1, pst, pσ, _, rfl, rfl, na, R', es, post⟩
            | bk st' => cases hf; exact ⟨X, G, st1, pst, pσ, _, rfl, rfl, na, R', es, post⟩
            | ct st' => cases hf; exact ⟨X, G, st1, pst, pσ, _, rfl, rfl, na, R', es, post⟩
            | ex x' st' => cases hf
        · subst hb
          cases hf
          exact post σ' _ d H' ex R'
/-! ## xs.index(x) -/
def lidxS : G2 := fun st r1 r2 => match dataOf st r1, dataOf st r2 with
  | some (.list ds), some d => match ds.findIdx? fun z => PyData.eqv z d with
    | some j => if SeqAt.shaped (.list ds) = true ∧ SeqAt.shaped d = true then some (.val (.int (j : Nat))) else none
    | none => none
  | _, _ => none
def lidxE (f1 f2 : SM SV) : SM SV := fun st => Out.bind (f1 st) fun r1 st1 => match dataOf st1 r1 with
  | some (.list _) => Out.bind (f2 st1) fun r2 st2 => okM (lidxS st2 r1 r2) st2
  | _ => none
theorem se_lindex {X : Cx} {W : WX} {o e c : Expr} {f1 f2 : SM SV} (ha : SE X W o f1) (hb : SE X W e f2) (mk : ∀ to t, PE X o to → PA X [e] t → PE X c (tBM X.K "list" (rIndexD X.K) to t)) (hs : starEach [e] X.env = (false, eval e X.env) :: starEach [] X.env := by rfl) : SE X W c (lidxE f1 f2) := by
  obtain ⟨to, po, so⟩ := ha
  obtain ⟨te, pe, se⟩ := hb
  refine ⟨_, mk _ _ po (pa_cons pe pa_nil hs), fun G st σ pst pσ H Q o R hf post => ?_⟩
  unfold lidxE at hf
  rcases Out.bind_some hf with ⟨r1, st1, h1, hf⟩ | ⟨x, st1, h1, rfl⟩
  · refine so G st σ pst pσ H _ _ R h1 fun v H1 R1 => ?_
    split at hf
    · rename_i ds0 e0
      obtain ⟨fs, g1, fp, F, q1⟩ := R1.top
      obtain ⟨x, ex, dx⟩ := F.data q1 e0
      cases ex
      cases dx with
      | lst hs0 _ =>
        refine ⟨.inl ⟨rfl, _, hs0⟩, ?_⟩
        rcases Out.bind_some hf with ⟨r2, st2, h2, hf⟩ | ⟨x, st2, h2, rfl⟩
        · refine se G st1 σ _ _ H1 _ _ R1 h2 fun v2 H2 R2 => ?_
          cases el : lidxS st2 r1 r2 with
          | none => rw [el] at hf; cases hf
          | some res =>
            rw [el] at hf
            cases hf
            unfold lidxS at el
            split at el
            · rename_i ds d e1 e2
              split at el
              · rename_i j ej
                split at el
                · rename_i hsh
                  cases el
                  obtain ⟨fs, g2, g1, fp, F, q1, q2⟩ := R2.top2
                  obtain ⟨x, ex, dx⟩ := F.data q1 e1
                  obtain ⟨y, ey, dy⟩ := F.data q2 e2
                  cases ex
                  cases ey
                  obtain ⟨hj, h3, h4⟩ := List.findIdx?_eq_some_iff_getElem.mp ej
                  exact ⟨_, _, d, ds, j, ds[j], rfl, rfl, dx, dy, hsh.1, hsh.2, List.getElem?_eq_getElem hj, h3, fun m z' hm hz => by
                    obtain ⟨hml, rfl⟩ := List.getElem?_eq_some_iff.mp hz
                    have := h4 m hm
                    simpa using this, post _ H2 (R2.pop.pop.pushI _)⟩
                · cases el
              · cases el
            · cases el
        · exact se G st1 σ _ _ H1 _ _ R1 h2 fun cls d H' ex R' => post cls d H' ex R'.pop
    · cases hf
  · exact so G st σ pst pσ H _ _ R h1 post
end TK

namespace PySem.W
open PySem PySem.Calls PyProof.Rows
variable {prog : Program} {w : World} {A : Around} {E : Value → Shared → Prop} {s : Shared}
theorem collect_tupleT {l : Addr} {vs : List Value} {Q : List Value → Shared → Prop} (hl : s.heap.IsTuple l vs.toArray)
    (h : Q vs { s with heap := (s.heap.push (seqObj "list" #[] 0)).update s.heap.objs.size (Obj.mapSeq (· ++ vs.toArray)) }) (hsz : vs.length ≤ sizeLine) :
    wpAny (model prog w) A (collect (.ref l)) Q E s := by
  obtain ⟨o, ho, hc, n, hd⟩ := id hl
  unfold collect
  refine wpAny_bind (wpAny_runValue (codeAny_builtin entry_proto_collect' ?_))
  show wpAny _ _ (do again (.builtin "list.__iadd__" ⟨[← newList [], .ref l], []⟩)) _ _ s
  refine wpAny_bind (wpAny_newList (wpAny_pure ⟨Code.quiet_builtin _ (by decide +kernel), codeAny_builtin entry_list_iadd' ?_⟩))
  show wpAny _ _ (Builtin.List.listExtendWith (.ref s.heap.objs.size) (.ref l) (.ref s.heap.objs.size)) _ _ { s with heap := s.heap.push (seqObj "list" #[] 0) }
  unfold Builtin.List.listExtendWith
  have ho' : (s.heap.push (seqObj "list" #[] 0)).get? l = some o := Heap.get?_push_of_some _ ho
  refine wpAny_bind (wpAny_typeOf (T := "tuple") ⟨o, ho', hc⟩ ?_)
  have ht : (Value.type "tuple" == Value.type "tuple") = true := by rfl
  rw [if_pos (by rw [ht]; simp)]
  refine wpAny_bind (listItems_at ho' hd ?_)
  refine wpAny_bind (listItems_at (xs := #[]) (n := 0) (Heap.get?_push_size _ rfl) rfl ?_)
  rw [if_neg (by simp)]
  refine wpAny_bind (listUpdate_at (xs := #[]) (n := 0) (Heap.get?_push_size _ rfl) rfl ?_ (Nat.zero_le _) (by show (#[] ++ vs.toArray).size ≤ sizeLine + 1; simp only [Array.size_append, List.size_toArray, List.length_nil]; omega))
  refine wpAny_pure ?_
  show wpAny (model prog w) A (do
      let o ← load s.heap.objs.size
      match o.data with
      | .seq xs _ => pure xs.toList
      | _ => unsupported "internal:collect") Q E { s with heap := (s.heap.push (seqObj "list" #[] 0)).update s.heap.objs.size (Obj.mapSeq (· ++ vs.toArray)) }
  refine wpAny_bind (wpAny_load (get?_update_seq (Heap.get?_push_size _ rfl) _) ?_)
  show wpAny _ _ (pure ((#[] : Array Value) ++ vs.toArray).toList) Q E _
  rw [show ((#[] : Array Value) ++ vs.toArray).toList = vs by simp]
  exact wpAny_pure h
theorem sorted_of_sortT {l : Addr} {vs : List Value} {kw : List (Str × Value)} {Q : Value → Shared → Prop} (hl : s.heap.IsTuple l vs.toArray) (hL : vs.length ≤ sizeLine) (ha1 : argsOk "sorted" ⟨[.ref l], kw⟩) (ha2 : ∀ x, argsOk "list.sort" ⟨[.ref x], kw⟩)
    (body : ∀ E' : Value → Shared → Prop, wpAny (model prog w) A.in1.in1 (Builtin.«list.sort» ⟨[.ref (s.heap.objs.size + 1)], kw⟩) (fun f s' => f = .done (.ret .none) ∧ Q (.ref (s.heap.objs.size + 1)) s') E' { s with heap := copyHeap s.heap vs }) :
    wpAny (model prog w) A (call (.builtin "sorted") [.ref l] kw) Q E s := by
  refine call_function_entry_kw kind_sorted plain_sorted entry_sorted ha1 ?_
  unfold Builtin.«sorted»
  refine wpAny_bind (m := checkCount "sorted" 1 1 _) (wpAny_pure ?_)
  refine wpAny_bind (collect_tupleT hl ?_ hL)
  refine wpAny_bind (wpAny_newList ?_ hL)
  have hsz : ((s.heap.push (seqObj "list" #[] 0)).update s.heap.objs.size (Obj.mapSeq (· ++ vs.toArray))).objs.size = s.heap.objs.size + 1 := by
    rw [Heap.size_update, size_push']
  show wpAny _ _ _ _ _ { s with heap := copyHeap s.heap vs }
  rw [hsz]
  refine wpAny_bind (wpAny_holding (wpAny_call_entry_kw slot_list_sort ⟨_, copyHeap_at s.heap vs, rfl⟩ entry_list_sort ?body (ha2 _)))
  case body =>
    show wpAny (model prog w) A.in1.in1 (Builtin.«list.sort» ⟨[.ref (s.heap.objs.size + 1)], kw⟩) _ _ _
    refine wpAny_mono (body _) (fun f s' hf => ?_) fun _ _ e => e
    obtain ⟨rfl, hq⟩ := hf
    exact ⟨_, rfl, wpAny_pure ⟨_, rfl, hq⟩⟩
theorem sorted_dataT {β : Type} {R : Value → β → Prop} {enc : β → PyData} {bs : List β} {vs : List Value} {l : Addr} {Q : Value → Shared → Prop} (hl : s.heap.IsTuple l vs.toArray) (e : EachIs R vs bs) (er : EachIs (fun v b => ∃ as, Reads s.heap v (enc b) as) vs bs) (hal : AllAlike (bs.map enc)) (hk : Sortable (bs.map enc)) (hL : bs.length ≤ sizeLine)
    (hu : ∀ b, b ∈ bs → A.units + 2 + (enc b).depth < cLine) (h : ∀ out, out.length = bs.length → EachIs R out (bs.mergeSort (dataLe false enc)) → Q (.ref (s.heap.objs.size + 1)) { s with heap := sortedAll s.heap vs (List.toArray out) }) :
    wpAny (model prog w) A (call (.builtin "sorted") [.ref l]) Q E s := by
  have er' : EachIs (fun v b => ∃ as, Reads (sortingHeap (copyHeap s.heap vs) (s.heap.objs.size + 1) vs) v (enc b) as) vs bs := er.mono fun _ _ ⟨as, r⟩ => ⟨as, PyProof.Rows.Reads.keeps (fun _ _ => sorting_copy_old) r⟩
  have hLv : vs.length ≤ sizeLine := by rw [e.length]; exact hL
  refine sorted_of_sortT hl hLv (args_sorted1 _) (fun _ => args_list_sort _) fun _ => list_sort_vals (s := { s with heap := copyHeap s.heap vs }) (copyHeap_at s.heap vs) (SortsAt.data (s := { s with heap := sortingHeap (copyHeap s.heap vs) (s.heap.objs.size + 1) vs }) (each_map (R := fun v d => ∃ as, Reads (sortingHeap (copyHeap s.heap vs) (s.heap.objs.size + 1) vs) v d as) enc er') hal hk (bound_map hu)) hLv
    ⟨rfl, h _ (by rw [sortVals_length false rfl]; exact e.length) (sortVals_data false e er' hal)⟩
end PySem.W
namespace TK
open PySem PySem.Spec PyProof.Rows L2
/-- sorted of a tuple of data that are alike -/
def rSortT (K : PySem.W.Frag) : List V → Hp → VK → Prop := fun xs H Q => ∃ (p : Addr) (vs : List V) (ds : List PyData), xs = [.ref p] ∧ SqT K H p vs ∧ DpAll K H vs ds ∧ PySem.W.AllAlike ds ∧ PySem.W.Sortable ds ∧ PyData.depthAll ds ≤ 60 ∧
  ∀ (zs : List (V × PyData)) (q : Addr), zs.Perm (vs.zip ds) → zs.map (·.2) = ds.mergeSort (PySem.W.dataLe false id) → H q = none → Q (.ref q) (upd H q (.lst (zs.map (·.1))))
section
variable {X : Cx}
theorem cr_sortT (hu : X.A.units + 65 < cLine) : CallR X (.builtin "sorted") (rSortT X.K) := by
  intro pins s σ H xs us Q I r h
  obtain ⟨p, vs, ds, rfl, hs, hd, hal, hst, hdp, q⟩ := h
  obtain rfl := Vals.ref1 r
  obtain ⟨its, rv, hl, hz⟩ := I.tuple hs
  obtain ⟨as, hr⟩ := Dp.readsAll I _ _ _ hd rv
  have hlen := dpAll_length hd
  have hsnd := zip_snd vs ds hlen
  have hzl : (vs.zip ds).length = vs.length := by rw [List.length_zip, hlen, Nat.min_self]
  have hsnd' : (vs.zip ds).map (fun p : V × PyData => p.2) = ds := hsnd
  refine PySem.W.sorted_dataT (β := V × PyData) (enc := fun p => p.2) (R := fun u p => RelV p.1 u) (bs := vs.zip ds) hl (each_zip rv hr fun v d u bs h1 h2 => h1) (each_zip rv hr fun v d u bs h1 h2 => ⟨bs, h2⟩)
    (by rw [hsnd']; exact hal) (by rw [hsnd']; exact hst) (by rw [hzl]; exact hz) (fun b hb => ?_) fun out hol he => ?_
  · have : b.2 ∈ (vs.zip ds).map (fun p : V × PyData => p.2) := List.mem_map_of_mem hb
    rw [hsnd'] at this
    have := depth_mem this
    omega
  · obtain ⟨ep, he'⟩ := PyProof.Rows.sortedAll_at s.heap its out.toArray
    have hp := List.mergeSort_perm (vs.zip ds) (PySem.W.dataLe false fun p : V × PyData => p.2)
    have hv := vals_each (fun u p h => h) he
    have hlen2 : (((vs.zip ds).mergeSort (PySem.W.dataLe false fun p : V × PyData => p.2)).map (·.1)).length ≤ sizeLine := by
      rw [List.length_map, hp.length_eq, hzl]; exact hz
    refine ⟨.ref _, upd H (s.heap.objs.size + 1) (.lst (((vs.zip ds).mergeSort (PySem.W.dataLe false fun p : V × PyData => p.2)).map (·.1))), I.laid (t' := s.toks) (fun _ _ => PyProof.Rows.sortedAll_old) (Nat.le_succ _) ⟨hlen2, out, ep, hv, he'⟩, rfl, q _ _ hp ?_ (I.hok.fresh (Nat.le_succ _))⟩
    have em := List.map_mergeSort (r := PySem.W.dataLe false fun p : V × PyData => p.2) (s := PySem.W.dataLe false id) (f := fun p : V × PyData => p.2) (l := vs.zip ds) (fun a _ b _ => rfl)
    rw [hsnd] at em
    exact em
end
open Classical in
noncomputable def sortTS (st : List SV) (r : SV) : Option SV := match itemsOf st r with
  | some (true, ds) => if PySem.W.AllAlike ds ∧ PySem.W.Sortable ds ∧ PyData.depthAll ds ≤ 60 then some (.own false (ds.mergeSort (PySem.W.dataLe false id))) else none
  | _ => none
theorem c1_sortT {K : PySem.W.Frag} : C1 K (rSortT K) sortTS := by
  intro G st σ pst pσ H r1 x Q res R e post
  unfold sortTS at e
  split at e
  · rename_i ds e1
    split at e
    · rename_i ok
      cases e
      obtain ⟨fs, f1, fp, F, q1⟩ := R.top
      obtain ⟨a, vs, ea, hH, rv⟩ := F.items q1 e1
      cases ea
      refine ⟨a, vs, ds, rfl, SqT.of hH, RVs.dp _ _ rv, ok.1, ok.2.1, ok.2.2, fun zs q hp hm np => ?_⟩
      have r2 : RVs (Zf G (fs.flatten ++ (f1 :: fp).flatten)) H (zs.map (·.1)) (zs.map (·.2)) := RVs.unzip fun p hp' => rv.zipAll p (hp.mem_iff.mp hp')
      rw [hm] at r2
      exact post _ _ (Rep.under ⟨fs, _, F.newLst np r2⟩)
    · cases e
  · cases e
section
variable {X : Cx} {W : WX} {a : Expr} {f : SM SV} {pos p : Pos} {k : Nat}
theorem se_sortT (hr : Room k X.A) (hg : Gl X "sorted") (hm : X.mg "sorted" = none) (ha : SE X W a f) (hst : starEach [a] X.env = (false, eval a X.env) :: starEach [] X.env := by rfl) (h3 : (backTo pos (starEach [] X.env)).any (·.1) = false := by rfl) : SE X W (.Call (.Name "sorted" p) [a] [] pos) (call1 sortTS f) :=
  se_c1 (fun _ pa => pe_callB (cr_sortT (hu65 hr)) hg hm (by decide +kernel) pa (by decide) (by decide) hst h3) c1_sortT ha hst
end
end TK

namespace TK
open PySem PySem.Spec PyProof.Rows L2
/-! ## len(set(xs)), xs a list of tuples of ints -/
def rowsD : List D → Option (List (List Int))
  | [] => some []
  | .tuple ds :: rest => match intsOf ds, rowsD rest with
    | some ns, some nss => some (ns :: nss)
    | _, _ => none
  | _ => none
theorem rowsD_eq : ∀ {ds : List D} {nss : List (List Int)}, rowsD ds = some nss → ds = nss.map fun ns => PyData.tuple (ns.map PyData.int)
  | [], _, h => by cases h; rfl
  | d :: rest, nss, h => by
    cases d with
    | tuple ds =>
      unfold rowsD at h
      split at h
      · rename_i ns nss' e1 e2
        cases h
        rw [List.map_cons, ← rowsD_eq e2, intsOf_eq e1]
      · cases h
    | _ => cases h
theorem intsOf_ints : ∀ ns : List Int, intsOf (ns.map PyData.int) = some ns
  | [] => rfl
  | n :: ns => by
    have := intsOf_ints ns
    simp only [List.map_cons, intsOf, this]
    try rfl
theorem rowsD_rows : ∀ nss : List (List Int), rowsD (nss.map fun ns => PyData.tuple (ns.map PyData.int)) = some nss
  | [] => rfl
  | ns :: nss => by
    rw [List.map_cons, rowsD, intsOf_ints, rowsD_rows nss]
def lenSetTS (st : List SV) (r : SV) : Option SV := match itemsOf st r with
  | some (false, ds) => match rowsD ds with
    | some nss => if nss.eraseDups.length < 63 then some (.val (.int nss.eraseDups.length)) else none
    | none => none
  | _ => none
theorem rvs_rows {K : PySem.W.Frag} {Z : Addr → Prop} {H : Hp} : ∀ {nss : List (List Int)} {vs : List V}, RVs Z H vs (nss.map fun ns => PyData.tuple (ns.map PyData.int)) → ∃ ks : List (Addr × List Int), vs = ks.map (fun p => V.ref p.1) ∧ (∀ p ∈ ks, SqT K H p.1 (p.2.map V.int)) ∧ ks.map (·.2) = nss
  | [], _, h => by
    cases h
    exact ⟨[], rfl, fun p hp => (by cases hp), rfl⟩
  | ns :: nss, _, h => by
    cases h with
    | cons h1 h2 =>
      obtain ⟨ks, rfl, k1, k2⟩ := rvs_rows (K := K) h2
      cases h1 with
      | tup e1 e2 e3 =>
        rename_i a xs
        rw [e3.of_ints] at e1
        refine ⟨(a, ns) :: ks, rfl, fun p hp => ?_, by rw [List.map_cons, k2]⟩
        rcases List.mem_cons.mp hp with rfl | hp
        · exact SqT.of e1
        · exact k1 p hp
theorem nodup_eraseDupsR (ns : List (List Int)) : ns.eraseDups.Nodup := by
  have : ∀ (n : Nat) (ns : List (List Int)), ns.length ≤ n → ns.eraseDups.Nodup := by
    intro n
    induction n with
    | zero => intro ns h; cases ns with
      | nil => simp
      | cons _ _ => simp at h
    | succ n ih =>
      intro ns h
      cases ns with
      | nil => simp
      | cons a ns =>
        rw [List.eraseDups_cons, List.nodup_cons]
        refine ⟨fun hm => ?_, ih _ (Nat.le_trans (List.length_filter_le _ _) (by simpa using h))⟩
        rw [List.mem_eraseDups] at hm
        simp at hm
  exact this ns.length ns (Nat.le_refl _)
section
variable {X : Cx} {W : WX} {a : Expr} {f : SM SV} {p p2 q pos : Pos} {k : Nat}
def tLenSetT (K : PySem.W.Frag) (ta : TE) : TE := fun σ H Q => ta σ H fun x H1 => ∃ (l : Addr) (ks : List (Addr × List Int)), x = V.ref l ∧ H1 l = some (.lst (ks.map fun p => V.ref p.1)) ∧ (∀ p ∈ ks, SqT K H1 p.1 (p.2.map V.int)) ∧ (ks.map (·.2)).eraseDups.length < 63 ∧ Q (.int (ks.map (·.2)).eraseDups.length) H1
end
end TK

namespace TK
open PySem PySem.Spec PyProof.Rows L2
/-! ## texts: join, index, the signs of a text -/
def strsOf : List D → Option (List Str)
  | [] => some []
  | .str x :: ds => match strsOf ds with
    | some xs => some (x :: xs)
    | none => none
  | _ => none
theorem strsOf_eq : ∀ {ds : List D} {xs : List Str}, strsOf ds = some xs → ds = xs.map PyData.str
  | [], _, h => by cases h; rfl
  | d :: ds, xs, h => by
    cases d with
    | str x =>
      unfold strsOf at h
      split at h
      · rename_i xs' e
        cases h
        rw [List.map_cons, ← strsOf_eq e]
      · cases h
    | _ => cases h
theorem strsOf_map : ∀ xs : List Str, strsOf (xs.map PyData.str) = some xs
  | [] => rfl
  | x :: xs => by rw [List.map_cons, strsOf, strsOf_map xs]
theorem RVs.of_strs {Z : Addr → Prop} {H : Hp} : ∀ {vs : List V} {xs : List Str}, RVs Z H vs (xs.map PyData.str) → vs = xs.map V.str
  | [], [], _ => rfl
  | v :: vs, x :: xs, h => by
    cases h with
    | cons h1 h2 =>
      cases h1
      rw [RVs.of_strs h2]
      rfl
  | [], x :: xs, h => nomatch h
  | v :: vs, [], h => nomatch h
def joinS : G2 := fun st r1 r2 => match r1, itemsOf st r2 with
  | .val (.str a), some (t, ds) => match strsOf ds with
    | some ys => if (ys.map (·.length)).sum + ys.length * a.length ≤ 16777216 then some (.val (.str (Txt.join a ys))) else none
    | none => none
  | _, _ => none
def sindexS : G2 := fun _ r1 r2 => match r1, r2 with
  | .val (.str a), .val (.str b) => match Builtin.Str.occurrences a b 0 a.length 1 with
    | i :: _ => some (.val (.int (i : Nat)))
    | [] => none
  | _, _ => none
def rJoin (K : PySem.W.Frag) : R2 := fun x y H Q => ∃ a p, ∃ ys : List Str, x = .str a ∧ [y] = [.ref p] ∧ (SqL K H p (ys.map V.str) ∨ SqT K H p (ys.map V.str)) ∧ (ys.map (·.length)).sum + ys.length * a.length ≤ 16777216 ∧ Q (.str (Txt.join a ys)) H
def rSIndex : R2 := fun x y H Q => ∃ a b i rest, x = .str a ∧ [y] = [.str b] ∧ Builtin.Str.occurrences a b 0 a.length 1 = i :: rest ∧ Q (.int (i : Nat)) H
theorem ops_join {K : PySem.W.Frag} : OpS K (rJoin K) joinS := by
  intro G st σ pst pσ H r1 r2 x y Q res R e post
  unfold joinS at e
  split at e
  · rename_i a t ds e1
    split at e
    · rename_i ys e2
      split at e
      · rename_i hz
        cases e
        obtain ⟨fs, f2, f1, fp, F, q1, q2⟩ := R.top2
        obtain ⟨_, _, ex, rx⟩ := q1
        cases ex
        cases rx
        obtain ⟨p, vs, ey, hH, rv⟩ := F.items q2 e1
        cases ey
        rw [strsOf_eq e2] at rv
        rw [RVs.of_strs rv] at hH
        refine ⟨a, p, ys, rfl, rfl, ?_, hz, post _ H (R.pop.pop.pushS _)⟩
        cases t with
        | false => exact .inl (SqL.of hH)
        | true => exact .inr (SqT.of hH)
      · cases e
    · cases e
  · cases e
theorem ops_sindex {K : PySem.W.Frag} : OpS K rSIndex sindexS := by
  intro G st σ pst pσ H r1 r2 x y Q res R e post
  unfold sindexS at e
  split at e
  · rename_i a b
    split at e
    · rename_i i rest ei
      cases e
      obtain ⟨fs, f2, f1, fp, F, q1, q2⟩ := R.top2
      obtain ⟨_, _, ex, rx⟩ := q1
      cases ex
      cases rx
      obtain ⟨_, _, ey, ry⟩ := q2
      cases ey
      cases ry
      exact ⟨a, b, i, rest, rfl, rfl, ei, post _ H (R.pop.pop.pushI _)⟩
    · cases e
  · cases e
section
variable {X : Cx} {W : WX} {a b e : Expr} {f f1 f2 : SM SV} {tg : Expr} {apos pos : Pos}
/-- a module's text -/
theorem se_gstrE {x : Str} {z : Str} {pos : Pos} (hg : Gl X x) (hm : ∃ t, X.mg x = some (.str z t)) (hd : (x == ("__debug__" : Str)) = false := by decide) : SE X W (.Name x pos) (conS (.str z)) := by
  obtain ⟨t, hm⟩ := hm
  exact se_gstr hg hm hd
/-- a method of a text, of one argument -/
def strM (g : G2) (f1 f2 : SM SV) : SM SV := fun st => Out.bind (f1 st) fun r1 st1 => match r1 with
  | .val (.str _) => Out.bind (f2 st1) fun r2 st2 => okM (g st2 r1 r2) st2
  | _ => none
theorem se_m1 {c : Expr} {r : V → List V → Hp → VK → Prop} {g : G2} (mk : ∀ ta tb, PE X a ta → PE X b tb → PE X c (tM1 r ta tb)) (hs : OpS X.K (fun x y H Q => r x [y] H Q) g) (ha : SE X W a f1) (hb : SE X W b f2) : SE X W c (strM g f1 f2) := by
  obtain ⟨ta, pa, sa⟩ := ha
  obtain ⟨tb, pb, sb⟩ := hb
  refine ⟨_, mk ta tb pa pb, fun G st σ pst pσ H Q o R hf post => ?_⟩
  unfold strM at hf
  rcases Out.bind_some hf with ⟨r1, st1, h1, hf⟩ | ⟨x, st1, h1, rfl⟩
  · refine sa G st σ pst pσ H _ _ R h1 fun v H1 R1 => ?_
    split at hf
    · rename_i x
      have ev := R1.isS
      subst ev
      refine ⟨⟨x, rfl⟩, ?_⟩
      rcases Out.bind_some hf with ⟨r2, st2, h2, hf⟩ | ⟨y, st2, h2, rfl⟩
      · refine sb G st1 σ _ _ H1 _ _ R1 h2 fun v2 H2 R2 => ?_
        cases eg : g st2 (.val (.str x)) r2 with
        | none => rw [eg] at hf; cases hf
        | some res =>
          rw [eg] at hf
          cases hf
          exact hs G st2 σ pst pσ H2 _ _ _ _ Q res R2 eg post
      · exact sb G st1 σ _ _ H1 _ _ R1 h2 fun cls d H' ex R' => post cls d H' ex R'.pop
    · cases hf
  · exact sa G st σ pst pσ H _ _ R h1 post
theorem se_join (ha : SE X W a f1) (hb : SE X W b f2) (hs : starEach [b] X.env = [(false, eval b X.env)] := by rfl) (hbase : attributeBase a "join" X.env (eval a X.env) = eval a X.env := by rfl) (hline : (apos.endLine == pos.line) = true := by rfl) :
    SE X W (.Call (.Attribute a "join" apos) [b] [] pos) (strM joinS f1 f2) := se_m1 (fun _ _ pa pb => pe_join pa pb hs hbase hline) ops_join ha hb
theorem se_sindex (ha : SE X W a f1) (hb : SE X W b f2) (hs : starEach [b] X.env = [(false, eval b X.env)] := by rfl) (hbase : attributeBase a "index" X.env (eval a X.env) = eval a X.env := by rfl) (hline : (apos.endLine == pos.line) = true := by rfl) :
    SE X W (.Call (.Attribute a "index" apos) [b] [] pos) (strM sindexS f1 f2) := se_m1 (fun _ _ pa pb => pe_m1 PySem.F.slot_str_index PySem.F.type_str_index mt_sindex pa pb hs hbase hline) ops_sindex ha hb
def strI (f : SM SV) : SM Src := fun st => Out.bind (f st) fun r st1 => match r with
  | .val (.str x) => some (.ok ⟨x.cps.toList.map fun c => PyData.str ⟨#[c]⟩, none⟩ st1)
  | _ => none
theorem itok_str {K : PySem.W.Frag} {x : Str} {pv : V} : ItOk K (Its x) .emp pv ⟨x.cps.toList.map fun c => PyData.str ⟨#[c]⟩, none⟩ := by
  intro G st σ p2 v2 pst pσ H i hl hok R
  constructor
  · intro d hd
    rw [List.getElem?_map] at hd
    cases hc : x.cps.toList[i]? with
    | none => rw [hc] at hd; cases hd
    | some c =>
      rw [hc] at hd
      cases hd
      refine ⟨?_, fun y H' z => ?_⟩
      · have := (List.getElem?_eq_some_iff.mp hc).1
        show i < x.cps.size
        simpa using this
      · obtain ⟨rfl, c', hc', rfl⟩ := z
        rw [Array.getElem?_toList] at hc
        rw [hc] at hc'
        cases hc'
        exact R.pushS _
  · intro hlen
    show x.cps.size ≤ i
    simpa using hlen
theorem si_str (h : SE X W e f) : SI X W tg e (strI f) := by
  obtain ⟨t, p, s⟩ := h
  refine ⟨_, pi_str p, fun G st σ pst pσ H Rr o R hf post => ?_⟩
  unfold strI at hf
  rcases Out.bind_some hf with ⟨r, st1, h1, hf⟩ | ⟨x, st1, h1, rfl⟩
  · refine s G st σ pst pσ H _ _ R h1 fun v H1 R1 => ?_
    split at hf
    · rename_i x
      cases hf
      have ev := R1.isS
      subst ev
      exact ⟨x, rfl, post _ .emp .non H1 itok_str (fun _ => rfl) rfl R1.pop.pushEmp⟩
    · cases hf
  · exact s G st σ pst pσ H _ _ R h1 post
end
end TK

/-! ## dicts with rows as keys: {k: n}, d returned, k not in d, d[k] -/
namespace L2
open PySem PySem.Spec PyProof.Rows
def tDisp1 (tk tv : TE) : TE := fun σ H Q => ∀ p, H p = none → tPairs [(tk, tv)] σ (upd H p (.dT [])) fun ps H2 => ∃ y x, ps = [(y, x)] ∧ ∃ (key : List Key) (b : Addr), H2 p = some (.dT []) ∧ y = .ref b ∧ H2 b = some (.tup (key.map kV)) ∧ Q (.ref p) (upd H2 p (.dT (putK [] key x)))
theorem pe_disp1 {X : Cx} {pos : Pos} {k v : Expr} {tk tv : TE} (hu : X.A.units + 1 < cLine) (hk : PE X k tk) (hv : PE X v tv) : PE X (.Dict [some k] [v] pos) (tDisp1 tk tv) := by
  refine ⟨fun pins s σ H Q I q => ?_⟩
  have hn := I.hok.fresh (Nat.le_refl s.heap.objs.size)
  have I1 := I.laid (a := s.heap.objs.size) (o := .dT []) (h' := s.heap.push { cls := .type "dict", data := .dict #[] }) (t' := s.toks) (fun _ _ q => Heap.get?_push_of_some _ q) (Nat.le_refl _) (dt_empty s.heap I.big)
  rw [arm_eval_Dict, zip_pairTrees [some k] [v] X.env pos rfl rfl, dictDisplay_pairs (pairTrees [some k] [v] X.env pos) (by simp [pairTrees]) (by show 1 < 17; omega)]
  refine wpAny_bind (wpAny_standAt (wpAny_bind ?_))
  unfold subDict
  refine wpAny_bind (wpAny_alloc ?_)
  refine wpAny_bind (wpAny_holding ?_)
  rw [if_pos (by show 1 ≤ 15; omega)]
  refine wpAny_bind (thn ((pps_cons hk hv pps_nil).run pins _ σ (upd H s.heap.objs.size (.dT [])) (fun ps H2 => ∃ y x, ps = [(y, x)] ∧ ∃ (key : List Key) (b : Addr), H2 s.heap.objs.size = some (.dT []) ∧ y = .ref b ∧ H2 b = some (.tup (key.map kV)) ∧ Q (.ref s.heap.objs.size) (upd H2 s.heap.objs.size (.dT (putK [] key x)))) I1 ?_) fun ws s2 ⟨ps, H2, I2, rel, y, x, ep, key, b, e, ey, eb, q2⟩ => ?_)
  · exact q _ hn
  · subst ep ey
    cases rel with
    | @cons _ w _ ws r0 rt =>
      cases rt
      obtain ⟨u, v'⟩ := w
      obtain ⟨r1, r2⟩ := r0
      cases (show u = Value.ref b from r1)
      obtain ⟨z, hd, xs, rl, dd⟩ := dt_of I2.hok e
      cases rl
      refine wpAny_holding ?_
      rw [List.forIn_cons]
      refine wpAny_bind (wpAny_bind (wpAny_bind (wpAny_dictSet_heap (hsz := Nat.zero_le _) (show (tupleKind (mixKind X.prog X.w)).room X.A from Nat.lt_of_le_of_lt (Nat.le_succ _) hu) (key_of I2.hok eb) dd fun h' dd' hs => wpAny_pure ?_)))
      dsimp only
      rw [List.forIn_nil]
      refine wpAny_pure (wpAny_pure (wpAny_pure (wpAny_pure ?_)))
      have hl : (putK ([] : List (List Key × V)) key x).length ≤ sizeLine := by rw [sizeLine_eq]; have := length_putK ([] : List (List Key × V)) key x; simp at this ⊢; omega
      obtain ⟨o, es, ep, hq, h2, h3, h4, _, h5⟩ := dd'
      refine ⟨.ref s.heap.objs.size, upd H2 s.heap.objs.size (.dT (putK [] key x)), d_write (ob := .dT (putK [] key x)) I2 (by rw [e]; exact True.intro) hs ⟨o, hq⟩ ⟨hl, hd, _, KT.keeps (KT.put (show KT H2 [] [] from .nil) key eb r2) fun c ys ec => ?_, o, es, ep, hq, h2, h3, h4, h5⟩, rfl, q2⟩
      rw [upd_ne (ne_of ec e (fun z => nomatch z))]
      exact ec
end L2
namespace TK
open PySem PySem.Spec PyProof.Rows L2
section
variable {K : PySem.W.Frag} {G : Gh} {fs fp : List (List Addr)} {st : List SV} {σ : Sg} {pst : List SV} {pσ : List (Option V)} {H H' : Hp}
/-- a new dict with its entries on the stack -/
theorem RepF.newDctV {p : Addr} {t : Bool} {kvs : List (List Int × D)} {vs : List V} {o : HO} (ho : o = dctO t (kvs.map (·.1)) vs) (rv : RVs (Zf G (fs.flatten ++ fp.flatten)) H vs (kvs.map (·.2))) (h : RepF K G fs fp st σ pst pσ H) (hp : H p = none) :
    RepF K G fs ([p] :: fp) st σ (.dct t kvs :: pst) (some (.ref p) :: pσ) (upd H p o) := by
  have em : ∀ a, a ∈ fs.flatten ++ ([p] :: fp).flatten → a ∈ fs.flatten ++ fp.flatten ∨ a = p := fun a ha => by
    simp only [List.flatten_cons, List.mem_append, List.mem_singleton, List.singleton_append, List.mem_cons] at ha ⊢
    rcases ha with ha | ha | ha
    · exact .inl (.inl ha)
    · exact .inr ha
    · exact .inl (.inr ha)
  have k : Keep (Zf G (fs.flatten ++ fp.flatten)) (Zf G (fs.flatten ++ ([p] :: fp).flatten)) H (upd H p o) := h.keepNew hp fun a z => by
    rcases z with z | z
    · exact .inl (.inl z)
    · exact (em a z).imp .inr id
  have hl := h.laid (o := o) hp
  have hn : ∀ a ∈ fs.flatten ++ fp.flatten, upd H p o a = H a := fun a ha => by
    obtain ⟨xs, e, _⟩ := h.owned a ha
    rw [upd_ne (ne_of_none e hp)]
  refine ⟨h.slots.imp fun a b c hc q => q.frame k fun x hx => hn x (List.mem_append_left _ (mem_ff hc hx)), .cons ⟨p, vs, rfl, rfl, by rw [upd_same, ho], RVs.frame k _ _ rv⟩ (h.pend.imp fun a b c hc q => q.frame k fun x hx => hn x (List.mem_append_right _ (mem_ff hc hx))), ?_, fun a ha => ?_,
    hl.frame, hl.there, h.zxt, h.na, fun j hj => (List.mem_cons.mp hj).elim (fun e => nomatch e) (h.alk j)⟩
  · rw [List.flatten_cons]
    have np : p ∉ fs.flatten ++ fp.flatten := fun z => h.notZ hp (.inr z)
    have q : (p :: (fs.flatten ++ fp.flatten)).Nodup := List.nodup_cons.mpr ⟨np, h.nd⟩
    refine (List.Perm.nodup_iff ?_).mp q
    show (p :: (fs.flatten ++ fp.flatten)).Perm (fs.flatten ++ ([p] ++ fp.flatten))
    exact List.perm_middle.symm
  · rcases em a ha with ha | ha
    · exact h.fresh a ha
    · subst ha
      exact ⟨.inr (h.h0 hp), fun z => h.notZ hp (.inl z)⟩
/-- what slot i has goes onto the stack -/
theorem Rep.take {i : Nat} {sv : SV} {v : V} (h : Rep K G st σ pst pσ H) (hi : st[i]? = some sv) (hσ : σ[i]? = some (some v)) (hp : SV.al i ∉ pst) : Rep K G (st.set i .emp) σ (sv :: pst) (some v :: pσ) H := by
  obtain ⟨fs, fp, h⟩ := h
  obtain ⟨hs1, hp1, nd, fr, f1, f2, f3, f4, f5⟩ := h
  obtain ⟨v', f, e1, e2, q⟩ := hs1.get hi
  rw [hσ] at e1
  cases e1
  have hn := f4 sv (List.mem_of_getElem? hi)
  obtain ⟨l1, l2, eq1, eq2⟩ := flat_set (f := []) e2
  have pm : (fs.flatten ++ fp.flatten).Perm ((fs.set i []).flatten ++ (f :: fp).flatten) := by
    rw [eq2, eq1]
    simp only [List.flatten_append, List.flatten_cons, List.nil_append]
    rw [List.append_assoc l1.flatten, List.append_assoc l1.flatten]
    refine List.Perm.append_left _ ?_
    rw [← List.append_assoc l2.flatten]
    exact List.Perm.append_right _ List.perm_append_comm
  have k : Keep (Zf G (fs.flatten ++ fp.flatten)) (Zf G ((fs.set i []).flatten ++ (f :: fp).flatten)) H H := .sub fun a _ z => z.imp id fun m => pm.mem_iff.mpr m
  have hlen : i < σ.length := (List.getElem?_eq_some_iff.mp hσ).1
  refine ⟨fs.set i [], f :: fp, ⟨?_, .cons (q.frame k fun _ _ => rfl) (hp1.imp fun a b c _ q => q.frame k fun _ _ => rfl), (List.Perm.nodup_iff pm).mp nd, fun a ha => fr a (pm.mem_iff.mpr ha), f1, f2, f3, fun s hs => (List.mem_or_eq_of_mem_set hs).elim (f4 s) fun e => by rw [e]; rfl, fun j hj => ?_⟩⟩
  · have q2 := (hs1.imp (Q := SlotOk K G (Zf G ((fs.set i []).flatten ++ (f :: fp).flatten)) H σ) fun a b c _ q => q.frame k fun _ _ => rfl).set (a := some v) (b := .emp) (c := []) (p := rfl) i
    rwa [set_same hσ] at q2
  · rcases List.mem_cons.mp hj with e | hj
    · rw [← e] at hn; cases hn
    · obtain ⟨s, e, q⟩ := f5 j hj
      have hij : i ≠ j := fun e => hp (by rw [e]; exact hj)
      exact ⟨s, by rw [List.getElem?_set_ne hij]; exact e, q⟩
end
/-- {k: n}, k a row in a slot -/
def dlitS (i : Nat) (n : Int) : SM SV := fun st => match st[i]? with
  | some (.val (.tuple ds)) => match intsOf ds with
    | some ns => some (.ok (.dct true [(ns, .int n)]) st)
    | none => none
  | _ => none
section
variable {X : Cx} {W : WX} {o e e2 tg : Expr} {i : Nat} {pos apos : Pos} {fk f : SM SV}
theorem se_dlit {n : Int} {j} (hu : X.A.units + 1 < cLine) (ho : PE X o (tVar i)) : SE X W (.Dict [some o] [.Constant (.int n) j apos] pos) (dlitS i n) := by
  refine ⟨_, pe_disp1 hu ho pe_int, fun G st σ pst pσ H Q o R hf post => ?_⟩
  unfold dlitS at hf
  split at hf
  · rename_i ds es
    split at hf
    · rename_i ns en
      cases hf
      intro p hp
      obtain ⟨fs, fp, F⟩ := R
      obtain ⟨v, f, e1, e2, q⟩ := F.slots.get es
      obtain ⟨y, ey, hy⟩ := key_at (by rw [q.1] at q; exact q) (show keyOf (.tuple ds) = some (true, ns) by show (intsOf ds).map _ = _; rw [en]; rfl)
      subst ey
      simp only [if_true] at hy
      obtain ⟨b, rfl, hb⟩ := hy
      have nb : b ≠ p := ne_of_none hb hp
      refine ⟨.ref b, e1, .ref b, .int n, rfl, ns.map Sum.inl, b, upd_same, rfl, ?_, ?_⟩
      · rw [upd_ne nb, hb, List.map_map]; rfl
      · rw [upd_upd]
        exact post _ _ (Rep.ofF (F.newDctV (kvs := [(ns, .int n)]) (t := true) (vs := [.int n]) rfl (.cons (.int n) .nil) hp))
    · cases hf
  · cases hf
/-- d = a dict that a call or a display gives -/
def asgD (i : Nat) (f : SM SV) : SF := fun st => Fl.bind (f st) fun r st1 => match r with
  | .dct t kvs => if i < st1.length then some (.nx (st1.set i (.dct t kvs))) else none
  | _ => none
theorem s1_asgD (he : SE X W e f) (hg : PG X tg (gName i)) (hs : swapsWithSole [tg] e pos.line X.env = pure false := by rfl) (hw : swappedStores [tg] e X.env = pure none := by rfl)
    (h1 : (assignEach [tg] X.env).map (·.2) = [assign tg X.env] := by rfl) : S1 X W (.Assign [tg] e pos) (asgD i f) := by
  obtain ⟨t, p, s⟩ := he
  refine ⟨_, ps_asg p hg hs hw h1, fun G st σ pst pσ H D o na R hf post => ?_⟩
  unfold asgD at hf
  rcases Fl.bind_some hf with ⟨r1, st1, h1, hf⟩ | ⟨x, st1, h1, rfl⟩
  · refine s G st σ pst pσ H _ _ R h1 fun v H1 R1 => ?_
    show D.nx (σ.set i (some v)) H1
    split at hf
    · split at hf
      · rename_i hi
        cases hf
        exact post _ H1 (R1.setTop hi rfl (na.al i))
      · cases hf
    · cases hf
  · exact s G st σ pst pσ H _ _ R h1 (post σ)
/-- return d -/
def retD (i : Nat) : SF := fun st => match st[i]? with
  | some (.dct t kvs) => some (.rt (.dct t kvs) (st.set i .emp))
  | _ => none
theorem s1_retD (ho : PE X o (tVar i)) : S1 X W (.Return (some o) pos) (retD i) := by
  refine ⟨_, ps_ret ho, fun G st σ pst pσ H D o na R hf post => ?_⟩
  unfold retD at hf
  split at hf
  · rename_i t kvs es
    cases hf
    obtain ⟨fs, fp, F⟩ := id R
    obtain ⟨p, vs, e1, e2, _⟩ := F.dctAt es
    exact ⟨.ref p, e1, post _ σ H (R.take es e1 (na.al i))⟩
  · cases hf
/-- k not in d -/
def dNotInS (i : Nat) (f : SM SV) : SM SV := fun st => Out.bind (f st) fun r st1 => match r with
  | .val dk => match st1[i]?, keyOf dk with
    | some (.dct t kvs), some (tk, k) => if tk = t ∧ keysOk t kvs k = true then some (.ok (.val (.bool (!(dGet kvs k).isSome))) st1) else none
    | _, _ => none
  | _ => none
theorem dget_top {K : PySem.W.Frag} {G : Gh} {st : List SV} {σ : Sg} {pst : List SV} {pσ : List (Option V)} {H : Hp} {dk : D} {y : V} {t : Bool} {kvs : List (List Int × D)} {k : List Int} (R : Rep K G st σ (.val dk :: pst) (some y :: pσ) H) (es : st[i]? = some (.dct t kvs)) (ek : keyOf dk = some (t, k)) (ok : keysOk t kvs k = true) :
    ∃ p o, σ[i]? = some (some (.ref p)) ∧ DGet H p y o ∧ o.isSome = (dGet kvs k).isSome ∧ ∀ d, dGet kvs k = some d → ∃ v, o = some v ∧ Rep K G st σ (.val d :: pst) (some v :: pσ) H := by
  obtain ⟨fs, f1, fp, F, q1⟩ := R.top
  obtain ⟨p, es', eσ, _, hp, rdd⟩ := F.dctAt es
  obtain ⟨ef1, _⟩ := id q1
  subst ef1
  obtain ⟨y', ey, hy⟩ := key_at q1 ek
  cases ey
  refine ⟨p, dGet es' k, eσ, dget_at hp rdd ok hy, ?_, fun d hd => ?_⟩
  · rcases rd_get (k := k) rdd with ⟨g1, g2⟩ | ⟨v, d, g1, g2, rv⟩ <;> rw [g1, g2] <;> rfl
  · rcases rd_get (k := k) rdd with ⟨g1, g2⟩ | ⟨v, d', g1, g2, rv⟩
    · rw [hd] at g1; cases g1
    · rw [hd] at g1
      cases g1
      exact ⟨v, g2, (Rep.ofF (F.pushv rv)).under⟩
theorem se_dNotIn (hu : X.A.units + 1 < cLine) (hk : SE X W e fk) (ho : PE X o (tVar i)) (hm : behindInMarks .NotIn o = false := by rfl) : SE X W (.Compare e [.NotIn] [o] pos) (dNotInS i fk) := by
  obtain ⟨t, p, s⟩ := hk
  refine ⟨_, pe_cmp (pc_dnotin hu p ho) hm, fun G st σ pst pσ H Q o R hf post => ?_⟩
  unfold dNotInS at hf
  rcases Out.bind_some hf with ⟨r1, st1, h1, hf1⟩ | ⟨x, st1, h1, rfl⟩
  · refine s G st σ pst pσ H _ _ R h1 fun y H1 R1 => ?_
    clear hf
    split at hf1
    · rename_i dk
      split at hf1
      · rename_i t kvs tk k es ek
        split at hf1
        · rename_i hc
          obtain ⟨rfl, ok⟩ := hc
          cases hf1
          obtain ⟨p, o, eσ, dg, e3, _⟩ := dget_top R1 es ek ok
          refine ⟨.ref p, eσ, p, o, rfl, dg, ?_⟩
          rw [e3]
          exact post _ H1 (R1.pop.pushB _)
        · cases hf1
      · cases hf1
    · cases hf1
  · exact s G st σ pst pσ H _ _ R h1 post
def dNotInT (i : Nat) (f : SM SV) : SM Bool := fun st => Out.bind (f st) fun r st1 => match r with
  | .val dk => match st1[i]?, keyOf dk with
    | some (.dct t kvs), some (tk, k) => if tk = t ∧ keysOk t kvs k = true then some (.ok (!(dGet kvs k).isSome) st1) else none
    | _, _ => none
  | _ => none
theorem st_dNotIn (hu : X.A.units + 1 < cLine) (hk : SE X W e fk) (ho : PE X o (tVar i)) (hm : behindInMarks .NotIn o = false := by rfl) : ST X W (.Compare e [.NotIn] [o] pos) (dNotInT i fk) := by
  obtain ⟨t, p, s⟩ := hk
  refine ⟨_, pt_cmp (pc_dnotin hu p ho) hm, fun G st σ pst pσ H Q o R hf post => ?_⟩
  unfold dNotInT at hf
  rcases Out.bind_some hf with ⟨r1, st1, h1, hf1⟩ | ⟨x, st1, h1, rfl⟩
  · refine s G st σ pst pσ H _ _ R h1 fun y H1 R1 => ?_
    clear hf
    split at hf1
    · rename_i dk
      split at hf1
      · rename_i t kvs tk k es ek
        split at hf1
        · rename_i hc
          obtain ⟨rfl, ok⟩ := hc
          cases hf1
          obtain ⟨p, o, eσ, dg, e3, _⟩ := dget_top R1 es ek ok
          refine ⟨.ref p, eσ, p, o, rfl, dg, ?_⟩
          rw [e3]
          exact ⟨_, rfl, post H1 R1.pop⟩
        · cases hf1
      · cases hf1
    · cases hf1
  · exact s G st σ pst pσ H _ _ R h1 post
/-- d[k] -/
def dIdxS (i : Nat) (f : SM SV) : SM SV := fun st => match st[i]? with
  | some (.dct _ _) => Out.bind (f st) fun r st1 => match r with
    | .val dk => match st1[i]?, keyOf dk with
      | some (.dct t kvs), some (tk, k) => if tk = t ∧ keysOk t kvs k = true then match dGet kvs k with
        | some d => some (.ok (.val d) st1)
        | none => none else none
      | _, _ => none
    | _ => none
  | _ => none
theorem se_dIdx (hu : X.A.units + 1 < cLine) (ho : PE X o (tVar i)) (hk : SE X W e fk) (hs : NoSl e := by intro _ _; rfl) : SE X W (.Subscript o e pos) (dIdxS i fk) := by
  obtain ⟨t, p, s⟩ := hk
  refine ⟨_, pe_dget hu ho p hs, fun G st σ pst pσ H Q o R hf post => ?_⟩
  unfold dIdxS at hf
  split at hf
  · rename_i t0 kvs0 es0
    obtain ⟨fs0, fp0, F0⟩ := id R
    obtain ⟨p0, _, eσ0, _, _, _⟩ := F0.dctAt es0
    refine ⟨.ref p0, eσ0, ?_⟩
    rcases Out.bind_some hf with ⟨r1, st1, h1, hf1⟩ | ⟨x, st1, h1, rfl⟩
    · refine s G st σ pst pσ H _ _ R h1 fun y H1 R1 => ?_
      clear hf
      split at hf1
      · rename_i dk
        split at hf1
        · rename_i t kvs tk k es ek
          split at hf1
          · rename_i hc
            obtain ⟨rfl, ok⟩ := hc
            obtain ⟨p, o, eσ, dg, e3, e4⟩ := dget_top R1 es ek ok
            rw [eσ0] at eσ
            cases eσ
            split at hf1
            · rename_i d ed
              cases hf1
              obtain ⟨v, rfl, R2⟩ := e4 d ed
              exact ⟨p0, v, rfl, dg, post v H1 R2⟩
            · cases hf1
          · cases hf1
        · cases hf1
      · cases hf1
    · exact s G st σ pst pσ H _ _ R h1 post
  · cases hf
end
end TK

/-! ## a def changes a list that is only made for it: f(g(..), n) -/
namespace TK
open PySem PySem.Spec PyProof.Rows L2
def argsT (f0 f1 : SM SV) : SM (List SV) := fun st => Out.bind (f0 st) fun r0 st1 => match r0 with
  | .own false ds => Out.bind (f1 st1) fun r1 st2 => match r1 with
    | .val (.int n) => some (.ok [.own false ds, .val (.int n)] st2)
    | _ => none
  | _ => none
def callT (F : FS) (fs : SM (List SV)) : SM SV := fun st => Out.bind (fs st) fun rs st1 => match rs with
  | [.own false ds, .val (.int n)] => match F [.own true ds, .val (.int n)] with
    | some (.ret (.val (.int r)) (some _)) => some (.ok (.val (.int r)) st1)
    | _ => none
  | _ => none
section
variable {X : Cx} {W : WX} {F : FS} {f0 f1 : SM SV} {fs : SM (List SV)} {k : Nat} {f : Addr} {fd : FuncData} {ps : List Str} {x : Str} {p pos : Pos} {a b : Expr}
theorem sa_T (ha : SE X W a f0) (hb : SE X W b f1) (hs : starEach [a, b] X.env = (false, eval a X.env) :: starEach [b] X.env := by rfl) (hs2 : starEach [b] X.env = (false, eval b X.env) :: starEach [] X.env := by rfl) : SA X W [a, b] (argsT f0 f1) := by
  obtain ⟨t, p, s⟩ := ha
  obtain ⟨t2, p2, s2⟩ := hb
  refine ⟨_, pa_cons p (pa_cons p2 pa_nil hs2) hs, fun G st σ pst pσ H Q o R hf post => ?_⟩
  unfold argsT at hf
  rcases Out.bind_some hf with ⟨r1, st1, h1, hf1⟩ | ⟨x, st1, h1, rfl⟩
  · refine s G st σ pst pσ H _ _ R h1 fun v H1 R1 => ?_
    clear hf
    split at hf1
    · rename_i ds
      rcases Out.bind_some hf1 with ⟨r2, st2, h2, hf2⟩ | ⟨x, st2, h2, rfl⟩
      · refine s2 G st1 σ _ _ H1 _ _ R1 h2 fun v2 H2 R2 => ?_
        clear hf1
        split at hf2
        · cases hf2
          exact post [v, v2] H2 rfl R2
        · cases hf2
      · exact s2 G st1 σ _ _ H1 _ _ R1 h2 fun cls d H' ex R' => post cls d H' ex R'.pop
    · cases hf1
  · exact s G st σ pst pσ H _ _ R h1 post
theorem Rep.afterTmp {K : PySem.W.Frag} {G G' : Gh} {st : List SV} {σ : Sg} {pst : List SV} {pσ : List (Option V)} {H H' : Hp} {ds ds' : List D} {p0 : Addr} {r : Int} {v : V} {fs fp : List (List Addr)} (F1 : RepF K G fs ([p0] :: fp) st σ (.own false ds :: pst) (some (.ref p0) :: pσ) H)
    (hG : G' = ⟨H, fun a => a = p0, fun a => Zf G (fs.flatten ++ ([p0] :: fp).flatten) a ∧ a ≠ p0, some p0⟩)
    (R' : Rep K G' [ioSV (some ds')] [some (.ref p0)] [.val (.int r)] [some v] H') : Rep K G st σ (.val (.int r) :: pst) (some v :: pσ) H' := by
  obtain ⟨f0, fr, F', q1, q2, nd⟩ := R'.unfoldC
  obtain ⟨_, x, ex, rx⟩ := q2
  cases ex
  cases rx
  subst hG
  have sm : ∀ a o, H a = some o → a ≠ p0 → H' a = some o := fun a o e na => F'.frame a o e na
  obtain ⟨hs1, hp1, nd1, fr1, g1, g2, g3, g4, g5⟩ := id F1
  cases hp1 with
  | cons q0 hp2 =>
    have hsub : ∀ a, a ∈ fs.flatten ++ fp.flatten → a ∈ fs.flatten ++ ([p0] :: fp).flatten := fun a ha => by
      simp only [List.flatten_cons, List.mem_append] at ha ⊢
      rcases ha with ha | ha
      · exact .inl ha
      · exact .inr (.inr ha)
    have nd2 : (p0 :: (fs.flatten ++ fp.flatten)).Nodup := (List.Perm.nodup_iff (show (fs.flatten ++ ([p0] :: fp).flatten).Perm (p0 :: (fs.flatten ++ fp.flatten)) from List.perm_middle)).mp nd1
    obtain ⟨np, nd3⟩ := List.nodup_cons.mp nd2
    have e0 : fs.flatten ++ (([] : List Addr) :: fp).flatten = fs.flatten ++ fp.flatten := by rw [List.flatten_cons]; rfl
    have k : Keep (Zf G (fs.flatten ++ ([p0] :: fp).flatten)) (Zf G (fs.flatten ++ (([] : List Addr) :: fp).flatten)) H H' := fun a o e n => by
      have na : a ≠ p0 := fun q => n (.inr (by rw [q]; simp [List.flatten_cons]))
      refine ⟨sm a o e na, fun z => n (z.imp id fun m => ?_)⟩
      rw [e0] at m
      exact hsub a m
    have hn : ∀ a ∈ fs.flatten ++ fp.flatten, H' a = H a := fun a ha => by
      obtain ⟨o, e, _⟩ := F1.owned a (hsub a ha)
      rw [e]
      exact sm a o e fun q => np (by rw [← q]; exact ha)
    refine ⟨fs, [] :: fp, ⟨hs1.imp fun a b c hc q => q.frame k fun x hx => hn x (List.mem_append_left _ (mem_ff hc hx)), .cons ⟨rfl, _, rfl, .int r⟩ (hp2.imp fun a b c hc q => q.frame k fun x hx => hn x (List.mem_append_right _ (mem_ff hc hx))), by rw [e0]; exact nd3, fun a ha => fr1 a (hsub a (by rw [e0] at ha; exact ha)),
      fun a o e w => ?_, fun a e => ?_, g3, g4, fun i hi => g5 i ((List.mem_cons.mp hi).elim (fun e => nomatch e) (List.mem_cons_of_mem _))⟩⟩
    · have na : a ≠ p0 := fun q => by
        subst q
        rcases (fr1 a (by simp [List.flatten_cons])).1 with z | z
        · exact w z
        · rw [z] at e; cases e
      exact sm a o (g1 a o e w) na
    · by_cases na : a = p0
      · subst na
        obtain ⟨p', vs', _, ep, hp', _⟩ := q1
        cases ep
        rw [hp']
        simp
      · have q := g2 a e
        cases e2 : H a with
        | none => exact absurd e2 q
        | some o => rw [sm a o e2 na]; simp
theorem se_callT (FO : FnOk X.prog X.w X.K X.mg X.base (L2N.CX X.prog X.w) k f fd ps (spD X.K X.mg 2 F)) (hr : Room k X.A) (tk : L2N.Takes X W) (hg : Gl X x) (hm : X.mg x = some (.ref f)) (hk : PySem.W.keepIn X.K (.ref f) = true) (hb : Binds X.K fd ps [])
    (ha : SA X W [a, b] fs) (hdb : (x == ("__debug__" : Str)) = false := by decide) (he : starEach [a, b] X.env = (false, eval a X.env) :: starEach [b] X.env := by rfl) (hpl : (backTo pos (starEach [b] X.env)).any (·.1) = false := by rfl) :
    SE X W (.Call (.Name x p) [a, b] [] pos) (callT F fs) := by
  obtain ⟨t, pt, s⟩ := ha
  refine ⟨_, pe_callSD (E := fun σ cls d H => W cls d σ H) FO hr hg hm hk hb .nil (fun σ => L2N.passAt tk σ) pt hdb he hpl, fun G st σ pst pσ H Q o R hf post => ?_⟩
  unfold callT at hf
  rcases Out.bind_some hf with ⟨rs, st1, h1, hf1⟩ | ⟨x, st1, h1, rfl⟩
  · refine s G st σ pst pσ H _ _ R h1 fun vs H1 hl R1 => ?_
    rw [List.append_nil]
    clear hf
    split at hf1
    · rename_i ds n
      split at hf1
      · rename_i r ds' eF
        cases hf1
        match vs, hl with
        | [v0, v1], _ =>
          have R1 : Rep X.K G st1 σ (.val (.int n) :: .own false ds :: pst) (some v1 :: some v0 :: pσ) H1 := R1
          have ev := R1.isI
          subst ev
          obtain ⟨fs1, fp1, F1⟩ := R1.pop
          obtain ⟨hs1, hp1, nd, fr, g1, g2, g3, g4, g5⟩ := id F1
          cases hp1 with
          | @cons _ _ fo _ _ fp1 q0 hp2 =>
            obtain ⟨p0, vs0, rfl, e0, hp0, rv0, _⟩ := id q0
            cases e0
            have zof : ∀ a, Zf ⟨H1, fun a => a = p0, fun a => Zf G (fs1.flatten ++ ([p0] :: fp1).flatten) a ∧ a ≠ p0, some p0⟩ (([[p0], []] : List (List Addr)).flatten ++ ([] : List (List Addr)).flatten) a → Zf G (fs1.flatten ++ ([p0] :: fp1).flatten) a := fun a z => by
              rcases z with z | z
              · exact z.1
              · simp at z; exact .inr (by rw [z]; simp [List.flatten_cons])
            refine ⟨⟨H1, fun a => a = p0, fun a => Zf G (fs1.flatten ++ ([p0] :: fp1).flatten) a ∧ a ≠ p0, some p0⟩, [.own true ds, .val (.int n)], _, rfl, rfl, rfl, ?_, eF, ?_⟩
            · refine ⟨[[p0], []], [], ⟨.cons ⟨p0, vs0, rfl, rfl, hp0, RVs.frame (.sub fun a _ z => zof a z) _ _ rv0, fun _ => rfl⟩ (.cons ⟨rfl, _, rfl, .int n⟩ .nil), .nil, by simp, fun a ha => ?_, fun a o e _ => e, fun a e => e, fun a z => ⟨F1.zLst z.1, z.2⟩, fun sv hs => ?_, fun i hi => by cases hi⟩⟩
              · simp at ha
                subst ha
                exact ⟨.inl rfl, fun z => z.2 rfl⟩
              · simp at hs
                rcases hs with rfl | rfl <;> rfl
            · intro v H' hres R'
              have RR := Rep.afterTmp (r := r) F1 rfl R'
              exact post v H' RR
      · cases hf1
    · cases hf1
  · exact s G st σ pst pσ H _ _ R h1 post
end
end TK


namespace K07
open PySem PySem.Spec PyProof.Rows L2 TK
def topS (i : Nat) : Stmt := PySem.Challenge.pw_throwskept_k07_lengths_of_bridges.main.body.getD i (.Pass ⟨0, 0, 0, 0⟩)
abbrev s_thing_count : Stmt := topS 8
theorem sc_thing_count : FnScope ["state", "row"] ["state"] (defScope s_thing_count) := ⟨rfl, rfl, rfl, by decide +kernel, rfl, by decide +kernel, by decide +kernel⟩
abbrev s_number_at : Stmt := topS 10
theorem sc_number_at : FnScope ["state", "row", "hand"] ["state", "row", "hand"] (defScope s_number_at) := ⟨rfl, rfl, rfl, by decide +kernel, rfl, by decide +kernel, by decide +kernel⟩
abbrev s_fits : Stmt := topS 11
theorem sc_fits : FnScope ["one", "other", "length", "row", "later", "hand", "count"] ["one", "other", "length"] (defScope s_fits) := ⟨rfl, rfl, rfl, by decide +kernel, rfl, by decide +kernel, by decide +kernel⟩
abbrev s_bridge_length : Stmt := topS 12
theorem sc_bridge_length : FnScope ["one", "other", "length"] ["one", "other"] (defScope s_bridge_length) := ⟨rfl, rfl, rfl, by decide +kernel, rfl, by decide +kernel, by decide +kernel⟩
abbrev s__law_tape : Stmt := topS 14
theorem sc__law_tape : FnScope ["_law_script", "_law_k", "_law_cell"] ["_law_script", "_law_k"] (defScope s__law_tape) := ⟨rfl, rfl, rfl, by decide +kernel, rfl, by decide +kernel, by decide +kernel⟩
abbrev s__law_take : Stmt := topS 15
theorem sc__law_take : FnScope ["_law_tape_here", "_law_many", "_law_mixed", "_law_got"] ["_law_tape_here", "_law_many"] (defScope s__law_take) := ⟨rfl, rfl, rfl, by decide +kernel, rfl, by decide +kernel, by decide +kernel⟩
abbrev s__law_state : Stmt := topS 16
theorem sc__law_state : FnScope ["_law_things_here", "_law_hands", "_law_rows", "_law_row", "_law_hand", "_law_beat", "_law_one"] ["_law_things_here", "_law_hands"] (defScope s__law_state) := ⟨rfl, rfl, rfl, by decide +kernel, rfl, by decide +kernel, by decide +kernel⟩
abbrev s__law_same : Stmt := topS 17
theorem sc__law_same : FnScope ["_law_told_here", "_law_due", "_law_k"] ["_law_told_here", "_law_due"] (defScope s__law_same) := ⟨rfl, rfl, rfl, by decide +kernel, rfl, by decide +kernel, by decide +kernel⟩
abbrev s__law_count : Stmt := topS 18
theorem sc__law_count : FnScope ["_law_state_here", "_law_row", "_law_hand"] ["_law_state_here", "_law_row", "_law_hand"] (defScope s__law_count) := ⟨rfl, rfl, rfl, by decide +kernel, rfl, by decide +kernel, by decide +kernel⟩
abbrev s__law_length : Stmt := topS 19
theorem sc__law_length : FnScope ["_law_one", "_law_other", "_law_hands", "_law_k", "_law_over", "_law_row", "_law_hand"] ["_law_one", "_law_other", "_law_hands"] (defScope s__law_length) := ⟨rfl, rfl, rfl, by decide +kernel, rfl, by decide +kernel, by decide +kernel⟩
abbrev s__law_things : Stmt := topS 20
theorem sc__law_things : FnScope ["_law_tape_here", "_law_hands", "_law_many", "_law_far", "_law_k"] ["_law_tape_here", "_law_hands", "_law_many", "_law_far"] (defScope s__law_things) := ⟨rfl, rfl, rfl, by decide +kernel, rfl, by decide +kernel, by decide +kernel⟩
abbrev s__law_refused : Stmt := topS 21
theorem sc__law_refused : FnScope ["_law_one", "_law_other", "e", "_law_others"] ["_law_one", "_law_other"] (defScope s__law_refused) := ⟨rfl, rfl, rfl, by decide +kernel, rfl, by decide +kernel, by decide +kernel⟩
abbrev s__law_told : Stmt := topS 22
theorem sc__law_told : FnScope ["_law_one", "_law_other", "_law_due"] ["_law_one", "_law_other", "_law_due"] (defScope s__law_told) := ⟨rfl, rfl, rfl, by decide +kernel, rfl, by decide +kernel, by decide +kernel⟩
abbrev s__law_small : Stmt := topS 23
theorem sc__law_small : FnScope ["_law_many", "_law_found", "_law_code", "_law_beats", "_law_k"] ["_law_many"] (defScope s__law_small) := ⟨rfl, rfl, rfl, by decide +kernel, rfl, by decide +kernel, by decide +kernel⟩
abbrev s__law_next : Stmt := topS 24
theorem sc__law_next : FnScope ["_law_beats", "_law_rows", "_law_height", "_law_beat"] ["_law_beats"] (defScope s__law_next) := ⟨rfl, rfl, rfl, by decide +kernel, rfl, by decide +kernel, by decide +kernel⟩
abbrev s__law_walk : Stmt := topS 25
theorem sc__law_walk : FnScope ["_law_first", "_law_met", "_law_level", "_law_turn", "_law_following", "_law_beats", "_law_other"] ["_law_first"] (defScope s__law_walk) := ⟨rfl, rfl, rfl, by decide +kernel, rfl, by decide +kernel, by decide +kernel⟩
abbrev s_law : Stmt := topS 26
theorem sc_law : FnScope ["_law_script", "_law_k", "_law_rows", "_law_first", "_law_met", "_law_other", "_law_tape_here", "_law_hands", "_law_many", "_law_one", "_law_more", "_law_states", "_law_beats", "_law_beat"] ["_law_script"] (defScope s_law) := ⟨rfl, rfl, rfl, by decide +kernel, rfl, by decide +kernel, by decide +kernel⟩
def isaT : List ((Str × Str) × Bool) := [(("NoBridge", "Clash"), false), (("NoBridge", "NoPlace"), false), (("NoBridge", "NotPlain"), false), (("NoBridge", "BadText"), false), (("NoBridge", "NoBridge"), true), (("NoBridge", "ValueError"), true)]
def csT_ThrowError : List (Str × Bool) := [("NoBridge", true)]
@[simp] theorem isaT_0 : isaT.lookup (("NoBridge" : Str), ("Clash" : Str)) = some false := by decide +kernel
@[simp] theorem isaT_1 : isaT.lookup (("NoBridge" : Str), ("NoPlace" : Str)) = some false := by decide +kernel
@[simp] theorem isaT_2 : isaT.lookup (("NoBridge" : Str), ("NotPlain" : Str)) = some false := by decide +kernel
@[simp] theorem isaT_3 : isaT.lookup (("NoBridge" : Str), ("BadText" : Str)) = some false := by decide +kernel
@[simp] theorem isaT_4 : isaT.lookup (("NoBridge" : Str), ("NoBridge" : Str)) = some true := by decide +kernel
@[simp] theorem isaT_5 : isaT.lookup (("NoBridge" : Str), ("ValueError" : Str)) = some true := by decide +kernel
@[simp] theorem csT_ThrowError_0 : csT_ThrowError.lookup ("NoBridge" : Str) = some true := by decide +kernel
noncomputable def b_thing_count : SF := (retF (call1 sumG' (compS (seqI (varS 0)) [1] (bindN 1) yesT (call1 sumG' (varS 1)))))
noncomputable def F_thing_count : FS := runDef 2 b_thing_count
noncomputable def b_number_at : SF := (seqS (ifF (binT ltG (varS 1) (call1 lenS (varS 0))) (retF (binS idxS (binS idxS (varS 0) (varS 1)) (varS 2))) nilS) (retF (conS (.int 0))))
noncomputable def F_number_at : FS := runDef 3 b_number_at
noncomputable def b_fits : SF := (seqS (forF (enumI (sliceS (varS 0) (somePo (varS 2)) noPo)) (bindT [3, 4]) (forF (enumI (varS 4)) (bindT [5, 6]) (ifF (binT gtG (varS 6) (callS F_number_at (consA (varS 1) (consA (varS 3) (consA (varS 5) nilA))))) (retF (conS (.bool false))) nilS))) (retF (conS (.bool true))))
noncomputable def F_fits : FS := runDef 7 b_fits
noncomputable def b_bridge_length : SF := (seqS (ifF (binT neS (callS F_thing_count (consA (varS 0) nilA)) (callS F_thing_count (consA (varS 1) nilA))) (raiseF "NoBridge") nilS) (seqS (asgF (bindN 2) (conS (.int 0))) (seqS (whileF (notT (boolT (callS F_fits (consA (varS 0) (consA (varS 1) (consA (varS 2) nilA)))))) (augF 2 addG (conS (.int 1)))) (retF (varS 2)))))
noncomputable def F_bridge_length : FS := runDef 3 b_bridge_length
noncomputable def b__law_tape : SF := (seqS (asgF (bindN 2) (conS (.int 0))) (seqS (ifF (binT ltG (varS 1) (call1 lenS (varS 0))) (asgF (bindN 2) (call1 absS (binS idxS (varS 0) (varS 1)))) nilS) (retF (lstS (consA (varS 2) (consA (binS geS (varS 2) (binS powS (conS (.int 10)) (conS (.int 18)))) (consA (conS (.int 0)) (consA (binS modS (call1 intS (binS addS (binS mulG2 (varS 2) (conS (.int 64))) (varS 1))) (conS (.int 2147483647))) nilA))))))))
noncomputable def F__law_tape : FS := runDef 3 b__law_tape
noncomputable def b__law_take : SF := (seqS (ifF (andT (boolT (binS idxS (varS 0) (conS (.int 1)))) (binT gtG (binS idxS (varS 0) (conS (.int 0))) (conS (.int 0)))) (seqS (asgF (bindN 3) (binS modS (call1 intS (binS idxS (varS 0) (conS (.int 0)))) (varS 1))) (seqS (setF 0 (conS (.int 0)) (binS divS (binS idxS (varS 0) (conS (.int 0))) (varS 1))) (retF (varS 3)))) nilS) (seqS (setF 0 (conS (.int 2)) (binS addS (binS idxS (varS 0) (conS (.int 2))) (conS (.int 1)))) (seqS (asgF (bindN 2) (binS modS (call1 intS (binS addS (binS addS (binS mulG2 (binS idxS (varS 0) (conS (.int 3))) (conS (.int 48271))) (binS mulG2 (binS idxS (varS 0) (conS (.int 2))) (conS (.int 69621)))) (conS (.int 17)))) (conS (.int 2147483647)))) (seqS (asgF (bindN 2) (binS modS (call1 intS (binS addS (binS addS (binS mulG2 (varS 2) (conS (.int 40692))) (binS mulG2 (binS divS (varS 2) (conS (.int 977))) (conS (.int 31)))) (binS idxS (varS 0) (conS (.int 2))))) (conS (.int 2147483399)))) (retF (binS modS (call1 intS (binS divS (varS 2) (conS (.int 7)))) (varS 1)))))))
noncomputable def F__law_take : FS := runDef 4 b__law_take
noncomputable def b__law_state : SF := (seqS (asgO 2 (lstS nilA)) (seqS (forF (range1I (call1 maxG (binS addS (lstS (consA (conS (.int 0)) nilA)) (compS (seqI (varS 0)) [5, 4] (bindT [5, 4]) yesT (binS addS (conS (.int 1)) (varS 5)))))) (bindN 3) (exprF (appendS 2 (call1 tuple1S (compS (range1I (varS 1)) [4] (bindN 4) yesT (call1 lenS (compS (seqI (varS 0)) [6] (bindN 6) (binT eqS (varS 6) (tupS (consA (varS 3) (consA (varS 4) nilA)))) (varS 6)))))))) (retF (call1 tuple1S (varS 2)))))
noncomputable def F__law_state : FS := runDef 7 b__law_state
noncomputable def b__law_same (F__law_same : FS) : SF := (seqS (ifF (orT (boolT (isiS "tuple" (varS 1))) (boolT (isiS "list" (varS 1)))) (seqS (ifF (orT (binT neS (isiS "tuple" (varS 1)) (isiS "tuple" (varS 0))) (binT neS (isiS "list" (varS 1)) (isiS "list" (varS 0)))) (retF (conS (.bool false))) nilS) (seqS (ifF (binT neS (call1 lenS (varS 0)) (call1 lenS (varS 1))) (retF (conS (.bool false))) nilS) (seqS (forF (range1I (call1 lenS (varS 1))) (bindN 2) (ifF (notT (boolT (callS F__law_same (consA (binS idxS (varS 0) (varS 2)) (consA (binS idxS (varS 1) (varS 2)) nilA))))) (retF (conS (.bool false))) nilS)) (retF (conS (.bool true)))))) nilS) (seqS (ifF (binT isNS (varS 1) (conS .none)) (retF (binS isNS (varS 0) (conS .none))) nilS) (seqS (ifF (boolT (isiS "str" (varS 1))) (retF (andS (isiS "str" (varS 0)) (binS eqS (varS 0) (varS 1)))) nilS) (retF (andS (isiS "int" (varS 0)) (andS (notS (isiS "bool" (varS 0))) (binS eqS (varS 0) (varS 1))))))))
noncomputable def Fs__law_same : Nat → FS
  | 0 => fun _ => none
  | k + 1 => runDef 3 (b__law_same (Fs__law_same k))
noncomputable def F__law_same : FS := Fs__law_same 8
noncomputable def b__law_count : SF := (seqS (ifF (binT ltG (varS 1) (call1 lenS (varS 0))) (retF (binS idxS (binS idxS (varS 0) (varS 1)) (varS 2))) nilS) (retF (conS (.int 0))))
noncomputable def F__law_count : FS := runDef 3 b__law_count
noncomputable def b__law_length : SF := (seqS (ifF (binT neS (call1 sumG' (compS (seqI (varS 0)) [5] (bindN 5) yesT (call1 sumG' (varS 5)))) (call1 sumG' (compS (seqI (varS 1)) [5] (bindN 5) yesT (call1 sumG' (varS 5))))) (retF (conS .none)) nilS) (seqS (forF (range1I (binS addS (call1 lenS (varS 0)) (conS (.int 1)))) (bindN 3) (seqS (asgF (bindN 4) (conS (.int 0))) (seqS (forF (range1I (binS subS (call1 lenS (varS 0)) (varS 3))) (bindN 5) (forF (range1I (varS 2)) (bindN 6) (asgF (bindN 4) (binS addS (varS 4) (call1 intS (binS gtG (binS idxS (binS idxS (varS 0) (binS addS (varS 5) (varS 3))) (varS 6)) (callS F__law_count (consA (varS 1) (consA (varS 5) (consA (varS 6) nilA)))))))))) (ifF (binT eqS (varS 4) (conS (.int 0))) (retF (varS 3)) nilS)))) (retF (conS .none))))
noncomputable def F__law_length : FS := runDef 7 b__law_length
noncomputable def b__law_things : SF := (retF (compS (range1I (varS 2)) [4] (bindN 4) yesT (tupS (consA (callIO F__law_take (consA (varS 0) (consA (varS 3) nilA))) (consA (callIO F__law_take (consA (varS 0) (consA (varS 1) nilA))) nilA)))))
noncomputable def F__law_things : FS := runDef 5 b__law_things
noncomputable def b__law_refused : SF := (seqS (tryF 2 (fun n => csT_ThrowError.lookup n) (exprF (callS F_bridge_length (consA (varS 0) (consA (varS 1) nilA)))) (fun x a d => (seqS (asgF (bindN 3) (lstS (consA (isES isaT 2 "Clash" x a d) (consA (isES isaT 2 "NoPlace" x a d) (consA (isES isaT 2 "NotPlain" x a d) (consA (isES isaT 2 "BadText" x a d) nilA)))))) (retF (andS (isES isaT 2 "NoBridge" x a d) (andS (isES isaT 2 "ValueError" x a d) (notS (call1 anyS (varS 3))))))))) (retF (conS (.bool false))))
noncomputable def F__law_refused : FS := runDef 4 b__law_refused
noncomputable def b__law_told : SF := (seqS (ifF (binT isNS (varS 2) (conS .none)) (retF (callS F__law_refused (consA (varS 0) (consA (varS 1) nilA)))) nilS) (retF (callS F__law_same (consA (callS F_bridge_length (consA (varS 0) (consA (varS 1) nilA))) (consA (varS 2) nilA)))))
noncomputable def F__law_told : FS := runDef 3 b__law_told
noncomputable def b__law_small : SF := (seqS (asgO 1 (lstS nilA)) (seqS (forF (range1I (conS (.int 16))) (bindN 2) (seqS (asgF (bindN 3) (call1 tuple1S (compS (range1I (conS (.int 4))) [4] (bindN 4) (binT eqS (binS modS (call1 intS (binS divS (varS 2) (binS idxS (lstS (consA (conS (.int 1)) (consA (conS (.int 2)) (consA (conS (.int 4)) (consA (conS (.int 8)) nilA))))) (varS 4)))) (conS (.int 2))) (conS (.int 1))) (varS 4)))) (ifF (binT eqS (call1 lenS (varS 3)) (varS 0)) (exprF (appendS 1 (varS 3))) nilS))) (retF (varS 1))))
noncomputable def F__law_small : FS := runDef 5 b__law_small
noncomputable def b__law_next : SF := (seqS (ifF (binT notInS (conS (.int 0)) (varS 0)) (retF (lstS (consA (call1 tuple1S (compS (seqI (varS 0)) [3] (bindN 3) yesT (binS subS (varS 3) (conS (.int 1))))) nilA))) nilS) (seqS (asgO 1 (lstS nilA)) (seqS (forF (range2I (conS (.int 1)) (conS (.int 8))) (bindN 2) (ifF (binT notInS (varS 2) (varS 0)) (exprF (appendS 1 (call1 tuple1S (call1 sortG (binS addS (compS (seqI (varS 0)) [3] (bindN 3) (binT gtG (varS 3) (conS (.int 0))) (binS subS (varS 3) (conS (.int 1)))) (lstS (consA (binS subS (varS 2) (conS (.int 1))) nilA))))))) nilS)) (retF (varS 1)))))
noncomputable def F__law_next : FS := runDef 4 b__law_next
noncomputable def b__law_walk : SF := (seqS (asgD 1 (dlitS 0 0)) (seqS (asgF (bindN 2) (lstS (consA (varS 0) nilA))) (seqS (forF (range1I (conS (.int 4))) (bindN 3) (seqS (asgO 4 (lstS nilA)) (seqS (forF (seqI (varS 2)) (bindN 5) (forF (seqI (callS F__law_next (consA (varS 5) nilA))) (bindN 6) (ifF (dNotInT 1 (varS 6)) (seqS (putF 1 (varS 6) (binS addS (varS 3) (conS (.int 1)))) (exprF (appendS 4 (varS 6)))) nilS))) (asgF (bindN 2) (varS 4))))) (retD 1))))
noncomputable def F__law_walk : FS := runDef 7 b__law_walk
noncomputable def r_law_0 : SF := (seqS (asgF (bindN 5) (callS F__law_state (consA (callIO F__law_things (consA (varS 6) (consA (varS 7) (consA (varS 10) (consA (binS idxS (lstS (consA (conS (.int 3)) (consA (conS (.int 12)) nilA))) (callIO F__law_take (consA (varS 6) (consA (conS (.int 2)) nilA)))) nilA))))) (consA (varS 7) nilA)))) (ifF (notT (boolT (callS F__law_told (consA (varS 9) (consA (varS 5) (consA (callS F__law_length (consA (varS 9) (consA (varS 5) (consA (varS 7) nilA)))) nilA)))))) (retF (conS (.bool false))) nilS))
noncomputable def r_law_1 : SF := (seqS (asgF (bindN 10) (call2 max2S (conS (.int 0)) (binS addS (varS 8) (binS idxS (lstS (consA (conS (.int 0)) (consA (conS (.int 0)) (consA (conS (.int 0)) (consA (conS (.int 0)) (consA (conS (.int 1)) (consA (negS (conS (.int 1))) nilA))))))) (callIO F__law_take (consA (varS 6) (consA (conS (.int 6)) nilA))))))) r_law_0)
noncomputable def r_law_2 : SF := (seqS (asgF (bindN 9) (callS F__law_state (consA (callIO F__law_things (consA (varS 6) (consA (varS 7) (consA (varS 8) (consA (binS idxS (lstS (consA (conS (.int 3)) (consA (conS (.int 12)) nilA))) (callIO F__law_take (consA (varS 6) (consA (conS (.int 2)) nilA)))) nilA))))) (consA (varS 7) nilA)))) r_law_1)
noncomputable def r_law_3 : SF := (seqS (asgF (bindN 8) (callIO F__law_take (consA (varS 6) (consA (conS (.int 10)) nilA)))) r_law_2)
noncomputable def r_law_4 : SF := (seqS (asgF (bindN 7) (binS addS (conS (.int 1)) (callIO F__law_take (consA (varS 6) (consA (conS (.int 3)) nilA))))) r_law_3)
noncomputable def r_law_5 : SF := (seqS (forF (seqI (varS 2)) (bindN 5) (seqS (asgF (bindN 11) (compS (seqI (lstS (consA (varS 3) (consA (varS 5) nilA)))) [12] (bindN 12) yesT (callS F__law_state (consA (compS (seqI (varS 12)) [13] (bindN 13) yesT (tupS (consA (varS 13) (consA (conS (.int 0)) nilA)))) (consA (conS (.int 1)) nilA))))) (ifF (orT (dNotInT 4 (varS 5)) (notT (boolT (callS F__law_told (consA (binS idxS (varS 11) (conS (.int 0))) (consA (binS idxS (varS 11) (conS (.int 1))) (consA (dIdxS 4 (varS 5)) nilA))))))) (retF (conS (.bool false))) nilS))) (retF (conS (.bool true))))
noncomputable def r_law_6 : SF := (seqS (asgD 4 (callS F__law_walk (consA (varS 3) nilA))) r_law_5)
noncomputable def r_law_7 : SF := (seqS (asgF (bindN 3) (binS idxS (varS 2) (callT F__law_take (argsT (callS F__law_tape (consA (varS 0) (consA (conS (.int 9)) nilA))) (call1 lenS (varS 2)))))) r_law_6)
noncomputable def r_law_8 : SF := (seqS (asgF (bindN 2) (callS F__law_small (consA (callT F__law_take (argsT (callS F__law_tape (consA (varS 0) (consA (conS (.int 8)) nilA))) (conS (.int 4)))) nilA))) r_law_7)
noncomputable def b_law : SF := (seqS (forF (range1I (conS (.int 8))) (bindN 1) (seqS (asgO 6 (callS F__law_tape (consA (varS 0) (consA (varS 1) nilA)))) r_law_4)) r_law_8)
noncomputable def F_law : FS := runDef 14 b_law
structure Tx (K : PySem.W.Frag) (mg : Str → Option Value) (fa : Nat → Addr) (fd : Nat → FuncData) (ca : Nat → Addr) : Prop where
  n_ValueError : mg "ValueError" = none
  n_abs : mg "abs" = none
  n_any : mg "any" = none
  n_bool : mg "bool" = none
  n_enumerate : mg "enumerate" = none
  n_int : mg "int" = none
  n_isinstance : mg "isinstance" = none
  n_len : mg "len" = none
  n_list : mg "list" = none
  n_max : mg "max" = none
  n_range : mg "range" = none
  n_sorted : mg "sorted" = none
  n_str : mg "str" = none
  n_sum : mg "sum" = none
  n_tuple : mg "tuple" = none
  g_thing_count : mg "thing_count" = some (.ref (fa 0))
  f_thing_count : Fun K "thing_count" "thing_count" s_thing_count (fa 0) (fd 0)
  b_thing_count : L2.Binds K (fd 0) ["state"] []
  g_number_at : mg "number_at" = some (.ref (fa 1))
  f_number_at : Fun K "number_at" "number_at" s_number_at (fa 1) (fd 1)
  b_number_at : L2.Binds K (fd 1) ["state", "row", "hand"] []
  g_fits : mg "fits" = some (.ref (fa 2))
  f_fits : Fun K "fits" "fits" s_fits (fa 2) (fd 2)
  b_fits : L2.Binds K (fd 2) ["one", "other", "length"] []
  g_bridge_length : mg "bridge_length" = some (.ref (fa 3))
  f_bridge_length : Fun K "bridge_length" "bridge_length" s_bridge_length (fa 3) (fd 3)
  b_bridge_length : L2.Binds K (fd 3) ["one", "other"] []
  g__law_tape : mg "_law_tape" = some (.ref (fa 4))
  f__law_tape : Fun K "_law_tape" "_law_tape" s__law_tape (fa 4) (fd 4)
  b__law_tape : L2.Binds K (fd 4) ["_law_script", "_law_k"] []
  g__law_take : mg "_law_take" = some (.ref (fa 5))
  f__law_take : Fun K "_law_take" "_law_take" s__law_take (fa 5) (fd 5)
  b__law_take : L2.Binds K (fd 5) ["_law_tape_here", "_law_many"] []
  g__law_state : mg "_law_state" = some (.ref (fa 6))
  f__law_state : Fun K "_law_state" "_law_state" s__law_state (fa 6) (fd 6)
  b__law_state : L2.Binds K (fd 6) ["_law_things_here", "_law_hands"] []
  g__law_same : mg "_law_same" = some (.ref (fa 7))
  f__law_same : Fun K "_law_same" "_law_same" s__law_same (fa 7) (fd 7)
  b__law_same : L2.Binds K (fd 7) ["_law_told_here", "_law_due"] []
  g__law_count : mg "_law_count" = some (.ref (fa 8))
  f__law_count : Fun K "_law_count" "_law_count" s__law_count (fa 8) (fd 8)
  b__law_count : L2.Binds K (fd 8) ["_law_state_here", "_law_row", "_law_hand"] []
  g__law_length : mg "_law_length" = some (.ref (fa 9))
  f__law_length : Fun K "_law_length" "_law_length" s__law_length (fa 9) (fd 9)
  b__law_length : L2.Binds K (fd 9) ["_law_one", "_law_other", "_law_hands"] []
  g__law_things : mg "_law_things" = some (.ref (fa 10))
  f__law_things : Fun K "_law_things" "_law_things" s__law_things (fa 10) (fd 10)
  b__law_things : L2.Binds K (fd 10) ["_law_tape_here", "_law_hands", "_law_many", "_law_far"] []
  g__law_refused : mg "_law_refused" = some (.ref (fa 11))
  f__law_refused : Fun K "_law_refused" "_law_refused" s__law_refused (fa 11) (fd 11)
  b__law_refused : L2.Binds K (fd 11) ["_law_one", "_law_other"] []
  g__law_told : mg "_law_told" = some (.ref (fa 12))
  f__law_told : Fun K "_law_told" "_law_told" s__law_told (fa 12) (fd 12)
  b__law_told : L2.Binds K (fd 12) ["_law_one", "_law_other", "_law_due"] []
  g__law_small : mg "_law_small" = some (.ref (fa 13))
  f__law_small : Fun K "_law_small" "_law_small" s__law_small (fa 13) (fd 13)
  b__law_small : L2.Binds K (fd 13) ["_law_many"] []
  g__law_next : mg "_law_next" = some (.ref (fa 14))
  f__law_next : Fun K "_law_next" "_law_next" s__law_next (fa 14) (fd 14)
  b__law_next : L2.Binds K (fd 14) ["_law_beats"] []
  g__law_walk : mg "_law_walk" = some (.ref (fa 15))
  f__law_walk : Fun K "_law_walk" "_law_walk" s__law_walk (fa 15) (fd 15)
  b__law_walk : L2.Binds K (fd 15) ["_law_first"] []
  g_law : mg "law" = some (.ref (fa 16))
  f_law : Fun K "law" "law" s_law (fa 16) (fd 16)
  b_law : L2.Binds K (fd 16) ["_law_script"] []
  c_ThrowError : mg "ThrowError" = some (.ref (ca 0))
  x_ThrowError : XcOk K (ca 0)
  c_Clash : mg "Clash" = some (.ref (ca 1))
  x_Clash : XcOk K (ca 1)
  c_NoBridge : mg "NoBridge" = some (.ref (ca 2))
  x_NoBridge : XcOk K (ca 2)
  c_NoPlace : mg "NoPlace" = some (.ref (ca 3))
  x_NoPlace : XcOk K (ca 3)
  c_NotPlain : mg "NotPlain" = some (.ref (ca 4))
  x_NotPlain : XcOk K (ca 4)
  c_BadText : mg "BadText" = some (.ref (ca 5))
  x_BadText : XcOk K (ca 5)
  e_NoBridge : PySem.W.excIn K (ca 2) [.type "ValueError", .type "Exception", .type "BaseException", .type "object"] "ValueError.__new__" = true
  kp_NoBridge : PySem.W.keepIn K (.ref (ca 2)) = true
  cs_ThrowError : CsOk K mg (.ref (ca 0)) (fun n => csT_ThrowError.lookup n)
  xa : XcAll K
  isa : ∀ q ∈ isaT, IsaOk K mg q
section
variable {P : Program} {w : World} {K : PySem.W.Frag} {mg : Str → Option Value} {base : Heap} {fa : Nat → Addr} {fd : Nat → FuncData} {ca : Nat → Addr}
theorem w_thing_count (T : Tx K mg fa fd ca) : FnOk P w K mg base (L2N.CX P w) 1 (fa 0) (fd 0) ["state"] (spD K mg 1 F_thing_count) := def_ok T.f_thing_count sc_thing_count fun cdv A outer s H E hr =>
  (ss_one (s1_ret (se_sumG rfl (by rfl) T.n_sum (se_comp (own := ([("row", 1)] : List (Str × Nat))) rfl sc_thing_count.nd (si_seq (se_var (pv 0))) (blkOk_by (by kernel_rfl)) (fun _ _ _ _ _ => (sg_name (pg_name (i := 1) sc_thing_count.nd rfl (by first | exact Or.inl rfl | exact Or.inr rfl)))) (fun _ _ _ _ _ => spt_nil) (fun _ _ _ _ _ => (se_sumG rfl (by rfl) T.n_sum (se_var (pv 1))))))))
theorem w_number_at (T : Tx K mg fa fd ca) : FnOk P w K mg base (L2N.CX P w) 1 (fa 1) (fd 1) ["state", "row", "hand"] (spD K mg 3 F_number_at) := def_ok T.f_number_at sc_number_at fun cdv A outer s H E hr =>
  (ss_cons (s1_if (st_ltG hr (se_var (pv 1)) (se_len (by rfl) T.n_len (se_var (pv 0)))) (ss_one (s1_ret (se_idx (se_idx (se_var (pv 0)) (se_var (pv 1)) (fun _ _ => rfl)) (se_var (pv 2)) (fun _ _ => rfl)))) ss_nil) (ss_one (s1_ret se_int)))
theorem w_fits (T : Tx K mg fa fd ca) : FnOk P w K mg base (L2N.CX P w) 2 (fa 2) (fd 2) ["one", "other", "length"] (spD K mg 3 F_fits) := def_ok T.f_fits sc_fits fun cdv A outer s H E hr =>
  (ss_cons (s1_for (passes_of rfl) rfl (si_enum (by rfl) T.n_enumerate (se_slice (se_var (pv 0)) (sp_some (se_var (pv 2))) sp_none)) (sg_tup rfl (sgs_cons (pg_name (i := 3) sc_fits.nd rfl (by first | exact Or.inl rfl | exact Or.inr rfl)) (sgs_cons (pg_name (i := 4) sc_fits.nd rfl (by first | exact Or.inl rfl | exact Or.inr rfl)) sgs_nil))) (ss_one (s1_for (passes_of rfl) rfl (si_enum (by rfl) T.n_enumerate (se_var (pv 4))) (sg_tup rfl (sgs_cons (pg_name (i := 5) sc_fits.nd rfl (by first | exact Or.inl rfl | exact Or.inr rfl)) (sgs_cons (pg_name (i := 6) sc_fits.nd rfl (by first | exact Or.inl rfl | exact Or.inr rfl)) sgs_nil))) (ss_one (s1_if (st_gtG hr (se_var (pv 6)) (se_call ((w_number_at T).mono (by omega)) hr (L2N.takes_of rfl rfl rfl rfl) (by rfl) T.g_number_at T.f_number_at.kp T.b_number_at (sa_cons (se_var (pv 1)) (sa_cons (se_var (pv 3)) (sa_cons (se_var (pv 5)) sa_nil))) rfl lenA3)) (ss_one (s1_ret se_bl)) ss_nil))))) (ss_one (s1_ret se_bl)))
theorem w_bridge_length (T : Tx K mg fa fd ca) : FnOk P w K mg base (L2N.CX P w) 3 (fa 3) (fd 3) ["one", "other"] (spD K mg 2 F_bridge_length) := def_ok T.f_bridge_length sc_bridge_length fun cdv A outer s H E hr =>
  (ss_cons (s1_if (st_ne hr (se_call ((w_thing_count T).mono (by omega)) hr (L2N.takes_of rfl rfl rfl rfl) (by rfl) T.g_thing_count T.f_thing_count.kp T.b_thing_count (sa_cons (se_var (pv 0)) sa_nil) rfl lenA1) (se_call ((w_thing_count T).mono (by omega)) hr (L2N.takes_of rfl rfl rfl rfl) (by rfl) T.g_thing_count T.f_thing_count.kp T.b_thing_count (sa_cons (se_var (pv 1)) sa_nil) rfl lenA1)) (ss_one (s1_raise rfl (L2N.takes_of rfl rfl rfl rfl) PySem.F.excBase_ValueError T.e_NoBridge T.c_NoBridge T.kp_NoBridge (raises_own T.x_NoBridge.hs T.x_NoBridge.ht) (by rfl))) ss_nil) (ss_cons (s1_asg se_int (sg_name (pg_name (i := 2) sc_bridge_length.nd rfl (by first | exact Or.inl rfl | exact Or.inr rfl)))) (ss_cons (s1_while (passes_of rfl) (st_not (st_val (se_call ((w_fits T).mono (by omega)) hr (L2N.takes_of rfl rfl rfl rfl) (by rfl) T.g_fits T.f_fits.kp T.b_fits (sa_cons (se_var (pv 0)) (sa_cons (se_var (pv 1)) (sa_cons (se_var (pv 2)) sa_nil))) rfl lenA3))) (ss_one (s1_augAdd (i := 2) sc_bridge_length.nd rfl (by first | exact Or.inl rfl | exact Or.inr rfl) se_int))) (ss_one (s1_ret (se_var (pv 2)))))))
theorem w__law_tape (T : Tx K mg fa fd ca) : FnOk P w K mg base (L2N.CX P w) 1 (fa 4) (fd 4) ["_law_script", "_law_k"] (spD K mg 2 F__law_tape) := def_ok T.f__law_tape sc__law_tape fun cdv A outer s H E hr =>
  (ss_cons (s1_asg se_int (sg_name (pg_name (i := 2) sc__law_tape.nd rfl (by first | exact Or.inl rfl | exact Or.inr rfl)))) (ss_cons (s1_if (st_ltG hr (se_var (pv 1)) (se_len (by rfl) T.n_len (se_var (pv 0)))) (ss_one (s1_asg (se_abs (by rfl) T.n_abs (se_idx (se_var (pv 0)) (se_var (pv 1)) (fun _ _ => rfl))) (sg_name (pg_name (i := 2) sc__law_tape.nd rfl (by first | exact Or.inl rfl | exact Or.inr rfl))))) ss_nil) (ss_one (s1_ret (se_lst (sa_cons (se_var (pv 2)) (sa_cons (se_ge (se_var (pv 2)) (se_pow se_int se_int)) (sa_cons se_int (sa_cons (se_mod (se_intc (by rfl) T.n_int (se_add (se_mulG (se_var (pv 2)) se_int) (se_var (pv 1)))) se_int) sa_nil)))))))))
theorem w__law_take (T : Tx K mg fa fd ca) : FnOk P w K mg base (L2N.CX P w) 1 (fa 5) (fd 5) ["_law_tape_here", "_law_many"] (spD K mg 2 F__law_take) := def_ok T.f__law_take sc__law_take fun cdv A outer s H E hr =>
  (ss_cons (s1_if (sw_st (sw_and (st_val (se_idx (se_var (pv 0)) se_int (fun _ _ => rfl))) (sw_and1 (st_gtG hr (se_idx (se_var (pv 0)) se_int (fun _ _ => rfl)) se_int)))) (ss_cons (s1_asg (se_mod (se_intc (by rfl) T.n_int (se_idx (se_var (pv 0)) se_int (fun _ _ => rfl))) (se_var (pv 1))) (sg_name (pg_name (i := 3) sc__law_take.nd rfl (by first | exact Or.inl rfl | exact Or.inr rfl)))) (ss_cons (s1_set (i := 0) (pv 0) (se_fdiv (se_idx (se_var (pv 0)) se_int (fun _ _ => rfl)) (se_var (pv 1))) se_int) (ss_one (s1_ret (se_var (pv 3)))))) ss_nil) (ss_cons (s1_set (i := 0) (pv 0) (se_add (se_idx (se_var (pv 0)) se_int (fun _ _ => rfl)) se_int) se_int) (ss_cons (s1_asg (se_mod (se_intc (by rfl) T.n_int (se_add (se_add (se_mulG (se_idx (se_var (pv 0)) se_int (fun _ _ => rfl)) se_int) (se_mulG (se_idx (se_var (pv 0)) se_int (fun _ _ => rfl)) se_int)) se_int)) se_int) (sg_name (pg_name (i := 2) sc__law_take.nd rfl (by first | exact Or.inl rfl | exact Or.inr rfl)))) (ss_cons (s1_asg (se_mod (se_intc (by rfl) T.n_int (se_add (se_add (se_mulG (se_var (pv 2)) se_int) (se_mulG (se_fdiv (se_var (pv 2)) se_int) se_int)) (se_idx (se_var (pv 0)) se_int (fun _ _ => rfl)))) se_int) (sg_name (pg_name (i := 2) sc__law_take.nd rfl (by first | exact Or.inl rfl | exact Or.inr rfl)))) (ss_one (s1_ret (se_mod (se_intc (by rfl) T.n_int (se_fdiv (se_var (pv 2)) se_int)) (se_var (pv 1)))))))))
theorem w__law_state (T : Tx K mg fa fd ca) : FnOk P w K mg base (L2N.CX P w) 1 (fa 6) (fd 6) ["_law_things_here", "_law_hands"] (spD K mg 2 F__law_state) := def_ok T.f__law_state sc__law_state fun cdv A outer s H E hr =>
  (ss_cons (s1_asgO (i := 2) (se_lst sa_nil) (pg_name sc__law_state.nd rfl (by first | exact Or.inl rfl | exact Or.inr rfl))) (ss_cons (s1_for (passes_of rfl) rfl (si_range1 (by rfl) T.n_range (se_maxG hr rfl (by rfl) T.n_max (se_add (se_lst (sa_cons se_int sa_nil)) (se_comp (own := ([("_law_beat", 5), ("_law_hand", 4)] : List (Str × Nat))) rfl sc__law_state.nd (si_seq (se_var (pv 0))) (blkOk_by (by kernel_rfl)) (fun _ _ _ _ _ => (sg_tup rfl (sgs_cons (pg_name (i := 5) sc__law_state.nd rfl (by first | exact Or.inl rfl | exact Or.inr rfl)) (sgs_cons (pg_name (i := 4) sc__law_state.nd rfl (by first | exact Or.inl rfl | exact Or.inr rfl)) sgs_nil)))) (fun _ _ _ _ _ => spt_nil) (fun _ _ _ _ _ => (se_add se_int (se_var (pv 5)))))))) (sg_name (pg_name (i := 3) sc__law_state.nd rfl (by first | exact Or.inl rfl | exact Or.inr rfl))) (ss_one (s1_expr (se_append (se_tuple (by rfl) T.n_tuple (se_comp (own := ([("_law_hand", 4)] : List (Str × Nat))) rfl sc__law_state.nd (si_range1 (by rfl) T.n_range (se_var (pv 1))) (blkOk_by (by kernel_rfl)) (fun _ _ _ _ _ => (sg_name (pg_name (i := 4) sc__law_state.nd rfl (by first | exact Or.inl rfl | exact Or.inr rfl)))) (fun _ _ _ _ _ => spt_nil) (fun _ _ _ _ _ => (se_len (by rfl) T.n_len (se_comp (own := ([("_law_one", 6)] : List (Str × Nat))) rfl sc__law_state.nd (si_seq (se_var (pv 0))) (blkOk_by (by kernel_rfl)) (fun _ _ _ _ _ => (sg_name (pg_name (i := 6) sc__law_state.nd rfl (by first | exact Or.inl rfl | exact Or.inr rfl)))) (fun _ _ _ _ _ => (spt_one (st_eq hr (se_var (pv 6)) (se_tup (sa_cons (se_var (pv 3)) (sa_cons (se_var (pv 4)) sa_nil)))))) (fun _ _ _ _ _ => (se_var (pv 6)))))))) (mk := fun _ pa => pe_bm PySem.F.plainAttrs_list PySem.F.slot_list_append PySem.F.type_list_append mt_append (pv 2) pa))))) (ss_one (s1_ret (se_tuple (by rfl) T.n_tuple (se_var (pv 2)))))))
theorem w__law_same (T : Tx K mg fa fd ca) : ∀ k, FnOk P w K mg base (L2N.CX P w) (k + 1) (fa 7) (fd 7) ["_law_told_here", "_law_due"] (spD K mg 2 (Fs__law_same k))
  | 0 => fn_no
  | k + 1 => def_ok T.f__law_same sc__law_same fun cdv A outer s H E hr =>
    (ss_cons (s1_if (sw_st (sw_or (st_val (se_isi (by rfl) T.n_isinstance (by rfl) T.n_tuple (by decide +kernel) (se_var (pv 1)))) (sw_or1 (st_val (se_isi (by rfl) T.n_isinstance (by rfl) T.n_list (by decide +kernel) (se_var (pv 1))))))) (ss_cons (s1_if (sw_st (sw_or (st_ne hr (se_isi (by rfl) T.n_isinstance (by rfl) T.n_tuple (by decide +kernel) (se_var (pv 1))) (se_isi (by rfl) T.n_isinstance (by rfl) T.n_tuple (by decide +kernel) (se_var (pv 0)))) (sw_or1 (st_ne hr (se_isi (by rfl) T.n_isinstance (by rfl) T.n_list (by decide +kernel) (se_var (pv 1))) (se_isi (by rfl) T.n_isinstance (by rfl) T.n_list (by decide +kernel) (se_var (pv 0))))))) (ss_one (s1_ret se_bl)) ss_nil) (ss_cons (s1_if (st_ne hr (se_len (by rfl) T.n_len (se_var (pv 0))) (se_len (by rfl) T.n_len (se_var (pv 1)))) (ss_one (s1_ret se_bl)) ss_nil) (ss_cons (s1_for (passes_of rfl) rfl (si_range1 (by rfl) T.n_range (se_len (by rfl) T.n_len (se_var (pv 1)))) (sg_name (pg_name (i := 2) sc__law_same.nd rfl (by first | exact Or.inl rfl | exact Or.inr rfl))) (ss_one (s1_if (st_not (st_val (se_call ((w__law_same T k).mono (by omega)) hr (L2N.takes_of rfl rfl rfl rfl) (by rfl) T.g__law_same T.f__law_same.kp T.b__law_same (sa_cons (se_idx (se_var (pv 0)) (se_var (pv 2)) (fun _ _ => rfl)) (sa_cons (se_idx (se_var (pv 1)) (se_var (pv 2)) (fun _ _ => rfl)) sa_nil)) rfl lenA2))) (ss_one (s1_ret se_bl)) ss_nil))) (ss_one (s1_ret se_bl))))) ss_nil) (ss_cons (s1_if (st_is (se_var (pv 1)) se_non) (ss_one (s1_ret (se_is (se_var (pv 0)) se_non))) ss_nil) (ss_cons (s1_if (st_val (se_isi (by rfl) T.n_isinstance (by rfl) T.n_str (by decide +kernel) (se_var (pv 1)))) (ss_one (s1_ret (se_and (se_isi (by rfl) T.n_isinstance (by rfl) T.n_str (by decide +kernel) (se_var (pv 0))) (se_one (se_eq hr (se_var (pv 0)) (se_var (pv 1))))))) ss_nil) (ss_one (s1_ret (se_and (se_isi (by rfl) T.n_isinstance (by rfl) T.n_int (by decide +kernel) (se_var (pv 0))) (se_and (se_not (se_isi (by rfl) T.n_isinstance (by rfl) T.n_bool (by decide +kernel) (se_var (pv 0)))) (se_one (se_eq hr (se_var (pv 0)) (se_var (pv 1)))))))))))
theorem w__law_count (T : Tx K mg fa fd ca) : FnOk P w K mg base (L2N.CX P w) 1 (fa 8) (fd 8) ["_law_state_here", "_law_row", "_law_hand"] (spD K mg 3 F__law_count) := def_ok T.f__law_count sc__law_count fun cdv A outer s H E hr =>
  (ss_cons (s1_if (st_ltG hr (se_var (pv 1)) (se_len (by rfl) T.n_len (se_var (pv 0)))) (ss_one (s1_ret (se_idx (se_idx (se_var (pv 0)) (se_var (pv 1)) (fun _ _ => rfl)) (se_var (pv 2)) (fun _ _ => rfl)))) ss_nil) (ss_one (s1_ret se_int)))
theorem w__law_length (T : Tx K mg fa fd ca) : FnOk P w K mg base (L2N.CX P w) 2 (fa 9) (fd 9) ["_law_one", "_law_other", "_law_hands"] (spD K mg 3 F__law_length) := def_ok T.f__law_length sc__law_length fun cdv A outer s H E hr =>
  (ss_cons (s1_if (st_ne hr (se_sumG rfl (by rfl) T.n_sum (se_comp (own := ([("_law_row", 5)] : List (Str × Nat))) rfl sc__law_length.nd (si_seq (se_var (pv 0))) (blkOk_by (by kernel_rfl)) (fun _ _ _ _ _ => (sg_name (pg_name (i := 5) sc__law_length.nd rfl (by first | exact Or.inl rfl | exact Or.inr rfl)))) (fun _ _ _ _ _ => spt_nil) (fun _ _ _ _ _ => (se_sumG rfl (by rfl) T.n_sum (se_var (pv 5)))))) (se_sumG rfl (by rfl) T.n_sum (se_comp (own := ([("_law_row", 5)] : List (Str × Nat))) rfl sc__law_length.nd (si_seq (se_var (pv 1))) (blkOk_by (by kernel_rfl)) (fun _ _ _ _ _ => (sg_name (pg_name (i := 5) sc__law_length.nd rfl (by first | exact Or.inl rfl | exact Or.inr rfl)))) (fun _ _ _ _ _ => spt_nil) (fun _ _ _ _ _ => (se_sumG rfl (by rfl) T.n_sum (se_var (pv 5))))))) (ss_one (s1_ret se_non)) ss_nil) (ss_cons (s1_for (passes_of rfl) rfl (si_range1 (by rfl) T.n_range (se_add (se_len (by rfl) T.n_len (se_var (pv 0))) se_int)) (sg_name (pg_name (i := 3) sc__law_length.nd rfl (by first | exact Or.inl rfl | exact Or.inr rfl))) (ss_cons (s1_asg se_int (sg_name (pg_name (i := 4) sc__law_length.nd rfl (by first | exact Or.inl rfl | exact Or.inr rfl)))) (ss_cons (s1_for (passes_of rfl) rfl (si_range1 (by rfl) T.n_range (se_sub (se_len (by rfl) T.n_len (se_var (pv 0))) (se_var (pv 3)))) (sg_name (pg_name (i := 5) sc__law_length.nd rfl (by first | exact Or.inl rfl | exact Or.inr rfl))) (ss_one (s1_for (passes_of rfl) rfl (si_range1 (by rfl) T.n_range (se_var (pv 2))) (sg_name (pg_name (i := 6) sc__law_length.nd rfl (by first | exact Or.inl rfl | exact Or.inr rfl))) (ss_one (s1_asg (se_add (se_var (pv 4)) (se_intc (by rfl) T.n_int (se_gtG hr (se_idx (se_idx (se_var (pv 0)) (se_add (se_var (pv 5)) (se_var (pv 3))) (fun _ _ => rfl)) (se_var (pv 6)) (fun _ _ => rfl)) (se_call ((w__law_count T).mono (by omega)) hr (L2N.takes_of rfl rfl rfl rfl) (by rfl) T.g__law_count T.f__law_count.kp T.b__law_count (sa_cons (se_var (pv 1)) (sa_cons (se_var (pv 5)) (sa_cons (se_var (pv 6)) sa_nil))) rfl lenA3)))) (sg_name (pg_name (i := 4) sc__law_length.nd rfl (by first | exact Or.inl rfl | exact Or.inr rfl)))))))) (ss_one (s1_if (st_eq hr (se_var (pv 4)) se_int) (ss_one (s1_ret (se_var (pv 3)))) ss_nil))))) (ss_one (s1_ret se_non))))
theorem w__law_things (T : Tx K mg fa fd ca) : FnOk P w K mg base (L2N.CX P w) 2 (fa 10) (fd 10) ["_law_tape_here", "_law_hands", "_law_many", "_law_far"] (spD K mg 4 F__law_things) := def_ok T.f__law_things sc__law_things fun cdv A outer s H E hr =>
  (ss_one (s1_ret (se_comp (own := ([("_law_k", 4)] : List (Str × Nat))) rfl sc__law_things.nd (si_range1 (by rfl) T.n_range (se_var (pv 2))) (blkOk_by (by kernel_rfl)) (fun _ _ _ _ _ => (sg_name (pg_name (i := 4) sc__law_things.nd rfl (by first | exact Or.inl rfl | exact Or.inr rfl)))) (fun _ _ _ _ _ => spt_nil) (fun _ _ _ _ _ => (se_tup (sa_cons (se_callIO ((w__law_take T).mono (by omega)) hr takes0N (by rfl) T.g__law_take T.f__law_take.kp T.b__law_take (sa_cons (se_var (pv 0)) (sa_cons (se_var (pv 3)) sa_nil)) rfl lenA2) (sa_cons (se_callIO ((w__law_take T).mono (by omega)) hr takes0N (by rfl) T.g__law_take T.f__law_take.kp T.b__law_take (sa_cons (se_var (pv 0)) (sa_cons (se_var (pv 1)) sa_nil)) rfl lenA2) sa_nil)))))))
theorem w__law_refused (T : Tx K mg fa fd ca) : FnOk P w K mg base (L2N.CX P w) 4 (fa 11) (fd 11) ["_law_one", "_law_other"] (spD K mg 2 F__law_refused) := def_ok T.f__law_refused sc__law_refused fun cdv A outer s H E hr =>
  (ss_cons (s1_try (i := 2) rfl rfl sc__law_refused.nd rfl rfl ⟨rfl, by decide, .inl T.c_ThrowError⟩ T.cs_ThrowError (L2N.takes_of rfl rfl rfl rfl) (fun W pn xe tk hp => (ss_one (s1_expr (se_call ((w_bridge_length T).mono (by omega)) hr tk (by rfl) T.g_bridge_length T.f_bridge_length.kp T.b_bridge_length (sa_cons (se_var (pv 0)) (sa_cons (se_var (pv 1)) sa_nil)) rfl lenA2)))) (fun x a oe cls d pn hx hz hf => (ss_cons (s1_asg (se_lst (sa_cons (se_isE hz hf hx T.isa T.xa (by rfl) T.n_isinstance (pv 2) (cv_cls (by rfl) T.c_Clash)) (sa_cons (se_isE hz hf hx T.isa T.xa (by rfl) T.n_isinstance (pv 2) (cv_cls (by rfl) T.c_NoPlace)) (sa_cons (se_isE hz hf hx T.isa T.xa (by rfl) T.n_isinstance (pv 2) (cv_cls (by rfl) T.c_NotPlain)) (sa_cons (se_isE hz hf hx T.isa T.xa (by rfl) T.n_isinstance (pv 2) (cv_cls (by rfl) T.c_BadText)) sa_nil))))) (sg_name (pg_name (i := 3) sc__law_refused.nd rfl (by first | exact Or.inl rfl | exact Or.inr rfl)))) (ss_one (s1_ret (se_and (se_isE hz hf hx T.isa T.xa (by rfl) T.n_isinstance (pv 2) (cv_cls (by rfl) T.c_NoBridge)) (se_and (se_isE hz hf hx T.isa T.xa (by rfl) T.n_isinstance (pv 2) (cv_ty (T := "ValueError") (by rfl) T.n_ValueError (by decide +kernel))) (se_one (se_not (se_anyH hz hf (by rfl) T.n_any (se_var (pv 3)))))))))))) (ss_one (s1_ret se_bl)))
theorem w__law_told (T : Tx K mg fa fd ca) : FnOk P w K mg base (L2N.CX P w) 10 (fa 12) (fd 12) ["_law_one", "_law_other", "_law_due"] (spD K mg 3 F__law_told) := def_ok T.f__law_told sc__law_told fun cdv A outer s H E hr =>
  (ss_cons (s1_if (st_is (se_var (pv 2)) se_non) (ss_one (s1_ret (se_call ((w__law_refused T).mono (by omega)) hr (L2N.takes_of rfl rfl rfl rfl) (by rfl) T.g__law_refused T.f__law_refused.kp T.b__law_refused (sa_cons (se_var (pv 0)) (sa_cons (se_var (pv 1)) sa_nil)) rfl lenA2))) ss_nil) (ss_one (s1_ret (se_call ((w__law_same T 8).mono (by omega)) hr (L2N.takes_of rfl rfl rfl rfl) (by rfl) T.g__law_same T.f__law_same.kp T.b__law_same (sa_cons (se_call ((w_bridge_length T).mono (by omega)) hr (L2N.takes_of rfl rfl rfl rfl) (by rfl) T.g_bridge_length T.f_bridge_length.kp T.b_bridge_length (sa_cons (se_var (pv 0)) (sa_cons (se_var (pv 1)) sa_nil)) rfl lenA2) (sa_cons (se_var (pv 2)) sa_nil)) rfl lenA2))))
theorem w__law_small (T : Tx K mg fa fd ca) : FnOk P w K mg base (L2N.CX P w) 1 (fa 13) (fd 13) ["_law_many"] (spD K mg 1 F__law_small) := def_ok T.f__law_small sc__law_small fun cdv A outer s H E hr =>
  (ss_cons (s1_asgO (i := 1) (se_lst sa_nil) (pg_name sc__law_small.nd rfl (by first | exact Or.inl rfl | exact Or.inr rfl))) (ss_cons (s1_for (passes_of rfl) rfl (si_range1 (by rfl) T.n_range se_int) (sg_name (pg_name (i := 2) sc__law_small.nd rfl (by first | exact Or.inl rfl | exact Or.inr rfl))) (ss_cons (s1_asg (se_tuple (by rfl) T.n_tuple (se_comp (own := ([("_law_k", 4)] : List (Str × Nat))) rfl sc__law_small.nd (si_range1 (by rfl) T.n_range se_int) (blkOk_by (by kernel_rfl)) (fun _ _ _ _ _ => (sg_name (pg_name (i := 4) sc__law_small.nd rfl (by first | exact Or.inl rfl | exact Or.inr rfl)))) (fun _ _ _ _ _ => (spt_one (st_eq hr (se_mod (se_intc (by rfl) T.n_int (se_fdiv (se_var (pv 2)) (se_idx (se_lst (sa_cons se_int (sa_cons se_int (sa_cons se_int (sa_cons se_int sa_nil))))) (se_var (pv 4)) (fun _ _ => rfl)))) se_int) se_int))) (fun _ _ _ _ _ => (se_var (pv 4))))) (sg_name (pg_name (i := 3) sc__law_small.nd rfl (by first | exact Or.inl rfl | exact Or.inr rfl)))) (ss_one (s1_if (st_eq hr (se_len (by rfl) T.n_len (se_var (pv 3))) (se_var (pv 0))) (ss_one (s1_expr (se_append (se_var (pv 3)) (mk := fun _ pa => pe_bm PySem.F.plainAttrs_list PySem.F.slot_list_append PySem.F.type_list_append mt_append (pv 1) pa)))) ss_nil)))) (ss_one (s1_ret (se_var (pv 1))))))
theorem w__law_next (T : Tx K mg fa fd ca) : FnOk P w K mg base (L2N.CX P w) 1 (fa 14) (fd 14) ["_law_beats"] (spD K mg 1 F__law_next) := def_ok T.f__law_next sc__law_next fun cdv A outer s H E hr =>
  (ss_cons (s1_if (st_notIn hr se_int (se_var (pv 0)) (by rfl)) (ss_one (s1_ret (se_lst (sa_cons (se_tuple (by rfl) T.n_tuple (se_comp (own := ([("_law_beat", 3)] : List (Str × Nat))) rfl sc__law_next.nd (si_seq (se_var (pv 0))) (blkOk_by (by kernel_rfl)) (fun _ _ _ _ _ => (sg_name (pg_name (i := 3) sc__law_next.nd rfl (by first | exact Or.inl rfl | exact Or.inr rfl)))) (fun _ _ _ _ _ => spt_nil) (fun _ _ _ _ _ => (se_sub (se_var (pv 3)) se_int)))) sa_nil)))) ss_nil) (ss_cons (s1_asgO (i := 1) (se_lst sa_nil) (pg_name sc__law_next.nd rfl (by first | exact Or.inl rfl | exact Or.inr rfl))) (ss_cons (s1_for (passes_of rfl) rfl (si_range2 (by rfl) T.n_range se_int se_int) (sg_name (pg_name (i := 2) sc__law_next.nd rfl (by first | exact Or.inl rfl | exact Or.inr rfl))) (ss_one (s1_if (st_notIn hr (se_var (pv 2)) (se_var (pv 0)) (by rfl)) (ss_one (s1_expr (se_append (se_tuple (by rfl) T.n_tuple (se_sortG hr (by rfl) T.n_sorted (se_add (se_comp (own := ([("_law_beat", 3)] : List (Str × Nat))) rfl sc__law_next.nd (si_seq (se_var (pv 0))) (blkOk_by (by kernel_rfl)) (fun _ _ _ _ _ => (sg_name (pg_name (i := 3) sc__law_next.nd rfl (by first | exact Or.inl rfl | exact Or.inr rfl)))) (fun _ _ _ _ _ => (spt_one (st_gtG hr (se_var (pv 3)) se_int))) (fun _ _ _ _ _ => (se_sub (se_var (pv 3)) se_int))) (se_lst (sa_cons (se_sub (se_var (pv 2)) se_int) sa_nil))))) (mk := fun _ pa => pe_bm PySem.F.plainAttrs_list PySem.F.slot_list_append PySem.F.type_list_append mt_append (pv 1) pa)))) ss_nil))) (ss_one (s1_ret (se_var (pv 1)))))))
theorem w__law_walk (T : Tx K mg fa fd ca) : FnOk P w K mg base (L2N.CX P w) 2 (fa 15) (fd 15) ["_law_first"] (spD K mg 1 F__law_walk) := def_ok T.f__law_walk sc__law_walk fun cdv A outer s H E hr =>
  (ss_cons (s1_asgD (i := 1) (se_dlit (hu1 hr) (pv 0)) (pg_name sc__law_walk.nd rfl (by first | exact Or.inl rfl | exact Or.inr rfl))) (ss_cons (s1_asg (se_lst (sa_cons (se_var (pv 0)) sa_nil)) (sg_name (pg_name (i := 2) sc__law_walk.nd rfl (by first | exact Or.inl rfl | exact Or.inr rfl)))) (ss_cons (s1_for (passes_of rfl) rfl (si_range1 (by rfl) T.n_range se_int) (sg_name (pg_name (i := 3) sc__law_walk.nd rfl (by first | exact Or.inl rfl | exact Or.inr rfl))) (ss_cons (s1_asgO (i := 4) (se_lst sa_nil) (pg_name sc__law_walk.nd rfl (by first | exact Or.inl rfl | exact Or.inr rfl))) (ss_cons (s1_for (passes_of rfl) rfl (si_seq (se_var (pv 2))) (sg_name (pg_name (i := 5) sc__law_walk.nd rfl (by first | exact Or.inl rfl | exact Or.inr rfl))) (ss_one (s1_for (passes_of rfl) rfl (si_seq (se_call ((w__law_next T).mono (by omega)) hr (L2N.takes_of rfl rfl rfl rfl) (by rfl) T.g__law_next T.f__law_next.kp T.b__law_next (sa_cons (se_var (pv 5)) sa_nil) rfl lenA1)) (sg_name (pg_name (i := 6) sc__law_walk.nd rfl (by first | exact Or.inl rfl | exact Or.inr rfl))) (ss_one (s1_if (st_dNotIn (hu1 hr) (se_var (pv 6)) (pv 1)) (ss_cons (s1_put (i := 1) (hu1 hr) (pv 1) (se_add (se_var (pv 3)) se_int) (se_var (pv 6))) (ss_one (s1_expr (se_append (se_var (pv 6)) (mk := fun _ pa => pe_bm PySem.F.plainAttrs_list PySem.F.slot_list_append PySem.F.type_list_append mt_append (pv 4) pa))))) ss_nil))))) (ss_one (s1_asg (se_var (pv 4)) (sg_name (pg_name (i := 2) sc__law_walk.nd rfl (by first | exact Or.inl rfl | exact Or.inr rfl)))))))) (ss_one (s1_retD (pv 1))))))
theorem w_law (T : Tx K mg fa fd ca) : FnOk P w K mg base (L2N.CX P w) 11 (fa 16) (fd 16) ["_law_script"] (spD K mg 1 F_law) := def_ok T.f_law sc_law fun cdv A outer s H E hr =>
  (ss_cons (s1_for (passes_of rfl) rfl (si_range1 (by rfl) T.n_range se_int) (sg_name (pg_name (i := 1) sc_law.nd rfl (by first | exact Or.inl rfl | exact Or.inr rfl))) (ss_cons (s1_asgO (i := 6) (se_call ((w__law_tape T).mono (by omega)) hr (L2N.takes_of rfl rfl rfl rfl) (by rfl) T.g__law_tape T.f__law_tape.kp T.b__law_tape (sa_cons (se_var (pv 0)) (sa_cons (se_var (pv 1)) sa_nil)) rfl lenA2) (pg_name sc_law.nd rfl (by first | exact Or.inl rfl | exact Or.inr rfl))) (ss_cons (s1_asg (se_add se_int (se_callIO ((w__law_take T).mono (by omega)) hr (L2N.takes_of rfl rfl rfl rfl) (by rfl) T.g__law_take T.f__law_take.kp T.b__law_take (sa_cons (se_var (pv 6)) (sa_cons se_int sa_nil)) rfl lenA2)) (sg_name (pg_name (i := 7) sc_law.nd rfl (by first | exact Or.inl rfl | exact Or.inr rfl)))) (ss_cons (s1_asg (se_callIO ((w__law_take T).mono (by omega)) hr (L2N.takes_of rfl rfl rfl rfl) (by rfl) T.g__law_take T.f__law_take.kp T.b__law_take (sa_cons (se_var (pv 6)) (sa_cons se_int sa_nil)) rfl lenA2) (sg_name (pg_name (i := 8) sc_law.nd rfl (by first | exact Or.inl rfl | exact Or.inr rfl)))) (ss_cons (s1_asg (se_call ((w__law_state T).mono (by omega)) hr (L2N.takes_of rfl rfl rfl rfl) (by rfl) T.g__law_state T.f__law_state.kp T.b__law_state (sa_cons (se_callIO ((w__law_things T).mono (by omega)) hr (L2N.takes_of rfl rfl rfl rfl) (by rfl) T.g__law_things T.f__law_things.kp T.b__law_things (sa_cons (se_var (pv 6)) (sa_cons (se_var (pv 7)) (sa_cons (se_var (pv 8)) (sa_cons (se_idx (se_lst (sa_cons se_int (sa_cons se_int sa_nil))) (se_callIO ((w__law_take T).mono (by omega)) hr (L2N.takes_of rfl rfl rfl rfl) (by rfl) T.g__law_take T.f__law_take.kp T.b__law_take (sa_cons (se_var (pv 6)) (sa_cons se_int sa_nil)) rfl lenA2) (fun _ _ => rfl)) sa_nil)))) rfl lenA4) (sa_cons (se_var (pv 7)) sa_nil)) rfl lenA2) (sg_name (pg_name (i := 9) sc_law.nd rfl (by first | exact Or.inl rfl | exact Or.inr rfl)))) (ss_cons (s1_asg (se_max2 rfl (by rfl) T.n_max se_int (se_add (se_var (pv 8)) (se_idx (se_lst (sa_cons se_int (sa_cons se_int (sa_cons se_int (sa_cons se_int (sa_cons se_int (sa_cons (se_neg se_int) sa_nil))))))) (se_callIO ((w__law_take T).mono (by omega)) hr (L2N.takes_of rfl rfl rfl rfl) (by rfl) T.g__law_take T.f__law_take.kp T.b__law_take (sa_cons (se_var (pv 6)) (sa_cons se_int sa_nil)) rfl lenA2) (fun _ _ => rfl)))) (sg_name (pg_name (i := 10) sc_law.nd rfl (by first | exact Or.inl rfl | exact Or.inr rfl)))) (ss_cons (s1_asg (se_call ((w__law_state T).mono (by omega)) hr (L2N.takes_of rfl rfl rfl rfl) (by rfl) T.g__law_state T.f__law_state.kp T.b__law_state (sa_cons (se_callIO ((w__law_things T).mono (by omega)) hr (L2N.takes_of rfl rfl rfl rfl) (by rfl) T.g__law_things T.f__law_things.kp T.b__law_things (sa_cons (se_var (pv 6)) (sa_cons (se_var (pv 7)) (sa_cons (se_var (pv 10)) (sa_cons (se_idx (se_lst (sa_cons se_int (sa_cons se_int sa_nil))) (se_callIO ((w__law_take T).mono (by omega)) hr (L2N.takes_of rfl rfl rfl rfl) (by rfl) T.g__law_take T.f__law_take.kp T.b__law_take (sa_cons (se_var (pv 6)) (sa_cons se_int sa_nil)) rfl lenA2) (fun _ _ => rfl)) sa_nil)))) rfl lenA4) (sa_cons (se_var (pv 7)) sa_nil)) rfl lenA2) (sg_name (pg_name (i := 5) sc_law.nd rfl (by first | exact Or.inl rfl | exact Or.inr rfl)))) (ss_one (s1_if (st_not (st_val (se_call ((w__law_told T).mono (by omega)) hr (L2N.takes_of rfl rfl rfl rfl) (by rfl) T.g__law_told T.f__law_told.kp T.b__law_told (sa_cons (se_var (pv 9)) (sa_cons (se_var (pv 5)) (sa_cons (se_call ((w__law_length T).mono (by omega)) hr (L2N.takes_of rfl rfl rfl rfl) (by rfl) T.g__law_length T.f__law_length.kp T.b__law_length (sa_cons (se_var (pv 9)) (sa_cons (se_var (pv 5)) (sa_cons (se_var (pv 7)) sa_nil))) rfl lenA3) sa_nil))) rfl lenA3))) (ss_one (s1_ret se_bl)) ss_nil))))))))) (ss_cons (s1_asg (se_call ((w__law_small T).mono (by omega)) hr (L2N.takes_of rfl rfl rfl rfl) (by rfl) T.g__law_small T.f__law_small.kp T.b__law_small (sa_cons (se_callT ((w__law_take T).mono (by omega)) hr (L2N.takes_of rfl rfl rfl rfl) (by rfl) T.g__law_take T.f__law_take.kp T.b__law_take (sa_T (se_call ((w__law_tape T).mono (by omega)) hr (L2N.takes_of rfl rfl rfl rfl) (by rfl) T.g__law_tape T.f__law_tape.kp T.b__law_tape (sa_cons (se_var (pv 0)) (sa_cons se_int sa_nil)) rfl lenA2) se_int)) sa_nil) rfl lenA1) (sg_name (pg_name (i := 2) sc_law.nd rfl (by first | exact Or.inl rfl | exact Or.inr rfl)))) (ss_cons (s1_asg (se_idx (se_var (pv 2)) (se_callT ((w__law_take T).mono (by omega)) hr (L2N.takes_of rfl rfl rfl rfl) (by rfl) T.g__law_take T.f__law_take.kp T.b__law_take (sa_T (se_call ((w__law_tape T).mono (by omega)) hr (L2N.takes_of rfl rfl rfl rfl) (by rfl) T.g__law_tape T.f__law_tape.kp T.b__law_tape (sa_cons (se_var (pv 0)) (sa_cons se_int sa_nil)) rfl lenA2) (se_len (by rfl) T.n_len (se_var (pv 2))))) (fun _ _ => rfl)) (sg_name (pg_name (i := 3) sc_law.nd rfl (by first | exact Or.inl rfl | exact Or.inr rfl)))) (ss_cons (s1_asgD (i := 4) (se_call ((w__law_walk T).mono (by omega)) hr (L2N.takes_of rfl rfl rfl rfl) (by rfl) T.g__law_walk T.f__law_walk.kp T.b__law_walk (sa_cons (se_var (pv 3)) sa_nil) rfl lenA1) (pg_name sc_law.nd rfl (by first | exact Or.inl rfl | exact Or.inr rfl))) (ss_cons (s1_for (passes_of rfl) rfl (si_seq (se_var (pv 2))) (sg_name (pg_name (i := 5) sc_law.nd rfl (by first | exact Or.inl rfl | exact Or.inr rfl))) (ss_cons (s1_asgC (i := 11) (own := ([("_law_beats", 12)] : List (Str × Nat))) rfl sc_law.nd rfl rfl (sw_true rfl rfl rfl (by decide +kernel)) (si_seq (se_lst (sa_cons (se_var (pv 3)) (sa_cons (se_var (pv 5)) sa_nil)))) (blkOk_by (by kernel_rfl)) (fun _ _ _ _ _ => (sg_name (pg_name (i := 12) sc_law.nd rfl (by first | exact Or.inl rfl | exact Or.inr rfl)))) (fun _ _ _ _ _ => spt_nil) (fun _ _ _ _ _ => (se_call ((w__law_state T).mono (by omega)) hr takes0N (by rfl) T.g__law_state T.f__law_state.kp T.b__law_state (sa_cons (se_comp (own := ([("_law_beat", 13)] : List (Str × Nat))) rfl sc_law.nd (si_seq (se_var (pv 12))) (blkOk_by (by kernel_rfl)) (fun _ _ _ _ _ => (sg_name (pg_name (i := 13) sc_law.nd rfl (by first | exact Or.inl rfl | exact Or.inr rfl)))) (fun _ _ _ _ _ => spt_nil) (fun _ _ _ _ _ => (se_tup (sa_cons (se_var (pv 13)) (sa_cons se_int sa_nil))))) (sa_cons se_int sa_nil)) rfl lenA2))) (ss_one (s1_if (sw_st (sw_or (st_dNotIn (hu1 hr) (se_var (pv 5)) (pv 4)) (sw_or1 (st_not (st_val (se_call ((w__law_told T).mono (by omega)) hr (L2N.takes_of rfl rfl rfl rfl) (by rfl) T.g__law_told T.f__law_told.kp T.b__law_told (sa_cons (se_idx (se_var (pv 11)) se_int (fun _ _ => rfl)) (sa_cons (se_idx (se_var (pv 11)) se_int (fun _ _ => rfl)) (sa_cons (se_dIdx (hu1 hr) (pv 4) (se_var (pv 5))) sa_nil))) rfl lenA3)))))) (ss_one (s1_ret se_bl)) ss_nil)))) (ss_one (s1_ret se_bl)))))))
end
theorem all_mk {l : PySem.W.OpenLaw} {w : World} {K : PySem.W.Frag} {h : Heap} {mg : Str → Option Value} {fl : Addr} (X : K.In h) (G : h.Ns mainGlobals mg) (hfa : mg "law" = some (.ref fl)) {f0 f1 f2 f3 f4 f5 f6 f7 f8 f9 f10 f11 f12 f13 f14 f15 f16 : Addr}
    {od0 an0 od1 an1 od2 an2 od3 an3 od4 an4 od5 an5 od6 an6 od7 an7 od8 an8 od9 an9 od10 an10 od11 an11 od12 an12 od13 an13 od14 an14 od15 an15 od16 an16 : Option Addr} {sl0 sl1 sl2 sl3 sl4 sl5 sl6 sl7 sl8 sl9 sl10 sl11 sl12 sl13 sl14 sl15 sl16 : Array (Option Value)} {oc0 kV0 dc0 pm0 cd0 ct0 oc1 kV1 dc1 pm1 cd1 ct1 oc2 kV2 dc2 pm2 cd2 ct2 oc3 kV3 dc3 pm3 cd3 ct3 oc4 kV4 dc4 pm4 cd4 ct4 oc5 kV5 dc5 pm5 cd5 ct5 oc6 kV6 dc6 pm6 cd6 ct6 oc7 kV7 dc7 pm7 cd7 ct7 oc8 kV8 dc8 pm8 cd8 ct8 oc9 kV9 dc9 pm9 cd9 ct9 oc10 kV10 dc10 pm10 cd10 ct10 oc11 kV11 dc11 pm11 cd11 ct11 oc12 kV12 dc12 pm12 cd12 ct12 oc13 kV13 dc13 pm13 cd13 ct13 oc14 kV14 dc14 pm14 cd14 ct14 oc15 kV15 dc15 pm15 cd15 ct15 oc16 kV16 dc16 pm16 cd16 ct16 : Value}
    (a0 : PySem.W.nsIn K mainGlobals "thing_count" = some (some (.ref f0))) (l0 : K.lookup f0 = some ⟨oc0, od0, .func (PySem.W.fnOf "thing_count" "thing_count" (defArgs s_thing_count) (defBody s_thing_count) (defScope s_thing_count) .none kV0 dc0 pm0 an0 cd0 ct0), sl0⟩) (c0 : PySem.W.codeIn K cd0 "thing_count" = true) (k0 : PySem.W.keepIn K (.ref f0) = true)
    (a1 : PySem.W.nsIn K mainGlobals "number_at" = some (some (.ref f1))) (l1 : K.lookup f1 = some ⟨oc1, od1, .func (PySem.W.fnOf "number_at" "number_at" (defArgs s_number_at) (defBody s_number_at) (defScope s_number_at) .none kV1 dc1 pm1 an1 cd1 ct1), sl1⟩) (c1 : PySem.W.codeIn K cd1 "number_at" = true) (k1 : PySem.W.keepIn K (.ref f1) = true)
    (a2 : PySem.W.nsIn K mainGlobals "fits" = some (some (.ref f2))) (l2 : K.lookup f2 = some ⟨oc2, od2, .func (PySem.W.fnOf "fits" "fits" (defArgs s_fits) (defBody s_fits) (defScope s_fits) .none kV2 dc2 pm2 an2 cd2 ct2), sl2⟩) (c2 : PySem.W.codeIn K cd2 "fits" = true) (k2 : PySem.W.keepIn K (.ref f2) = true)
    (a3 : PySem.W.nsIn K mainGlobals "bridge_length" = some (some (.ref f3))) (l3 : K.lookup f3 = some ⟨oc3, od3, .func (PySem.W.fnOf "bridge_length" "bridge_length" (defArgs s_bridge_length) (defBody s_bridge_length) (defScope s_bridge_length) .none kV3 dc3 pm3 an3 cd3 ct3), sl3⟩) (c3 : PySem.W.codeIn K cd3 "bridge_length" = true) (k3 : PySem.W.keepIn K (.ref f3) = true)
    (a4 : PySem.W.nsIn K mainGlobals "_law_tape" = some (some (.ref f4))) (l4 : K.lookup f4 = some ⟨oc4, od4, .func (PySem.W.fnOf "_law_tape" "_law_tape" (defArgs s__law_tape) (defBody s__law_tape) (defScope s__law_tape) .none kV4 dc4 pm4 an4 cd4 ct4), sl4⟩) (c4 : PySem.W.codeIn K cd4 "_law_tape" = true) (k4 : PySem.W.keepIn K (.ref f4) = true)
    (a5 : PySem.W.nsIn K mainGlobals "_law_take" = some (some (.ref f5))) (l5 : K.lookup f5 = some ⟨oc5, od5, .func (PySem.W.fnOf "_law_take" "_law_take" (defArgs s__law_take) (defBody s__law_take) (defScope s__law_take) .none kV5 dc5 pm5 an5 cd5 ct5), sl5⟩) (c5 : PySem.W.codeIn K cd5 "_law_take" = true) (k5 : PySem.W.keepIn K (.ref f5) = true)
    (a6 : PySem.W.nsIn K mainGlobals "_law_state" = some (some (.ref f6))) (l6 : K.lookup f6 = some ⟨oc6, od6, .func (PySem.W.fnOf "_law_state" "_law_state" (defArgs s__law_state) (defBody s__law_state) (defScope s__law_state) .none kV6 dc6 pm6 an6 cd6 ct6), sl6⟩) (c6 : PySem.W.codeIn K cd6 "_law_state" = true) (k6 : PySem.W.keepIn K (.ref f6) = true)
    (a7 : PySem.W.nsIn K mainGlobals "_law_same" = some (some (.ref f7))) (l7 : K.lookup f7 = some ⟨oc7, od7, .func (PySem.W.fnOf "_law_same" "_law_same" (defArgs s__law_same) (defBody s__law_same) (defScope s__law_same) .none kV7 dc7 pm7 an7 cd7 ct7), sl7⟩) (c7 : PySem.W.codeIn K cd7 "_law_same" = true) (k7 : PySem.W.keepIn K (.ref f7) = true)
    (a8 : PySem.W.nsIn K mainGlobals "_law_count" = some (some (.ref f8))) (l8 : K.lookup f8 = some ⟨oc8, od8, .func (PySem.W.fnOf "_law_count" "_law_count" (defArgs s__law_count) (defBody s__law_count) (defScope s__law_count) .none kV8 dc8 pm8 an8 cd8 ct8), sl8⟩) (c8 : PySem.W.codeIn K cd8 "_law_count" = true) (k8 : PySem.W.keepIn K (.ref f8) = true)
    (a9 : PySem.W.nsIn K mainGlobals "_law_length" = some (some (.ref f9))) (l9 : K.lookup f9 = some ⟨oc9, od9, .func (PySem.W.fnOf "_law_length" "_law_length" (defArgs s__law_length) (defBody s__law_length) (defScope s__law_length) .none kV9 dc9 pm9 an9 cd9 ct9), sl9⟩) (c9 : PySem.W.codeIn K cd9 "_law_length" = true) (k9 : PySem.W.keepIn K (.ref f9) = true)
    (a10 : PySem.W.nsIn K mainGlobals "_law_things" = some (some (.ref f10))) (l10 : K.lookup f10 = some ⟨oc10, od10, .func (PySem.W.fnOf "_law_things" "_law_things" (defArgs s__law_things) (defBody s__law_things) (defScope s__law_things) .none kV10 dc10 pm10 an10 cd10 ct10), sl10⟩) (c10 : PySem.W.codeIn K cd10 "_law_things" = true) (k10 : PySem.W.keepIn K (.ref f10) = true)
    (a11 : PySem.W.nsIn K mainGlobals "_law_refused" = some (some (.ref f11))) (l11 : K.lookup f11 = some ⟨oc11, od11, .func (PySem.W.fnOf "_law_refused" "_law_refused" (defArgs s__law_refused) (defBody s__law_refused) (defScope s__law_refused) .none kV11 dc11 pm11 an11 cd11 ct11), sl11⟩) (c11 : PySem.W.codeIn K cd11 "_law_refused" = true) (k11 : PySem.W.keepIn K (.ref f11) = true)
    (a12 : PySem.W.nsIn K mainGlobals "_law_told" = some (some (.ref f12))) (l12 : K.lookup f12 = some ⟨oc12, od12, .func (PySem.W.fnOf "_law_told" "_law_told" (defArgs s__law_told) (defBody s__law_told) (defScope s__law_told) .none kV12 dc12 pm12 an12 cd12 ct12), sl12⟩) (c12 : PySem.W.codeIn K cd12 "_law_told" = true) (k12 : PySem.W.keepIn K (.ref f12) = true)
    (a13 : PySem.W.nsIn K mainGlobals "_law_small" = some (some (.ref f13))) (l13 : K.lookup f13 = some ⟨oc13, od13, .func (PySem.W.fnOf "_law_small" "_law_small" (defArgs s__law_small) (defBody s__law_small) (defScope s__law_small) .none kV13 dc13 pm13 an13 cd13 ct13), sl13⟩) (c13 : PySem.W.codeIn K cd13 "_law_small" = true) (k13 : PySem.W.keepIn K (.ref f13) = true)
    (a14 : PySem.W.nsIn K mainGlobals "_law_next" = some (some (.ref f14))) (l14 : K.lookup f14 = some ⟨oc14, od14, .func (PySem.W.fnOf "_law_next" "_law_next" (defArgs s__law_next) (defBody s__law_next) (defScope s__law_next) .none kV14 dc14 pm14 an14 cd14 ct14), sl14⟩) (c14 : PySem.W.codeIn K cd14 "_law_next" = true) (k14 : PySem.W.keepIn K (.ref f14) = true)
    (a15 : PySem.W.nsIn K mainGlobals "_law_walk" = some (some (.ref f15))) (l15 : K.lookup f15 = some ⟨oc15, od15, .func (PySem.W.fnOf "_law_walk" "_law_walk" (defArgs s__law_walk) (defBody s__law_walk) (defScope s__law_walk) .none kV15 dc15 pm15 an15 cd15 ct15), sl15⟩) (c15 : PySem.W.codeIn K cd15 "_law_walk" = true) (k15 : PySem.W.keepIn K (.ref f15) = true)
    (a16 : PySem.W.nsIn K mainGlobals "law" = some (some (.ref f16))) (l16 : K.lookup f16 = some ⟨oc16, od16, .func (PySem.W.fnOf "law" "law" (defArgs s_law) (defBody s_law) (defScope s_law) .none kV16 dc16 pm16 an16 cd16 ct16), sl16⟩) (c16 : PySem.W.codeIn K cd16 "law" = true) (k16 : PySem.W.keepIn K (.ref f16) = true)
    (z_ValueError : PySem.W.nsIn K mainGlobals "ValueError" = some none)
    (z_abs : PySem.W.nsIn K mainGlobals "abs" = some none)
    (z_any : PySem.W.nsIn K mainGlobals "any" = some none)
    (z_bool : PySem.W.nsIn K mainGlobals "bool" = some none)
    (z_enumerate : PySem.W.nsIn K mainGlobals "enumerate" = some none)
    (z_int : PySem.W.nsIn K mainGlobals "int" = some none)
    (z_isinstance : PySem.W.nsIn K mainGlobals "isinstance" = some none)
    (z_len : PySem.W.nsIn K mainGlobals "len" = some none)
    (z_list : PySem.W.nsIn K mainGlobals "list" = some none)
    (z_max : PySem.W.nsIn K mainGlobals "max" = some none)
    (z_range : PySem.W.nsIn K mainGlobals "range" = some none)
    (z_sorted : PySem.W.nsIn K mainGlobals "sorted" = some none)
    (z_str : PySem.W.nsIn K mainGlobals "str" = some none)
    (z_sum : PySem.W.nsIn K mainGlobals "sum" = some none)
    (z_tuple : PySem.W.nsIn K mainGlobals "tuple" = some none)
    {cc0 cc1 cc2 cc3 cc4 cc5 : Addr}
    (ga0 : PySem.W.nsIn K mainGlobals "ThrowError" = some (some (.ref cc0)))
    (ga1 : PySem.W.nsIn K mainGlobals "Clash" = some (some (.ref cc1)))
    (ga2 : PySem.W.nsIn K mainGlobals "NoBridge" = some (some (.ref cc2)))
    (ga3 : PySem.W.nsIn K mainGlobals "NoPlace" = some (some (.ref cc3)))
    (ga4 : PySem.W.nsIn K mainGlobals "NotPlain" = some (some (.ref cc4)))
    (ga5 : PySem.W.nsIn K mainGlobals "BadText" = some (some (.ref cc5)))
    (hc0 : PySem.W.isClsIn K cc0 = true)
    (hd0 : PySem.W.hasDictIn K cc0 = true)
    (hg0 : PySem.W.findIn K (.ref cc0) "__getattribute__" = some (some (.builtin "BaseException.__getattribute__")))
    (hk0 : PySem.W.findIn K (.ref cc0) "__getattr__" = some none)
    (hs0 : PySem.W.subIn K (.ref cc0) (.type "BaseException") = some true)
    (ha0 : PySem.W.findIn K (.ref cc0) "__class__" = some (some (.builtin "object.__class__")))
    (hm0 : PySem.W.mroIn K cc0 (.type "object") = some true)
    (ht0 : PySem.W.typeIn K (.ref cc0) = some (.type "type"))
    (hc1 : PySem.W.isClsIn K cc1 = true)
    (hd1 : PySem.W.hasDictIn K cc1 = true)
    (hg1 : PySem.W.findIn K (.ref cc1) "__getattribute__" = some (some (.builtin "BaseException.__getattribute__")))
    (hk1 : PySem.W.findIn K (.ref cc1) "__getattr__" = some none)
    (hs1 : PySem.W.subIn K (.ref cc1) (.type "BaseException") = some true)
    (ha1 : PySem.W.findIn K (.ref cc1) "__class__" = some (some (.builtin "object.__class__")))
    (hm1 : PySem.W.mroIn K cc1 (.type "object") = some true)
    (ht1 : PySem.W.typeIn K (.ref cc1) = some (.type "type"))
    (hc2 : PySem.W.isClsIn K cc2 = true)
    (hd2 : PySem.W.hasDictIn K cc2 = true)
    (hg2 : PySem.W.findIn K (.ref cc2) "__getattribute__" = some (some (.builtin "BaseException.__getattribute__")))
    (hk2 : PySem.W.findIn K (.ref cc2) "__getattr__" = some none)
    (hs2 : PySem.W.subIn K (.ref cc2) (.type "BaseException") = some true)
    (ha2 : PySem.W.findIn K (.ref cc2) "__class__" = some (some (.builtin "object.__class__")))
    (hm2 : PySem.W.mroIn K cc2 (.type "object") = some true)
    (ht2 : PySem.W.typeIn K (.ref cc2) = some (.type "type"))
    (hc3 : PySem.W.isClsIn K cc3 = true)
    (hd3 : PySem.W.hasDictIn K cc3 = true)
    (hg3 : PySem.W.findIn K (.ref cc3) "__getattribute__" = some (some (.builtin "BaseException.__getattribute__")))
    (hk3 : PySem.W.findIn K (.ref cc3) "__getattr__" = some none)
    (hs3 : PySem.W.subIn K (.ref cc3) (.type "BaseException") = some true)
    (ha3 : PySem.W.findIn K (.ref cc3) "__class__" = some (some (.builtin "object.__class__")))
    (hm3 : PySem.W.mroIn K cc3 (.type "object") = some true)
    (ht3 : PySem.W.typeIn K (.ref cc3) = some (.type "type"))
    (hc4 : PySem.W.isClsIn K cc4 = true)
    (hd4 : PySem.W.hasDictIn K cc4 = true)
    (hg4 : PySem.W.findIn K (.ref cc4) "__getattribute__" = some (some (.builtin "BaseException.__getattribute__")))
    (hk4 : PySem.W.findIn K (.ref cc4) "__getattr__" = some none)
    (hs4 : PySem.W.subIn K (.ref cc4) (.type "BaseException") = some true)
    (ha4 : PySem.W.findIn K (.ref cc4) "__class__" = some (some (.builtin "object.__class__")))
    (hm4 : PySem.W.mroIn K cc4 (.type "object") = some true)
    (ht4 : PySem.W.typeIn K (.ref cc4) = some (.type "type"))
    (hc5 : PySem.W.isClsIn K cc5 = true)
    (hd5 : PySem.W.hasDictIn K cc5 = true)
    (hg5 : PySem.W.findIn K (.ref cc5) "__getattribute__" = some (some (.builtin "BaseException.__getattribute__")))
    (hk5 : PySem.W.findIn K (.ref cc5) "__getattr__" = some none)
    (hs5 : PySem.W.subIn K (.ref cc5) (.type "BaseException") = some true)
    (ha5 : PySem.W.findIn K (.ref cc5) "__class__" = some (some (.builtin "object.__class__")))
    (hm5 : PySem.W.mroIn K cc5 (.type "object") = some true)
    (ht5 : PySem.W.typeIn K (.ref cc5) = some (.type "type"))
    (ex2 : PySem.W.excIn K cc2 [.type "ValueError", .type "Exception", .type "BaseException", .type "object"] "ValueError.__new__" = true)
    (ek2 : PySem.W.keepIn K (.ref cc2) = true)
    (su2_0 : PySem.W.subIn K (.ref cc2) (.ref cc0) = some true)
    (xn : PySem.W.specialIn K (.builtin "object.__class__") "__get__" = some (some (.builtin "getset_descriptor.__get__")))
    (xt : PySem.W.takesIn K (.builtin "object.__class__") = some true)
    (ik0 : PySem.W.kitOne K (.ref cc2) (.ref cc1) = some false)
    (ik1 : PySem.W.kitOne K (.ref cc2) (.ref cc3) = some false)
    (ik2 : PySem.W.kitOne K (.ref cc2) (.ref cc4) = some false)
    (ik3 : PySem.W.kitOne K (.ref cc2) (.ref cc5) = some false)
    (ik4 : PySem.W.kitOne K (.ref cc2) (.ref cc2) = some true)
    (ik5 : PySem.W.kitOne K (.ref cc2) (.type "ValueError") = some true)
    (hF : ∀ ns : List Int, ns.length ≤ 63 → ∃ io, F_law [.scr ns] = some (.ret (.val (.bool true)) io)) :
    ∃ fd : FuncData, (∀ (s : Shared) (v : Value), BindsTo s fd ⟨[v], []⟩ [("_law_script", v)]) ∧ ∀ base : Heap, K.In base → base.Ns mainGlobals mg → FnOk l.prog w K mg base (L2N.CX l.prog w) 11 fl fd ["_law_script"] (spLaw K) := by
  have e := hfa.symm.trans (PySem.W.mg_of X G a16)
  cases e
  have F0 := fun_mk (st := s_thing_count) l0 c0 k0
  have b0 := F0.binds (ps := ["state"]) fun _ _ _ _ _ _ us hl => match us, hl with | [_], _ => rfl
  have F1 := fun_mk (st := s_number_at) l1 c1 k1
  have b1 := F1.binds (ps := ["state", "row", "hand"]) fun _ _ _ _ _ _ us hl => match us, hl with | [_, _, _], _ => rfl
  have F2 := fun_mk (st := s_fits) l2 c2 k2
  have b2 := F2.binds (ps := ["one", "other", "length"]) fun _ _ _ _ _ _ us hl => match us, hl with | [_, _, _], _ => rfl
  have F3 := fun_mk (st := s_bridge_length) l3 c3 k3
  have b3 := F3.binds (ps := ["one", "other"]) fun _ _ _ _ _ _ us hl => match us, hl with | [_, _], _ => rfl
  have F4 := fun_mk (st := s__law_tape) l4 c4 k4
  have b4 := F4.binds (ps := ["_law_script", "_law_k"]) fun _ _ _ _ _ _ us hl => match us, hl with | [_, _], _ => rfl
  have F5 := fun_mk (st := s__law_take) l5 c5 k5
  have b5 := F5.binds (ps := ["_law_tape_here", "_law_many"]) fun _ _ _ _ _ _ us hl => match us, hl with | [_, _], _ => rfl
  have F6 := fun_mk (st := s__law_state) l6 c6 k6
  have b6 := F6.binds (ps := ["_law_things_here", "_law_hands"]) fun _ _ _ _ _ _ us hl => match us, hl with | [_, _], _ => rfl
  have F7 := fun_mk (st := s__law_same) l7 c7 k7
  have b7 := F7.binds (ps := ["_law_told_here", "_law_due"]) fun _ _ _ _ _ _ us hl => match us, hl with | [_, _], _ => rfl
  have F8 := fun_mk (st := s__law_count) l8 c8 k8
  have b8 := F8.binds (ps := ["_law_state_here", "_law_row", "_law_hand"]) fun _ _ _ _ _ _ us hl => match us, hl with | [_, _, _], _ => rfl
  have F9 := fun_mk (st := s__law_length) l9 c9 k9
  have b9 := F9.binds (ps := ["_law_one", "_law_other", "_law_hands"]) fun _ _ _ _ _ _ us hl => match us, hl with | [_, _, _], _ => rfl
  have F10 := fun_mk (st := s__law_things) l10 c10 k10
  have b10 := F10.binds (ps := ["_law_tape_here", "_law_hands", "_law_many", "_law_far"]) fun _ _ _ _ _ _ us hl => match us, hl with | [_, _, _, _], _ => rfl
  have F11 := fun_mk (st := s__law_refused) l11 c11 k11
  have b11 := F11.binds (ps := ["_law_one", "_law_other"]) fun _ _ _ _ _ _ us hl => match us, hl with | [_, _], _ => rfl
  have F12 := fun_mk (st := s__law_told) l12 c12 k12
  have b12 := F12.binds (ps := ["_law_one", "_law_other", "_law_due"]) fun _ _ _ _ _ _ us hl => match us, hl with | [_, _, _], _ => rfl
  have F13 := fun_mk (st := s__law_small) l13 c13 k13
  have b13 := F13.binds (ps := ["_law_many"]) fun _ _ _ _ _ _ us hl => match us, hl with | [_], _ => rfl
  have F14 := fun_mk (st := s__law_next) l14 c14 k14
  have b14 := F14.binds (ps := ["_law_beats"]) fun _ _ _ _ _ _ us hl => match us, hl with | [_], _ => rfl
  have F15 := fun_mk (st := s__law_walk) l15 c15 k15
  have b15 := F15.binds (ps := ["_law_first"]) fun _ _ _ _ _ _ us hl => match us, hl with | [_], _ => rfl
  have F16 := fun_mk (st := s_law) l16 c16 k16
  have b16 := F16.binds (ps := ["_law_script"]) fun _ _ _ _ _ _ us hl => match us, hl with | [_], _ => rfl
  have X0 : XcOk K cc0 := ⟨hc0, hd0, hg0, hk0, hs0, ha0, hm0, ht0⟩
  have X1 : XcOk K cc1 := ⟨hc1, hd1, hg1, hk1, hs1, ha1, hm1, ht1⟩
  have X2 : XcOk K cc2 := ⟨hc2, hd2, hg2, hk2, hs2, ha2, hm2, ht2⟩
  have X3 : XcOk K cc3 := ⟨hc3, hd3, hg3, hk3, hs3, ha3, hm3, ht3⟩
  have X4 : XcOk K cc4 := ⟨hc4, hd4, hg4, hk4, hs4, ha4, hm4, ht4⟩
  have X5 : XcOk K cc5 := ⟨hc5, hd5, hg5, hk5, hs5, ha5, hm5, ht5⟩
  have cs0 : CsOk K mg (.ref cc0) (fun n => csT_ThrowError.lookup n) := csOk_of X0 (List.forall_mem_cons.mpr ⟨⟨_, PySem.W.mg_of X G ga2, su2_0⟩, List.forall_mem_nil _⟩)
  have isa : ∀ q ∈ isaT, IsaOk K mg q := List.forall_mem_cons.mpr ⟨⟨_, _, PySem.W.mg_of X G ga2, X2, .inl (PySem.W.mg_of X G ga1), ik0⟩, List.forall_mem_cons.mpr ⟨⟨_, _, PySem.W.mg_of X G ga2, X2, .inl (PySem.W.mg_of X G ga3), ik1⟩, List.forall_mem_cons.mpr ⟨⟨_, _, PySem.W.mg_of X G ga2, X2, .inl (PySem.W.mg_of X G ga4), ik2⟩, List.forall_mem_cons.mpr ⟨⟨_, _, PySem.W.mg_of X G ga2, X2, .inl (PySem.W.mg_of X G ga5), ik3⟩, List.forall_mem_cons.mpr ⟨⟨_, _, PySem.W.mg_of X G ga2, X2, .inl (PySem.W.mg_of X G ga2), ik4⟩, List.forall_mem_cons.mpr ⟨⟨_, _, PySem.W.mg_of X G ga2, X2, .inr ⟨PySem.W.mg_none_of X G z_ValueError, by decide +kernel⟩, ik5⟩, List.forall_mem_nil _⟩⟩⟩⟩⟩⟩
  have T : Tx K mg (fun i => [f0, f1, f2, f3, f4, f5, f6, f7, f8, f9, f10, f11, f12, f13, f14, f15, fl].getD i f0) (fun i => [PySem.W.fnOf "thing_count" "thing_count" (defArgs s_thing_count) (defBody s_thing_count) (defScope s_thing_count) .none kV0 dc0 pm0 an0 cd0 ct0, PySem.W.fnOf "number_at" "number_at" (defArgs s_number_at) (defBody s_number_at) (defScope s_number_at) .none kV1 dc1 pm1 an1 cd1 ct1, PySem.W.fnOf "fits" "fits" (defArgs s_fits) (defBody s_fits) (defScope s_fits) .none kV2 dc2 pm2 an2 cd2 ct2, PySem.W.fnOf "bridge_length" "bridge_length" (defArgs s_bridge_length) (defBody s_bridge_length) (defScope s_bridge_length) .none kV3 dc3 pm3 an3 cd3 ct3, PySem.W.fnOf "_law_tape" "_law_tape" (defArgs s__law_tape) (defBody s__law_tape) (defScope s__law_tape) .none kV4 dc4 pm4 an4 cd4 ct4, PySem.W.fnOf "_law_take" "_law_take" (defArgs s__law_take) (defBody s__law_take) (defScope s__law_take) .none kV5 dc5 pm5 an5 cd5 ct5, PySem.W.fnOf "_law_state" "_law_state" (defArgs s__law_state) (defBody s__law_state) (defScope s__law_state) .none kV6 dc6 pm6 an6 cd6 ct6, PySem.W.fnOf "_law_same" "_law_same" (defArgs s__law_same) (defBody s__law_same) (defScope s__law_same) .none kV7 dc7 pm7 an7 cd7 ct7, PySem.W.fnOf "_law_count" "_law_count" (defArgs s__law_count) (defBody s__law_count) (defScope s__law_count) .none kV8 dc8 pm8 an8 cd8 ct8, PySem.W.fnOf "_law_length" "_law_length" (defArgs s__law_length) (defBody s__law_length) (defScope s__law_length) .none kV9 dc9 pm9 an9 cd9 ct9, PySem.W.fnOf "_law_things" "_law_things" (defArgs s__law_things) (defBody s__law_things) (defScope s__law_things) .none kV10 dc10 pm10 an10 cd10 ct10, PySem.W.fnOf "_law_refused" "_law_refused" (defArgs s__law_refused) (defBody s__law_refused) (defScope s__law_refused) .none kV11 dc11 pm11 an11 cd11 ct11, PySem.W.fnOf "_law_told" "_law_told" (defArgs s__law_told) (defBody s__law_told) (defScope s__law_told) .none kV12 dc12 pm12 an12 cd12 ct12, PySem.W.fnOf "_law_small" "_law_small" (defArgs s__law_small) (defBody s__law_small) (defScope s__law_small) .none kV13 dc13 pm13 an13 cd13 ct13, PySem.W.fnOf "_law_next" "_law_next" (defArgs s__law_next) (defBody s__law_next) (defScope s__law_next) .none kV14 dc14 pm14 an14 cd14 ct14, PySem.W.fnOf "_law_walk" "_law_walk" (defArgs s__law_walk) (defBody s__law_walk) (defScope s__law_walk) .none kV15 dc15 pm15 an15 cd15 ct15, PySem.W.fnOf "law" "law" (defArgs s_law) (defBody s_law) (defScope s_law) .none kV16 dc16 pm16 an16 cd16 ct16].getD i (PySem.W.fnOf "thing_count" "thing_count" (defArgs s_thing_count) (defBody s_thing_count) (defScope s_thing_count) .none kV0 dc0 pm0 an0 cd0 ct0)) (fun i => [cc0, cc1, cc2, cc3, cc4, cc5].getD i 0) := ⟨PySem.W.mg_none_of X G z_ValueError, PySem.W.mg_none_of X G z_abs, PySem.W.mg_none_of X G z_any, PySem.W.mg_none_of X G z_bool, PySem.W.mg_none_of X G z_enumerate, PySem.W.mg_none_of X G z_int, PySem.W.mg_none_of X G z_isinstance, PySem.W.mg_none_of X G z_len, PySem.W.mg_none_of X G z_list, PySem.W.mg_none_of X G z_max, PySem.W.mg_none_of X G z_range, PySem.W.mg_none_of X G z_sorted, PySem.W.mg_none_of X G z_str, PySem.W.mg_none_of X G z_sum, PySem.W.mg_none_of X G z_tuple, PySem.W.mg_of X G a0, F0, b0, PySem.W.mg_of X G a1, F1, b1, PySem.W.mg_of X G a2, F2, b2, PySem.W.mg_of X G a3, F3, b3, PySem.W.mg_of X G a4, F4, b4, PySem.W.mg_of X G a5, F5, b5, PySem.W.mg_of X G a6, F6, b6, PySem.W.mg_of X G a7, F7, b7, PySem.W.mg_of X G a8, F8, b8, PySem.W.mg_of X G a9, F9, b9, PySem.W.mg_of X G a10, F10, b10, PySem.W.mg_of X G a11, F11, b11, PySem.W.mg_of X G a12, F12, b12, PySem.W.mg_of X G a13, F13, b13, PySem.W.mg_of X G a14, F14, b14, PySem.W.mg_of X G a15, F15, b15, PySem.W.mg_of X G a16, F16, b16, PySem.W.mg_of X G ga0, X0, PySem.W.mg_of X G ga1, X1, PySem.W.mg_of X G ga2, X2, PySem.W.mg_of X G ga3, X3, PySem.W.mg_of X G ga4, X4, PySem.W.mg_of X G ga5, X5, ex2, ek2, cs0, ⟨xn, xt⟩, isa⟩
  exact ⟨PySem.W.fnOf "law" "law" (defArgs s_law) (defBody s_law) (defScope s_law) .none kV16 dc16 pm16 an16 cd16 ct16, fun s v => .of_eq rfl, fun base _ _ => law_of (w_law T) hF⟩
end K07

namespace TK
open PySem PySem.Spec PyProof.Rows L2
/-! ## rows that a slot owns -/
def own2At (st : List SV) (i : Nat) : Option (List (List D)) := match st[i]? with
  | some (.own2 dss) => some dss
  | _ => none
@[simp] theorem own2At_eq (st : List SV) (i : Nat) : own2At st i = (match st[i]? with | some (.own2 dss) => some dss | _ => none) := rfl
/-- rows[a][b] += m -/
def bump (dss : List (List D)) (a b m : Int) : Option (List (List D)) := match ixN dss.length a with
  | some j => match dss[j]? with
    | some ds => if 0 ≤ b then match ds[b.toNat]? with
      | some (.int n) => some (dss.set j (ds.set b.toNat (.int (n + m))))
      | _ => none else none
    | none => none
  | none => none
section
variable {s0 : SV} {s1 : List SV} {st : List SV} {Q : SV → List SV → Prop} {X : Ex → List SV → Prop} {a : SM SV} {i k : Nat} {m : Int} {QF : Fl → Prop}
theorem wE_append2 : wE (appendS2 i a) st Q X ↔ wO (own2At st i) fun _ => wE a st (fun r st1 => match r with | .own false ds => wO (own2At st1 i) fun dss => dss.length < 16777216 ∧ Q (.val .none) (st1.set i (.own2 (dss ++ [ds]))) | _ => False) X := by
  unfold wE appendS2
  cases h : st[i]? with
  | none => simp [h]
  | some s =>
    cases s with
    | own2 dss0 =>
      simp only [own2At, h, wO_some]
      cases e : a st with
      | none => simp
      | some o =>
        cases o with
        | ex x s => simp
        | ok r st1 =>
          simp only [Out.bind_ok]
          cases r with
          | own b ds =>
            cases b with
            | true => simp
            | false =>
              cases h1 : st1[i]? with
              | none => simp [h1]
              | some s1 =>
                cases s1 with
                | own2 dss => by_cases hl : dss.length < 16777216 <;> simp [hl, h1]
                | _ => simp [h1]
          | _ => simp
    | _ => simp [h]
@[simp] theorem wE_append2_c : wE (appendS2 i a) (s0 :: s1) Q X ↔ wO (own2At (s0 :: s1) i) fun _ => wE a (s0 :: s1) (fun r st1 => match r with | .own false ds => wO (own2At st1 i) fun dss => dss.length < 16777216 ∧ Q (.val .none) (st1.set i (.own2 (dss ++ [ds]))) | _ => False) X := wE_append2
theorem wF_aug2 : wF (augF2 i k m a) st QF ↔ wO (own2At st i) fun _ => wE a st (fun r st1 => match r, st1[k]? with | .val (.int x), some (.val (.int y)) => wO (own2At st1 i) fun dss => wO (bump dss x y m) fun dss' => QF (.nx (st1.set i (.own2 dss'))) | _, _ => False) (fun x st1 => QF (.ex x st1)) := by
  unfold wF augF2
  cases h : st[i]? with
  | none => simp [h]
  | some s =>
    cases s with
    | own2 dss0 =>
      simp only [own2At, h, wO_some]
      rw [wF_bind]
      apply iff_of_eq; congr 1; funext r st1
      cases r with
      | val d => cases d with
        | int x =>
          cases h1 : st1[i]? with
          | none => cases h2 : st1[k]? with
            | none => simp
            | some s2 => cases s2 with
              | val d2 => cases d2 <;> simp
              | _ => simp
          | some s1 =>
            cases h2 : st1[k]? with
            | none => cases s1 <;> simp
            | some s2 =>
              cases s2 with
              | val d2 =>
                cases d2 with
                | int y =>
                  cases s1 with
                  | own2 dss =>
                    simp only [wO_some]
                    unfold bump
                    cases e1 : ixN dss.length x with
                    | none => simp
                    | some j =>
                      dsimp only
                      cases e2 : dss[j]? with
                      | none => simp
                      | some ds =>
                        dsimp only
                        by_cases hy : 0 ≤ y
                        · simp only [hy, if_true]
                          cases e3 : ds[y.toNat]? with
                          | none => simp
                          | some d3 => cases d3 <;> simp
                        · simp [hy]
                  | _ => simp
                | _ => cases s1 <;> simp
              | _ => cases s1 <;> simp
        | _ => simp
      | _ => simp
    | _ => simp [h]
@[simp] theorem wF_aug2_c : wF (augF2 i k m a) (s0 :: s1) QF ↔ wO (own2At (s0 :: s1) i) fun _ => wE a (s0 :: s1) (fun r st1 => match r, st1[k]? with | .val (.int x), some (.val (.int y)) => wO (own2At st1 i) fun dss => wO (bump dss x y m) fun dss' => QF (.nx (st1.set i (.own2 dss'))) | _, _ => False) (fun x st1 => QF (.ex x st1)) := wF_aug2
theorem wE_emp2 : wE (emp2S a) st Q X ↔ wE a st (fun r st1 => match r with | .own false [] => Q (.own2 []) st1 | _ => False) X := by
  unfold emp2S
  rw [show wE (fun st => Out.bind (a st) _) st Q X ↔ _ from wE_bind]
  apply iff_of_eq; congr 1; funext r st1
  cases r with
  | own b ds => cases b with
    | true => simp
    | false => cases ds <;> simp
  | _ => simp
@[simp] theorem wE_emp2_c : wE (emp2S a) (s0 :: s1) Q X ↔ wE a (s0 :: s1) (fun r st1 => match r with | .own false [] => Q (.own2 []) st1 | _ => False) X := wE_emp2
end
/-! ## comprehensions of fresh rows -/
section
variable {it : SM Src} {vs : List Nat} {b : D → List SV → Option (List SV)} {test : SM Bool} {elt : SM SV} {st : List SV} {Q : SV → List SV → Prop} {X : Ex → List SV → Prop}
theorem wE_comp2 : wE (compS2 it vs b test elt) st Q X ↔ wE it st (fun s st1 => plain st1 vs = true ∧ wO (compL2 s vs b test elt s.ds (wipeS st1 vs) []) fun z => Q (.own2 z.1) z.2) X := by
  unfold compS2
  rw [show wE (fun st => Out.bind (it st) _) st Q X ↔ _ from wE_bind]
  apply iff_of_eq; congr 1; funext s st1
  by_cases h : plain st1 vs = true
  · simp only [h, if_true, true_and]
    cases compL2 s vs b test elt s.ds (wipeS st1 vs) [] <;> simp
  · simp [h]
@[simp] theorem wE_comp2_c {s0 : SV} {s1 : List SV} : wE (compS2 it vs b test elt) (s0 :: s1) Q X ↔ wE it (s0 :: s1) (fun s st1 => plain st1 vs = true ∧ wO (compL2 s vs b test elt s.ds (wipeS st1 vs) []) fun z => Q (.own2 z.1) z.2) X := wE_comp2
/-- one item -/
def oneC2 (s : Src) (vs : List Nat) (b : D → List SV → Option (List SV)) (test : SM Bool) (elt : SM SV) (d : D) (st : List SV) (acc : List (List D)) (R : List (List D) → List SV → Prop) : Prop :=
  wO (b d st) fun st1 => wE test st1 (fun k st2 => if k then wE elt st2 (fun r st3 => match r with | .own false e => acc.length < 16777216 ∧ plain st3 vs = true ∧ R (acc ++ [e]) (wipeS st3 vs) | _ => False) (fun _ _ => False) else plain st2 vs = true ∧ R acc (wipeS st2 vs)) fun _ _ => False
theorem compL2_step {s : Src} {d : D} {ds : List D} {acc : List (List D)} {R : List (List D) × List SV → Prop} (ok : s.ok st = true) (h : oneC2 s vs b test elt d st acc fun a s1 => wO (compL2 s vs b test elt ds s1 a) R) : wO (compL2 s vs b test elt (d :: ds) st acc) R := by
  obtain ⟨st1, e1, h⟩ := h
  rw [compL2, if_pos ok, e1]
  dsimp only
  obtain ⟨o, e2, h⟩ := h
  rw [e2]
  cases o with
  | ex x s => exact h.elim
  | ok k st2 =>
    cases k with
    | true =>
      obtain ⟨o, e3, h⟩ : wE elt st2 _ _ := h
      dsimp only
      rw [e3]
      cases o with
      | ex x s => exact h.elim
      | ok r st3 =>
        cases r with
        | own b e =>
          cases b with
          | false =>
            obtain ⟨h1, h2, h3⟩ := h
            dsimp only
            rw [if_pos ⟨h1, h2⟩]
            exact h3
          | true => exact h.elim
        | _ => exact h.elim
    | false =>
      obtain ⟨h1, h2⟩ : plain st2 vs = true ∧ _ := h
      dsimp only
      rw [if_pos h1]
      exact h2
theorem comp2_walk {s : Src} {α : Type} {f : α → D} {R : List (List D) × List SV → Prop} {J : List α → List (List D) → List SV → Prop} (ok : ∀ xs acc st, J xs acc st → s.ok st = true)
    (step : ∀ x xs acc st, J (x :: xs) acc st → oneC2 s vs b test elt (f x) st acc (J xs)) (fin : ∀ acc st, J [] acc st → R (acc, st)) : ∀ (xs : List α) (acc : List (List D)) (st : List SV), J xs acc st → wO (compL2 s vs b test elt (xs.map f) st acc) R
  | [], acc, st, h => by
    rw [List.map_nil, compL2, if_pos (ok _ _ _ h)]
    simpa using fin acc st h
  | x :: xs, acc, st, h => by
    rw [List.map_cons]
    refine compL2_step (ok _ _ _ h) ((step x xs acc st h).mono fun st1 q => q.mono (fun k st2 q => ?_) fun _ _ q => q)
    cases k with
    | true =>
      refine wE.mono q (fun r st3 q => ?_) fun _ _ q => q
      cases r with
      | own b e => cases b with
        | false => exact ⟨q.1, q.2.1, comp2_walk ok step fin xs _ _ q.2.2⟩
        | true => exact q
      | _ => exact q
    | false => exact ⟨q.1, comp2_walk ok step fin xs _ _ q.2⟩
theorem comp2_all {al : Option Nat} {α : Type} {f : α → D} {g : α → List D} {R : List (List D) × List SV → Prop} {xs : List α} (ok : Src.ok ⟨xs.map f, al⟩ st = true) (hl : xs.length < 16777216)
    (step : ∀ x ∈ xs, wO (b (f x) st) fun st1 => wE elt st1 (fun r st3 => match r with | .own false e => e = g x ∧ plain st3 vs = true ∧ wipeS st3 vs = st | _ => False) (fun _ _ => False))
    (h : R (xs.map g, st)) : wO (compL2 ⟨xs.map f, al⟩ vs b yesT elt (xs.map f) st []) R := by
  refine comp2_walk (J := fun ys acc st' => st' = st ∧ ∃ zs, xs = zs ++ ys ∧ acc = zs.map g) (fun _ _ _ j => by rw [j.1]; exact ok) (fun x ys acc st' j => ?_) (fun acc st' j => ?_) xs [] st ⟨rfl, [], rfl, rfl⟩
  · obtain ⟨rfl, zs, e, rfl⟩ := j
    refine (step x (by rw [e]; simp)).mono fun st1 q => ?_
    rw [wE_yesT]
    simp only [if_true]
    refine wE.mono q (fun r st3 q => ?_) fun _ _ q => q
    cases r with
    | own b e' =>
      cases b with
      | false =>
        refine ⟨?_, q.2.1, q.2.2, zs ++ [x], by rw [e]; simp, by simp [q.1]⟩
        have h2 : xs.length = zs.length + (ys.length + 1) := by rw [e]; simp
        simp only [List.length_map]
        omega
      | true => exact q
    | _ => exact q
  · obtain ⟨rfl, zs, e, rfl⟩ := j
    rw [List.append_nil] at e
    rw [← e]
    exact h
end
/-! ## what is asked of such rows -/
section
variable (st : List SV) (dss : List (List D))
@[simp] theorem dataOf_own2 : dataOf st (.own2 dss) = some (.list (dss.map PyData.list)) := rfl
@[simp] theorem lenS_own2 : lenS st (.own2 dss) = some (.val (.int dss.length)) := by simp [lenS]
@[simp] theorem retOf_own2 : retOf st (.own2 dss) = some (.own2 dss, st) := rfl
@[simp] theorem ownOf_own2 : ownOf st (.own2 dss) = some (.own2 dss, st) := rfl
@[simp] theorem settle_own2 : settle st (.own2 dss) = some (.val (.list (dss.map PyData.list)), st) := rfl
@[simp] theorem isRes_own2 : isRes (.own2 dss) = true := rfl
@[simp] theorem isOwn_own2 : (SV.own2 dss).isOwn = true := rfl
end
end TK

namespace TK
/-! ## states as what is in the air -/
abbrev Th := List (Int × Int)
/-- a table of whole numbers -/
def tab (L H : Nat) (f : Nat → Nat → Int) : List (List Int) := (List.range L).map fun r => (List.range H).map fun k => f r k
/-- how many of the things land so -/
def cf (T : Th) (r k : Nat) : Int := (T.count ((r : Int), (k : Int)) : Int)
/-- one more than the last row -/
def ext : Th → Nat
  | [] => 0
  | t :: T => Nat.max (t.1 + 1).toNat (ext T)
def stOf (T : Th) (H : Nat) : List (List Int) := tab (ext T) H (cf T)
theorem ext_le {T : Th} {L : Nat} : ext T ≤ L ↔ ∀ t ∈ T, t.1 < L := by
  induction T with
  | nil => simp [ext]
  | cons t T ih =>
    have : ext (t :: T) ≤ L ↔ (t.1 + 1).toNat ≤ L ∧ ext T ≤ L := by
      show Nat.max _ _ ≤ L ↔ _
      exact Nat.max_le
    rw [this, ih]
    simp only [List.mem_cons, forall_eq_or_imp]
    constructor
    · rintro ⟨h1, h2⟩; exact ⟨by omega, h2⟩
    · rintro ⟨h1, h2⟩; exact ⟨by omega, h2⟩
theorem lt_ext {T : Th} {t : Int × Int} (h : t ∈ T) : t.1 < ext T := ext_le.mp (Nat.le_refl _) t h
theorem ext_ex {T : Th} (h : 0 < ext T) : ∃ t ∈ T, t.1 + 1 = ext T := by
  induction T with
  | nil => simp [ext] at h
  | cons t T ih =>
    have e : ext (t :: T) = Nat.max (t.1 + 1).toNat (ext T) := rfl
    rcases Nat.le_total (t.1 + 1).toNat (ext T) with q | q
    · have e2 : ext (t :: T) = ext T := by rw [e]; exact Nat.max_eq_right q
      obtain ⟨u, hu, hx⟩ := ih (by omega)
      exact ⟨u, by simp [hu], by rw [e2]; exact hx⟩
    · have e2 : ext (t :: T) = (t.1 + 1).toNat := by rw [e]; exact Nat.max_eq_left q
      exact ⟨t, by simp, by omega⟩
theorem ext_perm {T U : Th} (p : T.Perm U) : ext T = ext U := by
  apply Nat.le_antisymm
  · exact ext_le.mpr fun t h => lt_ext (p.mem_iff.mp h)
  · exact ext_le.mpr fun t h => lt_ext (p.mem_iff.mpr h)
theorem cf_perm {T U : Th} (p : T.Perm U) : cf T = cf U := by
  funext r k
  unfold cf
  rw [p.count_eq]
theorem stOf_perm {T U : Th} (p : T.Perm U) (H : Nat) : stOf T H = stOf U H := by
  unfold stOf
  rw [ext_perm p, cf_perm p]
/-- things that are so far within H hands -/
def InH (H : Nat) (T : Th) : Prop := ∀ t ∈ T, 0 ≤ t.1 ∧ 0 ≤ t.2 ∧ t.2 < H
theorem InH.perm {H : Nat} {T U : Th} (p : T.Perm U) (h : InH H T) : InH H U := fun t ht => h t (p.mem_iff.mpr ht)
theorem InH.app {H : Nat} {T U : Th} (h1 : InH H T) (h2 : InH H U) : InH H (T ++ U) := fun t ht => (List.mem_append.mp ht).elim (h1 t) (h2 t)
theorem InH.left {H : Nat} {T U : Th} (h : InH H (T ++ U)) : InH H T := fun t ht => h t (by simp [ht])
theorem InH.right {H : Nat} {T U : Th} (h : InH H (T ++ U)) : InH H U := fun t ht => h t (by simp [ht])
theorem length_tab (L H : Nat) (f : Nat → Nat → Int) : (tab L H f).length = L := by simp [tab]
theorem tab_get {L H : Nat} {f : Nat → Nat → Int} {r : Nat} (h : r < L) : (tab L H f)[r]? = some ((List.range H).map fun k => f r k) := by
  unfold tab
  rw [List.getElem?_map, List.getElem?_range h]
  rfl
@[simp] theorem tab_getE {L H : Nat} {f : Nat → Nat → Int} {r : Nat} (h : r < (tab L H f).length) : (tab L H f)[r] = (List.range H).map fun k => f r k := by simp [tab]
theorem row_get {H : Nat} {g : Nat → Int} {k : Nat} (h : k < H) : ((List.range H).map g)[k]? = some (g k) := by
  rw [List.getElem?_map, List.getElem?_range h]
  rfl
theorem tab_congr {L H : Nat} {f g : Nat → Nat → Int} (h : ∀ r k, r < L → k < H → f r k = g r k) : tab L H f = tab L H g := by
  unfold tab
  refine List.map_congr_left fun r hr => List.map_congr_left fun k hk => ?_
  exact h r k (List.mem_range.mp hr) (List.mem_range.mp hk)
theorem tab_inj {L M H : Nat} {f g : Nat → Nat → Int} (h : tab L H f = tab M H g) : L = M ∧ ∀ r k, r < L → k < H → f r k = g r k := by
  have hl : L = M := by rw [← length_tab L H f, h, length_tab]
  subst hl
  refine ⟨rfl, fun r k hr hk => ?_⟩
  have e := tab_get (H := H) (f := f) hr
  rw [h, tab_get hr] at e
  have e := Option.some.inj e
  have e1 := row_get (g := fun k => f r k) hk
  rw [← e, row_get hk] at e1
  exact (Option.some.inj e1).symm
theorem tab_snoc (L H : Nat) (f : Nat → Nat → Int) : tab (L + 1) H f = tab L H f ++ [(List.range H).map fun k => f L k] := by
  unfold tab
  rw [List.range_succ, List.map_append]
  rfl
theorem tab_drop (L H n : Nat) (f : Nat → Nat → Int) : (tab L H f).drop n = tab (L - n) H fun r k => f (r + n) k := by
  apply List.ext_getElem?
  intro r
  rw [List.getElem?_drop]
  by_cases h : r < L - n
  · rw [tab_get h, Nat.add_comm, tab_get (by omega)]
  · rw [List.getElem?_eq_none (by rw [length_tab]; omega), List.getElem?_eq_none (by rw [length_tab]; omega)]
theorem tab_take (L H n : Nat) (f : Nat → Nat → Int) (h : n ≤ L) : (tab L H f).take n = tab n H f := by
  unfold tab
  rw [← List.map_take, List.take_range, Nat.min_eq_left h]
theorem cf_app (T U : Th) (r k : Nat) : cf (T ++ U) r k = cf T r k + cf U r k := by
  unfold cf
  rw [List.count_append]
  omega
theorem cf_nil (r k : Nat) : cf [] r k = 0 := rfl
theorem cf_one (a b : Nat) (r k : Nat) : cf [((a : Int), (b : Int))] r k = if r = a ∧ k = b then 1 else 0 := by
  unfold cf
  rw [List.count_singleton]
  by_cases h : r = a ∧ k = b
  · obtain ⟨rfl, rfl⟩ := h; simp
  · rw [if_neg h]
    have : ¬ (((a : Int), (b : Int)) == ((r : Int), (k : Int))) = true := by
      simp
      omega
    rw [if_neg this]
    rfl
theorem cf_out {T : Th} {r k : Nat} (h : ∀ t ∈ T, t.1 < r) : cf T r k = 0 := by
  unfold cf
  rw [List.count_eq_zero.mpr]
  · rfl
  · intro hm
    have := h _ hm
    simp at this
theorem cf_nn (T : Th) (r k : Nat) : 0 ≤ cf T r k := Int.natCast_nonneg _
theorem cf_pos {T : Th} {r k : Nat} : 0 < cf T r k ↔ ((r : Int), (k : Int)) ∈ T := by
  unfold cf
  rw [← List.count_pos_iff]
  omega
/-- one more thing -/
theorem tab_bump {L H : Nat} {T : Th} {a b : Nat} (ha : a < L) (hb : b < H) :
    (tab L H (cf T)).set a (((List.range H).map fun k => cf T a k).set b (cf T a b + 1)) = tab L H (cf (T ++ [((a : Int), (b : Int))])) := by
  apply List.ext_getElem?
  intro r
  by_cases hr : r < L
  · rw [tab_get hr]
    by_cases e : a = r
    · subst e
      rw [List.getElem?_set_self (by rw [length_tab]; exact ha)]
      congr 1
      apply List.ext_getElem?
      intro k
      by_cases hk : k < H
      · rw [row_get hk]
        by_cases e : b = k
        · subst e
          rw [List.getElem?_set_self (by simp; exact hb), cf_app, cf_one, if_pos ⟨rfl, rfl⟩]
        · rw [List.getElem?_set_ne e, row_get hk, cf_app, cf_one, if_neg (by omega)]
          simp
      · rw [List.getElem?_eq_none (by simp; omega), List.getElem?_eq_none (by simp; omega)]
    · rw [List.getElem?_set_ne e, tab_get hr]
      congr 1
      refine List.map_congr_left fun k _ => ?_
      rw [cf_app, cf_one, if_neg (by omega)]
      simp
  · rw [List.getElem?_eq_none (by rw [List.length_set, length_tab]; omega), List.getElem?_eq_none (by rw [length_tab]; omega)]
theorem tab_zero {L H : Nat} {T : Th} (h : ∀ t ∈ T, t.1 < L) : tab L H (cf T) ++ [List.replicate H 0] = tab (L + 1) H (cf T) := by
  rw [tab_snoc]
  congr 1
  symm
  refine congrArg (fun z => [z]) (List.eq_replicate_iff.mpr ⟨by simp, fun b hb => ?_⟩)
  obtain ⟨k, _, rfl⟩ := List.mem_map.mp hb
  exact cf_out h
/-! ## states and their things -/
theorem sum_zero {l : List Int} (h : ∀ x ∈ l, 0 ≤ x) : l.sum = 0 ↔ ∀ x ∈ l, x = 0 := by
  induction l with
  | nil => simp
  | cons a l ih =>
    have h1 := h a (by simp)
    have h2 : 0 ≤ l.sum := by
      clear ih
      induction l with
      | nil => simp
      | cons b l ih2 =>
        have := h b (by simp)
        have := ih2 (fun x hx => h x (by
          simp only [List.mem_cons] at hx ⊢
          rcases hx with hx | hx
          · exact .inl hx
          · exact .inr (.inr hx)))
        simp
        omega
    have ih := ih fun x hx => h x (by simp [hx])
    simp only [List.sum_cons, List.mem_cons, forall_eq_or_imp]
    rw [← ih]
    omega
/-- a row of zeros has nothing in it -/
theorem row_zero {T : Th} {H r : Nat} (hT : InH H T) : ((List.range H).map fun k => cf T r k).sum = 0 ↔ ∀ t ∈ T, t.1 ≠ r := by
  rw [sum_zero (fun x hx => by obtain ⟨k, _, rfl⟩ := List.mem_map.mp hx; exact cf_nn _ _ _)]
  constructor
  · intro h t ht e
    obtain ⟨h1, h2, h3⟩ := hT t ht
    have := h _ (List.mem_map.mpr ⟨t.2.toNat, List.mem_range.mpr (by omega), rfl⟩)
    have p : 0 < cf T r t.2.toNat := cf_pos.mpr (by
      rw [Int.toNat_of_nonneg h2, ← e]
      exact ht)
    omega
  · intro h x hx
    obtain ⟨k, _, rfl⟩ := List.mem_map.mp hx
    by_cases q : 0 < cf T r k
    · exact absurd rfl (h _ (cf_pos.mp q))
    · have := cf_nn T r k; omega
theorem stOf_inj {T U : Th} {H : Nat} (h1 : InH H T) (h2 : InH H U) : stOf T H = stOf U H ↔ T.Perm U := by
  constructor
  · intro h
    obtain ⟨e1, e2⟩ := tab_inj h
    refine List.perm_iff_count.mpr fun t => ?_
    by_cases hm : t ∈ T ∨ t ∈ U
    · have hb : 0 ≤ t.1 ∧ 0 ≤ t.2 ∧ t.2 < H ∧ t.1 < ext T := by
        rcases hm with hm | hm
        · have := h1 t hm; have := lt_ext hm; omega
        · have := h2 t hm; have := lt_ext hm; omega
      have := e2 t.1.toNat t.2.toNat (by omega) (by omega)
      unfold cf at this
      rw [Int.toNat_of_nonneg hb.1, Int.toNat_of_nonneg hb.2.1] at this
      exact Int.ofNat.inj this
    · rw [List.count_eq_zero.mpr fun q => hm (.inl q), List.count_eq_zero.mpr fun q => hm (.inr q)]
  · exact fun p => stOf_perm p H
/-- a beat is thrown -/
def later (T : Th) : Th := (T.filter fun t => decide (0 < t.1)).map fun t => (t.1 - 1, t.2)
def thr1 (beat : List Th) : Th := beat.flatten.map fun t => (t.1 - 1, t.2)
def moveT (T : Th) (beat : List Th) : Th := later T ++ thr1 beat
theorem cf_later (T : Th) (r k : Nat) : cf (later T) r k = cf T (r + 1) k := by
  unfold cf later
  induction T with
  | nil => rfl
  | cons t T ih =>
    rw [List.filter_cons]
    split
    · rename_i h
      simp only [decide_eq_true_eq] at h
      rw [List.map_cons, List.count_cons, List.count_cons]
      have : ((t.1 - 1, t.2) == ((r : Int), (k : Int))) = (t == (((r + 1 : Nat) : Int), (k : Int))) := by
        rw [Bool.eq_iff_iff]
        simp only [beq_iff_eq, Prod.ext_iff]
        omega
      rw [this]
      split <;> omega
    · rename_i h
      simp only [decide_eq_true_eq] at h
      rw [List.count_cons, ih]
      have : ¬ (t == (((r + 1 : Nat) : Int), (k : Int))) = true := by
        simp only [beq_iff_eq, Prod.ext_iff]
        omega
      rw [if_neg this]
      rfl
theorem later_inH {H : Nat} {T : Th} (h : InH H T) : InH H (later T) := fun t ht => by
  obtain ⟨u, hu, rfl⟩ := List.mem_map.mp ht
  obtain ⟨h1, h2⟩ := List.mem_filter.mp hu
  have := h u h1
  simp only [decide_eq_true_eq] at h2
  exact ⟨by show 0 ≤ u.1 - 1; omega, this.2⟩
theorem later_perm {T U : Th} (p : T.Perm U) : (later T).Perm (later U) := (p.filter _).map _
theorem ext_later (T : Th) : ext (later T) = ext T - 1 := by
  apply Nat.le_antisymm
  · refine ext_le.mpr fun t ht => ?_
    obtain ⟨u, hu, rfl⟩ := List.mem_map.mp ht
    obtain ⟨h1, h2⟩ := List.mem_filter.mp hu
    have := lt_ext h1
    simp only [decide_eq_true_eq] at h2
    show u.1 - 1 < _
    omega
  · by_cases h : ext T ≤ 1
    · omega
    · obtain ⟨t, ht, e⟩ := ext_ex (T := T) (by omega)
      have : (t.1 - 1, t.2) ∈ later T := List.mem_map.mpr ⟨t, List.mem_filter.mpr ⟨ht, by simp; omega⟩, rfl⟩
      have := lt_ext this
      simp at this
      omega
theorem stOf_later (T : Th) (H : Nat) : (stOf T H).drop 1 = tab (ext (later T)) H (cf (later T)) := by
  unfold stOf
  rw [tab_drop, ext_later]
  exact tab_congr fun r k _ _ => (cf_later T r k).symm
end TK
namespace TK
/-! ## patterns -/
abbrev Pat := List (List Th)
def thrB (i : Nat) (b : List Th) : List (Int × Int × Int) := b.flatMap fun th => th.map fun t => ((i : Int), t.1, t.2)
def thrE (E : List (List Th × Nat)) : List (Int × Int × Int) := E.flatMap fun p => thrB p.2 p.1
/-- all throws, each with its index -/
def thrP (P : Pat) : List (Int × Int × Int) := thrE P.zipIdx
structure OkT (H : Nat) (t : Int × Int) : Prop where
  h1 : 1 ≤ t.1
  h2 : t.1 < 100000
  k1 : 0 ≤ t.2
  k2 : t.2 < H
structure OkB (H : Nat) (b : List Th) : Prop where
  len : b.length = H
  ok : ∀ th ∈ b, th.length < 100000 ∧ ∀ t ∈ th, OkT H t
structure OkP (H : Nat) (P : Pat) : Prop where
  ne : P ≠ []
  len : P.length < 1000
  hb : H < 1000
  ok : ∀ b ∈ P, OkB H b
/-- where they land in the pattern -/
def landT (n : Nat) (X : List (Int × Int × Int)) : Th := X.map fun x => ((x.1 + x.2.1) % (n : Int), x.2.2)
theorem landT_app (n : Nat) (X Y : List (Int × Int × Int)) : landT n (X ++ Y) = landT n X ++ landT n Y := List.map_append
theorem mem_thrP {P : Pat} {x : Int × Int × Int} : x ∈ thrP P ↔ ∃ (i : Nat) (b : List Th), P[i]? = some b ∧ ∃ th ∈ b, ∃ t ∈ th, x = ((i : Int), t.1, t.2) := by
  unfold thrP thrE thrB
  simp only [List.mem_flatMap, List.mem_map, Prod.exists, List.mem_zipIdx_iff_getElem?]
  constructor
  · rintro ⟨b, i, e, th, h1, a, k, h2, rfl⟩
    exact ⟨i, b, e, th, h1, a, k, h2, rfl⟩
  · rintro ⟨i, b, e, th, h1, a, k, h2, rfl⟩
    exact ⟨b, i, e, th, h1, a, k, h2, rfl⟩
theorem landT_inH {H : Nat} {P : Pat} (h : OkP H P) : InH H (landT P.length (thrP P)) := fun t ht => by
  obtain ⟨x, hx, rfl⟩ := List.mem_map.mp ht
  obtain ⟨i, b, e, th, h1, u, h2, rfl⟩ := mem_thrP.mp hx
  have hb := h.ok b (List.mem_of_getElem? e)
  have ht := (hb.ok th h1).2 u h2
  have hp : P.length ≠ 0 := fun q => h.ne (List.length_eq_zero_iff.mp q)
  exact ⟨Int.emod_nonneg _ (by omega), ht.k1, ht.k2⟩
end TK
namespace TK
/-! ## where a pattern is not even; its start -/
def unevB (f : Nat → Nat → Int) (i : Nat) (qs : List (Th × Nat)) : Th := qs.filterMap fun q => if f i q.2 = q.1.length then none else some ((i : Int), (q.2 : Int))
def unevE (f : Nat → Nat → Int) (E : List (List Th × Nat)) : Th := E.flatMap fun p => unevB f p.2 p.1.zipIdx
def landF (P : Pat) : Nat → Nat → Int := cf (landT P.length (thrP P))
/-- the places at which it is not even -/
def unev (P : Pat) : Th := unevE (landF P) P.zipIdx
theorem unevB_cons (f : Nat → Nat → Int) (i : Nat) (q : Th × Nat) (qs : List (Th × Nat)) : unevB f i (q :: qs) = if f i q.2 = q.1.length then unevB f i qs else ((i : Int), (q.2 : Int)) :: unevB f i qs := by
  unfold unevB
  rw [List.filterMap_cons]
  by_cases h : f i q.2 = q.1.length <;> simp [h]
theorem unevE_cons (f : Nat → Nat → Int) (p : List Th × Nat) (E : List (List Th × Nat)) : unevE f (p :: E) = unevB f p.2 p.1.zipIdx ++ unevE f E := by
  unfold unevE
  rw [List.flatMap_cons]
/-- the beats r, r - n, .. that are not negative -/
def backF (n : Nat) : Nat → Int → List Int
  | 0, _ => []
  | f + 1, r => if 0 ≤ r then r :: backF n f (r - n) else []
def backT (n : Nat) (x : Int × Int × Int) : Th := (backF n x.2.1.toNat (x.1 + x.2.1 - n)).map fun r => (r, x.2.2)
def startX (n : Nat) (X : List (Int × Int × Int)) : Th := X.flatMap (backT n)
/-- the things of the start -/
def startT (P : Pat) : Th := startX P.length (thrP P)
theorem backF_neg (n f : Nat) {r : Int} (h : r < 0) : backF n f r = [] := by
  cases f with
  | zero => rfl
  | succ f => rw [backF, if_neg (by omega)]
theorem backF_mem (n : Nat) : ∀ (f : Nat) (r b : Int), r < f * n → (b ∈ backF n f r ↔ 0 ≤ b ∧ ∃ t : Nat, b = r - t * n)
  | 0, r, b, h => by
    simp only [backF, List.not_mem_nil, false_iff]
    rintro ⟨h1, t, rfl⟩
    have : (0 : Int) ≤ t * n := Int.mul_nonneg (by omega) (by omega)
    simp at h
    omega
  | f + 1, r, b, h => by
    rw [backF]
    split
    · rename_i hr
      have h' : r - n < f * n := by
        rw [Int.natCast_add, Int.add_mul] at h
        simp at h
        omega
      rw [List.mem_cons, backF_mem n f (r - n) b h']
      constructor
      · rintro (rfl | ⟨h1, t, rfl⟩)
        · exact ⟨hr, 0, by simp⟩
        · exact ⟨h1, t + 1, by rw [Int.natCast_add, Int.add_mul]; simp; omega⟩
      · rintro ⟨h1, t, rfl⟩
        cases t with
        | zero => left; simp
        | succ t => right; exact ⟨h1, t, by rw [Int.natCast_add, Int.add_mul]; simp; omega⟩
    · simp only [List.not_mem_nil, false_iff]
      rintro ⟨h1, t, rfl⟩
      have : (0 : Int) ≤ t * n := Int.mul_nonneg (by omega) (by omega)
      omega
theorem backF_le (n : Nat) (f : Nat) (r b : Int) (h : b ∈ backF n f r) : 0 ≤ b ∧ b ≤ r := by
  induction f generalizing r with
  | zero => simp [backF] at h
  | succ f ih =>
    rw [backF] at h
    split at h
    · rcases List.mem_cons.mp h with rfl | h
      · omega
      · have := ih _ h; omega
    · cases h
theorem startT_inH {H : Nat} {P : Pat} (h : OkP H P) : InH H (startT P) := fun t ht => by
  obtain ⟨x, hx, hb⟩ := List.mem_flatMap.mp ht
  obtain ⟨r, hr, rfl⟩ := List.mem_map.mp hb
  obtain ⟨i, b, e, th, h1, u, h2, rfl⟩ := mem_thrP.mp hx
  have hk := ((h.ok b (List.mem_of_getElem? e)).ok th h1).2 u h2
  exact ⟨(backF_le _ _ _ _ hr).1, hk.k1, hk.k2⟩
end TK
namespace TK
def Below (L : Nat) (T : Th) : Prop := ∀ t ∈ T, t.1 < (L : Int)
theorem Below.mono {L M : Nat} {T : Th} (h : Below L T) (hm : L ≤ M) : Below M T := fun t ht => by have := h t ht; omega
theorem Below.snoc {L : Nat} {T : Th} (h : Below L T) {t : Int × Int} (ht : t.1 < L) : Below L (T ++ [t]) := fun u hu => by
  rcases List.mem_append.mp hu with q | q
  · exact h u q
  · simp at q; subst q; exact ht
end TK

namespace TK
open PySem PySem.Spec PyProof.Rows L2
abbrev dT (ns : List Int) : D := .tuple (ns.map PyData.int)
abbrev dL (ns : List Int) : D := .list (ns.map PyData.int)
/-! ## the least of some rows -/
def minLL (x : List Int) (xs : List (List Int)) : List Int := xs.foldl (fun a y => if y < a then y else a) x
theorem row_tri {a b : List Int} (h1 : ¬ a < b) (h2 : ¬ b < a) : a = b := List.le_antisymm h2 h1
theorem minLL_spec : ∀ (xs : List (List Int)) (x : List Int), minLL x xs ∈ x :: xs ∧ ∀ z ∈ x :: xs, ¬ z < minLL x xs
  | [], x => ⟨by simp [minLL], fun z hz => by simp at hz; subst hz; simpa [minLL] using List.lt_irrefl z⟩
  | y :: ys, x => by
    have e : minLL x (y :: ys) = minLL (if y < x then y else x) ys := rfl
    obtain ⟨h1, h2⟩ := minLL_spec ys (if y < x then y else x)
    rw [e]
    constructor
    · rcases List.mem_cons.mp h1 with h | h
      · rw [h]
        split <;> simp
      · exact List.mem_cons_of_mem _ (List.mem_cons_of_mem _ h)
    · intro z hz hlt
      have hm := h2 _ List.mem_cons_self
      rcases List.mem_cons.mp hz with rfl | hz
      · split at hm
        · rename_i h
          rw [if_pos h] at hlt
          exact hm (List.lt_trans h hlt)
        · rename_i h
          rw [if_neg h] at hlt
          exact hm hlt
      · rcases List.mem_cons.mp hz with rfl | hz
        · split at hm
          · rename_i h
            rw [if_pos h] at hlt
            exact hm hlt
          · rename_i h
            rw [if_neg h] at hlt
            by_cases hx : minLL x ys < x
            · exact h (List.lt_trans hlt hx)
            · have e2 := row_tri hx hm
              rw [e2] at hlt
              exact h hlt
        · exact h2 z (List.mem_cons_of_mem _ hz) hlt
theorem minLL_eq {x y : List Int} {xs ys : List (List Int)} (h : ∀ z, z ∈ x :: xs ↔ z ∈ y :: ys) : minLL x xs = minLL y ys := by
  obtain ⟨h1, h2⟩ := minLL_spec xs x
  obtain ⟨k1, k2⟩ := minLL_spec ys y
  exact row_tri (k2 _ ((h _).mp h1)) (h2 _ ((h _).mpr k1))
theorem dataLt_dT (a b : List Int) : PySem.W.dataLt (dT a) (dT b) = decide (a < b) := by
  rw [PySem.W.dataLt_tuple]
  exact PySem.W.dataLt_ints a b
theorem minD_dT : ∀ (xs : List (List Int)) (x : List Int), PySem.W.minD (dT x) (xs.map dT) = dT (minLL x xs)
  | [], x => rfl
  | y :: ys, x => by
    have e : minLL x (y :: ys) = minLL (if y < x then y else x) ys := rfl
    rw [e, ← minD_dT ys, List.map_cons]
    unfold PySem.W.minD
    rw [List.foldl_cons, dataLt_dT]
    by_cases h : y < x <;> simp [h]
theorem okRow_dT (xs : List (List Int)) : okRow (xs.map dT) := by
  refine ⟨⟨fun x hx y hy => ?_, fun x hx => ?_⟩, ?_, ?_⟩
  · obtain ⟨a, _, rfl⟩ := List.mem_map.mp hx
    obtain ⟨b, _, rfl⟩ := List.mem_map.mp hy
    simpa [PySem.W.alike] using PySem.W.alike_ints a b
  · obtain ⟨a, _, rfl⟩ := List.mem_map.mp hx
    simp
  · exact (goodAll (k := 1) fun d hd => by obtain ⟨a, _, rfl⟩ := List.mem_map.mp hd; exact good_tuple (good_ints a 0)).1
  · exact Nat.le_trans (goodAll (k := 1) fun d hd => by obtain ⟨a, _, rfl⟩ := List.mem_map.mp hd; exact good_tuple (good_ints a 0)).2 (by omega)
theorem minG_dT (st : List SV) (b : Bool) (x : List Int) (xs : List (List Int)) : minG st (.own b ((x :: xs).map dT)) = some (.val (dT (minLL x xs))) := by
  have h := okRow_dT (x :: xs)
  rw [List.map_cons] at h ⊢
  unfold minG orG min1S bestDS
  simp only [itemsOf_own]
  rw [show intsOf (dT x :: xs.map dT) = none from rfl]
  dsimp only
  rw [if_pos h, minD_dT]

theorem lenSetS_list (st : List SV) (ns : List Int) (h : ns.length ≤ 4000) : lenSetS st (.val (.list (ns.map PyData.int))) = some (.val (.int ns.eraseDups.length)) := by simp [lenSetS, h]
/-! ## turns -/
def rot (hs : List Int) (k : Nat) : List Int := hs.drop k ++ hs.take k
def once (hs : List Int) : List Int := rot hs 1
def turn : Nat → List Int → List Int
  | 0, hs => hs
  | k + 1, hs => turn k (once hs)
theorem length_rot (hs : List Int) (k : Nat) : (rot hs k).length = hs.length := by
  unfold rot
  rw [List.length_append, List.length_drop, List.length_take]
  omega
theorem rot_zero (hs : List Int) : rot hs 0 = hs := by simp [rot]
theorem rot_all (hs : List Int) : rot hs hs.length = hs := by simp [rot]
theorem rot_succ {hs : List Int} {k : Nat} (hk : k < hs.length) : once (rot hs k) = rot hs (k + 1) := by
  unfold once rot
  rw [List.drop_eq_getElem_cons hk, List.take_succ_eq_append_getElem hk]
  simp only [List.cons_append, List.drop_succ_cons, List.drop_zero, List.take_succ_cons, List.take_zero, List.append_assoc]
theorem turn_succ : ∀ (k : Nat) (hs : List Int), turn (k + 1) hs = once (turn k hs)
  | 0, _ => rfl
  | k + 1, hs => by rw [turn, turn_succ k (once hs)]; rfl
theorem turn_rot {hs : List Int} : ∀ {k : Nat}, k ≤ hs.length → turn k hs = rot hs k
  | 0, _ => (rot_zero hs).symm
  | k + 1, h => by rw [turn_succ, turn_rot (by omega), rot_succ (by omega)]
theorem turn_add (a b : Nat) (hs : List Int) : turn (a + b) hs = turn a (turn b hs) := by
  induction b generalizing hs with
  | zero => rfl
  | succ b ih => rw [← Nat.add_assoc, turn, ih]; rfl
theorem turn_all (hs : List Int) : turn hs.length hs = hs := by rw [turn_rot (Nat.le_refl _), rot_all]
theorem length_turn : ∀ (k : Nat) (hs : List Int), (turn k hs).length = hs.length
  | 0, _ => rfl
  | k + 1, hs => by rw [turn, length_turn k, once, length_rot]
/-- all the turns of a row -/
def turns (hs : List Int) : List (List Int) := (List.range hs.length).map (rot hs)
theorem mem_turns {hs z : List Int} : z ∈ turns hs ↔ ∃ k, k < hs.length ∧ z = turn k hs := by
  unfold turns
  rw [List.mem_map]
  constructor
  · rintro ⟨k, hk, rfl⟩
    have hk := List.mem_range.mp hk
    exact ⟨k, hk, (turn_rot (by omega)).symm⟩
  · rintro ⟨k, hk, rfl⟩
    exact ⟨k, List.mem_range.mpr hk, (turn_rot (by omega)).symm⟩
theorem mem_turns_turn {hs z : List Int} {c : Nat} (hc : c ≤ hs.length) : z ∈ turns (turn c hs) ↔ z ∈ turns hs := by
  rw [mem_turns, mem_turns, length_turn]
  constructor
  · rintro ⟨k, hk, rfl⟩
    by_cases h : k + c < hs.length
    · exact ⟨k + c, h, (turn_add k c hs).symm⟩
    · refine ⟨k + c - hs.length, by omega, ?_⟩
      have e : k + c = (k + c - hs.length) + hs.length := by omega
      rw [← turn_add, e, turn_add, turn_all]
      congr 1
      omega
  · rintro ⟨k, hk, rfl⟩
    by_cases h : c ≤ k
    · refine ⟨k - c, by omega, ?_⟩
      rw [← turn_add]
      congr 1
      omega
    · refine ⟨k + hs.length - c, by omega, ?_⟩
      rw [← turn_add, show k + hs.length - c + c = k + hs.length by omega, turn_add, turn_all]
theorem sum_rot (hs : List Int) (k : Nat) : (rot hs k).sum = hs.sum := by
  have h : (hs.take k ++ hs.drop k).sum = hs.sum := by rw [List.take_append_drop]
  rw [List.sum_append] at h
  unfold rot
  rw [List.sum_append]
  omega
/-! ## the remainders -/
def remL (hs : List Int) : List Int := hs.mapIdx fun i h => ((i : Int) + h) % (hs.length : Int)
def PlainH (hs : List Int) : Prop := ∀ i j : Nat, i < j → j < hs.length → ((i : Int) + hs.getD i 0) % (hs.length : Int) ≠ ((j : Int) + hs.getD j 0) % (hs.length : Int)
theorem length_remL (hs : List Int) : (remL hs).length = hs.length := by simp [remL]
theorem nodup_remL {hs : List Int} : (remL hs).Nodup ↔ PlainH hs := by
  unfold List.Nodup
  rw [List.pairwise_iff_getElem]
  unfold PlainH
  constructor
  · intro h i j hij hj
    have := h i j (by rw [length_remL]; omega) (by rw [length_remL]; exact hj) hij
    simpa [remL, List.getD_eq_getElem?_getD, hj, Nat.lt_trans hij hj] using this
  · intro h i j hi hj hij
    rw [length_remL] at hi hj
    have := h i j hij hj
    simpa [remL, List.getD_eq_getElem?_getD, hi, hj] using this
theorem eraseDups_len {ns : List Int} : ns.eraseDups.length = ns.length ↔ ns.Nodup := by
  constructor
  · intro h
    have : ∀ (n : Nat) (ns : List Int), ns.length ≤ n → ns.eraseDups.length = ns.length → ns.Nodup := by
      intro n
      induction n with
      | zero => intro ns h _; cases ns with
        | nil => simp
        | cons _ _ => simp at h
      | succ n ih =>
        intro ns hl he
        cases ns with
        | nil => simp
        | cons a ns =>
          rw [List.eraseDups_cons, List.length_cons, List.length_cons] at he
          have h1 : (ns.filter fun b => !b == a).length ≤ ns.length := List.length_filter_le _ _
          have h2 := length_eraseDups_le _ (ns.filter fun b => !b == a) (Nat.le_refl _)
          have h3 : (ns.filter fun b => !b == a).length = ns.length := by omega
          have h4 := List.filter_eq_self.mp (List.length_filter_eq_length_iff.mp h3 |> fun h => List.filter_eq_self.mpr h)
          have h5 : ns.filter (fun b => !b == a) = ns := List.filter_eq_self.mpr h4
          rw [h5] at he
          refine List.nodup_cons.mpr ⟨fun hm => ?_, ih ns (by simpa using hl) (by omega)⟩
          have := h4 a hm
          simp at this
    exact this ns.length ns (Nat.le_refl _) h
  · intro h
    have h1 := length_le_of_sub h fun x hx => (List.mem_eraseDups).mpr hx
    have h2 := length_eraseDups_le ns.length ns (Nat.le_refl _)
    omega
theorem emod_succ {a b n : Int} (h : a % n = b % n) : (a + 1) % n = (b + 1) % n := by
  rw [← Int.emod_add_emod a n 1, h, Int.emod_add_emod]
theorem once_getD {hs : List Int} {i : Nat} (hi : i + 1 < hs.length) : (once hs).getD i 0 = hs.getD (i + 1) 0 := by
  unfold once rot
  rw [List.getD_eq_getElem?_getD, List.getElem?_append_left (by rw [List.length_drop]; omega), List.getElem?_drop, List.getD_eq_getElem?_getD, Nat.add_comm]
theorem once_last {hs : List Int} {i : Nat} (hi : i + 1 = hs.length) : (once hs).getD i 0 = hs.getD 0 0 := by
  unfold once rot
  rw [List.getD_eq_getElem?_getD, List.getElem?_append_right (by rw [List.length_drop]; omega), List.length_drop, List.getD_eq_getElem?_getD, show i - (hs.length - 1) = 0 by omega, List.getElem?_take]
  rfl
theorem plain_once {hs : List Int} (h : PlainH hs) : PlainH (once hs) := by
  intro i j hij hj e
  have hl2 : (once hs).length = hs.length := length_rot hs 1
  rw [hl2] at hj e
  have e2 := emod_succ e
  rw [once_getD (i := i) (by omega)] at e2
  by_cases hl : j + 1 < hs.length
  · rw [once_getD hl] at e2
    refine h (i + 1) (j + 1) (by omega) hl ?_
    have a1 : ((i + 1 : Nat) : Int) + hs.getD (i + 1) 0 = (i : Int) + hs.getD (i + 1) 0 + 1 := by omega
    have a2 : ((j + 1 : Nat) : Int) + hs.getD (j + 1) 0 = (j : Int) + hs.getD (j + 1) 0 + 1 := by omega
    rw [a1, a2]; exact e2
  · rw [once_last (by omega)] at e2
    refine h 0 (i + 1) (by omega) (by omega) ?_
    have a1 : ((i + 1 : Nat) : Int) + hs.getD (i + 1) 0 = (i : Int) + hs.getD (i + 1) 0 + 1 := by omega
    have a2 : (j : Int) + hs.getD 0 0 + 1 = ((0 : Nat) : Int) + hs.getD 0 0 + (hs.length : Int) := by omega
    rw [a1, e2, a2, Int.add_emod_right]
theorem plain_turn {hs : List Int} : ∀ (k : Nat), PlainH hs → PlainH (turn k hs)
  | 0, h => h
  | k + 1, h => by rw [turn_succ]; exact plain_once (plain_turn k h)
theorem plain_turn_iff {hs : List Int} {c : Nat} (hc : c ≤ hs.length) : PlainH (turn c hs) ↔ PlainH hs := by
  refine ⟨fun h => ?_, plain_turn c⟩
  have := plain_turn (hs.length - c) h
  rwa [← turn_add, Nat.sub_add_cancel hc, turn_all] at this
theorem remL_great {hs gs : List Int} (hl : gs.length = hs.length) (h : ∀ i : Nat, i < hs.length → ∃ m : Int, gs.getD i 0 = hs.getD i 0 + hs.length * m) : PlainH gs ↔ PlainH hs := by
  have key : ∀ i : Nat, i < hs.length → ((i : Int) + gs.getD i 0) % (gs.length : Int) = ((i : Int) + hs.getD i 0) % (hs.length : Int) := fun i hi => by
    obtain ⟨m, e⟩ := h i hi
    rw [e, hl, ← Int.add_assoc, Int.add_mul_emod_self_left]
  unfold PlainH
  constructor
  · intro q i j hij hj
    have := q i j hij (by omega)
    rwa [key i (by omega), key j hj] at this
  · intro q i j hij hj
    have := q i j hij (by omega)
    rwa [key i (by omega), key j (by omega)]
end TK

namespace TK
open PySem PySem.Spec PyProof.Rows L2
/-! ## patterns and states as data -/
abbrev dP (t : Int × Int) : D := .tuple [.int t.1, .int t.2]
abbrev dThs (T : Th) : D := .tuple (T.map dP)
abbrev dBeat (b : List Th) : D := .tuple (b.map dThs)
abbrev dPat (p : List (List Th)) : D := .tuple (p.map dBeat)
abbrev dSt (s : List (List Int)) : D := .tuple (s.map dT)
abbrev dRows (s : List (List Int)) : List (List D) := s.map fun r => r.map PyData.int
abbrev dLL (s : List (List Int)) : D := .list (s.map dL)
theorem dRows_list (s : List (List Int)) : (dRows s).map PyData.list = s.map dL := by
  unfold dRows; rw [List.map_map]; rfl
theorem bump_tab {L H : Nat} {T : Th} {a b : Int} (ha : 0 ≤ a) (ha2 : a < L) (hb : 0 ≤ b) (hb2 : b < H) : bump (dRows (tab L H (cf T))) a b 1 = some (dRows (tab L H (cf (T ++ [(a, b)])))) := by
  obtain ⟨a, rfl⟩ := Int.eq_ofNat_of_zero_le ha
  obtain ⟨b, rfl⟩ := Int.eq_ofNat_of_zero_le hb
  have ha2 : a < L := by omega
  have hb2 : b < H := by omega
  unfold bump
  rw [ixN_nat (by rw [List.length_map, length_tab]; exact ha2)]
  dsimp only
  rw [List.getElem?_map, tab_get ha2]
  dsimp only [Option.map_some]
  rw [if_pos hb, Int.toNat_natCast, List.getElem?_map, row_get hb2]
  dsimp only [Option.map_some]
  rw [← tab_bump ha2 hb2]
  simp only [dRows, List.map_set]
theorem mul_zeros (st : List SV) {h : Int} (h0 : 0 ≤ h) (h1 : h < 1000000) : mulG2 st (.own false [.int 0]) (.val (.int h)) = some (.own false ((List.replicate h.toNat 0).map PyData.int)) := by
  have e : mulS st (.own false [.int 0]) (.val (.int h)) = some (.own false (List.replicate h.toNat [PyData.int 0]).flatten) := by
    unfold mulS
    simp
    omega
  unfold mulG2 orG2
  rw [e]
  simp
theorem dT_zeros (H : Nat) : List.replicate H (PyData.int 0) = (List.replicate H (0 : Int)).map PyData.int := by simp
end TK
namespace TK
open PySem PySem.Spec PyProof.Rows L2
theorem enumD_map {α : Type} (f : α → D) (xs : List α) : enumD (xs.map f) = xs.zipIdx.map fun p => PyData.tuple [.int p.2, f p.1] := by
  unfold enumD
  apply List.ext_getElem?
  intro i
  simp only [List.getElem?_mapIdx, List.getElem?_map, List.getElem?_zipIdx]
  cases xs[i]? <;> simp
end TK
namespace TK
open PySem PySem.Spec PyProof.Rows L2
theorem nolstL_map {α : Type} (f : α → D) (h : ∀ a, nolst (f a) = true) : ∀ xs : List α, nolstL (xs.map f) = true
  | [] => rfl
  | x :: xs => by rw [List.map_cons, nolstL, h, nolstL_map f h xs]; rfl
theorem nolst_dT (ns : List Int) : nolst (dT ns) = true := by simp [nolst, nolstL_ints]
theorem nolst_dSt (s : List (List Int)) : nolst (dSt s) = true := by
  rw [nolst]; exact nolstL_map _ nolst_dT s
@[simp] theorem okRes_dSt (rs : List SV) (s : List (List Int)) : okRes rs (.val (dSt s)) = true := by unfold okRes; simp [nolst_dSt]
theorem nolst_dP (t : Int × Int) : nolst (dP t) = true := by simp [nolst, nolstL]
theorem nolst_dThs (t : Th) : nolst (dThs t) = true := by rw [nolst]; exact nolstL_map _ nolst_dP t
theorem nolst_dBeat (t : List Th) : nolst (dBeat t) = true := by rw [nolst]; exact nolstL_map _ nolst_dThs t
theorem nolst_dPat (t : Pat) : nolst (dPat t) = true := by rw [nolst]; exact nolstL_map _ nolst_dBeat t
@[simp] theorem okRes_dP (rs : List SV) (s : Int × Int) : okRes rs (.val (dP s)) = true := by unfold okRes; simp [nolst_dP]
@[simp] theorem okRes_dThs (rs : List SV) (s : Th) : okRes rs (.val (dThs s)) = true := by unfold okRes; simp [nolst_dThs]
@[simp] theorem okRes_dBeat (rs : List SV) (s : List Th) : okRes rs (.val (dBeat s)) = true := by unfold okRes; simp [nolst_dBeat]
@[simp] theorem okRes_dPat (rs : List SV) (s : Pat) : okRes rs (.val (dPat s)) = true := by unfold okRes; simp [nolst_dPat]
end TK
namespace TK
open PySem PySem.Spec PyProof.Rows L2
theorem okRow_ints (ns : List Int) : okRow (ns.map PyData.int) := by
  refine ⟨⟨fun x hx y hy => ?_, fun x hx => ?_⟩, ?_, ?_⟩
  · obtain ⟨a, _, rfl⟩ := List.mem_map.mp hx
    obtain ⟨b, _, rfl⟩ := List.mem_map.mp hy
    simp [PySem.W.alike]
  · obtain ⟨a, _, rfl⟩ := List.mem_map.mp hx
    simp
  · exact (goodAll (k := 0) (good_ints ns 0)).1
  · exact Nat.le_trans (goodAll (k := 0) (good_ints ns 0)).2 (by omega)
theorem maxD_ints : ∀ (ns : List Int) (n : Int), PySem.W.maxD (.int n) (ns.map PyData.int) = .int (maxL (n :: ns))
  | [], n => rfl
  | m :: ns, n => by
    have e : maxL (n :: m :: ns) = maxL ((if m > n then m else n) :: ns) := rfl
    rw [e, ← maxD_ints ns, List.map_cons]
    unfold PySem.W.maxD
    rw [List.foldl_cons, PySem.W.dataLt_int]
    by_cases h : n < m <;> simp [h]
theorem minD_ints : ∀ (ns : List Int) (n : Int), PySem.W.minD (.int n) (ns.map PyData.int) = .int (minL (n :: ns))
  | [], n => rfl
  | m :: ns, n => by
    have e : minL (n :: m :: ns) = minL ((if m < n then m else n) :: ns) := rfl
    rw [e, ← minD_ints ns, List.map_cons]
    unfold PySem.W.minD
    rw [List.foldl_cons, PySem.W.dataLt_int]
    by_cases h : m < n <;> simp [h]
theorem maxG_tuple (st : List SV) {ns : List Int} (h : ns ≠ []) : maxG st (.val (dT ns)) = some (.val (.int (maxL ns))) := by
  cases ns with
  | nil => exact absurd rfl h
  | cons n ns =>
    have ok := okRow_ints (n :: ns)
    rw [List.map_cons] at ok
    unfold maxG orG max1S bestDS
    simp only [itemsOf_tuple, List.map_cons]
    rw [if_pos ok, maxD_ints]
theorem minG_tuple (st : List SV) {ns : List Int} (h : ns ≠ []) : minG st (.val (dT ns)) = some (.val (.int (minL ns))) := by
  cases ns with
  | nil => exact absurd rfl h
  | cons n ns =>
    have ok := okRow_ints (n :: ns)
    rw [List.map_cons] at ok
    unfold minG orG min1S bestDS
    simp only [itemsOf_tuple, List.map_cons]
    rw [if_pos ok, minD_ints]
theorem maxL_spec : ∀ (ns : List Int) (n : Int), maxL (n :: ns) ∈ n :: ns ∧ ∀ x ∈ n :: ns, x ≤ maxL (n :: ns)
  | [], n => by simp [maxL]
  | m :: ns, n => by
    have e : maxL (n :: m :: ns) = maxL ((if m > n then m else n) :: ns) := rfl
    obtain ⟨h1, h2⟩ := maxL_spec ns (if m > n then m else n)
    rw [e]
    refine ⟨?_, fun x hx => ?_⟩
    · rcases List.mem_cons.mp h1 with q | q
      · rw [q]; split <;> simp
      · simp [q]
    · have h0 := h2 _ List.mem_cons_self
      clear e
      generalize maxL ((if m > n then m else n) :: ns) = M at *
      rcases List.mem_cons.mp hx with rfl | hx
      · split at h0 <;> omega
      · rcases List.mem_cons.mp hx with rfl | hx
        · split at h0 <;> omega
        · exact h2 x (by simp [hx])
theorem minL_spec : ∀ (ns : List Int) (n : Int), minL (n :: ns) ∈ n :: ns ∧ ∀ x ∈ n :: ns, minL (n :: ns) ≤ x
  | [], n => by simp [minL]
  | m :: ns, n => by
    have e : minL (n :: m :: ns) = minL ((if m < n then m else n) :: ns) := rfl
    obtain ⟨h1, h2⟩ := minL_spec ns (if m < n then m else n)
    rw [e]
    refine ⟨?_, fun x hx => ?_⟩
    · rcases List.mem_cons.mp h1 with q | q
      · rw [q]; split <;> simp
      · simp [q]
    · have h0 := h2 _ List.mem_cons_self
      clear e
      generalize minL ((if m < n then m else n) :: ns) = M at *
      rcases List.mem_cons.mp hx with rfl | hx
      · split at h0 <;> omega
      · rcases List.mem_cons.mp hx with rfl | hx
        · split at h0 <;> omega
        · exact h2 x (by simp [hx])
end TK

/-! The pure side of raise, try. -/
namespace TK
open PySem
@[simp] theorem wF_raise {n : Str} {st : List SV} {Q : Fl → Prop} : wF (raiseF n) st Q ↔ Q (.ex ⟨n, []⟩ st) := ⟨fun ⟨o, e, q⟩ => by cases e; exact q, fun q => ⟨_, rfl, q⟩⟩
def tryQ (i : Nat) (cs : Str → Option Bool) (suite : Ex → Addr → Option Addr → SF) (Q : Fl → Prop) : Fl → Prop
  | .ex x st1 => wO (cs x.name) fun b => if b then st1[i]? = some .emp ∧ intF x.fs = true ∧ ∃ o, (∀ a d, wF (suite x a d) (st1.set i (.exc x a d)) (fun o1 => wipeF i o1 = some o)) ∧ Q o else Q (.ex x st1)
  | .nx st => Q (.nx st)
  | .rt r st => Q (.rt r st)
  | .bk st => Q (.bk st)
  | .ct st => Q (.ct st)
section
variable {i : Nat} {cs : Str → Option Bool} {body : SF} {suite : Ex → Addr → Option Addr → SF} {Q : Fl → Prop} {st : List SV}
@[simp] theorem tryQ_nx : tryQ i cs suite Q (.nx st) ↔ Q (.nx st) := Iff.rfl
@[simp] theorem tryQ_rt {r : SV} : tryQ i cs suite Q (.rt r st) ↔ Q (.rt r st) := Iff.rfl
@[simp] theorem tryQ_bk : tryQ i cs suite Q (.bk st) ↔ Q (.bk st) := Iff.rfl
@[simp] theorem tryQ_ct : tryQ i cs suite Q (.ct st) ↔ Q (.ct st) := Iff.rfl
@[simp] theorem tryQ_ex {x : Ex} : tryQ i cs suite Q (.ex x st) ↔ wO (cs x.name) fun b => if b then st[i]? = some .emp ∧ intF x.fs = true ∧ ∃ o, (∀ a d, wF (suite x a d) (st.set i (.exc x a d)) (fun o1 => wipeF i o1 = some o)) ∧ Q o else Q (.ex x st) := Iff.rfl
theorem wF_tryE (h : wF body st (tryQ i cs suite Q)) : wF (tryF i cs body suite) st Q := by
  obtain ⟨o, e, q⟩ := h
  cases o with
  | nx st1 => exact ⟨_, wF_tryN e fun _ _ z => (by cases z), q⟩
  | rt r st1 => exact ⟨_, wF_tryN e fun _ _ z => (by cases z), q⟩
  | bk st1 => exact ⟨_, wF_tryN e fun _ _ z => (by cases z), q⟩
  | ct st1 => exact ⟨_, wF_tryN e fun _ _ z => (by cases z), q⟩
  | ex x st1 =>
    obtain ⟨b, ec, q⟩ := q
    cases b with
    | true =>
      obtain ⟨hi, hf, o, ho, q⟩ := q
      exact ⟨o, wF_try e ec hi hf ho, q⟩
    | false =>
      refine ⟨_, ?_, q⟩
      unfold tryF
      rw [e]
      dsimp only
      rw [ec]
@[simp] theorem wE_isES {tab : List ((Str × Str) × Bool)} {c : Str} {x : Ex} {a : Addr} {d : Option Addr} {QV : SV → List SV → Prop} {X : Ex → List SV → Prop} {s0 : SV} {s1 : List SV} : wE (isES tab i c x a d) (s0 :: s1) QV X ↔ wO ((s0 :: s1)[i]?) fun s => match s with
    | .exc _ a' d' => (a' = a ∧ d' = d) ∧ wO (tab.lookup (x.name, c)) fun b => QV (.val (.bool b)) (s0 :: s1)
    | _ => False := by
  unfold isES wE
  generalize (s0 :: s1) = st
  cases e : st[i]? with
  | none => simp [e]
  | some s =>
    cases s with
    | exc x' a' d' =>
      simp only [wO_some, e]
      by_cases h : a' = a ∧ d' = d
      · simp only [h, and_self, if_true, true_and]
        cases tab.lookup (x.name, c) <;> simp
      · simp only [h, if_false, false_and]
        simp
    | _ => simp [e]
@[simp] theorem wE_fldES {cn n : Str} {x : Ex} {a : Addr} {d : Option Addr} {QV : SV → List SV → Prop} {X : Ex → List SV → Prop} {s0 : SV} {s1 : List SV} : wE (fldES cn i n x a d) (s0 :: s1) QV X ↔ wO ((s0 :: s1)[i]?) fun s => match s with
    | .exc x' a' d' => (a' = a ∧ d' = d ∧ x.name = cn) ∧ wO (x'.fs.lookup n) fun v => match v with
      | .int k => QV (.val (.int k)) (s0 :: s1)
      | _ => False
    | _ => False := by
  unfold fldES wE
  generalize (s0 :: s1) = st
  cases e : st[i]? with
  | none => simp [e]
  | some s =>
    cases s with
    | exc x' a' d' =>
      simp only [wO_some, e]
      by_cases h : a' = a ∧ d' = d ∧ x.name = cn
      · simp only [h, and_self, if_true, true_and]
        cases x'.fs.lookup n with
        | none => simp
        | some v => cases v <;> simp
      · simp only [h, if_false, false_and]
        simp
    | _ => simp [e]
@[simp] theorem wipeF_nx : wipeF i (.nx st) = if (st[i]?.any isExc) = true then some (.nx (st.set i .emp)) else none := rfl
@[simp] theorem wipeF_rt {r : SV} : wipeF i (.rt r st) = if (st[i]?.any isExc) = true then some (.rt r (st.set i .emp)) else none := rfl
@[simp] theorem isExc_exc {x : Ex} {a : Addr} {d : Option Addr} : isExc (.exc x a d) = true := rfl
@[simp] theorem intF_nil : intF [] = true := rfl
@[simp] theorem own_exc {x : Ex} {a : Addr} {d : Option Addr} : (SV.exc x a d).isOwn = false := rfl
end
theorem ex_of {F : FS} {as : List SV} {x : Ex} {io : Option (List D)} (h : wC F as (fun _ _ => False) fun x' io' => x' = x ∧ io' = io) : F as = some (.ex x io) := by
  obtain ⟨o, e, q⟩ := h
  cases o with
  | ret r io' => exact q.elim
  | ex x' io' => obtain ⟨rfl, rfl⟩ := q; exact e
end TK

namespace TK
open PySem
theorem wF_raiseI {n f1 f2 : Str} {g : SM (List SV)} {st : List SV} {Q : Fl → Prop} : wF (raiseIF n f1 f2 g) st Q ↔ wE g st (fun rs st1 => match rs with | [.val (.int i), .val (.int j)] => Q (.ex ⟨n, [(f2, .int j), (f1, .int i)]⟩ st1) | _ => False) (fun x st1 => Q (.ex x st1)) := by
  unfold raiseIF wF wE
  dsimp only
  generalize g st = u
  cases u with
  | none => simp
  | some o =>
    cases o with
    | ex x st1 => simp
    | ok rs st1 =>
      constructor
      · rintro ⟨o, h, q⟩
        split at h
        · rename_i i j st' e'
          cases e'
          cases h
          exact ⟨_, rfl, q⟩
        · rename_i x st' e'
          cases e'
        · cases h
      · rintro ⟨o, h, q⟩
        cases h
        dsimp only at q
        split at q
        · exact ⟨_, rfl, q⟩
        · exact q.elim
@[simp] theorem wF_raiseI_c {n f1 f2 : Str} {g : SM (List SV)} {s0 : SV} {s1 : List SV} {Q : Fl → Prop} : wF (raiseIF n f1 f2 g) (s0 :: s1) Q ↔ wE g (s0 :: s1) (fun rs st1 => match rs with | [.val (.int i), .val (.int j)] => Q (.ex ⟨n, [(f2, .int j), (f1, .int i)]⟩ st1) | _ => False) (fun x st1 => Q (.ex x st1)) := wF_raiseI
theorem eqSt (a b : Str) (h : (a == b) = false) {β : Type} (x : β) (l : List (Str × β)) : List.lookup a ((b, x) :: l) = List.lookup a l := by
  rw [List.lookup_cons, h]
@[simp] theorem lk_index (a b : D) : List.lookup ("index" : Str) [(("hand" : Str), a), (("index" : Str), b)] = some b := by
  rw [eqSt _ _ (by decide +kernel), List.lookup_cons]
  rw [show (("index" : Str) == ("index" : Str)) = true from by decide +kernel]
@[simp] theorem lk_hand (a b : D) : List.lookup ("hand" : Str) [(("hand" : Str), a), (("index" : Str), b)] = some a := by
  rw [List.lookup_cons]
  rw [show (("hand" : Str) == ("hand" : Str)) = true from by decide +kernel]
@[simp] theorem intF_cons (p : Str) (i : Int) (l : List (Str × D)) : intF ((p, .int i) :: l) = intF l := by
  unfold intF
  rw [List.all_cons]
  rfl
end TK

namespace TK
open PySem
/-! ## states, beats and patterns are the same as themselves -/
theorem plainL_of {α : Type} (f : α → D) : ∀ {xs : List α}, (∀ a ∈ xs, plainD (f a) = true) → plainL (xs.map f) = true
  | [], _ => rfl
  | x :: xs, h => by rw [List.map_cons, plainL, h x (by simp), plainL_of f fun a ha => h a (by simp [ha])]; rfl
theorem depthAll_of {α : Type} (f : α → D) {n : Nat} : ∀ {xs : List α}, (∀ a ∈ xs, (f a).depth ≤ n) → PyData.depthAll (xs.map f) ≤ n
  | [], _ => by simp [PyData.depthAll]
  | x :: xs, h => by
    rw [List.map_cons, PyData.depthAll]
    exact Nat.max_le.mpr ⟨h x (by simp), depthAll_of f fun a ha => h a (by simp [ha])⟩
theorem plain_tup {α : Type} (f : α → D) {xs : List α} (hl : xs.length < 1000000) (h : ∀ a ∈ xs, plainD (f a) = true) : plainD (.tuple (xs.map f)) = true := by
  rw [plainD, plainL_of f h]
  simp [hl]
theorem depth_tup {α : Type} (f : α → D) {n : Nat} {xs : List α} (h : ∀ a ∈ xs, (f a).depth ≤ n) : (PyData.tuple (xs.map f)).depth ≤ n + 1 := by
  rw [PyData.depth]
  have := depthAll_of f h
  omega
theorem plain_int (i : Int) : plainD (.int i) = true := rfl
theorem depth_dP (t : Int × Int) : (dP t).depth ≤ 1 := by simp [PyData.depth, PyData.depthAll]
theorem plain_dP (t : Int × Int) : plainD (dP t) = true := by simp [plainD, plainL]
theorem plain_dT {ns : List Int} (h : ns.length < 1000000) : plainD (dT ns) = true := plain_tup _ h fun _ _ => rfl
theorem depth_dT (ns : List Int) : (dT ns).depth ≤ 1 := depth_tup _ fun _ _ => by simp [PyData.depth]
theorem plain_dThs {T : Th} (h : T.length < 1000000) : plainD (dThs T) = true := plain_tup _ h fun t _ => plain_dP t
theorem depth_dThs (T : Th) : (dThs T).depth ≤ 2 := depth_tup _ fun t _ => depth_dP t
theorem plain_dBeat {b : List Th} (h : b.length < 1000000) (h2 : ∀ T ∈ b, T.length < 1000000) : plainD (dBeat b) = true := plain_tup _ h fun T hT => plain_dThs (h2 T hT)
theorem depth_dBeat (b : List Th) : (dBeat b).depth ≤ 3 := depth_tup _ fun t _ => depth_dThs t
theorem plain_dPat {P : Pat} (h : P.length < 1000000) (h2 : ∀ b ∈ P, b.length < 1000000 ∧ ∀ T ∈ b, T.length < 1000000) : plainD (dPat P) = true := plain_tup _ h fun b hb => plain_dBeat (h2 b hb).1 (h2 b hb).2
theorem depth_dPat (P : Pat) : (dPat P).depth ≤ 4 := depth_tup _ fun t _ => depth_dBeat t
theorem plain_dSt {s : List (List Int)} (h : s.length < 1000000) (h2 : ∀ r ∈ s, r.length < 1000000) : plainD (dSt s) = true := plain_tup _ h fun r hr => plain_dT (h2 r hr)
theorem depth_dSt (s : List (List Int)) : (dSt s).depth ≤ 2 := depth_tup _ fun t _ => depth_dT t
theorem OkP.plain {H : Nat} {P : Pat} (h : OkP H P) : plainD (dPat P) = true := by
  have h1 := h.len
  have h2 := h.hb
  refine plain_dPat (by omega) fun b hb => ?_
  have k := h.ok b hb
  have kl := k.len
  refine ⟨by omega, fun T hT => ?_⟩
  have := (k.ok T hT).1
  omega
end TK
namespace TK
open PySem
theorem shaped_of {d : D} {k : Nat} (h : plainD d = true) (hk : d.depth ≤ k) (h6 : k ≤ 64) : SeqAt.shaped d = true := by
  unfold SeqAt.shaped
  rw [plainD_lay h]
  simp
  omega
theorem eqv_dP (a b : Int × Int) : PyData.eqv (dP a) (dP b) = decide (a = b) := by
  obtain ⟨a1, a2⟩ := a
  obtain ⟨b1, b2⟩ := b
  simp [Prod.mk.injEq]
  by_cases h1 : a1 = b1 <;> by_cases h2 : a2 = b2 <;> simp [h1, h2]
theorem eqv_dT (a b : List Int) : PyData.eqv (dT a) (dT b) = decide (a = b) := by simp
theorem eqv_dSt (a b : List (List Int)) : PyData.eqv (dSt a) (dSt b) = decide (a = b) := by
  rw [eqv_tuple]
  exact eqvAll_map eqv_dT a b
theorem eqv_lP (a b : Th) : PyData.eqv (.list (a.map dP)) (.list (b.map dP)) = decide (a = b) := by
  rw [eqv_list]
  exact eqvAll_map eqv_dP a b
theorem shaped_dSt {s : List (List Int)} (h : s.length < 1000000) (h2 : ∀ r ∈ s, r.length < 1000000) : SeqAt.shaped (dSt s) = true := shaped_of (plain_dSt h h2) (depth_dSt s) (by omega)
theorem stOf_small {T : Th} {H : Nat} (he : ext T < 1000000) (hH : H < 1000000) : (stOf T H).length < 1000000 ∧ ∀ r ∈ stOf T H, r.length < 1000000 := by
  unfold stOf
  refine ⟨by rw [length_tab]; exact he, fun r hr => ?_⟩
  unfold tab at hr
  obtain ⟨k, _, rfl⟩ := List.mem_map.mp hr
  simpa using hH
theorem eqS_st (st : List SV) {T U : Th} {H : Nat} (h1 : ext T < 1000000) (h2 : ext U < 1000000) (hH : H < 1000000) : eqS st (.val (dSt (stOf T H))) (.val (dSt (stOf U H))) = some (.val (.bool (decide (stOf T H = stOf U H)))) := by
  obtain ⟨a1, a2⟩ := stOf_small h1 hH
  obtain ⟨b1, b2⟩ := stOf_small h2 hH
  rw [eqS_of _ rfl rfl (shaped_dSt a1 a2) (shaped_dSt b1 b2), eqv_dSt]
end TK
namespace TK
open PySem
abbrev dLT (T : Th) : D := .list (T.map dP)
@[simp] theorem eqS_P (st : List SV) (a1 a2 b1 b2 : Int) : eqS st (.val (.tuple [.int a1, .int a2])) (.val (.tuple [.int b1, .int b2])) = some (.val (.bool (decide (a1 = b1 ∧ a2 = b2)))) := by
  have h : ∀ a b : Int, SeqAt.shaped (.tuple [.int a, .int b]) = true := fun a b => shaped_of (plain_dP (a, b)) (depth_dP (a, b)) (by omega)
  rw [eqS_of _ rfl rfl (h _ _) (h _ _)]
  have := eqv_dP (a1, a2) (b1, b2)
  rw [this]
  simp
theorem maxL_ext {T : Th} (h : ∀ t ∈ T, 0 ≤ t.1) : maxL (0 :: T.map fun t => 1 + t.1) = ext T := by
  obtain ⟨h1, h2⟩ := maxL_spec (T.map fun t => 1 + t.1) 0
  refine Int.le_antisymm ?_ ?_
  · rcases List.mem_cons.mp h1 with e | h1
    · rw [e]; omega
    · obtain ⟨t, ht, e⟩ := List.mem_map.mp h1
      have := lt_ext ht
      rw [← e]; omega
  · by_cases q : 0 < ext T
    · obtain ⟨t, ht, e⟩ := ext_ex q
      have := h2 (1 + t.1) (List.mem_cons_of_mem _ (List.mem_map.mpr ⟨t, ht, rfl⟩))
      omega
    · have := h2 0 (by simp)
      omega
end TK
namespace TK
open PySem
theorem maxG_list (st : List SV) {ns : List Int} (h : ns ≠ []) : maxG st (.val (.list (ns.map PyData.int))) = some (.val (.int (maxL ns))) := by
  cases ns with
  | nil => exact absurd rfl h
  | cons n ns => simp [maxG, orG, max1S]
theorem rangeD_nat (n : Nat) : rangeD 0 n = (List.range n).map fun k : Nat => PyData.int k := by
  unfold rangeD
  simp
end TK
namespace TK
theorem filter_cf (T : Th) (r k : Nat) : ((T.filter fun t => decide (t = ((r : Int), (k : Int)))).length : Int) = cf T r k := by
  unfold cf
  congr 1
  induction T with
  | nil => rfl
  | cons t T ih =>
    rw [List.filter_cons, List.count_cons]
    by_cases h : t = ((r : Int), (k : Int))
    · simp [h, ih]
    · simp [h, ih]
end TK
namespace TK
open PySem
@[simp] theorem intS_b (st : List SV) (b : Bool) : intS st (.val (.bool b)) = some (.val (.int (if b then 1 else 0))) := rfl
end TK
namespace TK
open PySem
mutual
theorem eqv_refl : ∀ {d : D}, plainD d = true → PyData.eqv d d = true
  | .none, _ => by simp
  | .int i, _ => by simp
  | .str x, _ => by simp [PyData.eqv]
  | .list ds, h => by
    simp only [plainD, Bool.and_eq_true] at h
    rw [eqv_list]
    exact eqvAll_refl h.2
  | .tuple ds, h => by
    simp only [plainD, Bool.and_eq_true] at h
    rw [eqv_tuple]
    exact eqvAll_refl h.2
theorem eqvAll_refl : ∀ {ds : List D}, plainL ds = true → PyData.eqvAll ds ds = true
  | [], _ => by simp
  | d :: ds, h => by
    simp only [plainL, Bool.and_eq_true] at h
    rw [eqvAll_cc, eqv_refl h.1, eqvAll_refl h.2]
    rfl
end
end TK

/-! The pure side of dicts, of a slot that gives up its list. -/
namespace TK
open PySem
section
variable {i : Nat} {Q : Fl → Prop} {st : List SV} {s0 : SV} {s1 : List SV}
theorem wF_frz {f : SF} : wF (frzF i f) st Q ↔ wF f (frzAt i st) Q := Iff.rfl
@[simp] theorem wF_frz_c {f : SF} : wF (frzF i f) (s0 :: s1) Q ↔ wF f (frzAt i (s0 :: s1)) Q := Iff.rfl
theorem frzAt_own {ds : List D} (h : st[i]? = some (.own false ds)) : frzAt i st = st.set i (.val (.list ds)) := by
  unfold frzAt settle
  simp only [h]
theorem frzAt_own2 {dss : List (List D)} (h : st[i]? = some (.own2 dss)) : frzAt i st = st.set i (.val (.list (dss.map PyData.list))) := by
  unfold frzAt settle
  simp only [h]
@[simp] theorem wF_dnew {t : Bool} : wF (dnewF i t) st Q ↔ i < st.length ∧ Q (.nx (st.set i (.dct t []))) := by
  unfold wF dnewF
  by_cases h : i < st.length
  · simp [h]
  · simp [h]
@[simp] theorem dGet_nil {α : Type} (k : List Int) : dGet ([] : List (List Int × α)) k = none := rfl
theorem wF_put {fk fv : SM SV} : wF (putF i fk fv) st Q ↔ wE fv st (fun r st1 => wO (kept r) fun d => wO (st1[i]?) fun s => match s with
    | .dct t kvs => wE fk st1 (fun rk st2 => match rk with
      | .val dk => wO (st2[i]?) fun s2 => match s2 with
        | .dct t' kvs' => wO (keyOf dk) fun p => (p.1 = t' ∧ keysOk t' kvs' p.2 = true ∧ kvs'.length < sizeLine) ∧ Q (.nx (st2.set i (.dct t' (dPut kvs' p.2 d))))
        | _ => False
      | _ => False) (fun x st1 => Q (.ex x st1))
    | _ => False) (fun x st1 => Q (.ex x st1)) := by
  unfold putF
  rw [show wF (fun st => Fl.bind (fv st) _) st Q ↔ _ from wF_bind]
  apply iff_of_eq; congr 1; funext r st1
  cases kept r with
  | none => simp
  | some d =>
    dsimp only
    rw [wO_some]
    generalize st1[i]? = u
    cases u with
    | none => simp
    | some s =>
      rw [wO_some]
      cases s with
      | dct t kvs =>
        dsimp only
        rw [show (∃ o, Fl.bind (fk st1) _ = some o ∧ Q o) ↔ _ from wF_bind]
        congr 1; funext rk st2
        cases rk with
        | val dk =>
          dsimp only
          generalize st2[i]? = u2
          cases u2 with
          | none => simp
          | some s2 =>
            rw [wO_some]
            cases s2 with
            | dct t' kvs' =>
              dsimp only
              cases keyOf dk with
              | none => simp
              | some p =>
                obtain ⟨tk, k⟩ := p
                dsimp only
                rw [wO_some]
                by_cases h : tk = t' ∧ keysOk t' kvs' k = true ∧ kvs'.length < sizeLine
                · rw [if_pos h]
                  exact propext ⟨fun ⟨o, e, q⟩ => (by cases e; exact ⟨h, q⟩), fun q => ⟨_, rfl, q.2⟩⟩
                · rw [if_neg h]
                  exact propext ⟨fun ⟨o, e, q⟩ => (by cases e), fun q => absurd q.1 h⟩
            | _ => simp
        | _ => simp
      | _ => simp
@[simp] theorem wF_put_c {fk fv : SM SV} : wF (putF i fk fv) (s0 :: s1) Q ↔ wE fv (s0 :: s1) (fun r st1 => wO (kept r) fun d => wO (st1[i]?) fun s => match s with
    | .dct t kvs => wE fk st1 (fun rk st2 => match rk with
      | .val dk => wO (st2[i]?) fun s2 => match s2 with
        | .dct t' kvs' => wO (keyOf dk) fun p => (p.1 = t' ∧ keysOk t' kvs' p.2 = true ∧ kvs'.length < sizeLine) ∧ Q (.nx (st2.set i (.dct t' (dPut kvs' p.2 d))))
        | _ => False
      | _ => False) (fun x st1 => Q (.ex x st1))
    | _ => False) (fun x st1 => Q (.ex x st1)) := wF_put
end
section
variable {i : Nat} {QV : SV → List SV → Prop} {X : Ex → List SV → Prop} {st : List SV} {s0 : SV} {s1 : List SV} {fk fd : SM SV}
theorem wE_get : wE (getS i fk fd) st QV X ↔ wO (st[i]?) fun s => match s with
    | .dct t kvs => wE fk st (fun rk st1 => match rk with
      | .val dk => wE fd st1 (fun rd st2 => wO (frzS rd) fun rd' => wO (st2[i]?) fun s2 => wO (keyOf dk) fun p => match rd', s2 with
        | .val dd, .dct t' kvs' => (t' = t ∧ p.1 = t ∧ keysOk t kvs' p.2 = true) ∧ QV (.val ((dGet kvs' p.2).getD dd)) st2
        | _, _ => False) X
      | _ => False) X
    | _ => False := by
  conv => lhs; unfold wE getS
  generalize st[i]? = u
  cases u with
  | none => simp
  | some s =>
    rw [wO_some]
    cases s with
    | dct t kvs =>
      dsimp only
      refine wE_bind.trans ?_
      apply iff_of_eq; congr 1; funext rk st1
      cases rk with
      | val dk =>
        dsimp only
        refine propext (wE_bind.trans ?_)
        apply iff_of_eq; congr 1; funext rd st2
        cases frzS rd with
        | none => simp
        | some rd' =>
          rw [wO_some]
          generalize st2[i]? = u2
          cases u2 with
          | none => cases rd' <;> simp
          | some s2 =>
            rw [wO_some]
            cases keyOf dk with
            | none => cases rd' <;> cases s2 <;> simp
            | some p =>
              rw [wO_some]
              obtain ⟨tk, k⟩ := p
              cases rd' with
              | val dd =>
                cases s2 with
                | dct t' kvs' =>
                  dsimp only
                  by_cases h : t' = t ∧ tk = t ∧ keysOk t kvs' k = true
                  · rw [if_pos h]
                    exact propext ⟨fun ⟨o, e, q⟩ => (by cases e; exact ⟨h, q⟩), fun q => ⟨_, rfl, q.2⟩⟩
                  · rw [if_neg h]
                    exact propext ⟨fun ⟨o, e, q⟩ => (by cases e), fun q => absurd q.1 h⟩
                | _ => simp
              | _ => simp
      | _ => simp
    | _ => simp
@[simp] theorem wE_get_c : wE (getS i fk fd) (s0 :: s1) QV X ↔ wO ((s0 :: s1)[i]?) fun s => match s with
    | .dct t kvs => wE fk (s0 :: s1) (fun rk st1 => match rk with
      | .val dk => wE fd st1 (fun rd st2 => wO (frzS rd) fun rd' => wO (st2[i]?) fun s2 => wO (keyOf dk) fun p => match rd', s2 with
        | .val dd, .dct t' kvs' => (t' = t ∧ p.1 = t ∧ keysOk t kvs' p.2 = true) ∧ QV (.val ((dGet kvs' p.2).getD dd)) st2
        | _, _ => False) X
      | _ => False) X
    | _ => False := wE_get
@[simp] theorem keyOf_two {a b : Int} : keyOf (.tuple [.int a, .int b]) = some (true, [a, b]) := rfl
@[simp] theorem keyOf_int {a : Int} : keyOf (.int a) = some (false, [a]) := rfl
@[simp] theorem keysOk_t {α : Type} (kvs : List (List Int × α)) (k : List Int) : keysOk true kvs k = true := rfl
end
end TK

/-! The pure side of dicts with rows as keys. -/
namespace TK
open PySem PySem.Spec PyProof.Rows L2
section
variable {i : Nat} {Q : SV → List SV → Prop} {QB : Bool → List SV → Prop} {QF : Fl → Prop} {X : Ex → List SV → Prop} {s0 : SV} {s1 : List SV} {f : SM SV}
@[simp] theorem wE_dlit_c {n : Int} : wE (dlitS i n) (s0 :: s1) Q X ↔ wO ((s0 :: s1)[i]?) fun s => match s with
    | .val (.tuple ds) => wO (intsOf ds) fun ns => Q (.dct true [(ns, .int n)]) (s0 :: s1)
    | _ => False := by
  generalize s0 :: s1 = st
  unfold wE dlitS
  generalize st[i]? = u
  cases u with
  | none => simp
  | some s => cases s with
    | val d => cases d with
      | tuple ds => cases h : intsOf ds <;> simp [h]
      | _ => simp
    | _ => simp
@[simp] theorem wF_asgD_c : wF (asgD i f) (s0 :: s1) QF ↔ wE f (s0 :: s1) (fun r st1 => match r with
    | .dct t kvs => i < st1.length ∧ QF (.nx (st1.set i (.dct t kvs)))
    | _ => False) (fun x st1 => QF (.ex x st1)) := by
  generalize s0 :: s1 = st
  unfold asgD
  rw [show wF (fun st => Fl.bind (f st) _) st QF ↔ _ from wF_bind]
  apply iff_of_eq; congr 1; funext r st1
  cases r with
  | dct t kvs => by_cases h : i < st1.length <;> simp [h]
  | _ => simp
@[simp] theorem wF_retD_c : wF (retD i) (s0 :: s1) QF ↔ wO ((s0 :: s1)[i]?) fun s => match s with
    | .dct t kvs => QF (.rt (.dct t kvs) ((s0 :: s1).set i .emp))
    | _ => False := by
  generalize s0 :: s1 = st
  unfold wF retD
  generalize st[i]? = u
  cases u with
  | none => simp
  | some s => cases s <;> simp
theorem dNot_core {α : Type} {Q : α → List SV → Prop} {st1 : List SV} {dk : D} {g : Bool → α} : (∃ o, (match st1[i]?, keyOf dk with
      | some (.dct t kvs), some (tk, k) => if tk = t ∧ keysOk t kvs k = true then some (Out.ok (g (!(dGet kvs k).isSome)) st1) else none
      | _, _ => none) = some o ∧ match o with | .ok a st' => Q a st' | .ex x st' => X x st') ↔ wO (st1[i]?) fun s => match s with
      | .dct t kvs => wO (keyOf dk) fun p => (p.1 = t ∧ keysOk t kvs p.2 = true) ∧ Q (g (!(dGet kvs p.2).isSome)) st1
      | _ => False := by
  generalize st1[i]? = u
  cases u with
  | none => simp
  | some s =>
    rw [wO_some]
    cases s with
    | dct t kvs =>
      dsimp only
      cases keyOf dk with
      | none => simp
      | some p =>
        obtain ⟨tk, k⟩ := p
        rw [wO_some]
        dsimp only
        by_cases h : tk = t ∧ keysOk t kvs k = true
        · rw [if_pos h]
          exact ⟨fun ⟨o, e, q⟩ => (by cases e; exact ⟨h, q⟩), fun q => ⟨_, rfl, q.2⟩⟩
        · rw [if_neg h]
          exact ⟨fun ⟨o, e, q⟩ => (by cases e), fun q => absurd q.1 h⟩
    | _ => simp
@[simp] theorem wE_dNotInS_c : wE (dNotInS i f) (s0 :: s1) Q X ↔ wE f (s0 :: s1) (fun r st1 => match r with
    | .val dk => wO (st1[i]?) fun s => match s with
      | .dct t kvs => wO (keyOf dk) fun p => (p.1 = t ∧ keysOk t kvs p.2 = true) ∧ Q (.val (.bool (!(dGet kvs p.2).isSome))) st1
      | _ => False
    | _ => False) X := by
  generalize s0 :: s1 = st
  unfold dNotInS
  rw [show wE (fun st => Out.bind (f st) _) st Q X ↔ _ from wE_bind]
  apply iff_of_eq; congr 1; funext r st1
  cases r with
  | val dk => exact propext (dNot_core (g := fun b => SV.val (.bool b)))
  | _ => simp
@[simp] theorem wE_dNotInT_c : wE (dNotInT i f) (s0 :: s1) QB X ↔ wE f (s0 :: s1) (fun r st1 => match r with
    | .val dk => wO (st1[i]?) fun s => match s with
      | .dct t kvs => wO (keyOf dk) fun p => (p.1 = t ∧ keysOk t kvs p.2 = true) ∧ QB (!(dGet kvs p.2).isSome) st1
      | _ => False
    | _ => False) X := by
  generalize s0 :: s1 = st
  unfold dNotInT
  rw [show wE (fun st => Out.bind (f st) _) st QB X ↔ _ from wE_bind]
  apply iff_of_eq; congr 1; funext r st1
  cases r with
  | val dk => exact propext (dNot_core (g := fun b => b))
  | _ => simp
@[simp] theorem wE_dIdx_c : wE (dIdxS i f) (s0 :: s1) Q X ↔ wO ((s0 :: s1)[i]?) fun s0' => match s0' with
    | .dct _ _ => wE f (s0 :: s1) (fun r st1 => match r with
      | .val dk => wO (st1[i]?) fun s => match s with
        | .dct t kvs => wO (keyOf dk) fun p => (p.1 = t ∧ keysOk t kvs p.2 = true) ∧ wO (dGet kvs p.2) fun d => Q (.val d) st1
        | _ => False
      | _ => False) X
    | _ => False := by
  generalize s0 :: s1 = st
  conv => lhs; unfold wE dIdxS
  generalize st[i]? = u
  cases u with
  | none => simp
  | some s =>
    rw [wO_some]
    cases s with
    | dct t kvs =>
      dsimp only
      refine wE_bind.trans ?_
      apply iff_of_eq; congr 1; funext r st1
      cases r with
      | val dk =>
        dsimp only
        generalize st1[i]? = u
        cases u with
        | none => simp
        | some s =>
          rw [wO_some]
          cases s with
          | dct t kvs =>
            dsimp only
            cases keyOf dk with
            | none => simp
            | some p =>
              obtain ⟨tk, k⟩ := p
              rw [wO_some]
              dsimp only
              by_cases h : tk = t ∧ keysOk t kvs k = true
              · rw [if_pos h]
                cases dGet kvs k with
                | none => simp
                | some d => exact propext ⟨fun ⟨o, e, q⟩ => (by cases e; exact ⟨h, d, rfl, q⟩), fun ⟨_, d', e, q⟩ => (by cases e; exact ⟨_, rfl, q⟩)⟩
              · rw [if_neg h]
                exact propext ⟨fun ⟨o, e, q⟩ => (by cases e), fun q => absurd q.1 h⟩
          | _ => simp
      | _ => simp
    | _ => simp
theorem wE_callT {F : FS} {f0 f1 : SM SV} {st : List SV} : wE (callT F (argsT f0 f1)) st Q X ↔ wE f0 st (fun r0 st1 => match r0 with
    | .own false ds => wE f1 st1 (fun r1 st2 => match r1 with
      | .val (.int n) => wC F [.own true ds, .val (.int n)] (fun r io => ∃ (m : Int) (ds' : List D), r = .val (.int m) ∧ io = some ds' ∧ Q (.val (.int m)) st2) fun _ _ => False
      | _ => False) X
    | _ => False) X := by
  unfold callT
  rw [show wE (fun st => Out.bind (argsT f0 f1 st) _) st Q X ↔ _ from wE_bind]
  unfold argsT
  rw [show wE (fun st => Out.bind (f0 st) _) st _ X ↔ _ from wE_bind]
  apply iff_of_eq; congr 1; funext r0 st1
  cases r0 with
  | own b ds =>
    cases b with
    | true => simp
    | false =>
      dsimp only
      refine propext (wE_bind.trans ?_)
      apply iff_of_eq; congr 1; funext r1 st2
      cases r1 with
      | val d =>
        cases d with
        | int n =>
          dsimp only
          simp only [Option.some.injEq, exists_eq_left']
          unfold wC
          cases F [.own true ds, .val (.int n)] with
          | none => simp
          | some o =>
            cases o with
            | ex x io => simp
            | ret r io =>
              cases io with
              | none => simp
              | some ds' =>
                cases r with
                | val d => cases d <;> simp
                | _ => simp
        | _ => simp
      | _ => simp
  | _ => simp
@[simp] theorem wE_callT_c {F : FS} {f0 f1 : SM SV} : wE (callT F (argsT f0 f1)) (s0 :: s1) Q X ↔ wE f0 (s0 :: s1) (fun r0 st1 => match r0 with
    | .own false ds => wE f1 st1 (fun r1 st2 => match r1 with
      | .val (.int n) => wC F [.own true ds, .val (.int n)] (fun r io => ∃ (m : Int) (ds' : List D), r = .val (.int m) ∧ io = some ds' ∧ Q (.val (.int m)) st2) fun _ _ => False
      | _ => False) X
    | _ => False) X := wE_callT
@[simp] theorem isRes_dct (t : Bool) (kvs : List (List Int × D)) : isRes (.dct t kvs) = true := rfl
@[simp] theorem keyOf_dT (ns : List Int) : keyOf (.tuple (ns.map PyData.int)) = some (true, ns) := by
  show (intsOf _).map _ = _
  rw [intsOf_map]
  rfl
end
end TK

namespace TK
/-! ## what is in the air, whatever the throws -/
def air (h : Int → Int) (s b : Int) : Prop := 0 ≤ b ∧ ∃ j, j < s ∧ j + h j = s + b
structure Good (h : Int → Int) : Prop where
  nn : ∀ j, 0 ≤ h j
  inj : ∀ i j, i + h i = j + h j → i = j
  sur : ∀ t, ∃ j, j + h j = t
section
variable {h : Int → Int}
theorem air_succ {s b : Int} : air h (s + 1) b ↔ 0 ≤ b ∧ (air h s (b + 1) ∨ h s = b + 1) := by
  unfold air
  constructor
  · rintro ⟨hb, j, hj, e⟩
    refine ⟨hb, ?_⟩
    by_cases q : j = s
    · subst q; exact .inr (by omega)
    · exact .inl ⟨by omega, j, by omega, by omega⟩
  · rintro ⟨hb, ⟨_, j, hj, e⟩ | e⟩
    · exact ⟨hb, j, by omega, by omega⟩
    · exact ⟨hb, s, by omega, by omega⟩
theorem air_zero (G : Good h) {s : Int} : air h s 0 ↔ 0 < h s := by
  unfold air
  constructor
  · rintro ⟨_, j, hj, e⟩
    have := G.nn s
    by_cases q : h s = 0
    · have := G.inj j s (by omega)
      omega
    · omega
  · intro hs
    obtain ⟨j, e⟩ := G.sur s
    refine ⟨by omega, j, ?_, by omega⟩
    have := G.nn j
    by_cases q : j = s
    · subst q; omega
    · omega
theorem air_self (G : Good h) {s : Int} : ¬ air h s (h s) := by
  rintro ⟨_, j, hj, e⟩
  have := G.inj j s (by omega)
  omega
/-- the beats at which something lands, in order -/
structure IsAir (h : Int → Int) (s : Int) (L : List Int) : Prop where
  srt : L.Pairwise (· < ·)
  mem : ∀ b, b ∈ L ↔ air h s b
theorem pair_nodup {L : List Int} (h : L.Pairwise (· < ·)) : L.Nodup := h.imp fun {a b} q e => by omega
theorem sorted_eq : ∀ {L M : List Int}, L.Pairwise (· < ·) → M.Pairwise (· < ·) → (∀ b, b ∈ L ↔ b ∈ M) → L = M
  | [], [], _, _, _ => rfl
  | [], b :: M, _, _, e => absurd ((e b).mpr (by simp)) (by simp)
  | a :: L, [], _, _, e => absurd ((e a).mp (by simp)) (by simp)
  | a :: L, b :: M, h1, h2, e => by
    obtain ⟨a1, a2⟩ := List.pairwise_cons.mp h1
    obtain ⟨b1, b2⟩ := List.pairwise_cons.mp h2
    have hab : a = b := by
      have q1 := (e a).mp (by simp)
      have q2 := (e b).mpr (by simp)
      rcases List.mem_cons.mp q1 with q | q
      · exact q
      · rcases List.mem_cons.mp q2 with r | r
        · exact r.symm
        · have := a1 b r
          have := b1 a q
          omega
    subst hab
    congr 1
    refine sorted_eq a2 b2 fun c => ?_
    have ec := e c
    simp only [List.mem_cons] at ec
    constructor
    · intro hc
      rcases ec.mp (.inr hc) with q | q
      · subst q; have := a1 c hc; omega
      · exact q
    · intro hc
      rcases ec.mpr (.inr hc) with q | q
      · subst q; have := b1 c hc; omega
      · exact q
theorem IsAir.uniq {s : Int} {L M : List Int} (a : IsAir h s L) (b : IsAir h s M) : L = M := sorted_eq a.srt b.srt fun x => (a.mem x).trans (b.mem x).symm
/-- how many of a list are so -/
abbrev cnt (L : List Int) (p : Int → Bool) : Int := ((L.filter p).length : Int)
theorem cnt_perm {L M : List Int} (q : L.Perm M) (p : Int → Bool) : cnt L p = cnt M p := by
  unfold cnt; rw [(q.filter p).length_eq]
theorem perm_of_mem {L M : List Int} (h1 : L.Nodup) (h2 : M.Nodup) (e : ∀ b, b ∈ L ↔ b ∈ M) : L.Perm M := (List.perm_ext_iff_of_nodup h1 h2).mpr e
/-- the card of a throw -/
def cardL (L : List Int) (hh : Int) : Int := if hh = 0 then 0 else 1 + cnt L fun b => decide (0 < b) && decide (b < hh)
theorem cnt_nonneg (L : List Int) (p : Int → Bool) : 0 ≤ cnt L p := Int.natCast_nonneg _
theorem cnt_le {L : List Int} {p q : Int → Bool} (hpq : ∀ b ∈ L, p b = true → q b = true) : cnt L p ≤ cnt L q := by
  unfold cnt
  have : (L.filter p).length ≤ (L.filter q).length := by
    induction L with
    | nil => simp
    | cons a L ih =>
      have ih := ih fun b hb => hpq b (by simp [hb])
      have ha := hpq a (by simp)
      rw [List.filter_cons, List.filter_cons]
      split
      · rename_i e
        rw [if_pos (ha e)]
        simpa using ih
      · split <;> simp <;> omega
  omega
theorem cnt_lt {L : List Int} {p q : Int → Bool} (hpq : ∀ b ∈ L, p b = true → q b = true) {x : Int} (hx : x ∈ L) (h1 : p x = false) (h2 : q x = true) : cnt L p + 1 ≤ cnt L q := by
  induction L with
  | nil => cases hx
  | cons a L ih =>
    have hpq' : ∀ b ∈ L, p b = true → q b = true := fun b hb => hpq b (by simp [hb])
    have base := cnt_le hpq'
    unfold cnt at *
    rw [List.filter_cons, List.filter_cons]
    rcases List.mem_cons.mp hx with e | e
    · subst e
      rw [h1, h2]
      simp
      omega
    · have ih := ih hpq' e
      have ha := hpq a (by simp)
      split
      · rename_i e
        rw [if_pos (ha e)]
        simp
        omega
      · split
        · simp; omega
        · exact ih
theorem cnt_congr {L : List Int} {p q : Int → Bool} (hpq : ∀ b ∈ L, p b = q b) : cnt L p = cnt L q := by
  unfold cnt
  rw [List.filter_congr hpq]
/-- the next beats -/
def nextL (L : List Int) (hh : Int) : List Int := ((L.filter fun b => decide (0 < b)) ++ if hh = 0 then [] else [hh]).map fun b => b - 1
theorem nextL_mem {s : Int} {L : List Int} (G : Good h) (A : ∀ b, b ∈ L ↔ air h s b) (b : Int) : b ∈ nextL L (h s) ↔ air h (s + 1) b := by
  rw [air_succ]
  unfold nextL
  simp only [List.mem_map, List.mem_append, List.mem_filter, decide_eq_true_eq]
  have hn := G.nn s
  constructor
  · rintro ⟨a, ⟨h1, h2⟩ | h1, rfl⟩
    · refine ⟨by omega, .inl ?_⟩
      rw [show a - 1 + 1 = a by omega]
      exact (A a).mp h1
    · split at h1
      · cases h1
      · rename_i hh
        simp at h1
        subst h1
        exact ⟨by omega, .inr (by omega)⟩
  · rintro ⟨hb, q | q⟩
    · exact ⟨b + 1, .inl ⟨(A _).mpr q, by omega⟩, by omega⟩
    · refine ⟨b + 1, .inr ?_, by omega⟩
      rw [if_neg (by omega)]
      simp [q]
theorem nextL_nodup {s : Int} {L : List Int} (G : Good h) (A : ∀ b, b ∈ L ↔ air h s b) (nd : L.Nodup) : (nextL L (h s)).Nodup := by
  unfold nextL
  refine List.Pairwise.map (S := fun a b : Int => a ≠ b) _ (fun a b (hab : a ≠ b) => show a - 1 ≠ b - 1 by omega) ?_
  refine List.nodup_append.mpr ⟨nd.filter _, by split <;> simp, fun a ha b hb e => ?_⟩
  split at hb
  · cases hb
  · simp at hb
    subst hb
    subst e
    exact air_self G ((A _).mp (List.mem_filter.mp ha).1)
theorem cnt_nextL (L : List Int) (hh : Int) (p : Int → Bool) : cnt (nextL L hh) p = (cnt L fun b => decide (0 < b) && p (b - 1)) + if hh ≠ 0 ∧ p (hh - 1) = true then 1 else 0 := by
  unfold cnt nextL
  rw [List.filter_map, List.length_map, List.filter_append, List.length_append, List.filter_filter]
  have e1 : (L.filter fun a => ((p ∘ fun b => b - 1) a && decide (0 < a))) = L.filter fun b => decide (0 < b) && p (b - 1) := List.filter_congr fun b _ => by
    simp [Bool.and_comm]
  rw [e1]
  by_cases hq : hh = 0
  · simp [hq]
  · by_cases hp : p (hh - 1) = true
    · simp [hq, hp]
    · simp [hq, hp]
/-- how far down one is that lands d beats from now -/
def plc (L : List Int) (d : Int) : Int := cnt L fun b => decide (b ≤ d)
variable {s d : Int} {L : List Int}
theorem plc_next (G : Good h) (A : IsAir h s L) (hd : 0 < d) (hm : d ∈ L) : plc (nextL L (h s)) (d - 1) = if plc L d ≤ cardL L (h s) then plc L d - 1 else plc L d := by
  have hn := G.nn s
  unfold plc
  rw [cnt_nextL]
  have nn : ∀ b ∈ L, 0 ≤ b := fun b hb => ((A.mem b).mp hb).1
  have nd := pair_nodup A.srt
  by_cases h0 : h s = 0
  · have hz : 0 ∉ L := fun q => by have := (air_zero G).mp ((A.mem 0).mp q); omega
    have e : (cnt L fun b => decide (0 < b) && decide (b - 1 ≤ d - 1)) = cnt L fun b => decide (b ≤ d) := cnt_congr fun b hb => by
      have h1 := nn b hb
      have h2 : b ≠ 0 := fun q => hz (q ▸ hb)
      rw [Bool.eq_iff_iff]
      simp
      omega
    rw [e]
    have pos : 1 ≤ cnt L fun b => decide (b ≤ d) := by
      have := cnt_lt (L := L) (p := fun _ => false) (q := fun b => decide (b ≤ d)) (fun b _ q => by cases q) hm rfl (by simp)
      have := cnt_nonneg L fun _ => false
      omega
    rw [if_neg (by simp [h0])]
    unfold cardL
    rw [if_pos h0, if_neg (by omega)]
    omega
  · have hz : 0 ∈ L := (A.mem 0).mpr ((air_zero G).mpr (by omega))
    have hne : h s ≠ d := fun q => air_self G (s := s) (by rw [q]; exact (A.mem d).mp hm)
    have hns : h s ∉ L := fun q => air_self G ((A.mem _).mp q)
    have e : (cnt L fun b => decide (0 < b) && decide (b - 1 ≤ d - 1)) = (cnt L fun b => decide (b ≤ d)) - 1 := by
      have sp : L.Perm (0 :: L.erase 0) := List.perm_cons_erase hz
      rw [cnt_perm sp, cnt_perm sp (fun b => decide (b ≤ d))]
      unfold cnt
      rw [List.filter_cons, List.filter_cons]
      have hl : ∀ b ∈ L.erase 0, 0 < b := fun b hb => by
        have h1 := nn b (List.mem_of_mem_erase hb)
        have h2 : b ≠ 0 := fun q => by
          subst q
          exact (List.nodup_cons.mp ((List.Perm.nodup_iff sp).mp nd)).1 hb
        omega
      rw [if_neg (by simp), if_pos (by simp; omega), List.length_cons]
      have : (L.erase 0).filter (fun b => decide (0 < b) && decide (b - 1 ≤ d - 1)) = (L.erase 0).filter fun b => decide (b ≤ d) := List.filter_congr fun b hb => by
        have := hl b hb
        rw [Bool.eq_iff_iff]
        simp
        omega
      rw [this]
      omega
    rw [e]
    unfold cardL
    rw [if_neg h0]
    by_cases hlt : h s < d
    · rw [if_pos ⟨h0, by simp; omega⟩]
      have q := cnt_lt (L := L) (p := fun b => decide (0 < b) && decide (b < h s)) (q := fun b => decide (b ≤ d)) (fun b _ q => by simp at q ⊢; omega) hm (by simp; omega) (by simp)
      have q2 : (cnt L fun b => decide (0 < b) && decide (b < h s)) + 1 ≤ cnt L fun b => decide (b ≤ d) := q
      have q3 := cnt_lt (L := L) (p := fun b => decide (0 < b) && decide (b ≤ d)) (q := fun b => decide (b ≤ d)) (fun b _ q => by simp at q ⊢; omega) hz (by simp) (by simp; omega)
      have q4 := cnt_lt (L := L) (p := fun b => decide (0 < b) && decide (b < h s)) (q := fun b => decide (0 < b) && decide (b ≤ d)) (fun b _ q => by simp at q ⊢; omega) hm (by simp; omega) (by simp; omega)
      rw [if_neg (by omega)]
      omega
    · rw [if_neg (by simp; omega)]
      have q3 : (cnt L fun b => decide (0 < b) && decide (b - 1 ≤ d - 1)) ≤ cnt L fun b => decide (0 < b) && decide (b < h s) := cnt_le fun b _ q => by simp at q ⊢; omega
      rw [e] at q3
      rw [if_pos (by omega)]
      omega
theorem plc_end (G : Good h) (A : IsAir h s L) (hm : 0 ∈ L) : plc L 0 ≤ 1 ∧ cardL L (h s) ≠ 0 := by
  have hs := (air_zero G).mp ((A.mem 0).mp hm)
  constructor
  · unfold plc
    have sp : L.Perm (0 :: L.erase 0) := List.perm_cons_erase hm
    rw [cnt_perm sp]
    unfold cnt
    rw [List.filter_cons, if_pos (by simp), List.length_cons]
    have : (L.erase 0).filter (fun b => decide (b ≤ 0)) = [] := by
      rw [List.filter_eq_nil_iff]
      intro b hb
      have h1 := ((A.mem b).mp (List.mem_of_mem_erase hb)).1
      have h2 : b ≠ 0 := fun q => by
        subst q
        exact (List.nodup_cons.mp ((List.Perm.nodup_iff sp).mp (pair_nodup A.srt))).1 hb
      simp
      omega
    rw [this]
    simp
  · unfold cardL
    rw [if_neg (by omega)]
    have := cnt_nonneg L fun b => decide (0 < b) && decide (b < h s)
    omega
theorem plc_go (G : Good h) (A : IsAir h s L) (hd : 0 < d) (hm : d ∈ L) : ¬ (plc L d ≤ 1 ∧ cardL L (h s) ≠ 0) := by
  rintro ⟨h1, h2⟩
  have h0 : h s ≠ 0 := fun q => h2 (by simp [cardL, q])
  have hn := G.nn s
  have hz : 0 ∈ L := (A.mem 0).mpr ((air_zero G).mpr (by omega))
  have q3 := cnt_lt (L := L) (p := fun b => decide (0 < b) && decide (b ≤ d)) (q := fun b => decide (b ≤ d)) (fun b _ q => by simp at q ⊢; omega) hz (by simp) (by simp; omega)
  have q4 := cnt_lt (L := L) (p := fun b => false) (q := fun b => decide (0 < b) && decide (b ≤ d)) (fun b _ q => by cases q) hm (by simp) (by simp; omega)
  have := cnt_nonneg L fun _ => false
  unfold plc at h1
  omega
theorem plc_first (G : Good h) (A : IsAir h s L) (hs : 0 < h s) : plc (nextL L (h s)) (h s - 1) = cardL L (h s) := by
  unfold plc cardL
  rw [cnt_nextL, if_pos ⟨by omega, by simp⟩, if_neg (show ¬ h s = 0 by omega)]
  have hns : h s ∉ L := fun q => air_self G ((A.mem _).mp q)
  have e : (cnt L fun b => decide (0 < b) && decide (b - 1 ≤ h s - 1)) = cnt L fun b => decide (0 < b) && decide (b < h s) := cnt_congr fun b hb => by
    have h2 : b ≠ h s := fun q => hns (q ▸ hb)
    rw [Bool.eq_iff_iff]
    simp
    omega
  rw [e]
  omega
end
/-! ## how a thing falls from its place -/
def Falls (c : Int → Int) : Nat → Int → Int → Prop
  | 0, s, p => p ≤ 1 ∧ c s ≠ 0
  | k + 1, s, p => ¬ (p ≤ 1 ∧ c s ≠ 0) ∧ Falls c k (s + 1) (if p ≤ c s then p - 1 else p)
theorem Falls.det {c : Int → Int} : ∀ {k l : Nat} {s p : Int}, Falls c k s p → Falls c l s p → k = l
  | 0, 0, _, _, _, _ => rfl
  | 0, l + 1, _, _, h1, h2 => absurd h1 h2.1
  | k + 1, 0, _, _, h1, h2 => absurd h2 h1.1
  | k + 1, l + 1, _, _, h1, h2 => by rw [Falls.det h1.2 h2.2]
/-- from throws to cards and back -/
theorem falls_of {h c : Int → Int} (G : Good h) {Ls : Int → List Int} (hL : ∀ s, IsAir h s (Ls s)) (hc : ∀ s, c s = cardL (Ls s) (h s)) : ∀ (k : Nat) (s : Int), (k : Int) ∈ Ls s → Falls c k s (plc (Ls s) k)
  | 0, s, hm => by
    have := plc_end G (hL s) (by simpa using hm)
    rw [Falls, hc]
    simpa using this
  | k + 1, s, hm => by
    have g := plc_go G (hL s) (by omega) hm
    rw [Falls, hc]
    refine ⟨g, ?_⟩
    have e := plc_next G (hL s) (by omega) hm
    have ih := falls_of G hL hc k (s + 1) (((hL (s + 1)).mem _).mpr (by
      rw [air_succ]
      exact ⟨by omega, .inl (((hL s).mem _).mp (by simpa using hm))⟩))
    have pe : plc (nextL (Ls s) (h s)) ((k + 1 : Nat) - 1 : Int) = plc (Ls (s + 1)) k := by
      unfold plc
      rw [show ((k + 1 : Nat) : Int) - 1 = k by omega]
      refine cnt_perm (perm_of_mem (nextL_nodup G (hL s).mem (pair_nodup (hL s).srt)) (pair_nodup (hL (s + 1)).srt) fun b => ?_) _
      rw [nextL_mem G (hL s).mem, (hL (s + 1)).mem]
    rw [← e, pe]
    exact ih
theorem falls_height {h c : Int → Int} (G : Good h) {Ls : Int → List Int} (hL : ∀ s, IsAir h s (Ls s)) (hc : ∀ s, c s = cardL (Ls s) (h s)) {t : Int} (ht : 0 < h t) : Falls c (h t - 1).toNat (t + 1) (c t) := by
  have hm : h t - 1 ∈ Ls (t + 1) := ((hL (t + 1)).mem _).mpr (by rw [air_succ]; exact ⟨by omega, .inr (by omega)⟩)
  have ek : (((h t - 1).toNat : Nat) : Int) = h t - 1 := by omega
  have f := falls_of G hL hc (h t - 1).toNat (t + 1) (by rw [ek]; exact hm)
  rw [ek] at f
  have pe : plc (nextL (Ls t) (h t)) (h t - 1) = plc (Ls (t + 1)) (h t - 1) := by
    unfold plc
    refine cnt_perm (perm_of_mem (nextL_nodup G (hL t).mem (pair_nodup (hL t).srt)) (pair_nodup (hL (t + 1)).srt) fun b => ?_) _
    rw [nextL_mem G (hL t).mem, (hL (t + 1)).mem]
  rw [← pe, plc_first G (hL t) ht, ← hc] at f
  exact f
end TK
namespace TK
/-! ## from cards to throws -/
structure Cds (c : Int → Int) (n m : Int) : Prop where
  pos : 0 < n
  nn : ∀ s, 0 ≤ c s
  per : ∀ s, c (s + n) = c s
  le : ∀ s, c s ≤ m
  ex : ∃ s, c s = m
section
variable {c : Int → Int} {n m : Int}
theorem Cds.perK (C : Cds c n m) (s : Int) : ∀ k : Nat, c (s + k * n) = c s
  | 0 => by simp
  | k + 1 => by
    have e : s + ((k + 1 : Nat) : Int) * n = s + k * n + n := by rw [Int.natCast_add, Int.add_mul]; simp; omega
    rw [e, C.per, C.perK s k]
theorem Cds.perZ (C : Cds c n m) (s k : Int) : c (s + k * n) = c s := by
  by_cases h : 0 ≤ k
  · have := C.perK s k.toNat
    rwa [Int.toNat_of_nonneg h] at this
  · have := C.perK (s + k * n) (-k).toNat
    rw [Int.toNat_of_nonneg (by omega)] at this
    rw [← this]
    congr 1
    rw [Int.neg_mul]
    omega
theorem Cds.fwd (C : Cds c n m) (s : Int) : ∃ e : Nat, (e : Int) < n ∧ c (s + e) = m := by
  obtain ⟨t, ht⟩ := C.ex
  have h1 := Int.emod_nonneg (t - s) (show n ≠ 0 by have := C.pos; omega)
  have h2 := Int.emod_lt_of_pos (t - s) C.pos
  refine ⟨((t - s) % n).toNat, by omega, ?_⟩
  rw [Int.toNat_of_nonneg h1, ← C.perZ _ ((t - s) / n), ← ht]
  congr 1
  have := Int.emod_add_mul_ediv (t - s) n
  rw [Int.mul_comm] at this
  omega
theorem Cds.bwd (C : Cds c n m) (s : Int) : ∃ e : Nat, c (s - 1 - e) = m := by
  obtain ⟨e, h1, h2⟩ := C.fwd (s - n)
  refine ⟨(n - 1 - e).toNat, ?_⟩
  rw [Int.toNat_of_nonneg (by omega), ← h2]
  congr 1
  omega
theorem fall_ex (C : Cds c n m) : ∀ (p e : Nat) (s : Int), 1 ≤ p → (p : Int) ≤ m → c (s + e) = m → (e : Int) < n → ∃ k : Nat, Falls c k s p ∧ (k : Int) ≤ e + n * ((p : Int) - 1) := by
  intro p
  induction p with
  | zero => intro e s h1; omega
  | succ p ihp =>
    intro e
    induction e with
    | zero =>
      intro s h1 hm hc he
      rw [Int.natCast_zero, Int.add_zero] at hc
      by_cases hp : p = 0
      · refine ⟨0, ?_, by subst hp; simp⟩
        rw [Falls]
        omega
      · obtain ⟨e', h1', h2'⟩ := C.fwd (s + 1)
        obtain ⟨k, hk, hb⟩ := ihp e' (s + 1) (by omega) (by omega) h2' h1'
        refine ⟨k + 1, ?_, ?_⟩
        · rw [Falls]
          refine ⟨by omega, ?_⟩
          rw [if_pos (by omega)]
          rw [show ((p + 1 : Nat) : Int) - 1 = p by omega]
          exact hk
        · have : n * (((p + 1 : Nat) : Int) - 1) = n * ((p : Int) - 1) + n := by
            rw [show ((p + 1 : Nat) : Int) - 1 = ((p : Int) - 1) + 1 by omega, Int.mul_add, Int.mul_one]
          rw [this]
          omega
    | succ e ihe =>
      intro s h1 hm hc he
      by_cases hst : ((p + 1 : Nat) : Int) ≤ 1 ∧ c s ≠ 0
      · refine ⟨0, hst, ?_⟩
        have hp : p = 0 := by omega
        subst hp
        simp
        omega
      · have hc' : c (s + 1 + e) = m := by
          rw [← hc]; congr 1; omega
        by_cases hle : ((p + 1 : Nat) : Int) ≤ c s
        · have hp : 1 ≤ p := by
            have := C.nn s
            by_cases q : p = 0
            · subst q; exact absurd ⟨by omega, by omega⟩ hst
            · omega
          obtain ⟨k, hk, hb⟩ := ihp e (s + 1) hp (by omega) hc' (by omega)
          refine ⟨k + 1, ?_, ?_⟩
          · rw [Falls]
            refine ⟨hst, ?_⟩
            rw [if_pos hle, show ((p + 1 : Nat) : Int) - 1 = p by omega]
            exact hk
          · have : n * (((p + 1 : Nat) : Int) - 1) = n * ((p : Int) - 1) + n := by
              rw [show ((p + 1 : Nat) : Int) - 1 = ((p : Int) - 1) + 1 by omega, Int.mul_add, Int.mul_one]
            rw [this]
            omega
        · obtain ⟨k, hk, hb⟩ := ihe (s + 1) h1 hm hc' (by omega)
          refine ⟨k + 1, ?_, by omega⟩
          rw [Falls]
          refine ⟨hst, ?_⟩
          rw [if_neg hle]
          exact hk
theorem fall_any (C : Cds c n m) {s p : Int} (h1 : 1 ≤ p) (h2 : p ≤ m) : ∃ k : Nat, Falls c k s p ∧ (k : Int) < n * p := by
  obtain ⟨e, he, hc⟩ := C.fwd s
  obtain ⟨k, hk, hb⟩ := fall_ex C p.toNat e s (by omega) (by omega) hc he
  rw [Int.toNat_of_nonneg (by omega)] at hk hb
  refine ⟨k, hk, ?_⟩
  rw [Int.mul_sub, Int.mul_one] at hb
  omega
/-- who has the lower place lands first -/
theorem falls_lt (C : Cds c n m) : ∀ {k l : Nat} {s p q : Int}, 1 ≤ p → p < q → Falls c k s p → Falls c l s q → k < l
  | k, 0, s, p, q, h1, h2, _, hq => by
    have := hq.1
    omega
  | 0, l + 1, s, p, q, h1, h2, _, _ => by omega
  | k + 1, l + 1, s, p, q, h1, h2, hp, hq => by
    have hc := C.nn s
    have := falls_lt C (p := if p ≤ c s then p - 1 else p) (q := if q ≤ c s then q - 1 else q) (by
      split
      · by_cases e : p = 1
        · exact absurd ⟨by omega, by omega⟩ hp.1
        · omega
      · exact h1) (by split <;> split <;> omega) hp.2 hq.2
    omega
theorem falls_inj (C : Cds c n m) {k : Nat} {s p q : Int} (h1 : 1 ≤ p) (h2 : 1 ≤ q) (hp : Falls c k s p) (hq : Falls c k s q) : p = q := by
  by_cases e : p < q
  · have := falls_lt C h1 e hp hq; omega
  · by_cases e2 : q < p
    · have := falls_lt C h2 e2 hq hp; omega
    · omega
/-- forth: a place from which it falls -/
theorem falls_fwd (C : Cds c n m) : ∀ (d : Nat) {k : Nat} {s p : Int}, 1 ≤ p → p ≤ m → Falls c (k + d) s p → ∃ q, 1 ≤ q ∧ q ≤ m ∧ Falls c k (s + d) q
  | 0, k, s, p, h1, h2, hp => ⟨p, h1, h2, by simpa using hp⟩
  | d + 1, k, s, p, h1, h2, hp => by
    have hc := C.nn s
    obtain ⟨h3, h4⟩ : _ ∧ _ := hp
    obtain ⟨q, q1, q2, q3⟩ := falls_fwd C d (by
      split
      · by_cases e : p = 1
        · exact absurd ⟨by omega, by omega⟩ h3
        · omega
      · exact h1) (by split <;> omega) h4
    refine ⟨q, q1, q2, ?_⟩
    rw [show s + ((d + 1 : Nat) : Int) = s + 1 + d by omega]
    exact q3
/-- back: who has it has been thrown -/
theorem falls_bwd (C : Cds c n m) : ∀ (r e : Nat) {k : Nat} {s p : Int}, m - p = r → 1 ≤ p → c (s - 1 - e) = m → Falls c k s p → ∃ (j : Int) (d : Nat), j + 1 + d = s ∧ 0 < c j ∧ Falls c (k + d) (j + 1) (c j) := by
  intro r
  induction r with
  | zero =>
    intro e
    induction e with
    | zero =>
      intro k s p hr h1 hc hp
      rw [Int.natCast_zero, Int.sub_zero] at hc
      refine ⟨s - 1, 0, by simp, by omega, ?_⟩
      rw [hc, show s - 1 + 1 = s by omega, Nat.add_zero, show m = p by omega]
      exact hp
    | succ e ihe =>
      intro k s p hr h1 hc hp
      have h0 := C.nn (s - 1)
      have h2 := C.le (s - 1)
      by_cases he : c (s - 1) = p
      · refine ⟨s - 1, 0, by simp, by omega, ?_⟩
        rw [he, show s - 1 + 1 = s by omega, Nat.add_zero]
        exact hp
      · have hf : Falls c (k + 1) (s - 1) p := by
          rw [Falls]
          refine ⟨fun q => ?_, ?_⟩
          · omega
          · rw [if_neg (by omega), show s - 1 + 1 = s by omega]
            exact hp
        obtain ⟨j, d, h3, h4, h5⟩ := ihe hr h1 (by rw [← hc]; congr 1; omega) hf
        refine ⟨j, d + 1, by omega, h4, ?_⟩
        rw [show k + (d + 1) = k + 1 + d by omega]
        exact h5
  | succ r ihr =>
    intro e
    induction e with
    | zero =>
      intro k s p hr h1 hc hp
      rw [Int.natCast_zero, Int.sub_zero] at hc
      have hf : Falls c (k + 1) (s - 1) (p + 1) := by
        rw [Falls]
        refine ⟨by omega, ?_⟩
        rw [if_pos (by omega), show s - 1 + 1 = s by omega, show p + 1 - 1 = p by omega]
        exact hp
      obtain ⟨e', he'⟩ := C.bwd (s - 1)
      obtain ⟨j, d, h3, h4, h5⟩ := ihr e' (by omega) (by omega) he' hf
      refine ⟨j, d + 1, by omega, h4, ?_⟩
      rw [show k + (d + 1) = k + 1 + d by omega]
      exact h5
    | succ e ihe =>
      intro k s p hr h1 hc hp
      have h0 := C.nn (s - 1)
      have h2 := C.le (s - 1)
      by_cases he : c (s - 1) = p
      · refine ⟨s - 1, 0, by simp, by omega, ?_⟩
        rw [he, show s - 1 + 1 = s by omega, Nat.add_zero]
        exact hp
      · by_cases hlt : p < c (s - 1)
        · have hf : Falls c (k + 1) (s - 1) (p + 1) := by
            rw [Falls]
            refine ⟨by omega, ?_⟩
            rw [if_pos (by omega), show s - 1 + 1 = s by omega, show p + 1 - 1 = p by omega]
            exact hp
          obtain ⟨e', he'⟩ := C.bwd (s - 1)
          obtain ⟨j, d, h3, h4, h5⟩ := ihr e' (by omega) (by omega) he' hf
          refine ⟨j, d + 1, by omega, h4, ?_⟩
          rw [show k + (d + 1) = k + 1 + d by omega]
          exact h5
        · have hf : Falls c (k + 1) (s - 1) p := by
            rw [Falls]
            refine ⟨fun q => ?_, ?_⟩
            · omega
            · rw [if_neg (by omega), show s - 1 + 1 = s by omega]
              exact hp
          obtain ⟨j, d, h3, h4, h5⟩ := ihe hr h1 (by rw [← hc]; congr 1; omega) hf
          refine ⟨j, d + 1, by omega, h4, ?_⟩
          rw [show k + (d + 1) = k + 1 + d by omega]
          exact h5
open Classical in
/-- after how many beats it lands -/
noncomputable def fallT (c : Int → Int) (s p : Int) : Nat := if h : ∃ k, Falls c k s p then Classical.choose h else 0
theorem fallT_of {k : Nat} {s p : Int} (h : Falls c k s p) : fallT c s p = k := by
  unfold fallT
  rw [dif_pos ⟨k, h⟩]
  exact Falls.det (Classical.choose_spec (⟨k, h⟩ : ∃ k, Falls c k s p)) h
theorem fallT_ok (C : Cds c n m) {s p : Int} (h1 : 1 ≤ p) (h2 : p ≤ m) : Falls c (fallT c s p) s p := by
  obtain ⟨k, hk, _⟩ := fall_any C (s := s) h1 h2
  rw [fallT_of hk]; exact hk
/-- the height of each card -/
noncomputable def hOf (c : Int → Int) (t : Int) : Int := if c t = 0 then 0 else 1 + fallT c (t + 1) (c t)
theorem hOf_pos (C : Cds c n m) {t : Int} : 0 < hOf c t ↔ 0 < c t := by
  unfold hOf
  have := C.nn t
  split <;> omega
theorem hOf_lt (C : Cds c n m) (t : Int) : hOf c t ≤ n * m := by
  unfold hOf
  have h0 := C.nn t
  have h2 := C.le t
  have hn := C.pos
  split
  · have := Int.mul_nonneg (Int.le_of_lt hn) (Int.le_trans h0 h2)
    omega
  · obtain ⟨k, hk, hb⟩ := fall_any C (s := t + 1) (p := c t) (by omega) h2
    rw [fallT_of hk]
    have := Int.mul_le_mul_of_nonneg_left h2 (Int.le_of_lt hn)
    omega
theorem hOf_nn (t : Int) : 0 ≤ hOf c t := by
  unfold hOf
  split <;> omega
theorem falls_per (C : Cds c n m) : ∀ {k : Nat} {s p : Int} (j : Int), Falls c k s p → Falls c k (s + j * n) p
  | 0, s, p, j, h => by rw [Falls, C.perZ]; exact h
  | k + 1, s, p, j, h => by
    rw [Falls, C.perZ]
    refine ⟨h.1, ?_⟩
    have := falls_per C j h.2
    rwa [show s + 1 + j * n = s + j * n + 1 by omega] at this
theorem hOf_per (C : Cds c n m) (t j : Int) : hOf c (t + j * n) = hOf c t := by
  unfold hOf
  rw [C.perZ]
  split
  · rfl
  · rename_i h
    have h0 := C.nn t
    have f := fallT_ok C (s := t + 1) (p := c t) (by omega) (C.le t)
    have := falls_per C j f
    rw [show t + 1 + j * n = t + j * n + 1 by omega] at this
    rw [fallT_of this]
theorem hOf_inj (C : Cds c n m) : ∀ i j, i + hOf c i = j + hOf c j → i = j := by
  have key : ∀ i j, i < j → i + hOf c i ≠ j + hOf c j := fun i j hij e => by
    have hj := hOf_nn (c := c) j
    have ci := C.nn i
    by_cases c0 : c i = 0
    · have : hOf c i = 0 := by simp [hOf, c0]
      omega
    · have ei : hOf c i = 1 + fallT c (i + 1) (c i) := by simp [hOf, c0]
      have fi := fallT_ok C (s := i + 1) (p := c i) (by omega) (C.le i)
      -- until just before j
      obtain ⟨d, hd⟩ : ∃ d : Nat, i + 1 + d = j := ⟨(j - (i + 1)).toNat, by omega⟩
      obtain ⟨k, hk⟩ : ∃ k : Nat, fallT c (i + 1) (c i) = k + d := ⟨fallT c (i + 1) (c i) - d, by omega⟩
      rw [hk] at fi
      obtain ⟨q, q1, q2, q3⟩ := falls_fwd C d (by omega) (C.le i) fi
      rw [hd] at q3
      cases k with
      | zero =>
        obtain ⟨_, cj⟩ := q3
        have : 0 < hOf c j := (hOf_pos C).mpr (by have := C.nn j; omega)
        omega
      | succ k =>
        obtain ⟨g1, g2⟩ : _ ∧ _ := q3
        have cj0 := C.nn j
        by_cases cj : c j = 0
        · have : hOf c j = 0 := by simp [hOf, cj]
          omega
        · have ej : hOf c j = 1 + fallT c (j + 1) (c j) := by simp [hOf, cj]
          have fj := fallT_ok C (s := j + 1) (p := c j) (by omega) (C.le j)
          rw [show fallT c (j + 1) (c j) = k by omega] at fj
          have := falls_inj C (by split <;> omega) (by omega) g2 fj
          split at this <;> omega
  intro i j e
  by_cases h : i < j
  · exact absurd e (key i j h)
  · by_cases h2 : j < i
    · exact absurd e.symm (key j i h2)
    · omega
theorem hOf_sur (C : Cds c n m) (t : Int) : ∃ j, j + hOf c j = t := by
  have h0 := C.nn t
  by_cases ct : c t = 0
  · exact ⟨t, by simp [hOf, ct]⟩
  · obtain ⟨e, he⟩ := C.bwd t
    have hm := C.le t
    obtain ⟨j, d, h1, h2, h3⟩ := falls_bwd C (m - 1).toNat e (k := 0) (p := 1) (s := t) (by omega) (by omega) he ⟨by omega, ct⟩
    refine ⟨j, ?_⟩
    unfold hOf
    rw [if_neg (by omega), fallT_of h3]
    omega
theorem hOf_good (C : Cds c n m) : Good (hOf c) := ⟨hOf_nn, hOf_inj C, hOf_sur C⟩
/-- the beats, by place -/
noncomputable def plL (c : Int → Int) (m s : Int) : List Int := (List.range m.toNat).map fun i : Nat => ((fallT c s ((i : Int) + 1) : Nat) : Int)
theorem plL_len (s : Int) : (plL c m s).length = m.toNat := by simp [plL]
theorem plL_air (C : Cds c n m) (s : Int) : IsAir (hOf c) s (plL c m s) := by
  constructor
  · unfold plL
    rw [List.pairwise_map]
    refine (List.pairwise_lt_range (n := m.toNat)).imp_of_mem fun {a b} ha hb hab => ?_
    have ha := List.mem_range.mp ha
    have hb := List.mem_range.mp hb
    have := falls_lt C (s := s) (p := (a : Int) + 1) (q := (b : Int) + 1) (by omega) (by omega) (fallT_ok C (by omega) (by omega)) (fallT_ok C (by omega) (by omega))
    omega
  · intro b
    unfold plL
    rw [List.mem_map]
    constructor
    · rintro ⟨i, hi, rfl⟩
      have hi := List.mem_range.mp hi
      have f := fallT_ok C (s := s) (p := (i : Int) + 1) (by omega) (by omega)
      obtain ⟨e, he⟩ := C.bwd s
      obtain ⟨j, d, h1, h2, h3⟩ := falls_bwd C (m - ((i : Int) + 1)).toNat e (by omega) (by omega) he f
      refine ⟨by omega, j, by omega, ?_⟩
      unfold hOf
      rw [if_neg (by omega), fallT_of h3]
      omega
    · rintro ⟨hb, j, hj, e⟩
      have cj := C.nn j
      by_cases c0 : c j = 0
      · have : hOf c j = 0 := by simp [hOf, c0]
        omega
      · have ej : hOf c j = 1 + fallT c (j + 1) (c j) := by simp [hOf, c0]
        have fj := fallT_ok C (s := j + 1) (p := c j) (by omega) (C.le j)
        obtain ⟨d, hd⟩ : ∃ d : Nat, j + 1 + d = s := ⟨(s - (j + 1)).toNat, by omega⟩
        rw [show fallT c (j + 1) (c j) = b.toNat + d by omega] at fj
        obtain ⟨q, q1, q2, q3⟩ := falls_fwd C d (by omega) (C.le j) fj
        rw [hd] at q3
        refine ⟨(q - 1).toNat, List.mem_range.mpr (by omega), ?_⟩
        rw [show (((q - 1).toNat : Nat) : Int) + 1 = q by omega, fallT_of q3]
        omega
theorem countBelow : ∀ (m k : Nat) (f : Nat → Bool), k ≤ m → (∀ i, i < m → (f i = true ↔ i < k)) → ((List.range m).filter f).length = k := by
  intro m k f hk hf
  have e : (List.range m).filter f = (List.range m).filter fun i => decide (i < k) := List.filter_congr fun i hi => by
    rw [Bool.eq_iff_iff, hf i (List.mem_range.mp hi)]; simp
  rw [e]
  clear e hf
  induction m with
  | zero => simp at hk; subst hk; rfl
  | succ m ih =>
    rw [List.range_succ, List.filter_append, List.length_append]
    by_cases h : k ≤ m
    · rw [ih h]
      simp
      omega
    · have e : k = m + 1 := by omega
      have : (List.range m).filter (fun i => decide (i < k)) = List.range m := List.filter_eq_self.mpr fun i hi => by
        have := List.mem_range.mp hi
        simp; omega
      rw [this, e]
      simp
theorem plL_card (C : Cds c n m) (s : Int) : c s = cardL (plL c m s) (hOf c s) := by
  have h0 := C.nn s
  have hm := C.le s
  unfold cardL
  by_cases c0 : c s = 0
  · have : hOf c s = 0 := by simp [hOf, c0]
    rw [if_pos this, c0]
  · have hp := (hOf_pos C (t := s)).mpr (by omega)
    have es : hOf c s = 1 + fallT c (s + 1) (c s) := by simp [hOf, c0]
    have fs := fallT_ok C (s := s + 1) (p := c s) (by omega) hm
    rw [if_neg (by omega)]
    unfold cnt plL
    rw [List.filter_map, List.length_map]
    -- place 1 lands now; those up to the card land before it
    have f1 : fallT c s 1 = 0 := fallT_of ⟨by omega, c0⟩
    have fq : ∀ q : Int, 2 ≤ q → q ≤ m → fallT c s q = 1 + fallT c (s + 1) (if q ≤ c s then q - 1 else q) := fun q q1 q2 => by
      have := fallT_ok C (s := s + 1) (p := if q ≤ c s then q - 1 else q) (by split <;> omega) (by split <;> omega)
      rw [Nat.add_comm]
      refine fallT_of ?_
      rw [Falls]
      exact ⟨by omega, this⟩
    have main : ∀ i : Nat, i < m.toNat → ((decide (0 < ((fallT c s ((i : Int) + 1) : Nat) : Int)) && decide (((fallT c s ((i : Int) + 1) : Nat) : Int) < hOf c s)) = true ↔ 1 ≤ i ∧ i < (c s).toNat) := fun i hi => by
      rw [Bool.and_eq_true, decide_eq_true_eq, decide_eq_true_eq]
      by_cases hi0 : i = 0
      · subst hi0
        have : fallT c s (((0 : Nat) : Int) + 1) = 0 := f1
        rw [this]
        omega
      · have e := fq ((i : Int) + 1) (by omega) (by omega)
        rw [e, es]
        by_cases hle : (i : Int) + 1 ≤ c s
        · rw [if_pos hle]
          have := falls_lt C (s := s + 1) (p := (i : Int) + 1 - 1) (q := c s) (by omega) (by omega) (fallT_ok C (by omega) (by omega)) fs
          omega
        · rw [if_neg hle]
          have := falls_lt C (s := s + 1) (p := c s) (q := (i : Int) + 1) (by omega) (by omega) fs (fallT_ok C (by omega) (by omega))
          omega
    have fin : ((List.range m.toNat).filter ((fun b => decide (0 < b) && decide (b < hOf c s)) ∘ fun i : Nat => ((fallT c s ((i : Int) + 1) : Nat) : Int))).length + 1 = (c s).toNat := by
      have split : ((List.range m.toNat).filter fun i => decide (i < (c s).toNat)).length = (c s).toNat := countBelow _ _ _ (by omega) (by intro i hi; simp)
      obtain ⟨M, hM⟩ : ∃ M, m.toNat = M + 1 := ⟨m.toNat - 1, by omega⟩
      rw [hM, List.range_succ_eq_map] at split ⊢
      rw [List.filter_cons, if_pos (by simp; omega), List.length_cons] at split
      rw [List.filter_cons, if_neg (by
        have := main 0 (by omega)
        simp only [Function.comp]
        rw [this]
        omega)]
      rw [← split]
      congr 2
      refine List.filter_congr fun i hi => ?_
      obtain ⟨a, ha, rfl⟩ := List.mem_map.mp hi
      have ha := List.mem_range.mp ha
      have := main (a + 1) (by omega)
      rw [Bool.eq_iff_iff]
      simp only [Function.comp]
      rw [show Nat.succ a = a + 1 from rfl, this]
      simp
    omega
end
end TK

namespace TK
/-! ## a row that goes on for ever -/
def hz (hs : List Int) (j : Int) : Int := hs.getD (j % (hs.length : Int)).toNat 0
def NN (hs : List Int) : Prop := ∀ x ∈ hs, 0 ≤ x
section
variable {hs : List Int}
theorem hz_nat {i : Nat} (hi : i < hs.length) : hz hs i = hs.getD i 0 := by
  unfold hz
  rw [Int.emod_eq_of_lt (by omega) (by omega), Int.toNat_natCast]
theorem hz_get {i : Nat} (hi : i < hs.length) : hz hs i = hs[i] := by
  rw [hz_nat hi]; simp [hi]
theorem hz_add (j k : Int) : hz hs (j + k * hs.length) = hz hs j := by
  unfold hz
  rw [Int.add_mul_emod_self_right]
theorem hz_emod (j : Int) : hz hs (j % hs.length) = hz hs j := by
  unfold hz
  rw [Int.emod_emod_of_dvd _ (Int.dvd_refl _)]
theorem hz_nn (h : NN hs) (j : Int) : 0 ≤ hz hs j := by
  unfold hz
  by_cases q : (j % (hs.length : Int)).toNat < hs.length
  · rw [List.getD_eq_getElem?_getD, List.getElem?_eq_getElem q]
    exact h _ (List.getElem_mem q)
  · rw [List.getD_eq_getElem?_getD, List.getElem?_eq_none (by omega)]
    simp
theorem split_n (h0 : hs ≠ []) (j : Int) : ∃ (i : Nat) (k : Int), i < hs.length ∧ j = i + k * hs.length := by
  have hpos : 0 < hs.length := List.length_pos_iff.mpr h0
  have h1 := Int.emod_nonneg j (show (hs.length : Int) ≠ 0 by omega)
  have h2 := Int.emod_lt_of_pos j (show (0 : Int) < hs.length by omega)
  refine ⟨(j % (hs.length : Int)).toNat, j / hs.length, by omega, ?_⟩
  rw [Int.toNat_of_nonneg h1, Int.mul_comm]
  exact (Int.emod_add_mul_ediv j _).symm
theorem emod_eq_ex {a b n : Int} (h : a % n = b % n) : ∃ k, a = b + k * n := by
  refine ⟨a / n - b / n, ?_⟩
  have h1 := Int.emod_add_mul_ediv a n
  have h2 := Int.emod_add_mul_ediv b n
  rw [Int.sub_mul, Int.mul_comm (a / n), Int.mul_comm (b / n)]
  omega
theorem good_of_plain (h0 : hs ≠ []) (nn : NN hs) (hp : PlainH hs) : Good (hz hs) := by
  have hpos : 0 < hs.length := List.length_pos_iff.mpr h0
  have res : ∀ i j : Nat, i < hs.length → j < hs.length → ((i : Int) + hs.getD i 0) % (hs.length : Int) = ((j : Int) + hs.getD j 0) % (hs.length : Int) → i = j := fun i j hi hj e => by
    by_cases q : i < j
    · exact absurd e (hp i j q hj)
    · by_cases q2 : j < i
      · exact absurd e.symm (hp j i q2 hi)
      · omega
  refine ⟨hz_nn nn, fun i j e => ?_, fun t => ?_⟩
  · obtain ⟨a, k, ha, rfl⟩ := split_n h0 i
    obtain ⟨b, l, hb, rfl⟩ := split_n h0 j
    rw [hz_add, hz_add, hz_nat ha, hz_nat hb] at e
    have := res a b ha hb (by
      have e1 : (a : Int) + hs.getD a 0 = (b : Int) + hs.getD b 0 + (l - k) * hs.length := by
        rw [Int.sub_mul]; omega
      rw [e1, Int.add_mul_emod_self_right])
    subst this
    omega
  · -- all remainders are there
    have nd := nodup_remL.mpr hp
    have hsub : ∀ x ∈ remL hs, x ∈ rangeI 0 hs.length := fun x hx => by
      unfold remL at hx
      rw [List.mem_mapIdx] at hx
      obtain ⟨i, hi, rfl⟩ := hx
      rw [mem_rangeI]
      exact ⟨Int.emod_nonneg _ (by omega), by have := Int.emod_lt_of_pos ((i : Int) + hs[i]) (show (0 : Int) < hs.length by omega); omega⟩
    have hm : t % hs.length ∈ remL hs := Classical.byContradiction fun q => by
      have := length_le_of_sub (l := t % hs.length :: remL hs) (m := rangeI 0 hs.length) (List.nodup_cons.mpr ⟨q, nd⟩) (fun x hx => by
        rcases List.mem_cons.mp hx with rfl | hx
        · rw [mem_rangeI]
          exact ⟨Int.emod_nonneg _ (by omega), by have := Int.emod_lt_of_pos t (show (0 : Int) < hs.length by omega); omega⟩
        · exact hsub x hx)
      rw [List.length_cons, length_remL, length_rangeI] at this
      omega
    unfold remL at hm
    rw [List.mem_mapIdx] at hm
    obtain ⟨i, hi, e⟩ := hm
    obtain ⟨k, hk⟩ := emod_eq_ex e.symm
    refine ⟨i + k * hs.length, ?_⟩
    rw [hz_add, hz_get hi]
    omega
theorem plain_of_good (h0 : hs ≠ []) (G : Good (hz hs)) : PlainH hs := by
  intro i j hij hj e
  obtain ⟨k, hk⟩ := emod_eq_ex e
  have := G.inj i (j + k * hs.length) (by
    rw [hz_add, hz_nat (by omega), hz_nat hj]
    omega)
  have e2 : k * (hs.length : Int) = (i : Int) - j := by omega
  have hk0 : k = 0 := by
    by_cases q : 0 < k
    · have : (1 : Int) * hs.length ≤ k * hs.length := Int.mul_le_mul_of_nonneg_right (by omega) (by omega)
      omega
    · by_cases q2 : k < 0
      · have : k * hs.length ≤ (-1) * (hs.length : Int) := Int.mul_le_mul_of_nonneg_right (by omega) (by omega)
        omega
      · omega
  subst hk0
  omega
theorem air_per {s b k : Int} : air (hz hs) (s + k * hs.length) b ↔ air (hz hs) s b := by
  unfold air
  constructor
  · rintro ⟨hb, j, hj, e⟩
    refine ⟨hb, j - k * hs.length, by omega, ?_⟩
    have := hz_add (hs := hs) (j - k * hs.length) k
    rw [show j - k * (hs.length : Int) + k * hs.length = j by omega] at this
    rw [← this]
    omega
  · rintro ⟨hb, j, hj, e⟩
    refine ⟨hb, j + k * hs.length, by omega, ?_⟩
    rw [hz_add]
    omega
/-- in order, each once -/
def strictL (L : List Int) : List Int := isort L
theorem strict_isort {L : List Int} (nd : L.Nodup) : (isort L).Pairwise (· < ·) := by
  have h1 := isort_sorted L
  have h2 : (isort L).Nodup := (isort_perm L).nodup_iff.mpr nd
  exact (h1.and h2).imp fun ⟨a, b⟩ => by omega
theorem air_next (G : Good (hz hs)) {s : Int} {L : List Int} (A : IsAir (hz hs) s L) : IsAir (hz hs) (s + 1) (isort (nextL L (hz hs s))) :=
  ⟨strict_isort (nextL_nodup G A.mem (pair_nodup A.srt)), fun b => by rw [mem_isort]; exact nextL_mem G A.mem b⟩
theorem air_nats (G : Good (hz hs)) {L : List Int} (A : IsAir (hz hs) 0 L) : ∀ s : Nat, ∃ M, IsAir (hz hs) s M
  | 0 => ⟨L, A⟩
  | s + 1 => by
    obtain ⟨M, hM⟩ := air_nats G A s
    exact ⟨_, air_next G hM⟩
theorem air_all (h0 : hs ≠ []) (G : Good (hz hs)) {L : List Int} (A : IsAir (hz hs) 0 L) (s : Int) : ∃ M, IsAir (hz hs) s M := by
  obtain ⟨i, k, hi, rfl⟩ := split_n h0 s
  obtain ⟨M, hM⟩ := air_nats G A i
  exact ⟨M, hM.srt, fun b => by rw [air_per]; exact hM.mem b⟩
/-- one landing each -/
theorem air_start (h0 : hs ≠ []) {b : Int} (nn : NN hs) : air (hz hs) 0 b ↔ 0 ≤ b ∧ ∃ (i : Nat) (t : Int), i < hs.length ∧ 1 ≤ t ∧ b = i + hs.getD i 0 - t * hs.length := by
  have hpos : 0 < hs.length := List.length_pos_iff.mpr h0
  unfold air
  constructor
  · rintro ⟨hb, j, hj, e⟩
    obtain ⟨i, k, hi, rfl⟩ := split_n h0 j
    rw [hz_add, hz_nat hi] at e
    refine ⟨hb, i, -k, hi, ?_, by rw [Int.neg_mul]; omega⟩
    by_cases q : 0 ≤ k
    · have := Int.mul_nonneg q (show (0 : Int) ≤ hs.length by omega)
      omega
    · omega
  · rintro ⟨hb, i, t, hi, ht, e⟩
    refine ⟨hb, i + (-t) * hs.length, ?_, ?_⟩
    · have : (1 : Int) * hs.length ≤ t * hs.length := Int.mul_le_mul_of_nonneg_right ht (by omega)
      rw [Int.neg_mul]
      omega
    · rw [hz_add, hz_nat hi, Int.neg_mul]
      omega
end
end TK

namespace TK
/-! ## the pattern of heights -/
def hThs (h : Int) : Th := if 0 < h then [(h, 0)] else []
def patOf (hs : List Int) : Pat := hs.map fun h => [hThs h]
structure OkH (hs : List Int) : Prop where
  ne : hs ≠ []
  len : hs.length < 1000
  nn : NN hs
  lt : ∀ x ∈ hs, x < 100000
section
variable {hs : List Int}
theorem OkH.pos (o : OkH hs) : 0 < hs.length := List.length_pos_iff.mpr o.ne
theorem patOf_len : (patOf hs).length = hs.length := by simp [patOf]
theorem patOf_ok (o : OkH hs) : OkP 1 (patOf hs) := by
  refine ⟨fun e => o.ne (by simpa [patOf] using e), by rw [patOf_len]; exact o.len, by decide, fun b hb => ?_⟩
  obtain ⟨h, hh, rfl⟩ := List.mem_map.mp hb
  refine ⟨rfl, fun th ht => ?_⟩
  simp at ht
  subst ht
  unfold hThs
  split
  · refine ⟨by simp, fun t ht => ?_⟩
    simp at ht
    subst ht
    exact ⟨by simp; omega, by simp; exact o.lt h hh, by simp, by simp⟩
  · exact ⟨by simp, fun t ht => by cases ht⟩
theorem mem_thr_patOf {x : Int × Int × Int} : x ∈ thrP (patOf hs) ↔ ∃ i : Nat, i < hs.length ∧ 0 < hs.getD i 0 ∧ x = ((i : Int), hs.getD i 0, 0) := by
  rw [mem_thrP]
  constructor
  · rintro ⟨i, b, e, th, h1, t, h2, rfl⟩
    unfold patOf at e
    rw [List.getElem?_map] at e
    cases eh : hs[i]? with
    | none => rw [eh] at e; cases e
    | some h =>
      rw [eh] at e
      cases e
      have hi : i < hs.length := (List.getElem?_eq_some_iff.mp eh).1
      simp at h1
      subst h1
      unfold hThs at h2
      split at h2
      · rename_i hp
        simp at h2
        subst h2
        have : hs.getD i 0 = h := by rw [List.getD_eq_getElem?_getD, eh]; rfl
        exact ⟨i, hi, by omega, by rw [this]⟩
      · cases h2
  · rintro ⟨i, hi, hp, rfl⟩
    refine ⟨i, [hThs hs[i]], by simp [patOf, hi], hThs hs[i], by simp, (hs[i], 0), ?_, ?_⟩
    · have : hs.getD i 0 = hs[i] := by simp [hi]
      unfold hThs
      rw [if_pos (by omega)]
      simp
    · simp [hi]
/-- the throws, one for each height that is not 0 -/
theorem thr_patOf : thrP (patOf hs) = (hs.zipIdx.filter fun p => decide (0 < p.1)).map fun p => ((p.2 : Int), p.1, 0) := by
  unfold thrP thrE patOf
  rw [List.zipIdx_map]
  generalize hs.zipIdx = E
  induction E with
  | nil => rfl
  | cons p E ih =>
    rw [List.map_cons, List.flatMap_cons, ih, List.filter_cons]
    simp only [thrB, hThs]
    by_cases h : 0 < p.1
    · simp [h]
    · simp [h]
theorem thr_nodup : (thrP (patOf hs)).Nodup := by
  rw [thr_patOf]
  have h1 : (hs.zipIdx.map (·.2)).Nodup := by
    rw [List.zipIdx_map_snd]
    exact List.nodup_range'
  have h2 : ((hs.zipIdx.filter fun p => decide (0 < p.1)).map (·.2)).Nodup := h1.sublist ((List.filter_sublist).map _)
  unfold List.Nodup at h2 ⊢
  rw [List.pairwise_map] at h2 ⊢
  exact h2.imp fun {a b} q e => q (by simp at e; omega)
theorem startT_air (o : OkH hs) {r k : Int} : (r, k) ∈ startT (patOf hs) ↔ k = 0 ∧ air (hz hs) 0 r := by
  rw [air_start o.ne o.nn]
  unfold startT startX backT
  have hpos := o.pos
  simp only [List.mem_flatMap, List.mem_map, mem_thr_patOf, patOf_len]
  constructor
  · rintro ⟨x, ⟨i, hi, hp, rfl⟩, b, hb, e⟩
    cases e
    have h2 : hs.getD i 0 * 1 ≤ hs.getD i 0 * hs.length := Int.mul_le_mul_of_nonneg_left (by omega) (by omega)
    rw [backF_mem _ _ _ _ (by simp only; rw [Int.toNat_of_nonneg (by omega)]; omega)] at hb
    obtain ⟨hb, t, e⟩ := hb
    refine ⟨rfl, hb, i, t + 1, hi, by omega, ?_⟩
    rw [e, Int.add_mul]
    simp only
    omega
  · rintro ⟨rfl, hb, i, t, hi, ht, e⟩
    have hn : 0 ≤ hs.getD i 0 := by
      have := hz_nn o.nn i
      rwa [hz_nat hi] at this
    have hp : 0 < hs.getD i 0 := by
      have : (1 : Int) * hs.length ≤ t * hs.length := Int.mul_le_mul_of_nonneg_right ht (by omega)
      omega
    have h2 : hs.getD i 0 * 1 ≤ hs.getD i 0 * hs.length := Int.mul_le_mul_of_nonneg_left (by omega) (by omega)
    refine ⟨((i : Int), hs.getD i 0, 0), ⟨i, hi, hp, rfl⟩, r, ?_, rfl⟩
    rw [backF_mem _ _ _ _ (by simp only; rw [Int.toNat_of_nonneg (by omega)]; omega)]
    refine ⟨hb, (t - 1).toNat, ?_⟩
    rw [Int.toNat_of_nonneg (by omega), Int.sub_mul]
    simp only
    omega
/-! ## even exactly if plain -/
theorem count_land (i : Nat) : landF (patOf hs) i 0 = ((thrP (patOf hs)).filter fun x => decide ((x.1 + x.2.1) % (hs.length : Int) = i)).length := by
  unfold landF cf landT
  rw [List.count_eq_countP, List.countP_map, List.countP_eq_length_filter, patOf_len]
  have : (thrP (patOf hs)).filter ((fun x => x == ((i : Int), ((0 : Nat) : Int))) ∘ fun x => ((x.1 + x.2.1) % (hs.length : Int), x.2.2)) = (thrP (patOf hs)).filter fun x => decide ((x.1 + x.2.1) % (hs.length : Int) = i) := List.filter_congr fun x hx => by
    obtain ⟨j, hj, hp, rfl⟩ := mem_thr_patOf.mp hx
    rw [Bool.eq_iff_iff]
    simp
  rw [this]
theorem unev_nil_iff {P : Pat} : unev P = [] ↔ ∀ (i : Nat) (b : List Th), P[i]? = some b → ∀ (k : Nat) (th : Th), b[k]? = some th → landF P i k = th.length := by
  unfold unev unevE unevB
  rw [List.flatMap_eq_nil_iff]
  simp only [Prod.forall, List.mem_zipIdx_iff_getElem?, List.filterMap_eq_nil_iff]
  constructor
  · intro h i b hb k th ht
    have := h b i hb th k ht
    split at this
    · assumption
    · cases this
  · intro h b i hb th k ht
    rw [if_pos (h i b hb k th ht)]
theorem unev_patOf (o : OkH hs) : unev (patOf hs) = [] ↔ PlainH hs := by
  have hpos := o.pos
  have key : unev (patOf hs) = [] ↔ ∀ i : Nat, i < hs.length → landF (patOf hs) i 0 = if 0 < hs.getD i 0 then 1 else 0 := by
    rw [unev_nil_iff]
    constructor
    · intro h i hi
      have := h i [hThs hs[i]] (by simp [patOf, hi]) 0 (hThs hs[i]) rfl
      rw [this]
      have e : hs.getD i 0 = hs[i] := by simp [hi]
      rw [e]
      unfold hThs
      split <;> rfl
    · intro h i b hb k th ht
      unfold patOf at hb
      rw [List.getElem?_map] at hb
      cases eh : hs[i]? with
      | none => rw [eh] at hb; cases hb
      | some x =>
        rw [eh] at hb
        cases hb
        have hi : i < hs.length := (List.getElem?_eq_some_iff.mp eh).1
        cases k with
        | succ k => simp at ht
        | zero =>
          simp at ht
          subst ht
          rw [h i hi]
          have e : hs.getD i 0 = x := by rw [List.getD_eq_getElem?_getD, eh]; rfl
          rw [e]
          unfold hThs
          split <;> rfl
  rw [key]
  constructor
  · -- who lands twice would be counted twice
    intro h i j hij hj e
    have hr1 := Int.emod_nonneg ((i : Int) + hs.getD i 0) (show (hs.length : Int) ≠ 0 by omega)
    have hr2 := Int.emod_lt_of_pos ((i : Int) + hs.getD i 0) (show (0 : Int) < hs.length by omega)
    have hr := h (((i : Int) + hs.getD i 0) % hs.length).toNat (by omega)
    rw [count_land, Int.toNat_of_nonneg hr1] at hr
    have ni : 0 ≤ hs.getD i 0 := by have := hz_nn o.nn i; rwa [hz_nat (by omega)] at this
    have nj : 0 ≤ hs.getD j 0 := by have := hz_nn o.nn j; rwa [hz_nat (by omega)] at this
    have two : ∀ a b : Int × Int × Int, a ∈ thrP (patOf hs) → b ∈ thrP (patOf hs) → a ≠ b → (a.1 + a.2.1) % (hs.length : Int) = ((i : Int) + hs.getD i 0) % hs.length → (b.1 + b.2.1) % (hs.length : Int) = ((i : Int) + hs.getD i 0) % hs.length → False := fun a b ha hb hab ea eb => by
      have nd := thr_nodup (hs := hs)
      have hl : 2 ≤ ((thrP (patOf hs)).filter fun x => decide ((x.1 + x.2.1) % (hs.length : Int) = ((i : Int) + hs.getD i 0) % hs.length)).length := by
        have hma : a ∈ (thrP (patOf hs)).filter fun x => decide ((x.1 + x.2.1) % (hs.length : Int) = ((i : Int) + hs.getD i 0) % hs.length) := List.mem_filter.mpr ⟨ha, by simpa using ea⟩
        have hmb : b ∈ (thrP (patOf hs)).filter fun x => decide ((x.1 + x.2.1) % (hs.length : Int) = ((i : Int) + hs.getD i 0) % hs.length) := List.mem_filter.mpr ⟨hb, by simpa using eb⟩
        generalize (thrP (patOf hs)).filter (fun x => decide ((x.1 + x.2.1) % (hs.length : Int) = ((i : Int) + hs.getD i 0) % hs.length)) = F at hma hmb
        rcases F with _ | ⟨c, _ | ⟨d, F⟩⟩
        · cases hma
        · simp at hma hmb
          exact absurd (hma.trans hmb.symm) hab
        · simp
      split at hr <;> omega
    -- one of them may be a height of 0: then the place itself throws none
    by_cases hi0 : hs.getD i 0 = 0
    · by_cases hj0 : hs.getD j 0 = 0
      · rw [hi0, hj0] at e
        rw [Int.add_zero, Int.add_zero, Int.emod_eq_of_lt (by omega) (by omega), Int.emod_eq_of_lt (by omega) (by omega)] at e
        omega
      · have e2 : ((i : Int) + hs.getD i 0) % (hs.length : Int) = i := by rw [hi0, Int.add_zero, Int.emod_eq_of_lt (by omega) (by omega)]
        rw [e2] at hr
        rw [Int.toNat_natCast, hi0, if_neg (by omega)] at hr
        have : ((j : Int), hs.getD j 0, (0 : Int)) ∈ (thrP (patOf hs)).filter fun x => decide ((x.1 + x.2.1) % (hs.length : Int) = i) := List.mem_filter.mpr ⟨mem_thr_patOf.mpr ⟨j, hj, by omega, rfl⟩, by simp only [decide_eq_true_eq]; omega⟩
        have := List.length_pos_of_mem this
        omega
    · by_cases hj0 : hs.getD j 0 = 0
      · have e2 : ((j : Int) + hs.getD j 0) % (hs.length : Int) = j := by rw [hj0, Int.add_zero, Int.emod_eq_of_lt (by omega) (by omega)]
        rw [e, e2] at hr
        rw [Int.toNat_natCast, hj0, if_neg (by omega)] at hr
        have : ((i : Int), hs.getD i 0, (0 : Int)) ∈ (thrP (patOf hs)).filter fun x => decide ((x.1 + x.2.1) % (hs.length : Int) = j) := List.mem_filter.mpr ⟨mem_thr_patOf.mpr ⟨i, by omega, by omega, rfl⟩, by simp only [decide_eq_true_eq]; omega⟩
        have := List.length_pos_of_mem this
        omega
      · exact two _ _ (mem_thr_patOf.mpr ⟨i, by omega, by omega, rfl⟩) (mem_thr_patOf.mpr ⟨j, hj, by omega, rfl⟩) (fun q => by simp at q; omega) rfl e.symm
  · intro hp i hi
    have G := good_of_plain o.ne o.nn hp
    rw [count_land]
    obtain ⟨j, ej⟩ := G.sur i
    obtain ⟨a, k, ha, rfl⟩ := split_n o.ne j
    rw [hz_add, hz_nat ha] at ej
    have uniq : ∀ b : Nat, b < hs.length → ((b : Int) + hs.getD b 0) % (hs.length : Int) = i → b = a := fun b hb e => by
      have e3 : ((b : Int) + hs.getD b 0) % (hs.length : Int) = ((a : Int) + hs.getD a 0) % hs.length := by
        rw [e, show (a : Int) + hs.getD a 0 = i + (-k) * hs.length by rw [Int.neg_mul]; omega, Int.add_mul_emod_self_right, Int.emod_eq_of_lt (by omega) (by omega)]
      by_cases q : b < a
      · exact absurd e3 (hp b a q ha)
      · by_cases q2 : a < b
        · exact absurd e3.symm (hp a b q2 hb)
        · omega
    have ea : ((a : Int) + hs.getD a 0) % (hs.length : Int) = i := by
      rw [show (a : Int) + hs.getD a 0 = i + (-k) * hs.length by rw [Int.neg_mul]; omega, Int.add_mul_emod_self_right, Int.emod_eq_of_lt (by omega) (by omega)]
    have na : 0 ≤ hs.getD a 0 := by have := hz_nn o.nn a; rwa [hz_nat ha] at this
    have ni : 0 ≤ hs.getD i 0 := by have := hz_nn o.nn i; rwa [hz_nat hi] at this
    by_cases hi0 : hs.getD i 0 = 0
    · have : i = a := uniq i hi (by rw [hi0, Int.add_zero, Int.emod_eq_of_lt (by omega) (by omega)])
      subst this
      rw [if_neg (by omega)]
      have : ((thrP (patOf hs)).filter fun x => decide ((x.1 + x.2.1) % (hs.length : Int) = i)) = [] := by
        rw [List.filter_eq_nil_iff]
        intro x hx
        obtain ⟨b, hb, hbp, rfl⟩ := mem_thr_patOf.mp hx
        simp only [decide_eq_true_eq]
        intro q
        have := uniq b hb q
        subst this
        omega
      rw [this]; rfl
    · rw [if_pos (by omega)]
      have ha0 : hs.getD a 0 ≠ 0 := fun q => by
        rw [q, Int.add_zero, Int.emod_eq_of_lt (by omega) (by omega)] at ea
        have : a = i := by omega
        subst this
        exact hi0 q
      have hm : ∀ x, x ∈ ((thrP (patOf hs)).filter fun x => decide ((x.1 + x.2.1) % (hs.length : Int) = i)) ↔ x = ((a : Int), hs.getD a 0, 0) := fun x => by
        rw [List.mem_filter, mem_thr_patOf]
        constructor
        · rintro ⟨⟨b, hb, hbp, rfl⟩, q⟩
          simp only [decide_eq_true_eq] at q
          rw [uniq b hb q]
        · rintro rfl
          exact ⟨⟨a, ha, by omega, rfl⟩, by simp only [decide_eq_true_eq]; exact ea⟩
      have nd : ((thrP (patOf hs)).filter fun x => decide ((x.1 + x.2.1) % (hs.length : Int) = i)).Nodup := thr_nodup.filter _
      have : ((thrP (patOf hs)).filter fun x => decide ((x.1 + x.2.1) % (hs.length : Int) = i)).Perm [((a : Int), hs.getD a 0, 0)] := (List.perm_ext_iff_of_nodup nd (by simp)).mpr fun x => by rw [hm x]; simp
      rw [this.length_eq]; rfl
end
end TK
namespace TK
/-! ## the cards of heights -/
open Classical in
/-- the beats at which something lands, s beats on -/
noncomputable def airL (hs : List Int) (s : Int) : List Int := if h : ∃ L, IsAir (hz hs) s L then Classical.choose h else []
theorem airL_of {hs : List Int} {s : Int} {L : List Int} (h : IsAir (hz hs) s L) : airL hs s = L := by
  unfold airL
  rw [dif_pos ⟨L, h⟩]
  exact (Classical.choose_spec (⟨L, h⟩ : ∃ L, IsAir (hz hs) s L)).uniq h
noncomputable def cardAt (hs : List Int) (s : Int) : Int := cardL (airL hs s) (hz hs s)
noncomputable def csOf (hs : List Int) : List Int := (List.range hs.length).map fun s : Nat => cardAt hs s
/-- heights that are plain, and all that follows -/
structure Pln (hs : List Int) : Prop where
  o : OkH hs
  p : PlainH hs
section
variable {hs : List Int}
theorem Pln.good (q : Pln hs) : Good (hz hs) := good_of_plain q.o.ne q.o.nn q.p
noncomputable def rows0 (hs : List Int) : List Int := isort ((startT (patOf hs)).map (·.1)).eraseDups
theorem rows0_air (o : OkH hs) : IsAir (hz hs) 0 (rows0 hs) := by
  refine ⟨strict_isort (nodup_eraseDups _), fun b => ?_⟩
  unfold rows0
  rw [mem_isort, List.mem_eraseDups, List.mem_map]
  constructor
  · rintro ⟨⟨r, k⟩, h, rfl⟩
    exact ((startT_air o).mp h).2
  · intro h
    exact ⟨(b, 0), (startT_air o).mpr ⟨rfl, h⟩, rfl⟩
theorem Pln.air (q : Pln hs) (s : Int) : IsAir (hz hs) s (airL hs s) := by
  obtain ⟨L, hL⟩ := air_all q.o.ne q.good (rows0_air q.o) s
  rw [airL_of hL]; exact hL
theorem airL_per (q : Pln hs) (s k : Int) : airL hs (s + k * hs.length) = airL hs s :=
  airL_of ⟨(q.air s).srt, fun b => by rw [air_per]; exact (q.air s).mem b⟩
theorem cardAt_per (q : Pln hs) (s k : Int) : cardAt hs (s + k * hs.length) = cardAt hs s := by
  unfold cardAt; rw [airL_per q, hz_add]
theorem length_csOf : (csOf hs).length = hs.length := by simp [csOf]
theorem hz_csOf (q : Pln hs) (s : Int) : hz (csOf hs) s = cardAt hs s := by
  obtain ⟨i, k, hi, rfl⟩ := split_n q.o.ne s
  rw [cardAt_per q, ← length_csOf, hz_add, hz_get (by rw [length_csOf]; exact hi)]
  simp [csOf]
theorem cardAt_nn (s : Int) : 0 ≤ cardAt hs s := by
  unfold cardAt cardL
  split
  · omega
  · have := cnt_nonneg (airL hs s) fun b => decide (0 < b) && decide (b < hz hs s)
    omega
theorem cardAt_pos (q : Pln hs) {s : Int} : 0 < cardAt hs s ↔ 0 < hz hs s := by
  have hn := hz_nn q.o.nn s
  unfold cardAt cardL
  have := cnt_nonneg (airL hs s) fun b => decide (0 < b) && decide (b < hz hs s)
  split <;> omega
theorem step_air (q : Pln hs) {s : Int} {X : List Int} (nd : X.Nodup) (h : ∀ b, b ∈ X ↔ (b ∈ airL hs s ∧ 0 < b) ∨ (b = hz hs s ∧ hz hs s ≠ 0)) : ((isort X).map fun b => b - 1) = airL hs (s + 1) := by
  symm
  apply airL_of
  refine ⟨?_, fun b => ?_⟩
  · rw [List.pairwise_map]
    exact (strict_isort nd).imp fun {a b} q => by omega
  · rw [air_succ, List.mem_map]
    have hn := hz_nn q.o.nn s
    constructor
    · rintro ⟨a, ha, rfl⟩
      rcases (h a).mp ((mem_isort _ _).mp ha) with ⟨h1, h2⟩ | ⟨h1, h2⟩
      · exact ⟨by omega, .inl (by rw [show a - 1 + 1 = a by omega]; exact ((q.air s).mem a).mp h1)⟩
      · exact ⟨by omega, .inr (by omega)⟩
    · rintro ⟨hb, h1 | h1⟩
      · exact ⟨b + 1, (mem_isort _ _).mpr ((h _).mpr (.inl ⟨((q.air s).mem _).mpr h1, by omega⟩)), by omega⟩
      · exact ⟨b + 1, (mem_isort _ _).mpr ((h _).mpr (.inr ⟨by omega, by omega⟩)), by omega⟩
theorem airL_nn (q : Pln hs) {s b : Int} (h : b ∈ airL hs s) : 0 ≤ b := (((q.air s).mem b).mp h).1
theorem airL_zero (q : Pln hs) {s : Int} : 0 ∈ airL hs s ↔ 0 < hz hs s := ((q.air s).mem 0).trans (air_zero q.good)
theorem airL_self (q : Pln hs) {s : Int} : hz hs s ∉ airL hs s := fun m => air_self q.good (((q.air s).mem _).mp m)
/-- the first of them lands now, if anything is thrown -/
theorem airL_cons (q : Pln hs) {s : Int} (h : 0 < hz hs s) : ∃ L, airL hs s = 0 :: L ∧ ∀ b ∈ L, 0 < b := by
  have h0 := (airL_zero q).mpr h
  have hsr := (q.air s).srt
  cases e : airL hs s with
  | nil => rw [e] at h0; cases h0
  | cons a L =>
    rw [e] at h0 hsr
    obtain ⟨h1, h2⟩ := List.pairwise_cons.mp hsr
    have ha : 0 ≤ a := airL_nn q (by rw [e]; simp)
    rcases List.mem_cons.mp h0 with z | z
    · subst z
      exact ⟨L, rfl, h1⟩
    · have := h1 0 z
      omega
theorem airL_next0 (q : Pln hs) {s : Int} (h : hz hs s = 0) : ((isort (airL hs s)).map fun b => b - 1) = airL hs (s + 1) := by
  refine step_air q (pair_nodup (q.air s).srt) fun b => ?_
  constructor
  · intro hb
    have h1 := airL_nn q hb
    by_cases z : b = 0
    · subst z
      have := (airL_zero q).mp hb
      omega
    · exact .inl ⟨hb, by omega⟩
  · rintro (⟨h1, _⟩ | ⟨_, h2⟩)
    · exact h1
    · exact absurd h h2
theorem airL_next1 (q : Pln hs) {s : Int} {L X : List Int} (h : 0 < hz hs s) (e : airL hs s = 0 :: L) (hL : ∀ b ∈ L, 0 < b) (hX : X.Perm (hz hs s :: L)) : ((isort X).map fun b => b - 1) = airL hs (s + 1) := by
  have nd := pair_nodup (q.air s).srt
  rw [e] at nd
  have hn := airL_self q (s := s)
  rw [e] at hn
  refine step_air q (hX.nodup_iff.mpr (List.nodup_cons.mpr ⟨fun m => hn (by simp [m]), (List.nodup_cons.mp nd).2⟩)) fun b => ?_
  rw [hX.mem_iff, e, List.mem_cons, List.mem_cons]
  constructor
  · rintro (h1 | h1)
    · exact .inr ⟨h1, by omega⟩
    · exact .inl ⟨.inr h1, hL b h1⟩
  · rintro (⟨rfl | h1, h2⟩ | ⟨h1, _⟩)
    · omega
    · exact .inr h1
    · exact .inl h1
theorem cardAt_one (q : Pln hs) {s : Int} {L : List Int} (h : 0 < hz hs s) (e : airL hs s = 0 :: L) (hL : ∀ b ∈ L, 0 < b) : cardAt hs s = 1 + ((L.filter fun b => decide (b < hz hs s)).length : Int) := by
  unfold cardAt cardL
  rw [if_neg (by omega), e]
  unfold cnt
  rw [List.filter_cons, if_neg (by simp)]
  congr 2
  have : L.filter (fun b => decide (0 < b) && decide (b < hz hs s)) = L.filter fun b => decide (b < hz hs s) := List.filter_congr fun b hb => by
    have := hL b hb
    simp [this]
  rw [this]
theorem csOf_take_succ {i : Nat} (hi : i < hs.length) : (csOf hs).take (i + 1) = (csOf hs).take i ++ [cardAt hs i] := by
  rw [List.take_succ_eq_append_getElem (by rw [length_csOf]; exact hi)]
  simp [csOf]
/-- back again: each card falls as high as its height -/
theorem falls_csOf (q : Pln hs) {t : Int} (h : 0 < hz hs t) : Falls (hz (csOf hs)) (hz hs t - 1).toNat (t + 1) (hz (csOf hs) t) :=
  falls_height q.good q.air (fun s => hz_csOf q s) h
end
end TK
namespace TK
theorem hz_lt {hs : List Int} (o : OkH hs) (j : Int) : hz hs j < 100000 := by
  obtain ⟨i, k, hi, rfl⟩ := split_n o.ne j
  rw [hz_add, hz_get hi]
  exact o.lt _ (List.getElem_mem hi)
theorem airL_len {hs : List Int} (q : Pln hs) (s : Int) : (airL hs s).length ≤ 100000 := by
  have := length_le_of_sub (l := airL hs s) (m := rangeI 0 100000) (pair_nodup (q.air s).srt) fun b hb => by
    obtain ⟨h1, j, hj, e⟩ := ((q.air s).mem b).mp hb
    have := hz_lt q.o j
    rw [mem_rangeI]
    omega
  simpa using this
end TK
namespace TK
/-! ## landings as the law draws them -/
def landsK (hs : List Int) (k m : Nat) : List Int := ((List.range m).map fun t : Nat => (k : Int) + hs.getD k 0 - (1 + (t : Int)) * hs.length).filter fun b => decide (0 < hs.getD k 0) && decide (0 ≤ b)
def turnsOf (hs : List Int) (k : Nat) : Nat := (hs.getD k 0 / (hs.length : Int) + 1).toNat
def landsL (hs : List Int) (i : Nat) : List Int := (List.range i).flatMap fun k => landsK hs k (turnsOf hs k)
theorem landsK_succ (hs : List Int) (k m : Nat) : landsK hs k (m + 1) = landsK hs k m ++ if 0 < hs.getD k 0 ∧ 0 ≤ (k : Int) + hs.getD k 0 - (1 + (m : Int)) * hs.length then [(k : Int) + hs.getD k 0 - (1 + (m : Int)) * hs.length] else [] := by
  unfold landsK
  rw [List.range_succ, List.map_append, List.filter_append]
  congr 1
  by_cases h : 0 < hs.getD k 0 ∧ 0 ≤ (k : Int) + hs.getD k 0 - (1 + (m : Int)) * hs.length
  · rw [if_pos h]
    rw [List.map_cons, List.map_nil, List.filter_cons, if_pos (by simp only [Bool.and_eq_true, decide_eq_true_eq]; exact h), List.filter_nil]
  · rw [if_neg h]
    rw [List.map_cons, List.map_nil, List.filter_cons, if_neg (by simp only [Bool.and_eq_true, decide_eq_true_eq]; exact h), List.filter_nil]
theorem landsL_succ (hs : List Int) (i : Nat) : landsL hs (i + 1) = landsL hs i ++ landsK hs i (turnsOf hs i) := by
  unfold landsL
  rw [List.range_succ, List.flatMap_append]
  simp
theorem mem_landsL (o : OkH hs) {b : Int} : b ∈ landsL hs hs.length ↔ air (hz hs) 0 b := by
  rw [air_start o.ne o.nn]
  have hpos := o.pos
  unfold landsL landsK
  simp only [List.mem_flatMap, List.mem_range, List.mem_filter, List.mem_map, Bool.and_eq_true, decide_eq_true_eq]
  constructor
  · rintro ⟨i, hi, ⟨t, ht, rfl⟩, h1, h2⟩
    exact ⟨h2, i, 1 + t, hi, by omega, rfl⟩
  · rintro ⟨hb, i, t, hi, ht, e⟩
    have hp : 0 < hs.getD i 0 := by
      have : (1 : Int) * hs.length ≤ t * hs.length := Int.mul_le_mul_of_nonneg_right ht (by omega)
      omega
    refine ⟨i, hi, ⟨(t - 1).toNat, ?_, ?_⟩, hp, hb⟩
    · unfold turnsOf
      have : t ≤ hs.getD i 0 / hs.length + 1 := by
        have h1 : t - 1 ≤ hs.getD i 0 / hs.length := by
          refine (Int.le_ediv_iff_mul_le (by omega)).mpr ?_
          rw [Int.sub_mul]
          omega
        omega
      omega
    · rw [show 1 + (((t - 1).toNat : Nat) : Int) = t by omega, e]
theorem nodup_landsL (q : Pln hs) : (landsL hs hs.length).Nodup := by
  have hpos := q.o.pos
  unfold landsL
  have key : ∀ i j : Nat, i < hs.length → j < hs.length → ∀ t u : Nat, (i : Int) + hs.getD i 0 - (1 + (t : Int)) * hs.length = (j : Int) + hs.getD j 0 - (1 + (u : Int)) * hs.length → i = j ∧ t = u := fun i j hi hj t u e => by
    have hij : i = j := by
      have e2 : ((i : Int) + hs.getD i 0) % (hs.length : Int) = ((j : Int) + hs.getD j 0) % hs.length := by
        rw [show (i : Int) + hs.getD i 0 = (j : Int) + hs.getD j 0 + ((t : Int) - u) * hs.length by rw [Int.sub_mul]; rw [Int.add_mul, Int.add_mul] at e; omega, Int.add_mul_emod_self_right]
      by_cases h : i < j
      · exact absurd e2 (q.p i j h hj)
      · by_cases h2 : j < i
        · exact absurd e2.symm (q.p j i h2 hi)
        · omega
    subst hij
    refine ⟨rfl, ?_⟩
    have e3 : (1 + (t : Int)) * hs.length = (1 + (u : Int)) * hs.length := by omega
    have := Int.eq_of_mul_eq_mul_right (show (hs.length : Int) ≠ 0 by omega) e3
    omega
  unfold List.Nodup
  rw [List.pairwise_flatMap]
  refine ⟨fun i hi => ?_, ?_⟩
  · have hi := List.mem_range.mp hi
    unfold landsK
    refine List.Pairwise.filter _ ?_
    rw [List.pairwise_map]
    exact (List.nodup_range).imp fun {t u} h e => h (key i i hi hi t u e).2
  · refine (List.pairwise_lt_range).imp_of_mem fun {i j} hi hj hij x hx y hy e => ?_
    have hi := List.mem_range.mp hi
    have hj := List.mem_range.mp hj
    unfold landsK at hx hy
    obtain ⟨t, _, rfl⟩ := List.mem_map.mp (List.mem_filter.mp hx).1
    obtain ⟨u, _, rfl⟩ := List.mem_map.mp (List.mem_filter.mp hy).1
    have := (key i j hi hj t u e).1
    omega
theorem isort_landsL (q : Pln hs) : isort (landsL hs hs.length) = airL hs 0 := by
  symm
  exact airL_of ⟨strict_isort (nodup_landsL q), fun b => by rw [mem_isort]; exact mem_landsL q.o⟩
/-- the law's way from beat to beat -/
theorem lawL_next (q : Pln hs) {s : Int} {M : List Int} (hM : M.Perm (airL hs s)) : (nextL M (hz hs s)).Perm (airL hs (s + 1)) := by
  have nd := hM.nodup_iff.mpr (pair_nodup (q.air s).srt)
  have mm : ∀ b, b ∈ M ↔ air (hz hs) s b := fun b => (hM.mem_iff).trans ((q.air s).mem b)
  refine perm_of_mem (nextL_nodup q.good mm nd) (pair_nodup (q.air (s + 1)).srt) fun b => ?_
  rw [nextL_mem q.good mm, (q.air (s + 1)).mem]
theorem lawL_card (q : Pln hs) {s : Int} {M : List Int} (hM : M.Perm (airL hs s)) (h : 0 < hz hs s) : ((((M.filter fun b => decide (0 < b)) ++ [hz hs s]).filter fun b => decide (b ≤ hz hs s)).length : Int) = cardAt hs s := by
  unfold cardAt cardL
  rw [if_neg (by omega), ← cnt_perm hM]
  unfold cnt
  rw [List.filter_append, List.length_append, List.filter_filter]
  have e1 : M.filter (fun a => decide (a ≤ hz hs s) && decide (0 < a)) = M.filter fun b => decide (0 < b) && decide (b < hz hs s) := List.filter_congr fun b hb => by
    have h2 : b ≠ hz hs s := fun e => airL_self q (s := s) (hM.mem_iff.mp (e ▸ hb))
    rw [Bool.eq_iff_iff]
    simp
    omega
  rw [e1]
  simp
  omega
theorem lawL_zero (q : Pln hs) {s : Int} {M : List Int} (hM : M.Perm (airL hs s)) (h : hz hs s = 0) : M.map (fun b => b - 1) = nextL M (hz hs s) := by
  unfold nextL
  rw [if_pos h, List.append_nil]
  congr 1
  symm
  rw [List.filter_eq_self]
  intro b hb
  have h1 := airL_nn q (hM.mem_iff.mp hb)
  have h2 : b ≠ 0 := fun e => by
    have := (airL_zero q).mp (hM.mem_iff.mp (e ▸ hb))
    omega
  simp
  omega
end TK

namespace TK
/-! ## as many in the air at each beat; the sum of the heights -/
section
variable {hs : List Int}
theorem next_perm (q : Pln hs) (s : Int) : (nextL (airL hs s) (hz hs s)).Perm (airL hs (s + 1)) := lawL_next q (.refl _)
theorem sum_map_sub (L : List Int) : (L.map fun b => b - 1).sum = L.sum - L.length := by
  induction L with
  | nil => rfl
  | cons a L ih => rw [List.map_cons, List.sum_cons, ih, List.sum_cons, List.length_cons]; omega
theorem sum_perm {L M : List Int} (p : L.Perm M) : L.sum = M.sum := by
  induction p with
  | nil => rfl
  | cons a _ ih => rw [List.sum_cons, List.sum_cons, ih]
  | swap a b L => rw [List.sum_cons, List.sum_cons, List.sum_cons, List.sum_cons]; omega
  | trans _ _ h1 h2 => exact h1.trans h2
theorem next_both (q : Pln hs) (s : Int) : (airL hs (s + 1)).length = (airL hs s).length ∧ (airL hs (s + 1)).sum = (airL hs s).sum - (airL hs s).length + hz hs s := by
  have p := next_perm q s
  rw [← p.length_eq, ← sum_perm p]
  have hn := hz_nn q.o.nn s
  by_cases h0 : hz hs s = 0
  · have e := lawL_zero q (M := airL hs s) (.refl _) h0
    rw [← e, sum_map_sub, h0]
    simp
  · obtain ⟨L, eL, hL⟩ := airL_cons q (s := s) (by omega)
    unfold nextL
    rw [eL, if_neg h0, List.filter_cons, if_neg (by simp)]
    have : L.filter (fun b => decide (0 < b)) = L := List.filter_eq_self.mpr fun b hb => by simpa using hL b hb
    rw [this, sum_map_sub]
    simp
    omega
theorem air_len (q : Pln hs) : ∀ s : Nat, (airL hs s).length = (airL hs 0).length
  | 0 => rfl
  | s + 1 => by
    have := (next_both q s).1
    rw [← air_len q s, ← this]
    rfl
theorem air_sum (q : Pln hs) : ∀ s : Nat, s ≤ hs.length → (airL hs s).sum = (airL hs 0).sum - s * (airL hs 0).length + (hs.take s).sum
  | 0, _ => by simp
  | s + 1, h => by
    have e := (next_both q s).2
    rw [air_sum q s (by omega), air_len q s] at e
    rw [show ((s + 1 : Nat) : Int) = (s : Int) + 1 by omega, e, List.take_succ_eq_append_getElem (by omega), List.sum_append, hz_get (by omega), Int.add_mul]
    simp
    omega
theorem sum_things (q : Pln hs) : hs.sum = hs.length * (airL hs 0).length := by
  have e := air_sum q hs.length (Nat.le_refl _)
  rw [List.take_length] at e
  have := airL_per q 0 1
  rw [Int.one_mul, Int.zero_add] at this
  rw [this] at e
  omega
/-! ## turned -/
theorem length_once : (once hs).length = hs.length := length_rot hs 1
theorem hz_once (h0 : hs ≠ []) (j : Int) : hz (once hs) j = hz hs (j + 1) := by
  have hpos : 0 < hs.length := List.length_pos_iff.mpr h0
  have h1 : once hs ≠ [] := fun e => by have := length_once (hs := hs); rw [e] at this; simp at this; omega
  obtain ⟨i, k, hi, rfl⟩ := split_n h0 j
  have e1 : hz (once hs) (i + k * hs.length) = hz (once hs) i := by
    have := hz_add (hs := once hs) i k
    rwa [length_once] at this
  rw [e1, show (i : Int) + k * hs.length + 1 = (i : Int) + 1 + k * hs.length by omega, hz_add, hz_nat (by rw [length_once]; exact hi)]
  by_cases hl : i + 1 < hs.length
  · rw [once_getD hl, ← hz_nat hl]; rfl
  · rw [once_last (by omega)]
    have : (i : Int) + 1 = ((0 : Nat) : Int) + 1 * hs.length := by omega
    rw [this, hz_add, hz_nat hpos]
theorem once_mem {x : Int} : x ∈ once hs ↔ x ∈ hs := by
  unfold once rot
  rw [List.mem_append, or_comm, ← List.mem_append, List.take_append_drop]
theorem Pln.once (q : Pln hs) : Pln (once hs) := by
  refine ⟨⟨fun e => q.o.ne ?_, by rw [length_once]; exact q.o.len, fun x hx => q.o.nn x (once_mem.mp hx), fun x hx => q.o.lt x (once_mem.mp hx)⟩, plain_once q.p⟩
  have := length_once (hs := hs)
  rw [e] at this
  exact List.length_eq_zero_iff.mp this.symm
theorem air_once (h0 : hs ≠ []) {s b : Int} : air (hz (TK.once hs)) s b ↔ air (hz hs) (s + 1) b := by
  unfold air
  constructor
  · rintro ⟨hb, j, hj, e⟩
    rw [hz_once h0] at e
    exact ⟨hb, j + 1, by omega, by omega⟩
  · rintro ⟨hb, j, hj, e⟩
    refine ⟨hb, j - 1, by omega, ?_⟩
    rw [hz_once h0, show j - 1 + 1 = j by omega]
    omega
theorem cardAt_once (q : Pln hs) (s : Int) : cardAt (TK.once hs) s = cardAt hs (s + 1) := by
  unfold cardAt
  have : airL (TK.once hs) s = airL hs (s + 1) := airL_of ⟨(q.air (s + 1)).srt, fun b => by rw [(q.air (s + 1)).mem]; exact (air_once q.o.ne).symm⟩
  rw [this, hz_once q.o.ne]
theorem list_hz {a b : List Int} (hl : a.length = b.length) (h : ∀ i : Nat, i < a.length → hz a i = hz b i) : a = b := by
  apply List.ext_getElem hl
  intro i h1 h2
  have := h i h1
  rwa [hz_get h1, hz_get h2] at this
theorem csOf_ne (q : Pln hs) : csOf hs ≠ [] := fun e => q.o.ne (by
  have := length_csOf (hs := hs)
  rw [e] at this
  exact List.length_eq_zero_iff.mp this.symm)
theorem csOf_once (q : Pln hs) : csOf (TK.once hs) = TK.once (csOf hs) := by
  refine list_hz (by rw [length_csOf, length_once, length_once, length_csOf]) fun i _ => ?_
  rw [hz_csOf q.once, hz_once (csOf_ne q), hz_csOf q, cardAt_once q]
end
/-! ## cards, whatever they are -/
structure OkC (cs : List Int) (m : Int) : Prop where
  ne : cs ≠ []
  len : cs.length < 1000
  nn : NN cs
  le : ∀ x ∈ cs, x ≤ m
  mem : m ∈ cs
  lt : cs.length * m < 100000
section
variable {cs : List Int} {m : Int}
theorem OkC.m0 (k : OkC cs m) : 0 ≤ m := k.nn m k.mem
theorem OkC.cds (k : OkC cs m) : Cds (hz cs) cs.length m := by
  have hpos : 0 < cs.length := List.length_pos_iff.mpr k.ne
  refine ⟨by omega, hz_nn k.nn, fun s => ?_, fun s => ?_, ?_⟩
  · have := hz_add (hs := cs) s 1
    rwa [Int.one_mul] at this
  · obtain ⟨i, j, hi, rfl⟩ := split_n k.ne s
    rw [hz_add, hz_get hi]
    exact k.le _ (List.getElem_mem hi)
  · obtain ⟨i, hi, e⟩ := List.getElem_of_mem k.mem
    exact ⟨i, by rw [hz_get hi, e]⟩
noncomputable def hsOf (cs : List Int) : List Int := (List.range cs.length).map fun i : Nat => hOf (hz cs) i
theorem length_hsOf : (hsOf cs).length = cs.length := by simp [hsOf]
theorem hz_hsOf (k : OkC cs m) : hz (hsOf cs) = hOf (hz cs) := by
  funext s
  obtain ⟨i, j, hi, rfl⟩ := split_n k.ne s
  rw [hOf_per k.cds, ← length_hsOf, hz_add, hz_get (by rw [length_hsOf]; exact hi)]
  simp [hsOf]
theorem hsOf_pln (k : OkC cs m) : Pln (hsOf cs) := by
  have hne : hsOf cs ≠ [] := fun e => k.ne (by
    have := length_hsOf (cs := cs)
    rw [e] at this
    exact List.length_eq_zero_iff.mp this.symm)
  refine ⟨⟨hne, by rw [length_hsOf]; exact k.len, fun x hx => ?_, fun x hx => ?_⟩, plain_of_good hne (by rw [hz_hsOf k]; exact hOf_good k.cds)⟩
  · obtain ⟨i, _, rfl⟩ := List.mem_map.mp hx
    exact hOf_nn _
  · obtain ⟨i, _, rfl⟩ := List.mem_map.mp hx
    have := hOf_lt k.cds i
    have := k.lt
    omega
theorem airL_hsOf (k : OkC cs m) (s : Int) : airL (hsOf cs) s = plL (hz cs) m s := airL_of (by
  have := plL_air k.cds s
  rwa [← hz_hsOf k] at this)
theorem csOf_hsOf (k : OkC cs m) : csOf (hsOf cs) = cs := by
  refine list_hz (by rw [length_csOf, length_hsOf]) fun i _ => ?_
  rw [hz_csOf (hsOf_pln k)]
  unfold cardAt
  rw [airL_hsOf k, hz_hsOf k]
  exact (plL_card k.cds i).symm
theorem hsOf_falls (k : OkC cs m) (i : Nat) (hi : i < cs.length) : (hz cs i ≤ 0 ∧ hz (hsOf cs) i = 0) ∨ (0 < hz cs i ∧ 1 ≤ hz (hsOf cs) i ∧ Falls (hz cs) (hz (hsOf cs) i - 1).toNat ((i : Int) + 1) (hz cs i)) := by
  rw [hz_hsOf k]
  have hn := k.cds.nn i
  by_cases h : hz cs i = 0
  · left; simp [hOf, h]
  · right
    have f := fallT_ok k.cds (s := (i : Int) + 1) (p := hz cs i) (by omega) (k.cds.le i)
    have e : hOf (hz cs) i = 1 + fallT (hz cs) ((i : Int) + 1) (hz cs i) := by simp [hOf, h]
    refine ⟨by omega, by omega, ?_⟩
    rw [show (hOf (hz cs) i - 1).toNat = fallT (hz cs) ((i : Int) + 1) (hz cs i) by omega]
    exact f
theorem hsOf_sum (k : OkC cs m) : (hsOf cs).sum = cs.length * m := by
  rw [sum_things (hsOf_pln k), length_hsOf, airL_hsOf k, plL_len]
  have := k.m0
  rw [Int.toNat_of_nonneg this]
end
end TK

namespace TK
/-! ## the number of things of a start -/
def sTab (L H : Nat) (f : Nat → Nat → Int) : Int := ((tab L H f).map List.sum).sum
theorem sum_map_add {α : Type} (f g : α → Int) : ∀ l : List α, (l.map fun x => f x + g x).sum = (l.map f).sum + (l.map g).sum
  | [] => rfl
  | x :: l => by simp only [List.map_cons, List.sum_cons, sum_map_add f g l]; omega
theorem sum_map_mul {α : Type} (c : Int) (f : α → Int) : ∀ l : List α, (l.map fun x => c * f x).sum = c * (l.map f).sum
  | [] => by simp
  | x :: l => by simp only [List.map_cons, List.sum_cons, sum_map_mul c f l, Int.mul_add]
theorem sum_map_zero {α : Type} : ∀ l : List α, (l.map fun _ => (0 : Int)).sum = 0
  | [] => rfl
  | _ :: l => by simp [sum_map_zero l]
theorem sum_flat {α β : Type} (f : α → List β) (g : β → Int) : ∀ l : List α, ((l.flatMap f).map g).sum = (l.map fun x => ((f x).map g).sum).sum
  | [] => rfl
  | x :: l => by simp only [List.flatMap_cons, List.map_append, List.sum_append, List.map_cons, List.sum_cons, sum_flat f g l]
theorem sTab_eq (L H : Nat) (f : Nat → Nat → Int) : sTab L H f = ((List.range L).map fun r => ((List.range H).map fun k => f r k).sum).sum := by
  unfold sTab tab
  rw [List.map_map]
  rfl
theorem sTab_add (L H : Nat) (f g : Nat → Nat → Int) : sTab L H (fun r k => f r k + g r k) = sTab L H f + sTab L H g := by
  simp only [sTab_eq, sum_map_add]
theorem sTab_zero (L H : Nat) : sTab L H (fun _ _ => 0) = 0 := by
  simp only [sTab_eq, sum_map_zero]
theorem sum_pick {c : Int} {a : Nat} : ∀ n : Nat, a < n → ((List.range n).map fun k => if k = a then c else 0).sum = c
  | 0, h => absurd h (Nat.not_lt_zero _)
  | n + 1, h => by
    rw [List.range_succ, List.map_append, List.sum_append]
    by_cases e : a = n
    · subst e
      have : ((List.range a).map fun k => if k = a then c else 0) = (List.range a).map fun _ => (0 : Int) := List.map_congr_left fun k hk => by
        have := List.mem_range.mp hk
        rw [if_neg (by omega)]
      rw [this, sum_map_zero]
      simp
    · rw [sum_pick n (by omega)]
      simp
      omega
theorem sTab_one {L H a b : Nat} {c : Int} (ha : a < L) (hb : b < H) : sTab L H (fun r k => if r = a ∧ k = b then c else 0) = c := by
  rw [sTab_eq]
  have : ((List.range L).map fun r => ((List.range H).map fun k => if r = a ∧ k = b then c else 0).sum) = (List.range L).map fun r => if r = a then c else 0 := List.map_congr_left fun r hr => by
    by_cases e : r = a
    · subst e
      simp only [true_and, if_true]
      exact sum_pick H hb
    · simp only [e, false_and, if_false]
      exact sum_map_zero _
  rw [this]
  exact sum_pick L ha
theorem sTab_congr {L H : Nat} {f g : Nat → Nat → Int} (h : ∀ r k, r < L → k < H → f r k = g r k) : sTab L H f = sTab L H g := by
  unfold sTab
  rw [tab_congr h]
/-- weighed things -/
theorem sTab_things {L H : Nat} (w : Nat → Int) : ∀ {T : Th}, InH H T → (∀ t ∈ T, t.1 < L) → sTab L H (fun r k => w r * cf T r k) = (T.map fun t => w t.1.toNat).sum
  | [], _, _ => by simp [cf_nil, sTab_zero]
  | t :: T, h, hl => by
    obtain ⟨a, b⟩ := t
    obtain ⟨h1, h2, h3⟩ := h (a, b) (by simp)
    have h4 := hl _ (List.mem_cons_self (a := (a, b)) (l := T))
    dsimp only at h1 h2 h3 h4
    have e : ∀ r k : Nat, w r * cf ((a, b) :: T) r k = (if r = a.toNat ∧ k = b.toNat then w a.toNat else 0) + w r * cf T r k := fun r k => by
      have := cf_app [(a, b)] T r k
      rw [List.singleton_append] at this
      rw [this, Int.mul_add]
      congr 1
      have := cf_one a.toNat b.toNat r k
      rw [Int.toNat_of_nonneg h1, Int.toNat_of_nonneg h2] at this
      rw [this]
      by_cases q : r = a.toNat ∧ k = b.toNat
      · rw [if_pos q, if_pos q, q.1]; omega
      · rw [if_neg q, if_neg q]; omega
    rw [show (fun r k => w r * cf ((a, b) :: T) r k) = fun r k => (if r = a.toNat ∧ k = b.toNat then w a.toNat else 0) + w r * cf T r k from funext fun r => funext fun k => e r k, sTab_add, sTab_one (by omega) (by omega),
      sTab_things w (fun t ht => h t (by simp [ht])) (fun t ht => hl t (by simp [ht]))]
    simp
/-- the things of a state, counted -/
theorem count_things {T : Th} {H : Nat} (h : InH H T) : ((stOf T H).map List.sum).sum = T.length := by
  have := sTab_things (L := ext T) (fun _ => 1) h (fun t ht => lt_ext ht)
  simp only [Int.one_mul] at this
  have e : ((T.map fun _ => (1 : Int)).sum) = T.length := by
    clear this h
    induction T with
    | nil => rfl
    | cons t T ih => simp [ih]; omega
  rw [e] at this
  exact this
theorem backF_len {n : Nat} (hn : 0 < n) : ∀ (f : Nat) (r : Int), -(n : Int) ≤ r → r < f * n → ((backF n f r).length : Int) = (r + n) / n
  | 0, r, h1, h2 => by
    have : r < 0 := by simpa using h2
    have : (r + n) / (n : Int) = 0 := Int.ediv_eq_zero_of_lt (by omega) (by omega)
    rw [this]
    rfl
  | f + 1, r, h1, h2 => by
    rw [backF]
    split
    · rename_i h
      rw [List.length_cons]
      have e := backF_len hn f (r - n) (by omega) (by rw [Int.natCast_add, Int.add_mul] at h2; simp at h2; omega)
      rw [Int.natCast_add, e]
      have e1 : r - n + n = r := by omega
      have e2 : (r + n) / (n : Int) = r / n + 1 := by
        have := Int.add_mul_ediv_right r 1 (show (n : Int) ≠ 0 by omega)
        simpa using this
      rw [e1, e2]
      rfl
    · rename_i h
      have : (r + n) / (n : Int) = 0 := Int.ediv_eq_zero_of_lt (by omega) (by omega)
      rw [this]
      rfl
theorem thr_ok {H : Nat} {P : Pat} (h : OkP H P) {x : Int × Int × Int} (hx : x ∈ thrP P) : 0 ≤ x.1 ∧ x.1 < P.length ∧ 1 ≤ x.2.1 := by
  obtain ⟨i, b, e, th, h1, u, h2, rfl⟩ := mem_thrP.mp hx
  have hi := (List.getElem?_eq_some_iff.mp e).1
  have hk := ((h.ok b (List.mem_of_getElem? e)).ok th h1).2 u h2
  exact ⟨by simp, by simpa using hi, hk.h1⟩
theorem unev_nil {P : Pat} (hu : unev P = []) {i : Nat} {b : List Th} (hb : P[i]? = some b) {k : Nat} {th : Th} (ht : b[k]? = some th) : landF P i k = th.length := by
  unfold unev unevE at hu
  rw [List.flatMap_eq_nil_iff] at hu
  have := hu (b, i) (List.mem_zipIdx_iff_getElem?.mpr hb)
  unfold unevB at this
  rw [List.filterMap_eq_nil_iff] at this
  have := this (th, k) (List.mem_zipIdx_iff_getElem?.mpr ht)
  dsimp only at this
  split at this
  · assumption
  · cases this
/-- as much lands at each beat as is thrown -/
theorem even_sum {H : Nat} {P : Pat} (h : OkP H P) (hu : unev P = []) : ((thrP P).map fun x => (x.1 + x.2.1) % (P.length : Int)).sum = ((thrP P).map fun x => x.1).sum := by
  have hL : ((thrP P).map fun x => (x.1 + x.2.1) % (P.length : Int)).sum = sTab P.length H (fun r k => (r : Int) * landF P r k) := by
    have hpos : P.length ≠ 0 := fun q => h.ne (List.length_eq_zero_iff.mp q)
    have hin := landT_inH h
    have e := sTab_things (L := P.length) (fun r => (r : Int)) hin (fun t ht => by
      obtain ⟨x, hx, rfl⟩ := List.mem_map.mp ht
      exact Int.emod_lt_of_pos _ (by omega))
    unfold landF
    rw [e]
    unfold landT
    rw [List.map_map]
    refine congrArg List.sum (List.map_congr_left fun x hx => ?_)
    have := Int.emod_nonneg (x.1 + x.2.1) (show (P.length : Int) ≠ 0 by omega)
    show _ = (((x.1 + x.2.1) % (P.length : Int)).toNat : Int)
    omega
  rw [hL, sTab_eq]
  have hR : ((thrP P).map fun x => x.1).sum = (P.zipIdx.map fun p => ((p.2 : Int)) * (p.1.map fun th => (th.length : Int)).sum).sum := by
    unfold thrP thrE
    rw [sum_flat]
    refine congrArg List.sum (List.map_congr_left fun p hp => ?_)
    unfold thrB
    rw [sum_flat, ← sum_map_mul]
    refine congrArg List.sum (List.map_congr_left fun th _ => ?_)
    rw [List.map_map]
    rename_i hth
    clear hp hth
    induction th with
    | nil => simp
    | cons t th ih =>
      rw [List.map_cons, List.sum_cons, ih]
      simp only [Function.comp_def, List.length_cons, Int.natCast_add, Int.mul_add]
      omega
  rw [hR]
  refine congrArg List.sum (List.ext_getElem (by simp) fun i h1 h2 => ?_)
  simp only [List.getElem_map, List.getElem_range, List.getElem_zipIdx, Nat.zero_add]
  have hi : i < P.length := by simpa using h1
  have hb : P[i]? = some P[i] := List.getElem?_eq_getElem hi
  have hl := (h.ok _ (List.getElem_mem hi)).len
  rw [sum_map_mul]
  congr 2
  refine List.ext_getElem (by simp [hl]) fun k h3 h4 => ?_
  simp only [List.getElem_map, List.getElem_range]
  have hk : k < (P[i]).length := by simpa using h4
  exact unev_nil hu hb (List.getElem?_eq_getElem hk)
/-- the things of the start of an even pattern: the sum of the heights, divided by the number of beats -/
theorem start_len {H : Nat} {P : Pat} (h : OkP H P) (hu : unev P = []) : (P.length : Int) * (startT P).length = ((thrP P).map fun x => x.2.1).sum := by
  have hpos : 0 < P.length := Nat.pos_of_ne_zero fun q => h.ne (List.length_eq_zero_iff.mp q)
  have hlen : ((startT P).length : Int) = ((thrP P).map fun x => (x.1 + x.2.1) / (P.length : Int)).sum := by
    unfold startT startX
    have gen : ∀ X : List (Int × Int × Int), (∀ x ∈ X, 0 ≤ x.1 ∧ x.1 < P.length ∧ 1 ≤ x.2.1) → ((X.flatMap (backT P.length)).length : Int) = (X.map fun x => (x.1 + x.2.1) / (P.length : Int)).sum := by
      intro X
      induction X with
      | nil => intro _; rfl
      | cons x X ih =>
        intro hX
        obtain ⟨a0, a1, a2⟩ := hX x (by simp)
        rw [List.flatMap_cons, List.length_append, Int.natCast_add, ih (fun y hy => hX y (by simp [hy])), List.map_cons, List.sum_cons]
        congr 1
        unfold backT
        rw [List.length_map, backF_len hpos _ _ (by omega) ?_]
        · congr 1; omega
        · have : x.2.1 * 1 ≤ x.2.1 * (P.length : Int) := Int.mul_le_mul_of_nonneg_left (by omega) (by omega)
          rw [Int.toNat_of_nonneg (by omega)]
          omega
    exact gen _ fun x hx => thr_ok h hx
  rw [hlen, ← sum_map_mul]
  have e1 := even_sum h hu
  have e2 : ((thrP P).map fun x => (P.length : Int) * ((x.1 + x.2.1) / (P.length : Int)) + (x.1 + x.2.1) % (P.length : Int)).sum = ((thrP P).map fun x => x.1 + x.2.1).sum := congrArg List.sum (List.map_congr_left fun x _ => Int.mul_ediv_add_emod _ _)
  rw [sum_map_add, sum_map_add, e1] at e2
  rw [show (thrP P).map Prod.fst = (thrP P).map (fun x => x.1) from rfl] at e2
  omega
theorem thrP_patOf_sum (hs : List Int) (nn : NN hs) : ((thrP (patOf hs)).map fun x => x.2.1).sum = hs.sum := by
  unfold thrP thrE patOf
  rw [sum_flat, List.zipIdx_map, List.map_map]
  have : ((hs.zipIdx).map ((fun x : List Th × Nat => ((thrB x.2 x.1).map fun x => x.2.1).sum) ∘ Prod.map (fun h => [hThs h]) id)) = hs.zipIdx.map (·.1) := by
    refine List.map_congr_left fun p hp => ?_
    have hm : p.1 ∈ hs := by
      obtain ⟨h, i⟩ := p
      exact List.mem_of_getElem? (List.mem_zipIdx_iff_getElem?.mp hp)
    have := nn _ hm
    simp only [Function.comp_def, Prod.map, id]
    unfold thrB hThs
    split
    · simp
    · simp; omega
  rw [this]
  congr 1
  apply List.ext_getElem (by simp)
  intro i h1 h2
  simp
end TK
namespace TK
theorem start_lt {H : Nat} {P : Pat} (h : OkP H P) : ∀ t ∈ startT P, t.1 < 100000 := fun t ht => by
  obtain ⟨x, hx, hb⟩ := List.mem_flatMap.mp ht
  obtain ⟨r, hr, rfl⟩ := List.mem_map.mp hb
  obtain ⟨i, b, e, th, h1, u, h2, rfl⟩ := mem_thrP.mp hx
  have hk := ((h.ok b (List.mem_of_getElem? e)).ok th h1).2 u h2
  have hi := (List.getElem?_eq_some_iff.mp e).1
  have k1 := hk.h1
  have k2 := hk.h2
  have hm := (backF_mem P.length _ _ _ (by
    have : u.1 * 1 ≤ u.1 * (P.length : Int) := Int.mul_le_mul_of_nonneg_left (by omega) (by omega)
    show ((i : Int) + u.1 - P.length) < (u.1.toNat : Int) * P.length
    rw [Int.toNat_of_nonneg (by omega)]
    omega)).mp hr
  obtain ⟨h0, q, rfl⟩ := hm
  have : 0 ≤ (q : Int) * (P.length : Int) := Int.mul_nonneg (by omega) (by omega)
  show (i : Int) + u.1 - P.length - q * P.length < 100000
  omega
end TK

namespace TK
/-! ## the start of an even pattern runs, and comes back -/
theorem ite_iff {p q : Prop} [Decidable p] [Decidable q] {a b : Int} (h : p ↔ q) : (if p then a else b) = if q then a else b := by
  by_cases hp : p
  · rw [if_pos hp, if_pos (h.mp hp)]
  · rw [if_neg hp, if_neg fun z => hp (h.mpr z)]
theorem cf_sum (T : Th) (r k : Nat) : cf T r k = (T.map fun t => if t = ((r : Int), (k : Int)) then (1 : Int) else 0).sum := by
  induction T with
  | nil => rfl
  | cons t T ih =>
    have := cf_app [t] T r k
    rw [List.singleton_append] at this
    rw [this, ih, List.map_cons, List.sum_cons]
    congr 1
    unfold cf
    rw [List.count_singleton]
    by_cases h : t = ((r : Int), (k : Int))
    · simp [h]
    · rw [if_neg h, if_neg (by simpa using h)]
      rfl
/-- copies of a throw that are in the air at the index j and land in k at the beat r -/
def cpyX (n : Nat) (j r k : Int) (x : Int × Int × Int) : Int := if x.2.2 = k ∧ r < x.2.1 ∧ (x.1 + x.2.1 - j - r) % (n : Int) = 0 then 1 else 0
def cpy (P : Pat) (j r k : Int) : Int := ((thrP P).map (cpyX P.length j r k)).sum
/-- T is what is in the air at the index j -/
def AtJ (P : Pat) (j : Int) (T : Th) : Prop := ∀ r k : Nat, cf T r k = cpy P j r k
theorem sum_congr {α : Type} {f g : α → Int} {l : List α} (h : ∀ x ∈ l, f x = g x) : (l.map f).sum = (l.map g).sum := congrArg List.sum (List.map_congr_left h)
theorem backF_one {n : Nat} (hn : 0 < n) (b : Int) : ∀ (f : Nat) (r : Int), (((backF n f r).map fun c => if c = b then (1 : Int) else 0).sum = if b ∈ backF n f r then 1 else 0)
  | 0, r => by simp [backF]
  | f + 1, r => by
    rw [backF]
    split
    · rw [List.map_cons, List.sum_cons, backF_one hn b f]
      by_cases e : r = b
      · subst e
        have : r ∉ backF n f (r - n) := fun h => by have := backF_le n f _ r h; omega
        simp [this]
      · have : ¬ b = r := fun z => e z.symm
        simp [e, List.mem_cons, this]
    · simp
theorem start_at {H : Nat} {P : Pat} (h : OkP H P) : AtJ P 0 (startT P) := by
  intro r k
  have hpos : 0 < P.length := Nat.pos_of_ne_zero fun q => h.ne (List.length_eq_zero_iff.mp q)
  rw [cf_sum]
  unfold startT startX cpy
  rw [sum_flat]
  refine sum_congr fun x hx => ?_
  obtain ⟨a0, a1, a2⟩ := thr_ok h hx
  unfold backT cpyX
  rw [List.map_map]
  have hm := fun b => backF_mem P.length x.2.1.toNat (x.1 + x.2.1 - P.length) b (by
    have : x.2.1 * 1 ≤ x.2.1 * (P.length : Int) := Int.mul_le_mul_of_nonneg_left (by omega) (by omega)
    rw [Int.toNat_of_nonneg (by omega)]
    omega)
  by_cases hk : x.2.2 = (k : Int)
  · have e : ((fun t : Int × Int => if t = ((r : Int), (k : Int)) then (1 : Int) else 0) ∘ fun r => (r, x.2.2)) = fun c : Int => if c = (r : Int) then (1 : Int) else 0 := by
      funext c
      simp [hk]
    rw [e, backF_one hpos]
    refine ite_iff ?_
    rw [hm]
    constructor
    · rintro ⟨_, t, e⟩
      have ht : 0 ≤ (t : Int) * (P.length : Int) := Int.mul_nonneg (by omega) (by omega)
      refine ⟨hk, by omega, ?_⟩
      have : x.1 + x.2.1 - 0 - (r : Int) = ((t : Int) + 1) * P.length := by rw [Int.add_mul]; omega
      rw [this]
      exact Int.mul_emod_left _ _
    · rintro ⟨_, h1, h2⟩
      refine ⟨by omega, ?_⟩
      have hd := Int.ediv_mul_cancel (Int.dvd_of_emod_eq_zero h2)
      generalize hq : (x.1 + x.2.1 - 0 - (r : Int)) / (P.length : Int) = q at hd
      have q1 : 1 ≤ q := by
        rcases Int.lt_or_le q 1 with hlt | hle
        · have : q * (P.length : Int) ≤ 0 * (P.length : Int) := Int.mul_le_mul_of_nonneg_right (by omega) (by omega)
          omega
        · exact hle
      refine ⟨(q - 1).toNat, ?_⟩
      rw [Int.toNat_of_nonneg (by omega), Int.sub_mul]
      omega
  · have e : ((fun t : Int × Int => if t = ((r : Int), (k : Int)) then (1 : Int) else 0) ∘ fun r => (r, x.2.2)) = fun c : Int => 0 := by
      funext c
      simp [hk]
    rw [e, sum_map_zero, if_neg (fun z => hk z.1)]
theorem mod_shift {n : Nat} {a j : Int} (h0 : 0 ≤ j) (h1 : j < n) : (a - j) % (n : Int) = 0 ↔ a % (n : Int) = j := by
  constructor
  · intro h
    have := Int.emod_emod_of_dvd a (Int.dvd_refl (n : Int))
    have e : a = (a - j) + j := by omega
    rw [e, Int.add_emod, h, Int.zero_add, Int.emod_emod_of_dvd _ (Int.dvd_refl _), Int.emod_eq_of_lt h0 h1]
  · intro h
    rw [Int.sub_emod, h, Int.emod_eq_of_lt h0 h1, Int.sub_self]
    rfl
/-- what lands at the index j -/
theorem cpy_land {H : Nat} {P : Pat} (h : OkP H P) {j : Nat} (hj : j < P.length) (k : Nat) : cpy P j 0 k = landF P j k := by
  unfold landF cpy
  rw [cf_sum]
  unfold landT
  rw [List.map_map]
  refine sum_congr fun x hx => ?_
  obtain ⟨a0, a1, a2⟩ := thr_ok h hx
  unfold cpyX
  simp only [Function.comp_def]
  refine ite_iff ?_
  rw [Int.sub_zero, mod_shift (by omega) (by omega), Prod.mk.injEq]
  constructor
  · rintro ⟨h1, _, h3⟩; exact ⟨h3, h1⟩
  · rintro ⟨h1, h2⟩; exact ⟨h2, by omega, h1⟩
theorem sum_zipPick {α : Type} (F : α → Int) {l : List α} {j : Nat} {b : α} (hb : l[j]? = some b) : (l.zipIdx.map fun p => if p.2 = j then F p.1 else 0).sum = F b := by
  obtain ⟨hj, ej⟩ := List.getElem?_eq_some_iff.mp hb
  have e : (l.zipIdx.map fun p => if p.2 = j then F p.1 else 0) = (List.range l.length).map fun i => if i = j then F b else 0 := by
    refine List.ext_getElem (by simp) fun i h1 h2 => ?_
    simp only [List.getElem_map, List.getElem_zipIdx, List.getElem_range, Nat.zero_add]
    by_cases q : i = j
    · subst q; simp [ej]
    · simp [q]
  rw [e]
  exact sum_pick _ hj
/-- the throws at the index j -/
theorem thr_at (P : Pat) {j : Nat} {b : List Th} (hb : P[j]? = some b) (g : Int × Int → Int) : ((thrP P).map fun x => if x.1 = (j : Int) then g x.2 else 0).sum = (b.flatten.map g).sum := by
  unfold thrP thrE
  rw [sum_flat, ← sum_zipPick (fun b : List Th => (b.flatten.map g).sum) hb]
  refine sum_congr fun p _ => ?_
  unfold thrB
  rw [sum_flat]
  by_cases q : p.2 = j
  · rw [if_pos q]
    have : ∀ bb : List Th, (bb.map fun th => (List.map (fun x : Int × Int × Int => if x.1 = (j : Int) then g x.2 else 0) (th.map fun t => ((p.2 : Int), t.1, t.2))).sum).sum = (bb.flatten.map g).sum := fun bb => by
      induction bb with
      | nil => rfl
      | cons th bb ih =>
        rw [List.map_cons, List.sum_cons, ih, List.flatten_cons, List.map_append, List.sum_append, List.map_map]
        congr 1
        refine sum_congr fun t _ => ?_
        simp [q]
    exact this p.1
  · rw [if_neg q]
    refine (sum_congr (g := fun _ => (0 : Int)) fun th _ => ?_).trans (sum_map_zero _)
    rw [List.map_map]
    refine (sum_congr (g := fun _ => (0 : Int)) fun t _ => ?_).trans (sum_map_zero _)
    have : ¬ (p.2 : Int) = (j : Int) := by omega
    simp [this]
/-- one beat on: the copies of the throws -/
theorem cpy_step {H : Nat} {P : Pat} (h : OkP H P) {j : Nat} (hj : j < P.length) {b : List Th} (hb : P[j]? = some b) (r k : Nat) : cpy P j ((r + 1 : Nat) : Int) k + cf (thr1 b) r k = cpy P ((j + 1 : Nat) : Int) r k := by
  have e : cf (thr1 b) r k = ((thrP P).map fun x => if x.1 = (j : Int) then (if x.2 = ((r : Int) + 1, (k : Int)) then (1 : Int) else 0) else 0).sum := by
    rw [thr_at P hb (fun y => if y = ((r : Int) + 1, (k : Int)) then (1 : Int) else 0), cf_sum]
    unfold thr1
    rw [List.map_map]
    refine sum_congr fun t _ => ?_
    simp only [Function.comp_def]
    refine ite_iff ?_
    obtain ⟨t1, t2⟩ := t
    simp only [Prod.mk.injEq]
    constructor
    · rintro ⟨h1, h2⟩; exact ⟨by omega, h2⟩
    · rintro ⟨h1, h2⟩; exact ⟨by omega, h2⟩
  rw [e]
  unfold cpy
  rw [← sum_map_add]
  refine sum_congr fun x hx => ?_
  obtain ⟨a0, a1, a2⟩ := thr_ok h hx
  obtain ⟨i, hh, kk⟩ := x
  unfold cpyX
  dsimp only at a0 a1 a2 ⊢
  rw [show i + hh - ((j + 1 : Nat) : Int) - (r : Int) = i + hh - j - ((r + 1 : Nat) : Int) by omega]
  by_cases hk : kk = (k : Int)
  · by_cases e2 : hh = (r : Int) + 1
    · rw [if_neg (show ¬ (kk = (k : Int) ∧ ((r + 1 : Nat) : Int) < hh ∧ (i + hh - j - ((r + 1 : Nat) : Int)) % (P.length : Int) = 0) from fun z => by omega)]
      have e3 : i + hh - j - ((r + 1 : Nat) : Int) = i - j := by omega
      rw [e3]
      by_cases hij : i = (j : Int)
      · rw [if_pos hij, if_pos (by rw [e2, hk]), if_pos ⟨hk, by omega, by rw [hij]; simp⟩]
        rfl
      · rw [if_neg hij, if_neg]
        · rfl
        · rintro ⟨_, _, h3⟩
          rw [mod_shift (by omega) (by omega), Int.emod_eq_of_lt a0 a1] at h3
          exact hij h3
    · have e4 : ((hh, kk) = ((r : Int) + 1, (k : Int))) = False := by simp [e2]
      simp only [e4, if_false, ite_self, Int.add_zero]
      refine ite_iff ?_
      constructor
      · rintro ⟨h1, h2, h3⟩; exact ⟨h1, by omega, h3⟩
      · rintro ⟨h1, h2, h3⟩; exact ⟨h1, by omega, h3⟩
  · have e4 : ((hh, kk) = ((r : Int) + 1, (k : Int))) = False := by simp [hk]
    simp only [e4, hk, false_and, if_false, ite_self, Int.add_zero]
/-- one beat on -/
theorem at_step {H : Nat} {P : Pat} (h : OkP H P) {j : Nat} (hj : j < P.length) {b : List Th} (hb : P[j]? = some b) {T : Th} (hT : AtJ P j T) : AtJ P ((j + 1 : Nat) : Int) (moveT T b) := by
  intro r k
  unfold moveT
  rw [cf_app, cf_later, hT]
  exact cpy_step h hj hb r k
theorem cpy_turn (P : Pat) (r k : Nat) : cpy P P.length r k = cpy P 0 r k := by
  unfold cpy
  refine sum_congr fun x _ => ?_
  unfold cpyX
  rw [show x.1 + x.2.1 - (P.length : Int) - (r : Int) = x.1 + x.2.1 - 0 - (r : Int) + (P.length : Int) * (-1) by omega, Int.add_mul_emod_self_left]
theorem cpy_far {H : Nat} {P : Pat} (h : OkP H P) {j : Int} {r : Nat} (hr : 100000 ≤ r) (k : Nat) : cpy P j r k = 0 := by
  unfold cpy
  refine (sum_congr (g := fun _ => (0 : Int)) fun x hx => ?_).trans (sum_map_zero _)
  obtain ⟨i, b, e, th, h1, u, h2, rfl⟩ := mem_thrP.mp hx
  have hk := ((h.ok b (List.mem_of_getElem? e)).ok th h1).2 u h2
  have := hk.h2
  unfold cpyX
  rw [if_neg]
  rintro ⟨_, q, _⟩
  dsimp only at q
  omega
theorem at_turn {P : Pat} {T : Th} (h : AtJ P P.length T) : AtJ P 0 T := by
  intro r k
  rw [h]
  unfold cpy
  refine sum_congr fun x _ => ?_
  unfold cpyX
  rw [show x.1 + x.2.1 - (P.length : Int) - (r : Int) = x.1 + x.2.1 - 0 - (r : Int) + (P.length : Int) * (-1) by omega, Int.add_mul_emod_self_left]
theorem at_perm {H : Nat} {P : Pat} {j : Int} {T U : Th} (h1 : InH H T) (h2 : InH H U) (a1 : AtJ P j T) (a2 : AtJ P j U) : T.Perm U := by
  refine List.perm_iff_count.mpr fun t => ?_
  by_cases ht : 0 ≤ t.1 ∧ 0 ≤ t.2
  · have := (a1 t.1.toNat t.2.toNat).trans (a2 t.1.toNat t.2.toNat).symm
    unfold cf at this
    rw [Int.toNat_of_nonneg ht.1, Int.toNat_of_nonneg ht.2] at this
    obtain ⟨t1, t2⟩ := t
    exact Int.ofNat.inj this
  · rw [List.count_eq_zero.mpr fun m => ht ⟨(h1 t m).1, (h1 t m).2.1⟩, List.count_eq_zero.mpr fun m => ht ⟨(h2 t m).1, (h2 t m).2.1⟩]
end TK

namespace TK
open PySem
/-! ## pairs, sorted -/
def leP (p q : Int × Int) : Bool := decide (p.1 < q.1 ∨ (p.1 = q.1 ∧ p.2 ≤ q.2))
def sortT (T : Th) : Th := T.mergeSort leP
theorem leP_trans (a b c : Int × Int) : leP a b = true → leP b c = true → leP a c = true := by
  unfold leP; simp only [decide_eq_true_eq]; omega
theorem leP_total (a b : Int × Int) : (leP a b || leP b a) = true := by
  unfold leP; simp only [Bool.or_eq_true, decide_eq_true_eq]; omega
theorem sortT_perm (T : Th) : (sortT T).Perm T := List.mergeSort_perm T _
theorem sortT_sorted (T : Th) : (sortT T).Pairwise fun a b => leP a b = true := List.pairwise_mergeSort leP_trans leP_total T
theorem sortT_eq {T U : Th} : sortT T = sortT U ↔ T.Perm U := by
  constructor
  · intro h
    exact (sortT_perm T).symm.trans (h ▸ sortT_perm U)
  · intro h
    refine List.Perm.eq_of_pairwise (le := fun a b => leP a b = true) (fun a b _ _ h1 h2 => ?_) (sortT_sorted T) (sortT_sorted U) (((sortT_perm T).trans h).trans (sortT_perm U).symm)
    unfold leP at h1 h2
    simp only [decide_eq_true_eq] at h1 h2
    obtain ⟨a1, a2⟩ := a
    obtain ⟨b1, b2⟩ := b
    simp only [Prod.mk.injEq]
    dsimp only at h1 h2
    omega
theorem length_sortT (T : Th) : (sortT T).length = T.length := (sortT_perm T).length_eq
theorem sort_dP (T : Th) : (T.map dP).mergeSort (PySem.W.dataLe false id) = (sortT T).map dP := by
  have e := PySem.W.dataLe_ii (fun p : Int × Int => p.1) (fun p => p.2)
  unfold sortT
  symm
  refine List.map_mergeSort fun a _ b _ => ?_
  have : PySem.W.dataLe false (fun p : Int × Int => dP p) a b = leP a b := by
    rw [e]; rfl
  rw [← this]
  rfl
theorem sortDS_P (st : List SV) (T : Th) : sortDS st (.val (.list (T.map dP))) = some (.own false ((sortT T).map dP)) := by
  unfold sortDS
  have h1 : PySem.W.AllAlike (T.map dP) := by
    intro d hd d' hd'
    obtain ⟨t, _, rfl⟩ := List.mem_map.mp hd
    obtain ⟨u, _, rfl⟩ := List.mem_map.mp hd'
    simp [PySem.W.alike, PySem.W.alikeAll]
  have h2 : PySem.W.Sortable (T.map dP) := .inl fun d hd => by
    obtain ⟨t, _, rfl⟩ := List.mem_map.mp hd
    exact ⟨_, _, rfl⟩
  have h3 : PyData.depthAll (T.map dP) ≤ 60 := Nat.le_trans (depthAll_of dP (n := 1) fun t _ => depth_dP t) (by omega)
  simp only [itemsOf]
  rw [if_pos ⟨h1, h2, h3⟩, sort_dP]
theorem sortG_P (st : List SV) (T : Th) : sortG st (.val (.list (T.map dP))) = some (.own false ((sortT T).map dP)) := by
  cases T with
  | nil =>
    have : sortT [] = [] := by simp [sortT]
    rw [this]
    have := sortG_list st []
    simpa [isort] using this
  | cons t T =>
    unfold sortG orG
    have : sort1S st (.val (.list ((t :: T).map dP))) = none := by
      unfold sort1S
      simp [itemsOf, intsOf]
    rw [this]
    exact sortDS_P st (t :: T)
theorem sortG_O (st : List SV) (T : Th) : sortG st (.own false (T.map dP)) = some (.own false ((sortT T).map dP)) := by
  have : sortG st (.own false (T.map dP)) = sortG st (.val (.list (T.map dP))) := by
    unfold sortG orG sort1S sortDS
    rfl
  rw [this, sortG_P]
end TK

namespace TK
open PySem
/-! ## the law's patterns: throws, made one by one -/
abbrev Rec := (Int × Int) × (Int × Int)
def throwsAt (W : List Rec) (p : Int × Int) : Th := (W.filter fun w => decide (w.1 = p)).map (·.2)
def landW (n : Nat) (w : Rec) : Int × Int := ((w.1.1 + w.2.1) % (n : Int), w.2.2)
def patW (n H : Nat) (W : List Rec) : Pat := (List.range n).map fun i : Nat => (List.range H).map fun k : Nat => sortT (throwsAt W ((i : Int), (k : Int)))
theorem throwsAt_cons (w : Rec) (W : List Rec) (p : Int × Int) : throwsAt (w :: W) p = (if w.1 = p then [w.2] else []) ++ throwsAt W p := by
  unfold throwsAt
  rw [List.filter_cons]
  by_cases h : w.1 = p <;> simp [h]
theorem throwsAt_snoc (w : Rec) (W : List Rec) (p : Int × Int) : throwsAt (W ++ [w]) p = throwsAt W p ++ (if w.1 = p then [w.2] else []) := by
  unfold throwsAt
  rw [List.filter_append, List.map_append]
  congr 1
  by_cases h : w.1 = p <;> simp [h]
theorem throwsAt_len (W : List Rec) (p : Int × Int) : (throwsAt W p).length = (W.map (·.1)).count p := by
  induction W with
  | nil => rfl
  | cons w W ih =>
    rw [throwsAt_cons, List.length_append, ih, List.map_cons, List.count_cons]
    by_cases h : w.1 = p
    · simp [h]; omega
    · simp [h]
theorem throwsAt_mem {W : List Rec} {p : Int × Int} {t : Int × Int} (h : t ∈ throwsAt W p) : ∃ w ∈ W, w.1 = p ∧ w.2 = t := by
  unfold throwsAt at h
  obtain ⟨w, hw, e⟩ := List.mem_map.mp h
  obtain ⟨h1, h2⟩ := List.mem_filter.mp hw
  exact ⟨w, h1, of_decide_eq_true h2, e⟩
theorem sum_permF {α : Type} (f : α → Int) {l m : List α} (h : l.Perm m) : (l.map f).sum = (m.map f).sum := by
  induction h with
  | nil => rfl
  | cons x _ ih => simp [ih]
  | swap x y l => simp; omega
  | trans _ _ h1 h2 => exact h1.trans h2
/-- all throws of the pattern are the records -/
theorem patW_sum {n H : Nat} {W : List Rec} (f : Int × Int × Int → Int) (hW : ∀ w ∈ W, 0 ≤ w.1.1 ∧ w.1.1 < n ∧ 0 ≤ w.1.2 ∧ w.1.2 < H) : ((thrP (patW n H W)).map f).sum = (W.map fun w => f (w.1.1, w.2.1, w.2.2)).sum := by
  have e1 : ((thrP (patW n H W)).map f).sum = sTab n H (fun i k => ((throwsAt W ((i : Int), (k : Int))).map fun t => f ((i : Int), t.1, t.2)).sum) := by
    unfold thrP thrE patW
    rw [sum_flat, sTab_eq, List.zipIdx_map, List.map_map]
    have : ∀ i : Nat, ((thrB i ((List.range H).map fun k : Nat => sortT (throwsAt W ((i : Int), (k : Int))))).map f).sum = ((List.range H).map fun k => ((throwsAt W ((i : Int), ((k : Nat) : Int))).map fun t => f ((i : Int), t.1, t.2)).sum).sum := fun i => by
      unfold thrB
      rw [sum_flat, List.map_map]
      refine sum_congr fun k _ => ?_
      simp only [Function.comp_def]
      rw [List.map_map]
      exact sum_permF _ (sortT_perm _)
    refine congrArg List.sum (List.ext_getElem (by simp) fun i h1 h2 => ?_)
    simp only [List.getElem_map, List.getElem_zipIdx, List.getElem_range, Function.comp_def, Prod.map, id, Nat.zero_add]
    exact this i
  rw [e1]
  clear e1
  induction W with
  | nil => simp [throwsAt, sTab_zero]
  | cons w W ih =>
    obtain ⟨h1, h2, h3, h4⟩ := hW w (by simp)
    rw [List.map_cons, List.sum_cons, ← ih fun v hv => hW v (by simp [hv])]
    have e2 : ∀ i k : Nat, ((throwsAt (w :: W) ((i : Int), (k : Int))).map fun t => f ((i : Int), t.1, t.2)).sum = (if i = w.1.1.toNat ∧ k = w.1.2.toNat then f (w.1.1, w.2.1, w.2.2) else 0) + ((throwsAt W ((i : Int), (k : Int))).map fun t => f ((i : Int), t.1, t.2)).sum := fun i k => by
      rw [throwsAt_cons, List.map_append, List.sum_append]
      congr 1
      by_cases q : w.1 = ((i : Int), (k : Int))
      · have q1 : w.1.1 = i := by rw [q]
        have q2 : w.1.2 = k := by rw [q]
        rw [if_pos q, if_pos ⟨by omega, by omega⟩]
        simp [q1]
      · rw [if_neg q, if_neg]
        · rfl
        · rintro ⟨q1, q2⟩
          exact q (Prod.ext (by show w.1.1 = (i : Int); omega) (by show w.1.2 = (k : Int); omega))
    rw [show (fun i k : Nat => ((throwsAt (w :: W) ((i : Int), (k : Int))).map fun t => f ((i : Int), t.1, t.2)).sum) = fun i k => (if i = w.1.1.toNat ∧ k = w.1.2.toNat then f (w.1.1, w.2.1, w.2.2) else 0) + ((throwsAt W ((i : Int), (k : Int))).map fun t => f ((i : Int), t.1, t.2)).sum from funext fun i => funext fun k => e2 i k,
      sTab_add, sTab_one (by omega) (by omega)]
/-- as many land at a place as are thrown there: the pattern is even -/
theorem patW_even {n H : Nat} {W : List Rec} (hW : ∀ w ∈ W, 0 ≤ w.1.1 ∧ w.1.1 < n ∧ 0 ≤ w.1.2 ∧ w.1.2 < H) (hp : (W.map (landW n)).Perm (W.map (·.1))) : unev (patW n H W) = [] := by
  have hl : (patW n H W).length = n := by simp [patW]
  unfold unev unevE
  rw [List.flatMap_eq_nil_iff]
  rintro ⟨b, i⟩ hb
  unfold unevB
  rw [List.filterMap_eq_nil_iff]
  rintro ⟨th, k⟩ ht
  have hb := List.mem_zipIdx_iff_getElem?.mp hb
  have ht := List.mem_zipIdx_iff_getElem?.mp ht
  dsimp only at hb ht ⊢
  rw [if_pos]
  unfold patW at hb
  rw [List.getElem?_map] at hb
  have hi : i < n := by
    by_cases q : i < n
    · exact q
    · rw [List.getElem?_eq_none (by simp; omega)] at hb; cases hb
  rw [List.getElem?_range hi] at hb
  cases hb
  rw [List.getElem?_map] at ht
  have hk : k < H := by
    by_cases q : k < H
    · exact q
    · rw [List.getElem?_eq_none (by simp; omega)] at ht; cases ht
  rw [List.getElem?_range hk] at ht
  cases ht
  rw [length_sortT, throwsAt_len]
  unfold landF
  rw [cf_sum, hl]
  unfold landT
  rw [List.map_map, patW_sum _ hW, ← hp.count_eq]
  have : (((W.map (landW n)).count ((i : Int), (k : Int)) : Nat) : Int) = cf (W.map (landW n)) i k := rfl
  rw [this, cf_sum, List.map_map]
  rfl
/-! ## the dict of the throws -/
theorem dGet_put {α : Type} (kvs : List (List Int × α)) (K K' : List Int) (v : α) : dGet (dPut kvs K v) K' = if K' = K then some v else dGet kvs K' := by
  unfold dPut
  split
  · rename_i h
    induction kvs with
    | nil => cases h
    | cons p kvs ih =>
      rw [List.map_cons]
      by_cases hp : p.1 = K
      · by_cases hk : K' = K
        · simp [dGet, List.find?_cons, hp, hk]
        · have hk2 : ¬ K = K' := fun z => hk z.symm
          have hrest : dGet (kvs.map fun kv => if kv.1 = K then (kv.1, v) else kv) K' = dGet kvs K' := by
            clear ih h hp
            induction kvs with
            | nil => rfl
            | cons q kvs ih2 =>
              rw [List.map_cons]
              by_cases hq : q.1 = K
              · simpa [dGet, List.find?_cons, hq, hk2] using ih2
              · by_cases hq2 : q.1 = K'
                · simp [dGet, List.find?_cons, hq, hq2, hk]
                · simpa [dGet, List.find?_cons, hq, hq2] using ih2
          simpa [dGet, List.find?_cons, hp, hk, hk2] using hrest
      · have h' : (kvs.any fun kv => decide (kv.1 = K)) = true := by simpa [hp] using h
        by_cases hk : p.1 = K'
        · have : ¬ K' = K := fun z => hp (hk.trans z)
          simp [dGet, List.find?_cons, hp, hk, this]
        · have := ih h'
          simpa [dGet, List.find?_cons, hp, hk] using this
  · rename_i h
    have hn : ∀ p ∈ kvs, ¬ p.1 = K := fun p hp e => h (List.any_eq_true.mpr ⟨p, hp, by simp [e]⟩)
    unfold dGet
    rw [List.find?_append]
    by_cases hk : K' = K
    · subst hk
      rw [List.find?_eq_none.mpr (fun p hp => by simpa using hn p hp)]
      simp
    · have hk2 : ¬ K = K' := fun z => hk z.symm
      simp [hk, hk2]
theorem dPut_len {α : Type} (kvs : List (List Int × α)) (K : List Int) (v : α) : (dPut kvs K v).length ≤ kvs.length + 1 := by
  unfold dPut
  split
  · simp
  · simp
def DOk (kvs : List (List Int × D)) (W : List Rec) : Prop := (∀ i k : Int, (dGet kvs [i, k]).getD (.list []) = dLT (throwsAt W (i, k))) ∧ kvs.length ≤ W.length
theorem DOk.put {kvs : List (List Int × D)} {W : List Rec} (h : DOk kvs W) (w : Rec) : DOk (dPut kvs [w.1.1, w.1.2] (dLT (throwsAt W w.1 ++ [w.2]))) (W ++ [w]) := by
  obtain ⟨h1, h2⟩ := h
  refine ⟨fun i k => ?_, ?_⟩
  · rw [dGet_put, throwsAt_snoc]
    by_cases q : w.1 = (i, k)
    · have q1 : w.1.1 = i := by rw [q]
      have q2 : w.1.2 = k := by rw [q]
      rw [if_pos (by rw [q1, q2]), if_pos q, q]
      rfl
    · rw [if_neg, if_neg q, List.append_nil]
      · exact h1 i k
      · intro z
        refine q (Prod.ext ?_ ?_)
        · exact (List.cons.inj z).1.symm
        · exact (List.cons.inj (List.cons.inj z).2).1.symm
  · have := dPut_len kvs [w.1.1, w.1.2] (dLT (throwsAt W w.1 ++ [w.2]))
    rw [List.length_append]
    simp
    omega
theorem DOk.nil : DOk [] [] := ⟨fun i k => rfl, Nat.le_refl _⟩
end TK

namespace TK
/-! ## bridges of least length, by counts of things -/
def dropT (n : Nat) (T : Th) : Th := (T.filter fun t => decide ((n : Int) ≤ t.1)).map fun t => (t.1 - n, t.2)
theorem cf_cons (t : Int × Int) (T : Th) (r k : Nat) : cf (t :: T) r k = (if t = ((r : Int), (k : Int)) then 1 else 0) + cf T r k := by
  have := cf_app [t] T r k
  rw [List.singleton_append] at this
  rw [this]
  congr 1
  unfold cf
  rw [List.count_singleton]
  by_cases h : t = ((r : Int), (k : Int))
  · simp [h]
  · rw [if_neg h, if_neg (by simpa using h)]
    rfl
theorem cf_dropT (n : Nat) (T : Th) (r k : Nat) : cf (dropT n T) r k = cf T (r + n) k := by
  unfold dropT
  induction T with
  | nil => rfl
  | cons t T ih =>
    rw [List.filter_cons, cf_cons, ← ih]
    obtain ⟨a, b⟩ := t
    by_cases h : (n : Int) ≤ a
    · simp only [h, decide_true, if_true, List.map_cons]
      rw [cf_cons]
      congr 1
      refine ite_iff ?_
      simp only [Prod.mk.injEq]
      constructor
      · rintro ⟨h1, h2⟩; exact ⟨by omega, h2⟩
      · rintro ⟨h1, h2⟩; exact ⟨by omega, h2⟩
    · simp only [h, decide_false, Bool.false_eq_true, if_false]
      rw [if_neg (by simp only [Prod.mk.injEq]; omega), Int.zero_add]
theorem dropT_inH {H n : Nat} {T : Th} (h : InH H T) : InH H (dropT n T) := fun t ht => by
  obtain ⟨u, hu, rfl⟩ := List.mem_map.mp ht
  obtain ⟨h1, h2⟩ := List.mem_filter.mp hu
  have := h u h1
  have h2 := of_decide_eq_true h2
  exact ⟨by show 0 ≤ u.1 - n; omega, this.2⟩
theorem dropT_zero {H : Nat} {T : Th} (h : InH H T) : dropT 0 T = T := by
  unfold dropT
  rw [List.filter_eq_self.mpr fun t ht => decide_eq_true (by have := (h t ht).1; omega)]
  simp
theorem later_dropT (n : Nat) (T : Th) : later (dropT n T) = dropT (n + 1) T := by
  unfold later dropT
  rw [List.filter_map, List.map_map, List.filter_filter]
  have e : (T.filter fun a => ((fun t : Int × Int => decide (0 < t.1)) ∘ fun t : Int × Int => (t.1 - (n : Int), t.2)) a && decide ((n : Int) ≤ a.1)) = T.filter fun t => decide (((n + 1 : Nat) : Int) ≤ t.1) := by
    refine List.filter_congr fun t _ => ?_
    simp only [Function.comp_def]
    rw [Bool.eq_iff_iff]
    simp
    omega
  rw [e]
  refine List.map_congr_left fun t _ => ?_
  simp only [Function.comp_def]
  congr 1
  omega
theorem cf_ext {H : Nat} {T U : Th} (h1 : InH H T) (h2 : InH H U) (h : ∀ r k : Nat, cf T r k = cf U r k) : T.Perm U := by
  refine List.perm_iff_count.mpr fun t => ?_
  by_cases ht : 0 ≤ t.1 ∧ 0 ≤ t.2
  · have := h t.1.toNat t.2.toNat
    unfold cf at this
    rw [Int.toNat_of_nonneg ht.1, Int.toNat_of_nonneg ht.2] at this
    obtain ⟨t1, t2⟩ := t
    exact Int.ofNat.inj this
  · rw [List.count_eq_zero.mpr fun m => ht ⟨(h1 t m).1, (h1 t m).2.1⟩, List.count_eq_zero.mpr fun m => ht ⟨(h2 t m).1, (h2 t m).2.1⟩]
/-- with so many beats nothing of the first state is in the way -/
def FitsT (T U : Th) (L : Nat) : Prop := ∀ r k : Nat, cf T (r + L) k ≤ cf U r k
/-- where things are missing -/
def missT (T U : Th) (H L : Nat) : Th := (List.range (ext U)).flatMap fun r : Nat => (List.range H).flatMap fun k : Nat => List.replicate (cf U r k - cf T (r + L) k).toNat ((((r + L : Nat) : Int)), (k : Int))
theorem cf_rep (n : Nat) (a b r k : Nat) : cf (List.replicate n ((a : Int), (b : Int))) r k = if r = a ∧ k = b then (n : Int) else 0 := by
  unfold cf
  rw [List.count_replicate]
  by_cases h : r = a ∧ k = b
  · obtain ⟨rfl, rfl⟩ := h; simp
  · rw [if_neg h, if_neg (by simp only [beq_iff_eq, Prod.mk.injEq]; omega)]
    rfl
theorem cf_flat {α : Type} (f : α → Th) (r k : Nat) : ∀ l : List α, cf (l.flatMap f) r k = (l.map fun x => cf (f x) r k).sum
  | [] => rfl
  | x :: l => by rw [List.flatMap_cons, cf_app, cf_flat f r k l, List.map_cons, List.sum_cons]
theorem sum_if {n a : Nat} {c : Nat → Int} (h : a < n) : ((List.range n).map fun k => if k = a then c k else 0).sum = c a := by
  have : ((List.range n).map fun k => if k = a then c k else 0) = (List.range n).map fun k => if k = a then c a else 0 := List.map_congr_left fun k _ => by
    by_cases e : k = a
    · rw [if_pos e, if_pos e, e]
    · rw [if_neg e, if_neg e]
  rw [this]
  exact sum_pick n h
theorem cf_miss {T U : Th} {H L : Nat} (hf : FitsT T U L) (r k : Nat) (hk : k < H) : cf (missT T U H L) (r + L) k = cf U r k - cf T (r + L) k := by
  unfold missT
  rw [cf_flat]
  have e : ∀ r' : Nat, cf ((List.range H).flatMap fun k' : Nat => List.replicate (cf U r' k' - cf T (r' + L) k').toNat ((((r' + L : Nat) : Int)), (k' : Int))) (r + L) k = if r' = r then cf U r' k - cf T (r' + L) k else 0 := fun r' => by
    rw [cf_flat]
    by_cases hr : r' = r
    · subst hr
      rw [if_pos rfl]
      have : ((List.range H).map fun k' : Nat => cf (List.replicate (cf U r' k' - cf T (r' + L) k').toNat ((((r' + L : Nat) : Int)), (k' : Int))) (r' + L) k) = (List.range H).map fun k' : Nat => if k' = k then cf U r' k' - cf T (r' + L) k' else 0 := List.map_congr_left fun k' _ => by
        rw [cf_rep]
        by_cases hk' : k' = k
        · subst hk'
          rw [if_pos ⟨rfl, rfl⟩, if_pos rfl]
          have := hf r' k'
          omega
        · rw [if_neg (by omega), if_neg hk']
      rw [this]
      exact sum_if (c := fun k' => cf U r' k' - cf T (r' + L) k') hk
    · rw [if_neg hr]
      refine (sum_congr (g := fun _ => (0 : Int)) fun k' _ => ?_).trans (sum_map_zero _)
      rw [cf_rep, if_neg (by omega)]
  rw [List.map_congr_left fun r' _ => e r']
  by_cases hr : r < ext U
  · exact sum_if (c := fun r' => cf U r' k - cf T (r' + L) k) hr
  · have h0 : cf U r k = 0 := cf_out fun t ht => by have := lt_ext ht; omega
    have h1 := hf r k
    have h2 := cf_nn T (r + L) k
    rw [show cf U r k - cf T (r + L) k = 0 by omega]
    refine (sum_congr (g := fun _ => (0 : Int)) fun r' hr' => ?_).trans (sum_map_zero _)
    have := List.mem_range.mp hr'
    rw [if_neg (by omega)]
theorem miss_mem {T U : Th} {H L : Nat} {p : Int × Int} (h : p ∈ missT T U H L) : (L : Int) ≤ p.1 ∧ p.1 < ext U + L ∧ 0 ≤ p.2 ∧ p.2 < H := by
  unfold missT at h
  obtain ⟨r, hr, h⟩ := List.mem_flatMap.mp h
  obtain ⟨k, hk, h⟩ := List.mem_flatMap.mp h
  obtain ⟨_, rfl⟩ := List.mem_replicate.mp h
  have := List.mem_range.mp hr
  have := List.mem_range.mp hk
  dsimp only
  omega
/-- the bridge, beat by beat -/
def beatOf (i : Nat) : List Int → Th → List Th
  | [], _ => []
  | c :: cs, ps => sortT ((ps.take c.toNat).map fun p => (p.1 - i, p.2)) :: beatOf i cs (ps.drop c.toNat)
def beatsOf : Nat → List (List Int) → Th → List (List Th)
  | _, [], _ => []
  | i, row :: rows, ps => beatOf i row ps :: beatsOf (i + 1) rows (ps.drop (row.map Int.toNat).sum)
def brgT (T U : Th) (H L : Nat) : List (List Th) := beatsOf 0 (tab L H (cf T)) (missT T U H L)
theorem length_beatsOf : ∀ (rows : List (List Int)) (i : Nat) (ps : Th), (beatsOf i rows ps).length = rows.length
  | [], _, _ => rfl
  | row :: rows, i, ps => by rw [beatsOf, List.length_cons, List.length_cons, length_beatsOf rows]
theorem length_beatOf (i : Nat) : ∀ (cs : List Int) (ps : Th), (beatOf i cs ps).length = cs.length
  | [], _ => rfl
  | c :: cs, ps => by rw [beatOf, List.length_cons, List.length_cons, length_beatOf i cs]
theorem beatOf_flat (i : Nat) : ∀ (cs : List Int) (ps : Th), (beatOf i cs ps).flatten.Perm ((ps.take (cs.map Int.toNat).sum).map fun p => (p.1 - i, p.2))
  | [], ps => by simp [beatOf]
  | c :: cs, ps => by
    rw [beatOf, List.flatten_cons, List.map_cons, List.sum_cons, List.take_add, List.map_append]
    exact ((sortT_perm _).append (beatOf_flat i cs (ps.drop c.toNat)))
theorem beatOf_mem (i : Nat) : ∀ (cs : List Int) (ps : Th) (th : Th), th ∈ beatOf i cs ps → th.length ≤ ps.length ∧ (th.Pairwise fun a b => leP a b = true) ∧ ∀ t ∈ th, ∃ p ∈ ps, t = (p.1 - i, p.2)
  | [], _, th, h => by cases h
  | c :: cs, ps, th, h => by
    rw [beatOf] at h
    rcases List.mem_cons.mp h with rfl | h
    · refine ⟨by rw [length_sortT, List.length_map, List.length_take]; omega, sortT_sorted _, fun t ht => ?_⟩
      obtain ⟨p, hp, rfl⟩ := List.mem_map.mp ((sortT_perm _).mem_iff.mp ht)
      exact ⟨p, List.mem_of_mem_take hp, rfl⟩
    · obtain ⟨h1, h2, h3⟩ := beatOf_mem i cs _ th h
      refine ⟨by rw [List.length_drop] at h1; omega, h2, fun t ht => ?_⟩
      obtain ⟨p, hp, e⟩ := h3 t ht
      exact ⟨p, List.mem_of_mem_drop hp, e⟩
theorem beatOf_len (i : Nat) : ∀ (cs : List Int) (ps : Th), (cs.map Int.toNat).sum ≤ ps.length → (beatOf i cs ps).map List.length = cs.map Int.toNat
  | [], _, _ => rfl
  | c :: cs, ps, h => by
    rw [List.map_cons, List.sum_cons] at h
    rw [beatOf, List.map_cons, List.map_cons, beatOf_len i cs _ (by rw [List.length_drop]; omega), length_sortT, List.length_map, List.length_take, Nat.min_eq_left (by omega)]
theorem cf_outk {H : Nat} {T : Th} (h : InH H T) {r k : Nat} (hk : H ≤ k) : cf T r k = 0 := by
  unfold cf
  rw [List.count_eq_zero.mpr]
  · rfl
  · intro hm
    have := (h _ hm).2.2
    dsimp only at this
    omega
theorem early_sum {H L : Nat} {T : Th} (h : InH H T) : sTab L H (cf T) + (dropT L T).length = T.length := by
  have hf : ∀ r k : Nat, r < L → cf (T.filter fun t => !decide ((L : Int) ≤ t.1)) r k = cf T r k := fun r k hr => by
    unfold cf
    congr 1
    rw [List.count_filter]
    simp
    omega
  have h1 : InH H (T.filter fun t => !decide ((L : Int) ≤ t.1)) := fun t ht => h t (List.mem_filter.mp ht).1
  have h2 := sTab_things (L := L) (fun _ => 1) h1 fun t ht => by
    have := (List.mem_filter.mp ht).2
    simp at this
    omega
  have e : ∀ X : Th, ((X.map fun _ => (1 : Int)).sum) = X.length := fun X => by
    induction X with
    | nil => rfl
    | cons t X ih => simp [ih]; omega
  rw [e] at h2
  have h3 : sTab L H (fun r k => 1 * cf (T.filter fun t => !decide ((L : Int) ≤ t.1)) r k) = sTab L H (cf T) := sTab_congr fun r k hr _ => by rw [Int.one_mul, hf r k hr]
  rw [h3] at h2
  have h4 := length_filter_not (fun t : Int × Int => decide ((L : Int) ≤ t.1)) T
  unfold dropT
  rw [List.length_map, h2]
  omega
theorem miss_perm {H L : Nat} {T U : Th} (hT : InH H T) (hU : InH H U) (hf : FitsT T U L) : (dropT L T ++ (missT T U H L).map fun p => (p.1 - (L : Int), p.2)).Perm U := by
  have hm : InH H ((missT T U H L).map fun p => (p.1 - (L : Int), p.2)) := fun t ht => by
    obtain ⟨p, hp, rfl⟩ := List.mem_map.mp ht
    have := miss_mem hp
    dsimp only
    omega
  have hX := (dropT_inH (n := L) hT).app hm
  refine cf_ext hX hU fun r k => ?_
  by_cases hk : k < H
  · have e : ∀ M : Th, (∀ p ∈ M, (L : Int) ≤ p.1) → cf (M.map fun p => (p.1 - (L : Int), p.2)) r k = cf M (r + L) k := fun M => by
      induction M with
      | nil => intro _; rfl
      | cons p M ih =>
        intro hp
        rw [List.map_cons, cf_cons, cf_cons, ih fun q hq => hp q (by simp [hq])]
        congr 1
        refine ite_iff ?_
        have := hp p (by simp)
        obtain ⟨a, b⟩ := p
        simp only [Prod.mk.injEq]
        constructor
        · rintro ⟨h1, h2⟩; exact ⟨by omega, h2⟩
        · rintro ⟨h1, h2⟩; exact ⟨by omega, h2⟩
    rw [cf_app, cf_dropT, e _ fun p hp => (miss_mem hp).1, cf_miss hf r k hk]
    omega
  · rw [cf_outk hX (by omega), cf_outk hU (by omega)]
theorem miss_len {H L : Nat} {T U : Th} (hT : InH H T) (hU : InH H U) (hf : FitsT T U L) (hl : T.length = U.length) : sTab L H (cf T) = (missT T U H L).length := by
  have h1 := (miss_perm hT hU hf).length_eq
  rw [List.length_append, List.length_map] at h1
  have h2 := early_sum (L := L) hT
  omega
theorem toNat_sums (L H : Nat) (T : Th) : ((((tab L H (cf T)).map fun row => (row.map Int.toNat).sum).sum : Nat) : Int) = sTab L H (cf T) := by
  have h1 : ∀ l : List Int, (∀ x ∈ l, 0 ≤ x) → ((((l.map Int.toNat).sum : Nat)) : Int) = l.sum := fun l => by
    induction l with
    | nil => intro _; rfl
    | cons x l ih =>
      intro h
      have := h x (by simp)
      rw [List.map_cons, List.sum_cons, List.sum_cons, ← ih fun y hy => h y (by simp [hy])]
      omega
  have h2 : ∀ l : List (List Int), (∀ r ∈ l, ∀ x ∈ r, 0 ≤ x) → (((l.map fun row => (row.map Int.toNat).sum).sum : Nat) : Int) = (l.map List.sum).sum := fun l => by
    induction l with
    | nil => intro _; rfl
    | cons x l ih =>
      intro h
      have := h1 x (h x (by simp))
      rw [List.map_cons, List.sum_cons, List.map_cons, List.sum_cons, ← ih fun y hy => h y (by simp [hy]), ← this]
      omega
  unfold sTab
  refine h2 _ fun r hr x hx => ?_
  unfold tab at hr
  obtain ⟨a, _, rfl⟩ := List.mem_map.mp hr
  obtain ⟨b, _, rfl⟩ := List.mem_map.mp hx
  exact cf_nn _ _ _
end TK

namespace K07
open PySem PySem.Spec PyProof.Rows L2 TK
/-- the hands at which a beat clashes -/
def clashes (T : Th) (b : List Th) : Th := unevB (fun _ k => cf T 0 k) 0 b.zipIdx
theorem mul_zerosT (st : List SV) {h : Int} (h0 : 0 < h) (h1 : h < 1000) : mulG2 st (.val (.tuple [.int 0])) (.val (.int h)) = some (.val (dT (List.replicate h.toNat 0))) := by
  have e : mulS st (.val (.tuple [.int 0])) (.val (.int h)) = none := by
    unfold mulS
    simp
  unfold mulG2 orG2
  rw [e]
  unfold tmulS
  by_cases h2 : h = 1
  · subst h2; simp
  · simp [h2]
    omega
theorem row_at0 {L H : Nat} {f : Nat → Nat → Int} (h : 0 < L) : atI (tab L H f) 0 = some ((List.range H).map fun k => f 0 k) := by
  have := atI_nat (tab L H f) (k := 0) (by rw [length_tab]; exact h)
  simpa using this
end K07

namespace K07
open PySem PySem.Spec PyProof.Rows L2 TK
/-- the things after the beats, if none clashes -/
def runT : List (List Th) → Th → Option Th
  | [], T => some T
  | b :: bs, T => if clashes T b = [] then runT bs (moveT T b) else none
/-- the pattern runs from the things -/
def runsB (P : Pat) (T : Th) (H : Nat) : Bool := match runT P T with
  | none => false
  | some U => decide (stOf U H = stOf T H)
theorem unevB_nil_iff {f : Nat → Nat → Int} {i : Nat} {qs : List (Th × Nat)} : unevB f i qs = [] ↔ ∀ q ∈ qs, f i q.2 = q.1.length := by
  unfold unevB
  rw [List.filterMap_eq_nil_iff]
  refine forall_congr' fun q => forall_congr' fun _ => ?_
  by_cases h : f i q.2 = q.1.length <;> simp [h]
theorem thr1_inH {H : Nat} {b : List Th} (hb : OkB H b) : InH H (thr1 b) := fun t ht => by
  unfold thr1 at ht
  obtain ⟨u, hu, rfl⟩ := List.mem_map.mp ht
  obtain ⟨th, h1, h2⟩ := List.mem_flatten.mp hu
  have k := (hb.ok th h1).2 u h2
  exact ⟨by have := k.h1; show 0 ≤ u.1 - 1; omega, k.k1, k.k2⟩
theorem move_inH {H : Nat} {T : Th} {b : List Th} (hT : InH H T) (hb : OkB H b) : InH H (moveT T b) := (later_inH hT).app (thr1_inH hb)
theorem move_below {H L : Nat} {T : Th} {b : List Th} (hT : Below L T) (hL : 100000 ≤ L) (hb : OkB H b) : Below L (moveT T b) := fun t ht => by
  rcases List.mem_append.mp ht with ht | ht
  · obtain ⟨u, hu, rfl⟩ := List.mem_map.mp ht
    have := hT u (List.mem_filter.mp hu).1
    show u.1 - 1 < _
    omega
  · unfold thr1 at ht
    obtain ⟨u, hu, rfl⟩ := List.mem_map.mp ht
    obtain ⟨th, h1, h2⟩ := List.mem_flatten.mp hu
    have k := (hb.ok th h1).2 u h2
    have := k.h2
    show u.1 - 1 < _
    omega
theorem runT_inH {H L : Nat} (hL : 100000 ≤ L) : ∀ {bs : List (List Th)} {T U : Th}, (∀ b ∈ bs, OkB H b) → InH H T → Below L T → runT bs T = some U → InH H U ∧ Below L U
  | [], T, U, _, h1, h2, e => by cases e; exact ⟨h1, h2⟩
  | b :: bs, T, U, hb, h1, h2, e => by
    rw [runT] at e
    split at e
    · exact runT_inH hL (fun c hc => hb c (by simp [hc])) (move_inH h1 (hb b (by simp))) (move_below h2 hL (hb b (by simp))) e
    · cases e
theorem runT_at {H : Nat} {P : Pat} (h : OkP H P) (hu : unev P = []) : ∀ (bs : List (List Th)) (j : Nat) (T : Th), P.drop j = bs → j ≤ P.length → InH H T → AtJ P j T → ∃ U, runT bs T = some U ∧ InH H U ∧ AtJ P P.length U
  | [], j, T, e, hj, hT, ha => by
    have : P.length ≤ j := List.drop_eq_nil_iff.mp e
    have ej : j = P.length := by omega
    subst ej
    exact ⟨T, rfl, hT, ha⟩
  | b :: bs, j, T, e, hj, hT, ha => by
    have hlt : j < P.length := by
      by_cases q : j < P.length
      · exact q
      · rw [List.drop_eq_nil_of_le (by omega)] at e; cases e
    rw [List.drop_eq_getElem_cons hlt] at e
    obtain ⟨e1, e2⟩ := List.cons.inj e
    have hb : P[j]? = some b := by rw [List.getElem?_eq_getElem hlt, e1]
    have hbk := h.ok b (List.mem_of_getElem? hb)
    have hc : clashes T b = [] := by
      unfold clashes
      rw [unevB_nil_iff]
      intro q hq
      obtain ⟨th, k⟩ := q
      have hk := List.mem_zipIdx_iff_getElem?.mp hq
      show cf T 0 k = _
      rw [ha 0 k]
      have := cpy_land h hlt k
      rw [show ((0 : Nat) : Int) = 0 from rfl, this]
      exact unev_nil hu hb hk
    rw [runT, if_pos hc]
    exact runT_at h hu bs (j + 1) (moveT T b) e2 (by omega) (move_inH hT hbk) (at_step h hlt hb ha)
/-- an even pattern runs from its start -/
theorem runT_even {H : Nat} {P : Pat} (h : OkP H P) (hu : unev P = []) : ∃ U, runT P (startT P) = some U ∧ InH H U ∧ U.Perm (startT P) := by
  obtain ⟨U, e, h1, h2⟩ := runT_at h hu P 0 (startT P) rfl (by omega) (startT_inH h) (start_at h)
  exact ⟨U, e, h1, at_perm h1 (startT_inH h) (at_turn h2) (start_at h)⟩
theorem clash_val {T : Th} {b : List Th} {t : Int × Int} (h : (clashes T b).head? = some t) : 0 ≤ t.2 ∧ clashes T b ≠ [] := by
  refine ⟨?_, fun e => by rw [e] at h; cases h⟩
  have hm : t ∈ clashes T b := List.mem_of_head? h
  unfold clashes unevB at hm
  obtain ⟨q, _, e⟩ := List.mem_filterMap.mp hm
  split at e
  · cases e
  · cases e; exact Int.natCast_nonneg _
theorem at0 (x : D) (xs : List D) : atI (x :: xs) 0 = some x := atI_nat (x :: xs) (k := 0) (by simp)
theorem at1 (x y : D) (xs : List D) : atI (x :: y :: xs) 1 = some y := atI_nat (x :: y :: xs) (k := 1) (by simp)
theorem at2 (x y z : D) (xs : List D) : atI (x :: y :: z :: xs) 2 = some z := atI_nat (x :: y :: z :: xs) (k := 2) (by simp)
theorem at0P {α : Type} {P : List α} (h : 0 < P.length) : atI P 0 = some P[0] := by
  have := atI_nat P (k := 0) h
  simpa using this
theorem mem_unev {P : Pat} {i k : Int} : (i, k) ∈ unev P ↔ ∃ (i' k' : Nat) (b : List Th) (th : Th), i = i' ∧ k = k' ∧ P[i']? = some b ∧ b[k']? = some th ∧ landF P i' k' ≠ th.length := by
  unfold unev unevE unevB
  simp only [List.mem_flatMap, List.mem_filterMap, Prod.exists, List.mem_zipIdx_iff_getElem?]
  constructor
  · rintro ⟨b, i', hb, th, k', ht, e⟩
    split at e
    · cases e
    · rename_i hne
      cases e
      exact ⟨i', k', b, th, rfl, rfl, hb, ht, hne⟩
  · rintro ⟨i', k', b, th, rfl, rfl, hb, ht, hne⟩
    exact ⟨b, i', hb, th, k', ht, by rw [if_neg hne]⟩
end K07

namespace K07
open PySem PySem.Spec PyProof.Rows L2 TK
/-- the patterns that the law draws are small -/
structure SmP (H L M : Nat) (P : Pat) : Prop where
  ne : P ≠ []
  len : P.length ≤ 10
  h0 : 0 < H
  hH : H ≤ 5
  ok : ∀ b ∈ P, b.length = H ∧ ∀ th ∈ b, th.length ≤ L ∧ ∀ t ∈ th, 1 ≤ t.1 ∧ t.1 ≤ M ∧ 0 ≤ t.2 ∧ t.2 < H
theorem SmP.okP {H L M : Nat} {P : Pat} (s : SmP H L M P) (hL : L < 1000) (hM : M < 1000) : OkP H P := by
  have h1 := s.len
  have h2 := s.hH
  refine ⟨s.ne, by omega, by omega, fun b hb => ⟨(s.ok b hb).1, fun th ht => ?_⟩⟩
  obtain ⟨k1, k2⟩ := (s.ok b hb).2 th ht
  refine ⟨by omega, fun t hm => ?_⟩
  obtain ⟨a1, a2, a3, a4⟩ := k2 t hm
  exact ⟨a1, by omega, a3, a4⟩
theorem SmP.mono {H L M L' M' : Nat} {P : Pat} (s : SmP H L M P) (hL : L ≤ L') (hM : M ≤ M') : SmP H L' M' P := by
  refine ⟨s.ne, s.len, s.h0, s.hH, fun b hb => ⟨(s.ok b hb).1, fun th ht => ?_⟩⟩
  obtain ⟨k1, k2⟩ := (s.ok b hb).2 th ht
  refine ⟨by omega, fun t hm => ?_⟩
  obtain ⟨a1, a2, a3, a4⟩ := k2 t hm
  exact ⟨a1, by omega, a3, a4⟩
/-- one list of throws exchanged -/
theorem SmP.put {H L M L' M' : Nat} {P : Pat} (s : SmP H L M P) (hL : L ≤ L') (hM : M ≤ M') {i k : Nat} {b : List Th} {T : Th} (hb : b ∈ P) (h1 : T.length ≤ L') (h2 : ∀ t ∈ T, 1 ≤ t.1 ∧ t.1 ≤ M' ∧ 0 ≤ t.2 ∧ t.2 < H) : SmP H L' M' (P.set i (b.set k T)) := by
  have s' := s.mono hL hM
  refine ⟨fun e => s.ne (List.length_eq_zero_iff.mp (by rw [← List.length_set (i := i) (a := b.set k T), e]; rfl)), by rw [List.length_set]; exact s.len, s.h0, s.hH, fun c hc => ?_⟩
  rcases List.mem_or_eq_of_mem_set hc with hc | rfl
  · exact s'.ok c hc
  · obtain ⟨k1, k2⟩ := s'.ok b hb
    refine ⟨by rw [List.length_set]; exact k1, fun th ht => ?_⟩
    rcases List.mem_or_eq_of_mem_set ht with ht | rfl
    · exact k2 th ht
    · exact ⟨h1, h2⟩
theorem eraseIdx_map' {α β : Type} (f : α → β) : ∀ (l : List α) (i : Nat), (l.map f).eraseIdx i = (l.eraseIdx i).map f
  | [], _ => rfl
  | _ :: _, 0 => rfl
  | a :: l, i + 1 => by simp [eraseIdx_map' f l i]
theorem popD_dP {T : Th} {p : Nat} (hp : p < T.length) (hl : T.length ≤ 1000000) : popD (T.map dP) (.int p) = some (dP T[p], (T.eraseIdx p).map dP) := by
  unfold popD
  dsimp only
  rw [if_pos (by simpa using hl), List.length_map, ixN_nat hp]
  dsimp only
  rw [List.getElem?_map, List.getElem?_eq_getElem hp]
  dsimp only [Option.map_some]
  rw [eraseIdx_map']
theorem sum_le {α : Type} (f : α → Int) (B : Int) : ∀ l : List α, (∀ x ∈ l, f x ≤ B) → (l.map f).sum ≤ l.length * B
  | [], _ => by simp
  | x :: l, h => by
    have h1 := h x (by simp)
    have h2 := sum_le f B l fun y hy => h y (by simp [hy])
    rw [List.map_cons, List.sum_cons, List.length_cons, Int.natCast_add, Int.add_mul]
    simp
    omega
theorem SmP.sum {H L M : Nat} {P : Pat} (s : SmP H L M P) : ((thrP P).map fun x => x.2.1).sum ≤ P.length * ((H : Int) * (L * M)) := by
  unfold thrP thrE
  rw [sum_flat]
  have := sum_le (fun p : List Th × Nat => ((thrB p.2 p.1).map fun x => x.2.1).sum) ((H : Int) * (L * M)) P.zipIdx fun p hp => by
    have hb := List.fst_mem_of_mem_zipIdx hp
    obtain ⟨k1, k2⟩ := s.ok _ hb
    unfold thrB
    rw [sum_flat]
    have := sum_le (fun th : Th => ((th.map fun t => ((p.2 : Int), t.1, t.2)).map fun x => x.2.1).sum) ((L : Int) * M) p.1 fun th ht => by
      obtain ⟨a1, a2⟩ := k2 th ht
      rw [List.map_map]
      have := sum_le (fun t : Int × Int => t.1) (M : Int) th fun t hm => (a2 t hm).2.1
      have h2 : (th.length : Int) * M ≤ L * M := Int.mul_le_mul_of_nonneg_right (by omega) (by omega)
      show (List.map (fun t : Int × Int => t.1) th).sum ≤ _
      omega
    rw [k1] at this
    exact this
  simpa using this
theorem SmP.start {H L M : Nat} {P : Pat} (s : SmP H L M P) (h : OkP H P) (hu : unev P = []) (hL : L ≤ 160) (hM : M ≤ 60) : (startT P).length ≤ 48000 := by
  have e := start_len h hu
  have b := s.sum
  have hpos : 0 < P.length := List.length_pos_iff.mpr s.ne
  rw [← e] at b
  have b2 : ((startT P).length : Int) ≤ (H : Int) * (L * M) := Int.le_of_mul_le_mul_left b (by omega)
  have hH := s.hH
  have c1 : (L : Int) * M ≤ 160 * 60 := Int.mul_le_mul (by omega) (by omega) (by omega) (by omega)
  have c0 : (0 : Int) ≤ (L : Int) * M := Int.mul_nonneg (by omega) (by omega)
  have c2 : (H : Int) * (L * M) ≤ 5 * (160 * 60) := Int.mul_le_mul (by omega) c1 c0 (by omega)
  omega
theorem SmP.thr1 {H L M : Nat} {P : Pat} (s : SmP H L M P) (hL : L ≤ 160) {b : List Th} (hb : b ∈ P) : (thr1 b).length ≤ 800 := by
  obtain ⟨k1, k2⟩ := s.ok b hb
  have hH := s.hH
  unfold TK.thr1
  rw [List.length_map, List.length_flatten]
  have : ∀ l : List Th, (∀ th ∈ l, th.length ≤ L) → (l.map List.length).sum ≤ l.length * L := fun l => by
    induction l with
    | nil => intro _; simp
    | cons x l ih =>
      intro h
      have h1 := h x (by simp)
      have h2 := ih fun y hy => h y (by simp [hy])
      rw [List.map_cons, List.sum_cons, List.length_cons, Nat.add_mul]
      omega
  have h1 := this b fun th ht => (k2 th ht).1
  rw [k1] at h1
  have h2 : H * L ≤ 5 * 160 := Nat.mul_le_mul hH hL
  omega
theorem shaped_lP {T : Th} (h : T.length < 1000000) : SeqAt.shaped (.list (T.map dP)) = true := by
  refine shaped_of (k := 2) ?_ ?_ (by omega)
  · rw [plainD, plainL_of dP fun t _ => plain_dP t]
    simp [h]
  · rw [PyData.depth]
    have := depthAll_of dP (n := 1) (xs := T) fun t _ => depth_dP t
    omega
theorem later_len (T : Th) : (later T).length ≤ T.length := by unfold later; rw [List.length_map]; exact List.length_filter_le _ _
end K07

namespace K07
open PySem PySem.Spec PyProof.Rows L2 TK
/-! the bridge leads there -/
theorem clash_perm {T T' : Th} (p : T.Perm T') (b : List Th) : clashes T b = clashes T' b := by
  unfold clashes
  rw [cf_perm p]
theorem later_app (T U : Th) : later (T ++ U) = later T ++ later U := by
  unfold later
  rw [List.filter_append, List.map_append]
theorem later_sub {L i : Nat} (hi : i < L) {S : Th} (hS : ∀ p ∈ S, (L : Int) ≤ p.1) : later (S.map fun p => (p.1 - (i : Int), p.2)) = S.map fun p => (p.1 - ((i + 1 : Nat) : Int), p.2) := by
  unfold later
  rw [List.filter_eq_self.mpr, List.map_map]
  · refine List.map_congr_left fun p _ => ?_
    simp only [Function.comp_def]
    congr 1
    omega
  · intro t ht
    obtain ⟨p, hp, rfl⟩ := List.mem_map.mp ht
    have := hS p hp
    exact decide_eq_true (by dsimp only; omega)
theorem run_beats {H L : Nat} {T : Th} (hT : InH H T) : ∀ (rows : List (List Int)) (i : Nat) (ps S V : Th), rows = (tab L H (cf T)).drop i → i ≤ L → V.Perm (dropT i T ++ S.map fun p => (p.1 - (i : Int), p.2)) → (∀ p ∈ S ++ ps, (L : Int) ≤ p.1) →
    (rows.map fun row => (row.map Int.toNat).sum).sum ≤ ps.length → ∃ W, runT (beatsOf i rows ps) V = some W ∧ W.Perm (dropT L T ++ (S ++ ps.take (rows.map fun row => (row.map Int.toNat).sum).sum).map fun p => (p.1 - (L : Int), p.2))
  | [], i, ps, S, V, er, hi, hV, hp, hs => by
    have h1 : (tab L H (cf T)).length ≤ i := List.drop_eq_nil_iff.mp er.symm
    rw [length_tab] at h1
    have e : i = L := by omega
    subst e
    exact ⟨V, rfl, by simpa using hV⟩
  | row :: rows, i, ps, S, V, er, hi, hV, hp, hs => by
    have hlt : i < L := by
      by_cases q : i < L
      · exact q
      · rw [List.drop_eq_nil_of_le (by rw [length_tab]; omega)] at er; cases er
    have hlt' : i < (tab L H (cf T)).length := by rw [length_tab]; exact hlt
    rw [List.drop_eq_getElem_cons hlt'] at er
    obtain ⟨e1, e2⟩ := List.cons.inj er
    rw [tab_getE] at e1
    rw [List.map_cons, List.sum_cons] at hs
    rw [beatsOf, runT]
    have hc : clashes V (beatOf i row ps) = [] := by
      rw [clash_perm hV]
      unfold clashes
      rw [unevB_nil_iff]
      rintro ⟨th, k⟩ hq
      have hk := List.mem_zipIdx_iff_getElem?.mp hq
      have hl := beatOf_len i row ps (by omega)
      have h1 : ((beatOf i row ps).map List.length)[k]? = some th.length := by rw [List.getElem?_map, hk]; rfl
      rw [hl, e1, List.map_map, List.getElem?_map] at h1
      have hkH : k < H := by
        by_cases q : k < H
        · exact q
        · rw [List.getElem?_eq_none (by simp; omega)] at h1; cases h1
      rw [List.getElem?_range hkH] at h1
      have h1 := Option.some.inj h1
      dsimp only [Function.comp_def] at h1 ⊢
      rw [cf_app, cf_dropT, Nat.zero_add]
      have h0 : cf (S.map fun p => (p.1 - (i : Int), p.2)) 0 k = 0 := by
        unfold cf
        rw [List.count_eq_zero.mpr]
        · rfl
        · intro hm
          obtain ⟨p, hp', e⟩ := List.mem_map.mp hm
          have := hp p (by simp [hp'])
          have := congrArg Prod.fst e
          dsimp only at this
          omega
      rw [h0]
      have := cf_nn T i k
      omega
    rw [if_pos hc]
    have hV' : (moveT V (beatOf i row ps)).Perm (dropT (i + 1) T ++ (S ++ ps.take (row.map Int.toNat).sum).map fun p => (p.1 - ((i + 1 : Nat) : Int), p.2)) := by
      unfold moveT
      have p1 := later_perm hV
      rw [later_app, later_dropT, later_sub hlt fun p h => hp p (by simp [h])] at p1
      have p2 : (thr1 (beatOf i row ps)).Perm ((ps.take (row.map Int.toNat).sum).map fun p => (p.1 - ((i + 1 : Nat) : Int), p.2)) := by
        unfold thr1
        have := (beatOf_flat i row ps).map fun t => (t.1 - 1, t.2)
        rw [List.map_map] at this
        refine this.trans (List.Perm.of_eq (List.map_congr_left fun p _ => ?_))
        simp only [Function.comp_def]
        congr 1
        omega
      rw [List.map_append, ← List.append_assoc]
      exact p1.append p2
    obtain ⟨W, eW, pW⟩ := run_beats hT rows (i + 1) (ps.drop (row.map Int.toNat).sum) (S ++ ps.take (row.map Int.toNat).sum) _ e2 (by omega) hV' (fun p h => by
      refine hp p ?_
      simp only [List.mem_append] at h ⊢
      rcases h with (h | h) | h
      · exact .inl h
      · exact .inr (List.mem_of_mem_take h)
      · exact .inr (List.mem_of_mem_drop h)) (by rw [List.length_drop]; omega)
    refine ⟨W, eW, ?_⟩
    rw [List.map_cons, List.sum_cons, List.take_add]
    rw [List.append_assoc] at pW
    exact pW
theorem brg_runs {H L : Nat} {T U : Th} (hT : InH H T) (hU : InH H U) (hf : FitsT T U L) (hl : T.length = U.length) : ∃ W, runT (brgT T U H L) T = some W ∧ W.Perm U := by
  have hs : ((tab L H (cf T)).map fun row => (row.map Int.toNat).sum).sum = (missT T U H L).length := by
    have h1 := toNat_sums L H T
    have h2 := miss_len hT hU hf hl
    omega
  obtain ⟨W, eW, pW⟩ := run_beats (L := L) hT (tab L H (cf T)) 0 (missT T U H L) [] T (by rw [List.drop_zero]) (by omega) (by rw [dropT_zero hT]; simp) (fun p hp => (miss_mem (by simpa using hp)).1) (by omega)
  refine ⟨W, eW, pW.trans ?_⟩
  rw [hs, List.take_length, List.nil_append]
  exact miss_perm hT hU hf
end K07

namespace K07
open PySem PySem.Spec PyProof.Rows L2 TK
theorem sp_count {H : Nat} {T : Th} (hT : InH H T) (he : ext T < 1000000) : F_thing_count [.val (dSt (stOf T H))] = some (.ret (.val (.int T.length)) none) := by
  apply ret_of
  rw [F_thing_count, wC_def]
  simp [b_thing_count, bindN_eq]
  refine comp_all (g := fun row => PyData.int row.sum) rfl (by unfold stOf; rw [length_tab, sizeLine_eq]; omega) (fun row hr => ?_) ?_
  · simp [bindN_eq]
  · rw [show (stOf T H).map (fun row => PyData.int row.sum) = ((stOf T H).map List.sum).map PyData.int from by rw [List.map_map]; rfl]
    simp only [wO_some, wE_call1_c, frzS_own, frzS_val]
    rw [sumG_list, count_things hT]
    simp
end K07

namespace K07
open PySem PySem.Spec PyProof.Rows L2 TK
/-! the program's bridges, walked -/
theorem zipIdx_range {α : Type} (f : Nat → α) (n : Nat) : ((List.range n).map f).zipIdx = (List.range n).map fun i => (f i, i) := by
  refine List.ext_getElem (by simp) fun i h1 h2 => ?_
  simp
theorem sp_numat {H : Nat} {T : Th} {r k : Nat} (hk : k < H) : F_number_at [.val (dSt (stOf T H)), .val (.int r), .val (.int k)] = some (.ret (.val (.int (cf T r k))) none) := by
  apply ret_of
  rw [F_number_at, wC_def]
  have el : (stOf T H).length = ext T := by unfold stOf; rw [length_tab]
  simp [b_number_at, el]
  by_cases h : r < ext T
  · have e1 : atI (stOf T H) (r : Int) = some ((List.range H).map fun k => cf T r k) := by
      unfold stOf
      rw [atI_nat _ (by rw [length_tab]; exact h), tab_getE]
    have e2 : atI ((List.range H).map fun k => cf T r k) (k : Int) = some (cf T r k) := by
      rw [atI_nat _ (by simpa using hk)]
      simp
    simp only [h, if_true, e1, wO_some, idxS_tuple, atI_map, e2]
  · simp only [h, if_false]
    rw [cf_out fun t ht => by have := lt_ext ht; omega]
def fitsB (T U : Th) (H L : Nat) : Bool := ((stOf T H).drop L).zipIdx.all fun p => p.1.zipIdx.all fun q => decide (q.1 ≤ cf U p.2 q.2)
theorem fitsB_iff {T U : Th} {H L : Nat} (hT : InH H T) : fitsB T U H L = true ↔ FitsT T U L := by
  unfold fitsB stOf
  rw [tab_drop]
  unfold tab
  rw [zipIdx_range]
  simp only [List.all_map, List.all_eq_true, List.mem_range, Function.comp_def, zipIdx_range, decide_eq_true_eq]
  constructor
  · intro h r k
    by_cases hk : k < H
    · by_cases hr : r < ext T - L
      · exact h r hr k hk
      · rw [cf_out fun t ht => by have := lt_ext ht; omega]
        exact cf_nn _ _ _
    · rw [cf_outk hT (by omega)]
      exact cf_nn _ _ _
  · intro h r _ k _
    exact h r k
theorem sp_fits {H L : Nat} {T U : Th} (hl : ext T < 1000000) (hH : H < 1000) : F_fits [.val (dSt (stOf T H)), .val (dSt (stOf U H)), .val (.int L)] = some (.ret (.val (.bool (fitsB T U H L))) none) := by
  apply ret_of
  rw [F_fits, wC_def]
  simp [b_fits, bindN_eq]
  rw [cutD_map, cutL_drop (by omega), Int.toNat_natCast, enumD_map]
  have hrow : ∀ p ∈ ((stOf T H).drop L).zipIdx, p.1.length = H := fun p hp => by
    have := List.mem_of_mem_drop (List.fst_mem_of_mem_zipIdx hp)
    unfold stOf tab at this
    obtain ⟨_, _, e⟩ := List.mem_map.mp this
    rw [← e]
    simp
  refine wF_walk (I := fun (E : List (List Int × Nat)) st => (∀ p ∈ E, p.1.length = H) ∧ ∃ (x3 x4 x5 x6 : SV), st = [.val (dSt (stOf T H)), .val (dSt (stOf U H)), .val (.int L), x3, x4, x5, x6] ∧ (x3.isOwn = false ∧ x4.isOwn = false ∧ x5.isOwn = false ∧ x6.isOwn = false) ∧ fitsB T U H L = E.all fun p => p.1.zipIdx.all fun q => decide (q.1 ≤ cf U p.2 q.2)) (fun p E st => ?_) (fun st => ?_) _ _
    ⟨hrow, .emp, .emp, .emp, .emp, rfl, ⟨rfl, rfl, rfl, rfl⟩, rfl⟩
  · rintro ⟨hE, x3, x4, x5, x6, rfl, ⟨h3, h4, h5, h6⟩, e⟩
    have hpl := hE p (by simp)
    rw [List.all_cons] at e
    generalize (E.all fun p => p.1.zipIdx.all fun q => decide (q.1 ≤ cf U p.2 q.2)) = rest at e
    simp [bindN_eq, h3, h4]
    rw [enumD_map]
    refine wF_walk (I := fun (F : List (Int × Nat)) st => (∀ q ∈ F, q.2 < H) ∧ ∃ (x5 x6 : SV), st = [.val (dSt (stOf T H)), .val (dSt (stOf U H)), .val (.int L), .val (.int p.2), .val (dT p.1), x5, x6] ∧ (x5.isOwn = false ∧ x6.isOwn = false) ∧ fitsB T U H L = ((F.all fun q => decide (q.1 ≤ cf U p.2 q.2)) && rest)) (fun q F st => ?_) (fun st => ?_) _ _
      ⟨fun q hq => by have := List.snd_lt_of_mem_zipIdx hq; omega, x5, x6, rfl, ⟨h5, h6⟩, e⟩
    · rintro ⟨hF, x5, x6, rfl, ⟨h5, h6⟩, e⟩
      rw [List.all_cons] at e
      simp [bindN_eq, h5, h6]
      refine (wC_ret (sp_numat (hF q (by simp)))).mpr ?_
      simp
      split
      · rename_i hc
        have : ¬ q.1 ≤ cf U p.2 q.2 := by omega
        simp [this] at e
        simp [e]
      · rename_i hc
        have : q.1 ≤ cf U p.2 q.2 := by omega
        simp only [this, decide_true, Bool.true_and] at e
        exact ⟨fun a b hm => hF (a, b) (by simp [hm]), _, _, ⟨rfl, rfl⟩, ⟨rfl, rfl⟩, e⟩
    · rintro ⟨_, x5, x6, rfl, ⟨h5, h6⟩, e⟩
      simp only [List.all_nil, Bool.true_and] at e
      exact ⟨fun a b hm => hE (a, b) (by simp [hm]), _, _, _, _, rfl, ⟨rfl, rfl, h5, h6⟩, e⟩
  · rintro ⟨_, x3, x4, x5, x6, rfl, _, e⟩
    simp at e
    simp [e]
def leastB (p : Nat → Bool) : Nat → Nat → Nat
  | 0, i => i
  | n + 1, i => if p i then i else leastB p n (i + 1)
theorem leastB_spec (p : Nat → Bool) : ∀ (n i : Nat), p (i + n) = true → p (leastB p n i) = true ∧ i ≤ leastB p n i ∧ leastB p n i ≤ i + n ∧ ∀ j, i ≤ j → j < leastB p n i → p j = false
  | 0, i, h => ⟨h, Nat.le_refl _, Nat.le_refl _, fun j h1 h2 => by have : j < i := h2; omega⟩
  | n + 1, i, h => by
    rw [leastB]
    by_cases hp : p i = true
    · rw [if_pos hp]
      exact ⟨hp, Nat.le_refl _, by omega, fun j h1 h2 => by omega⟩
    · rw [if_neg hp]
      obtain ⟨a, b, c, d⟩ := leastB_spec p n (i + 1) (by rw [show i + 1 + n = i + (n + 1) by omega]; exact h)
      refine ⟨a, by omega, by omega, fun j h1 h2 => ?_⟩
      by_cases e : j = i
      · subst e; simpa using hp
      · exact d j (by omega) h2
def lenB (T U : Th) (H : Nat) : Nat := leastB (fitsB T U H) (ext T) 0
theorem fits_end (T U : Th) (H : Nat) : fitsB T U H (ext T) = true := by
  unfold fitsB
  rw [List.drop_eq_nil_of_le (by unfold stOf; rw [length_tab]; omega)]
  rfl
theorem lenB_spec {T U : Th} {H : Nat} (hT : InH H T) : FitsT T U (lenB T U H) ∧ lenB T U H ≤ ext T ∧ ∀ j, j < lenB T U H → fitsB T U H j = false := by
  obtain ⟨a, _, b, c⟩ := leastB_spec (fitsB T U H) (ext T) 0 (by rw [Nat.zero_add]; exact fits_end T U H)
  exact ⟨(fitsB_iff hT).mp a, by have : lenB T U H ≤ 0 + ext T := b; omega, fun j h => c j (by omega) h⟩
theorem sp_blen {H : Nat} {T U : Th} (hT : InH H T) (hU : InH H U) (h1 : ext T < 100000) (h2 : ext U < 100000) (hH : H < 1000) (hl : T.length = U.length) : F_bridge_length [.val (dSt (stOf T H)), .val (dSt (stOf U H))] = some (.ret (.val (.int (lenB T U H))) none) := by
  apply ret_of
  rw [F_bridge_length, wC_def]
  simp [b_bridge_length, bindN_eq]
  refine (wC_ret (sp_count hT (by omega))).mpr ?_
  simp
  refine (wC_ret (sp_count hU (by omega))).mpr ?_
  simp [hl, bindN_eq]
  obtain ⟨_, a, _, c⟩ := leastB_spec (fitsB T U H) (ext T) 0 (by rw [Nat.zero_add]; exact fits_end T U H)
  obtain ⟨f1, f2, f3⟩ := lenB_spec (U := U) hT
  refine wF_while (I := fun m st => ∃ i : Nat, st = [.val (dSt (stOf T H)), .val (dSt (stOf U H)), .val (.int i)] ∧ i ≤ lenB T U H ∧ m = lenB T U H - i) (fun m st => ?_) _ _ ⟨0, rfl, by omega, rfl⟩
  rintro ⟨i, rfl, hi, hm⟩
  simp
  refine (wC_ret (sp_fits (by omega) hH)).mpr ?_
  simp
  by_cases e : i = lenB T U H
  · subst e
    rw [(fitsB_iff hT).mpr f1]
    simp
  · rw [f3 i (by omega)]
    simp [addG]
    exact ⟨lenB T U H - (i + 1), by omega, i + 1, by simp, by omega, rfl⟩
end K07

namespace K07
open PySem PySem.Spec PyProof.Rows L2 TK
/-! the law's own states -/
theorem sp_lstate {H : Nat} {T : Th} (hT : InH H T) (hH : H < 1000) (hl : T.length < 100000) (he : ext T ≤ 200000) : F__law_state [.val (dLT T), .val (.int H)] = some (.ret (.val (dSt (stOf T H))) none) := by
  apply ret_of
  rw [F__law_state, wC_def]
  simp [b__law_state, bindN_eq]
  refine comp_all (g := fun t => PyData.int (1 + t.1)) rfl (by rw [sizeLine_eq]; omega) (fun t ht => ?_) ?_
  · simp [bindN_eq]
  · simp
    refine ⟨by omega, ?_⟩
    rw [show PyData.int 0 :: T.map (fun t => PyData.int (1 + t.1)) = (0 :: T.map fun t => 1 + t.1).map PyData.int from by simp, maxG_list _ (by simp), maxL_ext fun t ht => (hT t ht).1]
    simp [inR_iff]
    refine ⟨by omega, ?_⟩
    refine wF_range (I := fun i st => ∃ x3 : SV, st = [.val (dLT T), .val (.int H), .own false ((tab i H (cf T)).map dT), x3, .emp, .emp, .emp] ∧ x3.isOwn = false) (fun i st hi => ?_) (fun st => ?_) _ ⟨.emp, rfl, rfl⟩
    · rintro ⟨x3, rfl, h3⟩
      simp [bindN_eq, h3, length_tab, inR_iff]
      refine ⟨by omega, ?_⟩
      rw [rangeD_nat]
      refine comp_all (g := fun k : Nat => PyData.int (cf T i k)) rfl (by rw [List.length_range, sizeLine_eq]; omega) (fun k hk => ?_) ?_
      · simp [bindN_eq]
        refine comp_of (p := fun t => decide (t = ((i : Int), (k : Int)))) (g := dP) rfl (by rw [sizeLine_eq]; omega) (fun t ht => ?_) ?_
        · simp [bindN_eq]
          obtain ⟨t1, t2⟩ := t
          by_cases q : t1 = i ∧ t2 = k
          · simp [q]
          · have : ¬ ((t1, t2) = ((i : Int), (k : Int))) := by simpa using q
            simp [q, this]
            exact fun a b => q ⟨a, b⟩
        · simp
          exact filter_cf T i k
      · simp
        refine ⟨by rw [length_tab]; omega, _, ⟨?_, rfl⟩, rfl⟩
        rw [tab_snoc]
        simp
    · rintro ⟨x3, rfl, h3⟩
      simp [stOf]
end K07

namespace K07
open PySem PySem.Spec PyProof.Rows L2 TK
/-! the law's own counts and lengths -/
theorem sp_lcount {H : Nat} {T : Th} {r k : Nat} (hk : k < H) : F__law_count [.val (dSt (stOf T H)), .val (.int r), .val (.int k)] = some (.ret (.val (.int (cf T r k))) none) := by
  apply ret_of
  rw [F__law_count, wC_def]
  have el : (stOf T H).length = ext T := by unfold stOf; rw [length_tab]
  simp [b__law_count, el]
  by_cases h : r < ext T
  · have e1 : atI (stOf T H) (r : Int) = some ((List.range H).map fun k => cf T r k) := by
      unfold stOf
      rw [atI_nat _ (by rw [length_tab]; exact h), tab_getE]
    have e2 : atI ((List.range H).map fun k => cf T r k) (k : Int) = some (cf T r k) := by
      rw [atI_nat _ (by simpa using hk)]
      simp
    simp only [h, if_true, e1, wO_some, idxS_tuple, atI_map, e2]
  · simp only [h, if_false]
    rw [cf_out fun t ht => by have := lt_ext ht; omega]
theorem sp_same {d : D} (h : plainD d = true) (hd : d.depth < 8) : F__law_same [.val d, .val d] = some (.ret (.val (.bool true)) none) := same_ok 8 _ h hd
theorem stB_at {H : Nat} {T : Th} {r : Nat} (h : r < ext T) : atI (stOf T H) (r : Int) = some ((List.range H).map fun k => cf T r k) := by
  unfold stOf
  rw [atI_nat _ (by rw [length_tab]; exact h), tab_getE]
theorem fitsB_bnd {T U : Th} {H L : Nat} : fitsB T U H L = true ↔ ∀ r, r < ext T - L → ∀ k, k < H → cf T (r + L) k ≤ cf U r k := by
  unfold fitsB stOf
  rw [tab_drop]
  unfold tab
  rw [zipIdx_range]
  simp only [List.all_map, List.all_eq_true, List.mem_range, Function.comp_def, zipIdx_range, decide_eq_true_eq]
theorem lenB_of {T U : Th} {H k : Nat} (hT : InH H T) (h : fitsB T U H k = true) (h2 : ∀ j, j < k → fitsB T U H j = false) : k = lenB T U H := by
  obtain ⟨f1, f2, f3⟩ := lenB_spec (U := U) hT
  have f1 := (fitsB_iff hT).mpr f1
  rcases Nat.lt_trichotomy k (lenB T U H) with q | q | q
  · rw [f3 k q] at h; cases h
  · exact q
  · rw [h2 _ q] at f1; cases f1
theorem sp_llength {H : Nat} {T U : Th} (hT : InH H T) (hU : InH H U) (h1 : ext T < 1000) (h2 : ext U < 1000) (hH : H < 1000) : F__law_length [.val (dSt (stOf T H)), .val (dSt (stOf U H)), .val (.int H)] = some (.ret (.val (if T.length = U.length then .int (lenB T U H) else .none)) none) := by
  apply ret_of
  rw [F__law_length, wC_def]
  have el : (stOf T H).length = ext T := by unfold stOf; rw [length_tab]
  have eu : (stOf U H).length = ext U := by unfold stOf; rw [length_tab]
  have es : ∀ V : Th, (stOf V H).map (fun row => PyData.int row.sum) = ((stOf V H).map List.sum).map PyData.int := fun V => by rw [List.map_map]; rfl
  simp [b__law_length, bindN_eq]
  refine comp_all (g := fun row => PyData.int row.sum) rfl (by rw [el, sizeLine_eq]; omega) (fun row hr => ?_) ?_
  · simp [bindN_eq]
  · rw [es]
    simp only [wO_some, wE_call1_c, frzS_own, frzS_val]
    rw [sumG_list, count_things hT]
    simp
    refine comp_all (g := fun row => PyData.int row.sum) rfl (by rw [eu, sizeLine_eq]; omega) (fun row hr => ?_) ?_
    · simp [bindN_eq]
    · rw [es]
      simp only [wO_some, wE_call1_c, frzS_own, frzS_val]
      rw [sumG_list, count_things hU]
      simp
      by_cases hl : T.length = U.length
      · rw [if_pos (by omega), if_pos hl]
        rw [el]
        refine ⟨by rw [inR_iff]; omega, ?_⟩
        refine wF_range (I := fun k st => (∃ (x3 x4 x5 x6 : SV), st = [.val (dSt (stOf T H)), .val (dSt (stOf U H)), .val (.int H), x3, x4, x5, x6] ∧ (x3.isOwn = false ∧ x4.isOwn = false ∧ x5.isOwn = false ∧ x6.isOwn = false)) ∧ ∀ j, j < k → fitsB T U H j = false) (fun k st hk => ?_) (fun st => ?_) _ ⟨⟨.emp, .emp, .emp, .emp, rfl, rfl, rfl, rfl, rfl⟩, fun j hj => by omega⟩
        · rintro ⟨⟨x3, x4, x5, x6, rfl, h3, h4, h5, h6⟩, hj⟩
          simp [bindN_eq, h3, h4, el, inR_iff]
          refine ⟨by omega, ?_⟩
          refine wF_range (I := fun r st => ∃ (o : Int) (x5 x6 : SV), st = [.val (dSt (stOf T H)), .val (dSt (stOf U H)), .val (.int H), .val (.int k), .val (.int o), x5, x6] ∧ (x5.isOwn = false ∧ x6.isOwn = false) ∧ 0 ≤ o ∧ o ≤ r * H ∧ (o = 0 ↔ ∀ r', r' < r → ∀ k', k' < H → cf T (r' + k) k' ≤ cf U r' k')) (fun r st hr => ?_) (fun st => ?_) _ ⟨0, x5, x6, rfl, ⟨h5, h6⟩, by omega, by simp, by simp⟩
          · rintro ⟨o, x5, x6, rfl, ⟨h5, h6⟩, ho, hoo, hi⟩
            simp [bindN_eq, h5, inR_iff]
            refine ⟨by omega, ?_⟩
            refine wF_range (I := fun h st => ∃ (o : Int) (x6 : SV), st = [.val (dSt (stOf T H)), .val (dSt (stOf U H)), .val (.int H), .val (.int k), .val (.int o), .val (.int r), x6] ∧ x6.isOwn = false ∧ 0 ≤ o ∧ o ≤ r * H + h ∧ (o = 0 ↔ (∀ r', r' < r → ∀ k', k' < H → cf T (r' + k) k' ≤ cf U r' k') ∧ ∀ k', k' < h → cf T (r + k) k' ≤ cf U r k')) (fun h st hh => ?_) (fun st => ?_) _ ⟨o, x6, rfl, h6, ho, by simpa using hoo, by rw [hi]; simp⟩
            · rintro ⟨o, x6, rfl, h6, ho, hoo, hi⟩
              simp [bindN_eq, h6]
              rw [show (r : Int) + k = ((r + k : Nat) : Int) by simp, stB_at (by omega)]
              simp
              rw [show atI (List.range H) (h : Int) = some h from by rw [atI_nat _ (by simpa using hh)]; simp]
              simp
              refine (wC_ret (sp_lcount hh)).mpr ?_
              simp
              refine ⟨_, _, ⟨rfl, rfl⟩, rfl, by split <;> omega, by split <;> omega, ?_⟩
              constructor
              · intro e
                have e1 : o = 0 ∧ ¬ cf U r h < cf T (r + k) h := by
                  split at e
                  · omega
                  · rename_i q; exact ⟨by omega, q⟩
                obtain ⟨a, b⟩ := hi.mp e1.1
                refine ⟨a, fun k' hk' => ?_⟩
                by_cases q : k' = h
                · subst q; omega
                · exact b k' (by omega)
              · rintro ⟨a, b⟩
                have := b h (by omega)
                rw [if_neg (by omega), hi.mpr ⟨a, fun k' hk' => b k' (by omega)⟩]
                rfl
            · rintro ⟨o, x6, rfl, h6, ho, hoo, hi⟩
              refine ⟨o, _, _, rfl, ⟨rfl, h6⟩, ho, by rw [Int.add_mul, Int.one_mul]; omega, ?_⟩
              rw [hi]
              constructor
              · rintro ⟨a, b⟩ r' hr' k' hk'
                by_cases e : r' = r
                · subst e; exact b k' hk'
                · exact a r' (by omega) k' hk'
              · intro a
                exact ⟨fun r' hr' => a r' (by omega), a r (by omega)⟩
          · rintro ⟨o, x5, x6, rfl, ⟨h5, h6⟩, ho, hoo, hi⟩
            have hfb : o = 0 ↔ fitsB T U H k = true := hi.trans fitsB_bnd.symm
            simp
            split
            · rename_i e
              rw [lenB_of hT (hfb.mp e) hj]
            · rename_i e
              refine ⟨⟨_, _, _, _, ⟨rfl, rfl, rfl, rfl⟩, rfl, rfl, h5, h6⟩, fun j hjk => ?_⟩
              by_cases q : j = k
              · subst q
                cases hh : fitsB T U H j with
                | false => rfl
                | true => exact absurd (hfb.mpr hh) e
              · exact hj j (by omega)
        · rintro ⟨_, hj⟩
          have := hj (ext T) (by omega)
          rw [fits_end] at this
          cases this
      · rw [if_neg (by omega)]
        simp [hl]
end K07

namespace K07
open PySem PySem.Spec PyProof.Rows L2 TK
theorem sp_lthings (t : Tape) {H n far : Nat} (h0 : 0 < H) (hH : H < 1000) (hn : n < 100000) (hf0 : 0 < far) (hf : far < 1000) : ∃ (T : Th) (t' : Tape), F__law_things [.own true t.ds, .val (.int H), .val (.int n), .val (.int far)] = some (.ret (.own false (T.map dP)) (some t'.ds)) ∧ InH H T ∧ T.length = n ∧ ext T ≤ far := by
  have h : wC F__law_things [.own true t.ds, .val (.int H), .val (.int n), .val (.int far)] (fun r io => ∃ (T : Th) (t' : Tape), r = .own false (T.map dP) ∧ io = some t'.ds ∧ InH H T ∧ T.length = n ∧ ext T ≤ far) fun _ _ => False := by
    rw [F__law_things, wC_def]
    simp [b__law_things, bindN_eq, inR_iff]
    refine ⟨by omega, ?_⟩
    rw [rangeD_nat]
    refine comp_walk (s := ⟨(List.range n).map fun k : Nat => PyData.int k, none⟩) (J := fun (ks : List Nat) acc st => ∃ (t : Tape) (T : Th), st = [.own true t.ds, .val (.int H), .val (.int n), .val (.int far), .emp] ∧ acc = T.map dP ∧ InH H T ∧ T.length + ks.length = n ∧ ∀ u ∈ T, u.1 < far) (fun _ _ _ _ => rfl) (fun k ks acc st => ?_) (fun acc st => ?_) _ [] _ ⟨t, [], rfl, rfl, fun u hu => (by cases hu), by simp, fun u hu => (by cases hu)⟩
    · rintro ⟨t, T, rfl, rfl, hT, hl, hb⟩
      rw [List.length_cons] at hl
      unfold oneC
      simp [bindN_eq]
      refine wC_take (by omega) (by omega) fun v t v0 v1 => ?_
      simp
      refine wC_take (by omega) (by omega) fun w t w0 w1 => ?_
      simp
      refine ⟨by omega, ⟨t, rfl⟩, T ++ [(v, w)], by simp, ?_, by simp; omega, ?_⟩
      · refine hT.app fun u hu => ?_
        rw [List.mem_singleton.mp hu]
        exact ⟨v0, w0, w1⟩
      · intro a b hm
        rcases List.mem_append.mp hm with q | q
        · exact hb _ q
        · cases List.mem_singleton.mp q
          exact v1
    · rintro ⟨t, T, rfl, rfl, hT, hl, hb⟩
      simp
      exact ⟨T, rfl, ⟨t, rfl⟩, hT, by simpa using hl, ext_le.mpr fun u hu => hb u hu⟩
  obtain ⟨r, io, e, T, t', rfl, rfl, q⟩ := rets_of h
  exact ⟨T, t', e, q⟩
end K07

namespace K07
open PySem PySem.Spec PyProof.Rows L2 TK
/-! the small ones -/
def bitP (c k : Nat) : Bool := decide (c / 2 ^ k % 2 = 1)
def bits (c : Nat) : List Int := ((List.range 4).filter (bitP c)).map fun k : Nat => (k : Int)
def smallR (m : Nat) : List (List Int) := ((List.range 16).map bits).filter fun b => decide (b.length = m)
theorem pow_at (k : Nat) (h : k < 4) : atI [PyData.int 1, PyData.int 2, PyData.int 4, PyData.int 8] (k : Int) = some (.int ((2 ^ k : Nat) : Int)) := by
  rcases (show k = 0 ∨ k = 1 ∨ k = 2 ∨ k = 3 by omega) with rfl | rfl | rfl | rfl <;> rfl
theorem sp_small (m : Nat) (hm : m < 100) : F__law_small [.val (.int m)] = some (.ret (.val (.list ((smallR m).map dT))) none) := by
  apply ret_of
  rw [F__law_small, wC_def]
  simp [b__law_small, bindN_eq, inR_iff]
  refine wF_range (I := fun i st => ∃ (x2 x3 : SV), st = [.val (.int m), .own false ((((List.range i).map bits).filter fun b => decide (b.length = m)).map dT), x2, x3, .emp] ∧ (x2.isOwn = false ∧ x3.isOwn = false)) (fun i st hi => ?_) (fun st => ?_) _ ⟨.emp, .emp, rfl, rfl, rfl⟩
  · rintro ⟨x2, x3, rfl, h2, h3⟩
    simp [bindN_eq, h2, inR_iff]
    rw [rangeD_nat]
    refine comp_of (p := bitP i) (g := fun k : Nat => PyData.int k) rfl (by simp) (fun k hk => ?_) ?_
    · have hk4 : k < 4 := List.mem_range.mp hk
      have e : ∀ k : Nat, k < 4 → ∀ st, divS st (.val (.int i)) (.val (.int ((2 ^ k : Nat) : Int))) = some (.val (.int ((i / 2 ^ k : Nat) : Int))) := fun k hk st => by
        rcases (show k = 0 ∨ k = 1 ∨ k = 2 ∨ k = 3 by omega) with rfl | rfl | rfl | rfl <;> simp
      have b : decide (((i / 2 ^ k : Nat) : Int) % 2 = 1) = bitP i k := by
        unfold bitP
        rw [decide_eq_decide]
        omega
      simp only [bindN_eq]
      simp [pow_at k hk4]
      have e2 := e k hk4
      push_cast at e2
      simp only [e2, wO_some]
      simpa using b
    · have hl : (bits i).length = (List.filter (bitP i) (List.range 4)).length := by simp [bits]
      have hb : (List.filter (fun b => decide (b.length = m)) (List.map bits (List.range i))).length ≤ i := Nat.le_trans (List.length_filter_le _ _) (by simp)
      have ex : ∀ acc : List (List Int), List.filter (fun b => decide (b.length = m)) (acc ++ [bits i]) = List.filter (fun b => decide (b.length = m)) acc ++ if (bits i).length = m then [bits i] else [] := fun acc => by
        rw [List.filter_append]
        by_cases h : (bits i).length = m <;> simp [h]
      simp [h3]
      rw [show List.range (i + 1) = List.range i ++ [i] from List.range_succ, List.map_append, List.map_singleton, ex]
      have hc : ((List.filter (bitP i) (List.range 4)).length : Int) = (m : Int) ↔ (bits i).length = m := by omega
      by_cases h : (bits i).length = m
      · rw [if_pos (hc.mpr h), if_pos h]
        refine ⟨by omega, _, _, ⟨?_, rfl, rfl⟩, rfl, rfl⟩
        simp [bits]
      · rw [if_neg (fun q => h (hc.mp q)), if_neg h]
        exact ⟨_, _, ⟨by simp, rfl, rfl⟩, rfl, rfl⟩
  · rintro ⟨x2, x3, rfl, h2, h3⟩
    simp [smallR]
/-- all rows to which one beat leads -/
def nextP (b : List Int) : List (List Int) :=
  if (0 : Int) ∈ b then (((List.range 7).map fun k : Nat => (k : Int) + 1).filter fun h => decide (h ∉ b)).map fun h => isort ((b.filter fun x => decide (0 < x)).map (· - 1) ++ [h - 1])
  else [b.map (· - 1)]
def nextI (b : List Int) (i : Nat) : List (List Int) := (((List.range i).map fun k : Nat => (k : Int) + 1).filter fun h => decide (h ∉ b)).map fun h => isort ((b.filter fun x => decide (0 < x)).map (· - 1) ++ [h - 1])
theorem nextI_succ (b : List Int) (i : Nat) : nextI b (i + 1) = nextI b i ++ if ((i : Int) + 1) ∈ b then [] else [isort ((b.filter fun x => decide (0 < x)).map (· - 1) ++ [(i : Int) + 1 - 1])] := by
  unfold nextI
  rw [List.range_succ, List.map_append, List.filter_append, List.map_append, List.map_singleton]
  congr 1
  by_cases h : ((i : Int) + 1) ∈ b <;> simp [h]
theorem length_nextI (b : List Int) (i : Nat) : (nextI b i).length ≤ i := by
  unfold nextI
  rw [List.length_map]
  exact Nat.le_trans (List.length_filter_le _ _) (by simp)
theorem sp_next (b : List Int) (hb : b.length < 1000) : F__law_next [.val (dT b)] = some (.ret (if (0 : Int) ∈ b then .val (.list ((nextP b).map dT)) else .own false ((nextP b).map dT)) none) := by
  apply ret_of
  rw [F__law_next, wC_def]
  by_cases h0 : (0 : Int) ∈ b
  · have e : nextP b = nextI b 7 := by unfold nextP; rw [if_pos h0]; rfl
    rw [e]
    simp [b__law_next, bindN_eq, inR_iff, h0]
    refine wF_range (I := fun i st => ∃ x2 : SV, st = [.val (dT b), .own false ((nextI b i).map dT), x2, .emp] ∧ x2.isOwn = false) (fun i st hi => ?_) (fun st => ?_) _ ⟨.emp, rfl, rfl⟩
    · rintro ⟨x2, rfl, h2⟩
      have hln := length_nextI b i
      have hfl := List.length_filter_le (fun x => decide ((0 : Int) < x)) b
      rw [nextI_succ]
      simp [bindN_eq, h2]
      rw [show (1 : Int) + i = (i : Int) + 1 by omega]
      by_cases hm : ((i : Int) + 1) ∈ b
      · simp [hm]
      · simp [hm]
        refine comp_of (p := fun x : Int => decide (0 < x)) (g := fun x : Int => PyData.int (x - 1)) rfl (by rw [sizeLine_eq]; omega) (fun x hx => ?_) ?_
        · simp [bindN_eq]
        · simp
          refine ⟨by omega, ?_⟩
          rw [show (List.map (fun x => PyData.int (x - 1)) (List.filter (fun x => decide (0 < x)) b) ++ [PyData.int (i : Int)]) = (List.map (fun x => x - 1) (List.filter (fun x => decide (0 < x)) b) ++ [(i : Int)]).map PyData.int by simp]
          rw [sortG_list]
          simp
          omega
    · rintro ⟨x2, rfl, h2⟩
      simp
  · unfold nextP
    simp [b__law_next, bindN_eq, inR_iff, h0]
    refine comp_all (g := fun x : Int => PyData.int (x - 1)) rfl (by rw [sizeLine_eq]; omega) (fun x hx => ?_) ?_
    · simp [bindN_eq]
    · simp
/-! the walk -/
abbrev Met := List (List Int × Int)
def metIn (m : Met) (k : List Int) : Bool := (dGet m k).isSome
/-- one row is looked at in a turn -/
def seeP (t : Int) (s : Met × List (List Int)) (o : List Int) : Met × List (List Int) := if metIn s.1 o then s else (dPut s.1 o (t + 1), s.2 ++ [o])
def turnP (t : Int) (s : Met × List (List Int)) : Met × List (List Int) := s.2.foldl (fun s b => (nextP b).foldl (seeP t) s) (s.1, [])
def walkP (f : List Int) : Nat → Met × List (List Int)
  | 0 => ([(f, 0)], [f])
  | n + 1 => turnP n (walkP f n)
def dMet (m : Met) : List (List Int × D) := m.map fun p => (p.1, PyData.int p.2)
theorem dGet_met (m : Met) (k : List Int) : dGet (dMet m) k = (dGet m k).map PyData.int := by
  induction m with
  | nil => rfl
  | cons p m ih =>
    by_cases h : p.1 = k
    · simp [dGet, dMet, List.find?_cons, h]
    · have e1 : dGet (dMet (p :: m)) k = dGet (dMet m) k := by simp [dGet, dMet, List.find?_cons, h]
      have e2 : dGet (p :: m) k = dGet m k := by simp [dGet, List.find?_cons, h]
      rw [e1, e2, ih]
theorem dPut_met (m : Met) (k : List Int) (v : Int) : dPut (dMet m) k (.int v) = dMet (dPut m k v) := by
  unfold dPut dMet
  rw [List.any_map]
  have e : ((fun kv : List Int × D => decide (kv.1 = k)) ∘ fun p : List Int × Int => (p.1, PyData.int p.2)) = fun kv => decide (kv.1 = k) := rfl
  rw [e]
  split
  · rw [List.map_map, List.map_map]
    refine List.map_congr_left fun p _ => ?_
    show (if p.1 = k then _ else _) = _
    by_cases h : p.1 = k <;> simp [h]
  · simp
theorem length_dPut (m : Met) (k : List Int) (v : Int) : (dPut m k v).length ≤ m.length + 1 := by
  unfold dPut
  split <;> simp
theorem see_len (t : Int) (s : Met × List (List Int)) (o : List Int) : (seeP t s o).1.length ≤ s.1.length + 1 ∧ (seeP t s o).2.length ≤ s.2.length + 1 := by
  unfold seeP
  split
  · exact ⟨by omega, by omega⟩
  · exact ⟨length_dPut _ _ _, by simp⟩
theorem length_nextP (b : List Int) : (nextP b).length ≤ 7 := by
  unfold nextP
  split
  · rw [List.length_map]
    exact Nat.le_trans (List.length_filter_le _ _) (by simp)
  · simp
theorem mem_nextP {b o : List Int} (h : o ∈ nextP b) : o.length ≤ b.length + 1 := by
  unfold nextP at h
  split at h
  · obtain ⟨x, _, rfl⟩ := List.mem_map.mp h
    have := List.length_filter_le (fun x => decide ((0 : Int) < x)) b
    simp
    omega
  · simp at h
    rw [h]
    simp
/-- all rows of a level are short -/
theorem sp_walk (f : List Int) (hf : f.length ≤ 10) : F__law_walk [.val (dT f)] = some (.ret (.dct true (dMet (walkP f 4).1)) none) := by
  apply ret_of
  rw [F__law_walk, wC_def]
  simp [b__law_walk, bindN_eq, inR_iff]
  refine wF_range (I := fun i st => ∃ (x3 x4 x5 x6 : SV), st = [.val (dT f), .dct true (dMet (walkP f i).1), .val (.list ((walkP f i).2.map dT)), x3, x4, x5, x6] ∧ (x3.isOwn = false ∧ x4.isOwn = false ∧ x5.isOwn = false ∧ x6.isOwn = false) ∧ (walkP f i).1.length ≤ 8 ^ i ∧ (walkP f i).2.length ≤ 7 ^ i ∧ ∀ o ∈ (walkP f i).2, o.length ≤ 10 + i) (fun i st hi => ?_) (fun st => ?_) _
    ⟨.emp, .emp, .emp, .emp, rfl, ⟨rfl, rfl, rfl, rfl⟩, by simp [walkP], by simp [walkP], fun o ho => by simp [walkP] at ho; rw [ho]; exact hf⟩
  · rintro ⟨x3, x4, x5, x6, rfl, ⟨h3, h4, h5, h6⟩, l1, l2, l3⟩
    simp [bindN_eq, h3]
    have p8 : (8 : Nat) ^ (i + 1) ≤ 100000 := by
      rcases (show i = 0 ∨ i = 1 ∨ i = 2 ∨ i = 3 by omega) with rfl | rfl | rfl | rfl <;> decide
    have p7 : (7 : Nat) ^ (i + 1) ≤ 100000 := by
      rcases (show i = 0 ∨ i = 1 ∨ i = 2 ∨ i = 3 by omega) with rfl | rfl | rfl | rfl <;> decide
    have p78 : (7 : Nat) ^ i ≤ 8 ^ i := Nat.pow_le_pow_left (by omega) i
    have q8 : (8 : Nat) ^ (i + 1) = 8 ^ i + 7 * 8 ^ i := by rw [Nat.pow_succ]; omega
    have q7 : (7 : Nat) ^ (i + 1) = 7 * 7 ^ i := by rw [Nat.pow_succ]; omega
    refine wF_walk (I := fun (E : List (List Int)) st => ∃ (s : Met × List (List Int)) (x5 x6 : SV), st = [.val (dT f), .dct true (dMet s.1), .val (.list ((walkP f i).2.map dT)), .val (.int i), .own false (s.2.map dT), x5, x6] ∧ (x5.isOwn = false ∧ x6.isOwn = false) ∧
      E.foldl (fun s b => (nextP b).foldl (seeP i) s) s = walkP f (i + 1) ∧ s.1.length + 7 * E.length ≤ 8 ^ (i + 1) ∧ s.2.length + 7 * E.length ≤ 7 ^ (i + 1) ∧ (∀ o ∈ s.2, o.length ≤ 10 + (i + 1)) ∧ ∀ o ∈ E, o.length ≤ 10 + i) (fun b E st => ?_) (fun st => ?_) _ _
      ⟨((walkP f i).1, []), x5, x6, rfl, ⟨h5, h6⟩, rfl, by dsimp only; omega, by dsimp only [List.length_nil]; omega, by simp, l3⟩
    · rintro ⟨s, x5, x6, rfl, ⟨h5, h6⟩, hs, m1, m2, m3, m4⟩
      rw [List.length_cons] at m1 m2
      have hb := m4 b (by simp)
      have hnl := length_nextP b
      rw [List.foldl_cons] at hs
      simp [bindN_eq, h5]
      refine (wC_ret (sp_next b (by omega))).mpr ?_
      have key : wF (forL (bindN 6) (ifF (dNotInT 1 (varS 6)) (seqS (TK.putF 1 (varS 6) (binS addS (varS 3) (conS (PyData.int 1)))) (exprF (appendS 4 (varS 6)))) nilS) ((nextP b).map dT)) [.val (dT f), .dct true (dMet s.1), .val (.list ((walkP f i).2.map dT)), .val (.int i), .own false (s.2.map dT), .val (dT b), x6] (fun o => ∃ (s : Met × List (List Int)) (x5 x6 : SV), o = .nx [.val (dT f), .dct true (dMet s.1), .val (.list ((walkP f i).2.map dT)), .val (.int i), .own false (s.2.map dT), x5, x6] ∧ (x5.isOwn = false ∧ x6.isOwn = false) ∧
      E.foldl (fun s b => (nextP b).foldl (seeP i) s) s = walkP f (i + 1) ∧ s.1.length + 7 * E.length ≤ 8 ^ (i + 1) ∧ s.2.length + 7 * E.length ≤ 7 ^ (i + 1) ∧ (∀ o ∈ s.2, o.length ≤ 10 + (i + 1)) ∧ ∀ o ∈ E, o.length ≤ 10 + i) := by
        refine wF_walk (I := fun (N : List (List Int)) st => ∃ (s : Met × List (List Int)) (x6 : SV), st = [.val (dT f), .dct true (dMet s.1), .val (.list ((walkP f i).2.map dT)), .val (.int i), .own false (s.2.map dT), .val (dT b), x6] ∧ x6.isOwn = false ∧
          E.foldl (fun s b => (nextP b).foldl (seeP i) s) (N.foldl (seeP i) s) = walkP f (i + 1) ∧ s.1.length + 7 * E.length + N.length ≤ 8 ^ (i + 1) ∧ s.2.length + 7 * E.length + N.length ≤ 7 ^ (i + 1) ∧ (∀ o ∈ s.2, o.length ≤ 10 + (i + 1)) ∧ ∀ o ∈ N, o.length ≤ 10 + (i + 1)) (fun o N st => ?_) (fun st => ?_) _ _
          ⟨s, x6, rfl, h6, hs, by omega, by omega, m3, fun o ho => by have := mem_nextP ho; omega⟩
        · rintro ⟨s, x6, rfl, h6, hs, m1, m2, m3, m5⟩
          have ho := m5 o (by simp)
          rw [List.length_cons] at m1 m2
          rw [List.foldl_cons] at hs
          obtain ⟨g1, g2⟩ := see_len i s o
          have hln : (dMet s.1).length = s.1.length := by simp [dMet]
          unfold seeP at hs g1 g2
          simp [bindN_eq, h6]
          rw [dGet_met]
          by_cases hm : metIn s.1 o = true
          · rw [if_pos hm] at hs
            have : (dGet s.1 o).isSome = true := hm
            obtain ⟨v, hv⟩ := Option.isSome_iff_exists.mp this
            simp [hv]
            exact ⟨_, _, _, ⟨rfl, rfl, rfl⟩, rfl, hs, by omega, by omega, m3, fun o' ho' => m5 o' (by simp [ho'])⟩
          · rw [if_neg hm] at hs g1 g2
            have hv : dGet s.1 o = none := by simpa [metIn] using hm
            simp [hv]
            refine ⟨by omega, by omega, dPut s.1 o (i + 1), s.2 ++ [o], _, ⟨dPut_met _ _ _, by simp, rfl⟩, rfl, hs, by dsimp only at g1; omega, by simp; omega, fun o' ho' => ?_, fun o' ho' => m5 o' (by simp [ho'])⟩
            rcases List.mem_append.mp ho' with q | q
            · exact m3 o' q
            · rw [List.mem_singleton.mp q]; exact ho
        · rintro ⟨s, x6, rfl, h6, hs, m1, m2, m3, m5⟩
          exact ⟨s, _, _, rfl, ⟨rfl, h6⟩, hs, by simpa using m1, by simpa using m2, m3, fun o ho => m4 o (by simp [ho])⟩
      by_cases h0 : (0 : Int) ∈ b
      · rw [if_pos h0]
        simp
        refine key.mono ?_
        intro o q
        obtain ⟨s, x5, x6, rfl, q⟩ := q
        simp
        exact ⟨s.1, s.2, x5, x6, ⟨rfl, rfl, rfl, rfl⟩, q.1, by simpa using q.2⟩
      · rw [if_neg h0]
        simp
        refine key.mono ?_
        intro o q
        obtain ⟨s, x5, x6, rfl, q⟩ := q
        simp
        exact ⟨s.1, s.2, x5, x6, ⟨rfl, rfl, rfl, rfl⟩, q.1, by simpa using q.2⟩
    · rintro ⟨s, x5, x6, rfl, ⟨h5, h6⟩, hs, m1, m2, m3, m4⟩
      have hs : s = walkP f (i + 1) := hs
      subst hs
      simp [bindN_eq]
      exact ⟨_, _, _, _, ⟨rfl, rfl, rfl, rfl⟩, ⟨rfl, rfl, h5, h6⟩, by simpa using m1, by simpa using m2, m3⟩
  · rintro ⟨x3, x4, x5, x6, rfl, ⟨h3, h4, h5, h6⟩, l1, l2, l3⟩
    simp
/-! what the walk finds, by reckoning -/
def insI (x : Int) : List Int → List Int
  | [] => [x]
  | y :: ys => if x ≤ y then x :: y :: ys else y :: insI x ys
def isI : List Int → List Int
  | [] => []
  | x :: xs => insI x (isI xs)
theorem insI_perm (x : Int) : ∀ ys : List Int, (insI x ys).Perm (x :: ys)
  | [] => List.Perm.refl _
  | y :: ys => by
    unfold insI
    split
    · exact List.Perm.refl _
    · exact ((insI_perm x ys).cons y).trans (List.Perm.swap x y ys)
theorem isI_perm : ∀ xs : List Int, (isI xs).Perm xs
  | [] => List.Perm.refl _
  | x :: xs => (insI_perm x _).trans ((isI_perm xs).cons x)
theorem insI_sorted (x : Int) : ∀ ys : List Int, ys.Pairwise (· ≤ ·) → (insI x ys).Pairwise (· ≤ ·)
  | [], _ => by simp [insI]
  | y :: ys, h => by
    obtain ⟨h1, h2⟩ := List.pairwise_cons.mp h
    unfold insI
    split
    · rename_i q
      refine List.pairwise_cons.mpr ⟨fun z hz => ?_, h⟩
      rcases List.mem_cons.mp hz with rfl | hz
      · exact q
      · exact Int.le_trans q (h1 z hz)
    · rename_i q
      refine List.pairwise_cons.mpr ⟨fun z hz => ?_, insI_sorted x ys h2⟩
      rcases List.mem_cons.mp ((insI_perm x ys).mem_iff.mp hz) with rfl | hz
      · omega
      · exact h1 z hz
theorem isI_sorted : ∀ xs : List Int, (isI xs).Pairwise (· ≤ ·)
  | [] => List.Pairwise.nil
  | x :: xs => insI_sorted x _ (isI_sorted xs)
theorem isort_isI (xs : List Int) : isort xs = isI xs :=
  List.Perm.eq_of_pairwise (le := (· ≤ ·)) (fun a b _ _ h1 h2 => Int.le_antisymm h1 h2) (isort_sorted _) (isI_sorted xs) ((isort_perm _).trans (isI_perm xs).symm)
def nextK (b : List Int) : List (List Int) :=
  if (0 : Int) ∈ b then (((List.range 7).map fun k : Nat => (k : Int) + 1).filter fun h => decide (h ∉ b)).map fun h => isI ((b.filter fun x => decide (0 < x)).map (· - 1) ++ [h - 1])
  else [b.map (· - 1)]
theorem next_K (b : List Int) : nextP b = nextK b := by
  unfold nextP nextK
  simp only [isort_isI]
def walkK (f : List Int) : Nat → Met × List (List Int)
  | 0 => ([(f, 0)], [f])
  | n + 1 => (walkK f n).2.foldl (fun s b => (nextK b).foldl (seeP n) s) ((walkK f n).1, [])
theorem walk_K (f : List Int) : ∀ n, walkP f n = walkK f n
  | 0 => rfl
  | n + 1 => by
    rw [walkP, turnP, walkK, walk_K f n]
    simp only [next_K]
/-- the things of a row -/
def thB (b : List Int) : Th := b.map fun x => (x, 0)
theorem table : ((List.range 4).all fun m => (smallR m).all fun f => (smallR m).all fun o => decide (dGet (walkK f 4).1 o = some ((lenB (thB f) (thB o) 1 : Nat) : Int))) = true := by decide +kernel
theorem small_mem {m : Nat} {b : List Int} (h : b ∈ smallR m) : b.length = m ∧ b.length ≤ 4 ∧ ∀ x ∈ b, 0 ≤ x ∧ x < 4 := by
  unfold smallR at h
  obtain ⟨h1, h2⟩ := List.mem_filter.mp h
  obtain ⟨c, _, rfl⟩ := List.mem_map.mp h1
  refine ⟨by simpa using h2, ?_, fun x hx => ?_⟩
  · unfold bits
    rw [List.length_map]
    exact Nat.le_trans (List.length_filter_le _ _) (by simp)
  · unfold bits at hx
    obtain ⟨k, hk, rfl⟩ := List.mem_map.mp hx
    have := List.mem_range.mp (List.mem_filter.mp hk).1
    omega
theorem thB_ok {m : Nat} {b : List Int} (h : b ∈ smallR m) : InH 1 (thB b) ∧ ext (thB b) ≤ 4 ∧ (thB b).length = m := by
  obtain ⟨h1, h2, h3⟩ := small_mem h
  refine ⟨fun t ht => ?_, ext_le.mpr fun t ht => ?_, by unfold thB; rw [List.length_map]; exact h1⟩
  · obtain ⟨x, hx, rfl⟩ := List.mem_map.mp ht
    have := h3 x hx
    exact ⟨this.1, by dsimp only; omega, by dsimp only; omega⟩
  · obtain ⟨x, hx, rfl⟩ := List.mem_map.mp ht
    have := h3 x hx
    dsimp only
    omega
theorem small_table {m : Nat} (hm : m < 4) {f o : List Int} (hf : f ∈ smallR m) (ho : o ∈ smallR m) : dGet (walkP f 4).1 o = some ((lenB (thB f) (thB o) 1 : Nat) : Int) := by
  rw [walk_K]
  exact of_decide_eq_true (List.all_eq_true.mp (List.all_eq_true.mp (List.all_eq_true.mp table m (List.mem_range.mpr hm)) f hf) o ho)
theorem small_ne : ((List.range 4).all fun m => decide (0 < (smallR m).length ∧ (smallR m).length < 100)) = true := by decide +kernel
theorem sp_blenX {H : Nat} {T U : Th} (hT : InH H T) (hU : InH H U) (h1 : ext T < 100000) (h2 : ext U < 100000) (hl : T.length ≠ U.length) : F_bridge_length [.val (dSt (stOf T H)), .val (dSt (stOf U H))] = some (.ex ⟨"NoBridge", []⟩ none) := by
  apply ex_of
  rw [F_bridge_length, wC_def]
  simp [b_bridge_length, bindN_eq]
  refine (wC_ret (sp_count hT (by omega))).mpr ?_
  simp
  refine (wC_ret (sp_count hU (by omega))).mpr ?_
  simp [hl]
  intro h
  omega
theorem any4 (st : List SV) (a b c d : Bool) : anyS st (.val (.list [.bool a, .bool b, .bool c, .bool d])) = some (.val (.bool (a || b || c || d))) := by
  simp [anyS, boolsOf, Bool.or_assoc]
theorem sp_refused {H : Nat} {T U : Th} (hT : InH H T) (hU : InH H U) (h1 : ext T < 100000) (h2 : ext U < 100000) (hl : T.length ≠ U.length) : F__law_refused [.val (dSt (stOf T H)), .val (dSt (stOf U H))] = some (.ret (.val (.bool true)) none) := by
  apply ret_of
  rw [F__law_refused, wC_def]
  simp [b__law_refused]
  refine wF_tryE ?_
  simp
  refine (wC_ex (sp_blenX hT hU h1 h2 hl)).mpr ?_
  simp [bindN_eq, any4]
theorem sp_told {H : Nat} {T U : Th} (hT : InH H T) (hU : InH H U) (h1 : ext T < 100000) (h2 : ext U < 100000) (hH : H < 1000) : F__law_told [.val (dSt (stOf T H)), .val (dSt (stOf U H)), .val (if T.length = U.length then .int (lenB T U H : Nat) else .none)] = some (.ret (.val (.bool true)) none) := by
  apply ret_of
  rw [F__law_told, wC_def]
  by_cases hl : T.length = U.length
  · simp [b__law_told, hl]
    refine (wC_ret (sp_blen hT hU h1 h2 hH hl)).mpr ?_
    simp
    refine (wC_ret (sp_same (d := .int (lenB T U H : Nat)) rfl (by simp [PyData.depth]))).mpr ?_
    simp
  · simp [b__law_told, hl]
    refine (wC_ret (sp_refused hT hU h1 h2 hl)).mpr ?_
    simp
def Fin (ns : List Int) (o : Fl) : Prop := ∃ x1 x5 x6 x7 x8 x9 x10 : SV, o = .nx [.scr ns, x1, .emp, .emp, .emp, x5, x6, x7, x8, x9, x10, .emp, .emp, .emp] ∧ (x1.isOwn = false ∧ x5.isOwn = false ∧ x7.isOwn = false ∧ x8.isOwn = false ∧ x9.isOwn = false ∧ x10.isOwn = false)
theorem l1 {ns : List Int} {t : Tape} {H : Nat} {x1 x5 x8 x9 x10 : SV} (h0 : 0 < H) (hH : H ≤ 3) (h1 : x1.isOwn = false) (h5 : x5.isOwn = false) (h8 : x8.isOwn = false) (h9 : x9.isOwn = false) (h10 : x10.isOwn = false) :
    wF r_law_3 [.scr ns, x1, .emp, .emp, .emp, x5, .own false t.ds, .val (.int H), x8, x9, x10, .emp, .emp, .emp] (Fin ns) := by
  simp [r_law_3]
  refine wC_take (by omega) (by omega) fun n t n0 n1 => ?_
  obtain ⟨n, rfl⟩ : ∃ a : Nat, n = a := ⟨n.toNat, by omega⟩
  simp [bindN_eq, h8, r_law_2]
  refine wC_take (by omega) (by omega) fun k t k0 k1 => ?_
  obtain ⟨far, ef, hf0, hf⟩ : ∃ a : Nat, atI [PyData.int 3, PyData.int 12] k = some (.int (a : Int)) ∧ 0 < a ∧ a ≤ 12 := by
    rcases (show k = 0 ∨ k = 1 by omega) with rfl | rfl
    · exact ⟨3, rfl, by omega, by omega⟩
    · exact ⟨12, rfl, by omega, by omega⟩
  simp [ef]
  obtain ⟨T, t', e, hT, hTl, hTe⟩ := sp_lthings t (n := n) (far := far) h0 (by omega) (by omega) hf0 (by omega)
  refine (wC_ret e).mpr ?_
  simp
  refine (wC_ret (sp_lstate hT (by omega) (by omega) (by omega))).mpr ?_
  simp [bindN_eq, h9, r_law_1]
  refine wC_take (by omega) (by omega) fun k t k0 k1 => ?_
  obtain ⟨d, ed, hd0, hd⟩ : ∃ d : Int, atI [PyData.int 0, PyData.int 0, PyData.int 0, PyData.int 0, PyData.int 1, PyData.int (-1)] k = some (.int d) ∧ -1 ≤ d ∧ d ≤ 1 := by
    rcases (show k = 0 ∨ k = 1 ∨ k = 2 ∨ k = 3 ∨ k = 4 ∨ k = 5 by omega) with rfl | rfl | rfl | rfl | rfl | rfl
    · exact ⟨0, rfl, by omega, by omega⟩
    · exact ⟨0, rfl, by omega, by omega⟩
    · exact ⟨0, rfl, by omega, by omega⟩
    · exact ⟨0, rfl, by omega, by omega⟩
    · exact ⟨1, rfl, by omega, by omega⟩
    · exact ⟨-1, rfl, by omega, by omega⟩
  simp [ed]
  obtain ⟨m, em, hm⟩ : ∃ m : Nat, (if 0 < (n : Int) + d then (n : Int) + d else 0) = (m : Int) ∧ m ≤ 10 := by
    split
    · exact ⟨((n : Int) + d).toNat, by omega, by omega⟩
    · exact ⟨0, rfl, by omega⟩
  have hmx : ∀ (st : List SV) (i j : Int), max2S st (.val (.int i)) (.val (.int j)) = some (.val (.int (if i < j then j else i))) := fun _ _ _ => rfl
  simp [hmx, em, bindN_eq, h10, r_law_0]
  refine wC_take (by omega) (by omega) fun k t k0 k1 => ?_
  obtain ⟨far, ef, hf0, hf⟩ : ∃ a : Nat, atI [PyData.int 3, PyData.int 12] k = some (.int (a : Int)) ∧ 0 < a ∧ a ≤ 12 := by
    rcases (show k = 0 ∨ k = 1 by omega) with rfl | rfl
    · exact ⟨3, rfl, by omega, by omega⟩
    · exact ⟨12, rfl, by omega, by omega⟩
  simp [ef]
  obtain ⟨U, t', e, hU, hUl, hUe⟩ := sp_lthings t (n := m) (far := far) h0 (by omega) (by omega) hf0 (by omega)
  refine (wC_ret e).mpr ?_
  simp
  refine (wC_ret (sp_lstate hU (by omega) (by omega) (by omega))).mpr ?_
  simp [bindN_eq, h5]
  refine (wC_ret (sp_llength hT hU (by omega) (by omega) (by omega))).mpr ?_
  simp
  refine (wC_ret (sp_told hT hU (by omega) (by omega) (by omega))).mpr ?_
  simp
  exact ⟨_, _, _, _, _, _, _, rfl, h1, rfl, rfl, rfl, rfl, rfl⟩
theorem state_one {b : List Int} {st : List SV} {m : Nat} (hb : b ∈ smallR m) : F__law_state [.val (dLT (thB b)), .val (.int 1)] = some (.ret (.val (dSt (stOf (thB b) 1))) none) := by
  obtain ⟨a1, a2, a3⟩ := thB_ok hb
  obtain ⟨b1, b2, _⟩ := small_mem hb
  exact sp_lstate (H := 1) a1 (by omega) (by omega) (by omega)
theorem law_holds (ns : List Int) (hns : ns.length ≤ 63) : ∃ io, F_law [.scr ns] = some (.ret (.val (.bool true)) io) := by
  have h : wC F_law [.scr ns] (fun r io => r = .val (.bool true)) fun _ _ => False := by
    rw [F_law, wC_def]
    simp [b_law, bindN_eq, inR_iff]
    refine wF_range (I := fun i st => Fin ns (.nx st)) (fun i st hi => ?_) (fun st => ?_) _ ⟨.emp, .emp, .emp, .emp, .emp, .emp, .emp, rfl, rfl, rfl, rfl, rfl, rfl, rfl⟩
    · rintro ⟨x1, x5, x6, x7, x8, x9, x10, e, h1, h5, h7, h8, h9, h10⟩
      cases e
      simp [bindN_eq, h1]
      refine wC_tape fun t => ?_
      simp [r_law_4]
      refine wC_take (by omega) (by omega) fun k t k0 k1 => ?_
      obtain ⟨H, hHe⟩ : ∃ a : Nat, 1 + k = a := ⟨(1 + k).toNat, by omega⟩
      simp [bindN_eq, h7, hHe]
      refine (l1 (by omega) (by omega) rfl h5 h8 h9 h10).mono ?_
      intro o q
      obtain ⟨x1, x5, x6, x7, x8, x9, x10, rfl, q⟩ := q
      simp
      exact ⟨x1, x5, x6, x7, x8, x9, x10, rfl, q⟩
    · rintro ⟨x1, x5, x6, x7, x8, x9, x10, e, h1, h5, h7, h8, h9, h10⟩
      cases e
      simp [r_law_8]
      refine wC_tape fun t => ?_
      simp
      refine wC_take (by omega) (by omega) fun m t m0 m1 => ?_
      obtain ⟨m, rfl⟩ := Int.eq_ofNat_of_zero_le m0
      have hm : m < 4 := by omega
      have hne := of_decide_eq_true (List.all_eq_true.mp small_ne m (List.mem_range.mpr hm))
      simp
      refine (wC_ret (sp_small m (by omega))).mpr ?_
      simp [bindN_eq, r_law_7]
      refine wC_tape fun t => ?_
      simp
      refine wC_take (by omega) (by omega) fun i t i0 i1 => ?_
      obtain ⟨i, rfl⟩ := Int.eq_ofNat_of_zero_le i0
      have hi : i < (smallR m).length := by omega
      simp [atI_nat _ hi, bindN_eq, r_law_6]
      have hf : (smallR m)[i] ∈ smallR m := List.getElem_mem hi
      generalize (smallR m)[i] = f at hf
      obtain ⟨f1, f2, f3⟩ := small_mem hf
      refine (wC_ret (sp_walk f (by omega))).mpr ?_
      simp [r_law_5]
      refine wF_walk (I := fun (E : List (List Int)) st => (∀ o ∈ E, o ∈ smallR m) ∧ ∃ x5 x11 : SV, st = [.scr ns, x1, .val (.list ((smallR m).map dT)), .val (dT f), .dct true (dMet (walkP f 4).1), x5, x6, x7, x8, x9, x10, x11, .emp, .emp] ∧ (x5.isOwn = false ∧ x11.isOwn = false)) (fun o E st => ?_) (fun st => ?_) _ _
        ⟨fun _ h => h, x5, .emp, rfl, h5, rfl⟩
      · rintro ⟨hE, x5, x11, rfl, h5, h11⟩
        have ho := hE o (by simp)
        simp [bindN_eq, h5]
        refine comp_all (xs := [f, o]) (f := dT) (g := fun b => dSt (stOf (thB b) 1)) rfl (by simp) (fun b hb => ?_) ?_
        · have hb : b ∈ smallR m := by
            rcases List.mem_cons.mp hb with rfl | hb
            · exact hf
            · rw [List.mem_singleton.mp hb]; exact ho
          have hbl := (small_mem hb).2.1
          simp [bindN_eq]
          refine comp_all (g := fun x : Int => dP (x, 0)) rfl (by rw [sizeLine_eq]; omega) (fun x hx => ?_) ?_
          · simp [bindN_eq]
          · rw [show b.map (fun x : Int => dP (x, 0)) = (thB b).map dP by unfold thB; rw [List.map_map]; rfl]
            simp
            refine (wC_ret (state_one (st := []) hb)).mpr ?_
            simp
        · have a0 : ∀ a b : D, atI [a, b] 0 = some a := fun _ _ => rfl
          have a1 : ∀ a b : D, atI [a, b] 1 = some b := fun _ _ => rfl
          obtain ⟨g1, g2, g3⟩ := thB_ok hf
          obtain ⟨k1, k2, k3⟩ := thB_ok ho
          have ht := sp_told g1 k1 (by omega) (by omega) (by omega)
          rw [if_pos (g3.trans k3.symm)] at ht
          simp [bindN_eq, h11]
          rw [dGet_met, small_table hm hf ho]
          simp [a0, a1]
          refine (wC_ret ht).mpr ?_
          simp
          exact ⟨fun o' ho' => hE o' (by simp [ho']), _, _, ⟨rfl, rfl⟩, rfl, rfl⟩
      · rintro ⟨_, x5, x11, rfl, h5, h11⟩
        simp
  obtain ⟨r, io, e, rfl⟩ := rets_of h
  exact ⟨io, e⟩
end K07

open PySem PySem.W PyProof.Rows in
set_option maxRecDepth 100000 in
set_option maxHeartbeats 0 in
theorem PySem.Challenge.cw_throwskept_k07_lengths_of_bridges_holds : PySem.Challenge.rw_throwskept_k07_lengths_of_bridges.Holds := by
  w_on; o_law; k_head; (case hw => w_witness2)
  k_fill
  refine L2.walk_of (l := PySem.Challenge.rw_throwskept_k07_lengths_of_bridges) (n := 63) (k := 11) (x := "_law_script") (CX := fun w => L2N.CX PySem.Challenge.rw_throwskept_k07_lengths_of_bridges.prog w) (sp := fun w => TK.spLaw _) rfl (by decide) rfl ⟨rfl, by decide, by decide⟩ (fun w h Y => PySem.W.kIn_of Y) ?F (fun _ _ a ns hl _ hS => ⟨a, ns, rfl, hS, hl, fun _ => rfl⟩) (fun _ _ _ _ _ h => TK.cx_false h)
  case F =>
    intro w mg fa h KX G hmg
    refine' K07.all_mk KX G hmg ?a0 ?l0 ?c0 ?k0 ?a1 ?l1 ?c1 ?k1 ?a2 ?l2 ?c2 ?k2 ?a3 ?l3 ?c3 ?k3 ?a4 ?l4 ?c4 ?k4 ?a5 ?l5 ?c5 ?k5 ?a6 ?l6 ?c6 ?k6 ?a7 ?l7 ?c7 ?k7 ?a8 ?l8 ?c8 ?k8 ?a9 ?l9 ?c9 ?k9 ?a10 ?l10 ?c10 ?k10 ?a11 ?l11 ?c11 ?k11 ?a12 ?l12 ?c12 ?k12 ?a13 ?l13 ?c13 ?k13 ?a14 ?l14 ?c14 ?k14 ?a15 ?l15 ?c15 ?k15 ?a16 ?l16 ?c16 ?k16 ?z_ValueError ?z_abs ?z_any ?z_bool ?z_enumerate ?z_int ?z_isinstance ?z_len ?z_list ?z_max ?z_range ?z_sorted ?z_str ?z_sum ?z_tuple ?ga0 ?ga1 ?ga2 ?ga3 ?ga4 ?ga5 ?hc0 ?hd0 ?hg0 ?hk0 ?hs0 ?ha0 ?hm0 ?ht0 ?hc1 ?hd1 ?hg1 ?hk1 ?hs1 ?ha1 ?hm1 ?ht1 ?hc2 ?hd2 ?hg2 ?hk2 ?hs2 ?ha2 ?hm2 ?ht2 ?hc3 ?hd3 ?hg3 ?hk3 ?hs3 ?ha3 ?hm3 ?ht3 ?hc4 ?hd4 ?hg4 ?hk4 ?hs4 ?ha4 ?hm4 ?ht4 ?hc5 ?hd5 ?hg5 ?hk5 ?hs5 ?ha5 ?hm5 ?ht5 ?ex2 ?ek2 ?su2_0 ?xn ?xt ?ik0 ?ik1 ?ik2 ?ik3 ?ik4 ?ik5 K07.law_holds
    (case a0 => k_is)
    (case l0 => k_is)
    (case c0 => k_is)
    (case k0 => k_is)
    (case a1 => k_is)
    (case l1 => k_is)
    (case c1 => k_is)
    (case k1 => k_is)
    (case a2 => k_is)
    (case l2 => k_is)
    (case c2 => k_is)
    (case k2 => k_is)
    (case a3 => k_is)
    (case l3 => k_is)
    (case c3 => k_is)
    (case k3 => k_is)
    (case a4 => k_is)
    (case l4 => k_is)
    (case c4 => k_is)
    (case k4 => k_is)
    (case a5 => k_is)
    (case l5 => k_is)
    (case c5 => k_is)
    (case k5 => k_is)
    (case a6 => k_is)
    (case l6 => k_is)
    (case c6 => k_is)
    (case k6 => k_is)
    (case a7 => k_is)
    (case l7 => k_is)
    (case c7 => k_is)
    (case k7 => k_is)
    (case a8 => k_is)
    (case l8 => k_is)
    (case c8 => k_is)
    (case k8 => k_is)
    (case a9 => k_is)
    (case l9 => k_is)
    (case c9 => k_is)
    (case k9 => k_is)
    (case a10 => k_is)
    (case l10 => k_is)
    (case c10 => k_is)
    (case k10 => k_is)
    (case a11 => k_is)
    (case l11 => k_is)
    (case c11 => k_is)
    (case k11 => k_is)
    (case a12 => k_is)
    (case l12 => k_is)
    (case c12 => k_is)
    (case k12 => k_is)
    (case a13 => k_is)
    (case l13 => k_is)
    (case c13 => k_is)
    (case k13 => k_is)
    (case a14 => k_is)
    (case l14 => k_is)
    (case c14 => k_is)
    (case k14 => k_is)
    (case a15 => k_is)
    (case l15 => k_is)
    (case c15 => k_is)
    (case k15 => k_is)
    (case a16 => k_is)
    (case l16 => k_is)
    (case c16 => k_is)
    (case k16 => k_is)
    (case z_ValueError => k_is)
    (case z_abs => k_is)
    (case z_any => k_is)
    (case z_bool => k_is)
    (case z_enumerate => k_is)
    (case z_int => k_is)
    (case z_isinstance => k_is)
    (case z_len => k_is)
    (case z_list => k_is)
    (case z_max => k_is)
    (case z_range => k_is)
    (case z_sorted => k_is)
    (case z_str => k_is)
    (case z_sum => k_is)
    (case z_tuple => k_is)
    (case ga0 => k_is)
    (case ga1 => k_is)
    (case ga2 => k_is)
    (case ga3 => k_is)
    (case ga4 => k_is)
    (case ga5 => k_is)
    (case hc0 => k_is)
    (case hd0 => k_is)
    (case hg0 => k_is)
    (case hk0 => k_is)
    (case hs0 => k_is)
    (case ha0 => k_is)
    (case hm0 => k_is)
    (case ht0 => k_is)
    (case hc1 => k_is)
    (case hd1 => k_is)
    (case hg1 => k_is)
    (case hk1 => k_is)
    (case hs1 => k_is)
    (case ha1 => k_is)
    (case hm1 => k_is)
    (case ht1 => k_is)
    (case hc2 => k_is)
    (case hd2 => k_is)
    (case hg2 => k_is)
    (case hk2 => k_is)
    (case hs2 => k_is)
    (case ha2 => k_is)
    (case hm2 => k_is)
    (case ht2 => k_is)
    (case hc3 => k_is)
    (case hd3 => k_is)
    (case hg3 => k_is)
    (case hk3 => k_is)
    (case hs3 => k_is)
    (case ha3 => k_is)
    (case hm3 => k_is)
    (case ht3 => k_is)
    (case hc4 => k_is)
    (case hd4 => k_is)
    (case hg4 => k_is)
    (case hk4 => k_is)
    (case hs4 => k_is)
    (case ha4 => k_is)
    (case hm4 => k_is)
    (case ht4 => k_is)
    (case hc5 => k_is)
    (case hd5 => k_is)
    (case hg5 => k_is)
    (case hk5 => k_is)
    (case hs5 => k_is)
    (case ha5 => k_is)
    (case hm5 => k_is)
    (case ht5 => k_is)
    (case ex2 => k_exc)
    (case ek2 => k_is)
    (case su2_0 => k_is)
    (case xn => k_is)
    (case xt => k_is)
    (case ik0 => kit_is)
    (case ik1 => kit_is)
    (case ik2 => kit_is)
    (case ik3 => kit_is)
    (case ik4 => kit_is)
    (case ik5 => kit_is)
