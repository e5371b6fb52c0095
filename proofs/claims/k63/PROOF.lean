import PyProof.Rows.All
import Wide.All
import OpenK.AllK
import Wide.FinOn
import HandS.ForMost
import HandS.ForExc
import HandS.EndTab
import HandS.ExcInit
import HandS.ExcIs
import HandS.IsInst
import HandS.CallSlots
import HandS.Flow
import HandS.Lambda
import KE.DataEq
import HandS.TupAny
import HandS.TupMul
import HandS.Style
import HandS.Walk
import HandS.Zip
import KE.DataAny
import KE.DataFind
import PyProof.SeqIndex
import HandS.TupSets
import KE.KNest
import KE.KNestM
import PySem.Challenge.RW_sortwires_k63_whole_single_ways
set_option Elab.async false
set_option linter.all false
set_option maxRecDepth 100000
set_option maxHeartbeats 4000000
namespace DL
open PySem PySem.Spec PyProof.Rows L2

/-! ## values without a heap -/
inductive D where
  | non | bl (b : Bool) | int (i : Int) | str (x : Str) | ref (a : Addr)
  | tup (l : List D) | lst (l : List D) | dct (t : Bool) (l : List (D × D)) | scr (l : List Int)

/-- the written part of the module, the addresses of its classes -/
structure Md where
  K : PySem.W.Frag
  Cn : String → Addr
  /-- the tables of code objects -/
  Tb : List (Addr × Str) := []

def kD : Key → D
  | .inl i => .int i
  | .inr x => .str x

def Sub (G G' : Hp) : Prop := ∀ a o, G a = some o → G' a = some o
theorem Sub.refl {G : Hp} : Sub G G := fun _ _ h => h
theorem Sub.trans {G G1 G2 : Hp} (a : Sub G G1) (b : Sub G1 G2) : Sub G G2 := fun x o h => b x o (a x o h)
theorem Sub.upd {G : Hp} {p : Addr} {o : HO} (h : G p = none) : Sub G (upd G p o) := fun a u e => by
  rw [upd_ne (fun z => by rw [z, h] at e; cases e)]; exact e

/-- no table stands in G -/
def NoTbl (G : Hp) : Prop := ∀ a ps, G a ≠ some (.tbl ps)
/-- no table -/
def Pl (o : HO) : Prop := ∀ ps, o ≠ .tbl ps
theorem NoTbl.upd {G : Hp} {a : Addr} {o : HO} (h : NoTbl G) (n : Pl o) : NoTbl (upd G a o) := fun b ps e => by
  by_cases hb : b = a
  · subst hb; rw [upd_same] at e; cases e; exact n ps rfl
  · rw [upd_ne hb] at e; exact h b ps e
mutual
inductive Rep (M : Md) (G : Hp) : V → D → Prop
  | non : Rep M G .non .non
  | bl (b : Bool) : Rep M G (.bl b) (.bl b)
  | int (i : Int) : Rep M G (.int i) (.int i)
  | str (x : Str) : Rep M G (.str x) (.str x)
  | fn (a : Addr) : Rep M G (.ref a) (.ref a)
  | here {a : Addr} {o : HO} {d : D} : G a = some o → ORep M G o d → Rep M G (.ref a) d
  | frz {a : Addr} {ob : Obj} {o : HO} {t : Bool} {ps : List (D × D)} : G a = some (.frz ob o) → ORep M G o (.dct t ps) → Rep M G (.ref a) (.dct t ps)
  | conT {a : Addr} {xs : List V} {ds : List D} : SqT M.K (fun _ => none) a xs → Reps M G xs ds → Rep M G (.ref a) (.tup ds)
  | scr {a : Addr} {is : List Int} : SqL M.K G a (is.map V.int) → Rep M G (.ref a) (.scr is)
inductive Reps (M : Md) (G : Hp) : List V → List D → Prop
  | nil : Reps M G [] []
  | cons {v : V} {d : D} {vs : List V} {ds : List D} : Rep M G v d → Reps M G vs ds → Reps M G (v :: vs) (d :: ds)
inductive ORep (M : Md) (G : Hp) : HO → D → Prop
  | tup {xs : List V} {ds : List D} : Reps M G xs ds → ORep M G (.tup xs) (.tup ds)
  | lst {xs : List V} {ds : List D} : Reps M G xs ds → ORep M G (.lst xs) (.lst ds)
  | dK {kvs : List (Key × V)} {ps : List (D × D)} : KReps M G kvs ps → ORep M G (.dK kvs) (.dct false ps)
  | dT {kvs : List (List Key × V)} {ps : List (D × D)} : TReps M G kvs ps → ORep M G (.dT kvs) (.dct true ps)
inductive KReps (M : Md) (G : Hp) : List (Key × V) → List (D × D) → Prop
  | nil : KReps M G [] []
  | cons {k : Key} {v : V} {d : D} {vs : List (Key × V)} {ds : List (D × D)} : Rep M G v d → KReps M G vs ds → KReps M G ((k, v) :: vs) ((kD k, d) :: ds)
inductive TReps (M : Md) (G : Hp) : List (List Key × V) → List (D × D) → Prop
  | nil : TReps M G [] []
  | cons {k : List Key} {v : V} {d : D} {vs : List (List Key × V)} {ds : List (D × D)} : Rep M G v d → TReps M G vs ds → TReps M G ((k, v) :: vs) ((.tup (k.map kD), d) :: ds)
end

theorem SqL.mono {K : PySem.W.Frag} {G G' : Hp} (s : Sub G G') {a : Addr} {xs : List V} (h : SqL K G a xs) : SqL K G' a xs := by
  rcases h with (z | ⟨o, z⟩) | z
  · exact .inl (.inl (s _ _ z))
  · exact .inl (.inr ⟨o, s _ _ z⟩)
  · exact .inr z
section
variable {M : Md} {G G' H : Hp}
mutual
theorem Rep.mono (s : Sub G G') : ∀ {v : V} {d : D}, Rep M G v d → Rep M G' v d
  | _, _, .non => .non
  | _, _, .bl b => .bl b
  | _, _, .int i => .int i
  | _, _, .str x => .str x
  | _, _, .fn a => .fn a
  | _, _, .here h r => .here (s _ _ h) (ORep.mono s r)
  | _, _, .frz h r => .frz (s _ _ h) (ORep.mono s r)
  | _, _, .conT h r => .conT h (Reps.mono s r)
  | _, _, .scr h => .scr (SqL.mono s h)
theorem Reps.mono (s : Sub G G') : ∀ {v : List V} {d : List D}, Reps M G v d → Reps M G' v d
  | _, _, .nil => .nil
  | _, _, .cons r t => .cons (Rep.mono s r) (Reps.mono s t)
theorem ORep.mono (s : Sub G G') : ∀ {o : HO} {d : D}, ORep M G o d → ORep M G' o d
  | _, _, .tup r => .tup (Reps.mono s r)
  | _, _, .lst r => .lst (Reps.mono s r)
  | _, _, .dK r => .dK (KReps.mono s r)
  | _, _, .dT r => .dT (TReps.mono s r)
theorem KReps.mono (s : Sub G G') : ∀ {v : List (Key × V)} {d : List (D × D)}, KReps M G v d → KReps M G' v d
  | _, _, .nil => .nil
  | _, _, .cons r t => .cons (Rep.mono s r) (KReps.mono s t)
theorem TReps.mono (s : Sub G G') : ∀ {v : List (List Key × V)} {d : List (D × D)}, TReps M G v d → TReps M G' v d
  | _, _, .nil => .nil
  | _, _, .cons r t => .cons (Rep.mono s r) (TReps.mono s t)
end

theorem Reps.length : ∀ {v : List V} {d : List D}, Reps M G v d → v.length = d.length
  | _, _, .nil => rfl
  | _, _, .cons _ t => congrArg (· + 1) (Reps.length t)
theorem Reps.get : ∀ {v : List V} {d : List D} {i : Nat} {x : D}, Reps M G v d → d[i]? = some x → ∃ y, v[i]? = some y ∧ Rep M G y x
  | _, _, i, x, .nil, h => by simp at h
  | _, _, 0, x, .cons r _, h => by simp at h; subst h; exact ⟨_, rfl, r⟩
  | _, _, i + 1, x, .cons _ t, h => by
    obtain ⟨y, e, r⟩ := Reps.get (i := i) t (by simpa using h)
    exact ⟨y, by simpa using e, r⟩
theorem Reps.get' : ∀ {v : List V} {d : List D} {i : Nat} {x : V}, Reps M G v d → v[i]? = some x → ∃ y, d[i]? = some y ∧ Rep M G x y
  | _, _, i, x, .nil, h => by simp at h
  | _, _, 0, x, .cons r _, h => by simp at h; subst h; exact ⟨_, rfl, r⟩
  | _, _, i + 1, x, .cons _ t, h => by
    obtain ⟨y, e, r⟩ := Reps.get' (i := i) t (by simpa using h)
    exact ⟨y, by simpa using e, r⟩
theorem Reps.app : ∀ {v w : List V} {d e : List D}, Reps M G v d → Reps M G w e → Reps M G (v ++ w) (d ++ e)
  | _, _, _, _, .nil, s => s
  | _, _, _, _, .cons r t, s => .cons r (Reps.app t s)
theorem Reps.set {x : V} {y : D} (r : Rep M G x y) : ∀ {v : List V} {d : List D} (i : Nat), Reps M G v d → Reps M G (v.set i x) (d.set i y)
  | _, _, _, .nil => .nil
  | _, _, 0, .cons _ t => .cons r t
  | _, _, i + 1, .cons q t => .cons q (Reps.set r i t)
theorem Reps.take : ∀ {v : List V} {d : List D} (n : Nat), Reps M G v d → Reps M G (v.take n) (d.take n)
  | _, _, 0, _ => .nil
  | _, _, _ + 1, .nil => .nil
  | _, _, n + 1, .cons r t => .cons r (Reps.take n t)
theorem Reps.drop : ∀ {v : List V} {d : List D} (n : Nat), Reps M G v d → Reps M G (v.drop n) (d.drop n)
  | _, _, 0, r => r
  | _, _, _ + 1, .nil => .nil
  | _, _, n + 1, .cons _ t => Reps.drop n t
theorem Reps.rev {v : List V} {d : List D} (r : Reps M G v d) : Reps M G v.reverse d.reverse := by
  have key : ∀ (v w : List V) (d e : List D), Reps M G v d → Reps M G w e → Reps M G (v.reverseAux w) (d.reverseAux e) := by
    intro v
    induction v with
    | nil => intro w d e r s; cases r; exact s
    | cons x v ih =>
      intro w d e r s
      cases r with
      | cons r t => exact ih (x :: w) _ (_ :: e) t (.cons r s)
  exact key v [] d [] r .nil
theorem Reps.rep {x : V} {y : D} (r : Rep M G x y) : ∀ n : Nat, Reps M G (List.replicate n x) (List.replicate n y)
  | 0 => .nil
  | n + 1 => .cons r (Reps.rep r n)
theorem Reps.flat : ∀ {v : List (List V)} {d : List (List D)}, Paired (Reps M G) v d → Reps M G v.flatten d.flatten
  | _, _, .nil => .nil
  | _, _, .cons r t => Reps.app r (Reps.flat t)
theorem Reps.ints : ∀ {v : List V} {is : List Int}, Reps M G v (is.map .int) → v = is.map .int
  | _, [], h => by cases h; rfl
  | _, i :: is, h => by
    cases h with
    | cons r t =>
      have e := Reps.ints t
      cases r with
      | int => rw [e]; rfl
      | here _ z => cases z
theorem Reps.ofInts : ∀ is : List Int, Reps M G (is.map V.int) (is.map D.int)
  | [] => .nil
  | i :: is => .cons (.int i) (Reps.ofInts is)

/-! what a value is, by its tree -/
theorem Rep.isInt {v : V} {i : Int} (r : Rep M G v (.int i)) : v = .int i := by
  cases r with
  | int => rfl
  | here _ z => cases z
theorem Rep.isBl {v : V} {b : Bool} (r : Rep M G v (.bl b)) : v = .bl b := by
  cases r with
  | bl => rfl
  | here _ z => cases z
theorem Rep.isNon {v : V} (r : Rep M G v .non) : v = .non := by
  cases r with
  | non => rfl
  | here _ z => cases z
theorem Rep.isStr {v : V} {x : Str} (r : Rep M G v (.str x)) : v = .str x := by
  cases r with
  | str => rfl
  | here _ z => cases z
theorem Rep.isFn {v : V} {a : Addr} (r : Rep M G v (.ref a)) : v = .ref a := by
  cases r with
  | fn => rfl
  | here _ z => cases z
theorem SqT.lift {K : PySem.W.Frag} {a : Addr} {xs : List V} (h : SqT K (fun _ => none) a xs) : SqT K H a xs := by
  rcases h with (z | ⟨_, z⟩) | z
  · cases z
  · cases z
  · exact .inr z
theorem Rep.isTup {v : V} {ds : List D} (s : Sub G H) (r : Rep M G v (.tup ds)) : ∃ a xs, v = .ref a ∧ SqT M.K H a xs ∧ Reps M G xs ds := by
  cases r with
  | here h z => cases z with | tup q => exact ⟨_, _, rfl, .inl (.inl (s _ _ h)), q⟩
  | conT h q => exact ⟨_, _, rfl, SqT.lift h, q⟩
theorem Rep.isLst {v : V} {ds : List D} (s : Sub G H) (r : Rep M G v (.lst ds)) : ∃ a xs, v = .ref a ∧ H a = some (.lst xs) ∧ Reps M G xs ds := by
  cases r with
  | here h z => cases z with | lst q => exact ⟨_, _, rfl, s _ _ h, q⟩
theorem Rep.isScr {v : V} {is : List Int} (s : Sub G H) (r : Rep M G v (.scr is)) : ∃ a, v = .ref a ∧ SqL M.K H a (is.map V.int) := by
  cases r with
  | here h z => cases z
  | scr h => exact ⟨_, rfl, SqL.mono s h⟩
theorem ORep.isLst {o : HO} {ds : List D} (r : ORep M G o (.lst ds)) : ∃ xs, o = .lst xs ∧ Reps M G xs ds := by
  cases r with | lst q => exact ⟨_, rfl, q⟩
end

theorem ORep.pl {M : Md} {G : Hp} {o : HO} {d : D} (r : ORep M G o d) : Pl o := fun ps e => by subst e; cases r
theorem tabs_wr {T : List (Addr × Str)} {M : Md} {G H : Hp} {a : Addr} {o o' : HO} {d : D} (t : LamX.Tabs T H) (h : H a = some o) (r : ORep M G o d) : LamX.Tabs T (upd H a o') := fun p hp => by
  obtain ⟨ps, h1, h2, h3⟩ := t p hp
  have n1 : p.1 ≠ a := fun e => by rw [e, h] at h1; cases h1; exact r.pl ps rfl
  refine ⟨ps, by rw [upd_ne n1]; exact h1, h2, fun pos cv hc => ?_⟩
  obtain ⟨c, e1, e2⟩ := h3 pos cv hc
  have n2 : c ≠ a := fun e => by rw [e, h] at e2; cases e2; cases r
  exact ⟨c, e1, by rw [upd_ne n2]; exact e2⟩
theorem tabs_new {T : List (Addr × Str)} {H : Hp} {a : Addr} {o : HO} (t : LamX.Tabs T H) (h : H a = none) : LamX.Tabs T (upd H a o) := t.ext fun b u e => by rw [upd_ne (ne_of_none e h)]; exact e

/-! ## slots -/
inductive SV where
  | no | fro (d : D) | own (d : D) | par (d : D)
abbrev Rho := List SV
def SV.isOwn : SV → Bool
  | .own _ => true
  | .par _ => true
  | _ => false
def SlotR (M : Md) (G H : Hp) (v : Option (Option V)) : SV → Prop
  | .no => True
  | .fro d => ∃ x, v = some (some x) ∧ Rep M G x d
  | .own d => ∃ a o, v = some (some (.ref a)) ∧ G a = none ∧ H a = some o ∧ ORep M G o d
  | .par d => ∃ a o, v = some (some (.ref a)) ∧ G a = none ∧ H a = some o ∧ ORep M G o d
def OwnAt (ρ : Rho) (σ : L2.St) (i : Nat) (a : Addr) : Prop := ∃ s, ρ[i]? = some s ∧ s.isOwn = true ∧ σ[i]? = some (some (.ref a))
/-- a frame: B what stood frozen at the entry, T what is another's and stays, P the lent parameters -/
structure Fr where
  B : Hp
  T : Hp
  P : List (Option Addr)
structure SR (M : Md) (fr : Fr) (G H : Hp) (σ : L2.St) (ρ : Rho) : Prop where
  len : ρ.length = σ.length
  sub : Sub G H
  slot : ∀ (i : Nat) (s : SV), ρ[i]? = some s → SlotR M G H (σ[i]?) s
  dist : ∀ i j a, OwnAt ρ σ i a → OwnAt ρ σ j a → i = j
  base : Sub fr.B G
  keep : ∀ a o, fr.T a = some o → H a = some o ∧ G a = none ∧ ∀ i, ¬ OwnAt ρ σ i a
  lent : ∀ (i : Nat) (a : Addr), fr.P[i]? = some (some a) → ∃ d, ρ[i]? = some (.par d) ∧ σ[i]? = some (some (.ref a))
  parL : ∀ (i : Nat) (d : D), ρ[i]? = some (.par d) → ∃ a, fr.P[i]? = some (some a)
  tabs : LamX.Tabs M.Tb H
  nt : NoTbl G
  ntT : NoTbl fr.T

/-- the heap grew: nothing that stood is changed but the tables, nothing of another's is frozen -/
structure Ext (M : Md) (G H G' H' : Hp) : Prop where
  sub : Sub G G'
  subH : LamX.ExtN H H'
  is : Sub G' H'
  old : ∀ a o, H a = some o → Pl o → G' a = G a
  nt : NoTbl G → NoTbl G'
  tabs : LamX.Tabs M.Tb H → LamX.Tabs M.Tb H'
theorem Ext.refl {M : Md} {G H : Hp} (s : Sub G H) : Ext M G H G H := ⟨Sub.refl, LamX.ExtN.refl H, s, fun _ _ _ _ => rfl, id, id⟩
theorem Ext.trans {M : Md} {G H G1 H1 G2 H2 : Hp} (a : Ext M G H G1 H1) (b : Ext M G1 H1 G2 H2) : Ext M G H G2 H2 :=
  ⟨a.sub.trans b.sub, a.subH.trans b.subH, b.is, fun x o h n => (b.old x o (a.subH x o h n) n).trans (a.old x o h n), fun z => b.nt (a.nt z), fun z => b.tabs (a.tabs z)⟩
theorem extN_new {H : Hp} {p : Addr} {o : HO} (n : H p = none) : LamX.ExtN H (upd H p o) := LamX.ExtN.of (Sub.upd n)
theorem Ext.new {M : Md} {G H : Hp} {p : Addr} {o : HO} (s : Sub G H) (n : H p = none) (pl : Pl o := by intro _ z; cases z) : Ext M G H (upd G p o) (upd H p o) := by
  have ng : G p = none := by
    cases e : G p with
    | none => rfl
    | some u => rw [s _ _ e] at n; cases n
  refine ⟨Sub.upd ng, extN_new n, fun a u e => ?_, fun a u e _ => ?_, fun z => z.upd pl, fun z => tabs_new z n⟩
  · by_cases h : a = p
    · subst h; rw [upd_same] at e ⊢; exact e
    · rw [upd_ne h] at e ⊢; exact s _ _ e
  · rw [upd_ne (ne_of_none e n)]
theorem Ext.junk {M : Md} {G H : Hp} {p : Addr} {o : HO} (s : Sub G H) (n : H p = none) : Ext M G H G (upd H p o) :=
  ⟨Sub.refl, extN_new n, s.trans (Sub.upd n), fun _ _ _ _ => rfl, id, fun z => tabs_new z n⟩

section
variable {M : Md} {fr : Fr} {G H G' H' : Hp} {σ : L2.St} {ρ : Rho} {i : Nat} {d : D} {v : V}
theorem SR.ext (R : SR M fr G H σ ρ) (x : Ext M G H G' H') : SR M fr G' H' σ ρ := by
  refine ⟨R.len, x.is, fun i s e => ?_, R.dist, R.base.trans x.sub, fun a o e => ?_, R.lent, R.parL, x.tabs R.tabs, x.nt R.nt, R.ntT⟩
  · have q := R.slot i s e
    cases s with
    | no => trivial
    | fro d => obtain ⟨y, h1, h2⟩ := q; exact ⟨y, h1, h2.mono x.sub⟩
    | own d => obtain ⟨a, o, h1, h2, h3, h4⟩ := q; exact ⟨a, o, h1, (x.old a o h3 h4.pl).trans h2, x.subH _ _ h3 h4.pl, h4.mono x.sub⟩
    | par d => obtain ⟨a, o, h1, h2, h3, h4⟩ := q; exact ⟨a, o, h1, (x.old a o h3 h4.pl).trans h2, x.subH _ _ h3 h4.pl, h4.mono x.sub⟩
  · obtain ⟨h1, h2, h3⟩ := R.keep a o e
    have pl : Pl o := fun ps z => R.ntT a ps (z ▸ e)
    exact ⟨x.subH _ _ h1 pl, (x.old a o h1 pl).trans h2, h3⟩
theorem SR.fresh (R : SR M fr G H σ ρ) {p : Addr} (n : H p = none) : G p = none ∧ fr.T p = none ∧ ∀ i, ¬ OwnAt ρ σ i p := by
  refine ⟨?_, ?_, fun i ⟨s, e1, e2, e3⟩ => ?_⟩
  · cases e : G p with
    | none => rfl
    | some u => rw [R.sub _ _ e] at n; cases n
  · cases e : fr.T p with
    | none => rfl
    | some u => rw [(R.keep _ _ e).1] at n; cases n
  · have q := R.slot i s e1
    cases s with
    | no => cases e2
    | fro d => cases e2
    | own d => obtain ⟨a, o, h1, _, h3, _⟩ := q; rw [e3] at h1; cases h1; rw [n] at h3; cases h3
    | par d => obtain ⟨a, o, h1, _, h3, _⟩ := q; rw [e3] at h1; cases h1; rw [n] at h3; cases h3
/-- a slot is not lent -/
def notPar (ρ : Rho) (i : Nat) : Bool := match ρ[i]? with | some (.par _) => false | none => false | some _ => true
theorem notPar_lt {ρ : Rho} {i : Nat} (h : notPar ρ i = true) : i < ρ.length := by
  unfold notPar at h
  cases e : ρ[i]? with
  | none => rw [e] at h; cases h
  | some s => exact (List.getElem?_eq_some_iff.mp e).1
theorem notPar_ne {ρ : Rho} {i : Nat} (h : notPar ρ i = true) {d : D} : ρ[i]? ≠ some (.par d) := fun e => by
  unfold notPar at h; rw [e] at h; cases h
theorem own_set {ρ : Rho} {σ : L2.St} {i j : Nat} {s : SV} {v : V} {a : Addr} (o : OwnAt (ρ.set i s) (σ.set i (some v)) j a) :
    (j = i ∧ s.isOwn = true ∧ v = .ref a) ∨ (j ≠ i ∧ OwnAt ρ σ j a) := by
  obtain ⟨t, e1, e2, e3⟩ := o
  by_cases h : i = j
  · subst h
    have h1 : i < ρ.length := by
      have := (List.getElem?_eq_some_iff.mp e1).1
      simpa using this
    have h2 : i < σ.length := by
      have := (List.getElem?_eq_some_iff.mp e3).1
      simpa using this
    rw [List.getElem?_set_self h1] at e1
    rw [List.getElem?_set_self h2] at e3
    cases e1; cases e3
    exact .inl ⟨rfl, e2, rfl⟩
  · rw [List.getElem?_set_ne h] at e1 e3
    exact .inr ⟨Ne.symm h, t, e1, e2, e3⟩
theorem SR.setFro (R : SR M fr G H σ ρ) (np : notPar ρ i = true) (r : Rep M G v d) : SR M fr G H (σ.set i (some v)) (ρ.set i (.fro d)) := by
  have hlt := notPar_lt np
  refine ⟨by simp [R.len], R.sub, fun j s e => ?_, fun j k a h1 h2 => ?_, R.base, fun a o e => ?_, fun j a e => ?_, fun j d2 e => ?_, R.tabs, R.nt, R.ntT⟩
  · by_cases h : i = j
    · subst h
      rw [List.getElem?_set_self hlt] at e
      cases e
      exact ⟨v, List.getElem?_set_self (by rw [← R.len]; exact hlt), r⟩
    · rw [List.getElem?_set_ne h] at e ⊢
      exact R.slot j s e
  · rcases own_set h1 with ⟨_, z, _⟩ | ⟨_, z1⟩
    · cases z
    · rcases own_set h2 with ⟨_, z, _⟩ | ⟨_, z2⟩
      · cases z
      · exact R.dist _ _ _ z1 z2
  · obtain ⟨h1, h2, h3⟩ := R.keep a o e
    refine ⟨h1, h2, fun j z => ?_⟩
    rcases own_set z with ⟨_, z, _⟩ | ⟨_, z1⟩
    · cases z
    · exact h3 _ z1
  · obtain ⟨d', h1, h2⟩ := R.lent j a e
    have h : i ≠ j := fun z => notPar_ne np (z ▸ h1)
    exact ⟨d', by rw [List.getElem?_set_ne h]; exact h1, by rw [List.getElem?_set_ne h]; exact h2⟩
  · by_cases h : i = j
    · subst h
      rw [List.getElem?_set_self hlt] at e
      cases e
    · rw [List.getElem?_set_ne h] at e
      exact R.parL j _ e
theorem SR.setOwn (R : SR M fr G H σ ρ) (np : notPar ρ i = true) {a : Addr} {o : HO} (hg : G a = none) (ht : fr.T a = none) (hn : ∀ j, ¬ OwnAt ρ σ j a) (hh : H a = some o) (r : ORep M G o d) :
    SR M fr G H (σ.set i (some (.ref a))) (ρ.set i (.own d)) := by
  have hlt := notPar_lt np
  refine ⟨by simp [R.len], R.sub, fun j s e => ?_, fun j k b h1 h2 => ?_, R.base, fun b u e => ?_, fun j b e => ?_, fun j d2 e => ?_, R.tabs, R.nt, R.ntT⟩
  · by_cases h : i = j
    · subst h
      rw [List.getElem?_set_self hlt] at e
      cases e
      exact ⟨a, o, List.getElem?_set_self (by rw [← R.len]; exact hlt), hg, hh, r⟩
    · rw [List.getElem?_set_ne h] at e ⊢
      exact R.slot j s e
  · rcases own_set h1 with ⟨e1, _, z⟩ | ⟨n1, z1⟩
    · rcases own_set h2 with ⟨e2, _, _⟩ | ⟨n2, z2⟩
      · rw [e1, e2]
      · cases z; exact absurd z2 (hn _)
    · rcases own_set h2 with ⟨e2, _, z⟩ | ⟨n2, z2⟩
      · cases z; exact absurd z1 (hn _)
      · exact R.dist _ _ _ z1 z2
  · obtain ⟨h1, h2, h3⟩ := R.keep b u e
    refine ⟨h1, h2, fun j z => ?_⟩
    rcases own_set z with ⟨_, _, z⟩ | ⟨_, z1⟩
    · cases z; rw [ht] at e; cases e
    · exact h3 _ z1
  · obtain ⟨d', h1, h2⟩ := R.lent j b e
    have h : i ≠ j := fun z => notPar_ne np (z ▸ h1)
    exact ⟨d', by rw [List.getElem?_set_ne h]; exact h1, by rw [List.getElem?_set_ne h]; exact h2⟩
  · by_cases h : i = j
    · subst h
      rw [List.getElem?_set_self hlt] at e
      cases e
    · rw [List.getElem?_set_ne h] at e
      exact R.parL j _ e
/-- forgetting a slot -/
theorem SR.forget (R : SR M fr G H σ ρ) (np : notPar ρ i = true) (v : Option V) : SR M fr G H (σ.set i v) (ρ.set i .no) := by
  have hlt := notPar_lt np
  have own : ∀ {j a}, OwnAt (ρ.set i .no) (σ.set i v) j a → OwnAt ρ σ j a := fun {j a} ⟨t, e1, e2, e3⟩ => by
    by_cases h : i = j
    · subst h
      rw [List.getElem?_set_self hlt] at e1
      cases e1; cases e2
    · rw [List.getElem?_set_ne h] at e1 e3
      exact ⟨t, e1, e2, e3⟩
  refine ⟨by simp [R.len], R.sub, fun j s e => ?_, fun j k b h1 h2 => R.dist _ _ _ (own h1) (own h2), R.base, fun b u e => ?_, fun j b e => ?_, fun j d2 e => ?_, R.tabs, R.nt, R.ntT⟩
  · by_cases h : i = j
    · subst h
      rw [List.getElem?_set_self hlt] at e
      cases e
      trivial
    · rw [List.getElem?_set_ne h] at e ⊢
      exact R.slot j s e
  · obtain ⟨h1, h2, h3⟩ := R.keep b u e
    exact ⟨h1, h2, fun j z => h3 j (own z)⟩
  · obtain ⟨d', h1, h2⟩ := R.lent j b e
    have h : i ≠ j := fun z => notPar_ne np (z ▸ h1)
    exact ⟨d', by rw [List.getElem?_set_ne h]; exact h1, by rw [List.getElem?_set_ne h]; exact h2⟩
  · by_cases h : i = j
    · subst h
      rw [List.getElem?_set_self hlt] at e
      cases e
    · rw [List.getElem?_set_ne h] at e
      exact R.parL j _ e
/-- .. the values as they are -/
theorem SR.forget' (R : SR M fr G H σ ρ) (np : notPar ρ i = true) : SR M fr G H σ (ρ.set i .no) := by
  have hlt : i < σ.length := by rw [← R.len]; exact notPar_lt np
  have e : σ.set i σ[i] = σ := by simp
  have := R.forget np σ[i]
  rwa [e] at this
/-- an own slot is frozen -/
theorem SR.freeze (R : SR M fr G H σ ρ) (e : ρ[i]? = some (.own d)) : ∃ (G' : Hp) (a : Addr), Sub G G' ∧ σ[i]? = some (some (.ref a)) ∧ Rep M G' (.ref a) d ∧ SR M fr G' H σ (ρ.set i (.fro d)) := by
  obtain ⟨a, o, h1, h2, h3, h4⟩ := R.slot i _ e
  have hlt := (List.getElem?_eq_some_iff.mp e).1
  have s : Sub G (upd G a o) := Sub.upd h2
  have oi : OwnAt ρ σ i a := ⟨_, e, rfl, h1⟩
  have own : ∀ {j b}, OwnAt (ρ.set i (.fro d)) σ j b → j ≠ i ∧ OwnAt ρ σ j b := fun {j b} ⟨t, e1, e2, e3⟩ => by
    by_cases h : i = j
    · subst h
      rw [List.getElem?_set_self hlt] at e1
      cases e1; cases e2
    · rw [List.getElem?_set_ne h] at e1
      exact ⟨Ne.symm h, t, e1, e2, e3⟩
  have r : Rep M (upd G a o) (.ref a) d := .here upd_same (h4.mono s)
  have old : ∀ {j b s'}, ρ[j]? = some s' → s'.isOwn = true → σ[j]? = some (some (.ref b)) → j ≠ i → b ≠ a := fun {j b s'} e1 e2 e3 n z => by
    subst z; exact n (R.dist _ _ _ ⟨s', e1, e2, e3⟩ oi)
  refine ⟨upd G a o, a, s, h1, r, ⟨by simp [R.len], fun b u q => ?_, fun j s' q => ?_, fun j k b q1 q2 => R.dist _ _ _ (own q1).2 (own q2).2, R.base.trans s, fun b u q => ?_, fun j b q => ?_, fun j d2 q => ?_, R.tabs, R.nt.upd h4.pl, R.ntT⟩⟩
  · by_cases hb : b = a
    · subst hb; rw [upd_same] at q; cases q; exact h3
    · rw [upd_ne hb] at q; exact R.sub _ _ q
  · by_cases h : i = j
    · subst h
      rw [List.getElem?_set_self hlt] at q
      cases q
      exact ⟨_, h1, r⟩
    · rw [List.getElem?_set_ne h] at q
      have z := R.slot j s' q
      cases s' with
      | no => trivial
      | fro d => obtain ⟨y, z1, z2⟩ := z; exact ⟨y, z1, z2.mono s⟩
      | own d => obtain ⟨b, u, z1, z2, z3, z4⟩ := z; exact ⟨b, u, z1, by rw [upd_ne (old q rfl z1 (Ne.symm h))]; exact z2, z3, z4.mono s⟩
      | par d => obtain ⟨b, u, z1, z2, z3, z4⟩ := z; exact ⟨b, u, z1, by rw [upd_ne (old q rfl z1 (Ne.symm h))]; exact z2, z3, z4.mono s⟩
  · obtain ⟨z1, z2, z3⟩ := R.keep b u q
    refine ⟨z1, ?_, fun j z => z3 j (own z).2⟩
    have : b ≠ a := fun e => z3 i (by rw [e]; exact oi)
    rw [upd_ne this]; exact z2
  · obtain ⟨d', z1, z2⟩ := R.lent j b q
    have h : i ≠ j := fun z => by rw [z, z1] at e; cases e
    exact ⟨d', by rw [List.getElem?_set_ne h]; exact z1, z2⟩
  · by_cases h : i = j
    · subst h
      rw [List.getElem?_set_self hlt] at q
      cases q
    · rw [List.getElem?_set_ne h] at q
      exact R.parL j _ q
/-- a fresh own object is frozen -/
theorem SR.freezeNew (R : SR M fr G H σ ρ) {a : Addr} {o : HO} (hg : G a = none) (ht : fr.T a = none) (hn : ∀ j, ¬ OwnAt ρ σ j a) (hh : H a = some o) (r : ORep M G o d) :
    SR M fr (upd G a o) H σ ρ ∧ Sub G (upd G a o) ∧ Rep M (upd G a o) (.ref a) d := by
  have s : Sub G (upd G a o) := Sub.upd hg
  refine ⟨⟨R.len, fun b u q => ?_, fun j s' q => ?_, R.dist, R.base.trans s, fun b u q => ?_, R.lent, R.parL, R.tabs, R.nt.upd r.pl, R.ntT⟩, s, .here upd_same (r.mono s)⟩
  · by_cases hb : b = a
    · subst hb; rw [upd_same] at q; cases q; exact hh
    · rw [upd_ne hb] at q; exact R.sub _ _ q
  · have z := R.slot j s' q
    cases s' with
    | no => trivial
    | fro d => obtain ⟨y, z1, z2⟩ := z; exact ⟨y, z1, z2.mono s⟩
    | own d => obtain ⟨b, u, z1, z2, z3, z4⟩ := z; exact ⟨b, u, z1, by rw [upd_ne (fun e => hn j ⟨_, q, rfl, by rw [← e]; exact z1⟩)]; exact z2, z3, z4.mono s⟩
    | par d => obtain ⟨b, u, z1, z2, z3, z4⟩ := z; exact ⟨b, u, z1, by rw [upd_ne (fun e => hn j ⟨_, q, rfl, by rw [← e]; exact z1⟩)]; exact z2, z3, z4.mono s⟩
  · obtain ⟨z1, z2, z3⟩ := R.keep b u q
    refine ⟨z1, ?_, z3⟩
    rw [upd_ne (fun e => by rw [e, ht] at q; cases q)]; exact z2
/-- the content of an own or lent slot, as another -/
def SV.put (s : SV) (d : D) : SV := match s with | .own _ => .own d | .par _ => .par d | s => s
def SV.cont? : SV → Option D
  | .own d => some d
  | .par d => some d
  | _ => none
theorem SR.contAt (R : SR M fr G H σ ρ) {s : SV} (e : ρ[i]? = some s) (c : s.cont? = some d) : ∃ a o, σ[i]? = some (some (.ref a)) ∧ G a = none ∧ H a = some o ∧ ORep M G o d ∧ fr.T a = none := by
  have q := R.slot i s e
  have ho : s.isOwn = true := by cases s <;> first | rfl | cases c
  have : ∃ a o, σ[i]? = some (some (.ref a)) ∧ G a = none ∧ H a = some o ∧ ORep M G o d := by
    cases s with
    | no => cases c
    | fro d => cases c
    | own d' => cases c; exact q
    | par d' => cases c; exact q
  obtain ⟨a, o, h1, h2, h3, h4⟩ := this
  refine ⟨a, o, h1, h2, h3, h4, ?_⟩
  cases z : fr.T a with
  | none => rfl
  | some u => exact absurd ⟨s, e, ho, h1⟩ ((R.keep a u z).2.2 i)
/-- an own or lent object is written -/
theorem SR.write (R : SR M fr G H σ ρ) {s : SV} {a : Addr} {o' : HO} {d' : D} (e : ρ[i]? = some s) (c : s.cont? = some d) (ha : σ[i]? = some (some (.ref a))) (r : ORep M G o' d') : SR M fr G (upd H a o') σ (ρ.set i (s.put d')) := by
  have hlt := (List.getElem?_eq_some_iff.mp e).1
  obtain ⟨a', o, h1, h2, h3, h4, h5⟩ := R.contAt e c
  rw [ha] at h1; cases h1
  have ho : s.isOwn = true := by cases s <;> first | rfl | cases c
  have hp : (s.put d').isOwn = true := by cases s <;> first | rfl | cases c
  have oi : OwnAt ρ σ i a := ⟨s, e, ho, ha⟩
  have own : ∀ {j b}, OwnAt (ρ.set i (s.put d')) σ j b → OwnAt ρ σ j b := fun {j b} ⟨t, e1, e2, e3⟩ => by
    by_cases h : i = j
    · subst h
      exact ⟨s, e, ho, e3⟩
    · rw [List.getElem?_set_ne h] at e1
      exact ⟨t, e1, e2, e3⟩
  refine ⟨by simp [R.len], fun b u q => ?_, fun j t q => ?_, fun j k b q1 q2 => R.dist _ _ _ (own q1) (own q2), R.base, fun b u q => ?_, fun j b q => ?_, fun j d2 q => ?_, tabs_wr R.tabs h3 h4, R.nt, R.ntT⟩
  · rw [upd_ne (fun z => by rw [z, h2] at q; cases q)]; exact R.sub _ _ q
  · by_cases h : i = j
    · subst h
      rw [List.getElem?_set_self hlt] at q
      cases q
      cases s with
      | no => cases c
      | fro _ => cases c
      | own _ => exact ⟨a, o', ha, h2, upd_same, r⟩
      | par _ => exact ⟨a, o', ha, h2, upd_same, r⟩
    · rw [List.getElem?_set_ne h] at q
      have z := R.slot j t q
      cases t with
      | no => trivial
      | fro d => exact z
      | own d => obtain ⟨b, u, z1, z2, z3, z4⟩ := z; exact ⟨b, u, z1, z2, by rw [upd_ne (fun y => h (R.dist _ _ _ oi ⟨_, q, rfl, by rw [← y]; exact z1⟩))]; exact z3, z4⟩
      | par d => obtain ⟨b, u, z1, z2, z3, z4⟩ := z; exact ⟨b, u, z1, z2, by rw [upd_ne (fun y => h (R.dist _ _ _ oi ⟨_, q, rfl, by rw [← y]; exact z1⟩))]; exact z3, z4⟩
  · obtain ⟨z1, z2, z3⟩ := R.keep b u q
    exact ⟨by rw [upd_ne (fun y => by rw [y, h5] at q; cases q)]; exact z1, z2, fun j z => z3 j (own z)⟩
  · obtain ⟨d2, z1, z2⟩ := R.lent j b q
    by_cases h : i = j
    · subst h
      rw [e] at z1; cases z1
      exact ⟨d', List.getElem?_set_self hlt, z2⟩
    · exact ⟨d2, by rw [List.getElem?_set_ne h]; exact z1, z2⟩
  · by_cases h : i = j
    · subst h
      rw [List.getElem?_set_self hlt] at q
      cases s with
      | par d3 => exact R.parL i _ e
      | no => cases c
      | fro _ => cases c
      | own _ => cases q
    · rw [List.getElem?_set_ne h] at q
      exact R.parL j _ q
end
end DL

set_option Elab.async false
set_option linter.all false
set_option maxRecDepth 100000
set_option maxHeartbeats 4000000
namespace DL
open PySem PySem.Spec PyProof.Rows L2

/-! ## what comes of an expression, of a statement -/
abbrev XF := List (Str × D)
inductive OE where
  | ok (d : D) (ρ : Rho) | exc (c : String) (fs : XF) (ρ : Rho) | stuck
inductive OT where
  | ok (b : Bool) (ρ : Rho) | exc (c : String) (fs : XF) (ρ : Rho) | stuck
inductive OA where
  | ok (l : List D) (ρ : Rho) | exc (c : String) (fs : XF) (ρ : Rho) | stuck
inductive OS where
  | nx (ρ : Rho) | rt (d : D) (ρ : Rho) | bk (ρ : Rho) | ct (ρ : Rho) | exc (c : String) (fs : XF) (ρ : Rho) | stuck
abbrev DE := Rho → OE
abbrev DT := Rho → OT
abbrev DA := Rho → OA
abbrev DS := Rho → OS

inductive FReps (M : Md) (G : Hp) : List (Str × V) → XF → Prop
  | nil : FReps M G [] []
  | cons {f : Str} {v : V} {d : D} {vs : List (Str × V)} {ds : XF} : Rep M G v d → FReps M G vs ds → FReps M G ((f, v) :: vs) ((f, d) :: ds)
theorem FReps.mono {M : Md} {G G' : Hp} (s : Sub G G') : ∀ {vs : List (Str × V)} {ds : XF}, FReps M G vs ds → FReps M G' vs ds
  | _, _, .nil => .nil
  | _, _, .cons r t => .cons (r.mono s) (FReps.mono s t)
/-- an exception of the class named c with its fields -/
def XRep (M : Md) (G : Hp) (cls : Value) (dx : Option Addr) (c : String) (fs : XF) : Prop :=
  cls = .ref (M.Cn c) ∧ match fs with
    | [] => dx = none
    | f :: r => ∃ a vs, dx = some a ∧ G a = some (.xd vs) ∧ FReps M G vs (f :: r)
theorem XRep.mono {M : Md} {G G' : Hp} {cls : Value} {dx : Option Addr} {c : String} {fs : XF} (s : Sub G G') (x : XRep M G cls dx c fs) : XRep M G' cls dx c fs := by
  obtain ⟨h, q⟩ := x
  refine ⟨h, ?_⟩
  cases fs with
  | nil => exact q
  | cons f r => obtain ⟨a, vs, e1, e2, e3⟩ := q; exact ⟨a, vs, e1, s _ _ e2, e3.mono s⟩

/-- what must be shown of an exception -/
def XC (M : Md) (E : XK) (fr : Fr) (G : Hp) (σ : L2.St) (c : String) (fs : XF) (ρ : Rho) : Prop :=
  ∀ cls dx G' H', SR M fr G' H' σ ρ → Sub G G' → XRep M G' cls dx c fs → E cls dx H'
/-- at a statement: the slots may have changed -/
def XS (M : Md) (E : XK) (fr : Fr) (G : Hp) (c : String) (fs : XF) (ρ : Rho) : Prop :=
  ∀ cls dx σ' G' H', SR M fr G' H' σ' ρ → Sub G G' → XRep M G' cls dx c fs → E cls dx H'
def LE (M : Md) (E : XK) (r : DE) : TE := fun σ H Q => ∃ fr G ρ, SR M fr G H σ ρ ∧ match r ρ with
  | .ok d ρ' => ∀ v G' H', SR M fr G' H' σ ρ' → Sub G G' → Rep M G' v d → Q v H'
  | .exc c fs ρ' => XC M E fr G σ c fs ρ'
  | .stuck => False
/-- the result is a new object that nobody else holds -/
structure New (M : Md) (fr : Fr) (G H : Hp) (σ : L2.St) (ρ : Rho) (a : Addr) (d : D) : Prop where
  g : G a = none
  t : fr.T a = none
  n : ∀ i, ¬ OwnAt ρ σ i a
  o : ∃ o, H a = some o ∧ ORep M G o d
def LO (M : Md) (E : XK) (r : DE) : TE := fun σ H Q => ∃ fr G ρ, SR M fr G H σ ρ ∧ match r ρ with
  | .ok d ρ' => ∀ a G' H', SR M fr G' H' σ ρ' → Sub G G' → New M fr G' H' σ ρ' a d → Q (.ref a) H'
  | .exc c fs ρ' => XC M E fr G σ c fs ρ'
  | .stuck => False
def LT (M : Md) (E : XK) (r : DT) : TT := fun σ H Q => ∃ fr G ρ, SR M fr G H σ ρ ∧ match r ρ with
  | .ok b ρ' => ∀ G' H', SR M fr G' H' σ ρ' → Sub G G' → Q b H'
  | .exc c fs ρ' => XC M E fr G σ c fs ρ'
  | .stuck => False
def LA (M : Md) (E : XK) (r : DA) : TA := fun σ H Q => ∃ fr G ρ, SR M fr G H σ ρ ∧ match r ρ with
  | .ok ds ρ' => ∀ vs G' H', SR M fr G' H' σ ρ' → Sub G G' → Reps M G' vs ds → Q vs H'
  | .exc c fs ρ' => XC M E fr G σ c fs ρ'
  | .stuck => False
def SQ (M : Md) (E : XK) (fr : Fr) (G : Hp) (D : Ends) : OS → Prop
  | .nx ρ' => ∀ σ' G' H', SR M fr G' H' σ' ρ' → Sub G G' → D.nx σ' H'
  | .rt d ρ' => ∀ v σ' G' H', SR M fr G' H' σ' ρ' → Sub G G' → Rep M G' v d → D.rt v H'
  | .bk ρ' => ∀ σ' G' H', SR M fr G' H' σ' ρ' → Sub G G' → D.bk σ' H'
  | .ct ρ' => ∀ σ' G' H', SR M fr G' H' σ' ρ' → Sub G G' → D.ct σ' H'
  | .exc c fs ρ' => XS M E fr G c fs ρ'
  | .stuck => False
def LS (M : Md) (E : XK) (r : DS) : TS := fun D σ H => ∃ fr G ρ, SR M fr G H σ ρ ∧ SQ M E fr G D (r ρ)
/-- it is enough to say it from one state -/
theorem XC.of {M : Md} {E : XK} {fr : Fr} {G G1 : Hp} {σ : L2.St} {c : String} {fs : XF} {ρ : Rho} (s : Sub G G1) (x : XC M E fr G σ c fs ρ) : XC M E fr G1 σ c fs ρ :=
  fun cls dx G' H' R' s' r => x cls dx G' H' R' (s.trans s') r
theorem XS.of {M : Md} {E : XK} {fr : Fr} {G G1 : Hp} {c : String} {fs : XF} {ρ : Rho} (s : Sub G G1) (x : XS M E fr G c fs ρ) : XS M E fr G1 c fs ρ :=
  fun cls dx σ' G' H' R' s' r => x cls dx σ' G' H' R' (s.trans s') r

/-! ### another reading for the same -/
section
variable {X : Cx} {e : Expr} {es : List Expr} {st : Stmt} {sts : List Stmt}
theorem PE.of {t t' : TE} (h : PE X e t) (i : ∀ σ H Q, t' σ H Q → t σ H Q) : PE X e t' := ⟨fun p s σ H Q I q => h.run p s σ H Q I (i _ _ _ q)⟩
theorem PT.of {t t' : TT} (h : PT X e t) (i : ∀ σ H Q, t' σ H Q → t σ H Q) : PT X e t' := ⟨fun p s σ H Q I q => h.run p s σ H Q I (i _ _ _ q)⟩
theorem PW.of {t t' : TT} (h : PW X e t) (i : ∀ σ H Q, t' σ H Q → t σ H Q) : PW X e t' := ⟨fun w p s σ H Q I q => h.run w p s σ H Q I (i _ _ _ q)⟩
theorem PA.of {t t' : TA} (h : PA X es t) (i : ∀ σ H Q, t' σ H Q → t σ H Q) : PA X es t' := ⟨fun w p s σ H Q I q => h.run w p s σ H Q I (i _ _ _ q)⟩
theorem PS.of {t t' : TS} (h : PS X st t) (i : ∀ σ H D, t' D σ H → t D σ H) : PS X st t' := ⟨fun p s σ H Q I q => h.run p s σ H Q I (i _ _ _ q)⟩
theorem PSs.of {t t' : TS} (h : PSs X sts t) (i : ∀ σ H D, t' D σ H → t D σ H) : PSs X sts t' := ⟨fun p s σ H Q I q => h.run p s σ H Q I (i _ _ _ q)⟩
end

/-! ## expressions -/
def OE.bind (o : OE) (k : D → Rho → OE) : OE := match o with
  | .ok d ρ => k d ρ
  | .exc c fs ρ => .exc c fs ρ
  | .stuck => .stuck
def OE.of (o : Option D) (ρ : Rho) : OE := match o with
  | some d => .ok d ρ
  | none => .stuck
def eC (d : D) : DE := fun ρ => .ok d ρ
def eV (i : Nat) : DE := fun ρ => match ρ[i]? with
  | some (.fro d) => .ok d ρ
  | some (.own d) => .ok d (ρ.set i (.fro d))
  | _ => .stuck
def eOp (op : D → D → Option D) (a b : DE) : DE := fun ρ => (a ρ).bind fun x ρ1 => (b ρ1).bind fun y ρ2 => .of (op x y) ρ2
def eUn (op : D → Option D) (a : DE) : DE := fun ρ => (a ρ).bind fun x ρ1 => .of (op x) ρ1

section
variable {X : Cx} {M : Md} {E : XK} {e a b : Expr} {r ra rb : DE} {pos : Pos}
theorem le_var {i : Nat} {x : Str} (h : PE X (.Name x pos) (tVar i)) : PE X (.Name x pos) (LE M E (eV i)) := by
  refine PE.of h fun σ H Q ⟨fr, G, ρ, R, q⟩ => ?_
  unfold eV at q
  cases e : ρ[i]? with
  | none => rw [e] at q; exact q.elim
  | some s =>
    rw [e] at q
    cases s with
    | no => exact q.elim
    | par d => exact q.elim
    | fro d =>
      obtain ⟨v, h1, h2⟩ := R.slot i _ e
      exact ⟨v, h1, q v G H R Sub.refl h2⟩
    | own d =>
      obtain ⟨G', a, s, h1, h2, R'⟩ := R.freeze e
      exact ⟨_, h1, q _ G' H R' s h2⟩
theorem le_c {v : V} {d : D} (h : PE X e (tC v)) (hr : ∀ G, Rep M G v d) : PE X e (LE M E (eC d)) :=
  PE.of h fun σ H Q ⟨fr, G, ρ, R, q⟩ => q v G H R Sub.refl (hr G)
theorem le_int {i j} : PE X (.Constant (.int i) j pos) (LE M E (eC (.int i))) := le_c pe_int fun _ => .int i
theorem le_bl {i j} : PE X (.Constant (.bool i) j pos) (LE M E (eC (.bl i))) := le_c pe_bl fun _ => .bl i
theorem le_non {j} : PE X (.Constant .none j pos) (LE M E (eC .non)) := le_c pe_non fun _ => .non
theorem le_str {i j} : PE X (.Constant (.str i) j pos) (LE M E (eC (.str i))) := le_c pe_str fun _ => .str i
/-- a fresh own object, frozen -/
theorem lo_le (h : PE X e (LO M E r)) : PE X e (LE M E r) := by
  refine PE.of h fun σ H Q ⟨fr, G, ρ, R, q⟩ => ⟨fr, G, ρ, R, ?_⟩
  cases e : r ρ with
  | stuck => rw [e] at q; exact q
  | exc c fs ρ' => rw [e] at q; exact q
  | ok d ρ' =>
    rw [e] at q
    refine fun a G' H' R' s n => ?_
    obtain ⟨o, ho, hr⟩ := n.o
    obtain ⟨R2, s2, r2⟩ := R'.freezeNew n.g n.t n.n ho hr
    exact q _ _ H' R2 (s.trans s2) r2
/-- a two-place operation: what it asks is met where op gives a value -/
def OpD (M : Md) (r : R2) (op : D → D → Option D) : Prop := ∀ (G H : Hp) (x y : V) (a b d : D) (Q : VK), Sub G H → Rep M G x a → Rep M G y b → op a b = some d →
  (∀ v G' H', Ext M G H G' H' → Rep M G' v d → Q v H') → r x y H Q
/-- the result is new -/
def OpO (M : Md) (r : R2) (op : D → D → Option D) : Prop := ∀ (G H : Hp) (x y : V) (a b d : D) (Q : VK), Sub G H → Rep M G x a → Rep M G y b → op a b = some d →
  (∀ p o, H p = none → ORep M G o d → Q (.ref p) (upd H p o)) → r x y H Q
theorem le_op2 {t : TE → TE → TE} {r : R2} {op : D → D → Option D} (hr : OpD M r op) (h : PE X e (tOp r (LE M E ra) (LE M E rb))) : PE X e (LE M E (eOp op ra rb)) := by
  refine PE.of h fun σ H Q ⟨fr, G, ρ, R, q⟩ => ⟨fr, G, ρ, R, ?_⟩
  unfold eOp at q
  cases e1 : ra ρ with
  | stuck => rw [e1] at q; exact q
  | exc c fs ρ' => rw [e1] at q; exact q
  | ok x ρ1 =>
    rw [e1] at q
    refine fun v G1 H1 R1 s1 r1 => ⟨fr, G1, ρ1, R1, ?_⟩
    simp only [OE.bind] at q
    cases e2 : rb ρ1 with
    | stuck => rw [e2] at q; exact q
    | exc c fs ρ' => rw [e2] at q; exact XC.of s1 q
    | ok y ρ2 =>
      rw [e2] at q
      refine fun w G2 H2 R2 s2 r2 => ?_
      simp only [OE.of] at q
      cases e3 : op x y with
      | none => rw [e3] at q; exact q.elim
      | some d =>
        rw [e3] at q
        exact hr G2 H2 v w x y d Q R2.sub (r1.mono s2) r2 e3 fun z G3 H3 x3 r3 => q z G3 H3 (R2.ext x3) ((s1.trans s2).trans x3.sub) r3
theorem SR.newAt {fr : Fr} {G H : Hp} {σ : L2.St} {ρ : Rho} {p : Addr} {o : HO} {d : D} (R : SR M fr G H σ ρ) (n : H p = none) (ho : ORep M G o d) : SR M fr G (upd H p o) σ ρ ∧ New M fr G (upd H p o) σ ρ p d := by
  obtain ⟨h1, h2, h3⟩ := R.fresh n
  exact ⟨R.ext (Ext.junk R.sub n), ⟨h1, h2, h3, o, upd_same, ho⟩⟩
theorem lo_op2 {r : R2} {op : D → D → Option D} (hr : OpO M r op) (h : PE X e (tOp r (LE M E ra) (LE M E rb))) : PE X e (LO M E (eOp op ra rb)) := by
  refine PE.of h fun σ H Q ⟨fr, G, ρ, R, q⟩ => ⟨fr, G, ρ, R, ?_⟩
  unfold eOp at q
  cases e1 : ra ρ with
  | stuck => rw [e1] at q; exact q
  | exc c fs ρ' => rw [e1] at q; exact q
  | ok x ρ1 =>
    rw [e1] at q
    refine fun v G1 H1 R1 s1 r1 => ⟨fr, G1, ρ1, R1, ?_⟩
    simp only [OE.bind] at q
    cases e2 : rb ρ1 with
    | stuck => rw [e2] at q; exact q
    | exc c fs ρ' => rw [e2] at q; exact XC.of s1 q
    | ok y ρ2 =>
      rw [e2] at q
      refine fun w G2 H2 R2 s2 r2 => ?_
      simp only [OE.of] at q
      cases e3 : op x y with
      | none => rw [e3] at q; exact q.elim
      | some d =>
        rw [e3] at q
        refine hr G2 H2 v w x y d Q R2.sub (r1.mono s2) r2 e3 fun p o n ho => ?_
        obtain ⟨R3, n3⟩ := R2.newAt n ho
        exact q p G2 _ R3 (s1.trans s2) n3
/-- by a rule of a binary operator, of a comparison -/
theorem le_bin {op : Operator} {r : R2} {f : D → D → Option D} (ho : OpR X (binaryOp op) r) (hr : OpD M r f) (ha : PE X a (LE M E ra)) (hb : PE X b (LE M E rb)) : PE X (.BinOp a op b pos) (LE M E (eOp f ra rb)) :=
  le_op2 (t := fun x _ => x) hr (pe_op ho ha hb)
theorem lo_bin {op : Operator} {r : R2} {f : D → D → Option D} (ho : OpR X (binaryOp op) r) (hr : OpO M r f) (ha : PE X a (LE M E ra)) (hb : PE X b (LE M E rb)) : PE X (.BinOp a op b pos) (LO M E (eOp f ra rb)) :=
  lo_op2 hr (pe_op ho ha hb)
theorem le_cmp {op : CmpOp} {r : R2} {f : D → D → Option D} (ho : OpR X (compareOp op) r) (hr : OpD M r f) (ha : PE X a (LE M E ra)) (hb : PE X b (LE M E rb)) (hm : behindInMarks op b = false) : PE X (.Compare a [op] [b] pos) (LE M E (eOp f ra rb)) :=
  le_op2 (t := fun x _ => x) hr (pe_cmpR ho ha hb hm)
def UnD (M : Md) (r : V → Hp → VK → Prop) (op : D → Option D) : Prop := ∀ (G H : Hp) (x : V) (a d : D) (Q : VK), Sub G H → Rep M G x a → op a = some d →
  (∀ v G' H', Ext M G H G' H' → Rep M G' v d → Q v H') → r x H Q
theorem le_un1 {r : V → Hp → VK → Prop} {op : D → Option D} (hr : UnD M r op) (h : PE X e (tUn r (LE M E ra))) : PE X e (LE M E (eUn op ra)) := by
  refine PE.of h fun σ H Q ⟨fr, G, ρ, R, q⟩ => ⟨fr, G, ρ, R, ?_⟩
  unfold eUn at q
  cases e1 : ra ρ with
  | stuck => rw [e1] at q; exact q
  | exc c fs ρ' => rw [e1] at q; exact q
  | ok x ρ1 =>
    rw [e1] at q
    refine fun v G1 H1 R1 s1 r1 => ?_
    simp only [OE.bind, OE.of] at q
    cases e3 : op x with
    | none => rw [e3] at q; exact q.elim
    | some d =>
      rw [e3] at q
      exact hr G1 H1 v x d Q R1.sub r1 e3 fun z G3 H3 x3 r3 => q z G3 H3 (R1.ext x3) (s1.trans x3.sub) r3
theorem le_un {op : UnaryOp} {r : V → Hp → VK → Prop} {f : D → Option D} (ho : UnR X (unaryOp op) r) (hr : UnD M r f) (ha : PE X a (LE M E ra)) : PE X (.UnaryOp op a pos) (LE M E (eUn f ra)) := le_un1 hr (pe_un ho ha)
end

/-! ### arithmetic on trees -/
/-- x < 2 ^ k, by its bits -/
def fits (x k : Nat) : Bool := decide (x.log2 < k)
theorem fits_iff {x k : Nat} (hk : 0 < k) : fits x k = true ↔ x < 2 ^ k := by
  unfold fits
  rw [decide_eq_true_eq]
  by_cases h : x = 0
  · subst h
    have : Nat.log2 0 = 0 := by decide
    rw [this]
    exact ⟨fun _ => Nat.pos_of_ne_zero (by simp), fun _ => hk⟩
  · exact Nat.log2_lt h
theorem fits_of {x k : Nat} (hk : 0 < k) (h : x < 2 ^ k) : fits x k = true := (fits_iff hk).mpr h
def big (i : Int) : Bool := !fits i.natAbs 64
def dAdd : D → D → Option D | .int i, .int j => some (.int (i + j)) | _, _ => none
def dSub : D → D → Option D | .int i, .int j => some (.int (i - j)) | _, _ => none
def dMul : D → D → Option D | .int i, .int j => if big i && big j then none else some (.int (i * j)) | _, _ => none
def dMod : D → D → Option D | .int i, .int j => if j = 0 then none else some (.int (i.fmod j)) | _, _ => none
def dFdiv : D → D → Option D | .int i, .int j => if j = 0 || !fits j.natAbs 30 then none else some (.int (i.fdiv j)) | _, _ => none
def dPow : D → D → Option D | .int i, .int j => if decide (0 ≤ j) && fits j.toNat 19 && !big i then some (.int (i ^ j.toNat)) else none | _, _ => none
def dNeg : D → Option D | .int i => some (.int (-i)) | _ => none
def dLt : D → D → Option D | .int i, .int j => some (.bl (decide (i < j))) | _, _ => none
def dLe : D → D → Option D | .int i, .int j => some (.bl (decide (i ≤ j))) | _, _ => none
def dGt : D → D → Option D | .int i, .int j => some (.bl (decide (j < i))) | _, _ => none
def dGe : D → D → Option D | .int i, .int j => some (.bl (decide (j ≤ i))) | _, _ => none
theorem big_no {i : Int} (h : big i = false) : -(2 ^ 64) < i ∧ i < 2 ^ 64 := by
  have h2 : i.natAbs < 2 ^ 64 := (fits_iff (by decide)).mp (by simpa [big] using h)
  omega
section
variable {M : Md}
theorem od_add : OpD M (rI0 fun i j => .int (i + j)) dAdd := by
  intro G H x y a b d Q s rx ry e k
  cases a <;> cases b <;> simp only [dAdd] at e <;> cases e
  exact ⟨_, _, rx.isInt, ry.isInt, k _ G H (Ext.refl s) (.int _)⟩
theorem od_sub : OpD M (rI0 fun i j => .int (i - j)) dSub := by
  intro G H x y a b d Q s rx ry e k
  cases a <;> cases b <;> simp only [dSub] at e <;> cases e
  exact ⟨_, _, rx.isInt, ry.isInt, k _ G H (Ext.refl s) (.int _)⟩
theorem od_mul : OpD M (rI CMul fun i j => .int (i * j)) dMul := by
  intro G H x y a b d Q s rx ry e k
  cases a <;> cases b <;> simp only [dMul] at e <;> try cases e
  rename_i i j
  by_cases h1 : big i = true
  · by_cases h2 : big j = true
    · simp [h1, h2] at e
    · simp [h1, h2] at e
      subst e
      exact ⟨_, _, rx.isInt, ry.isInt, .inr (big_no (by simpa using h2)), k _ G H (Ext.refl s) (.int _)⟩
  · simp [h1] at e
    subst e
    exact ⟨_, _, rx.isInt, ry.isInt, .inl (big_no (by simpa using h1)), k _ G H (Ext.refl s) (.int _)⟩
theorem od_mod : OpD M (rI (fun _ j => j ≠ 0) fun i j => .int (i.fmod j)) dMod := by
  intro G H x y a b d Q s rx ry e k
  cases a <;> cases b <;> simp only [dMod] at e <;> try cases e
  rename_i i j
  by_cases h1 : j = 0
  · simp [h1] at e
  · simp [h1] at e
    subst e
    exact ⟨_, _, rx.isInt, ry.isInt, h1, k _ G H (Ext.refl s) (.int _)⟩
theorem od_fdiv : OpD M (rI CDivN fun i j => .int (i.fdiv j)) dFdiv := by
  intro G H x y a b d Q s rx ry e k
  cases a <;> cases b <;> simp only [dFdiv] at e <;> try cases e
  rename_i i j
  by_cases h1 : j = 0
  · simp [h1] at e
  · by_cases h2 : fits j.natAbs 30 = true
    · simp [h1, h2] at e
      subst e
      have h3 : j.natAbs < 2 ^ 30 := (fits_iff (by decide)).mp h2
      exact ⟨_, _, rx.isInt, ry.isInt, ⟨h1, by omega⟩, k _ G H (Ext.refl s) (.int _)⟩
    · simp [h1, h2] at e
theorem od_pow : OpD M (rI CPow fun i j => .int (i ^ j.toNat)) dPow := by
  intro G H x y a b d Q s rx ry e k
  cases a <;> cases b <;> simp only [dPow] at e <;> try cases e
  rename_i i j
  by_cases h : (decide (0 ≤ j) && fits j.toNat 19 && !big i) = true
  · rw [if_pos h] at e
    cases e
    simp only [Bool.and_eq_true, decide_eq_true_eq, Bool.not_eq_true'] at h
    have h3 : i.natAbs < 2 ^ 64 := (fits_iff (by decide)).mp (by simpa [big] using h.2)
    have h4 : j.toNat < 2 ^ 19 := (fits_iff (by decide)).mp h.1.2
    exact ⟨_, _, rx.isInt, ry.isInt, ⟨h.1.1, by omega, by omega⟩, k _ G H (Ext.refl s) (.int _)⟩
  · rw [if_neg h] at e; cases e
theorem od_lt : OpD M (rI0 fun i j => .bl (decide (i < j))) dLt := by
  intro G H x y a b d Q s rx ry e k
  cases a <;> cases b <;> simp only [dLt] at e <;> cases e
  exact ⟨_, _, rx.isInt, ry.isInt, k _ G H (Ext.refl s) (.bl _)⟩
theorem od_le : OpD M (rI0 fun i j => .bl (decide (i ≤ j))) dLe := by
  intro G H x y a b d Q s rx ry e k
  cases a <;> cases b <;> simp only [dLe] at e <;> cases e
  exact ⟨_, _, rx.isInt, ry.isInt, k _ G H (Ext.refl s) (.bl _)⟩
theorem od_gt : OpD M (rI0 fun i j => .bl (decide (j < i))) dGt := by
  intro G H x y a b d Q s rx ry e k
  cases a <;> cases b <;> simp only [dGt] at e <;> cases e
  exact ⟨_, _, rx.isInt, ry.isInt, k _ G H (Ext.refl s) (.bl _)⟩
theorem od_ge : OpD M (rI0 fun i j => .bl (decide (j ≤ i))) dGe := by
  intro G H x y a b d Q s rx ry e k
  cases a <;> cases b <;> simp only [dGe] at e <;> cases e
  exact ⟨_, _, rx.isInt, ry.isInt, k _ G H (Ext.refl s) (.bl _)⟩
theorem ud_neg : UnD M (rU fun i => .int (-i)) dNeg := by
  intro G H x a d Q s rx e k
  cases a <;> simp only [dNeg] at e <;> cases e
  exact ⟨_, rx.isInt, k _ G H (Ext.refl s) (.int _)⟩
end
end DL

set_option Elab.async false
set_option linter.all false
set_option maxRecDepth 100000
set_option maxHeartbeats 4000000
namespace DL
open PySem PySem.Spec PyProof.Rows L2

/-! ## tests -/
def OT.bind (o : OT) (k : Bool → Rho → OT) : OT := match o with
  | .ok d ρ => k d ρ
  | .exc c fs ρ => .exc c fs ρ
  | .stuck => .stuck
def OE.test (o : OE) : OT := match o with
  | .ok (.bl b) ρ => .ok b ρ
  | .ok _ _ => .stuck
  | .exc c fs ρ => .exc c fs ρ
  | .stuck => .stuck
def tV (r : DE) : DT := fun ρ => (r ρ).test
def tAnd (s t : DT) : DT := fun ρ => (s ρ).bind fun b ρ1 => if b then t ρ1 else .ok false ρ1
def tOr (s t : DT) : DT := fun ρ => (s ρ).bind fun b ρ1 => if b then .ok true ρ1 else t ρ1
def tNot (s : DT) : DT := fun ρ => (s ρ).bind fun b ρ1 => .ok (!b) ρ1
def OT.val (o : OT) : OE := match o with
  | .ok b ρ => .ok (.bl b) ρ
  | .exc c fs ρ => .exc c fs ρ
  | .stuck => .stuck
/-- and, or of values, all but the last True or False -/
def eAnd (a b : DE) : DE := fun ρ => (a ρ).bind fun x ρ1 => match x with
  | .bl true => b ρ1
  | .bl false => .ok (.bl false) ρ1
  | _ => .stuck
def eOr (a b : DE) : DE := fun ρ => (a ρ).bind fun x ρ1 => match x with
  | .bl false => b ρ1
  | .bl true => .ok (.bl true) ρ1
  | _ => .stuck
def dNot : D → Option D | .bl b => some (.bl (!b)) | _ => none
def eIf (c : DT) (a b : DE) : DE := fun ρ => match c ρ with
  | .ok k ρ1 => if k then a ρ1 else b ρ1
  | .exc c fs ρ => .exc c fs ρ
  | .stuck => .stuck
/-- a op1 b op2 c -/
def eChain (f g : D → D → Option D) (a b c : DE) : DE := fun ρ => (a ρ).bind fun x ρ1 => (b ρ1).bind fun y ρ2 => match f x y with
  | some (.bl true) => (c ρ2).bind fun z ρ3 => .of (g y z) ρ3
  | some (.bl false) => .ok (.bl false) ρ2
  | _ => .stuck

section
variable {X : Cx} {M : Md} {E : XK} {e a b c : Expr} {es : List Expr} {r ra rb rc : DE} {s t : DT} {pos : Pos}
theorem tv_imp {σ : L2.St} {H : Hp} {Q : Bool → Hp → Prop} (h : LT M E (tV r) σ H Q) : LE M E r σ H fun x H' => ∃ k, x = .bl k ∧ Q k H' := by
  obtain ⟨fr, G, ρ, R, q⟩ := h
  refine ⟨fr, G, ρ, R, ?_⟩
  unfold tV at q
  cases e : r ρ with
  | stuck => rw [e] at q; exact q
  | exc c fs ρ' => rw [e] at q; exact q
  | ok d ρ' =>
    rw [e] at q
    cases d with
    | bl b => exact fun v G' H' R' s' r' => ⟨b, r'.isBl, q G' H' R' s'⟩
    | _ => exact q.elim
theorem lt_val (h : PE X e (LE M E r)) (he : ∀ whole, isTrue e X.env whole = (do let v ← whole; standAt e.pos; holding [v] (truthy v)) := by intro _; rfl) : PT X e (LT M E (tV r)) :=
  PT.of (pt_val h he) fun σ H Q q => tv_imp q
theorem lt_cmp {op : CmpOp} {r2 : R2} {f : D → D → Option D} (ho : OpR X (compareOp op) r2) (hr : OpD M r2 f) (ha : PE X a (LE M E ra)) (hb : PE X b (LE M E rb)) (hm : behindInMarks op b = false) : PT X (.Compare a [op] [b] pos) (LT M E (tV (eOp f ra rb))) := by
  refine PT.of (pt_cmpR ho ha hb hm) fun σ H Q q => ?_
  -- the reading of the operation, from the reading of its value
  have h1 := tv_imp q
  obtain ⟨fr, G, ρ, R, q⟩ := h1
  refine ⟨fr, G, ρ, R, ?_⟩
  unfold eOp at q
  cases e1 : ra ρ with
  | stuck => rw [e1] at q; exact q
  | exc c fs ρ' => rw [e1] at q; exact q
  | ok x ρ1 =>
    rw [e1] at q
    refine fun v G1 H1 R1 s1 r1 => ⟨fr, G1, ρ1, R1, ?_⟩
    simp only [OE.bind] at q
    cases e2 : rb ρ1 with
    | stuck => rw [e2] at q; exact q
    | exc c fs ρ' => rw [e2] at q; exact XC.of s1 q
    | ok y ρ2 =>
      rw [e2] at q
      refine fun w G2 H2 R2 s2 r2 => ?_
      simp only [OE.of] at q
      cases e3 : f x y with
      | none => rw [e3] at q; exact q.elim
      | some d =>
        rw [e3] at q
        exact hr G2 H2 v w x y d _ R2.sub (r1.mono s2) r2 e3 fun z G3 H3 x3 r3 => q z G3 H3 (R2.ext x3) ((s1.trans s2).trans x3.sub) r3
theorem lt_and1 (h : PT X a (LT M E s)) : PW X (.BoolOp .And [a] pos) (LT M E s) := pw_and1 h
theorem lt_or1 (h : PT X a (LT M E s)) : PW X (.BoolOp .Or [a] pos) (LT M E s) := pw_or1 h
theorem lt_and (ha : PT X a (LT M E s)) (hb : PW X (.BoolOp .And (b :: es) pos) (LT M E t)) : PW X (.BoolOp .And (a :: b :: es) pos) (LT M E (tAnd s t)) := by
  refine PW.of (pw_and ha hb) fun σ H Q ⟨fr, G, ρ, R, q⟩ => ⟨fr, G, ρ, R, ?_⟩
  unfold tAnd at q
  cases e1 : s ρ with
  | stuck => rw [e1] at q; exact q
  | exc c fs ρ' => rw [e1] at q; exact q
  | ok k ρ1 =>
    rw [e1] at q
    refine fun G1 H1 R1 s1 => ?_
    simp only [OT.bind] at q
    cases k with
    | false => exact q G1 H1 R1 s1
    | true =>
      refine ⟨fr, G1, ρ1, R1, ?_⟩
      simp only [if_true] at q
      cases e2 : t ρ1 with
      | stuck => rw [e2] at q; exact q
      | exc c fs ρ' => rw [e2] at q; exact XC.of s1 q
      | ok k2 ρ2 => rw [e2] at q; exact fun G2 H2 R2 s2 => q G2 H2 R2 (s1.trans s2)
theorem lt_or (ha : PT X a (LT M E s)) (hb : PW X (.BoolOp .Or (b :: es) pos) (LT M E t)) : PW X (.BoolOp .Or (a :: b :: es) pos) (LT M E (tOr s t)) := by
  refine PW.of (pw_or ha hb) fun σ H Q ⟨fr, G, ρ, R, q⟩ => ⟨fr, G, ρ, R, ?_⟩
  unfold tOr at q
  cases e1 : s ρ with
  | stuck => rw [e1] at q; exact q
  | exc c fs ρ' => rw [e1] at q; exact q
  | ok k ρ1 =>
    rw [e1] at q
    refine fun G1 H1 R1 s1 => ?_
    simp only [OT.bind] at q
    cases k with
    | true => exact q G1 H1 R1 s1
    | false =>
      refine ⟨fr, G1, ρ1, R1, ?_⟩
      simp only [Bool.false_eq_true, if_false] at q
      cases e2 : t ρ1 with
      | stuck => rw [e2] at q; exact q
      | exc c fs ρ' => rw [e2] at q; exact XC.of s1 q
      | ok k2 ρ2 => rw [e2] at q; exact fun G2 H2 R2 s2 => q G2 H2 R2 (s1.trans s2)
theorem lt_not (ha : PT X a (LT M E s)) : PT X (.UnaryOp .Not a pos) (LT M E (tNot s)) := by
  refine PT.of (pt_not ha) fun σ H Q ⟨fr, G, ρ, R, q⟩ => ⟨fr, G, ρ, R, ?_⟩
  unfold tNot at q
  cases e1 : s ρ with
  | stuck => rw [e1] at q; exact q
  | exc c fs ρ' => rw [e1] at q; exact q
  | ok k ρ1 => rw [e1] at q; exact q
theorem le_one {op} (h : PE X a (LE M E ra)) : PE X (.BoolOp op [a] pos) (LE M E ra) := pe_one h
theorem le_and (ha : PE X a (LE M E ra)) (hb : PE X (.BoolOp .And (b :: es) pos) (LE M E rb)) : PE X (.BoolOp .And (a :: b :: es) pos) (LE M E (eAnd ra rb)) := by
  refine PE.of (pe_and ha hb) fun σ H Q ⟨fr, G, ρ, R, q⟩ => ⟨fr, G, ρ, R, ?_⟩
  unfold eAnd at q
  cases e1 : ra ρ with
  | stuck => rw [e1] at q; exact q
  | exc c fs ρ' => rw [e1] at q; exact q
  | ok x ρ1 =>
    rw [e1] at q
    refine fun v G1 H1 R1 s1 r1 => ?_
    simp only [OE.bind] at q
    cases x with
    | bl k =>
      refine ⟨k, r1.isBl, ?_⟩
      cases k with
      | false => exact q _ G1 H1 R1 s1 (.bl false)
      | true =>
        refine ⟨fr, G1, ρ1, R1, ?_⟩
        dsimp only at q
        cases e2 : rb ρ1 with
        | stuck => rw [e2] at q; exact q
        | exc c fs ρ' => rw [e2] at q; exact XC.of s1 q
        | ok y ρ2 => rw [e2] at q; exact fun w G2 H2 R2 s2 r2 => q w G2 H2 R2 (s1.trans s2) r2
    | _ => exact q.elim
theorem le_or (ha : PE X a (LE M E ra)) (hb : PE X (.BoolOp .Or (b :: es) pos) (LE M E rb)) : PE X (.BoolOp .Or (a :: b :: es) pos) (LE M E (eOr ra rb)) := by
  refine PE.of (pe_or ha hb) fun σ H Q ⟨fr, G, ρ, R, q⟩ => ⟨fr, G, ρ, R, ?_⟩
  unfold eOr at q
  cases e1 : ra ρ with
  | stuck => rw [e1] at q; exact q
  | exc c fs ρ' => rw [e1] at q; exact q
  | ok x ρ1 =>
    rw [e1] at q
    refine fun v G1 H1 R1 s1 r1 => ?_
    simp only [OE.bind] at q
    cases x with
    | bl k =>
      refine ⟨k, r1.isBl, ?_⟩
      cases k with
      | true => exact q _ G1 H1 R1 s1 (.bl true)
      | false =>
        refine ⟨fr, G1, ρ1, R1, ?_⟩
        dsimp only at q
        cases e2 : rb ρ1 with
        | stuck => rw [e2] at q; exact q
        | exc c fs ρ' => rw [e2] at q; exact XC.of s1 q
        | ok y ρ2 => rw [e2] at q; exact fun w G2 H2 R2 s2 r2 => q w G2 H2 R2 (s1.trans s2) r2
    | _ => exact q.elim
theorem le_not (ha : PE X a (LE M E ra)) : PE X (.UnaryOp .Not a pos) (LE M E (eUn dNot ra)) := by
  refine PE.of (pe_not ha) fun σ H Q ⟨fr, G, ρ, R, q⟩ => ⟨fr, G, ρ, R, ?_⟩
  unfold eUn at q
  cases e1 : ra ρ with
  | stuck => rw [e1] at q; exact q
  | exc c fs ρ' => rw [e1] at q; exact q
  | ok x ρ1 =>
    rw [e1] at q
    refine fun v G1 H1 R1 s1 r1 => ?_
    simp only [OE.bind, OE.of] at q
    cases x with
    | bl k => exact ⟨k, r1.isBl, q _ G1 H1 R1 s1 (.bl _)⟩
    | _ => exact q.elim
theorem le_ife (hc : PT X c (LT M E s)) (ha : PE X a (LE M E ra)) (hb : PE X b (LE M E rb)) : PE X (.IfExp c a b pos) (LE M E (eIf s ra rb)) := by
  refine PE.of (pe_ifExp hc ha hb) fun σ H Q ⟨fr, G, ρ, R, q⟩ => ⟨fr, G, ρ, R, ?_⟩
  unfold eIf at q
  cases e1 : s ρ with
  | stuck => rw [e1] at q; exact q
  | exc c fs ρ' => rw [e1] at q; exact q
  | ok k ρ1 =>
    rw [e1] at q
    refine fun G1 H1 R1 s1 => ?_
    cases k with
    | true =>
      refine ⟨fr, G1, ρ1, R1, ?_⟩
      simp only [if_true] at q
      cases e2 : ra ρ1 with
      | stuck => rw [e2] at q; exact q
      | exc c fs ρ' => rw [e2] at q; exact XC.of s1 q
      | ok y ρ2 => rw [e2] at q; exact fun w G2 H2 R2 s2 r2 => q w G2 H2 R2 (s1.trans s2) r2
    | false =>
      refine ⟨fr, G1, ρ1, R1, ?_⟩
      simp only [Bool.false_eq_true, if_false] at q
      cases e2 : rb ρ1 with
      | stuck => rw [e2] at q; exact q
      | exc c fs ρ' => rw [e2] at q; exact XC.of s1 q
      | ok y ρ2 => rw [e2] at q; exact fun w G2 H2 R2 s2 r2 => q w G2 H2 R2 (s1.trans s2) r2
/-- both values new -/
theorem lo_ife (hc : PT X c (LT M E s)) (ha : PE X a (LO M E ra)) (hb : PE X b (LO M E rb)) : PE X (.IfExp c a b pos) (LO M E (eIf s ra rb)) := by
  refine PE.of (pe_ifExp hc ha hb) fun σ H Q ⟨fr, G, ρ, R, q⟩ => ⟨fr, G, ρ, R, ?_⟩
  unfold eIf at q
  cases e1 : s ρ with
  | stuck => rw [e1] at q; exact q
  | exc c fs ρ' => rw [e1] at q; exact q
  | ok k ρ1 =>
    rw [e1] at q
    refine fun G1 H1 R1 s1 => ?_
    cases k with
    | true =>
      refine ⟨fr, G1, ρ1, R1, ?_⟩
      simp only [if_true] at q
      cases e2 : ra ρ1 with
      | stuck => rw [e2] at q; exact q
      | exc c fs ρ' => rw [e2] at q; exact XC.of s1 q
      | ok y ρ2 => rw [e2] at q; exact fun w G2 H2 R2 s2 r2 => q w G2 H2 R2 (s1.trans s2) r2
    | false =>
      refine ⟨fr, G1, ρ1, R1, ?_⟩
      simp only [Bool.false_eq_true, if_false] at q
      cases e2 : rb ρ1 with
      | stuck => rw [e2] at q; exact q
      | exc c fs ρ' => rw [e2] at q; exact XC.of s1 q
      | ok y ρ2 => rw [e2] at q; exact fun w G2 H2 R2 s2 r2 => q w G2 H2 R2 (s1.trans s2) r2
theorem chain_imp {r2 r3 : R2} {f g : D → D → Option D} (hr : OpD M r2 f) (hr' : OpD M r3 g) {σ : L2.St} {H : Hp} {Q : VK} (h : LE M E (eChain f g ra rb rc) σ H Q) : tChain r2 r3 (LE M E ra) (LE M E rb) (LE M E rc) σ H Q := by
  obtain ⟨fr, G, ρ, R, q⟩ := h
  refine ⟨fr, G, ρ, R, ?_⟩
  unfold eChain at q
  cases e1 : ra ρ with
  | stuck => rw [e1] at q; exact q
  | exc c fs ρ' => rw [e1] at q; exact q
  | ok x ρ1 =>
    rw [e1] at q
    refine fun v G1 H1 R1 s1 r1 => ⟨fr, G1, ρ1, R1, ?_⟩
    simp only [OE.bind] at q
    cases e2 : rb ρ1 with
    | stuck => rw [e2] at q; exact q
    | exc c fs ρ' => rw [e2] at q; exact XC.of s1 q
    | ok y ρ2 =>
      rw [e2] at q
      refine fun w G2 H2 R2 s2 r2' => ?_
      dsimp only at q
      cases e3 : f x y with
      | none => rw [e3] at q; exact q.elim
      | some d =>
        rw [e3] at q
        refine hr G2 H2 v w x y d _ R2.sub (r1.mono s2) r2' e3 fun z G3 H3 x3 r3 => ?_
        cases d with
        | bl k =>
          refine ⟨k, r3.isBl, ?_⟩
          cases k with
          | false => exact q _ G3 H3 (R2.ext x3) ((s1.trans s2).trans x3.sub) (.bl false)
          | true =>
            refine ⟨fr, G3, ρ2, R2.ext x3, ?_⟩
            dsimp only at q
            cases e4 : rc ρ2 with
            | stuck => rw [e4] at q; exact q
            | exc c fs ρ' => rw [e4] at q; exact XC.of ((s1.trans s2).trans x3.sub) q
            | ok u ρ3 =>
              rw [e4] at q
              refine fun u' G4 H4 R4 s4 r4 => ?_
              simp only [OE.bind, OE.of] at q
              cases e5 : g y u with
              | none => rw [e5] at q; exact q.elim
              | some d5 =>
                rw [e5] at q
                exact hr' G4 H4 w u' y u d5 Q R4.sub (r2'.mono (x3.sub.trans s4)) r4 e5 fun z' G5 H5 x5 r5 => q z' G5 H5 (R4.ext x5) ((((s1.trans s2).trans x3.sub).trans s4).trans x5.sub) r5
        | _ => exact q.elim
theorem le_chain {op op' : CmpOp} {r2 r3 : R2} {f g : D → D → Option D} (ho : OpR X (compareOp op) r2) (ho' : OpR X (compareOp op') r3) (hr : OpD M r2 f) (hr' : OpD M r3 g) (ha : PE X a (LE M E ra)) (hb : PE X b (LE M E rb)) (hc : PE X c (LE M E rc))
    (hm : lastMarks [op, op'] [b, c] = false := by with_unfolding_all rfl) : PE X (.Compare a [op, op'] [b, c] pos) (LE M E (eChain f g ra rb rc)) :=
  PE.of (pe_chain ho ho' ha hb hc hm) fun σ H Q q => chain_imp hr hr' q
theorem lt_chain {op op' : CmpOp} {r2 r3 : R2} {f g : D → D → Option D} (ho : OpR X (compareOp op) r2) (ho' : OpR X (compareOp op') r3) (hr : OpD M r2 f) (hr' : OpD M r3 g) (ha : PE X a (LE M E ra)) (hb : PE X b (LE M E rb)) (hc : PE X c (LE M E rc))
    (hm : lastMarks [op, op'] [b, c] = false := by with_unfolding_all rfl) : PT X (.Compare a [op, op'] [b, c] pos) (LT M E (tV (eChain f g ra rb rc))) :=
  PT.of (pt_chain ho ho' ha hb hc hm) fun σ H Q q => chain_imp hr hr' (tv_imp q)
end

/-! ## argument lists, displays -/
def OA.bind (o : OA) (k : List D → Rho → OE) : OE := match o with
  | .ok d ρ => k d ρ
  | .exc c fs ρ => .exc c fs ρ
  | .stuck => .stuck
def aL : List DE → DA
  | [] => fun ρ => .ok [] ρ
  | r :: rs => fun ρ => match r ρ with
    | .ok d ρ1 => match aL rs ρ1 with
      | .ok l ρ2 => .ok (d :: l) ρ2
      | .exc c fs ρ2 => .exc c fs ρ2
      | .stuck => .stuck
    | .exc c fs ρ1 => .exc c fs ρ1
    | .stuck => .stuck
theorem aL_len : ∀ (rs : List DE) (ρ : Rho) {l : List D} {ρ' : Rho}, aL rs ρ = .ok l ρ' → l.length = rs.length
  | [], ρ, l, ρ', h => by cases h; rfl
  | r :: rs, ρ, l, ρ', h => by
    unfold aL at h
    cases e : r ρ with
    | stuck => rw [e] at h; cases h
    | exc c fs q => rw [e] at h; cases h
    | ok d ρ1 =>
      rw [e] at h
      dsimp only at h
      cases e2 : aL rs ρ1 with
      | stuck => rw [e2] at h; cases h
      | exc c fs q => rw [e2] at h; cases h
      | ok l2 ρ2 =>
        rw [e2] at h
        cases h
        rw [List.length_cons, List.length_cons, aL_len rs ρ1 e2]
def eTup (rs : List DE) : DE := fun ρ => (aL rs ρ).bind fun l ρ' => .ok (.tup l) ρ'
def eLst (rs : List DE) : DE := fun ρ => (aL rs ρ).bind fun l ρ' => .ok (.lst l) ρ'
/-- a call of a builtin -/
def eB (op : List D → Option D) (rs : List DE) : DE := fun ρ => (aL rs ρ).bind fun l ρ' => .of (op l) ρ'
section
variable {X : Cx} {M : Md} {E : XK} {e : Expr} {es : List Expr} {r : DE} {rs : List DE} {pos : Pos}
theorem la_nil : PA X [] (LA M E (aL [])) := PA.of pa_nil fun σ H Q ⟨fr, G, ρ, R, q⟩ => q [] G H R Sub.refl .nil
theorem la_cons (he : PE X e (LE M E r)) (hr : PA X es (LA M E (aL rs))) (hs : starEach (e :: es) X.env = (false, eval e X.env) :: starEach es X.env := by rfl) : PA X (e :: es) (LA M E (aL (r :: rs))) := by
  refine PA.of (pa_cons he hr hs) fun σ H Q ⟨fr, G, ρ, R, q⟩ => ⟨fr, G, ρ, R, ?_⟩
  unfold aL at q
  cases e1 : r ρ with
  | stuck => rw [e1] at q; exact q
  | exc c fs ρ' => rw [e1] at q; exact q
  | ok x ρ1 =>
    rw [e1] at q
    refine fun v G1 H1 R1 s1 r1 => ⟨fr, G1, ρ1, R1, ?_⟩
    dsimp only at q
    cases e2 : aL rs ρ1 with
    | stuck => rw [e2] at q; exact q
    | exc c fs ρ' => rw [e2] at q; exact XC.of s1 q
    | ok l ρ2 => rw [e2] at q; exact fun vs G2 H2 R2 s2 r2 => q _ G2 H2 R2 (s1.trans s2) (.cons (r1.mono s2) r2)
theorem le_tup {x1} (h : PA X es (LA M E (aL rs))) (hz : rs.length ≤ 1000 := by decide) : PE X (.Tuple es x1 pos) (LE M E (eTup rs)) := by
  refine PE.of (pe_tup h) fun σ H Q ⟨fr, G, ρ, R, q⟩ => ⟨fr, G, ρ, R, ?_⟩
  unfold eTup at q
  cases e1 : aL rs ρ with
  | stuck => rw [e1] at q; exact q
  | exc c fs ρ' => rw [e1] at q; exact q
  | ok l ρ1 =>
    rw [e1] at q
    refine fun vs G1 H1 R1 s1 r1 => ⟨?_, fun p n => ?_⟩
    · rw [r1.length, aL_len rs ρ e1, sizeLine_eq]; omega
    · have x := Ext.new (M := M) (o := .tup vs) R1.sub n
      exact q _ _ _ (R1.ext x) (s1.trans x.sub) (.here upd_same (.tup (r1.mono x.sub)))
theorem lo_lst (h : PA X es (LA M E (aL rs))) (hz : rs.length ≤ 1000 := by decide) : PE X (.List es pos) (LO M E (eLst rs)) := by
  refine PE.of (pe_lst h) fun σ H Q ⟨fr, G, ρ, R, q⟩ => ⟨fr, G, ρ, R, ?_⟩
  unfold eLst at q
  cases e1 : aL rs ρ with
  | stuck => rw [e1] at q; exact q
  | exc c fs ρ' => rw [e1] at q; exact q
  | ok l ρ1 =>
    rw [e1] at q
    refine fun vs G1 H1 R1 s1 r1 => ⟨?_, fun p n => ?_⟩
    · rw [r1.length, aL_len rs ρ e1, sizeLine_eq]; omega
    · obtain ⟨R3, n3⟩ := R1.newAt (o := .lst vs) n (.lst r1)
      exact q p _ _ R3 s1 n3
def CD (M : Md) (r : List V → Hp → VK → Prop) (op : List D → Option D) : Prop := ∀ (G H : Hp) (xs : List V) (l : List D) (d : D) (Q : VK), Sub G H → Reps M G xs l → op l = some d →
  (∀ v G' H', Ext M G H G' H' → Rep M G' v d → Q v H') → r xs H Q
def CO (M : Md) (r : List V → Hp → VK → Prop) (op : List D → Option D) : Prop := ∀ (G H : Hp) (xs : List V) (l : List D) (d : D) (Q : VK), Sub G H → Reps M G xs l → op l = some d →
  (∀ p o, H p = none → ORep M G o d → Q (.ref p) (upd H p o)) → r xs H Q
theorem le_cb {r : List V → Hp → VK → Prop} {op : List D → Option D} (hr : CD M r op) (h : PE X e (tCB r (LA M E (aL rs)))) : PE X e (LE M E (eB op rs)) := by
  refine PE.of h fun σ H Q ⟨fr, G, ρ, R, q⟩ => ⟨fr, G, ρ, R, ?_⟩
  unfold eB at q
  cases e1 : aL rs ρ with
  | stuck => rw [e1] at q; exact q
  | exc c fs ρ' => rw [e1] at q; exact q
  | ok l ρ1 =>
    rw [e1] at q
    refine fun vs G1 H1 R1 s1 r1 => ?_
    simp only [OA.bind, OE.of] at q
    cases e3 : op l with
    | none => rw [e3] at q; exact q.elim
    | some d =>
      rw [e3] at q
      exact hr G1 H1 vs l d Q R1.sub r1 e3 fun z G3 H3 x3 r3 => q z G3 H3 (R1.ext x3) (s1.trans x3.sub) r3
theorem lo_cb {r : List V → Hp → VK → Prop} {op : List D → Option D} (hr : CO M r op) (h : PE X e (tCB r (LA M E (aL rs)))) : PE X e (LO M E (eB op rs)) := by
  refine PE.of h fun σ H Q ⟨fr, G, ρ, R, q⟩ => ⟨fr, G, ρ, R, ?_⟩
  unfold eB at q
  cases e1 : aL rs ρ with
  | stuck => rw [e1] at q; exact q
  | exc c fs ρ' => rw [e1] at q; exact q
  | ok l ρ1 =>
    rw [e1] at q
    refine fun vs G1 H1 R1 s1 r1 => ?_
    simp only [OA.bind, OE.of] at q
    cases e3 : op l with
    | none => rw [e3] at q; exact q.elim
    | some d =>
      rw [e3] at q
      refine hr G1 H1 vs l d Q R1.sub r1 e3 fun p o n ho => ?_
      obtain ⟨R3, n3⟩ := R1.newAt n ho
      exact q p G1 _ R3 s1 n3
end

/-! ## statements -/
def sSeq (s t : DS) : DS := fun ρ => match s ρ with
  | .nx ρ' => t ρ'
  | o => o
def sNil : DS := fun ρ => .nx ρ
def OE.st (o : OE) (k : D → Rho → OS) : OS := match o with
  | .ok d ρ => k d ρ
  | .exc c fs ρ => .exc c fs ρ
  | .stuck => .stuck
def OT.st (o : OT) (k : Bool → Rho → OS) : OS := match o with
  | .ok d ρ => k d ρ
  | .exc c fs ρ => .exc c fs ρ
  | .stuck => .stuck
def sIf (c : DT) (s t : DS) : DS := fun ρ => (c ρ).st fun b ρ1 => if b then s ρ1 else t ρ1
def setF (i : Nat) (d : D) (ρ : Rho) : OS := if notPar ρ i then .nx (ρ.set i (.fro d)) else .stuck
def setO (i : Nat) (d : D) (ρ : Rho) : OS := if notPar ρ i then .nx (ρ.set i (.own d)) else .stuck
def sSet (i : Nat) (r : DE) : DS := fun ρ => (r ρ).st (setF i)
def sSetO (i : Nat) (r : DE) : DS := fun ρ => (r ρ).st (setO i)
def sRet (r : DE) : DS := fun ρ => (r ρ).st .rt
def sRetN : DS := fun ρ => .rt .non ρ
def sDrop (r : DE) : DS := fun ρ => (r ρ).st fun _ ρ' => .nx ρ'
def sBrk : DS := fun ρ => .bk ρ
def sCont : DS := fun ρ => .ct ρ
section
variable {X : Cx} {M : Md} {E : XK} {e c : Expr} {st : Stmt} {sts us : List Stmt} {r : DE} {s t : DS} {tc : DT} {pos pos' : Pos}
theorem ls_nil : PSs X [] (LS M E sNil) := PSs.of pss_nil fun σ H D ⟨fr, G, ρ, R, q⟩ => q σ G H R Sub.refl
theorem ls_pass : PS X (.Pass pos) (LS M E sNil) := PS.of ps_pass fun σ H D ⟨fr, G, ρ, R, q⟩ => q σ G H R Sub.refl
theorem ls_doc {x j} : PS X (.Expr (.Constant (.str x) j pos) pos') (LS M E sNil) := PS.of ps_doc fun σ H D ⟨fr, G, ρ, R, q⟩ => q σ G H R Sub.refl
theorem ls_brk : PS X (.Break pos) (LS M E sBrk) := PS.of ps_break fun σ H D ⟨fr, G, ρ, R, q⟩ => q σ G H R Sub.refl
theorem ls_cont : PS X (.Continue pos) (LS M E sCont) := PS.of ps_continue fun σ H D ⟨fr, G, ρ, R, q⟩ => q σ G H R Sub.refl
theorem ls_retN : PS X (.Return none pos) (LS M E sRetN) := PS.of ps_retN fun σ H D ⟨fr, G, ρ, R, q⟩ => q _ σ G H R Sub.refl .non
theorem ls_one (h : PS X st (LS M E s)) : PSs X [st] (LS M E s) := pss_one h
theorem SQ.of {D : Ends} {fr : Fr} {G0 G : Hp} (s0 : Sub G0 G) : ∀ {o : OS}, SQ M E fr G0 D o → SQ M E fr G D o
  | .stuck, q => q
  | .nx ρ', q => fun σ' G' H' R' s' => q σ' G' H' R' (s0.trans s')
  | .bk ρ', q => fun σ' G' H' R' s' => q σ' G' H' R' (s0.trans s')
  | .ct ρ', q => fun σ' G' H' R' s' => q σ' G' H' R' (s0.trans s')
  | .rt d ρ', q => fun v σ' G' H' R' s' => q v σ' G' H' R' (s0.trans s')
  | .exc c fs ρ', q => XS.of s0 q
theorem LS.from {D : Ends} {σ : L2.St} {H : Hp} {fr : Fr} {G : Hp} {ρ : Rho} (R : SR M fr G H σ ρ) {G0 : Hp} (s0 : Sub G0 G) (q : SQ M E fr G0 D (s ρ)) : LS M E s D σ H := ⟨fr, G, ρ, R, q.of s0⟩
theorem ls_cons (h1 : PS X st (LS M E s)) (h2 : PSs X sts (LS M E t)) : PSs X (st :: sts) (LS M E (sSeq s t)) := by
  refine PSs.of (pss_cons h1 h2) fun σ H D ⟨fr, G, ρ, R, q⟩ => ⟨fr, G, ρ, R, ?_⟩
  unfold sSeq at q
  cases e1 : s ρ with
  | stuck => rw [e1] at q; exact q
  | exc c fs ρ' => rw [e1] at q; exact q
  | bk ρ' => rw [e1] at q; exact q
  | ct ρ' => rw [e1] at q; exact q
  | rt d ρ' => rw [e1] at q; exact q
  | nx ρ1 =>
    rw [e1] at q
    exact fun σ1 G1 H1 R1 s1 => LS.from R1 s1 q
theorem ls_if {a b : List Stmt} (hc : PT X c (LT M E tc)) (ha : PSs X a (LS M E s)) (hb : PSs X b (LS M E t)) : PS X (.If c a b pos) (LS M E (sIf tc s t)) := by
  refine PS.of (ps_if hc ha hb) fun σ H D ⟨fr, G, ρ, R, q⟩ => ⟨fr, G, ρ, R, ?_⟩
  unfold sIf at q
  cases e1 : tc ρ with
  | stuck => rw [e1] at q; exact q
  | exc c fs ρ' => rw [e1] at q; exact fun cls dx G' H' R' s' x => q cls dx σ G' H' R' s' x
  | ok k ρ1 =>
    rw [e1] at q
    refine fun G1 H1 R1 s1 => ?_
    cases k with
    | true => exact LS.from R1 s1 q
    | false => exact LS.from R1 s1 q
theorem ls_set {i : Nat} {x : Str} {pos' : Pos} (hN : X.N.Nodup) (hi : X.N[i]? = some x) (hx : Loc X.env.scope x) (he : PE X e (LE M E r)) (hs : swapsWith e (some (.Name x pos')) pos.line X.env = pure false := by rfl) (hf : X.fn x = true ∨ X.env.scope.names.lookup x = some .local := by first | exact .inl rfl | exact .inr rfl | assumption) :
    PS X (.Assign [.Name x pos'] e pos) (LS M E (sSet i r)) := by
  refine PS.of (ps_set hN hi hx he hs hf) fun σ H D ⟨fr, G, ρ, R, q⟩ => ⟨fr, G, ρ, R, ?_⟩
  unfold sSet at q
  cases e1 : r ρ with
  | stuck => rw [e1] at q; exact q
  | exc c fs ρ' => rw [e1] at q; exact fun cls dx G' H' R' s' x => q cls dx σ G' H' R' s' x
  | ok d ρ1 =>
    rw [e1] at q
    refine fun v G1 H1 R1 s1 r1 => ?_
    simp only [OE.st, setF] at q
    by_cases np : notPar ρ1 i = true
    · rw [if_pos np] at q; exact q _ G1 H1 (R1.setFro np r1) s1
    · rw [if_neg np] at q; exact q.elim
theorem ls_setO {i : Nat} {x : Str} {pos' : Pos} (hN : X.N.Nodup) (hi : X.N[i]? = some x) (hx : Loc X.env.scope x) (he : PE X e (LO M E r)) (hs : swapsWith e (some (.Name x pos')) pos.line X.env = pure false := by rfl) (hf : X.fn x = true ∨ X.env.scope.names.lookup x = some .local := by first | exact .inl rfl | exact .inr rfl | assumption) :
    PS X (.Assign [.Name x pos'] e pos) (LS M E (sSetO i r)) := by
  refine PS.of (ps_set hN hi hx he hs hf) fun σ H D ⟨fr, G, ρ, R, q⟩ => ⟨fr, G, ρ, R, ?_⟩
  unfold sSetO at q
  cases e1 : r ρ with
  | stuck => rw [e1] at q; exact q
  | exc c fs ρ' => rw [e1] at q; exact fun cls dx G' H' R' s' x => q cls dx σ G' H' R' s' x
  | ok d ρ1 =>
    rw [e1] at q
    refine fun a G1 H1 R1 s1 n1 => ?_
    simp only [OE.st, setO] at q
    by_cases np : notPar ρ1 i = true
    · rw [if_pos np] at q
      obtain ⟨o, ho, hr⟩ := n1.o
      exact q _ G1 H1 (R1.setOwn np n1.g n1.t n1.n ho hr) s1
    · rw [if_neg np] at q; exact q.elim
theorem ls_ret (he : PE X e (LE M E r)) : PS X (.Return (some e) pos) (LS M E (sRet r)) := by
  refine PS.of (ps_ret he) fun σ H D ⟨fr, G, ρ, R, q⟩ => ⟨fr, G, ρ, R, ?_⟩
  unfold sRet at q
  cases e1 : r ρ with
  | stuck => rw [e1] at q; exact q
  | exc c fs ρ' => rw [e1] at q; exact fun cls dx G' H' R' s' x => q cls dx σ G' H' R' s' x
  | ok d ρ1 => rw [e1] at q; exact fun v G1 H1 R1 s1 r1 => q v σ G1 H1 R1 s1 r1
theorem ls_drop (he : PE X e (LE M E r)) (hs : swapsWith e none pos.line X.env = pure false := by rfl) : PS X (.Expr e pos) (LS M E (sDrop r)) := by
  refine PS.of (ps_expr he hs) fun σ H D ⟨fr, G, ρ, R, q⟩ => ⟨fr, G, ρ, R, ?_⟩
  unfold sDrop at q
  cases e1 : r ρ with
  | stuck => rw [e1] at q; exact q
  | exc c fs ρ' => rw [e1] at q; exact fun cls dx G' H' R' s' x => q cls dx σ G' H' R' s' x
  | ok d ρ1 => rw [e1] at q; exact fun v G1 H1 R1 s1 r1 => q σ G1 H1 R1 s1
end
end DL

set_option Elab.async false
set_option linter.all false
set_option maxRecDepth 100000
set_option maxHeartbeats 400000
namespace DL
open PySem PySem.Spec PyProof.Rows L2

/-! ## data: ==, in -/
mutual
def D.py : D → PyData
  | .non => .none | .bl b => .bool b | .int i => .int i | .str x => .str x | .ref _ => .none
  | .tup l => .tuple (D.pys l) | .lst l => .list (D.pys l) | .dct _ _ => .dict [] | .scr _ => .none
def D.pys : List D → List PyData
  | [] => []
  | d :: l => D.py d :: D.pys l
end
mutual
/-- data without dicts, nested at most n deep -/
def D.sh : Nat → D → Bool
  | _, .non => true | _, .bl _ => true | _, .int _ => true | _, .str _ => true
  | 0, .tup _ => false | 0, .lst _ => false
  | n + 1, .tup l => D.shs n l
  | n + 1, .lst l => D.shs n l
  | _, .ref _ => false | _, .dct _ _ => false | _, .scr _ => false
def D.shs : Nat → List D → Bool
  | _, [] => true
  | n, d :: l => D.sh n d && D.shs n l
end
theorem D.shs_all (n : Nat) : ∀ l : List D, D.shs n l = l.all (D.sh n)
  | [] => by simp [D.shs]
  | d :: l => by simp [D.shs, D.shs_all n l]
mutual
def D.eqv : D → D → Bool
  | .non, .non => true
  | .bl a, .bl b => a == b
  | .bl a, .int j => (if a then 1 else 0) == j
  | .int i, .bl b => i == (if b then 1 else 0)
  | .int i, .int j => i == j
  | .str x, .str y => x == y
  | .lst xs, .lst ys => D.eqvs xs ys
  | .tup xs, .tup ys => D.eqvs xs ys
  | _, _ => false
def D.eqvs : List D → List D → Bool
  | [], [] => true
  | x :: xs, y :: ys => D.eqv x y && D.eqvs xs ys
  | _, _ => false
end
mutual
theorem D.eqv_py : ∀ (a b : D) (n m : Nat), a.sh n = true → b.sh m = true → PyData.eqv a.py b.py = D.eqv a b
  | .non, b, n, m, ha, hb => by cases b <;> first | rfl | (simp [D.sh] at hb)
  | .bl _, b, n, m, ha, hb => by cases b <;> first | rfl | (simp [D.sh] at hb)
  | .int _, b, n, m, ha, hb => by cases b <;> first | rfl | (simp [D.sh] at hb)
  | .str _, b, n, m, ha, hb => by cases b <;> first | rfl | (simp [D.sh] at hb)
  | .ref _, b, n, m, ha, hb => by simp [D.sh] at ha
  | .dct _ _, b, n, m, ha, hb => by simp [D.sh] at ha
  | .scr _, b, n, m, ha, hb => by simp [D.sh] at ha
  | .lst xs, b, n, m, ha, hb => by
    cases b with
    | lst ys =>
      cases n with
      | zero => simp [D.sh] at ha
      | succ n =>
        cases m with
        | zero => simp [D.sh] at hb
        | succ m => simp only [D.py, PyData.eqv, D.eqv]; exact D.eqvs_py xs ys n m ha hb
    | _ => first | rfl | (simp [D.sh] at hb)
  | .tup xs, b, n, m, ha, hb => by
    cases b with
    | tup ys =>
      cases n with
      | zero => simp [D.sh] at ha
      | succ n =>
        cases m with
        | zero => simp [D.sh] at hb
        | succ m => simp only [D.py, PyData.eqv, D.eqv]; exact D.eqvs_py xs ys n m ha hb
    | _ => first | rfl | (simp [D.sh] at hb)
theorem D.eqvs_py : ∀ (xs ys : List D) (n m : Nat), D.shs n xs = true → D.shs m ys = true → PyData.eqvAll (D.pys xs) (D.pys ys) = D.eqvs xs ys
  | [], [], _, _, _, _ => by simp [D.pys, PyData.eqvAll, D.eqvs]
  | [], _ :: _, _, _, _, _ => by simp [D.pys, PyData.eqvAll, D.eqvs]
  | _ :: _, [], _, _, _, _ => by simp [D.pys, PyData.eqvAll, D.eqvs]
  | x :: xs, y :: ys, n, m, ha, hb => by
    simp only [D.shs, Bool.and_eq_true] at ha hb
    simp only [D.pys, PyData.eqvAll, D.eqvs]
    rw [D.eqv_py x y n m ha.1 hb.1, D.eqvs_py xs ys n m ha.2 hb.2]
end
mutual
theorem D.sh_plain : ∀ (a : D) (n : Nat), a.sh n = true → a.py.plain = true ∧ a.py.depth ≤ n
  | .non, n, h => ⟨rfl, Nat.zero_le _⟩
  | .bl _, n, h => ⟨rfl, Nat.zero_le _⟩
  | .int _, n, h => ⟨rfl, Nat.zero_le _⟩
  | .str _, n, h => ⟨rfl, Nat.zero_le _⟩
  | .ref _, n, h => by simp [D.sh] at h
  | .dct _ _, n, h => by simp [D.sh] at h
  | .scr _, n, h => by simp [D.sh] at h
  | .lst xs, n, h => by
    cases n with
    | zero => simp [D.sh] at h
    | succ n =>
      obtain ⟨h1, h2⟩ := D.shs_plain xs n h
      exact ⟨h1, by show PyData.depthAll (D.pys xs) + 1 ≤ n + 1; omega⟩
  | .tup xs, n, h => by
    cases n with
    | zero => simp [D.sh] at h
    | succ n =>
      obtain ⟨h1, h2⟩ := D.shs_plain xs n h
      exact ⟨h1, by show PyData.depthAll (D.pys xs) + 1 ≤ n + 1; omega⟩
theorem D.shs_plain : ∀ (a : List D) (n : Nat), D.shs n a = true → PyData.plainAll (D.pys a) = true ∧ PyData.depthAll (D.pys a) ≤ n
  | [], n, h => ⟨rfl, Nat.zero_le _⟩
  | d :: l, n, h => by
    simp only [D.shs, Bool.and_eq_true] at h
    obtain ⟨h1, h2⟩ := D.sh_plain d n h.1
    obtain ⟨h3, h4⟩ := D.shs_plain l n h.2
    exact ⟨by simp [D.pys, PyData.plainAll, h1, h3], by show max d.py.depth (PyData.depthAll (D.pys l)) ≤ n; omega⟩
end
section
variable {M : Md} {G H : Hp}
mutual
theorem Rep.dp' (s : Sub G H) : ∀ (d : D) (v : V) (n : Nat), Rep M G v d → d.sh n = true → Dp M.K H v d.py
  | .non, _, n, r, h => by have e := r.isNon; subst e; exact .non
  | .bl b, _, n, r, h => by have e := r.isBl; subst e; exact .bl b
  | .int i, _, n, r, h => by have e := r.isInt; subst e; exact .int i
  | .str x, _, n, r, h => by have e := r.isStr; subst e; exact .str x
  | .ref a, _, n, r, h => by simp [D.sh] at h
  | .dct _ _, _, n, r, h => by simp [D.sh] at h
  | .scr _, _, n, r, h => by simp [D.sh] at h
  | .tup l, _, n, r, h => by
    obtain ⟨a, xs, rfl, h1, h2⟩ := r.isTup s
    cases n with
    | zero => simp [D.sh] at h
    | succ n => exact .tup h1 (Reps.dp' s l xs n h2 h)
  | .lst l, _, n, r, h => by
    obtain ⟨a, xs, rfl, h1, h2⟩ := r.isLst s
    cases n with
    | zero => simp [D.sh] at h
    | succ n => exact .lst (SqL.of h1) (Reps.dp' s l xs n h2 h)
theorem Reps.dp' (s : Sub G H) : ∀ (d : List D) (v : List V) (n : Nat), Reps M G v d → D.shs n d = true → DpAll M.K H v (D.pys d)
  | [], v, n, r, h => by cases r; exact .nil
  | d :: l, v, n, r, h => by
    simp only [D.shs, Bool.and_eq_true] at h
    cases r with
    | cons r1 r2 => exact .cons (Rep.dp' s d _ n r1 h.1) (Reps.dp' s l _ n r2 h.2)
end
theorem Rep.dp {v : V} {d : D} (s : Sub G H) (n : Nat) (r : Rep M G v d) (h : d.sh n = true) : Dp M.K H v d.py := Rep.dp' s d v n r h
end
def deep : Nat := 40
def dEq (a b : D) : Option D := if a.sh 40 && b.sh 40 then some (.bl (a.eqv b)) else none
def dNe (a b : D) : Option D := if a.sh 40 && b.sh 40 then some (.bl (!a.eqv b)) else none
def rEqP (K : PySem.W.Frag) (neg : Bool) : R2 := fun x y H Q => ∃ d e, Dp K H x d ∧ Dp K H y e ∧ d.plain = true ∧ e.plain = true ∧ d.depth ≤ 40 ∧ Q (.bl (if neg then !PyData.eqv d e else PyData.eqv d e)) H
section
variable {X : Cx} {M : Md}
theorem op_eqP (hu : X.A.units + 64 < cLine) : OpR X (compareOp .Eq) (rEqP X.K false) := by
  intro pins s σ H x y v u Q I rx ry h
  obtain ⟨d, e, hd, he, sd, se, hz, q⟩ := h
  obtain ⟨as, r1⟩ := Dp.reads I d x v hd rx
  obtain ⟨bs, r2⟩ := Dp.reads I e y u he ry
  exact PySem.SeqAt.eq_plain r1 r2 sd se (by have := Nat.min_le_left d.depth e.depth; omega) ⟨.bl _, H, I, rfl, q⟩
theorem op_neP (hu : X.A.units + 64 < cLine) : OpR X (compareOp .NotEq) (rEqP X.K true) := by
  intro pins s σ H x y v u Q I rx ry h
  obtain ⟨d, e, hd, he, sd, se, hz, q⟩ := h
  obtain ⟨as, r1⟩ := Dp.reads I d x v hd rx
  obtain ⟨bs, r2⟩ := Dp.reads I e y u he ry
  exact PySem.SeqAt.ne_plain r1 r2 sd se (by have := Nat.min_le_left d.depth e.depth; omega) ⟨.bl _, H, I, rfl, q⟩
theorem od_eq : OpD M (rEqP M.K false) dEq := by
  intro G H x y a b d Q s rx ry e k
  unfold dEq at e
  by_cases h : (a.sh 40 && b.sh 40) = true
  · rw [if_pos h] at e
    cases e
    simp only [Bool.and_eq_true] at h
    obtain ⟨p1, p2⟩ := D.sh_plain a 40 h.1
    obtain ⟨p3, p4⟩ := D.sh_plain b 40 h.2
    refine ⟨a.py, b.py, rx.dp s 40 h.1, ry.dp s 40 h.2, p1, p3, p2, ?_⟩
    rw [if_neg Bool.false_ne_true, D.eqv_py a b 40 40 h.1 h.2]
    exact k _ G H (Ext.refl s) (.bl _)
  · rw [if_neg h] at e; cases e
theorem od_ne : OpD M (rEqP M.K true) dNe := by
  intro G H x y a b d Q s rx ry e k
  unfold dNe at e
  by_cases h : (a.sh 40 && b.sh 40) = true
  · rw [if_pos h] at e
    cases e
    simp only [Bool.and_eq_true] at h
    obtain ⟨p1, p2⟩ := D.sh_plain a 40 h.1
    obtain ⟨p3, p4⟩ := D.sh_plain b 40 h.2
    refine ⟨a.py, b.py, rx.dp s 40 h.1, ry.dp s 40 h.2, p1, p3, p2, ?_⟩
    rw [if_pos rfl, D.eqv_py a b 40 40 h.1 h.2]
    exact k _ G H (Ext.refl s) (.bl _)
  · rw [if_neg h] at e; cases e
/-- x in a list, in a tuple -/
def rInP (K : PySem.W.Frag) (neg : Bool) : R2 := fun x y H Q => ∃ d es, Dp K H x d ∧ (Dp K H y (.list es) ∨ Dp K H y (.tuple es)) ∧ d.plain = true ∧ PyData.plainAll es = true ∧ d.depth ≤ 40 ∧ Q (.bl (if neg then !es.any fun z => PyData.eqv z d else es.any fun z => PyData.eqv z d)) H
theorem op_inP (hu : X.A.units + 64 < cLine) : OpR X (compareOp .In) (rInP X.K false) := by
  intro pins s σ H x y v u Q I rx ry h
  obtain ⟨d, e, hd, he, sd, se, hz, q⟩ := h
  obtain ⟨as, r1⟩ := Dp.reads I d x v hd rx
  have hm : X.A.units + 1 + min (PyData.depthAll e) d.depth < cLine := by have := Nat.min_le_right (PyData.depthAll e) d.depth; omega
  rcases he with he | he
  · obtain ⟨bs, r2⟩ := Dp.reads I _ y u he ry
    exact PySem.SeqAt.in_list_data r2 r1 se sd hm ⟨.bl _, H, I, rfl, q⟩
  · obtain ⟨bs, r2⟩ := Dp.reads I _ y u he ry
    exact PySem.SeqAt.in_tuple_data r2 r1 se sd hm ⟨.bl _, H, I, rfl, q⟩
theorem op_notInP (hu : X.A.units + 64 < cLine) : OpR X (compareOp .NotIn) (rInP X.K true) := by
  intro pins s σ H x y v u Q I rx ry h
  obtain ⟨d, e, hd, he, sd, se, hz, q⟩ := h
  obtain ⟨as, r1⟩ := Dp.reads I d x v hd rx
  have hm : X.A.units + 1 + min (PyData.depthAll e) d.depth < cLine := by have := Nat.min_le_right (PyData.depthAll e) d.depth; omega
  rcases he with he | he
  · obtain ⟨bs, r2⟩ := Dp.reads I _ y u he ry
    exact PySem.SeqAt.notIn_list_data r2 r1 se sd hm ⟨.bl _, H, I, rfl, q⟩
  · obtain ⟨bs, r2⟩ := Dp.reads I _ y u he ry
    exact PySem.SeqAt.notIn_tuple_data r2 r1 se sd hm ⟨.bl _, H, I, rfl, q⟩
def D.items : D → Option (List D) | .lst l => some l | .tup l => some l | _ => none
def mem (x : D) (l : List D) : Bool := l.any fun z => z.eqv x
def dIn (neg : Bool) (x c : D) : Option D := match c.items with
  | some l => if x.sh 39 && D.shs 39 l then some (.bl (if neg then !mem x l else mem x l)) else none
  | none => none
theorem any_py (x : D) (hx : x.sh 39 = true) : ∀ l : List D, D.shs 39 l = true → ((D.pys l).any fun z => PyData.eqv z x.py) = mem x l
  | [], _ => by simp [D.pys, mem]
  | d :: l, h => by
    simp only [D.shs, Bool.and_eq_true] at h
    have ih := any_py x hx l h.2
    unfold mem at ih ⊢
    simp only [D.pys, List.any_cons]
    rw [D.eqv_py d x 39 39 h.1 hx, ih]
theorem od_in (neg : Bool) : OpD M (rInP M.K neg) (dIn neg) := by
  intro G H x y a b d Q s rx ry e k
  unfold dIn at e
  have key : ∀ l : List D, (b = .lst l ∨ b = .tup l) → (if a.sh 39 && D.shs 39 l then some (D.bl (if neg then !mem a l else mem a l)) else none) = some d → rInP M.K neg x y H Q := by
    intro l hl e
    by_cases h : (a.sh 39 && D.shs 39 l) = true
    · rw [if_pos h] at e
      cases e
      simp only [Bool.and_eq_true] at h
      obtain ⟨p1, p2⟩ := D.sh_plain a 39 h.1
      obtain ⟨p3, p4⟩ := D.shs_plain l 39 h.2
      refine ⟨a.py, D.pys l, rx.dp s 39 h.1, ?_, p1, p3, by omega, ?_⟩
      · rcases hl with hl | hl
        · subst hl; exact .inl (ry.dp s 40 (by simpa [D.sh] using h.2))
        · subst hl; exact .inr (ry.dp s 40 (by simpa [D.sh] using h.2))
      · rw [any_py a h.1 l h.2]; exact k _ G H (Ext.refl s) (.bl _)
    · rw [if_neg h] at e; cases e
  cases b with
  | lst l => exact key l (.inl rfl) e
  | tup l => exact key l (.inr rfl) e
  | _ => cases e
end

/-! ## is -/
def dIsN : D → D → Option D | .non, .non => some (.bl true) | .ref _, .non => none | _, .non => some (.bl false) | _, _ => none
def dNotN : D → D → Option D | .non, .non => some (.bl false) | .ref _, .non => none | _, .non => some (.bl true) | _, _ => none
theorem Rep.ne_non {M : Md} {G : Hp} {v : V} {d : D} (r : Rep M G v d) (h : d ≠ .non) : v ≠ .non := fun e => by
  subst e; cases r; exact h rfl
section
variable {M : Md}
theorem od_isN : OpD M (fun x y H Q => y = .non ∧ Q (.bl (decide (x = .non))) H) dIsN := by
  intro G H x y a b d Q s rx ry e k
  by_cases hb : b = .non
  · subst hb
    refine ⟨ry.isNon, ?_⟩
    by_cases ha : a = .non
    · subst ha
      simp only [dIsN] at e; cases e
      rw [decide_eq_true rx.isNon]; exact k _ G H (Ext.refl s) (.bl _)
    · have : dIsN a .non = some (.bl false) ∨ dIsN a .non = none := by cases a <;> simp_all [dIsN]
      rcases this with h | h
      · rw [h] at e; cases e
        rw [decide_eq_false (rx.ne_non ha)]; exact k _ G H (Ext.refl s) (.bl _)
      · rw [h] at e; cases e
  · exfalso
    have : dIsN a b = none := by cases a <;> cases b <;> simp_all [dIsN]
    rw [this] at e; cases e
theorem od_notN : OpD M (fun x y H Q => y = .non ∧ Q (.bl (!decide (x = .non))) H) dNotN := by
  intro G H x y a b d Q s rx ry e k
  by_cases hb : b = .non
  · subst hb
    refine ⟨ry.isNon, ?_⟩
    by_cases ha : a = .non
    · subst ha
      simp only [dNotN] at e; cases e
      rw [decide_eq_true rx.isNon]; exact k _ G H (Ext.refl s) (.bl _)
    · have : dNotN a .non = some (.bl true) ∨ dNotN a .non = none := by cases a <;> simp_all [dNotN]
      rcases this with h | h
      · rw [h] at e; cases e
        rw [decide_eq_false (rx.ne_non ha)]; exact k _ G H (Ext.refl s) (.bl _)
      · rw [h] at e; cases e
  · exfalso
    have : dNotN a b = none := by cases a <;> cases b <;> simp_all [dNotN]
    rw [this] at e; cases e
def dIsB : D → D → Option D | .bl a, .bl b => some (.bl (decide (a = b))) | _, _ => none
def dNotB : D → D → Option D | .bl a, .bl b => some (.bl (!decide (a = b))) | _, _ => none
theorem od_isB : OpD M rIsB dIsB := by
  intro G H x y a b d Q s rx ry e k
  cases a <;> cases b <;> simp only [dIsB] at e <;> cases e
  exact ⟨_, _, rx.isBl, ry.isBl, k _ G H (Ext.refl s) (.bl _)⟩
theorem od_notB : OpD M rNotB dNotB := by
  intro G H x y a b d Q s rx ry e k
  cases a <;> cases b <;> simp only [dNotB] at e <;> cases e
  exact ⟨_, _, rx.isBl, ry.isBl, k _ G H (Ext.refl s) (.bl _)⟩
end

/-! ## places -/
def dIx : D → D → Option D
  | .lst l, .int i => atI l i
  | .tup l, .int i => atI l i
  | _, _ => none
theorem Reps.at {M : Md} {G : Hp} {v : List V} {d : List D} {i : Int} {x : D} (r : Reps M G v d) (h : atI d i = some x) : ∃ y, atI v i = some y ∧ Rep M G y x := by
  unfold atI at h ⊢
  rw [r.length]
  cases e : ixN d.length i with
  | none => rw [e] at h; cases h
  | some j =>
    rw [e] at h
    exact r.get h
section
variable {X : Cx} {M : Md} {E : XK} {e a b : Expr} {r ra rb : DE} {pos : Pos}
theorem od_ix : OpD M (rIx M.K) dIx := by
  intro G H x y a b d Q s rx ry e k
  cases a <;> cases b <;> simp only [dIx] at e <;> try cases e
  · obtain ⟨p, xs, rfl, hs, rr⟩ := rx.isTup s
    obtain ⟨v, hv, rv⟩ := rr.at e
    exact .inr (.inl ⟨p, xs, _, v, rfl, ry.isInt, hs, hv, k v G H (Ext.refl s) rv⟩)
  · obtain ⟨p, xs, rfl, hs, rr⟩ := rx.isLst s
    obtain ⟨v, hv, rv⟩ := rr.at e
    exact .inl ⟨p, xs, _, v, rfl, ry.isInt, SqL.of hs, hv, k v G H (Ext.refl s) rv⟩
theorem le_ix (hK : X.K = M.K) (ha : PE X a (LE M E ra)) (hb : PE X b (LE M E rb)) (hs : PlainIx b := by exact fun _ _ => rfl) : PE X (.Subscript a b pos) (LE M E (eOp dIx ra rb)) :=
  le_op2 (t := fun x _ => x) od_ix (by rw [← hK]; exact pe_ix ix_seq ha hb hs)
end

/-! ## + and * of everything -/
def okLen (n : Nat) : Bool := fits n 24
theorem okLen_z {n : Nat} (h : okLen n = true) : n ≤ sizeLine := by
  have h2 : n < 2 ^ 24 := (fits_iff (by decide)).mp h
  rw [sizeLine_eq]; omega
theorem okLen_of {n : Nat} (h : n < 16777216) : okLen n = true := fits_of (by decide) h
def dPlus : D → D → Option D
  | .int i, .int j => some (.int (i + j))
  | .tup l, .tup m => if okLen (l.length + m.length) then some (.tup (l ++ m)) else none
  | .lst l, .lst m => if okLen (l.length + m.length) then some (.lst (l ++ m)) else none
  | _, _ => none
def dCat : D → D → Option D
  | .lst l, .lst m => if okLen (l.length + m.length) then some (.lst (l ++ m)) else none
  | _, _ => none
def rPlus (K : PySem.W.Frag) : R2 := fun x y H Q => rI0 (fun i j => .int (i + j)) x y H Q ∨ (rCatA K x y H Q ∨ rCat x y H Q)
section
variable {X : Cx} {M : Md}
theorem op_plus : OpR X (binaryOp .Add) (rPlus X.K) := op_add.or (op_catA.or op_cat)
theorem od_plus : OpD M (rPlus M.K) dPlus := by
  intro G H x y a b d Q s rx ry e k
  cases a <;> cases b <;> simp only [dPlus] at e <;> try cases e
  · exact .inl ⟨_, _, rx.isInt, ry.isInt, k _ G H (Ext.refl s) (.int _)⟩
  · rename_i l m
    by_cases h : okLen (l.length + m.length) = true
    · rw [if_pos h] at e; cases e
      obtain ⟨p, xs, rfl, h1, r1⟩ := rx.isTup s
      obtain ⟨p2, ys, rfl, h2, r2⟩ := ry.isTup s
      have hz : xs.length + ys.length ≤ sizeLine := by rw [r1.length, r2.length]; exact okLen_z h
      refine .inr (.inl ⟨p, p2, xs, ys, rfl, rfl, h1, h2, hz, fun z => ?_, fun _ z => ?_, fun _ _ q n => ?_⟩)
      · subst z; cases r1; exact k _ G H (Ext.refl s) ry
      · subst z; cases r2; rw [List.append_nil] at k; exact k _ G H (Ext.refl s) rx
      · have x := Ext.new (M := M) (o := .tup (xs ++ ys)) s n
        exact k _ _ _ x (.here upd_same (.tup ((r1.app r2).mono x.sub)))
    · rw [if_neg h] at e; cases e
  · rename_i l m
    by_cases h : okLen (l.length + m.length) = true
    · rw [if_pos h] at e; cases e
      obtain ⟨p, xs, rfl, h1, r1⟩ := rx.isLst s
      obtain ⟨p2, ys, rfl, h2, r2⟩ := ry.isLst s
      have hz : xs.length + ys.length ≤ sizeLine := by rw [r1.length, r2.length]; exact okLen_z h
      refine .inr (.inr ⟨p, p2, xs, ys, rfl, rfl, h1, h2, hz, fun q n => ?_⟩)
      have x := Ext.new (M := M) (o := .lst (xs ++ ys)) s n
      exact k _ _ _ x (.here upd_same (.lst ((r1.app r2).mono x.sub)))
    · rw [if_neg h] at e; cases e
theorem oo_cat : OpO M rCat dCat := by
  intro G H x y a b d Q s rx ry e k
  cases a <;> cases b <;> simp only [dCat] at e <;> try cases e
  rename_i l m
  by_cases h : okLen (l.length + m.length) = true
  · rw [if_pos h] at e; cases e
    obtain ⟨p, xs, rfl, h1, r1⟩ := rx.isLst s
    obtain ⟨p2, ys, rfl, h2, r2⟩ := ry.isLst s
    have hz : xs.length + ys.length ≤ sizeLine := by rw [r1.length, r2.length]; exact okLen_z h
    exact ⟨p, p2, xs, ys, rfl, rfl, h1, h2, hz, fun q n => k q _ n (.lst (r1.app r2))⟩
  · rw [if_neg h] at e; cases e
/-- a list some times -/
def dRep : D → D → Option D
  | .lst l, .int k => if decide (0 ≤ k) && fits k.toNat 24 && okLen (l.length * k.toNat) then some (.lst (List.replicate k.toNat l).flatten) else none
  | _, _ => none
theorem reps_replicate {G : Hp} {v : List V} {l : List D} (r : Reps M G v l) : ∀ n : Nat, Reps M G (List.replicate n v).flatten (List.replicate n l).flatten
  | 0 => .nil
  | n + 1 => by
    rw [List.replicate_succ, List.replicate_succ, List.flatten_cons, List.flatten_cons]
    exact r.app (reps_replicate r n)
theorem oo_rep : OpO M rRep dRep := by
  intro G H x y a b d Q s rx ry e k
  cases a <;> cases b <;> simp only [dRep] at e <;> try cases e
  rename_i l i
  by_cases h : (decide (0 ≤ i) && fits i.toNat 24 && okLen (l.length * i.toNat)) = true
  · rw [if_pos h] at e; cases e
    simp only [Bool.and_eq_true, decide_eq_true_eq] at h
    have h24 : i.toNat < 2 ^ 24 := (fits_iff (by decide)).mp h.1.2
    obtain ⟨p, xs, rfl, h1, r1⟩ := rx.isLst s
    refine ⟨p, _, xs, rfl, ry.isInt, h1, by omega, by omega, ?_, fun q n => k q _ n (.lst (reps_replicate r1 _))⟩
    rw [r1.length]; exact okLen_z h.2
  · rw [if_neg h] at e; cases e
end

/-! ## slices -/
def cutD (xs : List D) (lo hi : Option Int) : List D := (xs.drop (HT.sIx xs.length 0 lo)).take (HT.sIx xs.length xs.length hi - HT.sIx xs.length 0 lo)
def dCut (lo hi : Option Int) : D → Option D
  | .tup l => some (.tup (cutD l lo hi))
  | .lst l => some (.lst (cutD l lo hi))
  | .scr l => some (.lst (cutD (l.map .int) lo hi))
  | _ => none
def dCutL (lo hi : Option Int) : D → Option D
  | .lst l => some (.lst (cutD l lo hi))
  | .scr l => some (.lst (cutD (l.map .int) lo hi))
  | _ => none
/-- a written or left out end of a slice -/
def ePart (r : Option DE) (ρ : Rho) (k : Option Int → Rho → OE) : OE := match r with
  | none => k none ρ
  | some r => (r ρ).bind fun d ρ1 => match d with
    | .int i => k (some i) ρ1
    | _ => .stuck
def eCut (f : Option Int → Option Int → D → Option D) (ra : DE) (lo hi : Option DE) : DE := fun ρ => (ra ρ).bind fun x ρ1 => ePart lo ρ1 fun l ρ2 => ePart hi ρ2 fun h ρ3 => .of (f l h x) ρ3
theorem Reps.cut {M : Md} {G : Hp} {v : List V} {d : List D} (r : Reps M G v d) (lo hi : Option Int) : Reps M G (cutV v lo hi) (cutD d lo hi) := by
  unfold cutV cutD
  rw [r.length]
  exact (r.drop _).take _
def LPart (M : Md) (E : XK) : Option DE → TO
  | none => tNoPart
  | some r => tPart (LE M E r)
section
variable {X : Cx} {M : Md} {E : XK} {e a : Expr} {o : Option Expr} {r ra : DE} {lo hi : Option DE} {pos p2 : Pos}
theorem lp_none : PO X none (LPart M E none) := po_none
theorem lp_some (h : PE X e (LE M E r)) : PO X (some e) (LPart M E (some r)) := po_some h
theorem part_imp {σ : L2.St} {H : Hp} {fr : Fr} {G G0 : Hp} {ρ : Rho} {k : Option Int → Rho → OE} {K' : Option Int → Hp → Prop} {Z : OE → Prop} (hz : ¬ Z .stuck) (hx : ∀ c fs ρ', Z (.exc c fs ρ') → XC M E fr G0 σ c fs ρ')
    (R : SR M fr G H σ ρ) (s0 : Sub G0 G) (q : Z (ePart lo ρ k))
    (hk : ∀ l ρ' G' H', SR M fr G' H' σ ρ' → Sub G G' → Z (k l ρ') → K' l H') : LPart M E lo σ H K' := by
  cases lo with
  | none => exact hk none ρ G H R Sub.refl q
  | some r =>
    refine ⟨fr, G, ρ, R, ?_⟩
    unfold ePart at q
    dsimp only at q
    cases e1 : r ρ with
    | stuck => rw [e1] at q; exact hz q
    | exc c fs ρ' => rw [e1] at q; exact XC.of s0 (hx _ _ _ q)
    | ok x ρ1 =>
      rw [e1] at q
      simp only [OE.bind] at q
      intro v G1 H1 R1 s1 r1
      cases x with
      | int i => exact ⟨i, r1.isInt, hk (some i) ρ1 G1 H1 R1 s1 q⟩
      | _ => exact (hz q).elim
def ZE (M : Md) (E : XK) (fr : Fr) (G : Hp) (σ : L2.St) (Q : VK) : OE → Prop
  | .ok d ρ' => ∀ v G' H', SR M fr G' H' σ ρ' → Sub G G' → Rep M G' v d → Q v H'
  | .exc c fs ρ' => XC M E fr G σ c fs ρ'
  | .stuck => False
theorem cut_imp {rs : V → Option Int → Option Int → Hp → VK → Prop} {f : Option Int → Option Int → D → Option D}
    (hr : ∀ (G H : Hp) (x : V) (a d : D) (lo hi : Option Int) (Q : VK), Sub G H → Rep M G x a → f lo hi a = some d → (∀ v G' H', Ext M G H G' H' → Rep M G' v d → Q v H') → rs x lo hi H Q)
    {σ : L2.St} {H : Hp} {Q : VK} (h : LE M E (eCut f ra lo hi) σ H Q) : tSl rs (LE M E ra) (LPart M E lo) (LPart M E hi) σ H Q := by
  obtain ⟨fr, G, ρ, R, q⟩ := h
  have q : ZE M E fr G σ Q (eCut f ra lo hi ρ) := q
  refine ⟨fr, G, ρ, R, ?_⟩
  unfold eCut at q
  cases e1 : ra ρ with
  | stuck => rw [e1] at q; exact q
  | exc c fs ρ' => rw [e1] at q; exact q
  | ok x ρ1 =>
    rw [e1] at q
    intro v G1 H1 R1 s1 r1
    simp only [OE.bind] at q
    refine part_imp (Z := ZE M E fr G σ Q) (fun z => z) (fun _ _ _ z => z) R1 s1 q fun l ρ2 G2 H2 R2 s2 q2 => ?_
    refine part_imp (Z := ZE M E fr G σ Q) (fun z => z) (fun _ _ _ z => z) R2 (s1.trans s2) q2 fun u ρ3 G3 H3 R3 s3 q3 => ?_
    simp only [OE.of] at q3
    cases e3 : f l u x with
    | none => rw [e3] at q3; exact q3.elim
    | some d =>
      rw [e3] at q3
      exact hr G3 H3 v x d l u Q R3.sub (r1.mono (s2.trans s3)) e3 fun z G4 H4 x4 r4 => q3 z G4 H4 (R3.ext x4) (((s1.trans s2).trans s3).trans x4.sub) r4
def rSlU (K : PySem.W.Frag) : V → Option Int → Option Int → Hp → VK → Prop := fun x lo hi H Q => rSlL K x lo hi H Q ∨ rSlA K x lo hi H Q
theorem sl_u : SlR X (rSlU X.K) := sl_list.or sl_tupA
theorem le_cut (hK : X.K = M.K) (ha : PE X a (LE M E ra)) {o1 o2 : Option Expr} (h1 : PO X o1 (LPart M E lo)) (h2 : PO X o2 (LPart M E hi)) : PE X (.Subscript a (.Slice o1 o2 none p2) pos) (LE M E (eCut dCut ra lo hi)) := by
  refine PE.of (pe_slice sl_u ha h1 h2) fun σ H Q q => cut_imp ?_ q
  intro G H x a d lo hi Q s rx e k
  rw [hK]
  cases a <;> simp only [dCut] at e <;> cases e
  · obtain ⟨p, xs, rfl, hs, rr⟩ := rx.isTup s
    refine .inr ⟨p, xs, rfl, hs, fun hw => ?_, fun hw q n => ?_⟩
    · have e : cutD ‹List D› lo hi = ‹List D› := by
        unfold cutD
        rw [← rr.length, hw.1, hw.2]
        simp [rr.length]
      rw [e] at k
      exact k _ G H (Ext.refl s) rx
    · have x := Ext.new (M := M) (o := .tup (cutV xs lo hi)) s n
      exact k _ _ _ x (.here upd_same (.tup ((rr.cut lo hi).mono x.sub)))
  · obtain ⟨p, xs, rfl, hs, rr⟩ := rx.isLst s
    refine .inl ⟨p, xs, rfl, SqL.of hs, fun q n => ?_⟩
    have x := Ext.new (M := M) (o := .lst (cutV xs lo hi)) s n
    exact k _ _ _ x (.here upd_same (.lst ((rr.cut lo hi).mono x.sub)))
  · rename_i is
    obtain ⟨p, rfl, hs⟩ := rx.isScr s
    refine .inl ⟨p, _, rfl, hs, fun q n => ?_⟩
    have x := Ext.new (M := M) (o := .lst (cutV (is.map V.int) lo hi)) s n
    exact k _ _ _ x (.here upd_same (.lst (((Reps.ofInts is).cut lo hi).mono x.sub)))
/-- a new list -/
theorem lo_cut (hK : X.K = M.K) (ha : PE X a (LE M E ra)) {o1 o2 : Option Expr} (h1 : PO X o1 (LPart M E lo)) (h2 : PO X o2 (LPart M E hi)) : PE X (.Subscript a (.Slice o1 o2 none p2) pos) (LO M E (eCut dCutL ra lo hi)) := by
  refine PE.of (pe_slice sl_list ha h1 h2) fun σ H Q ⟨fr, G, ρ, R, q⟩ => ⟨fr, G, ρ, R, ?_⟩
  let Z : OE → Prop := fun o => match o with
    | .ok d ρ' => ∀ a G' H', SR M fr G' H' σ ρ' → Sub G G' → New M fr G' H' σ ρ' a d → Q (.ref a) H'
    | .exc c fs ρ' => XC M E fr G σ c fs ρ'
    | .stuck => False
  have q : Z (eCut dCutL ra lo hi ρ) := q
  unfold eCut at q
  cases e1 : ra ρ with
  | stuck => rw [e1] at q; exact q
  | exc c fs ρ' => rw [e1] at q; exact q
  | ok x ρ1 =>
    rw [e1] at q
    intro v G1 H1 R1 s1 r1
    simp only [OE.bind] at q
    refine part_imp (Z := Z) (fun z => z) (fun _ _ _ z => z) R1 s1 q fun l ρ2 G2 H2 R2 s2 q2 => ?_
    refine part_imp (Z := Z) (fun z => z) (fun _ _ _ z => z) R2 (s1.trans s2) q2 fun u ρ3 G3 H3 R3 s3 q3 => ?_
    have r3 := r1.mono (s2.trans s3)
    rw [hK]
    cases x <;> first | exact q3.elim | skip
    · obtain ⟨p, xs, rfl, hs, rr⟩ := r3.isLst R3.sub
      refine ⟨p, xs, rfl, SqL.of hs, fun z n => ?_⟩
      obtain ⟨R4, n4⟩ := R3.newAt n (.lst (rr.cut l u))
      exact q3 z G3 _ R4 ((s1.trans s2).trans s3) n4
    · rename_i is
      obtain ⟨p, rfl, hs⟩ := r3.isScr R3.sub
      refine ⟨p, _, rfl, hs, fun z n => ?_⟩
      obtain ⟨R4, n4⟩ := R3.newAt n (.lst ((Reps.ofInts is).cut l u))
      exact q3 z G3 _ R4 ((s1.trans s2).trans s3) n4
end
end DL

set_option Elab.async false
set_option linter.all false
set_option maxRecDepth 100000
set_option maxHeartbeats 400000
namespace DL
open PySem PySem.Spec PyProof.Rows L2

/-! ## targets -/
inductive Pat where
  | nm (i : Nat) | tp (l : List Pat)
mutual
def Pat.slots : Pat → List Nat
  | .nm i => [i]
  | .tp l => Pat.slotss l
def Pat.slotss : List Pat → List Nat
  | [] => []
  | p :: l => Pat.slots p ++ Pat.slotss l
end
mutual
def bindP : Pat → D → Rho → Option Rho
  | .nm i, d, ρ => if notPar ρ i then some (ρ.set i (.fro d)) else none
  | .tp l, .tup ds, ρ => bindPs l ds ρ
  | .tp _, _, _ => none
def bindPs : List Pat → List D → Rho → Option Rho
  | [], [], ρ => some ρ
  | p :: l, d :: ds, ρ => match bindP p d ρ with
    | some ρ1 => bindPs l ds ρ1
    | none => none
  | _, _, _ => none
end
theorem bindPs_len : ∀ (l : List Pat) (ds : List D) (ρ ρ' : Rho), bindPs l ds ρ = some ρ' → ds.length = l.length
  | [], [], _, _, _ => rfl
  | [], _ :: _, _, _, h => by simp [bindPs] at h
  | _ :: _, [], _, _, h => by simp [bindPs] at h
  | p :: l, d :: ds, ρ, ρ', h => by
    unfold bindPs at h
    cases e : bindP p d ρ with
    | none => rw [e] at h; cases h
    | some ρ1 =>
      rw [e] at h
      rw [List.length_cons, List.length_cons, bindPs_len l ds ρ1 ρ' h]
/-- the slots off l are as they were -/
structure Off (l : List Nat) (σ σ' : L2.St) : Prop where
  len : σ'.length = σ.length
  at_ : ∀ j, j ∉ l → σ'[j]? = σ[j]?
theorem Off.refl {l : List Nat} {σ : L2.St} : Off l σ σ := ⟨rfl, fun _ _ => rfl⟩
theorem Off.trans {l m : List Nat} {σ σ1 σ2 : L2.St} (a : Off l σ σ1) (b : Off m σ1 σ2) : Off (l ++ m) σ σ2 :=
  ⟨b.len.trans a.len, fun j h => (b.at_ j fun z => h (List.mem_append_right _ z)).trans (a.at_ j fun z => h (List.mem_append_left _ z))⟩
theorem wipe_at {σ : L2.St} {j : Nat} : ∀ (vs : List Nat), (wipe σ vs)[j]? = if j ∈ vs ∧ j < σ.length then some none else σ[j]?
  | [] => by simp [wipe]
  | v :: vs => by
    unfold wipe
    by_cases h : v = j
    · subst h
      by_cases hl : v < σ.length
      · rw [List.getElem?_set_self (by rw [wipe_length]; exact hl), if_pos ⟨List.mem_cons_self, hl⟩]
      · rw [List.getElem?_eq_none (by rw [List.length_set, wipe_length]; omega), if_neg (fun z => hl z.2), List.getElem?_eq_none (by omega)]
    · rw [List.getElem?_set_ne h, wipe_at vs]
      have : (j ∈ v :: vs ∧ j < σ.length) ↔ (j ∈ vs ∧ j < σ.length) := by simp [Ne.symm h]
      simp only [this]
theorem wipe_off {l vs : List Nat} {σ σ' : L2.St} (h : Off l σ σ') (s : ∀ j ∈ l, j ∈ vs) : wipe σ' vs = wipe σ vs := by
  apply List.ext_getElem?
  intro j
  rw [wipe_at, wipe_at, h.len]
  by_cases hj : j ∈ vs
  · by_cases hl : j < σ.length
    · simp [hj, hl]
    · rw [if_neg (fun z => hl z.2), if_neg (fun z => hl z.2), List.getElem?_eq_none (by have := h.len; omega), List.getElem?_eq_none (by omega)]
  · rw [if_neg (fun z => hj z.1), if_neg (fun z => hj z.1), h.at_ j fun z => hj (s j z)]

def LG (M : Md) (p : Pat) : TG := fun v σ H Q => ∃ fr G ρ d ρ', SR M fr G H σ ρ ∧ Rep M G v d ∧ bindP p d ρ = some ρ' ∧ ∀ σ', SR M fr G H σ' ρ' → Off p.slots σ σ' → Q σ' H
def LGs (M : Md) (ps : List Pat) : TGs := fun vs σ H Q => ∃ fr G ρ ds ρ', SR M fr G H σ ρ ∧ Reps M G vs ds ∧ bindPs ps ds ρ = some ρ' ∧ ∀ σ', SR M fr G H σ' ρ' → Off (Pat.slotss ps) σ σ' → Q σ' H
theorem PG.of {X : Cx} {tg : Expr} {t t' : TG} (h : PG X tg t) (i : ∀ v σ H Q, t' v σ H Q → t v σ H Q) : PG X tg t' := ⟨fun p s σ H v u Q I r q => h.run p s σ H v u Q I r (i _ _ _ _ q)⟩
theorem PGs.of {X : Cx} {tg : List Expr} {t t' : TGs} (h : PGs X tg t) (i : ∀ v σ H Q, t' v σ H Q → t v σ H Q) : PGs X tg t' := ⟨fun p s σ H v u Q I r q => h.run p s σ H v u Q I r (i _ _ _ _ q)⟩
section
variable {X : Cx} {M : Md} {pos : Pos}
theorem lg_name {i : Nat} {x : Str} (hN : X.N.Nodup) (hi : X.N[i]? = some x) (hx : Loc X.env.scope x) (hf : X.fn x = true ∨ X.env.scope.names.lookup x = some .local := by first | exact .inl rfl | exact .inr rfl | assumption) : PG X (.Name x pos) (LG M (.nm i)) := by
  refine PG.of (pg_name hN hi hx hf) fun v σ H Q ⟨fr, G, ρ, d, ρ', R, r, e, q⟩ => ?_
  unfold bindP at e
  by_cases np : notPar ρ i = true
  · rw [if_pos np] at e
    cases e
    refine q _ (R.setFro np r) ⟨by simp, fun j h => ?_⟩
    have : i ≠ j := fun z => h (by simp [Pat.slots, z])
    rw [List.getElem?_set_ne this]
  · rw [if_neg np] at e; cases e
theorem lgs_nil : PGs X [] (LGs M []) := PGs.of pgs_nil fun vs σ H Q ⟨fr, G, ρ, ds, ρ', R, r, e, q⟩ => by
  cases ds with
  | nil =>
    cases r
    simp only [bindPs] at e
    cases e
    exact ⟨rfl, q _ R Off.refl⟩
  | cons d ds => simp [bindPs] at e
theorem lgs_cons {e : Expr} {es : List Expr} {p : Pat} {ps : List Pat} (h1 : PG X e (LG M p)) (h2 : PGs X es (LGs M ps)) (hs : (assignEach (e :: es) X.env).map (·.2) = assign e X.env :: (assignEach es X.env).map (·.2) := by rfl) : PGs X (e :: es) (LGs M (p :: ps)) := by
  refine PGs.of (pgs_cons h1 h2 hs) fun vs σ H Q ⟨fr, G, ρ, ds, ρ', R, r, e, q⟩ => ?_
  cases ds with
  | nil => simp [bindPs] at e
  | cons d ds =>
    cases r with
    | cons r1 r2 =>
      unfold bindPs at e
      cases e1 : bindP p d ρ with
      | none => rw [e1] at e; cases e
      | some ρ1 =>
        rw [e1] at e
        exact ⟨_, _, rfl, fr, G, ρ, d, ρ1, R, r1, e1, fun σ1 R1 o1 => ⟨fr, G, ρ1, ds, ρ', R1, r2, e, fun σ2 R2 o2 => q σ2 R2 (o1.trans o2)⟩⟩
theorem lg_tup {es : List Expr} {k n : Nat} {ps : List Pat} (hK : X.K = M.K) (hc : X.calm = true) (h : PGs X es (LGs M ps)) (hl : ps.length = n) (hn : (assignEach es X.env).length = n := by rfl) (hst : (assignEach es X.env).findIdx? (·.1) = none := by rfl) : PG X (.Tuple es k pos) (LG M (.tp ps)) := by
  refine PG.of (pg_tup (n := n) hc h hn hst) fun v σ H Q ⟨fr, G, ρ, d, ρ', R, r, e, q⟩ => ?_
  cases d with
  | tup ds =>
    obtain ⟨a, xs, ev, hs, rr⟩ := r.isTup R.sub
    have e : bindPs ps ds ρ = some ρ' := by simpa [bindP] using e
    refine ⟨a, xs, ev, by rw [hK]; exact hs, ?_, fr, G, ρ, ds, ρ', R, rr, e, fun σ' R' o => q σ' R' o⟩
    rw [rr.length, bindPs_len ps ds ρ ρ' e, hl]
  | _ => simp [bindP] at e
end

/-! ## what is walked -/
/-- while what is frozen in G stands the iterator gives ds -/
def IRep (M : Md) (G : Hp) (J : It) (ds : List D) : Prop := ∃ n Gp Y, Walk J n Gp Y ∧ n = ds.length ∧ (∀ G1 H1, Sub G G1 → Sub G1 H1 → Gp H1) ∧
  ∀ i G1 H1 x H2, i < n → Sub G G1 → Sub G1 H1 → Y i H1 x H2 → ∃ G2 d, Ext M G1 H1 G2 H2 ∧ ds[i]? = some d ∧ Rep M G2 x d
def LI (M : Md) (E : XK) (r : DA) : TI := fun σ H R => ∃ fr G ρ, SR M fr G H σ ρ ∧ match r ρ with
  | .ok ds ρ' => ∀ J G' H', SR M fr G' H' σ ρ' → Sub G G' → IRep M G' J ds → R J H'
  | .exc c fs ρ' => XC M E fr G σ c fs ρ'
  | .stuck => False
theorem PI.of {X : Cx} {tg it : Expr} {t t' : TI} (h : PI X tg it t) (i : ∀ σ H Q, t' σ H Q → t σ H Q) : PI X tg it t' := ⟨fun p s σ H Q I q => h.run p s σ H Q I (i _ _ _ q)⟩
def OE.it (o : OE) (k : D → Option (List D)) : OA := match o with
  | .ok d ρ => match k d with
    | some l => .ok l ρ
    | none => .stuck
  | .exc c fs ρ => .exc c fs ρ
  | .stuck => .stuck
/-- over a list, over a tuple -/
def iSeq (r : DE) : DA := fun ρ => (r ρ).it D.items
theorem irep_list {M : Md} {G : Hp} {a : Addr} {xs : List V} {ds : List D} (h : ∀ G1 H1, Sub G G1 → Sub G1 H1 → SqL M.K H1 a xs) (r : Reps M G xs ds) : IRep M G (Itl M.K a) ds :=
  ⟨xs.length, _, _, walk_list, r.length, h, fun i G1 H1 x H2 _ s1 s2 ⟨e, y⟩ => by
    subst e
    obtain ⟨d, e, q⟩ := r.get' y
    exact ⟨G1, d, Ext.refl s2, e, q.mono s1⟩⟩
theorem irep_tup {M : Md} {G : Hp} {a : Addr} {xs : List V} {ds : List D} (h : ∀ G1 H1, Sub G G1 → Sub G1 H1 → SqT M.K H1 a xs) (r : Reps M G xs ds) : IRep M G (Itt M.K a) ds :=
  ⟨xs.length, _, _, walk_tup, r.length, h, fun i G1 H1 x H2 _ s1 s2 ⟨e, y⟩ => by
    subst e
    obtain ⟨d, e, q⟩ := r.get' y
    exact ⟨G1, d, Ext.refl s2, e, q.mono s1⟩⟩
theorem Rep.tupAll {M : Md} {G : Hp} {v : V} {ds : List D} (r : Rep M G v (.tup ds)) : ∃ a xs, v = .ref a ∧ (∀ H, Sub G H → SqT M.K H a xs) ∧ Reps M G xs ds := by
  cases r with
  | here h z => cases z with | tup q => exact ⟨_, _, rfl, fun H s => .inl (.inl (s _ _ h)), q⟩
  | conT h q => exact ⟨_, _, rfl, fun H s => SqT.lift h, q⟩
theorem Rep.lstAll {M : Md} {G : Hp} {v : V} {ds : List D} (r : Rep M G v (.lst ds)) : ∃ a xs, v = .ref a ∧ (∀ H, Sub G H → H a = some (.lst xs)) ∧ Reps M G xs ds := by
  cases r with
  | here h z => cases z with | lst q => exact ⟨_, _, rfl, fun H s => s _ _ h, q⟩
def rangeD (lo hi : Int) : List D := (List.range (hi - lo).toNat).map fun k => .int (lo + (k : Nat))
theorem irep_range {M : Md} {G : Hp} {lo hi : Int} : IRep M G (Itr lo (hi - lo).toNat) (rangeD lo hi) :=
  ⟨_, _, _, walk_range, by simp [rangeD], fun _ _ _ _ => trivial, fun i G1 H1 x H2 hi' s1 s2 ⟨e, y⟩ => by
    subst e; subst y
    refine ⟨G1, .int (lo + (i : Nat)), Ext.refl s2, ?_, .int _⟩
    simp only [rangeD]
    rw [List.getElem?_map, List.getElem?_range hi']
    rfl⟩
def small (i : Int) : Bool := fits i.natAbs 62
def dRange : List D → Option (List D)
  | [.int j] => if small j then some (rangeD 0 j) else none
  | [.int i, .int j] => if small i && small j then some (rangeD i j) else none
  | _ => none
def OA.it (o : OA) (k : List D → Option (List D)) : OA := match o with
  | .ok d ρ => match k d with
    | some l => .ok l ρ
    | none => .stuck
  | .exc c fs ρ => .exc c fs ρ
  | .stuck => .stuck
def iB (k : List D → Option (List D)) (rs : List DE) : DA := fun ρ => (aL rs ρ).it k
def dEnum : List D → Option (List D)
  | [.lst l] => some (l.zipIdx.map fun p => .tup [.int (p.2 : Nat), p.1])
  | _ => none
def zipD (l m : List D) : List D := (l.zip m).map fun p => .tup [p.1, p.2]
def dZip : List D → Option (List D)
  | [.lst l, .lst m] => some (zipD l m)
  | [.tup l, .tup m] => if l.length = m.length then some (zipD l m) else none
  | _ => none
section
variable {X : Cx} {M : Md} {E : XK} {tg e e2 a b : Expr} {es : List Expr} {r : DE} {rs : List DE} {pos p tpos : Pos} {elts : List Expr} {kk : Nat}
theorem PI.or {wi wi' : TI} (h : PI X tg e wi) (h' : PI X tg e wi') : PI X tg e (fun σ H R => wi σ H R ∨ wi' σ H R) :=
  ⟨fun pins s σ H R I q => q.elim (h.run pins s σ H R I) (h'.run pins s σ H R I)⟩
theorem li_seq (hK : X.K = M.K) (h : PE X e (LE M E r)) : PI X tg e (LI M E (iSeq r)) := by
  have key : PI X tg e fun σ H R => LE M E r σ H fun x H1 => (∃ a, x = .ref a ∧ (∃ xs, SqL X.K H1 a xs) ∧ R (Itl X.K a) H1) ∨ (∃ a, x = .ref a ∧ (∃ xs, SqT X.K H1 a xs) ∧ R (Itt X.K a) H1) := by
    refine ⟨fun pins s σ H R I q => ?_⟩
    refine thn (h.run pins s σ H _ I q) fun v s1 ⟨x, H1, I1, r1, q1⟩ => ?_
    have pv : ∀ {tv : TE}, tv σ H1 (fun y H2 => y = x ∧ H2 = H1) → True := fun _ => trivial
    rcases q1 with q1 | q1
    · obtain ⟨a, e, ⟨xs, hq⟩, q⟩ := q1
      subst e
      cases r1
      obtain ⟨its, rv, p, hz⟩ := I1.list hq
      refine wpAny_pyIter_list p.isList ?_
      refine ⟨s1.heap.objs.size, [s1.heap.objs.size], _, _, H1, rfl, I1.kept (t' := s1.toks) fun b o e => Heap.get?_push_of_some _ e, turn_list a _, ⟨_, Heap.get?_push_size _ rfl, rfl, rfl⟩, fun b hb => ?_, q⟩
      have e : b = s1.heap.objs.size := by simpa using hb
      subst e
      exact I1.fpOk (Nat.le_refl _) (I1.hok.fresh (Nat.le_refl _))
    · obtain ⟨a, e, ⟨xs, hq⟩, q⟩ := q1
      subst e
      cases r1
      obtain ⟨its, rv, p, hz⟩ := I1.tuple hq
      refine wpAny_pyIter_tuple (show s1.heap.IsTuple a its.toArray from p) ?_
      refine ⟨s1.heap.objs.size, [s1.heap.objs.size], _, _, H1, rfl, I1.kept (t' := s1.toks) fun b o e => Heap.get?_push_of_some _ e, turn_tuple a _, ⟨_, Heap.get?_push_size _ rfl, rfl, rfl⟩, fun b hb => ?_, q⟩
      have e : b = s1.heap.objs.size := by simpa using hb
      subst e
      exact I1.fpOk (Nat.le_refl _) (I1.hok.fresh (Nat.le_refl _))
  refine PI.of key fun σ H R ⟨fr, G, ρ, S, q⟩ => ⟨fr, G, ρ, S, ?_⟩
  unfold iSeq at q
  cases e1 : r ρ with
  | stuck => rw [e1] at q; exact q
  | exc c fs ρ' => rw [e1] at q; exact q
  | ok d ρ1 =>
    rw [e1] at q
    refine fun v G1 H1 R1 s1 r1 => ?_
    rw [hK]
    cases d <;> first | exact q.elim | skip
    · obtain ⟨a, xs, rfl, hs, rr⟩ := r1.tupAll
      exact .inr ⟨a, rfl, ⟨xs, hs H1 R1.sub⟩, q _ G1 H1 R1 s1 (irep_tup (fun G2 H2 s2 s3 => hs H2 (s2.trans s3)) rr)⟩
    · obtain ⟨a, xs, rfl, hs, rr⟩ := r1.lstAll
      exact .inl ⟨a, rfl, ⟨xs, SqL.of (hs H1 R1.sub)⟩, q _ G1 H1 R1 s1 (irep_list (fun G2 H2 s2 s3 => SqL.of (hs H2 (s2.trans s3))) rr)⟩
theorem small_of {i : Int} (h : small i = true) : -(2 ^ 62) ≤ i ∧ i < 2 ^ 62 := by
  have h2 : i.natAbs < 2 ^ 62 := (fits_iff (by decide)).mp h
  omega
theorem small_to {i : Int} (h1 : -4611686018427387904 < i) (h2 : i < 4611686018427387904) : small i = true := fits_of (by decide) (by omega)
theorem li_range1 (hg : Gl X "range") (hm : X.mg "range" = none) (ha : PA X [a] (LA M E (aL [r]))) (hs : starEach [a] X.env = [(false, eval a X.env)] := by rfl) : PI X tg (.Call (.Name "range" p) [a] [] pos) (LI M E (iB dRange [r])) := by
  refine PI.of (pi_range1 hg hm ha hs) fun σ H R ⟨fr, G, ρ, S, q⟩ => ⟨fr, G, ρ, S, ?_⟩
  unfold iB at q
  cases e1 : aL [r] ρ with
  | stuck => rw [e1] at q; exact q
  | exc c fs ρ' => rw [e1] at q; exact q
  | ok ds ρ1 =>
    rw [e1] at q
    refine fun vs G1 H1 R1 s1 r1 => ?_
    have hl := aL_len _ _ e1
    match ds, hl with
    | [d], _ =>
      cases r1 with
      | cons r1 rr =>
        cases rr
        simp only [OA.it, dRange] at q
        obtain ⟨j, rfl⟩ : ∃ j, d = .int j := by cases d <;> first | exact q.elim | exact ⟨_, rfl⟩
        dsimp only at q
        by_cases h : small j = true
        · rw [if_pos h] at q
          obtain ⟨h1, h2⟩ := small_of h
          have e := r1.isInt
          subst e
          refine ⟨j, rfl, h1, h2, ?_⟩
          have z := q _ G1 H1 R1 s1 (irep_range (lo := 0) (hi := j))
          simpa using z
        · rw [if_neg h] at q; exact q.elim
theorem li_range2 {r2 : DE} (hg : Gl X "range") (hm : X.mg "range" = none) (ha : PA X [a, b] (LA M E (aL [r, r2]))) (hs : starEach [a, b] X.env = [(false, eval a X.env), (false, eval b X.env)] := by rfl) (hs2 : starEach [b] X.env = [(false, eval b X.env)] := by rfl) : PI X tg (.Call (.Name "range" p) [a, b] [] pos) (LI M E (iB dRange [r, r2])) := by
  refine PI.of (pi_range2 hg hm ha hs hs2) fun σ H R ⟨fr, G, ρ, S, q⟩ => ⟨fr, G, ρ, S, ?_⟩
  unfold iB at q
  cases e1 : aL [r, r2] ρ with
  | stuck => rw [e1] at q; exact q
  | exc c fs ρ' => rw [e1] at q; exact q
  | ok ds ρ1 =>
    rw [e1] at q
    refine fun vs G1 H1 R1 s1 r1 => ?_
    have hl := aL_len _ _ e1
    match ds, hl with
    | [d, d2], _ =>
      cases r1 with
      | cons r1 rr =>
        cases rr with
        | cons r2 rr =>
          cases rr
          simp only [OA.it, dRange] at q
          obtain ⟨i, rfl⟩ : ∃ j, d = .int j := by cases d <;> first | exact q.elim | exact ⟨_, rfl⟩
          obtain ⟨j, rfl⟩ : ∃ j, d2 = .int j := by cases d2 <;> first | exact q.elim | exact ⟨_, rfl⟩
          dsimp only at q
          by_cases h : (small i && small j) = true
          · rw [if_pos h] at q
            simp only [Bool.and_eq_true] at h
            obtain ⟨h1, h2⟩ := small_of h.1
            obtain ⟨h3, h4⟩ := small_of h.2
            have e := r1.isInt
            subst e
            have e := r2.isInt
            subst e
            exact ⟨i, j, rfl, ⟨h1, h2, h3, h4⟩, q _ G1 H1 R1 s1 irep_range⟩
          · rw [if_neg h] at q; exact q.elim
theorem irep_pair {G : Hp} {J : It} {n : Nat} {Gp : Hp → Prop} {fx fy : Nat → Option V} {ds : List D} (w : Walk J n Gp (YPair fx fy)) (hn : n = ds.length) (hG : ∀ G1 H1, Sub G G1 → Sub G1 H1 → Gp H1)
    (h : ∀ i x y, i < n → fx i = some x → fy i = some y → ∃ dx dy, Rep M G x dx ∧ Rep M G y dy ∧ ds[i]? = some (.tup [dx, dy])) : IRep M G J ds :=
  ⟨n, Gp, _, w, hn, hG, fun i G1 H1 x H2 hi s1 s2 ⟨T, u, v, e1, e2, e3, e4, e5⟩ => by
    subst e1; subst e3
    obtain ⟨dx, dy, q1, q2, q3⟩ := h i u v hi e4 e5
    have x := Ext.new (M := M) (o := .tup [u, v]) s2 e2
    have s := s1.trans x.sub
    exact ⟨_, _, x, q3, .here upd_same (.tup (.cons (q1.mono s) (.cons (q2.mono s) .nil)))⟩⟩
theorem li_enum (hK : X.K = M.K) (hg : Gl X "enumerate") (hm : X.mg "enumerate" = none) (ha : PA X [e] (LA M E (aL [r]))) (hs : starEach [e] X.env = [(false, eval e X.env)] := by rfl) :
    PI X (.Tuple elts kk tpos) (.Call (.Name "enumerate" p) [e] [] pos) (LI M E (iB dEnum [r])) := by
  refine PI.of (pi_enum hg hm ha hs) fun σ H R ⟨fr, G, ρ, S, q⟩ => ⟨fr, G, ρ, S, ?_⟩
  unfold iB at q
  cases e1 : aL [r] ρ with
  | stuck => rw [e1] at q; exact q
  | exc c fs ρ' => rw [e1] at q; exact q
  | ok ds ρ1 =>
    rw [e1] at q
    refine fun vs G1 H1 R1 s1 r1 => ?_
    have hl := aL_len _ _ e1
    match ds, hl with
    | [d], _ =>
      cases r1 with
      | cons r1 rr =>
        cases rr
        simp only [OA.it, dEnum] at q
        obtain ⟨l, rfl⟩ : ∃ j, d = .lst j := by cases d <;> first | exact q.elim | exact ⟨_, rfl⟩
        dsimp only at q
        obtain ⟨a, xs, rfl, hq, rr⟩ := r1.lstAll
        rw [hK]
        refine ⟨a, xs, rfl, SqL.of (hq H1 R1.sub), q _ G1 H1 R1 s1 (irep_pair walk_enum (by simp [rr.length]) (fun G2 H2 s2 s3 => SqL.of (hq H2 (s2.trans s3))) fun i x y hi hx hy => ?_)⟩
        cases hx
        obtain ⟨d, hd, rd⟩ := rr.get' hy
        exact ⟨.int (i : Nat), d, .int _, rd, by simp [hd]⟩
theorem walk_zipT {K : PySem.W.Frag} {a b : Addr} {xs ys : List V} {n : Nat} (hn : n = min xs.length ys.length) : Walk (RZ.ItzT K a b) n (fun H => SqT K H a xs ∧ SqT K H b ys) (YPair (fun i => xs[i]?) (fun i => ys[i]?)) := by
  subst hn
  refine ⟨fun i _ hi q => ?_, fun _ q => ⟨xs, ys, q.1, q.2, by omega⟩, fun i H v H' _ q y => ?_⟩
  · have h1 : i < xs.length := by omega
    have h2 : i < ys.length := by omega
    exact ⟨xs, ys, xs[i], ys[i], q.1, q.2, by simp [h1], by simp [h2]⟩
  · obtain ⟨T, x, z, h1, h2, h3, h4, h5⟩ := y
    exact ⟨T, x, z, h1, h2, h3, h4 xs q.1, h5 ys q.2⟩
theorem li_zip {r2 : DE} (hK : X.K = M.K) (hg : Gl X "zip") (hm : X.mg "zip" = none) (ha : PA X [e, e2] (LA M E (aL [r, r2])))
    (hs : starEach [e, e2] X.env = (false, eval e X.env) :: starEach [e2] X.env := by rfl) (hpl : (backTo pos (starEach [e2] X.env)).any (·.1) = false := by rfl) : PI X (.Tuple elts kk tpos) (.Call (.Name "zip" p) [e, e2] [] pos) (LI M E (iB dZip [r, r2])) := by
  refine PI.of (RZ.pi_zipA hg hm ha hs hpl) fun σ H R ⟨fr, G, ρ, S, q⟩ => ⟨fr, G, ρ, S, ?_⟩
  unfold iB at q
  cases e1 : aL [r, r2] ρ with
  | stuck => rw [e1] at q; exact q
  | exc c fs ρ' => rw [e1] at q; exact q
  | ok ds ρ1 =>
    rw [e1] at q
    refine fun vs G1 H1 R1 s1 r1 => ?_
    have hl := aL_len _ _ e1
    have pairs : ∀ {l m : List D} {xs ys : List V}, Reps M G1 xs l → Reps M G1 ys m → ∀ (i : Nat) x y, i < min xs.length ys.length → xs[i]? = some x → ys[i]? = some y → ∃ dx dy, Rep M G1 x dx ∧ Rep M G1 y dy ∧ (zipD l m)[i]? = some (.tup [dx, dy]) := fun {l m xs ys} q1 q2 i x y _ h1 h2 => by
      obtain ⟨dx, e1, w1⟩ := q1.get' h1
      obtain ⟨dy, e2, w2⟩ := q2.get' h2
      refine ⟨dx, dy, w1, w2, ?_⟩
      have z : (l.zip m)[i]? = some (dx, dy) := List.getElem?_zip_eq_some (z := (dx, dy)).mpr ⟨e1, e2⟩
      simp [zipD, z]
    match ds, hl with
    | [d, d2], _ =>
      cases r1 with
      | cons r1 rr =>
        cases rr with
        | cons r2 rr =>
          cases rr
          simp only [OA.it, dZip] at q
          rw [hK]
          rcases (show (∃ l m, d = .tup l ∧ d2 = .tup m) ∨ (∃ l m, d = .lst l ∧ d2 = .lst m) by
            cases d <;> cases d2 <;> first | exact q.elim | exact .inl ⟨_, _, rfl, rfl⟩ | exact .inr ⟨_, _, rfl, rfl⟩) with ⟨l, m, rfl, rfl⟩ | ⟨l, m, rfl, rfl⟩
          · dsimp only at q
            by_cases h : l.length = m.length
            · rw [if_pos h] at q
              obtain ⟨a, xs, rfl, hq1, q1⟩ := r1.tupAll
              obtain ⟨b, ys, rfl, hq2, q2⟩ := r2.tupAll
              exact ⟨a, b, xs, ys, rfl, .inr ⟨hq1 H1 R1.sub, hq2 H1 R1.sub, q _ G1 H1 R1 s1 (irep_pair (walk_zipT rfl) (by simp [zipD, q1.length, q2.length]) (fun G2 H2 s2 s3 => ⟨hq1 H2 (s2.trans s3), hq2 H2 (s2.trans s3)⟩) (pairs q1 q2))⟩⟩
            · rw [if_neg h] at q; exact q.elim
          · dsimp only at q
            obtain ⟨a, xs, rfl, hq1, q1⟩ := r1.lstAll
            obtain ⟨b, ys, rfl, hq2, q2⟩ := r2.lstAll
            exact ⟨a, b, xs, ys, rfl, .inl ⟨SqL.of (hq1 H1 R1.sub), SqL.of (hq2 H1 R1.sub), q _ G1 H1 R1 s1 (irep_pair (walk_zip rfl) (by simp [zipD, q1.length, q2.length]) (fun G2 H2 s2 s3 => ⟨SqL.of (hq1 H2 (s2.trans s3)), SqL.of (hq2 H2 (s2.trans s3))⟩) (pairs q1 q2))⟩⟩
end

/-! ## for -/
def forL (p : Pat) (b : DS) : List D → Rho → OS
  | [], ρ => .nx ρ
  | d :: ds, ρ => match bindP p d ρ with
    | none => .stuck
    | some ρ1 => match b ρ1 with
      | .nx ρ2 => forL p b ds ρ2
      | .ct ρ2 => forL p b ds ρ2
      | .bk ρ2 => .nx ρ2
      | o => o
def sFor (it : DA) (p : Pat) (b : DS) : DS := fun ρ => match it ρ with
  | .ok ds ρ1 => forL p b ds ρ1
  | .exc c fs ρ1 => .exc c fs ρ1
  | .stuck => .stuck
def whileL (c : DT) (b : DS) : Nat → Rho → OS
  | 0, _ => .stuck
  | n + 1, ρ => match c ρ with
    | .ok true ρ1 => (match b ρ1 with
      | .nx ρ2 => whileL c b n ρ2
      | .ct ρ2 => whileL c b n ρ2
      | .bk ρ2 => .nx ρ2
      | o => o)
    | .ok false ρ1 => .nx ρ1
    | .exc x fs ρ1 => .exc x fs ρ1
    | .stuck => .stuck
section
variable {X : Cx} {M : Md} {E : XK} {tg iter c : Expr} {body : List Stmt} {it : DA} {p : Pat} {b : DS} {t : DT} {pos : Pos}
theorem ls_for (hp : PassesOwn (model X.prog X.w) X.A X.env X.xe) (hc : X.calm = true) (hi : PI X tg iter (LI M E it)) (hg : PG X tg (LG M p)) (hb : PSs X body (LS M E b))
    (hs : ∀ x, foldedSetIterable iter X.env x = pure x := by intro _; rfl) : PS X (.For tg iter body [] pos) (LS M E (sFor it p b)) := by
  refine PS.of (ps_for hp hc hi hg hb hs) fun σ H D ⟨fr, G, ρ, R, q⟩ => ⟨fr, G, ρ, R, ?_⟩
  unfold sFor at q
  cases e1 : it ρ with
  | stuck => rw [e1] at q; exact q
  | exc c fs ρ' => rw [e1] at q; exact fun cls dx G' H' R' s' x => q cls dx σ G' H' R' s' x
  | ok ds ρ1 =>
    rw [e1] at q
    rintro J G1 H1 R1 s1 ⟨n, Gp, Y, w, hn, hG, hY⟩
    subst hn
    refine for_it w (fun i σ' H' => ∃ G' ρ', SR M fr G' H' σ' ρ' ∧ Sub G1 G' ∧ SQ M E fr G D (forL p b (ds.drop i) ρ')) ⟨G1, ρ1, R1, Sub.refl, q⟩ (fun i σ' H' _ ⟨G', ρ', R', s', _⟩ => hG G' H' s' R'.sub) ?_ ?_
    · rintro i x σ' H' H2 hi ⟨G', ρ', R', s', q'⟩ y
      obtain ⟨G2, d, x2, hd, rd⟩ := hY i G' H' x H2 hi s' R'.sub y
      have ed : ds.drop i = d :: ds.drop (i + 1) := by
        rw [List.drop_eq_getElem_cons hi]
        rw [List.getElem?_eq_getElem hi] at hd
        cases hd; rfl
      rw [ed] at q'
      simp only [forL] at q'
      cases e2 : bindP p d ρ' with
      | none => rw [e2] at q'; exact q'.elim
      | some ρ2 =>
        rw [e2] at q'
        dsimp only at q'
        refine ⟨fr, G2, ρ', d, ρ2, R'.ext x2, rd, e2, fun σ2 R2 o2 => ⟨fr, G2, ρ2, R2, ?_⟩⟩
        have s2 : Sub G1 G2 := s'.trans x2.sub
        cases e3 : b ρ2 with
        | stuck => rw [e3] at q'; exact q'
        | exc c fs ρ3 => rw [e3] at q'; exact XS.of (s1.trans s2) q'
        | nx ρ3 => rw [e3] at q'; exact fun σ3 G3 H3 R3 s3 => ⟨G3, ρ3, R3, s2.trans s3, q'⟩
        | ct ρ3 => rw [e3] at q'; exact fun σ3 G3 H3 R3 s3 => ⟨G3, ρ3, R3, s2.trans s3, q'⟩
        | bk ρ3 => rw [e3] at q'; exact fun σ3 G3 H3 R3 s3 => q' σ3 G3 H3 R3 ((s1.trans s2).trans s3)
        | rt d3 ρ3 => rw [e3] at q'; exact fun v σ3 G3 H3 R3 s3 => q' v σ3 G3 H3 R3 ((s1.trans s2).trans s3)
    · rintro σ' H' ⟨G', ρ', R', s', q'⟩
      rw [List.drop_length] at q'
      exact q' σ' G' H' R' (s1.trans s')
theorem ls_while {n : Nat} (hp : PassesOwn (model X.prog X.w) X.A X.env X.xe) (hc : PT X c (LT M E t)) (hb : PSs X body (LS M E b)) : PS X (.While c body [] pos) (LS M E (whileL t b n)) := by
  refine PS.of (ps_while hp hc hb) fun σ H D ⟨fr, G, ρ, R, q⟩ => ?_
  refine ⟨fun m σ' H' => ∃ G' ρ', SR M fr G' H' σ' ρ' ∧ Sub G G' ∧ SQ M E fr G D (whileL t b m ρ'), ⟨n, G, ρ, R, Sub.refl, q⟩, ?_⟩
  rintro m σ' H' ⟨G', ρ', R', s', q'⟩
  refine ⟨fr, G', ρ', R', ?_⟩
  cases m with
  | zero => exact q'.elim
  | succ m =>
    simp only [whileL] at q'
    cases e1 : t ρ' with
    | stuck => rw [e1] at q'; exact q'
    | exc c fs ρ1 => rw [e1] at q'; exact fun cls dx G2 H2 R2 s2 x => q' cls dx σ' G2 H2 R2 (s'.trans s2) x
    | ok k ρ1 =>
      rw [e1] at q'
      refine fun G2 H2 R2 s2 => ?_
      cases k with
      | false =>
        rw [if_neg Bool.false_ne_true]
        exact q' σ' G2 H2 R2 (s'.trans s2)
      | true =>
        rw [if_pos rfl]
        dsimp only at q'
        have s2 : Sub G G2 := s'.trans s2
        refine ⟨fun σ3 H3 => ∃ G3 ρ3, SR M fr G3 H3 σ3 ρ3 ∧ Sub G G3 ∧ SQ M E fr G D (whileL t b m ρ3), fun σ3 H3 z => ⟨m, Nat.lt_succ_self _, z⟩, fr, G2, ρ1, R2, ?_⟩
        cases e3 : b ρ1 with
        | stuck => rw [e3] at q'; exact q'
        | exc c fs ρ3 => rw [e3] at q'; exact XS.of s2 q'
        | nx ρ3 => rw [e3] at q'; exact fun σ3 G3 H3 R3 s3 => ⟨G3, ρ3, R3, s2.trans s3, q'⟩
        | ct ρ3 => rw [e3] at q'; exact fun σ3 G3 H3 R3 s3 => ⟨G3, ρ3, R3, s2.trans s3, q'⟩
        | bk ρ3 => rw [e3] at q'; exact fun σ3 G3 H3 R3 s3 => q' σ3 G3 H3 R3 (s2.trans s3)
        | rt d3 ρ3 => rw [e3] at q'; exact fun v σ3 G3 H3 R3 s3 => q' v σ3 G3 H3 R3 (s2.trans s3)
end
end DL

set_option Elab.async false
set_option linter.all false
set_option maxRecDepth 100000
set_option maxHeartbeats 400000
namespace DL
open PySem PySem.Spec PyProof.Rows L2

/-! ## comprehensions -/
def wipeR (ρ : Rho) : List Nat → Rho
  | [] => ρ
  | v :: vs => (wipeR ρ vs).set v .no
theorem wipeR_length (ρ : Rho) : ∀ vs : List Nat, (wipeR ρ vs).length = ρ.length
  | [] => rfl
  | v :: vs => by unfold wipeR; rw [List.length_set, wipeR_length ρ vs]
theorem wipeR_at {ρ : Rho} {j : Nat} : ∀ (vs : List Nat), (wipeR ρ vs)[j]? = if j ∈ vs ∧ j < ρ.length then some .no else ρ[j]?
  | [] => by simp [wipeR]
  | v :: vs => by
    unfold wipeR
    by_cases h : v = j
    · subst h
      by_cases hl : v < ρ.length
      · rw [List.getElem?_set_self (by rw [wipeR_length]; exact hl), if_pos ⟨List.mem_cons_self, hl⟩]
      · rw [List.getElem?_eq_none (by rw [List.length_set, wipeR_length]; omega), if_neg (fun z => hl z.2), List.getElem?_eq_none (by omega)]
    · rw [List.getElem?_set_ne h, wipeR_at vs]
      have : (j ∈ v :: vs ∧ j < ρ.length) ↔ (j ∈ vs ∧ j < ρ.length) := by simp [Ne.symm h]
      simp only [this]
/-- one turn and the rest: the items made, the slots behind -/
def compL (p : Pat) (t : DT) (e : DE) (vs : List Nat) : List D → Rho → OA
  | [], ρ => .ok [] ρ
  | d :: ds, ρ => match bindP p d ρ with
    | none => .stuck
    | some ρ1 => match t ρ1 with
      | .ok true ρ2 => (match e ρ2 with
        | .ok y ρ3 => (match compL p t e vs ds (wipeR ρ3 vs) with
          | .ok l ρ4 => .ok (y :: l) ρ4
          | _ => .stuck)
        | _ => .stuck)
      | .ok false ρ2 => compL p t e vs ds (wipeR ρ2 vs)
      | _ => .stuck
def eComp (it : DA) (p : Pat) (t : DT) (e : DE) (vs : List Nat) : DE := fun ρ => (it ρ).bind fun ds ρ1 =>
  if okLen ds.length && vs.all (notPar ρ1) then (match compL p t e vs ds (wipeR ρ1 vs) with
    | .ok l ρ2 => .ok (.lst l) ρ2
    | _ => .stuck) else .stuck
def tTrue : DT := fun ρ => .ok true ρ
/-- no exception -/
abbrev E0 : XK := fun _ _ _ => False

section
variable {M : Md} {fr : Fr} {G H : Hp} {σ : L2.St} {ρ : Rho}
theorem SR.notPar (R : SR M fr G H σ ρ) {i : Nat} (h : ∀ a, fr.P[i]? ≠ some (some a)) (hl : i < σ.length) : notPar ρ i = true := by
  unfold DL.notPar
  cases e : ρ[i]? with
  | none => rw [List.getElem?_eq_none_iff, R.len] at e; omega
  | some s =>
    cases s with
    | par d => obtain ⟨a, z⟩ := R.parL i d e; exact absurd z (h a)
    | _ => rfl
theorem SR.np (R : SR M fr G H σ ρ) {i : Nat} (h : DL.notPar ρ i = true) : (∀ a, fr.P[i]? ≠ some (some a)) ∧ i < σ.length :=
  ⟨fun a z => by obtain ⟨d, e, _⟩ := R.lent i a z; exact notPar_ne h e, by rw [← R.len]; exact notPar_lt h⟩
theorem SR.wipe : ∀ {vs : List Nat}, SR M fr G H σ ρ → (∀ i ∈ vs, (∀ a, fr.P[i]? ≠ some (some a)) ∧ i < σ.length) → SR M fr G H (wipe σ vs) (wipeR ρ vs)
  | [], R, _ => R
  | v :: vs, R, h => by
    have R1 := SR.wipe (vs := vs) R fun i hi => h i (List.mem_cons_of_mem _ hi)
    obtain ⟨h1, h2⟩ := h v List.mem_cons_self
    exact R1.forget (R1.notPar h1 (by rw [wipe_length]; exact h2)) none
/-- back to the slots as they were -/
theorem SR.unwipe {vs : List Nat} (R : SR M fr G H (L2.wipe σ vs) ρ) (hn : ∀ i ∈ vs, ρ[i]? = some .no) (h : ∀ i ∈ vs, (∀ a, fr.P[i]? ≠ some (some a))) : SR M fr G H σ ρ := by
  have at_ : ∀ {j : Nat}, j ∉ vs → (L2.wipe σ vs)[j]? = σ[j]? := fun {j} hj => by rw [wipe_at, if_neg (fun z => hj z.1)]
  have own : ∀ {j a}, OwnAt ρ σ j a → OwnAt ρ (L2.wipe σ vs) j a := fun {j a} ⟨s, e1, e2, e3⟩ => by
    have : j ∉ vs := fun z => by rw [hn j z] at e1; cases e1; cases e2
    exact ⟨s, e1, e2, by rw [at_ this]; exact e3⟩
  refine ⟨by rw [R.len, wipe_length], R.sub, fun i s e => ?_, fun i j a h1 h2 => R.dist _ _ _ (own h1) (own h2), R.base, fun a o e => ?_, fun i a e => ?_, R.parL, R.tabs, R.nt, R.ntT⟩
  · by_cases hi : i ∈ vs
    · rw [hn i hi] at e; cases e; trivial
    · have z := R.slot i s e
      rw [at_ hi] at z
      exact z
  · obtain ⟨h1, h2, h3⟩ := R.keep a o e
    exact ⟨h1, h2, fun i z => h3 i (own z)⟩
  · have hi : i ∉ vs := fun z => h i z a e
    obtain ⟨d, h1, h2⟩ := R.lent i a e
    exact ⟨d, h1, by rw [← at_ hi]; exact h2⟩
/-- another's object beside -/
theorem noTbl_swap {T : Hp} {a : Addr} {o o' : HO} (h : NoTbl (upd T a o)) (n : Pl o') : NoTbl (upd T a o') := fun b ps e => by
  by_cases hb : b = a
  · subst hb; rw [upd_same] at e; cases e; exact n ps rfl
  · rw [upd_ne hb] at e; exact h b ps (by rw [upd_ne hb]; exact e)
theorem noTbl_un {T : Hp} {a : Addr} {o : HO} (h : NoTbl (upd T a o)) (n : T a = none) : NoTbl T := fun b ps e => by
  have hb : b ≠ a := fun z => by rw [z, n] at e; cases e
  exact h b ps (by rw [upd_ne hb]; exact e)
theorem SR.tmp (R : SR M fr G H σ ρ) {a : Addr} {o : HO} (n : H a = none) (pl : Pl o) : SR M { fr with T := upd fr.T a o } G (upd H a o) σ ρ := by
  obtain ⟨h1, h2, h3⟩ := R.fresh n
  have R2 := R.ext (Ext.junk (o := o) R.sub n)
  refine ⟨R2.len, R2.sub, R2.slot, R2.dist, R2.base, fun b u e => ?_, R2.lent, R2.parL, R2.tabs, R2.nt, R2.ntT.upd pl⟩
  by_cases hb : b = a
  · subst hb
    have e : upd fr.T b o b = some u := e
    rw [upd_same] at e; cases e
    exact ⟨upd_same, h1, h3⟩
  · have e : upd fr.T a o b = some u := e
    rw [upd_ne hb] at e
    exact R2.keep b u e
/-- .. changed -/
theorem SR.tmpSet {T : Hp} {a : Addr} {ys zs : List V} (R : SR M { fr with T := upd T a (.lst ys) } G H σ ρ) : SR M { fr with T := upd T a (.lst zs) } G (upd H a (.lst zs)) σ ρ := by
  obtain ⟨h1, h2, h3⟩ := R.keep a (.lst ys) upd_same
  refine ⟨R.len, fun b u e => ?_, fun i s e => ?_, R.dist, R.base, fun b u e => ?_, R.lent, R.parL, ?_, R.nt, noTbl_swap R.ntT (fun ps z => by cases z)⟩
  · rw [upd_ne (fun z => by rw [z, h2] at e; cases e)]; exact R.sub _ _ e
  · have z := R.slot i s e
    cases s with
    | no => trivial
    | fro d => exact z
    | own d => obtain ⟨b, u, z1, z2, z3, z4⟩ := z; exact ⟨b, u, z1, z2, by rw [upd_ne (fun y => h3 i ⟨_, e, rfl, by rw [← y]; exact z1⟩)]; exact z3, z4⟩
    | par d => obtain ⟨b, u, z1, z2, z3, z4⟩ := z; exact ⟨b, u, z1, z2, by rw [upd_ne (fun y => h3 i ⟨_, e, rfl, by rw [← y]; exact z1⟩)]; exact z3, z4⟩
  · by_cases hb : b = a
    · subst hb
      have e : upd T b (.lst zs) b = some u := e
      rw [upd_same] at e; cases e
      exact ⟨upd_same, h2, h3⟩
    · have e : upd T a (.lst zs) b = some u := e
      rw [upd_ne hb] at e
      obtain ⟨z1, z2, z3⟩ := R.keep b u (show upd T a (.lst ys) b = some u by rw [upd_ne hb]; exact e)
      exact ⟨by rw [upd_ne hb]; exact z1, z2, z3⟩
  · refine fun p hp => ?_
    obtain ⟨ps, g1, g2, g3⟩ := R.tabs p hp
    have n1 : p.1 ≠ a := fun e => by rw [e, h1] at g1; cases g1
    refine ⟨ps, by rw [upd_ne n1]; exact g1, g2, fun pos cv hc => ?_⟩
    obtain ⟨c, e1, e2⟩ := g3 pos cv hc
    have n2 : c ≠ a := fun e => by rw [e, h1] at e2; cases e2
    exact ⟨c, e1, by rw [upd_ne n2]; exact e2⟩
/-- .. no longer looked after -/
theorem SR.untmp {T : Hp} {a : Addr} {o : HO} (nt : T a = none) (R : SR M { fr with T := upd T a o } G H σ ρ) : SR M { fr with T := T } G H σ ρ ∧ G a = none ∧ H a = some o ∧ ∀ i, ¬ OwnAt ρ σ i a := by
  obtain ⟨h1, h2, h3⟩ := R.keep a o upd_same
  refine ⟨⟨R.len, R.sub, R.slot, R.dist, R.base, fun b u e => ?_, R.lent, R.parL, R.tabs, R.nt, noTbl_un R.ntT nt⟩, h2, h1, h3⟩
  have hb : b ≠ a := fun z => by
    have e : T b = some u := e
    rw [z, nt] at e; cases e
  exact R.keep b u (show upd T a o b = some u by rw [upd_ne hb]; exact e)
end
section
variable {X : Cx} {M : Md} {E : XK} {it : DA} {p : Pat} {t : DT} {r : DE} {vs : List Nat}
/-- what the readings keep of the slots' number -/
theorem comp_imp {tt : TT} (ht : ∀ σ H Q, LT M E0 t σ H Q → tt σ H Q) (hs : ∀ i ∈ p.slots, i ∈ vs) {σ : L2.St} {H : Hp} {Q : VK} (h : LO M E (eComp it p t r vs) σ H Q) : tLc (LI M E it) (LG M p) tt (LE M E0 r) vs σ H Q := by
  obtain ⟨fr, G, ρ, R, q⟩ := h
  refine ⟨fr, G, ρ, R, ?_⟩
  unfold eComp at q
  cases e1 : it ρ with
  | stuck => rw [e1] at q; exact q
  | exc c fs ρ' => rw [e1] at q; exact q
  | ok ds ρ1 =>
    rw [e1] at q
    rintro J G1 H1 R1 s1 ⟨n, Gp, Y, w, hn, hG, hY⟩
    subst hn
    intro D hD
    simp only [OA.bind] at q
    by_cases hc : (okLen ds.length && vs.all (DL.notPar ρ1)) = true
    · rw [if_pos hc] at q
      simp only [Bool.and_eq_true, List.all_eq_true] at hc
      have hz := okLen_z hc.1
      have hv : ∀ i ∈ vs, (∀ a, fr.P[i]? ≠ some (some a)) ∧ i < σ.length := fun i hi => R1.np (hc.2 i hi)
      obtain ⟨f1, f2, f3⟩ := R1.fresh hD
      -- the loop, with what is made so far
      refine lc_it w (fun i H' => ∃ G' ρ' accV accD, SR M { fr with T := upd fr.T D (.lst accV) } G' H' (wipe σ vs) ρ' ∧ (∀ i ∈ vs, ρ'[i]? = some .no) ∧ Sub G1 G' ∧ Reps M G' accV accD ∧ accV.length ≤ i ∧
        ∃ l ρ2, compL p t r vs (ds.drop i) ρ' = .ok l ρ2 ∧ ∀ a G3 H3, SR M fr G3 H3 σ ρ2 → Sub G G3 → New M fr G3 H3 σ ρ2 a (.lst (accD ++ l)) → Q (.ref a) H3) ?_ (fun i H' _ ⟨G', ρ', _, _, R', _, s', _⟩ => hG G' H' s' R'.sub) ?_ ?_
      · have R2 := (R1.wipe hv).tmp (o := .lst []) hD (fun ps z => by cases z)
        cases e2 : compL p t r vs ds (wipeR ρ1 vs) with
        | stuck => rw [e2] at q; exact q.elim
        | exc c fs ρ2 => rw [e2] at q; exact q.elim
        | ok l ρ2 =>
          rw [e2] at q
          refine ⟨G1, wipeR ρ1 vs, [], [], R2, fun i hi => ?_, Sub.refl, .nil, Nat.le_refl _, l, ρ2, e2, fun a G3 H3 R3 s3 n3 => q a G3 H3 R3 s3 n3⟩
          rw [wipeR_at, if_pos ⟨hi, by rw [R1.len]; exact (hv i hi).2⟩]
      · rintro i x H' H2 hi ⟨G', ρ', accV, accD, R', hno, s', ra, hle, l, ρz, hq, k⟩ y
        obtain ⟨G2, d, x2, hd, rd⟩ := hY i G' H' x H2 hi s' R'.sub y
        have ed : ds.drop i = d :: ds.drop (i + 1) := by
          rw [List.drop_eq_getElem_cons hi]
          rw [List.getElem?_eq_getElem hi] at hd
          cases hd; rfl
        rw [ed] at hq
        simp only [compL] at hq
        have s2 : Sub G1 G2 := s'.trans x2.sub
        cases e2 : bindP p d ρ' with
        | none => rw [e2] at hq; cases hq
        | some ρ2 =>
          rw [e2] at hq
          dsimp only at hq
          refine ⟨_, G2, ρ', d, ρ2, R'.ext x2, rd, e2, fun σ2 R2 o2 => ⟨?_, ?_⟩⟩
          · rw [wipe_off o2 hs]
            apply List.ext_getElem?
            intro j
            rw [wipe_at, wipe_length, wipe_at]
            by_cases hj : j ∈ vs ∧ j < σ.length <;> simp [hj]
          · have ew : wipe σ2 vs = wipe σ vs := by
              rw [wipe_off o2 hs]
              apply List.ext_getElem?
              intro j
              rw [wipe_at, wipe_length, wipe_at]
              by_cases hj : j ∈ vs ∧ j < σ.length <;> simp [hj]
            have l2 : σ2.length = σ.length := by have := o2.len; rw [wipe_length] at this; exact this
            have hv2 : ∀ i ∈ vs, (∀ a, fr.P[i]? ≠ some (some a)) ∧ i < σ2.length := fun i hi => ⟨(hv i hi).1, by rw [l2]; exact (hv i hi).2⟩
            have no3 : ∀ {ρ3 : Rho}, ρ3.length = σ2.length → ∀ i ∈ vs, (wipeR ρ3 vs)[i]? = some .no := fun {ρ3} hl i hi => by
              rw [wipeR_at, if_pos ⟨hi, by rw [hl]; exact (hv2 i hi).2⟩]
            apply ht
            refine ⟨_, G2, ρ2, R2, ?_⟩
            cases e3 : t ρ2 with
            | stuck => rw [e3] at hq; cases hq
            | exc c fs ρ3 => rw [e3] at hq; cases hq
            | ok b ρ3 =>
              rw [e3] at hq
              refine fun G3 H3 R3 s3 => ?_
              cases b with
              | false =>
                rw [if_neg Bool.false_ne_true]
                have R4 := R3.wipe hv2
                rw [ew] at R4
                exact ⟨G3, _, accV, accD, R4, no3 R3.len, s2.trans s3, ra.mono (x2.sub.trans s3), by omega, l, ρz, hq, k⟩
              | true =>
                rw [if_pos rfl]
                dsimp only at hq
                refine ⟨_, G3, ρ3, R3, ?_⟩
                cases e4 : r ρ3 with
                | stuck => rw [e4] at hq; cases hq
                | exc c fs ρ4 => rw [e4] at hq; cases hq
                | ok z ρ4 =>
                  rw [e4] at hq
                  dsimp only at hq
                  refine fun v G4 H4 R4 s4 r4 => ?_
                  cases e5 : compL p t r vs (ds.drop (i + 1)) (wipeR ρ4 vs) with
                  | stuck => rw [e5] at hq; cases hq
                  | exc c fs ρ5 => rw [e5] at hq; cases hq
                  | ok l2' ρ5 =>
                    rw [e5] at hq
                    cases hq
                    have hH4 : H4 D = some (.lst accV) := (R4.keep D _ upd_same).1
                    have R5 := R4.wipe hv2
                    rw [ew] at R5
                    have ra4 := ra.mono ((x2.sub.trans s3).trans s4)
                    refine ⟨accV, hH4, by omega, G4, _, accV ++ [v], accD ++ [z], R5.tmpSet, no3 R4.len, (s2.trans s3).trans s4, ra4.app (.cons r4 .nil), by rw [List.length_append]; show accV.length + 1 ≤ i + 1; omega, l2', _, e5, fun a G6 H6 R6 s6 n6 => k a G6 H6 R6 s6 ?_⟩
                    rw [List.append_assoc] at n6
                    exact n6
      · rintro H' ⟨G', ρ', accV, accD, R', hno, s', ra, hle, l, ρz, hq, k⟩
        rw [List.drop_length] at hq
        simp only [compL] at hq
        cases hq
        rw [List.append_nil] at k
        obtain ⟨R2, g2, o2, n2⟩ := R'.untmp f2
        have R3 : SR M fr G' H' σ ρ' := R2.unwipe hno fun i hi => (hv i hi).1
        refine k D G' H' R3 (s1.trans s') ⟨g2, f2, fun j ⟨s, e1, e2, e3⟩ => ?_, _, o2, .lst ra⟩
        have hj : j ∉ vs := fun z => by rw [hno j z] at e1; cases e1; cases e2
        exact n2 j ⟨s, e1, e2, by rw [wipe_at, if_neg (fun z => hj z.1)]; exact e3⟩
    · rw [if_neg hc] at q; exact q.elim
theorem lo_comp {elt tg iter : Expr} {ifs : List Expr} {scope : Scope} {own : List (Str × Nat)} {pos : Pos} {tt : TT} (ht : ∀ σ H Q, LT M E0 t σ H Q → tt σ H Q) (hsl : ∀ i ∈ p.slots, i ∈ own.map (·.2)) (hc : X.calm = true) (hN : X.N.Nodup) (hi : PI X tg iter (LI M E it)) (ok : BlkOk X.N X.env.scope scope own)
    (hg : ∀ (s : Shared) (H : Hp) (C : Addr) (cl : List (Str × Addr)) (fp : List Addr), PG (X.blk s H scope (compEnvC scope cl C X.env) fp) tg (LG M p)) (hts : ∀ (s : Shared) (H : Hp) (C : Addr) (cl : List (Str × Addr)) (fp : List Addr), PTs (X.blk s H scope (compEnvC scope cl C X.env) fp) ifs tt)
    (he : ∀ (s : Shared) (H : Hp) (C : Addr) (cl : List (Str × Addr)) (fp : List Addr), PE (X.blk s H scope (compEnvC scope cl C X.env) fp) elt (LE M E0 r)) (hs : ∀ x, foldedSetIterable iter X.env x = pure x := by intro _; rfl) :
    PE X (.ListComp elt [⟨tg, iter, ifs, 0⟩] scope pos) (LO M E (eComp it p t r (own.map (·.2)))) :=
  PE.of (pe_lc hc hN hi ok hg hts he hs) fun σ H Q q => comp_imp ht hsl q
theorem yes_imp {σ : L2.St} {H : Hp} {Q : Bool → Hp → Prop} (h : LT M E0 tTrue σ H Q) : tYes σ H Q := by
  obtain ⟨fr, G, ρ, R, q⟩ := h
  exact q G H R Sub.refl
/-- without a test -/
theorem lo_comp0 {elt tg iter : Expr} {scope : Scope} {own : List (Str × Nat)} {pos : Pos} (hc : X.calm = true) (hN : X.N.Nodup) (hi : PI X tg iter (LI M E it)) (ok : BlkOk X.N X.env.scope scope own) (hsl : ∀ i ∈ p.slots, i ∈ own.map (·.2))
    (hg : ∀ (s : Shared) (H : Hp) (C : Addr) (cl : List (Str × Addr)) (fp : List Addr), PG (X.blk s H scope (compEnvC scope cl C X.env) fp) tg (LG M p))
    (he : ∀ (s : Shared) (H : Hp) (C : Addr) (cl : List (Str × Addr)) (fp : List Addr), PE (X.blk s H scope (compEnvC scope cl C X.env) fp) elt (LE M E0 r)) (hs : ∀ x, foldedSetIterable iter X.env x = pure x := by intro _; rfl) :
    PE X (.ListComp elt [⟨tg, iter, [], 0⟩] scope pos) (LO M E (eComp it p tTrue r (own.map (·.2)))) :=
  lo_comp (fun _ _ _ => yes_imp) hsl hc hN hi ok hg (fun _ _ _ _ _ => pts_nil) he hs
/-- with one test -/
theorem lo_comp1 {elt tg iter c : Expr} {scope : Scope} {own : List (Str × Nat)} {pos : Pos} (hc : X.calm = true) (hN : X.N.Nodup) (hi : PI X tg iter (LI M E it)) (ok : BlkOk X.N X.env.scope scope own) (hsl : ∀ i ∈ p.slots, i ∈ own.map (·.2))
    (hg : ∀ (s : Shared) (H : Hp) (C : Addr) (cl : List (Str × Addr)) (fp : List Addr), PG (X.blk s H scope (compEnvC scope cl C X.env) fp) tg (LG M p))
    (hts : ∀ (s : Shared) (H : Hp) (C : Addr) (cl : List (Str × Addr)) (fp : List Addr), PT (X.blk s H scope (compEnvC scope cl C X.env) fp) c (LT M E0 t))
    (he : ∀ (s : Shared) (H : Hp) (C : Addr) (cl : List (Str × Addr)) (fp : List Addr), PE (X.blk s H scope (compEnvC scope cl C X.env) fp) elt (LE M E0 r)) (hs : ∀ x, foldedSetIterable iter X.env x = pure x := by intro _; rfl) :
    PE X (.ListComp elt [⟨tg, iter, [c], 0⟩] scope pos) (LO M E (eComp it p t r (own.map (·.2)))) :=
  lo_comp (fun _ _ _ q => q) hsl hc hN hi ok hg (fun s H C cl fp => pts_one (hts s H C cl fp)) he hs
/-- name = [..] on one line, the name a local: frozen, own -/
theorem ls_setC {i : Nat} {y : Str} {py : Pos} {elt tg iter : Expr} {ifs : List Expr} {scope : Scope} {own : List (Str × Nat)} {pos spos : Pos} {tt : TT} (ht : ∀ σ H Q, LT M E0 t σ H Q → tt σ H Q) (hsl : ∀ i ∈ p.slots, i ∈ own.map (·.2)) (hc : X.calm = true) (hN : X.N.Nodup) (hy : X.N[i]? = some y) (hyl : X.env.scope.names.lookup y = some .local)
    (hsw : swapsWith (.ListComp elt [⟨tg, iter, ifs, 0⟩] scope pos) (some (.Name y py)) spos.line X.env = pure true) (hi : PI X tg iter (LI M E it)) (ok : BlkOk X.N X.env.scope scope own)
    (hg : ∀ (s : Shared) (H : Hp) (C : Addr) (cl : List (Str × Addr)) (fp : List Addr), PG (X.blk s H scope (compEnvC scope cl C X.env) fp) tg (LG M p)) (hts : ∀ (s : Shared) (H : Hp) (C : Addr) (cl : List (Str × Addr)) (fp : List Addr), PTs (X.blk s H scope (compEnvC scope cl C X.env) fp) ifs tt)
    (he : ∀ (s : Shared) (H : Hp) (C : Addr) (cl : List (Str × Addr)) (fp : List Addr), PE (X.blk s H scope (compEnvC scope cl C X.env) fp) elt (LE M E0 r)) (hs : ∀ x, foldedSetIterable iter X.env x = pure x := by intro _; rfl) :
    PS X (.Assign [.Name y py] (.ListComp elt [⟨tg, iter, ifs, 0⟩] scope pos) spos) (LS M E (sSet i (eComp it p t r (own.map (·.2))))) := by
  refine PS.of (ps_setLc hc hN hy hyl hsw hi ok hg hts he hs) fun σ H D ⟨fr, G, ρ, R, q⟩ => ?_
  refine comp_imp (E := E) ht hsl ⟨fr, G, ρ, R, ?_⟩
  unfold sSet at q
  cases e1 : eComp it p t r (own.map (·.2)) ρ with
  | stuck => rw [e1] at q; exact q
  | exc c fs ρ' => rw [e1] at q; exact fun cls dx G' H' R' s' x => q cls dx σ G' H' R' s' x
  | ok d ρ1 =>
    rw [e1] at q
    refine fun a G1 H1 R1 s1 n1 => ?_
    simp only [OE.st, setF] at q
    by_cases np : DL.notPar ρ1 i = true
    · rw [if_pos np] at q
      obtain ⟨o, ho, hr⟩ := n1.o
      obtain ⟨R2, s2, r2⟩ := R1.freezeNew n1.g n1.t n1.n ho hr
      exact q _ _ H1 (R2.setFro np r2) (s1.trans s2)
    · rw [if_neg np] at q; exact q.elim
theorem ls_setCO {i : Nat} {y : Str} {py : Pos} {elt tg iter : Expr} {ifs : List Expr} {scope : Scope} {own : List (Str × Nat)} {pos spos : Pos} {tt : TT} (ht : ∀ σ H Q, LT M E0 t σ H Q → tt σ H Q) (hsl : ∀ i ∈ p.slots, i ∈ own.map (·.2)) (hc : X.calm = true) (hN : X.N.Nodup) (hy : X.N[i]? = some y) (hyl : X.env.scope.names.lookup y = some .local)
    (hsw : swapsWith (.ListComp elt [⟨tg, iter, ifs, 0⟩] scope pos) (some (.Name y py)) spos.line X.env = pure true) (hi : PI X tg iter (LI M E it)) (ok : BlkOk X.N X.env.scope scope own)
    (hg : ∀ (s : Shared) (H : Hp) (C : Addr) (cl : List (Str × Addr)) (fp : List Addr), PG (X.blk s H scope (compEnvC scope cl C X.env) fp) tg (LG M p)) (hts : ∀ (s : Shared) (H : Hp) (C : Addr) (cl : List (Str × Addr)) (fp : List Addr), PTs (X.blk s H scope (compEnvC scope cl C X.env) fp) ifs tt)
    (he : ∀ (s : Shared) (H : Hp) (C : Addr) (cl : List (Str × Addr)) (fp : List Addr), PE (X.blk s H scope (compEnvC scope cl C X.env) fp) elt (LE M E0 r)) (hs : ∀ x, foldedSetIterable iter X.env x = pure x := by intro _; rfl) :
    PS X (.Assign [.Name y py] (.ListComp elt [⟨tg, iter, ifs, 0⟩] scope pos) spos) (LS M E (sSetO i (eComp it p t r (own.map (·.2))))) := by
  refine PS.of (ps_setLc hc hN hy hyl hsw hi ok hg hts he hs) fun σ H D ⟨fr, G, ρ, R, q⟩ => ?_
  refine comp_imp (E := E) ht hsl ⟨fr, G, ρ, R, ?_⟩
  unfold sSetO at q
  cases e1 : eComp it p t r (own.map (·.2)) ρ with
  | stuck => rw [e1] at q; exact q
  | exc c fs ρ' => rw [e1] at q; exact fun cls dx G' H' R' s' x => q cls dx σ G' H' R' s' x
  | ok d ρ1 =>
    rw [e1] at q
    refine fun a G1 H1 R1 s1 n1 => ?_
    simp only [OE.st, setO] at q
    by_cases np : DL.notPar ρ1 i = true
    · rw [if_pos np] at q
      obtain ⟨o, ho, hr⟩ := n1.o
      exact q _ G1 H1 (R1.setOwn np n1.g n1.t n1.n ho hr) s1
    · rw [if_neg np] at q; exact q.elim
end
end DL

set_option Elab.async false
set_option linter.all false
set_option maxRecDepth 100000
set_option maxHeartbeats 400000
namespace DL
open PySem PySem.Spec PyProof.Rows L2

/-! ## defs -/
inductive OF where
  | ret (d : D) (ps : List D) | exc (c : String) (fs : XF) (ps : List D) | stuck
def parsD : Rho → List D
  | [] => []
  | .par d :: r => d :: parsD r
  | _ :: r => parsD r
def OS.fin (np : Nat) : OS → OF
  | .rt d ρ => .ret d (parsD (ρ.take np))
  | .nx ρ => .ret .non (parsD (ρ.take np))
  | .exc c fs ρ => .exc c fs (parsD (ρ.take np))
  | _ => .stuck
/-- a def of np parameters and n slots -/
def runF (np n : Nat) (b : DS) (as : List SV) : OF := if as.length = np then (b (as ++ List.replicate (n - np) .no)).fin np else .stuck
def runP (np n : Nat) (b : DS) (l : List D) : OF := runF np n b (l.map .fro)

def ArgR (M : Md) (G H : Hp) (v : V) : SV → Prop
  | .fro d => Rep M G v d
  | .par d => ∃ a o, v = .ref a ∧ G a = none ∧ H a = some o ∧ ORep M G o d
  | _ => False
inductive ArgsR (M : Md) (G H : Hp) : List V → List SV → Prop
  | nil : ArgsR M G H [] []
  | cons {v : V} {s : SV} {vs : List V} {ss : List SV} : ArgR M G H v s → ArgsR M G H vs ss → ArgsR M G H (v :: vs) (s :: ss)
/-- the lent objects' addresses -/
def lentH : V → SV → Option Addr
  | .ref a, .par _ => some a
  | _, _ => none
def lentP (vs : List V) (as : List SV) : List (Option Addr) := List.zipWith lentH vs as
def lentA (vs : List V) (as : List SV) : List Addr := (lentP vs as).filterMap id
inductive PRep (M : Md) (G H : Hp) : List Addr → List D → Prop
  | nil : PRep M G H [] []
  | cons {a : Addr} {d : D} {as : List Addr} {ds : List D} : G a = none → (∃ o, H a = some o ∧ ORep M G o d) → PRep M G H as ds → PRep M G H (a :: as) (d :: ds)
structure Post (M : Md) (G H G' H' : Hp) (L : List Addr) (ps : List D) : Prop where
  sub : Sub G G'
  is : Sub G' H'
  keep : ∀ b o, H b = some o → Pl o → b ∉ L → H' b = some o ∧ (G b = none → G' b = none)
  pars : PRep M G' H' L ps
  tabs : LamX.Tabs M.Tb H'
  nt : NoTbl G'
/-- a def that changes what it is lent -/
def spD (M : Md) (f : List SV → OF) : Sp := fun vs H Q E => ∃ G as, (Sub G H ∧ LamX.Tabs M.Tb H ∧ NoTbl G) ∧ ArgsR M G H vs as ∧ (lentA vs as).Nodup ∧ match f as with
  | .ret d ps => ∀ v G' H', Post M G H G' H' (lentA vs as) ps → Rep M G' v d → Q v H'
  | .exc c fs ps => ∀ cls dx G' H', Post M G H G' H' (lentA vs as) ps → XRep M G' cls dx c fs → E cls dx H'
  | .stuck => False
/-- a def that changes nothing -/
def spP (M : Md) (f : List D → OF) : Sp := fun vs H Q E => ∃ G l, (Sub G H ∧ LamX.Tabs M.Tb H ∧ NoTbl G) ∧ Reps M G vs l ∧ match f l with
  | .ret d _ => ∀ v G' H', Ext M G H G' H' → Rep M G' v d → Q v H'
  | .exc c fs _ => ∀ cls dx G' H', Ext M G H G' H' → XRep M G' cls dx c fs → E cls dx H'
  | .stuck => False

section
variable {M : Md} {G H : Hp}
theorem ArgsR.length : ∀ {vs : List V} {as : List SV}, ArgsR M G H vs as → vs.length = as.length
  | _, _, .nil => rfl
  | _, _, .cons _ t => congrArg (· + 1) (ArgsR.length t)
theorem ArgsR.get : ∀ {vs : List V} {as : List SV} {i : Nat} {s : SV}, ArgsR M G H vs as → as[i]? = some s → ∃ v, vs[i]? = some v ∧ ArgR M G H v s
  | _, _, i, s, .nil, h => by simp at h
  | _, _, 0, s, .cons r _, h => by simp at h; subst h; exact ⟨_, rfl, r⟩
  | _, _, i + 1, s, .cons _ t, h => by
    obtain ⟨y, e, r⟩ := ArgsR.get (i := i) t (by simpa using h)
    exact ⟨y, by simpa using e, r⟩
theorem ArgsR.ofReps : ∀ {vs : List V} {l : List D}, Reps M G vs l → ArgsR M G H vs (l.map .fro)
  | _, _, .nil => .nil
  | _, _, .cons r t => .cons r (ArgsR.ofReps t)
theorem lentP_fro : ∀ (vs : List V) (l : List D), ∀ x ∈ lentP vs (l.map .fro), x = none
  | [], _, x, h => by simp [lentP] at h
  | _ :: _, [], x, h => by simp [lentP] at h
  | v :: vs, d :: l, x, h => by
    have h : x ∈ lentH v (.fro d) :: lentP vs (l.map .fro) := h
    rcases List.mem_cons.mp h with e | h
    · rw [e]; cases v <;> rfl
    · exact lentP_fro vs l x h
theorem lentA_fro (vs : List V) (l : List D) : lentA vs (l.map .fro) = [] := by
  unfold lentA
  rw [List.filterMap_eq_nil_iff]
  intro x hx
  rw [lentP_fro vs l x hx]; rfl
theorem lentP_get {vs : List V} {as : List SV} {i : Nat} {a : Addr} : (lentP vs as)[i]? = some (some a) ↔ vs[i]? = some (.ref a) ∧ ∃ d, as[i]? = some (.par d) := by
  unfold lentP
  rw [List.getElem?_zipWith]
  constructor
  · intro h
    cases e1 : vs[i]? with
    | none => rw [e1] at h; simp at h
    | some v =>
      cases e2 : as[i]? with
      | none => rw [e1, e2] at h; simp at h
      | some s =>
        rw [e1, e2] at h
        have h : some (lentH v s) = some (some a) := h
        cases v <;> cases s <;> first | (simp [lentH] at h; done) | skip
        simp only [lentH, Option.some.injEq] at h
        subst h
        exact ⟨rfl, _, rfl⟩
  · rintro ⟨e1, d, e2⟩
    rw [e1, e2]; rfl
theorem lentA_mem {vs : List V} {as : List SV} {a : Addr} : a ∈ lentA vs as ↔ ∃ i : Nat, (lentP vs as)[i]? = some (some a) := by
  unfold lentA
  rw [List.mem_filterMap]
  constructor
  · rintro ⟨x, hx, e⟩
    have e : x = some a := e
    subst e
    obtain ⟨i, hi⟩ := List.mem_iff_getElem?.mp hx
    exact ⟨i, hi⟩
  · rintro ⟨i, hi⟩
    exact ⟨some a, List.mem_of_getElem? hi, rfl⟩
theorem opt_inj : ∀ {l : List (Option Addr)} {i j : Nat} {a : Addr}, (l.filterMap id).Nodup → l[i]? = some (some a) → l[j]? = some (some a) → i = j
  | [], i, j, a, _, h, _ => by simp at h
  | x :: l, i, j, a, nd, h1, h2 => by
    have mem : ∀ {k : Nat}, l[k]? = some (some a) → a ∈ l.filterMap id := fun {k} h => List.mem_filterMap.mpr ⟨some a, List.mem_of_getElem? h, rfl⟩
    have ndt : (l.filterMap id).Nodup := by
      cases x with
      | none => exact nd
      | some b => exact (List.nodup_cons.mp nd).2
    cases i with
    | zero =>
      cases j with
      | zero => rfl
      | succ j =>
        have e : x = some a := by simpa using h1
        subst e
        exact absurd (mem (k := j) (by simpa using h2)) (List.nodup_cons.mp nd).1
    | succ i =>
      cases j with
      | zero =>
        have e : x = some a := by simpa using h2
        subst e
        exact absurd (mem (k := i) (by simpa using h1)) (List.nodup_cons.mp nd).1
      | succ j => rw [opt_inj ndt (i := i) (j := j) (by simpa using h1) (by simpa using h2)]
theorem lent_inj {vs : List V} {as : List SV} {i j : Nat} {a : Addr} (nd : (lentA vs as).Nodup) (h1 : (lentP vs as)[i]? = some (some a)) (h2 : (lentP vs as)[j]? = some (some a)) : i = j := opt_inj nd h1 h2
/-- the frame of a def at its entry -/
noncomputable def frOf (G H : Hp) (vs : List V) (as : List SV) : Fr where
  B := G
  T := fun b => open Classical in if G b = none ∧ b ∉ lentA vs as ∧ ∀ ps, H b ≠ some (.tbl ps) then H b else none
  P := lentP vs as
theorem start_at {N : List Str} {vs : List V} {i : Nat} {v : V} (h : vs[i]? = some v) : (L2.start N vs)[i]? = some (some v) := by
  have hi := (List.getElem?_eq_some_iff.mp h).1
  unfold L2.start
  rw [List.getElem?_append_left (by simpa using hi), List.getElem?_map, h]; rfl
theorem rho_at {as : List SV} {m : Nat} {i : Nat} {s : SV} (h : (as ++ List.replicate m .no)[i]? = some s) : as[i]? = some s ∨ s = .no := by
  by_cases hi : i < as.length
  · rw [List.getElem?_append_left hi] at h; exact .inl h
  · rw [List.getElem?_append_right (by omega), List.getElem?_replicate] at h
    split at h
    · exact .inr (Option.some.inj h).symm
    · cases h
theorem SR.start {N : List Str} {vs : List V} {as : List SV} {n : Nat} (s : Sub G H ∧ LamX.Tabs M.Tb H ∧ NoTbl G) (r : ArgsR M G H vs as) (nd : (lentA vs as).Nodup) (hn : N.length = n) (hl : as.length ≤ n) :
    SR M (frOf G H vs as) G H (L2.start N vs) (as ++ List.replicate (n - as.length) .no) := by
  have own : ∀ {i a}, OwnAt (as ++ List.replicate (n - as.length) .no) (L2.start N vs) i a → (lentP vs as)[i]? = some (some a) := fun {i a} ⟨t, e1, e2, e3⟩ => by
    rcases rho_at e1 with e | e
    · obtain ⟨v, hv, ha⟩ := r.get e
      cases t with
      | no => cases e2
      | fro d => cases e2
      | own d => exact ha.elim
      | par d =>
        rw [start_at hv] at e3
        cases e3
        exact lentP_get.mpr ⟨hv, d, e⟩
    · subst e; cases e2
  refine ⟨?_, s.1, fun i t e => ?_, fun i j a h1 h2 => lent_inj nd (own h1) (own h2), Sub.refl, fun a o e => ?_, fun i a e => ?_, fun i d e => ?_, s.2.1, s.2.2, fun a ps e => ?_⟩
  · have := r.length
    unfold L2.start
    simp only [List.length_append, List.length_replicate, List.length_map]
    omega
  · rcases rho_at e with e | e
    · obtain ⟨v, hv, ha⟩ := r.get e
      cases t with
      | no => trivial
      | fro d => exact ⟨v, start_at hv, ha⟩
      | own d => exact ha.elim
      | par d => obtain ⟨a, o, h1, h2, h3, h4⟩ := ha; subst h1; exact ⟨a, o, start_at hv, h2, h3, h4⟩
    · subst e; trivial
  · have e : (open Classical in if G a = none ∧ a ∉ lentA vs as ∧ ∀ ps, H a ≠ some (.tbl ps) then H a else none) = some o := e
    by_cases h : G a = none ∧ a ∉ lentA vs as ∧ ∀ ps, H a ≠ some (.tbl ps)
    · rw [if_pos h] at e
      exact ⟨e, h.1, fun i z => h.2.1 (lentA_mem.mpr ⟨i, own z⟩)⟩
    · rw [if_neg h] at e; cases e
  · have e : (lentP vs as)[i]? = some (some a) := e
    obtain ⟨hv, d, hd⟩ := lentP_get.mp e
    refine ⟨d, ?_, start_at hv⟩
    have hi := (List.getElem?_eq_some_iff.mp hd).1
    rw [List.getElem?_append_left hi]; exact hd
  · rcases rho_at e with e | e
    · obtain ⟨v, hv, a, o, h1, h2, h3, h4⟩ := r.get e
      subst h1
      exact ⟨a, lentP_get.mpr ⟨hv, d, e⟩⟩
    · cases e
  · have e : (open Classical in if G a = none ∧ a ∉ lentA vs as ∧ ∀ ps, H a ≠ some (.tbl ps) then H a else none) = some (.tbl ps) := e
    by_cases h : G a = none ∧ a ∉ lentA vs as ∧ ∀ ps, H a ≠ some (.tbl ps)
    · rw [if_pos h] at e; exact h.2.2 ps e
    · rw [if_neg h] at e; cases e
/-- the lent objects behind -/
theorem pars_of {G' H' : Hp} {σ : L2.St} {ρ : Rho} {fr : Fr} (R : SR M fr G' H' σ ρ) : ∀ (l : List (Option Addr)) (k : Nat), (∀ i, i < l.length → l[i]? = fr.P[k + i]? ) → 
    PRep M G' H' (l.filterMap id) (parsD ((ρ.drop k).take l.length))
  | [], k, _ => by simpa [parsD] using PRep.nil
  | x :: l, k, hP => by
    have ih := pars_of R l (k + 1) fun i hi => by
      have := hP (i + 1) (by simpa using hi)
      have e : k + 1 + i = k + (i + 1) := by omega
      rw [e, ← this]; rfl
    have h0 := hP 0 (by simp)
    rw [Nat.add_zero] at h0
    have h0 : some x = fr.P[k]? := h0
    rw [List.length_cons]
    cases x with
    | none =>
      have np : ∀ d, ρ[k]? ≠ some (.par d) := fun d z => by
        obtain ⟨a, q⟩ := R.parL k d z
        rw [← h0] at q; cases q
      show PRep M G' H' (l.filterMap id) _
      cases hk : ρ[k]? with
      | none =>
        have hk' : ρ.length ≤ k := List.getElem?_eq_none_iff.mp hk
        rw [List.drop_eq_nil_of_le hk']
        rw [List.drop_eq_nil_of_le (by omega)] at ih
        simpa using ih
      | some t =>
        have hlt := (List.getElem?_eq_some_iff.mp hk).1
        rw [List.drop_eq_getElem_cons hlt, List.take_succ_cons]
        have hk2 := hk
        rw [List.getElem?_eq_getElem hlt] at hk2
        have ht := Option.some.inj hk2
        rw [ht]
        cases t with
        | par d => exact absurd hk (np d)
        | _ => exact ih
    | some a =>
      obtain ⟨d', z1, z2⟩ := R.lent k a h0.symm
      have hlt := (List.getElem?_eq_some_iff.mp z1).1
      rw [List.drop_eq_getElem_cons hlt, List.take_succ_cons]
      have z3 := z1
      rw [List.getElem?_eq_getElem hlt] at z3
      rw [Option.some.inj z3]
      obtain ⟨a', o, q1, q2, q3, q4⟩ := R.slot k (.par d') z1
      rw [z2] at q1
      cases q1
      exact .cons q2 ⟨o, q3, q4⟩ ih
theorem SR.post {σ : L2.St} {ρ : Rho} {G' H' : Hp} {vs : List V} {as : List SV} (s : Sub G H) (hl : vs.length = as.length) (R : SR M (frOf G H vs as) G' H' σ ρ) : Post M G H G' H' (lentA vs as) (parsD (ρ.take as.length)) := by
  refine ⟨R.base, R.sub, fun b o e pl nb => ?_, ?_, R.tabs, R.nt⟩
  · cases hg : G b with
    | none =>
      have z : (frOf G H vs as).T b = some o := by
        show (open Classical in if G b = none ∧ b ∉ lentA vs as ∧ ∀ ps, H b ≠ some (.tbl ps) then H b else none) = some o
        rw [if_pos ⟨hg, nb, fun ps q => by rw [e] at q; cases q; exact pl ps rfl⟩]; exact e
      obtain ⟨h1, h2, _⟩ := R.keep b o z
      exact ⟨h1, fun _ => h2⟩
    | some u =>
      have h1 := s b u hg
      rw [e] at h1; cases h1
      exact ⟨R.sub _ _ (R.base b o hg), fun z => nomatch z⟩
  · have hz : (lentP vs as).length = as.length := by unfold lentP; rw [List.length_zipWith]; omega
    have := pars_of R (lentP vs as) 0 fun i _ => by rw [Nat.zero_add]; rfl
    rw [hz] at this
    rw [List.drop_zero] at this
    exact this
end

/-! ### a def of the text keeps its promise -/
section
variable {P : Program} {w : World} {M : Md} {mg : Str → Option Value} {base : Heap}
theorem fin_imp {np n : Nat} {b : DS} {E : XK} {G H : Hp} {vs : List V} {as : List SV} {N : List Str} {Q : VK} (s : Sub G H ∧ LamX.Tabs M.Tb H ∧ NoTbl G) (r : ArgsR M G H vs as) (nd : (lentA vs as).Nodup) (hn : N.length = n) (hle : np ≤ n)
    (q : match runF np n b as with
      | .ret d ps => ∀ v G' H', Post M G H G' H' (lentA vs as) ps → Rep M G' v d → Q v H'
      | .exc c fs ps => ∀ cls dx G' H', Post M G H G' H' (lentA vs as) ps → XRep M G' cls dx c fs → E cls dx H'
      | .stuck => False) : LS M E b { nx := fun _ H' => Q .non H', rt := Q } (L2.start N vs) H := by
  unfold runF at q
  by_cases hl : as.length = np
  · rw [if_pos hl] at q
    have R0 := SR.start (N := N) s r nd hn (by omega)
    rw [hl] at R0
    refine ⟨frOf G H vs as, G, _, R0, ?_⟩
    have hv := r.length
    cases e : b (as ++ List.replicate (n - np) .no) with
    | stuck => rw [e] at q; exact q
    | bk ρ => rw [e] at q; exact q.elim
    | ct ρ => rw [e] at q; exact q.elim
    | nx ρ =>
      rw [e] at q
      refine fun σ' G' H' R' s' => ?_
      have p := R'.post s.1 hv
      rw [hl] at p
      exact q .non G' H' p .non
    | rt d ρ =>
      rw [e] at q
      refine fun v σ' G' H' R' s' r' => ?_
      have p := R'.post s.1 hv
      rw [hl] at p
      exact q v G' H' p r'
    | exc c fs ρ =>
      rw [e] at q
      refine fun cls dx σ' G' H' R' s' x => ?_
      have p := R'.post s.1 hv
      rw [hl] at p
      exact q cls dx G' H' p x
  · rw [if_neg hl] at q; exact q.elim
/-- by its body -/
theorem fn_D {x qual : Str} {st : Stmt} {f : Addr} {fd : FuncData} {N ps : List Str} {k np n : Nat} {b : DS} (F : Fun M.K x qual st f fd) (S : FnScope N ps (defScope st)) (hp : ps.length = np) (hn : N.length = n)
    (hb : ∀ (cdv : Value) (A : Around) (outer : List Env) (s : Shared) (H : Hp) (E : XK), Room k (A.deeper (envOfC qual (defScope st) s.heap.objs.size f cdv)) →
      PSs (cxOf (L2.CX P w) P w M.K mg base N qual (defScope st) f cdv A outer s H E) (defBody st) (LS M E b)) : FnOk P w M.K mg base (L2.CX P w) (k + 1) f fd ps (spD M (runF np n b)) := by
  have hle : np ≤ n := by
    have := congrArg List.length S.pre
    rw [List.length_take] at this
    omega
  refine F.okX S (fun vs H Q E h => ?_) (fun cdv A outer s H vs Q E hr h => ?_)
  · obtain ⟨G, as, sb, r, nd, q⟩ := h
    rw [r.length, hp]
    unfold runF at q
    by_cases hl : as.length = np
    · exact hl
    · rw [if_neg hl] at q; exact q.elim
  · obtain ⟨G, as, sb, r, nd, q⟩ := h
    exact ⟨_, hb cdv A outer s H E hr, fin_imp sb r nd hn hle q⟩
theorem sp_pure {np n : Nat} {b : DS} {vs : List V} {H : Hp} {Q : VK} {E : XK} (h : spP M (runP np n b) vs H Q E) : spD M (runF np n b) vs H Q E := by
  obtain ⟨G, l, s, r, q⟩ := h
  have e := lentA_fro vs l
  refine ⟨G, l.map .fro, s, ArgsR.ofReps r, by rw [e]; exact List.nodup_nil, ?_⟩
  have key : ∀ {G' H' ps}, Post M G H G' H' [] ps → Ext M G H G' H' := fun {G' H' ps} p => ⟨p.sub, fun b o e pl => (p.keep b o e pl (by simp)).1, p.is, fun b o e pl => by
    cases z : G b with
    | none => exact (p.keep b o e pl (by simp)).2 z
    | some u => exact p.sub b u z, fun _ => p.nt, fun _ => p.tabs⟩
  rw [e]
  unfold runP at q
  cases e2 : runF np n b (l.map .fro) with
  | stuck => rw [e2] at q; exact q
  | ret d ps => rw [e2] at q; exact fun v G' H' p r' => q v G' H' (key p) r'
  | exc c fs ps => rw [e2] at q; exact fun cls dx G' H' p r' => q cls dx G' H' (key p) r'
theorem fn_P {x qual : Str} {st : Stmt} {f : Addr} {fd : FuncData} {N ps : List Str} {k np n : Nat} {b : DS} (F : Fun M.K x qual st f fd) (S : FnScope N ps (defScope st)) (hp : ps.length = np) (hn : N.length = n)
    (hb : ∀ (cdv : Value) (A : Around) (outer : List Env) (s : Shared) (H : Hp) (E : XK), Room k (A.deeper (envOfC qual (defScope st) s.heap.objs.size f cdv)) →
      PSs (cxOf (L2.CX P w) P w M.K mg base N qual (defScope st) f cdv A outer s H E) (defBody st) (LS M E b)) : FnOk P w M.K mg base (L2.CX P w) (k + 1) f fd ps (spP M (runP np n b)) :=
  (fn_D F S hp hn hb).imp fun _ _ _ _ h => sp_pure h
end

/-! ## calls -/
/-- of a def that changes nothing -/
def eCall (f : List D → OF) (rs : List DE) : DE := fun ρ => (aL rs ρ).bind fun l ρ1 => match f l with
  | .ret d _ => .ok d ρ1
  | .exc c fs _ => .exc c fs ρ1
  | .stuck => .stuck
section
variable {X : Cx} {M : Md} {E : XK} {e : Expr} {es : List Expr} {k : Nat} {f : Addr} {fd : FuncData} {ps : List Str} {g : List D → OF} {rs : List DE} {x : Str} {p pos : Pos}
theorem call_imp {σ : L2.St} {H : Hp} {Q : VK} (h : LE M E (eCall g rs) σ H Q) : tCall (spP M g) [] E (LA M E (aL rs)) σ H Q := by
  obtain ⟨fr, G, ρ, R, q⟩ := h
  refine ⟨fr, G, ρ, R, ?_⟩
  unfold eCall at q
  cases e1 : aL rs ρ with
  | stuck => rw [e1] at q; exact q
  | exc c fs ρ' => rw [e1] at q; exact q
  | ok l ρ1 =>
    rw [e1] at q
    refine fun vs G1 H1 R1 s1 r1 => ⟨G1, l, ⟨R1.sub, R1.tabs, R1.nt⟩, by rw [List.append_nil]; exact r1, ?_⟩
    simp only [OA.bind] at q
    cases e2 : g l with
    | stuck => rw [e2] at q; exact q
    | ret d ps => rw [e2] at q; exact fun v G' H' x r => q v G' H' (R1.ext x) (s1.trans x.sub) r
    | exc c fs ps => rw [e2] at q; exact fun cls dx G' H' x r => q cls dx G' H' (R1.ext x) (s1.trans x.sub) r
theorem le_call (tk : Takes X (fun c d _ H => E c d H)) (F : FnOk X.prog X.w X.K X.mg X.base (L2.CX X.prog X.w) k f fd ps (spP M g)) (hr : Room k X.A) (hg : Gl X x) (hm : X.mg x = some (.ref f)) (hk : PySem.W.keepIn X.K (.ref f) = true) (hb : Binds X.K fd ps [])
    (ha : PA X (e :: es) (LA M E (aL rs))) (hdb : (x == ("__debug__" : Str)) = false := by decide) (he : starEach (e :: es) X.env = (false, eval e X.env) :: starEach es X.env := by rfl) (hpl : (backTo pos (starEach es X.env)).any (·.1) = false := by rfl) :
    PE X (.Call (.Name x p) (e :: es) [] pos) (LE M E (eCall g rs)) :=
  PE.of (pe_call F hr hg hm hk hb .nil (passes_call tk fun _ _ _ _ h => h) ha hdb he hpl) fun σ H Q q => call_imp q
end

/-! ### of a def that changes what it is lent -/
inductive AE where
  | fro (r : DE) | sl (i : Nat)
inductive AV where
  | fro (d : D) | sl (i : Nat)
inductive OM where
  | ok (l : List AV) (ρ : Rho) | exc (c : String) (fs : XF) (ρ : Rho) | stuck
def mL : List AE → Rho → OM
  | [], ρ => .ok [] ρ
  | .fro r :: as, ρ => match r ρ with
    | .ok d ρ1 => match mL as ρ1 with
      | .ok l ρ2 => .ok (.fro d :: l) ρ2
      | .exc c fs ρ2 => .exc c fs ρ2
      | .stuck => .stuck
    | .exc c fs ρ1 => .exc c fs ρ1
    | .stuck => .stuck
  | .sl i :: as, ρ => match ρ[i]? with
    | some (.own _) | some (.par _) => match mL as ρ with
      | .ok l ρ2 => .ok (.sl i :: l) ρ2
      | .exc c fs ρ2 => .exc c fs ρ2
      | .stuck => .stuck
    | _ => .stuck
def svOf (ρ : Rho) : List AV → Option (List SV)
  | [] => some []
  | .fro d :: l => (svOf ρ l).map (.fro d :: ·)
  | .sl i :: l => match (ρ[i]?).bind SV.cont? with
    | some d => (svOf ρ l).map (.par d :: ·)
    | none => none
def slots : List AV → List Nat
  | [] => []
  | .fro _ :: l => slots l
  | .sl i :: l => i :: slots l
def putBack : List Nat → List D → Rho → Option Rho
  | [], [], ρ => some ρ
  | i :: is, d :: ds, ρ => match ρ[i]? with
    | some s => putBack is ds (ρ.set i (s.put d))
    | none => none
  | _, _, _ => none
def eCallM (f : List SV → OF) (as : List AE) : DE := fun ρ => match mL as ρ with
  | .ok l ρ1 => match svOf ρ1 l with
    | some vs => if (slots l).Nodup then (match f vs with
      | .ret d ps => (match putBack (slots l) ps ρ1 with
        | some ρ2 => .ok d ρ2
        | none => .stuck)
      | .exc c fs ps => (match putBack (slots l) ps ρ1 with
        | some ρ2 => .exc c fs ρ2
        | none => .stuck)
      | .stuck => .stuck) else .stuck
    | none => .stuck
  | .exc c fs ρ1 => .exc c fs ρ1
  | .stuck => .stuck
def AVR (M : Md) (G : Hp) (σ : L2.St) (v : V) : AV → Prop
  | .fro d => Rep M G v d
  | .sl i => σ[i]? = some (some v)
inductive AVsR (M : Md) (G : Hp) (σ : L2.St) : List V → List AV → Prop
  | nil : AVsR M G σ [] []
  | cons {v : V} {s : AV} {vs : List V} {ss : List AV} : AVR M G σ v s → AVsR M G σ vs ss → AVsR M G σ (v :: vs) (s :: ss)
def LM (M : Md) (E : XK) (as : List AE) : TA := fun σ H Q => ∃ fr G ρ, SR M fr G H σ ρ ∧ match mL as ρ with
  | .ok l ρ' => ∀ vs G' H', SR M fr G' H' σ ρ' → Sub G G' → AVsR M G' σ vs l → Q vs H'
  | .exc c fs ρ' => XC M E fr G σ c fs ρ'
  | .stuck => False
/-- the slots at is hold the objects L -/
def LentAt (ρ : Rho) (σ : L2.St) (is : List Nat) (L : List Addr) : Prop := ∀ (n : Nat) (a : Addr), L[n]? = some a → ∃ (i : Nat) (s : SV), is[n]? = some i ∧ ρ[i]? = some s ∧ s.isOwn = true ∧ σ[i]? = some (some (V.ref a))
section
variable {X : Cx} {M : Md} {E : XK} {e : Expr} {es : List Expr} {r : DE} {as : List AE}
theorem lm_nil : PA X [] (LM M E []) := PA.of pa_nil fun σ H Q ⟨fr, G, ρ, R, q⟩ => q [] G H R Sub.refl .nil
theorem lm_fro (he : PE X e (LE M E r)) (hr : PA X es (LM M E as)) (hs : starEach (e :: es) X.env = (false, eval e X.env) :: starEach es X.env := by rfl) : PA X (e :: es) (LM M E (.fro r :: as)) := by
  refine PA.of (pa_cons he hr hs) fun σ H Q ⟨fr, G, ρ, R, q⟩ => ⟨fr, G, ρ, R, ?_⟩
  unfold mL at q
  cases e1 : r ρ with
  | stuck => rw [e1] at q; exact q
  | exc c fs ρ' => rw [e1] at q; exact q
  | ok x ρ1 =>
    rw [e1] at q
    refine fun v G1 H1 R1 s1 r1 => ⟨fr, G1, ρ1, R1, ?_⟩
    dsimp only at q
    cases e2 : mL as ρ1 with
    | stuck => rw [e2] at q; exact q
    | exc c fs ρ' => rw [e2] at q; exact XC.of s1 q
    | ok l ρ2 => rw [e2] at q; exact fun vs G2 H2 R2 s2 r2 => q _ G2 H2 R2 (s1.trans s2) (.cons (r1.mono s2) r2)
theorem lm_sl {i : Nat} {x : Str} {p : Pos} (h : PE X (.Name x p) (tVar i)) (hr : PA X es (LM M E as)) (hs : starEach (.Name x p :: es) X.env = (false, eval (.Name x p) X.env) :: starEach es X.env := by rfl) : PA X (.Name x p :: es) (LM M E (.sl i :: as)) := by
  refine PA.of (pa_cons h hr hs) fun σ H Q ⟨fr, G, ρ, R, q⟩ => ?_
  have key : ∀ s, ρ[i]? = some s → s.isOwn = true → ∃ v, σ[i]? = some (some v) := fun s e1 e2 => by
    have z := R.slot i s e1
    cases s with
    | no => cases e2
    | fro d => cases e2
    | own d => obtain ⟨a, o, h1, _⟩ := z; exact ⟨_, h1⟩
    | par d => obtain ⟨a, o, h1, _⟩ := z; exact ⟨_, h1⟩
  have go : (∃ v, σ[i]? = some (some v)) → (match (match mL as ρ with
      | .ok l ρ2 => OM.ok (.sl i :: l) ρ2
      | .exc c fs ρ2 => .exc c fs ρ2
      | .stuck => .stuck) with
    | .ok l ρ' => ∀ vs G' H', SR M fr G' H' σ ρ' → Sub G G' → AVsR M G' σ vs l → Q vs H'
    | .exc c fs ρ' => XC M E fr G σ c fs ρ'
    | .stuck => False) → tCons (tVar i) (LM M E as) σ H Q := by
    rintro ⟨v, hv⟩ q
    refine ⟨v, hv, fr, G, ρ, R, ?_⟩
    cases e2 : mL as ρ with
    | stuck => rw [e2] at q; exact q
    | exc c fs ρ' => rw [e2] at q; exact q
    | ok l ρ2 => rw [e2] at q; exact fun vs G2 H2 R2 s2 r2 => q _ G2 H2 R2 s2 (.cons hv r2)
  unfold mL at q
  cases e : ρ[i]? with
  | none => rw [e] at q; exact q.elim
  | some s =>
    rw [e] at q
    cases s with
    | no => exact q.elim
    | fro d => exact q.elim
    | own d => exact go (key _ e rfl) q
    | par d => exact go (key _ e rfl) q
theorem sv_args {fr : Fr} {G H : Hp} {σ : L2.St} {ρ : Rho} (R : SR M fr G H σ ρ) : ∀ {vs : List V} {l : List AV} {as : List SV}, AVsR M G σ vs l → svOf ρ l = some as → ArgsR M G H vs as ∧ (slots l).length = (lentA vs as).length ∧ LentAt ρ σ (slots l) (lentA vs as)
  | _, _, as, .nil, h => by
    simp only [svOf] at h; cases h
    exact ⟨.nil, rfl, fun n a h => by simp [lentA, lentP] at h⟩
  | _, _, as, .cons (s := .fro d) r t, h => by
    simp only [svOf] at h
    cases e : svOf ρ _ with
    | none => rw [e] at h; cases h
    | some as' =>
      rw [e] at h; cases h
      obtain ⟨h1, h2, h3⟩ := sv_args R t e
      rename_i v vs ss
      have el : lentA (v :: vs) (SV.fro d :: as') = lentA vs as' := by
        have : lentH v (.fro d) = none := by cases v <;> rfl
        show List.filterMap id (lentH v (.fro d) :: lentP vs as') = _
        rw [this]; rfl
      rw [el]
      exact ⟨.cons r h1, h2, h3⟩
  | _, _, as, .cons (s := .sl i) r t, h => by
    simp only [svOf] at h
    cases e0 : (ρ[i]?).bind SV.cont? with
    | none => rw [e0] at h; cases h
    | some d =>
      rw [e0] at h
      dsimp only at h
      cases e : svOf ρ _ with
      | none => rw [e] at h; cases h
      | some as' =>
        rw [e] at h; cases h
        obtain ⟨h1, h2, h3⟩ := sv_args R t e
        rename_i v vs ss
        cases e4 : ρ[i]? with
        | none => rw [e4] at e0; cases e0
        | some s =>
          rw [e4] at e0
          have c : s.cont? = some d := e0
          have ho : s.isOwn = true := by cases s <;> first | rfl | cases c
          obtain ⟨a, o, z1, z2, z3, z4, z5⟩ := R.contAt e4 c
          have r : σ[i]? = some (some v) := r
          rw [z1] at r; cases r
          refine ⟨.cons ⟨a, o, rfl, z2, z3, z4⟩ h1, ?_, fun n b hb => ?_⟩
          · show (slots ss).length + 1 = (lentA vs as').length + 1
            rw [h2]
          · cases n with
            | zero =>
              have hb : some a = some b := hb
              cases hb
              exact ⟨i, s, rfl, e4, ho, z1⟩
            | succ n => exact h3 n b hb
theorem put_back {G H : Hp} {σ : L2.St} : ∀ {is : List Nat} {L : List Addr} {ds : List D} {ρ ρ' : Rho}, putBack is ds ρ = some ρ' → PRep M G H L ds → is.Nodup → LentAt ρ σ is L →
    -- all slots but those at is are held
    (∀ (i : Nat) (s : SV), ρ[i]? = some s → i ∉ is → SlotR M G H (σ[i]?) s) → ρ'.length = ρ.length ∧ (∀ (i : Nat) (s : SV), ρ'[i]? = some s → SlotR M G H (σ[i]?) s) ∧ (∀ i : Nat, (ρ'[i]?).map SV.isOwn = (ρ[i]?).map SV.isOwn) ∧
      (∀ (i : Nat) (d : D), ρ[i]? = some (.par d) → ∃ d', ρ'[i]? = some (.par d')) ∧ ∀ (i : Nat) (d : D), ρ'[i]? = some (.par d) → ∃ d', ρ[i]? = some (.par d')
  | [], L, ds, ρ, ρ', h, p, nd, hL, hs => by
    cases ds with
    | nil => simp only [putBack] at h; cases h; exact ⟨rfl, fun i s e => hs i s e (by simp), fun _ => rfl, fun i d e => ⟨d, e⟩, fun i d e => ⟨d, e⟩⟩
    | cons d ds => simp [putBack] at h
  | i :: is, L, ds, ρ, ρ', h, p, nd, hL, hs => by
    cases p with
    | nil => simp [putBack] at h
    | @cons a d L ds hg hh p =>
      simp only [putBack] at h
      cases e : ρ[i]? with
      | none => rw [e] at h; cases h
      | some s =>
        rw [e] at h
        dsimp only at h
        have hlt := (List.getElem?_eq_some_iff.mp e).1
        obtain ⟨i', s', z1, z2, z3, z4⟩ := hL 0 a rfl
        have z1 : i = i' := by simpa using z1
        subst z1
        rw [e] at z2; cases z2
        have hni := (List.nodup_cons.mp nd).1
        have so : (s.put d).isOwn = true := by cases s <;> first | rfl | cases z3
        obtain ⟨k1, k2, k3, k4, k5⟩ := put_back h p (List.nodup_cons.mp nd).2 (fun n b hb => by
          obtain ⟨j, t, w1, w2, w3, w4⟩ := hL (n + 1) b (by simpa using hb)
          have w1 : is[n]? = some j := by simpa using w1
          have : i ≠ j := fun z => hni (z ▸ List.mem_of_getElem? w1)
          exact ⟨j, t, w1, by rw [List.getElem?_set_ne this]; exact w2, w3, w4⟩) (fun j t hj hjn => by
          by_cases hij : i = j
          · subst hij
            rw [List.getElem?_set_self hlt] at hj
            cases hj
            obtain ⟨o, ho, hr⟩ := hh
            cases s with
            | no => cases z3
            | fro _ => cases z3
            | own _ => exact ⟨a, o, z4, hg, ho, hr⟩
            | par _ => exact ⟨a, o, z4, hg, ho, hr⟩
          · rw [List.getElem?_set_ne hij] at hj
            exact hs j t hj (by simp [Ne.symm hij, hjn]))
        refine ⟨by rw [k1, List.length_set], k2, fun j => ?_, fun j d' hj => ?_, fun j d' hj => ?_⟩
        · rw [k3 j]
          by_cases hij : i = j
          · subst hij
            rw [List.getElem?_set_self hlt, e]
            show some (s.put d).isOwn = some s.isOwn
            rw [so, z3]
          · rw [List.getElem?_set_ne hij]
        · by_cases hij : i = j
          · subst hij
            rw [e] at hj; cases hj
            exact k4 i d (List.getElem?_set_self hlt)
          · exact k4 j d' (by rw [List.getElem?_set_ne hij]; exact hj)
        · obtain ⟨d2, z⟩ := k5 j d' hj
          by_cases hij : i = j
          · subst hij
            rw [List.getElem?_set_self hlt] at z
            cases s with
            | par d3 => exact ⟨d3, e⟩
            | _ => cases z
          · rw [List.getElem?_set_ne hij] at z
            exact ⟨d2, z⟩
/-- behind such a call -/
theorem SR.behind {fr : Fr} {G H G' H' : Hp} {σ : L2.St} {ρ ρ' : Rho} {is : List Nat} {L : List Addr} {ds : List D} (R : SR M fr G H σ ρ) (p : Post M G H G' H' L ds) (hb : putBack is ds ρ = some ρ') (nd : is.Nodup) (hl : is.length = L.length)
    (hL : LentAt ρ σ is L) : SR M fr G' H' σ ρ' := by
  have inL : ∀ a, a ∈ L → ∃ i ∈ is, OwnAt ρ σ i a := fun a ha => by
    obtain ⟨n, hn⟩ := List.mem_iff_getElem?.mp ha
    obtain ⟨i, s, z1, z2, z3, z4⟩ := hL n a hn
    exact ⟨i, List.mem_of_getElem? z1, s, z2, z3, z4⟩
  have notL : ∀ {i a}, OwnAt ρ σ i a → i ∉ is → a ∉ L := fun {i a} o hi ha => by
    obtain ⟨j, hj, o2⟩ := inL a ha
    exact hi (R.dist _ _ _ o o2 ▸ hj)
  obtain ⟨k1, k2, k3, k4, k5⟩ := put_back hb p.pars nd hL fun i s e hi => by
    have z := R.slot i s e
    cases s with
    | no => trivial
    | fro d => obtain ⟨y, z1, z2⟩ := z; exact ⟨y, z1, z2.mono p.sub⟩
    | own d =>
      obtain ⟨b, u, z1, z2, z3, z4⟩ := z
      have nl := notL ⟨_, e, rfl, z1⟩ hi
      exact ⟨b, u, z1, (p.keep b u z3 z4.pl nl).2 z2, (p.keep b u z3 z4.pl nl).1, z4.mono p.sub⟩
    | par d =>
      obtain ⟨b, u, z1, z2, z3, z4⟩ := z
      have nl := notL ⟨_, e, rfl, z1⟩ hi
      exact ⟨b, u, z1, (p.keep b u z3 z4.pl nl).2 z2, (p.keep b u z3 z4.pl nl).1, z4.mono p.sub⟩
  have own : ∀ {i a}, OwnAt ρ' σ i a → OwnAt ρ σ i a := fun {i a} ⟨t, e1, e2, e3⟩ => by
    have z := k3 i
    rw [e1] at z
    cases q : ρ[i]? with
    | none => rw [q] at z; cases z
    | some s =>
      rw [q] at z
      have z : some t.isOwn = some s.isOwn := z
      exact ⟨s, q, by rw [← Option.some.inj z]; exact e2, e3⟩
  refine ⟨by rw [k1]; exact R.len, p.is, k2, fun i j a h1 h2 => R.dist _ _ _ (own h1) (own h2), R.base.trans p.sub, fun a o e => ?_, fun i a e => ?_, fun i d e => ?_, p.tabs, p.nt, R.ntT⟩
  · obtain ⟨z1, z2, z3⟩ := R.keep a o e
    have nl : a ∉ L := fun ha => by obtain ⟨i, _, o2⟩ := inL a ha; exact z3 i o2
    have pl : Pl o := fun ps z => R.ntT a ps (z ▸ e)
    exact ⟨(p.keep a o z1 pl nl).1, (p.keep a o z1 pl nl).2 z2, fun i z => z3 i (own z)⟩
  · obtain ⟨d, z1, z2⟩ := R.lent i a e
    obtain ⟨d', z3⟩ := k4 i d z1
    exact ⟨d', z3, z2⟩
  · obtain ⟨d', z⟩ := k5 i d e
    exact R.parL i d' z
theorem nodup_L {fr : Fr} {G H : Hp} {σ : L2.St} {ρ : Rho} (R : SR M fr G H σ ρ) {is : List Nat} {L : List Addr} (nd : is.Nodup) (hL : LentAt ρ σ is L) : L.Nodup := by
  unfold List.Nodup
  rw [List.pairwise_iff_getElem]
  intro m n hm hn hmn e
  have q := List.getElem?_eq_getElem hm
  obtain ⟨i, s, z1, z2, z3, z4⟩ := hL m _ q
  obtain ⟨j, t, w1, w2, w3, w4⟩ := hL n L[m] (by rw [e]; exact List.getElem?_eq_getElem hn)
  have ij : i = j := R.dist i j _ ⟨s, z2, z3, z4⟩ ⟨t, w2, w3, w4⟩
  obtain ⟨h1, e1⟩ := List.getElem?_eq_some_iff.mp z1
  obtain ⟨h2, e2⟩ := List.getElem?_eq_some_iff.mp w1
  unfold List.Nodup at nd
  rw [List.pairwise_iff_getElem] at nd
  exact nd m n h1 h2 hmn (by rw [e1, e2, ij])
variable {k : Nat} {f : Addr} {fd : FuncData} {ps : List Str} {g : List SV → OF} {x : Str} {p pos : Pos}
theorem callM_imp {σ : L2.St} {H : Hp} {Q : VK} (h : LE M E (eCallM g as) σ H Q) : tCall (spD M g) [] E (LM M E as) σ H Q := by
  obtain ⟨fr, G, ρ, R, q⟩ := h
  refine ⟨fr, G, ρ, R, ?_⟩
  unfold eCallM at q
  cases e1 : mL as ρ with
  | stuck => rw [e1] at q; exact q
  | exc c fs ρ' => rw [e1] at q; exact q
  | ok l ρ1 =>
    rw [e1] at q
    refine fun vs G1 H1 R1 s1 r1 => ?_
    dsimp only at q
    cases e2 : svOf ρ1 l with
    | none => rw [e2] at q; exact q.elim
    | some ss =>
      rw [e2] at q
      dsimp only at q
      by_cases nd : (slots l).Nodup
      · rw [if_pos nd] at q
        obtain ⟨h1, h2, h3⟩ := sv_args R1 r1 e2
        refine ⟨G1, ss, ⟨R1.sub, R1.tabs, R1.nt⟩, by rw [List.append_nil]; exact h1, by rw [List.append_nil]; exact nodup_L R1 nd h3, ?_⟩
        rw [List.append_nil]
        cases e3 : g ss with
        | stuck => rw [e3] at q; exact q
        | ret d ds =>
          rw [e3] at q
          refine fun v G' H' pp r => ?_
          dsimp only at q
          cases e4 : putBack (slots l) ds ρ1 with
          | none => rw [e4] at q; exact q.elim
          | some ρ2 => rw [e4] at q; exact q v G' H' (R1.behind pp e4 nd h2 h3) (s1.trans pp.sub) r
        | exc c fs ds =>
          rw [e3] at q
          refine fun cls dx G' H' pp r => ?_
          dsimp only at q
          cases e4 : putBack (slots l) ds ρ1 with
          | none => rw [e4] at q; exact q.elim
          | some ρ2 => rw [e4] at q; exact q cls dx G' H' (R1.behind pp e4 nd h2 h3) (s1.trans pp.sub) r
      · rw [if_neg nd] at q; exact q.elim
theorem le_callM (tk : Takes X (fun c d _ H => E c d H)) (F : FnOk X.prog X.w X.K X.mg X.base (L2.CX X.prog X.w) k f fd ps (spD M g)) (hr : Room k X.A) (hg : Gl X x) (hm : X.mg x = some (.ref f)) (hk : PySem.W.keepIn X.K (.ref f) = true) (hb : Binds X.K fd ps [])
    (ha : PA X (e :: es) (LM M E as)) (hdb : (x == ("__debug__" : Str)) = false := by decide) (he : starEach (e :: es) X.env = (false, eval e X.env) :: starEach es X.env := by rfl) (hpl : (backTo pos (starEach es X.env)).any (·.1) = false := by rfl) :
    PE X (.Call (.Name x p) (e :: es) [] pos) (LE M E (eCallM g as)) :=
  PE.of (pe_call F hr hg hm hk hb .nil (passes_call tk fun _ _ _ _ h => h) ha hdb he hpl) fun σ H Q q => callM_imp q
end
end DL

set_option Elab.async false
set_option linter.all false
set_option maxRecDepth 100000
set_option maxHeartbeats 400000
namespace DL
open PySem PySem.Spec PyProof.Rows L2

/-! ## lending for a while -/
mutual
/-- no list, no dict in it -/
def D.noL : D → Bool
  | .tup l => D.noLs l
  | .lst _ => false | .dct _ _ => false | .scr _ => false
  | _ => true
def D.noLs : List D → Bool
  | [] => true
  | d :: l => D.noL d && D.noLs l
end
def D.box : D → Bool | .lst _ => true | .dct _ _ => true | _ => false
/-- the listed slots to be read, the other own ones hidden -/
def hideR (is : List Nat) : Nat → Rho → Rho
  | _, [] => []
  | k, s :: ρ => (match s.cont? with
    | some d => if k ∈ is then SV.fro d else .no
    | none => s) :: hideR is (k + 1) ρ
def boxed (is : List Nat) (ρ : Rho) : Bool := is.all fun i => match (ρ[i]?).bind SV.cont? with
  | some d => d.box
  | none => true
theorem hideR_at (is : List Nat) : ∀ (ρ : Rho) (k i : Nat), (hideR is k ρ)[i]? = (ρ[i]?).map fun s => match s.cont? with
    | some d => if k + i ∈ is then SV.fro d else .no
    | none => s
  | [], k, i => by simp [hideR]
  | s :: ρ, k, 0 => by simp [hideR]
  | s :: ρ, k, i + 1 => by
    simp only [hideR, List.getElem?_cons_succ]
    rw [hideR_at is ρ (k + 1) i, show k + 1 + i = k + (i + 1) by omega]
theorem hideR_len (is : List Nat) : ∀ (ρ : Rho) (k : Nat), (hideR is k ρ).length = ρ.length
  | [], k => rfl
  | s :: ρ, k => congrArg (· + 1) (hideR_len is ρ (k + 1))
def Bor (is : List Nat) (ρ : Rho) (σ : L2.St) (a : Addr) : Prop := ∃ i ∈ is, OwnAt ρ σ i a
noncomputable def gBor (is : List Nat) (ρ : Rho) (σ : L2.St) (G H : Hp) : Hp := fun a => open Classical in if Bor is ρ σ a then H a else G a
noncomputable def unBor (is : List Nat) (ρ : Rho) (σ : L2.St) (G : Hp) : Hp := fun a => open Classical in if Bor is ρ σ a then none else G a
noncomputable def frBor (is : List Nat) (ρ : Rho) (σ : L2.St) (fr : Fr) (G H : Hp) : Fr where
  B := gBor is ρ σ G H
  T := fun a => open Classical in if (∃ i, OwnAt ρ σ i a) ∧ ¬ Bor is ρ σ a then H a else fr.T a
  P := []
section
variable {M : Md} {fr : Fr} {G H G' H' : Hp} {σ : L2.St} {ρ : Rho} {is : List Nat}
theorem OwnAt.slot (R : SR M fr G H σ ρ) {i : Nat} {a : Addr} (h : OwnAt ρ σ i a) : ∃ s d o, ρ[i]? = some s ∧ s.cont? = some d ∧ σ[i]? = some (some (.ref a)) ∧ G a = none ∧ H a = some o ∧ ORep M G o d := by
  obtain ⟨s, e1, e2, e3⟩ := h
  have q := R.slot i s e1
  cases s with
  | no => cases e2
  | fro d => cases e2
  | own d => obtain ⟨b, o, h1, h2, h3, h4⟩ := q; rw [e3] at h1; cases h1; exact ⟨_, d, o, e1, rfl, e3, h2, h3, h4⟩
  | par d => obtain ⟨b, o, h1, h2, h3, h4⟩ := q; rw [e3] at h1; cases h1; exact ⟨_, d, o, e1, rfl, e3, h2, h3, h4⟩
theorem SR.borrow (R : SR M fr G H σ ρ) (is : List Nat) : SR M (frBor is ρ σ fr G H) (gBor is ρ σ G H) H σ (hideR is 0 ρ) ∧ Sub G (gBor is ρ σ G H) := by
  have sg : Sub G (gBor is ρ σ G H) := fun a o e => by
    unfold gBor
    by_cases h : Bor is ρ σ a
    · rw [if_pos h]; exact R.sub _ _ e
    · rw [if_neg h]; exact e
  have nown : ∀ {i a}, ¬ OwnAt (hideR is 0 ρ) σ i a := fun {i a} ⟨s, e1, e2, _⟩ => by
    rw [hideR_at] at e1
    cases e : ρ[i]? with
    | none => rw [e] at e1; cases e1
    | some t =>
      rw [e] at e1
      cases t with
      | no => cases e1; cases e2
      | fro d => cases e1; cases e2
      | own d =>
        simp only [Option.map_some, SV.cont?] at e1
        by_cases h : 0 + i ∈ is
        · rw [if_pos h] at e1; cases e1; cases e2
        · rw [if_neg h] at e1; cases e1; cases e2
      | par d =>
        simp only [Option.map_some, SV.cont?] at e1
        by_cases h : 0 + i ∈ is
        · rw [if_pos h] at e1; cases e1; cases e2
        · rw [if_neg h] at e1; cases e1; cases e2
  have borrowed : ∀ {i : Nat} {s : SV} {d : D}, ρ[i]? = some s → s.cont? = some d → i ∈ is → ∃ x, σ[i]? = some (some x) ∧ Rep M (gBor is ρ σ G H) x d := fun {i s d} e c hi => by
    obtain ⟨a, o, h1, h2, h3, h4, _⟩ := R.contAt e c
    have ho : s.isOwn = true := by cases s <;> first | rfl | cases c
    have b : Bor is ρ σ a := ⟨i, hi, s, e, ho, h1⟩
    refine ⟨_, h1, .here (o := o) ?_ (h4.mono sg)⟩
    unfold gBor
    rw [if_pos b]; exact h3
  refine ⟨⟨by rw [hideR_len]; exact R.len, fun a o e => ?_, fun i s e => ?_, fun i j a h1 h2 => (nown h1).elim, Sub.refl, fun a o e => ?_, fun i a e => by simp [frBor] at e, fun i d e => ?_, R.tabs, fun a ps e => ?_, fun a ps e => ?_⟩, sg⟩
  · unfold gBor at e
    by_cases h : Bor is ρ σ a
    · rw [if_pos h] at e; exact e
    · rw [if_neg h] at e; exact R.sub _ _ e
  · rw [hideR_at] at e
    cases e2 : ρ[i]? with
    | none => rw [e2] at e; cases e
    | some t =>
      rw [e2] at e
      have q := R.slot i t e2
      cases t with
      | no => cases e; trivial
      | fro d => cases e; obtain ⟨x, h1, h2⟩ := q; exact ⟨x, h1, h2.mono sg⟩
      | own d =>
        simp only [Option.map_some, SV.cont?] at e
        by_cases h : 0 + i ∈ is
        · rw [if_pos h] at e; cases e; exact borrowed e2 rfl (by simpa using h)
        · rw [if_neg h] at e; cases e; trivial
      | par d =>
        simp only [Option.map_some, SV.cont?] at e
        by_cases h : 0 + i ∈ is
        · rw [if_pos h] at e; cases e; exact borrowed e2 rfl (by simpa using h)
        · rw [if_neg h] at e; cases e; trivial
  · have e : (open Classical in if (∃ i, OwnAt ρ σ i a) ∧ ¬ Bor is ρ σ a then H a else fr.T a) = some o := e
    refine ⟨?_, ?_, fun i => nown⟩
    · by_cases h : (∃ i, OwnAt ρ σ i a) ∧ ¬ Bor is ρ σ a
      · rw [if_pos h] at e; exact e
      · rw [if_neg h] at e; exact (R.keep a o e).1
    · unfold gBor
      by_cases h : (∃ i, OwnAt ρ σ i a) ∧ ¬ Bor is ρ σ a
      · rw [if_neg h.2]
        obtain ⟨i, hi⟩ := h.1
        obtain ⟨_, _, _, _, _, _, g, _⟩ := hi.slot R
        exact g
      · rw [if_neg h] at e
        have z := R.keep a o e
        rw [if_neg (fun ⟨i, _, hi⟩ => z.2.2 i hi)]
        exact z.2.1
  · rw [hideR_at] at e
    cases e2 : ρ[i]? with
    | none => rw [e2] at e; cases e
    | some t =>
      rw [e2] at e
      cases t with
      | no => cases e
      | fro d => cases e
      | own d =>
        simp only [Option.map_some, SV.cont?] at e
        by_cases h : 0 + i ∈ is
        · rw [if_pos h] at e; cases e
        · rw [if_neg h] at e; cases e
      | par d =>
        simp only [Option.map_some, SV.cont?] at e
        by_cases h : 0 + i ∈ is
        · rw [if_pos h] at e; cases e
        · rw [if_neg h] at e; cases e
  · unfold gBor at e
    by_cases h : Bor is ρ σ a
    · rw [if_pos h] at e
      obtain ⟨i, _, hi⟩ := h
      obtain ⟨_, _, o, _, _, _, _, ho, hr⟩ := hi.slot R
      rw [e] at ho; cases ho
      exact hr.pl ps rfl
    · rw [if_neg h] at e; exact R.nt a ps e
  · have e : (open Classical in if (∃ i, OwnAt ρ σ i a) ∧ ¬ Bor is ρ σ a then H a else fr.T a) = some (.tbl ps) := e
    by_cases h : (∃ i, OwnAt ρ σ i a) ∧ ¬ Bor is ρ σ a
    · rw [if_pos h] at e
      obtain ⟨i, hi⟩ := h.1
      obtain ⟨_, _, o, _, _, _, _, ho, hr⟩ := hi.slot R
      rw [e] at ho; cases ho
      exact hr.pl ps rfl
    · rw [if_neg h] at e; exact R.ntT a ps e
theorem boxed_own (R : SR M fr G H σ ρ) (hb : boxed is ρ = true) {a : Addr} (b : Bor is ρ σ a) : ∃ o d, H a = some o ∧ ORep M G o d ∧ d.box = true := by
  obtain ⟨i, hi, h⟩ := b
  obtain ⟨s, d, o, e1, e2, e3, e4, e5, e6⟩ := h.slot R
  unfold boxed at hb
  have z := List.all_eq_true.mp hb i hi
  rw [e1] at z
  simp only [Option.bind_some, e2] at z
  exact ⟨o, d, e5, e6, z⟩
theorem SR.giveBack {ρ1 : Rho} (R : SR M fr G H σ ρ) (R1 : SR M (frBor is ρ σ fr G H) G' H' σ ρ1) : SR M fr (unBor is ρ σ G') H' σ ρ ∧ Sub G (unBor is ρ σ G') := by
  have sb : Sub (gBor is ρ σ G H) G' := R1.base
  have nb : ∀ {a u}, G a = some u → ¬ Bor is ρ σ a := fun {a u} e ⟨i, _, hi⟩ => by
    obtain ⟨_, _, _, _, _, _, g, _⟩ := hi.slot R
    rw [g] at e; cases e
  have sg : Sub G (unBor is ρ σ G') := fun a o e => by
    unfold unBor
    rw [if_neg (nb e)]
    refine sb a o ?_
    unfold gBor
    rw [if_neg (nb e)]; exact e
  have slot : ∀ {i : Nat} {a : Addr} {o : HO} {d : D}, OwnAt ρ σ i a → H a = some o → ORep M G o d → unBor is ρ σ G' a = none ∧ H' a = some o ∧ ORep M (unBor is ρ σ G') o d := fun {i a o d} h ho hr => by
    by_cases b : Bor is ρ σ a
    · refine ⟨by unfold unBor; rw [if_pos b], R1.sub _ _ (sb a o ?_), hr.mono sg⟩
      unfold gBor
      rw [if_pos b]; exact ho
    · have t : (frBor is ρ σ fr G H).T a = some o := by
        show (open Classical in if (∃ i, OwnAt ρ σ i a) ∧ ¬ Bor is ρ σ a then H a else fr.T a) = some o
        rw [if_pos ⟨⟨i, h⟩, b⟩]; exact ho
      obtain ⟨z1, z2, z3⟩ := R1.keep a o t
      exact ⟨by unfold unBor; rw [if_neg b]; exact z2, z1, hr.mono sg⟩
  refine ⟨⟨R.len, fun a o e => ?_, fun i s e => ?_, R.dist, R.base.trans sg, fun a o e => ?_, R.lent, R.parL, R1.tabs, fun a ps e => ?_, R.ntT⟩, sg⟩
  · unfold unBor at e
    by_cases b : Bor is ρ σ a
    · rw [if_pos b] at e; cases e
    · rw [if_neg b] at e; exact R1.sub _ _ e
  · have q := R.slot i s e
    cases s with
    | no => trivial
    | fro d => obtain ⟨x, h1, h2⟩ := q; exact ⟨x, h1, h2.mono sg⟩
    | own d => obtain ⟨a, o, h1, h2, h3, h4⟩ := q; obtain ⟨z1, z2, z3⟩ := slot ⟨_, e, rfl, h1⟩ h3 h4; exact ⟨a, o, h1, z1, z2, z3⟩
    | par d => obtain ⟨a, o, h1, h2, h3, h4⟩ := q; obtain ⟨z1, z2, z3⟩ := slot ⟨_, e, rfl, h1⟩ h3 h4; exact ⟨a, o, h1, z1, z2, z3⟩
  · obtain ⟨h1, h2, h3⟩ := R.keep a o e
    have nb : ¬ Bor is ρ σ a := fun ⟨i, _, hi⟩ => h3 i hi
    have t : (frBor is ρ σ fr G H).T a = some o := by
      show (open Classical in if (∃ i, OwnAt ρ σ i a) ∧ ¬ Bor is ρ σ a then H a else fr.T a) = some o
      rw [if_neg (fun z => by obtain ⟨i, hi⟩ := z.1; exact h3 i hi)]; exact e
    obtain ⟨z1, z2, _⟩ := R1.keep a o t
    exact ⟨z1, by unfold unBor; rw [if_neg nb]; exact z2, h3⟩
  · unfold unBor at e
    by_cases b : Bor is ρ σ a
    · rw [if_pos b] at e; cases e
    · rw [if_neg b] at e; exact R1.nt a ps e
mutual
theorem Rep.unBor (hx : ∀ a, Bor is ρ σ a → ∃ o d, G' a = some o ∧ ORep M G o d ∧ d.box = true) : ∀ (d : D) (v : V), Rep M G' v d → d.noL = true → Rep M (unBor is ρ σ G') v d
  | .non, v, r, _ => by rw [r.isNon]; exact .non
  | .bl b, v, r, _ => by rw [r.isBl]; exact .bl b
  | .int i, v, r, _ => by rw [r.isInt]; exact .int i
  | .str x, v, r, _ => by rw [r.isStr]; exact .str x
  | .ref a, v, r, _ => by rw [r.isFn]; exact .fn a
  | .lst _, v, r, h => by simp [D.noL] at h
  | .dct _ _, v, r, h => by simp [D.noL] at h
  | .scr _, v, r, h => by simp [D.noL] at h
  | .tup l, v, r, h => by
    cases r with
    | @here a o _ h1 h2 =>
      cases h2 with
      | @tup xs _ q =>
        refine .here (o := .tup xs) ?_ (.tup (Reps.unBor hx l xs q (by simpa [D.noL] using h)))
        unfold DL.unBor
        rw [if_neg (fun b => ?_)]
        · exact h1
        · obtain ⟨o', d', e1, e2, e3⟩ := hx a b
          rw [h1] at e1; cases e1
          cases e2; cases e3
    | conT h1 q => exact .conT h1 (Reps.unBor hx l _ q (by simpa [D.noL] using h))
theorem Reps.unBor (hx : ∀ a, Bor is ρ σ a → ∃ o d, G' a = some o ∧ ORep M G o d ∧ d.box = true) : ∀ (d : List D) (v : List V), Reps M G' v d → D.noLs d = true → Reps M (unBor is ρ σ G') v d
  | [], v, r, _ => by cases r; exact .nil
  | d :: l, v, r, h => by
    simp only [D.noLs, Bool.and_eq_true] at h
    cases r with
    | cons r1 r2 => exact .cons (Rep.unBor hx d _ r1 h.1) (Reps.unBor hx l _ r2 h.2)
end
theorem SR.bx {ρ1 : Rho} (R : SR M fr G H σ ρ) (hb : boxed is ρ = true) (R1 : SR M (frBor is ρ σ fr G H) G' H' σ ρ1) : ∀ a, Bor is ρ σ a → ∃ o d, G' a = some o ∧ ORep M G o d ∧ d.box = true := fun a b => by
  obtain ⟨o, d, h1, h2, h3⟩ := boxed_own R hb b
  refine ⟨o, d, R1.base a o ?_, h2, h3⟩
  show gBor is ρ σ G H a = some o
  unfold gBor
  rw [if_pos b]; exact h1
theorem FReps.unBor (hx : ∀ a, Bor is ρ σ a → ∃ o d, G' a = some o ∧ ORep M G o d ∧ d.box = true) : ∀ {vs : List (Str × V)} {fs : XF}, FReps M G' vs fs → (fs.all fun p => p.2.noL) = true → FReps M (unBor is ρ σ G') vs fs
  | _, _, .nil, _ => .nil
  | _, _, .cons r t, h => by
    simp only [List.all_cons, Bool.and_eq_true] at h
    exact .cons (Rep.unBor hx _ _ r h.1) (FReps.unBor hx t h.2)
theorem XRep.unBor (hx : ∀ a, Bor is ρ σ a → ∃ o d, G' a = some o ∧ ORep M G o d ∧ d.box = true) {cls : Value} {dx : Option Addr} {c : String} {fs : XF} (h : (fs.all fun p => p.2.noL) = true) (x : XRep M G' cls dx c fs) : XRep M (unBor is ρ σ G') cls dx c fs := by
  obtain ⟨e, q⟩ := x
  refine ⟨e, ?_⟩
  cases fs with
  | nil => exact q
  | cons f r =>
    obtain ⟨a, vs, e1, e2, e3⟩ := q
    refine ⟨a, vs, e1, ?_, FReps.unBor hx e3 h⟩
    unfold DL.unBor
    rw [if_neg (fun b => ?_)]
    · exact e2
    · obtain ⟨o', d', w1, w2, w3⟩ := hx a b
      rw [e2] at w1; cases w1
      cases w2
end

def eBor (is : List Nat) (r : DE) : DE := fun ρ => if boxed is ρ then (match r (hideR is 0 ρ) with
  | .ok d _ => if d.noL then .ok d ρ else .stuck
  | .exc c fs _ => if fs.all fun p => p.2.noL then .exc c fs ρ else .stuck
  | .stuck => .stuck) else .stuck
def tBor (is : List Nat) (r : DT) : DT := fun ρ => if boxed is ρ then (match r (hideR is 0 ρ) with
  | .ok d _ => .ok d ρ
  | .exc c fs _ => if fs.all fun p => p.2.noL then .exc c fs ρ else .stuck
  | .stuck => .stuck) else .stuck
def D.noLI : D → Bool
  | .lst l => D.noLs l
  | .dct _ l => l.all fun p => p.2.noL
  | _ => false
/-- a new list of what holds none -/
def oBor (is : List Nat) (r : DE) : DE := fun ρ => if boxed is ρ then (match r (hideR is 0 ρ) with
  | .ok d _ => if d.noLI then .ok d ρ else .stuck
  | .exc c fs _ => if fs.all fun p => p.2.noL then .exc c fs ρ else .stuck
  | .stuck => .stuck) else .stuck
section
variable {X : Cx} {M : Md} {E : XK} {e : Expr} {r : DE} {t : DT} {is : List Nat}
theorem xc_bor {fr : Fr} {G H : Hp} {σ : L2.St} {ρ ρ1 : Rho} {c : String} {fs : XF} (R : SR M fr G H σ ρ) (hb : boxed is ρ = true) (h : (fs.all fun p => p.2.noL) = true) (q : XC M E fr G σ c fs ρ) : XC M E (frBor is ρ σ fr G H) (gBor is ρ σ G H) σ c fs ρ1 :=
  fun cls dx G' H' R1 s1 x => by
    obtain ⟨R2, s2⟩ := R.giveBack R1
    exact q cls dx _ H' R2 s2 (x.unBor (R.bx hb R1) h)
theorem le_bor (h : PE X e (LE M E r)) : PE X e (LE M E (eBor is r)) := by
  refine PE.of h fun σ H Q ⟨fr, G, ρ, R, q⟩ => ?_
  unfold eBor at q
  by_cases hb : boxed is ρ = true
  · rw [if_pos hb] at q
    obtain ⟨R1, s1⟩ := R.borrow is
    refine ⟨_, _, _, R1, ?_⟩
    cases e1 : r (hideR is 0 ρ) with
    | stuck => rw [e1] at q; exact q
    | exc c fs ρ' =>
      rw [e1] at q
      dsimp only at q
      by_cases hn : (fs.all fun p => p.2.noL) = true
      · rw [if_pos hn] at q; exact xc_bor R hb hn q
      · rw [if_neg hn] at q; exact q.elim
    | ok d ρ' =>
      rw [e1] at q
      dsimp only at q
      by_cases hn : d.noL = true
      · rw [if_pos hn] at q
        refine fun v G' H' R' s' r' => ?_
        obtain ⟨R2, s2⟩ := R.giveBack R'
        exact q v _ H' R2 s2 (Rep.unBor (R.bx hb R') d v r' hn)
      · rw [if_neg hn] at q; exact q.elim
  · rw [if_neg hb] at q; exact q.elim
theorem lt_bor (h : PT X e (LT M E t)) : PT X e (LT M E (tBor is t)) := by
  refine PT.of h fun σ H Q ⟨fr, G, ρ, R, q⟩ => ?_
  unfold tBor at q
  by_cases hb : boxed is ρ = true
  · rw [if_pos hb] at q
    obtain ⟨R1, s1⟩ := R.borrow is
    refine ⟨_, _, _, R1, ?_⟩
    cases e1 : t (hideR is 0 ρ) with
    | stuck => rw [e1] at q; exact q
    | exc c fs ρ' =>
      rw [e1] at q
      dsimp only at q
      by_cases hn : (fs.all fun p => p.2.noL) = true
      · rw [if_pos hn] at q; exact xc_bor R hb hn q
      · rw [if_neg hn] at q; exact q.elim
    | ok d ρ' =>
      rw [e1] at q
      refine fun G' H' R' s' => ?_
      obtain ⟨R2, s2⟩ := R.giveBack R'
      exact q _ H' R2 s2
  · rw [if_neg hb] at q; exact q.elim
theorem kreps_unBor {ρ : Rho} {σ : L2.St} {G G' : Hp} (hx : ∀ a, Bor is ρ σ a → ∃ o d, G' a = some o ∧ ORep M G o d ∧ d.box = true) : ∀ {kvs : List (Key × V)} {ps : List (D × D)}, KReps M G' kvs ps → (ps.all fun p => p.2.noL) = true → KReps M (unBor is ρ σ G') kvs ps
  | _, _, .nil, _ => .nil
  | _, _, .cons r t, h => by
    simp only [List.all_cons, Bool.and_eq_true] at h
    exact .cons (Rep.unBor hx _ _ r h.1) (kreps_unBor hx t h.2)
theorem treps_unBor {ρ : Rho} {σ : L2.St} {G G' : Hp} (hx : ∀ a, Bor is ρ σ a → ∃ o d, G' a = some o ∧ ORep M G o d ∧ d.box = true) : ∀ {kvs : List (List Key × V)} {ps : List (D × D)}, TReps M G' kvs ps → (ps.all fun p => p.2.noL) = true → TReps M (unBor is ρ σ G') kvs ps
  | _, _, .nil, _ => .nil
  | _, _, .cons r t, h => by
    simp only [List.all_cons, Bool.and_eq_true] at h
    exact .cons (Rep.unBor hx _ _ r h.1) (treps_unBor hx t h.2)
theorem lo_bor (h : PE X e (LO M E r)) : PE X e (LO M E (oBor is r)) := by
  refine PE.of h fun σ H Q ⟨fr, G, ρ, R, q⟩ => ?_
  unfold oBor at q
  by_cases hb : boxed is ρ = true
  · rw [if_pos hb] at q
    obtain ⟨R1, s1⟩ := R.borrow is
    refine ⟨_, _, _, R1, ?_⟩
    cases e1 : r (hideR is 0 ρ) with
    | stuck => rw [e1] at q; exact q
    | exc c fs ρ' =>
      rw [e1] at q
      dsimp only at q
      by_cases hn : (fs.all fun p => p.2.noL) = true
      · rw [if_pos hn] at q; exact xc_bor R hb hn q
      · rw [if_neg hn] at q; exact q.elim
    | ok d ρ' =>
      rw [e1] at q
      dsimp only at q
      by_cases hn : d.noLI = true
      · rw [if_pos hn] at q
        refine fun a G' H' R' s' n' => ?_
        obtain ⟨R2, s2⟩ := R.giveBack R'
        have hx := R.bx hb R'
        obtain ⟨o, ho, hr⟩ := n'.o
        have nb : ¬ Bor is ρ σ a := fun b => by
          obtain ⟨u, d', w1, _⟩ := hx a b
          rw [n'.g] at w1; cases w1
        have nt : (open Classical in if (∃ i, OwnAt ρ σ i a) ∧ ¬ Bor is ρ σ a then H a else fr.T a) = none := n'.t
        have no : ∀ i, ¬ OwnAt ρ σ i a := fun i hi => by
          rw [if_pos ⟨⟨i, hi⟩, nb⟩] at nt
          obtain ⟨_, _, _, _, _, _, _, z, _⟩ := hi.slot R
          rw [nt] at z; cases z
        refine q a _ H' R2 s2 ⟨by unfold DL.unBor; rw [if_neg nb]; exact n'.g, ?_, no, o, ho, ?_⟩
        · rw [if_neg (fun z => by obtain ⟨i, hi⟩ := z.1; exact no i hi)] at nt
          exact nt
        · cases hr with
          | tup _ => simp [D.noLI] at hn
          | lst z => exact .lst (Reps.unBor hx _ _ z (by simpa [D.noLI] using hn))
          | dK z => exact .dK (kreps_unBor hx z (by simpa [D.noLI] using hn))
          | dT z => exact .dT (treps_unBor hx z (by simpa [D.noLI] using hn))
      · rw [if_neg hn] at q; exact q.elim
  · rw [if_neg hb] at q; exact q.elim
end
end DL

set_option Elab.async false
set_option linter.all false
set_option maxRecDepth 100000
set_option maxHeartbeats 400000
namespace DL
open PySem PySem.Spec PyProof.Rows L2

/-! ## what changes an own list, dict -/
/-- a store by values: the content, the place, the value -/
def StD (M : Md) (r : TSet) (op : D → D → D → Option D) : Prop := ∀ (G H : Hp) (a : Addr) (o : HO) (x y : V) (c k v d : D) (Q : Hp → Prop), Sub G H → H a = some o → ORep M G o c → Rep M G x k → Rep M G y v → op c k v = some d →
  (∀ o', ORep M G o' d → Q (upd H a o')) → r (.ref a) x y H Q
def dStL : D → D → D → Option D
  | .lst l, .int j, v => (ixN l.length j).map fun n => .lst (l.set n v)
  | _, _, _ => none
/-- a method that changes its receiver: its content and the arguments; the content behind and the value -/
def MuD (M : Md) (r : V → List V → Hp → VK → Prop) (op : D → List D → Option (D × D)) : Prop := ∀ (G H : Hp) (a : Addr) (o : HO) (xs : List V) (c : D) (l : List D) (c' d : D) (Q : VK), Sub G H → G a = none → H a = some o → ORep M G o c → Reps M G xs l → op c l = some (c', d) →
  (∀ o' v, ORep M G o' c' → Rep M G v d → Q v (upd H a o')) → r (.ref a) xs H Q
def dAppend : D → List D → Option (D × D)
  | .lst l, [v] => if fits l.length 24 then some (.lst (l ++ [v]), .non) else none
  | _, _ => none
def dExtend : D → List D → Option (D × D)
  | .lst l, [.lst m] => if okLen (l.length + m.length) then some (.lst (l ++ m), .non) else none
  | _, _ => none
def dPop : D → List D → Option (D × D)
  | .lst l, [] => (l[l.length - 1]?).map fun d => (.lst l.dropLast, d)
  | .lst l, [.int i] => if small i then (seqIndex? i l.length).bind fun k => (l[k]?).map fun d => (.lst (l.eraseIdx k), d) else none
  | _, _ => none
theorem Reps.dropLast {M : Md} {G : Hp} : ∀ {v : List V} {d : List D}, Reps M G v d → Reps M G v.dropLast d.dropLast
  | _, _, .nil => .nil
  | _, _, .cons r .nil => .nil
  | _, _, .cons r (.cons q t) => .cons r (Reps.dropLast (.cons q t))
theorem Reps.erase {M : Md} {G : Hp} : ∀ {v : List V} {d : List D} (i : Nat), Reps M G v d → Reps M G (v.eraseIdx i) (d.eraseIdx i)
  | _, _, _, .nil => .nil
  | _, _, 0, .cons _ t => t
  | _, _, i + 1, .cons r t => .cons r (Reps.erase i t)
section
variable {M : Md}
theorem st_list : StD M rSetL dStL := by
  intro G H a o x y c k v d Q s ha hr rx ry e q
  cases c <;> cases k <;> simp only [dStL] at e <;> try cases e
  rename_i l j
  obtain ⟨xs, rfl, r⟩ := hr.isLst
  cases e2 : ixN l.length j with
  | none => rw [e2] at e; cases e
  | some n =>
    rw [e2] at e; cases e
    exact ⟨a, xs, j, n, rfl, rx.isInt, ha, by rw [r.length]; exact e2, q _ (.lst (r.set ry n))⟩
theorem mu_append : MuD M rAppend dAppend := by
  intro G H a o xs c l c' d Q s hg ha hr rr e q
  cases c <;> simp only [dAppend] at e <;> try cases e
  rename_i m
  match l, e with
  | [v], e =>
    dsimp only at e
    by_cases h0 : fits m.length 24 = true
    · rw [if_pos h0] at e; cases e
      have h : m.length < 16777216 := (fits_iff (k := 24) (by decide)).mp h0
      obtain ⟨ys, rfl, r⟩ := hr.isLst
      cases rr with
      | cons r1 r2 =>
        cases r2
        exact ⟨a, ys, _, rfl, rfl, ha, by rw [r.length, sizeLine_eq]; exact h, q _ _ (.lst (r.app (.cons r1 .nil))) .non⟩
    · rw [if_neg h0] at e; cases e
theorem mu_extend : MuD M rExtend dExtend := by
  intro G H a o xs c l c' d Q s hg ha hr rr e q
  cases c <;> simp only [dExtend] at e <;> try cases e
  rename_i m
  match l, e with
  | [.lst v], e =>
    dsimp only at e
    by_cases h : okLen (m.length + v.length) = true
    · rw [if_pos h] at e; cases e
      obtain ⟨ys, rfl, r⟩ := hr.isLst
      cases rr with
      | cons r1 r2 =>
        cases r2
        obtain ⟨b, zs, rfl, hb, rz⟩ := r1.isLst s
        exact ⟨a, b, ys, zs, rfl, rfl, ha, hb, by rw [r.length, rz.length]; exact okLen_z h, q _ _ (.lst (r.app rz)) .non⟩
    · rw [if_neg h] at e; cases e
theorem mu_pop0 : MuD M rPop (fun c l => if l.isEmpty then dPop c l else none) := by
  intro G H a o xs c l c' d Q s hg ha hr rr e q
  match l, e with
  | [], e =>
    cases rr
    simp only [List.isEmpty_nil, if_true] at e
    obtain ⟨m, rfl⟩ : ∃ m, c = .lst m := by cases c <;> first | exact ⟨_, rfl⟩ | (simp [dPop] at e)
    simp only [dPop] at e
    obtain ⟨ys, rfl, r⟩ := hr.isLst
    cases e2 : m[m.length - 1]? with
    | none => rw [e2] at e; cases e
    | some y =>
      rw [e2] at e; cases e
      obtain ⟨z, hz, rz⟩ := r.get e2
      exact ⟨a, ys, z, rfl, rfl, ha, by rw [r.length]; exact hz, q _ _ (.lst r.dropLast) rz⟩
  | _ :: _, e => simp at e
theorem mu_popAt : MuD M rPopAt (fun c l => if l.isEmpty then none else dPop c l) := by
  intro G H a o xs c l c' d Q s hg ha hr rr e q
  match l, e with
  | [], e => simp at e
  | x :: l, e =>
    simp only [List.isEmpty_cons, Bool.false_eq_true, if_false] at e
    obtain ⟨m, rfl⟩ : ∃ m, c = .lst m := by cases c <;> first | exact ⟨_, rfl⟩ | (simp [dPop] at e)
    obtain ⟨i, rfl⟩ : ∃ i, x = .int i := by cases x <;> first | exact ⟨_, rfl⟩ | (simp [dPop] at e)
    match l, e with
    | [], e =>
      simp only [dPop] at e
      by_cases hs : small i = true
      · rw [if_pos hs] at e
        obtain ⟨ys, rfl, r⟩ := hr.isLst
        cases e3 : seqIndex? i m.length with
        | none => rw [e3] at e; cases e
        | some k =>
          rw [e3] at e
          simp only [Option.bind_some] at e
          cases e2 : m[k]? with
          | none => rw [e2] at e; cases e
          | some y =>
            rw [e2] at e; cases e
            cases rr with
            | cons r1 r2 =>
              cases r2
              obtain ⟨z, hz, rz⟩ := r.get e2
              obtain ⟨h1, h2⟩ := small_of hs
              exact ⟨a, ys, i, k, z, rfl, by rw [r1.isInt], ha, by omega, by omega, by rw [r.length]; exact e3, hz, q _ _ (.lst (r.erase k)) rz⟩
      · rw [if_neg hs] at e; cases e
end
/-- x[k] = v with x in slot i -/
def putAt (op : D → D → D → Option D) (i : Nat) (k v : D) (ρ : Rho) : Option Rho := match ρ[i]? with
  | some s => (s.cont?.bind fun c => op c k v).map fun d => ρ.set i (s.put d)
  | none => none
def sStore (op : D → D → D → Option D) (i : Nat) (rk rv : DE) : DS := fun ρ => (rv ρ).st fun v ρ1 => (rk ρ1).st fun k ρ2 => match putAt op i k v ρ2 with
  | some ρ3 => .nx ρ3
  | none => .stuck
/-- x.m(..) with x in slot i -/
def eMut (op : D → List D → Option (D × D)) (i : Nat) (rs : List DE) : DE := fun ρ => (aL rs ρ).bind fun l ρ1 => match ρ1[i]? with
  | some s => (match s.cont?.bind fun c => op c l with
    | some (c', d) => .ok d (ρ1.set i (s.put c'))
    | none => .stuck)
  | none => .stuck
theorem SR.slotVal {M : Md} {fr : Fr} {G H : Hp} {σ : L2.St} {ρ : Rho} (R : SR M fr G H σ ρ) {i : Nat} (h : ∀ s, ρ[i]? = some s → s.cont? = none → False) (hl : ρ[i]? ≠ none) : ∃ a, σ[i]? = some (some (.ref a)) := by
  cases e : ρ[i]? with
  | none => exact absurd e hl
  | some s =>
    cases c : s.cont? with
    | none => exact (h s e c).elim
    | some d => obtain ⟨a, _, z, _⟩ := R.contAt e c; exact ⟨a, z⟩
/-- what is own stays so through an expression, by its slot's value -/
theorem SR.same {M : Md} {fr fr' : Fr} {G H G' H' : Hp} {σ : L2.St} {ρ ρ' : Rho} (R : SR M fr G H σ ρ) (R' : SR M fr' G' H' σ ρ') {i : Nat} {s : SV} {c : D} (e : ρ'[i]? = some s) (hc : s.cont? = some c) : ∃ a, σ[i]? = some (some (.ref a)) := by
  obtain ⟨a, _, z, _⟩ := R'.contAt e hc
  exact ⟨a, z⟩
section
variable {X : Cx} {M : Md} {E : XK} {e ei : Expr} {es : List Expr} {rk rv : DE} {rs : List DE} {pos p p1 p2 apos cpos : Pos} {x : Str} {i : Nat}
/-- an own slot's value, read first: given the slot is own behind what follows -/
theorem putAt_own {op : D → D → D → Option D} {k v : D} {ρ ρ' : Rho} (h : putAt op i k v ρ = some ρ') : ∃ s c d, ρ[i]? = some s ∧ s.cont? = some c ∧ op c k v = some d ∧ ρ' = ρ.set i (s.put d) := by
  unfold putAt at h
  cases e : ρ[i]? with
  | none => rw [e] at h; cases h
  | some s =>
    rw [e] at h
    dsimp only at h
    cases c : s.cont? with
    | none => rw [c] at h; cases h
    | some d =>
      rw [c] at h
      simp only [Option.bind_some] at h
      cases q : op d k v with
      | none => rw [q] at h; cases h
      | some d' => rw [q] at h; cases h; exact ⟨s, d, d', rfl, c, q, rfl⟩
/-- the place of the subscript makes no exception: it must give a value -/
def pureAt (o : OE) : Bool := match o with | .ok _ _ => true | _ => false
def sStoreP (op : D → D → D → Option D) (i : Nat) (rk rv : DE) : DS := fun ρ => (rv ρ).st fun v ρ1 => match ρ1[i]? with
  | some s => if s.isOwn then (match rk ρ1 with
    | .ok k ρ2 => (match putAt op i k v ρ2 with
      | some ρ3 => .nx ρ3
      | none => .stuck)
    | _ => .stuck) else .stuck
  | none => .stuck
theorem own_val {fr : Fr} {G H : Hp} {σ : L2.St} {ρ : Rho} (R : SR M fr G H σ ρ) {s : SV} (e : ρ[i]? = some s) (h : s.isOwn = true) : ∃ a, σ[i]? = some (some (.ref a)) := by
  have c : ∃ d, s.cont? = some d := by cases s <;> first | exact ⟨_, rfl⟩ | cases h
  obtain ⟨d, c⟩ := c
  obtain ⟨a, _, z, _⟩ := R.contAt e c
  exact ⟨a, z⟩
theorem ls_store {t : TSet} {op : D → D → D → Option D} (hs : PSet X t) (ho : StD M t op) (hx : PE X (.Name x p) (tVar i)) (hi : PE X ei (LE M E rk)) (he : PE X e (LE M E rv))
    (ha : ∀ v, assign (.Subscript (.Name x p) ei p1) X.env v = (do
      let ov ← holding [v] (eval (.Name x p) X.env)
      let iv ← holding [v, ov] (eval ei X.env)
      standAt p1
      holding [v, ov, iv] (setItem ov iv v)
      release [v, ov, iv] []) := by intro _; rfl)
    (hs1 : swapsWithSole [.Subscript (.Name x p) ei p1] e pos.line X.env = pure false := by rfl) (hw : swappedStores [.Subscript (.Name x p) ei p1] e X.env = pure none := by rfl)
    (h1 : (assignEach [.Subscript (.Name x p) ei p1] X.env).map (·.2) = [assign (.Subscript (.Name x p) ei p1) X.env] := by rfl) : PS X (.Assign [.Subscript (.Name x p) ei p1] e pos) (LS M E (sStoreP op i rk rv)) := by
  refine PS.of (ps_asg he (pg_sub hx hi hs ha) hs1 hw h1) fun σ H D ⟨fr, G, ρ, R, q⟩ => ⟨fr, G, ρ, R, ?_⟩
  unfold sStoreP at q
  cases e1 : rv ρ with
  | stuck => rw [e1] at q; exact q
  | exc c fs ρ' => rw [e1] at q; exact fun cls dx G' H' R' s' x => q cls dx σ G' H' R' s' x
  | ok v ρ1 =>
    rw [e1] at q
    refine fun y G1 H1 R1 s1 r1 => ?_
    simp only [OE.st] at q
    cases e2 : ρ1[i]? with
    | none => rw [e2] at q; exact q.elim
    | some s =>
      rw [e2] at q
      dsimp only at q
      by_cases so : s.isOwn = true
      · rw [if_pos so] at q
        obtain ⟨a, hv⟩ := own_val R1 e2 so
        refine ⟨_, hv, fr, G1, ρ1, R1, ?_⟩
        cases e3 : rk ρ1 with
        | stuck => rw [e3] at q; exact q
        | exc c fs ρ' => rw [e3] at q; exact q.elim
        | ok k ρ2 =>
          rw [e3] at q
          dsimp only at q
          refine fun w G2 H2 R2 s2 r2 => ?_
          cases e4 : putAt op i k v ρ2 with
          | none => rw [e4] at q; exact q.elim
          | some ρ3 =>
            rw [e4] at q
            obtain ⟨s', c, d, w1, w2, w3, w4⟩ := putAt_own e4
            subst w4
            obtain ⟨a', o, z1, z2, z3, z4, _⟩ := R2.contAt w1 w2
            rw [hv] at z1; cases z1
            exact ho G2 H2 a o w y c k v d _ R2.sub z3 z4 r2 (r1.mono s2) w3 fun o' ho' => q σ G2 _ (R2.write w1 w2 hv ho') (s1.trans s2)
      · rw [if_neg so] at q; exact q.elim
/-- x.m(..) -/
def eMutP (kd : D → Bool) (op : D → List D → Option (D × D)) (i : Nat) (rs : List DE) : DE := fun ρ => match (ρ[i]?).bind SV.cont? with
  | some c => if kd c then (eMut op i rs) ρ else .stuck
  | none => .stuck
def D.isL : D → Bool | .lst _ => true | _ => false
def D.isD : D → Bool | .dct _ _ => true | _ => false
theorem mut_imp {r : V → List V → Hp → VK → Prop} {op : D → List D → Option (D × D)} {kd : D → Bool} {T : String} (hr : MuD M r op) (hT : ∀ a H o c G, H a = some o → ORep M G o c → kd c = true → tyV X.K T (.ref a) H) {σ : L2.St} {H : Hp} {Q : VK} (h : LE M E (eMutP kd op i rs) σ H Q) :
    tBM X.K T r (tVar i) (LA M E (aL rs)) σ H Q := by
  obtain ⟨fr, G, ρ, R, q⟩ := h
  unfold eMutP at q
  cases e2 : ρ[i]? with
  | none => rw [e2] at q; exact q.elim
  | some s =>
    rw [e2] at q
    simp only [Option.bind_some] at q
    cases c : s.cont? with
    | none => rw [c] at q; exact q.elim
    | some d =>
      rw [c] at q
      dsimp only at q
      by_cases so : kd d = true
      · rw [if_pos so] at q
        obtain ⟨a, o, hv, z2, z3, z4, _⟩ := R.contAt e2 c
        refine ⟨_, hv, hT a H o d G z3 z4 so, fr, G, ρ, R, ?_⟩
        unfold eMut at q
        cases e1 : aL rs ρ with
        | stuck => rw [e1] at q; exact q
        | exc c fs ρ' => rw [e1] at q; exact q
        | ok l ρ1 =>
          rw [e1] at q
          refine fun vs G1 H1 R1 s1 r1 => ?_
          simp only [OA.bind] at q
          cases e3 : ρ1[i]? with
          | none => rw [e3] at q; exact q.elim
          | some s' =>
            rw [e3] at q
            dsimp only at q
            cases e4 : s'.cont? with
            | none => rw [e4] at q; exact q.elim
            | some c' =>
              rw [e4] at q
              simp only [Option.bind_some] at q
              cases e5 : op c' l with
              | none => rw [e5] at q; exact q.elim
              | some cd =>
                obtain ⟨c2, d2⟩ := cd
                rw [e5] at q
                dsimp only at q
                obtain ⟨a', o', y1, y2, y3, y4, _⟩ := R1.contAt e3 e4
                rw [hv] at y1; cases y1
                exact hr G1 H1 a o' vs c' l c2 d2 _ R1.sub y2 y3 y4 r1 e5 fun o2 v ho2 hv2 => q v G1 _ (R1.write e3 e4 hv ho2) s1 hv2
      · rw [if_neg so] at q; exact q.elim
theorem tyL {K : PySem.W.Frag} (a : Addr) (H : Hp) (o : HO) (c : D) (G : Hp) (h : H a = some o) (r : ORep M G o c) (k : c.isL = true) : tyV K "list" (.ref a) H := by
  cases c with
  | lst l => obtain ⟨xs, rfl, _⟩ := r.isLst; exact .inl ⟨rfl, _, SqL.of h⟩
  | _ => cases k
theorem tyD {K : PySem.W.Frag} (a : Addr) (H : Hp) (o : HO) (c : D) (G : Hp) (h : H a = some o) (r : ORep M G o c) (k : c.isD = true) : tyV K "dict" (.ref a) H := by
  cases r with
  | tup _ => cases k
  | lst _ => cases k
  | dK _ => exact .inr (.inr (.inl ⟨rfl, .inl ⟨_, h⟩⟩))
  | dT _ => exact .inr (.inr (.inl ⟨rfl, .inr ⟨_, h⟩⟩))
variable {ea : Expr} {ra : DE}
theorem le_append (hx : PE X (.Name x p) (tVar i)) (ha : PA X [ea] (LA M E (aL [ra]))) (hline : (apos.endLine == cpos.line) = true := by rfl) (hs : starEach [ea] X.env = (false, eval ea X.env) :: starEach [] X.env := by rfl)
    (hfew : ((backTo cpos (starEach [ea] X.env)).all (fun x => !x.1) && (backToKw cpos (keywordEach [] X.env)).all (fun x => x.1.isSome) && decide (([ea] : List Expr).length + ([] : List Keyword).length + (if ([] : List Keyword).isEmpty then 0 else 1) < 30)) = true := by rfl) : PE X (.Call (.Attribute (.Name x p) "append" apos) [ea] [] cpos) (LE M E (eMutP D.isL dAppend i [ra])) :=
  PE.of (pe_bm PySem.F.plainAttrs_list PySem.F.slot_list_append PySem.F.type_list_append mt_append hx ha (hline := hline) (hs := hs) (hfew := hfew)) fun σ H Q q => mut_imp mu_append tyL q
theorem le_extend (hx : PE X (.Name x p) (tVar i)) (ha : PA X [ea] (LA M E (aL [ra]))) (hline : (apos.endLine == cpos.line) = true := by rfl) (hs : starEach [ea] X.env = (false, eval ea X.env) :: starEach [] X.env := by rfl)
    (hfew : ((backTo cpos (starEach [ea] X.env)).all (fun x => !x.1) && (backToKw cpos (keywordEach [] X.env)).all (fun x => x.1.isSome) && decide (([ea] : List Expr).length + ([] : List Keyword).length + (if ([] : List Keyword).isEmpty then 0 else 1) < 30)) = true := by rfl) : PE X (.Call (.Attribute (.Name x p) "extend" apos) [ea] [] cpos) (LE M E (eMutP D.isL dExtend i [ra])) :=
  PE.of (pe_bm PySem.F.plainAttrs_list PySem.F.slot_list_extend PySem.F.type_list_extend mt_extend hx ha (hline := hline) (hs := hs) (hfew := hfew)) fun σ H Q q => mut_imp mu_extend tyL q
theorem le_popAt (hx : PE X (.Name x p) (tVar i)) (ha : PA X [ea] (LA M E (aL [ra]))) (hline : (apos.endLine == cpos.line) = true := by rfl) (hs : starEach [ea] X.env = (false, eval ea X.env) :: starEach [] X.env := by rfl)
    (hfew : ((backTo cpos (starEach [ea] X.env)).all (fun x => !x.1) && (backToKw cpos (keywordEach [] X.env)).all (fun x => x.1.isSome) && decide (([ea] : List Expr).length + ([] : List Keyword).length + (if ([] : List Keyword).isEmpty then 0 else 1) < 30)) = true := by rfl) : PE X (.Call (.Attribute (.Name x p) "pop" apos) [ea] [] cpos) (LE M E (eMutP D.isL (fun c l => if l.isEmpty then none else dPop c l) i [ra])) :=
  PE.of (pe_bm PySem.F.plainAttrs_list PySem.F.slot_list_pop PySem.F.type_list_pop mt_popAt hx ha (hline := hline) (hs := hs) (hfew := hfew)) fun σ H Q q => mut_imp mu_popAt tyL q
end
end DL

set_option Elab.async false
set_option linter.all false
set_option maxRecDepth 100000
set_option maxHeartbeats 400000
namespace DL
open PySem PySem.Spec PyProof.Rows L2

/-! ## several values, several targets -/
inductive MV where
  | fro (d : D) | own (d : D)
inductive MO where
  | ok (l : List MV) (ρ : Rho) | exc (c : String) (fs : XF) (ρ : Rho) | stuck
/-- true: the value is a new object -/
def mA : List (Bool × DE) → Rho → MO
  | [], ρ => .ok [] ρ
  | (o, r) :: as, ρ => match r ρ with
    | .ok d ρ1 => (match mA as ρ1 with
      | .ok l ρ2 => .ok ((if o then .own d else .fro d) :: l) ρ2
      | .exc c fs ρ2 => .exc c fs ρ2
      | .stuck => .stuck)
    | .exc c fs ρ1 => .exc c fs ρ1
    | .stuck => .stuck
def tpT : List (Addr × HO) → Hp → Hp
  | [], T => T
  | (a, o) :: l, T => upd (tpT l T) a o
inductive PendR (M : Md) (G T : Hp) : List (Addr × HO) → List V → List MV → Prop
  | nil : PendR M G T [] [] []
  | fro {p : List (Addr × HO)} {v : V} {d : D} {vs : List V} {ms : List MV} : Rep M G v d → PendR M G T p vs ms → PendR M G T p (v :: vs) (.fro d :: ms)
  | own {p : List (Addr × HO)} {a : Addr} {o : HO} {d : D} {vs : List V} {ms : List MV} : T a = none → a ∉ p.map (·.1) → ORep M G o d → PendR M G T p vs ms → PendR M G T ((a, o) :: p) (.ref a :: vs) (.own d :: ms)
theorem tpT_off {T : Hp} {b : Addr} : ∀ {p : List (Addr × HO)}, b ∉ p.map (·.1) → tpT p T b = T b
  | [], _ => rfl
  | (a, o) :: p, h => by
    simp only [List.map_cons, List.mem_cons, not_or] at h
    show upd (tpT p T) a o b = T b
    rw [upd_ne h.1]; exact tpT_off h.2
theorem tpT_ne {T : Hp} {a b : Addr} {o : HO} (h : b ≠ a) : ∀ {p : List (Addr × HO)}, tpT p (upd T a o) b = tpT p T b
  | [] => upd_ne h
  | (c, u) :: p => by
    show upd (tpT p (upd T a o)) c u b = upd (tpT p T) c u b
    by_cases hb : b = c
    · subst hb; rw [upd_same, upd_same]
    · rw [upd_ne hb, upd_ne hb]; exact tpT_ne h
section
variable {M : Md} {G G' H H' T T' : Hp} {σ : L2.St} {ρ : Rho}
theorem PendR.mono (s : Sub G G') : ∀ {p : List (Addr × HO)} {vs : List V} {ms : List MV}, PendR M G T p vs ms → PendR M G' T p vs ms
  | _, _, _, .nil => .nil
  | _, _, _, .fro r t => .fro (r.mono s) (PendR.mono s t)
  | _, _, _, .own h1 h2 r t => .own h1 h2 (r.mono s) (PendR.mono s t)
theorem PendR.len : ∀ {p : List (Addr × HO)} {vs : List V} {ms : List MV}, PendR M G T p vs ms → vs.length = ms.length
  | _, _, _, .nil => rfl
  | _, _, _, .fro r t => congrArg (· + 1) (PendR.len t)
  | _, _, _, .own h1 h2 r t => congrArg (· + 1) (PendR.len t)
theorem PendR.none : ∀ {p : List (Addr × HO)} {vs : List V} {ms : List MV}, PendR M G T p vs ms → ∀ b ∈ p.map (·.1), T b = none
  | _, _, _, .nil, b, h => by simp at h
  | _, _, _, .fro r t, b, h => PendR.none t b h
  | _, _, _, .own h1 h2 r t, b, h => by
    simp only [List.map_cons, List.mem_cons] at h
    rcases h with e | h
    · rw [e]; exact h1
    · exact PendR.none t b h
theorem PendR.weak (w : ∀ b, T b = Option.none → T' b = Option.none) : ∀ {p : List (Addr × HO)} {vs : List V} {ms : List MV}, PendR M G T p vs ms → PendR M G T' p vs ms
  | _, _, _, .nil => .nil
  | _, _, _, .fro r t => .fro r (PendR.weak w t)
  | _, _, _, .own h1 h2 r t => .own (w _ h1) h2 r (PendR.weak w t)
theorem SR.weakT {B : Hp} {P : List (Option Addr)} (w : ∀ a o, T' a = some o → T a = some o) (R : SR M ⟨B, T, P⟩ G H σ ρ) : SR M ⟨B, T', P⟩ G H σ ρ :=
  ⟨R.len, R.sub, R.slot, R.dist, R.base, fun a o e => R.keep a o (w a o e), R.lent, R.parL, R.tabs, R.nt, fun a ps e => R.ntT a ps (w a _ e)⟩
/-- a new object is looked after -/
theorem SR.hold {fr : Fr} (R : SR M fr G H σ ρ) {a : Addr} {o : HO} (hg : G a = none) (hn : ∀ i, ¬ OwnAt ρ σ i a) (ho : H a = some o) (pl : Pl o) : SR M { fr with T := upd fr.T a o } G H σ ρ := by
  refine ⟨R.len, R.sub, R.slot, R.dist, R.base, fun b u e => ?_, R.lent, R.parL, R.tabs, R.nt, R.ntT.upd pl⟩
  by_cases hb : b = a
  · subst hb
    have e : upd fr.T b o b = some u := e
    rw [upd_same] at e; cases e
    exact ⟨ho, hg, hn⟩
  · have e : upd fr.T a o b = some u := e
    rw [upd_ne hb] at e
    exact R.keep b u e
end
def LMA (M : Md) (E : XK) (as : List (Bool × DE)) : TA := fun σ H Q => ∃ fr G ρ, SR M fr G H σ ρ ∧ match mA as ρ with
  | .ok ms ρ' => ∀ vs p G' H', SR M { fr with T := tpT p fr.T } G' H' σ ρ' → Sub G G' → PendR M G' fr.T p vs ms → Q vs H'
  | .exc c fs ρ' => XC M E fr G σ c fs ρ'
  | .stuck => False
theorem mA_len : ∀ (as : List (Bool × DE)) (ρ : Rho) {l : List MV} {ρ' : Rho}, mA as ρ = .ok l ρ' → l.length = as.length
  | [], ρ, l, ρ', h => by cases h; rfl
  | (o, r) :: rs, ρ, l, ρ', h => by
    unfold mA at h
    cases e : r ρ with
    | stuck => rw [e] at h; cases h
    | exc c fs q => rw [e] at h; cases h
    | ok d ρ1 =>
      rw [e] at h
      dsimp only at h
      cases e2 : mA rs ρ1 with
      | stuck => rw [e2] at h; cases h
      | exc c fs q => rw [e2] at h; cases h
      | ok l2 ρ2 =>
        rw [e2] at h
        cases h
        rw [List.length_cons, List.length_cons, mA_len rs ρ1 e2]
section
variable {X : Cx} {M : Md} {E : XK} {e : Expr} {es : List Expr} {r : DE} {as : List (Bool × DE)}
theorem ma_nil : PA X [] (LMA M E []) := PA.of pa_nil fun σ H Q ⟨fr, G, ρ, R, q⟩ => q [] [] G H R Sub.refl .nil
theorem ma_fro (he : PE X e (LE M E r)) (hr : PA X es (LMA M E as)) (hs : starEach (e :: es) X.env = (false, eval e X.env) :: starEach es X.env := by rfl) : PA X (e :: es) (LMA M E ((false, r) :: as)) := by
  refine PA.of (pa_cons he hr hs) fun σ H Q ⟨fr, G, ρ, R, q⟩ => ⟨fr, G, ρ, R, ?_⟩
  unfold mA at q
  cases e1 : r ρ with
  | stuck => rw [e1] at q; exact q
  | exc c fs ρ' => rw [e1] at q; exact q
  | ok x ρ1 =>
    rw [e1] at q
    refine fun v G1 H1 R1 s1 r1 => ⟨fr, G1, ρ1, R1, ?_⟩
    dsimp only at q
    cases e2 : mA as ρ1 with
    | stuck => rw [e2] at q; exact q
    | exc c fs ρ' => rw [e2] at q; exact XC.of s1 q
    | ok l ρ2 => rw [e2] at q; exact fun vs p G2 H2 R2 s2 p2 => q _ p G2 H2 R2 (s1.trans s2) (.fro (r1.mono s2) p2)
theorem ma_own (he : PE X e (LO M E r)) (hr : PA X es (LMA M E as)) (hs : starEach (e :: es) X.env = (false, eval e X.env) :: starEach es X.env := by rfl) : PA X (e :: es) (LMA M E ((true, r) :: as)) := by
  refine PA.of (pa_cons he hr hs) fun σ H Q ⟨fr, G, ρ, R, q⟩ => ⟨fr, G, ρ, R, ?_⟩
  unfold mA at q
  cases e1 : r ρ with
  | stuck => rw [e1] at q; exact q
  | exc c fs ρ' => rw [e1] at q; exact q
  | ok x ρ1 =>
    rw [e1] at q
    refine fun a G1 H1 R1 s1 n1 => ?_
    obtain ⟨o, ho, hr⟩ := n1.o
    refine ⟨_, G1, ρ1, R1.hold n1.g n1.n ho hr.pl, ?_⟩
    dsimp only at q
    have wk : ∀ b u, fr.T b = some u → upd fr.T a o b = some u := fun b u e => by
      rw [upd_ne (fun z => by rw [z, n1.t] at e; cases e)]; exact e
    cases e2 : mA as ρ1 with
    | stuck => rw [e2] at q; exact q
    | exc c fs ρ' => rw [e2] at q; exact fun cls dx G' H' R' s' x => XC.of s1 q cls dx G' H' (R'.weakT wk) s' x
    | ok l ρ2 =>
      rw [e2] at q
      refine fun vs p G2 H2 R2 s2 p2 => ?_
      have na : a ∉ p.map (·.1) := fun z => by
        have := p2.none a z
        have this : upd fr.T a o a = none := this
        rw [upd_same] at this; cases this
      refine q _ ((a, o) :: p) G2 H2 (R2.weakT fun b u e => ?_) (s1.trans s2) (.own n1.t na (hr.mono s2) (p2.weak fun b z => ?_))
      · have e : upd (tpT p fr.T) a o b = some u := e
        show tpT p (upd fr.T a o) b = some u
        by_cases hb : b = a
        · subst hb
          rw [upd_same] at e; cases e
          rw [tpT_off na]; exact upd_same
        · rw [upd_ne hb] at e
          rw [tpT_ne hb]; exact e
      · have z : upd fr.T a o b = none := z
        by_cases hb : b = a
        · subst hb; rw [upd_same] at z; cases z
        · rw [upd_ne hb] at z; exact z
end

/-! ### targets -/
inductive TgE where
  | nm (i : Nat) | ix (i : Nat) (rk : DE)
def stM : List TgE → List MV → Rho → Option Rho
  | [], [], ρ => some ρ
  | .nm i :: ts, .fro d :: ms, ρ => if notPar ρ i then stM ts ms (ρ.set i (.fro d)) else none
  | .nm i :: ts, .own d :: ms, ρ => if notPar ρ i then stM ts ms (ρ.set i (.own d)) else none
  | .ix i rk :: ts, .fro d :: ms, ρ => match (ρ[i]?).bind SV.cont? with
    | some _ => (match rk ρ with
      | .ok k ρ1 => (putAt dStL i k d ρ1).bind (stM ts ms)
      | _ => none)
    | none => none
  | _, _, _ => none
theorem stM_len : ∀ (ts : List TgE) (ms : List MV) (ρ ρ' : Rho), stM ts ms ρ = some ρ' → ms.length = ts.length
  | [], [], _, _, _ => rfl
  | [], _ :: _, _, _, h => by simp [stM] at h
  | .nm i :: ts, [], _, _, h => by simp [stM] at h
  | .ix i rk :: ts, [], _, _, h => by simp [stM] at h
  | .nm i :: ts, .fro d :: ms, ρ, ρ', h => by
    unfold stM at h
    by_cases np : notPar ρ i = true
    · rw [if_pos np] at h; rw [List.length_cons, List.length_cons, stM_len ts ms _ _ h]
    · rw [if_neg np] at h; cases h
  | .nm i :: ts, .own d :: ms, ρ, ρ', h => by
    unfold stM at h
    by_cases np : notPar ρ i = true
    · rw [if_pos np] at h; rw [List.length_cons, List.length_cons, stM_len ts ms _ _ h]
    · rw [if_neg np] at h; cases h
  | .ix i rk :: ts, .own d :: ms, _, _, h => by simp [stM] at h
  | .ix i rk :: ts, .fro d :: ms, ρ, ρ', h => by
    unfold stM at h
    cases e : (ρ[i]?).bind SV.cont? with
    | none => rw [e] at h; cases h
    | some c =>
      rw [e] at h
      dsimp only at h
      cases e2 : rk ρ with
      | stuck => rw [e2] at h; cases h
      | exc c fs q => rw [e2] at h; cases h
      | ok k ρ1 =>
        rw [e2] at h
        dsimp only at h
        cases e3 : putAt dStL i k d ρ1 with
        | none => rw [e3] at h; cases h
        | some ρ2 => rw [e3] at h; rw [List.length_cons, List.length_cons, stM_len ts ms _ _ h]
def LGM (M : Md) (ts : List TgE) : TGs := fun vs σ H Q => ∃ fr G ρ p ms ρ', SR M { fr with T := tpT p fr.T } G H σ ρ ∧ PendR M G fr.T p vs ms ∧ stM ts ms ρ = some ρ' ∧ ∀ σ' G' H', SR M fr G' H' σ' ρ' → Sub G G' → Q σ' H'
def setAll : L2.St → List Nat → List V → L2.St
  | σ, i :: is, v :: vs => setAll (σ.set i (some v)) is vs
  | σ, _, _ => σ
section
variable {M : Md} {fr : Fr} {G H : Hp} {σ : L2.St} {ρ ρ' : Rho}
/-- one name -/
theorem SR.bindOne {p : List (Addr × HO)} {v : V} {vs : List V} {m : MV} {ms : List MV} {i : Nat} {ts : List TgE} (R : SR M { fr with T := tpT p fr.T } G H σ ρ) (P : PendR M G fr.T p (v :: vs) (m :: ms)) (h : stM (.nm i :: ts) (m :: ms) ρ = some ρ') :
    ∃ p' ρ1, SR M { fr with T := tpT p' fr.T } G H (σ.set i (some v)) ρ1 ∧ PendR M G fr.T p' vs ms ∧ stM ts ms ρ1 = some ρ' := by
  cases P with
  | fro r t =>
    unfold stM at h
    by_cases np : DL.notPar ρ i = true
    · rw [if_pos np] at h; exact ⟨p, _, R.setFro np r, t, h⟩
    · rw [if_neg np] at h; cases h
  | @own p a o d _ _ h1 h2 r t =>
    unfold stM at h
    by_cases np : DL.notPar ρ i = true
    · rw [if_pos np] at h
      have nt : tpT p fr.T a = none := by rw [tpT_off h2]; exact h1
      obtain ⟨R1, g, ho, hn⟩ := SR.untmp (fr := fr) (T := tpT p fr.T) nt R
      exact ⟨p, _, R1.setOwn np g nt hn ho r, t, h⟩
    · rw [if_neg np] at h; cases h
theorem SR.bindAll : ∀ (is : List Nat) {σ : L2.St} {ρ : Rho} {p : List (Addr × HO)} {vs : List V} {ms : List MV}, SR M { fr with T := tpT p fr.T } G H σ ρ → PendR M G fr.T p vs ms → stM (is.map .nm) ms ρ = some ρ' → SR M fr G H (setAll σ is vs) ρ'
  | [], σ, ρ, p, vs, ms, R, P, h => by
    cases ms with
    | nil =>
      cases P
      have h : some ρ = some ρ' := h
      cases h
      exact R
    | cons m ms => simp [stM] at h
  | i :: is, σ, ρ, p, vs, ms, R, P, h => by
    cases ms with
    | nil => simp [stM] at h
    | cons m ms =>
      cases vs with
      | nil => cases P
      | cons v vs =>
        obtain ⟨p', ρ1, R1, P1, h1⟩ := R.bindOne P h
        exact SR.bindAll is R1 P1 h1
end
section
variable {X : Cx} {M : Md} {E : XK} {e ei : Expr} {es : List Expr} {t : TgE} {ts : List TgE} {rk : DE} {i : Nat} {x : Str} {pos p p1 : Pos}
theorem gm_nil : PGs X [] (LGM M []) := PGs.of pgs_nil fun vs σ H Q ⟨fr, G, ρ, p, ms, ρ', R, P, h, q⟩ => by
  cases ms with
  | nil =>
    cases P
    have h : some ρ = some ρ' := h
    cases h
    exact ⟨rfl, q σ G H R Sub.refl⟩
  | cons m ms => simp [stM] at h
theorem gm_nm (hN : X.N.Nodup) (hi : X.N[i]? = some x) (hx : Loc X.env.scope x) (h2 : PGs X es (LGM M ts)) (hf : X.fn x = true ∨ X.env.scope.names.lookup x = some .local := by first | exact .inl rfl | exact .inr rfl | assumption)
    (hs : (assignEach (.Name x pos :: es) X.env).map (·.2) = assign (.Name x pos) X.env :: (assignEach es X.env).map (·.2) := by rfl) : PGs X (.Name x pos :: es) (LGM M (.nm i :: ts)) := by
  refine PGs.of (pgs_cons (pg_name hN hi hx hf) h2 hs) fun vs σ H Q ⟨fr, G, ρ, p, ms, ρ', R, P, h, q⟩ => ?_
  cases ms with
  | nil => simp [stM] at h
  | cons m ms =>
    cases vs with
    | nil => cases P
    | cons v vs =>
      obtain ⟨p', ρ1, R1, P1, h1⟩ := R.bindOne P h
      exact ⟨v, vs, rfl, fr, G, ρ1, p', ms, ρ', R1, P1, h1, q⟩
theorem gm_ix (hx : PE X (.Name x p) (tVar i)) (hi : PE X ei (LE M E0 rk)) (h2 : PGs X es (LGM M ts))
    (ha : ∀ v, assign (.Subscript (.Name x p) ei p1) X.env v = (do
      let ov ← holding [v] (eval (.Name x p) X.env)
      let iv ← holding [v, ov] (eval ei X.env)
      standAt p1
      holding [v, ov, iv] (setItem ov iv v)
      release [v, ov, iv] []) := by intro _; rfl)
    (hs : (assignEach (.Subscript (.Name x p) ei p1 :: es) X.env).map (·.2) = assign (.Subscript (.Name x p) ei p1) X.env :: (assignEach es X.env).map (·.2) := by rfl) : PGs X (.Subscript (.Name x p) ei p1 :: es) (LGM M (.ix i rk :: ts)) := by
  refine PGs.of (pgs_cons (pg_sub hx hi set_list ha) h2 hs) fun vs σ H Q ⟨fr, G, ρ, p, ms, ρ', R, P, h, q⟩ => ?_
  cases ms with
  | nil => simp [stM] at h
  | cons m ms =>
    cases P with
    | own h1 h2 r t => simp [stM] at h
    | @fro _ v d vs _ r t =>
      unfold stM at h
      cases e0 : ρ[i]? with
      | none => rw [e0] at h; cases h
      | some s =>
        rw [e0] at h
        simp only [Option.bind_some] at h
        cases e : s.cont? with
        | none => rw [e] at h; cases h
        | some c =>
          rw [e] at h
          dsimp only at h
          obtain ⟨a, o, hv, _⟩ := R.contAt e0 e
          refine ⟨v, vs, rfl, _, hv, _, G, ρ, R, ?_⟩
          cases e2 : rk ρ with
          | stuck => rw [e2] at h; cases h
          | exc c fs q => rw [e2] at h; cases h
          | ok k ρ1 =>
            rw [e2] at h
            dsimp only at h
            refine fun w G2 H2 R2 s2 r2 => ?_
            cases e3 : putAt dStL i k d ρ1 with
            | none => rw [e3] at h; cases h
            | some ρ2 =>
              rw [e3] at h
              simp only [Option.bind_some] at h
              obtain ⟨s', c', d', w1, w2, w3, w4⟩ := putAt_own e3
              subst w4
              obtain ⟨a', o', z1, z2, z3, z4, _⟩ := R2.contAt w1 w2
              rw [hv] at z1; cases z1
              exact st_list G2 H2 a o' w v c' k d d' _ R2.sub z3 z4 r2 (r.mono s2) w3 fun o'' ho'' => ⟨fr, G2, _, p, ms, ρ', R2.write w1 w2 hv ho'', t.mono s2, h, fun σ' G' H' R' s' => q σ' G' H' R' (s2.trans s')⟩
end
def sMul (ts : List TgE) (as : List (Bool × DE)) : DS := fun ρ => match mA as ρ with
  | .ok ms ρ1 => (match stM ts ms ρ1 with
    | some ρ2 => .nx ρ2
    | none => .stuck)
  | .exc c fs ρ1 => .exc c fs ρ1
  | .stuck => .stuck
section
variable {X : Cx} {M : Md} {E : XK} {a b c : Expr} {es ets : List Expr} {ts : List TgE} {as : List (Bool × DE)} {i j l : Nat} {x y z : Str} {px py pz pt pt2 pos : Pos} {kt k2 : _}
theorem ls_par2 (hc : X.calm = true) (hN : X.N.Nodup) (hi : X.N[i]? = some x) (hj : X.N[j]? = some y) (hij : i ≠ j)
    (hx : X.env.scope.names.lookup x = some .local) (hy : X.env.scope.names.lookup y = some .local) (ha : PA X [a, b] (LMA M E as))
    (hw : swappedStores [.Tuple [.Name x px, .Name y py] kt pt] (.Tuple [a, b] k2 pt2) X.env = pure (some [x, y]))
    (hs : swapsWithSole [.Tuple [.Name x px, .Name y py] kt pt] (.Tuple [a, b] k2 pt2) pos.line X.env = pure false := by rfl) :
    PS X (.Assign [.Tuple [.Name x px, .Name y py] kt pt] (.Tuple [a, b] k2 pt2) pos) (LS M E (sMul ([i, j].map .nm) as)) := by
  refine PS.of (ps_par hc hN hi hj hij hx hy ha hw hs) fun σ H D ⟨fr, G, ρ, R, q⟩ => ⟨fr, G, ρ, R, ?_⟩
  unfold sMul at q
  cases e1 : mA as ρ with
  | stuck => rw [e1] at q; exact q
  | exc c fs ρ' => rw [e1] at q; exact fun cls dx G' H' R' s' x => q cls dx σ G' H' R' s' x
  | ok ms ρ1 =>
    rw [e1] at q
    refine fun vs p G1 H1 R1 s1 P1 => ?_
    dsimp only at q
    cases e2 : stM ([i, j].map .nm) ms ρ1 with
    | none => rw [e2] at q; exact q.elim
    | some ρ2 =>
      rw [e2] at q
      have hl : vs.length = 2 := P1.len.trans (stM_len _ _ _ _ e2)
      match vs, hl with
      | [v, w], _ => exact ⟨v, w, rfl, q _ G1 H1 (SR.bindAll [i, j] R1 P1 e2) s1⟩
theorem ls_par3 (hc : X.calm = true) (hN : X.N.Nodup) (hi : X.N[i]? = some x) (hj : X.N[j]? = some y) (hl : X.N[l]? = some z) (hij : i ≠ j) (hil : i ≠ l) (hjl : j ≠ l)
    (hx : X.env.scope.names.lookup x = some .local) (hy : X.env.scope.names.lookup y = some .local) (hz : X.env.scope.names.lookup z = some .local) (ha : PA X [a, b, c] (LMA M E as))
    (hw : swappedStores [.Tuple [.Name x px, .Name y py, .Name z pz] kt pt] (.Tuple [a, b, c] k2 pt2) X.env = pure (some [x, y, z]))
    (hs : swapsWithSole [.Tuple [.Name x px, .Name y py, .Name z pz] kt pt] (.Tuple [a, b, c] k2 pt2) pos.line X.env = pure false := by rfl) :
    PS X (.Assign [.Tuple [.Name x px, .Name y py, .Name z pz] kt pt] (.Tuple [a, b, c] k2 pt2) pos) (LS M E (sMul ([i, j, l].map .nm) as)) := by
  refine PS.of (ps_par3 hc hN hi hj hl hij hil hjl hx hy hz ha hw hs) fun σ H D ⟨fr, G, ρ, R, q⟩ => ⟨fr, G, ρ, R, ?_⟩
  unfold sMul at q
  cases e1 : mA as ρ with
  | stuck => rw [e1] at q; exact q
  | exc c fs ρ' => rw [e1] at q; exact fun cls dx G' H' R' s' x => q cls dx σ G' H' R' s' x
  | ok ms ρ1 =>
    rw [e1] at q
    refine fun vs p G1 H1 R1 s1 P1 => ?_
    dsimp only at q
    cases e2 : stM ([i, j, l].map .nm) ms ρ1 with
    | none => rw [e2] at q; exact q.elim
    | some ρ2 =>
      rw [e2] at q
      have hl : vs.length = 3 := P1.len.trans (stM_len _ _ _ _ e2)
      match vs, hl with
      | [u, v, w], _ => exact ⟨u, v, w, rfl, q _ G1 H1 (SR.bindAll [i, j, l] R1 P1 e2) s1⟩
/-- any targets, by the tuple -/
theorem ls_mul {n : Nat} (hK : X.K = M.K) (hc : X.calm = true) (ha : PA X es (LMA M E as)) (hg : PGs X ets (LGM M ts)) (hl : ts.length = n)
    (hn : (assignEach ets X.env).length = n := by rfl) (hst : (assignEach ets X.env).findIdx? (·.1) = none := by rfl)
    (hs : swapsWithSole [.Tuple ets kt pt] (.Tuple es k2 pt2) pos.line X.env = pure false := by rfl) (hw : swappedStores [.Tuple ets kt pt] (.Tuple es k2 pt2) X.env = pure none := by rfl)
    (h1 : (assignEach [.Tuple ets kt pt] X.env).map (·.2) = [assign (.Tuple ets kt pt) X.env] := by rfl) (hz : as.length ≤ 1000 := by decide) :
    PS X (.Assign [.Tuple ets kt pt] (.Tuple es k2 pt2) pos) (LS M E (sMul ts as)) := by
  refine PS.of (ps_asg (pe_tup ha) (pg_tup (n := n) hc hg hn hst) hs hw h1) fun σ H D ⟨fr, G, ρ, R, q⟩ => ⟨fr, G, ρ, R, ?_⟩
  unfold sMul at q
  cases e1 : mA as ρ with
  | stuck => rw [e1] at q; exact q
  | exc c fs ρ' => rw [e1] at q; exact fun cls dx G' H' R' s' x => q cls dx σ G' H' R' s' x
  | ok ms ρ1 =>
    rw [e1] at q
    refine fun vs p G1 H1 R1 s1 P1 => ?_
    dsimp only at q
    cases e2 : stM ts ms ρ1 with
    | none => rw [e2] at q; exact q.elim
    | some ρ2 =>
      rw [e2] at q
      have hv : vs.length = n := by rw [P1.len, stM_len _ _ _ _ e2, hl]
      refine ⟨?_, fun t nt => ⟨t, vs, rfl, ?_, hv, ?_⟩⟩
      · rw [P1.len, mA_len as ρ e1, sizeLine_eq]; omega
      · exact .inl (.inl upd_same)
      · exact ⟨fr, G1, ρ1, p, ms, ρ2, R1.ext (Ext.junk R1.sub nt), P1, e2, fun σ' G' H' R' s' => q σ' G' H' R' (s1.trans s')⟩
/-- one value to one target -/
def LG1 (M : Md) (t : TgE) : TG := fun v σ H Q => ∃ fr G ρ d ρ', SR M fr G H σ ρ ∧ Rep M G v d ∧ stM [t] [.fro d] ρ = some ρ' ∧ ∀ σ' G' H', SR M fr G' H' σ' ρ' → Sub G G' → Q σ' H'
end
end DL

set_option Elab.async false
set_option linter.all false
set_option maxRecDepth 100000
set_option maxHeartbeats 400000
namespace DL
open PySem PySem.Spec PyProof.Rows L2

/-! ## built-in functions -/
def dLen : List D → Option D
  | [.lst l] => some (.int (l.length : Nat))
  | [.tup l] => some (.int (l.length : Nat))
  | [.scr l] => some (.int (l.length : Nat))
  | _ => none
def dAbs : List D → Option D
  | [.int i] => some (.int (if i < 0 then -i else i))
  | _ => none
def dInt : List D → Option D
  | [.int i] => some (.int i)
  | [.bl k] => some (.int (if k then 1 else 0))
  | _ => none
def dTuple : List D → Option D
  | [.lst l] => some (.tup l)
  | [.tup l] => some (.tup l)
  | _ => none
def dList : List D → Option D
  | [.lst l] => some (.lst l)
  | [.tup l] => some (.lst l)
  | _ => none
def dMax2 : List D → Option D
  | [.int i, .int j] => some (.int (if j > i then j else i))
  | _ => none
def dMin2 : List D → Option D
  | [.int i, .int j] => some (.int (if j < i then j else i))
  | _ => none
def D.isB : D → Bool | .bl _ => true | _ => false
def D.isT : D → Bool | .bl true => true | _ => false
def dAll : List D → Option D
  | [.lst l] => if l.all D.isB then some (.bl (l.all D.isT)) else none
  | _ => none
def dAny : List D → Option D
  | [.lst l] => if l.all D.isB then some (.bl (l.any D.isT)) else none
  | _ => none
section
variable {M : Md}
theorem cd_len : CD M (fun xs H Q => ∃ p ys, xs = [.ref p] ∧ (SqL M.K H p ys ∨ SqT M.K H p ys) ∧ Q (.int ys.length) H) dLen := by
  intro G H xs l d Q s r e k
  match l, e with
  | [.lst l], e =>
    simp only [dLen] at e; cases e
    cases r with | cons r1 r2 => cases r2; obtain ⟨p, ys, rfl, h, rr⟩ := r1.isLst s; exact ⟨p, ys, rfl, .inl (SqL.of h), by rw [rr.length]; exact k _ G H (Ext.refl s) (.int _)⟩
  | [.tup l], e =>
    simp only [dLen] at e; cases e
    cases r with | cons r1 r2 => cases r2; obtain ⟨p, ys, rfl, h, rr⟩ := r1.isTup s; exact ⟨p, ys, rfl, .inr h, by rw [rr.length]; exact k _ G H (Ext.refl s) (.int _)⟩
  | [.scr l], e =>
    simp only [dLen] at e; cases e
    cases r with | cons r1 r2 => cases r2; obtain ⟨p, rfl, h⟩ := r1.isScr s; exact ⟨p, _, rfl, .inl h, by rw [List.length_map]; exact k _ G H (Ext.refl s) (.int _)⟩
theorem cd_abs : CD M (fun xs H Q => ∃ i, xs = [.int i] ∧ Q (.int (if i < 0 then -i else i)) H) dAbs := by
  intro G H xs l d Q s r e k
  match l, e with
  | [.int i], e =>
    simp only [dAbs] at e; cases e
    cases r with | cons r1 r2 => cases r2; exact ⟨i, by rw [r1.isInt], k _ G H (Ext.refl s) (.int _)⟩
theorem cd_int : CD M (fun xs H Q => (∃ i, xs = [.int i] ∧ Q (.int i) H) ∨ ∃ k, xs = [.bl k] ∧ Q (.int (if k then 1 else 0)) H) dInt := by
  intro G H xs l d Q s r e k
  match l, e with
  | [.int i], e =>
    simp only [dInt] at e; cases e
    cases r with | cons r1 r2 => cases r2; exact .inl ⟨i, by rw [r1.isInt], k _ G H (Ext.refl s) (.int _)⟩
  | [.bl b], e =>
    simp only [dInt] at e; cases e
    cases r with | cons r1 r2 => cases r2; exact .inr ⟨b, by rw [r1.isBl], k _ G H (Ext.refl s) (.int _)⟩
theorem cd_tuple : CD M (fun xs H Q => ∃ p ys, xs = [.ref p] ∧ ((SqL M.K H p ys ∧ ∀ l, H l = none → Q (.ref l) (upd H l (.tup ys))) ∨ (SqT M.K H p ys ∧ Q (.ref p) H))) dTuple := by
  intro G H xs l d Q s r e k
  match l, e with
  | [.lst l], e =>
    simp only [dTuple] at e; cases e
    cases r with
    | cons r1 r2 =>
      cases r2; obtain ⟨p, ys, rfl, h, rr⟩ := r1.isLst s
      refine ⟨p, ys, rfl, .inl ⟨SqL.of h, fun q n => ?_⟩⟩
      have x := Ext.new (M := M) (o := .tup ys) s n
      exact k _ _ _ x (.here upd_same (.tup (rr.mono x.sub)))
  | [.tup l], e =>
    simp only [dTuple] at e; cases e
    cases r with
    | cons r1 r2 =>
      cases r2
      obtain ⟨p, ys, rfl, h, rr⟩ := r1.isTup s
      exact ⟨p, ys, rfl, .inr ⟨h, k _ G H (Ext.refl s) r1⟩⟩
theorem co_list : CO M (fun xs H Q => ∃ p ys, xs = [.ref p] ∧ (SqL M.K H p ys ∨ SqT M.K H p ys) ∧ ∀ l, H l = none → Q (.ref l) (upd H l (.lst ys))) dList := by
  intro G H xs l d Q s r e k
  match l, e with
  | [.lst l], e =>
    simp only [dList] at e; cases e
    cases r with | cons r1 r2 => cases r2; obtain ⟨p, ys, rfl, h, rr⟩ := r1.isLst s; exact ⟨p, ys, rfl, .inl (SqL.of h), fun q n => k q _ n (.lst rr)⟩
  | [.tup l], e =>
    simp only [dList] at e; cases e
    cases r with | cons r1 r2 => cases r2; obtain ⟨p, ys, rfl, h, rr⟩ := r1.isTup s; exact ⟨p, ys, rfl, .inr h, fun q n => k q _ n (.lst rr)⟩
theorem cd_max2 : CD M (fun xs H Q => ∃ i j, xs = [.int i, .int j] ∧ Q (.int (if j > i then j else i)) H) dMax2 := by
  intro G H xs l d Q s r e k
  match l, e with
  | [.int i, .int j], e =>
    simp only [dMax2] at e; cases e
    cases r with | cons r1 r2 => cases r2 with | cons r2 r3 => cases r3; exact ⟨i, j, by rw [r1.isInt, r2.isInt], k _ G H (Ext.refl s) (.int _)⟩
theorem cd_min2 : CD M (fun xs H Q => ∃ i j, xs = [.int i, .int j] ∧ Q (.int (if j < i then j else i)) H) dMin2 := by
  intro G H xs l d Q s r e k
  match l, e with
  | [.int i, .int j], e =>
    simp only [dMin2] at e; cases e
    cases r with | cons r1 r2 => cases r2 with | cons r2 r3 => cases r3; exact ⟨i, j, by rw [r1.isInt, r2.isInt], k _ G H (Ext.refl s) (.int _)⟩
end

/-! ### all, any of a list of truth values -/
def isBoolP : PyData → Bool | .bool _ => true | _ => false
def rAllP (K : PySem.W.Frag) (al : Bool) : List V → Hp → VK → Prop := fun xs H Q => ∃ p es, xs = [.ref p] ∧ Dp K H (.ref p) (.list es) ∧ es.all isBoolP = true ∧ Q (.bl (if al then es.all PyData.truthy else es.any PyData.truthy)) H
theorem bool_plain : ∀ {es : List PyData}, es.all isBoolP = true → PyData.plainAll es = true ∧ ∀ x ∈ es, x.fits63
  | [], _ => ⟨rfl, fun x hx => by simp at hx⟩
  | e :: es, h => by
    simp only [List.all_cons, Bool.and_eq_true] at h
    obtain ⟨h1, h2⟩ := bool_plain h.2
    cases e <;> first | (simp [isBoolP] at h; done) | skip
    refine ⟨by simp [PyData.plainAll, PyData.plain, h1], fun x hx => ?_⟩
    rcases List.mem_cons.mp hx with e | hx
    · subst e; simp [PyData.fits63]
    · exact h2 x hx
theorem reads_list {h : Heap} {l : Addr} {es : List PyData} {as : List Addr} (r : Reads h (.ref l) (.list es) as) : ∃ vs as', h.IsList l vs ∧ ReadsAll h vs.toList es as' := by
  cases r with
  | @list l o vs n xs as₁ h1 h2 h3 h4 => exact ⟨vs, as₁, ⟨o, h1, h2, n, h3⟩, h4⟩
theorem reads_tuple {h : Heap} {l : Addr} {es : List PyData} {as : List Addr} (r : Reads h (.ref l) (.tuple es) as) : ∃ vs as', h.IsTuple l vs ∧ ReadsAll h vs.toList es as' := by
  cases r with
  | tuple h1 h2 h3 h4 => exact ⟨_, _, ⟨_, h1, h2, _, h3⟩, h4⟩
section
variable {X : Cx}
theorem call_allP (hc : X.calm = true) : CallR X (.builtin "all") (rAllP X.K true) := by
  intro pins s σ H xs us Q I r h
  obtain ⟨p, es, rfl, hd, hb, q⟩ := h
  rw [Vals.ref1 r]
  obtain ⟨as, r1⟩ := Dp.reads I _ _ (.ref p) hd rfl
  obtain ⟨vs, as', hl, hr⟩ := reads_list r1
  obtain ⟨h1, h2⟩ := bool_plain hb
  refine PySem.W.all_list_data (I.ok.hd hc) hl hr h1 h2 fun h' tk k => ⟨.bl _, H, I.kept (t' := tk) k, rfl, q⟩
theorem call_anyP (hc : X.calm = true) : CallR X (.builtin "any") (rAllP X.K false) := by
  intro pins s σ H xs us Q I r h
  obtain ⟨p, es, rfl, hd, hb, q⟩ := h
  rw [Vals.ref1 r]
  obtain ⟨as, r1⟩ := Dp.reads I _ _ (.ref p) hd rfl
  obtain ⟨vs, as', hl, hr⟩ := reads_list r1
  obtain ⟨h1, h2⟩ := bool_plain hb
  refine PySem.W.any_list_data (I.ok.hd hc) hl hr h1 h2 fun h' tk k => ⟨.bl _, H, I.kept (t' := tk) k, rfl, q⟩
end
theorem pys_bools : ∀ {l : List D}, l.all D.isB = true → D.shs 39 l = true ∧ (D.pys l).all isBoolP = true ∧ (D.pys l).all PyData.truthy = l.all D.isT ∧ (D.pys l).any PyData.truthy = l.any D.isT
  | [], _ => ⟨rfl, rfl, rfl, rfl⟩
  | d :: l, h => by
    simp only [List.all_cons, Bool.and_eq_true] at h
    obtain ⟨h1, h2, h3, h4⟩ := pys_bools h.2
    cases d <;> first | (simp [D.isB] at h; done) | skip
    rename_i b
    refine ⟨by simp [D.shs, D.sh, h1], by simp [D.pys, D.py, isBoolP, h2], ?_, ?_⟩
    · simp only [D.pys, D.py, List.all_cons, h3]; cases b <;> rfl
    · simp only [D.pys, D.py, List.any_cons, h4]; cases b <;> rfl
section
variable {M : Md}
theorem cd_all : CD M (rAllP M.K true) dAll := by
  intro G H xs l d Q s r e k
  match l, e with
  | [.lst l], e =>
    simp only [dAll] at e
    by_cases h : l.all D.isB = true
    · rw [if_pos h] at e; cases e
      obtain ⟨h1, h2, h3, h4⟩ := pys_bools h
      cases r with
      | cons r1 r2 =>
        cases r2
        have hd := Rep.dp (d := .lst l) s 40 r1 (by simpa [D.sh] using h1)
        obtain ⟨p, ys, rfl, _⟩ := r1.isLst s
        refine ⟨p, D.pys l, rfl, hd, h2, ?_⟩
        rw [if_pos rfl, h3]; exact k _ G H (Ext.refl s) (.bl _)
    · rw [if_neg h] at e; cases e
theorem cd_any : CD M (rAllP M.K false) dAny := by
  intro G H xs l d Q s r e k
  match l, e with
  | [.lst l], e =>
    simp only [dAny] at e
    by_cases h : l.all D.isB = true
    · rw [if_pos h] at e; cases e
      obtain ⟨h1, h2, h3, h4⟩ := pys_bools h
      cases r with
      | cons r1 r2 =>
        cases r2
        have hd := Rep.dp (d := .lst l) s 40 r1 (by simpa [D.sh] using h1)
        obtain ⟨p, ys, rfl, _⟩ := r1.isLst s
        refine ⟨p, D.pys l, rfl, hd, h2, ?_⟩
        rw [if_neg (by decide), h4]; exact k _ G H (Ext.refl s) (.bl _)
    · rw [if_neg h] at e; cases e
end

/-! ### isinstance, built-in classes -/
def D.ty : D → Option String
  | .non => some "NoneType" | .bl _ => some "bool" | .int _ => some "int" | .str _ => some "str"
  | .tup _ => some "tuple" | .lst _ => some "list" | .dct false _ => some "dict" | .dct true _ => none | .ref _ => none | .scr _ => none
def isTy (t : String) (c : String) : Bool := t == c || (t == "bool" && c == "int")
def dIsi (cs : List String) : D → Option D := fun d => d.ty.map fun t => .bl (cs.any fun c => isTy t c)
theorem Rep.tyX {M : Md} {G H : Hp} {v : V} {d : D} {t : String} (s : Sub G H) (r : Rep M G v d) (h : d.ty = some t) : TyX M.K H v (.type t) := by
  cases d with
  | non => cases h; rw [r.isNon]; exact .base .non
  | bl b => cases h; rw [r.isBl]; exact .base (.bl b)
  | int i => cases h; rw [r.isInt]; exact .base (.int i)
  | str x => cases h; rw [r.isStr]; exact .base (.str x)
  | ref a => cases h
  | scr l => cases h
  | lst l => cases h; obtain ⟨p, ys, rfl, e, _⟩ := r.isLst s; exact .base (.lst e)
  | tup l =>
    cases h
    obtain ⟨p, ys, rfl, e, _⟩ := r.isTup s
    rcases e with (e | ⟨o, e⟩) | ⟨o, its, n, e, c, _⟩
    · exact .base (.tup e)
    · exact .fTuple e
    · exact .kTuple e c
  | dct b l =>
    cases b with
    | true => cases h
    | false =>
      cases h
      cases r with
      | here e q => cases q with | dK q => exact .base (.dK (s _ _ e))
      | frz e q => cases q with | dK q => exact .fDict (s _ _ e)
section
variable {X : Cx} {M : Md} {E : XK} {e : Expr} {r : DE} {p pc pos : Pos} {c x : Str}
def okTys : List String := ["int", "bool", "str", "tuple", "list"]
def allTys : List String := ["NoneType", "bool", "int", "str", "tuple", "list", "dict"]
theorem kit_tab : ∀ t ∈ allTys, ∀ c ∈ okTys, kitB t c = some (isTy t c) := by decide +kernel
theorem ty_all : ∀ {d : D} {t : String}, d.ty = some t → t ∈ allTys := by
  intro d t h
  cases d with
  | dct b l => cases b <;> simp [D.ty] at h; subst h; decide
  | _ => simp [D.ty] at h <;> (subst h; decide)
theorem le_isi {n : String} (hK : X.K = M.K) (hg : Gl X "isinstance") (hm : X.mg "isinstance" = none) (hgc : Gl X c) (hmc : X.mg c = none) (hbc : bootBuiltins c = some (.type n)) (hn : n ∈ okTys) (he : PE X e (LE M E r))
    (hcn : c ≠ "__name__" := by decide) (hcd : (c == ("__debug__" : Str)) = false := by decide) (hs : starEach [e, .Name c pc] X.env = (false, eval e X.env) :: starEach [.Name c pc] X.env := by rfl)
    (hs2 : starEach [.Name c pc] X.env = (false, eval (.Name c pc) X.env) :: starEach [] X.env := by rfl) (hpl : (backTo pos (starEach [.Name c pc] X.env)).any (·.1) = false := by rfl) :
    PE X (.Call (.Name "isinstance" p) [e, .Name c pc] [] pos) (LE M E (eUn (dIsi [n]) r)) := by
  refine PE.of (pe_callB call_isi hg hm PyProof.Rows.boot_isinstance (pa_cons he (pa_cons (pe_bltn (v := .ty n) hgc hmc hbc rfl hcn hcd) pa_nil hs2) hs) (he := hs) (hpl := hpl)) fun σ H Q ⟨fr, G, ρ, R, q⟩ => ⟨fr, G, ρ, R, ?_⟩
  unfold eUn at q
  cases e1 : r ρ with
  | stuck => rw [e1] at q; exact q
  | exc c fs ρ' => rw [e1] at q; exact q
  | ok d ρ1 =>
    rw [e1] at q
    refine fun v G1 H1 R1 s1 r1 => ?_
    simp only [OE.bind, dIsi] at q
    cases e2 : d.ty with
    | none => rw [e2] at q; exact q.elim
    | some t =>
      rw [e2] at q
      refine ⟨v, .ty n, .type t, .type n, isTy t n, rfl, .ty n, by rw [hK]; exact r1.tyX R1.sub e2, kit_ty (kit_tab t (ty_all e2) n hn), ?_⟩
      have q := q (.bl (isTy t n)) G1 H1 R1 s1
      simp only [List.any_cons, List.any_nil, Bool.or_false] at q
      exact q (.bl _)
/-- isinstance(x, (T1, T2)) -/
theorem le_isi2 {n n2 : String} {c2 : Str} {pc2 pt : Pos} {kt} (hK : X.K = M.K) (hg : Gl X "isinstance") (hm : X.mg "isinstance" = none) (hgc : Gl X c) (hmc : X.mg c = none) (hbc : bootBuiltins c = some (.type n)) (hn : n ∈ okTys) (hgc2 : Gl X c2) (hmc2 : X.mg c2 = none) (hbc2 : bootBuiltins c2 = some (.type n2)) (hn2 : n2 ∈ okTys) (he : PE X e (LE M E r))
    (hcn : c ≠ "__name__" := by decide) (hcd : (c == ("__debug__" : Str)) = false := by decide) (hcn2 : c2 ≠ "__name__" := by decide) (hcd2 : (c2 == ("__debug__" : Str)) = false := by decide)
    (ht1 : starEach [.Name c pc, .Name c2 pc2] X.env = (false, eval (.Name c pc) X.env) :: starEach [.Name c2 pc2] X.env := by rfl) (ht2 : starEach [.Name c2 pc2] X.env = (false, eval (.Name c2 pc2) X.env) :: starEach [] X.env := by rfl)
    (hs : starEach [e, .Tuple [.Name c pc, .Name c2 pc2] kt pt] X.env = (false, eval e X.env) :: starEach [.Tuple [.Name c pc, .Name c2 pc2] kt pt] X.env := by rfl)
    (hs2 : starEach [.Tuple [.Name c pc, .Name c2 pc2] kt pt] X.env = (false, eval (.Tuple [.Name c pc, .Name c2 pc2] kt pt) X.env) :: starEach [] X.env := by rfl) (hpl : (backTo pos (starEach [.Tuple [.Name c pc, .Name c2 pc2] kt pt] X.env)).any (·.1) = false := by rfl) :
    PE X (.Call (.Name "isinstance" p) [e, .Tuple [.Name c pc, .Name c2 pc2] kt pt] [] pos) (LE M E (eUn (dIsi [n, n2]) r)) := by
  refine PE.of (pe_callB call_isiT hg hm PyProof.Rows.boot_isinstance (pa_cons he (pa_cons (pe_tup (pa_cons (pe_bltn (v := .ty n) hgc hmc hbc rfl hcn hcd) (pa_cons (pe_bltn (v := .ty n2) hgc2 hmc2 hbc2 rfl hcn2 hcd2) pa_nil ht2) ht1)) pa_nil hs2) hs) (he := hs) (hpl := hpl)) fun σ H Q ⟨fr, G, ρ, R, q⟩ => ⟨fr, G, ρ, R, ?_⟩
  unfold eUn at q
  cases e1 : r ρ with
  | stuck => rw [e1] at q; exact q
  | exc c fs ρ' => rw [e1] at q; exact q
  | ok d ρ1 =>
    rw [e1] at q
    refine fun v G1 H1 R1 s1 r1 => ?_
    simp only [OE.bind, dIsi] at q
    cases e2 : d.ty with
    | none => rw [e2] at q; exact q.elim
    | some t =>
      rw [e2] at q
      refine ⟨by show 2 ≤ sizeLine; rw [sizeLine_eq]; decide, fun tp nt => ?_⟩
      have x := Ext.junk (M := M) (o := .tup [.ty n, .ty n2]) R1.sub nt
      refine ⟨v, tp, [.ty n, .ty n2], .type t, [.type n, .type n2], isTy t n || isTy t n2, rfl, upd_same, .cons (.ty n) (.cons (.ty n2) .nil), by rw [hK]; exact r1.tyX x.is e2, ?_, ?_⟩
      · have k1 := kit_ty (K := X.K) (kit_tab t (ty_all e2) n hn)
        have k2 := kit_ty (K := X.K) (kit_tab t (ty_all e2) n2 hn2)
        simp only [PySem.W.kitAny, k1, k2]
        cases isTy t n <;> cases isTy t n2 <;> rfl
      · have q := q (.bl (isTy t n || isTy t n2)) G1 _ (R1.ext x) s1
        simp only [List.any_cons, List.any_nil, Bool.or_false] at q
        exact q (.bl _)
end
end DL

set_option Elab.async false
set_option linter.all false
set_option maxRecDepth 100000
set_option maxHeartbeats 400000
namespace DL
open PySem PySem.Spec PyProof.Rows L2

/-! ## x.index(y), x.count(y) -/
def rIdxP (K : PySem.W.Frag) (tp : Bool) : V → List V → Hp → VK → Prop := fun x xs H Q => ∃ (a : Addr) (y : V) (d : PyData) (es : List PyData) (j : Nat), x = .ref a ∧ xs = [y] ∧ Dp K H (.ref a) (if tp then .tuple es else .list es) ∧ Dp K H y d ∧ PyData.plainAll es = true ∧ d.plain = true ∧ d.depth ≤ 40 ∧
  SeqAt.dataPlace es d = some j ∧ Q (.int (j : Nat)) H
def rCntP (K : PySem.W.Frag) (tp : Bool) : V → List V → Hp → VK → Prop := fun x xs H Q => ∃ (a : Addr) (y : V) (d : PyData) (es : List PyData), x = .ref a ∧ xs = [y] ∧ Dp K H (.ref a) (if tp then .tuple es else .list es) ∧ Dp K H y d ∧ PyData.plainAll es = true ∧ d.plain = true ∧ d.depth ≤ 40 ∧
  Q (.int ((es.countP fun z => PyData.eqv z d : Nat) : Int)) H
section
variable {prog : Program} {w : World} {A : Around} {E : Value → Shared → Prop} {s : Shared} {l : Addr} {vs : Array Value} {xs : List PyData} {x : Value} {d : PyData} {as bs : List Addr} {Q : Value → Shared → Prop}
theorem index_list_plain {j : Nat} (hl : s.heap.IsList l vs) (rs : ReadsAll s.heap vs.toList xs as) (rx : Reads s.heap x d bs) (hxs : PyData.plainAll xs = true) (hd : d.plain = true) (hu : A.units + 1 + min (PyData.depthAll xs) d.depth < cLine)
    (hp : SeqAt.dataPlace xs d = some j) (hsz : vs.size ≤ sizeLine) (h : Q (.int (j : Nat) s.toks) { s with toks := s.toks + 1 }) : wpAny (model prog w) A (call (.builtin "list.index") [.ref l, x]) Q E s := by
  obtain ⟨⟨cls, dd, data, sl⟩, ho, hc, n, hd'⟩ := id hl
  simp only at hc hd'
  subst hc hd'
  obtain ⟨hj, hit, hno⟩ := SeqAt.hit_at rs hxs hp
  have it := SeqAt.items_plain (A := A) rs rx hxs hd hu
  rw [sizeLine_eq] at hsz
  refine call_meets F.slot_list_index ⟨_, ho, rfl⟩ F.entry_list_index (F.args_list_index_2 _ _)
    (PySem.SeqAt.list_index2_found l vs n dd sl x (fun j => if h : j < vs.size then PyData.eqv (SeqAt.readOf s.heap vs[j]) d else false) j hj (Nat.zero_le _) (by omega) (by simp only [dif_pos hj]; exact hit) fun m hm _ h2 => by simp only [dif_pos hm]; exact hno m hm h2) ⟨ho, fun k hk => ?_, h⟩
  simp only [dif_pos hk]
  exact it _ (Array.getElem_mem hk)
theorem index_tuple_plain {j : Nat} (hl : s.heap.IsTuple l vs) (rs : ReadsAll s.heap vs.toList xs as) (rx : Reads s.heap x d bs) (hxs : PyData.plainAll xs = true) (hd : d.plain = true) (hu : A.units + 1 + min (PyData.depthAll xs) d.depth < cLine)
    (hp : SeqAt.dataPlace xs d = some j) (h : Q (.int (j : Nat) s.toks) { s with toks := s.toks + 1 }) : wpAny (model prog w) A (call (.builtin "tuple.index") [.ref l, x]) Q E s := by
  obtain ⟨⟨cls, dd, data, sl⟩, ho, hc, n, hd'⟩ := id hl
  simp only at hc hd'
  subst hc hd'
  obtain ⟨hj, hit, hno⟩ := SeqAt.hit_at rs hxs hp
  have it := SeqAt.items_plain (A := A) rs rx hxs hd hu
  refine call_meets F.slot_tuple_index ⟨_, ho, rfl⟩ F.entry_tuple_index (F.args_tuple_index_2 _ _)
    (PySem.SeqAt.tuple_index2_found l vs n dd sl x (fun j => if h : j < vs.size then PyData.eqv (SeqAt.readOf s.heap vs[j]) d else false) j hj (Nat.zero_le _) hj (by simp only [dif_pos hj]; exact hit) fun m hm _ h2 => by simp only [dif_pos hm]; exact hno m hm h2) ⟨ho, fun k hk => ?_, h⟩
  simp only [dif_pos hk]
  exact it _ (Array.getElem_mem hk)
end
section
variable {X : Cx}
theorem reads_len {h : Heap} {vs : Array Value} {xs : List PyData} {as : List Addr} (r : ReadsAll h vs.toList xs as) : vs.size = xs.length := SeqAt.len_at r
theorem mt_indexP (hu : X.A.units + 64 < cLine) : MtR X "list.index" (rIdxP X.K false) := by
  intro pins s σ H x xs v us Q I rx rxs h
  obtain ⟨a, y, d, es, j, rfl, rfl, hl, hy, pe, pd, hz, hp, q⟩ := h
  cases rx
  cases rxs with
  | cons ry rt =>
    cases rt
    rw [if_neg (by decide)] at hl
    obtain ⟨bs, r1⟩ := Dp.reads I d y _ hy ry
    obtain ⟨as, r2⟩ := Dp.reads I _ _ (.ref a) hl rfl
    obtain ⟨vs, as', il, rs⟩ := reads_list r2
    have hsz : vs.size ≤ sizeLine := by
      cases hl with
      | lst hs ha =>
        obtain ⟨its, rv, pl, hlen⟩ := I.list hs
        obtain ⟨o1, h1, h2, n1, h3⟩ := il
        obtain ⟨o2, g1, g2, n2, g3⟩ := pl.isList
        rw [h1] at g1; cases g1
        rw [h3] at g3
        have e : vs = its.toArray := by injection g3
        rw [e, List.size_toArray]
        have := rv.length; rw [← this]; exact hlen
    exact index_list_plain il rs r1 pe pd (by have := Nat.min_le_right (PyData.depthAll es) d.depth; omega) hp hsz ⟨.int (j : Nat), H, I.tok _, ⟨_, rfl⟩, q⟩
theorem mt_indexTP (hu : X.A.units + 64 < cLine) : MtR X "tuple.index" (rIdxP X.K true) := by
  intro pins s σ H x xs v us Q I rx rxs h
  obtain ⟨a, y, d, es, j, rfl, rfl, hl, hy, pe, pd, hz, hp, q⟩ := h
  cases rx
  cases rxs with
  | cons ry rt =>
    cases rt
    rw [if_pos rfl] at hl
    obtain ⟨bs, r1⟩ := Dp.reads I d y _ hy ry
    obtain ⟨as, r2⟩ := Dp.reads I _ _ (.ref a) hl rfl
    obtain ⟨vs, as', il, rs⟩ := reads_tuple r2
    exact index_tuple_plain il rs r1 pe pd (by have := Nat.min_le_right (PyData.depthAll es) d.depth; omega) hp ⟨.int (j : Nat), H, I.tok _, ⟨_, rfl⟩, q⟩
theorem mt_countP (hu : X.A.units + 64 < cLine) : MtR X "list.count" (rCntP X.K false) := by
  intro pins s σ H x xs v us Q I rx rxs h
  obtain ⟨a, y, d, es, rfl, rfl, hl, hy, pe, pd, hz, q⟩ := h
  cases rx
  cases rxs with
  | cons ry rt =>
    cases rt
    rw [if_neg (by decide)] at hl
    obtain ⟨bs, r1⟩ := Dp.reads I d y _ hy ry
    obtain ⟨as, r2⟩ := Dp.reads I _ _ (.ref a) hl rfl
    obtain ⟨vs, as', il, rs⟩ := reads_list r2
    exact SeqAt.count_list_data il rs r1 pe pd (by have := Nat.min_le_right (PyData.depthAll es) d.depth; omega) ⟨.int _, H, I.tok _, ⟨_, rfl⟩, q⟩
theorem mt_countTP (hu : X.A.units + 64 < cLine) : MtR X "tuple.count" (rCntP X.K true) := by
  intro pins s σ H x xs v us Q I rx rxs h
  obtain ⟨a, y, d, es, rfl, rfl, hl, hy, pe, pd, hz, q⟩ := h
  cases rx
  cases rxs with
  | cons ry rt =>
    cases rt
    rw [if_pos rfl] at hl
    obtain ⟨bs, r1⟩ := Dp.reads I d y _ hy ry
    obtain ⟨as, r2⟩ := Dp.reads I _ _ (.ref a) hl rfl
    obtain ⟨vs, as', il, rs⟩ := reads_tuple r2
    exact SeqAt.count_tuple_data il rs r1 pe pd (by have := Nat.min_le_right (PyData.depthAll es) d.depth; omega) ⟨.int _, H, I.tok _, ⟨_, rfl⟩, q⟩
end
/-- a method by values -/
def MeD (M : Md) (r : V → List V → Hp → VK → Prop) (op : D → List D → Option D) : Prop := ∀ (G H : Hp) (v : V) (vs : List V) (x : D) (l : List D) (d : D) (Q : VK), Sub G H → Rep M G v x → Reps M G vs l → op x l = some d →
  (∀ v G' H', Ext M G H G' H' → Rep M G' v d → Q v H') → r v vs H Q
def plc (l : List D) (x : D) : Option Nat := l.findIdx? fun z => z.eqv x
def dIndex (tp : Bool) : D → List D → Option D
  | .lst l, [x] => if x.sh 39 && D.shs 39 l && !tp then (plc l x).map fun j => .int (j : Nat) else none
  | .tup l, [x] => if x.sh 39 && D.shs 39 l && tp then (plc l x).map fun j => .int (j : Nat) else none
  | _, _ => none
def dCount (tp : Bool) : D → List D → Option D
  | .lst l, [x] => if x.sh 39 && D.shs 39 l && !tp then some (.int ((l.countP fun z => z.eqv x : Nat) : Int)) else none
  | .tup l, [x] => if x.sh 39 && D.shs 39 l && tp then some (.int ((l.countP fun z => z.eqv x : Nat) : Int)) else none
  | _, _ => none
theorem plc_py (x : D) (hx : x.sh 39 = true) : ∀ l : List D, D.shs 39 l = true → SeqAt.dataPlace (D.pys l) x.py = plc l x
  | [], _ => rfl
  | d :: l, h => by
    simp only [D.shs, Bool.and_eq_true] at h
    have ih := plc_py x hx l h.2
    unfold SeqAt.dataPlace plc at ih ⊢
    simp only [D.pys, List.findIdx?_cons]
    rw [D.eqv_py d x 39 39 h.1 hx, ih]
theorem cnt_py (x : D) (hx : x.sh 39 = true) : ∀ l : List D, D.shs 39 l = true → ((D.pys l).countP fun z => PyData.eqv z x.py) = l.countP fun z => z.eqv x
  | [], _ => rfl
  | d :: l, h => by
    simp only [D.shs, Bool.and_eq_true] at h
    have ih := cnt_py x hx l h.2
    simp only [D.pys, List.countP_cons]
    rw [D.eqv_py d x 39 39 h.1 hx, ih]
section
variable {M : Md}
theorem sh40 {x : D} (h : x.sh 39 = true) : x.py.plain = true ∧ x.py.depth ≤ 40 := by
  obtain ⟨h1, h2⟩ := D.sh_plain x 39 h
  exact ⟨h1, by omega⟩
theorem me_index (tp : Bool) : MeD M (rIdxP M.K tp) (dIndex tp) := by
  intro G H v vs x l d Q s rx rl e k
  obtain ⟨m, y, hx, hl⟩ : ∃ m y, (x = .lst m ∧ tp = false ∨ x = .tup m ∧ tp = true) ∧ l = [y] := by
    cases x <;> first | (simp [dIndex] at e; done) | skip
    all_goals
      match l, e with
      | [y], e =>
        simp only [dIndex] at e
        cases tp <;> first | exact ⟨_, _, .inl ⟨rfl, rfl⟩, rfl⟩ | exact ⟨_, _, .inr ⟨rfl, rfl⟩, rfl⟩ | (simp at e; done)
  subst hl
  cases rl with
  | cons r1 r2 =>
    cases r2
    have key : y.sh 39 = true ∧ D.shs 39 m = true ∧ ((plc m y).map fun j => D.int (j : Nat)) = some d := by
      rcases hx with ⟨rfl, rfl⟩ | ⟨rfl, rfl⟩
      · simp only [dIndex, Bool.not_false, Bool.and_true] at e
        by_cases h : (y.sh 39 && D.shs 39 m) = true
        · rw [if_pos h] at e; rw [Bool.and_eq_true] at h; exact ⟨h.1, h.2, e⟩
        · rw [if_neg h] at e; cases e
      · simp only [dIndex, Bool.and_true] at e
        by_cases h : (y.sh 39 && D.shs 39 m) = true
        · rw [if_pos h] at e; rw [Bool.and_eq_true] at h; exact ⟨h.1, h.2, e⟩
        · rw [if_neg h] at e; cases e
    obtain ⟨h1, h2, h3⟩ := key
    cases e2 : plc m y with
    | none => rw [e2] at h3; cases h3
    | some j =>
      rw [e2] at h3; cases h3
      obtain ⟨p1, p2⟩ := sh40 h1
      have pl := (D.shs_plain m 39 h2).1
      rcases hx with ⟨rfl, rfl⟩ | ⟨rfl, rfl⟩
      · have hd := Rep.dp (d := .lst m) s 40 rx (by simpa [D.sh] using h2)
        obtain ⟨a, xs, rfl, _⟩ := rx.isLst s
        exact ⟨a, _, y.py, D.pys m, j, rfl, rfl, hd, r1.dp s 39 h1, pl, p1, p2, by rw [plc_py y h1 m h2]; exact e2, k _ G H (Ext.refl s) (.int _)⟩
      · have hd := Rep.dp (d := .tup m) s 40 rx (by simpa [D.sh] using h2)
        obtain ⟨a, xs, rfl, _⟩ := rx.isTup s
        exact ⟨a, _, y.py, D.pys m, j, rfl, rfl, hd, r1.dp s 39 h1, pl, p1, p2, by rw [plc_py y h1 m h2]; exact e2, k _ G H (Ext.refl s) (.int _)⟩
theorem me_count (tp : Bool) : MeD M (rCntP M.K tp) (dCount tp) := by
  intro G H v vs x l d Q s rx rl e k
  obtain ⟨m, y, hx, hl⟩ : ∃ m y, (x = .lst m ∧ tp = false ∨ x = .tup m ∧ tp = true) ∧ l = [y] := by
    cases x <;> first | (simp [dCount] at e; done) | skip
    all_goals
      match l, e with
      | [y], e =>
        simp only [dCount] at e
        cases tp <;> first | exact ⟨_, _, .inl ⟨rfl, rfl⟩, rfl⟩ | exact ⟨_, _, .inr ⟨rfl, rfl⟩, rfl⟩ | (simp at e; done)
  subst hl
  cases rl with
  | cons r1 r2 =>
    cases r2
    have key : y.sh 39 = true ∧ D.shs 39 m = true ∧ (some (D.int ((m.countP fun z => z.eqv y : Nat) : Int))) = some d := by
      rcases hx with ⟨rfl, rfl⟩ | ⟨rfl, rfl⟩
      · simp only [dCount, Bool.not_false, Bool.and_true] at e
        by_cases h : (y.sh 39 && D.shs 39 m) = true
        · rw [if_pos h] at e; rw [Bool.and_eq_true] at h; exact ⟨h.1, h.2, e⟩
        · rw [if_neg h] at e; cases e
      · simp only [dCount, Bool.and_true] at e
        by_cases h : (y.sh 39 && D.shs 39 m) = true
        · rw [if_pos h] at e; rw [Bool.and_eq_true] at h; exact ⟨h.1, h.2, e⟩
        · rw [if_neg h] at e; cases e
    obtain ⟨h1, h2, h3⟩ := key
    cases h3
    obtain ⟨p1, p2⟩ := sh40 h1
    have pl := (D.shs_plain m 39 h2).1
    rcases hx with ⟨rfl, rfl⟩ | ⟨rfl, rfl⟩
    · have hd := Rep.dp (d := .lst m) s 40 rx (by simpa [D.sh] using h2)
      obtain ⟨a, xs, rfl, _⟩ := rx.isLst s
      exact ⟨a, _, y.py, D.pys m, rfl, rfl, hd, r1.dp s 39 h1, pl, p1, p2, by rw [cnt_py y h1 m h2]; exact k _ G H (Ext.refl s) (.int _)⟩
    · have hd := Rep.dp (d := .tup m) s 40 rx (by simpa [D.sh] using h2)
      obtain ⟨a, xs, rfl, _⟩ := rx.isTup s
      exact ⟨a, _, y.py, D.pys m, rfl, rfl, hd, r1.dp s 39 h1, pl, p1, p2, by rw [cnt_py y h1 m h2]; exact k _ G H (Ext.refl s) (.int _)⟩
end
def D.isTp : D → Bool | .tup _ => true | _ => false
def eMe (kd : D → Bool) (op : D → List D → Option D) (r : DE) (rs : List DE) : DE := fun ρ => (r ρ).bind fun x ρ1 => if kd x then (aL rs ρ1).bind fun l ρ2 => .of (op x l) ρ2 else .stuck
section
variable {X : Cx} {M : Md} {E : XK} {o ea : Expr} {r ra : DE} {rs : List DE} {apos cpos : Pos}
theorem me_imp {q : V → List V → Hp → VK → Prop} {op : D → List D → Option D} {kd : D → Bool} {T : String} (hr : MeD M q op) (hT : ∀ G H v x, Sub G H → Rep M G v x → kd x = true → tyV M.K T v H) {σ : L2.St} {H : Hp} {Q : VK} (h : LE M E (eMe kd op r rs) σ H Q) (hK : X.K = M.K) :
    tBM X.K T q (LE M E r) (LA M E (aL rs)) σ H Q := by
  obtain ⟨fr, G, ρ, R, qq⟩ := h
  refine ⟨fr, G, ρ, R, ?_⟩
  unfold eMe at qq
  cases e1 : r ρ with
  | stuck => rw [e1] at qq; exact qq
  | exc c fs ρ' => rw [e1] at qq; exact qq
  | ok x ρ1 =>
    rw [e1] at qq
    refine fun v G1 H1 R1 s1 r1 => ?_
    simp only [OE.bind] at qq
    by_cases hk : kd x = true
    · rw [if_pos hk] at qq
      refine ⟨by rw [hK]; exact hT G1 H1 v x R1.sub r1 hk, fr, G1, ρ1, R1, ?_⟩
      cases e2 : aL rs ρ1 with
      | stuck => rw [e2] at qq; exact qq
      | exc c fs ρ' => rw [e2] at qq; exact XC.of s1 qq
      | ok l ρ2 =>
        rw [e2] at qq
        refine fun vs G2 H2 R2 s2 r2 => ?_
        simp only [OA.bind, OE.of] at qq
        cases e3 : op x l with
        | none => rw [e3] at qq; exact qq.elim
        | some d =>
          rw [e3] at qq
          exact hr G2 H2 v vs x l d Q R2.sub (r1.mono s2) r2 e3 fun z G3 H3 x3 r3 => qq z G3 H3 (R2.ext x3) ((s1.trans s2).trans x3.sub) r3
    · rw [if_neg hk] at qq; exact qq.elim
theorem tyFL (G H : Hp) (v : V) (x : D) (s : Sub G H) (r : Rep M G v x) (k : x.isL = true) : tyV M.K "list" v H := by
  cases x with
  | lst l => obtain ⟨a, xs, rfl, h, _⟩ := r.isLst s; exact .inl ⟨rfl, _, SqL.of h⟩
  | _ => cases k
theorem le_indexL (hK : X.K = M.K) (hu : X.A.units + 64 < cLine) (ho : PE X o (LE M E r)) (ha : PA X [ea] (LA M E (aL [ra]))) (hbase : attributeBase o "index" X.env (eval o X.env) = eval o X.env := by rfl) (hline : (apos.endLine == cpos.line) = true := by rfl) (hs : starEach [ea] X.env = (false, eval ea X.env) :: starEach [] X.env := by rfl)
    (hfew : ((backTo cpos (starEach [ea] X.env)).all (fun x => !x.1) && (backToKw cpos (keywordEach [] X.env)).all (fun x => x.1.isSome) && decide (([ea] : List Expr).length + ([] : List Keyword).length + (if ([] : List Keyword).isEmpty then 0 else 1) < 30)) = true := by rfl) :
    PE X (.Call (.Attribute o "index" apos) [ea] [] cpos) (LE M E (eMe D.isL (dIndex false) r [ra])) :=
  PE.of (pe_bm PySem.F.plainAttrs_list PySem.F.slot_list_index PySem.F.type_list_index (mt_indexP hu) ho ha (hbase := hbase) (hline := hline) (hs := hs) (hfew := hfew)) fun σ H Q q => by have z := me_imp (me_index false) tyFL q hK; rw [hK] at z ⊢; exact z
theorem le_countL (hK : X.K = M.K) (hu : X.A.units + 64 < cLine) (ho : PE X o (LE M E r)) (ha : PA X [ea] (LA M E (aL [ra]))) (hbase : attributeBase o "count" X.env (eval o X.env) = eval o X.env := by rfl) (hline : (apos.endLine == cpos.line) = true := by rfl) (hs : starEach [ea] X.env = (false, eval ea X.env) :: starEach [] X.env := by rfl)
    (hfew : ((backTo cpos (starEach [ea] X.env)).all (fun x => !x.1) && (backToKw cpos (keywordEach [] X.env)).all (fun x => x.1.isSome) && decide (([ea] : List Expr).length + ([] : List Keyword).length + (if ([] : List Keyword).isEmpty then 0 else 1) < 30)) = true := by rfl) :
    PE X (.Call (.Attribute o "count" apos) [ea] [] cpos) (LE M E (eMe D.isL (dCount false) r [ra])) :=
  PE.of (pe_bm PySem.F.plainAttrs_list PySem.F.slot_list_count PySem.F.type_list_count (mt_countP hu) ho ha (hbase := hbase) (hline := hline) (hs := hs) (hfew := hfew)) fun σ H Q q => by have z := me_imp (me_count false) tyFL q hK; rw [hK] at z ⊢; exact z
end
end DL

set_option Elab.async false
set_option linter.all false
set_option maxRecDepth 100000
set_option maxHeartbeats 400000
namespace DL
open PySem PySem.Spec PyProof.Rows L2

/-! ## own exceptions -/
section
variable {X : Cx}
/-- the end of C() without fields of its own -/
theorem mkN {pins : List (Addr × Obj)} {σ : L2.St} {J J2 : Hp} {hp hp2 h2 : Heap} {g1 g2 : Array GenState} {d1 d2 : Drawn} {t1 t2 : Nat} {os1 os2 : OsState} {a C : Addr} (I1 : Inv X pins σ J ⟨hp, g1, d1, t1, os1⟩)
    (ha : hp.objs.size ≤ a) (kk : ∀ b o, hp.get? b = some o → hp2.get? b = some o) (un : Un (frs X.stack) [] (upd J a (exo a C none)) J2 hp2 h2) (hok : HOk X.prog X.w J2 h2) (ho : os2 = os1) (hb : AllBare g2)
    (ea : J2 a = some (exo a C none)) :
    ∃ (t0 : Addr) (K : Heap), Inv X pins σ (del J2 a) ⟨K, g2, d2, t2, os2⟩ ∧ (∀ b o, K.get? b = some o → h2.get? b = some o) ∧ K.get? a = none ∧
      h2.get? a = some ({ cls := .ref C, dict := none, data := .fields #[.ref t0, .none, .none, .none, .bool false, .none] } : Obj) := by
  obtain ⟨t0, hoe⟩ := exo_at hok ea
  have jn : J a = none := I1.hok.fresh ha
  obtain ⟨K, k1, k2⟩ := restrict h2 fun b => decide (b ≠ a)
  have kn : ∀ b, b ≠ a → K.get? b = h2.get? b := fun b hb => k1 b (decide_eq_true hb)
  have ka : K.get? a = none := k2 a (by simp)
  have na : ∀ {b : Addr} {o : Obj}, hp.get? b = some o → b ≠ a := fun {b o} z => Nat.ne_of_lt (Nat.lt_of_lt_of_le (Heap.lt_size z) ha)
  have nu : ∀ {b : Addr}, b ≠ a → J b = none → upd J a (exo a C none) b = none := fun {b} hb n => by rw [upd_ne hb]; exact n
  have U : Un (frs X.stack) [] J (del J2 a) hp K := {
    keep := fun b o z n hf hx => (kn b (na z)).trans (un.keep b o (kk b o z) (nu (na z) n) hf hx)
    slot := fun b o z n hf hx => by
      obtain ⟨sl, q⟩ := un.slot b o (kk b o z) (nu (na z) n) hf hx
      exact ⟨sl, (kn b (na z)).trans q⟩
    free := fun b o z n hx => (del_ne (na z)).trans (un.free b o (kk b o z) (nu (na z) n) hx)
    there := fun b o z hx => by
      obtain ⟨u, q⟩ := un.there b o (kk b o z) hx
      exact ⟨u, (kn b (na z)).trans q⟩
    tups := fun b xs z => (del_ne (ne_of_none z jn)).trans (un.tups b xs ((upd_ne (ne_of_none z jn)).trans z))
    frzs := fun b o v z => (del_ne (ne_of_none z jn)).trans (un.frzs b o v ((upd_ne (ne_of_none z jn)).trans z))
    tbls := fun b ps z => by
      obtain ⟨m, q⟩ := un.tbls b ps ((upd_ne (ne_of_none z jn)).trans z)
      exact ⟨m, (del_ne (ne_of_none z jn)).trans q⟩ }
  have ok3 : HOk X.prog X.w (del J2 a) K := fun b o z => by
    have hba : b ≠ a := fun e => by rw [e, del_same] at z; cases z
    rw [del_ne hba] at z
    have noa : ∀ {c : Addr}, J2 c = some (.own b) → c ≠ a := fun {c} hc => at_ne ea hc exo_own
    refine (hok b o z).stay (fun c v hc y => ?_) (fun c hc => (del_ne (noa hc)).trans hc) (fun c xs hc => (del_ne (at_ne ea hc exo_tup)).trans hc)
    have hca : c ≠ a := hc.elim (fun e => e ▸ hba) fun e => noa e
    exact (kn c hca).trans y
  refine ⟨t0, K, I1.call' (ch := []) ho U ok3 hb (fun b z => absurd z (by simp)), fun b o z => ?_, ka, hoe⟩
  by_cases hba : b = a
  · rw [hba, ka] at z; cases z
  · exact (kn b hba).symm.trans z
/-- C(), C's __init__ keeping sp -/
def tMkN (C : Addr) (sp : Sp) : L2.St → Hp → XK → Prop := fun σ H Q => ∀ a, H a = none → sp [.ref a] (upd H a (exo a C none)) (fun v H2 => v = .non ∧ H2 a = some (exo a C none) ∧ Q (.ref C) none (del H2 a)) (fun _ _ _ => False)
theorem pmk_none {CX : CXT} {x : Str} {C fI : Addr} {k : Nat} {fd : FuncData} {ps : List Str} {sp : Sp} {p pos : Pos} (T : OexC X.K C) (iC : PySem.W.findIn X.K (.ref C) "__init__" = some (some (.ref fI))) (tI : PySem.W.typeIn X.K (.ref fI) = some (.type "function"))
    (F1 : FnOk X.prog X.w X.K X.mg X.base CX k fI fd ps sp) (hr : Room (k + 1) X.A) (hb : Binds X.K fd ps []) (hx : Passes CX X (fun _ _ _ => False)) (hg : Gl X x) (hm : X.mg x = some (.ref C))
    (hdb : (x == ("__debug__" : Str)) = false := by decide) : PMk X (.Call (.Name x p) [] [] pos) (tMkN C sp) := by
  intro pins s σ H Q I h
  obtain ⟨nm, q, N, bs, bm, sn, sub, ab, col, dd, k0, k1, k2, k3, k5, hC, hbm⟩ := T.cls
  refine wpAny_Call_Name_kw (ld_glob I hg hm ?_ hdb)
  refine PySem.W.callWith_K0 I.kIn T.kC ?_
  obtain ⟨hp, g, dr, tk, os⟩ := s
  have hsz : hp.objs.size ≤ hp.objs.size + 1 := Nat.le_succ _
  have hq := h (hp.objs.size + 1) (I.hok.fresh hsz)
  have kk : ∀ b o, hp.get? b = some o → ((hp.push (PySem.W.kdv_tup [])).push (PySem.HandSPX.excO C hp.objs.size)).get? b = some o := fun b o e => Heap.get?_push_of_some _ (Heap.get?_push_of_some _ e)
  have hget : ((hp.push (PySem.W.kdv_tup [])).push (PySem.HandSPX.excO C hp.objs.size)).get? (hp.objs.size + 1) = some (PySem.HandSPX.excO C hp.objs.size) := by heap_get
  have I2 : Inv X pins σ (upd H (hp.objs.size + 1) (exo (hp.objs.size + 1) C none)) ⟨(hp.push (PySem.W.kdv_tup [])).push (PySem.HandSPX.excO C hp.objs.size), g, dr, tk, os⟩ :=
    I.laid (t' := tk) (a := hp.objs.size + 1) (o := exo (hp.objs.size + 1) C none) kk hsz (exo_ok hget)
  have r2 : Vals [V.ref (hp.objs.size + 1)] [Value.ref (hp.objs.size + 1)] := .cons rfl .nil
  have hl : [Value.ref (hp.objs.size + 1)].length = ps.length := by
    have e := r2.length
    rw [F1.len _ _ _ _ hq] at e
    exact e.symm
  show wpAny _ _ (call (.ref C) []) _ _ _
  refine wpAny_call (PySem.HandSPX.call_own F.excBase_ValueError (fun Y => PySem.HandSPX.refsVE_contains Y bm hbm) (I.kIn _ _ hC) (PySem.W.looks_findIn I.kIn iC) (fun self => PySem.W.bind_fn I.kIn self tI) (by rw [sizeLine_eq]; decide)
    (codeAny_mono (F1.run _ X.stack _ _ ⟨[Value.ref (hp.objs.size + 1)], []⟩ [Value.ref (hp.objs.size + 1)] _ _ (fun _ _ _ => False) (hr.make C [] []) (I2.env0.make C [] []) (hb _ [Value.ref (hp.objs.size + 1)] I2.kIn hl) r2 hq) fun r s' hq' => ?_))
  cases r with
  | error er => exact hx pins σ _ _ er s' I2 hq'
  | ok fl =>
    cases fl with
    | next => exact False.elim hq'
    | brk => exact False.elim hq'
    | cont => exact False.elim hq'
    | ret u =>
      obtain ⟨v, H2, os2, bare2, un2, hok2, rv, ev, ea, q2⟩ := hq'
      subst ev
      obtain ⟨h2, g2, d2, t2, os'⟩ := s'
      obtain ⟨t0, G, J, kG, ge, hoe⟩ := mkN (d2 := d2) (t2 := t2) I hsz kk un2 hok2 os2 bare2 ea
      exact ⟨rv, _, _, _, ⟨G, g2, d2, t2, os'⟩, _, .ref C, none, rfl, J, kG, ge, hoe, ⟨rfl, rfl⟩, rfl, rfl, del_same, rfl, bare2, raises_own T.exC T.tyC, q2⟩
end
/-- what the top class's __init__ keeps -/
def spInit (K : PySem.W.Frag) : Sp := fun vs H Q _ => ∃ a C, vs = [.ref a] ∧ OexC K C ∧ H a = some (exo a C none) ∧ Q .non H
def sRaise (c : String) : DS := fun ρ => .exc c [] ρ
section
variable {X : Cx} {M : Md} {E : XK} {x : Str} {fI : Addr} {k : Nat} {fd : FuncData} {ps : List Str} {p pos pos' : Pos} {CX : CXT}
/-- raise C() -/
theorem ls_raise {c : String} (T : OexC X.K (M.Cn c)) (iC : PySem.W.findIn X.K (.ref (M.Cn c)) "__init__" = some (some (.ref fI))) (tI : PySem.W.typeIn X.K (.ref fI) = some (.type "function"))
    (F1 : FnOk X.prog X.w X.K X.mg X.base CX k fI fd ps (spInit X.K)) (hr : Room (k + 1) X.A) (hb : Binds X.K fd ps []) (hx : Passes CX X (fun _ _ _ => False)) (hg : Gl X x) (hm : X.mg x = some (.ref (M.Cn c))) (hc : X.calm = true) (tk : Takes X (fun c d _ H => E c d H))
    (hdb : (x == ("__debug__" : Str)) = false := by decide) : PS X (.Raise (some (.Call (.Name x p) [] [] pos)) none pos') (LS M E (sRaise c)) := by
  refine PS.of (ps_raise hc tk (pmk_none T iC tI F1 hr hb hx hg hm hdb)) fun σ H D ⟨fr, G, ρ, R, q⟩ => ?_
  refine fun a na => ⟨a, M.Cn c, rfl, T, upd_same, rfl, upd_same, ?_⟩
  have e : del (upd H a (exo a (M.Cn c) none)) a = H := by
    funext b
    by_cases hb : b = a
    · rw [hb, del_same, na]
    · rw [del_ne hb, upd_ne hb]
  rw [e]
  exact q _ none σ G H R Sub.refl ⟨rfl, rfl⟩
end

/-! ## a def that calls what it gets and tells the error -/
/-- isinstance(e, C), e in slot j the exception at a -/
def eIsE (j : Nat) (a : Addr) (b : Bool) : DE := fun ρ => match ρ[j]? with
  | some (.fro (.ref a')) => if a' = a then .ok (.bl b) ρ else .stuck
  | _ => .stuck
section
variable {X : Cx} {M : Md} {E : XK} {a D : Addr} {oe : Obj} {pn : List (Addr × Obj)} {j : Nat} {b : Bool} {v : V} {ex c : Str} {p p1 p2 pos : Pos}
theorem le_isE (C : ExcC X.K D) (hz : Zc (.ref D) none oe) (hf : ∃ vs, oe.data = .fields vs) (hg : Gl (X.suite a ((a, oe) :: pn)) "isinstance") (hm : X.mg "isinstance" = none) (he : PE (X.suite a ((a, oe) :: pn)) (.Name ex p1) (tVar j)) (hcl : PE (X.suite a ((a, oe) :: pn)) (.Name c p2) (tC v)) {cv : Value} (hcv : ∀ u, RelV v u → u = cv)
    (hk : PySem.W.kitOne X.K (.ref D) cv = some b) (hs : starEach [.Name ex p1, .Name c p2] (X.suite a ((a, oe) :: pn)).env = (false, eval (.Name ex p1) (X.suite a ((a, oe) :: pn)).env) :: starEach [.Name c p2] (X.suite a ((a, oe) :: pn)).env := by rfl)
    (hs2 : starEach [.Name c p2] (X.suite a ((a, oe) :: pn)).env = (false, eval (.Name c p2) (X.suite a ((a, oe) :: pn)).env) :: starEach [] (X.suite a ((a, oe) :: pn)).env := by rfl) (hpl : (backTo pos (starEach [.Name c p2] (X.suite a ((a, oe) :: pn)).env)).any (·.1) = false := by rfl) :
    PE (X.suite a ((a, oe) :: pn)) (.Call (.Name "isinstance" p) [.Name ex p1, .Name c p2] [] pos) (LE M E (eIsE j a b)) := by
  refine PE.of (pe_callB (call_isE C hz hf) hg hm PyProof.Rows.boot_isinstance (pa_cons he (pa_cons hcl pa_nil hs2) hs) (he := hs) (hpl := hpl)) fun σ H Q ⟨fr, G, ρ, R, q⟩ => ?_
  unfold eIsE at q
  cases e1 : ρ[j]? with
  | none => rw [e1] at q; exact q.elim
  | some s =>
    rw [e1] at q
    cases s <;> first | exact q.elim | skip
    rename_i d
    cases d <;> first | exact q.elim | skip
    rename_i a'
    dsimp only at q
    by_cases ha : a' = a
    · rw [if_pos ha] at q
      obtain ⟨y, h1, h2⟩ := R.slot j _ e1
      rw [h2.isFn, ha] at h1
      exact ⟨_, h1, v, cv, b, rfl, hcv, hk, q _ G H R Sub.refl (.bl b)⟩
    · rw [if_neg ha] at q; exact q.elim
end
/-- what such a def tells: r's value is dropped, its error told as wd says -/
def eLam (wd : String → XF → Option D) (ok : D) (r : DE) : DE := fun ρ => match r ρ with
  | .ok _ ρ' => .ok ok ρ'
  | .exc c fs ρ' => (match wd c fs with
    | some w => .ok w ρ'
    | none => .stuck)
  | .stuck => .stuck
def TTw (M : Md) (wd : String → XF → Option D) (okv : V) : (XK → Hp → VK → Prop) → Hp → VK → Prop := fun tl H Q =>
  (LamX.Tabs M.Tb H) ∧ tl (fun cls dx H' => ∃ G' c fs w, (Sub G' H' ∧ LamX.Tabs M.Tb H' ∧ NoTbl G') ∧ XRep M G' cls dx c fs ∧ wd c fs = some w ∧ ∀ v G2 H2, Ext M G' H' G2 H2 → Rep M G2 v w → Q v H2) H
    (fun _ H' => Q okv H')
section
variable {X : Cx} {M : Md} {E : XK} {r : DE} {wd : String → XF → Option D} {ok : D}
theorem lam_imp {okv : V} (hok : ∀ G, Rep M G okv ok) {σ : L2.St} {H : Hp} {Q : VK} (h : LE M E (eLam wd ok r) σ H Q) : LamX.tLam M.Tb (TTw M wd okv) (fun E' => LE M E' r) σ H Q := by
  obtain ⟨fr, G, ρ, R, q⟩ := h
  refine ⟨R.tabs, fun H1 hx ht => ⟨ht, ?_⟩⟩
  have x : Ext M G H G H1 := ⟨Sub.refl, hx, fun b o e => hx b o (R.sub b o e) fun ps z => R.nt b ps (z ▸ e), fun _ _ _ _ => rfl, id, fun _ => ht⟩
  refine ⟨fr, G, ρ, R.ext x, ?_⟩
  unfold eLam at q
  cases e1 : r ρ with
  | stuck => rw [e1] at q; exact q
  | ok d ρ' =>
    rw [e1] at q
    exact fun v G' H' R' s' _ => q okv G' H' R' s' (hok G')
  | exc c fs ρ' =>
    rw [e1] at q
    dsimp only at q
    cases e2 : wd c fs with
    | none => rw [e2] at q; exact q.elim
    | some w =>
      rw [e2] at q
      exact fun cls dx G' H' R' s' xr => ⟨G', c, fs, w, ⟨R'.sub, R'.tabs, R'.nt⟩, xr, e2, fun u G2 H2 x2 ru => q u G2 H2 (R'.ext x2) (s'.trans x2.sub) ru⟩
end
end DL

set_option Elab.async false
set_option linter.all false
set_option maxRecDepth 100000
set_option maxHeartbeats 400000
namespace DL
open PySem PySem.Spec PyProof.Rows L2

/-! ## the top class's __init__ -/
theorem init_ok {P : Program} {w : World} {K : PySem.W.Frag} {mg : Str → Option Value} {base : Heap} {qual : Str} {st : Stmt} {f : Addr} {fd : FuncData} (F : Fun K "__init__" qual st f fd) (S : FnScope ["self"] ["self"] (defScope st))
    (hb : ∀ (cdv : Value) (A : Around) (outer : List Env) (s : Shared) (H : Hp) (E : XK), PSs (cxOf (L2.CX P w) P w K mg base ["self"] qual (defScope st) f cdv A outer s H E) (defBody st) (tDrop (tVeI K (tCons (tVar 0) tNil)))) : FnOk P w K mg base (L2.CX P w) 1 f fd ["self"] (spInit K) := by
  refine F.okX S (fun vs H Q E h => ?_) (fun cdv A outer s H vs Q E hr h => ?_)
  · obtain ⟨a, C, rfl, _⟩ := h; rfl
  · obtain ⟨a, C, rfl, T, ha, q⟩ := h
    exact ⟨_, hb cdv A outer s H E, _, rfl, a, C, [], rfl, by decide, T, ha, q⟩

/-! ## the def that calls what it gets -/
theorem takes_len {X : Cx} {W : WX} (t : Takes X W) : Takes X (fun c d σ H => σ.length = X.N.length → W c d σ H) := fun u s' ⟨a, B, sI, pins, σ, H, cls, d, e, I, nb, up, sky, na, os, ag, w⟩ =>
  t u s' ⟨a, B, sI, pins, σ, H, cls, d, e, I, nb, up, sky, na, os, ag, w I.len⟩
theorem post_ext {M : Md} {G H G' H' : Hp} {ps : List D} (p : Post M G H G' H' [] ps) : Ext M G H G' H' := ⟨p.sub, fun b o e pl => (p.keep b o e pl (by simp)).1, p.is, fun b o e pl => by
    cases z : G b with
    | none => exact (p.keep b o e pl (by simp)).2 z
    | some u => exact p.sub b u z, fun _ => p.nt, fun _ => p.tabs⟩
theorem SR.bare {M : Md} {G H : Hp} {σ : L2.St} (s : Sub G H ∧ LamX.Tabs M.Tb H ∧ NoTbl G) : SR M (frOf G H [] []) G H σ (List.replicate σ.length .no) := by
  have R := SR.start (M := M) (N := σ.map fun _ => ("" : Str)) (vs := []) (as := []) (n := σ.length) s .nil List.nodup_nil (by simp) (Nat.zero_le _)
  have no : ∀ {i : Nat} {t : SV}, (List.replicate σ.length SV.no)[i]? = some t → t = .no := fun {i t} h => by
    rw [List.getElem?_replicate] at h
    split at h
    · exact (Option.some.inj h).symm
    · cases h
  have own : ∀ {i a}, ¬ OwnAt (List.replicate σ.length .no) σ i a := fun {i a} ⟨t, e1, e2, _⟩ => by rw [no e1] at e2; cases e2
  exact ⟨by simp, R.sub, fun i t e => by rw [no e]; trivial, fun i j a h => (own h).elim, R.base, fun a o e => ⟨(R.keep a o e).1, (R.keep a o e).2.1, fun i => own⟩, fun i a e => by simp [frOf, lentP] at e, fun i d e => (by cases no e), R.tabs, R.nt, R.ntT⟩
/-- the slots of its handler -/
def rhoH (n ie : Nat) (a : Addr) : Rho := (List.replicate n SV.no).set ie (.fro (.ref a))
abbrev cxH (X : Cx) (Ng : List Str) (x : Str) (sg : Scope) (g : Addr) (cdg : Value) (s : Shared) (H : Hp) : Cx := (cxOf C8.CX0 X.prog X.w X.K X.mg X.base Ng x sg g cdg X.A X.stack s H C8.E0).nox
section
variable {X : Cx} {M : Md} {Ng : List Str} {x a en word xw q : Str} {sg : Scope} {g CW : Addr} {cdg : Value} {iw ie j : Nat} {b0 : Stmt} {suite : List Stmt} {q1 q2 q3 p1 p2 p3 p4 p5 p6 r1 r2 : Pos} {cs : List String} {su : Addr → String → DS} {wd : String → XF → Option D}
/-- word = w0; try: a(); except E as e: suite; return word -/
theorem gives_A {w0 : Str} (hnd : Ng.Nodup) (h0 : ∀ f : Addr, (L2.start Ng [V.ref f])[0]? = some (some (V.ref f))) (hlen : ∀ f : Addr, (L2.start Ng [V.ref f]).length = Ng.length) (hw : Ng[iw]? = some word) (hiw : iw ≠ 0) (hie : ie < Ng.length) (hwe : iw ≠ ie) (hwl : sg.names.lookup word = some .local) (hvw : Vis sg word) (hdw : (word == ("__debug__" : Str)) = false) (hcw : (word == ("__classdict__" : Str)) = false)
    (he : Ng[ie]? = some en) (hel : sg.names.lookup en = some .local) (hge : sg.names.lookup xw = some .globalImplicit) (hme : X.mg xw = some (.ref CW)) (hdx : (xw == ("__debug__" : Str)) = false) (hkind : ∀ s H, (cxH X Ng x sg g cdg s H).env.kindOf en = some .local)
    (hwd : ∀ c fs w, wd c fs = some w → c ∈ cs ∧ fs = []) (hex : ∀ c ∈ cs, PySem.W.exmOne X.K (.ref (M.Cn c)) (.ref CW) = some true)
    (hsu : ∀ (s : Shared) (H : Hp), ∀ c ∈ cs, ∀ (a : Addr) (oe : Obj) (pn : List (Addr × Obj)), Zc (.ref (M.Cn c)) none oe → (∃ vs, oe.data = .fields vs) → PSs ((cxH X Ng x sg g cdg s H).suite a ((a, oe) :: pn)) (b0 :: suite) (LS M E0 (su a c)))
    (hres : ∀ (a : Addr), ∀ c ∈ cs, ∃ ρ' w, su a c (rhoH Ng.length ie a) = .nx ρ' ∧ wd c [] = some w ∧ ρ'[iw]? = some (.fro w))
    (hsw : ∀ s H, swapsWith (.Constant (.str w0) j q2) (some (.Name word q1)) q3.line (cxH X Ng x sg g cdg s H).env = pure false := by intro _ _; rfl)
    (hsx : ∀ s H pn xe, swapsWith (.Call (.Name a p1) [] [] p2) none p3.line ((cxH X Ng x sg g cdg s H).tr pn xe).env = pure false := by intro _ _ _ _; rfl) :
    LamX.GivesTo X Ng x sg g cdg [.Assign [.Name word q1] (.Constant (.str w0) j q2) q3, .Try [.Expr (.Call (.Name a p1) [] [] p2) p3] [.ExceptHandler (some (.Name xw p4)) (some en) (b0 :: suite) p5] [] [] p6, .Return (some (.Name word r1)) r2] a q (TTw M wd (V.str w0)) := by
  intro f c' s H Q tl act hc h
  obtain ⟨hT, h⟩ := h
  have ps1 := ps_set (X := cxH X Ng x sg g cdg s H) (i := iw) (x := word) (pos := q3) (pos' := q1) (e := .Constant (.str w0) j q2) (te := tC (.str w0)) hnd hw (.inl hwl) pe_str (hsw s H)
  refine ⟨_, pss_cons ps1
    (pss_cons (ps_try_as (X := cxH X Ng x sg g cdg s H) (i := ie) (c := .ref CW) (Wout := fun _ _ _ _ => False)
        (tb := fun W D σ H => ∃ Ech : XK, (∀ cls d σ' H', Ech cls d H' → σ'.length = Ng.length → W cls d σ' H') ∧ σ[0]? = some (some (.ref f)) ∧ H c' = some (LamX.CodeO c' q) ∧ tl Ech H (fun _ H1 => D.nx σ H1))
        (ts := fun a cls d D σ H => ∃ c, c ∈ cs ∧ cls = .ref (M.Cn c) ∧ d = none ∧ LS M E0 (su a c) D σ H)
        rfl rfl hnd he (hkind s H) ⟨hge, hdx, .inl hme⟩ LamX.takes0 (fun W pn xe tk _ => ?_) (fun a oe cls d pn hz hf => ?_))
      (pss_one (ps_ret (pe_var (i := iw) hw hvw hdw hcw)))), ?_⟩
  · refine ⟨fun pins s' σ H' D I h' => ?_⟩
    obtain ⟨Ech, hW, h1, h2, h3⟩ := h'
    have hp := act (fun c d σ H => σ.length = Ng.length → W c d σ H) pn xe Ech p1 p2 (takes_len tk) hW
    exact (pss_one (ps_expr (pos := p3) hp (hsx s H pn xe))).run pins s' σ H' D I ⟨h1, h2, h3⟩
  · refine ⟨fun pins s' σ H' D I h' => ?_⟩
    obtain ⟨c, hcs, rfl, rfl, h'⟩ := h'
    exact (hsu s H c hcs a oe pn hz hf).run pins s' σ H' D I h'
  · have hl0 := hlen f
    have hiw' : iw < (L2.start Ng [V.ref f]).length := by rw [hl0]; exact (List.getElem?_eq_some_iff.mp hw).1
    refine ⟨fun cls dx H' => ∃ G' c fs w, (Sub G' H' ∧ LamX.Tabs M.Tb H' ∧ NoTbl G') ∧ XRep M G' cls dx c fs ∧ wd c fs = some w ∧ ∀ v G2 H2, Ext M G' H' G2 H2 → Rep M G2 v w → Q v H2, ?_, ?_, hc, ?_⟩
    · rintro cls dx σ' H' ⟨G', c, fs, w, sb, xr, ew, k⟩ hl
      obtain ⟨hcs, rfl⟩ := hwd c fs w ew
      obtain ⟨rfl, rfl⟩ := xr
      refine ⟨true, hex c hcs, fun _ e na => ?_, fun z => nomatch z⟩
      refine ⟨c, hcs, rfl, rfl, frOf G' H' [] [], G', rhoH Ng.length ie e, ?_, ?_⟩
      · have R := SR.bare (σ := σ') sb
        rw [hl] at R
        exact R.setFro (i := ie) (by simp [DL.notPar, hie]) (.fn e)
      · obtain ⟨ρ', w', e1, e2, e3⟩ := hres e c hcs
        rw [e1]
        intro σ2 G2 H2 R2 s2
        rw [ew] at e2; cases e2
        obtain ⟨v, hv, rv⟩ := R2.slot iw _ e3
        have p := post_ext (R2.post (as := []) sb.1 rfl)
        exact ⟨v, by rw [List.getElem?_set_ne (Ne.symm hwe)]; exact hv, k v G2 H2 p rv⟩
    · rw [List.getElem?_set_ne hiw]; exact h0 f
    · refine cast ?_ h
      congr 1
      funext u H'
      apply propext
      have e := List.getElem?_set_self (a := some (V.str w0)) hiw'
      constructor
      · exact fun k => ⟨.str w0, e, k⟩
      · rintro ⟨v, h1, h2⟩
        have h1 : ((L2.start Ng [V.ref f]).set iw (some (.str w0)))[iw]? = some (some v) := h1
        rw [e] at h1; cases h1
        exact h2
end
end DL

set_option Elab.async false
set_option linter.all false
set_option maxRecDepth 100000
set_option maxHeartbeats 400000
namespace DL
open PySem PySem.Spec PyProof.Rows L2

/-! ## the built-in functions by name -/
section
variable {X : Cx} {M : Md} {E : XK} {a b : Expr} {r r2 : DE} {p pos : Pos}
theorem le_len (hK : X.K = M.K) (hm : X.mg "len" = none) (ha : PE X a (LE M E r)) (hg : Gl X "len" := by rfl) (he : starEach [a] X.env = (false, eval a X.env) :: starEach [] X.env := by rfl) (hpl : (backTo pos (starEach [] X.env)).any (·.1) = false := by rfl) :
    PE X (.Call (.Name "len" p) [a] [] pos) (LE M E (eB dLen [r])) := le_cb cd_len (by rw [← hK]; exact pe_callB call_len_seq hg hm PySem.boot_len (la_cons ha la_nil he) (he := he) (hpl := hpl))
theorem le_abs (hm : X.mg "abs" = none) (ha : PE X a (LE M E r)) (hg : Gl X "abs" := by rfl) (he : starEach [a] X.env = (false, eval a X.env) :: starEach [] X.env := by rfl) (hpl : (backTo pos (starEach [] X.env)).any (·.1) = false := by rfl) :
    PE X (.Call (.Name "abs" p) [a] [] pos) (LE M E (eB dAbs [r])) := le_cb cd_abs (pe_callB call_abs hg hm PyProof.Rows.boot_abs (la_cons ha la_nil he) (he := he) (hpl := hpl))
theorem le_int1 (hm : X.mg "int" = none) (ha : PE X a (LE M E r)) (hg : Gl X "int" := by rfl) (he : starEach [a] X.env = (false, eval a X.env) :: starEach [] X.env := by rfl) (hpl : (backTo pos (starEach [] X.env)).any (·.1) = false := by rfl) :
    PE X (.Call (.Name "int" p) [a] [] pos) (LE M E (eB dInt [r])) := le_cb cd_int (pe_callTy call_int1 hg hm PyProof.Rows.boot_int (la_cons ha la_nil he) (he := he) (hpl := hpl))
theorem le_tuple (hK : X.K = M.K) (hm : X.mg "tuple" = none) (ha : PE X a (LE M E r)) (hg : Gl X "tuple" := by rfl) (he : starEach [a] X.env = (false, eval a X.env) :: starEach [] X.env := by rfl) (hpl : (backTo pos (starEach [] X.env)).any (·.1) = false := by rfl) :
    PE X (.Call (.Name "tuple" p) [a] [] pos) (LE M E (eB dTuple [r])) := le_cb cd_tuple (by rw [← hK]; exact pe_callTy call_tuple_of hg hm PyProof.Rows.boot_tuple (la_cons ha la_nil he) (he := he) (hpl := hpl))
theorem lo_list (hK : X.K = M.K) (hm : X.mg "list" = none) (ha : PE X a (LE M E r)) (hg : Gl X "list" := by rfl) (he : starEach [a] X.env = (false, eval a X.env) :: starEach [] X.env := by rfl) (hpl : (backTo pos (starEach [] X.env)).any (·.1) = false := by rfl) :
    PE X (.Call (.Name "list" p) [a] [] pos) (LO M E (eB dList [r])) := lo_cb co_list (by rw [← hK]; exact pe_callTy call_list_of hg hm PyProof.Rows.boot_list (la_cons ha la_nil he) (he := he) (hpl := hpl))
theorem le_all (hK : X.K = M.K) (hc : X.calm = true) (hm : X.mg "all" = none) (ha : PE X a (LE M E r)) (hg : Gl X "all" := by rfl) (he : starEach [a] X.env = (false, eval a X.env) :: starEach [] X.env := by rfl) (hpl : (backTo pos (starEach [] X.env)).any (·.1) = false := by rfl) :
    PE X (.Call (.Name "all" p) [a] [] pos) (LE M E (eB dAll [r])) := le_cb cd_all (by rw [← hK]; exact pe_callB (call_allP hc) hg hm PyProof.Rows.boot_all (la_cons ha la_nil he) (he := he) (hpl := hpl))
theorem le_any (hK : X.K = M.K) (hc : X.calm = true) (hm : X.mg "any" = none) (ha : PE X a (LE M E r)) (hg : Gl X "any" := by rfl) (he : starEach [a] X.env = (false, eval a X.env) :: starEach [] X.env := by rfl) (hpl : (backTo pos (starEach [] X.env)).any (·.1) = false := by rfl) :
    PE X (.Call (.Name "any" p) [a] [] pos) (LE M E (eB dAny [r])) := le_cb cd_any (by rw [← hK]; exact pe_callB (call_anyP hc) hg hm PyProof.Rows.boot_any (la_cons ha la_nil he) (he := he) (hpl := hpl))
theorem le_max2 (hc : X.calm = true) (hm : X.mg "max" = none) (ha : PE X a (LE M E r)) (hb : PE X b (LE M E r2)) (hg : Gl X "max" := by rfl) (he : starEach [a, b] X.env = (false, eval a X.env) :: starEach [b] X.env := by rfl) (he2 : starEach [b] X.env = (false, eval b X.env) :: starEach [] X.env := by rfl) (hpl : (backTo pos (starEach [b] X.env)).any (·.1) = false := by rfl) :
    PE X (.Call (.Name "max" p) [a, b] [] pos) (LE M E (eB dMax2 [r, r2])) := le_cb cd_max2 (pe_callB (call_max2 hc) hg hm PyProof.Rows.boot_max (la_cons ha (la_cons hb la_nil he2) he) (he := he) (hpl := hpl))
theorem le_min2 (hc : X.calm = true) (hm : X.mg "min" = none) (ha : PE X a (LE M E r)) (hb : PE X b (LE M E r2)) (hg : Gl X "min" := by rfl) (he : starEach [a, b] X.env = (false, eval a X.env) :: starEach [b] X.env := by rfl) (he2 : starEach [b] X.env = (false, eval b X.env) :: starEach [] X.env := by rfl) (hpl : (backTo pos (starEach [b] X.env)).any (·.1) = false := by rfl) :
    PE X (.Call (.Name "min" p) [a, b] [] pos) (LE M E (eB dMin2 [r, r2])) := le_cb cd_min2 (pe_callB (call_min2 hc) hg hm PyProof.Rows.boot_min (la_cons ha (la_cons hb la_nil he2) he) (he := he) (hpl := hpl))
end

/-! ## {} -/
def eDict0 : DE := fun ρ => .ok (.dct false []) ρ
section
variable {X : Cx} {M : Md} {E : XK} {pos : Pos}
theorem lo_dict0 : PE X (.Dict [] [] pos) (LO M E eDict0) := PE.of pe_dnewK fun σ H Q ⟨fr, G, ρ, R, q⟩ => fun d hd => by
  obtain ⟨R3, n3⟩ := R.newAt (o := .dK []) hd (.dK .nil)
  exact q d G _ R3 Sub.refl n3
/-- a global -/
theorem le_glob {x : Str} {v : V} {u : Value} {d : D} {p : Pos} (hm : X.mg x = some u) (r : RelV v u) (hr : ∀ G, Rep M G v d) (hg : Gl X x := by rfl) (hd : (x == ("__debug__" : Str)) = false := by decide) : PE X (.Name x p) (LE M E (eC d)) := le_c (pe_glob hg hm r hd) hr
end

/-! ## len(set(xs)) -/
theorem dedup_mem {α : Type} [BEq α] [LawfulBEq α] {l m : List α} (h1 : ∀ x ∈ m, x ∈ l) (h2 : ∀ x ∈ l, x ∈ m) (hn : m.Nodup) : m.length = l.eraseDups.length := by
  have key : ∀ x, x ∈ m ↔ x ∈ l.eraseDups := fun x => by rw [List.mem_eraseDups]; exact ⟨h1 x, h2 x⟩
  have nd : ∀ l : List α, l.eraseDups.Nodup := by
    intro l
    induction h : l.length using Nat.strongRecOn generalizing l with
    | _ n ih =>
      cases l with
      | nil => simp
      | cons x l =>
        rw [List.eraseDups_cons]
        refine List.nodup_cons.mpr ⟨fun z => ?_, ?_⟩
        · rw [List.mem_eraseDups, List.mem_filter] at z
          simp at z
        · have hl : (l.filter fun b => !b == x).length < n := by
            have := List.length_filter_le (fun b => !b == x) l
            rw [List.length_cons] at h
            omega
          exact ih _ hl _ rfl
  exact ((List.perm_ext_iff_of_nodup hn (nd l)).mpr key).length_eq
def intsOf : D → Option (List Int)
  | .tup l => l.mapM fun d => match d with | .int i => some i | _ => none
  | _ => none
def dLenSet : D → Option D
  | .lst l => if decide (l.length < 64) then (l.mapM intsOf).map fun ks => .int (ks.eraseDups.length : Nat) else none
  | _ => none
def tLenSetT (K : PySem.W.Frag) (ta : TE) : TE := fun σ H Q => ta σ H fun x H1 => ∃ (l : Addr) (ks : List (Addr × List Int)), x = V.ref l ∧ SqL K H1 l (ks.map fun p => V.ref p.1) ∧ (∀ p ∈ ks, SqT K H1 p.1 (p.2.map V.int)) ∧ ks.length < 64 ∧
  ∀ m : List (List Int), (∀ k ∈ m, k ∈ ks.map (·.2)) → (∀ k ∈ ks.map (·.2), k ∈ m) → m.Nodup → Q (.int (m.length : Nat)) H1
theorem pe_lenSetT {X : Cx} {a : Expr} {ta : TE} {p p2 q pos : Pos} (hc : X.calm = true) (hu : X.A.units + 64 < cLine) (hm : X.mg "len" = none) (hm2 : X.mg "set" = none) (ha : PE X a ta) (hg : Gl X "len" := by rfl) (hg2 : Gl X "set" := by rfl)
    (na : starEach [a] X.env = (false, eval a X.env) :: starEach [] X.env := by rfl) : PE X (.Call (.Name "len" p) [.Call (.Name "set" p2) [a] [] q] [] pos) (tLenSetT X.K ta) := by
  refine ⟨fun pins s σ H Q I h => ?_⟩
  refine Call_ (ld_blt I hg hm PySem.boot_len ?_)
  refine PyProof.Rows.callWith_builtin1 (PyProof.Rows.args_cons ?_ rfl) rfl rfl
  refine Call_ (ld_blt I hg2 hm2 PyProof.Rows.boot_set ?_)
  refine PyProof.Rows.callWith_type1 (PyProof.Rows.args_cons (thn (ha.run pins s σ H _ I h) fun v s1 ⟨x, H1, I1, r1, q1⟩ => PyProof.Rows.args_nil ?_) na) na rfl
  obtain ⟨l, ks, rfl, hl, hk, hf, q1⟩ := q1
  cases r1
  obtain ⟨its, rv, pl, hz⟩ := I1.list hl
  refine call_set_tups (P := X.prog) (w := X.w) ks (I1.ok.hd hc) pl.isList (by simpa using refs_of_vals rv) (fun p hp => I1.isT (hk p hp)) hf (by omega) fun h' tk L es ep t R g kp => ?_
  refine PyProof.Rows.args_nil ?_
  obtain ⟨o, ho, hex, hd⟩ := R.ob
  have sz := SetTR.size (s := { s1 with heap := h', toks := tk }) R
  have ft := SetTR.fits (s := { s1 with heap := h', toks := tk }) R
  have I2 : Inv X pins σ H1 { s1 with heap := h', toks := tk } := I1.kept kp
  refine call_len_set ho hex hd ft (by rw [sz]; have := R.few; omega) ⟨.int (L.length : Nat), H1, I2.tok _, ⟨_, by rw [sz]⟩, ?_⟩
  have e : L.length = (L.map (·.2)).length := by rw [List.length_map]
  rw [e]
  refine q1 _ (fun k hk => ?_) (fun k hk => ?_) R.nd
  · obtain ⟨z, hz, rfl⟩ := List.mem_map.mp hk
    exact List.mem_map.mpr ⟨z, List.mem_of_mem_take (g.sub z hz), rfl⟩
  · obtain ⟨z, hz, rfl⟩ := List.mem_map.mp hk
    exact g.all z (by rw [List.take_length]; exact hz)
theorem mapM_ints {M : Md} {G H : Hp} (s : Sub G H) : ∀ {l : List D} {ks : List (List Int)} {vs : List V}, l.mapM intsOf = some ks → Reps M G vs l → ∃ ps : List (Addr × List Int), vs = ps.map (fun p => V.ref p.1) ∧ ps.map (·.2) = ks ∧ ∀ p ∈ ps, SqT M.K H p.1 (p.2.map V.int)
  | [], ks, vs, h, r => by
    simp at h; subst h; cases r
    exact ⟨[], rfl, rfl, fun p hp => by simp at hp⟩
  | d :: l, ks, vs, h, r => by
    cases r with
    | @cons v _ vs _ r1 r2 =>
      rw [List.mapM_cons] at h
      cases e1 : intsOf d with
      | none => rw [e1] at h; simp at h
      | some k =>
        rw [e1] at h
        cases e2 : l.mapM intsOf with
        | none => rw [e2] at h; simp at h
        | some ks' =>
          rw [e2] at h
          simp at h; subst h
          obtain ⟨ps, h1, h2, h3⟩ := mapM_ints s e2 r2
          obtain ⟨m, rfl⟩ : ∃ m, d = .tup m := by cases d <;> first | exact ⟨_, rfl⟩ | (simp [intsOf] at e1)
          obtain ⟨a, xs, rfl, hs, hr⟩ := r1.isTup s
          have hints : ∀ (m : List D) (k : List Int) (xs : List V), (m.mapM fun d => match d with | .int i => some i | _ => none) = some k → Reps M G xs m → xs = k.map V.int := by
            intro m
            induction m with
            | nil => intro k xs h r; simp at h; subst h; cases r; rfl
            | cons d m ih =>
              intro k xs h r
              rw [List.mapM_cons] at h
              cases d <;> first | (simp at h; done) | skip
              rename_i i
              cases e3 : (m.mapM fun d => match d with | .int i => some i | _ => none) with
              | none => rw [e3] at h; simp at h
              | some k' =>
                rw [e3] at h
                simp at h; subst h
                cases r with
                | cons q1 q2 => rw [q1.isInt, ih k' _ e3 q2]; rfl
          have ek := hints m k xs e1 hr
          refine ⟨(a, k) :: ps, by rw [h1]; rfl, by rw [← h2]; rfl, fun p hp => ?_⟩
          rcases List.mem_cons.mp hp with e | hp
          · rw [e, ← ek]; exact hs
          · exact h3 p hp
theorem le_lenSet {X : Cx} {M : Md} {E : XK} {a : Expr} {r : DE} {p p2 q pos : Pos} (hK : X.K = M.K) (hc : X.calm = true) (hu : X.A.units + 64 < cLine) (hm : X.mg "len" = none) (hm2 : X.mg "set" = none) (ha : PE X a (LE M E r)) (hg : Gl X "len" := by rfl) (hg2 : Gl X "set" := by rfl)
    (na : starEach [a] X.env = (false, eval a X.env) :: starEach [] X.env := by rfl) : PE X (.Call (.Name "len" p) [.Call (.Name "set" p2) [a] [] q] [] pos) (LE M E (eUn dLenSet r)) := by
  refine PE.of (pe_lenSetT hc hu hm hm2 ha hg hg2 na) fun σ H Q ⟨fr, G, ρ, R, q⟩ => ⟨fr, G, ρ, R, ?_⟩
  unfold eUn at q
  cases e1 : r ρ with
  | stuck => rw [e1] at q; exact q
  | exc c fs ρ' => rw [e1] at q; exact q
  | ok d ρ1 =>
    rw [e1] at q
    refine fun v G1 H1 R1 s1 r1 => ?_
    simp only [OE.bind] at q
    obtain ⟨l, rfl⟩ | hno : (∃ l, d = .lst l) ∨ dLenSet d = none := by cases d <;> first | exact .inl ⟨_, rfl⟩ | exact .inr rfl
    · simp only [dLenSet] at q
      by_cases hl : l.length < 64
      · rw [if_pos (by simpa using hl)] at q
        cases e2 : l.mapM intsOf with
        | none => rw [e2] at q; exact q.elim
        | some ks =>
          rw [e2] at q
          obtain ⟨b, xs, rfl, hx, rr⟩ := r1.isLst R1.sub
          obtain ⟨ps, h1, h2, h3⟩ := mapM_ints R1.sub e2 rr
          have hpl : ps.length = l.length := by rw [← rr.length, h1, List.length_map]
          refine ⟨b, ps, rfl, by rw [← h1]; exact SqL.of hx, by rw [hK]; exact h3, by omega, fun m m1 m2 nd => ?_⟩
          rw [h2] at m1 m2
          rw [dedup_mem m1 m2 nd]
          exact q _ G1 H1 R1 s1 (show Rep M G1 _ (D.int _) from .int _)
      · rw [if_neg (by simpa using hl)] at q; exact q.elim
    · rw [hno] at q; exact q.elim
end DL

set_option Elab.async false
set_option linter.all false
set_option maxRecDepth 100000
set_option maxHeartbeats 400000
namespace DL
open PySem PySem.Spec PyProof.Rows L2

/-! ## a def whose code object is known -/
structure FunC (K : PySem.W.Frag) (x qual : Str) (st : Stmt) (f : Addr) (fd : FuncData) (c : Addr) : Prop where
  ex : ∃ (oc : Value) (od : Option Addr) (kV doc pm : Value) (an : Option Addr) (ct : Value) (osl : Array (Option Value)),
    fd = PySem.W.fnOf x qual (defArgs st) (defBody st) (defScope st) .none kV doc pm an (.ref c) ct ∧ K.lookup f = some ⟨oc, od, .func fd, osl⟩ ∧ PySem.W.codeIn K (.ref c) qual = true
  kp : PySem.W.keepIn K (.ref f) = true
section
variable {P : Program} {w : World} {M : Md} {mg : Str → Option Value} {base : Heap}
theorem FunC.fun {K : PySem.W.Frag} {x qual : Str} {st : Stmt} {f : Addr} {fd : FuncData} {c : Addr} (F : FunC K x qual st f fd c) : Fun K x qual st f fd := by
  obtain ⟨oc, od, kV, doc, pm, an, ct, osl, e, lk, hcd⟩ := F.ex
  exact ⟨⟨oc, od, kV, doc, pm, an, .ref c, ct, osl, e, lk, hcd⟩, F.kp⟩
theorem fn_DC {x qual : Str} {st : Stmt} {f : Addr} {fd : FuncData} {c : Addr} {N ps : List Str} {k np n : Nat} {b : DS} (F : FunC M.K x qual st f fd c) (S : FnScope N ps (defScope st)) (hp : ps.length = np) (hn : N.length = n)
    (hb : ∀ (A : Around) (outer : List Env) (s : Shared) (H : Hp) (E : XK), Room k (A.deeper (envOfC qual (defScope st) s.heap.objs.size f (.ref c))) →
      PSs (cxOf (L2.CX P w) P w M.K mg base N qual (defScope st) f (.ref c) A outer s H E) (defBody st) (LS M E b)) : FnOk P w M.K mg base (L2.CX P w) (k + 1) f fd ps (spD M (runF np n b)) := by
  have hle : np ≤ n := by
    have := congrArg List.length S.pre
    rw [List.length_take] at this
    omega
  obtain ⟨oc, od, kV, doc, pm, an, ct, osl, rfl, lk, hcd⟩ := F.ex
  refine fn_of lk hcd S (fun vs H Q E h => ?_) (fun A outer s H vs Q E hr h => ?_)
  · obtain ⟨G, as, sb, r, nd, q⟩ := h
    rw [r.length, hp]
    unfold runF at q
    by_cases hl : as.length = np
    · exact hl
    · rw [if_neg hl] at q; exact q.elim
  · obtain ⟨G, as, sb, r, nd, q⟩ := h
    exact ⟨_, hb A outer s H E hr, fin_imp sb r nd hn hle q⟩
theorem fn_PC {x qual : Str} {st : Stmt} {f : Addr} {fd : FuncData} {c : Addr} {N ps : List Str} {k np n : Nat} {b : DS} (F : FunC M.K x qual st f fd c) (S : FnScope N ps (defScope st)) (hp : ps.length = np) (hn : N.length = n)
    (hb : ∀ (A : Around) (outer : List Env) (s : Shared) (H : Hp) (E : XK), Room k (A.deeper (envOfC qual (defScope st) s.heap.objs.size f (.ref c))) →
      PSs (cxOf (L2.CX P w) P w M.K mg base N qual (defScope st) f (.ref c) A outer s H E) (defBody st) (LS M E b)) : FnOk P w M.K mg base (L2.CX P w) (k + 1) f fd ps (spP M (runP np n b)) :=
  (fn_DC F S hp hn hb).imp fun _ _ _ _ h => sp_pure h

/-! ## a def that tells a new list -/
def spO (M : Md) (f : List D → OF) : Sp := fun vs H Q E => ∃ G l, (Sub G H ∧ LamX.Tabs M.Tb H ∧ NoTbl G) ∧ Reps M G vs l ∧ match f l with
  | .ret d _ => ∀ a o G' H', Ext M G H G' H' → G' a = none → (∀ u, H a = some u → ¬ Pl u) → H' a = some o → ORep M G' o d → Q (.ref a) H'
  | _ => False
/-- s; return r, r new -/
def runO (np n : Nat) (s : DS) (r : DE) (l : List D) : OF := if l.length = np then (match s (l.map .fro ++ List.replicate (n - np) .no) with
  | .nx ρ => (match r ρ with
    | .ok d _ => .ret d []
    | _ => .stuck)
  | _ => .stuck) else .stuck
theorem fn_O {x qual : Str} {st : Stmt} {f : Addr} {fd : FuncData} {N ps : List Str} {k np n : Nat} {b : DS} {r : DE} {s1 : Stmt} {e : Expr} {pos : Pos} (F : Fun M.K x qual st f fd) (S : FnScope N ps (defScope st)) (hp : ps.length = np) (hn : N.length = n) (hbd : defBody st = [s1, .Return (some e) pos])
    (hb : ∀ (cdv : Value) (A : Around) (outer : List Env) (s : Shared) (H : Hp) (E : XK), Room k (A.deeper (envOfC qual (defScope st) s.heap.objs.size f cdv)) →
      PS (cxOf (L2.CX P w) P w M.K mg base N qual (defScope st) f cdv A outer s H E) s1 (LS M E b))
    (he : ∀ (cdv : Value) (A : Around) (outer : List Env) (s : Shared) (H : Hp) (E : XK), Room k (A.deeper (envOfC qual (defScope st) s.heap.objs.size f cdv)) →
      PE (cxOf (L2.CX P w) P w M.K mg base N qual (defScope st) f cdv A outer s H E) e (LO M E r)) : FnOk P w M.K mg base (L2.CX P w) (k + 1) f fd ps (spO M (runO np n b r)) := by
  have hle : np ≤ n := by
    have := congrArg List.length S.pre
    rw [List.length_take] at this
    omega
  refine F.okX S (fun vs H Q E h => ?_) (fun cdv A outer s H vs Q E hr h => ?_)
  · obtain ⟨G, l, sb, rr, q⟩ := h
    rw [rr.length, hp]
    unfold runO at q
    by_cases hl : l.length = np
    · exact hl
    · rw [if_neg hl] at q; exact q.elim
  · obtain ⟨G, l, sb, rr, q⟩ := h
    unfold runO at q
    by_cases hl : l.length = np
    · rw [if_pos hl] at q
      rw [hbd]
      refine ⟨_, pss_cons (hb cdv A outer s H E hr) (pss_one (ps_ret (he cdv A outer s H E hr))), ?_⟩
      have ela := lentA_fro vs l
      have R0 := SR.start (M := M) (N := N) (n := n) sb (ArgsR.ofReps rr) (by rw [ela]; exact List.nodup_nil) hn (by rw [List.length_map]; omega)
      rw [List.length_map, hl] at R0
      have hv : vs.length = (l.map SV.fro).length := by rw [List.length_map]; exact rr.length
      refine ⟨_, G, _, R0, ?_⟩
      cases e1 : b (l.map .fro ++ List.replicate (n - np) .no) with
      | nx ρ1 =>
        rw [e1] at q
        dsimp only at q
        refine fun σ1 G1 H1 R1 s1 => ⟨_, G1, ρ1, R1, ?_⟩
        cases e2 : r ρ1 with
        | ok d ρ2 =>
          rw [e2] at q
          intro a G2 H2 R2 s2 n2
          obtain ⟨o, ho, hr2⟩ := n2.o
          have p := R2.post sb.1 hv
          rw [ela] at p
          refine q a o G2 H2 (post_ext p) n2.g (fun u hu pl => ?_) ho hr2
          have t := n2.t
          have t : (open Classical in if G a = none ∧ a ∉ lentA vs (l.map SV.fro) ∧ ∀ ps, H a ≠ some (.tbl ps) then H a else none) = none := t
          have ga : G a = none := by
            cases z : G a with
            | none => rfl
            | some y =>
              have := (s1.trans s2) a y z
              rw [n2.g] at this; cases this
          rw [if_pos ⟨ga, by rw [ela]; simp, fun ps z => by rw [hu] at z; cases z; exact pl ps rfl⟩, hu] at t
          cases t
        | exc c fs ρ2 => rw [e2] at q; exact q.elim
        | stuck => rw [e2] at q; exact q.elim
      | rt d ρ1 => rw [e1] at q; exact q.elim
      | bk ρ1 => rw [e1] at q; exact q.elim
      | ct ρ1 => rw [e1] at q; exact q.elim
      | exc c fs ρ1 => rw [e1] at q; exact q.elim
      | stuck => rw [e1] at q; exact q.elim
    · rw [if_neg hl] at q; exact q.elim
end
def eCallO (f : List D → OF) (rs : List DE) : DE := fun ρ => (aL rs ρ).bind fun l ρ1 => match f l with
  | .ret d _ => .ok d ρ1
  | _ => .stuck
section
variable {X : Cx} {M : Md} {E : XK} {e : Expr} {es : List Expr} {k : Nat} {f : Addr} {fd : FuncData} {ps : List Str} {g : List D → OF} {rs : List DE} {x : Str} {p pos : Pos}
theorem lo_call (tk : Takes X (fun c d _ H => E c d H)) (F : FnOk X.prog X.w X.K X.mg X.base (L2.CX X.prog X.w) k f fd ps (spO M g)) (hr : Room k X.A) (hg : Gl X x) (hm : X.mg x = some (.ref f)) (hk : PySem.W.keepIn X.K (.ref f) = true) (hb : Binds X.K fd ps [])
    (ha : PA X (e :: es) (LA M E (aL rs))) (hdb : (x == ("__debug__" : Str)) = false := by decide) (he : starEach (e :: es) X.env = (false, eval e X.env) :: starEach es X.env := by rfl) (hpl : (backTo pos (starEach es X.env)).any (·.1) = false := by rfl) :
    PE X (.Call (.Name x p) (e :: es) [] pos) (LO M E (eCallO g rs)) := by
  refine PE.of (pe_call F hr hg hm hk hb .nil (passes_call tk fun _ _ _ _ h => h) ha hdb he hpl) fun σ H Q ⟨fr, G, ρ, R, q⟩ => ⟨fr, G, ρ, R, ?_⟩
  unfold eCallO at q
  cases e1 : aL rs ρ with
  | stuck => rw [e1] at q; exact q
  | exc c fs ρ' => rw [e1] at q; exact q
  | ok l ρ1 =>
    rw [e1] at q
    refine fun vs G1 H1 R1 s1 r1 => ⟨G1, l, ⟨R1.sub, R1.tabs, R1.nt⟩, by rw [List.append_nil]; exact r1, ?_⟩
    simp only [OA.bind] at q
    cases e2 : g l with
    | stuck => rw [e2] at q; exact q
    | exc c fs ps => rw [e2] at q; exact q
    | ret d ps =>
      rw [e2] at q
      intro a o G' H' xx ga hna ho hr
      have R2 := R1.ext xx
      refine q a G' H' R2 (s1.trans xx.sub) ⟨ga, ?_, fun i hi => ?_, o, ho, hr⟩
      · cases z : fr.T a with
        | none => rfl
        | some u => exact (hna u (R1.keep a u z).1 fun ps e => R1.ntT a ps (e ▸ z)).elim
      · obtain ⟨_, _, u, _, _, _, _, z, zr⟩ := hi.slot R1
        exact hna u z zr.pl
end

/-! ## word(lambda: e) -/
section
variable {X : Cx} {M : Md} {E : XK} {r : DE} {wd : String → XF → Option D} {okv : V} {ok : D} {x a : Str} {st : Stmt} {g c P : Addr} {fd : FuncData} {k : Nat} {Ng : List Str} {params : Arguments} {body : Expr} {scope : Scope} {p lpos pos : Pos}
theorem le_lam (hK : X.K = M.K) (F : Fun X.K x x st g fd) (hm : X.mg x = some (.ref g)) (hb : L2.Binds X.K fd [a] []) (Sg : FnScope Ng [a] (defScope st)) (hNg : Ng[0]? = some a) (hva : Vis (defScope st) a)
    (hG : ∀ cdv, LamX.GivesTo X Ng x (defScope st) g cdv (defBody st) a (X.env.qual ++ "<lambda>") (TTw M wd okv)) (hok : ∀ G, Rep M G okv ok)
    (TB : LamX.TabB X.base X.mg c P) (hcode : X.env.code = .ref c) (hmT : (P, X.env.qual ++ "<lambda>") ∈ M.Tb) (hu : ∀ p ∈ M.Tb, p.1 = P → p.2 = X.env.qual ++ "<lambda>") (hr : Room (k + 2) X.A) (L : LamX.LamS X.env.scope scope)
    (hbody : ∀ (A : Around) (outer : List Env) (s : Shared) (H : Hp) (E : XK) (f c' : Addr), Room k (A.deeper (LamX.lamEnv X scope s.heap.objs.size f c')) → PE (LamX.lamCx X A outer s H E scope f c') body (LE M E r))
    (hg : Gl X x := by rfl) (hdef : defaultsOf params X.env = ([], []) := by rfl) (hbind : ∀ (q : Str) (cl : List (Str × Addr)) (pm cv ctv : Value), bindArgs (PySem.W.kla_fn "<lambda>" q params body scope cl pm cv ctv) ⟨[], []⟩ = pure [] := by intros; rfl)
    (hdb : (x == ("__debug__" : Str)) = false := by decide) (hd : (a == ("__debug__" : Str)) = false := by decide) (hcd : (a == ("__classdict__" : Str)) = false := by decide) : PE X (.Call (.Name x p) [.Lambda params body scope lpos] [] pos) (LE M E (eLam wd ok r)) := by
  obtain ⟨oc, od, kV, doc, pm, an, cdv, ct, osl, rfl, lk, hcd'⟩ := F.ex
  exact PE.of (LamX.pe_lamcall hg hm F.kp lk hcd' hb Sg hNg hva (hG cdv) TB hcode hmT hu hr L hdef hbind hbody hdb hd hcd) fun σ H Q q => lam_imp hok q
end
end DL

set_option Elab.async false
set_option linter.all false
set_option maxRecDepth 100000
set_option maxHeartbeats 400000
namespace DL
open PySem PySem.Spec PyProof.Rows L2

/-- one, other = e -/
def sUnp (p : Pat) (r : DE) : DS := fun ρ => (r ρ).st fun d ρ1 => match bindP p d ρ1 with
  | some ρ2 => .nx ρ2
  | none => .stuck
section
variable {X : Cx} {M : Md} {E : XK} {e tg : Expr} {r : DE} {p : Pat} {pos ps : Pos} {x : Str}
theorem ls_unp (he : PE X e (LE M E r)) (hg : PG X tg (LG M p)) (hs : swapsWithSole [tg] e pos.line X.env = pure false := by rfl) (hw : swappedStores [tg] e X.env = pure none := by rfl)
    (h1 : (assignEach [tg] X.env).map (·.2) = [assign tg X.env] := by rfl) : PS X (.Assign [tg] e pos) (LS M E (sUnp p r)) := by
  refine PS.of (ps_asg he hg hs hw h1) fun σ H D ⟨fr, G, ρ, R, q⟩ => ⟨fr, G, ρ, R, ?_⟩
  unfold sUnp at q
  cases e1 : r ρ with
  | stuck => rw [e1] at q; exact q
  | exc c fs ρ' => rw [e1] at q; exact fun cls dx G' H' R' s' x => q cls dx σ G' H' R' s' x
  | ok d ρ1 =>
    rw [e1] at q
    refine fun v G1 H1 R1 s1 r1 => ?_
    simp only [OE.st] at q
    cases e2 : bindP p d ρ1 with
    | none => rw [e2] at q; exact q.elim
    | some ρ2 =>
      rw [e2] at q
      exact ⟨fr, G1, ρ1, d, ρ2, R1, r1, e2, fun σ' R' _ => q σ' G1 H1 R' s1⟩
theorem le_globT {vs : List V} {ds : List D} (h : ∃ a, X.mg x = some (.ref a) ∧ SqT M.K (fun _ => none) a vs) (hr : ∀ G, Reps M G vs ds) (hg : Gl X x := by rfl) (hd : (x == ("__debug__" : Str)) = false := by decide) : PE X (.Name x ps) (LE M E (eC (.tup ds))) := by
  obtain ⟨a, h1, h2⟩ := h
  exact le_c (pe_glob (v := .ref a) hg h1 rfl hd) fun G => .conT h2 (hr G)
theorem le_globI {i : Int} (h : ∃ t, X.mg x = some (.int i t)) (hg : Gl X x := by rfl) (hd : (x == ("__debug__" : Str)) = false := by decide) : PE X (.Name x ps) (LE M E (eC (.int i))) := by
  obtain ⟨t, h1⟩ := h
  exact le_c (pe_glob (v := .int i) hg h1 ⟨t, rfl⟩ hd) fun G => .int i
end
theorem fn_stuck {P : Program} {w : World} {M : Md} {mg : Str → Option Value} {base : Heap} {x qual : Str} {st : Stmt} {f : Addr} {fd : FuncData} {N ps : List Str} {k : Nat} (F : Fun M.K x qual st f fd) (S : FnScope N ps (defScope st)) : FnOk P w M.K mg base (L2.CX P w) (k + 1) f fd ps (spP M fun _ => .stuck) :=
  F.okX S (fun vs H Q E ⟨_, _, _, _, q⟩ => q.elim) (fun _ _ _ _ _ _ _ _ _ ⟨_, _, _, _, q⟩ => q.elim)
end DL

set_option Elab.async false
set_option linter.all false
set_option maxRecDepth 100000
set_option maxHeartbeats 400000
namespace DL
open PySem PySem.Spec PyProof.Rows L2
/-- the head's walk, the top's own facts handed on -/
theorem walk_top {l : PySem.W.OpenLaw} {n k : Nat} {q : Program} {loose : List Str} {XP : (Str → Option Value) → Heap → Prop} {YP : World → Heap → Prop} {d : DefRec} {K : Params → PySem.W.Frag} {CX : World → CXT} {x : Str}
    (hn : l.most = some n) (hn2 : n ≤ sizeLine) (hdf : d.params.defaults = []) (hr : Room k callerA) (hY : ∀ (w : World) (h : Heap), YP w h → (K w.params).In h)
    (F : ∀ (w : World) (mg : Str → Option Value) (fa : Addr) (h : Heap), (∃ lo me mb, Top q lo me mg mb h) → YP w h → (K w.params).In h → h.Ns mainGlobals mg → mg d.name = some (.ref fa) → LamX.LawAtS l w (K w.params) (CX w) k n x mg fa h)
    (hCX : ∀ (w : World) (H : Hp) (s : Shared) (e : Value) (s' : Shared), CX w [] H s (fun _ _ _ => False) e s' → False) :
    PySem.W.WalkO q loose XP YP l.row.toRowW d [] (fun f vs => PySem.call f vs) := by
  refine Att.attach_callB hn hdf fun w s₀ s₁ mg mb fa o pm cd doc a vs ns G Y ho hd hcd hmg hobj hints hlen hbits hg => ?_
  obtain ⟨fd, cs, sp, t1, t2, t3, hb, hsp, hF⟩ := F w mg fa _ ⟨_, _, _, G.T⟩ Y (hY w _ Y) G.T.g hmg
  exact LamX.law_callTs (hY w _ Y) G.T.g G.T.b G.T.builtins G.T.nolimit hg t1 t2 t3 G.T.bmain hobj hints (Nat.le_trans hlen hn2) hr hF hb (fun H hH hS => hsp H a ns hlen hbits hH hS) fun H e s' => hCX w H s₁ e s'
/-- the script, handed to the law -/
theorem sp_script {M : Md} {f : List D → OF} {H : Hp} {a : Addr} {ns : List Int} {ps : List D} (t : LamX.Tabs M.Tb H) (hS : SqL M.K H a (ns.map V.int)) (e : f [.scr ns] = .ret (.bl true) ps) : spP M f [.ref a] H (fun v _ => v = .bl true) (fun _ _ _ => False) := by
  refine ⟨fun b => open Classical in if b = a ∧ ∀ ps, H a ≠ some (.tbl ps) then H a else none, [.scr ns], ⟨fun b o h => ?_, t, fun b ps h => ?_⟩, .cons (.scr ?_) .nil, ?_⟩
  · by_cases hb : b = a ∧ ∀ ps, H a ≠ some (.tbl ps)
    · have h : H a = some o := by simpa [hb] using h
      rw [hb.1]; exact h
    · have h : (none : Option HO) = some o := by rw [← h]; exact (if_neg hb).symm
      cases h
  · by_cases hb : b = a ∧ ∀ ps, H a ≠ some (.tbl ps)
    · have h : H a = some (.tbl ps) := by rw [← h]; exact (if_pos hb).symm
      exact hb.2 ps h
    · have h : (none : Option HO) = some (.tbl ps) := by rw [← h]; exact (if_neg hb).symm
      cases h
  · rcases hS with (z | ⟨o, z⟩) | z
    · exact .inl (.inl (by rw [← z]; exact if_pos ⟨rfl, fun ps q => by rw [z] at q; cases q⟩))
    · exact .inl (.inr ⟨o, by rw [← z]; exact if_pos ⟨rfl, fun ps q => by rw [z] at q; cases q⟩⟩)
    · exact .inr z
  · rw [e]
    exact fun v G' H' x r => r.isBl
theorem kc_of {K : PySem.W.Frag} {t : Value} {C : Addr} {b : Bool} (i : PySem.W.isClsIn K C = true) (ty : PySem.W.typeIn K (.ref C) = some (.type "type")) (s : PySem.W.subIn K t (.ref C) = some b) : PySem.W.kitCls K t (.ref C) = some b := by
  have h : ((PySem.W.clsIn K C).isSome && PySem.W.typeIn K (.ref C) == some (.type "type")) = true := by
    rw [ty]
    unfold PySem.W.isClsIn at i
    rw [i]; decide
  unfold PySem.W.kitCls
  exact (if_pos h).trans s
theorem xm_of {K : PySem.W.Frag} {t : Value} {C : Addr} {b : Bool} (i : PySem.W.isClsIn K C = true) (ty : PySem.W.typeIn K (.ref C) = some (.type "type")) (e : PySem.W.subIn K (.ref C) (.type "BaseException") = some true) (s : PySem.W.subIn K t (.ref C) = some b) : PySem.W.exmOne K t (.ref C) = some b := by
  unfold PySem.W.exmOne
  rw [e]
  exact (if_pos (by decide)).trans (kc_of i ty s)
theorem ki_same {K : PySem.W.Frag} {C : Addr} : PySem.W.kitOne K (.ref C) (.ref C) = some true := if_pos (by simp)
theorem ki_of {K : PySem.W.Frag} {A C : Addr} {b : Bool} (n : A ≠ C) (i : PySem.W.isClsIn K C = true) (ty : PySem.W.typeIn K (.ref C) = some (.type "type")) (s : PySem.W.subIn K (.ref A) (.ref C) = some b) : PySem.W.kitOne K (.ref A) (.ref C) = some b := by
  unfold PySem.W.kitOne
  rw [if_neg (by simpa using n)]
  exact kc_of i ty s
theorem ki_VE {K : PySem.W.Frag} {A : Addr} (s : PySem.W.subIn K (.ref A) (.type "ValueError") = some true) : PySem.W.kitOne K (.ref A) (.type "ValueError") = some true := by
  have m : PySem.W.kitMeta "ValueError" = true := by decide +kernel
  have k : PySem.W.kitCls K (.ref A) (.type "ValueError") = some true := by
    unfold PySem.W.kitCls
    dsimp only
    rw [if_pos m]; exact s
  unfold PySem.W.kitOne
  rw [if_neg (by simp)]
  exact k
theorem tab_in {K : PySem.W.Frag} {x : Str} {f c P : Addr} {o1 o2 : Value} {d1 d2 : Option Addr} {fd : FuncData} {s1 s2 : Array (Option Value)} {vs : Array Value} (a : PySem.W.nsIn K mainGlobals x = some (some (.ref f))) (l : K.lookup f = some ⟨o1, d1, .func fd, s1⟩) (hc : fd.code = .ref c) (lk : K.lookup c = some ⟨o2, d2, .fields vs, s2⟩) (v : vs[11]? = some (.ref P)) :
    PySem.W.tabIn K x = some (c, P) := by
  unfold PySem.W.tabIn
  simp only [a, l, hc, lk, v]
theorem lookup_out {K : PySem.W.Frag} {a : Addr} (h : (K.map (·.1)).contains a = false) : K.lookup a = none := by
  induction K with
  | nil => rfl
  | cons x K ih =>
    obtain ⟨b, o⟩ := x
    simp only [List.map_cons, List.contains_cons, Bool.or_eq_false_iff] at h
    show (match a == b with | true => some o | false => K.lookup a) = none
    rw [h.1]
    exact ih h.2
theorem nt_of {K : Params → PySem.W.Frag} {as : List Addr} {e : ∀ P, as = (K P).map (·.1)} {ts : List Addr} {w : World} {h : Heap} {a : Addr} (_Y : (PySem.W.kmHook K as e ts).says w h) (hn : as.contains a = false) : (K w.params).lookup a = none :=
  lookup_out (by rw [← e w.params]; exact hn)
end DL

set_option Elab.async false
set_option linter.all false
set_option maxRecDepth 100000
set_option maxHeartbeats 400000
namespace K63
open PySem PySem.Spec PyProof.Rows L2 DL
def topS (i : Nat) : Stmt := PySem.Challenge.pw_sortwires_k63_whole_single_ways.main.body.getD i (.Pass ⟨0, 0, 0, 0⟩)
def initS : Stmt := match topS 1 with | .ClassDef _ _ _ b _ _ _ _ _ _ _ => b.getD 0 (.Pass ⟨0, 0, 0, 0⟩) | _ => .Pass ⟨0, 0, 0, 0⟩
abbrev s_is_integer : Stmt := topS 4
abbrev N_is_integer : List Str := ["thing"]
theorem sc_is_integer : FnScope N_is_integer ["thing"] (defScope s_is_integer) := ⟨rfl, rfl, rfl, by decide +kernel, rfl, by decide +kernel, by decide +kernel⟩
abbrev s_is_within : Stmt := topS 5
abbrev N_is_within : List Str := ["thing", "least", "most"]
theorem sc_is_within : FnScope N_is_within ["thing", "least", "most"] (defScope s_is_within) := ⟨rfl, rfl, rfl, by decide +kernel, rfl, by decide +kernel, by decide +kernel⟩
abbrev s_check_number : Stmt := topS 6
abbrev N_check_number : List Str := ["thing", "least", "most"]
theorem sc_check_number : FnScope N_check_number ["thing", "least", "most"] (defScope s_check_number) := ⟨rfl, rfl, rfl, by decide +kernel, rfl, by decide +kernel, by decide +kernel⟩
abbrev s_check_lines : Stmt := topS 9
abbrev N_check_lines : List Str := ["lines"]
theorem sc_check_lines : FnScope N_check_lines ["lines"] (defScope s_check_lines) := ⟨rfl, rfl, rfl, by decide +kernel, rfl, by decide +kernel, by decide +kernel⟩
abbrev s_stages : Stmt := topS 10
abbrev N_stages : List Str := ["lines", "found"]
theorem sc_stages : FnScope N_stages ["lines"] (defScope s_stages) := ⟨rfl, rfl, rfl, by decide +kernel, rfl, by decide +kernel, by decide +kernel⟩
abbrev s_shuffled : Stmt := topS 11
abbrev N_shuffled : List Str := ["line", "lines"]
theorem sc_shuffled : FnScope N_shuffled ["line", "lines"] (defScope s_shuffled) := ⟨rfl, rfl, rfl, by decide +kernel, rfl, by decide +kernel, by decide +kernel⟩
abbrev s_single_way : Stmt := topS 12
abbrev N_single_way : List Str := ["lines", "begin", "end"]
theorem sc_single_way : FnScope N_single_way ["lines", "begin", "end"] (defScope s_single_way) := ⟨rfl, rfl, rfl, by decide +kernel, rfl, by decide +kernel, by decide +kernel⟩
abbrev s_raw_way : Stmt := topS 13
abbrev N_raw_way : List Str := ["lines", "begin", "end", "found", "line", "bit"]
theorem sc_raw_way : FnScope N_raw_way ["lines", "begin", "end"] (defScope s_raw_way) := ⟨rfl, rfl, rfl, by decide +kernel, rfl, by decide +kernel, by decide +kernel⟩
abbrev s_law_draw : Stmt := topS 15
abbrev N_law_draw : List Str := ["hand", "span", "cell", "digit", "number"]
theorem sc_law_draw : FnScope N_law_draw ["hand", "span"] (defScope s_law_draw) := ⟨rfl, rfl, rfl, by decide +kernel, rfl, by decide +kernel, by decide +kernel⟩
abbrev s_law_some : Stmt := topS 16
abbrev N_law_some : List Str := ["hand", "things"]
theorem sc_law_some : FnScope N_law_some ["hand", "things"] (defScope s_law_some) := ⟨rfl, rfl, rfl, by decide +kernel, rfl, by decide +kernel, by decide +kernel⟩
abbrev s_law_is : Stmt := topS 17
abbrev N_law_is : List Str := ["thing", "due", "one", "other"]
theorem sc_law_is : FnScope N_law_is ["thing", "due"] (defScope s_law_is) := ⟨rfl, rfl, rfl, by decide +kernel, rfl, by decide +kernel, by decide +kernel⟩
abbrev s_law_hand : Stmt := topS 18
abbrev N_law_hand : List Str := ["script", "cells", "cell"]
theorem sc_law_hand : FnScope N_law_hand ["script"] (defScope s_law_hand) := ⟨rfl, rfl, rfl, by decide +kernel, rfl, by decide +kernel, by decide +kernel⟩
abbrev s_law_deep : Stmt := topS 19
abbrev N_law_deep : List Str := ["hand", "thing", "turn"]
theorem sc_law_deep : FnScope N_law_deep ["hand"] (defScope s_law_deep) := ⟨rfl, rfl, rfl, by decide +kernel, rfl, by decide +kernel, by decide +kernel⟩
abbrev s_law_none : Stmt := topS 20
abbrev N_law_none : List Str := ["hand"]
theorem sc_law_none : FnScope N_law_none ["hand"] (defScope s_law_none) := ⟨rfl, rfl, rfl, by decide +kernel, rfl, by decide +kernel, by decide +kernel⟩
abbrev s_law_bits : Stmt := topS 21
abbrev N_law_bits : List Str := ["lines", "found", "size"]
theorem sc_law_bits : FnScope N_law_bits ["lines"] (defScope s_law_bits) := ⟨rfl, rfl, rfl, by decide +kernel, rfl, by decide +kernel, by decide +kernel⟩
abbrev s_law_way : Stmt := topS 22
abbrev N_law_way : List Str := ["lines", "start", "end", "found", "here", "many", "stage", "bit"]
theorem sc_law_way : FnScope N_law_way ["lines", "start", "end"] (defScope s_law_way) := ⟨rfl, rfl, rfl, by decide +kernel, rfl, by decide +kernel, by decide +kernel⟩
abbrev s_law_twos : Stmt := topS 23
abbrev N_law_twos : List Str := ["often", "found", "turn"]
theorem sc_law_twos : FnScope N_law_twos ["often"] (defScope s_law_twos) := ⟨rfl, rfl, rfl, by decide +kernel, rfl, by decide +kernel, by decide +kernel⟩
abbrev s_law_size : Stmt := topS 24
abbrev N_law_size : List Str := ["hand"]
theorem sc_law_size : FnScope N_law_size ["hand"] (defScope s_law_size) := ⟨rfl, rfl, rfl, by decide +kernel, rfl, by decide +kernel, by decide +kernel⟩
abbrev s_law_word : Stmt := topS 25
abbrev N_law_word : List Str := ["asked", "word", "e", "some"]
theorem sc_law_word : FnScope N_law_word ["asked"] (defScope s_law_word) := ⟨rfl, rfl, rfl, by decide +kernel, rfl, by decide +kernel, by decide +kernel⟩
abbrev s_law : Stmt := topS 26
abbrev N_law : List Str := ["script", "hand", "known", "step", "lines", "start", "end", "other", "due", "came", "every", "mate", "same", "bad", "none", "words", "goal", "one", "two"]
theorem sc_law : FnScope N_law ["script"] (defScope s_law) := ⟨rfl, rfl, rfl, by decide +kernel, rfl, by decide +kernel, by decide +kernel⟩
theorem sc_init : FnScope ["self"] ["self"] (defScope initS) := ⟨rfl, rfl, rfl, by decide +kernel, rfl, by decide +kernel, by decide +kernel⟩
def c_LINES : D := .tup [.int (2), .int (4), .int (8), .int (16)]
abbrev v_LINES : List V := [.int (2), .int (4), .int (8), .int (16)]
theorem r_LINES {M : Md} (G : Hp) : Reps M G v_LINES [.int (2), .int (4), .int (8), .int (16)] := .cons (.int _) (.cons (.int _) (.cons (.int _) (.cons (.int _) (.nil))))
def cs_law_word : List String := ["NoNumber"]
def wd_law_word : String → XF → Option D := fun c fs => if fs.isEmpty then ((cs_law_word.idxOf? c).map fun i => .int (i : Nat)) else none
structure Ad where
  a_init : Addr
  d_init : FuncData
  a_is_integer : Addr
  d_is_integer : FuncData
  a_is_within : Addr
  d_is_within : FuncData
  a_check_number : Addr
  d_check_number : FuncData
  a_check_lines : Addr
  d_check_lines : FuncData
  a_stages : Addr
  d_stages : FuncData
  a_shuffled : Addr
  d_shuffled : FuncData
  a_single_way : Addr
  d_single_way : FuncData
  a_raw_way : Addr
  d_raw_way : FuncData
  a_law_draw : Addr
  d_law_draw : FuncData
  a_law_some : Addr
  d_law_some : FuncData
  a_law_is : Addr
  d_law_is : FuncData
  a_law_hand : Addr
  d_law_hand : FuncData
  a_law_deep : Addr
  d_law_deep : FuncData
  a_law_none : Addr
  d_law_none : FuncData
  a_law_bits : Addr
  d_law_bits : FuncData
  a_law_way : Addr
  d_law_way : FuncData
  a_law_twos : Addr
  d_law_twos : FuncData
  a_law_size : Addr
  d_law_size : FuncData
  a_law_word : Addr
  d_law_word : FuncData
  a_law : Addr
  d_law : FuncData
  p_law : Addr
  k_law : Addr
structure Tx (M : Md) (mg : Str → Option Value) (base : Heap) (A : Ad) : Prop where
  m_ValueError : mg "ValueError" = none
  vV : PySem.W.findCls M.K (.type "ValueError") (.type "type") "__init__" = some (.val (.builtin "ValueError.__init__"))
  F_init : Fun M.K "__init__" "WireError.__init__" initS A.a_init A.d_init
  b_init : Binds M.K A.d_init ["self"] []
  ti : PySem.W.typeIn M.K (.ref A.a_init) = some (.type "function")
  g_LINES : ∃ a, mg "LINES" = some (.ref a) ∧ SqT M.K (fun _ => none) a v_LINES
  m_abs : mg "abs" = none
  m_all : mg "all" = none
  m_bool : mg "bool" = none
  m_int : mg "int" = none
  m_isinstance : mg "isinstance" = none
  m_len : mg "len" = none
  m_list : mg "list" = none
  m_range : mg "range" = none
  m_set : mg "set" = none
  m_str : mg "str" = none
  m_tuple : mg "tuple" = none
  m_zip : mg "zip" = none
  o_NoNumber : OexC M.K (M.Cn "NoNumber")
  i_NoNumber : PySem.W.findIn M.K (.ref (M.Cn "NoNumber")) "__init__" = some (some (.ref A.a_init))
  x_NoNumber : mg "NoNumber" = some (.ref (M.Cn "NoNumber"))
  F_is_integer : Fun M.K "is_integer" "is_integer" s_is_integer A.a_is_integer A.d_is_integer
  b_is_integer : Binds M.K A.d_is_integer ["thing"] []
  g_is_integer : mg "is_integer" = some (.ref A.a_is_integer)
  F_is_within : Fun M.K "is_within" "is_within" s_is_within A.a_is_within A.d_is_within
  b_is_within : Binds M.K A.d_is_within ["thing", "least", "most"] []
  g_is_within : mg "is_within" = some (.ref A.a_is_within)
  F_check_number : Fun M.K "check_number" "check_number" s_check_number A.a_check_number A.d_check_number
  b_check_number : Binds M.K A.d_check_number ["thing", "least", "most"] []
  g_check_number : mg "check_number" = some (.ref A.a_check_number)
  F_check_lines : Fun M.K "check_lines" "check_lines" s_check_lines A.a_check_lines A.d_check_lines
  b_check_lines : Binds M.K A.d_check_lines ["lines"] []
  g_check_lines : mg "check_lines" = some (.ref A.a_check_lines)
  F_stages : Fun M.K "stages" "stages" s_stages A.a_stages A.d_stages
  b_stages : Binds M.K A.d_stages ["lines"] []
  g_stages : mg "stages" = some (.ref A.a_stages)
  F_shuffled : Fun M.K "shuffled" "shuffled" s_shuffled A.a_shuffled A.d_shuffled
  b_shuffled : Binds M.K A.d_shuffled ["line", "lines"] []
  g_shuffled : mg "shuffled" = some (.ref A.a_shuffled)
  F_single_way : Fun M.K "single_way" "single_way" s_single_way A.a_single_way A.d_single_way
  b_single_way : Binds M.K A.d_single_way ["lines", "begin", "end"] []
  g_single_way : mg "single_way" = some (.ref A.a_single_way)
  F_raw_way : Fun M.K "raw_way" "raw_way" s_raw_way A.a_raw_way A.d_raw_way
  b_raw_way : Binds M.K A.d_raw_way ["lines", "begin", "end"] []
  g_raw_way : mg "raw_way" = some (.ref A.a_raw_way)
  F_law_draw : Fun M.K "_law_draw" "_law_draw" s_law_draw A.a_law_draw A.d_law_draw
  b_law_draw : Binds M.K A.d_law_draw ["hand", "span"] []
  g_law_draw : mg "_law_draw" = some (.ref A.a_law_draw)
  F_law_some : Fun M.K "_law_some" "_law_some" s_law_some A.a_law_some A.d_law_some
  b_law_some : Binds M.K A.d_law_some ["hand", "things"] []
  g_law_some : mg "_law_some" = some (.ref A.a_law_some)
  F_law_is : Fun M.K "_law_is" "_law_is" s_law_is A.a_law_is A.d_law_is
  b_law_is : Binds M.K A.d_law_is ["thing", "due"] []
  g_law_is : mg "_law_is" = some (.ref A.a_law_is)
  F_law_hand : Fun M.K "_law_hand" "_law_hand" s_law_hand A.a_law_hand A.d_law_hand
  b_law_hand : Binds M.K A.d_law_hand ["script"] []
  g_law_hand : mg "_law_hand" = some (.ref A.a_law_hand)
  F_law_deep : Fun M.K "_law_deep" "_law_deep" s_law_deep A.a_law_deep A.d_law_deep
  b_law_deep : Binds M.K A.d_law_deep ["hand"] []
  g_law_deep : mg "_law_deep" = some (.ref A.a_law_deep)
  F_law_none : Fun M.K "_law_none" "_law_none" s_law_none A.a_law_none A.d_law_none
  b_law_none : Binds M.K A.d_law_none ["hand"] []
  g_law_none : mg "_law_none" = some (.ref A.a_law_none)
  F_law_bits : Fun M.K "_law_bits" "_law_bits" s_law_bits A.a_law_bits A.d_law_bits
  b_law_bits : Binds M.K A.d_law_bits ["lines"] []
  g_law_bits : mg "_law_bits" = some (.ref A.a_law_bits)
  F_law_way : Fun M.K "_law_way" "_law_way" s_law_way A.a_law_way A.d_law_way
  b_law_way : Binds M.K A.d_law_way ["lines", "start", "end"] []
  g_law_way : mg "_law_way" = some (.ref A.a_law_way)
  F_law_twos : Fun M.K "_law_twos" "_law_twos" s_law_twos A.a_law_twos A.d_law_twos
  b_law_twos : Binds M.K A.d_law_twos ["often"] []
  g_law_twos : mg "_law_twos" = some (.ref A.a_law_twos)
  F_law_size : Fun M.K "_law_size" "_law_size" s_law_size A.a_law_size A.d_law_size
  b_law_size : Binds M.K A.d_law_size ["hand"] []
  g_law_size : mg "_law_size" = some (.ref A.a_law_size)
  F_law_word : Fun M.K "_law_word" "_law_word" s_law_word A.a_law_word A.d_law_word
  b_law_word : Binds M.K A.d_law_word ["asked"] []
  g_law_word : mg "_law_word" = some (.ref A.a_law_word)
  C_law : FunC M.K "law" "law" s_law A.a_law A.d_law A.k_law
  T_law : LamX.TabB base mg A.k_law A.p_law
  tb_law : (A.p_law, ("law.<locals>.<lambda>" : Str)) ∈ M.Tb
  tu_law : ∀ p ∈ M.Tb, p.1 = A.p_law → p.2 = ("law.<locals>.<lambda>" : Str)
  b_law : Binds M.K A.d_law ["script"] []
  g_law : mg "law" = some (.ref A.a_law)
  x_WireError : mg "WireError" = some (.ref (M.Cn "WireError"))
  exm_law_word : ∀ c ∈ cs_law_word, PySem.W.exmOne M.K (.ref (M.Cn c)) (.ref (M.Cn "WireError")) = some true
  ex_law_word : ∀ c ∈ cs_law_word, ExcC M.K (M.Cn c)
  kit_law_word : ∀ c ∈ cs_law_word, ∀ c2 ∈ cs_law_word, PySem.W.kitOne M.K (.ref (M.Cn c)) (.ref (M.Cn c2)) = some (decide (c = c2))
  kve_law_word : ∀ c ∈ cs_law_word, PySem.W.kitOne M.K (.ref (M.Cn c)) (.type "ValueError") = some true
section
variable {P : Program} {w : World} {M : Md} {mg : Str → Option Value} {base : Heap} {A : Ad}
theorem ok_init (T : Tx M mg base A) : FnOk P w M.K mg base (L2.CX P w) 1 A.a_init A.d_init ["self"] (spInit M.K) :=
  init_ok T.F_init sc_init fun _ _ _ _ _ _ => pss_one (ps_expr (pe_veinit rfl T.m_ValueError T.vV (pa_cons (pv 0) pa_nil)))

def b_is_integer_1 : DS := (sRet (eAnd (eUn (dIsi ["int"]) (eV 0)) (eUn dNot (eUn (dIsi ["bool"]) (eV 0)))))
def b_is_integer : DS := b_is_integer_1
def f_is_integer : List D → OF := runP 1 1 b_is_integer
theorem ok_is_integer (T : Tx M mg base A) : FnOk P w M.K mg base (L2.CX P w) 1 A.a_is_integer A.d_is_integer ["thing"] (spP M f_is_integer) := by
  refine fn_P (b := b_is_integer) T.F_is_integer sc_is_integer rfl rfl fun cdv A outer s H E hr => ?_
  exact (ls_one (ls_ret (le_and (le_isi rfl (by rfl) T.m_isinstance (by rfl) T.m_int PyProof.Rows.boot_int (by decide) (le_var (pv 0))) (le_one (le_not (le_isi rfl (by rfl) T.m_isinstance (by rfl) T.m_bool PyProof.Rows.boot_bool (by decide) (le_var (pv 0))))))))

def b_is_within_1 : DS := (sRet (eAnd (eCall f_is_integer [(eV 0)]) (eChain dLe dLe (eV 1) (eV 0) (eV 2))))
def b_is_within : DS := b_is_within_1
def f_is_within : List D → OF := runP 3 3 b_is_within
theorem ok_is_within (T : Tx M mg base A) : FnOk P w M.K mg base (L2.CX P w) 2 A.a_is_within A.d_is_within ["thing", "least", "most"] (spP M f_is_within) := by
  refine fn_P (b := b_is_within) T.F_is_within sc_is_within rfl rfl fun cdv A outer s H E hr => ?_
  exact (ls_one (ls_ret (le_and (le_call (takes_of rfl rfl rfl rfl) (ok_is_integer T) (hr.mono (by decide)) (by rfl) T.g_is_integer T.F_is_integer.kp T.b_is_integer (la_cons (le_var (pv 0)) la_nil)) (le_one (le_chain op_le op_le od_le od_le (le_var (pv 1)) (le_var (pv 0)) (le_var (pv 2)))))))

def b_check_number_1 : DS := (sIf (tNot (tV (eCall f_is_within [(eV 0), (eV 1), (eV 2)]))) (sRaise "NoNumber") sNil)
def b_check_number : DS := b_check_number_1
def f_check_number : List D → OF := runP 3 3 b_check_number
theorem ok_check_number (T : Tx M mg base A) : FnOk P w M.K mg base (L2.CX P w) 3 A.a_check_number A.d_check_number ["thing", "least", "most"] (spP M f_check_number) := by
  refine fn_P (b := b_check_number) T.F_check_number sc_check_number rfl rfl fun cdv A outer s H E hr => ?_
  exact (ls_one (ls_if (lt_not (lt_val (le_call (takes_of rfl rfl rfl rfl) (ok_is_within T) (hr.mono (by decide)) (by rfl) T.g_is_within T.F_is_within.kp T.b_is_within (la_cons (le_var (pv 0)) (la_cons (le_var (pv 1)) (la_cons (le_var (pv 2)) la_nil)))))) (ls_one (ls_raise (c := "NoNumber") T.o_NoNumber T.i_NoNumber T.ti (ok_init T) (hr.mono (by decide)) T.b_init (passes_call (takes_of rfl rfl rfl rfl) fun _ _ _ _ h => h.elim) (by rfl) T.x_NoNumber rfl (takes_of rfl rfl rfl rfl))) ls_nil))

def b_check_lines_1 : DS := (sIf (tOr (tNot (tV (eCall f_is_within [(eV 0), (eC (.int 2)), (eC (.int 16))]))) (tV (eOp (dIn true) (eV 0) (eC c_LINES)))) (sRaise "NoNumber") sNil)
def b_check_lines : DS := b_check_lines_1
def f_check_lines : List D → OF := runP 1 1 b_check_lines
theorem ok_check_lines (T : Tx M mg base A) : FnOk P w M.K mg base (L2.CX P w) 3 A.a_check_lines A.d_check_lines ["lines"] (spP M f_check_lines) := by
  refine fn_P (b := b_check_lines) T.F_check_lines sc_check_lines rfl rfl fun cdv A outer s H E hr => ?_
  exact (ls_one (ls_if (lt_or (lt_not (lt_val (le_call (takes_of rfl rfl rfl rfl) (ok_is_within T) (hr.mono (by decide)) (by rfl) T.g_is_within T.F_is_within.kp T.b_is_within (la_cons (le_var (pv 0)) (la_cons le_int (la_cons le_int la_nil)))))) (lt_or1 (lt_cmp (op_notInP hr.units) (od_in true) (le_var (pv 0)) (le_globT T.g_LINES r_LINES) rfl))).pt (ls_one (ls_raise (c := "NoNumber") T.o_NoNumber T.i_NoNumber T.ti (ok_init T) (hr.mono (by decide)) T.b_init (passes_call (takes_of rfl rfl rfl rfl) fun _ _ _ _ h => h.elim) (by rfl) T.x_NoNumber rfl (takes_of rfl rfl rfl rfl))) ls_nil))

def w_stages_1 : DS := (sMul ([0, 1].map .nm) [(false, (eOp dFdiv (eV 0) (eC (.int 2)))), (false, (eOp dPlus (eV 1) (eC (.int 1))))])
def b_stages_1 : DS := (sDrop (eCall f_check_lines [(eV 0)]))
def b_stages_2 : DS := (sSet 1 (eC (.int 0)))
def b_stages_3 : DS := (whileL (tV (eOp dGt (eV 0) (eC (.int 1)))) w_stages_1 100)
def b_stages_4 : DS := (sRet (eV 1))
def b_stages : DS := (sSeq b_stages_1 (sSeq b_stages_2 (sSeq b_stages_3 b_stages_4)))
def f_stages : List D → OF := runP 1 2 b_stages
theorem ok_stages (T : Tx M mg base A) : FnOk P w M.K mg base (L2.CX P w) 4 A.a_stages A.d_stages ["lines"] (spP M f_stages) := by
  refine fn_P (b := b_stages) T.F_stages sc_stages rfl rfl fun cdv A outer s H E hr => ?_
  exact (ls_cons (ls_drop (le_call (takes_of rfl rfl rfl rfl) (ok_check_lines T) (hr.mono (by decide)) (by rfl) T.g_check_lines T.F_check_lines.kp T.b_check_lines (la_cons (le_var (pv 0)) la_nil)))
    (ls_cons (ls_set (i := 1) sc_stages.nd rfl (.inl rfl) le_int)
    (ls_cons (ls_while (n := 100) (passes_of rfl) (lt_cmp op_gt od_gt (le_var (pv 0)) le_int (nomark _)) (ls_one (ls_par2 (i := 0) (j := 1) rfl sc_stages.nd rfl rfl (by decide) rfl rfl (ma_fro (le_bin op_fdivN od_fdiv (le_var (pv 0)) le_int) (ma_fro (le_bin op_plus od_plus (le_var (pv 1)) le_int) ma_nil)) rfl)))
    (ls_one (ls_ret (le_var (pv 1)))))))

def b_shuffled_1 : DS := (sRet (eOp dPlus (eOp dMod (eOp dMul (eC (.int 2)) (eV 0)) (eV 1)) (eOp dFdiv (eOp dMul (eC (.int 2)) (eV 0)) (eV 1))))
def b_shuffled : DS := b_shuffled_1
def f_shuffled : List D → OF := runP 2 2 b_shuffled
theorem ok_shuffled (T : Tx M mg base A) : FnOk P w M.K mg base (L2.CX P w) 1 A.a_shuffled A.d_shuffled ["line", "lines"] (spP M f_shuffled) := by
  refine fn_P (b := b_shuffled) T.F_shuffled sc_shuffled rfl rfl fun cdv A outer s H E hr => ?_
  exact (ls_one (ls_ret (le_bin op_plus od_plus (le_bin op_modN od_mod (le_bin op_mul od_mul le_int (le_var (pv 0))) (le_var (pv 1))) (le_bin op_fdivN od_fdiv (le_bin op_mul od_mul le_int (le_var (pv 0))) (le_var (pv 1))))))

def w_raw_way_1 : DS := (sSet 4 (eOp dPlus (eOp dSub (eV 4) (eOp dMod (eV 4) (eC (.int 2)))) (eOp dMod (eOp dFdiv (eV 2) (eV 5)) (eC (.int 2)))))
def w_raw_way_2 : DS := (sSeq (sSet 4 (eCall f_shuffled [(eV 4), (eV 0)])) (sSeq w_raw_way_1 (sSeq (sDrop (eMutP D.isL dAppend 3 [(eV 4)])) (sSet 5 (eOp dFdiv (eV 5) (eC (.int 2)))))))
def b_raw_way_1 : DS := (sMul ([3, 4, 5].map .nm) [(true, (eLst [])), (false, (eV 1)), (false, (eOp dFdiv (eV 0) (eC (.int 2))))])
def b_raw_way_2 : DS := (whileL (tV (eOp dGe (eV 5) (eC (.int 1)))) w_raw_way_2 100)
def b_raw_way_3 : DS := (sRet (eB dTuple [(eV 3)]))
def b_raw_way : DS := (sSeq b_raw_way_1 (sSeq b_raw_way_2 b_raw_way_3))
def f_raw_way : List D → OF := runP 3 6 b_raw_way
theorem ok_raw_way (T : Tx M mg base A) : FnOk P w M.K mg base (L2.CX P w) 2 A.a_raw_way A.d_raw_way ["lines", "begin", "end"] (spP M f_raw_way) := by
  refine fn_P (b := b_raw_way) T.F_raw_way sc_raw_way rfl rfl fun cdv A outer s H E hr => ?_
  exact (ls_cons (ls_par3 (i := 3) (j := 4) (l := 5) rfl sc_raw_way.nd rfl rfl rfl (by decide) (by decide) (by decide) rfl rfl rfl (ma_own (lo_lst la_nil) (ma_fro (le_var (pv 1)) (ma_fro (le_bin op_fdivN od_fdiv (le_var (pv 0)) le_int) ma_nil))) rfl)
    (ls_cons (ls_while (n := 100) (passes_of rfl) (lt_cmp op_ge od_ge (le_var (pv 5)) le_int (nomark _)) (ls_cons (ls_set (i := 4) sc_raw_way.nd rfl (.inl rfl) (le_call (takes_of rfl rfl rfl rfl) (ok_shuffled T) (hr.mono (by decide)) (by rfl) T.g_shuffled T.F_shuffled.kp T.b_shuffled (la_cons (le_var (pv 4)) (la_cons (le_var (pv 0)) la_nil))))
    (ls_cons (ls_set (i := 4) sc_raw_way.nd rfl (.inl rfl) (le_bin op_plus od_plus (le_bin op_sub od_sub (le_var (pv 4)) (le_bin op_modN od_mod (le_var (pv 4)) le_int)) (le_bin op_modN od_mod (le_bin op_fdivN od_fdiv (le_var (pv 2)) (le_var (pv 5))) le_int)))
    (ls_cons (ls_drop (le_append (pv 3) (la_cons (le_var (pv 4)) la_nil)))
    (ls_one (ls_set (i := 5) sc_raw_way.nd rfl (.inl rfl) (le_bin op_fdivN od_fdiv (le_var (pv 5)) le_int)))))))
    (ls_one (ls_ret (le_tuple rfl T.m_tuple (le_var (pv 3)))))))

def b_single_way_1 : DS := (sDrop (eCall f_check_lines [(eV 0)]))
def b_single_way_2 : DS := (sDrop (eCall f_check_number [(eV 1), (eC (.int 0)), (eOp dSub (eV 0) (eC (.int 1)))]))
def b_single_way_3 : DS := (sDrop (eCall f_check_number [(eV 2), (eC (.int 0)), (eOp dSub (eV 0) (eC (.int 1)))]))
def b_single_way_4 : DS := (sRet (eCall f_raw_way [(eV 0), (eV 1), (eV 2)]))
def b_single_way : DS := (sSeq b_single_way_1 (sSeq b_single_way_2 (sSeq b_single_way_3 b_single_way_4)))
def f_single_way : List D → OF := runP 3 3 b_single_way
theorem ok_single_way (T : Tx M mg base A) : FnOk P w M.K mg base (L2.CX P w) 4 A.a_single_way A.d_single_way ["lines", "begin", "end"] (spP M f_single_way) := by
  refine fn_P (b := b_single_way) T.F_single_way sc_single_way rfl rfl fun cdv A outer s H E hr => ?_
  exact (ls_cons (ls_drop (le_call (takes_of rfl rfl rfl rfl) (ok_check_lines T) (hr.mono (by decide)) (by rfl) T.g_check_lines T.F_check_lines.kp T.b_check_lines (la_cons (le_var (pv 0)) la_nil)))
    (ls_cons (ls_drop (le_call (takes_of rfl rfl rfl rfl) (ok_check_number T) (hr.mono (by decide)) (by rfl) T.g_check_number T.F_check_number.kp T.b_check_number (la_cons (le_var (pv 1)) (la_cons le_int (la_cons (le_bin op_sub od_sub (le_var (pv 0)) le_int) la_nil)))))
    (ls_cons (ls_drop (le_call (takes_of rfl rfl rfl rfl) (ok_check_number T) (hr.mono (by decide)) (by rfl) T.g_check_number T.F_check_number.kp T.b_check_number (la_cons (le_var (pv 2)) (la_cons le_int (la_cons (le_bin op_sub od_sub (le_var (pv 0)) le_int) la_nil)))))
    (ls_one (ls_ret (le_call (takes_of rfl rfl rfl rfl) (ok_raw_way T) (hr.mono (by decide)) (by rfl) T.g_raw_way T.F_raw_way.kp T.b_raw_way (la_cons (le_var (pv 0)) (la_cons (le_var (pv 1)) (la_cons (le_var (pv 2)) la_nil)))))))))

def w_law_draw_1 : DS := (sSet 2 (eBor [0] (eOp dIx (eOp dIx (eV 0) (eC (.int 0))) (eOp dIx (eV 0) (eC (.int 1))))))
def w_law_draw_2 : DS := (sStoreP dStL 0 (eC (.int 1)) (eBor [0] (eOp dPlus (eOp dIx (eV 0) (eC (.int 1))) (eC (.int 1)))))
def w_law_draw_3 : DS := (sStoreP dStL 0 (eC (.int 3)) (eBor [0] (eOp dMod (eB dInt [(eOp dPlus (eOp dPlus (eOp dMul (eOp dIx (eV 0) (eC (.int 3))) (eC (.int 69621))) (eV 2)) (eC (.int 43)))]) (eC (.int 2147483629)))))
def w_law_draw_4 : DS := (sIf (tV (eOp dGe (eV 2) (eOp dPow (eC (.int 10)) (eC (.int 18))))) (sStoreP dStL 0 (eC (.int 2)) (eV 2)) sNil)
def w_law_draw_5 : DS := (sSeq w_law_draw_1 (sSeq w_law_draw_2 (sSeq w_law_draw_3 w_law_draw_4)))
def w_law_draw_6 : DS := (sSet 3 (eBor [0] (eOp dMod (eB dInt [(eOp dIx (eV 0) (eC (.int 2)))]) (eV 1))))
def w_law_draw_7 : DS := (sStoreP dStL 0 (eC (.int 2)) (eBor [0] (eOp dFdiv (eOp dIx (eV 0) (eC (.int 2))) (eV 1))))
def w_law_draw_8 : DS := (sSeq w_law_draw_6 (sSeq w_law_draw_7 (sRet (eV 3))))
def b_law_draw_1 : DS := (sIf (tBor [0] (tAnd (tV (eOp dEq (eOp dIx (eV 0) (eC (.int 2))) (eC (.int 0)))) (tV (eOp dLt (eOp dIx (eV 0) (eC (.int 1))) (eB dLen [(eOp dIx (eV 0) (eC (.int 0)))]))))) w_law_draw_5 sNil)
def b_law_draw_2 : DS := (sIf (tBor [0] (tV (eOp dGt (eOp dIx (eV 0) (eC (.int 2))) (eC (.int 0))))) w_law_draw_8 sNil)
def b_law_draw_3 : DS := (sStoreP dStL 0 (eC (.int 4)) (eBor [0] (eOp dPlus (eOp dIx (eV 0) (eC (.int 4))) (eC (.int 1)))))
def b_law_draw_4 : DS := (sSet 4 (eBor [0] (eOp dMod (eB dInt [(eOp dMul (eB dInt [(eOp dPlus (eOp dIx (eV 0) (eC (.int 3))) (eOp dMul (eC (.int 7919)) (eOp dIx (eV 0) (eC (.int 4)))))]) (eC (.int 48271)))]) (eC (.int 2147483647)))))
def b_law_draw_5 : DS := (sSet 4 (eOp dMod (eB dInt [(eOp dMul (eV 4) (eOp dPlus (eOp dFdiv (eV 4) (eC (.int 1009))) (eC (.int 69621))))]) (eC (.int 2147483647))))
def b_law_draw_6 : DS := (sSet 4 (eOp dMod (eB dInt [(eOp dMul (eV 4) (eOp dPlus (eOp dFdiv (eV 4) (eC (.int 2003))) (eC (.int 40692))))]) (eC (.int 2147483399))))
def b_law_draw_7 : DS := (sRet (eOp dMod (eB dInt [(eOp dFdiv (eV 4) (eC (.int 16)))]) (eV 1)))
def b_law_draw : DS := (sSeq b_law_draw_1 (sSeq b_law_draw_2 (sSeq b_law_draw_3 (sSeq b_law_draw_4 (sSeq b_law_draw_5 (sSeq b_law_draw_6 b_law_draw_7))))))
def f_law_draw : List SV → OF := runF 2 5 b_law_draw
theorem ok_law_draw (T : Tx M mg base A) : FnOk P w M.K mg base (L2.CX P w) 1 A.a_law_draw A.d_law_draw ["hand", "span"] (spD M f_law_draw) := by
  refine fn_D (b := b_law_draw) T.F_law_draw sc_law_draw rfl rfl fun cdv A outer s H E hr => ?_
  exact (ls_cons (ls_if (lt_bor (lt_and (lt_cmp (op_eqP hr.units) od_eq (le_ix rfl (le_var (pv 0)) le_int) le_int (nomark _)) (lt_and1 (lt_cmp op_lt od_lt (le_ix rfl (le_var (pv 0)) le_int) (le_len rfl T.m_len (le_ix rfl (le_var (pv 0)) le_int)) (nomark _)))).pt) (ls_cons (ls_set (i := 2) sc_law_draw.nd rfl (.inl rfl) (le_bor (le_ix rfl (le_ix rfl (le_var (pv 0)) le_int) (le_ix rfl (le_var (pv 0)) le_int))))
    (ls_cons (ls_store set_list st_list (pv 0) le_int (le_bor (le_bin op_plus od_plus (le_ix rfl (le_var (pv 0)) le_int) le_int)))
    (ls_cons (ls_store set_list st_list (pv 0) le_int (le_bor (le_bin op_modN od_mod (le_int1 T.m_int (le_bin op_plus od_plus (le_bin op_plus od_plus (le_bin op_mul od_mul (le_ix rfl (le_var (pv 0)) le_int) le_int) (le_var (pv 2))) le_int)) le_int)))
    (ls_one (ls_if (lt_cmp op_ge od_ge (le_var (pv 2)) (le_bin op_pow od_pow le_int le_int) (nomark _)) (ls_one (ls_store set_list st_list (pv 0) le_int (le_var (pv 2)))) ls_nil))))) ls_nil)
    (ls_cons (ls_if (lt_bor (lt_cmp op_gt od_gt (le_ix rfl (le_var (pv 0)) le_int) le_int (nomark _))) (ls_cons (ls_set (i := 3) sc_law_draw.nd rfl (.inl rfl) (le_bor (le_bin op_modN od_mod (le_int1 T.m_int (le_ix rfl (le_var (pv 0)) le_int)) (le_var (pv 1)))))
    (ls_cons (ls_store set_list st_list (pv 0) le_int (le_bor (le_bin op_fdivN od_fdiv (le_ix rfl (le_var (pv 0)) le_int) (le_var (pv 1)))))
    (ls_one (ls_ret (le_var (pv 3)))))) ls_nil)
    (ls_cons (ls_store set_list st_list (pv 0) le_int (le_bor (le_bin op_plus od_plus (le_ix rfl (le_var (pv 0)) le_int) le_int)))
    (ls_cons (ls_set (i := 4) sc_law_draw.nd rfl (.inl rfl) (le_bor (le_bin op_modN od_mod (le_int1 T.m_int (le_bin op_mul od_mul (le_int1 T.m_int (le_bin op_plus od_plus (le_ix rfl (le_var (pv 0)) le_int) (le_bin op_mul od_mul le_int (le_ix rfl (le_var (pv 0)) le_int)))) le_int)) le_int)))
    (ls_cons (ls_set (i := 4) sc_law_draw.nd rfl (.inl rfl) (le_bin op_modN od_mod (le_int1 T.m_int (le_bin op_mul od_mul (le_var (pv 4)) (le_bin op_plus od_plus (le_bin op_fdivN od_fdiv (le_var (pv 4)) le_int) le_int))) le_int))
    (ls_cons (ls_set (i := 4) sc_law_draw.nd rfl (.inl rfl) (le_bin op_modN od_mod (le_int1 T.m_int (le_bin op_mul od_mul (le_var (pv 4)) (le_bin op_plus od_plus (le_bin op_fdivN od_fdiv (le_var (pv 4)) le_int) le_int))) le_int))
    (ls_one (ls_ret (le_bin op_modN od_mod (le_int1 T.m_int (le_bin op_fdivN od_fdiv (le_var (pv 4)) le_int)) (le_var (pv 1)))))))))))

def b_law_some_1 : DS := (sRet (eOp dIx (eV 1) (eCallM f_law_draw [(.sl 0), (.fro (eB dLen [(eV 1)]))])))
def b_law_some : DS := b_law_some_1
def f_law_some : List SV → OF := runF 2 2 b_law_some
theorem ok_law_some (T : Tx M mg base A) : FnOk P w M.K mg base (L2.CX P w) 2 A.a_law_some A.d_law_some ["hand", "things"] (spD M f_law_some) := by
  refine fn_D (b := b_law_some) T.F_law_some sc_law_some rfl rfl fun cdv A outer s H E hr => ?_
  exact (ls_one (ls_ret (le_ix rfl (le_var (pv 1)) (le_callM (takes_of rfl rfl rfl rfl) (ok_law_draw T) (hr.mono (by decide)) (by rfl) T.g_law_draw T.F_law_draw.kp T.b_law_draw (lm_sl (pv 0) (lm_fro (le_len rfl T.m_len (le_var (pv 1))) lm_nil))))))

def w_law_is_1 (rec : List D → OF) : DS := (sIf (tOr (tV (eOp dNe (eUn (dIsi ["tuple"]) (eV 0)) (eUn (dIsi ["tuple"]) (eV 1)))) (tV (eOp dNe (eUn (dIsi ["list"]) (eV 0)) (eUn (dIsi ["list"]) (eV 1))))) (sRet (eC (.bl false))) sNil)
def w_law_is_2 (rec : List D → OF) : DS := (sRet (eAnd (eOp dEq (eB dLen [(eV 0)]) (eB dLen [(eV 1)])) (eB dAll [(eComp (iB dZip [(eV 0), (eV 1)]) (.tp [(.nm 2), (.nm 3)]) tTrue (eCall rec [(eV 2), (eV 3)]) [2, 3])])))
def w_law_is_3 (rec : List D → OF) : DS := (sSeq (w_law_is_1 rec) (w_law_is_2 rec))
def w_law_is_4 (rec : List D → OF) : DS := (sRet (eAnd (eOp dIsN (eV 1) (eC .non)) (eOp dIsN (eV 0) (eC .non))))
def b_law_is_1 (rec : List D → OF) : DS := (sIf (tV (eUn (dIsi ["tuple", "list"]) (eV 1))) (w_law_is_3 rec) sNil)
def b_law_is_2 (rec : List D → OF) : DS := (sIf (tOr (tV (eOp dIsN (eV 1) (eC .non))) (tV (eOp dIsN (eV 0) (eC .non)))) (w_law_is_4 rec) sNil)
def b_law_is_3 (rec : List D → OF) : DS := (sIf (tOr (tV (eOp dNe (eUn (dIsi ["bool"]) (eV 0)) (eUn (dIsi ["bool"]) (eV 1)))) (tV (eOp dNe (eUn (dIsi ["int"]) (eV 0)) (eUn (dIsi ["int"]) (eV 1))))) (sRet (eC (.bl false))) sNil)
def b_law_is_4 (rec : List D → OF) : DS := (sRet (eAnd (eOp dEq (eUn (dIsi ["str"]) (eV 0)) (eUn (dIsi ["str"]) (eV 1))) (eOp dEq (eV 0) (eV 1))))
def b_law_is (rec : List D → OF) : DS := (sSeq (b_law_is_1 rec) (sSeq (b_law_is_2 rec) (sSeq (b_law_is_3 rec) (b_law_is_4 rec))))
def f_law_is : Nat → List D → OF
  | 0 => fun _ => .stuck
  | n + 1 => runP 2 4 (b_law_is (f_law_is n))
theorem ok_law_is (T : Tx M mg base A) : ∀ n : Nat, FnOk P w M.K mg base (L2.CX P w) (1 + n) A.a_law_is A.d_law_is ["thing", "due"] (spP M (f_law_is n))
  | 0 => fn_stuck T.F_law_is sc_law_is
  | n + 1 => by
    have ih := ok_law_is T n
    refine fn_P (b := b_law_is (f_law_is n)) T.F_law_is sc_law_is rfl rfl fun cdv A outer s H E hr => ?_
    exact (ls_cons (ls_if (lt_val (le_isi2 rfl (by rfl) T.m_isinstance (by rfl) T.m_tuple PyProof.Rows.boot_tuple (by decide) (by rfl) T.m_list PyProof.Rows.boot_list (by decide) (le_var (pv 1)))) (ls_cons (ls_if (lt_or (lt_cmp (op_neP hr.units) od_ne (le_isi rfl (by rfl) T.m_isinstance (by rfl) T.m_tuple PyProof.Rows.boot_tuple (by decide) (le_var (pv 0))) (le_isi rfl (by rfl) T.m_isinstance (by rfl) T.m_tuple PyProof.Rows.boot_tuple (by decide) (le_var (pv 1))) (nomark _)) (lt_or1 (lt_cmp (op_neP hr.units) od_ne (le_isi rfl (by rfl) T.m_isinstance (by rfl) T.m_list PyProof.Rows.boot_list (by decide) (le_var (pv 0))) (le_isi rfl (by rfl) T.m_isinstance (by rfl) T.m_list PyProof.Rows.boot_list (by decide) (le_var (pv 1))) (nomark _)))).pt (ls_one (ls_ret le_bl)) ls_nil)
    (ls_one (ls_ret (le_and (le_cmp (op_eqP hr.units) od_eq (le_len rfl T.m_len (le_var (pv 0))) (le_len rfl T.m_len (le_var (pv 1))) (nomark _)) (le_one (le_all rfl rfl T.m_all (lo_le (lo_comp0 (own := [("one", 2), ("other", 3)]) rfl sc_law_is.nd (li_zip rfl (by rfl) T.m_zip (la_cons (le_var (pv 0)) (la_cons (le_var (pv 1)) la_nil))) (blkOk_by (N := N_law_is) (sc := defScope s_law_is) (by decide +kernel)) (by decide) (fun _ _ _ _ _ => (lg_tup rfl rfl (lgs_cons (lg_name (i := 2) sc_law_is.nd rfl (.inl rfl)) (lgs_cons (lg_name (i := 3) sc_law_is.nd rfl (.inl rfl)) lgs_nil)) rfl)) (fun _ _ _ _ _ => (le_call takes0 ih (hr.mono (Nat.le_refl _)) (by rfl) T.g_law_is T.F_law_is.kp T.b_law_is (la_cons (le_var (pv 2)) (la_cons (le_var (pv 3)) la_nil)))))))))))) ls_nil)
    (ls_cons (ls_if (lt_or (lt_cmp op_isN od_isN (le_var (pv 1)) le_non (nomark _)) (lt_or1 (lt_cmp op_isN od_isN (le_var (pv 0)) le_non (nomark _)))).pt (ls_one (ls_ret (le_and (le_cmp op_isN od_isN (le_var (pv 1)) le_non (nomark _)) (le_one (le_cmp op_isN od_isN (le_var (pv 0)) le_non (nomark _)))))) ls_nil)
    (ls_cons (ls_if (lt_or (lt_cmp (op_neP hr.units) od_ne (le_isi rfl (by rfl) T.m_isinstance (by rfl) T.m_bool PyProof.Rows.boot_bool (by decide) (le_var (pv 0))) (le_isi rfl (by rfl) T.m_isinstance (by rfl) T.m_bool PyProof.Rows.boot_bool (by decide) (le_var (pv 1))) (nomark _)) (lt_or1 (lt_cmp (op_neP hr.units) od_ne (le_isi rfl (by rfl) T.m_isinstance (by rfl) T.m_int PyProof.Rows.boot_int (by decide) (le_var (pv 0))) (le_isi rfl (by rfl) T.m_isinstance (by rfl) T.m_int PyProof.Rows.boot_int (by decide) (le_var (pv 1))) (nomark _)))).pt (ls_one (ls_ret le_bl)) ls_nil)
    (ls_one (ls_ret (le_and (le_cmp (op_eqP hr.units) od_eq (le_isi rfl (by rfl) T.m_isinstance (by rfl) T.m_str PyProof.Rows.boot_str (by decide) (le_var (pv 0))) (le_isi rfl (by rfl) T.m_isinstance (by rfl) T.m_str PyProof.Rows.boot_str (by decide) (le_var (pv 1))) (nomark _)) (le_one (le_cmp (op_eqP hr.units) od_eq (le_var (pv 0)) (le_var (pv 1)) (nomark _)))))))))

def b_law_hand : DS := (sSet 1 (eComp (iSeq (eCut dCut (eV 0) none (some (eC (.int 63))))) (.nm 2) tTrue (eB dAbs [(eB dInt [(eV 2)])]) [2]))
def r_law_hand : DE := (eLst [(eV 1), (eC (.int 0)), (eC (.int 0)), (eOp dPlus (eC (.int 449)) (eOp dMul (eC (.int 3)) (eB dLen [(eV 1)]))), (eC (.int 0))])
def f_law_hand : List D → OF := runO 1 3 b_law_hand r_law_hand
theorem ok_law_hand (T : Tx M mg base A) : FnOk P w M.K mg base (L2.CX P w) 1 A.a_law_hand A.d_law_hand ["script"] (spO M f_law_hand) := by
  refine fn_O T.F_law_hand sc_law_hand rfl rfl rfl (fun cdv A outer s H E hr => ?_) (fun cdv A outer s H E hr => ?_)
  · exact (ls_setC (i := 1) (own := [("cell", 2)]) (t := tTrue) (tt := tYes) (fun _ _ _ => yes_imp) (by decide) rfl sc_law_hand.nd rfl rfl (sw_true rfl rfl rfl (by decide +kernel)) (li_seq rfl (le_cut rfl (le_var (pv 0)) lp_none (lp_some le_int))) (blkOk_by (N := N_law_hand) (sc := defScope s_law_hand) (by decide +kernel)) (fun _ _ _ _ _ => (lg_name (i := 2) sc_law_hand.nd rfl (.inl rfl))) (fun _ _ _ _ _ => pts_nil) (fun _ _ _ _ _ => (le_abs T.m_abs (le_int1 T.m_int (le_var (pv 2))))))
  · exact (lo_lst (la_cons (le_var (pv 1)) (la_cons le_int (la_cons le_int (la_cons (le_bin op_plus od_plus le_int (le_bin op_mul od_mul le_int (le_len rfl T.m_len (le_var (pv 1))))) (la_cons le_int la_nil))))))

def w_law_deep_1 : DS := (sSet 1 (eCallM f_law_some [(.sl 0), (.fro (eLst [(eTup [(eV 1)]), (eLst [(eV 1)])]))]))
def b_law_deep_1 : DS := (sSet 1 (eCallM f_law_some [(.sl 0), (.fro (eLst [(eC .non), (eUn dNeg (eC (.int 1))), (eC (.str "A"))]))]))
def b_law_deep_2 : DS := (sFor (iB dRange [(eOp dPlus (eC (.int 12)) (eCallM f_law_draw [(.sl 0), (.fro (eC (.int 14)))]))]) (.nm 2) w_law_deep_1)
def b_law_deep_3 : DS := (sRet (eV 1))
def b_law_deep : DS := (sSeq b_law_deep_1 (sSeq b_law_deep_2 b_law_deep_3))
def f_law_deep : List SV → OF := runF 1 3 b_law_deep
theorem ok_law_deep (T : Tx M mg base A) : FnOk P w M.K mg base (L2.CX P w) 3 A.a_law_deep A.d_law_deep ["hand"] (spD M f_law_deep) := by
  refine fn_D (b := b_law_deep) T.F_law_deep sc_law_deep rfl rfl fun cdv A outer s H E hr => ?_
  exact (ls_cons (ls_set (i := 1) sc_law_deep.nd rfl (.inl rfl) (le_callM (takes_of rfl rfl rfl rfl) (ok_law_some T) (hr.mono (by decide)) (by rfl) T.g_law_some T.F_law_some.kp T.b_law_some (lm_sl (pv 0) (lm_fro (lo_le (lo_lst (la_cons le_non (la_cons (le_un un_neg ud_neg le_int) (la_cons le_str la_nil))))) lm_nil))))
    (ls_cons (ls_for (passes_of rfl) rfl (li_range1 (by rfl) T.m_range (la_cons (le_bin op_plus od_plus le_int (le_callM (takes_of rfl rfl rfl rfl) (ok_law_draw T) (hr.mono (by decide)) (by rfl) T.g_law_draw T.F_law_draw.kp T.b_law_draw (lm_sl (pv 0) (lm_fro le_int lm_nil)))) la_nil)) (lg_name (i := 2) sc_law_deep.nd rfl (.inl rfl)) (ls_one (ls_set (i := 1) sc_law_deep.nd rfl (.inl rfl) (le_callM (takes_of rfl rfl rfl rfl) (ok_law_some T) (hr.mono (by decide)) (by rfl) T.g_law_some T.F_law_some.kp T.b_law_some (lm_sl (pv 0) (lm_fro (lo_le (lo_lst (la_cons (le_tup (la_cons (le_var (pv 1)) la_nil)) (la_cons (lo_le (lo_lst (la_cons (le_var (pv 1)) la_nil))) la_nil)))) lm_nil))))))
    (ls_one (ls_ret (le_var (pv 1))))))

def b_law_none_1 : DS := (sRet (eCallM f_law_some [(.sl 0), (.fro (eLst [(eC .non), (eC (.bl true)), (eC (.str "3")), (eTup [(eC (.int 3))]), (eLst [(eC (.int 3))]), eDict0, (eUn dNeg (eC (.int 1))), (eCallM f_law_deep [(.sl 0)])]))]))
def b_law_none : DS := b_law_none_1
def f_law_none : List SV → OF := runF 1 1 b_law_none
theorem ok_law_none (T : Tx M mg base A) : FnOk P w M.K mg base (L2.CX P w) 4 A.a_law_none A.d_law_none ["hand"] (spD M f_law_none) := by
  refine fn_D (b := b_law_none) T.F_law_none sc_law_none rfl rfl fun cdv A outer s H E hr => ?_
  exact (ls_one (ls_ret (le_callM (takes_of rfl rfl rfl rfl) (ok_law_some T) (hr.mono (by decide)) (by rfl) T.g_law_some T.F_law_some.kp T.b_law_some (lm_sl (pv 0) (lm_fro (lo_le (lo_lst (la_cons le_non (la_cons le_bl (la_cons le_str (la_cons (le_tup (la_cons le_int la_nil)) (la_cons (lo_le (lo_lst (la_cons le_int la_nil))) (la_cons (lo_le lo_dict0) (la_cons (le_un un_neg ud_neg le_int) (la_cons (le_callM (takes_of rfl rfl rfl rfl) (ok_law_deep T) (hr.mono (by decide)) (by rfl) T.g_law_deep T.F_law_deep.kp T.b_law_deep (lm_sl (pv 0) lm_nil)) la_nil)))))))))) lm_nil)))))

def w_law_bits_1 : DS := (sMul ([1, 2].map .nm) [(false, (eOp dPlus (eV 1) (eC (.int 1)))), (false, (eOp dMul (eC (.int 2)) (eV 2)))])
def b_law_bits_1 : DS := (sMul [.nm 1, .nm 2] [(false, (eC (.int 0))), (false, (eC (.int 1)))])
def b_law_bits_2 : DS := (whileL (tV (eOp dLt (eV 2) (eV 0))) w_law_bits_1 100)
def b_law_bits_3 : DS := (sRet (eV 1))
def b_law_bits : DS := (sSeq b_law_bits_1 (sSeq b_law_bits_2 b_law_bits_3))
def f_law_bits : List D → OF := runP 1 3 b_law_bits
theorem ok_law_bits (T : Tx M mg base A) : FnOk P w M.K mg base (L2.CX P w) 1 A.a_law_bits A.d_law_bits ["lines"] (spP M f_law_bits) := by
  refine fn_P (b := b_law_bits) T.F_law_bits sc_law_bits rfl rfl fun cdv A outer s H E hr => ?_
  exact (ls_cons (ls_mul rfl rfl (ma_fro le_int (ma_fro le_int ma_nil)) (gm_nm (i := 1) sc_law_bits.nd rfl (.inl rfl) (gm_nm (i := 2) sc_law_bits.nd rfl (.inl rfl) gm_nil)) rfl)
    (ls_cons (ls_while (n := 100) (passes_of rfl) (lt_cmp op_lt od_lt (le_var (pv 2)) (le_var (pv 0)) (nomark _)) (ls_one (ls_par2 (i := 1) (j := 2) rfl sc_law_bits.nd rfl rfl (by decide) rfl rfl (ma_fro (le_bin op_plus od_plus (le_var (pv 1)) le_int) (ma_fro (le_bin op_mul od_mul le_int (le_var (pv 2))) ma_nil)) rfl)))
    (ls_one (ls_ret (le_var (pv 1))))))

def b_law_twos_1 : DS := (sSet 1 (eC (.int 1)))
def b_law_twos_2 : DS := (sFor (iB dRange [(eV 0)]) (.nm 2) (sSet 1 (eOp dMul (eC (.int 2)) (eV 1))))
def b_law_twos_3 : DS := (sRet (eV 1))
def b_law_twos : DS := (sSeq b_law_twos_1 (sSeq b_law_twos_2 b_law_twos_3))
def f_law_twos : List D → OF := runP 1 3 b_law_twos
theorem ok_law_twos (T : Tx M mg base A) : FnOk P w M.K mg base (L2.CX P w) 1 A.a_law_twos A.d_law_twos ["often"] (spP M f_law_twos) := by
  refine fn_P (b := b_law_twos) T.F_law_twos sc_law_twos rfl rfl fun cdv A outer s H E hr => ?_
  exact (ls_cons (ls_set (i := 1) sc_law_twos.nd rfl (.inl rfl) le_int)
    (ls_cons (ls_for (passes_of rfl) rfl (li_range1 (by rfl) T.m_range (la_cons (le_var (pv 0)) la_nil)) (lg_name (i := 2) sc_law_twos.nd rfl (.inl rfl)) (ls_one (ls_set (i := 1) sc_law_twos.nd rfl (.inl rfl) (le_bin op_mul od_mul le_int (le_var (pv 1))))))
    (ls_one (ls_ret (le_var (pv 1))))))

def w_law_way_1 : DS := (sSet 4 (eIf (tV (eOp dLt (eOp dMul (eC (.int 2)) (eV 4)) (eV 0))) (eOp dMul (eC (.int 2)) (eV 4)) (eOp dPlus (eOp dSub (eOp dMul (eC (.int 2)) (eV 4)) (eV 0)) (eC (.int 1)))))
def w_law_way_2 : DS := (sSet 7 (eOp dMod (eB dInt [(eOp dFdiv (eV 2) (eCall f_law_twos [(eOp dSub (eOp dSub (eV 5) (eC (.int 1))) (eV 6))]))]) (eC (.int 2))))
def w_law_way_3 : DS := (sSet 4 (eOp dPlus (eOp dSub (eV 4) (eOp dMod (eB dInt [(eV 4)]) (eC (.int 2)))) (eV 7)))
def w_law_way_4 : DS := (sSeq w_law_way_1 (sSeq w_law_way_2 (sSeq w_law_way_3 (sSet 3 (eOp dPlus (eV 3) (eTup [(eV 4)]))))))
def b_law_way_1 : DS := (sMul ([3, 4, 5].map .nm) [(false, (eTup [])), (false, (eV 1)), (false, (eCall f_law_bits [(eV 0)]))])
def b_law_way_2 : DS := (sFor (iB dRange [(eV 5)]) (.nm 6) w_law_way_4)
def b_law_way_3 : DS := (sRet (eV 3))
def b_law_way : DS := (sSeq b_law_way_1 (sSeq b_law_way_2 b_law_way_3))
def f_law_way : List D → OF := runP 3 8 b_law_way
theorem ok_law_way (T : Tx M mg base A) : FnOk P w M.K mg base (L2.CX P w) 2 A.a_law_way A.d_law_way ["lines", "start", "end"] (spP M f_law_way) := by
  refine fn_P (b := b_law_way) T.F_law_way sc_law_way rfl rfl fun cdv A outer s H E hr => ?_
  exact (ls_cons (ls_par3 (i := 3) (j := 4) (l := 5) rfl sc_law_way.nd rfl rfl rfl (by decide) (by decide) (by decide) rfl rfl rfl (ma_fro (le_tup la_nil) (ma_fro (le_var (pv 1)) (ma_fro (le_call (takes_of rfl rfl rfl rfl) (ok_law_bits T) (hr.mono (by decide)) (by rfl) T.g_law_bits T.F_law_bits.kp T.b_law_bits (la_cons (le_var (pv 0)) la_nil)) ma_nil))) rfl)
    (ls_cons (ls_for (passes_of rfl) rfl (li_range1 (by rfl) T.m_range (la_cons (le_var (pv 5)) la_nil)) (lg_name (i := 6) sc_law_way.nd rfl (.inl rfl)) (ls_cons (ls_set (i := 4) sc_law_way.nd rfl (.inl rfl) (le_ife (lt_cmp op_lt od_lt (le_bin op_mul od_mul le_int (le_var (pv 4))) (le_var (pv 0)) (nomark _)) (le_bin op_mul od_mul le_int (le_var (pv 4))) (le_bin op_plus od_plus (le_bin op_sub od_sub (le_bin op_mul od_mul le_int (le_var (pv 4))) (le_var (pv 0))) le_int)))
    (ls_cons (ls_set (i := 7) sc_law_way.nd rfl (.inl rfl) (le_bin op_modN od_mod (le_int1 T.m_int (le_bin op_fdivN od_fdiv (le_var (pv 2)) (le_call (takes_of rfl rfl rfl rfl) (ok_law_twos T) (hr.mono (by decide)) (by rfl) T.g_law_twos T.F_law_twos.kp T.b_law_twos (la_cons (le_bin op_sub od_sub (le_bin op_sub od_sub (le_var (pv 5)) le_int) (le_var (pv 6))) la_nil)))) le_int))
    (ls_cons (ls_set (i := 4) sc_law_way.nd rfl (.inl rfl) (le_bin op_plus od_plus (le_bin op_sub od_sub (le_var (pv 4)) (le_bin op_modN od_mod (le_int1 T.m_int (le_var (pv 4))) le_int)) (le_var (pv 7))))
    (ls_one (ls_set (i := 3) sc_law_way.nd rfl (.inl rfl) (le_bin op_plus od_plus (le_var (pv 3)) (le_tup (la_cons (le_var (pv 4)) la_nil)))))))))
    (ls_one (ls_ret (le_var (pv 3))))))

def b_law_size_1 : DS := (sRet (eCallM f_law_some [(.sl 0), (.fro (eLst [(eC (.int 2)), (eC (.int 4)), (eC (.int 4)), (eC (.int 8)), (eC (.int 8)), (eC (.int 16))]))]))
def b_law_size : DS := b_law_size_1
def f_law_size : List SV → OF := runF 1 1 b_law_size
theorem ok_law_size (T : Tx M mg base A) : FnOk P w M.K mg base (L2.CX P w) 3 A.a_law_size A.d_law_size ["hand"] (spD M f_law_size) := by
  refine fn_D (b := b_law_size) T.F_law_size sc_law_size rfl rfl fun cdv A outer s H E hr => ?_
  exact (ls_one (ls_ret (le_callM (takes_of rfl rfl rfl rfl) (ok_law_some T) (hr.mono (by decide)) (by rfl) T.g_law_some T.F_law_some.kp T.b_law_some (lm_sl (pv 0) (lm_fro (lo_le (lo_lst (la_cons le_int (la_cons le_int (la_cons le_int (la_cons le_int (la_cons le_int (la_cons le_int la_nil)))))))) lm_nil)))))
-- _law_word: not printed
def su_law_word (a : Addr) (c : String) : DS := (sSeq (sSet 3 (eLst [(eIsE 2 a (decide (c = "NoNumber")))])) (sSet 1 (eIf (tAnd (tV (eOp dEq (eMe D.isL (dCount false) (eV 3) [(eC (.bl true))]) (eC (.int 1)))) (tV (eIsE 2 a true))) (eMe D.isL (dIndex false) (eV 3) [(eC (.bl true))]) (eC (.str "other")))))
theorem pv_law_word : Vis (defScope s_law_word) "asked" := by first | exact Or.inl rfl | exact Or.inr (Or.inl rfl) | exact Or.inr (Or.inr rfl)
theorem pv_w_law_word : Vis (defScope s_law_word) "word" := by first | exact Or.inl rfl | exact Or.inr (Or.inl rfl) | exact Or.inr (Or.inr rfl)
theorem gives_law_word (T : Tx M mg base A) {N : List Str} {qual : Str} {scope : Scope} {f : Addr} {cd : Value} {A1 : Around} {outer : List Env} {s1 : Shared} {H1 : Hp} {E1 : XK} {k : Nat} (hr : Room (k + 1) (cxOf (L2.CX P w) P w M.K mg base N qual scope f cd A1 outer s1 H1 E1).A) (cdv : Value) (q : Str) :
    LamX.GivesTo (cxOf (L2.CX P w) P w M.K mg base N qual scope f cd A1 outer s1 H1 E1) N_law_word "_law_word" (defScope s_law_word) A.a_law_word cdv (defBody s_law_word) "asked" q (TTw M wd_law_word (.str "let")) := by
  refine gives_A (cs := cs_law_word) (su := su_law_word) (iw := 1) (ie := 2) (CW := M.Cn "WireError") sc_law_word.nd (fun _ => rfl) (fun _ => rfl) rfl (by decide) (by decide) (by decide) rfl pv_w_law_word (by decide) (by decide) rfl rfl rfl T.x_WireError (by decide) (fun _ _ => rfl) ?_ ?_ ?_ ?_
  · intro c fs w h
    unfold wd_law_word at h
    cases fs with
    | nil =>
      simp only [List.isEmpty_nil, if_true] at h
      refine ⟨?_, rfl⟩
      cases e : cs_law_word.idxOf? c with
      | none => rw [e] at h; cases h
      | some i => by_cases hm : c ∈ cs_law_word; exact hm; rw [List.idxOf?_eq_none_iff.mpr hm] at e; cases e
    | cons x y => simp at h
  · intro c hc; exact T.exm_law_word c hc
  · intro s H c hc a oe pn hz hf
    have hu := (hr.deeper (envOfC "_law_word" (defScope s_law_word) s.heap.objs.size A.a_law_word cdv)).units
    refine ls_cons (ls_set (i := 3) sc_law_word.nd rfl (.inl rfl) (lo_le (lo_lst (la_cons (le_isE (T.ex_law_word c hc) hz hf (by rfl) T.m_isinstance (pv 2) (pe_glob (v := .ref (M.Cn "NoNumber")) (by rfl) T.x_NoNumber rfl) (fun _ h => h) (T.kit_law_word c hc "NoNumber" (by decide))) la_nil) (by show 1 ≤ 1000; decide)))) (ls_one (ls_set (i := 1) sc_law_word.nd rfl (.inl rfl) (le_ife (lt_and (lt_cmp (op_eqP hu) od_eq (le_countL rfl hu (le_var (pv 3)) (la_cons le_bl la_nil)) le_int (nomark _)) (lt_and1 (lt_val (le_isE (T.ex_law_word c hc) hz hf (by rfl) T.m_isinstance (pv 2) (pe_bltn (v := .ty "ValueError") (by rfl) T.m_ValueError PyProof.Rows.Boot.«ValueError» rfl) (fun _ h => h) (T.kve_law_word c hc))))).pt (le_indexL rfl hu (le_var (pv 3)) (la_cons le_bl la_nil)) le_str)))
  · intro a c hc
    have h0 : rhoH 4 2 a = [.no, .no, .fro (.ref a), .no] := rfl
    simp only [cs_law_word, List.mem_cons, List.not_mem_nil, or_false] at hc
    rcases hc with rfl
    · exact ⟨[.no, .fro (.int 0), .fro (.ref a), .fro (.lst [.bl true])], .int 0, by rw [show N_law_word.length = 4 from rfl, h0]; simp [su_law_word, sSeq, sSet, OE.st, eLst, aL, setF, DL.notPar, eIf, DL.tAnd, tV, OT.bind, OE.test, eOp, eMe, eV, D.isL, aL, eC, OA.bind, OE.bind, OE.of, dCount, dIndex, D.sh, D.shs, D.eqv, dEq, eIsE, plc, List.findIdx?_cons], rfl, rfl⟩

def w_law_1 : DS := (sMul [.nm 5, .nm 6, .nm 7] [(false, (eCallM f_law_draw [(.sl 1), (.fro (eV 4))])), (false, (eCallM f_law_draw [(.sl 1), (.fro (eV 4))])), (false, (eCallM f_law_draw [(.sl 1), (.fro (eV 4))]))])
def w_law_2 : DS := (sSet 9 (eLst [(eCall f_stages [(eV 4)]), (eCall f_single_way [(eV 4), (eV 5), (eV 6)])]))
def w_law_3 : DS := (sIf (tOr (tV (eOp dNe (eOp dIx (eV 8) (eUn dNeg (eC (.int 1)))) (eV 6))) (tNot (tV (eCall (f_law_is 45) [(eV 9), (eLst [(eCall f_law_bits [(eV 4)]), (eV 8)])])))) (sRet (eC (.bl false))) sNil)
def w_law_4 : DS := (sSet 10 (eComp (iB dRange [(eV 4)]) (.nm 16) tTrue (eCall f_single_way [(eV 4), (eV 5), (eV 16)]) [16]))
def w_law_5 : DS := (sIf (tOr (tV (eOp dNe (eUn dLenSet (eV 10)) (eV 4))) (tV (eOp dNe (eV 10) (eComp (iB dRange [(eV 4)]) (.nm 16) tTrue (eCall f_law_way [(eV 4), (eV 5), (eV 16)]) [16])))) (sRet (eC (.bl false))) sNil)
def w_law_6 : DS := (sSet 12 (eComp (iB dZip [(eV 8), (eV 11)]) (.tp [(.nm 17), (.nm 18)]) tTrue (eOp dEq (eV 17) (eV 18)) [17, 18]))
def w_law_7 : DS := (sIf (tNot (tV (eB dAll [(eComp (iB dZip [(eV 12), (eCut dCut (eV 12) (some (eC (.int 1))) none)]) (.tp [(.nm 17), (.nm 18)]) tTrue (eOr (eUn dNot (eV 17)) (eV 18)) [17, 18])]))) (sRet (eC (.bl false))) sNil)
def w_law_8 : DS := (sSet 13 (eCallM f_law_some [(.sl 1), (.fro (eLst [(eC (.int 0)), (eC (.int 1)), (eC (.int 3)), (eC (.int 6)), (eC (.int 32)), (eCallM f_law_none [(.sl 1)])]))]))
def w_law_9 : DS := (sSet 14 (eCallM f_law_some [(.sl 1), (.fro (eLst [(eV 4), (eCallM f_law_none [(.sl 1)])]))]))
def w_law_10 : DS := (sSetO 15 (eLst [(eLam wd_law_word (.str "let") (eCall f_stages [(eV 13)]))]))
def w_law_11 : DS := (sDrop (eMutP D.isL dAppend 15 [(eLam wd_law_word (.str "let") (eCall f_single_way [(eV 13), (eV 14), (eV 14)]))]))
def w_law_12 : DS := (sDrop (eMutP D.isL dAppend 15 [(eLam wd_law_word (.str "let") (eCall f_single_way [(eV 4), (eV 14), (eC (.int 0))]))]))
def w_law_13 : DS := (sDrop (eMutP D.isL dAppend 15 [(eLam wd_law_word (.str "let") (eCall f_single_way [(eV 4), (eC (.int 0)), (eV 14)]))]))
def w_law_14 : DS := (sIf (tBor [15] (tV (eOp dNe (eV 15) (eOp dRep (eLst [(eC (.int 0))]) (eC (.int 4)))))) (sRet (eC (.bl false))) sNil)
def w_law_15 : DS := (sSeq (sSet 4 (eCallM f_law_size [(.sl 1)])) (sSeq w_law_1 (sSeq (sSet 8 (eCall f_law_way [(eV 4), (eV 5), (eV 6)])) (sSeq w_law_2 (sSeq w_law_3 (sSeq w_law_4 (sSeq w_law_5 (sSeq (sSet 11 (eCall f_single_way [(eV 4), (eV 7), (eV 6)])) (sSeq w_law_6 (sSeq w_law_7 (sSeq w_law_8 (sSeq w_law_9 (sSeq w_law_10 (sSeq w_law_11 (sSeq w_law_12 (sSeq w_law_13 w_law_14))))))))))))))))
def b_law_1 : DS := (sSetO 1 (eCallO f_law_hand [(eV 0)]))
def b_law_2 : DS := (sSet 2 (eLst [(eCall f_stages [(eC (.int 8))]), (eCall f_single_way [(eC (.int 4)), (eC (.int 2)), (eC (.int 1))]), (eCall f_single_way [(eC (.int 8)), (eC (.int 5)), (eC (.int 3))]), (eCall f_single_way [(eC (.int 2)), (eC (.int 1)), (eC (.int 0))]), (eCall f_stages [(eC (.int 2))])]))
def b_law_3 : DS := (sIf (tNot (tV (eCall (f_law_is 45) [(eV 2), (eLst [(eC (.int 3)), (eTup [(eC (.int 0)), (eC (.int 1))]), (eTup [(eC (.int 2)), (eC (.int 5)), (eC (.int 3))]), (eTup [(eC (.int 0))]), (eC (.int 1))])]))) (sRet (eC (.bl false))) sNil)
def b_law_4 : DS := (sFor (iB dRange [(eC (.int 8))]) (.nm 3) w_law_15)
def b_law_5 : DS := (sRet (eC (.bl true)))
def b_law : DS := (sSeq b_law_1 (sSeq b_law_2 (sSeq b_law_3 (sSeq b_law_4 b_law_5))))
def f_law : List D → OF := runP 1 19 b_law
abbrev kl_law : Nat := 46
theorem ok_law (T : Tx M mg base A) : FnOk P w M.K mg base (L2.CX P w) 49 A.a_law A.d_law ["script"] (spP M f_law) := by
  have TB := T.T_law
  refine fn_PC (b := b_law) T.C_law sc_law rfl rfl fun A outer s H E hr => ?_
  exact (ls_cons (ls_setO (i := 1) sc_law.nd rfl (.inl rfl) (lo_call (takes_of rfl rfl rfl rfl) (ok_law_hand T) (hr.mono (by decide)) (by rfl) T.g_law_hand T.F_law_hand.kp T.b_law_hand (la_cons (le_var (pv 0)) la_nil)))
    (ls_cons (ls_set (i := 2) sc_law.nd rfl (.inl rfl) (lo_le (lo_lst (la_cons (le_call (takes_of rfl rfl rfl rfl) (ok_stages T) (hr.mono (by decide)) (by rfl) T.g_stages T.F_stages.kp T.b_stages (la_cons le_int la_nil)) (la_cons (le_call (takes_of rfl rfl rfl rfl) (ok_single_way T) (hr.mono (by decide)) (by rfl) T.g_single_way T.F_single_way.kp T.b_single_way (la_cons le_int (la_cons le_int (la_cons le_int la_nil)))) (la_cons (le_call (takes_of rfl rfl rfl rfl) (ok_single_way T) (hr.mono (by decide)) (by rfl) T.g_single_way T.F_single_way.kp T.b_single_way (la_cons le_int (la_cons le_int (la_cons le_int la_nil)))) (la_cons (le_call (takes_of rfl rfl rfl rfl) (ok_single_way T) (hr.mono (by decide)) (by rfl) T.g_single_way T.F_single_way.kp T.b_single_way (la_cons le_int (la_cons le_int (la_cons le_int la_nil)))) (la_cons (le_call (takes_of rfl rfl rfl rfl) (ok_stages T) (hr.mono (by decide)) (by rfl) T.g_stages T.F_stages.kp T.b_stages (la_cons le_int la_nil)) la_nil))))))))
    (ls_cons (ls_if (lt_not (lt_val (le_call (takes_of rfl rfl rfl rfl) (ok_law_is T 45) (hr.mono (by decide)) (by rfl) T.g_law_is T.F_law_is.kp T.b_law_is (la_cons (le_var (pv 2)) (la_cons (lo_le (lo_lst (la_cons le_int (la_cons (le_tup (la_cons le_int (la_cons le_int la_nil))) (la_cons (le_tup (la_cons le_int (la_cons le_int (la_cons le_int la_nil)))) (la_cons (le_tup (la_cons le_int la_nil)) (la_cons le_int la_nil))))))) la_nil))))) (ls_one (ls_ret le_bl)) ls_nil)
    (ls_cons (ls_for (passes_of rfl) rfl (li_range1 (by rfl) T.m_range (la_cons le_int la_nil)) (lg_name (i := 3) sc_law.nd rfl (.inl rfl)) (ls_cons (ls_set (i := 4) sc_law.nd rfl (.inr rfl) (le_callM (takes_of rfl rfl rfl rfl) (ok_law_size T) (hr.mono (by decide)) (by rfl) T.g_law_size T.F_law_size.kp T.b_law_size (lm_sl (pv 1) lm_nil)))
    (ls_cons (ls_mul rfl rfl (ma_fro (le_callM (takes_of rfl rfl rfl rfl) (ok_law_draw T) (hr.mono (by decide)) (by rfl) T.g_law_draw T.F_law_draw.kp T.b_law_draw (lm_sl (pv 1) (lm_fro (le_var (pv 4)) lm_nil))) (ma_fro (le_callM (takes_of rfl rfl rfl rfl) (ok_law_draw T) (hr.mono (by decide)) (by rfl) T.g_law_draw T.F_law_draw.kp T.b_law_draw (lm_sl (pv 1) (lm_fro (le_var (pv 4)) lm_nil))) (ma_fro (le_callM (takes_of rfl rfl rfl rfl) (ok_law_draw T) (hr.mono (by decide)) (by rfl) T.g_law_draw T.F_law_draw.kp T.b_law_draw (lm_sl (pv 1) (lm_fro (le_var (pv 4)) lm_nil))) ma_nil))) (gm_nm (i := 5) sc_law.nd rfl (.inr rfl) (gm_nm (i := 6) sc_law.nd rfl (.inl rfl) (gm_nm (i := 7) sc_law.nd rfl (.inl rfl) gm_nil))) rfl)
    (ls_cons (ls_set (i := 8) sc_law.nd rfl (.inl rfl) (le_call (takes_of rfl rfl rfl rfl) (ok_law_way T) (hr.mono (by decide)) (by rfl) T.g_law_way T.F_law_way.kp T.b_law_way (la_cons (le_var (pv 4)) (la_cons (le_var (pv 5)) (la_cons (le_var (pv 6)) la_nil)))))
    (ls_cons (ls_set (i := 9) sc_law.nd rfl (.inl rfl) (lo_le (lo_lst (la_cons (le_call (takes_of rfl rfl rfl rfl) (ok_stages T) (hr.mono (by decide)) (by rfl) T.g_stages T.F_stages.kp T.b_stages (la_cons (le_var (pv 4)) la_nil)) (la_cons (le_call (takes_of rfl rfl rfl rfl) (ok_single_way T) (hr.mono (by decide)) (by rfl) T.g_single_way T.F_single_way.kp T.b_single_way (la_cons (le_var (pv 4)) (la_cons (le_var (pv 5)) (la_cons (le_var (pv 6)) la_nil)))) la_nil)))))
    (ls_cons (ls_if (lt_or (lt_cmp (op_neP hr.units) od_ne (le_ix rfl (le_var (pv 8)) (le_un un_neg ud_neg le_int)) (le_var (pv 6)) (nomark _)) (lt_or1 (lt_not (lt_val (le_call (takes_of rfl rfl rfl rfl) (ok_law_is T 45) (hr.mono (by decide)) (by rfl) T.g_law_is T.F_law_is.kp T.b_law_is (la_cons (le_var (pv 9)) (la_cons (lo_le (lo_lst (la_cons (le_call (takes_of rfl rfl rfl rfl) (ok_law_bits T) (hr.mono (by decide)) (by rfl) T.g_law_bits T.F_law_bits.kp T.b_law_bits (la_cons (le_var (pv 4)) la_nil)) (la_cons (le_var (pv 8)) la_nil)))) la_nil))))))).pt (ls_one (ls_ret le_bl)) ls_nil)
    (ls_cons (ls_setC (i := 10) (own := [("goal", 16)]) (t := tTrue) (tt := tYes) (fun _ _ _ => yes_imp) (by decide) rfl sc_law.nd rfl rfl (sw_true rfl rfl rfl (by decide +kernel)) (li_range1 (by rfl) T.m_range (la_cons (le_var (pv 4)) la_nil)) (blkOk_by (N := N_law) (sc := defScope s_law) (by decide +kernel)) (fun _ _ _ _ _ => (lg_name (i := 16) sc_law.nd rfl (.inl rfl))) (fun _ _ _ _ _ => pts_nil) (fun _ _ _ _ _ => (le_call takes0 (ok_single_way T) (hr.mono (by decide)) (by rfl) T.g_single_way T.F_single_way.kp T.b_single_way (la_cons (le_var (pv 4)) (la_cons (le_var (pv 5)) (la_cons (le_var (pv 16)) la_nil))))))
    (ls_cons (ls_if (lt_or (lt_cmp (op_neP hr.units) od_ne (le_lenSet rfl rfl hr.units T.m_len T.m_set (le_var (pv 10))) (le_var (pv 4)) (nomark _)) (lt_or1 (lt_cmp (op_neP hr.units) od_ne (le_var (pv 10)) (lo_le (lo_comp0 (own := [("goal", 16)]) rfl sc_law.nd (li_range1 (by rfl) T.m_range (la_cons (le_var (pv 4)) la_nil)) (blkOk_by (N := N_law) (sc := defScope s_law) (by decide +kernel)) (by decide) (fun _ _ _ _ _ => (lg_name (i := 16) sc_law.nd rfl (.inl rfl))) (fun _ _ _ _ _ => (le_call takes0 (ok_law_way T) (hr.mono (by decide)) (by rfl) T.g_law_way T.F_law_way.kp T.b_law_way (la_cons (le_var (pv 4)) (la_cons (le_var (pv 5)) (la_cons (le_var (pv 16)) la_nil))))))) (nomark _)))).pt (ls_one (ls_ret le_bl)) ls_nil)
    (ls_cons (ls_set (i := 11) sc_law.nd rfl (.inl rfl) (le_call (takes_of rfl rfl rfl rfl) (ok_single_way T) (hr.mono (by decide)) (by rfl) T.g_single_way T.F_single_way.kp T.b_single_way (la_cons (le_var (pv 4)) (la_cons (le_var (pv 7)) (la_cons (le_var (pv 6)) la_nil)))))
    (ls_cons (ls_setC (i := 12) (own := [("one", 17), ("two", 18)]) (t := tTrue) (tt := tYes) (fun _ _ _ => yes_imp) (by decide) rfl sc_law.nd rfl rfl (sw_true rfl rfl rfl (by decide +kernel)) (li_zip rfl (by rfl) T.m_zip (la_cons (le_var (pv 8)) (la_cons (le_var (pv 11)) la_nil))) (blkOk_by (N := N_law) (sc := defScope s_law) (by decide +kernel)) (fun _ _ _ _ _ => (lg_tup rfl rfl (lgs_cons (lg_name (i := 17) sc_law.nd rfl (.inl rfl)) (lgs_cons (lg_name (i := 18) sc_law.nd rfl (.inl rfl)) lgs_nil)) rfl)) (fun _ _ _ _ _ => pts_nil) (fun _ _ _ _ _ => (le_cmp (op_eqP hr.units) od_eq (le_var (pv 17)) (le_var (pv 18)) (nomark _))))
    (ls_cons (ls_if (lt_not (lt_val (le_all rfl rfl T.m_all (lo_le (lo_comp0 (own := [("one", 17), ("two", 18)]) rfl sc_law.nd (li_zip rfl (by rfl) T.m_zip (la_cons (le_var (pv 12)) (la_cons (le_cut rfl (le_var (pv 12)) (lp_some le_int) lp_none) la_nil))) (blkOk_by (N := N_law) (sc := defScope s_law) (by decide +kernel)) (by decide) (fun _ _ _ _ _ => (lg_tup rfl rfl (lgs_cons (lg_name (i := 17) sc_law.nd rfl (.inl rfl)) (lgs_cons (lg_name (i := 18) sc_law.nd rfl (.inl rfl)) lgs_nil)) rfl)) (fun _ _ _ _ _ => (le_or (le_not (le_var (pv 17))) (le_one (le_var (pv 18)))))))))) (ls_one (ls_ret le_bl)) ls_nil)
    (ls_cons (ls_set (i := 13) sc_law.nd rfl (.inr rfl) (le_callM (takes_of rfl rfl rfl rfl) (ok_law_some T) (hr.mono (by decide)) (by rfl) T.g_law_some T.F_law_some.kp T.b_law_some (lm_sl (pv 1) (lm_fro (lo_le (lo_lst (la_cons le_int (la_cons le_int (la_cons le_int (la_cons le_int (la_cons le_int (la_cons (le_callM (takes_of rfl rfl rfl rfl) (ok_law_none T) (hr.mono (by decide)) (by rfl) T.g_law_none T.F_law_none.kp T.b_law_none (lm_sl (pv 1) lm_nil)) la_nil)))))))) lm_nil))))
    (ls_cons (ls_set (i := 14) sc_law.nd rfl (.inr rfl) (le_callM (takes_of rfl rfl rfl rfl) (ok_law_some T) (hr.mono (by decide)) (by rfl) T.g_law_some T.F_law_some.kp T.b_law_some (lm_sl (pv 1) (lm_fro (lo_le (lo_lst (la_cons (le_var (pv 4)) (la_cons (le_callM (takes_of rfl rfl rfl rfl) (ok_law_none T) (hr.mono (by decide)) (by rfl) T.g_law_none T.F_law_none.kp T.b_law_none (lm_sl (pv 1) lm_nil)) la_nil)))) lm_nil))))
    (ls_cons (ls_setO (i := 15) sc_law.nd rfl (.inl rfl) (lo_lst (la_cons (le_lam (k := kl_law) rfl T.F_law_word T.g_law_word T.b_law_word sc_law_word rfl pv_law_word (fun cdv => gives_law_word T hr cdv _) (fun _ => .str _) TB rfl T.tb_law T.tu_law (hr.mono (by decide)) (LamX.lamS_by (sc := defScope s_law) (by decide +kernel)) (fun A outer s H E f c' hr => (le_call (takes_of rfl rfl rfl rfl) (ok_stages T) (hr.mono (by decide)) (by rfl) T.g_stages T.F_stages.kp T.b_stages (la_cons (le_var (pv 13)) la_nil)))) la_nil)))
    (ls_cons (ls_drop (le_append (pv 15) (la_cons (le_lam (k := kl_law) rfl T.F_law_word T.g_law_word T.b_law_word sc_law_word rfl pv_law_word (fun cdv => gives_law_word T hr cdv _) (fun _ => .str _) TB rfl T.tb_law T.tu_law (hr.mono (by decide)) (LamX.lamS_by (sc := defScope s_law) (by decide +kernel)) (fun A outer s H E f c' hr => (le_call (takes_of rfl rfl rfl rfl) (ok_single_way T) (hr.mono (by decide)) (by rfl) T.g_single_way T.F_single_way.kp T.b_single_way (la_cons (le_var (pv 13)) (la_cons (le_var (pv 14)) (la_cons (le_var (pv 14)) la_nil)))))) la_nil)))
    (ls_cons (ls_drop (le_append (pv 15) (la_cons (le_lam (k := kl_law) rfl T.F_law_word T.g_law_word T.b_law_word sc_law_word rfl pv_law_word (fun cdv => gives_law_word T hr cdv _) (fun _ => .str _) TB rfl T.tb_law T.tu_law (hr.mono (by decide)) (LamX.lamS_by (sc := defScope s_law) (by decide +kernel)) (fun A outer s H E f c' hr => (le_call (takes_of rfl rfl rfl rfl) (ok_single_way T) (hr.mono (by decide)) (by rfl) T.g_single_way T.F_single_way.kp T.b_single_way (la_cons (le_var (pv 4)) (la_cons (le_var (pv 14)) (la_cons le_int la_nil)))))) la_nil)))
    (ls_cons (ls_drop (le_append (pv 15) (la_cons (le_lam (k := kl_law) rfl T.F_law_word T.g_law_word T.b_law_word sc_law_word rfl pv_law_word (fun cdv => gives_law_word T hr cdv _) (fun _ => .str _) TB rfl T.tb_law T.tu_law (hr.mono (by decide)) (LamX.lamS_by (sc := defScope s_law) (by decide +kernel)) (fun A outer s H E f c' hr => (le_call (takes_of rfl rfl rfl rfl) (ok_single_way T) (hr.mono (by decide)) (by rfl) T.g_single_way T.F_single_way.kp T.b_single_way (la_cons (le_var (pv 4)) (la_cons le_int (la_cons (le_var (pv 14)) la_nil)))))) la_nil)))
    (ls_one (ls_if (lt_bor (lt_cmp (op_neP hr.units) od_ne (le_var (pv 15)) (lo_le (lo_bin op_rep oo_rep (lo_le (lo_lst (la_cons le_int la_nil))) le_int)) (nomark _))) (ls_one (ls_ret le_bl)) ls_nil)))))))))))))))))))
    (ls_one (ls_ret le_bl))))))
end
end K63

set_option Elab.async false
set_option linter.all false
set_option maxRecDepth 100000
set_option maxHeartbeats 400000
namespace K63
open PySem PySem.Spec PyProof.Rows L2 DL
def isI : D → Bool | .int _ => true | _ => false
def within (a b : Int) : D → Bool | .int i => decide (a ≤ i) && decide (i ≤ b) | _ => false
def okL : D → Bool | .int i => decide (i = 2) || decide (i = 4) || decide (i = 8) || decide (i = 16) | _ => false
theorem L_int (d : D) (h : d.ty.isSome = true) : f_is_integer [d] = .ret (.bl (isI d)) [] := by
  cases d with
  | dct b l => cases b <;> first | rfl | (simp [D.ty] at h)
  | _ => first | rfl | (simp [D.ty] at h)
theorem L_within (d : D) (h : d.ty.isSome = true) (a b : Int) : f_is_within [d, .int a, .int b] = .ret (.bl (within a b d)) [] := by
  have e := L_int d h
  have key : f_is_within [d, .int a, .int b] = OS.fin 3 (b_is_within [.fro d, .fro (.int a), .fro (.int b)]) := rfl
  rw [key]
  simp only [b_is_within, b_is_within_1, sRet, eAnd, eCall, aL, eV, List.getElem?_cons_zero, OA.bind, e, OE.bind]
  cases d <;> simp [isI, within, OE.st, OS.fin, parsD, eChain, OE.bind, eV, dLe, OE.of]
  rename_i i
  by_cases h1 : a ≤ i <;> simp [h1, parsD, OE.of, dLe]
theorem L_number (d : D) (h : d.ty.isSome = true) (a b : Int) : f_check_number [d, .int a, .int b] = if within a b d then .ret .non [] else .exc "NoNumber" [] [] := by
  have e := L_within d h a b
  have key : f_check_number [d, .int a, .int b] = OS.fin 3 (b_check_number [.fro d, .fro (.int a), .fro (.int b)]) := rfl
  rw [key]
  simp only [b_check_number, b_check_number_1, sIf, DL.tNot, tV, eCall, aL, eV, List.getElem?_cons_zero, List.getElem?_cons_succ, OA.bind, e, OE.bind, OE.test, OT.bind, OT.st]
  cases within a b d <;> rfl
theorem L_lines (d : D) (h : d.ty.isSome = true) : f_check_lines [d] = if okL d then .ret .non [] else .exc "NoNumber" [] [] := by
  have e := L_within d h 2 16
  have key : f_check_lines [d] = OS.fin 1 (b_check_lines [.fro d]) := rfl
  rw [key]
  simp only [b_check_lines, b_check_lines_1, sIf, DL.tNot, DL.tOr, tV, eCall, aL, eV, eC, List.getElem?_cons_zero, OA.bind, e, OE.bind, OE.test, OT.bind, OT.st]
  by_cases hk : okL d = true
  · obtain ⟨i, rfl⟩ : ∃ i, d = .int i := by cases d <;> first | exact ⟨_, rfl⟩ | (simp [okL] at hk)
    simp only [okL, Bool.or_eq_true, decide_eq_true_eq] at hk
    rcases hk with ((rfl | rfl) | rfl) | rfl <;> rfl
  · have hk2 : okL d = false := by simpa using hk
    clear hk
    rw [hk2]
    cases d <;> first | rfl | skip
    rename_i i
    simp only [okL, Bool.or_eq_false_iff, decide_eq_false_iff_not] at hk2
    obtain ⟨⟨⟨a1, a2⟩, a3⟩, a4⟩ := hk2
    have b1 : (2 == i) = false := by simpa using fun z => a1 z.symm
    have b2 : (4 == i) = false := by simpa using fun z => a2 z.symm
    have b3 : (8 == i) = false := by simpa using fun z => a3 z.symm
    have b4 : (16 == i) = false := by simpa using fun z => a4 z.symm
    cases hw : within 2 16 (D.int i) <;> simp [OE.test, sRaise, OS.fin, parsD, eOp, eV, eC, OE.bind, OE.of, dIn, c_LINES, D.items, D.sh, D.shs, mem, D.eqv, b1, b2, b3, b4]
theorem L_stages_bad (d : D) (h : d.ty.isSome = true) (hb : okL d = false) : f_stages [d] = .exc "NoNumber" [] [] := by
  have e := L_lines d h
  rw [hb] at e
  have key : f_stages [d] = OS.fin 1 (b_stages [.fro d, .no]) := rfl
  rw [key]
  simp [b_stages, b_stages_1, sSeq, sDrop, eCall, aL, eV, OA.bind, e, OE.st, OS.fin, parsD]
theorem L_way_bad (d x y : D) (h : d.ty.isSome = true) (hb : okL d = false) : f_single_way [d, x, y] = .exc "NoNumber" [] [] := by
  have e := L_lines d h
  rw [hb] at e
  have key : f_single_way [d, x, y] = OS.fin 3 (b_single_way [.fro d, .fro x, .fro y]) := rfl
  rw [key]
  simp [b_single_way, b_single_way_1, sSeq, sDrop, eCall, aL, eV, OA.bind, e, OE.st, OS.fin, parsD]
theorem L_way_bad1 (n : Int) (x y : D) (hn : okL (.int n) = true) (h : x.ty.isSome = true) (hb : within 0 (n - 1) x = false) : f_single_way [.int n, x, y] = .exc "NoNumber" [] [] := by
  have e := L_lines (.int n) rfl
  have e2 := L_number x h 0 (n - 1)
  rw [hn] at e
  rw [hb] at e2
  have key : f_single_way [.int n, x, y] = OS.fin 3 (b_single_way [.fro (.int n), .fro x, .fro y]) := rfl
  rw [key]
  simp [b_single_way, b_single_way_1, b_single_way_2, sSeq, sDrop, eCall, aL, eV, eC, eOp, dSub, OE.bind, OE.of, OA.bind, e, e2, OE.st, OS.fin, parsD]
theorem L_way_bad2 (n m : Int) (y : D) (hn : okL (.int n) = true) (hm : within 0 (n - 1) (.int m) = true) (h : y.ty.isSome = true) (hb : within 0 (n - 1) y = false) : f_single_way [.int n, .int m, y] = .exc "NoNumber" [] [] := by
  have e := L_lines (.int n) rfl
  have e1 := L_number (.int m) rfl 0 (n - 1)
  have e2 := L_number y h 0 (n - 1)
  rw [hn] at e
  rw [hm] at e1
  rw [hb] at e2
  have key : f_single_way [.int n, .int m, y] = OS.fin 3 (b_single_way [.fro (.int n), .fro (.int m), .fro y]) := rfl
  rw [key]
  simp [b_single_way, b_single_way_1, b_single_way_2, b_single_way_3, sSeq, sDrop, eCall, aL, eV, eC, eOp, dSub, OE.bind, OE.of, OA.bind, e, e1, e2, OE.st, OS.fin, parsD]
/-! ### the ways, by going through all -/
def wayI (n : Nat) : Nat → Int → Int → List Int
  | 0, _, _ => []
  | k + 1, l, e =>
    let l1 := (2 * l) % n + (2 * l) / n
    let l2 := l1 - l1 % 2 + (e / (2 ^ k : Nat)) % 2
    l2 :: wayI n k l2 e
def lg : Nat → Nat | 2 => 1 | 4 => 2 | 8 => 3 | 16 => 4 | _ => 0
def way (n : Nat) (s e : Nat) : List Int := wayI n (lg n) s e
def sizes : List Nat := [2, 4, 8, 16]
def beqI : List D → List Int → Bool
  | [], [] => true
  | .int i :: l, j :: m => i == j && beqI l m
  | _, _ => false
theorem beqI_eq : ∀ {l : List D} {m : List Int}, beqI l m = true → l = m.map .int
  | [], [], _ => rfl
  | .int i :: l, j :: m, h => by
    simp only [beqI, Bool.and_eq_true, beq_iff_eq] at h
    rw [h.1, beqI_eq h.2]; rfl
  | [], _ :: _, h => by simp [beqI] at h
  | .int i :: l, [], h => by simp [beqI] at h
  | .non :: _, _, h => by simp [beqI] at h
  | .bl _ :: _, _, h => by simp [beqI] at h
  | .str _ :: _, _, h => by simp [beqI] at h
  | .ref _ :: _, _, h => by simp [beqI] at h
  | .tup _ :: _, _, h => by simp [beqI] at h
  | .lst _ :: _, _, h => by simp [beqI] at h
  | .dct _ _ :: _, _, h => by simp [beqI] at h
  | .scr _ :: _, _, h => by simp [beqI] at h
def isWay (o : OF) (m : List Int) : Bool := match o with | .ret (.tup l) [] => beqI l m | _ => false
theorem isWay_eq {o : OF} {m : List Int} (h : isWay o m = true) : o = .ret (.tup (m.map .int)) [] := by
  unfold isWay at h
  split at h
  · rw [beqI_eq h]
  · cases h
def isNum (o : OF) (m : Int) : Bool := match o with | .ret (.int l) [] => l == m | _ => false
theorem isNum_eq {o : OF} {m : Int} (h : isNum o m = true) : o = .ret (.int m) [] := by
  unfold isNum at h
  split at h
  · rw [beq_iff_eq.mp h]
  · cases h
theorem chk_way : sizes.all (fun n => (List.range n).all fun s => (List.range n).all fun e => isWay (f_single_way [.int (n : Nat), .int (s : Nat), .int (e : Nat)]) (way n s e)) = true := by decide +kernel
theorem chk_lway : sizes.all (fun n => (List.range n).all fun s => (List.range n).all fun e => isWay (f_law_way [.int (n : Nat), .int (s : Nat), .int (e : Nat)]) (way n s e)) = true := by decide +kernel
theorem chk_st : sizes.all (fun n => isNum (f_stages [.int (n : Nat)]) (lg n) && isNum (f_law_bits [.int (n : Nat)]) (lg n)) = true := by decide +kernel
end K63

set_option Elab.async false
set_option linter.all false
set_option maxRecDepth 100000
set_option maxHeartbeats 400000
namespace K63
open PySem PySem.Spec PyProof.Rows L2 DL
/-! ### draws -/
structure Hd where
  c : List Int
  i : Int
  a : Int
  b : Int
  e : Int
def Hd.d (h : Hd) : D := .lst [.lst (h.c.map .int), .int h.i, .int h.a, .int h.b, .int h.e]
def Hd.ok (h : Hd) : Prop := 0 ≤ h.i
theorem boxed_hd (h : Hd) (r : Rho) : boxed [0] (.par h.d :: r) = true := rfl
theorem big_fmod {x m : Int} (h : 0 < m) (h2 : m < 4294967296) : big (x.fmod m) = false := by
  have h1 := Int.fmod_nonneg_of_pos x h
  have h3 := Int.fmod_lt_of_pos x h
  unfold big
  rw [fits_of (by decide) (by omega)]; rfl
theorem bg1 : big 69621 = false := by decide
theorem bg2 : big 48271 = false := by decide
theorem bg3 : big 7919 = false := by decide
theorem bg4 : big 10 = false := by decide
theorem ft1 : fits (Int.toNat 18) 19 = true := by decide
theorem ft2 : fits (Int.natAbs 1009) 30 = true := by decide
theorem ft3 : fits (Int.natAbs 2003) 30 = true := by decide
theorem ft4 : fits (Int.natAbs 16) 30 = true := by decide
theorem ft5 : fits 18 19 = true := by decide
theorem ft6 : fits 1009 30 = true := by decide
theorem ft7 : fits 2003 30 = true := by decide
theorem ft8 : fits 16 30 = true := by decide
theorem draw_1 (h : Hd) (ok : h.ok) (sp : Int) : ∃ (h' : Hd) (v : SV), h'.ok ∧ b_law_draw_1 [.par h.d, .fro (.int sp), .no, .no, .no] = .nx [.par h'.d, .fro (.int sp), v, .no, .no] := by
  obtain ⟨c, i, a, b, e⟩ := h
  have hi : 0 ≤ i := ok
  have ht : (tBor [0] (DL.tAnd (tV (eOp dEq (eOp dIx (eV 0) (eC (.int 2))) (eC (.int 0)))) (tV (eOp dLt (eOp dIx (eV 0) (eC (.int 1))) (eB dLen [(eOp dIx (eV 0) (eC (.int 0)))]))))) [.par (Hd.d ⟨c, i, a, b, e⟩), .fro (.int sp), .no, .no, .no] = .ok (decide (a = 0) && decide (i < c.length)) [.par (Hd.d ⟨c, i, a, b, e⟩), .fro (.int sp), .no, .no, .no] := by
    by_cases h0 : a = 0
    · subst h0
      simp [tBor, Hd.d, boxed, hideR, SV.cont?, D.box, DL.tAnd, tV, eOp, eV, eC, OE.bind, OE.of, OE.test, OT.bind, dIx, atI, ixN, dEq, D.sh, D.eqv, dLt, eB, aL, dLen, OA.bind]
    · have : (a == 0) = false := by simpa using h0
      simp [tBor, Hd.d, boxed, hideR, SV.cont?, D.box, DL.tAnd, tV, eOp, eV, eC, OE.bind, OE.of, OE.test, OT.bind, dIx, atI, ixN, dEq, D.sh, D.eqv, dLt, eB, aL, dLen, OA.bind, h0, this]
  unfold b_law_draw_1 sIf
  rw [ht]
  cases hc : (decide (a = 0) && decide (i < c.length)) with
  | false => exact ⟨⟨c, i, a, b, e⟩, .no, ok, rfl⟩
  | true =>
    simp only [Bool.and_eq_true, decide_eq_true_eq] at hc
    obtain ⟨rfl, h2⟩ := hc
    have hn : i.toNat < c.length := by omega
    have hc1 : c[i.toNat]? = some c[i.toNat] := List.getElem?_eq_getElem hn
    generalize c[i.toNat] = cell at hc1
    have w1 : w_law_draw_1 [.par (Hd.d ⟨c, i, 0, b, e⟩), .fro (.int sp), .no, .no, .no] = .nx [.par (Hd.d ⟨c, i, 0, b, e⟩), .fro (.int sp), .fro (.int cell), .no, .no] := by
      simp [w_law_draw_1, sSet, eBor, Hd.d, boxed, hideR, SV.cont?, D.box, eOp, eV, eC, OE.bind, OE.of, dIx, atI, ixN, hi, h2, hc1, D.noL, OE.st, setF, DL.notPar]
      exact Option.some.inj ((List.getElem?_eq_getElem hn).symm.trans hc1)
    have w2 : ∀ z, w_law_draw_2 [.par (Hd.d ⟨c, i, 0, b, e⟩), .fro (.int sp), z, .no, .no] = .nx [.par (Hd.d ⟨c, i + 1, 0, b, e⟩), .fro (.int sp), z, .no, .no] := by
      intro z
      cases z <;> simp [w_law_draw_2, sStoreP, eBor, Hd.d, boxed, hideR, SV.cont?, D.box, eOp, eV, eC, OE.bind, OE.of, dIx, atI, ixN, D.noL, OE.st, dPlus, DL.putAt, SV.isOwn, dStL, SV.put]
    have w3 : w_law_draw_3 [.par (Hd.d ⟨c, i + 1, 0, b, e⟩), .fro (.int sp), .fro (.int cell), .no, .no] = .nx [.par (Hd.d ⟨c, i + 1, 0, ((b * 69621 + cell + 43).fmod 2147483629), e⟩), .fro (.int sp), .fro (.int cell), .no, .no] := by
      simp [w_law_draw_3, sStoreP, eBor, Hd.d, boxed, hideR, SV.cont?, D.box, eOp, eV, eC, OE.bind, OE.of, dIx, atI, ixN, D.noL, OE.st, dPlus, DL.putAt, SV.isOwn, dStL, SV.put, dMul, bg1, bg2, bg3, eB, aL, OA.bind, dInt, dMod]
    have w4 : ∀ b', ∃ a', w_law_draw_4 [.par (Hd.d ⟨c, i + 1, 0, b', e⟩), .fro (.int sp), .fro (.int cell), .no, .no] = .nx [.par (Hd.d ⟨c, i + 1, a', b', e⟩), .fro (.int sp), .fro (.int cell), .no, .no] := by
      intro b'
      by_cases hg : (1000000000000000000 : Int) ≤ cell
      · refine ⟨cell, ?_⟩
        simp [w_law_draw_4, sIf, tV, eOp, eV, eC, OE.bind, OE.of, dPow, bg4, ft1, ft5, dGe, OE.test, OT.st, hg, sStoreP, OE.st, SV.isOwn, DL.putAt, SV.cont?, Hd.d, dStL, ixN, SV.put]
      · refine ⟨0, ?_⟩
        simp [w_law_draw_4, sIf, tV, eOp, eV, eC, OE.bind, OE.of, dPow, bg4, ft1, ft5, dGe, OE.test, OT.st, hg, sNil]
    obtain ⟨a', w4⟩ := w4 ((b * 69621 + cell + 43).fmod 2147483629)
    refine ⟨⟨c, i + 1, a', (b * 69621 + cell + 43).fmod 2147483629, e⟩, .fro (.int cell), (by show 0 ≤ i + 1; omega), ?_⟩
    simp only [OT.st, if_true, w_law_draw_5, sSeq, w1, w2, w3, w4]
theorem draw_spec (h : Hd) (ok : h.ok) (sp : Int) (h1 : 1 ≤ sp) (h2 : sp < 1000) : ∃ (h' : Hd) (g : Int), h'.ok ∧ 0 ≤ g ∧ g < sp ∧ f_law_draw [.par h.d, .fro (.int sp)] = .ret (.int g) [h'.d] := by
  obtain ⟨h1', v, ok1, e1⟩ := draw_1 h ok sp
  have key : f_law_draw [.par h.d, .fro (.int sp)] = OS.fin 2 (b_law_draw [.par h.d, .fro (.int sp), .no, .no, .no]) := rfl
  rw [key]
  obtain ⟨c, i, a, b, e⟩ := h1'
  simp only [b_law_draw, sSeq, e1]
  have f0 : ∀ x : Int, 0 ≤ x.fmod sp ∧ x.fmod sp < sp := fun x => ⟨Int.fmod_nonneg_of_pos x (by omega), Int.fmod_lt_of_pos x (by omega)⟩
  have hsp : ¬ sp = 0 := by omega
  have hsp2 : fits sp.natAbs 30 = true := fits_of (by decide) (by omega)
  by_cases ha : 0 < a
  · have e2 : b_law_draw_2 [.par (Hd.d ⟨c, i, a, b, e⟩), .fro (.int sp), v, .no, .no] = .rt (.int (a.fmod sp)) [.par (Hd.d ⟨c, i, a.fdiv sp, b, e⟩), .fro (.int sp), v, .fro (.int (a.fmod sp)), .no] := by
      cases v <;> simp [b_law_draw_2, sIf, tBor, Hd.d, boxed, hideR, SV.cont?, D.box, tV, eOp, eV, eC, OE.bind, OE.of, OE.test, dIx, atI, ixN, dGt, ha, OT.st, w_law_draw_8, sSeq, w_law_draw_6, w_law_draw_7, sSet, eBor, eB, aL, OA.bind, dInt, dMod, hsp, D.noL, OE.st, setF, DL.notPar, sStoreP, SV.isOwn, dFdiv, hsp2, DL.putAt, dStL, SV.put, sRet]
    rw [e2]
    exact ⟨⟨c, i, a.fdiv sp, b, e⟩, _, ok1, (f0 a).1, (f0 a).2, rfl⟩
  · have e2 : b_law_draw_2 [.par (Hd.d ⟨c, i, a, b, e⟩), .fro (.int sp), v, .no, .no] = .nx [.par (Hd.d ⟨c, i, a, b, e⟩), .fro (.int sp), v, .no, .no] := by
      cases v <;> simp [b_law_draw_2, sIf, tBor, Hd.d, boxed, hideR, SV.cont?, D.box, tV, eOp, eV, eC, OE.bind, OE.of, OE.test, dIx, atI, ixN, dGt, ha, OT.st, sNil]
    have e3 : b_law_draw_3 [.par (Hd.d ⟨c, i, a, b, e⟩), .fro (.int sp), v, .no, .no] = .nx [.par (Hd.d ⟨c, i, a, b, e + 1⟩), .fro (.int sp), v, .no, .no] := by
      cases v <;> simp [b_law_draw_3, sStoreP, eBor, Hd.d, boxed, hideR, SV.cont?, D.box, eOp, eV, eC, OE.bind, OE.of, dIx, atI, ixN, D.noL, OE.st, dPlus, DL.putAt, SV.isOwn, dStL, SV.put]
    have e4 : ∃ n : Int, big n = false ∧ b_law_draw_4 [.par (Hd.d ⟨c, i, a, b, e + 1⟩), .fro (.int sp), v, .no, .no] = .nx [.par (Hd.d ⟨c, i, a, b, e + 1⟩), .fro (.int sp), v, .no, .fro (.int n)] := by
      refine ⟨((b + 7919 * (e + 1)) * 48271).fmod 2147483647, big_fmod (m := 2147483647) (by decide) (by decide), ?_⟩
      · cases v <;> simp [b_law_draw_4, sSet, eBor, Hd.d, boxed, hideR, SV.cont?, D.box, eOp, eV, eC, OE.bind, OE.of, dIx, atI, ixN, D.noL, OE.st, dPlus, dMul, bg1, bg2, bg3, eB, aL, OA.bind, dInt, dMod, setF, DL.notPar]
    obtain ⟨n, bn, e4⟩ := e4
    have e5 : ∃ m : Int, big m = false ∧ b_law_draw_5 [.par (Hd.d ⟨c, i, a, b, e + 1⟩), .fro (.int sp), v, .no, .fro (.int n)] = .nx [.par (Hd.d ⟨c, i, a, b, e + 1⟩), .fro (.int sp), v, .no, .fro (.int m)] := by
      refine ⟨(n * (n.fdiv 1009 + 69621)).fmod 2147483647, big_fmod (m := 2147483647) (by decide) (by decide), ?_⟩
      · simp [b_law_draw_5, sSet, eOp, eV, eC, OE.bind, OE.of, OE.st, dPlus, dMul, bn, dFdiv, ft2, ft3, ft4, ft6, ft7, ft8, eB, aL, OA.bind, dInt, dMod, setF, DL.notPar]
    obtain ⟨m, bm, e5⟩ := e5
    have e6 : ∃ k : Int, big k = false ∧ b_law_draw_6 [.par (Hd.d ⟨c, i, a, b, e + 1⟩), .fro (.int sp), v, .no, .fro (.int m)] = .nx [.par (Hd.d ⟨c, i, a, b, e + 1⟩), .fro (.int sp), v, .no, .fro (.int k)] := by
      refine ⟨(m * (m.fdiv 2003 + 40692)).fmod 2147483399, big_fmod (m := 2147483399) (by decide) (by decide), ?_⟩
      · simp [b_law_draw_6, sSet, eOp, eV, eC, OE.bind, OE.of, OE.st, dPlus, dMul, bm, dFdiv, ft2, ft3, ft4, ft6, ft7, ft8, eB, aL, OA.bind, dInt, dMod, setF, DL.notPar]
    obtain ⟨k, bk, e6⟩ := e6
    have e7 : b_law_draw_7 [.par (Hd.d ⟨c, i, a, b, e + 1⟩), .fro (.int sp), v, .no, .fro (.int k)] = .rt (.int ((k.fdiv 16).fmod sp)) [.par (Hd.d ⟨c, i, a, b, e + 1⟩), .fro (.int sp), v, .no, .fro (.int k)] := by
      simp [b_law_draw_7, sRet, eOp, eV, eC, OE.bind, OE.of, OE.st, dFdiv, ft2, ft3, ft4, ft6, ft7, ft8, eB, aL, OA.bind, dInt, dMod, hsp]
    simp only [e2, e3, e4, e5, e6, e7]
    exact ⟨⟨c, i, a, b, e + 1⟩, _, ok1, (f0 _).1, (f0 _).2, rfl⟩
end K63

set_option Elab.async false
set_option linter.all false
set_option maxRecDepth 100000
set_option maxHeartbeats 400000
namespace K63
open PySem PySem.Spec PyProof.Rows L2 DL
theorem some_spec (h : Hd) (ok : h.ok) (l : List D) (h1 : 1 ≤ l.length) (h2 : l.length < 1000) : ∃ (h' : Hd) (x : D), h'.ok ∧ x ∈ l ∧ f_law_some [.par h.d, .fro (.lst l)] = .ret x [h'.d] := by
  obtain ⟨h', g, ok', g1, g2, e⟩ := draw_spec h ok (l.length : Nat) (by omega) (by omega)
  have key : f_law_some [.par h.d, .fro (.lst l)] = OS.fin 2 (b_law_some [.par h.d, .fro (.lst l)]) := rfl
  have hg : g.toNat < l.length := by omega
  refine ⟨h', l[g.toNat], ok', List.getElem_mem hg, ?_⟩
  rw [key]
  have e2 : eCallM f_law_draw [.sl 0, .fro (eB dLen [eV 1])] [.par h.d, .fro (.lst l)] = .ok (.int g) [.par h'.d, .fro (.lst l)] := by
    simp [eCallM, mL, svOf, slots, putBack, SV.cont?, SV.put, eB, aL, eV, OA.bind, dLen, OE.of, e]
  have e1 : eV 1 [.par h.d, .fro (.lst l)] = .ok (.lst l) [.par h.d, .fro (.lst l)] := rfl
  have e3 : dIx (.lst l) (.int g) = some l[g.toNat] := by
    simp [dIx, atI, ixN, g1, g2, hg]
  simp [b_law_some, b_law_some_1, sRet, eOp, e1, OE.bind, e2, e3, OE.of, OE.st, OS.fin, parsD]
/-- no number that fits -/
def NB (x : D) : Prop := x.ty.isSome = true ∧ okL x = false ∧ ∀ b : Int, within 0 b x = false
theorem nb_ni {x : D} (h : x.ty.isSome = true) (hi : isI x = false) : NB x := by
  refine ⟨h, ?_, fun b => ?_⟩ <;> cases x <;> first | rfl | (simp [isI] at hi)
theorem nb_neg : NB (.int (-1)) := ⟨rfl, rfl, fun b => rfl⟩
theorem deep_loop : ∀ (ds : List D) (h : Hd) (ok : h.ok) (x : D) (hx : NB x) (z : SV) (hz : DL.notPar [.no, .no, z] 2 = true), ∃ (h' : Hd) (y : D) (z' : SV), h'.ok ∧ NB y ∧ forL (.nm 2) w_law_deep_1 ds [.par h.d, .fro x, z] = .nx [.par h'.d, .fro y, z']
  | [], h, ok, x, hx, z, hz => ⟨h, x, z, ok, hx, rfl⟩
  | d :: ds, h, ok, x, hx, z, hz => by
    obtain ⟨h1, y, ok1, hy, e⟩ := some_spec h ok [.tup [x], .lst [x]] (by simp) (by simp)
    have hy2 : NB y := by
      simp only [List.mem_cons, List.not_mem_nil, or_false] at hy
      rcases hy with rfl | rfl <;> exact nb_ni rfl rfl
    obtain ⟨h2, y2, z2, ok2, hy3, e2⟩ := deep_loop ds h1 ok1 y hy2 (.fro d) rfl
    refine ⟨h2, y2, z2, ok2, hy3, ?_⟩
    have hb : bindP (.nm 2) d [.par h.d, .fro x, z] = some [.par h.d, .fro x, .fro d] := by
      have hz : DL.notPar [.par h.d, .fro x, z] 2 = true := by cases z <;> first | rfl | cases hz
      simp only [bindP, hz, if_true]; rfl
    have ew : w_law_deep_1 [.par h.d, .fro x, .fro d] = .nx [.par h1.d, .fro y, .fro d] := by
      simp [w_law_deep_1, sSet, eCallM, mL, svOf, slots, putBack, SV.cont?, SV.put, eLst, eTup, aL, eV, OA.bind, OE.of, e, OE.st, setF, DL.notPar]
    simp only [forL, hb, ew, e2]
theorem deep_spec (h : Hd) (ok : h.ok) : ∃ (h' : Hd) (x : D), h'.ok ∧ NB x ∧ f_law_deep [.par h.d] = .ret x [h'.d] := by
  obtain ⟨h1, x1, ok1, m1, e1⟩ := some_spec h ok [.non, .int (-1), .str "A"] (by decide) (by decide)
  have n1 : NB x1 := by
    simp only [List.mem_cons, List.not_mem_nil, or_false] at m1
    rcases m1 with rfl | rfl | rfl
    · exact nb_ni rfl rfl
    · exact nb_neg
    · exact nb_ni rfl rfl
  obtain ⟨h2, g, ok2, g1, g2, e2⟩ := draw_spec h1 ok1 14 (by decide) (by decide)
  obtain ⟨h3, y, z, ok3, n3, e3⟩ := deep_loop (rangeD 0 (12 + g)) h2 ok2 x1 n1 .no rfl
  refine ⟨h3, y, ok3, n3, ?_⟩
  have key : f_law_deep [.par h.d] = OS.fin 1 (b_law_deep [.par h.d, .no, .no]) := rfl
  rw [key]
  have c1 : b_law_deep_1 [.par h.d, .no, .no] = .nx [.par h1.d, .fro x1, .no] := by
    simp [b_law_deep_1, sSet, eCallM, mL, svOf, slots, putBack, SV.cont?, SV.put, eLst, aL, eV, eC, eUn, dNeg, OE.bind, OA.bind, OE.of, e1, OE.st, setF, DL.notPar]
  have sm : small (12 + g) = true := small_to (by omega) (by omega)
  have c2 : b_law_deep_2 [.par h1.d, .fro x1, .no] = .nx [.par h3.d, .fro y, z] := by
    simp [b_law_deep_2, sFor, iB, aL, eOp, eC, OE.bind, eCallM, mL, svOf, slots, putBack, SV.cont?, SV.put, e2, OE.of, dPlus, OA.it, dRange, sm, e3]
  have c3 : b_law_deep_3 [.par h3.d, .fro y, z] = .rt y [.par h3.d, .fro y, z] := rfl
  simp only [b_law_deep, sSeq, c1, c2, c3]
  rfl
theorem none_spec (h : Hd) (ok : h.ok) : ∃ (h' : Hd) (x : D), h'.ok ∧ NB x ∧ f_law_none [.par h.d] = .ret x [h'.d] := by
  obtain ⟨h0, x0, ok0, n0, e0⟩ := deep_spec h ok
  obtain ⟨h1, x1, ok1, m1, e1⟩ := some_spec h0 ok0 [.non, .bl true, .str "3", .tup [.int 3], .lst [.int 3], .dct false [], .int (-1), x0] (by simp) (by simp)
  have n1 : NB x1 := by
    simp only [List.mem_cons, List.not_mem_nil, or_false] at m1
    rcases m1 with rfl | rfl | rfl | rfl | rfl | rfl | rfl | rfl <;> first | exact nb_neg | exact n0 | exact nb_ni rfl rfl
  refine ⟨h1, x1, ok1, n1, ?_⟩
  have key : f_law_none [.par h.d] = OS.fin 1 (b_law_none [.par h.d]) := rfl
  rw [key]
  simp [b_law_none, b_law_none_1, sRet, eCallM, mL, svOf, slots, putBack, SV.cont?, SV.put, eLst, eTup, aL, eV, eC, eUn, dNeg, eDict0, OE.bind, OA.bind, OE.of, e0, e1, OE.st, OS.fin, parsD]
/-! ### the tables of ways -/
theorem mem_sizes {n : Nat} (h : n ∈ sizes) : okL (.int (n : Nat)) = true := by
  simp only [sizes, List.mem_cons, List.not_mem_nil, or_false] at h
  rcases h with rfl | rfl | rfl | rfl <;> rfl
theorem way_at {n s e : Nat} (h : n ∈ sizes) (hs : s < n) (he : e < n) : f_single_way [.int (n : Nat), .int (s : Nat), .int (e : Nat)] = .ret (.tup ((way n s e).map .int)) [] := by
  have := List.all_eq_true.mp chk_way n h
  have := List.all_eq_true.mp this s (List.mem_range.mpr hs)
  exact isWay_eq (List.all_eq_true.mp this e (List.mem_range.mpr he))
theorem lway_at {n s e : Nat} (h : n ∈ sizes) (hs : s < n) (he : e < n) : f_law_way [.int (n : Nat), .int (s : Nat), .int (e : Nat)] = .ret (.tup ((way n s e).map .int)) [] := by
  have := List.all_eq_true.mp chk_lway n h
  have := List.all_eq_true.mp this s (List.mem_range.mpr hs)
  exact isWay_eq (List.all_eq_true.mp this e (List.mem_range.mpr he))
theorem st_at {n : Nat} (h : n ∈ sizes) : f_stages [.int (n : Nat)] = .ret (.int (lg n : Nat)) [] ∧ f_law_bits [.int (n : Nat)] = .ret (.int (lg n : Nat)) [] := by
  have := List.all_eq_true.mp chk_st n h
  rw [Bool.and_eq_true] at this
  exact ⟨isNum_eq this.1, isNum_eq this.2⟩
theorem size_spec (h : Hd) (ok : h.ok) : ∃ (h' : Hd) (n : Nat), h'.ok ∧ n ∈ sizes ∧ f_law_size [.par h.d] = .ret (.int (n : Nat)) [h'.d] := by
  obtain ⟨h1, x1, ok1, m1, e1⟩ := some_spec h ok [.int 2, .int 4, .int 4, .int 8, .int 8, .int 16] (by decide) (by decide)
  have n1 : ∃ n ∈ sizes, x1 = .int (n : Nat) := by
    simp only [List.mem_cons, List.not_mem_nil, or_false] at m1
    rcases m1 with rfl | rfl | rfl | rfl | rfl | rfl
    · exact ⟨2, by decide, rfl⟩
    · exact ⟨4, by decide, rfl⟩
    · exact ⟨4, by decide, rfl⟩
    · exact ⟨8, by decide, rfl⟩
    · exact ⟨8, by decide, rfl⟩
    · exact ⟨16, by decide, rfl⟩
  obtain ⟨n, hn, rfl⟩ := n1
  refine ⟨h1, n, ok1, hn, ?_⟩
  have key : f_law_size [.par h.d] = OS.fin 1 (b_law_size [.par h.d]) := rfl
  rw [key]
  simp [b_law_size, b_law_size_1, sRet, eCallM, mL, svOf, slots, putBack, SV.cont?, SV.put, eLst, aL, eC, OA.bind, e1, OE.st, OS.fin, parsD]
/-! ### same things -/
theorem is_int (n : Nat) (i : Int) : f_law_is (n + 1) [.int i, .int i] = .ret (.bl true) [] := by
  have key : f_law_is (n + 1) [.int i, .int i] = OS.fin 2 (b_law_is (f_law_is n) [.fro (.int i), .fro (.int i), .no, .no]) := rfl
  rw [key]
  simp [b_law_is, sSeq, b_law_is_1, sIf, tV, eUn, eV, OE.bind, OE.of, dIsi, D.ty, isTy, OE.test, OT.st, sNil, b_law_is_2, DL.tOr, eOp, eC, dIsN, OT.bind, b_law_is_3, dNe, D.sh, D.eqv, b_law_is_4, sRet, eAnd, dEq, OE.st, OS.fin, parsD]
theorem comp_all (f : List D → OF) : ∀ (l : List Int) (a b : SV) (r2 r3 : SV), (∀ i, f [.int i, .int i] = .ret (.bl true) []) →
    compL (.tp [.nm 2, .nm 3]) tTrue (eCall f [eV 2, eV 3]) [2, 3] (zipD (l.map .int) (l.map .int)) [a, b, .no, .no] = .ok (l.map fun _ => .bl true) [a, b, .no, .no]
  | [], a, b, r2, r3, h => rfl
  | i :: l, a, b, r2, r3, h => by
    have ih := comp_all f l a b r2 r3 h
    have e : zipD ((i :: l).map .int) ((i :: l).map .int) = .tup [.int i, .int i] :: zipD (l.map .int) (l.map .int) := rfl
    rw [e]
    simp [compL, bindP, bindPs, DL.notPar, tTrue, eCall, aL, eV, OA.bind, h, wipeR, ih]
theorem all_true (l : List Int) : dAll [.lst (l.map fun _ => .bl true)] = some (.bl true) := by
  have h1 : (l.map fun _ => D.bl true).all D.isB = true := by simp [D.isB]
  have h2 : (l.map fun _ => D.bl true).all D.isT = true := by simp [D.isT]
  simp [dAll, h1, h2]
theorem is_tup (n : Nat) (l : List Int) (hl : l.length < 1000) : f_law_is (n + 2) [.tup (l.map .int), .tup (l.map .int)] = .ret (.bl true) [] := by
  have key : f_law_is (n + 2) [.tup (l.map .int), .tup (l.map .int)] = OS.fin 2 (b_law_is (f_law_is (n + 1)) [.fro (.tup (l.map .int)), .fro (.tup (l.map .int)), .no, .no]) := rfl
  rw [key]
  have c := comp_all (f_law_is (n + 1)) l (.fro (.tup (l.map .int))) (.fro (.tup (l.map .int))) .no .no (is_int n)
  have ok : okLen (zipD (l.map D.int) (l.map D.int)).length = true := okLen_of (by simp [zipD]; omega)
  have e : eComp (iB dZip [(eV 0), (eV 1)]) (.tp [(.nm 2), (.nm 3)]) tTrue (eCall (f_law_is (n + 1)) [(eV 2), (eV 3)]) [2, 3] [.fro (.tup (l.map .int)), .fro (.tup (l.map .int)), .no, .no] = .ok (.lst (l.map fun _ => .bl true)) [.fro (.tup (l.map .int)), .fro (.tup (l.map .int)), .no, .no] := by
    simp [eComp, iB, aL, eV, OA.it, dZip, OA.bind, ok, DL.notPar, wipeR, c]
  have e2 : w_law_is_2 (f_law_is (n + 1)) [.fro (.tup (l.map .int)), .fro (.tup (l.map .int)), .no, .no] = .rt (.bl true) [.fro (.tup (l.map .int)), .fro (.tup (l.map .int)), .no, .no] := by
    simp [w_law_is_2, sRet, eAnd, eOp, eB, aL, eV, OA.bind, OE.bind, OE.of, dLen, dEq, D.sh, D.eqv, e, all_true, OE.st]
  simp [b_law_is, sSeq, b_law_is_1, sIf, tV, eUn, eV, OE.bind, OE.of, dIsi, D.ty, isTy, OE.test, OT.st, sNil, w_law_is_3, w_law_is_1, DL.tOr, eOp, dNe, D.sh, D.eqv, OT.bind, e2, OS.fin, parsD]
theorem ok2 : okLen 2 = true := by decide
theorem is_pair (n : Nat) (i : Int) (l : List Int) (hl : l.length < 1000) : f_law_is (n + 3) [.lst [.int i, .tup (l.map .int)], .lst [.int i, .tup (l.map .int)]] = .ret (.bl true) [] := by
  have key : f_law_is (n + 3) [.lst [.int i, .tup (l.map .int)], .lst [.int i, .tup (l.map .int)]] = OS.fin 2 (b_law_is (f_law_is (n + 2)) [.fro (.lst [.int i, .tup (l.map .int)]), .fro (.lst [.int i, .tup (l.map .int)]), .no, .no]) := rfl
  rw [key]
  have h1 := is_int (n + 1) i
  have h2 := is_tup n l hl
  have e2 : w_law_is_2 (f_law_is (n + 2)) [.fro (.lst [.int i, .tup (l.map .int)]), .fro (.lst [.int i, .tup (l.map .int)]), .no, .no] = .rt (.bl true) [.fro (.lst [.int i, .tup (l.map .int)]), .fro (.lst [.int i, .tup (l.map .int)]), .no, .no] := by
    simp [w_law_is_2, sRet, eAnd, eOp, eB, aL, eV, OA.bind, OE.bind, OE.of, dLen, dEq, D.sh, D.eqv, eComp, iB, OA.it, dZip, zipD, ok2, DL.notPar, wipeR, compL, bindP, bindPs, tTrue, eCall, h1, h2, dAll, D.isB, D.isT, OE.st]
  simp [b_law_is, sSeq, b_law_is_1, sIf, tV, eUn, eV, OE.bind, OE.of, dIsi, D.ty, isTy, OE.test, OT.st, sNil, w_law_is_3, w_law_is_1, DL.tOr, eOp, dNe, D.sh, D.eqv, OT.bind, e2, OS.fin, parsD]
end K63

set_option Elab.async false
set_option linter.all false
set_option maxRecDepth 100000
set_option maxHeartbeats 400000
namespace K63
open PySem PySem.Spec PyProof.Rows L2 DL
/-! ### facts of the ways, by going through all -/
theorem chk_last : sizes.all (fun n => (List.range n).all fun s => (List.range n).all fun e => (way n s e).getLast? == some (e : Int) && decide ((way n s e).length ≤ 4) && decide (1 ≤ (way n s e).length)) = true := by decide +kernel
theorem chk_unlike : sizes.all (fun n => (List.range n).all fun s => ((List.range n).map (way n s)).eraseDups.length == n) = true := by decide +kernel
def mets (a b : List Int) : List Bool := List.zipWith (fun i j => i == j) a b
def keeps (l : List Bool) : Bool := (l.zip (l.drop 1)).all fun p => !p.1 || p.2
theorem chk_keeps : sizes.all (fun n => (List.range n).all fun s => (List.range n).all fun o => (List.range n).all fun e => keeps (mets (way n s e) (way n o e))) = true := by decide +kernel
end K63

set_option Elab.async false
set_option linter.all false
set_option maxRecDepth 100000
set_option maxHeartbeats 400000
namespace K63
open PySem PySem.Spec PyProof.Rows L2 DL
def np : SV → Bool | .par _ => false | _ => true
theorem npE (ρ : Rho) (i : Nat) : DL.notPar ρ i = (match ρ[i]? with | some s => np s | none => false) := by
  unfold DL.notPar np
  cases ρ[i]? with
  | none => rfl
  | some s => cases s <;> rfl
theorem last_at {n s e : Nat} (h : n ∈ sizes) (hs : s < n) (he : e < n) : (way n s e).getLast? = some (e : Int) ∧ (way n s e).length ≤ 4 ∧ 1 ≤ (way n s e).length := by
  have := List.all_eq_true.mp chk_last n h
  have := List.all_eq_true.mp this s (List.mem_range.mpr hs)
  have := List.all_eq_true.mp this e (List.mem_range.mpr he)
  simp only [Bool.and_eq_true, decide_eq_true_eq, beq_iff_eq] at this
  exact ⟨this.1.1, this.1.2, this.2⟩
theorem unlike_at {n s : Nat} (h : n ∈ sizes) (hs : s < n) : ((List.range n).map (way n s)).eraseDups.length = n := by
  have := List.all_eq_true.mp chk_unlike n h
  exact beq_iff_eq.mp (List.all_eq_true.mp this s (List.mem_range.mpr hs))
theorem keeps_at {n s o e : Nat} (h : n ∈ sizes) (hs : s < n) (ho : o < n) (he : e < n) : keeps (mets (way n s e) (way n o e)) = true := by
  have := List.all_eq_true.mp chk_keeps n h
  have := List.all_eq_true.mp this s (List.mem_range.mpr hs)
  have := List.all_eq_true.mp this o (List.mem_range.mpr ho)
  exact List.all_eq_true.mp this e (List.mem_range.mpr he)
theorem ix_last {l : List Int} {e : Int} (h : l.getLast? = some e) (h1 : 1 ≤ l.length) : dIx (.tup (l.map .int)) (.int (-1)) = some (.int e) := by
  rw [List.getLast?_eq_getElem?] at h
  have hx : ixN l.length (-1) = some (l.length - 1) := by
    simp only [ixN]
    rw [if_neg (by decide), if_pos (by omega)]
    congr 1
    omega
  simp [dIx, atI, hx, h]
def dW (l : List Int) : D := .tup (l.map .int)
theorem wipe3 (a0 x1 a2 x3 x4 x5 x6 x7 x8 x9 x10 x11 x12 x13 x14 x15 x16 x17 x18 : SV) : wipeR [a0, x1, a2, x3, x4, x5, x6, x7, x8, x9, x10, x11, x12, x13, x14, x15, x16, x17, x18] [16] = [a0, x1, a2, x3, x4, x5, x6, x7, x8, x9, x10, x11, x12, x13, x14, x15, .no, x17, x18] := rfl
/-- a way for each end -/
theorem goals_comp (f : List D → OF) (n s : Nat) (hf : ∀ g, g < n → f [.int (n : Nat), .int (s : Nat), .int (g : Nat)] = .ret (dW (way n s g)) []) (a0 x1 a2 x3 x6 x7 x8 x9 x10 x11 x12 x13 x14 x15 : SV) : ∀ (gs : List Nat), (∀ g ∈ gs, g < n) →
    compL (.nm 16) tTrue (eCall f [eV 4, eV 5, eV 16]) [16] (gs.map fun g => .int (g : Nat)) [a0, x1, a2, x3, .fro (.int (n : Nat)), .fro (.int (s : Nat)), x6, x7, x8, x9, x10, x11, x12, x13, x14, x15, .no, .no, .no] = .ok (gs.map fun g => dW (way n s g)) [a0, x1, a2, x3, .fro (.int (n : Nat)), .fro (.int (s : Nat)), x6, x7, x8, x9, x10, x11, x12, x13, x14, x15, .no, .no, .no]
  | [], _ => rfl
  | g :: gs, h => by
    have ih := goals_comp f n s hf a0 x1 a2 x3 x6 x7 x8 x9 x10 x11 x12 x13 x14 x15 gs fun x hx => h x (List.mem_cons_of_mem _ hx)
    have e := hf g (h g List.mem_cons_self)
    simp [compL, bindP, DL.notPar, tTrue, eCall, aL, eV, OA.bind, e, wipeR, ih]
theorem range_goals (n : Nat) : rangeD 0 (n : Nat) = (List.range n).map fun g => .int (g : Nat) := by
  simp [rangeD]
theorem dRange1 {j : Int} (h : small j = true) : dRange [.int j] = some (rangeD 0 j) := by unfold dRange; exact if_pos h
theorem goals (f : List D → OF) (n s : Nat) (hn : n < 1000) (hf : ∀ g, g < n → f [.int (n : Nat), .int (s : Nat), .int (g : Nat)] = .ret (dW (way n s g)) []) (a0 x1 a2 x3 x6 x7 x8 x9 x10 x11 x12 x13 x14 x15 : SV) :
    eComp (iB dRange [(eV 4)]) (.nm 16) tTrue (eCall f [eV 4, eV 5, eV 16]) [16] [a0, x1, a2, x3, .fro (.int (n : Nat)), .fro (.int (s : Nat)), x6, x7, x8, x9, x10, x11, x12, x13, x14, x15, .no, .no, .no] = .ok (.lst ((List.range n).map fun g => dW (way n s g))) [a0, x1, a2, x3, .fro (.int (n : Nat)), .fro (.int (s : Nat)), x6, x7, x8, x9, x10, x11, x12, x13, x14, x15, .no, .no, .no] := by
  have c := goals_comp f n s hf a0 x1 a2 x3 x6 x7 x8 x9 x10 x11 x12 x13 x14 x15 (List.range n) fun g hg => List.mem_range.mp hg
  have sm : small (n : Int) = true := small_to (by omega) (by omega)
  have ok : okLen n = true := okLen_of (by omega)
  generalize hρ : [a0, x1, a2, x3, SV.fro (.int (n : Nat)), .fro (.int (s : Nat)), x6, x7, x8, x9, x10, x11, x12, x13, x14, x15, .no, .no, .no] = ρ at c ⊢
  have hi : iB dRange [(eV 4)] ρ = .ok (rangeD 0 (n : Nat)) ρ := by
    have e4 : eV 4 ρ = .ok (.int (n : Nat)) ρ := by subst hρ; rfl
    have ea : aL [eV 4] ρ = .ok [.int (n : Nat)] ρ := by simp only [aL, e4]
    simp only [iB, ea, OA.it, dRange1 sm]
  have hlen : (rangeD 0 (n : Int)).length = n := by rw [range_goals, List.length_map, List.length_range]
  have hnp : [16].all (DL.notPar ρ) = true := by subst hρ; rfl
  have hw : wipeR ρ [16] = ρ := by subst hρ; rfl
  have hc : (okLen (rangeD 0 (n : Int)).length && [16].all (DL.notPar ρ)) = true := by rw [hlen, ok, hnp, Bool.and_self]
  unfold eComp
  rw [hi]
  simp only [OA.bind]
  rw [if_pos hc, hw, range_goals, c]
theorem sh_W (l : List Int) (k : Nat) : D.sh (k + 1) (dW l) = true := by
  have : ∀ l : List Int, D.shs k (l.map .int) = true := fun l => by induction l with
    | nil => rfl
    | cons i l ih => simp [D.shs, D.sh, ih]
  simpa [dW, D.sh] using this l
theorem eqv_ints (l : List Int) : D.eqvs (l.map .int) (l.map .int) = true := by
  induction l with
  | nil => rfl
  | cons i l ih => simp [D.eqvs, D.eqv, ih]
theorem lists_ne (ws : List (List Int)) : dNe (.lst (ws.map dW)) (.lst (ws.map dW)) = some (.bl false) := by
  have h1 : D.shs 39 (ws.map dW) = true := by
    induction ws with
    | nil => rfl
    | cons w ws ih => simp [D.shs, sh_W, ih]
  have h2 : D.eqvs (ws.map dW) (ws.map dW) = true := by
    induction ws with
    | nil => rfl
    | cons w ws ih =>
      have hw : D.eqv (dW w) (dW w) = true := by simpa [dW, D.eqv] using eqv_ints w
      have h1' : D.shs 39 (ws.map dW) = true := by
        simp only [List.map_cons, D.shs, Bool.and_eq_true] at h1
        exact h1.2
      simp [D.eqvs, hw, ih h1']
  simp [dNe, D.sh, h1, D.eqv, h2]
theorem ints_W (l : List Int) : intsOf (dW l) = some l := by
  have : ∀ l : List Int, ((l.map D.int).mapM fun d => match d with | .int i => some i | _ => none) = some l := fun l => by
    induction l with
    | nil => rfl
    | cons i l ih => rw [List.map_cons, List.mapM_cons, ih]; rfl
  exact this l
theorem lenset_W (ws : List (List Int)) (h : ws.length < 64) : dLenSet (.lst (ws.map dW)) = some (.int (ws.eraseDups.length : Nat)) := by
  have : (ws.map dW).mapM intsOf = some ws := by
    clear h
    induction ws with
    | nil => rfl
    | cons w ws ih => rw [List.map_cons, List.mapM_cons, ints_W, ih]; rfl
  simp [dLenSet, h, this]
/-- where two ways meet -/
theorem mets_comp (a0 x1 a2 x3 x4 x5 x6 x7 x8 x9 x10 x11 x12 x13 x14 x15 : SV) : ∀ (l m : List Int),
    compL (.tp [.nm 17, .nm 18]) tTrue (eOp dEq (eV 17) (eV 18)) [17, 18] (zipD (l.map .int) (m.map .int)) [a0, x1, a2, x3, x4, x5, x6, x7, x8, x9, x10, x11, x12, x13, x14, x15, .no, .no, .no] = .ok ((mets l m).map .bl) [a0, x1, a2, x3, x4, x5, x6, x7, x8, x9, x10, x11, x12, x13, x14, x15, .no, .no, .no]
  | [], m => by simp [zipD, mets, compL]
  | i :: l, [] => by simp [zipD, mets, compL]
  | i :: l, j :: m => by
    have ih := mets_comp a0 x1 a2 x3 x4 x5 x6 x7 x8 x9 x10 x11 x12 x13 x14 x15 l m
    have e : zipD ((i :: l).map .int) ((j :: m).map .int) = .tup [.int i, .int j] :: zipD (l.map .int) (m.map .int) := rfl
    have e2 : mets (i :: l) (j :: m) = (i == j) :: mets l m := rfl
    rw [e, e2]
    simp [compL, bindP, bindPs, DL.notPar, tTrue, eOp, eV, OE.bind, OE.of, dEq, D.sh, D.eqv, wipeR, ih]
theorem keeps_comp (a0 x1 a2 x3 x4 x5 x6 x7 x8 x9 x10 x11 x12 x13 x14 x15 : SV) : ∀ (l m : List Bool),
    compL (.tp [.nm 17, .nm 18]) tTrue (eOr (eUn dNot (eV 17)) (eV 18)) [17, 18] (zipD (l.map .bl) (m.map .bl)) [a0, x1, a2, x3, x4, x5, x6, x7, x8, x9, x10, x11, x12, x13, x14, x15, .no, .no, .no] = .ok ((l.zip m).map fun p => .bl (!p.1 || p.2)) [a0, x1, a2, x3, x4, x5, x6, x7, x8, x9, x10, x11, x12, x13, x14, x15, .no, .no, .no]
  | [], m => by simp [zipD, compL]
  | i :: l, [] => by simp [zipD, compL]
  | i :: l, j :: m => by
    have ih := keeps_comp a0 x1 a2 x3 x4 x5 x6 x7 x8 x9 x10 x11 x12 x13 x14 x15 l m
    have e : zipD ((i :: l).map .bl) ((j :: m).map .bl) = .tup [.bl i, .bl j] :: zipD (l.map .bl) (m.map .bl) := rfl
    rw [e]
    cases i <;> simp [compL, bindP, bindPs, DL.notPar, tTrue, eOr, eUn, dNot, eV, OE.bind, OE.of, wipeR, ih]
theorem cut1D (l : List D) : DL.cutD l (some 1) none = l.drop 1 := by
  unfold DL.cutD
  rw [show HT.sIx l.length 0 (some 1) = min 1 l.length from HT.sIx_nat l.length 0 1, HT.sIx_none]
  cases l with
  | nil => rfl
  | cons x r =>
    have : min 1 (x :: r).length = 1 := by simp
    rw [this]
    show List.take ((x :: r).length - 1) r = r
    simp
end K63

set_option Elab.async false
set_option linter.all false
set_option maxRecDepth 100000
set_option maxHeartbeats 400000
namespace K63
open PySem PySem.Spec PyProof.Rows L2 DL
theorem np_of {x : SV} : np x = true → ∀ d, x ≠ .par d := fun h d e => by subst e; cases h
theorem draw_call (h h' : Hd) (n : Nat) (g : Int) (e : f_law_draw [.par h.d, .fro (.int (n : Nat))] = .ret (.int g) [h'.d]) (a0 a2 x3 x5 x6 x7 x8 x9 x10 x11 x12 x13 x14 x15 : SV) :
    eCallM f_law_draw [.sl 1, .fro (eV 4)] [a0, .own h.d, a2, x3, .fro (.int (n : Nat)), x5, x6, x7, x8, x9, x10, x11, x12, x13, x14, x15, .no, .no, .no] = .ok (.int g) [a0, .own h'.d, a2, x3, .fro (.int (n : Nat)), x5, x6, x7, x8, x9, x10, x11, x12, x13, x14, x15, .no, .no, .no] := by
  simp [eCallM, mL, svOf, slots, putBack, SV.cont?, SV.put, eV, e]
theorem lam_exc (f : List D → OF) (rs : List DE) (l : List D) (ρ : Rho) (ha : aL rs ρ = .ok l ρ) (hf : f l = .exc "NoNumber" [] []) : eLam wd_law_word (.str "let") (eCall f rs) ρ = .ok (.int 0) ρ := by
  simp [eLam, eCall, ha, OA.bind, hf]
  rfl
theorem ft24 : fits 2 24 = true := by decide
theorem ft24b : fits 3 24 = true := by decide
theorem ft24c : fits 1 24 = true := by decide
theorem ftn4 : fits 4 24 = true := by decide
theorem okl4 : okLen 4 = true := by decide
theorem turn (h : Hd) (ok : h.ok) (a0 a2 x3 x4 x5 x6 x7 x8 x9 x10 x11 x12 x13 x14 x15 : SV) (n4 : np x4 = true) (n5 : np x5 = true) (n6 : np x6 = true) (n7 : np x7 = true) (n8 : np x8 = true) (n9 : np x9 = true) (n10 : np x10 = true) (n11 : np x11 = true) (n12 : np x12 = true) (n13 : np x13 = true) (n14 : np x14 = true) (n15 : np x15 = true) :
    ∃ (h' : Hd) (y4 y5 y6 y7 y8 y9 y10 y11 y12 y13 y14 y15 : SV), h'.ok ∧ (np y4 && np y5 && np y6 && np y7 && np y8 && np y9 && np y10 && np y11 && np y12 && np y13 && np y14 && np y15) = true ∧
      w_law_15 [a0, .own h.d, a2, x3, x4, x5, x6, x7, x8, x9, x10, x11, x12, x13, x14, x15, .no, .no, .no] = .nx [a0, .own h'.d, a2, x3, y4, y5, y6, y7, y8, y9, y10, y11, y12, y13, y14, y15, .no, .no, .no] := by
  -- lines
  obtain ⟨h1, n, ok1, hn, e1⟩ := size_spec h ok
  have hn1 : 1 ≤ n ∧ n ≤ 16 := by
    simp only [sizes, List.mem_cons, List.not_mem_nil, or_false] at hn
    omega
  have s1 : sSet 4 (eCallM f_law_size [.sl 1]) [a0, .own h.d, a2, x3, x4, x5, x6, x7, x8, x9, x10, x11, x12, x13, x14, x15, .no, .no, .no] = .nx [a0, .own h1.d, a2, x3, .fro (.int (n : Nat)), x5, x6, x7, x8, x9, x10, x11, x12, x13, x14, x15, .no, .no, .no] := by
    simp [sSet, eCallM, mL, svOf, slots, putBack, SV.cont?, SV.put, e1, OE.st, setF, npE, n4]
  -- start, end, other
  obtain ⟨h2, gs, ok2, gs0, gs1, e2⟩ := draw_spec h1 ok1 (n : Nat) (by omega) (by omega)
  obtain ⟨h3, ge, ok3, ge0, ge1, e3⟩ := draw_spec h2 ok2 (n : Nat) (by omega) (by omega)
  obtain ⟨h4, go, ok4, go0, go1, e4⟩ := draw_spec h3 ok3 (n : Nat) (by omega) (by omega)
  obtain ⟨s, rfl⟩ := Int.eq_ofNat_of_zero_le gs0
  obtain ⟨e, rfl⟩ := Int.eq_ofNat_of_zero_le ge0
  obtain ⟨o, rfl⟩ := Int.eq_ofNat_of_zero_le go0
  have hs : s < n := by omega
  have he : e < n := by omega
  have ho : o < n := by omega
  have s2 : w_law_1 [a0, .own h1.d, a2, x3, .fro (.int (n : Nat)), x5, x6, x7, x8, x9, x10, x11, x12, x13, x14, x15, .no, .no, .no] = .nx [a0, .own h4.d, a2, x3, .fro (.int (n : Nat)), .fro (.int (s : Nat)), .fro (.int (e : Nat)), .fro (.int (o : Nat)), x8, x9, x10, x11, x12, x13, x14, x15, .no, .no, .no] := by
    have c1 := draw_call h1 h2 n _ e2 a0 a2 x3 x5 x6 x7 x8 x9 x10 x11 x12 x13 x14 x15
    have c2 := draw_call h2 h3 n _ e3 a0 a2 x3 x5 x6 x7 x8 x9 x10 x11 x12 x13 x14 x15
    have c3 := draw_call h3 h4 n _ e4 a0 a2 x3 x5 x6 x7 x8 x9 x10 x11 x12 x13 x14 x15
    simp [w_law_1, sMul, mA, c1, c2, c3, DL.stM, npE, n5, n6, n7]
  -- due
  have lw := lway_at hn hs he
  have s3 : sSet 8 (eCall f_law_way [eV 4, eV 5, eV 6]) [a0, .own h4.d, a2, x3, .fro (.int (n : Nat)), .fro (.int (s : Nat)), .fro (.int (e : Nat)), .fro (.int (o : Nat)), x8, x9, x10, x11, x12, x13, x14, x15, .no, .no, .no] = .nx [a0, .own h4.d, a2, x3, .fro (.int (n : Nat)), .fro (.int (s : Nat)), .fro (.int (e : Nat)), .fro (.int (o : Nat)), .fro (dW (way n s e)), x9, x10, x11, x12, x13, x14, x15, .no, .no, .no] := by
    simp [sSet, eCall, aL, eV, OA.bind, lw, OE.st, setF, npE, n8, dW]
  -- came
  obtain ⟨st1, st2⟩ := st_at hn
  have wy := way_at hn hs he
  obtain ⟨la1, la2, la3⟩ := last_at hn hs he
  have s4 : w_law_2 [a0, .own h4.d, a2, x3, .fro (.int (n : Nat)), .fro (.int (s : Nat)), .fro (.int (e : Nat)), .fro (.int (o : Nat)), .fro (dW (way n s e)), x9, x10, x11, x12, x13, x14, x15, .no, .no, .no] = .nx [a0, .own h4.d, a2, x3, .fro (.int (n : Nat)), .fro (.int (s : Nat)), .fro (.int (e : Nat)), .fro (.int (o : Nat)), .fro (dW (way n s e)), .fro (.lst [.int (lg n : Nat), dW (way n s e)]), x10, x11, x12, x13, x14, x15, .no, .no, .no] := by
    simp [w_law_2, sSet, eLst, eCall, aL, eV, OA.bind, st1, wy, OE.st, setF, npE, n9, dW]
  have il := ix_last la1 la3
  have ip := is_pair 42 (lg n : Nat) (way n s e) (by omega)
  have s5 : w_law_3 [a0, .own h4.d, a2, x3, .fro (.int (n : Nat)), .fro (.int (s : Nat)), .fro (.int (e : Nat)), .fro (.int (o : Nat)), .fro (dW (way n s e)), .fro (.lst [.int (lg n : Nat), dW (way n s e)]), x10, x11, x12, x13, x14, x15, .no, .no, .no] = .nx [a0, .own h4.d, a2, x3, .fro (.int (n : Nat)), .fro (.int (s : Nat)), .fro (.int (e : Nat)), .fro (.int (o : Nat)), .fro (dW (way n s e)), .fro (.lst [.int (lg n : Nat), dW (way n s e)]), x10, x11, x12, x13, x14, x15, .no, .no, .no] := by
    simp [w_law_3, sIf, DL.tOr, tV, eOp, eV, eC, eUn, dNeg, OE.bind, OE.of, dW, il, dNe, D.sh, D.eqv, OE.test, OT.bind, DL.tNot, eCall, aL, eLst, OA.bind, st2, ip, OT.st, sNil]
  -- every
  have g1 := goals f_single_way n s (by omega) (fun g hg => way_at hn hs hg) a0 (.own h4.d) a2 x3 (.fro (.int (e : Nat))) (.fro (.int (o : Nat))) (.fro (dW (way n s e))) (.fro (.lst [.int (lg n : Nat), dW (way n s e)])) x10 x11 x12 x13 x14 x15
  have s6 : w_law_4 [a0, .own h4.d, a2, x3, .fro (.int (n : Nat)), .fro (.int (s : Nat)), .fro (.int (e : Nat)), .fro (.int (o : Nat)), .fro (dW (way n s e)), .fro (.lst [.int (lg n : Nat), dW (way n s e)]), x10, x11, x12, x13, x14, x15, .no, .no, .no] = .nx [a0, .own h4.d, a2, x3, .fro (.int (n : Nat)), .fro (.int (s : Nat)), .fro (.int (e : Nat)), .fro (.int (o : Nat)), .fro (dW (way n s e)), .fro (.lst [.int (lg n : Nat), dW (way n s e)]), .fro (.lst ((List.range n).map fun g => dW (way n s g))), x11, x12, x13, x14, x15, .no, .no, .no] := by
    simp only [w_law_4, sSet, g1, OE.st, setF]
    simp [npE, n10]
  have g2 := goals f_law_way n s (by omega) (fun g hg => lway_at hn hs hg) a0 (.own h4.d) a2 x3 (.fro (.int (e : Nat))) (.fro (.int (o : Nat))) (.fro (dW (way n s e))) (.fro (.lst [.int (lg n : Nat), dW (way n s e)])) (.fro (.lst ((List.range n).map fun g => dW (way n s g)))) x11 x12 x13 x14 x15
  have mm : ((List.range n).map fun g => dW (way n s g)) = ((List.range n).map (way n s)).map dW := by rw [List.map_map]; rfl
  have ln := lenset_W ((List.range n).map (way n s)) (by simp; omega)
  rw [unlike_at hn hs] at ln
  have nne := lists_ne ((List.range n).map (way n s))
  have s7 : w_law_5 [a0, .own h4.d, a2, x3, .fro (.int (n : Nat)), .fro (.int (s : Nat)), .fro (.int (e : Nat)), .fro (.int (o : Nat)), .fro (dW (way n s e)), .fro (.lst [.int (lg n : Nat), dW (way n s e)]), .fro (.lst ((List.range n).map fun g => dW (way n s g))), x11, x12, x13, x14, x15, .no, .no, .no] = .nx [a0, .own h4.d, a2, x3, .fro (.int (n : Nat)), .fro (.int (s : Nat)), .fro (.int (e : Nat)), .fro (.int (o : Nat)), .fro (dW (way n s e)), .fro (.lst [.int (lg n : Nat), dW (way n s e)]), .fro (.lst ((List.range n).map fun g => dW (way n s g))), x11, x12, x13, x14, x15, .no, .no, .no] := by
    rw [mm] at g2 ⊢
    simp only [w_law_5, sIf, DL.tOr, tV, eOp, eUn]
    have e10 : ∀ ρ : Rho, ρ[10]? = some (.fro (.lst (((List.range n).map (way n s)).map dW))) → eV 10 ρ = .ok (.lst (((List.range n).map (way n s)).map dW)) ρ := fun ρ hρ => by unfold eV; rw [hρ]
    rw [e10 _ rfl]
    simp only [OE.bind, OE.of, ln]
    have e4' : ∀ ρ : Rho, ρ[4]? = some (.fro (.int (n : Nat))) → eV 4 ρ = .ok (.int (n : Nat)) ρ := fun ρ hρ => by unfold eV; rw [hρ]
    rw [e4' _ rfl]
    have d1 : dNe (.int (n : Nat)) (.int (n : Nat)) = some (.bl false) := by simp [dNe, D.sh, D.eqv]
    simp only [d1, OE.test, OT.bind, Bool.false_eq_true, if_false]
    rw [e10 _ rfl]
    simp only [g2, nne, OE.test, OT.st, Bool.false_eq_true, if_false]
    rfl
  -- mate, same
  have wo := way_at hn ho he
  have s8 : sSet 11 (eCall f_single_way [eV 4, eV 7, eV 6]) [a0, .own h4.d, a2, x3, .fro (.int (n : Nat)), .fro (.int (s : Nat)), .fro (.int (e : Nat)), .fro (.int (o : Nat)), .fro (dW (way n s e)), .fro (.lst [.int (lg n : Nat), dW (way n s e)]), .fro (.lst ((List.range n).map fun g => dW (way n s g))), x11, x12, x13, x14, x15, .no, .no, .no] = .nx [a0, .own h4.d, a2, x3, .fro (.int (n : Nat)), .fro (.int (s : Nat)), .fro (.int (e : Nat)), .fro (.int (o : Nat)), .fro (dW (way n s e)), .fro (.lst [.int (lg n : Nat), dW (way n s e)]), .fro (.lst ((List.range n).map fun g => dW (way n s g))), .fro (dW (way n o e)), x12, x13, x14, x15, .no, .no, .no] := by
    simp [sSet, eCall, aL, eV, OA.bind, wo, OE.st, setF, npE, n11, dW]
  generalize hE : D.lst ((List.range n).map fun g => dW (way n s g)) = dE at s6 s7 s8
  generalize hC : D.lst [.int (lg n : Nat), dW (way n s e)] = dC at s4 s5 s6 s7 s8
  have lo := last_at hn ho he
  have hml : (mets (way n s e) (way n o e)).length < 1000 := by
    have : (mets (way n s e) (way n o e)).length ≤ (way n s e).length := by unfold mets; rw [List.length_zipWith]; exact Nat.min_le_left _ _
    omega
  have c9 := mets_comp a0 (.own h4.d) a2 x3 (.fro (.int (n : Nat))) (.fro (.int (s : Nat))) (.fro (.int (e : Nat))) (.fro (.int (o : Nat))) (.fro (dW (way n s e))) (.fro dC) (.fro dE) (.fro (dW (way n o e))) x12 x13 x14 x15 (way n s e) (way n o e)
  have s9 : w_law_6 [a0, .own h4.d, a2, x3, .fro (.int (n : Nat)), .fro (.int (s : Nat)), .fro (.int (e : Nat)), .fro (.int (o : Nat)), .fro (dW (way n s e)), .fro dC, .fro dE, .fro (dW (way n o e)), x12, x13, x14, x15, .no, .no, .no] = .nx [a0, .own h4.d, a2, x3, .fro (.int (n : Nat)), .fro (.int (s : Nat)), .fro (.int (e : Nat)), .fro (.int (o : Nat)), .fro (dW (way n s e)), .fro dC, .fro dE, .fro (dW (way n o e)), .fro (.lst ((mets (way n s e) (way n o e)).map .bl)), x13, x14, x15, .no, .no, .no] := by
    have lz : (way n s e).length = (way n o e).length := by
      have : ∀ (m k : Nat) (i j : Int), (wayI m k i j).length = k := by
        intro m k
        induction k with
        | zero => intros; rfl
        | succ k ih => intro i j; simp [wayI, ih]
      unfold way
      rw [this, this]
    have okz : okLen (zipD ((way n s e).map D.int) ((way n o e).map D.int)).length = true := okLen_of (by simp [zipD]; omega)
    have hz : iB dZip [eV 8, eV 11] [a0, .own h4.d, a2, x3, .fro (.int (n : Nat)), .fro (.int (s : Nat)), .fro (.int (e : Nat)), .fro (.int (o : Nat)), .fro (dW (way n s e)), .fro dC, .fro dE, .fro (dW (way n o e)), x12, x13, x14, x15, .no, .no, .no] = .ok (zipD ((way n s e).map D.int) ((way n o e).map D.int)) [a0, .own h4.d, a2, x3, .fro (.int (n : Nat)), .fro (.int (s : Nat)), .fro (.int (e : Nat)), .fro (.int (o : Nat)), .fro (dW (way n s e)), .fro dC, .fro dE, .fro (dW (way n o e)), x12, x13, x14, x15, .no, .no, .no] := by
      simp [iB, aL, eV, dW, OA.it, dZip, lz]
    generalize hρ : [a0, .own h4.d, a2, x3, .fro (.int (n : Nat)), .fro (.int (s : Nat)), .fro (.int (e : Nat)), .fro (.int (o : Nat)), .fro (dW (way n s e)), .fro dC, .fro dE, .fro (dW (way n o e)), x12, x13, x14, x15, .no, .no, .no] = ρ at c9 hz ⊢
    have hnp : [17, 18].all (DL.notPar ρ) = true := by subst hρ; rfl
    have hw : wipeR ρ [17, 18] = ρ := by subst hρ; rfl
    have hc : (okLen (zipD ((way n s e).map D.int) ((way n o e).map D.int)).length && [17, 18].all (DL.notPar ρ)) = true := by rw [okz, hnp, Bool.and_self]
    have hcomp : eComp (iB dZip [eV 8, eV 11]) (.tp [.nm 17, .nm 18]) tTrue (eOp dEq (eV 17) (eV 18)) [17, 18] ρ = .ok (.lst ((mets (way n s e) (way n o e)).map .bl)) ρ := by
      unfold eComp
      rw [hz]
      simp only [OA.bind]
      rw [if_pos hc, hw, c9]
    unfold w_law_6 sSet
    rw [hcomp]
    subst hρ
    simp [OE.st, setF, npE, n12]
  generalize hM : mets (way n s e) (way n o e) = mt at s9 hml
  have kp : keeps mt = true := by rw [← hM]; exact keeps_at hn hs ho he
  have c10 := keeps_comp a0 (.own h4.d) a2 x3 (.fro (.int (n : Nat))) (.fro (.int (s : Nat))) (.fro (.int (e : Nat))) (.fro (.int (o : Nat))) (.fro (dW (way n s e))) (.fro dC) (.fro dE) (.fro (dW (way n o e))) (.fro (.lst (mt.map .bl))) x13 x14 x15 mt (mt.drop 1)
  have s10 : w_law_7 [a0, .own h4.d, a2, x3, .fro (.int (n : Nat)), .fro (.int (s : Nat)), .fro (.int (e : Nat)), .fro (.int (o : Nat)), .fro (dW (way n s e)), .fro dC, .fro dE, .fro (dW (way n o e)), .fro (.lst (mt.map .bl)), x13, x14, x15, .no, .no, .no] = .nx [a0, .own h4.d, a2, x3, .fro (.int (n : Nat)), .fro (.int (s : Nat)), .fro (.int (e : Nat)), .fro (.int (o : Nat)), .fro (dW (way n s e)), .fro dC, .fro dE, .fro (dW (way n o e)), .fro (.lst (mt.map .bl)), x13, x14, x15, .no, .no, .no] := by
    have okz : okLen (zipD (mt.map D.bl) ((mt.drop 1).map D.bl)).length = true := okLen_of (by simp [zipD]; omega)
    have hz : iB dZip [eV 12, eCut dCut (eV 12) (some (eC (.int 1))) none] [a0, .own h4.d, a2, x3, .fro (.int (n : Nat)), .fro (.int (s : Nat)), .fro (.int (e : Nat)), .fro (.int (o : Nat)), .fro (dW (way n s e)), .fro dC, .fro dE, .fro (dW (way n o e)), .fro (.lst (mt.map .bl)), x13, x14, x15, .no, .no, .no] = .ok (zipD (mt.map D.bl) ((mt.drop 1).map D.bl)) [a0, .own h4.d, a2, x3, .fro (.int (n : Nat)), .fro (.int (s : Nat)), .fro (.int (e : Nat)), .fro (.int (o : Nat)), .fro (dW (way n s e)), .fro dC, .fro dE, .fro (dW (way n o e)), .fro (.lst (mt.map .bl)), x13, x14, x15, .no, .no, .no] := by
      simp [iB, aL, eV, eCut, OE.bind, ePart, eC, dCut, cut1D, OE.of, OA.it, dZip, List.map_drop]
    generalize hρ : [a0, .own h4.d, a2, x3, .fro (.int (n : Nat)), .fro (.int (s : Nat)), .fro (.int (e : Nat)), .fro (.int (o : Nat)), .fro (dW (way n s e)), .fro dC, .fro dE, .fro (dW (way n o e)), .fro (.lst (mt.map .bl)), x13, x14, x15, .no, .no, .no] = ρ at c10 hz ⊢
    have hnp : [17, 18].all (DL.notPar ρ) = true := by subst hρ; rfl
    have hw : wipeR ρ [17, 18] = ρ := by subst hρ; rfl
    have hc : (okLen (zipD (mt.map D.bl) ((mt.drop 1).map D.bl)).length && [17, 18].all (DL.notPar ρ)) = true := by rw [okz, hnp, Bool.and_self]
    have hcomp : eComp (iB dZip [eV 12, eCut dCut (eV 12) (some (eC (.int 1))) none]) (.tp [.nm 17, .nm 18]) tTrue (eOr (eUn dNot (eV 17)) (eV 18)) [17, 18] ρ = .ok (.lst ((mt.zip (mt.drop 1)).map fun p => .bl (!p.1 || p.2))) ρ := by
      unfold eComp
      rw [hz]
      simp only [OA.bind]
      rw [if_pos hc, hw, c10]
    have hall : dAll [.lst ((mt.zip (mt.drop 1)).map fun p => .bl (!p.1 || p.2))] = some (.bl true) := by
      have h1 : ((mt.zip (mt.drop 1)).map fun p => D.bl (!p.1 || p.2)).all D.isB = true := by simp [D.isB]
      have h2 : ((mt.zip (mt.drop 1)).map fun p => D.bl (!p.1 || p.2)).all D.isT = true := by
        unfold keeps at kp
        rw [List.all_map]
        rw [← kp]
        congr 1
        funext p
        show D.isT (.bl (!p.1 || p.2)) = (!p.1 || p.2)
        cases (!p.1 || p.2) <;> rfl
      simp only [dAll, h1, h2, if_true]
    unfold w_law_7 sIf DL.tNot tV eB aL
    rw [hcomp]
    simp only [aL, OA.bind, hall, OE.of, OE.test, OT.bind, OT.st]
    rfl
  -- bad, none
  obtain ⟨h5, b0, ok5, nb0, e5⟩ := none_spec h4 ok4
  obtain ⟨h6, bad, ok6, m6, e6⟩ := some_spec h5 ok5 [.int 0, .int 1, .int 3, .int 6, .int 32, b0] (by simp) (by simp)
  have tb : bad.ty.isSome = true ∧ okL bad = false := by
    simp only [List.mem_cons, List.not_mem_nil, or_false] at m6
    rcases m6 with rfl | rfl | rfl | rfl | rfl | rfl <;> first | exact ⟨rfl, rfl⟩ | exact ⟨nb0.1, nb0.2.1⟩
  have s11 : w_law_8 [a0, .own h4.d, a2, x3, .fro (.int (n : Nat)), .fro (.int (s : Nat)), .fro (.int (e : Nat)), .fro (.int (o : Nat)), .fro (dW (way n s e)), .fro dC, .fro dE, .fro (dW (way n o e)), .fro (.lst (mt.map .bl)), x13, x14, x15, .no, .no, .no] = .nx [a0, .own h6.d, a2, x3, .fro (.int (n : Nat)), .fro (.int (s : Nat)), .fro (.int (e : Nat)), .fro (.int (o : Nat)), .fro (dW (way n s e)), .fro dC, .fro dE, .fro (dW (way n o e)), .fro (.lst (mt.map .bl)), .fro bad, x14, x15, .no, .no, .no] := by
    simp [w_law_8, sSet, eCallM, mL, svOf, slots, putBack, SV.cont?, SV.put, eLst, aL, eC, OA.bind, e5, e6, OE.st, setF, npE, n13]
  obtain ⟨h7, b1, ok7, nb1, e7⟩ := none_spec h6 ok6
  obtain ⟨h8, no, ok8, m8, e8⟩ := some_spec h7 ok7 [.int (n : Nat), b1] (by simp) (by simp)
  have tn : no.ty.isSome = true ∧ within 0 ((n : Int) - 1) no = false := by
    simp only [List.mem_cons, List.not_mem_nil, or_false] at m8
    rcases m8 with rfl | rfl
    · refine ⟨rfl, ?_⟩
      simp [within]
      omega
    · exact ⟨nb1.1, nb1.2.2 _⟩
  have s12 : w_law_9 [a0, .own h6.d, a2, x3, .fro (.int (n : Nat)), .fro (.int (s : Nat)), .fro (.int (e : Nat)), .fro (.int (o : Nat)), .fro (dW (way n s e)), .fro dC, .fro dE, .fro (dW (way n o e)), .fro (.lst (mt.map .bl)), .fro bad, x14, x15, .no, .no, .no] = .nx [a0, .own h8.d, a2, x3, .fro (.int (n : Nat)), .fro (.int (s : Nat)), .fro (.int (e : Nat)), .fro (.int (o : Nat)), .fro (dW (way n s e)), .fro dC, .fro dE, .fro (dW (way n o e)), .fro (.lst (mt.map .bl)), .fro bad, .fro no, x15, .no, .no, .no] := by
    simp [w_law_9, sSet, eCallM, mL, svOf, slots, putBack, SV.cont?, SV.put, eLst, aL, eC, eV, OA.bind, e7, e8, OE.st, setF, npE, n14]
  -- words
  have okn := mem_sizes hn
  have f1 := L_stages_bad bad tb.1 tb.2
  have f2 := L_way_bad bad no no tb.1 tb.2
  have f3 := L_way_bad1 (n : Nat) no (.int 0) okn tn.1 tn.2
  have f4 := L_way_bad2 (n : Nat) 0 no okn (by simp [within]; omega) tn.1 tn.2
  have wd0 : wd_law_word "NoNumber" [] = some (.int 0) := rfl
  have s13 : w_law_10 [a0, .own h8.d, a2, x3, .fro (.int (n : Nat)), .fro (.int (s : Nat)), .fro (.int (e : Nat)), .fro (.int (o : Nat)), .fro (dW (way n s e)), .fro dC, .fro dE, .fro (dW (way n o e)), .fro (.lst (mt.map .bl)), .fro bad, .fro no, x15, .no, .no, .no] = .nx [a0, .own h8.d, a2, x3, .fro (.int (n : Nat)), .fro (.int (s : Nat)), .fro (.int (e : Nat)), .fro (.int (o : Nat)), .fro (dW (way n s e)), .fro dC, .fro dE, .fro (dW (way n o e)), .fro (.lst (mt.map .bl)), .fro bad, .fro no, .own (.lst [.int 0]), .no, .no, .no] := by
    simp [w_law_10, sSetO, eLst, aL, eLam, eCall, eV, OA.bind, f1, wd0, OE.st, setO, npE, n15]
  have s14 : w_law_11 [a0, .own h8.d, a2, x3, .fro (.int (n : Nat)), .fro (.int (s : Nat)), .fro (.int (e : Nat)), .fro (.int (o : Nat)), .fro (dW (way n s e)), .fro dC, .fro dE, .fro (dW (way n o e)), .fro (.lst (mt.map .bl)), .fro bad, .fro no, .own (.lst [.int 0]), .no, .no, .no] = .nx [a0, .own h8.d, a2, x3, .fro (.int (n : Nat)), .fro (.int (s : Nat)), .fro (.int (e : Nat)), .fro (.int (o : Nat)), .fro (dW (way n s e)), .fro dC, .fro dE, .fro (dW (way n o e)), .fro (.lst (mt.map .bl)), .fro bad, .fro no, .own (.lst [.int 0, .int 0]), .no, .no, .no] := by
    simp [w_law_11, sDrop, eMutP, SV.cont?, D.isL, eMut, aL, eLam, eCall, eV, OA.bind, f2, wd0, dAppend, ft24c, SV.put, OE.st]
  have s15 : w_law_12 [a0, .own h8.d, a2, x3, .fro (.int (n : Nat)), .fro (.int (s : Nat)), .fro (.int (e : Nat)), .fro (.int (o : Nat)), .fro (dW (way n s e)), .fro dC, .fro dE, .fro (dW (way n o e)), .fro (.lst (mt.map .bl)), .fro bad, .fro no, .own (.lst [.int 0, .int 0]), .no, .no, .no] = .nx [a0, .own h8.d, a2, x3, .fro (.int (n : Nat)), .fro (.int (s : Nat)), .fro (.int (e : Nat)), .fro (.int (o : Nat)), .fro (dW (way n s e)), .fro dC, .fro dE, .fro (dW (way n o e)), .fro (.lst (mt.map .bl)), .fro bad, .fro no, .own (.lst [.int 0, .int 0, .int 0]), .no, .no, .no] := by
    simp [w_law_12, sDrop, eMutP, SV.cont?, D.isL, eMut, aL, eLam, eCall, eV, eC, OA.bind, f3, wd0, dAppend, ft24, SV.put, OE.st]
  have s16 : w_law_13 [a0, .own h8.d, a2, x3, .fro (.int (n : Nat)), .fro (.int (s : Nat)), .fro (.int (e : Nat)), .fro (.int (o : Nat)), .fro (dW (way n s e)), .fro dC, .fro dE, .fro (dW (way n o e)), .fro (.lst (mt.map .bl)), .fro bad, .fro no, .own (.lst [.int 0, .int 0, .int 0]), .no, .no, .no] = .nx [a0, .own h8.d, a2, x3, .fro (.int (n : Nat)), .fro (.int (s : Nat)), .fro (.int (e : Nat)), .fro (.int (o : Nat)), .fro (dW (way n s e)), .fro dC, .fro dE, .fro (dW (way n o e)), .fro (.lst (mt.map .bl)), .fro bad, .fro no, .own (.lst [.int 0, .int 0, .int 0, .int 0]), .no, .no, .no] := by
    simp [w_law_13, sDrop, eMutP, SV.cont?, D.isL, eMut, aL, eLam, eCall, eV, eC, OA.bind, f4, wd0, dAppend, ft24b, SV.put, OE.st]
  have s17 : w_law_14 [a0, .own h8.d, a2, x3, .fro (.int (n : Nat)), .fro (.int (s : Nat)), .fro (.int (e : Nat)), .fro (.int (o : Nat)), .fro (dW (way n s e)), .fro dC, .fro dE, .fro (dW (way n o e)), .fro (.lst (mt.map .bl)), .fro bad, .fro no, .own (.lst [.int 0, .int 0, .int 0, .int 0]), .no, .no, .no] = .nx [a0, .own h8.d, a2, x3, .fro (.int (n : Nat)), .fro (.int (s : Nat)), .fro (.int (e : Nat)), .fro (.int (o : Nat)), .fro (dW (way n s e)), .fro dC, .fro dE, .fro (dW (way n o e)), .fro (.lst (mt.map .bl)), .fro bad, .fro no, .own (.lst [.int 0, .int 0, .int 0, .int 0]), .no, .no, .no] := by
    simp [w_law_14, sIf, tBor, boxed, SV.cont?, D.box, hideR, tV, eOp, eV, OE.bind, eLst, aL, eC, OA.bind, OE.of, dRep, ftn4, okl4, List.replicate, dNe, D.sh, D.shs, D.eqv, D.eqvs, OE.test, OT.st, sNil]
  refine ⟨h8, .fro (.int (n : Nat)), .fro (.int (s : Nat)), .fro (.int (e : Nat)), .fro (.int (o : Nat)), .fro (dW (way n s e)), .fro dC, .fro dE, .fro (dW (way n o e)), .fro (.lst (mt.map .bl)), .fro bad, .fro no, .own (.lst [.int 0, .int 0, .int 0, .int 0]), ok8, rfl, ?_⟩
  simp only [w_law_15, sSeq, s1, s2, s3, s4, s5, s6, s7, s8, s9, s10, s11, s12, s13, s14, s15, s16, s17]
end K63

set_option Elab.async false
set_option linter.all false
set_option maxRecDepth 100000
set_option maxHeartbeats 400000
namespace K63
open PySem PySem.Spec PyProof.Rows L2 DL
theorem cut_map (ns : List Int) (lo hi : Option Int) : ∃ cs : List Int, DL.cutD (ns.map .int) lo hi = cs.map .int ∧ cs.length ≤ ns.length := by
  refine ⟨(ns.drop (HT.sIx ns.length 0 lo)).take (HT.sIx ns.length ns.length hi - HT.sIx ns.length 0 lo), ?_, ?_⟩
  · unfold DL.cutD
    rw [List.length_map, List.map_take, List.map_drop]
  · rw [List.length_take, List.length_drop]; omega
theorem cells_comp (x0 : SV) : ∀ (l : List Int) , compL (.nm 2) tTrue (eB dAbs [eB dInt [eV 2]]) [2] (l.map .int) [x0, .no, .no] = .ok ((l.map fun i => if i < 0 then -i else i).map .int) [x0, .no, .no]
  | [] => rfl
  | i :: l => by
    have ih := cells_comp x0 l
    simp [compL, bindP, DL.notPar, tTrue, eB, aL, eV, OA.bind, dInt, dAbs, OE.of, wipeR, ih]
theorem hand_ok (ns : List Int) (h : ns.length ≤ 63) : ∃ h : Hd, h.ok ∧ f_law_hand [.scr ns] = .ret h.d [] := by
  obtain ⟨cs, hc, hl⟩ := cut_map ns none (some 63)
  have c := cells_comp (.fro (.scr ns)) cs
  have ok : okLen (cs.map D.int).length = true := okLen_of (by rw [List.length_map]; omega)
  have hz : iSeq (eCut dCut (eV 0) none (some (eC (.int 63)))) [.fro (.scr ns), .no, .no] = .ok (cs.map .int) [.fro (.scr ns), .no, .no] := by
    simp [iSeq, eCut, eV, OE.bind, ePart, eC, dCut, hc, OE.of, OE.it, D.items]
  have e1 : b_law_hand [.fro (.scr ns), .no, .no] = .nx [.fro (.scr ns), .fro (.lst ((cs.map fun i => if i < 0 then -i else i).map .int)), .no] := by
    generalize hρ : [SV.fro (.scr ns), .no, .no] = ρ at c hz ⊢
    have hnp : [2].all (DL.notPar ρ) = true := by subst hρ; rfl
    have hw : wipeR ρ [2] = ρ := by subst hρ; rfl
    have hcnd : (okLen (cs.map D.int).length && [2].all (DL.notPar ρ)) = true := by rw [ok, hnp, Bool.and_self]
    unfold b_law_hand sSet eComp
    rw [hz]
    simp only [OA.bind]
    rw [if_pos hcnd, hw, c]
    subst hρ
    rfl
  have bg : big 3 = false := by decide
  refine ⟨⟨cs.map fun i => if i < 0 then -i else i, 0, 0, 449 + 3 * (cs.length : Nat), 0⟩, Int.le_refl 0, ?_⟩
  have e2 : r_law_hand [.fro (.scr ns), .fro (.lst ((cs.map fun i => if i < 0 then -i else i).map .int)), .no] = .ok (Hd.d ⟨cs.map fun i => if i < 0 then -i else i, 0, 0, 449 + 3 * (cs.length : Nat), 0⟩) [.fro (.scr ns), .fro (.lst ((cs.map fun i => if i < 0 then -i else i).map .int)), .no] := by
    simp [r_law_hand, eLst, aL, eV, eC, eOp, eB, OA.bind, OE.bind, OE.of, dLen, dMul, bg, dPlus, Hd.d]
  have key : f_law_hand [.scr ns] = (match b_law_hand [.fro (.scr ns), .no, .no] with | .nx ρ => (match r_law_hand ρ with | .ok d _ => OF.ret d [] | _ => .stuck) | _ => .stuck) := rfl
  rw [key, e1]
  simp only [e2]
theorem loop_ok (a0 a2 : SV) : ∀ (ds : List D) (h : Hd) (ok : h.ok) (x3 x4 x5 x6 x7 x8 x9 x10 x11 x12 x13 x14 x15 : SV) (n3 : np x3 = true) (n : (np x4 && np x5 && np x6 && np x7 && np x8 && np x9 && np x10 && np x11 && np x12 && np x13 && np x14 && np x15) = true),
    ∃ ρ', forL (.nm 3) w_law_15 ds [a0, .own h.d, a2, x3, x4, x5, x6, x7, x8, x9, x10, x11, x12, x13, x14, x15, .no, .no, .no] = .nx ρ'
  | [], h, ok, x3, x4, x5, x6, x7, x8, x9, x10, x11, x12, x13, x14, x15, n3, n => ⟨_, rfl⟩
  | d :: ds, h, ok, x3, x4, x5, x6, x7, x8, x9, x10, x11, x12, x13, x14, x15, n3, n => by
    simp only [Bool.and_eq_true] at n
    obtain ⟨⟨⟨⟨⟨⟨⟨⟨⟨⟨⟨m4, m5⟩, m6⟩, m7⟩, m8⟩, m9⟩, m10⟩, m11⟩, m12⟩, m13⟩, m14⟩, m15⟩ := n
    obtain ⟨h', y4, y5, y6, y7, y8, y9, y10, y11, y12, y13, y14, y15, ok', ny, e⟩ := turn h ok a0 a2 (.fro d) x4 x5 x6 x7 x8 x9 x10 x11 x12 x13 x14 x15 m4 m5 m6 m7 m8 m9 m10 m11 m12 m13 m14 m15
    obtain ⟨ρ', e'⟩ := loop_ok a0 a2 ds h' ok' (.fro d) y4 y5 y6 y7 y8 y9 y10 y11 y12 y13 y14 y15 rfl ny
    refine ⟨ρ', ?_⟩
    have hb : bindP (.nm 3) d [a0, .own h.d, a2, x3, x4, x5, x6, x7, x8, x9, x10, x11, x12, x13, x14, x15, .no, .no, .no] = some [a0, .own h.d, a2, .fro d, x4, x5, x6, x7, x8, x9, x10, x11, x12, x13, x14, x15, .no, .no, .no] := by
      have : DL.notPar [a0, .own h.d, a2, x3, x4, x5, x6, x7, x8, x9, x10, x11, x12, x13, x14, x15, .no, .no, .no] 3 = true := by rw [npE]; exact n3
      simp only [bindP, this, if_true]; rfl
    simp only [forL, hb, e, e']
theorem law_ok (ns : List Int) (hn : ns.length ≤ 63) : ∃ ps, f_law [.scr ns] = .ret (.bl true) ps := by
  obtain ⟨h, ok, e⟩ := hand_ok ns hn
  have key : f_law [.scr ns] = OS.fin 1 (b_law [.fro (.scr ns), .no, .no, .no, .no, .no, .no, .no, .no, .no, .no, .no, .no, .no, .no, .no, .no, .no, .no]) := rfl
  have e1 : b_law_1 [.fro (.scr ns), .no, .no, .no, .no, .no, .no, .no, .no, .no, .no, .no, .no, .no, .no, .no, .no, .no, .no] = .nx [.fro (.scr ns), .own h.d, .no, .no, .no, .no, .no, .no, .no, .no, .no, .no, .no, .no, .no, .no, .no, .no, .no] := by
    simp [b_law_1, sSetO, eCallO, aL, eV, OA.bind, e, OE.st, setO, DL.notPar]
  obtain ⟨dk, e2, e3⟩ : ∃ dk, b_law_2 [.fro (.scr ns), .own h.d, .no, .no, .no, .no, .no, .no, .no, .no, .no, .no, .no, .no, .no, .no, .no, .no, .no] = .nx [.fro (.scr ns), .own h.d, .fro dk, .no, .no, .no, .no, .no, .no, .no, .no, .no, .no, .no, .no, .no, .no, .no, .no] ∧
      b_law_3 [.fro (.scr ns), .own h.d, .fro dk, .no, .no, .no, .no, .no, .no, .no, .no, .no, .no, .no, .no, .no, .no, .no, .no] = .nx [.fro (.scr ns), .own h.d, .fro dk, .no, .no, .no, .no, .no, .no, .no, .no, .no, .no, .no, .no, .no, .no, .no, .no] := by
    refine ⟨.lst [.int 3, .tup [.int 0, .int 1], .tup [.int 2, .int 5, .int 3], .tup [.int 0], .int 1], ?_, ?_⟩
    · rfl
    · rfl
  obtain ⟨ρ', e4⟩ := loop_ok (.fro (.scr ns)) (.fro dk) (rangeD 0 8) h ok .no .no .no .no .no .no .no .no .no .no .no .no .no rfl rfl
  have e4' : b_law_4 [.fro (.scr ns), .own h.d, .fro dk, .no, .no, .no, .no, .no, .no, .no, .no, .no, .no, .no, .no, .no, .no, .no, .no] = .nx ρ' := by
    have sm : small 8 = true := by decide
    simp only [b_law_4, sFor, iB, aL, eC, OA.it, dRange1 sm, e4]
  rw [key]
  simp only [b_law, sSeq, e1, e2, e3, e4', b_law_5, sRet, eC, OE.st, OS.fin]
  exact ⟨_, rfl⟩
end K63

set_option Elab.async false
set_option linter.all false
set_option maxRecDepth 100000
set_option maxHeartbeats 400000
namespace K63
open PySem PySem.Spec PyProof.Rows L2 DL
def classes (C0 C1 : Addr) : String → Addr := fun s => if s = "NoNumber" then C0 else if s = "WireError" then C1 else  0
theorem all_mk {l : PySem.W.OpenLaw} {w : World} {K : PySem.W.Frag} {h : Heap} {mg mb : Str → Option Value} {fa : Addr} {q : Program} {lo : List Str} {me : _} (X : K.In h) (G : h.Ns mainGlobals mg) (TT : Top q lo me mg mb h) (hfa : mg "law" = some (.ref fa))
    {C0 : Addr}
    {nm0 qn0 : Str} {nN0 : Addr} {bs0 bm0 : List Value} {sn0 : List Str} {sub0 : List Value} {ab0 : Bool} {col0 : Option Bool} {dd0 : Option Addr} {k00 k10 k20 k30 k50 : Option Value}
    {C1 : Addr}
    {nm1 qn1 : Str} {nN1 : Addr} {bs1 bm1 : List Value} {sn1 : List Str} {sub1 : List Value} {ab1 : Bool} {col1 : Option Bool} {dd1 : Option Addr} {k01 k11 k21 k31 k51 : Option Value}
    {f_init : Addr} {od_init an_init : Option Addr} {sl_init : Array (Option Value)} {oc_init kV_init dc_init pm_init cd_init ct_init : Value}
    {f_is_integer : Addr} {od_is_integer an_is_integer : Option Addr} {sl_is_integer : Array (Option Value)} {oc_is_integer kV_is_integer dc_is_integer pm_is_integer cd_is_integer ct_is_integer : Value}
    {f_is_within : Addr} {od_is_within an_is_within : Option Addr} {sl_is_within : Array (Option Value)} {oc_is_within kV_is_within dc_is_within pm_is_within cd_is_within ct_is_within : Value}
    {f_check_number : Addr} {od_check_number an_check_number : Option Addr} {sl_check_number : Array (Option Value)} {oc_check_number kV_check_number dc_check_number pm_check_number cd_check_number ct_check_number : Value}
    {f_check_lines : Addr} {od_check_lines an_check_lines : Option Addr} {sl_check_lines : Array (Option Value)} {oc_check_lines kV_check_lines dc_check_lines pm_check_lines cd_check_lines ct_check_lines : Value}
    {f_stages : Addr} {od_stages an_stages : Option Addr} {sl_stages : Array (Option Value)} {oc_stages kV_stages dc_stages pm_stages cd_stages ct_stages : Value}
    {f_shuffled : Addr} {od_shuffled an_shuffled : Option Addr} {sl_shuffled : Array (Option Value)} {oc_shuffled kV_shuffled dc_shuffled pm_shuffled cd_shuffled ct_shuffled : Value}
    {f_single_way : Addr} {od_single_way an_single_way : Option Addr} {sl_single_way : Array (Option Value)} {oc_single_way kV_single_way dc_single_way pm_single_way cd_single_way ct_single_way : Value}
    {f_raw_way : Addr} {od_raw_way an_raw_way : Option Addr} {sl_raw_way : Array (Option Value)} {oc_raw_way kV_raw_way dc_raw_way pm_raw_way cd_raw_way ct_raw_way : Value}
    {f_law_draw : Addr} {od_law_draw an_law_draw : Option Addr} {sl_law_draw : Array (Option Value)} {oc_law_draw kV_law_draw dc_law_draw pm_law_draw cd_law_draw ct_law_draw : Value}
    {f_law_some : Addr} {od_law_some an_law_some : Option Addr} {sl_law_some : Array (Option Value)} {oc_law_some kV_law_some dc_law_some pm_law_some cd_law_some ct_law_some : Value}
    {f_law_is : Addr} {od_law_is an_law_is : Option Addr} {sl_law_is : Array (Option Value)} {oc_law_is kV_law_is dc_law_is pm_law_is cd_law_is ct_law_is : Value}
    {f_law_hand : Addr} {od_law_hand an_law_hand : Option Addr} {sl_law_hand : Array (Option Value)} {oc_law_hand kV_law_hand dc_law_hand pm_law_hand cd_law_hand ct_law_hand : Value}
    {f_law_deep : Addr} {od_law_deep an_law_deep : Option Addr} {sl_law_deep : Array (Option Value)} {oc_law_deep kV_law_deep dc_law_deep pm_law_deep cd_law_deep ct_law_deep : Value}
    {f_law_none : Addr} {od_law_none an_law_none : Option Addr} {sl_law_none : Array (Option Value)} {oc_law_none kV_law_none dc_law_none pm_law_none cd_law_none ct_law_none : Value}
    {f_law_bits : Addr} {od_law_bits an_law_bits : Option Addr} {sl_law_bits : Array (Option Value)} {oc_law_bits kV_law_bits dc_law_bits pm_law_bits cd_law_bits ct_law_bits : Value}
    {f_law_way : Addr} {od_law_way an_law_way : Option Addr} {sl_law_way : Array (Option Value)} {oc_law_way kV_law_way dc_law_way pm_law_way cd_law_way ct_law_way : Value}
    {f_law_twos : Addr} {od_law_twos an_law_twos : Option Addr} {sl_law_twos : Array (Option Value)} {oc_law_twos kV_law_twos dc_law_twos pm_law_twos cd_law_twos ct_law_twos : Value}
    {f_law_size : Addr} {od_law_size an_law_size : Option Addr} {sl_law_size : Array (Option Value)} {oc_law_size kV_law_size dc_law_size pm_law_size cd_law_size ct_law_size : Value}
    {f_law_word : Addr} {od_law_word an_law_word : Option Addr} {sl_law_word : Array (Option Value)} {oc_law_word kV_law_word dc_law_word pm_law_word cd_law_word ct_law_word : Value}
    {f_law kc_law pt_law : Addr} {od_law an_law : Option Addr} {sl_law : Array (Option Value)} {oc_law kV_law dc_law pm_law ct_law : Value}
    {okv_law : Value} {dk_law : Option Addr} {vk_law : Array Value} {sk_law : Array (Option Value)}
    {t_LINES : Addr} {dd_LINES : Option Addr} {nn_LINES : Nat} {sl_LINES : Array (Option Value)} {tk0_LINES tk1_LINES tk2_LINES tk3_LINES : Tok}
    {d_law : DefRec} (r_law : (recsOf q).find? (fun e => e.name == ("law" : Str)) = some d_law)
    (aC0 : PySem.W.nsIn K mainGlobals "NoNumber" = some (some (.ref C0)))
    (lC0 : K.lookup C0 = some (excClassObj nm0 qn0 C0 nN0 bs0 bm0 true sn0 sub0 ab0 col0 dd0 k00 k10 k20 k30 k50 "ValueError.__new__"))
    (vC0 : PySem.HandSPX.refsVE bm0 = true)
    (sC0 : PySem.W.findIn K (.ref C0) "__setattr__" = some (some (.builtin "object.__setattr__")))
    (eC0 : PySem.W.subIn K (.ref C0) (.type "BaseException") = some true)
    (tC0 : PySem.W.typeIn K (.ref C0) = some (.type "type"))
    (kC0 : PySem.W.keepIn K (.ref C0) = true)
    (iC0 : PySem.W.findIn K (.ref C0) "__init__" = some (some (.ref f_init)))
    (aC1 : PySem.W.nsIn K mainGlobals "WireError" = some (some (.ref C1)))
    (lC1 : K.lookup C1 = some (excClassObj nm1 qn1 C1 nN1 bs1 bm1 true sn1 sub1 ab1 col1 dd1 k01 k11 k21 k31 k51 "ValueError.__new__"))
    (vC1 : PySem.HandSPX.refsVE bm1 = true)
    (sC1 : PySem.W.findIn K (.ref C1) "__setattr__" = some (some (.builtin "object.__setattr__")))
    (eC1 : PySem.W.subIn K (.ref C1) (.type "BaseException") = some true)
    (tC1 : PySem.W.typeIn K (.ref C1) = some (.type "type"))
    (kC1 : PySem.W.keepIn K (.ref C1) = true)
    (iC1 : PySem.W.findIn K (.ref C1) "__init__" = some (some (.ref f_init)))
    (xg0 : PySem.W.findIn K (.ref C0) "__getattribute__" = some (some (.builtin "BaseException.__getattribute__")))
    (xk0 : PySem.W.findIn K (.ref C0) "__getattr__" = some none)
    (xd0 : PySem.W.hasDictIn K C0 = true)
    (xa0 : PySem.W.findIn K (.ref C0) "__class__" = some (some (.builtin "object.__class__")))
    (xm0 : PySem.W.mroIn K C0 (.type "object") = some true)
    (xe0 : PySem.W.subIn K (.ref C0) (.ref C1) = some true)
    (xc0 : PySem.W.isClsIn K C0 = true)
    (xv0 : PySem.W.subIn K (.ref C0) (.type "ValueError") = some true)
    (xcW : PySem.W.isClsIn K C1 = true)
    (xn : PySem.W.specialIn K (.builtin "object.__class__") "__get__" = some (some (.builtin "getset_descriptor.__get__")))
    (xt : PySem.W.takesIn K (.builtin "object.__class__") = some true)
    (vV : PySem.W.findCls K (.type "ValueError") (.type "type") "__init__" = some (.val (.builtin "ValueError.__init__")))
    (l_init : K.lookup f_init = some ⟨oc_init, od_init, .func (PySem.W.fnOf "__init__" "WireError.__init__" (defArgs initS) (defBody initS) (defScope initS) .none kV_init dc_init pm_init an_init cd_init ct_init), sl_init⟩)
    (c_init : PySem.W.codeIn K cd_init "WireError.__init__" = true)
    (k_init : PySem.W.keepIn K (.ref f_init) = true)
    (t_init : PySem.W.typeIn K (.ref f_init) = some (.type "function"))
    (a_is_integer : PySem.W.nsIn K mainGlobals "is_integer" = some (some (.ref f_is_integer)))
    (l_is_integer : K.lookup f_is_integer = some ⟨oc_is_integer, od_is_integer, .func (PySem.W.fnOf "is_integer" "is_integer" (defArgs s_is_integer) (defBody s_is_integer) (defScope s_is_integer) .none kV_is_integer dc_is_integer pm_is_integer an_is_integer cd_is_integer ct_is_integer), sl_is_integer⟩)
    (c_is_integer : PySem.W.codeIn K cd_is_integer "is_integer" = true)
    (k_is_integer : PySem.W.keepIn K (.ref f_is_integer) = true)
    (a_is_within : PySem.W.nsIn K mainGlobals "is_within" = some (some (.ref f_is_within)))
    (l_is_within : K.lookup f_is_within = some ⟨oc_is_within, od_is_within, .func (PySem.W.fnOf "is_within" "is_within" (defArgs s_is_within) (defBody s_is_within) (defScope s_is_within) .none kV_is_within dc_is_within pm_is_within an_is_within cd_is_within ct_is_within), sl_is_within⟩)
    (c_is_within : PySem.W.codeIn K cd_is_within "is_within" = true)
    (k_is_within : PySem.W.keepIn K (.ref f_is_within) = true)
    (a_check_number : PySem.W.nsIn K mainGlobals "check_number" = some (some (.ref f_check_number)))
    (l_check_number : K.lookup f_check_number = some ⟨oc_check_number, od_check_number, .func (PySem.W.fnOf "check_number" "check_number" (defArgs s_check_number) (defBody s_check_number) (defScope s_check_number) .none kV_check_number dc_check_number pm_check_number an_check_number cd_check_number ct_check_number), sl_check_number⟩)
    (c_check_number : PySem.W.codeIn K cd_check_number "check_number" = true)
    (k_check_number : PySem.W.keepIn K (.ref f_check_number) = true)
    (a_check_lines : PySem.W.nsIn K mainGlobals "check_lines" = some (some (.ref f_check_lines)))
    (l_check_lines : K.lookup f_check_lines = some ⟨oc_check_lines, od_check_lines, .func (PySem.W.fnOf "check_lines" "check_lines" (defArgs s_check_lines) (defBody s_check_lines) (defScope s_check_lines) .none kV_check_lines dc_check_lines pm_check_lines an_check_lines cd_check_lines ct_check_lines), sl_check_lines⟩)
    (c_check_lines : PySem.W.codeIn K cd_check_lines "check_lines" = true)
    (k_check_lines : PySem.W.keepIn K (.ref f_check_lines) = true)
    (a_stages : PySem.W.nsIn K mainGlobals "stages" = some (some (.ref f_stages)))
    (l_stages : K.lookup f_stages = some ⟨oc_stages, od_stages, .func (PySem.W.fnOf "stages" "stages" (defArgs s_stages) (defBody s_stages) (defScope s_stages) .none kV_stages dc_stages pm_stages an_stages cd_stages ct_stages), sl_stages⟩)
    (c_stages : PySem.W.codeIn K cd_stages "stages" = true)
    (k_stages : PySem.W.keepIn K (.ref f_stages) = true)
    (a_shuffled : PySem.W.nsIn K mainGlobals "shuffled" = some (some (.ref f_shuffled)))
    (l_shuffled : K.lookup f_shuffled = some ⟨oc_shuffled, od_shuffled, .func (PySem.W.fnOf "shuffled" "shuffled" (defArgs s_shuffled) (defBody s_shuffled) (defScope s_shuffled) .none kV_shuffled dc_shuffled pm_shuffled an_shuffled cd_shuffled ct_shuffled), sl_shuffled⟩)
    (c_shuffled : PySem.W.codeIn K cd_shuffled "shuffled" = true)
    (k_shuffled : PySem.W.keepIn K (.ref f_shuffled) = true)
    (a_single_way : PySem.W.nsIn K mainGlobals "single_way" = some (some (.ref f_single_way)))
    (l_single_way : K.lookup f_single_way = some ⟨oc_single_way, od_single_way, .func (PySem.W.fnOf "single_way" "single_way" (defArgs s_single_way) (defBody s_single_way) (defScope s_single_way) .none kV_single_way dc_single_way pm_single_way an_single_way cd_single_way ct_single_way), sl_single_way⟩)
    (c_single_way : PySem.W.codeIn K cd_single_way "single_way" = true)
    (k_single_way : PySem.W.keepIn K (.ref f_single_way) = true)
    (a_raw_way : PySem.W.nsIn K mainGlobals "raw_way" = some (some (.ref f_raw_way)))
    (l_raw_way : K.lookup f_raw_way = some ⟨oc_raw_way, od_raw_way, .func (PySem.W.fnOf "raw_way" "raw_way" (defArgs s_raw_way) (defBody s_raw_way) (defScope s_raw_way) .none kV_raw_way dc_raw_way pm_raw_way an_raw_way cd_raw_way ct_raw_way), sl_raw_way⟩)
    (c_raw_way : PySem.W.codeIn K cd_raw_way "raw_way" = true)
    (k_raw_way : PySem.W.keepIn K (.ref f_raw_way) = true)
    (a_law_draw : PySem.W.nsIn K mainGlobals "_law_draw" = some (some (.ref f_law_draw)))
    (l_law_draw : K.lookup f_law_draw = some ⟨oc_law_draw, od_law_draw, .func (PySem.W.fnOf "_law_draw" "_law_draw" (defArgs s_law_draw) (defBody s_law_draw) (defScope s_law_draw) .none kV_law_draw dc_law_draw pm_law_draw an_law_draw cd_law_draw ct_law_draw), sl_law_draw⟩)
    (c_law_draw : PySem.W.codeIn K cd_law_draw "_law_draw" = true)
    (k_law_draw : PySem.W.keepIn K (.ref f_law_draw) = true)
    (a_law_some : PySem.W.nsIn K mainGlobals "_law_some" = some (some (.ref f_law_some)))
    (l_law_some : K.lookup f_law_some = some ⟨oc_law_some, od_law_some, .func (PySem.W.fnOf "_law_some" "_law_some" (defArgs s_law_some) (defBody s_law_some) (defScope s_law_some) .none kV_law_some dc_law_some pm_law_some an_law_some cd_law_some ct_law_some), sl_law_some⟩)
    (c_law_some : PySem.W.codeIn K cd_law_some "_law_some" = true)
    (k_law_some : PySem.W.keepIn K (.ref f_law_some) = true)
    (a_law_is : PySem.W.nsIn K mainGlobals "_law_is" = some (some (.ref f_law_is)))
    (l_law_is : K.lookup f_law_is = some ⟨oc_law_is, od_law_is, .func (PySem.W.fnOf "_law_is" "_law_is" (defArgs s_law_is) (defBody s_law_is) (defScope s_law_is) .none kV_law_is dc_law_is pm_law_is an_law_is cd_law_is ct_law_is), sl_law_is⟩)
    (c_law_is : PySem.W.codeIn K cd_law_is "_law_is" = true)
    (k_law_is : PySem.W.keepIn K (.ref f_law_is) = true)
    (a_law_hand : PySem.W.nsIn K mainGlobals "_law_hand" = some (some (.ref f_law_hand)))
    (l_law_hand : K.lookup f_law_hand = some ⟨oc_law_hand, od_law_hand, .func (PySem.W.fnOf "_law_hand" "_law_hand" (defArgs s_law_hand) (defBody s_law_hand) (defScope s_law_hand) .none kV_law_hand dc_law_hand pm_law_hand an_law_hand cd_law_hand ct_law_hand), sl_law_hand⟩)
    (c_law_hand : PySem.W.codeIn K cd_law_hand "_law_hand" = true)
    (k_law_hand : PySem.W.keepIn K (.ref f_law_hand) = true)
    (a_law_deep : PySem.W.nsIn K mainGlobals "_law_deep" = some (some (.ref f_law_deep)))
    (l_law_deep : K.lookup f_law_deep = some ⟨oc_law_deep, od_law_deep, .func (PySem.W.fnOf "_law_deep" "_law_deep" (defArgs s_law_deep) (defBody s_law_deep) (defScope s_law_deep) .none kV_law_deep dc_law_deep pm_law_deep an_law_deep cd_law_deep ct_law_deep), sl_law_deep⟩)
    (c_law_deep : PySem.W.codeIn K cd_law_deep "_law_deep" = true)
    (k_law_deep : PySem.W.keepIn K (.ref f_law_deep) = true)
    (a_law_none : PySem.W.nsIn K mainGlobals "_law_none" = some (some (.ref f_law_none)))
    (l_law_none : K.lookup f_law_none = some ⟨oc_law_none, od_law_none, .func (PySem.W.fnOf "_law_none" "_law_none" (defArgs s_law_none) (defBody s_law_none) (defScope s_law_none) .none kV_law_none dc_law_none pm_law_none an_law_none cd_law_none ct_law_none), sl_law_none⟩)
    (c_law_none : PySem.W.codeIn K cd_law_none "_law_none" = true)
    (k_law_none : PySem.W.keepIn K (.ref f_law_none) = true)
    (a_law_bits : PySem.W.nsIn K mainGlobals "_law_bits" = some (some (.ref f_law_bits)))
    (l_law_bits : K.lookup f_law_bits = some ⟨oc_law_bits, od_law_bits, .func (PySem.W.fnOf "_law_bits" "_law_bits" (defArgs s_law_bits) (defBody s_law_bits) (defScope s_law_bits) .none kV_law_bits dc_law_bits pm_law_bits an_law_bits cd_law_bits ct_law_bits), sl_law_bits⟩)
    (c_law_bits : PySem.W.codeIn K cd_law_bits "_law_bits" = true)
    (k_law_bits : PySem.W.keepIn K (.ref f_law_bits) = true)
    (a_law_way : PySem.W.nsIn K mainGlobals "_law_way" = some (some (.ref f_law_way)))
    (l_law_way : K.lookup f_law_way = some ⟨oc_law_way, od_law_way, .func (PySem.W.fnOf "_law_way" "_law_way" (defArgs s_law_way) (defBody s_law_way) (defScope s_law_way) .none kV_law_way dc_law_way pm_law_way an_law_way cd_law_way ct_law_way), sl_law_way⟩)
    (c_law_way : PySem.W.codeIn K cd_law_way "_law_way" = true)
    (k_law_way : PySem.W.keepIn K (.ref f_law_way) = true)
    (a_law_twos : PySem.W.nsIn K mainGlobals "_law_twos" = some (some (.ref f_law_twos)))
    (l_law_twos : K.lookup f_law_twos = some ⟨oc_law_twos, od_law_twos, .func (PySem.W.fnOf "_law_twos" "_law_twos" (defArgs s_law_twos) (defBody s_law_twos) (defScope s_law_twos) .none kV_law_twos dc_law_twos pm_law_twos an_law_twos cd_law_twos ct_law_twos), sl_law_twos⟩)
    (c_law_twos : PySem.W.codeIn K cd_law_twos "_law_twos" = true)
    (k_law_twos : PySem.W.keepIn K (.ref f_law_twos) = true)
    (a_law_size : PySem.W.nsIn K mainGlobals "_law_size" = some (some (.ref f_law_size)))
    (l_law_size : K.lookup f_law_size = some ⟨oc_law_size, od_law_size, .func (PySem.W.fnOf "_law_size" "_law_size" (defArgs s_law_size) (defBody s_law_size) (defScope s_law_size) .none kV_law_size dc_law_size pm_law_size an_law_size cd_law_size ct_law_size), sl_law_size⟩)
    (c_law_size : PySem.W.codeIn K cd_law_size "_law_size" = true)
    (k_law_size : PySem.W.keepIn K (.ref f_law_size) = true)
    (a_law_word : PySem.W.nsIn K mainGlobals "_law_word" = some (some (.ref f_law_word)))
    (l_law_word : K.lookup f_law_word = some ⟨oc_law_word, od_law_word, .func (PySem.W.fnOf "_law_word" "_law_word" (defArgs s_law_word) (defBody s_law_word) (defScope s_law_word) .none kV_law_word dc_law_word pm_law_word an_law_word cd_law_word ct_law_word), sl_law_word⟩)
    (c_law_word : PySem.W.codeIn K cd_law_word "_law_word" = true)
    (k_law_word : PySem.W.keepIn K (.ref f_law_word) = true)
    (a_law : PySem.W.nsIn K mainGlobals "law" = some (some (.ref f_law)))
    (l_law : K.lookup f_law = some ⟨oc_law, od_law, .func (PySem.W.fnOf "law" "law" (defArgs s_law) (defBody s_law) (defScope s_law) .none kV_law dc_law pm_law an_law (.ref kc_law) ct_law), sl_law⟩)
    (c_law : PySem.W.codeIn K (.ref kc_law) "law" = true)
    (k_law : PySem.W.keepIn K (.ref f_law) = true)
    (lk_law : K.lookup kc_law = some ⟨okv_law, dk_law, .fields vk_law, sk_law⟩)
    (vt_law : vk_law[11]? = some (.ref pt_law))
    (nt_law : K.lookup pt_law = none)
    (a_LINES : PySem.W.nsIn K mainGlobals "LINES" = some (some (.ref t_LINES)))
    (l_LINES : K.lookup t_LINES = some ⟨.type "tuple", dd_LINES, .seq #[.int 2 tk0_LINES, .int 4 tk1_LINES, .int 8 tk2_LINES, .int 16 tk3_LINES] nn_LINES, sl_LINES⟩)
    (z_abs : PySem.W.nsIn K mainGlobals "abs" = some none)
    (z_all : PySem.W.nsIn K mainGlobals "all" = some none)
    (z_bool : PySem.W.nsIn K mainGlobals "bool" = some none)
    (z_int : PySem.W.nsIn K mainGlobals "int" = some none)
    (z_isinstance : PySem.W.nsIn K mainGlobals "isinstance" = some none)
    (z_len : PySem.W.nsIn K mainGlobals "len" = some none)
    (z_list : PySem.W.nsIn K mainGlobals "list" = some none)
    (z_range : PySem.W.nsIn K mainGlobals "range" = some none)
    (z_set : PySem.W.nsIn K mainGlobals "set" = some none)
    (z_str : PySem.W.nsIn K mainGlobals "str" = some none)
    (z_tuple : PySem.W.nsIn K mainGlobals "tuple" = some none)
    (z_zip : PySem.W.nsIn K mainGlobals "zip" = some none)
    (z_ValueError : PySem.W.nsIn K mainGlobals "ValueError" = some none)
    : LamX.LawAtS l w K (L2.CX l.prog w) 49 63 "script" mg fa h := by
  have e := hfa.symm.trans (PySem.W.mg_of X G a_law)
  cases e
  let M : Md := ⟨K, classes C0 C1, [(pt_law, ("law.<locals>.<lambda>" : Str))]⟩
  let A : Ad := { a_init := f_init, d_init := PySem.W.fnOf "__init__" "WireError.__init__" (defArgs initS) (defBody initS) (defScope initS) .none kV_init dc_init pm_init an_init cd_init ct_init, a_is_integer := f_is_integer, d_is_integer := PySem.W.fnOf "is_integer" "is_integer" (defArgs s_is_integer) (defBody s_is_integer) (defScope s_is_integer) .none kV_is_integer dc_is_integer pm_is_integer an_is_integer cd_is_integer ct_is_integer, a_is_within := f_is_within, d_is_within := PySem.W.fnOf "is_within" "is_within" (defArgs s_is_within) (defBody s_is_within) (defScope s_is_within) .none kV_is_within dc_is_within pm_is_within an_is_within cd_is_within ct_is_within, a_check_number := f_check_number, d_check_number := PySem.W.fnOf "check_number" "check_number" (defArgs s_check_number) (defBody s_check_number) (defScope s_check_number) .none kV_check_number dc_check_number pm_check_number an_check_number cd_check_number ct_check_number, a_check_lines := f_check_lines, d_check_lines := PySem.W.fnOf "check_lines" "check_lines" (defArgs s_check_lines) (defBody s_check_lines) (defScope s_check_lines) .none kV_check_lines dc_check_lines pm_check_lines an_check_lines cd_check_lines ct_check_lines, a_stages := f_stages, d_stages := PySem.W.fnOf "stages" "stages" (defArgs s_stages) (defBody s_stages) (defScope s_stages) .none kV_stages dc_stages pm_stages an_stages cd_stages ct_stages, a_shuffled := f_shuffled, d_shuffled := PySem.W.fnOf "shuffled" "shuffled" (defArgs s_shuffled) (defBody s_shuffled) (defScope s_shuffled) .none kV_shuffled dc_shuffled pm_shuffled an_shuffled cd_shuffled ct_shuffled, a_single_way := f_single_way, d_single_way := PySem.W.fnOf "single_way" "single_way" (defArgs s_single_way) (defBody s_single_way) (defScope s_single_way) .none kV_single_way dc_single_way pm_single_way an_single_way cd_single_way ct_single_way, a_raw_way := f_raw_way, d_raw_way := PySem.W.fnOf "raw_way" "raw_way" (defArgs s_raw_way) (defBody s_raw_way) (defScope s_raw_way) .none kV_raw_way dc_raw_way pm_raw_way an_raw_way cd_raw_way ct_raw_way, a_law_draw := f_law_draw, d_law_draw := PySem.W.fnOf "_law_draw" "_law_draw" (defArgs s_law_draw) (defBody s_law_draw) (defScope s_law_draw) .none kV_law_draw dc_law_draw pm_law_draw an_law_draw cd_law_draw ct_law_draw, a_law_some := f_law_some, d_law_some := PySem.W.fnOf "_law_some" "_law_some" (defArgs s_law_some) (defBody s_law_some) (defScope s_law_some) .none kV_law_some dc_law_some pm_law_some an_law_some cd_law_some ct_law_some, a_law_is := f_law_is, d_law_is := PySem.W.fnOf "_law_is" "_law_is" (defArgs s_law_is) (defBody s_law_is) (defScope s_law_is) .none kV_law_is dc_law_is pm_law_is an_law_is cd_law_is ct_law_is, a_law_hand := f_law_hand, d_law_hand := PySem.W.fnOf "_law_hand" "_law_hand" (defArgs s_law_hand) (defBody s_law_hand) (defScope s_law_hand) .none kV_law_hand dc_law_hand pm_law_hand an_law_hand cd_law_hand ct_law_hand, a_law_deep := f_law_deep, d_law_deep := PySem.W.fnOf "_law_deep" "_law_deep" (defArgs s_law_deep) (defBody s_law_deep) (defScope s_law_deep) .none kV_law_deep dc_law_deep pm_law_deep an_law_deep cd_law_deep ct_law_deep, a_law_none := f_law_none, d_law_none := PySem.W.fnOf "_law_none" "_law_none" (defArgs s_law_none) (defBody s_law_none) (defScope s_law_none) .none kV_law_none dc_law_none pm_law_none an_law_none cd_law_none ct_law_none, a_law_bits := f_law_bits, d_law_bits := PySem.W.fnOf "_law_bits" "_law_bits" (defArgs s_law_bits) (defBody s_law_bits) (defScope s_law_bits) .none kV_law_bits dc_law_bits pm_law_bits an_law_bits cd_law_bits ct_law_bits, a_law_way := f_law_way, d_law_way := PySem.W.fnOf "_law_way" "_law_way" (defArgs s_law_way) (defBody s_law_way) (defScope s_law_way) .none kV_law_way dc_law_way pm_law_way an_law_way cd_law_way ct_law_way, a_law_twos := f_law_twos, d_law_twos := PySem.W.fnOf "_law_twos" "_law_twos" (defArgs s_law_twos) (defBody s_law_twos) (defScope s_law_twos) .none kV_law_twos dc_law_twos pm_law_twos an_law_twos cd_law_twos ct_law_twos, a_law_size := f_law_size, d_law_size := PySem.W.fnOf "_law_size" "_law_size" (defArgs s_law_size) (defBody s_law_size) (defScope s_law_size) .none kV_law_size dc_law_size pm_law_size an_law_size cd_law_size ct_law_size, a_law_word := f_law_word, d_law_word := PySem.W.fnOf "_law_word" "_law_word" (defArgs s_law_word) (defBody s_law_word) (defScope s_law_word) .none kV_law_word dc_law_word pm_law_word an_law_word cd_law_word ct_law_word, a_law := fa, d_law := PySem.W.fnOf "law" "law" (defArgs s_law) (defBody s_law) (defScope s_law) .none kV_law dc_law pm_law an_law (.ref kc_law) ct_law, p_law := pt_law, k_law := kc_law }
  have F_init : Fun K "__init__" "WireError.__init__" initS A.a_init A.d_init := fun_mk (st := initS) l_init c_init k_init
  have b_init : Binds K A.d_init ["self"] [] := F_init.binds (ps := ["self"]) fun _ _ _ _ _ _ us hl => match us, hl with | [_], _ => rfl
  have F_is_integer : Fun K "is_integer" "is_integer" s_is_integer A.a_is_integer A.d_is_integer := fun_mk (st := s_is_integer) l_is_integer c_is_integer k_is_integer
  have b_is_integer : Binds K A.d_is_integer ["thing"] [] := F_is_integer.binds (ps := ["thing"]) fun _ _ _ _ _ _ us hl => match us, hl with | [_], _ => rfl
  have F_is_within : Fun K "is_within" "is_within" s_is_within A.a_is_within A.d_is_within := fun_mk (st := s_is_within) l_is_within c_is_within k_is_within
  have b_is_within : Binds K A.d_is_within ["thing", "least", "most"] [] := F_is_within.binds (ps := ["thing", "least", "most"]) fun _ _ _ _ _ _ us hl => match us, hl with | [_, _, _], _ => rfl
  have F_check_number : Fun K "check_number" "check_number" s_check_number A.a_check_number A.d_check_number := fun_mk (st := s_check_number) l_check_number c_check_number k_check_number
  have b_check_number : Binds K A.d_check_number ["thing", "least", "most"] [] := F_check_number.binds (ps := ["thing", "least", "most"]) fun _ _ _ _ _ _ us hl => match us, hl with | [_, _, _], _ => rfl
  have F_check_lines : Fun K "check_lines" "check_lines" s_check_lines A.a_check_lines A.d_check_lines := fun_mk (st := s_check_lines) l_check_lines c_check_lines k_check_lines
  have b_check_lines : Binds K A.d_check_lines ["lines"] [] := F_check_lines.binds (ps := ["lines"]) fun _ _ _ _ _ _ us hl => match us, hl with | [_], _ => rfl
  have F_stages : Fun K "stages" "stages" s_stages A.a_stages A.d_stages := fun_mk (st := s_stages) l_stages c_stages k_stages
  have b_stages : Binds K A.d_stages ["lines"] [] := F_stages.binds (ps := ["lines"]) fun _ _ _ _ _ _ us hl => match us, hl with | [_], _ => rfl
  have F_shuffled : Fun K "shuffled" "shuffled" s_shuffled A.a_shuffled A.d_shuffled := fun_mk (st := s_shuffled) l_shuffled c_shuffled k_shuffled
  have b_shuffled : Binds K A.d_shuffled ["line", "lines"] [] := F_shuffled.binds (ps := ["line", "lines"]) fun _ _ _ _ _ _ us hl => match us, hl with | [_, _], _ => rfl
  have F_single_way : Fun K "single_way" "single_way" s_single_way A.a_single_way A.d_single_way := fun_mk (st := s_single_way) l_single_way c_single_way k_single_way
  have b_single_way : Binds K A.d_single_way ["lines", "begin", "end"] [] := F_single_way.binds (ps := ["lines", "begin", "end"]) fun _ _ _ _ _ _ us hl => match us, hl with | [_, _, _], _ => rfl
  have F_raw_way : Fun K "raw_way" "raw_way" s_raw_way A.a_raw_way A.d_raw_way := fun_mk (st := s_raw_way) l_raw_way c_raw_way k_raw_way
  have b_raw_way : Binds K A.d_raw_way ["lines", "begin", "end"] [] := F_raw_way.binds (ps := ["lines", "begin", "end"]) fun _ _ _ _ _ _ us hl => match us, hl with | [_, _, _], _ => rfl
  have F_law_draw : Fun K "_law_draw" "_law_draw" s_law_draw A.a_law_draw A.d_law_draw := fun_mk (st := s_law_draw) l_law_draw c_law_draw k_law_draw
  have b_law_draw : Binds K A.d_law_draw ["hand", "span"] [] := F_law_draw.binds (ps := ["hand", "span"]) fun _ _ _ _ _ _ us hl => match us, hl with | [_, _], _ => rfl
  have F_law_some : Fun K "_law_some" "_law_some" s_law_some A.a_law_some A.d_law_some := fun_mk (st := s_law_some) l_law_some c_law_some k_law_some
  have b_law_some : Binds K A.d_law_some ["hand", "things"] [] := F_law_some.binds (ps := ["hand", "things"]) fun _ _ _ _ _ _ us hl => match us, hl with | [_, _], _ => rfl
  have F_law_is : Fun K "_law_is" "_law_is" s_law_is A.a_law_is A.d_law_is := fun_mk (st := s_law_is) l_law_is c_law_is k_law_is
  have b_law_is : Binds K A.d_law_is ["thing", "due"] [] := F_law_is.binds (ps := ["thing", "due"]) fun _ _ _ _ _ _ us hl => match us, hl with | [_, _], _ => rfl
  have F_law_hand : Fun K "_law_hand" "_law_hand" s_law_hand A.a_law_hand A.d_law_hand := fun_mk (st := s_law_hand) l_law_hand c_law_hand k_law_hand
  have b_law_hand : Binds K A.d_law_hand ["script"] [] := F_law_hand.binds (ps := ["script"]) fun _ _ _ _ _ _ us hl => match us, hl with | [_], _ => rfl
  have F_law_deep : Fun K "_law_deep" "_law_deep" s_law_deep A.a_law_deep A.d_law_deep := fun_mk (st := s_law_deep) l_law_deep c_law_deep k_law_deep
  have b_law_deep : Binds K A.d_law_deep ["hand"] [] := F_law_deep.binds (ps := ["hand"]) fun _ _ _ _ _ _ us hl => match us, hl with | [_], _ => rfl
  have F_law_none : Fun K "_law_none" "_law_none" s_law_none A.a_law_none A.d_law_none := fun_mk (st := s_law_none) l_law_none c_law_none k_law_none
  have b_law_none : Binds K A.d_law_none ["hand"] [] := F_law_none.binds (ps := ["hand"]) fun _ _ _ _ _ _ us hl => match us, hl with | [_], _ => rfl
  have F_law_bits : Fun K "_law_bits" "_law_bits" s_law_bits A.a_law_bits A.d_law_bits := fun_mk (st := s_law_bits) l_law_bits c_law_bits k_law_bits
  have b_law_bits : Binds K A.d_law_bits ["lines"] [] := F_law_bits.binds (ps := ["lines"]) fun _ _ _ _ _ _ us hl => match us, hl with | [_], _ => rfl
  have F_law_way : Fun K "_law_way" "_law_way" s_law_way A.a_law_way A.d_law_way := fun_mk (st := s_law_way) l_law_way c_law_way k_law_way
  have b_law_way : Binds K A.d_law_way ["lines", "start", "end"] [] := F_law_way.binds (ps := ["lines", "start", "end"]) fun _ _ _ _ _ _ us hl => match us, hl with | [_, _, _], _ => rfl
  have F_law_twos : Fun K "_law_twos" "_law_twos" s_law_twos A.a_law_twos A.d_law_twos := fun_mk (st := s_law_twos) l_law_twos c_law_twos k_law_twos
  have b_law_twos : Binds K A.d_law_twos ["often"] [] := F_law_twos.binds (ps := ["often"]) fun _ _ _ _ _ _ us hl => match us, hl with | [_], _ => rfl
  have F_law_size : Fun K "_law_size" "_law_size" s_law_size A.a_law_size A.d_law_size := fun_mk (st := s_law_size) l_law_size c_law_size k_law_size
  have b_law_size : Binds K A.d_law_size ["hand"] [] := F_law_size.binds (ps := ["hand"]) fun _ _ _ _ _ _ us hl => match us, hl with | [_], _ => rfl
  have F_law_word : Fun K "_law_word" "_law_word" s_law_word A.a_law_word A.d_law_word := fun_mk (st := s_law_word) l_law_word c_law_word k_law_word
  have b_law_word : Binds K A.d_law_word ["asked"] [] := F_law_word.binds (ps := ["asked"]) fun _ _ _ _ _ _ us hl => match us, hl with | [_], _ => rfl
  have C_law : FunC K "law" "law" s_law A.a_law A.d_law A.k_law := ⟨⟨_, _, _, _, _, _, _, _, rfl, l_law, c_law⟩, k_law⟩
  have F_law := C_law.fun
  have b_law : Binds K A.d_law ["script"] [] := F_law.binds (ps := ["script"]) fun _ _ _ _ _ _ us hl => match us, hl with | [_], _ => rfl
  have T : ∀ base : Heap, LamX.TabB base mg kc_law pt_law → Tx M mg base A := fun base tB_law => {
    m_ValueError := PySem.W.mg_none_of X G z_ValueError, vV := vV, F_init := F_init, b_init := b_init, ti := t_init,
    g_LINES := ⟨t_LINES, PySem.W.mg_of X G a_LINES, .inr ⟨_, _, _, l_LINES, rfl, rfl, by rw [sizeLine_eq]; show 4 ≤ 16777216; decide, .cons ⟨_, rfl⟩ (.cons ⟨_, rfl⟩ (.cons ⟨_, rfl⟩ (.cons ⟨_, rfl⟩ (.nil))))⟩⟩,
    m_abs := PySem.W.mg_none_of X G z_abs,
    m_all := PySem.W.mg_none_of X G z_all,
    m_bool := PySem.W.mg_none_of X G z_bool,
    m_int := PySem.W.mg_none_of X G z_int,
    m_isinstance := PySem.W.mg_none_of X G z_isinstance,
    m_len := PySem.W.mg_none_of X G z_len,
    m_list := PySem.W.mg_none_of X G z_list,
    m_range := PySem.W.mg_none_of X G z_range,
    m_set := PySem.W.mg_none_of X G z_set,
    m_str := PySem.W.mg_none_of X G z_str,
    m_tuple := PySem.W.mg_none_of X G z_tuple,
    m_zip := PySem.W.mg_none_of X G z_zip,
    o_NoNumber := ⟨⟨_, _, _, _, _, _, _, _, _, _, _, _, _, _, _, lC0, vC0⟩, sC0, eC0, tC0, kC0⟩,
    i_NoNumber := iC0,
    x_NoNumber := PySem.W.mg_of X G aC0,
    F_is_integer := F_is_integer,
    b_is_integer := b_is_integer, g_is_integer := PySem.W.mg_of X G a_is_integer,
    F_is_within := F_is_within,
    b_is_within := b_is_within, g_is_within := PySem.W.mg_of X G a_is_within,
    F_check_number := F_check_number,
    b_check_number := b_check_number, g_check_number := PySem.W.mg_of X G a_check_number,
    F_check_lines := F_check_lines,
    b_check_lines := b_check_lines, g_check_lines := PySem.W.mg_of X G a_check_lines,
    F_stages := F_stages,
    b_stages := b_stages, g_stages := PySem.W.mg_of X G a_stages,
    F_shuffled := F_shuffled,
    b_shuffled := b_shuffled, g_shuffled := PySem.W.mg_of X G a_shuffled,
    F_single_way := F_single_way,
    b_single_way := b_single_way, g_single_way := PySem.W.mg_of X G a_single_way,
    F_raw_way := F_raw_way,
    b_raw_way := b_raw_way, g_raw_way := PySem.W.mg_of X G a_raw_way,
    F_law_draw := F_law_draw,
    b_law_draw := b_law_draw, g_law_draw := PySem.W.mg_of X G a_law_draw,
    F_law_some := F_law_some,
    b_law_some := b_law_some, g_law_some := PySem.W.mg_of X G a_law_some,
    F_law_is := F_law_is,
    b_law_is := b_law_is, g_law_is := PySem.W.mg_of X G a_law_is,
    F_law_hand := F_law_hand,
    b_law_hand := b_law_hand, g_law_hand := PySem.W.mg_of X G a_law_hand,
    F_law_deep := F_law_deep,
    b_law_deep := b_law_deep, g_law_deep := PySem.W.mg_of X G a_law_deep,
    F_law_none := F_law_none,
    b_law_none := b_law_none, g_law_none := PySem.W.mg_of X G a_law_none,
    F_law_bits := F_law_bits,
    b_law_bits := b_law_bits, g_law_bits := PySem.W.mg_of X G a_law_bits,
    F_law_way := F_law_way,
    b_law_way := b_law_way, g_law_way := PySem.W.mg_of X G a_law_way,
    F_law_twos := F_law_twos,
    b_law_twos := b_law_twos, g_law_twos := PySem.W.mg_of X G a_law_twos,
    F_law_size := F_law_size,
    b_law_size := b_law_size, g_law_size := PySem.W.mg_of X G a_law_size,
    F_law_word := F_law_word,
    b_law_word := b_law_word, g_law_word := PySem.W.mg_of X G a_law_word,
    C_law := C_law, T_law := tB_law, tb_law := by simp [M, A], tu_law := by intro p hp _; simp [M] at hp; rw [hp],
    b_law := b_law, g_law := PySem.W.mg_of X G a_law,
    x_WireError := PySem.W.mg_of X G aC1,
    exm_law_word := by intro c hc; simp only [cs_law_word, List.mem_cons, List.not_mem_nil, or_false] at hc; rcases hc with rfl <;> first | exact xm_of xcW tC1 eC1 xe0,
    ex_law_word := by intro c hc; simp only [cs_law_word, List.mem_cons, List.not_mem_nil, or_false] at hc; rcases hc with rfl <;> first | exact ⟨xg0, xk0, eC0, xd0, xa0, xn, xt, xm0⟩,
    kve_law_word := by intro c hc; simp only [cs_law_word, List.mem_cons, List.not_mem_nil, or_false] at hc; rcases hc with rfl <;> first | exact ki_VE xv0,
    kit_law_word := by
      intro c hc c2 hc2; simp only [cs_law_word, List.mem_cons, List.not_mem_nil, or_false] at hc hc2
      rcases hc with rfl <;> rcases hc2 with rfl
      all_goals first | exact ki_same }
  have tablaw := PySem.W.tab_of TT X r_law (tab_in a_law l_law rfl lk_law vt_law)
  refine ⟨A.d_law, [(kc_law, pt_law)], spP M f_law, by intro p hp; simp only [List.mem_cons, List.not_mem_nil, or_false] at hp; rcases hp with rfl <;> first | exact tablaw.2, by intro p hp; simp only [List.mem_cons, List.not_mem_nil, or_false] at hp; rcases hp with rfl <;> first | exact nt_law, by intro p hp; simp only [List.mem_cons, List.not_mem_nil, or_false] at hp; rcases hp with rfl <;> first | exact tablaw.1, fun s v => .of_eq rfl, fun H a ns hl _ hT hS => ?_, fun base _ _ hB => ok_law (P := l.prog) (w := w) (T base (hB (kc_law, pt_law) (by simp)))⟩
  obtain ⟨ps, e⟩ := law_ok ns hl
  refine sp_script (M := M) ?_ hS e
  intro p hp
  simp only [M, List.mem_cons, List.not_mem_nil, or_false] at hp
  rcases hp with rfl
  all_goals first | exact LamX.TabS.nil (hT (kc_law, pt_law) (by simp))
end K63
open PySem PySem.W PyProof.Rows
set_option maxHeartbeats 0 in
theorem PySem.Challenge.cw_sortwires_k63_whole_single_ways_holds : PySem.Challenge.rw_sortwires_k63_whole_single_ways.Holds := by
  w_on; o_law; k_head; (case hw => w_witness2)
  k_fill
  refine DL.walk_top (l := PySem.Challenge.rw_sortwires_k63_whole_single_ways) (n := 63) (k := 49) (x := "script") (CX := fun w => L2.CX PySem.Challenge.rw_sortwires_k63_whole_single_ways.prog w) rfl (by decide) rfl ⟨rfl, by decide, by decide⟩ (fun w h Y => PySem.W.km_in_of Y) ?F ?Z
  case Z => intro w H s e s2 h; obtain ⟨_, _, _, _, _, _, _, _, _, _, _, _, z⟩ := h; exact z
  case F =>
    intro w mg fa h TT Y KX G hmg
    obtain ⟨lo, me, mb, TT⟩ := TT
    refine' K63.all_mk KX G TT hmg ?r_law ?aC0 ?lC0 ?vC0 ?sC0 ?eC0 ?tC0 ?kC0 ?iC0 ?aC1 ?lC1 ?vC1 ?sC1 ?eC1 ?tC1 ?kC1 ?iC1 ?xg0 ?xk0 ?xd0 ?xa0 ?xm0 ?xe0 ?xc0 ?xv0 ?xcW ?xn ?xt ?vV ?l_init ?c_init ?k_init ?t_init ?a_is_integer ?l_is_integer ?c_is_integer ?k_is_integer ?a_is_within ?l_is_within ?c_is_within ?k_is_within ?a_check_number ?l_check_number ?c_check_number ?k_check_number ?a_check_lines ?l_check_lines ?c_check_lines ?k_check_lines ?a_stages ?l_stages ?c_stages ?k_stages ?a_shuffled ?l_shuffled ?c_shuffled ?k_shuffled ?a_single_way ?l_single_way ?c_single_way ?k_single_way ?a_raw_way ?l_raw_way ?c_raw_way ?k_raw_way ?a_law_draw ?l_law_draw ?c_law_draw ?k_law_draw ?a_law_some ?l_law_some ?c_law_some ?k_law_some ?a_law_is ?l_law_is ?c_law_is ?k_law_is ?a_law_hand ?l_law_hand ?c_law_hand ?k_law_hand ?a_law_deep ?l_law_deep ?c_law_deep ?k_law_deep ?a_law_none ?l_law_none ?c_law_none ?k_law_none ?a_law_bits ?l_law_bits ?c_law_bits ?k_law_bits ?a_law_way ?l_law_way ?c_law_way ?k_law_way ?a_law_twos ?l_law_twos ?c_law_twos ?k_law_twos ?a_law_size ?l_law_size ?c_law_size ?k_law_size ?a_law_word ?l_law_word ?c_law_word ?k_law_word ?a_law ?l_law ?c_law ?k_law ?lk_law ?vt_law ?nt_law ?a_LINES ?l_LINES ?z_abs ?z_all ?z_bool ?z_int ?z_isinstance ?z_len ?z_list ?z_range ?z_set ?z_str ?z_tuple ?z_zip ?z_ValueError
    (case r_law => rfl)
    (case aC0 => k_is)
    (case lC0 => k_is)
    (case vC0 => decide +kernel)
    (case sC0 => k_is)
    (case eC0 => k_is)
    (case tC0 => k_is)
    (case kC0 => k_is)
    (case iC0 => k_is)
    (case aC1 => k_is)
    (case lC1 => k_is)
    (case vC1 => decide +kernel)
    (case sC1 => k_is)
    (case eC1 => k_is)
    (case tC1 => k_is)
    (case kC1 => k_is)
    (case iC1 => k_is)
    (case xg0 => k_is)
    (case xk0 => k_is)
    (case xd0 => k_is)
    (case xa0 => k_is)
    (case xm0 => k_is)
    (case xe0 => k_is)
    (case xc0 => k_is)
    (case xv0 => k_is)
    (case xcW => k_is)
    (case xn => k_is)
    (case xt => k_is)
    (case vV => k_is)
    (case l_init => k_is)
    (case c_init => k_is)
    (case k_init => k_is)
    (case t_init => k_is)
    (case a_is_integer => k_is)
    (case l_is_integer => k_is)
    (case c_is_integer => k_is)
    (case k_is_integer => k_is)
    (case a_is_within => k_is)
    (case l_is_within => k_is)
    (case c_is_within => k_is)
    (case k_is_within => k_is)
    (case a_check_number => k_is)
    (case l_check_number => k_is)
    (case c_check_number => k_is)
    (case k_check_number => k_is)
    (case a_check_lines => k_is)
    (case l_check_lines => k_is)
    (case c_check_lines => k_is)
    (case k_check_lines => k_is)
    (case a_stages => k_is)
    (case l_stages => k_is)
    (case c_stages => k_is)
    (case k_stages => k_is)
    (case a_shuffled => k_is)
    (case l_shuffled => k_is)
    (case c_shuffled => k_is)
    (case k_shuffled => k_is)
    (case a_single_way => k_is)
    (case l_single_way => k_is)
    (case c_single_way => k_is)
    (case k_single_way => k_is)
    (case a_raw_way => k_is)
    (case l_raw_way => k_is)
    (case c_raw_way => k_is)
    (case k_raw_way => k_is)
    (case a_law_draw => k_is)
    (case l_law_draw => k_is)
    (case c_law_draw => k_is)
    (case k_law_draw => k_is)
    (case a_law_some => k_is)
    (case l_law_some => k_is)
    (case c_law_some => k_is)
    (case k_law_some => k_is)
    (case a_law_is => k_is)
    (case l_law_is => k_is)
    (case c_law_is => k_is)
    (case k_law_is => k_is)
    (case a_law_hand => k_is)
    (case l_law_hand => k_is)
    (case c_law_hand => k_is)
    (case k_law_hand => k_is)
    (case a_law_deep => k_is)
    (case l_law_deep => k_is)
    (case c_law_deep => k_is)
    (case k_law_deep => k_is)
    (case a_law_none => k_is)
    (case l_law_none => k_is)
    (case c_law_none => k_is)
    (case k_law_none => k_is)
    (case a_law_bits => k_is)
    (case l_law_bits => k_is)
    (case c_law_bits => k_is)
    (case k_law_bits => k_is)
    (case a_law_way => k_is)
    (case l_law_way => k_is)
    (case c_law_way => k_is)
    (case k_law_way => k_is)
    (case a_law_twos => k_is)
    (case l_law_twos => k_is)
    (case c_law_twos => k_is)
    (case k_law_twos => k_is)
    (case a_law_size => k_is)
    (case l_law_size => k_is)
    (case c_law_size => k_is)
    (case k_law_size => k_is)
    (case a_law_word => k_is)
    (case l_law_word => k_is)
    (case c_law_word => k_is)
    (case k_law_word => k_is)
    (case a_law => k_is)
    (case l_law => k_is)
    (case c_law => k_is)
    (case k_law => k_is)
    (case lk_law => k_is)
    (case vt_law => rfl)
    (case nt_law => exact DL.nt_of Y (by decide +kernel))
    (case a_LINES => k_is)
    (case l_LINES => k_is)
    (case z_abs => k_is)
    (case z_all => k_is)
    (case z_bool => k_is)
    (case z_int => k_is)
    (case z_isinstance => k_is)
    (case z_len => k_is)
    (case z_list => k_is)
    (case z_range => k_is)
    (case z_set => k_is)
    (case z_str => k_is)
    (case z_tuple => k_is)
    (case z_zip => k_is)
    (case z_ValueError => k_is)
#print axioms PySem.Challenge.cw_sortwires_k63_whole_single_ways_holds
