import PyProof.Rows.All
import Wide.All
import OpenK.AllK
import Wide.FinOn
import HandS.ForMost
import HandS.ForExc
import HandS.Codes
import HandS.CallSlots
import HandS.Lambda
import HandS.IsInst
import HandS.TupAny
import HandS.StrMore
import HandS.SortInts
import HandS.IntHex
import PyProof.StrBlock2
import PyProof.CollectStr
import KE.KDictList
import PyProof.FString3
import PyProof.Rows.StrIntSpec
import HandS.FStr
import HandS.More
import HandS.WordsExc
import HandS.ExcOwn
import HandS.ExcInit
import KE.KExcSuper
import HandS.ExcIs
import HandS.ExcField
import KE.KExcIs
import KE.KDflt
import HandS.EndTab
import PySem.Challenge.RW_askedcodes_k76_rests_and_changes
import KE.KNestM
set_option Elab.async false
set_option linter.all false
set_option maxRecDepth 100000
set_option maxHeartbeats 1000000
/-! DV1: plain data behind values; frames whose slots are shared or own; the judgements. -/
namespace DV
open PySem PySem.Spec PyProof.Rows L2

abbrev St := L2.St
inductive D where
  | non
  | bl (b : Bool)
  | int (i : Int)
  | str (l : List Nat)
  | lst (xs : List D)
  | tup (xs : List D)
  | dic (ks : List Key) (xs : List D)
  | obj (c : Str) (ns : List Str) (xs : List D)
  | raw (v : V)
  | scr (xs : List D)
  | xcp (c : Str) (ns : List Str) (xs : List D)
deriving Inhabited

/-- an exception that is held: it stands at a -/
def HeldX (cls : Value) (d : Option Addr) (a : Addr) : HO := .ext fun h => ∃ (oe : Obj) (vs : Array Value), h.get? a = some oe ∧ Zc cls d oe ∧ oe.data = .fields vs
structure DE where
  K : PySem.W.Frag
  mg : Str → Option Value

mutual
def Rep (E : DE) (S : Hp) : D → V → Prop
  | .non, v => v = .non
  | .bl b, v => v = .bl b
  | .int i, v => v = .int i
  | .str l, v => v = .str (SX.S l)
  | .lst xs, v => ∃ p vs, v = .ref p ∧ S p = some (.lst vs) ∧ Reps E S xs vs
  | .tup xs, v => ∃ p vs, v = .ref p ∧ SqT E.K S p vs ∧ Reps E S xs vs
  | .dic ks xs, v => ∃ p vs, v = .ref p ∧ S p = some (.dK (ks.zip vs)) ∧ ks.length = xs.length ∧ Reps E S xs vs
  | .obj c ns xs, v => ∃ p C dx vs, v = .ref p ∧ E.mg c = some (.ref C) ∧ S p = some (.ins C dx (ns.zip vs)) ∧ S dx = some (.own p) ∧ ns.length = xs.length ∧ Reps E S xs vs
  | .raw u, v => v = u
  | .scr xs, v => ∃ p vs, v = .ref p ∧ SqL E.K S p vs ∧ Reps E S xs vs
  | .xcp c ns xs, v => ∃ a C d vs, v = .ref a ∧ E.mg c = some (.ref C) ∧ S a = some (HeldX (.ref C) (some d) a) ∧ S d = some (.xd (ns.zip vs)) ∧ ns.length = xs.length ∧ Reps E S xs vs
def Reps (E : DE) (S : Hp) : List D → List V → Prop
  | [], vs => vs = []
  | d :: r, vs => ∃ v w, vs = v :: w ∧ Rep E S d v ∧ Reps E S r w
end

section
variable {E : DE} {S S' H H' : Hp}
theorem sqT_mono (e : Same S S') {K : PySem.W.Frag} {a : Addr} {xs : List V} (h : SqT K S a xs) : SqT K S' a xs := by
  rcases h with (h | ⟨o, h⟩) | h
  · exact .inl (.inl (e _ _ h))
  · exact .inl (.inr ⟨o, e _ _ h⟩)
  · exact .inr h
mutual
theorem Rep.mono (e : Same S S') : ∀ {d : D} {v : V}, Rep E S d v → Rep E S' d v
  | .non, _, h => h
  | .bl _, _, h => h
  | .int _, _, h => h
  | .str _, _, h => h
  | .lst _, _, ⟨p, vs, h1, h2, h3⟩ => ⟨p, vs, h1, e _ _ h2, Reps.mono e h3⟩
  | .tup _, _, ⟨p, vs, h1, h2, h3⟩ => ⟨p, vs, h1, sqT_mono e h2, Reps.mono e h3⟩
  | .dic _ _, _, ⟨p, vs, h1, h2, h4, h3⟩ => ⟨p, vs, h1, e _ _ h2, h4, Reps.mono e h3⟩
  | .obj _ _ _, _, ⟨p, C, dx, vs, h1, h2, h3, h4, h5, h6⟩ => ⟨p, C, dx, vs, h1, h2, e _ _ h3, e _ _ h4, h5, Reps.mono e h6⟩
  | .raw _, _, h => h
  | .scr _, _, ⟨p, vs, h1, h2, h3⟩ => ⟨p, vs, h1, e.seq h2, Reps.mono e h3⟩
  | .xcp _ _ _, _, ⟨a, C, d, vs, h1, h2, h3, h4, h5, h6⟩ => ⟨a, C, d, vs, h1, h2, e _ _ h3, e _ _ h4, h5, Reps.mono e h6⟩
theorem Reps.mono (e : Same S S') : ∀ {ds : List D} {vs : List V}, Reps E S ds vs → Reps E S' ds vs
  | [], _, h => h
  | _ :: _, _, ⟨v, w, h1, h2, h3⟩ => ⟨v, w, h1, Rep.mono e h2, Reps.mono e h3⟩
end
theorem Reps.nil : Reps E S [] [] := rfl
theorem Reps.cons {d : D} {v : V} {ds : List D} {vs : List V} (h : Rep E S d v) (r : Reps E S ds vs) : Reps E S (d :: ds) (v :: vs) := ⟨v, vs, rfl, h, r⟩
theorem Reps.inv {d : D} {ds : List D} {vs : List V} (h : Reps E S (d :: ds) vs) : ∃ v w, vs = v :: w ∧ Rep E S d v ∧ Reps E S ds w := h
theorem Reps.length : ∀ {ds : List D} {vs : List V}, Reps E S ds vs → ds.length = vs.length
  | [], _, h => by cases h; rfl
  | _ :: _, _, ⟨_, _, h1, _, h3⟩ => by subst h1; simp [Reps.length h3]
theorem Reps.get : ∀ {ds : List D} {vs : List V} {i : Nat} {d : D}, Reps E S ds vs → ds[i]? = some d → ∃ v, vs[i]? = some v ∧ Rep E S d v
  | [], _, _, _, _, h => by simp at h
  | _ :: _, _, 0, _, ⟨v, w, h1, h2, _⟩, h => by simp at h; subst h; subst h1; exact ⟨v, rfl, h2⟩
  | _ :: _, _, i + 1, _, ⟨v, w, h1, _, h3⟩, h => by subst h1; simpa using Reps.get (i := i) h3 (by simpa using h)
theorem Reps.append : ∀ {ds es : List D} {vs ws : List V}, Reps E S ds vs → Reps E S es ws → Reps E S (ds ++ es) (vs ++ ws)
  | [], _, _, _, h, g => by cases h; exact g
  | _ :: _, _, _, _, ⟨v, w, h1, h2, h3⟩, g => by subst h1; exact ⟨v, _, rfl, h2, Reps.append h3 g⟩
theorem Reps.take : ∀ {ds : List D} {vs : List V} (n : Nat), Reps E S ds vs → Reps E S (ds.take n) (vs.take n)
  | [], _, n, h => by cases h; simp; rfl
  | _ :: _, _, 0, ⟨v, w, h1, h2, h3⟩ => by subst h1; rfl
  | _ :: _, _, n + 1, ⟨v, w, h1, h2, h3⟩ => by subst h1; exact ⟨v, _, rfl, h2, Reps.take n h3⟩
theorem Reps.drop : ∀ {ds : List D} {vs : List V} (n : Nat), Reps E S ds vs → Reps E S (ds.drop n) (vs.drop n)
  | [], _, n, h => by cases h; simp; rfl
  | _ :: _, _, 0, h => h
  | _ :: _, _, n + 1, ⟨v, w, h1, h2, h3⟩ => by subst h1; exact Reps.drop n h3
theorem Reps.set : ∀ {ds : List D} {vs : List V} {d : D} {v : V} (n : Nat), Reps E S ds vs → Rep E S d v → Reps E S (ds.set n d) (vs.set n v)
  | [], _, _, _, n, h, _ => by cases h; simp; rfl
  | _ :: _, _, _, _, 0, ⟨v, w, h1, h2, h3⟩, g => by subst h1; exact ⟨_, _, rfl, g, h3⟩
  | _ :: _, _, _, _, n + 1, ⟨v, w, h1, h2, h3⟩, g => by subst h1; exact ⟨v, _, rfl, h2, Reps.set n h3 g⟩
theorem Reps.reverse : ∀ {ds : List D} {vs : List V}, Reps E S ds vs → Reps E S ds.reverse vs.reverse
  | [], _, h => by cases h; rfl
  | _ :: _, _, ⟨v, w, h1, h2, h3⟩ => by
    subst h1
    rw [List.reverse_cons, List.reverse_cons]
    exact Reps.append (Reps.reverse h3) (.cons h2 .nil)
theorem Reps.ints : ∀ (ns : List Int), Reps E S (ns.map D.int) (ns.map V.int)
  | [] => rfl
  | _ :: r => ⟨_, _, rfl, rfl, Reps.ints r⟩
theorem Reps.of_ints : ∀ {ns : List Int} {vs : List V}, Reps E S (ns.map D.int) vs → vs = ns.map V.int
  | [], _, h => h
  | _ :: _, _, ⟨v, w, h1, h2, h3⟩ => by rw [h1, Reps.of_ints h3]; cases h2; rfl
end

/-- a slot: unknown; a shared value; a list (dict) that only this slot knows (true: handed in by the caller) -/
inductive Cl where
  | no
  | sh (d : D)
  | ow (io : Bool) (d : D)
deriving Inhabited
abbrev Ds := List Cl

/-- an own object -/
def OwnRep (E : DE) (S H : Hp) (p : Addr) : D → Prop
  | .lst xs => ∃ vs, H p = some (.lst vs) ∧ Reps E S xs vs
  | .dic ks xs => ∃ vs, H p = some (.dK (ks.zip vs)) ∧ ks.length = xs.length ∧ Reps E S xs vs
  | _ => False

/-- the frame's entry -/
structure Fc where
  E : DE
  S0 : Hp
  H0 : Hp
  iom : List (Nat × Addr)
  T : List (Addr × Str)
  R : Hp

def NoTbl (S : Hp) : Prop := ∀ a ps, S a ≠ some (.tbl ps)
structure Match (F : Fc) (S : Hp) (ds : Ds) (σ : St) (H : Hp) : Prop where
  sub : Same S H
  nt : NoTbl S
  old : Same F.S0 S
  fresh : ∀ a o, S a = some o → (∃ o', F.S0 a = some o') ∨ F.H0 a = none
  keep : ∀ a o, F.H0 a = some o → a ∉ F.iom.map (·.2) → (∀ ps, o ≠ .tbl ps) → H a = some o
  tblk : ∀ a ps, F.H0 a = some (.tbl ps) → ∃ ps', H a = some (.tbl ps')
  tabs : LamX.Tabs F.T H
  len : ds.length = σ.length
  sh : ∀ (i : Nat) d, ds[i]? = some (.sh d) → ∃ v, σ[i]? = some (some v) ∧ Rep F.E S d v
  ow : ∀ (i : Nat) b d, ds[i]? = some (.ow b d) → ∃ p, σ[i]? = some (some (.ref p)) ∧ S p = none ∧ OwnRep F.E S H p d ∧ (b = false → F.H0 p = none) ∧ (b = true → (i, p) ∈ F.iom)
  inj : ∀ (i j : Nat) b d c e p, ds[i]? = some (.ow b d) → ds[j]? = some (.ow c e) → σ[i]? = some (some (.ref p)) → σ[j]? = some (some (.ref p)) → i = j
  io : ∀ x ∈ F.iom, ∃ d, ds[x.1]? = some (.ow true d) ∧ σ[x.1]? = some (some (.ref x.2))
  pin : ∀ a o, F.R a = some o → (∀ ps, o ≠ .tbl ps) ∧ H a = some o ∧ S a = none ∧ ∀ (i : Nat) b d, ds[i]? = some (.ow b d) → σ[i]? ≠ some (some (.ref a))

/-- both heaps grow by new objects -/
structure Ext (S H S' H' : Hp) : Prop where
  s : Same S S'
  h : Same H H'
  n : ∀ a o, S' a = some o → S a = some o ∨ H a = none
  b : Same S H → Same S' H'
  t : NoTbl S → NoTbl S'
theorem NoTbl.upd {S : Hp} {p : Addr} {o : HO} (h : NoTbl S) (nt : ∀ ps, o ≠ .tbl ps) : NoTbl (upd S p o) := fun a ps z => by
  by_cases hb : a = p
  · subst hb; rw [upd_same] at z; cases z; exact nt ps rfl
  · rw [upd_ne hb] at z; exact h a ps z
theorem Ext.refl (S H : Hp) : Ext S H S H := ⟨Same.refl _, Same.refl _, fun _ _ h => .inl h, id, id⟩
theorem Ext.new {S H : Hp} {p : Addr} {o : HO} (e : Same S H) (h : H p = none) (nt : ∀ ps, o ≠ .tbl ps := by intro _ z; cases z) : Ext S H (upd S p o) (upd H p o) where
  t := fun k => k.upd nt
  s := fun b u q => by rw [upd_ne (ne_of_none (e _ _ q) h)]; exact q
  h := fun b u q => by rw [upd_ne (ne_of_none q h)]; exact q
  n := fun b u q => by
    by_cases hb : b = p
    · exact .inr (hb ▸ h)
    · rw [upd_ne hb] at q; exact .inl q
  b := fun e b u q => by
    by_cases hb : b = p
    · subst hb; rw [upd_same] at q ⊢; exact q
    · rw [upd_ne hb] at q ⊢; exact e _ _ q
/-- an object that is not shared -/
theorem Ext.newH {S H : Hp} {p : Addr} {o : HO} (e : Same S H) (h : H p = none) : Ext S H S (upd H p o) where
  t := id
  s := Same.refl _
  h := fun b u q => by rw [upd_ne (ne_of_none q h)]; exact q
  n := fun b u q => .inl q
  b := fun e b u q => by rw [upd_ne (ne_of_none (e _ _ q) h)]; exact e _ _ q
theorem Ext.trans {S H S1 H1 S2 H2 : Hp} (a : Ext S H S1 H1) (b : Ext S1 H1 S2 H2) : Ext S H S2 H2 where
  t := fun k => b.t (a.t k)
  s := a.s.trans b.s
  h := a.h.trans b.h
  n := fun c o q => by
    rcases b.n c o q with z | z
    · exact a.n c o z
    · exact .inr (a.h.free z)
  b := fun e => b.b (a.b e)

theorem OwnRep.some_of {E : DE} {S H : Hp} {p : Addr} : ∀ {d : D}, OwnRep E S H p d → ∃ o, H p = some o ∧ (∀ ps, o ≠ .tbl ps)
  | .lst _, ⟨_, h, _⟩ => ⟨_, h, fun _ z => nomatch z⟩
  | .dic _ _, ⟨_, h, _⟩ => ⟨_, h, fun _ z => nomatch z⟩
theorem OwnRep.ext {E : DE} {S H S' H' : Hp} {p : Addr} (e : Same S S') (g : ∀ o, H p = some o → H' p = some o) : ∀ {d : D}, OwnRep E S H p d → OwnRep E S' H' p d
  | .lst _, ⟨vs, h, r⟩ => ⟨vs, g _ h, Reps.mono e r⟩
  | .dic _ _, ⟨vs, h, l, r⟩ => ⟨vs, g _ h, l, Reps.mono e r⟩

section
variable {F : Fc} {S S' H H' : Hp} {ds : Ds} {σ : St}
theorem Match.new (M : Match F S ds σ H) {p : Addr} (h : H p = none) : F.H0 p = none := by
  cases e : F.H0 p with
  | none => rfl
  | some o =>
    exfalso
    by_cases ht : ∃ ps, o = .tbl ps
    · obtain ⟨ps, rfl⟩ := ht
      obtain ⟨ps', z⟩ := M.tblk p ps e
      rw [h] at z; cases z
    · by_cases hi : p ∈ F.iom.map (·.2)
      · obtain ⟨x, hx, rfl⟩ := List.mem_map.mp hi
        obtain ⟨d, h1, h2⟩ := M.io x hx
        obtain ⟨q, h3, _, h4, _⟩ := M.ow _ _ _ h1
        rw [h2] at h3; cases h3
        obtain ⟨o', z, _⟩ := h4.some_of
        rw [h] at z; cases z
      · have z := M.keep p o e hi (fun ps z => ht ⟨ps, z⟩)
        rw [h] at z; cases z
theorem Match.ext (M : Match F S ds σ H) (x : Ext S H S' H') : Match F S' ds σ H' where
  nt := x.t M.nt
  sub := x.b M.sub
  old := M.old.trans x.s
  fresh := fun a o e => by
    rcases x.n a o e with z | z
    · exact M.fresh a o z
    · exact .inr (M.new z)
  keep := fun a o e n t => x.h _ _ (M.keep a o e n t)
  tblk := fun a ps e => let ⟨ps', z⟩ := M.tblk a ps e; ⟨ps', x.h _ _ z⟩
  tabs := M.tabs.ext x.h
  len := M.len
  sh := fun i d e => let ⟨v, h1, h2⟩ := M.sh i d e; ⟨v, h1, h2.mono x.s⟩
  ow := fun i b d e => by
    obtain ⟨p, h1, h2, h3, h4, h5⟩ := M.ow i b d e
    refine ⟨p, h1, ?_, h3.ext x.s (x.h p), h4, h5⟩
    cases q : S' p with
    | none => rfl
    | some o =>
      rcases x.n p o q with z | z
      · rw [h2] at z; cases z
      · obtain ⟨o', z', _⟩ := h3.some_of
        rw [z] at z'; cases z'
  inj := M.inj
  io := M.io
  pin := fun a o e => by
    obtain ⟨h1, h2, h4, h3⟩ := M.pin a o e
    refine ⟨h1, x.h _ _ h2, ?_, h3⟩
    cases q : S' a with
    | none => rfl
    | some u =>
      rcases x.n a u q with z | z
      · rw [h4] at z; cases z
      · rw [h2] at z; cases z
/-- an own slot becomes a shared one -/
theorem Match.freeze (M : Match F S ds σ H) {i : Nat} {d : D} (e : ds[i]? = some (.ow false d)) :
    ∃ v S', σ[i]? = some (some v) ∧ Same S S' ∧ Match F S' (ds.set i (.sh d)) σ H ∧ Rep F.E S' d v := by
  obtain ⟨p, h1, h2, h3, h4, _⟩ := M.ow i _ d e
  obtain ⟨o, ho, nt⟩ := h3.some_of
  have hi : i < ds.length := (List.getElem?_eq_some_iff.mp e).1
  have le : Same S (upd S p o) := fun b u q => by
    rw [upd_ne (fun z => by subst z; rw [h2] at q; cases q)]; exact q
  have hr : Rep F.E (upd S p o) d (.ref p) := by
    cases d with
    | lst xs =>
      obtain ⟨vs, z, r⟩ := h3
      rw [ho] at z; cases z
      exact ⟨p, vs, rfl, upd_same, r.mono le⟩
    | dic ks xs =>
      obtain ⟨vs, z, l, r⟩ := h3
      rw [ho] at z; cases z
      exact ⟨p, vs, rfl, upd_same, l, r.mono le⟩
    | _ => exact h3.elim
  refine ⟨.ref p, upd S p o, h1, le, ?_, hr⟩
  exact {
    sub := fun b u q => by
      by_cases hb : b = p
      · subst hb; rw [upd_same] at q; cases q; exact ho
      · rw [upd_ne hb] at q; exact M.sub _ _ q
    nt := M.nt.upd nt
    old := M.old.trans le
    fresh := fun a u q => by
      by_cases hb : a = p
      · subst hb; exact .inr (h4 rfl)
      · rw [upd_ne hb] at q; exact M.fresh _ _ q
    keep := M.keep
    tblk := M.tblk
    tabs := M.tabs
    len := by rw [List.length_set]; exact M.len
    sh := fun j d' q => by
      by_cases hj : i = j
      · subst hj
        rw [List.getElem?_set_self hi] at q
        cases q
        exact ⟨_, h1, hr⟩
      · rw [List.getElem?_set_ne hj] at q
        obtain ⟨v, a, b⟩ := M.sh j d' q
        exact ⟨v, a, b.mono le⟩
    ow := fun j b d' q => by
      by_cases hj : i = j
      · subst hj
        rw [List.getElem?_set_self hi] at q
        cases q
      · rw [List.getElem?_set_ne hj] at q
        obtain ⟨p', a1, a2, a3, a4, a5⟩ := M.ow j b d' q
        refine ⟨p', a1, ?_, a3.ext le (fun _ z => z), a4, a5⟩
        rw [upd_ne (fun z => ?_)]
        · exact a2
        · subst z
          exact hj (M.inj i j _ _ _ _ _ e q h1 a1)
    inj := fun a b x y c z p' q1 q2 => by
      have n1 : i ≠ a := fun w => by subst w; rw [List.getElem?_set_self hi] at q1; cases q1
      have n2 : i ≠ b := fun w => by subst w; rw [List.getElem?_set_self hi] at q2; cases q2
      rw [List.getElem?_set_ne n1] at q1
      rw [List.getElem?_set_ne n2] at q2
      exact M.inj a b x y c z p' q1 q2
    io := fun x hx => by
      obtain ⟨d', a1, a2⟩ := M.io x hx
      refine ⟨d', ?_, a2⟩
      rw [List.getElem?_set_ne]
      · exact a1
      · rintro rfl
        rw [e] at a1; cases a1
    pin := fun a u q => by
      obtain ⟨z1, z2, z4, z3⟩ := M.pin a u q
      refine ⟨z1, z2, ?_, fun j b d' q' => ?_⟩
      · rw [upd_ne (fun w => by subst w; exact z3 i _ _ e h1)]; exact z4
      by_cases hj : i = j
      · subst hj; rw [List.getElem?_set_self hi] at q'; cases q'
      · rw [List.getElem?_set_ne hj] at q'; exact z3 j b d' q' }
theorem ds_lt (M : Match F S ds σ H) {i : Nat} {c : Cl} (e : ds[i]? = some c) : i < σ.length := by
  rw [← M.len]; exact (List.getElem?_eq_some_iff.mp e).1
/-- a shared value is stored -/
theorem Match.set (M : Match F S ds σ H) {i : Nat} {d : D} {v : V} (h : ∀ d', ds[i]? ≠ some (.ow true d')) (r : Rep F.E S d v) : Match F S (ds.set i (.sh d)) (σ.set i (some v)) H := by
  by_cases hi : i < ds.length
  · have hi' : i < σ.length := by rw [← M.len]; exact hi
    exact {
      sub := M.sub, nt := M.nt, old := M.old, fresh := M.fresh, keep := M.keep, tblk := M.tblk, tabs := M.tabs
      len := by rw [List.length_set, List.length_set]; exact M.len
      sh := fun j d' q => by
        by_cases hj : i = j
        · subst hj
          rw [List.getElem?_set_self hi] at q
          cases q
          exact ⟨v, List.getElem?_set_self hi', r⟩
        · rw [List.getElem?_set_ne hj] at q ⊢
          exact M.sh j d' q
      ow := fun j b d' q => by
        by_cases hj : i = j
        · subst hj
          rw [List.getElem?_set_self hi] at q
          cases q
        · rw [List.getElem?_set_ne hj] at q ⊢
          exact M.ow j b d' q
      inj := fun a b x y c z p' q1 q2 => by
        have n1 : i ≠ a := fun w => by subst w; rw [List.getElem?_set_self hi] at q1; cases q1
        have n2 : i ≠ b := fun w => by subst w; rw [List.getElem?_set_self hi] at q2; cases q2
        rw [List.getElem?_set_ne n1] at q1 ⊢
        rw [List.getElem?_set_ne n2] at q2 ⊢
        exact M.inj a b x y c z p' q1 q2
      io := fun x hx => by
        obtain ⟨d', a1, a2⟩ := M.io x hx
        have n : i ≠ x.1 := fun w => by subst w; exact h _ a1
        refine ⟨d', ?_, ?_⟩
        · rw [List.getElem?_set_ne n]; exact a1
        · rw [List.getElem?_set_ne n]; exact a2
      pin := fun a u q => by
        obtain ⟨h1, h2, h4, h3⟩ := M.pin a u q
        refine ⟨h1, h2, h4, fun j b d' q' => ?_⟩
        by_cases hj : i = j
        · subst hj; rw [List.getElem?_set_self hi] at q'; cases q'
        · rw [List.getElem?_set_ne hj] at q' ⊢; exact h3 j b d' q' }
  · have hi' : ¬ i < σ.length := by rw [← M.len]; exact hi
    rw [List.set_eq_of_length_le (by omega), List.set_eq_of_length_le (by omega)]
    exact M
/-- nothing is known of a slot any more -/
theorem Match.wipe (M : Match F S ds σ H) {i : Nat} {o : Option V} (h : ∀ d', ds[i]? ≠ some (.ow true d')) : Match F S (ds.set i .no) (σ.set i o) H := by
  by_cases hi : i < ds.length
  · have hi' : i < σ.length := by rw [← M.len]; exact hi
    exact {
      sub := M.sub, nt := M.nt, old := M.old, fresh := M.fresh, keep := M.keep, tblk := M.tblk, tabs := M.tabs
      len := by rw [List.length_set, List.length_set]; exact M.len
      sh := fun j d' q => by
        by_cases hj : i = j
        · subst hj
          rw [List.getElem?_set_self hi] at q
          cases q
        · rw [List.getElem?_set_ne hj] at q ⊢
          exact M.sh j d' q
      ow := fun j b d' q => by
        by_cases hj : i = j
        · subst hj
          rw [List.getElem?_set_self hi] at q
          cases q
        · rw [List.getElem?_set_ne hj] at q ⊢
          exact M.ow j b d' q
      inj := fun a b x y c z p' q1 q2 => by
        have n1 : i ≠ a := fun w => by subst w; rw [List.getElem?_set_self hi] at q1; cases q1
        have n2 : i ≠ b := fun w => by subst w; rw [List.getElem?_set_self hi] at q2; cases q2
        rw [List.getElem?_set_ne n1] at q1 ⊢
        rw [List.getElem?_set_ne n2] at q2 ⊢
        exact M.inj a b x y c z p' q1 q2
      io := fun x hx => by
        obtain ⟨d', a1, a2⟩ := M.io x hx
        have n : i ≠ x.1 := fun w => by subst w; exact h _ a1
        refine ⟨d', ?_, ?_⟩
        · rw [List.getElem?_set_ne n]; exact a1
        · rw [List.getElem?_set_ne n]; exact a2
      pin := fun a u q => by
        obtain ⟨h1, h2, h4, h3⟩ := M.pin a u q
        refine ⟨h1, h2, h4, fun j b d' q' => ?_⟩
        by_cases hj : i = j
        · subst hj; rw [List.getElem?_set_self hi] at q'; cases q'
        · rw [List.getElem?_set_ne hj] at q' ⊢; exact h3 j b d' q' }
  · have hi' : ¬ i < σ.length := by rw [← M.len]; exact hi
    rw [List.set_eq_of_length_le (by omega), List.set_eq_of_length_le (by omega)]
    exact M
/-- a new object at p is stored: the slot is its only holder -/
theorem Match.setOwn (M : Match F S ds σ H) {i : Nat} {d : D} {p : Addr} (h : ∀ d', ds[i]? ≠ some (.ow true d')) (np : S p = none) (n0 : F.H0 p = none) (nR : F.R p = none) (nu : ∀ (j : Nat) b e, ds[j]? = some (.ow b e) → σ[j]? ≠ some (some (.ref p)))
    (r : OwnRep F.E S H p d) : Match F S (ds.set i (.ow false d)) (σ.set i (some (.ref p))) H := by
  by_cases hi : i < ds.length
  · have hi' : i < σ.length := by rw [← M.len]; exact hi
    exact {
      sub := M.sub, nt := M.nt, old := M.old, fresh := M.fresh, keep := M.keep, tblk := M.tblk, tabs := M.tabs
      len := by rw [List.length_set, List.length_set]; exact M.len
      sh := fun j d' q => by
        by_cases hj : i = j
        · subst hj
          rw [List.getElem?_set_self hi] at q
          cases q
        · rw [List.getElem?_set_ne hj] at q ⊢
          exact M.sh j d' q
      ow := fun j b d' q => by
        by_cases hj : i = j
        · subst hj
          rw [List.getElem?_set_self hi] at q
          cases q
          exact ⟨p, List.getElem?_set_self hi', np, r, fun _ => n0, fun z => nomatch z⟩
        · rw [List.getElem?_set_ne hj] at q ⊢
          exact M.ow j b d' q
      inj := fun a b x y c z p' q1 q2 g1 g2 => by
        by_cases n1 : i = a
        · subst n1
          by_cases n2 : i = b
          · exact n2
          · rw [List.getElem?_set_ne n2] at q2 g2
            rw [List.getElem?_set_self hi'] at g1
            cases g1
            exact absurd g2 (nu b _ _ q2)
        · rw [List.getElem?_set_ne n1] at q1 g1
          by_cases n2 : i = b
          · subst n2
            rw [List.getElem?_set_self hi'] at g2
            cases g2
            exact absurd g1 (nu a _ _ q1)
          · rw [List.getElem?_set_ne n2] at q2 g2
            exact M.inj a b x y c z p' q1 q2 g1 g2
      io := fun x hx => by
        obtain ⟨d', a1, a2⟩ := M.io x hx
        have n : i ≠ x.1 := fun w => by subst w; exact h _ a1
        refine ⟨d', ?_, ?_⟩
        · rw [List.getElem?_set_ne n]; exact a1
        · rw [List.getElem?_set_ne n]; exact a2
      pin := fun a u q => by
        obtain ⟨h1, h2, h4, h3⟩ := M.pin a u q
        refine ⟨h1, h2, h4, fun j b d' q' => ?_⟩
        by_cases hj : i = j
        · subst hj
          rw [List.getElem?_set_self hi']
          intro z
          cases z
          rw [nR] at q; cases q
        · rw [List.getElem?_set_ne hj] at q' ⊢; exact h3 j b d' q' }
  · have hi' : ¬ i < σ.length := by rw [← M.len]; exact hi
    rw [List.set_eq_of_length_le (by omega), List.set_eq_of_length_le (by omega)]
    exact M
/-- the own object of slot i is written -/
theorem Match.write (M : Match F S ds σ H) {i : Nat} {b : Bool} {d d' : D} {p : Addr} {o' : HO} (e : ds[i]? = some (.ow b d)) (hp : σ[i]? = some (some (.ref p))) (nt : ∀ ps, o' ≠ .tbl ps)
    (r : OwnRep F.E S (upd H p o') p d') : Match F S (ds.set i (.ow b d')) σ (upd H p o') := by
  obtain ⟨q, h1, h2, h3, h4, h5⟩ := M.ow i b d e
  rw [hp] at h1; cases h1
  have hi : i < ds.length := (List.getElem?_eq_some_iff.mp e).1
  obtain ⟨o, ho, not⟩ := h3.some_of
  exact {
    sub := fun a u z => by
      rw [upd_ne (fun w => by subst w; rw [h2] at z; cases z)]; exact M.sub _ _ z
    nt := M.nt, old := M.old, fresh := M.fresh
    keep := fun a u z n t => by
      rw [upd_ne]
      · exact M.keep a u z n t
      · rintro rfl
        cases b with
        | false => rw [h4 rfl] at z; cases z
        | true => exact n (List.mem_map.mpr ⟨_, h5 rfl, rfl⟩)
    tblk := fun a ps z => by
      obtain ⟨ps', w⟩ := M.tblk a ps z
      refine ⟨ps', ?_⟩
      rw [upd_ne]
      · exact w
      · rintro rfl
        rw [ho] at w; cases w; exact not _ rfl
    tabs := fun x hx => by
      obtain ⟨ps, a1, a2, a3⟩ := M.tabs x hx
      refine ⟨ps, ?_, a2, fun pos cv hc => ?_⟩
      · rw [upd_ne]
        · exact a1
        · intro w; rw [w, ho] at a1; cases a1; exact not _ rfl
      · obtain ⟨c, b1, b2⟩ := a3 pos cv hc
        refine ⟨c, b1, ?_⟩
        rw [upd_ne]
        · exact b2
        · intro w
          rw [w, ho] at b2
          cases d with
          | lst xs => obtain ⟨vs, z, _⟩ := h3; rw [ho] at z; rw [z] at b2; unfold LamX.CodeO at b2; cases b2
          | dic ks xs => obtain ⟨vs, z, _⟩ := h3; rw [ho] at z; rw [z] at b2; unfold LamX.CodeO at b2; cases b2
          | _ => exact h3.elim
    len := by rw [List.length_set]; exact M.len
    sh := fun j d2 z => by
      by_cases hj : i = j
      · subst hj; rw [List.getElem?_set_self hi] at z; cases z
      · rw [List.getElem?_set_ne hj] at z; exact M.sh j d2 z
    ow := fun j c d2 z => by
      by_cases hj : i = j
      · subst hj
        rw [List.getElem?_set_self hi] at z
        cases z
        exact ⟨_, hp, h2, r, h4, h5⟩
      · rw [List.getElem?_set_ne hj] at z
        obtain ⟨p2, a1, a2, a3, a4, a5⟩ := M.ow j c d2 z
        refine ⟨p2, a1, a2, a3.ext (Same.refl _) (fun u w => ?_), a4, a5⟩
        rw [upd_ne]
        · exact w
        · rintro rfl
          exact hj (M.inj i j _ _ _ _ _ e z hp a1)
    inj := fun a a' x y c z p' q1 q2 => by
      have g : ∀ (k : Nat) (w : Bool) (u : D), (ds.set i (.ow b d'))[k]? = some (.ow w u) → ∃ u', ds[k]? = some (.ow w u') := fun k w u hk => by
        by_cases n : i = k
        · subst n
          rw [List.getElem?_set_self hi] at hk
          cases hk
          exact ⟨_, e⟩
        · rw [List.getElem?_set_ne n] at hk
          exact ⟨_, hk⟩
      obtain ⟨u1, g1⟩ := g _ _ _ q1
      obtain ⟨u2, g2⟩ := g _ _ _ q2
      exact M.inj a a' x _ c _ p' g1 g2
    io := fun x hx => by
      obtain ⟨d2, a1, a2⟩ := M.io x hx
      by_cases n : i = x.1
      · refine ⟨d', ?_, a2⟩
        rw [← n]
        rw [← n, e] at a1
        cases a1
        exact List.getElem?_set_self hi
      · exact ⟨d2, by rw [List.getElem?_set_ne n]; exact a1, a2⟩
    pin := fun a u q => by
      obtain ⟨z1, z2, z4, z3⟩ := M.pin a u q
      refine ⟨z1, ?_, z4, fun j c d2 q' => ?_⟩
      · rw [upd_ne]
        · exact z2
        · rintro rfl; exact z3 i b d e hp
      · by_cases hj : i = j
        · subst hj
          rw [List.getElem?_set_self hi] at q'
          exact z3 i b d e
        · rw [List.getElem?_set_ne hj] at q'; exact z3 j c d2 q' }
/-- one more object is pinned -/
theorem Match.addPin (M : Match F S ds σ H) {p : Addr} {o : HO} (h : H p = some o) (nt : ∀ ps, o ≠ .tbl ps) (nS : S p = none) (nu : ∀ (j : Nat) b e, ds[j]? = some (.ow b e) → σ[j]? ≠ some (some (.ref p))) : Match { F with R := upd F.R p o } S ds σ H :=
  { sub := M.sub, nt := M.nt, old := M.old, fresh := M.fresh, keep := M.keep, tblk := M.tblk, tabs := M.tabs, len := M.len, sh := M.sh, ow := M.ow, inj := M.inj, io := M.io,
    pin := fun a u q => by
      by_cases ha : a = p
      · subst ha
        have q' : upd F.R a o a = some u := q
        rw [upd_same] at q'; cases q'
        exact ⟨nt, h, nS, nu⟩
      · have q' : upd F.R p o a = some u := q
        rw [upd_ne ha] at q'; exact M.pin a u q' }
theorem Match.dropPin {p : Addr} {o : HO} (M : Match { F with R := upd F.R p o } S ds σ H) (n : F.R p = none) : Match F S ds σ H :=
  { sub := M.sub, nt := M.nt, old := M.old, fresh := M.fresh, keep := M.keep, tblk := M.tblk, tabs := M.tabs, len := M.len, sh := M.sh, ow := M.ow, inj := M.inj, io := M.io,
    pin := fun a u q => M.pin a u (by show upd F.R p o a = some u; rw [upd_ne (ne_of_none q n)]; exact q) }
theorem Match.pinned {p : Addr} {o : HO} (M : Match { F with R := upd F.R p o } S ds σ H) : H p = some o ∧ S p = none ∧ ∀ (j : Nat) b e, ds[j]? = some (.ow b e) → σ[j]? ≠ some (some (.ref p)) := (M.pin p o (show upd F.R p o p = some o from upd_same)).2
/-- a list that nobody else knows is written -/
theorem Match.touch (M : Match F S ds σ H) {p : Addr} {vs ws : List V} (h : H p = some (.lst vs)) (nS : S p = none) (n0 : F.H0 p = none) (nR : F.R p = none) (nu : ∀ (j : Nat) b e, ds[j]? = some (.ow b e) → σ[j]? ≠ some (some (.ref p))) : Match F S ds σ (upd H p (.lst ws)) :=
  { sub := fun a u z => by
      rw [upd_ne (fun w => by subst w; rw [nS] at z; cases z)]; exact M.sub _ _ z
    nt := M.nt, old := M.old, fresh := M.fresh
    keep := fun a u z n t => by
      rw [upd_ne]
      · exact M.keep a u z n t
      · rintro rfl; rw [n0] at z; cases z
    tblk := fun a ps z => by
      rw [upd_ne]
      · exact M.tblk a ps z
      · rintro rfl; rw [n0] at z; cases z
    tabs := fun x hx => by
      obtain ⟨ps, a1, a2, a3⟩ := M.tabs x hx
      refine ⟨ps, ?_, a2, fun pos cv hc => ?_⟩
      · rw [upd_ne]
        · exact a1
        · intro w; rw [w, h] at a1; cases a1
      · obtain ⟨c, b1, b2⟩ := a3 pos cv hc
        refine ⟨c, b1, ?_⟩
        rw [upd_ne]
        · exact b2
        · intro w
          rw [w, h] at b2; unfold LamX.CodeO at b2; cases b2
    len := M.len, sh := M.sh
    ow := fun j c d2 z => by
      obtain ⟨p2, a1, a2, a3, a4, a5⟩ := M.ow j c d2 z
      refine ⟨p2, a1, a2, a3.ext (Same.refl _) (fun u w => ?_), a4, a5⟩
      rw [upd_ne]
      · exact w
      · rintro rfl; exact nu j c d2 z a1
    inj := M.inj, io := M.io
    pin := fun a u q => by
      obtain ⟨z1, z2, z4, z3⟩ := M.pin a u q
      refine ⟨z1, ?_, z4, z3⟩
      rw [upd_ne]
      · exact z2
      · rintro rfl; rw [nR] at q; cases q }
end
end DV

set_option Elab.async false
set_option linter.all false
set_option maxRecDepth 100000
set_option maxHeartbeats 1000000
/-! DV2: outcomes, the judgements over plain data, names, blocks, tests, loops. -/
namespace DV
open PySem PySem.Spec PyProof.Rows L2

structure Exn where
  c : Str
  ns : List Str
  xs : List D
inductive Out (α : Type) where
  | ok (a : α) (ds : Ds)
  | ex (x : Exn) (ds : Ds)
  | no
inductive SO where
  | nx (ds : Ds)
  | rt (d : D) (ds : Ds)
  | bk (ds : Ds)
  | ct (ds : Ds)
  | ex (x : Exn) (ds : Ds)
  | no
@[simp] def Out.bind {α β : Type} (o : Out α) (g : α → Ds → Out β) : Out β := match o with
  | .ok a ds => g a ds
  | .ex x ds => .ex x ds
  | .no => .no
@[simp] def Out.then {α : Type} (o : Out α) (g : α → Ds → SO) : SO := match o with
  | .ok a ds => g a ds
  | .ex x ds => .ex x ds
  | .no => .no

def RepX (E : DE) (S H0 : Hp) (x : Exn) (cls : Value) (dx : Option Addr) (H : Hp) : Prop :=
  ∃ C d vs, E.mg x.c = some (.ref C) ∧ cls = .ref C ∧ dx = some d ∧ H d = some (.xd (x.ns.zip vs)) ∧ S d = none ∧ H0 d = none ∧ x.ns.length = x.xs.length ∧ Reps E S x.xs vs
/-- what is wanted behind code that ends so -/
def XPost (F : Fc) (S : Hp) (σ : St) (W : WX) (x : Exn) (ds' : Ds) : Prop := ∀ cls dx H' S', Same S S' → Match F S' ds' σ H' → RepX F.E S' F.H0 x cls dx H' → W cls dx σ H'
def GPost {α : Type} (F : Fc) (S : Hp) (σ : St) (W : WX) (o : Out α) (P : α → Ds → Hp → Hp → Prop) : Prop := match o with
  | .ok a ds' => ∀ H' S', Same S S' → Match F S' ds' σ H' → P a ds' S' H'
  | .ex x ds' => XPost F S σ W x ds'
  | .no => False
section
variable {α β : Type} {F : Fc} {S S' H : Hp} {σ : St} {W : WX} {o : Out α} {P P' : α → Ds → Hp → Hp → Prop}
theorem XPost.up (e : Same S S') {x : Exn} {ds : Ds} (h : XPost F S σ W x ds) : XPost F S' σ W x ds := fun cls dx H1 S1 e1 M1 r => h cls dx H1 S1 (e.trans e1) M1 r
theorem GPost.up (e : Same S S') (h : GPost F S σ W o P) : GPost F S' σ W o P := by
  cases o with
  | ok a ds => exact fun H1 S1 e1 M1 => h H1 S1 (e.trans e1) M1
  | ex x ds => exact XPost.up e h
  | no => exact h
theorem GPost.imp (h : GPost F S σ W o P) (g : ∀ a ds' S' H', Same S S' → Match F S' ds' σ H' → P a ds' S' H' → P' a ds' S' H') : GPost F S σ W o P' := by
  cases o with
  | ok a ds => exact fun H1 S1 e1 M1 => g a ds S1 H1 e1 M1 (h H1 S1 e1 M1)
  | ex x ds => exact h
  | no => exact h
theorem GPost.bind {g : α → Ds → Out β} {P : β → Ds → Hp → Hp → Prop} (h : GPost F S σ W (o.bind g) P) : GPost F S σ W o (fun a ds' S' _ => GPost F S' σ W (g a ds') P) := by
  cases o with
  | ok a ds => exact fun H1 S1 e1 M1 => GPost.up e1 h
  | ex x ds => exact h
  | no => exact h
end
/-! ### the judgements -/
section
variable (F : Fc) (W : WX)
def tD (f : Ds → Out D) : TE := fun σ H Q => ∃ S ds, Match F S ds σ H ∧ GPost F S σ W (f ds) fun d _ S' H' => ∀ v, Rep F.E S' d v → Q v H'
def tT (f : Ds → Out Bool) : TT := fun σ H Q => ∃ S ds, Match F S ds σ H ∧ GPost F S σ W (f ds) fun b _ _ H' => Q b H'
def tA (f : Ds → Out (List D)) : TA := fun σ H Q => ∃ S ds, Match F S ds σ H ∧ GPost F S σ W (f ds) fun xs _ S' H' => ∀ vs, Reps F.E S' xs vs → Q vs H'
/-- an operand: a value, or a slot whose content is asked for later -/
inductive Opd where
  | val (d : D)
  | slot (i : Nat)
def OpdR (E : DE) (S : Hp) (σ : St) : Opd → V → Prop
  | .val d, v => Rep E S d v
  | .slot i, v => σ[i]? = some (some v)
def tO (f : Ds → Out Opd) : TE := fun σ H Q => ∃ S ds, Match F S ds σ H ∧ GPost F S σ W (f ds) fun o _ S' H' => ∀ v, OpdR F.E S' σ o v → Q v H'
/-- a new object -/
def tN (f : Ds → Out D) : TE := fun σ H Q => ∃ S ds, Match F S ds σ H ∧ GPost F S σ W (f ds) fun d ds' S' H' => ∀ p, S' p = none → F.H0 p = none → F.R p = none → (∀ (j : Nat) b e, ds'[j]? = some (.ow b e) → σ[j]? ≠ some (some (.ref p))) → OwnRep F.E S' H' p d → Q (.ref p) H'
def SPost (S : Hp) (o : SO) (Dn : Ends) : Prop := match o with
  | .nx ds' => ∀ σ' H' S', Same S S' → Match F S' ds' σ' H' → Dn.nx σ' H'
  | .bk ds' => ∀ σ' H' S', Same S S' → Match F S' ds' σ' H' → Dn.bk σ' H'
  | .ct ds' => ∀ σ' H' S', Same S S' → Match F S' ds' σ' H' → Dn.ct σ' H'
  | .rt d ds' => ∀ v σ' H' S', Same S S' → Match F S' ds' σ' H' → Rep F.E S' d v → Dn.rt v H'
  | .ex x ds' => ∀ cls dx σ' H' S', Same S S' → Match F S' ds' σ' H' → RepX F.E S' F.H0 x cls dx H' → W cls dx σ' H'
  | .no => False
def tS (f : Ds → SO) : TS := fun Dn σ H => ∃ S ds, Match F S ds σ H ∧ SPost F W S (f ds) Dn
variable (X : Cx)
def DPE (e : Expr) (f : Ds → Out D) : Prop := PE X e (tD F W f)
def DPN (e : Expr) (f : Ds → Out D) : Prop := PE X e (tN F W f)
def DPO (e : Expr) (f : Ds → Out Opd) : Prop := PE X e (tO F W f)
def DPT (e : Expr) (f : Ds → Out Bool) : Prop := PT X e (tT F W f)
def DPW (e : Expr) (f : Ds → Out Bool) : Prop := PW X e (tT F W f)
def DPA (es : List Expr) (f : Ds → Out (List D)) : Prop := PA X es (tA F W f)
def DPS (st : Stmt) (f : Ds → SO) : Prop := PS X st (tS F W f)
def DPSs (st : List Stmt) (f : Ds → SO) : Prop := PSs X st (tS F W f)
end
section
variable {F : Fc} {W : WX} {X : Cx}
theorem SPost.up {S S' : Hp} {o : SO} {Dn : Ends} (e : Same S S') (h : SPost F W S o Dn) : SPost F W S' o Dn := by
  cases o with
  | nx ds => exact fun σ1 H1 S1 e1 M1 => h σ1 H1 S1 (e.trans e1) M1
  | bk ds => exact fun σ1 H1 S1 e1 M1 => h σ1 H1 S1 (e.trans e1) M1
  | ct ds => exact fun σ1 H1 S1 e1 M1 => h σ1 H1 S1 (e.trans e1) M1
  | rt d ds => exact fun v σ1 H1 S1 e1 M1 r => h v σ1 H1 S1 (e.trans e1) M1 r
  | ex x ds => exact fun c d σ1 H1 S1 e1 M1 r => h c d σ1 H1 S1 (e.trans e1) M1 r
  | no => exact h
theorem GPost.then {α : Type} {S : Hp} {σ : St} {o : Out α} {g : α → Ds → SO} {Dn : Ends} (h : SPost F W S (o.then g) Dn) : GPost F S σ W o (fun a ds' S' _ => SPost F W S' (g a ds') Dn) := by
  cases o with
  | ok a ds => exact fun H1 S1 e1 M1 => SPost.up e1 h
  | ex x ds => exact fun cls dx H1 S1 e1 M1 r => h cls dx σ H1 S1 e1 M1 r
  | no => exact h
/-- the reading may be strengthened -/
theorem pe_of {e : Expr} {t t' : TE} (h : PE X e t) (g : ∀ σ H Q, t' σ H Q → t σ H Q) : PE X e t' := ⟨fun pins s σ H Q I q => h.run pins s σ H Q I (g σ H Q q)⟩
theorem pt_of {e : Expr} {t t' : TT} (h : PT X e t) (g : ∀ σ H Q, t' σ H Q → t σ H Q) : PT X e t' := ⟨fun pins s σ H Q I q => h.run pins s σ H Q I (g σ H Q q)⟩
theorem pw_of {e : Expr} {t t' : TT} (h : PW X e t) (g : ∀ σ H Q, t' σ H Q → t σ H Q) : PW X e t' := ⟨fun w pins s σ H Q I q => h.run w pins s σ H Q I (g σ H Q q)⟩
theorem pa_of {e : List Expr} {t t' : TA} (h : PA X e t) (g : ∀ σ H Q, t' σ H Q → t σ H Q) : PA X e t' := ⟨fun p pins s σ H Q I q => h.run p pins s σ H Q I (g σ H Q q)⟩
theorem ps_of {e : Stmt} {t t' : TS} (h : PS X e t) (g : ∀ D σ H, t' D σ H → t D σ H) : PS X e t' := ⟨fun pins s σ H D I q => h.run pins s σ H D I (g D σ H q)⟩
theorem pss_of {e : List Stmt} {t t' : TS} (h : PSs X e t) (g : ∀ D σ H, t' D σ H → t D σ H) : PSs X e t' := ⟨fun pins s σ H D I q => h.run pins s σ H D I (g D σ H q)⟩

/-! ### names, constants -/
/-- a name as a value: an own list becomes shared -/
def eVar (i : Nat) (ds : Ds) : Out D := match ds[i]? with
  | some (.sh d) => .ok d ds
  | some (.ow false d) => .ok d (ds.set i (.sh d))
  | _ => .no
def eC (d : D) (ds : Ds) : Out D := .ok d ds
variable {pos p2 : Pos}
theorem d_var {i : Nat} {x : Str} (hN : X.N[i]? = some x) (hv : Vis X.env.scope x) (hd : (x == ("__debug__" : Str)) = false := by decide) (hcd : (x == ("__classdict__" : Str)) = false := by decide) : DPE F W X (.Name x pos) (eVar i) := by
  refine pe_of (pe_var hN hv hd hcd) fun σ H Q ⟨S, ds, M, h⟩ => ?_
  unfold eVar at h
  cases e : ds[i]? with
  | none => rw [e] at h; exact h.elim
  | some c =>
    rw [e] at h
    cases c with
    | no => exact h.elim
    | sh d =>
      obtain ⟨v, h1, r⟩ := M.sh i d e
      exact ⟨v, h1, h H S (Same.refl _) M v r⟩
    | ow b d =>
      cases b with
      | true => exact h.elim
      | false =>
        obtain ⟨v, S', h1, e1, M1, r⟩ := M.freeze e
        exact ⟨v, h1, h H S' e1 M1 v r⟩
theorem d_c {e : Expr} {d : D} {v : V} (h : PE X e (tC v)) (r : ∀ E S, Rep E S d v) : DPE F W X e (eC d) :=
  pe_of h fun σ H Q ⟨S, ds, M, q⟩ => q H S (Same.refl _) M v (r _ _)
theorem d_int {i : Int} {j : Nat} : DPE F W X (.Constant (.int i) j pos) (eC (.int i)) := d_c pe_int fun _ _ => rfl
theorem d_bl {b : Bool} {j : Nat} : DPE F W X (.Constant (.bool b) j pos) (eC (.bl b)) := d_c pe_bl fun _ _ => rfl
theorem d_non {j : Nat} : DPE F W X (.Constant .none j pos) (eC .non) := d_c pe_non fun _ _ => rfl
theorem d_str {x : Str} {l : List Nat} {j : Nat} (h : x = SX.S l) : DPE F W X (.Constant (.str x) j pos) (eC (.str l)) := d_c pe_str fun _ _ => by rw [h]; rfl
/-- a module's constant -/
theorem d_gl {x : Str} {d : D} {v : V} {u : Value} (hg : Gl X x) (hm : X.mg x = some u) (r : RelV v u) (q : ∀ S, Rep F.E S d v) (hd : (x == ("__debug__" : Str)) = false := by decide) : DPE F W X (.Name x pos) (eC d) :=
  pe_of (pe_glob hg hm r hd) fun σ H Q ⟨S, ds, M, q'⟩ => q' H S (Same.refl _) M v (q _)
/-- operands -/
def oVar (i : Nat) (ds : Ds) : Out Opd := match ds[i]? with
  | some (.sh _) => .ok (.slot i) ds
  | some (.ow _ _) => .ok (.slot i) ds
  | _ => .no
def oVal (f : Ds → Out D) (ds : Ds) : Out Opd := (f ds).bind fun d ds' => .ok (.val d) ds'
theorem d_ov {i : Nat} {x : Str} (hN : X.N[i]? = some x) (hv : Vis X.env.scope x) (hd : (x == ("__debug__" : Str)) = false := by decide) (hcd : (x == ("__classdict__" : Str)) = false := by decide) : DPO F W X (.Name x pos) (oVar i) := by
  refine pe_of (pe_var hN hv hd hcd) fun σ H Q ⟨S, ds, M, h⟩ => ?_
  unfold oVar at h
  cases e : ds[i]? with
  | none => rw [e] at h; exact h.elim
  | some c =>
    rw [e] at h
    cases c with
    | no => exact h.elim
    | sh d =>
      obtain ⟨v, h1, r⟩ := M.sh i d e
      exact ⟨v, h1, h H S (Same.refl _) M v h1⟩
    | ow b d =>
      obtain ⟨p, h1, _⟩ := M.ow i b d e
      exact ⟨.ref p, h1, h H S (Same.refl _) M _ h1⟩
theorem d_oe {e : Expr} {f : Ds → Out D} (h : DPE F W X e f) : DPO F W X e (oVal f) :=
  pe_of h fun σ H Q ⟨S, ds, M, q⟩ => ⟨S, ds, M, q.bind.imp fun d ds' S' H' e M' g v r => g H' S' (Same.refl _) M' v r⟩
/-- a new object as a value -/
theorem d_new {e : Expr} {f : Ds → Out D} (h : DPN F W X e f) : DPE F W X e f := by
  refine pe_of h fun σ H Q ⟨S, ds, M, q⟩ => ⟨S, ds, M, ?_⟩
  cases e : f ds with
  | no => rw [e] at q; exact q
  | ex x ds' => rw [e] at q; exact q
  | ok d ds' =>
    rw [e] at q
    intro H' S' e1 M1 p np n0 nR nu r
    -- p joins the shared part
    obtain ⟨o, ho, nt⟩ := r.some_of
    have le : Same S' (upd S' p o) := fun b u z => by
      rw [upd_ne (fun w => by subst w; rw [np] at z; cases z)]; exact z
    have M2 : Match F (upd S' p o) ds' σ H' := {
      sub := fun b u z => by
        by_cases hb : b = p
        · subst hb; rw [upd_same] at z; cases z; exact ho
        · rw [upd_ne hb] at z; exact M1.sub _ _ z
      nt := M1.nt.upd nt
      old := M1.old.trans le
      fresh := fun a u z => by
        by_cases hb : a = p
        · subst hb; exact .inr n0
        · rw [upd_ne hb] at z; exact M1.fresh _ _ z
      keep := M1.keep, tblk := M1.tblk, tabs := M1.tabs, len := M1.len
      sh := fun j d' z => let ⟨v, a, b⟩ := M1.sh j d' z; ⟨v, a, b.mono le⟩
      ow := fun j b d' z => by
        obtain ⟨p', a1, a2, a3, a4, a5⟩ := M1.ow j b d' z
        refine ⟨p', a1, ?_, a3.ext le (fun _ z => z), a4, a5⟩
        rw [upd_ne (fun w => ?_)]
        · exact a2
        · subst w; exact nu j b d' z a1
      inj := M1.inj, io := M1.io
      pin := fun a u q => by
        obtain ⟨z1, z2, z4, z3⟩ := M1.pin a u q
        refine ⟨z1, z2, ?_, z3⟩
        rw [upd_ne (fun w => by subst w; rw [nR] at q; cases q)]; exact z4 }
    have hr : Rep F.E (upd S' p o) d (.ref p) := by
      cases d with
      | lst xs =>
        obtain ⟨vs, z, r⟩ := r
        rw [ho] at z; cases z
        exact ⟨p, vs, rfl, upd_same, r.mono le⟩
      | dic ks xs =>
        obtain ⟨vs, z, l, r⟩ := r
        rw [ho] at z; cases z
        exact ⟨p, vs, rfl, upd_same, l, r.mono le⟩
      | _ => exact r.elim
    exact q H' (upd S' p o) (e1.trans le) M2 _ hr
/-! ### the content of an operand -/
def deref (ds : Ds) : Opd → Option D
  | .val d => some d
  | .slot i => match ds[i]? with
    | some (.sh d) => some d
    | some (.ow _ d) => some d
    | _ => none
/-- a value's outermost object is to be read in H, what is in it in S -/
def Top (E : DE) (S H : Hp) : D → V → Prop
  | .lst xs, v => ∃ p vs, v = .ref p ∧ H p = some (.lst vs) ∧ Reps E S xs vs
  | .dic ks xs, v => ∃ p vs, v = .ref p ∧ H p = some (.dK (ks.zip vs)) ∧ ks.length = xs.length ∧ Reps E S xs vs
  | d, v => Rep E S d v
theorem Top.of {E : DE} {S H : Hp} (e : Same S H) : ∀ {d : D} {v : V}, Rep E S d v → Top E S H d v
  | .lst _, _, ⟨p, vs, h1, h2, h3⟩ => ⟨p, vs, h1, e _ _ h2, h3⟩
  | .dic _ _, _, ⟨p, vs, h1, h2, h3⟩ => ⟨p, vs, h1, e _ _ h2, h3⟩
  | .non, _, h => h
  | .bl _, _, h => h
  | .int _, _, h => h
  | .str _, _, h => h
  | .tup _, _, h => h
  | .obj _ _ _, _, h => h
  | .raw _, _, h => h
  | .scr _, _, h => h
  | .xcp _ _ _, _, h => h
theorem Match.top {S H : Hp} {ds : Ds} {σ : St} {S0 : Hp} (M : Match F S ds σ H) (e0 : Same S0 S) {o : Opd} {d : D} {v : V} (r : OpdR F.E S0 σ o v) (h : deref ds o = some d) : Top F.E S H d v := by
  cases o with
  | val d' =>
    cases h
    exact Top.of M.sub (Rep.mono e0 r)
  | slot i =>
    have r' : σ[i]? = some (some v) := r
    unfold deref at h
    dsimp only at h
    cases e : ds[i]? with
    | none => rw [e] at h; cases h
    | some c =>
      rw [e] at h
      cases c with
      | no => cases h
      | sh d' =>
        cases h
        obtain ⟨v', h1, r1⟩ := M.sh i _ e
        rw [r'] at h1; cases h1
        exact Top.of M.sub r1
      | ow b d' =>
        cases h
        obtain ⟨p, h1, h2, h3, _⟩ := M.ow i b _ e
        rw [r'] at h1; cases h1
        cases d with
        | lst xs => obtain ⟨vs, a, b⟩ := h3; exact ⟨p, vs, rfl, a, b⟩
        | dic ks xs => obtain ⟨vs, a, l, b⟩ := h3; exact ⟨p, vs, rfl, a, l, b⟩
        | _ => exact h3.elim
/-! ### operations on values -/
/-- the outcome of an operation that changes nothing but makes new objects -/
def RetV (E : DE) (S H : Hp) (d : D) (Q : VK) : Prop := ∀ v S' H', Ext S H S' H' → Rep E S' d v → Q v H'
theorem RetV.here {E : DE} {S H : Hp} {d : D} {Q : VK} {v : V} (h : RetV E S H d Q) (r : Rep E S d v) : Q v H := h v S H (Ext.refl _ _) r
/-- r keeps g: on two values -/
def Op2 (E : DE) (r : R2) (g : D → D → Option D) : Prop := ∀ S H x y v w d Q, Same S H → Top E S H x v → Top E S H y w → g x y = some d → RetV E S H d Q → r v w H Q
def Op1 (E : DE) (r : V → Hp → VK → Prop) (g : D → Option D) : Prop := ∀ S H x v d Q, Same S H → Top E S H x v → g x = some d → RetV E S H d Q → r v H Q
def liftO (o : Option D) (ds : Ds) : Out D := match o with
  | some d => .ok d ds
  | none => .no
def eOp2 (g : D → D → Option D) (fa fb : Ds → Out Opd) (ds : Ds) : Out D :=
  (fa ds).bind fun a ds1 => (fb ds1).bind fun b ds2 => match deref ds2 a, deref ds2 b with
    | some x, some y => liftO (g x y) ds2
    | _, _ => .no
def eOp1 (g : D → Option D) (fa : Ds → Out Opd) (ds : Ds) : Out D :=
  (fa ds).bind fun a ds1 => match deref ds1 a with
    | some x => liftO (g x) ds1
    | _ => .no
theorem OpdR.up {E : DE} {S S' : Hp} {σ : St} (e : Same S S') : ∀ {o : Opd} {v : V}, OpdR E S σ o v → OpdR E S' σ o v
  | .val _, _, h => Rep.mono e h
  | .slot _, _, h => h
theorem tOp_of {r : R2} {g : D → D → Option D} {fa fb : Ds → Out Opd} (hr : Op2 F.E r g) : ∀ σ H Q, tD F W (eOp2 g fa fb) σ H Q → tOp r (tO F W fa) (tO F W fb) σ H Q := fun σ H Q ⟨S, ds, M, q⟩ => by
  refine ⟨S, ds, M, (GPost.bind q).imp fun a ds1 S1 H1 e1 M1 q1 v r1 => ⟨S1, ds1, M1, (GPost.bind q1).imp fun b ds2 S2 H2 e2 M2 q2 w r2 => ?_⟩⟩
  cases h1 : deref ds2 a with
  | none => rw [h1] at q2; exact q2.elim
  | some x =>
    cases h2 : deref ds2 b with
    | none => rw [h1, h2] at q2; exact q2.elim
    | some y =>
      rw [h1, h2] at q2
      dsimp only at q2
      cases h3 : g x y with
      | none => rw [h3] at q2; exact q2.elim
      | some d =>
        rw [h3] at q2
        exact hr S2 H2 x y v w d Q M2.sub (M2.top e2 r1 h1) (M2.top (Same.refl _) r2 h2) h3 fun u S3 H3 x3 r3 => q2 H3 S3 x3.s (M2.ext x3) u r3
theorem tUn_of {r : V → Hp → VK → Prop} {g : D → Option D} {fa : Ds → Out Opd} (hr : Op1 F.E r g) : ∀ σ H Q, tD F W (eOp1 g fa) σ H Q → tUn r (tO F W fa) σ H Q := fun σ H Q ⟨S, ds, M, q⟩ => by
  refine ⟨S, ds, M, (GPost.bind q).imp fun a ds1 S1 H1 e1 M1 q1 v r1 => ?_⟩
  cases h1 : deref ds1 a with
  | none => rw [h1] at q1; exact q1.elim
  | some x =>
    rw [h1] at q1
    dsimp only at q1
    cases h3 : g x with
    | none => rw [h3] at q1; exact q1.elim
    | some d =>
      rw [h3] at q1
      exact hr S1 H1 x v d Q M1.sub (M1.top (Same.refl _) r1 h1) h3 fun u S3 H3 x3 r3 => q1 H3 S3 x3.s (M1.ext x3) u r3
variable {a b c : Expr} {fa fb fc : Ds → Out Opd}
theorem d_op {op : Operator} {r : R2} {g : D → D → Option D} (ho : OpR X (binaryOp op) r) (hr : Op2 F.E r g) (ha : DPO F W X a fa) (hb : DPO F W X b fb) : DPE F W X (.BinOp a op b pos) (eOp2 g fa fb) :=
  pe_of (pe_op ho ha hb) (tOp_of hr)
theorem d_un {op : UnaryOp} {r : V → Hp → VK → Prop} {g : D → Option D} (ho : UnR X (unaryOp op) r) (hr : Op1 F.E r g) (ha : DPO F W X a fa) : DPE F W X (.UnaryOp op a pos) (eOp1 g fa) :=
  pe_of (pe_un ho ha) (tUn_of hr)
theorem d_cmp {op : CmpOp} {r : R2} {g : D → D → Option D} (ho : OpR X (compareOp op) r) (hr : Op2 F.E r g) (ha : DPO F W X a fa) (hb : DPO F W X b fb) (hm : behindInMarks op b = false) : DPE F W X (.Compare a [op] [b] pos) (eOp2 g fa fb) :=
  pe_of (pe_cmpR ho ha hb hm) (tOp_of hr)
theorem d_ix {r : R2} {g : D → D → Option D} (ho : IxR X r) (hr : Op2 F.E r g) (ha : DPO F W X a fa) (hb : DPO F W X b fb) (hs : PlainIx b) : DPE F W X (.Subscript a b pos) (eOp2 g fa fb) :=
  pe_of (pe_ix ho ha hb hs) (tOp_of hr)
/-! ### tests -/
/-- a bool as a test -/
def tBl (f : Ds → Out D) (ds : Ds) : Out Bool := (f ds).bind fun d ds' => match d with
  | .bl b => .ok b ds'
  | _ => .no
theorem tB_of {f : Ds → Out D} : ∀ σ H Q, tT F W (tBl f) σ H Q → tB (tD F W f) σ H Q := fun σ H Q ⟨S, ds, M, q⟩ => by
  refine ⟨S, ds, M, (GPost.bind q).imp fun d ds1 S1 H1 e1 M1 q1 v r1 => ?_⟩
  cases d with
  | bl b => exact ⟨b, r1, q1 H1 S1 (Same.refl _) M1⟩
  | _ => exact q1.elim
theorem d_tv {e : Expr} {f : Ds → Out D} (h : DPE F W X e f) (he : ∀ whole, isTrue e X.env whole = (do let v ← whole; standAt e.pos; holding [v] (truthy v)) := by intro _; rfl) : DPT F W X e (tBl f) :=
  pt_of (pt_val h he) tB_of
theorem d_tcmp {op : CmpOp} {r : R2} {g : D → D → Option D} (ho : OpR X (compareOp op) r) (hr : Op2 F.E r g) (ha : DPO F W X a fa) (hb : DPO F W X b fb) (hm : behindInMarks op b = false) : DPT F W X (.Compare a [op] [b] pos) (tBl (eOp2 g fa fb)) :=
  pt_of (pt_cmpR ho ha hb hm) fun σ H Q h => by
    obtain ⟨S, ds, M, q⟩ := h
    have h2 := tB_of (F := F) (W := W) (f := eOp2 g fa fb) σ H Q ⟨S, ds, M, q⟩
    exact tOp_of hr σ H _ h2
def tAndD (f g : Ds → Out Bool) (ds : Ds) : Out Bool := (f ds).bind fun b ds' => if b then g ds' else .ok false ds'
def tOrD (f g : Ds → Out Bool) (ds : Ds) : Out Bool := (f ds).bind fun b ds' => if b then .ok true ds' else g ds'
def tNotD (f : Ds → Out Bool) (ds : Ds) : Out Bool := (f ds).bind fun b ds' => .ok (!b) ds'
variable {f g : Ds → Out Bool} {rest : List Expr}
theorem d_tnot (h : DPT F W X a f) : DPT F W X (.UnaryOp .Not a pos) (tNotD f) :=
  pt_of (pt_not h) fun σ H Q ⟨S, ds, M, q⟩ => ⟨S, ds, M, (GPost.bind q).imp fun b ds1 S1 H1 e1 M1 q1 => q1 H1 S1 (Same.refl _) M1⟩
theorem d_wand1 (h : DPT F W X a f) : DPW F W X (.BoolOp .And [a] pos) f := pw_and1 h
theorem d_wor1 (h : DPT F W X a f) : DPW F W X (.BoolOp .Or [a] pos) f := pw_or1 h
theorem d_wand (h : DPT F W X a f) (k : DPW F W X (.BoolOp .And (b :: rest) pos) g) : DPW F W X (.BoolOp .And (a :: b :: rest) pos) (tAndD f g) :=
  pw_of (pw_and h k) fun σ H Q ⟨S, ds, M, q⟩ => ⟨S, ds, M, (GPost.bind q).imp fun b ds1 S1 H1 e1 M1 q1 => by
    cases b with
    | true => exact ⟨S1, ds1, M1, q1⟩
    | false => exact q1 H1 S1 (Same.refl _) M1⟩
theorem d_wor (h : DPT F W X a f) (k : DPW F W X (.BoolOp .Or (b :: rest) pos) g) : DPW F W X (.BoolOp .Or (a :: b :: rest) pos) (tOrD f g) :=
  pw_of (pw_or h k) fun σ H Q ⟨S, ds, M, q⟩ => ⟨S, ds, M, (GPost.bind q).imp fun b ds1 S1 H1 e1 M1 q1 => by
    cases b with
    | true => exact q1 H1 S1 (Same.refl _) M1
    | false => exact ⟨S1, ds1, M1, q1⟩⟩
theorem d_tw {e : Expr} (h : DPW F W X e f) : DPT F W X e f := PW.pt h
/-- and, or, not of bools as values -/
def eAndD (f g : Ds → Out D) (ds : Ds) : Out D := (f ds).bind fun d ds' => match d with
  | .bl b => if b then g ds' else .ok (.bl false) ds'
  | _ => .no
def eOrD (f g : Ds → Out D) (ds : Ds) : Out D := (f ds).bind fun d ds' => match d with
  | .bl b => if b then .ok (.bl true) ds' else g ds'
  | _ => .no
def eNotD (f : Ds → Out D) (ds : Ds) : Out D := (f ds).bind fun d ds' => match d with
  | .bl b => .ok (.bl (!b)) ds'
  | _ => .no
theorem d_and {f g : Ds → Out D} (h : DPE F W X a f) (k : DPE F W X (.BoolOp .And (b :: rest) pos) g) : DPE F W X (.BoolOp .And (a :: b :: rest) pos) (eAndD f g) :=
  pe_of (pe_and h k) fun σ H Q ⟨S, ds, M, q⟩ => ⟨S, ds, M, (GPost.bind q).imp fun d ds1 S1 H1 e1 M1 q1 v r => by
    cases d with
    | bl b =>
      refine ⟨b, r, ?_⟩
      cases b with
      | true => exact ⟨S1, ds1, M1, q1⟩
      | false => exact q1 H1 S1 (Same.refl _) M1 _ rfl
    | _ => exact q1.elim⟩
theorem d_or {f g : Ds → Out D} (h : DPE F W X a f) (k : DPE F W X (.BoolOp .Or (b :: rest) pos) g) : DPE F W X (.BoolOp .Or (a :: b :: rest) pos) (eOrD f g) :=
  pe_of (pe_or h k) fun σ H Q ⟨S, ds, M, q⟩ => ⟨S, ds, M, (GPost.bind q).imp fun d ds1 S1 H1 e1 M1 q1 v r => by
    cases d with
    | bl b =>
      refine ⟨b, r, ?_⟩
      cases b with
      | true => exact q1 H1 S1 (Same.refl _) M1 _ rfl
      | false => exact ⟨S1, ds1, M1, q1⟩
    | _ => exact q1.elim⟩
theorem d_one {op : BoolOp} {f : Ds → Out D} (h : DPE F W X a f) : DPE F W X (.BoolOp op [a] pos) f := pe_one h
theorem d_not {f : Ds → Out D} (h : DPE F W X a f) : DPE F W X (.UnaryOp .Not a pos) (eNotD f) :=
  pe_of (pe_not h) fun σ H Q ⟨S, ds, M, q⟩ => ⟨S, ds, M, (GPost.bind q).imp fun d ds1 S1 H1 e1 M1 q1 v r => by
    cases d with
    | bl b => exact ⟨b, r, q1 H1 S1 (Same.refl _) M1 _ rfl⟩
    | _ => exact q1.elim⟩
def eIf (t : Ds → Out Bool) (f g : Ds → Out D) (ds : Ds) : Out D := (t ds).bind fun b ds' => if b then f ds' else g ds'
theorem d_if {t : Ds → Out Bool} {f g : Ds → Out D} (h : DPT F W X c t) (ha : DPE F W X a f) (hb : DPE F W X b g) : DPE F W X (.IfExp c a b pos) (eIf t f g) :=
  pe_of (pe_ifExp h ha hb) fun σ H Q ⟨S, ds, M, q⟩ => ⟨S, ds, M, (GPost.bind q).imp fun b ds1 S1 H1 e1 M1 q1 => by
    cases b with
    | true => exact ⟨S1, ds1, M1, q1⟩
    | false => exact ⟨S1, ds1, M1, q1⟩⟩
/-- a op b op' c, of values that make nothing -/
def eChain (g g' : D → D → Option D) (fa fb fc : Ds → Out Opd) (ds : Ds) : Out D :=
  (fa ds).bind fun a ds1 => (fb ds1).bind fun b ds2 => match deref ds2 a, deref ds2 b with
    | some x, some y => match g x y with
      | some (.bl true) => (fc ds2).bind fun c ds3 => match deref ds3 b, deref ds3 c with
        | some y', some z => liftO (g' y' z) ds3
        | _, _ => .no
      | some (.bl false) => .ok (.bl false) ds2
      | _ => .no
    | _, _ => .no
theorem tChain_of {r r' : R2} {g g' : D → D → Option D} (hr : Op2 F.E r g) (hr' : Op2 F.E r' g') : ∀ σ H Q, tD F W (eChain g g' fa fb fc) σ H Q → tChain r r' (tO F W fa) (tO F W fb) (tO F W fc) σ H Q := fun σ H Q ⟨S, ds, M, q⟩ => by
  refine ⟨S, ds, M, (GPost.bind q).imp fun a ds1 S1 H1 e1 M1 q1 v r1 => ⟨S1, ds1, M1, (GPost.bind q1).imp fun b ds2 S2 H2 e2 M2 q2 w r2 => ?_⟩⟩
  cases h1 : deref ds2 a with
  | none => rw [h1] at q2; exact q2.elim
  | some x =>
    cases h2 : deref ds2 b with
    | none => rw [h1, h2] at q2; exact q2.elim
    | some y =>
      rw [h1, h2] at q2
      dsimp only at q2
      cases h3 : g x y with
      | none => rw [h3] at q2; exact q2.elim
      | some d =>
        rw [h3] at q2
        cases d with
        | bl k =>
          refine hr S2 H2 x y v w _ _ M2.sub (M2.top e2 r1 h1) (M2.top (Same.refl _) r2 h2) h3 fun u S3 H3 x3 r3 => ⟨k, r3, ?_⟩
          have M3 := M2.ext x3
          cases k with
          | false => exact q2 H3 S3 x3.s M3 _ rfl
          | true =>
            refine ⟨S3, ds2, M3, (GPost.bind (GPost.up x3.s q2)).imp fun cc ds4 S4 H4 e4 M4 q4 u4 r4 => ?_⟩
            cases h5 : deref ds4 b with
            | none => rw [h5] at q4; exact q4.elim
            | some y' =>
              cases h6 : deref ds4 cc with
              | none => rw [h5, h6] at q4; exact q4.elim
              | some z =>
                rw [h5, h6] at q4
                dsimp only at q4
                cases h7 : g' y' z with
                | none => rw [h7] at q4; exact q4.elim
                | some d =>
                  rw [h7] at q4
                  exact hr' S4 H4 y' z w u4 d Q M4.sub (M4.top (x3.s.trans e4) r2 h5) (M4.top (Same.refl _) r4 h6) h7 fun u S5 H5 x5 r5 => q4 H5 S5 x5.s (M4.ext x5) u r5
        | _ => exact q2.elim
theorem d_chain {op op' : CmpOp} {r r' : R2} {g g' : D → D → Option D} (ho : OpR X (compareOp op) r) (ho' : OpR X (compareOp op') r') (hr : Op2 F.E r g) (hr' : Op2 F.E r' g') (ha : DPO F W X a fa) (hb : DPO F W X b fb) (hc : DPO F W X c fc)
    (hm : lastMarks [op, op'] [b, c] = false) : DPE F W X (.Compare a [op, op'] [b, c] pos) (eChain g g' fa fb fc) := pe_of (pe_chain ho ho' ha hb hc hm) (tChain_of hr hr')
/-! ### arguments -/
def aNil (ds : Ds) : Out (List D) := .ok [] ds
def aCons (f : Ds → Out D) (g : Ds → Out (List D)) (ds : Ds) : Out (List D) := (f ds).bind fun d ds1 => (g ds1).bind fun xs ds2 => .ok (d :: xs) ds2
theorem d_anil : DPA F W X [] aNil := pa_of pa_nil fun σ H Q ⟨S, ds, M, q⟩ => q H S (Same.refl _) M [] .nil
theorem d_acons {e : Expr} {es : List Expr} {f : Ds → Out D} {g : Ds → Out (List D)} (h : DPE F W X e f) (k : DPA F W X es g) (hs : starEach (e :: es) X.env = (false, eval e X.env) :: starEach es X.env := by rfl) : DPA F W X (e :: es) (aCons f g) :=
  pa_of (pa_cons h k hs) fun σ H Q ⟨S, ds, M, q⟩ => ⟨S, ds, M, (GPost.bind q).imp fun d ds1 S1 H1 e1 M1 q1 v r => ⟨S1, ds1, M1, (GPost.bind q1).imp fun xs ds2 S2 H2 e2 M2 q2 vs rs => q2 H2 S2 (Same.refl _) M2 _ (.cons (r.mono e2) rs)⟩⟩
/-! ### displays -/
def eTup (g : Ds → Out (List D)) (ds : Ds) : Out D := (g ds).bind fun xs ds1 => if xs.length ≤ 10000 then .ok (.tup xs) ds1 else .no
def eLst (g : Ds → Out (List D)) (ds : Ds) : Out D := (g ds).bind fun xs ds1 => if xs.length ≤ 10000 then .ok (.lst xs) ds1 else .no
theorem sz_of {n m : Nat} (h : n ≤ m) (hm : m ≤ 16777216 := by decide) : n ≤ sizeLine := by rw [sizeLine_eq]; omega
theorem d_tup {es : List Expr} {g : Ds → Out (List D)} {x1 : Nat} (h : DPA F W X es g) : DPE F W X (.Tuple es x1 pos) (eTup g) :=
  pe_of (pe_tup h) fun σ H Q ⟨S, ds, M, q⟩ => ⟨S, ds, M, (GPost.bind q).imp fun xs ds1 S1 H1 e1 M1 q1 vs rs => by
    by_cases hl : xs.length ≤ 10000
    · rw [if_pos hl] at q1
      refine ⟨by rw [← rs.length]; exact sz_of hl, fun p np => ?_⟩
      have x := Ext.new (o := .tup vs) M1.sub np
      exact q1 _ _ x.s (M1.ext x) _ ⟨p, vs, rfl, SqT.of upd_same, rs.mono x.s⟩
    · rw [if_neg hl] at q1; exact q1.elim⟩
theorem Match.newOwn {S H : Hp} {ds : Ds} {σ : St} (M : Match F S ds σ H) {p : Addr} (np : H p = none) : S p = none ∧ F.H0 p = none ∧ F.R p = none ∧ ∀ (j : Nat) b e, ds[j]? = some (.ow b e) → σ[j]? ≠ some (some (.ref p)) := by
  refine ⟨M.sub.free np, M.new np, ?_, fun j b e h q => ?_⟩
  · cases e : F.R p with
    | none => rfl
    | some o => have z := (M.pin p o e).2.1; rw [np] at z; cases z
  obtain ⟨p', h1, _, h3, _⟩ := M.ow j b e h
  rw [q] at h1; cases h1
  obtain ⟨o, z, _⟩ := h3.some_of
  rw [np] at z; cases z
theorem d_lst {es : List Expr} {g : Ds → Out (List D)} (h : DPA F W X es g) : DPN F W X (.List es pos) (eLst g) :=
  pe_of (pe_lst h) fun σ H Q ⟨S, ds, M, q⟩ => ⟨S, ds, M, (GPost.bind q).imp fun xs ds1 S1 H1 e1 M1 q1 vs rs => by
    by_cases hl : xs.length ≤ 10000
    · rw [if_pos hl] at q1
      refine ⟨by rw [← rs.length]; exact sz_of hl, fun p np => ?_⟩
      have x := Ext.newH (o := .lst vs) M1.sub np
      obtain ⟨n1, n2, n3, n4⟩ := M1.newOwn np
      exact q1 _ _ x.s (M1.ext x) p n1 n2 n3 n4 ⟨vs, upd_same, rs⟩
    · rw [if_neg hl] at q1; exact q1.elim⟩
end
end DV

set_option Elab.async false
set_option linter.all false
set_option maxRecDepth 100000
set_option maxHeartbeats 1000000
/-! DV3: statements, targets, what is walked, loops, comprehensions. -/
namespace DV
open PySem PySem.Spec PyProof.Rows L2
section
variable {F : Fc} {W : WX} {X : Cx} {pos p2 : Pos}
/-! ### small statements -/
def sNext (ds : Ds) : SO := .nx ds
def sSeq (f g : Ds → SO) (ds : Ds) : SO := match f ds with
  | .nx ds1 => g ds1
  | o => o
def ioFree (ds : Ds) (i : Nat) : Bool := match ds[i]? with
  | some (.ow true _) => false
  | _ => true
theorem ioFree_ne {ds : Ds} {i : Nat} (h : ioFree ds i = true) : ∀ d', ds[i]? ≠ some (.ow true d') := fun d' e => by
  unfold ioFree at h; rw [e] at h; cases h
def putSh (i : Nat) (d : D) (ds : Ds) : Option Ds := if ioFree ds i then some (ds.set i (.sh d)) else none
def nxO (o : Option Ds) : SO := match o with
  | some ds => .nx ds
  | none => .no
def sSet (i : Nat) (f : Ds → Out D) (ds : Ds) : SO := (f ds).then fun d ds1 => nxO (putSh i d ds1)
def sNew (i : Nat) (f : Ds → Out D) (ds : Ds) : SO := (f ds).then fun d ds1 => if ioFree ds1 i then .nx (ds1.set i (.ow false d)) else .no
def sRet (f : Ds → Out D) (ds : Ds) : SO := (f ds).then fun d ds1 => .rt d ds1
def sDrop (f : Ds → Out D) (ds : Ds) : SO := (f ds).then fun _ ds1 => .nx ds1
def sIf (t : Ds → Out Bool) (f g : Ds → SO) (ds : Ds) : SO := (t ds).then fun b ds1 => if b then f ds1 else g ds1
theorem d_snil : DPSs F W X [] sNext := pss_of pss_nil fun Dn σ H ⟨S, ds, M, q⟩ => q σ H S (Same.refl _) M
theorem d_scons {st : Stmt} {rest : List Stmt} {f g : Ds → SO} (h : DPS F W X st f) (k : DPSs F W X rest g) : DPSs F W X (st :: rest) (sSeq f g) :=
  pss_of (pss_cons h k) fun Dn σ H ⟨S, ds, M, q⟩ => by
    refine ⟨S, ds, M, ?_⟩
    unfold sSeq at q
    cases e : f ds with
    | nx ds1 => rw [e] at q; exact fun σ1 H1 S1 e1 M1 => ⟨S1, ds1, M1, q.up e1⟩
    | bk ds1 => rw [e] at q; exact q
    | ct ds1 => rw [e] at q; exact q
    | rt d ds1 => rw [e] at q; exact q
    | ex x ds1 => rw [e] at q; exact q
    | no => rw [e] at q; exact q
theorem d_sone {st : Stmt} {f : Ds → SO} (h : DPS F W X st f) : DPSs F W X [st] f := pss_one h
theorem d_pass : DPS F W X (.Pass pos) sNext := ps_of ps_pass fun Dn σ H ⟨S, ds, M, q⟩ => q σ H S (Same.refl _) M
theorem d_break : DPS F W X (.Break pos) (fun ds => .bk ds) := ps_of ps_break fun Dn σ H ⟨S, ds, M, q⟩ => q σ H S (Same.refl _) M
theorem d_cont : DPS F W X (.Continue pos) (fun ds => .ct ds) := ps_of ps_continue fun Dn σ H ⟨S, ds, M, q⟩ => q σ H S (Same.refl _) M
theorem d_set {i : Nat} {x : Str} {e : Expr} {f : Ds → Out D} (hN : X.N.Nodup) (hi : X.N[i]? = some x) (hx : Loc X.env.scope x) (he : DPE F W X e f) (hs : swapsWith e (some (.Name x p2)) pos.line X.env = pure false := by rfl)
    (hf : X.fn x = true ∨ X.env.scope.names.lookup x = some .local := by first | exact .inl rfl | exact .inr rfl | assumption) : DPS F W X (.Assign [.Name x p2] e pos) (sSet i f) :=
  ps_of (ps_set hN hi hx he hs hf) fun Dn σ H ⟨S, ds, M, q⟩ => ⟨S, ds, M, (GPost.then q).imp fun d ds1 S1 H1 e1 M1 q1 v r => by
    unfold putSh at q1
    cases hio : ioFree ds1 i with
    | false => rw [hio] at q1; exact q1.elim
    | true => rw [hio] at q1; exact q1 _ H1 S1 (Same.refl _) (M1.set (ioFree_ne hio) r)⟩
theorem d_setN {i : Nat} {x : Str} {e : Expr} {f : Ds → Out D} (hN : X.N.Nodup) (hi : X.N[i]? = some x) (hx : Loc X.env.scope x) (he : DPN F W X e f) (hs : swapsWith e (some (.Name x p2)) pos.line X.env = pure false := by rfl)
    (hf : X.fn x = true ∨ X.env.scope.names.lookup x = some .local := by first | exact .inl rfl | exact .inr rfl | assumption) : DPS F W X (.Assign [.Name x p2] e pos) (sNew i f) :=
  ps_of (ps_set hN hi hx he hs hf) fun Dn σ H ⟨S, ds, M, q⟩ => ⟨S, ds, M, (GPost.then q).imp fun d ds1 S1 H1 e1 M1 q1 p np n0 nR nu r => by
    cases hio : ioFree ds1 i with
    | false => rw [hio] at q1; exact q1.elim
    | true => rw [hio] at q1; exact q1 _ H1 S1 (Same.refl _) (M1.setOwn (ioFree_ne hio) np n0 nR nu r)⟩
theorem d_ret {e : Expr} {f : Ds → Out D} (h : DPE F W X e f) : DPS F W X (.Return (some e) pos) (sRet f) :=
  ps_of (ps_ret h) fun Dn σ H ⟨S, ds, M, q⟩ => ⟨S, ds, M, (GPost.then q).imp fun d ds1 S1 H1 e1 M1 q1 v r => q1 v σ H1 S1 (Same.refl _) M1 r⟩
theorem d_retN : DPS F W X (.Return none pos) (fun ds => .rt .non ds) :=
  ps_of ps_retN fun Dn σ H ⟨S, ds, M, q⟩ => q .non σ H S (Same.refl _) M rfl
theorem d_expr {e : Expr} {f : Ds → Out D} (h : DPE F W X e f) (hs : swapsWith e none pos.line X.env = pure false := by rfl) : DPS F W X (.Expr e pos) (sDrop f) :=
  ps_of (ps_expr h hs) fun Dn σ H ⟨S, ds, M, q⟩ => ⟨S, ds, M, (GPost.then q).imp fun d ds1 S1 H1 e1 M1 q1 v r => q1 σ H1 S1 (Same.refl _) M1⟩
theorem d_sif {c : Expr} {a b : List Stmt} {t : Ds → Out Bool} {f g : Ds → SO} (hc : DPT F W X c t) (ha : DPSs F W X a f) (hb : DPSs F W X b g) : DPS F W X (.If c a b pos) (sIf t f g) :=
  ps_of (ps_if hc ha hb) fun Dn σ H ⟨S, ds, M, q⟩ => ⟨S, ds, M, (GPost.then q).imp fun b ds1 S1 H1 e1 M1 q1 => by
    cases b with
    | true => exact ⟨S1, ds1, M1, q1⟩
    | false => exact ⟨S1, ds1, M1, q1⟩⟩
/-- a, b = x, y of plain local names -/
def sPar (i j : Nat) (f : Ds → Out (List D)) (ds : Ds) : SO := (f ds).then fun xs ds1 => match xs with
  | [a, b] => nxO ((putSh i a ds1).bind (putSh j b))
  | _ => .no
theorem putSh_ok {S H : Hp} {σ : St} {ds ds' : Ds} {i : Nat} {d : D} {v : V} (M : Match F S ds σ H) (r : Rep F.E S d v) (h : putSh i d ds = some ds') : Match F S ds' (σ.set i (some v)) H := by
  unfold putSh at h
  cases hio : ioFree ds i with
  | false => rw [hio] at h; cases h
  | true => rw [hio] at h; cases h; exact M.set (ioFree_ne hio) r
theorem d_par {i j : Nat} {x y : Str} {a b : Expr} {f : Ds → Out (List D)} {px py pt : Pos} {kt k2 pt2} (hc : X.calm = true) (hN : X.N.Nodup) (hi : X.N[i]? = some x) (hj : X.N[j]? = some y) (hij : i ≠ j)
    (hx : X.env.scope.names.lookup x = some .local) (hy : X.env.scope.names.lookup y = some .local) (ha : DPA F W X [a, b] f)
    (hw : swappedStores [.Tuple [.Name x px, .Name y py] kt pt] (.Tuple [a, b] k2 pt2) X.env = pure (some [x, y]))
    (hs : swapsWithSole [.Tuple [.Name x px, .Name y py] kt pt] (.Tuple [a, b] k2 pt2) pos.line X.env = pure false := by rfl) :
    DPS F W X (.Assign [.Tuple [.Name x px, .Name y py] kt pt] (.Tuple [a, b] k2 pt2) pos) (sPar i j f) :=
  ps_of (ps_par hc hN hi hj hij hx hy ha hw hs) fun Dn σ H ⟨S, ds, M, q⟩ => ⟨S, ds, M, (GPost.then q).imp fun xs ds1 S1 H1 e1 M1 q1 vs rs => by
    match xs, rs, q1 with
    | [], _, q1 => exact q1.elim
    | [_], _, q1 => exact q1.elim
    | _ :: _ :: _ :: _, _, q1 => exact q1.elim
    | [a, b], rs, q1 =>
      obtain ⟨v, w, rfl, r1, r2⟩ := rs
      obtain ⟨v2, w2, rfl, r3, r4⟩ := r2
      cases r4
      refine ⟨v, v2, rfl, ?_⟩
      dsimp only at q1
      cases h1 : putSh i a ds1 with
      | none => rw [h1] at q1; exact q1.elim
      | some ds2 =>
        rw [h1] at q1
        cases h2 : putSh j b ds2 with
        | none =>
          have z : (some ds2).bind (putSh j b) = none := h2
          rw [z] at q1; exact q1.elim
        | some ds3 =>
          have z : (some ds2).bind (putSh j b) = some ds3 := h2
          rw [z] at q1
          exact q1 _ H1 S1 (Same.refl _) (putSh_ok (putSh_ok M1 r1 h1) r3 h2)⟩
/-! ### targets -/
def Off (is : List Nat) (σ σ' : St) : Prop := σ'.length = σ.length ∧ ∀ j, j ∉ is → σ'[j]? = σ[j]?
theorem Off.refl (is : List Nat) (σ : St) : Off is σ σ := ⟨rfl, fun _ _ => rfl⟩
theorem Off.trans {is : List Nat} {σ σ1 σ2 : St} (a : Off is σ σ1) (b : Off is σ1 σ2) : Off is σ σ2 := ⟨b.1.trans a.1, fun j h => (b.2 j h).trans (a.2 j h)⟩
theorem Off.mono {is js : List Nat} {σ σ1 : St} (a : Off is σ σ1) (h : ∀ i ∈ is, i ∈ js) : Off js σ σ1 := ⟨a.1, fun j n => a.2 j fun z => n (h j z)⟩
theorem wipe_eq : ∀ {vs : List Nat} {σ σ' : St}, Off vs σ σ' → wipe σ' vs = wipe σ vs := fun {vs σ σ'} h => by
  apply List.ext_getElem?
  intro i
  by_cases hi : i ∈ vs
  · have z : ∀ (τ : St), i < τ.length → (wipe τ vs)[i]? = some none := fun τ ht => by
      have hl : i < (wipe τ vs).length := by rw [wipe_length]; exact ht
      cases e : (wipe τ vs)[i]? with
      | none => rw [List.getElem?_eq_none_iff] at e; omega
      | some o =>
        cases o with
        | none => rfl
        | some x => exact absurd hi (wipe_some e).2
    by_cases hl : i < σ.length
    · rw [z σ hl, z σ' (by rw [h.1]; exact hl)]
    · have h1 : (wipe σ vs)[i]? = none := List.getElem?_eq_none (by rw [wipe_length]; omega)
      have h2 : (wipe σ' vs)[i]? = none := List.getElem?_eq_none (by rw [wipe_length, h.1]; omega)
      rw [h1, h2]
  · rw [wipe_out hi, wipe_out hi]
    exact h.2 i hi
def tG (F : Fc) (is : List Nat) (g : D → Ds → Option Ds) : TG := fun v σ H Q => ∃ S ds d ds', Match F S ds σ H ∧ Rep F.E S d v ∧ g d ds = some ds' ∧ ∀ σ', Off is σ σ' → Match F S ds' σ' H → Q σ' H
def tGs (F : Fc) (is : List Nat) (g : List D → Ds → Option Ds) : TGs := fun vs σ H Q => ∃ S ds xs ds', Match F S ds σ H ∧ Reps F.E S xs vs ∧ g xs ds = some ds' ∧ ∀ σ', Off is σ σ' → Match F S ds' σ' H → Q σ' H
def DPG (F : Fc) (X : Cx) (tg : Expr) (is : List Nat) (g : D → Ds → Option Ds) : Prop := PG X tg (tG F is g)
def DPGs (F : Fc) (X : Cx) (ts : List Expr) (is : List Nat) (g : List D → Ds → Option Ds) : Prop := PGs X ts (tGs F is g)
theorem pg_of {tg : Expr} {t t' : TG} (h : PG X tg t) (g : ∀ v σ H Q, t' v σ H Q → t v σ H Q) : PG X tg t' := ⟨fun pins s σ H v u Q I r q => h.run pins s σ H v u Q I r (g v σ H Q q)⟩
theorem pgs_of {ts : List Expr} {t t' : TGs} (h : PGs X ts t) (g : ∀ v σ H Q, t' v σ H Q → t v σ H Q) : PGs X ts t' := ⟨fun pins s σ H v u Q I r q => h.run pins s σ H v u Q I r (g v σ H Q q)⟩
theorem d_gname {i : Nat} {x : Str} (hN : X.N.Nodup) (hi : X.N[i]? = some x) (hx : Loc X.env.scope x) (hf : X.fn x = true ∨ X.env.scope.names.lookup x = some .local := by first | exact .inl rfl | exact .inr rfl | assumption) : DPG F X (.Name x pos) [i] (putSh i) :=
  pg_of (pg_name hN hi hx hf) fun v σ H Q ⟨S, ds, d, ds', M, r, h, k⟩ => k _ ⟨by simp, fun j n => List.getElem?_set_ne (fun z => n (by simp [z]))⟩ (putSh_ok M r h)
def gsNil (xs : List D) (ds : Ds) : Option Ds := match xs with
  | [] => some ds
  | _ => none
def gsCons (g : D → Ds → Option Ds) (h : List D → Ds → Option Ds) (xs : List D) (ds : Ds) : Option Ds := match xs with
  | [] => none
  | x :: r => (g x ds).bind (h r)
theorem d_gsnil : DPGs F X [] [] gsNil := pgs_of pgs_nil fun vs σ H Q ⟨S, ds, xs, ds', M, r, h, k⟩ => by
  cases xs with
  | nil => cases h; cases r; exact ⟨rfl, k σ (Off.refl _ _) M⟩
  | cons x r => cases h
theorem d_gscons {e : Expr} {es : List Expr} {is js : List Nat} {g : D → Ds → Option Ds} {h : List D → Ds → Option Ds} (h1 : DPG F X e is g) (h2 : DPGs F X es js h) (hs : (assignEach (e :: es) X.env).map (·.2) = assign e X.env :: (assignEach es X.env).map (·.2) := by rfl) :
    DPGs F X (e :: es) (is ++ js) (gsCons g h) := pgs_of (pgs_cons h1 h2 hs) fun vs σ H Q ⟨S, ds, xs, ds', M, r, q, k⟩ => by
  cases xs with
  | nil => cases q
  | cons x xr =>
    obtain ⟨v, w, rfl, r1, r2⟩ := r
    refine ⟨v, w, rfl, ?_⟩
    have q' : (g x ds).bind (h xr) = some ds' := q
    cases e1 : g x ds with
    | none => rw [e1] at q'; cases q'
    | some ds1 =>
      rw [e1] at q'
      exact ⟨S, ds, x, ds1, M, r1, e1, fun σ1 o1 M1 => ⟨S, ds1, xr, ds', M1, r2, q', fun σ2 o2 M2 => k σ2 ((o1.mono fun i z => List.mem_append_left _ z).trans (o2.mono fun i z => List.mem_append_right _ z)) M2⟩⟩
def gTupD (g : List D → Ds → Option Ds) (d : D) (ds : Ds) : Option Ds := match d with
  | .tup xs => g xs ds
  | _ => none
theorem gs_len : ∀ {es : List Expr} {is : List Nat} {g : List D → Ds → Option Ds}, True → True := fun _ => trivial
theorem d_gtup {es : List Expr} {k n : Nat} {is : List Nat} {g : List D → Ds → Option Ds} (hK : X.K = F.E.K) (hc : X.calm = true) (h : DPGs F X es is g) (hl : ∀ xs ds ds', g xs ds = some ds' → xs.length = n)
    (hn : (assignEach es X.env).length = n := by rfl) (hst : (assignEach es X.env).findIdx? (·.1) = none := by rfl) : DPG F X (.Tuple es k pos) is (gTupD g) :=
  pg_of (pg_tup hc h hn hst) fun v σ H Q ⟨S, ds, d, ds', M, r, q, k⟩ => by
    cases d with
    | tup xs =>
      obtain ⟨p, vs, rfl, h1, h2⟩ := r
      exact ⟨p, vs, rfl, by rw [hK]; exact sqT_mono M.sub h1, by rw [← h2.length]; exact hl xs ds ds' q, S, ds, xs, ds', M, h2, q, k⟩
    | _ => cases q
theorem len_nil : ∀ xs ds ds', gsNil xs ds = some ds' → xs.length = 0 := fun xs ds ds' h => by
  cases xs with
  | nil => rfl
  | cons _ _ => cases h
theorem len_cons {g : D → Ds → Option Ds} {h : List D → Ds → Option Ds} {n : Nat} (k : ∀ xs ds ds', h xs ds = some ds' → xs.length = n) : ∀ xs ds ds', gsCons g h xs ds = some ds' → xs.length = n + 1 := fun xs ds ds' q => by
  cases xs with
  | nil => cases q
  | cons x r =>
    have q' : (g x ds).bind (h r) = some ds' := q
    cases e : g x ds with
    | none => rw [e] at q'; cases q'
    | some ds1 => rw [e] at q'; rw [List.length_cons, k r ds1 ds' q']
/-- target = e, any target -/
def sAsg (f : Ds → Out D) (g : D → Ds → Option Ds) (ds : Ds) : SO := (f ds).then fun d ds1 => nxO (g d ds1)
theorem d_asg {tg e : Expr} {f : Ds → Out D} {is : List Nat} {g : D → Ds → Option Ds} (he : DPE F W X e f) (hg : DPG F X tg is g) (hs : swapsWithSole [tg] e pos.line X.env = pure false := by rfl) (hw : swappedStores [tg] e X.env = pure none := by rfl)
    (h1 : (assignEach [tg] X.env).map (·.2) = [assign tg X.env] := by rfl) : DPS F W X (.Assign [tg] e pos) (sAsg f g) :=
  ps_of (ps_asg he hg hs hw h1) fun Dn σ H ⟨S, ds, M, q⟩ => ⟨S, ds, M, (GPost.then q).imp fun d ds1 S1 H1 e1 M1 q1 v r => by
    cases h : g d ds1 with
    | none => rw [h] at q1; exact q1.elim
    | some ds2 => rw [h] at q1; exact ⟨S1, ds1, d, ds2, M1, r, h, fun σ' _ M' => q1 σ' H1 S1 (Same.refl _) M'⟩⟩
/-! ### what is walked -/
structure Yields (E : DE) (S : Hp) (J : It) (xs : List D) : Prop where
  go : ∀ S' H', Same S S' → Same S' H' → ∀ i, i < xs.length → J.go i H'
  yld : ∀ S' H', Same S S' → Same S' H' → ∀ i d, xs[i]? = some d → ∀ x H'', J.yld i H' x H'' → ∃ S'', Ext S' H' S'' H'' ∧ Rep E S'' d x
  stop : ∀ S' H', Same S S' → Same S' H' → J.stop xs.length H'
def tI (F : Fc) (W : WX) (f : Ds → Out (List D)) : TI := fun σ H R => ∃ S ds, Match F S ds σ H ∧ GPost F S σ W (f ds) fun xs _ S' H' => ∀ J, Yields F.E S' J xs → R J H'
def DPI (F : Fc) (W : WX) (X : Cx) (tg iter : Expr) (f : Ds → Out (List D)) : Prop := PI X tg iter (tI F W f)
theorem pi_of {tg iter : Expr} {t t' : TI} (h : PI X tg iter t) (g : ∀ σ H R, t' σ H R → t σ H R) : PI X tg iter t' := ⟨fun pins s σ H R I q => h.run pins s σ H R I (g σ H R q)⟩
theorem yields_list {E : DE} {S : Hp} {a : Addr} {vs : List V} {xs : List D} (h : SqL E.K S a vs) (r : Reps E S xs vs) : Yields E S (Itl E.K a) xs where
  go := fun S' H' e e' i hi => by
    have hv : i < vs.length := by rw [← r.length]; exact hi
    exact ⟨vs, vs[i], (e.trans e').seq h, List.getElem?_eq_getElem hv⟩
  yld := fun S' H' e e' i d hd x H'' ⟨hH, hx⟩ => by
    subst hH
    obtain ⟨v, hv, rv⟩ := r.get hd
    have z := hx vs ((e.trans e').seq h)
    rw [hv] at z; cases z
    exact ⟨S', Ext.refl _ _, rv.mono e⟩
  stop := fun S' H' e e' => ⟨vs, (e.trans e').seq h, by rw [r.length]; exact Nat.le_refl _⟩
theorem yields_tup {E : DE} {S : Hp} {a : Addr} {vs : List V} {xs : List D} (h : SqT E.K S a vs) (r : Reps E S xs vs) : Yields E S (Itt E.K a) xs where
  go := fun S' H' e e' i hi => by
    have hv : i < vs.length := by rw [← r.length]; exact hi
    exact ⟨vs, vs[i], sqT_mono (e.trans e') h, List.getElem?_eq_getElem hv⟩
  yld := fun S' H' e e' i d hd x H'' ⟨hH, hx⟩ => by
    subst hH
    obtain ⟨v, hv, rv⟩ := r.get hd
    have z := hx vs (sqT_mono (e.trans e') h)
    rw [hv] at z; cases z
    exact ⟨S', Ext.refl _ _, rv.mono e⟩
  stop := fun S' H' e e' => ⟨vs, sqT_mono (e.trans e') h, by rw [r.length]; exact Nat.le_refl _⟩
def rangeD (lo : Int) (n : Nat) : List D := (List.range n).map fun k => D.int (lo + (k : Nat))
theorem yields_range {E : DE} {S : Hp} {lo : Int} {n : Nat} : Yields E S (Itr lo n) (rangeD lo n) where
  go := fun S' H' e e' i hi => by
    show i < n
    simpa [rangeD] using hi
  yld := fun S' H' e e' i d hd x H'' ⟨hH, hx⟩ => by
    subst hH; subst hx
    refine ⟨S', Ext.refl _ _, ?_⟩
    unfold rangeD at hd
    rw [List.getElem?_map] at hd
    cases q : (List.range n)[i]? with
    | none => rw [q] at hd; cases hd
    | some k =>
      rw [q] at hd
      cases hd
      obtain ⟨_, e1⟩ := List.getElem?_eq_some_iff.mp q
      rw [List.getElem_range] at e1
      subst e1
      rfl
  stop := fun S' H' e e' => by simp [rangeD]; exact Nat.le_refl _
theorem yields_str {E : DE} {S : Hp} {l : List Nat} : Yields E S (Its (SX.S l)) (l.map fun c => D.str [c]) where
  go := fun S' H' e e' i hi => by
    show i < (SX.S l).cps.size
    simpa using hi
  yld := fun S' H' e e' i d hd x H'' ⟨hH, c, hc, hx⟩ => by
    subst hH; subst hx
    refine ⟨S', Ext.refl _ _, ?_⟩
    rw [List.getElem?_map] at hd
    have hc' : l[i]? = some c := by simpa [SX.S] using hc
    rw [hc'] at hd
    cases hd
    rfl
  stop := fun S' H' e e' => by
    show (SX.S l).cps.size ≤ _
    simp
def seqD (d : D) : Option (List D) := match d with
  | .lst xs => some xs
  | .tup xs => some xs
  | _ => none
/-- the items of a list -/
def iLst (f : Ds → Out D) (ds : Ds) : Out (List D) := (f ds).bind fun d ds1 => match d with
  | .lst xs => .ok xs ds1
  | _ => .no
def iTupD (f : Ds → Out D) (ds : Ds) : Out (List D) := (f ds).bind fun d ds1 => match d with
  | .tup xs => .ok xs ds1
  | _ => .no
def iStr (f : Ds → Out D) (ds : Ds) : Out (List D) := (f ds).bind fun d ds1 => match d with
  | .str l => .ok (l.map fun c => D.str [c]) ds1
  | _ => .no
def iRange1 (f : Ds → Out (List D)) (ds : Ds) : Out (List D) := (f ds).bind fun xs ds1 => match xs with
  | [.int n] => if -(2 ^ 62) ≤ n ∧ n < 2 ^ 62 then .ok (rangeD 0 n.toNat) ds1 else .no
  | _ => .no
def iRange2 (f : Ds → Out (List D)) (ds : Ds) : Out (List D) := (f ds).bind fun xs ds1 => match xs with
  | [.int m, .int n] => if -(2 ^ 62) ≤ m ∧ m < 2 ^ 62 ∧ -(2 ^ 62) ≤ n ∧ n < 2 ^ 62 then .ok (rangeD m (n - m).toNat) ds1 else .no
  | _ => .no
variable {tg : Expr} {e : Expr}
theorem d_ilst {f : Ds → Out D} (hK : X.K = F.E.K) (h : DPE F W X e f) : DPI F W X tg e (iLst f) :=
  pi_of (pi_list h) fun σ H R ⟨S, ds, M, q⟩ => ⟨S, ds, M, (GPost.bind q).imp fun d ds1 S1 H1 e1 M1 q1 v r => by
    cases d with
    | lst xs =>
      obtain ⟨p, vs, rfl, h1, h2⟩ := r
      rw [hK]
      exact ⟨p, rfl, ⟨vs, M1.sub.seq (SqL.of h1)⟩, q1 H1 S1 (Same.refl _) M1 _ (yields_list (SqL.of h1) h2)⟩
    | _ => exact q1.elim⟩
theorem d_itup {f : Ds → Out D} (hK : X.K = F.E.K) (h : DPE F W X e f) : DPI F W X tg e (iTupD f) :=
  pi_of (pi_tup h) fun σ H R ⟨S, ds, M, q⟩ => ⟨S, ds, M, (GPost.bind q).imp fun d ds1 S1 H1 e1 M1 q1 v r => by
    cases d with
    | tup xs =>
      obtain ⟨p, vs, rfl, h1, h2⟩ := r
      rw [hK]
      exact ⟨p, rfl, ⟨vs, sqT_mono M1.sub h1⟩, q1 H1 S1 (Same.refl _) M1 _ (yields_tup h1 h2)⟩
    | _ => exact q1.elim⟩
theorem d_istr {f : Ds → Out D} (h : DPE F W X e f) : DPI F W X tg e (iStr f) :=
  pi_of (pi_str h) fun σ H R ⟨S, ds, M, q⟩ => ⟨S, ds, M, (GPost.bind q).imp fun d ds1 S1 H1 e1 M1 q1 v r => by
    cases d with
    | str l => exact ⟨SX.S l, r, q1 H1 S1 (Same.refl _) M1 _ yields_str⟩
    | _ => exact q1.elim⟩
theorem GPost.ne {α : Type} {S : Hp} {σ : St} {o : Out α} {P : α → Ds → Hp → Hp → Prop} (h : GPost F S σ W o P) : o ≠ .no := fun e => by rw [e] at h; exact h
theorem two_ints {xs : List D} {α : Type} {f : Int → Int → Out α} (h : (match xs with | [.int m, .int n] => f m n | _ => Out.no) ≠ Out.no) : ∃ m n, xs = [.int m, .int n] := by
  split at h
  · exact ⟨_, _, rfl⟩
  · exact absurd rfl h
theorem one_int {xs : List D} {α : Type} {f : Int → Out α} (h : (match xs with | [.int n] => f n | _ => Out.no) ≠ Out.no) : ∃ n, xs = [.int n] := by
  split at h
  · exact ⟨_, rfl⟩
  · exact absurd rfl h
theorem d_irange1 {a : Expr} {f : Ds → Out (List D)} (hg : Gl X "range") (hm : X.mg "range" = none) (h : DPA F W X [a] f) (hs : starEach [a] X.env = [(false, eval a X.env)] := by rfl) : DPI F W X tg (.Call (.Name "range" p2) [a] [] pos) (iRange1 f) :=
  pi_of (pi_range1 hg hm h hs) fun σ H R ⟨S, ds, M, q⟩ => ⟨S, ds, M, (GPost.bind q).imp fun xs ds1 S1 H1 e1 M1 q1 vs rs => by
    obtain ⟨n, rfl⟩ := one_int q1.ne
    by_cases hn : -(2 ^ 62) ≤ n ∧ n < 2 ^ 62
    · dsimp only at q1
      rw [if_pos hn] at q1
      obtain ⟨v, w, rfl, r1, r2⟩ := rs
      cases r2; cases r1
      exact ⟨n, rfl, hn.1, hn.2, q1 H1 S1 (Same.refl _) M1 _ yields_range⟩
    · dsimp only at q1
      rw [if_neg hn] at q1; exact q1.elim⟩
theorem d_irange2 {a b : Expr} {f : Ds → Out (List D)} (hg : Gl X "range") (hm : X.mg "range" = none) (h : DPA F W X [a, b] f) (hs : starEach [a, b] X.env = [(false, eval a X.env), (false, eval b X.env)] := by rfl) (hs2 : starEach [b] X.env = [(false, eval b X.env)] := by rfl) :
    DPI F W X tg (.Call (.Name "range" p2) [a, b] [] pos) (iRange2 f) :=
  pi_of (pi_range2 hg hm h hs hs2) fun σ H R ⟨S, ds, M, q⟩ => ⟨S, ds, M, (GPost.bind q).imp fun xs ds1 S1 H1 e1 M1 q1 vs rs => by
    obtain ⟨m, n, rfl⟩ := two_ints q1.ne
    by_cases hn : -(2 ^ 62) ≤ m ∧ m < 2 ^ 62 ∧ -(2 ^ 62) ≤ n ∧ n < 2 ^ 62
    · dsimp only at q1
      rw [if_pos hn] at q1
      obtain ⟨v, w, rfl, r1, r2⟩ := rs
      obtain ⟨v2, w2, rfl, r3, r4⟩ := r2
      cases r4; cases r1; cases r3
      exact ⟨m, n, rfl, hn, q1 H1 S1 (Same.refl _) M1 _ yields_range⟩
    · dsimp only at q1
      rw [if_neg hn] at q1; exact q1.elim⟩
/-! ### for -/
def loopD (g : D → Ds → Option Ds) (fb : Ds → SO) : List D → Ds → SO
  | [], ds => .nx ds
  | x :: r, ds => match g x ds with
    | none => .no
    | some ds1 => match fb ds1 with
      | .nx ds2 => loopD g fb r ds2
      | .ct ds2 => loopD g fb r ds2
      | .bk ds2 => .nx ds2
      | .rt d ds2 => .rt d ds2
      | .ex x ds2 => .ex x ds2
      | .no => .no
def sFor (fi : Ds → Out (List D)) (g : D → Ds → Option Ds) (fb : Ds → SO) (ds : Ds) : SO := (fi ds).then fun xs ds1 => loopD g fb xs ds1
theorem d_for {iter : Expr} {body : List Stmt} {is : List Nat} {fi : Ds → Out (List D)} {g : D → Ds → Option Ds} {fb : Ds → SO} (hp : PassesOwn (model X.prog X.w) X.A X.env X.xe) (hc : X.calm = true) (hi : DPI F W X tg iter fi) (hg : DPG F X tg is g) (hb : DPSs F W X body fb)
    (hs : ∀ x, foldedSetIterable iter X.env x = pure x := by intro _; rfl) : DPS F W X (.For tg iter body [] pos) (sFor fi g fb) :=
  ps_of (ps_for hp hc hi hg hb hs) fun Dn σ H ⟨S, ds, M, q⟩ => ⟨S, ds, M, (GPost.then q).imp fun xs ds1 S1 H1 e1 M1 q1 J Y => by
    refine ⟨fun i m σ H => i ≤ xs.length ∧ m = xs.length - i ∧ ∃ S ds, Same S1 S ∧ Match F S ds σ H ∧ SPost F W S (loopD g fb (xs.drop i) ds) Dn, ⟨xs.length, Nat.zero_le _, rfl, S1, ds1, Same.refl _, M1, q1⟩, ?_⟩
    rintro i m σ' H' ⟨hi, rfl, S2, ds2, e2, M2, q2⟩
    by_cases hl : i < xs.length
    · refine .inr ⟨Y.go S2 H' e2 M2.sub i hl, fun σ3 H3 => i + 1 ≤ xs.length ∧ ∃ S ds, Same S1 S ∧ Match F S ds σ3 H3 ∧ SPost F W S (loopD g fb (xs.drop (i + 1)) ds) Dn, fun σ3 H3 ⟨h1, h2⟩ => ⟨xs.length - (i + 1), by omega, h1, rfl, h2⟩, fun x H3 y => ?_⟩
      have hx : xs[i]? = some xs[i] := List.getElem?_eq_getElem hl
      obtain ⟨S3, x3, r3⟩ := Y.yld S2 H' e2 M2.sub i _ hx x H3 y
      have M3 := M2.ext x3
      rw [List.drop_eq_getElem_cons hl] at q2
      unfold loopD at q2
      cases hgx : g xs[i] ds2 with
      | none => rw [hgx] at q2; exact q2.elim
      | some ds3 =>
        rw [hgx] at q2
        dsimp only at q2
        refine ⟨S3, ds2, _, ds3, M3, r3, hgx, fun σ4 _ M4 => ⟨S3, ds3, M4, ?_⟩⟩
        have e3 : Same S1 S3 := e2.trans x3.s
        cases hb : fb ds3 with
        | nx ds4 => rw [hb] at q2; exact fun σ5 H5 S5 e5 M5 => ⟨hl, S5, ds4, e3.trans e5, M5, q2.up (x3.s.trans e5)⟩
        | ct ds4 => rw [hb] at q2; exact fun σ5 H5 S5 e5 M5 => ⟨hl, S5, ds4, e3.trans e5, M5, q2.up (x3.s.trans e5)⟩
        | bk ds4 => rw [hb] at q2; exact fun σ5 H5 S5 e5 M5 => q2 σ5 H5 S5 (x3.s.trans e5) M5
        | rt d ds4 => rw [hb] at q2; exact fun v σ5 H5 S5 e5 M5 r5 => q2 v σ5 H5 S5 (x3.s.trans e5) M5 r5
        | ex x ds4 => rw [hb] at q2; exact fun cl dx σ5 H5 S5 e5 M5 r5 => q2 cl dx σ5 H5 S5 (x3.s.trans e5) M5 r5
        | no => rw [hb] at q2; exact q2.elim
    · have hn : i = xs.length := by omega
      subst hn
      refine .inl ⟨Y.stop S2 H' e2 M2.sub, ?_⟩
      rw [List.drop_length] at q2
      exact q2 σ' H' S2 (Same.refl _) M2⟩
/-! ### while -/
def whileD (t : Ds → Out Bool) (fb : Ds → SO) : Nat → Ds → SO
  | 0, _ => .no
  | n + 1, ds => (t ds).then fun b ds1 => if b then match fb ds1 with
      | .nx ds2 => whileD t fb n ds2
      | .ct ds2 => whileD t fb n ds2
      | .bk ds2 => .nx ds2
      | .rt d ds2 => .rt d ds2
      | .ex x ds2 => .ex x ds2
      | .no => .no
    else .nx ds1
theorem d_while {c : Expr} {body : List Stmt} {t : Ds → Out Bool} {fb : Ds → SO} (n : Nat) (hp : PassesOwn (model X.prog X.w) X.A X.env X.xe) (hc : DPT F W X c t) (hb : DPSs F W X body fb) : DPS F W X (.While c body [] pos) (whileD t fb n) :=
  ps_of (ps_while hp hc hb) fun Dn σ H ⟨S, ds, M, q⟩ => by
    refine ⟨fun m σ H => ∃ S ds, Match F S ds σ H ∧ SPost F W S (whileD t fb m ds) Dn, ⟨n, S, ds, M, q⟩, ?_⟩
    rintro m σ1 H1 ⟨S1, ds1, M1, q1⟩
    cases m with
    | zero => exact q1.elim
    | succ m =>
      refine ⟨S1, ds1, M1, (GPost.then q1).imp fun b ds2 S2 H2 e2 M2 q2 => ?_⟩
      cases b with
      | false => exact q2 σ1 H2 S2 (Same.refl _) M2
      | true =>
        refine ⟨fun σ3 H3 => ∃ S ds, Match F S ds σ3 H3 ∧ SPost F W S (whileD t fb m ds) Dn, fun σ3 H3 h => ⟨m, Nat.lt_succ_self _, h⟩, S2, ds2, M2, ?_⟩
        rw [if_pos rfl] at q2
        cases hb : fb ds2 with
        | nx ds4 => rw [hb] at q2; exact fun σ5 H5 S5 e5 M5 => ⟨S5, ds4, M5, q2.up e5⟩
        | ct ds4 => rw [hb] at q2; exact fun σ5 H5 S5 e5 M5 => ⟨S5, ds4, M5, q2.up e5⟩
        | bk ds4 => rw [hb] at q2; exact fun σ5 H5 S5 e5 M5 => q2 σ5 H5 S5 e5 M5
        | rt d ds4 => rw [hb] at q2; exact fun v σ5 H5 S5 e5 M5 r5 => q2 v σ5 H5 S5 e5 M5 r5
        | ex x ds4 => rw [hb] at q2; exact fun cl dx σ5 H5 S5 e5 M5 r5 => q2 cl dx σ5 H5 S5 e5 M5 r5
        | no => rw [hb] at q2; exact q2.elim
end
end DV

set_option Elab.async false
set_option linter.all false
set_option maxRecDepth 100000
set_option maxHeartbeats 1000000
/-! DV4: list comprehensions, calls of defs, a def by its body. -/
namespace DV
open PySem PySem.Spec PyProof.Rows L2
section
variable {F : Fc} {W : WX} {X : Cx} {pos p2 : Pos}
/-! ### comprehensions -/
abbrev W0 : WX := fun _ _ _ _ => False
def wipeD : List Nat → Ds → Ds
  | [], ds => ds
  | i :: r, ds => (wipeD r ds).set i .no
def restD : List Nat → Ds → Ds → Ds
  | [], _, ds => ds
  | i :: r, d0, ds => restD r d0 (ds.set i (d0[i]?.getD .no))
/-- no own list stands in these slots -/
def noOwn (vs : List Nat) (ds : Ds) : Bool := vs.all fun i => match ds[i]? with
  | some (.ow _ _) => false
  | _ => true
def compD (vs : List Nat) (g : D → Ds → Option Ds) (t : Ds → Out Bool) (f : Ds → Out D) : List D → Ds → Out (List D)
  | [], ds => .ok [] ds
  | x :: r, ds => match g x ds with
    | none => .no
    | some ds1 => (t ds1).bind fun b ds2 => if b then (f ds2).bind fun d ds3 => (compD vs g t f r (wipeD vs ds3)).bind fun ys ds4 => .ok (d :: ys) ds4
      else compD vs g t f r (wipeD vs ds2)
def eLc (vs : List Nat) (fi : Ds → Out (List D)) (g : D → Ds → Option Ds) (t : Ds → Out Bool) (f : Ds → Out D) (ds : Ds) : Out D :=
  (fi ds).bind fun xs ds1 => if noOwn vs ds1 = true ∧ xs.length ≤ 1000000 then match compD vs g t f xs (wipeD vs ds1) with
    | .ok ys ds2 => .ok (.lst ys) (restD vs ds1 ds2)
    | _ => .no
  else .no
def tYesD (ds : Ds) : Out Bool := .ok true ds
theorem wipe_match {S H : Hp} {σ : St} {ds : Ds} (M : Match F S ds σ H) : ∀ {vs : List Nat}, (∀ i ∈ vs, ∀ d, ds[i]? ≠ some (.ow true d)) → Match F S (wipeD vs ds) (wipe σ vs) H
  | [], _ => M
  | i :: r, h => by
    refine (wipe_match M (vs := r) fun j hj => h j (List.mem_cons_of_mem _ hj)).wipe fun d e => ?_
    have z : ∀ (l : List Nat), (wipeD l ds)[i]? = some (.ow true d) → ds[i]? = some (.ow true d) := fun l => by
      induction l with
      | nil => exact id
      | cons a l ih =>
        intro q
        unfold wipeD at q
        by_cases ha : a = i
        · subst ha
          by_cases hl : a < (wipeD l ds).length
          · rw [List.getElem?_set_self hl] at q; cases q
          · rw [List.getElem?_eq_none (by simpa using hl)] at q; cases q
        · rw [List.getElem?_set_ne ha] at q
          exact ih q
    exact h i List.mem_cons_self d (z r e)
theorem Match.unow {S H : Hp} {σ : St} {ds : Ds} (M : Match F S ds σ H) {i : Nat} (h : σ[i]? = some none) : ∀ b d, ds[i]? ≠ some (.ow b d) := fun b d e => by
  obtain ⟨p, h1, _⟩ := M.ow i b d e
  rw [h] at h1; cases h1
/-- a slot of which nothing was known gets its old content back -/
theorem Match.reset {S H : Hp} {τ : St} {ds : Ds} {i : Nat} {c : Cl} (M : Match F S ds (τ.set i none) H) (hc : c = .no ∨ ∃ e w, c = .sh e ∧ τ[i]? = some (some w) ∧ Rep F.E S e w) : Match F S (ds.set i c) τ H := by
  by_cases hi : i < τ.length
  · have hl : ds.length = τ.length := by rw [M.len, List.length_set]
    have hd : i < ds.length := by omega
    have un := M.unow (i := i) (by rw [List.getElem?_set_self hi])
    have e1 : τ = (τ.set i none).set i (τ[i]) := by rw [List.set_set]; simp
    rcases hc with rfl | ⟨e, w, rfl, hw, r⟩
    · rw [e1]
      exact M.wipe fun d => un true d
    · have hw' : τ[i] = some w := by
        have := List.getElem?_eq_getElem hi
        rw [hw] at this
        exact (Option.some.inj this).symm
      rw [e1, hw']
      exact M.set (fun d => un true d) r
  · rw [List.set_eq_of_length_le (by omega)] at M
    have hl : ¬ i < ds.length := by rw [M.len]; exact hi
    rw [List.set_eq_of_length_le (by omega)]
    exact M
theorem rest_match {S0 H0 : Hp} {σ0 : St} {d0 : Ds} (M0 : Match F S0 d0 σ0 H0) : ∀ {vs : List Nat} {S H : Hp} {ds : Ds}, vs.Nodup → noOwn vs d0 = true → Same S0 S → Match F S ds (wipe σ0 vs) H → Match F S (restD vs d0 ds) σ0 H
  | [], _, _, _, _, _, _, M => M
  | i :: r, S, H, ds, nd, no, e, M => by
    unfold restD
    have nd' := List.nodup_cons.mp nd
    unfold noOwn at no
    rw [List.all_cons, Bool.and_eq_true] at no
    refine rest_match M0 nd'.2 (by unfold noOwn; exact no.2) e (M.reset ?_)
    cases q : d0[i]? with
    | none => exact .inl rfl
    | some c =>
      cases c with
      | no => exact .inl rfl
      | sh d =>
        obtain ⟨w, hw, rw'⟩ := M0.sh i d q
        exact .inr ⟨d, w, rfl, by rw [wipe_out nd'.1]; exact hw, rw'.mono e⟩
      | ow b d => rw [q] at no; exact absurd no.1 (by simp)
theorem rest_own : ∀ {vs : List Nat} {d0 ds : Ds} {j : Nat} {b : Bool} {e : D}, noOwn vs d0 = true → (restD vs d0 ds)[j]? = some (.ow b e) → j ∉ vs ∧ ds[j]? = some (.ow b e)
  | [], _, _, _, _, _, _, h => ⟨by simp, h⟩
  | i :: r, d0, ds, j, b, e, no, h => by
    unfold noOwn at no
    rw [List.all_cons, Bool.and_eq_true] at no
    unfold restD at h
    obtain ⟨h1, h2⟩ := rest_own (vs := r) (by unfold noOwn; exact no.2) h
    by_cases hj : i = j
    · subst hj
      by_cases hl : i < ds.length
      · rw [List.getElem?_set_self hl] at h2
        cases q : d0[i]? with
        | none => rw [q] at h2; cases h2
        | some c =>
          rw [q] at h2 no
          cases h2
          exact absurd no.1 (by simp)
      · rw [List.getElem?_eq_none (by simpa using hl)] at h2; cases h2
    · rw [List.getElem?_set_ne hj] at h2
      exact ⟨by simp [h1, Ne.symm hj], h2⟩
/-- the judgements within a block: whatever is pinned -/
def tDx (F : Fc) (f : Ds → Out D) : TE := fun σ H Q => ∃ R, tD { F with R := R } W0 f σ H Q
def tTx (F : Fc) (f : Ds → Out Bool) : TT := fun σ H Q => ∃ R, tT { F with R := R } W0 f σ H Q
def tGx (F : Fc) (is : List Nat) (g : D → Ds → Option Ds) : TG := fun v σ H Q => ∃ R, tG { F with R := R } is g v σ H Q
theorem tLc_of {vs is : List Nat} {fi : Ds → Out (List D)} {g : D → Ds → Option Ds} {t : Ds → Out Bool} {f : Ds → Out D} (nd : vs.Nodup) (hv : ∀ i ∈ is, i ∈ vs) :
    ∀ σ H Q, tN F W (eLc vs fi g t f) σ H Q → tLc (tI F W fi) (tGx F is g) (tTx F t) (tDx F f) vs σ H Q := fun σ H Q ⟨S, ds, M, q⟩ => by
  refine ⟨S, ds, M, (GPost.bind q).imp fun xs ds1 S1 H1 e1 M1 q1 J Y Dl nDl => ?_⟩
  by_cases hc : noOwn vs ds1 = true ∧ xs.length ≤ 1000000
  · rw [if_pos hc] at q1
    obtain ⟨hno, hlen⟩ := hc
    cases ec : compD vs g t f xs (wipeD vs ds1) with
    | no => rw [ec] at q1; exact q1.elim
    | ex x d2 => rw [ec] at q1; exact q1.elim
    | ok ysAll dsF =>
      rw [ec] at q1
      dsimp only at q1
      have x0 := Ext.newH (o := .lst []) M1.sub nDl
      obtain ⟨n1, n2, n3, n4⟩ := M1.newOwn nDl
      have hnt : ∀ i ∈ vs, ∀ b d, ds1[i]? ≠ some (.ow b d) := fun i hi b d e => by
        have z := List.all_eq_true.mp hno i hi
        rw [e] at z; cases z
      -- no in-out slot is among vs
      have hio : ∀ i ∈ vs, ∀ p, (i, p) ∉ F.iom := fun i hi p hp => by
        obtain ⟨d, h1, _⟩ := M1.io _ hp
        exact hnt i hi _ _ h1
      have Mw : Match F S1 (wipeD vs ds1) (wipe σ vs) (upd H1 Dl (.lst [])) := wipe_match (M1.ext x0) (fun i hi d => hnt i hi true d)
      have wipe_own : ∀ (l : List Nat) (d : Ds) (j : Nat) b e, (wipeD l d)[j]? = some (.ow b e) → d[j]? = some (.ow b e) := fun l d j b e => by
        induction l with
        | nil => exact id
        | cons a l ih =>
          intro q
          unfold wipeD at q
          by_cases ha : a = j
          · subst ha
            by_cases hl : a < (wipeD l d).length
            · rw [List.getElem?_set_self hl] at q; cases q
            · rw [List.getElem?_eq_none (by simpa using hl)] at q; cases q
          · rw [List.getElem?_set_ne ha] at q
            exact ih q
      have nu0 : ∀ (j : Nat) b e, (wipeD vs ds1)[j]? = some (.ow b e) → (wipe σ vs)[j]? ≠ some (some (.ref Dl)) := fun j b e h w => n4 j b e (wipe_own _ _ _ _ _ h) (wipe_some w).1
      refine ⟨fun i m H => i ≤ xs.length ∧ m = xs.length - i ∧ ∃ S ds acc ys vacc, Same S1 S ∧ Match F S ds (wipe σ vs) H ∧ compD vs g t f (xs.drop i) ds = .ok ys dsF ∧ acc ++ ys = ysAll ∧ acc.length ≤ i ∧ H Dl = some (.lst vacc) ∧ Reps F.E S acc vacc ∧ S Dl = none ∧ ∀ (j : Nat) b e, ds[j]? = some (.ow b e) → (wipe σ vs)[j]? ≠ some (some (.ref Dl)),
        ⟨xs.length, Nat.zero_le _, rfl, S1, wipeD vs ds1, [], ysAll, [], Same.refl _, Mw, ec, rfl, Nat.le_refl _, upd_same, .nil, n1, nu0⟩, ?_⟩
      rintro i m H2 ⟨hi, rfl, S2, ds2, acc, ys, vacc, e2, M2, c2, ea, hacc, hD, rD, nD, nu2⟩
      by_cases hl : i < xs.length
      · have hx : xs[i]? = some xs[i] := List.getElem?_eq_getElem hl
        rw [List.drop_eq_getElem_cons hl] at c2
        unfold compD at c2
        refine .inr ⟨Y.go S2 H2 e2 M2.sub i hl, fun H3 => i + 1 ≤ xs.length ∧ ∃ S ds acc ys vacc, Same S1 S ∧ Match F S ds (wipe σ vs) H3 ∧ compD vs g t f (xs.drop (i + 1)) ds = .ok ys dsF ∧ acc ++ ys = ysAll ∧ acc.length ≤ i + 1 ∧ H3 Dl = some (.lst vacc) ∧ Reps F.E S acc vacc ∧ S Dl = none ∧ ∀ (j : Nat) b e, ds[j]? = some (.ow b e) → (wipe σ vs)[j]? ≠ some (some (.ref Dl)),
          fun H3 ⟨h1, h2⟩ => ⟨xs.length - (i + 1), by omega, h1, rfl, h2⟩, fun x H3 y => ?_⟩
        obtain ⟨S3, x3, r3⟩ := Y.yld S2 H2 e2 M2.sub i _ hx x H3 y
        have M3 := M2.ext x3
        have hD3 := x3.h _ _ hD
        have nD3 : S3 Dl = none := by
          cases q : S3 Dl with
          | none => rfl
          | some o =>
            rcases x3.n _ _ q with z | z
            · rw [nD] at z; cases z
            · rw [hD] at z; cases z
        have M3' := M3.addPin hD3 (fun _ z => nomatch z) nD3 nu2
        -- a state behind the turn, back at the block's start
        have back : ∀ {S6 H6 : Hp} {ds6 : Ds} {σ4 : St}, Off vs (wipe σ vs) σ4 → Match { F with R := upd F.R Dl (.lst vacc) } S6 ds6 σ4 H6 → Match F S6 (wipeD vs ds6) (wipe σ vs) H6 ∧ ∀ (j : Nat) b e, (wipeD vs ds6)[j]? = some (.ow b e) → (wipe σ vs)[j]? ≠ some (some (.ref Dl)) := fun {S6 H6 ds6 σ4} off M6 => by
          have ew : wipe σ4 vs = wipe σ vs := (wipe_eq off).trans (wipe_eq ⟨by rw [wipe_length], fun j n => wipe_out n⟩)
          obtain ⟨_, _, nu6⟩ := M6.pinned
          have M7 := wipe_match (M6.dropPin n3) (vs := vs) fun i hi d e => by
            obtain ⟨p, _, _, _, _, h5⟩ := M6.ow i true d e
            exact hio i hi p (h5 rfl)
          rw [ew] at M7
          refine ⟨M7, fun j b e h w => ?_⟩
          rw [← ew] at w
          exact nu6 j b e (wipe_own _ _ _ _ _ h) (wipe_some w).1
        cases hgx : g xs[i] ds2 with
        | none => rw [hgx] at c2; cases c2
        | some ds3 =>
          rw [hgx] at c2
          dsimp only at c2
          refine ⟨_, S3, ds2, _, ds3, M3', r3, hgx, fun σ4 off4 M4 => ?_⟩
          have off := off4.mono hv
          refine ⟨(wipe_eq off).trans (wipe_eq ⟨by rw [wipe_length], fun j n => wipe_out n⟩), ?_⟩
          refine ⟨_, S3, ds3, M4, ?_⟩
          cases ht : t ds3 with
          | no => rw [ht] at c2; cases c2
          | ex x d2 => rw [ht] at c2; cases c2
          | ok b ds5 =>
            rw [ht] at c2
            intro H5 S5 e5 M5
            cases b with
            | false =>
              obtain ⟨M7, nu7⟩ := back off M5
              obtain ⟨p1, p2, _⟩ := M5.pinned
              exact ⟨hl, S5, _, acc, ys, vacc, e2.trans (x3.s.trans e5), M7, c2, ea, by omega, p1, (rD.mono x3.s).mono e5, p2, nu7⟩
            | true =>
              have c3 : (f ds5).bind (fun d ds6 => (compD vs g t f (xs.drop (i + 1)) (wipeD vs ds6)).bind fun ys ds4 => .ok (d :: ys) ds4) = .ok ys dsF := c2
              refine ⟨_, S5, ds5, M5, ?_⟩
              cases hf : f ds5 with
              | no => rw [hf] at c3; cases c3
              | ex x d2 => rw [hf] at c3; cases c3
              | ok d ds6 =>
                rw [hf] at c3
                intro H6 S6 e6 M6 v rv
                obtain ⟨M7, nu7⟩ := back off M6
                obtain ⟨p1, p2, _⟩ := M6.pinned
                have c4 : (compD vs g t f (xs.drop (i + 1)) (wipeD vs ds6)).bind (fun ys ds4 => Out.ok (d :: ys) ds4) = .ok ys dsF := c3
                cases hk : compD vs g t f (xs.drop (i + 1)) (wipeD vs ds6) with
                | no => rw [hk] at c4; cases c4
                | ex x d2 => rw [hk] at c4; cases c4
                | ok ys' ds8 =>
                  rw [hk] at c4
                  cases c4
                  have hvl : vacc.length = acc.length := (rD.length).symm
                  have M8 := M7.touch (ws := vacc ++ [v]) p1 p2 n2 n3 nu7
                  exact ⟨vacc, p1, Nat.lt_of_le_of_lt (by rw [hvl]; exact hacc) (Nat.lt_of_lt_of_le hl (sz_of hlen)), hl, S6, _, acc ++ [d], ys', vacc ++ [v], e2.trans (x3.s.trans (e5.trans e6)), M8, hk, by rw [List.append_assoc]; exact ea, by simp; omega, upd_same, ((rD.mono x3.s).mono (e5.trans e6)).append (.cons rv .nil), p2, nu7⟩
      · have hn : i = xs.length := by omega
        subst hn
        rw [List.drop_length] at c2
        cases c2
        refine .inl ⟨Y.stop S2 H2 e2 M2.sub, ?_⟩
        rw [List.append_nil] at ea
        subst ea
        have M3 := rest_match M1 nd hno e2 M2
        refine q1 H2 S2 e2 M3 Dl nD n2 n3 (fun j b e h w => ?_) ⟨vacc, hD, rD⟩
        obtain ⟨h1, h2⟩ := rest_own hno h
        exact nu2 j b e h2 (by rw [wipe_out h1]; exact w)
  · rw [if_neg hc] at q1; exact q1.elim
def DPEx (F : Fc) (X : Cx) (e : Expr) (f : Ds → Out D) : Prop := ∀ R, DPE { F with R := R } W0 X e f
def DPTx (F : Fc) (X : Cx) (ifs : List Expr) (f : Ds → Out Bool) : Prop := ∀ R, PTs X ifs (tT { F with R := R } W0 f)
def DPGx (F : Fc) (X : Cx) (tg : Expr) (is : List Nat) (g : D → Ds → Option Ds) : Prop := ∀ R, DPG { F with R := R } X tg is g
theorem d_tnil : DPTx F X [] tYesD := fun R => ⟨fun pins s σ H Q I ⟨S, ds, M, q⟩ => pts_nil.run pins s σ H Q I (q H S (Same.refl _) M)⟩
theorem d_tone {c : Expr} {t : Ds → Out Bool} (h : ∀ R, DPT { F with R := R } W0 X c t) : DPTx F X [c] t := fun R => pts_one (h R)
theorem d_lc {elt tg iter : Expr} {ifs : List Expr} {scope : Scope} {own : List (Str × Nat)} {is : List Nat} {fi : Ds → Out (List D)} {g : D → Ds → Option Ds} {t : Ds → Out Bool} {f : Ds → Out D} (hc : X.calm = true) (hN : X.N.Nodup) (hi : DPI F W X tg iter fi) (ok : BlkOk X.N X.env.scope scope own)
    (hg : ∀ (s : Shared) (H : Hp) (C : Addr) (cl : List (Str × Addr)) (fp : List Addr), DPGx F (X.blk s H scope (compEnvC scope cl C X.env) fp) tg is g)
    (ht : ∀ (s : Shared) (H : Hp) (C : Addr) (cl : List (Str × Addr)) (fp : List Addr), DPTx F (X.blk s H scope (compEnvC scope cl C X.env) fp) ifs t)
    (he : ∀ (s : Shared) (H : Hp) (C : Addr) (cl : List (Str × Addr)) (fp : List Addr), DPEx F (X.blk s H scope (compEnvC scope cl C X.env) fp) elt f)
    (nd : (own.map (·.2)).Nodup := by decide) (hv : ∀ i ∈ is, i ∈ own.map (·.2) := by decide) (hs : ∀ x, foldedSetIterable iter X.env x = pure x := by intro _; rfl) :
    DPN F W X (.ListComp elt [⟨tg, iter, ifs, 0⟩] scope pos) (eLc (own.map (·.2)) fi g t f) :=
  pe_of (pe_lc hc hN hi ok (fun s H C cl fp => ⟨fun pins s1 σ H1 v u Q I r ⟨R, q⟩ => (hg s H C cl fp R).run pins s1 σ H1 v u Q I r q⟩) (fun s H C cl fp => ⟨fun pins s1 σ H1 Q I ⟨R, q⟩ => (ht s H C cl fp R).run pins s1 σ H1 Q I q⟩)
    (fun s H C cl fp => ⟨fun pins s1 σ H1 Q I ⟨R, q⟩ => (he s H C cl fp R).run pins s1 σ H1 Q I q⟩) hs) (tLc_of nd hv)
/-- y = [..] on one line -/
theorem d_setLcN {i : Nat} {y : Str} {py : Pos} {elt tg iter : Expr} {ifs : List Expr} {scope : Scope} {own : List (Str × Nat)} {spos : Pos} {is : List Nat} {fi : Ds → Out (List D)} {g : D → Ds → Option Ds} {t : Ds → Out Bool} {f : Ds → Out D} (hc : X.calm = true) (hN : X.N.Nodup) (hy : X.N[i]? = some y) (hyl : X.env.scope.names.lookup y = some .local)
    (hsw : swapsWith (.ListComp elt [⟨tg, iter, ifs, 0⟩] scope pos) (some (.Name y py)) spos.line X.env = pure true) (hi : DPI F W X tg iter fi) (ok : BlkOk X.N X.env.scope scope own)
    (hg : ∀ (s : Shared) (H : Hp) (C : Addr) (cl : List (Str × Addr)) (fp : List Addr), DPGx F (X.blk s H scope (compEnvC scope cl C X.env) fp) tg is g)
    (ht : ∀ (s : Shared) (H : Hp) (C : Addr) (cl : List (Str × Addr)) (fp : List Addr), DPTx F (X.blk s H scope (compEnvC scope cl C X.env) fp) ifs t)
    (he : ∀ (s : Shared) (H : Hp) (C : Addr) (cl : List (Str × Addr)) (fp : List Addr), DPEx F (X.blk s H scope (compEnvC scope cl C X.env) fp) elt f)
    (nd : (own.map (·.2)).Nodup := by decide) (hv : ∀ i ∈ is, i ∈ own.map (·.2) := by decide) (hs : ∀ x, foldedSetIterable iter X.env x = pure x := by intro _; rfl) :
    DPS F W X (.Assign [.Name y py] (.ListComp elt [⟨tg, iter, ifs, 0⟩] scope pos) spos) (sNew i (eLc (own.map (·.2)) fi g t f)) :=
  ps_of (ps_setLc hc hN hy hyl hsw hi ok (fun s H C cl fp => ⟨fun pins s1 σ H1 v u Q I r ⟨R, q⟩ => (hg s H C cl fp R).run pins s1 σ H1 v u Q I r q⟩) (fun s H C cl fp => ⟨fun pins s1 σ H1 Q I ⟨R, q⟩ => (ht s H C cl fp R).run pins s1 σ H1 Q I q⟩)
    (fun s H C cl fp => ⟨fun pins s1 σ H1 Q I ⟨R, q⟩ => (he s H C cl fp R).run pins s1 σ H1 Q I q⟩) hs) fun Dn σ H ⟨S, ds, M, q⟩ => tLc_of nd hv σ H _ ⟨S, ds, M, (GPost.then q).imp fun d ds1 S1 H1 e1 M1 q1 p np n0 nR nu r => by
    cases hio : ioFree ds1 i with
    | false => rw [hio] at q1; exact q1.elim
    | true => rw [hio] at q1; exact q1 _ H1 S1 (Same.refl _) (M1.setOwn (ioFree_ne hio) np n0 nR nu r)⟩
end
end DV

set_option Elab.async false
set_option linter.all false
set_option maxRecDepth 100000
set_option maxHeartbeats 1000000
/-! DV5: operations on plain data, one by one. -/
namespace DV
open PySem PySem.Spec PyProof.Rows L2

/-! ### equality -/
mutual
def toP : D → PyData
  | .non => .none
  | .bl b => .bool b
  | .int i => .int i
  | .str l => .str (SX.S l)
  | .lst xs => .list (toPs xs)
  | .tup xs => .tuple (toPs xs)
  | .dic _ _ => .dict []
  | .obj _ _ _ => .dict []
  | .raw _ => .dict []
  | .scr _ => .dict []
  | .xcp _ _ _ => .dict []
def toPs : List D → List PyData
  | [] => []
  | x :: r => toP x :: toPs r
end
/-! data of texts, numbers, lists and tuples, not too deep -/
mutual
def dok : D → Nat → Bool
  | .non, _ => true
  | .bl _, _ => true
  | .int _, _ => true
  | .str l, _ => l.all (· < 0x110000)
  | .lst xs, n + 1 => doks xs n
  | .tup xs, n + 1 => doks xs n
  | _, _ => false
def doks : List D → Nat → Bool
  | [], _ => true
  | x :: r, n => dok x n && doks r n
end
mutual
def deq : D → D → Bool
  | .non, .non => true
  | .bl a, .bl b => a == b
  | .bl a, .int j => (if a then 1 else 0) == j
  | .int i, .bl b => i == (if b then 1 else 0)
  | .int i, .int j => i == j
  | .str x, .str y => x == y
  | .lst xs, .lst ys => deqs xs ys
  | .tup xs, .tup ys => deqs xs ys
  | _, _ => false
def deqs : List D → List D → Bool
  | [], [] => true
  | x :: xs, y :: ys => deq x y && deqs xs ys
  | _, _ => false
end
mutual
theorem dok_lay : ∀ {d : D} {n : Nat}, dok d n = true → (toP d).canLay0 = true ∧ (toP d).depth ≤ n
  | .non, _, _ => ⟨rfl, Nat.zero_le _⟩
  | .bl _, _, _ => ⟨rfl, Nat.zero_le _⟩
  | .int _, _, _ => ⟨rfl, Nat.zero_le _⟩
  | .str l, _, h => ⟨by
      unfold dok at h
      show PyData.strOk (SX.S l) = true
      unfold PyData.strOk
      rw [← Array.all_toList]
      simpa [SX.S] using h, Nat.zero_le _⟩
  | .lst xs, 0, h => by unfold dok at h; cases h
  | .tup xs, 0, h => by unfold dok at h; cases h
  | .lst xs, n + 1, h => by
    unfold dok at h
    obtain ⟨h1, h2⟩ := doks_lay h
    exact ⟨h1, Nat.succ_le_succ h2⟩
  | .tup xs, n + 1, h => by
    unfold dok at h
    obtain ⟨h1, h2⟩ := doks_lay h
    exact ⟨h1, Nat.succ_le_succ h2⟩
  | .dic _ _, n, h => by unfold dok at h; cases h
  | .obj _ _ _, n, h => by unfold dok at h; cases h
  | .raw _, n, h => by unfold dok at h; cases h
  | .scr _, n, h => by unfold dok at h; cases h
  | .xcp _ _ _, n, h => by unfold dok at h; cases h
theorem doks_lay : ∀ {ds : List D} {n : Nat}, doks ds n = true → PyData.canLayAll0 (toPs ds) = true ∧ PyData.depthAll (toPs ds) ≤ n
  | [], _, _ => ⟨rfl, Nat.zero_le _⟩
  | x :: r, n, h => by
    unfold doks at h
    rw [Bool.and_eq_true] at h
    obtain ⟨a1, a2⟩ := dok_lay h.1
    obtain ⟨b1, b2⟩ := doks_lay h.2
    refine ⟨?_, Nat.max_le.mpr ⟨a2, b2⟩⟩
    show ((toP x).canLay0 && PyData.canLayAll0 (toPs r)) = true
    rw [a1, b1]; rfl
end
theorem dok_shaped {d : D} (h : dok d 60 = true) : SeqAt.shaped (toP d) = true := by
  obtain ⟨h1, h2⟩ := dok_lay h
  unfold SeqAt.shaped
  rw [h1, decide_eq_true (Nat.le_trans h2 (by decide))]
  rfl
mutual
theorem eqv_deq : ∀ (x y : D), PyData.eqv (toP x) (toP y) = deq x y
  | .non, y => by cases y <;> rfl
  | .bl _, y => by cases y <;> rfl
  | .int _, y => by cases y <;> rfl
  | .str a, .str b => by
    show (SX.S a == SX.S b) = (a == b)
    exact SX.S_beq a b
  | .str _, .non => rfl | .str _, .bl _ => rfl | .str _, .int _ => rfl | .str _, .lst _ => rfl | .str _, .tup _ => rfl | .str _, .dic _ _ => rfl | .str _, .obj _ _ _ => rfl | .str _, .raw _ => rfl | .str _, .scr _ => rfl | .str _, .xcp _ _ _ => rfl
  | .lst xs, .lst ys => eqvs_deqs xs ys
  | .lst _, .non => rfl | .lst _, .bl _ => rfl | .lst _, .int _ => rfl | .lst _, .str _ => rfl | .lst _, .tup _ => rfl | .lst _, .dic _ _ => rfl | .lst _, .obj _ _ _ => rfl | .lst _, .raw _ => rfl | .lst _, .scr _ => rfl | .lst _, .xcp _ _ _ => rfl
  | .tup xs, .tup ys => eqvs_deqs xs ys
  | .tup _, .non => rfl | .tup _, .bl _ => rfl | .tup _, .int _ => rfl | .tup _, .str _ => rfl | .tup _, .lst _ => rfl | .tup _, .dic _ _ => rfl | .tup _, .obj _ _ _ => rfl | .tup _, .raw _ => rfl | .tup _, .scr _ => rfl | .tup _, .xcp _ _ _ => rfl
  | .dic _ _, y => by cases y <;> rfl
  | .obj _ _ _, y => by cases y <;> rfl
  | .raw _, y => by cases y <;> rfl
  | .scr _, y => by cases y <;> rfl
  | .xcp _ _ _, y => by cases y <;> rfl
theorem eqvs_deqs : ∀ (xs ys : List D), PyData.eqvAll (toPs xs) (toPs ys) = deqs xs ys
  | [], [] => rfl
  | [], _ :: _ => rfl
  | _ :: _, [] => rfl
  | x :: xs, y :: ys => by
    show (PyData.eqv (toP x) (toP y) && PyData.eqvAll (toPs xs) (toPs ys)) = (deq x y && deqs xs ys)
    rw [eqv_deq x y, eqvs_deqs xs ys]
end
section
variable {E : DE} {S H : Hp}
mutual
theorem Rep.dp (e : Same S H) : ∀ {d : D} {v : V} {n : Nat}, dok d n = true → Rep E S d v → Dp E.K H v (toP d)
  | .non, _, _, _, h => by cases h; exact .non
  | .bl b, _, _, _, h => by cases h; exact .bl b
  | .int i, _, _, _, h => by cases h; exact .int i
  | .str l, _, _, _, h => by cases h; exact .str _
  | .lst xs, _, 0, k, _ => by unfold dok at k; cases k
  | .tup xs, _, 0, k, _ => by unfold dok at k; cases k
  | .lst xs, _, n + 1, k, ⟨p, vs, h1, h2, h3⟩ => by unfold dok at k; subst h1; exact .lst (SqL.of (e _ _ h2)) (Reps.dp e k h3)
  | .tup xs, _, n + 1, k, ⟨p, vs, h1, h2, h3⟩ => by unfold dok at k; subst h1; exact .tup (sqT_mono e h2) (Reps.dp e k h3)
  | .dic _ _, _, n, k, _ => by unfold dok at k; cases k
  | .obj _ _ _, _, n, k, _ => by unfold dok at k; cases k
  | .raw _, _, n, k, _ => by unfold dok at k; cases k
  | .scr _, _, n, k, _ => by unfold dok at k; cases k
  | .xcp _ _ _, _, n, k, _ => by unfold dok at k; cases k
theorem Reps.dp (e : Same S H) : ∀ {ds : List D} {vs : List V} {n : Nat}, doks ds n = true → Reps E S ds vs → DpAll E.K H vs (toPs ds)
  | [], _, _, _, h => by cases h; exact .nil
  | x :: r, _, n, k, ⟨v, w, h1, h2, h3⟩ => by
    unfold doks at k
    rw [Bool.and_eq_true] at k
    subst h1
    exact .cons (Rep.dp e k.1 h2) (Reps.dp e k.2 h3)
end
theorem Top.dp (e : Same S H) {d : D} {v : V} {n : Nat} (k : dok d n = true) (h : Top E S H d v) : Dp E.K H v (toP d) := by
  cases d with
  | lst xs =>
    obtain ⟨p, vs, rfl, h2, h3⟩ := h
    cases n with
    | zero => unfold dok at k; cases k
    | succ n => unfold dok at k; exact .lst (SqL.of h2) (Reps.dp e k h3)
  | dic _ _ => unfold dok at k; cases k
  | non => exact Rep.dp e k h
  | bl _ => exact Rep.dp e k h
  | int _ => exact Rep.dp e k h
  | str _ => exact Rep.dp e k h
  | tup _ => exact Rep.dp e k h
  | obj _ _ _ => exact Rep.dp e k h
  | raw _ => exact Rep.dp e k h
  | scr _ => exact Rep.dp e k h
  | xcp _ _ _ => exact Rep.dp e k h
end
def scalD : D → Bool
  | .non => true | .bl _ => true | .int _ => true | .str _ => true
  | _ => false
def gEq (x y : D) : Option D := match x, y with
  | .str a, .str b => some (.bl (a == b))
  | .int a, .int b => some (.bl (a == b))
  | x, y => if dok x 60 && dok y 60 then some (.bl (deq x y)) else none
def gNe (x y : D) : Option D := match x, y with
  | .str a, .str b => some (.bl (!(a == b)))
  | .int a, .int b => some (.bl (!(a == b)))
  | x, y => if dok x 60 && dok y 60 then some (.bl (!deq x y)) else none
def rEqA (K : PySem.W.Frag) : R2 := fun x y H Q => rEq x y H Q ∨ rEqD K x y H Q
def rNeA (K : PySem.W.Frag) : R2 := fun x y H Q => rNe x y H Q ∨ rNeD K x y H Q
theorem op_eqA {X : Cx} (hu : X.A.units + 64 < cLine) : OpR X (compareOp .Eq) (rEqA X.K) := op_eq.or (op_eqD hu)
theorem op_neA {X : Cx} (hu : X.A.units + 64 < cLine) : OpR X (compareOp .NotEq) (rNeA X.K) := op_ne.or (op_neD hu)
theorem dec_strS (a b : List Nat) : decide (V.str (SX.S a) = V.str (SX.S b)) = (a == b) := by
  rw [dec_str, SX.S_beq]
theorem k_eq {E : DE} : Op2 E (rEqA E.K) gEq := fun S H x y v w d Q e hx hy h k => by
  unfold gEq at h
  split at h
  · cases h; cases hx; cases hy
    exact .inl ⟨rfl, by rw [dec_strS]; exact k.here rfl⟩
  · cases h; cases hx; cases hy
    exact .inl ⟨rfl, by rw [dec_int]; exact k.here rfl⟩
  · split at h
    · rename_i hk
      cases h
      rw [Bool.and_eq_true] at hk
      exact .inr ⟨_, _, hx.dp e hk.1, hy.dp e hk.2, dok_shaped hk.1, dok_shaped hk.2, by rw [eqv_deq]; exact k.here rfl⟩
    · cases h
theorem k_ne {E : DE} : Op2 E (rNeA E.K) gNe := fun S H x y v w d Q e hx hy h k => by
  unfold gNe at h
  split at h
  · cases h; cases hx; cases hy
    exact .inl ⟨rfl, by rw [dec_strS]; exact k.here rfl⟩
  · cases h; cases hx; cases hy
    exact .inl ⟨rfl, by rw [dec_int]; exact k.here rfl⟩
  · split at h
    · rename_i hk
      cases h
      rw [Bool.and_eq_true] at hk
      exact .inr ⟨_, _, hx.dp e hk.1, hy.dp e hk.2, dok_shaped hk.1, dok_shaped hk.2, by rw [eqv_deq]; exact k.here rfl⟩
    · cases h
/-! ### numbers -/
def gI (C : Int → Int → Bool) (g : Int → Int → Int) (x y : D) : Option D := match x, y with
  | .int i, .int j => if C i j then some (.int (g i j)) else none
  | _, _ => none
def gB (g : Int → Int → Bool) (x y : D) : Option D := match x, y with
  | .int i, .int j => some (.bl (g i j))
  | _, _ => none
theorem k_I {E : DE} {P : Int → Int → Prop} {C : Int → Int → Bool} {g : Int → Int → Int} (hC : ∀ i j, C i j = true → P i j) : Op2 E (rI P fun i j => .int (g i j)) (gI C g) := fun S H x y v w d Q e hx hy h k => by
  unfold gI at h
  split at h
  · split at h
    · rename_i hc
      cases h; cases hx; cases hy
      exact ⟨_, _, rfl, rfl, hC _ _ hc, k.here rfl⟩
    · cases h
  · cases h
theorem k_I0 {E : DE} {g : Int → Int → Int} : Op2 E (rI0 fun i j => .int (g i j)) (gI (fun _ _ => true) g) := fun S H x y v w d Q e hx hy h k => by
  unfold gI at h
  split at h
  · cases h; cases hx; cases hy
    exact ⟨_, _, rfl, rfl, k.here rfl⟩
  · cases h
theorem k_B {E : DE} {g : Int → Int → Bool} : Op2 E (rI0 fun i j => .bl (g i j)) (gB g) := fun S H x y v w d Q e hx hy h k => by
  unfold gB at h
  split at h
  · cases h; cases hx; cases hy
    exact ⟨_, _, rfl, rfl, k.here rfl⟩
  · cases h
def gSub : D → D → Option D := gI (fun _ _ => true) fun i j => i - j
def gFdiv : D → D → Option D := gI (fun _ j => decide (0 < j) && decide (j < 1073741824)) fun i j => i / j
def gMod : D → D → Option D := gI (fun _ j => decide (0 < j)) fun i j => i % j
def gPow : D → D → Option D := gI (fun i j => decide (0 ≤ j) && decide (j ≤ 1000000) && decide (i.natAbs < 2 ^ 64)) fun i j => i ^ j.toNat
def gShl : D → D → Option D := gI (fun i j => decide (0 ≤ j) && decide (j ≤ 1000000) && decide (i.natAbs < 2 ^ 64)) fun i j => i * 2 ^ j.toNat
def gShr : D → D → Option D := gI (fun _ j => decide (0 ≤ j)) fun i j => i / 2 ^ j.toNat
def gXor : D → D → Option D := gI (fun _ _ => true) Builtin.bitXor
def gLt : D → D → Option D := gB fun i j => decide (i < j)
def gLe : D → D → Option D := gB fun i j => decide (i ≤ j)
def gGt : D → D → Option D := gB fun i j => decide (j < i)
def gGe : D → D → Option D := gB fun i j => decide (j ≤ i)
theorem k_sub {E : DE} : Op2 E (rI0 fun i j => .int (i - j)) gSub := k_I0
theorem k_fdiv {E : DE} : Op2 E (rI CDiv fun i j => .int (i / j)) gFdiv := k_I fun i j h => by simpa [CDiv] using h
theorem k_mod {E : DE} : Op2 E (rI (fun _ j => 0 < j) fun i j => .int (i % j)) gMod := k_I fun i j h => by simpa using h
theorem k_pow {E : DE} : Op2 E (rI CPow fun i j => .int (i ^ j.toNat)) gPow := k_I fun i j h => by
  rw [Bool.and_eq_true, Bool.and_eq_true] at h
  exact ⟨of_decide_eq_true h.1.1, of_decide_eq_true h.1.2, of_decide_eq_true h.2⟩
theorem k_shl {E : DE} : Op2 E (rI CPow fun i j => .int (i * 2 ^ j.toNat)) gShl := k_I fun i j h => by
  rw [Bool.and_eq_true, Bool.and_eq_true] at h
  exact ⟨of_decide_eq_true h.1.1, of_decide_eq_true h.1.2, of_decide_eq_true h.2⟩
theorem k_shr {E : DE} : Op2 E (rI (fun _ j => 0 ≤ j) fun i j => .int (i / 2 ^ j.toNat)) gShr := k_I fun i j h => by simpa using h
theorem k_xor {E : DE} : Op2 E (rI0 fun i j => .int (Builtin.bitXor i j)) gXor := k_I0
theorem k_lt {E : DE} : Op2 E (rI0 fun i j => .bl (decide (i < j))) gLt := k_B
theorem k_le {E : DE} : Op2 E (rI0 fun i j => .bl (decide (i ≤ j))) gLe := k_B
theorem k_gt {E : DE} : Op2 E (rI0 fun i j => .bl (decide (j < i))) gGt := k_B
theorem k_ge {E : DE} : Op2 E (rI0 fun i j => .bl (decide (j ≤ i))) gGe := k_B
def gNeg (x : D) : Option D := match x with
  | .int i => some (.int (-i))
  | _ => none
theorem k_neg {E : DE} : Op1 E (rU fun i => .int (-i)) gNeg := fun S H x v d Q e hx h k => by
  unfold gNeg at h
  split at h
  · cases h; cases hx; exact ⟨_, rfl, k.here rfl⟩
  · cases h
/-! ### + and * of all kinds -/
def rAddA (K : PySem.W.Frag) : R2 := fun x y H Q => (rI0 (fun i j => .int (i + j)) x y H Q ∨ (∃ i j, x = .str i ∧ y = .str j ∧ i.length + j.length ≤ sizeLine ∧ Q (.str (i ++ j)) H)) ∨ (rCat x y H Q ∨ rCatA K x y H Q)
theorem op_addA {X : Cx} : OpR X (binaryOp .Add) (rAddA X.K) := (op_add.or op_add_str).or (op_cat.or op_catA)
def gAdd (x y : D) : Option D := match x, y with
  | .int i, .int j => some (.int (i + j))
  | .str a, .str b => if a.length + b.length ≤ 10000000 then some (.str (a ++ b)) else none
  | .lst a, .lst b => if a.length + b.length ≤ 10000000 then some (.lst (a ++ b)) else none
  | .tup a, .tup b => if a.length + b.length ≤ 10000000 then some (.tup (a ++ b)) else none
  | _, _ => none
theorem k_add {E : DE} : Op2 E (rAddA E.K) gAdd := fun S H x y v w d Q e hx hy h k => by
  unfold gAdd at h
  split at h
  · cases h; cases hx; cases hy
    exact .inl (.inl ⟨_, _, rfl, rfl, k.here rfl⟩)
  · split at h
    · rename_i hl
      cases h; cases hx; cases hy
      exact .inl (.inr ⟨_, _, rfl, rfl, by rw [SX.S_len, SX.S_len]; exact sz_of hl, by rw [SX.S_cat]; exact k.here rfl⟩)
    · cases h
  · split at h
    · rename_i hl
      cases h
      obtain ⟨p, vs, rfl, h1, r1⟩ := hx
      obtain ⟨q, ws, rfl, h2, r2⟩ := hy
      refine .inr (.inl ⟨p, q, vs, ws, rfl, rfl, h1, h2, by rw [← r1.length, ← r2.length]; exact sz_of hl, fun u nu => ?_⟩)
      have x := Ext.new (o := .lst (vs ++ ws)) e nu
      exact k _ _ _ x ⟨u, _, rfl, upd_same, (r1.append r2).mono x.s⟩
    · cases h
  · split at h
    · rename_i hl
      cases h
      obtain ⟨p, vs, rfl, h1, r1⟩ := hx
      obtain ⟨q, ws, rfl, h2, r2⟩ := hy
      refine .inr (.inr ⟨p, q, vs, ws, rfl, rfl, sqT_mono e h1, sqT_mono e h2, by rw [← r1.length, ← r2.length]; exact sz_of hl, fun z => ?_, fun n z => ?_, fun n1 n2 u nu => ?_⟩)
      · subst z
        cases r1.length |> fun hl => (by simpa using hl : _ = []) with
        | refl => exact k.here ⟨q, ws, rfl, h2, r2⟩
      · subst z
        cases r2.length |> fun hl => (by simpa using hl : _ = []) with
        | refl => exact k.here ⟨p, vs, rfl, h1, by rw [List.append_nil]; exact r1⟩
      · have x := Ext.new (o := .tup (vs ++ ws)) e nu
        exact k _ _ _ x ⟨u, _, rfl, SqT.of upd_same, (r1.append r2).mono x.s⟩
    · cases h
  · cases h
/-! ### subscripts -/
def gIx (x y : D) : Option D := match x, y with
  | .lst xs, .int i => atI xs i
  | .tup xs, .int i => atI xs i
  | .str l, .int i => if l.length ≤ 10000000 then (atI l i).map fun c => .str [c] else none
  | _, _ => none
theorem reps_at {E : DE} {S : Hp} {ds : List D} {vs : List V} {i : Int} {d : D} (r : Reps E S ds vs) (h : atI ds i = some d) : ∃ v, atI vs i = some v ∧ Rep E S d v := by
  unfold atI at h ⊢
  rw [r.length] at h
  cases e : ixN vs.length i with
  | none => rw [e] at h; cases h
  | some j => rw [e] at h; exact r.get h
theorem k_ix {E : DE} : Op2 E (rIx E.K) gIx := fun S H x y v w d Q e hx hy h k => by
  unfold gIx at h
  split at h
  · obtain ⟨p, vs, rfl, h1, r1⟩ := hx
    cases hy
    obtain ⟨u, hu, ru⟩ := reps_at r1 h
    exact .inl ⟨p, vs, _, u, rfl, rfl, SqL.of h1, hu, k.here ru⟩
  · obtain ⟨p, vs, rfl, h1, r1⟩ := hx
    cases hy
    obtain ⟨u, hu, ru⟩ := reps_at r1 h
    exact .inr (.inl ⟨p, vs, _, u, rfl, rfl, sqT_mono e h1, hu, k.here ru⟩)
  · rename_i l i
    split at h
    · rename_i hl
      cases hx; cases hy
      cases ha : atI l i with
      | none => rw [ha] at h; cases h
      | some c =>
        rw [ha] at h
        cases h
        exact .inr (.inr ⟨SX.S l, i, c, rfl, rfl, by rw [SX.S_len]; exact sz_of hl, by simpa [SX.S] using ha, k.here rfl⟩)
    · cases h
  · cases h
/-- a[lo:hi] -/
def cutD {α : Type} (xs : List α) (lo hi : Option Int) : List α := (xs.drop (HT.sIx xs.length 0 lo)).take (HT.sIx xs.length xs.length hi - HT.sIx xs.length 0 lo)
def rSlX (K : PySem.W.Frag) : V → Option Int → Option Int → Hp → VK → Prop := fun x lo hi H Q => rSlL K x lo hi H Q ∨ (rSlA K x lo hi H Q ∨ rSlS x lo hi H Q)
theorem sl_X {X : Cx} : SlR X (rSlX X.K) := sl_list.or (sl_tupA.or sl_str)
def gSl (x : D) (lo hi : Option Int) : Option D := match x with
  | .lst xs => some (.lst (cutD xs lo hi))
  | .scr xs => some (.lst (cutD xs lo hi))
  | .tup xs => some (.tup (cutD xs lo hi))
  | .str l => if l.length ≤ 10000000 then some (.str (cutD l lo hi)) else none
  | _ => none
theorem reps_cut {E : DE} {S : Hp} {ds : List D} {vs : List V} {lo hi : Option Int} (r : Reps E S ds vs) : Reps E S (cutD ds lo hi) (cutV vs lo hi) := by
  unfold cutD cutV
  rw [r.length]
  exact (r.drop _).take _
theorem k_sl {E : DE} {S H : Hp} {x d : D} {v : V} {lo hi : Option Int} {Q : VK} (e : Same S H) (hx : Top E S H x v) (h : gSl x lo hi = some d) (k : RetV E S H d Q) : rSlX E.K v lo hi H Q := by
  unfold gSl at h
  split at h
  · cases h
    obtain ⟨p, vs, rfl, h1, r1⟩ := hx
    refine .inl ⟨p, vs, rfl, SqL.of h1, fun u nu => ?_⟩
    have x := Ext.new (o := .lst (cutV vs lo hi)) e nu
    exact k _ _ _ x ⟨u, _, rfl, upd_same, (reps_cut r1).mono x.s⟩
  · cases h
    have hx' : ∃ p vs, v = .ref p ∧ SqL E.K S p vs ∧ Reps E S _ vs := hx
    obtain ⟨p, vs, rfl, h1, r1⟩ := hx'
    refine .inl ⟨p, vs, rfl, e.seq h1, fun u nu => ?_⟩
    have x := Ext.new (o := .lst (cutV vs lo hi)) e nu
    exact k _ _ _ x ⟨u, _, rfl, upd_same, (reps_cut r1).mono x.s⟩
  · cases h
    obtain ⟨p, vs, rfl, h1, r1⟩ := hx
    refine .inr (.inl ⟨p, vs, rfl, sqT_mono e h1, fun hw => ?_, fun hw u nu => ?_⟩)
    · refine k.here ⟨p, vs, rfl, h1, ?_⟩
      unfold cutD
      rw [r1.length, hw.1, hw.2]
      simpa [← r1.length] using r1
    · have x := Ext.new (o := .tup (cutV vs lo hi)) e nu
      exact k _ _ _ x ⟨u, _, rfl, SqT.of upd_same, (reps_cut r1).mono x.s⟩
  · split at h
    · rename_i l hl
      cases h; cases hx
      refine .inr (.inr ⟨SX.S l, rfl, by rw [SX.S_len]; exact sz_of hl, ?_⟩)
      have e1 : cutS (SX.S l) lo hi = SX.S (cutD l lo hi) := by
        unfold cutS cutD
        rw [SX.S_len]
      rw [e1]
      exact k.here rfl
    · cases h
  · cases h
section
variable {F : Fc} {W : WX} {X : Cx} {pos p2 : Pos}
/-- a part of a slice -/
def tP (F : Fc) (W : WX) (f : Ds → Out (Option Int)) : TO := fun σ H Q => ∃ S ds, Match F S ds σ H ∧ GPost F S σ W (f ds) fun o _ _ H' => Q o H'
def DPP (F : Fc) (W : WX) (X : Cx) (e : Option Expr) (f : Ds → Out (Option Int)) : Prop := PO X e (tP F W f)
def pNone (ds : Ds) : Out (Option Int) := .ok none ds
def pSome (f : Ds → Out D) (ds : Ds) : Out (Option Int) := (f ds).bind fun d ds1 => match d with
  | .int i => .ok (some i) ds1
  | _ => .no
theorem d_pnone : DPP F W X none pNone := ⟨fun pins s σ H Q I ⟨S, ds, M, q⟩ => po_none.run pins s σ H Q I (q H S (Same.refl _) M)⟩
theorem d_psome {e : Expr} {f : Ds → Out D} (h : DPE F W X e f) : DPP F W X (some e) (pSome f) := ⟨fun pins s σ H Q I ⟨S, ds, M, q⟩ => (po_some h).run pins s σ H Q I ⟨S, ds, M, (GPost.bind q).imp fun d ds1 S1 H1 e1 M1 q1 v r => by
    cases d with
    | int i => exact ⟨i, r, q1 H1 S1 (Same.refl _) M1⟩
    | _ => exact q1.elim⟩⟩
def eSl (fa : Ds → Out Opd) (fl fh : Ds → Out (Option Int)) (ds : Ds) : Out D :=
  (fa ds).bind fun a ds1 => (fl ds1).bind fun lo ds2 => (fh ds2).bind fun hi ds3 => match deref ds3 a with
    | some x => liftO (gSl x lo hi) ds3
    | none => .no
theorem d_sl {a : Expr} {lo hi : Option Expr} {fa : Ds → Out Opd} {fl fh : Ds → Out (Option Int)} (hK : X.K = F.E.K) (ha : DPO F W X a fa) (hl : DPP F W X lo fl) (hh : DPP F W X hi fh) : DPE F W X (.Subscript a (.Slice lo hi none p2) pos) (eSl fa fl fh) :=
  pe_of (pe_slice sl_X ha hl hh) fun σ H Q ⟨S, ds, M, q⟩ => ⟨S, ds, M, (GPost.bind q).imp fun a ds1 S1 H1 e1 M1 q1 v r1 => ⟨S1, ds1, M1, (GPost.bind q1).imp fun lo ds2 S2 H2 e2 M2 q2 => ⟨S2, ds2, M2, (GPost.bind q2).imp fun hi ds3 S3 H3 e3 M3 q3 => by
    cases h1 : deref ds3 a with
    | none => rw [h1] at q3; exact q3.elim
    | some x =>
      rw [h1] at q3
      dsimp only at q3
      cases h2 : gSl x lo hi with
      | none => rw [h2] at q3; exact q3.elim
      | some d =>
        rw [h2] at q3
        rw [hK]
        exact k_sl M3.sub (M3.top (e2.trans e3) r1 h1) h2 fun u S4 H4 x4 r4 => q3 H4 S4 x4.s (M3.ext x4) u r4⟩⟩⟩
/-! ### in -/
def flatD : D → Bool
  | .non => true | .bl _ => true | .int _ => true | .str _ => true
  | _ => false
theorem flat_rep {E : DE} {S : Hp} : ∀ {d : D} {v : V}, flatD d = true → Rep E S d v → flatV v = true
  | .non, _, _, h => by cases h; rfl
  | .bl _, _, _, h => by cases h; rfl
  | .int _, _, _, h => by cases h; rfl
  | .str _, _, _, h => by cases h; rfl
theorem flat_reps {E : DE} {S : Hp} : ∀ {ds : List D} {vs : List V}, ds.all flatD = true → Reps E S ds vs → vs.all flatV = true
  | [], _, _, h => by cases h; rfl
  | _ :: _, _, k, ⟨v, w, h1, h2, h3⟩ => by
    rw [List.all_cons, Bool.and_eq_true] at k
    subst h1
    rw [List.all_cons, flat_rep k.1 h2, flat_reps k.2 h3]; rfl
theorem eqV_deq {E : DE} {S : Hp} : ∀ {x y : D} {v w : V}, flatD x = true → flatD y = true → Rep E S x v → Rep E S y w → eqV v w = deq x y := by
  intro x y v w hx hy h1 h2
  cases x with
  | non => cases h1; cases y <;> first | (exfalso; exact Bool.noConfusion hy) | (cases h2; rfl)
  | bl b => cases h1; cases y <;> first | (exfalso; exact Bool.noConfusion hy) | (cases h2; rfl)
  | int i => cases h1; cases y <;> first | (exfalso; exact Bool.noConfusion hy) | (cases h2; rfl)
  | str l => cases h1; cases y <;> first | (exfalso; exact Bool.noConfusion hy) | (cases h2; first | rfl | exact SX.S_beq _ _)
  | lst _ => exact Bool.noConfusion hx
  | tup _ => exact Bool.noConfusion hx
  | dic _ _ => exact Bool.noConfusion hx
  | obj _ _ _ => exact Bool.noConfusion hx
  | raw _ => exact Bool.noConfusion hx
  | scr _ => exact Bool.noConfusion hx
  | xcp _ _ _ => exact Bool.noConfusion hx
theorem inV_any {E : DE} {S : Hp} {x : D} {v : V} (hx : flatD x = true) (h : Rep E S x v) : ∀ {ds : List D} {vs : List V}, ds.all flatD = true → Reps E S ds vs → inV v vs = ds.any fun y => deq y x
  | [], _, _, h => by cases h; rfl
  | d :: ds, _, k, ⟨u, w, h1, h2, h3⟩ => by
    rw [List.all_cons, Bool.and_eq_true] at k
    subst h1
    show (eqV u v || inV v w) = (deq d x || ds.any fun y => deq y x)
    rw [inV_any hx h k.2 h3, eqV_deq k.1 hx h2 h]
def isInD (x y : D) : Option Bool := match y with
  | .str l => match x with
    | .str [c] => some (decide (c ∈ l))
    | _ => none
  | .lst xs => if flatD x && xs.all flatD then some (xs.any fun y => deq y x) else none
  | .tup xs => if flatD x && xs.all flatD then some (xs.any fun y => deq y x) else none
  | _ => none
def gIn (x y : D) : Option D := (isInD x y).map fun b => .bl b
def gNotIn (x y : D) : Option D := (isInD x y).map fun b => .bl (!b)
def rInA (K : PySem.W.Frag) (neg : Bool) : R2 := fun x y H Q => (∃ (c : Nat) (z : Str), x = .str ⟨#[c]⟩ ∧ y = .str z ∧ Q (.bl (if neg then !decide (c ∈ z.cps.toList) else decide (c ∈ z.cps.toList))) H) ∨ rIn K neg x y H Q
theorem op_inA : OpR X (compareOp .In) (rInA X.K false) := op_in_sign.or op_in_seq
theorem op_notInA : OpR X (compareOp .NotIn) (rInA X.K true) := op_notIn_sign.or op_notIn_seq
theorem k_inA {E : DE} (neg : Bool) : Op2 E (rInA E.K neg) (fun x y => (isInD x y).map fun b => .bl (if neg then !b else b)) := fun S H x y v w d Q e hx hy h k => by
  dsimp only at h
  cases hb : isInD x y with
  | none => rw [hb] at h; cases h
  | some b =>
    rw [hb] at h
    cases h
    unfold isInD at hb
    split at hb
    · split at hb
      · cases hb; cases hx; cases hy
        refine .inl ⟨_, _, rfl, rfl, ?_⟩
        exact k.here rfl
      · cases hb
    · rename_i xs
      split at hb
      · rename_i hf
        rw [Bool.and_eq_true] at hf
        cases hb
        obtain ⟨p, vs, rfl, h1, r1⟩ := hy
        have hx' : Rep E S x v := by cases x <;> first | exact hx | cases hf.1
        refine .inr ⟨p, vs, rfl, .inl (SqL.of h1), flat_rep hf.1 hx', flat_reps hf.2 r1, ?_⟩
        rw [inV_any hf.1 hx' hf.2 r1]
        exact k.here rfl
      · cases hb
    · rename_i xs
      split at hb
      · rename_i hf
        rw [Bool.and_eq_true] at hf
        cases hb
        obtain ⟨p, vs, rfl, h1, r1⟩ := hy
        have hx' : Rep E S x v := by cases x <;> first | exact hx | cases hf.1
        refine .inr ⟨p, vs, rfl, .inr (sqT_mono e h1), flat_rep hf.1 hx', flat_reps hf.2 r1, ?_⟩
        rw [inV_any hf.1 hx' hf.2 r1]
        exact k.here rfl
      · cases hb
    · cases hb
theorem k_in {E : DE} : Op2 E (rInA E.K false) gIn := k_inA false
theorem k_notIn {E : DE} : Op2 E (rInA E.K true) gNotIn := k_inA true
/-! ### is None -/
def isNon : D → Option Bool
  | .non => some true
  | .raw _ => none
  | _ => some false
def gIsN (x : D) : Option D := (isNon x).map fun b => .bl b
def gNotN (x : D) : Option D := (isNon x).map fun b => .bl (!b)
theorem top_non {E : DE} {S H : Hp} {b : Bool} : ∀ {x : D} {v : V}, Top E S H x v → isNon x = some b → decide (v = .non) = b
  | .non, _, h, k => by cases h; cases k; rfl
  | .bl _, _, h, k => by cases h; cases k; rfl
  | .int _, _, h, k => by cases h; cases k; rfl
  | .str _, _, h, k => by cases h; cases k; rfl
  | .lst _, _, ⟨p, vs, h, _⟩, k => by subst h; cases k; rfl
  | .tup _, _, ⟨p, vs, h, _⟩, k => by subst h; cases k; rfl
  | .dic _ _, _, ⟨p, vs, h, _⟩, k => by subst h; cases k; rfl
  | .obj _ _ _, _, ⟨p, C, dx, vs, h, _⟩, k => by subst h; cases k; rfl
  | .raw _, _, _, k => by cases k
  | .scr _, _, ⟨p, vs, h, _⟩, k => by subst h; cases k; rfl
  | .xcp _ _ _, _, ⟨p, C, dx, vs, h, _⟩, k => by subst h; cases k; rfl
variable {a b : Expr} {fa fb : Ds → Out Opd}
theorem d_isN {j pos'} (ha : DPO F W X a fa) : DPE F W X (.Compare a [.Is] [.Constant .none j pos'] pos) (eOp1 gIsN fa) :=
  pe_of (pe_cmp (pc_isN ha)) fun σ H Q h => tUn_of (r := fun x H Q => Q (.bl (decide (x = .non))) H) (fun S H x v d Q e hx h k => by
    dsimp only
    cases hb : isNon x with
    | none =>
      first | unfold gIsN at h | unfold gNotN at h
      rw [hb] at h; cases h
    | some b =>
      rw [top_non hx hb]
      first | unfold gIsN at h | unfold gNotN at h
      rw [hb] at h
      cases h
      exact k.here rfl) σ H Q h
theorem d_notN {j pos'} (ha : DPO F W X a fa) : DPE F W X (.Compare a [.IsNot] [.Constant .none j pos'] pos) (eOp1 gNotN fa) :=
  pe_of (pe_cmp (pc_notN ha)) fun σ H Q h => tUn_of (r := fun x H Q => Q (.bl (!decide (x = .non))) H) (fun S H x v d Q e hx h k => by
    dsimp only
    cases hb : isNon x with
    | none =>
      first | unfold gIsN at h | unfold gNotN at h
      rw [hb] at h; cases h
    | some b =>
      rw [top_non hx hb]
      first | unfold gIsN at h | unfold gNotN at h
      rw [hb] at h
      cases h
      exact k.here rfl) σ H Q h
end
end DV

set_option Elab.async false
set_option linter.all false
set_option maxRecDepth 100000
set_option maxHeartbeats 1000000
/-! DV6: built-in functions, methods of texts, lists that change. -/
namespace DV
open PySem PySem.Spec PyProof.Rows L2

/-! ### lists of one kind -/
def asInt : D → Option Int | .int i => some i | _ => none
def asBl : D → Option Bool | .bl b => some b | _ => none
def asStr : D → Option (List Nat) | .str l => some l | _ => none
def allOf {α : Type} (f : D → Option α) : List D → Option (List α)
  | [] => some []
  | x :: r => match f x, allOf f r with
    | some a, some b => some (a :: b)
    | _, _ => none
theorem allOf_map {α : Type} {f : D → Option α} {g : α → D} (h : ∀ a, f (g a) = some a) : ∀ xs : List α, allOf f (xs.map g) = some xs
  | [] => rfl
  | x :: r => by
    show (match f (g x), allOf f (r.map g) with | some a, some b => some (a :: b) | _, _ => none) = _
    rw [h, allOf_map h r]
@[simp] theorem allOf_int (xs : List Int) : allOf asInt (xs.map D.int) = some xs := allOf_map (f := asInt) (g := D.int) (fun _ => rfl) xs
@[simp] theorem allOf_bl (xs : List Bool) : allOf asBl (xs.map D.bl) = some xs := allOf_map (f := asBl) (g := D.bl) (fun _ => rfl) xs
@[simp] theorem allOf_str (xs : List (List Nat)) : allOf asStr (xs.map D.str) = some xs := allOf_map (f := asStr) (g := D.str) (fun _ => rfl) xs
theorem allOf_inv {α : Type} {f : D → Option α} {g : α → D} (h : ∀ d a, f d = some a → d = g a) : ∀ {xs : List D} {ys : List α}, allOf f xs = some ys → xs = ys.map g
  | [], _, e => by cases e; rfl
  | x :: r, ys, e => by
    unfold allOf at e
    cases h1 : f x with
    | none => rw [h1] at e; cases e
    | some a =>
      cases h2 : allOf f r with
      | none => rw [h1, h2] at e; cases e
      | some b =>
        rw [h1, h2] at e
        cases e
        rw [h x a h1, allOf_inv h h2]; rfl
theorem int_inv : ∀ d a, asInt d = some a → d = .int a := fun d a h => by cases d <;> first | (cases h; rfl) | cases h
theorem bl_inv : ∀ d a, asBl d = some a → d = .bl a := fun d a h => by cases d <;> first | (cases h; rfl) | cases h
theorem str_inv : ∀ d a, asStr d = some a → d = .str a := fun d a h => by cases d <;> first | (cases h; rfl) | cases h
section
variable {E : DE} {S : Hp}
theorem Reps.of_map {α : Type} {g : α → D} {k : α → V} (h : ∀ a v, Rep E S (g a) v → v = k a) : ∀ {xs : List α} {vs : List V}, Reps E S (xs.map g) vs → vs = xs.map k
  | [], _, r => r
  | _ :: _, _, ⟨v, w, h1, h2, h3⟩ => by rw [h1, Reps.of_map h h3, h _ _ h2]; rfl
theorem Reps.to_map {α : Type} {g : α → D} {k : α → V} (h : ∀ a, Rep E S (g a) (k a)) : ∀ (xs : List α), Reps E S (xs.map g) (xs.map k)
  | [] => rfl
  | a :: r => ⟨_, _, rfl, h a, Reps.to_map h r⟩
end
/-! ### calls of built-ins -/
def Call1 (E : DE) (r : List V → Hp → VK → Prop) (g : D → Option D) : Prop := ∀ S H x v d Q, Same S H → Top E S H x v → g x = some d → RetV E S H d Q → r [v] H Q
def Call2 (E : DE) (r : List V → Hp → VK → Prop) (g : D → D → Option D) : Prop := ∀ S H x y v w d Q, Same S H → Top E S H x v → Top E S H y w → g x y = some d → RetV E S H d Q → r [v, w] H Q
section
variable {F : Fc} {W : WX} {X : Cx} {pos p2 : Pos} {a b : Expr} {fa fb : Ds → Out Opd} {x : Str}
theorem tc1_of {r : List V → Hp → VK → Prop} {g : D → Option D} (hr : Call1 F.E r g) : ∀ σ H Q, tD F W (eOp1 g fa) σ H Q → tCB r (tCons (tO F W fa) tNil) σ H Q := fun σ H Q h => tUn_of (r := fun x H Q => r [x] H Q) hr σ H Q h
theorem tc2_of {r : List V → Hp → VK → Prop} {g : D → D → Option D} (hr : Call2 F.E r g) : ∀ σ H Q, tD F W (eOp2 g fa fb) σ H Q → tCB r (tCons (tO F W fa) (tCons (tO F W fb) tNil)) σ H Q := fun σ H Q h => tOp_of (r := fun x y H Q => r [x, y] H Q) hr σ H Q h
theorem d_b1 {id : String} {r : List V → Hp → VK → Prop} {g : D → Option D} (hc : CallR X (.builtin id) r) (hr : Call1 F.E r g) (hg : Gl X x) (hm : X.mg x = none) (hv : bootBuiltins x = some (.builtin id)) (ha : DPO F W X a fa) (hn : x ≠ "__name__" := by decide) (hdb : (x == ("__debug__" : Str)) = false := by decide)
    (he : starEach [a] X.env = (false, eval a X.env) :: starEach [] X.env := by rfl) : DPE F W X (.Call (.Name x p2) [a] [] pos) (eOp1 g fa) :=
  pe_of (pe_callB hc hg hm hv (pa_cons ha pa_nil he) hn hdb he) (tc1_of hr)
theorem d_t1 {id : String} {r : List V → Hp → VK → Prop} {g : D → Option D} (hc : CallR X (.type id) r) (hr : Call1 F.E r g) (hg : Gl X x) (hm : X.mg x = none) (hv : bootBuiltins x = some (.type id)) (ha : DPO F W X a fa) (hn : x ≠ "__name__" := by decide) (hdb : (x == ("__debug__" : Str)) = false := by decide)
    (he : starEach [a] X.env = (false, eval a X.env) :: starEach [] X.env := by rfl) : DPE F W X (.Call (.Name x p2) [a] [] pos) (eOp1 g fa) :=
  pe_of (pe_callTy hc hg hm hv (pa_cons ha pa_nil he) hn hdb he) (tc1_of hr)
theorem d_b2 {id : String} {r : List V → Hp → VK → Prop} {g : D → D → Option D} (hc : CallR X (.builtin id) r) (hr : Call2 F.E r g) (hg : Gl X x) (hm : X.mg x = none) (hv : bootBuiltins x = some (.builtin id)) (ha : DPO F W X a fa) (hb : DPO F W X b fb) (hn : x ≠ "__name__" := by decide) (hdb : (x == ("__debug__" : Str)) = false := by decide)
    (he : starEach [a, b] X.env = (false, eval a X.env) :: starEach [b] X.env := by rfl) (hs : starEach [b] X.env = (false, eval b X.env) :: starEach [] X.env := by rfl) (hpl : (backTo pos (starEach [b] X.env)).any (·.1) = false := by rfl) : DPE F W X (.Call (.Name x p2) [a, b] [] pos) (eOp2 g fa fb) :=
  pe_of (pe_callB hc hg hm hv (pa_cons ha (pa_cons hb pa_nil hs) he) hn hdb he hpl) (tc2_of hr)
theorem d_t2 {id : String} {r : List V → Hp → VK → Prop} {g : D → D → Option D} (hc : CallR X (.type id) r) (hr : Call2 F.E r g) (hg : Gl X x) (hm : X.mg x = none) (hv : bootBuiltins x = some (.type id)) (ha : DPO F W X a fa) (hb : DPO F W X b fb) (hn : x ≠ "__name__" := by decide) (hdb : (x == ("__debug__" : Str)) = false := by decide)
    (he : starEach [a, b] X.env = (false, eval a X.env) :: starEach [b] X.env := by rfl) (hs : starEach [b] X.env = (false, eval b X.env) :: starEach [] X.env := by rfl) (hpl : (backTo pos (starEach [b] X.env)).any (·.1) = false := by rfl) : DPE F W X (.Call (.Name x p2) [a, b] [] pos) (eOp2 g fa fb) :=
  pe_of (pe_callTy hc hg hm hv (pa_cons ha (pa_cons hb pa_nil hs) he) hn hdb he hpl) (tc2_of hr)
end
/-! len -/
def rLenA (K : PySem.W.Frag) : List V → Hp → VK → Prop := fun xs H Q => ∃ x n, xs = [x] ∧ LenV K x H n ∧ Q (.int n) H
def gLen (x : D) : Option D := match x with
  | .str l => if l.length ≤ 10000000 then some (.int (l.length : Nat)) else none
  | .lst xs => some (.int (xs.length : Nat))
  | .tup xs => some (.int (xs.length : Nat))
  | _ => none
theorem c_len {E : DE} : Call1 E (rLenA E.K) gLen := fun S H x v d Q e hx h k => by
  unfold gLen at h
  split at h
  · split at h
    · rename_i l hl
      cases h; cases hx
      exact ⟨_, l.length, rfl, ⟨by rw [SX.S_len]; exact sz_of hl, (SX.S_len l).symm⟩, k.here rfl⟩
    · cases h
  · cases h
    obtain ⟨p, vs, rfl, h1, r1⟩ := hx
    exact ⟨_, _, rfl, .inl ⟨vs, SqL.of h1, r1.length⟩, k.here rfl⟩
  · cases h
    obtain ⟨p, vs, rfl, h1, r1⟩ := hx
    exact ⟨_, _, rfl, .inr ⟨vs, sqT_mono e h1, r1.length⟩, k.here rfl⟩
  · cases h
/-! abs, min, max, int, bool, str -/
def gAbs (x : D) : Option D := match x with | .int i => some (.int (if i < 0 then -i else i)) | _ => none
theorem c_abs {E : DE} : Call1 E (fun xs H Q => ∃ i, xs = [.int i] ∧ Q (.int (if i < 0 then -i else i)) H) gAbs := fun S H x v d Q e hx h k => by
  unfold gAbs at h
  split at h
  · cases h; cases hx; exact ⟨_, rfl, k.here rfl⟩
  · cases h
def gMin2 (x y : D) : Option D := match x, y with | .int i, .int j => some (.int (if j < i then j else i)) | _, _ => none
def gMax2 (x y : D) : Option D := match x, y with | .int i, .int j => some (.int (if j > i then j else i)) | _, _ => none
theorem c_min2 {E : DE} : Call2 E (fun xs H Q => ∃ i j, xs = [.int i, .int j] ∧ Q (.int (if j < i then j else i)) H) gMin2 := fun S H x y v w d Q e hx hy h k => by
  unfold gMin2 at h
  split at h
  · cases h; cases hx; cases hy; exact ⟨_, _, rfl, k.here rfl⟩
  · cases h
theorem c_max2 {E : DE} : Call2 E (fun xs H Q => ∃ i j, xs = [.int i, .int j] ∧ Q (.int (if j > i then j else i)) H) gMax2 := fun S H x y v w d Q e hx hy h k => by
  unfold gMax2 at h
  split at h
  · cases h; cases hx; cases hy; exact ⟨_, _, rfl, k.here rfl⟩
  · cases h
def gInt (x : D) : Option D := match x with | .int i => some (.int i) | .bl b => some (.int (if b then 1 else 0)) | _ => none
theorem c_int {E : DE} : Call1 E (fun xs H Q => (∃ i, xs = [.int i] ∧ Q (.int i) H) ∨ ∃ k, xs = [.bl k] ∧ Q (.int (if k then 1 else 0)) H) gInt := fun S H x v d Q e hx h k => by
  unfold gInt at h
  split at h
  · cases h; cases hx; exact .inl ⟨_, rfl, k.here rfl⟩
  · cases h; cases hx; exact .inr ⟨_, rfl, k.here rfl⟩
  · cases h
def gBool (x : D) : Option D := match x with | .int i => some (.bl (i != 0)) | .bl b => some (.bl b) | _ => none
theorem c_bool {E : DE} : Call1 E (fun xs H Q => (∃ i, xs = [.int i] ∧ Q (.bl (i != 0)) H) ∨ ∃ k, xs = [.bl k] ∧ Q (.bl k) H) gBool := fun S H x v d Q e hx h k => by
  unfold gBool at h
  split at h
  · cases h; cases hx; exact .inl ⟨_, rfl, k.here rfl⟩
  · cases h; cases hx; exact .inr ⟨_, rfl, k.here rfl⟩
  · cases h
/-- a number's text -/
def intL (i : Int) : List Nat := (Str.ofString (toString i)).cps.toList
def gStrI (x : D) : Option D := match x with | .int i => if i.natAbs.log2 < 1920 then some (.str (intL i)) else none | _ => none
theorem c_strI {E : DE} : Call1 E (fun xs H Q => ∃ i, xs = [.int i] ∧ i.natAbs.log2 < 1920 ∧ Q (.str (toString i)) H) gStrI := fun S H x v d Q e hx h k => by
  unfold gStrI at h
  split at h
  · split at h
    · cases h; cases hx; exact ⟨_, rfl, by assumption, k.here (by show V.str _ = V.str _; unfold intL; rw [SX.S_tl])⟩
    · cases h
  · cases h
/-! tuple, list -/
def gTuple (x : D) : Option D := match x with | .lst xs => some (.tup xs) | .tup xs => some (.tup xs) | _ => none
theorem c_tuple {E : DE} : Call1 E (fun xs H Q => ∃ p ys, xs = [.ref p] ∧ ((SqL E.K H p ys ∧ ∀ l, H l = none → Q (.ref l) (upd H l (.tup ys))) ∨ (SqT E.K H p ys ∧ Q (.ref p) H))) gTuple := fun S H x v d Q e hx h k => by
  unfold gTuple at h
  split at h
  · cases h
    obtain ⟨p, vs, rfl, h1, r1⟩ := hx
    refine ⟨p, vs, rfl, .inl ⟨SqL.of h1, fun l nl => ?_⟩⟩
    have x := Ext.new (o := .tup vs) e nl
    exact k _ _ _ x ⟨l, vs, rfl, SqT.of upd_same, r1.mono x.s⟩
  · cases h
    obtain ⟨p, vs, rfl, h1, r1⟩ := hx
    exact ⟨p, vs, rfl, .inr ⟨sqT_mono e h1, k.here ⟨p, vs, rfl, h1, r1⟩⟩⟩
  · cases h
def gList (x : D) : Option D := match x with | .lst xs => some (.lst xs) | .tup xs => some (.lst xs) | _ => none
theorem c_list {E : DE} : Call1 E (fun xs H Q => ∃ p ys, xs = [.ref p] ∧ (SqL E.K H p ys ∨ SqT E.K H p ys) ∧ ∀ l, H l = none → Q (.ref l) (upd H l (.lst ys))) gList := fun S H x v d Q e hx h k => by
  unfold gList at h
  split at h
  · cases h
    obtain ⟨p, vs, rfl, h1, r1⟩ := hx
    refine ⟨p, vs, rfl, .inl (SqL.of h1), fun l nl => ?_⟩
    have x := Ext.new (o := .lst vs) e nl
    exact k _ _ _ x ⟨l, vs, rfl, upd_same, r1.mono x.s⟩
  · cases h
    obtain ⟨p, vs, rfl, h1, r1⟩ := hx
    refine ⟨p, vs, rfl, .inr (sqT_mono e h1), fun l nl => ?_⟩
    have x := Ext.new (o := .lst vs) e nl
    exact k _ _ _ x ⟨l, vs, rfl, upd_same, r1.mono x.s⟩
  · cases h
/-! sum, all, any, sorted -/
def gSum (x : D) : Option D := match x with | .lst xs => (allOf asInt xs).map fun ns => .int ns.sum | _ => none
theorem lst_of {α : Type} {E : DE} {S H : Hp} {f : D → Option α} {g : α → D} {kv : α → V} {xs : List D} {ys : List α} {v : V} (hf : ∀ d a, f d = some a → d = g a) (hg : ∀ a v, Rep E S (g a) v → v = kv a) (hx : Top E S H (.lst xs) v) (h : allOf f xs = some ys) : ∃ p, v = .ref p ∧ H p = some (.lst (ys.map kv)) := by
  obtain ⟨p, vs, rfl, h1, r1⟩ := hx
  have e := allOf_inv hf h
  subst e
  rw [Reps.of_map hg r1] at h1
  exact ⟨p, rfl, h1⟩
theorem c_sum {E : DE} : Call1 E (rSum E.K) gSum := fun S H x v d Q e hx h k => by
  unfold gSum at h
  split at h
  · rename_i xs
    cases hs : allOf asInt xs with
    | none => rw [hs] at h; cases h
    | some ns =>
      rw [hs] at h
      cases h
      obtain ⟨p, rfl, h1⟩ := lst_of int_inv (fun a v h => h) hx hs
      exact ⟨p, ns, rfl, SqL.of h1, k.here rfl⟩
  · cases h
def gAll (x : D) : Option D := match x with | .lst xs => (allOf asBl xs).map fun bs => .bl (bs.all id) | _ => none
def gAny (x : D) : Option D := match x with | .lst xs => (allOf asBl xs).map fun bs => .bl (bs.any id) | _ => none
theorem c_all {E : DE} : Call1 E (rAll E.K) gAll := fun S H x v d Q e hx h k => by
  unfold gAll at h
  split at h
  · rename_i xs
    cases hs : allOf asBl xs with
    | none => rw [hs] at h; cases h
    | some ns =>
      rw [hs] at h
      cases h
      obtain ⟨p, rfl, h1⟩ := lst_of bl_inv (fun a v h => h) hx hs
      exact ⟨p, ns, rfl, SqL.of h1, k.here rfl⟩
  · cases h
theorem c_any {E : DE} : Call1 E (rAny E.K) gAny := fun S H x v d Q e hx h k => by
  unfold gAny at h
  split at h
  · rename_i xs
    cases hs : allOf asBl xs with
    | none => rw [hs] at h; cases h
    | some ns =>
      rw [hs] at h
      cases h
      obtain ⟨p, rfl, h1⟩ := lst_of bl_inv (fun a v h => h) hx hs
      exact ⟨p, ns, rfl, SqL.of h1, k.here rfl⟩
  · cases h
/-- ints in order -/
def insI (x : Int) : List Int → List Int
  | [] => [x]
  | y :: r => if x ≤ y then x :: y :: r else y :: insI x r
def sortI : List Int → List Int
  | [] => []
  | x :: r => insI x (sortI r)
theorem insI_perm (x : Int) : ∀ l, (insI x l).Perm (x :: l)
  | [] => .refl _
  | y :: r => by
    unfold insI
    split
    · exact .refl _
    · exact ((insI_perm x r).cons y).trans (.swap x y r)
theorem sortI_perm : ∀ l, (sortI l).Perm l
  | [] => .refl _
  | x :: r => (insI_perm x _).trans ((sortI_perm r).cons x)
theorem insI_sorted (x : Int) : ∀ l, l.Pairwise (· ≤ ·) → (insI x l).Pairwise (· ≤ ·)
  | [], _ => by simp [insI]
  | y :: r, h => by
    have h' := List.pairwise_cons.mp h
    unfold insI
    split
    · rename_i hxy
      refine List.pairwise_cons.mpr ⟨fun z hz => ?_, h⟩
      rcases List.mem_cons.mp hz with rfl | hz
      · exact hxy
      · exact Int.le_trans hxy (h'.1 z hz)
    · rename_i hxy
      refine List.pairwise_cons.mpr ⟨fun z hz => ?_, insI_sorted x r h'.2⟩
      rcases List.mem_cons.mp ((insI_perm x r).mem_iff.mp hz) with rfl | hz
      · omega
      · exact h'.1 z hz
theorem sortI_sorted : ∀ l, (sortI l).Pairwise (· ≤ ·)
  | [] => .nil
  | x :: r => insI_sorted x _ (sortI_sorted r)
theorem sorted_unique : ∀ {l m : List Int}, l.Perm m → l.Pairwise (· ≤ ·) → m.Pairwise (· ≤ ·) → l = m
  | [], m, h, _, _ => (List.Perm.nil_eq h)
  | x :: l, [], h, _, _ => absurd h.length_eq (by simp)
  | x :: l, y :: m, h, hl, hm => by
    have hl' := List.pairwise_cons.mp hl
    have hm' := List.pairwise_cons.mp hm
    have e : x = y := by
      have h1 : x ∈ y :: m := h.mem_iff.mp List.mem_cons_self
      have h2 : y ∈ x :: l := h.mem_iff.mpr List.mem_cons_self
      rcases List.mem_cons.mp h1 with e | h1
      · exact e
      · rcases List.mem_cons.mp h2 with e | h2
        · exact e.symm
        · have := hm'.1 x h1; have := hl'.1 y h2; omega
    subst e
    rw [sorted_unique (List.Perm.cons_inv h) hl'.2 hm'.2]
def gSorted (x : D) : Option D := match x with | .lst xs => (allOf asInt xs).map fun ns => .lst ((sortI ns).map .int) | _ => none
theorem c_sorted {E : DE} : Call1 E (rSortedI E.K) gSorted := fun S H x v d Q e hx h k => by
  unfold gSorted at h
  split at h
  · rename_i xs
    cases hs : allOf asInt xs with
    | none => rw [hs] at h; cases h
    | some ns =>
      rw [hs] at h
      cases h
      obtain ⟨p, rfl, h1⟩ := lst_of int_inv (fun a v h => h) hx hs
      refine ⟨p, ns, rfl, SqL.of h1, fun ns' q hp hq nq => ?_⟩
      have e2 : ns' = sortI ns := sorted_unique (hp.trans (sortI_perm ns).symm) hq (sortI_sorted ns)
      subst e2
      have x := Ext.new (o := .lst ((sortI ns).map V.int)) e nq
      exact k _ _ _ x ⟨q, _, rfl, upd_same, Reps.ints _⟩
  · cases h
/-! ### isinstance against built-in types -/
def tyName : D → Option String
  | .non => some "NoneType"
  | .bl _ => some "bool"
  | .int _ => some "int"
  | .str _ => some "str"
  | .lst _ => some "list"
  | .tup _ => some "tuple"
  | .dic _ _ => some "dict"
  | .obj _ _ _ => none
  | .raw _ => none
  | .scr _ => none
  | .xcp _ _ _ => none
def subTy (a b : String) : Bool := a == b || (a == "bool" && b == "int")
def btys : List String := ["int", "bool", "str", "list", "tuple", "dict"]
theorem kit_sub : ∀ {d : D} {a b : String}, tyName d = some a → b ∈ btys → kitB a b = some (subTy a b) := by
  have key : ∀ a ∈ ["NoneType", "bool", "int", "str", "list", "tuple", "dict"], ∀ b ∈ btys, kitB a b = some (subTy a b) := by decide +kernel
  intro d a b h hb
  refine key a ?_ b hb
  cases d <;> first | (cases h; decide) | cases h
theorem tyX_of {E : DE} {S H : Hp} : ∀ {d : D} {v : V} {a : String}, Same S H → Top E S H d v → tyName d = some a → TyX E.K H v (.type a)
  | .non, _, _, e, h, t => by cases h; cases t; exact .base .non
  | .bl b, _, _, e, h, t => by cases h; cases t; exact .base (.bl b)
  | .int i, _, _, e, h, t => by cases h; cases t; exact .base (.int i)
  | .str l, _, _, e, h, t => by cases h; cases t; exact .base (.str _)
  | .lst xs, _, _, e, ⟨p, vs, h1, h2, _⟩, t => by subst h1; cases t; exact .base (.lst h2)
  | .tup xs, _, _, e, ⟨p, vs, h1, h2, _⟩, t => by
    subst h1; cases t
    rcases h2 with (h2 | ⟨o, h2⟩) | ⟨o, its, n, h2, h3, _⟩
    · exact .base (.tup (e _ _ h2))
    · exact .fTuple (e _ _ h2)
    · exact .kTuple h2 h3
  | .dic ks xs, _, _, e, ⟨p, vs, h1, h2, _⟩, t => by subst h1; cases t; exact .base (.dK h2)
  | .obj _ _ _, _, _, _, _, t => by cases t
  | .raw _, _, _, _, _, t => by cases t
  | .scr _, _, _, _, _, t => by cases t
  | .xcp _ _ _, _, _, _, _, t => by cases t
def gIsi (b : String) (x : D) : Option D := (tyName x).map fun a => .bl (subTy a b)
def gIsiT (bs : List String) (x : D) : Option D := (tyName x).map fun a => .bl (bs.any (subTy a))
section
variable {F : Fc} {W : WX} {X : Cx} {pos p2 p3 p4 p5 : Pos} {a b : Expr} {fa fb : Ds → Out Opd} {x y z : Str}
theorem d_isi {c : String} (hK : X.K = F.E.K) (hc : c ∈ btys) (hg : Gl X "isinstance") (hm : X.mg "isinstance" = none) (hg2 : Gl X y) (hm2 : X.mg y = none) (hv2 : bootBuiltins y = some (.type c)) (ha : DPO F W X a fa) (hn : y ≠ "__name__" := by decide) (hdb : (y == ("__debug__" : Str)) = false := by decide)
    (he : starEach [a, .Name y p3] X.env = (false, eval a X.env) :: starEach [.Name y p3] X.env := by rfl) : DPE F W X (.Call (.Name "isinstance" p2) [a, .Name y p3] [] pos) (eOp1 (gIsi c) fa) :=
  pe_of (pe_callB call_isi hg hm (by decide +kernel) (pa_cons ha (pa_cons (pe_bltn (v := .ty c) hg2 hm2 hv2 rfl hn hdb) pa_nil) he) (by decide) (by decide) he) fun σ H Q h =>
    tUn_of (r := fun v H Q => rIsi X.K [v, .ty c] H Q) (fun S H d v d' Q e hx h k => by
      unfold gIsi at h
      cases ht : tyName d with
      | none => rw [ht] at h; cases h
      | some t =>
        rw [ht] at h
        cases h
        exact ⟨v, .ty c, _, _, _, rfl, .ty c, by rw [hK]; exact tyX_of e hx ht, kit_ty (kit_sub ht hc), k.here rfl⟩) σ H Q h
theorem d_isiT {c1 c2 : String} {k : Nat} (hK : X.K = F.E.K) (hc1 : c1 ∈ btys) (hc2 : c2 ∈ btys) (hg : Gl X "isinstance") (hm : X.mg "isinstance" = none) (hg2 : Gl X y) (hm2 : X.mg y = none) (hv2 : bootBuiltins y = some (.type c1)) (hg3 : Gl X z) (hm3 : X.mg z = none) (hv3 : bootBuiltins z = some (.type c2)) (ha : DPO F W X a fa)
    (hn : y ≠ "__name__" := by decide) (hdb : (y == ("__debug__" : Str)) = false := by decide) (hn2 : z ≠ "__name__" := by decide) (hdb2 : (z == ("__debug__" : Str)) = false := by decide)
    (he : starEach [a, .Tuple [.Name y p3, .Name z p4] k p5] X.env = (false, eval a X.env) :: starEach [.Tuple [.Name y p3, .Name z p4] k p5] X.env := by rfl) : DPE F W X (.Call (.Name "isinstance" p2) [a, .Tuple [.Name y p3, .Name z p4] k p5] [] pos) (eOp1 (gIsiT [c1, c2]) fa) :=
  pe_of (pe_callB call_isiT hg hm (by decide +kernel) (pa_cons ha (pa_cons (pe_tup (pa_cons (pe_bltn (v := .ty c1) hg2 hm2 hv2 rfl hn hdb) (pa_cons (pe_bltn (v := .ty c2) hg3 hm3 hv3 rfl hn2 hdb2) pa_nil))) pa_nil) he) (by decide) (by decide) he) fun σ H Q h =>
    tUn_of (r := fun v H Q => (2 : Nat) ≤ sizeLine ∧ ∀ p, H p = none → rIsiT X.K [v, .ref p] (upd H p (.tup [.ty c1, .ty c2])) Q) (fun S H d v d' Q e hx h k => by
      unfold gIsiT at h
      cases ht : tyName d with
      | none => rw [ht] at h; cases h
      | some t =>
        rw [ht] at h
        cases h
        refine ⟨sz_of (m := 2) (Nat.le_refl _), fun p np => ?_⟩
        have x := Ext.newH (o := .tup [.ty c1, .ty c2]) e np
        have hx' : Top F.E S (upd H p (.tup [.ty c1, .ty c2])) d v := by
          cases d with
          | lst xs => obtain ⟨q, vs, h1, h2, h3⟩ := hx; exact ⟨q, vs, h1, x.h _ _ h2, h3⟩
          | dic ks xs => obtain ⟨q, vs, h1, h2, h3⟩ := hx; exact ⟨q, vs, h1, x.h _ _ h2, h3⟩
          | non => exact hx
          | bl _ => exact hx
          | int _ => exact hx
          | str _ => exact hx
          | tup _ => exact hx
          | obj _ _ _ => exact hx
          | raw _ => exact hx
          | scr _ => exact hx
          | xcp _ _ _ => exact hx
        refine ⟨v, p, _, _, [.type c1, .type c2], _, rfl, upd_same, .cons (.ty c1) (.cons (.ty c2) .nil), by rw [hK]; exact tyX_of (x.b e) hx' ht, ?_, k _ _ _ x rfl⟩
        have k1 := kit_ty (K := X.K) (kit_sub ht hc1)
        have k2 := kit_ty (K := X.K) (kit_sub ht hc2)
        have k3 : PySem.W.kitAny X.K (.type t) [.type c2] = some (subTy t c2) := kitAny_cons k2 (fun z => by rw [z]; exact kitAny_nil) (fun z => z)
        refine kitAny_cons k1 (fun z => ?_) (fun z => ?_)
        · rw [k3]; simp [z]
        · simp [z]) σ H Q h
end
end DV

set_option Elab.async false
set_option linter.all false
set_option maxRecDepth 100000
set_option maxHeartbeats 4000000
/-! DVS: rules of the model that the hand layer lacks: text * int, int(text, 2), {n:b}, list(text). -/
namespace DV
open PySem PySem.Spec PyProof.Rows L2

/-! ### text * int -/
theorem op_mulS {X : Cx} : OpR X (binaryOp .Mult) (fun x y H Q => ∃ (l : List Nat) (n : Int), x = .str (SX.S l) ∧ y = .int n ∧ 0 ≤ n ∧ n ≤ 1000000 ∧ l.length * n.toNat ≤ 1000000 ∧ Q (.str (SX.S (List.replicate n.toNat l).flatten)) H) := by
  intro pins s σ H x y v u Q I rx ry h
  obtain ⟨l, n, rfl, rfl, h0, h1, h2, q⟩ := h
  obtain ⟨t, rfl⟩ := rx
  obtain ⟨t', rfl⟩ := ry
  have hok : MulOk (SX.S l) n := by
    refine ⟨?_, fun hn hz => ?_, fun hn hz => ?_⟩
    · have e63 : (2 ^ 63 : Int) = 9223372036854775808 := by decide
      rw [Bool.or_eq_false_iff]
      exact ⟨decide_eq_false (by rw [e63]; omega), decide_eq_false (by rw [e63]; omega)⟩
    · rw [SX.S_len]
      have hl : (l.length : Int) * n ≤ 1000000 := by
        have := Int.toNat_of_nonneg h0
        rw [← this, ← Int.natCast_mul]
        exact Int.ofNat_le.mpr h2
      have hp : 0 < n := by omega
      intro hc
      have hc' : (2 ^ 63 - 1 : Int) / n < l.length := hc
      have h3 : (2 ^ 63 - 1 : Int) < l.length * n := (Int.ediv_lt_iff_lt_mul hp).mp hc'
      have e63 : (2 ^ 63 - 1 : Int) = 9223372036854775807 := by decide
      rw [e63] at h3
      omega
    · rw [SX.S_len]
      refine decide_eq_false ?_
      have z := sizeLine_eq
      omega
  refine SB.mul hok fun t'' k => ⟨.str (SX.S (List.replicate n.toNat l).flatten), H, I.tok _, ⟨t'', ?_⟩, q⟩
  congr 1
  unfold Txt.mul
  have flat : ∀ (m : Nat) (acc : List Nat), (List.replicate m (SX.S l).cps).foldl (fun a b => a ++ b) acc.toArray = (acc ++ (List.replicate m l).flatten).toArray := fun m => by
    induction m with
    | zero => intro acc; simp
    | succ m ih =>
      intro acc
      rw [List.replicate_succ, List.foldl_cons]
      have e : acc.toArray ++ (SX.S l).cps = (acc ++ l).toArray := by simp [SX.S]
      rw [e, ih, List.replicate_succ, List.flatten_cons, List.append_assoc]
  by_cases hn : n < 1
  · have : n.toNat = 0 := by omega
    rw [if_pos hn, this]
    rfl
  · rw [if_neg hn]
    split
    · rename_i hc
      rw [Bool.or_eq_true, beq_iff_eq, beq_iff_eq] at hc
      rcases hc with rfl | hc
      · show SX.S l = SX.S (List.replicate 1 l).flatten
        simp
      · have : l = [] := by
          rw [SX.S_len] at hc
          exact List.eq_nil_of_length_eq_zero hc
        subst this
        show SX.S [] = SX.S _
        congr 1
        induction n.toNat with
        | zero => rfl
        | succ m ih => rw [List.replicate_succ, List.flatten_cons, ← ih]; rfl
    · have := flat n.toNat []
      show (⟨_⟩ : Str) = ⟨_⟩
      congr 1
def rMulA : R2 := fun x y H Q => rI CMul (fun i j => .int (i * j)) x y H Q ∨ ((∃ (l : List Nat) (n : Int), x = .str (SX.S l) ∧ y = .int n ∧ 0 ≤ n ∧ n ≤ 1000000 ∧ l.length * n.toNat ≤ 1000000 ∧ Q (.str (SX.S (List.replicate n.toNat l).flatten)) H) ∨ rRep x y H Q)
theorem op_mulA {X : Cx} : OpR X (binaryOp .Mult) rMulA := op_mul.or (op_mulS.or op_rep)
def gMul (x y : D) : Option D := match x, y with
  | .int i, .int j => if (-(2 ^ 64) < i ∧ i < 2 ^ 64) ∨ (-(2 ^ 64) < j ∧ j < 2 ^ 64) then some (.int (i * j)) else none
  | .str l, .int n => if 0 ≤ n ∧ n ≤ 1000000 ∧ l.length * n.toNat ≤ 1000000 then some (.str (List.replicate n.toNat l).flatten) else none
  | .lst l, .int n => if 0 ≤ n ∧ n ≤ 1000000 ∧ l.length * n.toNat ≤ 1000000 then some (.lst (List.replicate n.toNat l).flatten) else none
  | _, _ => none
theorem Reps.rep {E : DE} {S : Hp} {ds : List D} {vs : List V} (r : Reps E S ds vs) : ∀ n : Nat, Reps E S (List.replicate n ds).flatten (List.replicate n vs).flatten
  | 0 => rfl
  | n + 1 => by
    rw [List.replicate_succ, List.replicate_succ, List.flatten_cons, List.flatten_cons]
    exact r.append (Reps.rep r n)
theorem k_mul {E : DE} : Op2 E rMulA gMul := fun S H x y v w d Q e hx hy h k => by
  unfold gMul at h
  split at h
  · split at h
    · rename_i hc
      cases h; cases hx; cases hy
      exact .inl ⟨_, _, rfl, rfl, hc, k.here rfl⟩
    · cases h
  · split at h
    · rename_i hc
      cases h; cases hx; cases hy
      exact .inr (.inl ⟨_, _, rfl, rfl, hc.1, hc.2.1, hc.2.2, k.here rfl⟩)
    · cases h
  · split at h
    · rename_i n hc
      cases h; cases hy
      obtain ⟨p, vs, rfl, h1, r1⟩ := hx
      refine .inr (.inr ⟨p, n, vs, rfl, rfl, h1, by omega, by omega, by rw [← r1.length]; exact sz_of hc.2.2, fun u nu => ?_⟩)
      have x := Ext.new (o := .lst (List.replicate n.toNat vs).flatten) e nu
      exact k _ _ _ x ⟨u, _, rfl, upd_same, (r1.rep _).mono x.s⟩
    · cases h
  · cases h
/-! ### int(text, 2) -/
namespace Bin
open PySem.NumText PySem.Calls
def IsBin (c : Nat) : Prop := c = 48 ∨ c = 49
theorem hexOf {c : Nat} (h : IsBin c) : Hx.IsHex c := by unfold IsBin at h; unfold Hx.IsHex; omega
def num (l : List Nat) : Nat := l.foldl (fun a c => a * 2 + (c - 48)) 0
theorem hv_eq {c : Nat} (h : IsBin c) : Hx.hv c = c - 48 := by unfold IsBin at h; unfold Hx.hv; rw [if_pos (by omega)]
theorem step2 {ds : Array Nat} {b : Bool} {c : Nat} (h : IsBin c) : PySem.NumText.step 2 (ds, b) c = some (ds.push (c - 48), true) := by
  have h1 := Hx.digit_hex (hexOf h)
  rw [hv_eq h] at h1
  unfold IsBin at h
  unfold PySem.NumText.step
  rw [if_neg (by rw [beq_iff_eq]; omega), h1]
  exact if_pos (by omega)
theorem fold2 : ∀ (cs : List Nat) (ds : Array Nat), (∀ c ∈ cs, IsBin c) → cs.foldlM (PySem.NumText.step 2) (ds, true) = some (cs.foldl (fun a c => a.push (c - 48)) ds, true)
  | [], _, _ => rfl
  | c :: cs, ds, h => by
    rw [List.foldlM_cons, step2 (h c List.mem_cons_self)]
    exact fold2 cs _ fun d hd => h d (List.mem_cons_of_mem _ hd)
theorem digits2 {cs : List Nat} (h : ∀ c ∈ cs, IsBin c) (hne : cs ≠ []) : digits? 2 cs = some (cs.foldl (fun a c => a.push (c - 48)) #[]) := by
  cases cs with
  | nil => exact absurd rfl hne
  | cons c cs =>
    unfold digits?
    rw [List.foldlM_cons, step2 (h c List.mem_cons_self)]
    show (cs.foldlM (PySem.NumText.step 2) ((#[] : Array Nat).push (c - 48), true)).bind _ = _
    rw [fold2 cs _ fun d hd => h d (List.mem_cons_of_mem _ hd)]
    rfl
theorem push2 : ∀ (cs : List Nat) (ds : Array Nat), (cs.foldl (fun a c => a.push (c - 48)) ds).foldl (fun acc d => acc * 2 + d) 0 = cs.foldl (fun a c => a * 2 + (c - 48)) (ds.foldl (fun acc d => acc * 2 + d) 0)
  | [], _ => rfl
  | c :: cs, ds => by
    rw [List.foldl_cons, push2 cs (ds.push (c - 48)), List.foldl_cons]
    congr 1
    simp
theorem pref2 {cs : List Nat} (h : ∀ c ∈ cs, IsBin c) : PySem.NumText.prefix? cs = none := by
  match cs, h with
  | [], _ => rfl
  | [a], _ =>
    unfold  PySem.NumText.prefix?
    split
    · rename_i z; cases z
    · rfl
  | a :: c :: r, h =>
    have hc := h c (List.mem_cons_of_mem _ List.mem_cons_self)
    unfold IsBin at hc
    by_cases ha : a = 48
    · subst ha
      have z : PySem.NumText.prefix? (48 :: c :: r) = if (c == 120 || c == 88) = true then some 16 else if (c == 111 || c == 79) = true then some 8 else if (c == 98 || c == 66) = true then some 2 else none := rfl
      rw [z, if_neg (by rw [Bool.or_eq_true, beq_iff_eq, beq_iff_eq]; omega), if_neg (by rw [Bool.or_eq_true, beq_iff_eq, beq_iff_eq]; omega), if_neg (by rw [Bool.or_eq_true, beq_iff_eq, beq_iff_eq]; omega)]
    · unfold  PySem.NumText.prefix?
      split
      · rename_i z; exact absurd (List.cons.inj z).1 ha
      · rfl
theorem based2 {cs : List Nat} (h : ∀ c ∈ cs, IsBin c) : based 2 cs = (2, false, cs) := by
  unfold based
  rw [pref2 h]
  rfl
theorem read2 {cs : List Nat} (h : ∀ c ∈ cs, IsBin c) (hne : cs ≠ []) : (int_private% "readNumeral") 0 2 cs = (int_private% "Numeral.value") ((num cs : Nat) : Int) := by
  have hh : ∀ c ∈ cs, Hx.IsHex c := fun c hc => hexOf (h c hc)
  have hr : ∀ c ∈ cs.reverse, Hx.IsHex c := fun c hc => hh c (List.mem_reverse.mp hc)
  refine (readNumeral_eq 0 2 cs).trans ?_
  rw [Hx.dropB hh, Hx.signH hh]
  show judge 0 false (based 2 cs).1 (based 2 cs).2.1 (digits? (based 2 cs).1 (((based 2 cs).2.2.reverse.dropWhile blank).reverse)) = _
  rw [based2 h]
  show judge 0 false 2 false (digits? 2 ((cs.reverse.dropWhile blank).reverse)) = _
  rw [Hx.dropB hr, List.reverse_reverse, digits2 h hne]
  show (int_private% "Numeral.value") (((cs.foldl (fun a c => a.push (c - 48)) (#[] : Array Nat)).foldl (fun acc d => acc * 2 + d) 0 : Nat) : Int) = _
  have z : (#[] : Array Nat).foldl (fun acc d => acc * 2 + d) 0 = 0 := by first | rfl | simp
  rw [push2, z] <;> rfl
theorem gives2 {x : PySem.Str} {u t : Tok} (hl : x.length ≤ 640) (h : ∀ c ∈ x.cps.toList, IsBin c) (hne : x.cps.toList ≠ []) : Gives (Builtin.«int.__new__» ⟨[.type "int", .str x u, .int 2 t], []⟩) (.int ((num x.cps.toList : Nat) : Int)) :=
  .of_wp fun M A E s Q hQ => by
    obtain ⟨hp, g, d, tk, os⟩ := s
    have a1 := F.conv_sub_int
    have a2 := F.madeHere_int
    have a3 : typeOf (.str x u) = pure (.type "str") := rfl
    obtain ⟨e1, e2⟩ := Hx.seen_hex (x := x) fun c hc => hexOf (h c hc)
    have hk : Hx.Hid ((numSeenOf x).length ≤ 640 ∧ (int_private% "readNumeral") 0 2 (numSeenOf x) = (int_private% "Numeral.value") ((num x.cps.toList : Nat) : Int) ∧ ((numSeenOf x).length == (numTextOf x).length) = true) :=
      ⟨by rw [e2, Array.length_toList]; exact hl, by rw [e2]; exact read2 h hne, by rw [e1, e2]; exact beq_self_eq_true _⟩
    clear e1 e2 hl hne h
    repeat (any_goals (first
      | assumption
      | ((with_reducible show wpAny _ _ ((int_private% "intFromText") _ _ _) _ _ _); refine Hx.wp_textB hk.out.1 hk.out.2.1 hk.out.2.2 ?_)
      | wp_step))
    all_goals first | exact ⟨_, rfl, hQ⟩ | skip
theorem call2 {prog : Program} {w : World} {A : Around} {E : Value → Shared → Prop} {s : Shared} {Q : Value → Shared → Prop} {x : PySem.Str} {u t : Tok} (hl : x.length ≤ 640) (h : ∀ c ∈ x.cps.toList, IsBin c) (hne : x.cps.toList ≠ [])
    (hQ : Q (.int ((num x.cps.toList : Nat) : Int) s.toks) { s with toks := s.toks + 1 }) : wpAny (model prog w) A (call (.type "int") [.str x u, .int 2 t]) Q E s :=
  callType_new F.called_int F.newNe_int (Hx.typeCall_int_2 _ _) (Hx.newCall_int_2 _ _) (fun obj => F.initArgs_range_2 obj _ _) F.entry_int_new (gives2 hl h hne).meets (show (Made.int ((num x.cps.toList : Nat) : Int)).post _ s from ⟨rfl, hQ⟩)
end Bin
def rIntBin : List V → Hp → VK → Prop := fun xs H Q => ∃ l : List Nat, xs = [.str (SX.S l), .int 2] ∧ l ≠ [] ∧ l.length ≤ 640 ∧ (∀ c ∈ l, Bin.IsBin c) ∧ Q (.int ((Bin.num l : Nat) : Int)) H
theorem call_int_bin {X : Cx} : CallR X (.type "int") rIntBin := by
  intro pins s σ H xs us Q I r h
  obtain ⟨l, rfl, hne, hl, hx, q⟩ := h
  obtain ⟨u, w', rfl, r1, r2⟩ := vals2 r
  obtain ⟨t1, rfl⟩ := r1
  obtain ⟨t2, rfl⟩ := r2
  exact Bin.call2 (x := SX.S l) (by rw [SX.S_len]; exact hl) hx hne ⟨.int ((Bin.num l : Nat) : Int), H, I.tok _, ⟨_, rfl⟩, q⟩
def gIntBase (x y : D) : Option D := match x, y with
  | .str l, .int 2 => if l ≠ [] ∧ l.length ≤ 640 ∧ l.all (fun c => c == 48 || c == 49) = true then some (.int (Bin.num l : Nat)) else none
  | _, _ => none
theorem c_intBase {E : DE} : Call2 E rIntBin gIntBase := fun S H x y v w d Q e hx hy h k => by
  unfold gIntBase at h
  split at h
  · split at h
    · rename_i l hc
      cases h; cases hx; cases hy
      refine ⟨l, rfl, hc.1, hc.2.1, fun c hm => ?_, k.here rfl⟩
      have := List.all_eq_true.mp hc.2.2 c hm
      simpa [Bin.IsBin] using this
    · cases h
  · cases h
end DV

set_option Elab.async false
set_option linter.all false
set_option maxRecDepth 100000
set_option maxHeartbeats 4000000
/-! DVS2: {n:b}, list(text). -/
namespace DV
open PySem PySem.Spec PyProof.Rows L2
namespace Fb
open Builtin Builtin.Str Builtin.Int Builtin.Float
def binL (n : Nat) : List Nat := (Nat.toDigits 2 n).map Char.toNat
section
variable {prog : Program} {w : World} {A : Around} {E : Value → Shared → Prop} {s : Shared}
theorem parse_b : parseFormatSpec [98] "int" 62 = .ok { align := 62, type := some 98 } := by kernel_rfl
theorem mkStr_eq {x y : PySem.Str} {Q : Value → Shared → Prop} (e : x = y) (hs : y.length ≤ sizeLine) (h : Q (.str y s.toks) { s with toks := s.toks + 1 }) : wpAny (model prog w) A (mkStr x) Q E s := by
  subst e
  exact wpAny_mkStr h hs
theorem field_b {a : Nat} {t : Tok} {Q : Value → Shared → Prop} (hl : (binL a).length ≤ 1000) (h : Q (.str (SX.S (binL a)) (s.toks + 1)) { s with toks := s.toks + 1 + 1 }) :
    wpAny (model prog w) A (formatField (.int (a : Int) t) (SX.S [98])) Q E s := by
  show wpAny _ _ (holding [.int (a : Int) t] (pyFormat (.int (a : Int) t) (SX.S [98]))) Q E s
  refine wpAny_holding ?_
  unfold pyFormat
  refine wpAny_bind (wpAny_mkStr ?_ (by rw [SX.S_len]; exact sz_of (m := 1) (Nat.le_refl _)))
  refine wpAny_bind (m := callSpecial? (.int (a : Int) t) (Str.ofString "__format__") [.str (SX.S [98]) s.toks]) (wpAny_callSpecial?_slot (name := Str.ofString "__format__") (typeIs_int _ _ t) PySem.F.slot_int_format ?_)
  refine wpAny_call (codeAny_call_builtin PySem.F.slot_int_format.plain PySem.F.entry_int_format (PySem.F.slot_int_format.check _ _ _ _ _ _ _ _ (typeIs_int _ _ t) (PyProof.Rows.args_int_format _ _) ?_))
  unfold Builtin.«int.__format__»
  have e1 : ((SX.S [98]).length == 0) = false := by decide +kernel
  have e2 : (((SX.S [98]).cps.toList.drop 1).any (· ≥ 128) || ((SX.S [98]).cps.getD 0 0 ≥ 128 && !([60, 62, 61, 94] : List Nat).contains ((SX.S [98]).cps.getD 1 0))) = false := by decide +kernel
  simp only [selfAndOne, noKeywords, Int.intOfSelf, asInt?, asStr?, List.isEmpty_nil, if_true, pure_bind, bind_pure, bind_assoc, e1, e2, Bool.false_eq_true, if_false, show (Value.str (SX.S [98]) s.toks == Value.none) = false from rfl]
  refine wpAny_bind (wpAny_typeNameOf (T := "str") (typeIs_str _ _ _) (by decide) fun _ => ?_)
  refine wpAny_bind (wpAny_typeNameOfCut_int ?_)
  obtain ⟨f, hf⟩ : ∃ f : Builtin.Float.FormatSpec, f = { align := 62, type := some 98 } := ⟨_, rfl⟩
  have e3 : parseFormatSpec (SX.S [98]).cps.toList "int" 62 = .ok f := by rw [hf]; exact parse_b
  have hty : f.type.getD (if (SX.S [98]).cps.back? == some 0 then 0 else 100) = 98 := by rw [hf]; rfl
  have hpr : f.precision = none := by rw [hf]
  have hz : f.noNeg0 = false := by rw [hf]
  have hal : f.alt = false := by rw [hf]
  have hw : f.width = none := by rw [hf]
  simp only [e3, hty]
  rw [if_pos (by decide)]
  show wpAny _ _ (if _ then _ else _) _ _ _
  rw [if_neg (by simp [hpr])]
  show wpAny _ _ (if _ then _ else _) _ _ _
  rw [if_neg (by simp [hz])]
  show wpAny _ _ (if _ then _ else _) _ _ _
  rw [if_neg (by decide)]
  show wpAny _ _ (if _ then _ else _) _ _ _
  rw [if_neg (by decide)]
  show wpAny _ _ (if _ then _ else _) _ _ _
  rw [if_neg (by simp [hw])]
  show wpAny _ _ (retStr _) _ _ _
  unfold retStr
  have hs : PyProof.Rows.intField' f (decide ((a : Int) < 0)) [] ((Nat.toDigits 2 (a : Int).natAbs).map fun c => (if (98 : Nat) == 88 then c.toUpper else c).toNat) [] 4 = SX.S (binL a) := by
    rw [hf]
    have h0 : decide ((a : Int) < 0) = false := decide_eq_false (by omega)
    rw [h0]
    unfold PyProof.Rows.intField'
    simp only [Bool.false_eq_true, if_false]
    have hne : (Nat.toDigits 2 (a : Int).natAbs).map (fun c => (if (98 : Nat) == 88 then c.toUpper else c).toNat) = binL a := by
      unfold binL; simp
    rw [hne]
    have hem : (binL a).isEmpty = false := by
      unfold binL
      cases e : Nat.toDigits 2 a with
      | nil => exact absurd e (by have := Nat.length_toDigits_pos (b := 2) (n := a); intro z; rw [z] at this; simp at this)
      | cons _ _ => rfl
    rw [hem]
    simp
  have fit : (SX.S (binL a)).length ≤ sizeLine := by rw [SX.S_len]; exact sz_of hl
  simp only [hal, Bool.false_eq_true, if_false, show ((2 : Nat) == 10) = false by decide]
  refine wpAny_bind (mkStr_eq (y := SX.S (binL a)) ?e fit (wpAny_pure ?_))
  case e =>
    conv => lhs; whnf
    unfold PyProof.Rows.intField' at hs
    rw [← hs]
    subst hf
    rfl
  dsimp only
  exact wpAny_bind (wpAny_isInstance (typeIs_str _ _ _) isSubtype_str_str (wpAny_pure h))
end
end Fb
/-- f'{n:b}' of one part -/
def gBin (x : D) : Option D := match x with
  | .int i => if 0 ≤ i ∧ (Fb.binL i.toNat).length ≤ 1000 then some (.str (Fb.binL i.toNat)) else none
  | _ => none
section
variable {F : Fc} {W : WX} {X : Cx} {pos p2 p3 : Pos}
def eFb (f : Ds → Out D) (ds : Ds) : Out D := (f ds).bind fun d ds1 => liftO (gBin d) ds1
theorem d_fb {e : Expr} {f : Ds → Out D} {j : Nat} {p4 : Pos} (h : DPE F W X e f) : DPE F W X (.JoinedStr [.FormattedValue e (-1) (some (.JoinedStr [.Constant (.str "b") j p4] p3)) p2] pos) (eFb f) := by
  refine pe_joined1 ⟨fun pins s σ H Q I ⟨S, ds, M, q⟩ => ?_⟩
  refine wpAny_FormattedValue_spec (thn (h.run pins s σ H _ I ⟨S, ds, M, (GPost.bind q).imp (P' := fun d _ S1 H1 => ∀ v, Rep F.E S1 d v → (∃ i : Nat, v = .int (i : Int) ∧ (Fb.binL i).length ≤ 1000 ∧ Q (.str (SX.S (Fb.binL i))) H1)) fun d ds1 S1 H1 e1 M1 q1 v r => ?_⟩) fun v s1 hv => ?_)
  · unfold gBin at q1
    cases d with
    | int i =>
      dsimp only at q1
      by_cases hc : 0 ≤ i ∧ (Fb.binL i.toNat).length ≤ 1000
      · rw [if_pos hc] at q1
        exact ⟨i.toNat, by rw [Int.toNat_of_nonneg hc.1]; exact r, hc.2, q1 H1 S1 (Same.refl _) M1 _ rfl⟩
      · rw [if_neg hc] at q1; exact q1.elim
    | _ => exact q1.elim
  · obtain ⟨x, H1, I1, r1, i, rfl, hl, q1⟩ := hv
    obtain ⟨t, rfl⟩ := r1
    have hs : PE X (.JoinedStr [.Constant (.str "b") j p4] p3) (tC (.str "b")) := pe_joined1 pe_str
    refine thn (hs.run pins s1 σ H1 (fun v H => v = .str "b" ∧ H = H1) I1 (show tC (.str "b") σ H1 _ from ⟨rfl, rfl⟩)) fun r s2 hr => ?_
    obtain ⟨x2, H2, I2, r2, rfl, rfl⟩ := hr
    obtain ⟨t2, rfl⟩ := r2
    exact ⟨_, _, rfl, Fb.field_b (prog := X.prog) hl ⟨.str (SX.S (Fb.binL i)), H2, (I2.tok _).tok _, ⟨_, rfl⟩, q1⟩⟩
end
/-! ### list(text) -/
namespace Ls
section
variable {prog : Program} {w : World} {A : Around} {E : Value → Shared → Prop} {s : Shared}
theorem strHint {x : PySem.Str} {t : Tok} {Q : Bool → Shared → Prop} (h : Q false s) : wpAny (model prog w) A (Builtin.List.listLengthHint (.str x t)) Q E s := by
  unfold Builtin.List.listLengthHint
  refine wpAny_bind (wpAny_specialOf (T := "str") (v := .str x t) rfl PySem.F.str_len ?_)
  generalize hid : ("str.__len__" : String) = id0
  wp_delta
  rw [show splitId id0 = some ("str", "__len__") from by subst hid; decide +kernel]
  subst hid
  refine wpAny_bind (wpAny_isInstance (T := "str") (v := .str x t) (b := true) rfl (by rw [isSubtype_type]; kernel_rfl) ?_)
  refine wpAny_ite_split (fun z => absurd z (by decide)) (fun _ => ?_)
  refine wpAny_ite_split (fun _ => ?_) (fun z => absurd (by decide +kernel) z)
  exact wpAny_bind (wpAny_typeOf (T := "str") (v := .str x t) rfl (wpAny_pure h))
theorem strExt {R : Result → Shared → Prop} (hh : A.handled = none) (x : PySem.Str) (t : Tok) (S : Addr) (res : Value) (c₀ : Nat) (hS : s.heap.get? S = some { cls := .type "list", data := .seq #[] c₀ }) (hn : x.cps.size ≤ sizeLine)
    (hR : ∀ h' tk acc' c', (∀ b o, b ≠ S → s.heap.get? b = some o → h'.get? b = some o) → h'.get? S = some { cls := .type "list", dict := none, data := .seq acc' c', slots := #[] } → ItemsOf (SignAt x) acc' x.cps.size → R (.ok (.ret res)) { s with heap := h', toks := tk }) :
    wpAny (model prog w) A.in1 (Builtin.List.listExtendWith (.ref S) (.str x t) res) (fun fin s' => match fin with | .done f => R (.ok f) s' | .again c' => c'.quiet = true ∧ codeAny (model prog w) A c' R s') (fun e s' => R (.error e) s') s := by
  have n1 : S ∉ [s.heap.objs.size] := fun z => Nat.ne_of_lt (Heap.lt_size hS) (List.mem_singleton.mp z)
  unfold Builtin.List.listExtendWith
  refine wpAny_bind (wpAny_typeOf (T := "str") (v := .str x t) rfl ?_)
  simp only [show Builtin.List.listSameRef (.ref S) (.str x t) = false from rfl, show (Value.type "str" == Value.type "list") = false from by decide, show (Value.type "str" == Value.type "tuple") = false from by decide, Bool.or_false, Bool.false_eq_true, if_false]
  refine wpAny_bind (wpAny_pyIter_str fun o St Wk h0 => wpAny_bind (wpAny_holding (strHint ?_)))
  rw [if_neg (by first | decide | decide +kernel)]
  refine wpAny_pure ⟨plainId_quiet PySem.F.plain_extend_loop _, codeAny_extend_loopS (Wk A.in1 hh).toS hn _ n1 _ x.cps.size 0 _ _ _ rfl (Nat.zero_le _) h0 (Heap.get?_push_of_some _ hS) (ItemsOf.nil _) fun s' acc' c' hm g1 g2 => ?_⟩
  rw [Moved.eq_with hm]
  refine hR _ _ acc' c' (fun b ob hb e => hm.heap b ob (fun z => ?_) (Heap.get?_push_of_some _ e)) g1 g2
  rcases List.mem_cons.mp z with z | z
  · exact hb z
  · have := Heap.lt_size e
    rw [List.mem_singleton.mp z] at this
    exact Nat.lt_irrefl _ this
theorem strInit {R : Result → Shared → Prop} (hh : A.handled = none) (x : PySem.Str) (t : Tok) (S : Addr) (hS : s.heap.get? S = some { cls := .type "list", data := .seq #[] }) (hn : x.cps.size ≤ sizeLine)
    (hR : ∀ h' tk acc' c', (∀ b o, b ≠ S → s.heap.get? b = some o → h'.get? b = some o) → h'.get? S = some { cls := .type "list", dict := none, data := .seq acc' c', slots := #[] } → ItemsOf (SignAt x) acc' x.cps.size → R (.ok (.ret .none)) { s with heap := h', toks := tk }) :
    wpAny (model prog w) A.in1 (Builtin.«list.__init__» ⟨[.ref S, .str x t], []⟩) (fun fin s' => match fin with | .done f => R (.ok f) s' | .again c' => c'.quiet = true ∧ codeAny (model prog w) A c' R s') (fun e s' => R (.error e) s') s := by
  show wpAny _ _ (do let was ← Builtin.List.listItems (.ref S); Builtin.List.listUpdate (.ref S) (fun _ => #[]); letGo was.toList.reverse; Builtin.List.listExtendWith (.ref S) (.str x t) .none) _ _ s
  refine wpAny_bind ?_
  unfold Builtin.List.listItems
  refine wpAny_bind (wpAny_seqItems hS rfl (wpAny_pure ?_))
  show wpAny _ _ (updateSeq S (fun _ => #[]) >>= fun _ => letGo (#[] : Array Value).toList.reverse >>= fun _ => Builtin.List.listExtendWith (.ref S) (.str x t) .none) _ _ s
  refine wpAny_bind (wpAny_updateSeq hS rfl (wpAny_bind (wpAny_letGo ?_)))
  refine strExt hh x t S .none _ (Heap.get?_update_self (Obj.mapSeq (fun _ => (#[] : Array Value))) hS rfl) hn fun h' tk acc' c' hk g1 g2 => ?_
  exact hR h' tk acc' c' (fun b o hb e => hk b o hb ((Heap.get?_update_other _ _ (Ne.symm hb)).trans e)) g1 g2
theorem strList {x : PySem.Str} {t : Tok} {Q : Value → Shared → Prop} (hh : A.handled = none) (hn : x.cps.size ≤ sizeLine)
    (hQ : ∀ h' tk acc' c', (∀ b o, s.heap.get? b = some o → h'.get? b = some o) → h'.get? s.heap.objs.size = some { cls := .type "list", dict := none, data := .seq acc' c', slots := #[] } → ItemsOf (SignAt x) acc' x.cps.size → Q (.ref s.heap.objs.size) { s with heap := h', toks := tk }) :
    wpAny (model prog w) A (call (.type "list") [.str x t]) Q E s := by
  refine callType_codes (Q₁ := fun obj s₁ => obj = .ref s.heap.objs.size ∧ s₁ = { s with heap := s.heap.push { cls := .type "list", data := .seq #[] } }) PySem.F.called_list (PySem.F.typeCall_list_1 _) PySem.F.entry_list_init (code_list_new _ ⟨rfl, rfl⟩) fun obj s₁ h₁ => ?_
  obtain ⟨rfl, rfl⟩ := h₁
  have g0 : (s.heap.push { cls := .type "list", data := .seq #[] }).get? s.heap.objs.size = some { cls := .type "list", data := .seq #[] } := Heap.get?_push_size _ rfl
  exact ⟨⟨_, g0, rfl⟩, PySem.F.args_list_init_2 _ _, strInit (A := A.in1) hh x t _ g0 hn fun h' tk acc' c' hk g1 g2 => ⟨rfl, hQ h' tk acc' c' (fun b o e => hk b o (Nat.ne_of_lt (Heap.lt_size e)) (Heap.get?_push_of_some _ e)) g1 g2⟩⟩
end
end Ls
def signV (l : List Nat) : List V := l.map fun c => V.str (SX.S [c])
def rListS : List V → Hp → VK → Prop := fun xs H Q => ∃ l : List Nat, xs = [.str (SX.S l)] ∧ l.length ≤ sizeLine ∧ ∀ q, H q = none → Q (.ref q) (upd H q (.lst (signV l)))
theorem call_listS {X : Cx} (hc : X.calm = true) : CallR X (.type "list") rListS := by
  intro pins s σ H xs us Q I r h
  obtain ⟨l, rfl, hz, q⟩ := h
  obtain ⟨u, rfl, ru⟩ := vals1 r
  obtain ⟨t, rfl⟩ := ru
  refine Ls.strList (I.ok.hd hc) (by simpa using hz) fun h' tk acc c' hk e hi => ?_
  refine ⟨.ref s.heap.objs.size, upd H s.heap.objs.size (.lst (signV l)), I.laid hk (Nat.le_refl _) ⟨by simpa [signV] using hz, acc.toList, c', ?_, by rw [Array.toArray_toList]; exact e⟩, rfl, q _ (I.hok.fresh (Nat.le_refl _))⟩
  refine vals_of_idx _ _ (by rw [Array.length_toList, hi.1]; simp [signV]) fun j u hj => ?_
  obtain ⟨c, t', hc, rfl⟩ := hi.2 j u (by rw [← Array.getElem?_toList]; exact hj)
  have hc' : l[j]? = some c := by simpa [SX.S] using hc
  exact ⟨V.str (SX.S [c]), by simp [signV, hc'], ⟨_, rfl⟩⟩
section
variable {F : Fc} {W : WX} {X : Cx} {pos p2 : Pos}
def gSigns (x : D) : Option D := match x with
  | .str l => if l.length ≤ 10000000 then some (.lst (l.map fun c => .str [c])) else none
  | _ => none
/-- list(text): a new list -/
theorem d_listS {a : Expr} {fa : Ds → Out D} (hc : X.calm = true) (hg : Gl X "list") (hm : X.mg "list" = none) (ha : DPE F W X a fa) (he : starEach [a] X.env = (false, eval a X.env) :: starEach [] X.env := by rfl) :
    DPN F W X (.Call (.Name "list" p2) [a] [] pos) (fun ds => (fa ds).bind fun d ds1 => liftO (gSigns d) ds1) :=
  pe_of (pe_callTy (call_listS hc) hg hm (by decide +kernel) (pa_cons ha pa_nil he) (he := he)) fun σ H Q ⟨S, ds, M, q⟩ => ⟨S, ds, M, (GPost.bind q).imp fun d ds1 S1 H1 e1 M1 q1 v r => by
    cases d with
    | str l =>
      cases r
      unfold gSigns at q1
      dsimp only at q1
      by_cases hl : l.length ≤ 10000000
      · rw [if_pos hl] at q1
        refine ⟨l, rfl, sz_of hl, fun p np => ?_⟩
        have x := Ext.newH (o := .lst (signV l)) M1.sub np
        obtain ⟨n1, n2, n3, n4⟩ := M1.newOwn np
        refine q1 _ _ x.s (M1.ext x) p n1 n2 n3 n4 ⟨_, upd_same, ?_⟩
        exact Reps.to_map (g := fun c => D.str [c]) (k := fun c => V.str (SX.S [c])) (fun _ => rfl) l
      · rw [if_neg hl] at q1; exact q1.elim
    | _ => exact q1.elim⟩
end
end DV

set_option Elab.async false
set_option linter.all false
set_option maxRecDepth 100000
set_option maxHeartbeats 2000000
/-! DV7: methods of texts, lists that change, calls of defs, a def by its body. -/
namespace DV
open PySem PySem.Spec PyProof.Rows L2
section
variable {F : Fc} {W : WX} {X : Cx} {pos p2 p3 apos : Pos} {o e : Expr}
/-! ### methods of texts -/
def Mt1 (E : DE) (r : V → List V → Hp → VK → Prop) (g : List Nat → D → Option D) : Prop := ∀ S H l y w d Q, Same S H → Top E S H y w → g l y = some d → RetV E S H d Q → r (.str (SX.S l)) [w] H Q
def eM1 (g : List Nat → D → Option D) (fo : Ds → Out D) (fa : Ds → Out Opd) (ds : Ds) : Out D := (fo ds).bind fun o ds1 => match o with
  | .str l => (fa ds1).bind fun a ds2 => match deref ds2 a with
    | some y => liftO (g l y) ds2
    | none => .no
  | _ => .no
theorem d_m1 {id : String} {name : Str} {r : V → List V → Hp → VK → Prop} {g : List Nat → D → Option D} {fo : Ds → Out D} {fa : Ds → Out Opd} (slot : Slot "str" name id) (ty : typeOf (.builtin id) = pure (.type "method_descriptor")) (rule : MtR X id r) (hr : Mt1 F.E r g) (ho : DPE F W X o fo) (he : DPO F W X e fa)
    (hs : starEach [e] X.env = [(false, eval e X.env)] := by rfl) (hbase : attributeBase o name X.env (eval o X.env) = eval o X.env := by rfl) (hline : (apos.endLine == pos.line) = true := by rfl) : DPE F W X (.Call (.Attribute o name apos) [e] [] pos) (eM1 g fo fa) :=
  pe_of (pe_m1 slot ty rule ho he hs hbase hline) fun σ H Q ⟨S, ds, M, q⟩ => ⟨S, ds, M, (GPost.bind q).imp fun d ds1 S1 H1 e1 M1 q1 v r1 => by
    cases d with
    | str l =>
      cases r1
      refine ⟨⟨_, rfl⟩, S1, ds1, M1, (GPost.bind q1).imp fun a ds2 S2 H2 e2 M2 q2 w r2 => ?_⟩
      cases h1 : deref ds2 a with
      | none => rw [h1] at q2; exact q2.elim
      | some y =>
        rw [h1] at q2
        dsimp only at q2
        cases h3 : g l y with
        | none => rw [h3] at q2; exact q2.elim
        | some d =>
          rw [h3] at q2
          exact hr S2 H2 l y w d Q M2.sub (M2.top (Same.refl _) r2 h1) h3 fun u S3 H3 x3 r3 => q2 H3 S3 x3.s (M2.ext x3) u r3
    | _ => exact q1.elim⟩
def gJoin (l : List Nat) (y : D) : Option D := match y with
  | .lst xs => (allOf asStr xs).bind fun ys => if (ys.map List.length).sum + ys.length * l.length ≤ 10000000 then some (.str (TL.joinL l ys)) else none
  | _ => none
theorem len_S (ys : List (List Nat)) : (ys.map SX.S).map (·.length) = ys.map List.length := by
  rw [List.map_map]
  exact List.map_congr_left fun a _ => SX.S_len a
theorem m_join {E : DE} : Mt1 E (fun x xs H Q => ∃ a p, ∃ ys : List Str, x = .str a ∧ xs = [.ref p] ∧ (SqL E.K H p (ys.map V.str) ∨ SqT E.K H p (ys.map V.str)) ∧ (ys.map (·.length)).sum + ys.length * a.length ≤ 16777216 ∧ Q (.str (Txt.join a ys)) H) gJoin := fun S H l y w d Q e hy h k => by
  unfold gJoin at h
  split at h
  · rename_i xs
    cases hs : allOf asStr xs with
    | none => rw [hs] at h; cases h
    | some ys =>
      rw [hs] at h
      have h' : (if (ys.map List.length).sum + ys.length * l.length ≤ 10000000 then some (D.str (TL.joinL l ys)) else none) = some d := h
      split at h'
      · rename_i hl
        cases h'
        obtain ⟨p, rfl, h1⟩ := lst_of str_inv (fun a v h => h) hy hs
        refine ⟨SX.S l, p, ys.map SX.S, rfl, rfl, .inl (by rw [List.map_map]; exact SqL.of h1), ?_, by rw [SX.join_S]; exact k.here rfl⟩
        rw [len_S, List.length_map, SX.S_len]
        omega
      · cases h'
  · cases h
def gZfill (l : List Nat) (y : D) : Option D := match y with
  | .int i => if 0 ≤ i ∧ i ≤ 100000 then some (.str (Txt.zfill (SX.S l) i).cps.toList) else none
  | _ => none
theorem m_zfill {E : DE} : Mt1 E (fun x xs H Q => ∃ (a : Str) (i : Int), x = .str a ∧ xs = [.int i] ∧ PadOk i = true ∧ Q (.str (Txt.zfill a i)) H) gZfill := fun S H l y w d Q e hy h k => by
  unfold gZfill at h
  split at h
  · split at h
    · rename_i i hc
      cases h; cases hy
      refine ⟨_, i, rfl, rfl, ?_, ?_⟩
      · unfold PadOk
        rw [Bool.and_eq_true, Bool.not_eq_true']
        have e63 : (2 ^ 63 : Int) = 9223372036854775808 := by decide
        refine ⟨?_, ?_⟩
        · unfold fitsSsize
          rw [Bool.not_eq_true', Bool.or_eq_false_iff]
          exact ⟨decide_eq_false (by rw [e63]; omega), decide_eq_false (by rw [e63]; omega)⟩
        · refine decide_eq_false ?_
          have := sizeLine_eq
          omega
      · have e1 : Txt.zfill (SX.S l) i = SX.S (Txt.zfill (SX.S l) i).cps.toList := (SX.S_tl _).symm
        rw [e1]
        exact k.here rfl
    · cases h
  · cases h
theorem d_join {fo : Ds → Out D} {fa : Ds → Out Opd} (hK : X.K = F.E.K) (ho : DPE F W X o fo) (he : DPO F W X e fa) (hs : starEach [e] X.env = [(false, eval e X.env)] := by rfl) (hbase : attributeBase o "join" X.env (eval o X.env) = eval o X.env := by rfl) (hline : (apos.endLine == pos.line) = true := by rfl) :
    DPE F W X (.Call (.Attribute o "join" apos) [e] [] pos) (eM1 gJoin fo fa) :=
  d_m1 PySem.F.slot_str_join PySem.F.type_str_join mt_join (by rw [hK]; exact m_join) ho he hs hbase hline
theorem d_zfill {fo : Ds → Out D} {fa : Ds → Out Opd} (ho : DPE F W X o fo) (he : DPO F W X e fa) (hs : starEach [e] X.env = [(false, eval e X.env)] := by rfl) (hbase : attributeBase o "zfill" X.env (eval o X.env) = eval o X.env := by rfl) (hline : (apos.endLine == pos.line) = true := by rfl) :
    DPE F W X (.Call (.Attribute o "zfill" apos) [e] [] pos) (eM1 gZfill fo fa) :=
  d_m1 PySem.F.slot_str_zfill PySem.F.type_str_zfill mt_zfill m_zfill ho he hs hbase hline
/-! ### lists that change -/
def owLst (ds : Ds) (i : Nat) : Option (Bool × List D) := match ds[i]? with
  | some (.ow b (.lst xs)) => some (b, xs)
  | _ => none
theorem owLst_eq {ds : Ds} {i : Nat} {b : Bool} {xs : List D} (h : owLst ds i = some (b, xs)) : ds[i]? = some (.ow b (.lst xs)) := by
  unfold owLst at h
  split at h
  · cases h; assumption
  · cases h
/-- x[i] = e, x an own list -/
def sSetIx (j : Nat) (fe fi : Ds → Out D) (ds : Ds) : SO := (fe ds).then fun d ds1 => match owLst ds1 j with
  | some _ => (fi ds1).then fun k ds2 => match owLst ds2 j, k with
    | some (b, xs), .int i => match ixN xs.length i with
      | some n => .nx (ds2.set j (.ow b (.lst (xs.set n d))))
      | none => .no
    | _, _ => .no
  | none => .no
theorem d_setIx {j : Nat} {x : Str} {i : Expr} {fe fi : Ds → Out D} (hN : X.N[j]? = some x) (hv : Vis X.env.scope x) (he : DPE F W X e fe) (hi : DPE F W X i fi)
    (hd : (x == ("__debug__" : Str)) = false := by decide) (hcd : (x == ("__classdict__" : Str)) = false := by decide)
    (hs : swapsWithSole [.Subscript (.Name x p3) i p2] e pos.line X.env = pure false := by rfl) (hw : swappedStores [.Subscript (.Name x p3) i p2] e X.env = pure none := by rfl)
    (h1 : (assignEach [.Subscript (.Name x p3) i p2] X.env).map (·.2) = [assign (.Subscript (.Name x p3) i p2) X.env] := by rfl)
    (ha : ∀ v, assign (.Subscript (.Name x p3) i p2) X.env v = (do
      let ov ← holding [v] (eval (.Name x p3) X.env)
      let iv ← holding [v, ov] (eval i X.env)
      standAt p2
      holding [v, ov, iv] (setItem ov iv v)
      release [v, ov, iv] []) := by intro _; rfl) :
    DPS F W X (.Assign [.Subscript (.Name x p3) i p2] e pos) (sSetIx j fe fi) :=
  ps_of (ps_asg he (pg_sub (pe_var hN hv hd hcd) hi set_list ha) hs hw h1) fun Dn σ H ⟨S, ds, M, q⟩ => ⟨S, ds, M, (GPost.then q).imp fun d ds1 S1 H1 e1 M1 q1 v r => by
    cases h0 : owLst ds1 j with
    | none => rw [h0] at q1; exact q1.elim
    | some o0 =>
      rw [h0] at q1
      obtain ⟨b0, xs0⟩ := o0
      obtain ⟨p, hp, _⟩ := M1.ow j b0 _ (owLst_eq h0)
      refine ⟨.ref p, hp, S1, ds1, M1, (GPost.then q1).imp fun k ds2 S2 H2 e2 M2 q2 w r2 => ?_⟩
      cases h2 : owLst ds2 j with
      | none => rw [h2] at q2; exact q2.elim
      | some o2 =>
        obtain ⟨b, xs⟩ := o2
        rw [h2] at q2
        cases k with
        | int i =>
          cases r2
          dsimp only at q2
          cases h3 : ixN xs.length i with
          | none => rw [h3] at q2; exact q2.elim
          | some n =>
            rw [h3] at q2
            have e2' := owLst_eq h2
            obtain ⟨p2, hp2, _, ⟨vs, hH, rs⟩, _⟩ := M2.ow j b _ e2'
            rw [hp] at hp2; cases hp2
            refine ⟨p, vs, i, n, rfl, rfl, hH, by rw [← rs.length]; exact h3, ?_⟩
            exact q2 σ _ S2 (Same.refl _) (M2.write e2' hp (fun _ z => nomatch z) ⟨_, upd_same, rs.set n (r.mono e2)⟩)
        | _ => exact q2.elim⟩
/-- x.append(e), x an own list -/
def sApp (j : Nat) (fe : Ds → Out D) (ds : Ds) : SO := match owLst ds j with
  | some _ => (fe ds).then fun d ds1 => match owLst ds1 j with
    | some (b, xs) => if xs.length ≤ 1000000 then .nx (ds1.set j (.ow b (.lst (xs ++ [d])))) else .no
    | none => .no
  | none => .no
theorem d_app {j : Nat} {x : Str} {fe : Ds → Out D} {spos : Pos} (hN : X.N[j]? = some x) (hv : Vis X.env.scope x) (he : DPE F W X e fe) (hK : X.K = F.E.K)
    (hd : (x == ("__debug__" : Str)) = false := by decide) (hcd : (x == ("__classdict__" : Str)) = false := by decide)
    (hbase : attributeBase (.Name x p3) "append" X.env (eval (.Name x p3) X.env) = eval (.Name x p3) X.env := by rfl)
    (hfew : ((backTo pos (starEach (e :: []) X.env)).all (fun x => !x.1) && (backToKw pos (keywordEach [] X.env)).all (fun x => x.1.isSome) && decide ((e :: []).length + ([] : List Keyword).length + (if ([] : List Keyword).isEmpty then 0 else 1) < 30)) = true := by rfl)
    (hline : (apos.endLine == pos.line) = true := by rfl) (hs : starEach (e :: []) X.env = (false, eval e X.env) :: starEach [] X.env := by rfl)
    (hsw : swapsWith (.Call (.Attribute (.Name x p3) "append" apos) [e] [] pos) none spos.line X.env = pure false := by rfl) :
    DPS F W X (.Expr (.Call (.Attribute (.Name x p3) "append" apos) [e] [] pos) spos) (sApp j fe) :=
  ps_of (ps_expr (pe_bm PySem.F.plainAttrs_list PySem.F.slot_list_append PySem.F.type_list_append mt_append (pe_var hN hv hd hcd) (pa_cons he pa_nil hs) hbase hfew hline hs rfl) hsw) fun Dn σ H ⟨S, ds, M, q⟩ => by
    unfold sApp at q
    cases h0 : owLst ds j with
    | none => rw [h0] at q; exact q.elim
    | some o0 =>
      rw [h0] at q
      obtain ⟨b0, xs0⟩ := o0
      obtain ⟨p, hp, _, ⟨vs0, hH0, _⟩, _⟩ := M.ow j b0 _ (owLst_eq h0)
      refine ⟨.ref p, hp, Or.inl ⟨rfl, _, .inl (.inl hH0)⟩, S, ds, M, (GPost.then q).imp fun d ds1 S1 H1 e1 M1 q1 v r => ?_⟩
      cases h2 : owLst ds1 j with
      | none => rw [h2] at q1; exact q1.elim
      | some o2 =>
        obtain ⟨b, xs⟩ := o2
        rw [h2] at q1
        dsimp only at q1
        by_cases hl : xs.length ≤ 1000000
        · rw [if_pos hl] at q1
          have e2' := owLst_eq h2
          obtain ⟨p2, hp2, _, ⟨vs, hH, rs⟩, _⟩ := M1.ow j b _ e2'
          rw [hp] at hp2; cases hp2
          refine ⟨p, vs, v, rfl, rfl, hH, ?_, ?_⟩
          · rw [← rs.length, sizeLine_eq]; omega
          · exact q1 σ _ S1 (Same.refl _) (M1.write e2' hp (fun _ z => nomatch z) ⟨_, upd_same, rs.append (.cons r .nil)⟩)
        · rw [if_neg hl] at q1; exact q1.elim
end
end DV

set_option Elab.async false
set_option linter.all false
set_option maxRecDepth 100000
set_option maxHeartbeats 2000000
/-! DV8: what a def promises, its calls, a def by its body. -/
namespace DV
open PySem PySem.Spec PyProof.Rows L2

theorem RepX.h0 {E : DE} {S H0 H1 : Hp} {x : Exn} {cls : Value} {dx : Option Addr} {H : Hp} (h : RepX E S H1 x cls dx H) (k : ∀ d, H1 d = none → H0 d = none) : RepX E S H0 x cls dx H := by
  obtain ⟨C, d, vs, h1, h2, h3, h4, h5, h6, h7⟩ := h
  exact ⟨C, d, vs, h1, h2, h3, h4, h5, k d h6, h7⟩
inductive FO where
  | ok (d : D)
  | ex (x : Exn)
  | no
/-- with what stands behind in the list that was handed in -/
inductive FIO where
  | ok (r : D) (d : D)
  | ex (x : Exn) (d : D)
  | no
structure Ret (E : DE) (T : List (Addr × Str)) (io : List Addr) (S H S' H' : Hp) : Prop where
  s : Same S S'
  fr : ∀ a o, S' a = some o → S a = some o ∨ H a = none
  sub : Same S' H'
  keep : ∀ a o, H a = some o → a ∉ io → (∀ ps, o ≠ .tbl ps) → H' a = some o
  tblk : ∀ a ps, H a = some (.tbl ps) → ∃ ps', H' a = some (.tbl ps')
  tabs : LamX.Tabs T H'
  nt : NoTbl S'
section
variable {F : Fc} {S H S' H' : Hp} {ds : Ds} {σ : St}
theorem Match.toRet (M : Match F S ds σ H) : Ret F.E F.T (F.iom.map (·.2)) F.S0 F.H0 S H where
  s := M.old
  fr := fun a o h => by
    rcases M.fresh a o h with ⟨o', e⟩ | n
    · have := M.old _ _ e
      rw [h] at this
      cases this
      exact .inl e
    · exact .inr n
  sub := M.sub
  keep := M.keep
  tblk := M.tblk
  tabs := M.tabs
  nt := M.nt
theorem own_keep {E : DE} {p : Addr} {d : D} (e : Same S S') (g : ∀ o, H p = some o → (∀ ps, o ≠ .tbl ps) → H' p = some o) (h : OwnRep E S H p d) : OwnRep E S' H' p d := by
  obtain ⟨o, ho, nt⟩ := h.some_of
  exact h.ext e fun o' e' => by
    rw [ho] at e'; cases e'
    exact g o ho nt
theorem Match.ret (M : Match F S ds σ H) (R : Ret F.E F.T [] S H S' H') : Match F S' ds σ H' where
  nt := R.nt
  sub := R.sub
  old := M.old.trans R.s
  fresh := fun a o h => by
    rcases R.fr a o h with z | z
    · exact M.fresh a o z
    · exact .inr (M.new z)
  keep := fun a o h n t => R.keep a o (M.keep a o h n t) (by simp) t
  tblk := fun a ps h => let ⟨ps', z⟩ := M.tblk a ps h; R.tblk a ps' z
  tabs := R.tabs
  len := M.len
  sh := fun i d e => let ⟨v, h1, h2⟩ := M.sh i d e; ⟨v, h1, h2.mono R.s⟩
  ow := fun i b d e => by
    obtain ⟨p, h1, h2, h3, h4, h5⟩ := M.ow i b d e
    obtain ⟨o, ho, nt⟩ := h3.some_of
    refine ⟨p, h1, ?_, own_keep R.s (fun o h t => R.keep p o h (by simp) t) h3, h4, h5⟩
    cases q : S' p with
    | none => rfl
    | some u =>
      rcases R.fr p u q with z | z
      · rw [h2] at z; cases z
      · rw [ho] at z; cases z
  inj := M.inj
  io := M.io
  pin := fun a o e => by
    obtain ⟨h1, h2, h4, h3⟩ := M.pin a o e
    refine ⟨h1, R.keep a o h2 (by simp) h1, ?_, h3⟩
    cases q : S' a with
    | none => rfl
    | some u =>
      rcases R.fr a u q with z | z
      · rw [h4] at z; cases z
      · rw [h2] at z; cases z
theorem Match.retIO (M : Match F S ds σ H) {j : Nat} {b : Bool} {d d' : D} {p : Addr} (e : ds[j]? = some (.ow b d)) (hp : σ[j]? = some (some (.ref p))) (R : Ret F.E F.T [p] S H S' H') (r : OwnRep F.E S' H' p d') : Match F S' (ds.set j (.ow b d')) σ H' := by
  obtain ⟨q0, hq, nS, rO, n0, mI⟩ := M.ow j b d e
  rw [hp] at hq; cases hq
  obtain ⟨op, hop, ntp⟩ := rO.some_of
  have hi : j < ds.length := (List.getElem?_eq_some_iff.mp e).1
  have nS' : S' p = none := by
    cases q : S' p with
    | none => rfl
    | some u =>
      rcases R.fr p u q with z | z
      · rw [nS] at z; cases z
      · rw [hop] at z; cases z
  have oth : ∀ (k : Nat) c d2 p2, k ≠ j → ds[k]? = some (.ow c d2) → σ[k]? = some (some (.ref p2)) → p2 ≠ p := fun k c d2 p2 hk h1 h2 z => by
    subst z
    exact hk (M.inj k j _ _ _ _ _ h1 e h2 hp)
  exact {
    nt := R.nt
    sub := R.sub
    old := M.old.trans R.s
    fresh := fun a o h => by
      rcases R.fr a o h with z | z
      · exact M.fresh a o z
      · exact .inr (M.new z)
    keep := fun a o h n t => by
      refine R.keep a o (M.keep a o h n t) ?_ t
      intro z
      have z' : a = p := by simpa using z
      subst z'
      cases b with
      | false => rw [n0 rfl] at h; cases h
      | true => exact n (List.mem_map.mpr ⟨_, mI rfl, rfl⟩)
    tblk := fun a ps h => let ⟨ps', z⟩ := M.tblk a ps h; R.tblk a ps' z
    tabs := R.tabs
    len := by rw [List.length_set]; exact M.len
    sh := fun i d2 z => by
      by_cases hj : j = i
      · subst hj; rw [List.getElem?_set_self hi] at z; cases z
      · rw [List.getElem?_set_ne hj] at z
        obtain ⟨v, h1, h2⟩ := M.sh i d2 z
        exact ⟨v, h1, h2.mono R.s⟩
    ow := fun i c d2 z => by
      by_cases hj : j = i
      · subst hj
        rw [List.getElem?_set_self hi] at z
        cases z
        exact ⟨p, hp, nS', r, n0, mI⟩
      · rw [List.getElem?_set_ne hj] at z
        obtain ⟨p2, h1, h2, h3, h4, h5⟩ := M.ow i c d2 z
        obtain ⟨o, ho, nt⟩ := h3.some_of
        have np := oth i c d2 p2 (Ne.symm hj) z h1
        refine ⟨p2, h1, ?_, own_keep R.s (fun o h t => R.keep p2 o h (by simpa using np) t) h3, h4, h5⟩
        cases q : S' p2 with
        | none => rfl
        | some u =>
          rcases R.fr p2 u q with z | z
          · rw [h2] at z; cases z
          · rw [ho] at z; cases z
    inj := fun a a' x y c z p' q1 q2 => by
      have g : ∀ (k : Nat) (w : Bool) (u : D), (ds.set j (.ow b d'))[k]? = some (.ow w u) → ∃ u', ds[k]? = some (.ow w u') := fun k w u hk => by
        by_cases n : j = k
        · subst n
          rw [List.getElem?_set_self hi] at hk
          cases hk
          exact ⟨_, e⟩
        · rw [List.getElem?_set_ne n] at hk
          exact ⟨_, hk⟩
      obtain ⟨u1, g1⟩ := g _ _ _ q1
      obtain ⟨u2, g2⟩ := g _ _ _ q2
      exact M.inj a a' x _ c _ p' g1 g2
    io := fun x hx => by
      obtain ⟨d2, a1, a2⟩ := M.io x hx
      by_cases n : j = x.1
      · refine ⟨d', ?_, a2⟩
        rw [← n]
        rw [← n, e] at a1
        cases a1
        exact List.getElem?_set_self hi
      · exact ⟨d2, by rw [List.getElem?_set_ne n]; exact a1, a2⟩
    pin := fun a o q => by
      obtain ⟨h1, h2, h4, h3⟩ := M.pin a o q
      have np : a ≠ p := fun z => by subst z; exact h3 j b d e hp
      refine ⟨h1, R.keep a o h2 (by simpa using np) h1, ?_, fun i c d2 z => ?_⟩
      · cases q : S' a with
        | none => rfl
        | some u =>
          rcases R.fr a u q with z | z
          · rw [h4] at z; cases z
          · rw [h2] at z; cases z
      · by_cases hj : j = i
        · subst hj
          rw [List.getElem?_set_self hi] at z
          exact h3 j b d e
        · rw [List.getElem?_set_ne hj] at z; exact h3 i c d2 z }
end
/-! ### promises -/
def spD (E : DE) (T : List (Addr × Str)) (G : List D → FO) : Sp := fun vs H Q Ex => ∃ S xs, Same S H ∧ NoTbl S ∧ LamX.Tabs T H ∧ Reps E S xs vs ∧ match G xs with
  | .ok d => ∀ v S' H', Ret E T [] S H S' H' → Rep E S' d v → Q v H'
  | .ex x => ∀ cls dx S' H', Ret E T [] S H S' H' → RepX E S' H x cls dx H' → Ex cls dx H'
  | .no => False
/-- the result is a new object -/
def spN (E : DE) (T : List (Addr × Str)) (G : List D → FO) : Sp := fun vs H Q Ex => ∃ S xs, Same S H ∧ NoTbl S ∧ LamX.Tabs T H ∧ Reps E S xs vs ∧ match G xs with
  | .ok d => ∀ p S' H', Ret E T [] S H S' H' → S' p = none → H p = none → OwnRep E S' H' p d → Q (.ref p) H'
  | .ex x => ∀ cls dx S' H', Ret E T [] S H S' H' → RepX E S' H x cls dx H' → Ex cls dx H'
  | .no => False
/-- the first one is a list that the def changes -/
def spI (E : DE) (T : List (Addr × Str)) (G : D → List D → FIO) : Sp := fun vs H Q Ex => ∃ S p d xs ws, vs = .ref p :: ws ∧ Same S H ∧ NoTbl S ∧ LamX.Tabs T H ∧ S p = none ∧ OwnRep E S H p d ∧ Reps E S xs ws ∧ match G d xs with
  | .ok r d' => ∀ v S' H', Ret E T [p] S H S' H' → OwnRep E S' H' p d' → Rep E S' r v → Q v H'
  | .ex x d' => ∀ cls dx S' H', Ret E T [p] S H S' H' → OwnRep E S' H' p d' → RepX E S' H x cls dx H' → Ex cls dx H'
  | .no => False
theorem spD_len {E : DE} {T : List (Addr × Str)} {G : List D → FO} {n : Nat} (hG : ∀ xs, G xs ≠ .no → xs.length = n) : ∀ vs H Q Ex, spD E T G vs H Q Ex → vs.length = n := fun vs H Q Ex ⟨S, xs, _, _, _, r, h⟩ => by
  rw [← r.length]
  exact hG xs fun z => by rw [z] at h; exact h
theorem spN_len {E : DE} {T : List (Addr × Str)} {G : List D → FO} {n : Nat} (hG : ∀ xs, G xs ≠ .no → xs.length = n) : ∀ vs H Q Ex, spN E T G vs H Q Ex → vs.length = n := fun vs H Q Ex ⟨S, xs, _, _, _, r, h⟩ => by
  rw [← r.length]
  exact hG xs fun z => by rw [z] at h; exact h
theorem spI_len {E : DE} {T : List (Addr × Str)} {G : D → List D → FIO} {n : Nat} (hG : ∀ d xs, G d xs ≠ .no → xs.length + 1 = n) : ∀ vs H Q Ex, spI E T G vs H Q Ex → vs.length = n := fun vs H Q Ex ⟨S, p, d, xs, ws, hv, _, _, _, _, _, r, h⟩ => by
  rw [hv, List.length_cons, ← r.length]
  exact hG d xs fun z => by rw [z] at h; exact h
/-! ### calls -/
def outD (o : FO) (ds : Ds) : Out D := match o with
  | .ok d => .ok d ds
  | .ex x => .ex x ds
  | .no => .no
def eCall (G : List D → FO) (fa : Ds → Out (List D)) (ds : Ds) : Out D := (fa ds).bind fun xs ds1 => outD (G xs) ds1
/-- the first argument is the own list in slot j -/
def eCallI (j : Nat) (G : D → List D → FIO) (fa : Ds → Out (List D)) (ds : Ds) : Out D := match ds[j]? with
  | some (.ow _ _) => (fa ds).bind fun xs ds1 => match ds1[j]? with
    | some (.ow b d) => match G d xs with
      | .ok r d' => .ok r (ds1.set j (.ow b d'))
      | .ex x d' => .ex x (ds1.set j (.ow b d'))
      | .no => .no
    | _ => .no
  | _ => .no
section
variable {F : Fc} {W : WX} {X : Cx} {k : Nat} {f : Addr} {fd : FuncData} {ps : List Str} {x : Str} {p pos p3 : Pos} {e : Expr} {es : List Expr}
theorem spD_use {G : List D → FO} {S H : Hp} {σ : St} {ds : Ds} {xs : List D} {vs : List V} {Q : VK} (M : Match F S ds σ H) (rs : Reps F.E S xs vs) (q : GPost F S σ W (outD (G xs) ds) fun d _ S' H' => ∀ v, Rep F.E S' d v → Q v H') : spD F.E F.T G vs H Q (WE W σ) := by
  refine ⟨S, xs, M.sub, M.nt, M.tabs, rs, ?_⟩
  cases h : G xs with
  | ok d => rw [h] at q; exact fun v S' H' R r => q H' S' R.s (M.ret R) v r
  | ex x => rw [h] at q; exact fun cls dx S' H' R r => q cls dx H' S' R.s (M.ret R) (r.h0 fun d z => M.new z)
  | no => rw [h] at q; exact q
theorem d_call {G : List D → FO} {fa : Ds → Out (List D)} (Fn : FnOk X.prog X.w X.K X.mg X.base (L2.CX X.prog X.w) k f fd ps (spD F.E F.T G)) (tk : Takes X W) (hr : Room k X.A) (hg : Gl X x) (hm : X.mg x = some (.ref f)) (hk : PySem.W.keepIn X.K (.ref f) = true) (hb : Binds X.K fd ps [])
    (ha : DPA F W X (e :: es) fa) (hdb : (x == ("__debug__" : Str)) = false := by decide) (he : starEach (e :: es) X.env = (false, eval e X.env) :: starEach es X.env := by rfl) (hpl : (backTo pos (starEach es X.env)).any (·.1) = false := by rfl) :
    DPE F W X (.Call (.Name x p) (e :: es) [] pos) (eCall G fa) :=
  pe_of (pe_callSD (dvs := []) (E := WE W) Fn hr hg hm hk hb .nil (passAt tk) ha hdb he hpl) fun σ H Q ⟨S, ds, M, q⟩ => ⟨S, ds, M, (GPost.bind q).imp fun xs ds1 S1 H1 e1 M1 q1 vs rs => by
    show spD F.E F.T G (vs ++ []) H1 Q (WE W σ)
    rw [List.append_nil]
    exact spD_use M1 rs q1⟩
theorem d_callN {G : List D → FO} {fa : Ds → Out (List D)} (Fn : FnOk X.prog X.w X.K X.mg X.base (L2.CX X.prog X.w) k f fd ps (spN F.E F.T G)) (tk : Takes X W) (hr : Room k X.A) (hg : Gl X x) (hm : X.mg x = some (.ref f)) (hk : PySem.W.keepIn X.K (.ref f) = true) (hb : Binds X.K fd ps [])
    (ha : DPA F W X (e :: es) fa) (hdb : (x == ("__debug__" : Str)) = false := by decide) (he : starEach (e :: es) X.env = (false, eval e X.env) :: starEach es X.env := by rfl) (hpl : (backTo pos (starEach es X.env)).any (·.1) = false := by rfl) :
    DPN F W X (.Call (.Name x p) (e :: es) [] pos) (eCall G fa) :=
  pe_of (pe_callSD (dvs := []) (E := WE W) Fn hr hg hm hk hb .nil (passAt tk) ha hdb he hpl) fun σ H Q ⟨S, ds, M, q⟩ => ⟨S, ds, M, (GPost.bind q).imp fun xs ds1 S1 H1 e1 M1 q1 vs rs => by
    show spN F.E F.T G (vs ++ []) H1 Q (WE W σ)
    rw [List.append_nil]
    refine ⟨S1, xs, M1.sub, M1.nt, M1.tabs, rs, ?_⟩
    cases h : G xs with
    | ok d =>
      rw [h] at q1
      refine fun p S' H' R n1 n2 r => ?_
      obtain ⟨_, m2, m3, m4⟩ := M1.newOwn n2
      exact q1 H' S' R.s (M1.ret R) p n1 m2 m3 m4 r
    | ex x => rw [h] at q1; exact fun cls dx S' H' R r => q1 cls dx H' S' R.s (M1.ret R) (r.h0 fun d z => M1.new z)
    | no => rw [h] at q1; exact q1⟩
theorem d_callI {j : Nat} {y : Str} {G : D → List D → FIO} {fa : Ds → Out (List D)} (Fn : FnOk X.prog X.w X.K X.mg X.base (L2.CX X.prog X.w) k f fd ps (spI F.E F.T G)) (tk : Takes X W) (hr : Room k X.A) (hg : Gl X x) (hm : X.mg x = some (.ref f)) (hk : PySem.W.keepIn X.K (.ref f) = true) (hb : Binds X.K fd ps [])
    (hN : X.N[j]? = some y) (hv : Vis X.env.scope y) (ha : DPA F W X es fa) (hd : (y == ("__debug__" : Str)) = false := by decide) (hcd : (y == ("__classdict__" : Str)) = false := by decide) (hdb : (x == ("__debug__" : Str)) = false := by decide)
    (he : starEach (.Name y p3 :: es) X.env = (false, eval (.Name y p3) X.env) :: starEach es X.env := by rfl) (hpl : (backTo pos (starEach es X.env)).any (·.1) = false := by rfl) :
    DPE F W X (.Call (.Name x p) (.Name y p3 :: es) [] pos) (eCallI j G fa) :=
  pe_of (pe_callSD (dvs := []) (E := WE W) Fn hr hg hm hk hb .nil (passAt tk) (pa_cons (pe_var hN hv hd hcd) ha he) hdb he hpl) fun σ H Q ⟨S, ds, M, q⟩ => by
    unfold eCallI at q
    cases h0 : ds[j]? with
    | none => rw [h0] at q; exact q.elim
    | some c =>
      cases c with
      | no => rw [h0] at q; exact q.elim
      | sh d => rw [h0] at q; exact q.elim
      | ow b0 d0 =>
        rw [h0] at q
        obtain ⟨p, hp, _⟩ := M.ow j b0 d0 h0
        refine ⟨.ref p, hp, S, ds, M, (GPost.bind q).imp fun xs ds1 S1 H1 e1 M1 q1 ws rs => ?_⟩
        show spI F.E F.T G ((V.ref p :: ws) ++ []) H1 Q (WE W σ)
        rw [List.append_nil]
        cases h1 : ds1[j]? with
        | none => rw [h1] at q1; exact q1.elim
        | some c =>
          cases c with
          | no => rw [h1] at q1; exact q1.elim
          | sh d => rw [h1] at q1; exact q1.elim
          | ow b d =>
            rw [h1] at q1
            dsimp only at q1
            obtain ⟨p2, hp2, nS, rO, _⟩ := M1.ow j b d h1
            rw [hp] at hp2; cases hp2
            refine ⟨S1, p, d, xs, ws, rfl, M1.sub, M1.nt, M1.tabs, nS, rO, rs, ?_⟩
            cases hG : G d xs with
            | ok r d' => rw [hG] at q1; exact fun v S' H' R r' rv => q1 H' S' R.s (M1.retIO h1 hp R r') v rv
            | ex x d' => rw [hG] at q1; exact fun cls dx S' H' R r' rx => q1 cls dx H' S' R.s (M1.retIO h1 hp R r') (rx.h0 fun d z => M1.new z)
            | no => rw [hG] at q1; exact q1
end
/-! ### a def by its body -/
def startD (N : List Str) (xs : List D) : Ds := xs.map Cl.sh ++ List.replicate (N.length - xs.length) .no
def startI (N : List Str) (d : D) (xs : List D) : Ds := .ow true d :: (xs.map Cl.sh ++ List.replicate (N.length - (xs.length + 1)) .no)
def resD (o : SO) : FO := match o with
  | .rt d _ => .ok d
  | .nx _ => .ok .non
  | .ex x _ => .ex x
  | _ => .no
def io0 (ds : Ds) : Option D := match (ds[0]? : Option Cl) with
  | some (.ow true d) => some d
  | _ => none
def resI (o : SO) : FIO := match o with
  | .rt r ds => match io0 ds with
    | some d => .ok r d
    | none => .no
  | .nx ds => match io0 ds with
    | some d => .ok .non d
    | none => .no
  | .ex x ds => match io0 ds with
    | some d => .ex x d
    | none => .no
  | _ => .no
theorem io0_eq {ds : Ds} {d : D} (h : io0 ds = some d) : ds[0]? = some (.ow true d) := by
  unfold io0 at h
  split at h
  · cases h; assumption
  · cases h
/-- the slots at the entry -/
theorem start_sh {E : DE} {S : Hp} : ∀ {xs : List D} {vs : List V} {n : Nat} {i : Nat} {d : D}, Reps E S xs vs → (xs.map Cl.sh ++ List.replicate n Cl.no)[i]? = some (.sh d) → ∃ v, (vs.map some ++ List.replicate n (none : Option V))[i]? = some (some v) ∧ Rep E S d v
  | [], _, n, i, d, _, h => by
    have z : (List.replicate n Cl.no)[i]? = some (.sh d) := h
    rw [List.getElem?_replicate] at z
    split at z <;> cases z
  | x :: xs, _, n, 0, d, ⟨v, w, hv, r1, r2⟩, h => by
    subst hv
    have z : Cl.sh x = Cl.sh d := by simpa using h
    cases z
    exact ⟨v, rfl, r1⟩
  | x :: xs, _, n, i + 1, d, ⟨v, w, hv, r1, r2⟩, h => by
    subst hv
    exact start_sh (i := i) r2 h
theorem start_ow : ∀ {xs : List D} {n i : Nat} {b : Bool} {d : D}, (xs.map Cl.sh ++ List.replicate n Cl.no)[i]? ≠ some (.ow b d)
  | [], n, i, b, d, h => by
    have z : (List.replicate n Cl.no)[i]? = some (.ow b d) := h
    rw [List.getElem?_replicate] at z
    split at z <;> cases z
  | x :: xs, n, 0, b, d, h => by
    have z : Cl.sh x = Cl.ow b d := by simpa using h
    cases z
  | x :: xs, n, i + 1, b, d, h => start_ow (xs := xs) (i := i) h
abbrev fcD (E : DE) (T : List (Addr × Str)) (S H : Hp) : Fc := ⟨E, S, H, [], T, fun _ => none⟩
abbrev fcI (E : DE) (T : List (Addr × Str)) (S H : Hp) (p : Addr) : Fc := ⟨E, S, H, [(0, p)], T, fun _ => none⟩
theorem start_match {E : DE} {T : List (Addr × Str)} {S H : Hp} {N : List Str} {xs : List D} {vs : List V} (e : Same S H) (nt : NoTbl S) (t : LamX.Tabs T H) (r : Reps E S xs vs) : Match (fcD E T S H) S (startD N xs) (start N vs) H where
  nt := nt
  sub := e
  old := Same.refl _
  fresh := fun a o h => .inl ⟨o, h⟩
  keep := fun a o h _ _ => h
  tblk := fun a ps h => ⟨ps, h⟩
  tabs := t
  len := by unfold startD L2.start; simp [r.length]
  sh := fun i d h => by
    unfold startD at h
    unfold L2.start
    rw [← r.length]
    exact start_sh r h
  ow := fun i b d h => absurd h start_ow
  inj := fun i j b d c e' p h _ => absurd h start_ow
  io := fun x hx => absurd hx (by simp)
  pin := fun a o h => by cases h
theorem start_matchI {E : DE} {T : List (Addr × Str)} {S H : Hp} {N : List Str} {p : Addr} {d : D} {xs : List D} {ws : List V} (e : Same S H) (nt : NoTbl S) (t : LamX.Tabs T H) (nS : S p = none) (rO : OwnRep E S H p d) (r : Reps E S xs ws) : Match (fcI E T S H p) S (startI N d xs) (start N (.ref p :: ws)) H where
  nt := nt
  sub := e
  old := Same.refl _
  fresh := fun a o h => .inl ⟨o, h⟩
  keep := fun a o h _ _ => h
  tblk := fun a ps h => ⟨ps, h⟩
  tabs := t
  len := by unfold startI L2.start; simp [r.length]
  sh := fun i d' h => by
    unfold startI at h
    unfold L2.start
    rw [List.length_cons, ← r.length]
    cases i with
    | zero => cases h
    | succ i =>
      have h' : (xs.map Cl.sh ++ List.replicate (N.length - (xs.length + 1)) Cl.no)[i]? = some (.sh d') := h
      exact start_sh (i := i) r h'
  ow := fun i b d' h => by
    unfold startI at h
    cases i with
    | zero => cases h; exact ⟨p, rfl, nS, rO, fun z => (nomatch z), fun _ => by simp⟩
    | succ i => exact absurd h start_ow
  inj := fun i j b d' c e' p' h1 h2 g1 g2 => by
    unfold startI at h1 h2
    cases i with
    | succ i => exact absurd h1 start_ow
    | zero =>
      cases j with
      | succ j => exact absurd h2 start_ow
      | zero => rfl
  io := fun x hx => by
    have : x = (0, p) := by simpa using hx
    subst this
    exact ⟨d, rfl, rfl⟩
  pin := fun a o h => by cases h
section
variable {P : Program} {w : World} {K : PySem.W.Frag} {mg : Str → Option Value} {base : Heap} {x qual : Str} {st : Stmt} {f : Addr} {fd : FuncData} {N ps : List Str} {k : Nat} {T : List (Addr × Str)}
abbrev bcx (P : Program) (w : World) (K : PySem.W.Frag) (mg : Str → Option Value) (base : Heap) (N : List Str) (qual : Str) (st : Stmt) (f : Addr) (cdv : Value) (A : Around) (outer : List Env) (s : Shared) (H : Hp) (E : XK) : Cx :=
  cxOf (L2.CX P w) P w K mg base N qual (defScope st) f cdv A outer s H E
abbrev bW (E : XK) : WX := fun cls d _ H => E cls d H
theorem fn_D {G : List D → FO} {body : Ds → SO} (Fn : Fun K x qual st f fd) (Sc : FnScope N ps (defScope st)) (hG : ∀ xs, G xs ≠ .no → xs.length = ps.length) (hres : ∀ xs, G xs ≠ .no → resD (body (startD N xs)) = G xs)
    (hb : ∀ (cdv : Value) (A : Around) (outer : List Env) (s : Shared) (S H : Hp) (E : XK), Room k (bcx P w K mg base N qual st f cdv A outer s H E).A → Takes (bcx P w K mg base N qual st f cdv A outer s H E) (bW E) → DPSs (fcD ⟨K, mg⟩ T S H) (bW E) (bcx P w K mg base N qual st f cdv A outer s H E) (defBody st) body) :
    FnOk P w K mg base (L2.CX P w) (k + 1) f fd ps (spD ⟨K, mg⟩ T G) := by
  refine Fn.okX Sc (spD_len hG) fun cdv A outer s H vs Q E hr h => ?_
  obtain ⟨S, xs, e, nt, t, r, h⟩ := h
  have hne : G xs ≠ .no := fun z => by rw [z] at h; exact h
  have hR := hres xs hne
  refine ⟨_, hb cdv A outer s S H E hr (takes_of rfl rfl rfl rfl), S, _, start_match e nt t r, ?_⟩
  cases hB : body (startD N xs) with
  | nx ds =>
    rw [hB] at hR
    rw [← hR] at h
    exact fun σ' H' S' e' M' => h .non S' H' M'.toRet rfl
  | rt d ds =>
    rw [hB] at hR
    rw [← hR] at h
    exact fun v σ' H' S' e' M' r' => h v S' H' M'.toRet r'
  | ex z ds =>
    rw [hB] at hR
    rw [← hR] at h
    exact fun cls dx σ' H' S' e' M' r' => h cls dx S' H' M'.toRet r'
  | bk ds => rw [hB] at hR; exact absurd hR.symm hne
  | ct ds => rw [hB] at hR; exact absurd hR.symm hne
  | no => rw [hB] at hR; exact absurd hR.symm hne
theorem fn_I {G : D → List D → FIO} {body : Ds → SO} (Fn : Fun K x qual st f fd) (Sc : FnScope N ps (defScope st)) (hG : ∀ d xs, G d xs ≠ .no → xs.length + 1 = ps.length) (hres : ∀ d xs, G d xs ≠ .no → resI (body (startI N d xs)) = G d xs)
    (hb : ∀ (cdv : Value) (A : Around) (outer : List Env) (s : Shared) (S H : Hp) (p : Addr) (E : XK), Room k (bcx P w K mg base N qual st f cdv A outer s H E).A → Takes (bcx P w K mg base N qual st f cdv A outer s H E) (bW E) → DPSs (fcI ⟨K, mg⟩ T S H p) (bW E) (bcx P w K mg base N qual st f cdv A outer s H E) (defBody st) body) :
    FnOk P w K mg base (L2.CX P w) (k + 1) f fd ps (spI ⟨K, mg⟩ T G) := by
  refine Fn.okX Sc (spI_len hG) fun cdv A outer s H vs Q E hr h => ?_
  obtain ⟨S, p, d, xs, ws, rfl, e, nt, t, nS, rO, r, h⟩ := h
  have hne : G d xs ≠ .no := fun z => by rw [z] at h; exact h
  have hR := hres d xs hne
  refine ⟨_, hb cdv A outer s S H p E hr (takes_of rfl rfl rfl rfl), S, _, start_matchI e nt t nS rO r, ?_⟩
  have own : ∀ {S' H' : Hp} {σ' : St} {ds : Ds} {d' : D}, Match (fcI ⟨K, mg⟩ T S H p) S' ds σ' H' → io0 ds = some d' → OwnRep ⟨K, mg⟩ S' H' p d' := fun {S' H' σ' ds d'} M' h0 => by
    obtain ⟨d2, a1, a2⟩ := M'.io (0, p) (by simp)
    have e0 := io0_eq h0
    obtain ⟨q, b1, _, b3, _⟩ := M'.ow 0 true d' e0
    have a2' : σ'[0]? = some (some (V.ref p)) := a2
    rw [a2'] at b1; cases b1
    exact b3
  cases hB : body (startI N d xs) with
  | nx ds =>
    rw [hB] at hR
    unfold resI at hR
    dsimp only at hR
    cases h0 : io0 ds with
    | none => rw [h0] at hR; exact absurd hR.symm hne
    | some d' =>
      rw [h0] at hR
      rw [← hR] at h
      exact fun σ' H' S' e' M' => h .non S' H' M'.toRet (own M' h0) rfl
  | rt z ds =>
    rw [hB] at hR
    unfold resI at hR
    dsimp only at hR
    cases h0 : io0 ds with
    | none => rw [h0] at hR; exact absurd hR.symm hne
    | some d' =>
      rw [h0] at hR
      rw [← hR] at h
      exact fun v σ' H' S' e' M' r' => h v S' H' M'.toRet (own M' h0) r'
  | ex z ds =>
    rw [hB] at hR
    unfold resI at hR
    dsimp only at hR
    cases h0 : io0 ds with
    | none => rw [h0] at hR; exact absurd hR.symm hne
    | some d' =>
      rw [h0] at hR
      rw [← hR] at h
      exact fun cls dx σ' H' S' e' M' r' => h cls dx S' H' M'.toRet (own M' h0) r'
  | bk ds => rw [hB] at hR; exact absurd hR.symm hne
  | ct ds => rw [hB] at hR; exact absurd hR.symm hne
  | no => rw [hB] at hR; exact absurd hR.symm hne
/-- def ..: return a new object -/
theorem fn_N {G : List D → FO} {g : Ds → Out D} {e : Expr} {rp : Pos} (Fn : Fun K x qual st f fd) (Sc : FnScope N ps (defScope st)) (hbody : defBody st = [.Return (some e) rp]) (hG : ∀ xs, G xs ≠ .no → xs.length = ps.length) (hres : ∀ xs d, G xs = .ok d → ∃ ds, g (startD N xs) = .ok d ds) (hx : ∀ xs x, G xs ≠ .ex x)
    (hb : ∀ (cdv : Value) (A : Around) (outer : List Env) (s : Shared) (S H : Hp) (E : XK), Room k (bcx P w K mg base N qual st f cdv A outer s H E).A → Takes (bcx P w K mg base N qual st f cdv A outer s H E) (bW E) → DPN (fcD ⟨K, mg⟩ T S H) (bW E) (bcx P w K mg base N qual st f cdv A outer s H E) e g) :
    FnOk P w K mg base (L2.CX P w) (k + 1) f fd ps (spN ⟨K, mg⟩ T G) := by
  refine Fn.okX Sc (spN_len hG) fun cdv A outer s H vs Q E hr h => ?_
  obtain ⟨S, xs, e, nt, t, r, h⟩ := h
  cases hg : G xs with
  | no => rw [hg] at h; exact h.elim
  | ex x => exact absurd hg (hx xs x)
  | ok d =>
    rw [hg] at h
    obtain ⟨ds, h1⟩ := hres xs d hg
    rw [hbody]
    refine ⟨_, pss_one (ps_ret (hb cdv A outer s S H E hr (takes_of rfl rfl rfl rfl))), S, _, start_match e nt t r, ?_⟩
    rw [h1]
    exact fun H' S' e' M' p n1 n2 n3 n4 rO => h p S' H' M'.toRet n1 n2 rO
end
end DV

set_option Elab.async false
set_option linter.all false
set_option maxRecDepth 100000
set_option maxHeartbeats 4000000
/-! DVX: own exceptions (over ValueError, own bases between) whose __init__ says super().__init__('..'); self.f = a. -/
namespace DV
open PySem PySem.Spec PyProof.Rows L2
/-- the body of such an __init__ -/
def xBody (txt fld arg : Str) (p0 p1 p2 p3 p4 p5 q1 q2 q3 q4 : Pos) (j : Nat) : List Stmt :=
  [.Expr (.Call (.Attribute (.Call (.Name "super" p0) [] [] p1) "__init__" p2) [.Constant (.str txt) j p3] [] p4) p5, .Assign [.Attribute (.Name "self" q1) fld q2] (.Name arg q3) q4]
/-- what the written part says of the class at C and of its __init__ at fI -/
structure ExT (P : Program) (K : PySem.W.Frag) (nm qual fld arg txt : Str) (st : Stmt) (C fI : Addr) : Prop where
  cls : ∃ nm q N bs bm sn sub ab col dd k0 k1 k2 k3 k5, K.lookup C = some (excClassObj nm q C N bs bm true sn sub ab col dd k0 k1 k2 k3 k5 "ValueError.__new__") ∧ PySem.HandSPX.refsVE bm = true
  sa : PySem.W.findIn K (.ref C) "__setattr__" = some (some (.builtin "object.__setattr__"))
  noN : PySem.W.findIn K (.ref C) fld = some none
  iC : PySem.W.findIn K (.ref C) "__init__" = some (some (.ref fI))
  tC : PySem.W.typeIn K (.ref fI) = some (.type "function")
  kC : PySem.W.keepIn K (.ref C) = true
  exC : PySem.W.subIn K (.ref C) (.type "BaseException") = some true
  veC : PySem.W.subIn K (.ref C) (.type "ValueError") = some true
  tyC : PySem.W.typeIn K (.ref C) = some (.type "type")
  fn : ∃ (oc : Value) (od : Option Addr) (dV kV doc pm : Value) (an : Option Addr) (cda cc : Addr) (ct : Value) (osl : Array (Option Value)), dV = .none ∧ kV = .none ∧
    K.lookup fI = some ⟨oc, od, .func (PySem.W.ksFn "__init__" qual (defArgs st) (defBody st) (defScope st) dV kV doc pm an (.ref cda) ct cc), osl⟩ ∧ PySem.W.codeIn K (.ref cda) qual = true ∧
    (∃ ccl cdd vs ccs file tf, K.lookup cda = some ⟨ccl, cdd, .fields vs, ccs⟩ ∧ vs[2]? = some (.str file tf) ∧ ((P.main.file : Str) == file) = true) ∧
    ∃ cl cld csl, K.lookup cc = some ⟨cl, cld, .cell (some (.ref C)), csl⟩
  sup : PySem.W.nsIn K mainGlobals "super" = some none
  opq : PySem.W.nsIn K cStatics "thirdparty.any" = some none
  along : PySem.W.ks_superIn K C C "__init__" = some (some (.builtin "ValueError.__init__"))
  top : (P.main.scope.names.lookup ("super" : Str)).isSome = false
  bd : ∃ p0 p1 p2 p3 p4 p5 q1 q2 q3 q4 j, defBody st = xBody txt fld arg p0 p1 p2 p3 p4 p5 q1 q2 q3 q4 j ∧ ∀ env : Env, (∃ pl : Sem Bool, eval (.Call (.Attribute (.Call (.Name "super" p0) [] [] p1) "__init__" p2) [.Constant (.str txt) j p3] [] p4) env = (do
      let ov ← attributeBase (.Call (.Name "super" p0) [] [] p1) "__init__" env (eval (.Call (.Name "super" p0) [] [] p1) env)
      standAt p2.atName
      let (f, first) ← holding [ov] (getMethod ov "__init__" pl)
      callWith p4 f first (backTo p4 (starEach [.Constant (.str txt) j p3] env)) [])) ∧ swapsWith (.Call (.Attribute (.Call (.Name "super" p0) [] [] p1) "__init__" p2) [.Constant (.str txt) j p3] [] p4) none p5.line env = pure false ∧
      swapsWith (.Name arg q3) (some (.Attribute (.Name "self" q1) fld q2)) q4.line env = pure false
  pr : ∃ a1 a2, (defArgs st).posonlyargs ++ (defArgs st).args = [a1, a2] ∧ a1.arg = "self" ∧ a2.arg = arg
  bn : ∀ (dV kV doc pm : Value) (an : Option Addr) (cda cc : Addr) (ct : Value) (x v : Value), dV = .none → kV = .none → bindArgs (PySem.W.ksFn "__init__" qual (defArgs st) (defBody st) (defScope st) dV kV doc pm an (.ref cda) ct cc) ⟨[x, v], []⟩ = pure [(("self" : Str), x), (arg, v)]
  sc : (defScope st).kind = .function ∧ (defScope st).isCoroutine = false ∧ (defScope st).isGenerator = false ∧ (∀ x ∈ (defScope st).names, x.2 ≠ .cell) ∧ (defScope st).names.lookup ("self" : Str) = some .local ∧ (defScope st).names.lookup arg = some .local ∧
    (defScope st).names.lookup ("super" : Str) = some .globalImplicit ∧ (defScope st).names.lookup ("__class__" : Str) = some .free
  na : arg ≠ "self" ∧ (arg == ("__debug__" : Str)) = false
namespace Xi
open PySem.W PySem.Calls PySem.HandSPX
section
variable {prog : Program} {w : World} {A : Around} {E : Value → Shared → Prop} {R : Result → Shared → Prop} {s : Shared} {K : Frag} {mg : Str → Option Value} {nm qual fld arg txt : Str} {st : Stmt} {C fI : Addr}
/-- the globals and the built-ins at hand -/
structure Gb (K : Frag) (mg : Str → Option Value) (h : Heap) : Prop where
  glob : h.Ns mainGlobals mg
  blt : ∃ mb, h.Ns builtinsNs mb ∧ ∀ x : Str, x ≠ "__name__" → mb x = bootBuiltins x
theorem Gb.keeps {h h' : Heap} (g : Gb K mg h) (k : ∀ b o, h.get? b = some o → h'.get? b = some o) : Gb K mg h' := ⟨g.glob.keeps k, let ⟨mb, a, b⟩ := g.blt; ⟨mb, a.keeps k, b⟩⟩
/-- a made exception of the class at C, its field -/
structure Made (h h' : Heap) (x C dx : Addr) (fld : Str) (v : Value) : Prop where
  keep : ∀ b o, b ≠ x → h.get? b = some o → h'.get? b = some o
  obj : ∃ t1 : Addr, h'.get? x = some { cls := .ref C, dict := some dx, data := .fields #[.ref t1, .none, .none, .none, .bool false, .none] }
  dbig : h.objs.size ≤ dx
  dne : dx ≠ x
  ns : h'.Ns1 dx (fun y => if y = fld then some v else none)
/-- ValueError.__init__ bound to x, called -/
theorem call_mw {nm q : Str} {N : Addr} {bs bm : List Value} {hdct : Bool} {sn : List Str} {sub : List Value} {ab : Bool} {col : Option Bool} {dd : Option Addr} {k0 k1 k2 k3 k5 : Option Value} {u x t0 : Addr} {rest : List Value} {Q : Value → Shared → Prop}
    (hC : s.heap.get? C = some (excClassObj nm q C N bs bm hdct sn sub ab col dd k0 k1 k2 k3 k5 "ValueError.__new__")) (he : s.heap.get? x = some (excO C t0)) (hu : s.heap.get? u = some (kxs_mw "ValueError.__init__" x)) (hz : rest.length ≤ sizeLine)
    (h : ∀ h' t1, (∀ b o, b ≠ x → s.heap.get? b = some o → h'.get? b = some o) → h'.get? x = some (excO C t1) → Q .none { s with heap := h' }) : wpAny (model prog w) A (call (.ref u) rest) Q E s := by
  have FB := F.excBase_ValueError
  obtain ⟨hh, g, d, tk, os⟩ := s
  refine wpAny_call (codeAny_of_tree ?_)
  show wpAny _ A.in1 (callAny (.ref u) ⟨rest, []⟩) _ _ _
  simp only [callAny]
  refine wpAny_bind (wpAny_load hu ?_)
  simp only [kxs_mw, show (Value.type "method-wrapper" == Value.type "method" || Value.type "method-wrapper" == Value.type "builtin_function_or_method" || Value.type "method-wrapper" == Value.type "method-wrapper") = true from by decide, if_true]
  refine KFB.if_so (by decide) (wpAny_bind (check_bound_init FB.toExcCallFacts hC he rfl (wpAny_bind (wpAny_pure (wpAny_pure ⟨plainId_quiet FB.init.plain _, codeAny_builtin FB.initEntry ?_⟩)))))
  exact exc_init_tree (cls := .ref C) (t0 := t0) (dv := none) (c2 := .none) (c3 := .none) (b4 := .bool false) he hz fun h' k e' _ => h h' _ k e'
theorem init (T : ExT prog K nm qual fld arg txt st C fI) {x t0 : Addr} {v : Value} (X : K.In s.heap) (hlim : s.heap.NoLimit) (G : Gb K mg s.heap) (hx : s.heap.get? x = some (excO C t0)) (hnx : K.lookup x = none) (hroom : A.depth < recursionLimit)
    (hq : ∀ h' tk dx, Made s.heap h' x C dx fld v → R (.ok (.ret .none)) { s with heap := h', toks := tk }) : codeAny (model prog w) A (.call (.ref fI) ⟨[.ref x, v], []⟩) R s := by
  obtain ⟨oc, od, dV, kV, doc, pm, an, cda, cc, ct, osl, rfl, rfl, ho, hcd, ⟨ccl, cdd, vs, ccs, file, tf, hcode, hvs, hfile⟩, cl, cld, csl, hcell⟩ := T.fn
  obtain ⟨nm', q, N, bs, bm, sn, sub, ab, col, dd, k0, k1, k2, k3, k5, hC, hbm⟩ := T.cls
  obtain ⟨p0, p1, p2, p3, p4, p5, q1, q2, q3, q4, j, hbd, hev⟩ := T.bd
  obtain ⟨a1, a2, hpr, ha1, ha2⟩ := T.pr
  obtain ⟨s1, s2, s3, s4, s5, s6, s7, s8⟩ := T.sc
  obtain ⟨na1, na2⟩ := T.na
  have hxC : x ≠ C := fun z => by rw [z, hC] at hnx; cases hnx
  have hcl : clsIn K C = some { name := nm', bases := bs, mro := .ref C :: bm, ns := N, qualname := q, hasDict := true, slotNames := sn, subclasses := sub, abstract := ab, collection := col, hasDel := false } := by unfold clsIn; rw [hC] <;> rfl
  refine ks_codeAny_call_defAt (fd := ksFn "__init__" qual (defArgs st) (defBody st) (defScope st) .none .none doc pm an (.ref cda) ct cc) (body := defBody st) (binds := [(("self" : Str), .ref x), (arg, v)]) hroom (X _ _ ho) rfl hlim (codeRec_of X hcd) rfl
    (BindsTo.of_eq (T.bn _ _ _ _ _ _ _ _ _ _ rfl rfl)) s4 (fun y hy => ?_) (fun h₁ hns k => ?_) s2 s3 s1
  · rcases List.mem_cons.mp hy with rfl | hy
    · exact s5
    · rw [List.mem_singleton.mp hy]; exact s6
  obtain ⟨hp, g, d, tk, os⟩ := s
  have X₁ : K.In h₁ := X.keeps k
  have G₁ := G.keeps k
  have hx₁ := k _ _ hx
  have xL : hp.objs.size ≠ x := Nat.ne_of_gt (Heap.lt_size hx)
  have hself : ([(("self" : Str), Value.ref x), (arg, v)].reverse.lookup ("self" : Str)) = some (.ref x) := by
    have e : (("self" : Str) == arg) = false := by simpa using fun z => na1 z.symm
    simp [List.lookup, e]
  have harg : ([(("self" : Str), Value.ref x), (arg, v)].reverse.lookup arg) = some v := by simp [List.lookup]
  -- the frame's names, kept through the walk
  have hD : ∃ oD cdD, h₁.get? C = some oD ∧ oD.data = .cls cdD := ⟨_, _, X₁ _ _ hC, rfl⟩
  obtain ⟨oD, cdD, hD1, hD2⟩ := hD
  rw [hbd]
  unfold xBody
  obtain ⟨⟨pl, he⟩, hsw1, hsw2⟩ := hev (ksEnv qual (defScope st) hp.objs.size fI (.ref cda) cc)
  refine ks_wpAt_execs_cons (ks_wpAt_Expr_any (ks_wpAt_MethodCall ?_ he) ?hi hsw1)
  case hi =>
    show (((defScope st).kind == ScopeKind.module) && _) = false
    rw [s1]
    rfl
  refine ks_wpAt_super_base (env := ksEnv qual (defScope st) hp.objs.size fI (.ref cda) cc) s7 s8 (by decide) rfl (X₁ _ _ ho) rfl (ar := a1) (by show (List.head? ((defArgs st).posonlyargs ++ (defArgs st).args)) = some a1; rw [hpr]; rfl) rfl (X₁ _ _ hcode) rfl hvs hfile T.top ?_
  refine ks_loadName_global s1 s7 ?_
  obtain ⟨mb, b1, b2⟩ := G₁.blt
  refine Calls.loadGlobal_builtin (env := ksEnv qual (defScope st) hp.objs.size fI (.ref cda) cc) G₁.glob (mg_none_of X₁ G₁.glob T.sup) b1 ((b2 _ (by decide +kernel)).trans (by decide +kernel : bootBuiltins "super" = some (.type "super"))) ⟨rfl, ?_⟩
  refine wpAny_loadName_free s1 s8 rfl ⟨_, X₁ _ _ hcell, rfl⟩ ?_
  refine wpAny_loadName_local s1 (by rw [ha1]; exact s5) hns (by rw [ha1]; exact hself) ?_
  refine ks_wpAny_isType_cls hD1 hD2 ⟨rfl, ?_⟩
  have hown : mroIn K C (.ref C) = some true := by
    unfold mroIn
    rw [hcl, Option.bind_some]
    simp
  refine ks_wpAny_call_super hD1 hD2 hx₁ rfl (fun c e => by cases e) (looks_mroIn X₁ hown) (fun h₂ e₂ k₂ => ?_)
  -- super().__init__
  have X₂ : K.In h₂ := X₁.keeps k₂
  have hm := T.along
  unfold ks_superIn at hm
  rw [hcl] at hm
  have IA : InstAt h₂ x (excO C t0) C none := ⟨k₂ _ _ hx₁, rfl, rfl, trivial⟩
  refine kxs_getMethod kxs_ValueError e₂ (looks_opaque X₂ T.opq) (l₀ := .ref C :: bm) (fun A Q E s k q => wpAny_bind ((looks_clsIn X₂ hcl) A _ E s k (wpAny_pure q))) rfl X₂ hm (IA.type.andThen (looks_subIn X₂ T.veC)) hxC (by decide) ?_
  have k₃ : ∀ b o, h₂.get? b = some o → (h₂.push (kxs_mw "ValueError.__init__" x)).get? b = some o := fun b o e => Heap.get?_push_of_some _ e
  have hu : (h₂.push (kxs_mw "ValueError.__init__" x)).get? h₂.objs.size = some (kxs_mw "ValueError.__init__" x) := Heap.get?_push_at rfl rfl
  refine kxs_callWith (i := "ValueError.__init__") (x := x) rfl (evalArgs_plain (Calls.spliced_cons (Calls.Constant_str (pos := p3) (k := j) (Calls.spliced_nil ⟨hu, ?_⟩))))
  refine call_mw (C := C) (t0 := t0) (k₃ _ _ (X₂ _ _ hC)) (k₃ _ _ (k₂ _ _ hx₁)) hu (by show 1 ≤ sizeLine; rw [sizeLine_eq]; omega) fun h₄ t1 k₄ hx₄ => ?_
  -- self.fld = arg
  have k14 : ∀ b o, b ≠ x → h₁.get? b = some o → h₄.get? b = some o := fun b o hb e => k₄ b o hb (k₃ b o (k₂ b o e))
  have X₄ : K.In h₄ := fun b o e => k14 b o (fun z => by rw [z, hnx] at e; cases e) (X₁ b o e)
  obtain ⟨oL, es, ep, hL, hr⟩ := hns
  have hns₄ : h₄.Ns hp.objs.size (fun y => [(("self" : Str), Value.ref x), (arg, v)].reverse.lookup y) := ⟨oL, es, ep, k14 _ _ xL hL, hr⟩
  refine wpAt_of_wpAny ?_
  refine wpAny_execs_cons (plainObj_wpAny_Assign_Attribute ?_ hsw2)
  refine wpAny_Name (wpAny_loadName_local s1 s6 hns₄ harg ?_) na2
  refine wpAny_Name (wpAny_loadName_local s1 s5 hns₄ hself ?_) (by decide)
  refine set_plain X₄ (ox := excO C t1) (od := none) ⟨hx₄, rfl, rfl, trivial⟩ T.sa ?_
  refine exc_osa X₄ hx₄ hcl (show refsVE (.ref C :: bm) = true from hbm) rfl T.noN (fun h₅ tk₅ dx k₅ dn dne hx₅ hn₅ => ?_)
  show wpAny _ _ (execs [] _) _ _ _
  have z1 : hp.objs.size < h₄.objs.size := Heap.lt_size (k14 _ _ xL hL)
  exact wpAny_execs_nil (hq h₅ tk₅ dx ⟨fun b o hb e => k₅ b o hb (k14 b o hb (k b o e)), ⟨t1, hx₅⟩, Nat.le_of_lt (Nat.lt_of_lt_of_le z1 dn), dne, hn₅⟩)
/-- C(v) -/
theorem make (T : ExT prog K nm qual fld arg txt st C fI) {v : Value} (X : K.In s.heap) (hlim : s.heap.NoLimit) (G : Gb K mg s.heap) (hroom : A.depth + 1 < recursionLimit)
    (hq : ∀ h' tk e dx, s.heap.objs.size ≤ e → (∀ b o, s.heap.get? b = some o → h'.get? b = some o) → (∃ t1 : Addr, h'.get? e = some { cls := .ref C, dict := some dx, data := .fields #[.ref t1, .none, .none, .none, .bool false, .none] }) → s.heap.objs.size ≤ dx → dx ≠ e →
      h'.Ns1 dx (fun y => if y = fld then some v else none) → R (.ok (.ret (.ref e))) { s with heap := h', toks := tk }) : codeAny (model prog w) A (.call (.ref C) ⟨[v], []⟩) R s := by
  obtain ⟨nm', q, N, bs, bm, sn, sub, ab, col, dd, k0, k1, k2, k3, k5, hC, hbm⟩ := T.cls
  obtain ⟨hp, g, d, tk, os⟩ := s
  have k : ∀ b o, hp.get? b = some o → ((hp.push (kdv_tup [v])).push (excO C hp.objs.size)).get? b = some o := fun b o e => Heap.get?_push_of_some _ (Heap.get?_push_of_some _ e)
  have hget : ((hp.push (kdv_tup [v])).push (excO C hp.objs.size)).get? (hp.objs.size + 1) = some (excO C hp.objs.size) := by heap_get
  have hnx : K.lookup (hp.objs.size + 1) = none := by
    cases e : K.lookup (hp.objs.size + 1) with
    | none => rfl
    | some o =>
      have z : hp.get? (hp.objs.size + 1) = some o := X _ _ e
      exact absurd (Nat.lt_of_succ_lt (Heap.lt_size z)) (Nat.lt_irrefl _)
  refine call_own F.excBase_ValueError (fun X => refsVE_contains X bm hbm) (X _ _ hC) (looks_findIn X T.iC) (fun self => bind_fn X self T.tC) (by show 1 ≤ sizeLine; rw [sizeLine_eq]; omega) ?_
  refine init (s := ⟨(hp.push (kdv_tup [v])).push (excO C hp.objs.size), g, d, tk, os⟩) T (X.keeps k) (hlim.keeps k) (G.keeps k) hget hnx (show A.depth + 1 < recursionLimit from hroom) fun h' tk' dx M => ?_
  have old : ∀ b o, hp.get? b = some o → h'.get? b = some o := fun b o e => M.keep b o (Nat.ne_of_lt (Nat.lt_succ_of_lt (Heap.lt_size e))) (k b o e)
  have z : hp.objs.size + 1 + 1 ≤ dx := by
    have q := M.dbig
    first | exact q | simpa only [Heap.size_push] using q
  exact ⟨rfl, hq h' tk' (hp.objs.size + 1) dx (Nat.le_succ _) old M.obj (Nat.le_trans (Nat.le_trans (Nat.le_succ _) (Nat.le_succ _)) z) M.dne M.ns⟩
end
end Xi
theorem relO_one {v : V} {v' : Value} (r : RelV v v') (fld f : Str) : RelO (List.lookup f [(fld, v)]) (if f = fld then some v' else none) := by
  by_cases hw : f = fld
  · subst hw
    rw [if_pos rfl]
    have q : List.lookup f [(f, v)] = some v := by simp [List.lookup]
    rw [q]
    exact r
  · rw [if_neg hw]
    have qw : (f == fld) = false := by simpa using hw
    have q2 : List.lookup f [(fld, v)] = none := by simp [List.lookup, qw]
    rw [q2]
    trivial
section
variable {F : Fc} {W : WX} {X : Cx} {x nm qual fld arg txt : Str} {st : Stmt} {C fI : Addr} {a : Expr} {ta : TA} {p pos pos2 : Pos} {k : Nat}
def tMkX (C : Addr) (fld : Str) (ta : TA) : St → Hp → XK → Prop := fun σ H Q => ta σ H fun vs H1 => ∃ v, vs = [v] ∧ ∀ d, H1 d = none → Q (.ref C) (some d) (upd H1 d (.xd [(fld, v)]))
theorem pmk_x (T : ExT X.prog X.K nm qual fld arg txt st C fI) (gC : X.mg x = some (.ref C)) (hr : Room k X.A) (ha : PA X [a] ta) (hg : Gl X x) (hdb : (x == ("__debug__" : Str)) = false := by decide)
    (he : starEach (a :: []) X.env = (false, eval a X.env) :: starEach [] X.env := by rfl) (hpl : (backTo pos (starEach [] X.env)).any (·.1) = false := by rfl) :
    PMk X (.Call (.Name x p) [a] [] pos) (tMkX C fld ta) := by
  intro pins s σ H Q I h
  refine wpAny_Call_Name_kw (ld_glob I hg gC ?_ hdb)
  refine PySem.W.callWith_K (h₀ := X.base) I.ok.mod.kin T.kC (thn (ha.run pos pins s σ H _ I h) fun us s1 hh => ?_) he hpl
  obtain ⟨vs, H1, I1, r1, v, ev, q1⟩ := hh
  subst ev
  refine ⟨I1.kIn, ?_⟩
  cases r1 with
  | cons rv rn =>
    rename_i v' us'
    cases rn
    show wpAny _ _ (call (.ref C) [v']) _ _ _
    have hlim := I1.nolimit
    obtain ⟨mb, g1, g2⟩ := I1.mod.blt
    have G : Xi.Gb X.K X.mg s1.heap := ⟨I1.mod.glob.keeps I1.bk, mb, g1.keeps I1.bk, g2⟩
    obtain ⟨hp, g, dr, tk, os⟩ := s1
    refine wpAny_call (Xi.make T I1.kIn hlim G (by have := hr.dp; omega) fun h' tk' e d new old obj dbig dne hns => ?_)
    show MkP X pins σ Q (.ref e) ⟨h', g, dr, tk', os⟩
    obtain ⟨t1, hoe⟩ := obj
    obtain ⟨G', g1, g2⟩ := restrict h' fun b => decide (b ≠ e)
    have gk : ∀ b, b ≠ e → G'.get? b = h'.get? b := fun b hb => g1 b (decide_eq_true hb)
    have ge : G'.get? e = none := g2 e (by simp)
    have old' : ∀ b o, hp.get? b = some o → G'.get? b = some o := fun b o q => (gk b (Nat.ne_of_lt (Nat.lt_of_lt_of_le (Heap.lt_size q) new))).trans (old b o q)
    have ob : ObjOk X.prog X.w (upd H1 d (.xd [(fld, v)])) G' d (.xd [(fld, v)]) := ⟨_, hns.at (fun o q => (gk d dne).trans q), fun f => relO_one rv fld f⟩
    have J : Inv X pins σ (upd H1 d (.xd [(fld, v)])) ⟨G', g, dr, tk', os⟩ := I1.laid (t' := tk') old' dbig ob
    refine ⟨e, _, _, ⟨G', g, dr, tk', os⟩, _, .ref C, some d, rfl, J, fun b o q => ?_, ge, hoe, ⟨rfl, rfl⟩, rfl, rfl, ?_, rfl, I1.bare, raises_own T.exC T.tyC, q1 d (I1.hok.fresh dbig)⟩
    · by_cases hb : b = e
      · have q' : G'.get? b = some o := q
        rw [hb, ge] at q'; cases q'
      · exact (gk b hb).symm.trans q
    · rw [upd_ne (Ne.symm dne)]
      exact I1.hok.fresh new
/-- raise C(e) -/
def sRaise (c fld : Str) (fa : Ds → Out D) (ds : Ds) : SO := (fa ds).then fun d ds1 => .ex ⟨c, [fld], [d]⟩ ds1
theorem d_raise {fa : Ds → Out D} (T : ExT X.prog X.K nm qual fld arg txt st C fI) (gC : X.mg x = some (.ref C)) (hE : F.E.mg = X.mg) (hc : X.calm = true) (tk : Takes X W) (hr : Room k X.A) (ha : DPE F W X a fa) (hg : Gl X x) (hdb : (x == ("__debug__" : Str)) = false := by decide)
    (he : starEach (a :: []) X.env = (false, eval a X.env) :: starEach [] X.env := by rfl) (hpl : (backTo pos (starEach [] X.env)).any (·.1) = false := by rfl) :
    DPS F W X (.Raise (some (.Call (.Name x p) [a] [] pos)) none pos2) (sRaise x fld fa) :=
  ps_of (ps_raise hc tk (pmk_x T gC hr (pa_cons ha pa_nil he) hg hdb he hpl)) fun Dn σ H ⟨S, ds, M, q⟩ => ⟨S, ds, M, (GPost.then q).imp fun d ds1 S1 H1 e1 M1 q1 v r => ⟨v, rfl, fun dx nd => by
    have x := Ext.newH (o := .xd [(fld, v)]) M1.sub nd
    obtain ⟨n1, n2, n3, n4⟩ := M1.newOwn nd
    exact q1 (.ref C) (some dx) σ _ S1 x.s (M1.ext x) ⟨C, dx, [v], by rw [hE]; exact gC, rfl, rfl, upd_same, n1, n2, rfl, .cons r .nil⟩⟩⟩
end
end DV

set_option Elab.async false
set_option linter.all false
set_option maxRecDepth 100000
set_option maxHeartbeats 4000000
/-! DVT: an exception that is kept behind its except suite. -/
namespace DV
open PySem PySem.Spec PyProof.Rows L2
section
variable {X : Cx} {pins : List (Addr × Obj)} {σ : St} {H : Hp} {s : Shared} {a : Addr} {oe : Obj} {vs : Array Value} {cls : Value} {d : Option Addr}
/-- a new object of ours is told of from now on -/
theorem inv_track (I : Inv X pins σ H s) (he : s.heap.get? a = some oe) (hz : Zc cls d oe) (hd : oe.data = .fields vs) (na : H a = none) (n0 : X.s_0.heap.get? a = none) (nL : a ≠ X.env.locals) (np : ∀ p ∈ X.pn ++ pins, p.1 ≠ a) : Inv X pins σ (upd H a (HeldX cls d a)) s := by
  have ne : ∀ b u, H b = some u → b ≠ a := fun b u e => ne_of_none e na
  refine ⟨I.ok, I.os, I.bare, ⟨I.base.keep, I.base.slot, fun b o e n hx => ?_, I.base.there, fun b xs e => ?_, fun b o u e => ?_, fun b ps e => ?_⟩, I.loc, I.cell, by rw [upd_ne (Ne.symm nL)]; exact I.free, fun x c e => ?_, fun p hp => ?_, fun b u e => ?_, I.len⟩
  · rw [upd_ne (fun z => by rw [z, n0] at e; cases e)]
    exact I.base.free b o e n hx
  · have q := I.base.tups b xs e
    rw [upd_ne (ne _ _ q)]; exact q
  · have q := I.base.frzs b o u e
    rw [upd_ne (ne _ _ q)]; exact q
  · obtain ⟨m, q⟩ := I.base.tbls b ps e
    exact ⟨m, by rw [upd_ne (ne _ _ q)]; exact q⟩
  · rw [upd_ne]
    · exact I.freeC x c e
    · rintro rfl
      obtain ⟨v, o, ho, hc⟩ := I.cell x _ e
      rw [he] at ho
      cases ho
      rw [hd] at hc
      cases hc
  · obtain ⟨h1, h2, h3, h4, h5⟩ := I.pin p hp
    exact ⟨h1, by rw [upd_ne (np p hp)]; exact h2, h3, h4, h5⟩
  · by_cases hb : b = a
    · subst hb
      rw [upd_same] at e
      cases e
      exact ⟨⟨oe, vs, he, hz, hd⟩, ⟨oe, he⟩, fun _ _ ⟨o, v, q, r⟩ k => ⟨o, v, k o q, r⟩⟩
    · rw [upd_ne hb] at e
      exact (I.hok b u e).stay (fun _ _ _ q => q) (fun c q => by rw [upd_ne (ne _ _ q)]; exact q) fun c xs q => by rw [upd_ne (ne _ _ q)]; exact q
end
/-- as wAs; behind the suite the exception is told of -/
def wHeld (K : PySem.W.Frag) (c : Value) (i : Nat) (ts : Addr → Value → Option Addr → TS) (Wout : WX) (D : Ends) : WX := fun cls d σ H =>
  ∃ b, PySem.W.exmOne K cls c = some b ∧ (b = true → ∀ a, H a = none → ts a cls d { nx := fun σ' H' => D.nx (σ'.set i none) (upd H' a (HeldX cls d a)), rt := fun _ _ => False } (σ.set i (some (.ref a))) H) ∧ (b = false → Wout cls d σ H)
section
variable {X : Cx} {x n : Str} {c : Value} {i : Nat} {body suite : List Stmt} {b₀ : Stmt} {np pos pos' : Pos} {tb : WX → TS} {ts : Addr → Value → Option Addr → TS} {Wout : WX}
theorem ps_try_held (hs : X.stack = X.env :: X.outer) (hf : X.env.frame = some X.env.locals) (hex : X.ex = []) (hN : X.N.Nodup) (hi : X.N[i]? = some n) (hln : X.env.kindOf n = some .local) (hc : Names X x c) (tk : Takes X Wout)
    (hb : ∀ (W : WX) (pn : List (Addr × Obj)) (xe : Value → Shared → Prop), Takes (X.tr pn xe) W → PassesOwn (model X.prog X.w) X.A X.env xe → PSs (X.tr pn xe) body (tb W))
    (hsu : ∀ (a : Addr) (oe : Obj) (cls : Value) (d : Option Addr) (pn : List (Addr × Obj)), Zc cls d oe → (∃ vs, oe.data = .fields vs) → PSs (X.suite a ((a, oe) :: pn)) (b₀ :: suite) (ts a cls d)) :
    PS X (.Try body [.ExceptHandler (some (.Name x np)) (some n) (b₀ :: suite) pos'] [] [] pos) (fun D σ H => tb (wHeld X.K c i ts Wout D) D σ H) := by
  refine ⟨fun pins s σ H D I h => ?_⟩
  have ok := I.ok
  refine wpAny_Try_except (wpAny_mono ((hb (wHeld X.K c i ts Wout D) (X.pn ++ pins) (fun e t1 => wpAny (model X.prog X.w) X.A (noteFrame e X.env) (fun _ t2 => wpAny (model X.prog X.w) X.A (setFlight e none) (fun _ t3 =>
    wpAny (model X.prog X.w) X.A (handleBy e X.env [.ExceptHandler (some (.Name x np)) (some n) (b₀ :: suite) pos']) (SP X pins D) X.xe t3) X.xe t2) X.xe t1) (fun u s' xx => ?_) PassesOwn.looking).run [] s σ H D (I.toTry _) h) (fun f s1 hsp => ?_) (fun e s1 he => he))
  · obtain ⟨a, B, sI, pins', τ, H1, cls, d, rfl, J0, nb, up, sky0, na, os, ag, b, hb1, hyes, hno⟩ := xx
    have J : Inv X pins τ H1 sI := J0.ofTry ok
    have sky : Sky B (X.env :: X.outer) a (Zc cls d) X.env.locals s'.heap := by rw [← hs]; exact sky0
    show wpAny (model X.prog X.w) X.A (noteFrame (.ref a) X.env) _ _ _
    refine Sky.land Zc.steady (by rw [ok.frames, hs]) hf sky fun h3 fl3 up3 => ?_
    have J3 : Inv X pins τ H1 { s' with heap := h3 } := J.landed nb fl3.1 (up.trans up3) os ag
    obtain ⟨oe3, vs3, he3, hz3, hd3⟩ := fl3.there
    have nfr : a ∉ frs (X.env :: X.outer) := fun hm => by
      obtain ⟨_, o2, e2, hn2⟩ := fl3.2.2.1.mem hm
      rw [he3] at e2; cases e2
      exact hn2 _ hd3
    have nL : a ≠ X.env.locals := fun z => nfr (List.mem_filterMap.mpr ⟨X.env, List.mem_cons_self, by rw [hf, z]⟩)
    have nF : a ∉ X.fs := fun hm => by
      obtain ⟨e, he, q⟩ := List.mem_filterMap.mp hm
      exact nfr (List.mem_filterMap.mpr ⟨e, List.mem_cons_of_mem _ he, q⟩)
    -- it is new
    have nI : sI.heap.get? a = none := by
      cases e : sI.heap.get? a with
      | none => rfl
      | some o =>
        have z := nb a o e (by show a ∉ frs X.stack; rw [hs]; exact nfr)
        rw [fl3.2.1] at z; cases z
    have n0 : X.s_0.heap.get? a = none := by
      cases e : X.s_0.heap.get? a with
      | none => rfl
      | some o =>
        obtain ⟨o2, z⟩ := J.base.there a o e (by rw [hex]; exact fun z => nomatch z)
        rw [nI] at z; cases z
    have npin : ∀ p ∈ X.pn ++ pins, p.1 ≠ a := fun p hp z => by
      have w := (J.pin p hp).1
      rw [z, nI] at w; cases w
    have S3 := J3.suite he3 hd3 na nL nF
    refine wpAny_handleBy_cons (codeAny_handlers_test ?_) (by intro q; cases q)
    have LM := PySem.W.exm_one (M := model X.prog X.w) J3.kIn (fun A Q E s k q => wpAny_typeOf_ref (k _ _ he3) (by rw [hz3.1]; exact q)) hb1
    have look : ∀ {Q : Value → Shared → Prop} {E : Value → Shared → Prop}, Q c { s' with heap := h3 } → wpAny (model X.prog X.w) (X.A.mark (some (.ref a))) (eval (.Name x np) X.env) Q E { s' with heap := h3 } := fun {Q E} q => by
      obtain ⟨hg, hdb, hm | ⟨hm, hv, hnn⟩⟩ := hc
      · exact ld_glob (X := X.suite a ((a, oe3) :: (X.pn ++ pins))) S3 hg hm q hdb
      · exact ld_blt (X := X.suite a ((a, oe3) :: (X.pn ++ pins))) S3 hg hm hv q hnn hdb
    refine look (LM.here ?_)
    cases b with
    | true =>
      refine codeAny_handlers_suite_as (HandSPX.lands_againZ fl3 fun h4 fl4 up4 => ?_)
      have J4 : Inv X pins τ H1 { s' with heap := h4 } := J.landed nb fl4.1 ((up.trans up3).trans up4) os ag
      obtain ⟨oe4, vs4, he4, hz4, hd4⟩ := fl4.there
      refine store_ok (X := X.suite a ((a, oe4) :: (X.pn ++ pins))) (v := .ref a) (J4.suite he4 hd4 na nL nF) hN hi (.inl hln) rfl (fun s5 S5 => ?_) (.inr hln)
      refine wpAny_mono ((hsu a oe4 cls d (X.pn ++ pins) hz4 ⟨_, hd4⟩).run [] s5 _ H1 _ S5 (hyes rfl a na)) (fun f s6 hsp => ?_) (fun _ _ z => False.elim z)
      cases f with
      | next =>
        obtain ⟨τ6, H6, S6, q6⟩ := hsp
        obtain ⟨g1, g2, _⟩ := S6.pin (a, oe4) (by simp)
        exact gone_ok (inv_track (S6.unsuite ok) g1 hz4 hd4 g2 n0 nL npin) hN hi hln fun s7 J7 => ⟨_, _, J7, q6⟩
      | brk =>
        obtain ⟨_, _, _, q6⟩ := hsp
        exact False.elim q6
      | cont =>
        obtain ⟨_, _, _, q6⟩ := hsp
        exact False.elim q6
      | ret u =>
        obtain ⟨_, _, _, _, _, q6⟩ := hsp
        exact False.elim q6
    | false =>
      show wpAny _ X.A (handleBy (.ref a) X.env []) _ _ _
      refine wpAny_handleBy_nil ?_
      obtain ⟨_, _, _, oe, vs, Tb, oT, its, he, hz, hd, h1, hr⟩ := id fl3
      unfold PySem.passOn
      refine wpAny_bind (wpAny_field he hd h1 ?_)
      rw [if_neg (show ¬ ((Value.ref Tb == Value.none) = true) from by simp)]
      have out : wpAny (model X.prog X.w) X.A (setFlight (.ref a) X.env.frame) (fun _ t4 => wpAny (model X.prog X.w) X.A (throw (.ref a) : Sem Flow) (SP X pins D) X.xe t4) X.xe { s' with heap := h3 } := by
        rw [hf]
        exact HandSPX.setFlight_upZ fl3 fun h4 hh4 up4 => wpAny_throw (tk _ _ ⟨a, B, sI, pins, τ, H1, cls, d, rfl, J, nb, (up.trans up3).trans up4, .inr (.inr (by rw [hs]; exact hh4)), na, os, ag, hno rfl⟩)
      first
        | exact wpAny_bind (wpAny_pure (wpAny_bind out))
        | exact wpAny_bind out
  · cases f with
    | next => obtain ⟨τ, H1, J1, q⟩ := hsp; exact wpAny_execs_nil ⟨τ, H1, J1.ofTry ok, q⟩
    | brk => obtain ⟨τ, H1, J1, q⟩ := hsp; exact ⟨τ, H1, J1.ofTry ok, q⟩
    | cont => obtain ⟨τ, H1, J1, q⟩ := hsp; exact ⟨τ, H1, J1.ofTry ok, q⟩
    | ret u => obtain ⟨v, τ, H1, J1, r, q⟩ := hsp; exact ⟨v, τ, H1, J1.ofTry ok, r, q⟩
end
/-! ### on plain data -/
theorem Match.share {F : Fc} {S H : Hp} {ds : Ds} {σ : St} (M : Match F S ds σ H) {p : Addr} {o : HO} (nt : ∀ ps, o ≠ .tbl ps) (h : H p = some o) (nS : S p = none) (n0 : F.H0 p = none) (nR : F.R p = none) (nu : ∀ (j : Nat) b e, ds[j]? = some (.ow b e) → σ[j]? ≠ some (some (.ref p))) : Match F (upd S p o) ds σ H := by
  have le : Same S (upd S p o) := fun b u z => by
    rw [upd_ne (fun w => by subst w; rw [nS] at z; cases z)]; exact z
  exact {
    sub := fun b u z => by
      by_cases hb : b = p
      · subst hb; rw [upd_same] at z; cases z; exact h
      · rw [upd_ne hb] at z; exact M.sub _ _ z
    nt := M.nt.upd nt
    old := M.old.trans le
    fresh := fun a u z => by
      by_cases hb : a = p
      · subst hb; exact .inr n0
      · rw [upd_ne hb] at z; exact M.fresh _ _ z
    keep := M.keep, tblk := M.tblk, tabs := M.tabs, len := M.len
    sh := fun j d' z => let ⟨v, a, b⟩ := M.sh j d' z; ⟨v, a, b.mono le⟩
    ow := fun j b d' z => by
      obtain ⟨p', a1, a2, a3, a4, a5⟩ := M.ow j b d' z
      refine ⟨p', a1, ?_, a3.ext le (fun _ z => z), a4, a5⟩
      rw [upd_ne (fun w => by subst w; exact nu j b d' z a1)]
      exact a2
    inj := M.inj, io := M.io
    pin := fun a u q => by
      obtain ⟨z1, z2, z4, z3⟩ := M.pin a u q
      refine ⟨z1, z2, ?_, z3⟩
      rw [upd_ne (fun w => by subst w; rw [nR] at q; cases q)]; exact z4 }
theorem Match.noOwnAt {F : Fc} {S H : Hp} {ds : Ds} {σ : St} (M : Match F S ds σ H) {p : Addr} {fs : List (Str × V)} (h : H p = some (.xd fs)) : ∀ (j : Nat) b e, ds[j]? = some (.ow b e) → σ[j]? ≠ some (some (.ref p)) := fun j b e hj q => by
  obtain ⟨p', h1, _, h3, _⟩ := M.ow j b e hj
  rw [q] at h1; cases h1
  cases e with
  | lst xs => obtain ⟨vs, z, _⟩ := h3; rw [h] at z; cases z
  | dic ks xs => obtain ⟨vs, z, _⟩ := h3; rw [h] at z; cases z
  | _ => exact h3
def excD (x : Exn) : D := .xcp x.c x.ns x.xs
/-- try: .. except C as error (slot i): kept (slot j) = error -/
def sTry (isIt : Str → Option Bool) (i j : Nat) (fb : Ds → SO) (ds : Ds) : SO := match fb ds with
  | .ex x ds1 => match isIt x.c with
    | some true => if i < ds1.length ∧ ioFree ds1 i = true ∧ ioFree (ds1.set i .no) j = true then .nx (((ds1.set i .no).set j (.sh (excD x))).set i .no) else .no
    | some false => .ex x ds1
    | none => .no
  | o => o
section
variable {F : Fc} {W : WX} {X : Cx} {x n y : Str} {CE : Addr} {i j : Nat} {body : List Stmt} {np np2 np3 pos pos' spos : Pos} {fb : Ds → SO}
theorem d_try (hs : X.stack = X.env :: X.outer) (hf : X.env.frame = some X.env.locals) (hex : X.ex = []) (hN : X.N.Nodup) (hi : X.N[i]? = some n) (hj : X.N[j]? = some y) (hln : X.env.kindOf n = some .local) (hly : X.env.scope.names.lookup y = some .local) (hc : Names X x (.ref CE)) (tk : Takes X W) (hE : F.E.mg = X.mg) (hR : F.R = fun _ => none)
    {isIt : Str → Option Bool} (hit : ∀ c C b, X.mg c = some (.ref C) → isIt c = some b → PySem.W.exmOne X.K (.ref C) (.ref CE) = some b)
    (hb : ∀ (W : WX) (pn : List (Addr × Obj)) (xe : Value → Shared → Prop), Takes (X.tr pn xe) W → PassesOwn (model X.prog X.w) X.A X.env xe → DPSs F W (X.tr pn xe) body fb)
    (hd : (n == ("__debug__" : Str)) = false := by decide) (hcd : (n == ("__classdict__" : Str)) = false := by decide) (hsw : swapsWith (.Name n np2) (some (.Name y np3)) spos.line X.env = pure false := by rfl) :
    DPS F W X (.Try body [.ExceptHandler (some (.Name x np)) (some n) [.Assign [.Name y np3] (.Name n np2) spos] pos'] [] [] pos) (sTry isIt i j fb) := by
  have hln' : X.env.scope.names.lookup n = some .local := hln
  refine ps_of (ps_try_held (c := .ref CE) (ts := fun a cls d => tAsg (tVar i) (gName j)) hs hf hex hN hi hln hc tk (tb := fun W => tS F W fb) hb (fun a oe cls d pn hz hv => pss_one (ps_set (X := X.suite a ((a, oe) :: pn)) hN hj (.inl hly) (pe_var (X := X.suite a ((a, oe) :: pn)) hi (.inl hln') hd hcd) hsw (.inr hly)))) fun Dn σ H h => ?_
  obtain ⟨S, ds, M, q⟩ := h
  refine ⟨S, ds, M, ?_⟩
  unfold sTry at q
  cases e : fb ds with
  | nx ds1 => rw [e] at q; exact q
  | rt d ds1 => rw [e] at q; exact q
  | bk ds1 => rw [e] at q; exact q
  | ct ds1 => rw [e] at q; exact q
  | no => rw [e] at q; exact q
  | ex z ds1 =>
    rw [e] at q
    intro cls dx σ1 H1 S1 e1 M1 rx
    dsimp only at q
    obtain ⟨C, dd, vs, g1, rfl, rfl, g4, g5, g6, g7, g8⟩ := id rx
    rw [hE] at g1
    cases hI : isIt z.c with
    | none => rw [hI] at q; exact q.elim
    | some b =>
      rw [hI] at q
      refine ⟨b, hit _ _ _ g1 hI, fun hb a na => ?_, fun hb => ?_⟩
      · subst hb
        dsimp only at q
        by_cases hio' : i < ds1.length ∧ ioFree ds1 i = true ∧ ioFree (ds1.set i .no) j = true
        · rw [if_pos hio'] at q
          have hio := hio'.2
          -- the exception is told of
          have x1 := Ext.new (o := HeldX (.ref C) (some dd) a) M1.sub na (by intro _ z; unfold HeldX at z; cases z)
          have M2 := M1.ext x1
          have nda : dd ≠ a := ne_of_none g4 na
          have h2 : upd H1 a (HeldX (.ref C) (some dd) a) dd = some (.xd (z.ns.zip vs)) := by rw [upd_ne nda]; exact g4
          have n2 : upd S1 a (HeldX (.ref C) (some dd) a) dd = none := by rw [upd_ne nda]; exact g5
          have M3 := M2.share (fun _ z => by cases z) h2 n2 g6 (by rw [hR]) (M2.noOwnAt h2)
          have le : Same S1 (upd (upd S1 a (HeldX (.ref C) (some dd) a)) dd (.xd (z.ns.zip vs))) := fun b u w => by
            rw [upd_ne (ne_of_none w g5), upd_ne (ne_of_none (M1.sub _ _ w) na)]; exact w
          have r3 : Rep F.E (upd (upd S1 a (HeldX (.ref C) (some dd) a)) dd (.xd (z.ns.zip vs))) (excD z) (.ref a) := by
            refine ⟨a, C, dd, vs, rfl, by rw [hE]; exact g1, ?_, upd_same, g7, g8.mono le⟩
            rw [upd_ne (Ne.symm nda), upd_same]
          have M4 := M3.wipe (o := some (.ref a)) (ioFree_ne hio.1)
          have M5 := M4.set (ioFree_ne hio.2) r3
          have hio3 : ioFree ((ds1.set i .no).set j (.sh (excD z))) i = true := by
            unfold ioFree
            by_cases hij : j = i
            · subst hij
              by_cases hl : j < (ds1.set j Cl.no).length
              · rw [List.getElem?_set_self hl]
              · rw [List.getElem?_eq_none (by simpa using hl)]
            · rw [List.getElem?_set_ne hij]
              by_cases hl : i < ds1.length
              · rw [List.getElem?_set_self hl]
              · rw [List.getElem?_eq_none (by simpa using hl)]
          have M6 := M5.wipe (i := i) (o := none) (ioFree_ne hio3)
          have hlen : i < σ1.length := by rw [← M1.len]; exact hio'.1
          refine ⟨.ref a, ?_, ?_⟩
          · show (σ1.set i (some (.ref a)))[i]? = some (some (.ref a))
            rw [List.getElem?_set_self hlen]
          · exact q _ _ _ (e1.trans le) M6
        · rw [if_neg hio'] at q; exact q.elim
      · subst hb
        exact q (.ref C) (some dd) σ1 H1 S1 e1 M1 rx
end
/-! ### what is asked of a kept exception -/
theorem held_at {X : Cx} {pins : List (Addr × Obj)} {σ : St} {H : Hp} {s : Shared} {a C d : Addr} {fs : List (Str × V)} (I : Inv X pins σ H s) (ha : H a = some (HeldX (.ref C) (some d) a)) (hd : H d = some (.xd fs)) :
    ∃ (oe od : Obj) (mA : Str → Option Value), PySem.W.InstAt s.heap a oe C (some od) ∧ (∀ n, PySem.W.lookIn n od = some (mA n)) ∧ ∀ f, RelO (fs.lookup f) (mA f) := by
  obtain ⟨⟨oe, vs, he, hz, hv⟩, _, _⟩ := (show ObjOk X.prog X.w H s.heap a (HeldX (.ref C) (some d) a) from I.hok a _ ha)
  obtain ⟨mA, hns, hr⟩ := (show ObjOk X.prog X.w H s.heap d (.xd fs) from I.hok d _ hd)
  obtain ⟨od, ho, hl⟩ := lookIn_ns hns
  exact ⟨oe, od, mA, ⟨he, hz.1, by unfold PySem.W.notCls; rw [hv] <;> rfl, by rw [hz.2]; exact ho⟩, hl, hr⟩
def rIsX (K : PySem.W.Frag) : List V → Hp → VK → Prop := fun xs H Q => ∃ (a C d : Addr) (fs : List (Str × V)) (c : V) (cv : Value) (b : Bool), xs = [.ref a, c] ∧ H a = some (HeldX (.ref C) (some d) a) ∧ H d = some (.xd fs) ∧ ExcC K C ∧ (∀ u, RelV c u → u = cv) ∧ PySem.W.kitOne K (.ref C) cv = some b ∧ Q (.bl b) H
theorem call_isX {X : Cx} : CallR X (.builtin "isinstance") (rIsX X.K) := by
  intro pins s σ H xs us Q I r h
  obtain ⟨a, C, d, fs, c, cv, b, rfl, ha, hd, T, hcv, e, q⟩ := h
  obtain ⟨u, w, rfl, r1, r2⟩ := vals2 r
  cases r1
  have ec := hcv _ r2
  subst ec
  obtain ⟨oe, od, mA, J, _, _⟩ := held_at I ha hd
  have hcl : (PySem.W.clsIn X.K C).isSome = true := by
    obtain ⟨cd, hc, _⟩ := PySem.W.any_some T.hd
    rw [hc]; rfl
  exact PySem.W.kia_one (PySem.W.kitx_exc hcl T.hg T.hk T.hs T.ha T.hn T.ht T.hm) I.kIn J e (fun z => nomatch z) fun tk => ⟨.bl b, H, I.kept (t' := tk) fun _ _ z => z, rfl, q⟩
theorem zip_look {E : DE} {S : Hp} {n : Str} {d : D} : ∀ {ns : List Str} {xs : List D} {vs : List V}, Reps E S xs vs → (ns.zip xs).lookup n = some d → ∃ v, (ns.zip vs).lookup n = some v ∧ Rep E S d v
  | [], _, _, _, h => by cases h
  | _ :: _, [], _, _, h => by cases h
  | m :: ns, x :: xs, _, ⟨v, w, hv, r1, r2⟩, h => by
    subst hv
    rw [List.zip_cons_cons] at h ⊢
    rw [List.lookup_cons] at h ⊢
    cases hm : n == m with
    | true => rw [hm] at h; cases h; exact ⟨v, rfl, r1⟩
    | false => rw [hm] at h; exact zip_look r2 h
section
variable {F : Fc} {W : WX} {X : Cx} {pos p2 : Pos} {a ce : Expr} {fa : Ds → Out Opd} {n : Str}
def gIsX (kt : Str → Option Bool) (x : D) : Option D := match x with
  | .xcp c _ _ => (kt c).map fun b => .bl b
  | _ => none
theorem d_isX {kt : Str → Option Bool} {c : V} {cv : Value} (hE : F.E = ⟨X.K, X.mg⟩) (hkt : ∀ y C b, X.mg y = some (.ref C) → kt y = some b → ExcC X.K C ∧ PySem.W.kitOne X.K (.ref C) cv = some b) (hcv : ∀ u, RelV c u → u = cv) (hg : Gl X "isinstance") (hm : X.mg "isinstance" = none) (ha : DPO F W X a fa) (hc : PE X ce (tC c))
    (he : starEach [a, ce] X.env = (false, eval a X.env) :: starEach [ce] X.env := by rfl) (hs : starEach [ce] X.env = (false, eval ce X.env) :: starEach [] X.env := by rfl) (hpl : (backTo pos (starEach [ce] X.env)).any (·.1) = false := by rfl) :
    DPE F W X (.Call (.Name "isinstance" p2) [a, ce] [] pos) (eOp1 (gIsX kt) fa) :=
  pe_of (pe_callB call_isX hg hm (by decide +kernel) (pa_cons ha (pa_cons hc pa_nil hs) he) (by decide) (by decide) he hpl) fun σ H Q h =>
    tUn_of (r := fun v H Q => rIsX X.K [v, c] H Q) (fun S H d v d' Q e hx h k => by
      cases d with
      | xcp y ns xs =>
        have hx' : Rep F.E S (.xcp y ns xs) v := hx
        obtain ⟨a, C, dd, vs, rfl, h2, h3, h4, h5, h6⟩ := hx'
        rw [hE] at h2
        have h' : (kt y).map (fun b => D.bl b) = some d' := h
        cases hb : kt y with
        | none => rw [hb] at h'; cases h'
        | some b =>
          rw [hb] at h'
          cases h'
          obtain ⟨T, hk⟩ := hkt y C b h2 hb
          exact ⟨a, C, dd, _, c, cv, b, rfl, e _ _ h3, e _ _ h4, T, hcv, hk, k.here rfl⟩
      | _ => cases h) σ H Q h
def gXf (ok : Str → Bool) (n : Str) (x : D) : Option D := match x with
  | .xcp c ns xs => if ok c then (ns.zip xs).lookup n else none
  | _ => none
theorem pe_xf2 {e : Expr} {te : TE} (he : PE X e te) (hb : attributeBase e n X.env (eval e X.env) = eval e X.env := by rfl) :
    PE X (.Attribute e n pos) (tUn (fun x H Q => ∃ (a C d : Addr) (fs : List (Str × V)) (v : V), x = .ref a ∧ H a = some (HeldX (.ref C) (some d) a) ∧ H d = some (.xd fs) ∧ XfC X.K C ∧ PySem.W.findIn X.K (.ref C) n = some none ∧ fs.lookup n = some v ∧ Q v H) te) := by
  refine ⟨fun pins s σ H Q I h => attr_of hb (thn (he.run pins s σ H _ I h) fun u s1 hh => ?_)⟩
  obtain ⟨x, H1, I1, rx, a, C, d, fs, v, ex, ha, hd, T, hno, l, q⟩ := hh
  subst ex
  obtain rfl : u = Value.ref a := rx
  obtain ⟨oe, od, mA, J, hl, hr⟩ := held_at I1 ha hd
  obtain ⟨u, hu, ru⟩ := RelO.some_of (v := v) (o := mA n) (by rw [← l]; exact hr n)
  exact HandSPX.exc_get I1.kIn J T.ga T.gg T.exC (PySem.W.findObj_own T.hdC hno rfl (by rw [hl, hu])) (handed_of ru) ⟨v, H1, I1.tok _, ru, q⟩
theorem d_xf {ok : Str → Bool} (hE : F.E = ⟨X.K, X.mg⟩) (hok : ∀ y C, X.mg y = some (.ref C) → ok y = true → XfC X.K C ∧ PySem.W.findIn X.K (.ref C) n = some none) (ha : DPO F W X a fa) (hb : attributeBase a n X.env (eval a X.env) = eval a X.env := by rfl) :
    DPE F W X (.Attribute a n pos) (eOp1 (gXf ok n) fa) :=
  pe_of (pe_xf2 ha hb) (tUn_of fun S H d v d' Q e hx h k => by
    cases d with
    | xcp y ns xs =>
      have hx' : Rep F.E S (.xcp y ns xs) v := hx
      obtain ⟨a, C, dd, vs, rfl, h2, h3, h4, h5, h6⟩ := hx'
      rw [hE] at h2
      have h' : (if ok y = true then (ns.zip xs).lookup n else none) = some d' := h
      by_cases ho : ok y = true
      · rw [if_pos ho] at h'
        obtain ⟨T, hno⟩ := hok y C h2 ho
        obtain ⟨u, hu, ru⟩ := zip_look h6 h'
        exact ⟨a, C, dd, _, u, rfl, e _ _ h3, e _ _ h4, T, hno, hu, k.here ru⟩
      · rw [if_neg ho] at h'; cases h'
    | _ => cases h)
end
end DV

set_option Elab.async false
set_option linter.all false
set_option maxRecDepth 100000
set_option maxHeartbeats 4000000
/-! DVL: a lambda (perhaps with one parameter that has a default) handed to a def that calls it. -/
namespace DV
open PySem PySem.Spec PyProof.Rows L2 LamX
section
variable {X : Cx} {pins : List (Addr × Obj)} {σ : St} {H HZ : Hp} {s s1 : Shared}
/-- a lambda object -/
abbrev lamO (X : Cx) (params : Arguments) (body : Expr) (scope : Scope) (dV doc pm : Value) (c' : Addr) (ctv : Value) : Obj := PySem.W.kdv_obj "<lambda>" (X.env.qual ++ "<lambda>") params (.expr body) scope (cloFrom X.env.cells scope.names []) dV doc pm c' ctv
/-- what a made lambda is -/
structure Lam (X : Cx) (T : List (Addr × Str)) (H : Hp) (s : Shared) (params : Arguments) (body : Expr) (scope : Scope) (dV : Value) (f c' : Addr) (H1 : Hp) (s' : Shared) : Prop where
  en : ExtN H H1
  tb : ∀ a ps, H a = some (.tbl ps) → ∃ ps', H1 a = some (.tbl ps')
  tabs : Tabs T H1
  ob : ∃ doc pm ctv, s'.heap.get? f = some (lamO X params body scope dV doc pm c' ctv)
  fn : H1 f = none
  fr : f ∉ frs X.stack
  co : H1 c' = some (CodeO c' (X.env.qual ++ "<lambda>"))
  old : ∀ b o, s.heap.get? b = some o → H b = none → s'.heap.get? b = some o ∧ H1 b = none
theorem lam_tail {T : List (Addr × Str)} {c P : Addr} {params : Arguments} {body : Expr} {scope : Scope} {pos : Pos} {E : Value → Shared → Prop} {Q : Value → Shared → Prop} {dV : Value} (I : Inv X pins σ H s) (TB : TabB X.base X.mg c P) (hcode : X.env.code = .ref c)
    (hm : (P, X.env.qual ++ "<lambda>") ∈ T) (hu : ∀ p ∈ T, p.1 = P → p.2 = X.env.qual ++ "<lambda>") (hT : Tabs T H) (hfree : ∀ y ∈ scope.names, y.2 = .free → ∃ c, X.env.cells.lookup y.1 = some c)
    (h : ∀ (f c' : Addr) (H1 : Hp) (s' : Shared), Inv X pins σ H1 s' → Lam X T H s params body scope dV f c' H1 s' → Q (.ref f) s') :
    wpAny (model X.prog X.w) X.A (makeTail "<lambda>" (X.env.qual ++ "<lambda>") params (.expr body) scope X.env dV .none none pos pos.line) Q E s := by
  obtain ⟨ps, hP, ht, ha⟩ := hT _ hm
  have bP : s.heap.BuiltinsAt X.mg P := TB.bm.keeps I.bk
  have hP' : s.heap.get? P = some { cls := .none, data := .fields ps } := I.hok P _ hP
  have nofr : ∀ f, s.heap.objs.size ≤ f → f ∉ frs X.stack := fun f hf z => by
    rcases List.mem_cons.mp (I.stkSub _ z) with e | e
    · have h1 := I.lt
      rw [← e] at h1
      exact Nat.lt_irrefl _ (Nat.lt_of_lt_of_le h1 hf)
    · exact I.nofs hf e
  cases hc : codeAmong pos ps.toList with
  | none =>
    refine PySem.W.kdv_makeTail (mg := X.mg) (c := c) (P := P) (ps := ps) (closure_ok hfree) I.ok.glob (I.mod.glob.keeps I.bk) hcode (TB.code.keeps I.bk) hP' ht hc TB.gP bP fun c' ctv doc h' tk hx hge hlt hrec htb => ?_
    obtain ⟨c2, oc, vs, t, e2, hoc, hd, hv⟩ := hrec
    cases e2
    have hsz : s.heap.objs.size ≤ h'.objs.size := Nat.le_trans hge (Nat.le_of_lt hlt)
    have nC : H c' = none := I.hok.fresh hge
    have I1 := inv_table (t' := tk) (more := #[rawInt pos.line, rawInt pos.col, .ref c']) (h' := h'.push (lamO X params body scope dV doc ((X.mg "__name__").getD .none) c' ctv)) I hP
      (fun b o hb e => Heap.get?_push_of_some _ (hx b o hb e)) (Heap.get?_push_of_some _ htb) hge ⟨oc, vs, t, Heap.get?_push_of_some _ hoc, hd, hv⟩
    have hE : ExtN H (upd (upd H P (.tbl (ps ++ #[rawInt pos.line, rawInt pos.col, .ref c']))) c' (CodeO c' (X.env.qual ++ "<lambda>"))) := fun b o e n => by
      rw [upd_ne (ne_of_none e nC), upd_ne (fun z => n ps (Option.some.inj (e.symm.trans (by rw [z]; exact hP))))]
      exact e
    have eL : (ps ++ #[rawInt pos.line, rawInt pos.col, .ref c']).toList = ps.toList ++ [rawInt pos.line, rawInt pos.col, .ref c'] := by simp
    refine h h'.objs.size c' _ _ I1 ⟨hE, fun a qs e => ?_, fun p hp => ?_, ⟨_, _, _, Heap.get?_push_size _ rfl⟩, ?_, nofr _ hsz, upd_same, fun b o e n => ?_⟩
    · by_cases hb : a = P
      · subst hb
        exact ⟨_, by rw [upd_ne (ne_of_none hP nC), upd_same]⟩
      · exact ⟨qs, by rw [upd_ne (ne_of_none e nC), upd_ne hb]; exact e⟩
    · by_cases hb : p.1 = P
      · rw [hu p hp hb, hb]
        refine ⟨_, by rw [upd_ne (ne_of_none hP nC), upd_same], by rw [eL]; exact PySem.TriplesOk_snoc _ _ _ _ ht, fun p' cv hcv => ?_⟩
        rw [eL] at hcv
        rcases among_app _ ht hcv with z | z
        · obtain ⟨c0, e1, e2⟩ := ha p' cv z
          exact ⟨c0, e1, hE _ _ e2 codeO_ne⟩
        · exact ⟨c', z, upd_same⟩
      · obtain ⟨ps', a1, a2, a3⟩ := hT p hp
        refine ⟨ps', by rw [upd_ne (ne_of_none a1 nC), upd_ne hb]; exact a1, a2, fun p' cv hcv => ?_⟩
        obtain ⟨c0, e1, e2⟩ := a3 p' cv hcv
        exact ⟨c0, e1, hE _ _ e2 codeO_ne⟩
    · rw [upd_ne (Nat.ne_of_gt hlt), upd_ne (Nat.ne_of_gt (Nat.lt_of_lt_of_le (Heap.lt_size hP') hsz))]
      exact I.hok.fresh hsz
    · have nP : b ≠ P := fun z => by rw [z, hP] at n; cases n
      have nc : b ≠ c' := fun z => by rw [z] at e; exact Nat.lt_irrefl _ (Nat.lt_of_lt_of_le (Heap.lt_size e) hge)
      exact ⟨Heap.get?_push_of_some _ (hx b o nP e), by rw [upd_ne nc, upd_ne nP]; exact n⟩
  | some cv =>
    obtain ⟨c', e, hco⟩ := ha pos cv hc
    subst e
    refine PySem.W.kdv_makeTailHit (mg := X.mg) (c := c) (P := P) (ps := ps) (closure_ok hfree) I.ok.glob (I.mod.glob.keeps I.bk) hcode (TB.code.keeps I.bk) hP' ht hc bP fun ctv doc h' tk hx hsz => ?_
    have I1 : Inv X pins σ H { s with heap := h'.push (lamO X params body scope dV doc ((X.mg "__name__").getD .none) c' ctv), toks := tk } := I.kept fun b o e => Heap.get?_push_of_some _ (hx b o e)
    exact h h'.objs.size c' H _ I1 ⟨ExtN.refl H, fun a qs e => ⟨qs, e⟩, hT, ⟨_, _, _, Heap.get?_push_size _ rfl⟩, I.hok.fresh hsz, nofr _ hsz, hco, fun b o e n => ⟨Heap.get?_push_of_some _ (hx b o e), n⟩⟩
/-- how the lambda's defaults stand: none, or one int -/
def Dfl (X : Cx) (params : Arguments) (dV : Value) (H : Hp) (s : Shared) : Prop :=
  (params.defaults = [] ∧ dV = .none) ∨ ∃ (i : Int) (j : Nat) (p : Pos) (tp : Addr) (t : Tok), params.defaults = [.Constant (.int i) j p] ∧ dV = .ref tp ∧ s.heap.get? tp = some (PySem.W.kdv_tup [.int i t]) ∧ H tp = none ∧ tp ∉ frs X.stack
theorem lam_make {T : List (Addr × Str)} {c P : Addr} {params : Arguments} {body : Expr} {scope : Scope} {pos : Pos} {E : Value → Shared → Prop} {Q : Value → Shared → Prop} (I : Inv X pins σ H s) (TB : TabB X.base X.mg c P) (hcode : X.env.code = .ref c)
    (hm : (P, X.env.qual ++ "<lambda>") ∈ T) (hu : ∀ p ∈ T, p.1 = P → p.2 = X.env.qual ++ "<lambda>") (hT : Tabs T H) (hfree : ∀ y ∈ scope.names, y.2 = .free → ∃ c, X.env.cells.lookup y.1 = some c)
    (hdef : params.defaults = [] ∨ ∃ (i : Int) (j : Nat) (p : Pos), params.defaults = [.Constant (.int i) j p]) (hk0 : params.kw_defaults = [])
    (h : ∀ (dV : Value) (f c' : Addr) (H1 : Hp) (s' : Shared), Inv X pins σ H1 s' → Lam X T H s params body scope dV f c' H1 s' → Dfl X params dV H1 s' → Q (.ref f) s') :
    wpAny (model X.prog X.w) X.A (eval (.Lambda params body scope pos) X.env) Q E s := by
  rcases hdef with hd | ⟨i, j, p, hd⟩
  · refine PySem.W.kla_eval (by rw [defaultsOf_eq, hd, hk0]; rfl) ?_
    rw [makeFunction_eq]
    simp only [List.zip_nil_right, List.filterMap_nil, List.isEmpty_nil, if_true, pure_bind]
    exact lam_tail I TB hcode hm hu hT hfree fun f c' H1 s' I1 L => h _ f c' H1 s' I1 L (.inl ⟨hd, rfl⟩)
  · refine PySem.W.kdv_lam (by rw [hd]; rfl) hk0 ?_
    rw [hd]
    refine PySem.W.kdv_all1 (wpAny_Constant_int (PySem.W.kdv_all0 ?_))
    rw [makeFunction_eq]
    simp only [List.zip_nil_right, List.filterMap_nil, List.isEmpty_nil, if_true, pure_bind, show ([Value.int i s.toks] : List Value).isEmpty = false from rfl, Bool.false_eq_true, if_false]
    refine wpAny_bind (wpAny_newTextTuple ?_)
    have hnew : (s.heap.push (PySem.W.kdv_tup [.int i s.toks])).get? s.heap.objs.size = some (PySem.W.kdv_tup [.int i s.toks]) := Heap.get?_push_size _ rfl
    have I2 : Inv X pins σ H { s with heap := s.heap.push (PySem.W.kdv_tup [.int i s.toks]), toks := s.toks + 1 } := I.kept fun b o e => Heap.get?_push_of_some _ e
    have nT : H s.heap.objs.size = none := I.hok.fresh (Nat.le_refl _)
    have nofr : s.heap.objs.size ∉ frs X.stack := fun z => by
      rcases List.mem_cons.mp (I.stkSub _ z) with e | e
      · have h1 := I.lt
        rw [← e] at h1
        exact Nat.lt_irrefl _ h1
      · exact I.nofs (Nat.le_refl _) e
    refine lam_tail I2 TB hcode hm hu hT hfree fun f c' H1 s' I1 L => ?_
    obtain ⟨o1, o2⟩ := L.old _ _ hnew nT
    refine h _ f c' H1 s' I1 ⟨L.en, L.tb, L.tabs, L.ob, L.fn, L.fr, L.co, fun b o e n => L.old b o (Heap.get?_push_of_some _ e) n⟩ (.inr ⟨i, j, p, _, _, hd, rfl, o1, o2, nofr⟩)
/-! ### the lambda's names -/
structure LamB (X : Cx) (scope : Scope) (bs : List Str) : Prop where
  kind : scope.kind = .function
  co : scope.isCoroutine = false
  gen : scope.isGenerator = false
  nc : ∀ y ∈ scope.names, y.2 ≠ .cell
  own : ∀ y, scope.names.lookup y = some .local → y ∉ X.N
  par : ∀ y ∈ bs, scope.names.lookup y = some .local
  free : ∀ y ∈ scope.names, y.2 = .free → X.env.scope.names.lookup y.1 = some .cell ∨ X.env.scope.names.lookup y.1 = some .free
theorem LamB.has {scope : Scope} {bs : List Str} (L : LamB X scope bs) (ok : X.Ok) : ∀ y ∈ scope.names, y.2 = .free → ∃ c, X.env.cells.lookup y.1 = some c := fun y hy e => by
  rcases L.free y hy e with k | k
  · exact ok.has _ (.inl k)
  · exact ok.has _ (.inr k)
theorem lam_in {A : Around} {outer : List Env} {E : XK} {scope : Scope} {bs : List Str} {binds : List (Str × Value)} {f c' : Addr} {h₁ : Heap} {tk : Nat} (I : Inv X pins σ H s) (L : LamB X scope bs) (e0 : Env0 X.prog X.w X.K X.mg X.base A outer s1 HZ) (hd : A.handled = none)
    (un : Un (frs X.stack) [] H HZ s.heap s1.heap) (hns : h₁.Ns s1.heap.objs.size fun y => binds.reverse.lookup y) (kp : ∀ b o, s1.heap.get? b = some o → h₁.get? b = some o) :
    Inv (lamCx X A outer s1 HZ E scope f c') [] σ HZ { s1 with heap := h₁, toks := tk } := by
  have hfree := L.has I.ok
  have cm : ∀ {y c}, (cloFrom X.env.cells scope.names []).lookup y = some c → X.env.cells.lookup y = some c := fun {y c} e => by
    rcases cloFrom_mem (PySem.mem_of_lookup e) with hm | ⟨h1, h2⟩
    · cases hm
    · obtain ⟨c1, hc⟩ := hfree _ h1 rfl
      have hc : X.env.cells.lookup y = some c1 := hc
      have e2 : c = c1 := by
        rw [h2, hc] <;> rfl
      rw [e2]
      exact hc
  have look : ∀ {y}, scope.names.lookup y = some .free → ∃ c, (cloFrom X.env.cells scope.names []).lookup y = some c := fun {y} hl => by
    have hy : (y, NameKind.free) ∈ scope.names := PySem.mem_of_lookup hl
    exact mem_lookup (cloFrom_has (cells := X.env.cells) (acc := []) hy)
  have cellK : ∀ {c : Addr} {v : Option Value}, H c = none → s.heap.IsCell c v → h₁.IsCell c v := fun {c v} n ⟨o, ho, hd⟩ => by
    obtain ⟨sl, q⟩ := un.any ho n (by simp)
    exact ⟨_, kp _ _ q, hd⟩
  have noA : ∀ b : Addr, b ∉ (lamCx X A outer s1 HZ E scope f c').ex := fun b z => absurd (show b ∈ ([] : List Addr) from z) (by simp)
  refine ⟨⟨e0.mod, L.kind, rfl, rfl, Nat.le_refl _, fun y z c e1 e2 => I.ok.inj y z c (cm e1) (cm e2), fun y hy => ?_, fun y c z _ => ?_, fun _ => hd, Around.frames_deeper e0.frames, .inr ⟨rfl, rfl⟩, fun b z => absurd z (noA b), e0.bs, e0.bsz, fun b _ _ => noA b, fun b z => absurd z (noA b), e0.funs, e0.frf⟩,
    rfl, e0.bare, Un.kept kp, ⟨_, hns, fun i y v e1 e2 e3 => ?_⟩, fun y c e => ?_, e0.hok.fresh (Nat.le_refl _), fun y c e => ?_, fun q hq => absurd (show q ∈ ([] : List (Addr × Obj)) ++ [] from hq) (by simp), e0.hok.kept kp, I.len⟩
  · have hy : scope.names.lookup y = some .cell ∨ scope.names.lookup y = some .free := hy
    rcases hy with hy | hy
    · exact absurd rfl (L.nc _ (PySem.mem_of_lookup hy))
    · exact look hy
  · have z : false = true := z
    cases z
  · have e3 : Vis scope y := e3
    rcases e3 with k | k | k
    · exact absurd (List.mem_of_getElem? (show X.N[i]? = some y from e1)) (L.own y k)
    · exact absurd rfl (L.nc _ (PySem.mem_of_lookup k))
    · obtain ⟨m, hn, hl⟩ := I.loc
      have hvis : Vis X.env.scope y := (L.free _ (PySem.mem_of_lookup k) rfl).elim (fun k => .inr (.inl k)) (fun k => .inr (.inr k))
      obtain ⟨w', r, q⟩ := hl i y v e1 e2 hvis
      obtain ⟨c2, h2⟩ := look k
      refine ⟨w', r, .inr ⟨.inr k, c2, h2, ?_⟩⟩
      have c1 := cm h2
      rcases q with ⟨k', _⟩ | ⟨_, c3, e', z⟩
      · have k' : X.env.scope.names.lookup y = some .local := k'
        rcases L.free _ (PySem.mem_of_lookup k) rfl with k2 | k2 <;> rw [show X.env.scope.names.lookup y = _ from k2] at k' <;> cases k'
      · rw [c1] at e'
        cases e'
        exact cellK (I.freeC y _ c1) z
  · obtain ⟨w', z⟩ := I.cell y c (cm e)
    exact ⟨w', cellK (I.freeC y c (cm e)) z⟩
  · obtain ⟨v, o, ho, hd⟩ := I.cell y c (cm e)
    exact un.free c o ho (I.freeC y c (cm e)) (by simp)
/-- how the call without arguments binds: b, the parameter's name (none: no parameter) -/
def LBind (X : Cx) (params : Arguments) (body : Expr) (scope : Scope) : List Str → Prop
  | [] => ∀ (doc pm : Value) (cv ctv : Value) (q : Str) (cl : List (Str × Addr)), bindArgs (PySem.W.kdv_fn "<lambda>" q params (.expr body) scope cl .none doc pm cv ctv) ⟨[], []⟩ = pure []
  | [b] => ∀ (tp : Addr) (doc pm : Value) (cv ctv : Value) (q : Str) (cl : List (Str × Addr)), ∃ k : Option (Array Value) → Sem (List (Str × Value)), bindArgs (PySem.W.kdv_fn "<lambda>" q params (.expr body) scope cl (.ref tp) doc pm cv ctv) ⟨[], []⟩ = seqItems? (.ref tp) >>= k ∧ ∀ v, k (some #[v]) = pure [(b, v)]
  | _ => False
/-- a(), a the name that holds the lambda, in the def that got it (entered at s) -/
theorem pe_ask {CXg : CXT} {Eg : XK} {Ng : List Str} {qg : Str} {sg : Scope} {g f c' : Addr} {cdg dV : Value} {params : Arguments} {body : Expr} {scope : Scope} {bs : List Str} {k i : Nat} {a : Str} {pn : List (Addr × Obj)} {xe : Value → Shared → Prop} {W : WX} {tb : XK → TE} {p1 p2 : Pos}
    (I : Inv X pins σ H s) (L : LamB X scope bs) (hf : ∃ doc pm ctv, s.heap.get? f = some (lamO X params body scope dV doc pm c' ctv)) (hfn : H f = none) (hfr : f ∉ frs X.stack) (hD : Dfl X params dV H s) (hbs : LBind X params body scope bs) (hbd : (params.defaults = [] → bs = []) ∧ (∀ e, params.defaults = [e] → ∃ b, bs = [b]))
    (tk : Takes ((cxOf CXg X.prog X.w X.K X.mg X.base Ng qg sg g cdg X.A X.stack s H Eg).tr pn xe) W) (hr : Room (k + 1) (X.A.deeper (envOfC qg sg s.heap.objs.size g cdg)))
    (hbody : ∀ (A : Around) (outer : List Env) (s : Shared) (H : Hp) (E : XK), Room k (A.deeper (lamEnv X scope s.heap.objs.size f c')) → PE (lamCx X A outer s H E scope f c') body (tb E))
    (hN : Ng[i]? = some a) (hv : Vis sg a) (hd : (a == ("__debug__" : Str)) = false := by decide) (hcd : (a == ("__classdict__" : Str)) = false := by decide) :
    PE ((cxOf CXg X.prog X.w X.K X.mg X.base Ng qg sg g cdg X.A X.stack s H Eg).tr pn xe) (.Call (.Name a p1) [] [] p2)
      (fun σZ HZ Q => σZ[i]? = some (some (.ref f)) ∧ HZ c' = some (CodeO c' (X.env.qual ++ "<lambda>")) ∧ tb (WE W σZ) σ HZ Q) := by
  refine ⟨fun pinsZ sZ σZ HZ Q IZ h => ?_⟩
  obtain ⟨hs, hc, ht⟩ := h
  obtain ⟨doc, pm, ctv, hf⟩ := hf
  refine wpAny_Call_Name_kw (thn ((pe_var (pos := p1) (i := i) hN hv hd hcd).run pinsZ sZ σZ HZ (fun v H1 => v = .ref f ∧ H1 = HZ) IZ ⟨.ref f, hs, rfl, rfl⟩) fun u s1 ⟨v, H1, I1, r1, q1⟩ => ?_)
  obtain ⟨ev, eH⟩ := q1
  subst ev
  rw [eH] at I1
  obtain rfl : u = Value.ref f := r1
  have nx : ∀ b : Addr, b ∉ ([] : List Addr) := fun b z => nomatch z
  have of1 : s1.heap.get? f = some (lamO X params body scope dV doc pm c' ctv) := I1.base.keep f _ hf hfn hfr (nx f)
  refine PySem.W.callWith_F0 ⟨_, _, _, _, of1⟩ ?_
  have un : Un (frs X.stack) [] H HZ s.heap s1.heap := I1.base
  obtain ⟨⟨oc, vs, t, hoc, hdc, hvc⟩, _, _⟩ := I1.hok c' _ hc
  -- what is bound
  obtain ⟨binds, hB, hbl⟩ : ∃ binds : List (Str × Value), BindsTo s1 (PySem.W.kdv_fn "<lambda>" (X.env.qual ++ "<lambda>") params (.expr body) scope (cloFrom X.env.cells scope.names []) dV doc pm (.ref c') ctv) ⟨[], []⟩ binds ∧ ∀ y ∈ binds, scope.names.lookup y.1 = some .local := by
    rcases hD with ⟨h1, rfl⟩ | ⟨j, j2, p, tp, t2, h1, rfl, h2, h3, h4⟩
    · obtain rfl := hbd.1 h1
      exact ⟨[], .of_eq (hbs doc pm _ ctv _ _), fun y hy => absurd hy (by simp)⟩
    · obtain ⟨b, rfl⟩ := hbd.2 _ h1
      obtain ⟨k0, k1, k2⟩ := hbs tp doc pm (.ref c') ctv (X.env.qual ++ "<lambda>") (cloFrom X.env.cells scope.names [])
      refine ⟨[(b, .int j t2)], BindsTo.of_defaults rfl (I1.base.keep tp _ h2 h3 h4 (nx tp)) rfl k1 (k2 _), fun y hy => ?_⟩
      rw [List.mem_singleton.mp hy]
      exact L.par b List.mem_cons_self
  have rc : codeAny (model X.prog X.w) (X.A.deeper (envOfC qg sg s.heap.objs.size g cdg)) (.call (.ref f) ⟨[], []⟩) (CR (L2.CX X.prog X.w) (envOfC qg sg s.heap.objs.size g cdg :: X.stack) X.prog X.w HZ s1 Q (WE W σZ)) s1 := by
    refine PySem.W.kla_callFunE hr.depth of1 rfl L.co L.gen rfl ⟨c', oc, vs, t, rfl, hoc, hdc, hvc⟩ (hB _ _ _ _ ?_)
    refine wpAny_newFunctionEnv L.nc hbl (fun h₁ hns hsb => ⟨I1.nolimit.fresh _ hsb, ?_⟩) L.kind
    show codeAny _ _ (.expr body (lamEnv X scope s1.heap.objs.size f c')) _ _
    have kp : ∀ b o, s1.heap.get? b = some o → h₁.get? b = some o := fun b o e => hsb.extBut b o (Nat.ne_of_lt (Heap.lt_size e)) (Heap.get?_push_of_some _ e)
    have J : Inv (lamCx X (X.A.deeper (envOfC qg sg s.heap.objs.size g cdg)) (envOfC qg sg s.heap.objs.size g cdg :: X.stack) s1 HZ (WE W σZ) scope f c') [] σ HZ { s1 with heap := h₁, toks := s1.toks + binds.length } := lam_in I L I1.env0 hr.hd un hns kp
    refine PySem.W.kla_codeExpr (wpAny_mono ((hbody _ _ s1 HZ (WE W σZ) (hr.deeper _)).run [] _ _ HZ Q J ht) (fun v s' hq => ?_) fun e s' hq => hq)
    obtain ⟨w', H', J', rv, q⟩ := hq
    exact ⟨w', H', J'.os, J'.bare, J'.base, J'.hok, rv, q⟩
  refine wpAny_call (codeAny_mono rc fun r s' hq => ?_)
  cases r with
  | error e => exact passAt tk σZ pinsZ HZ s1 e s' I1 hq
  | ok fl =>
    cases fl with
    | ret u => exact I1.after hq
    | next => exact False.elim hq
    | brk => exact False.elim hq
    | cont => exact False.elim hq
end
/-! ### on plain data -/
def shOnly (ds : Ds) : Ds := ds.map fun c => match c with
  | .sh d => .sh d
  | _ => .no
theorem shOnly_sh {ds : Ds} {i : Nat} {d : D} (h : (shOnly ds)[i]? = some (.sh d)) : ds[i]? = some (.sh d) := by
  unfold shOnly at h
  rw [List.getElem?_map] at h
  cases e : ds[i]? with
  | none => rw [e] at h; cases h
  | some c =>
    rw [e] at h
    cases c with
    | sh d' => cases h; rfl
    | no => cases h
    | ow b d' => cases h
theorem shOnly_ow {ds : Ds} {i : Nat} {b : Bool} {d : D} : (shOnly ds)[i]? ≠ some (.ow b d) := fun h => by
  unfold shOnly at h
  rw [List.getElem?_map] at h
  cases e : ds[i]? with
  | none => rw [e] at h; cases h
  | some c =>
    rw [e] at h
    cases c <;> cases h
theorem Match.shOnly {F : Fc} {S H : Hp} {ds : Ds} {σ : St} (M : Match F S ds σ H) : Match (fcD F.E F.T S H) S (shOnly ds) σ H where
  sub := M.sub
  nt := M.nt
  old := Same.refl _
  fresh := fun a o h => .inl ⟨o, h⟩
  keep := fun a o h _ _ => h
  tblk := fun a ps h => ⟨ps, h⟩
  tabs := M.tabs
  len := by unfold DV.shOnly; rw [List.length_map]; exact M.len
  sh := fun i d h => M.sh i d (shOnly_sh h)
  ow := fun i b d h => absurd h shOnly_ow
  inj := fun i j b d c e p h _ => absurd h shOnly_ow
  io := fun x hx => absurd hx (by simp)
  pin := fun a o h => by cases h
def resL (o : Out D) : FO := match o with
  | .ok d _ => .ok d
  | .ex x _ => .ex x
  | .no => .no
def eAsk (v0 : V) (o : FO) (ds : Ds) : Out D := match (ds[0]? : Option Cl) with
  | some (.sh (.raw v)) => if v = v0 then outD o ds else .no
  | _ => .no
def eHeard (G : FO → FO) (g : Ds → Out D) (ds : Ds) : Out D := outD (G (resL (g (shOnly ds)))) ds
abbrev XE0 : XK := fun _ _ _ => False
/-- the context of the body of the def that gets the lambda -/
abbrev hcx (P : Program) (w : World) (K : PySem.W.Frag) (mg : Str → Option Value) (base : Heap) (N : List Str) (x : Str) (sg : Scope) (g : Addr) (cdv : Value) (A : Around) (outer : List Env) (s : Shared) (H : Hp) : Cx := cxOf (L2.CX P w) P w K mg base N x sg g cdv A outer s H XE0
/-- the def x(a) that calls what it got: G makes its answer of what a() gives -/
structure Heard (P : Program) (w : World) (K : PySem.W.Frag) (mg : Str → Option Value) (base : Heap) (T : List (Addr × Str)) (k : Nat) (x a : Str) (G : FO → FO) : Prop where
  ex : ∃ (g : Addr) (pg : Arguments) (bg : List Stmt) (sg : Scope) (dV kV doc pm cdv ct oc : Value) (an od : Option Addr) (osl : Array (Option Value)) (Ng : List Str) (body : V → FO → Ds → SO),
    mg x = some (.ref g) ∧ PySem.W.keepIn K (.ref g) = true ∧ K.lookup g = some ⟨oc, od, .func (PySem.W.fnOf x x pg bg sg dV kV doc pm an cdv ct), osl⟩ ∧ PySem.W.codeIn K cdv x = true ∧ L2.Binds K (PySem.W.fnOf x x pg bg sg dV kV doc pm an cdv ct) [a] [] ∧ FnScope Ng [a] sg ∧ Ng[0]? = some a ∧ Vis sg a ∧
    (∀ v0 o, G o ≠ .no → resD (body v0 o (startD Ng [.raw v0])) = G o) ∧ (∀ o z, G o ≠ .ex z) ∧
    ∀ (v0 : V) (o : FO) (A : Around) (outer : List Env) (s : Shared) (S H : Hp), Room k (hcx P w K mg base Ng x sg g cdv A outer s H).A → Takes (hcx P w K mg base Ng x sg g cdv A outer s H) (bW XE0) →
      (∀ (W : WX) (pn : List (Addr × Obj)) (xe : Value → Shared → Prop) (p1 p2 : Pos), Takes ((hcx P w K mg base Ng x sg g cdv A outer s H).tr pn xe) W → DPE (fcD ⟨K, mg⟩ T S H) W ((hcx P w K mg base Ng x sg g cdv A outer s H).tr pn xe) (.Call (.Name a p1) [] [] p2) (eAsk v0 o)) →
      DPSs (fcD ⟨K, mg⟩ T S H) (bW XE0) (hcx P w K mg base Ng x sg g cdv A outer s H) bg (body v0 o)
theorem RepX.h1 {E : DE} {S H0 : Hp} {x : Exn} {cls : Value} {dx : Option Addr} {H : Hp} (h : RepX E S H0 x cls dx H) : ∃ d, dx = some d ∧ H0 d = none := by
  obtain ⟨C, d, vs, h1, h2, h3, h4, h5, h6, h7⟩ := h
  exact ⟨d, h3, h6⟩
section
variable {F : Fc} {W : WX} {X : Cx}
/-- x(lambda: ..) -/
theorem d_heard {x a : Str} {G : FO → FO} {c P : Addr} {k : Nat} {params : Arguments} {body : Expr} {scope : Scope} {bs : List Str} {p lpos pos : Pos} {g : Ds → Out D} (hE : F.E = ⟨X.K, X.mg⟩) (Hd : Heard X.prog X.w X.K X.mg X.base F.T (k + 1) x a G) (hg : Gl X x)
    (TB : TabB X.base X.mg c P) (hcode : X.env.code = .ref c) (hmT : (P, X.env.qual ++ "<lambda>") ∈ F.T) (hu : ∀ p ∈ F.T, p.1 = P → p.2 = X.env.qual ++ "<lambda>") (hr : Room (k + 2) X.A) (L : LamB X scope bs)
    (hdef : params.defaults = [] ∨ ∃ (i : Int) (j : Nat) (p : Pos), params.defaults = [.Constant (.int i) j p]) (hk0 : params.kw_defaults = []) (hbs : LBind X params body scope bs) (hbd : (params.defaults = [] → bs = []) ∧ (∀ e, params.defaults = [e] → ∃ b, bs = [b]))
    (hlam : ∀ (A : Around) (outer : List Env) (s : Shared) (H : Hp) (E : XK) (f c' : Addr) (S' H' : Hp), Room k (lamCx X A outer s H E scope f c').A → Takes (lamCx X A outer s H E scope f c') (bW E) → DPE (fcD F.E F.T S' H') (bW E) (lamCx X A outer s H E scope f c') body g)
    (hdb : (x == ("__debug__" : Str)) = false := by decide) (hd : (a == ("__debug__" : Str)) = false := by decide) (hcd : (a == ("__classdict__" : Str)) = false := by decide) :
    DPE F W X (.Call (.Name x p) [.Lambda params body scope lpos] [] pos) (eHeard G g) := by
  obtain ⟨ga, pg, bg, sg, dV, kV, doc, pm, cdv, ct, oc, an, od, osl, Ng, bd, hm, hk, lk, hcg, hb, Sg, hNg, hva, hres, hGx, hbg⟩ := Hd.ex
  refine ⟨fun pins s σ H Q I ⟨S, ds, M, q⟩ => ?_⟩
  refine wpAny_Call_Name_kw (ld_glob I hg hm ?_ hdb)
  refine PySem.W.callWith_K (h₀ := X.base) I.ok.mod.kin hk ?_ (by rfl) (by rfl)
  show wpAny _ _ (spliced ((false, eval (.Lambda params body scope lpos) X.env) :: backTo pos (starEach [] X.env))) _ _ s
  refine Calls.spliced_cons (lam_make I TB hcode hmT hu M.tabs (L.has I.ok) hdef hk0 fun dV' f c' H1 s' I1 Lm Df => ?_)
  refine Calls.spliced_nil ⟨I1.kIn, ?_⟩
  -- the caller's slots, at the heap with the lambda
  have R0 : Ret F.E F.T [] S H S H1 := ⟨Same.refl _, fun a o h => .inl h, fun a o h => Lm.en a o (M.sub a o h) (fun ps z => M.nt a ps (by rw [← z]; exact h)), fun a o h _ n => Lm.en a o h n, Lm.tb, Lm.tabs, M.nt⟩
  have M1 : Match F S ds σ H1 := M.ret R0
  generalize ho : resL (g (shOnly ds)) = o at *
  have hne : G o ≠ .no := fun z => by
    have q' : GPost F S σ W (outD (G (resL (g (shOnly ds)))) ds) _ := q
    rw [ho, z] at q'
    exact q'
  have q1 : GPost F S σ W (outD (G o) ds) fun d _ S' H' => ∀ v, Rep F.E S' d v → Q v H' := by
    have q' : GPost F S σ W (outD (G (resL (g (shOnly ds)))) ds) fun d _ S' H' => ∀ v, Rep F.E S' d v → Q v H' := q
    rw [ho] at q'
    exact q'
  have rc : codeAny (model X.prog X.w) X.A (.call (.ref ga) ⟨[.ref f], []⟩) (CR (L2.CX X.prog X.w) X.stack X.prog X.w H1 s' Q XE0) s' := by
    refine run_ofS (N := Ng) (ps := [a]) (us := [.ref f]) (vs := [.ref f]) lk hcg Sg hr I1.env0 (hb s' [.ref f] I1.kIn rfl) (.cons rfl .nil) rfl fun hr' => ?_
    have ask : ∀ (W' : WX) (pn : List (Addr × Obj)) (xe : Value → Shared → Prop) (p1 p2 : Pos), Takes ((hcx X.prog X.w X.K X.mg X.base Ng x sg ga cdv X.A X.stack s' H1).tr pn xe) W' →
        DPE (fcD ⟨X.K, X.mg⟩ F.T S H1) W' ((hcx X.prog X.w X.K X.mg X.base Ng x sg ga cdv X.A X.stack s' H1).tr pn xe) (.Call (.Name a p1) [] [] p2) (eAsk (.ref f) o) := fun W' pn xe p1 p2 tk => by
      refine pe_of (pe_ask (tb := fun E σ' HZ Q' => ∃ SZ, tD (fcD F.E F.T SZ HZ) (bW E) g σ' HZ Q') I1 L Lm.ob Lm.fn Lm.fr Df hbs hbd tk hr' (fun A outer s0 H0 E hrk => ⟨fun pins0 t0 σ0 HZ Q0 J ⟨SZ, h0⟩ => (hlam A outer s0 H0 E f c' SZ HZ hrk (takes_of rfl rfl rfl rfl)).run pins0 t0 σ0 HZ Q0 J h0⟩) hNg hva hd hcd) fun σZ HZ Q' hZ => ?_
      obtain ⟨SZ, dz, MZ, qz⟩ := hZ
      unfold eAsk at qz
      split at qz
      · rename_i v hv0
        by_cases hv : v = .ref f
        · subst hv
          rw [if_pos rfl] at qz
          obtain ⟨u, hu1, hu2⟩ := MZ.sh 0 _ hv0
          have hu3 : u = .ref f := hu2
          subst hu3
          have RZ := MZ.toRet
          have Mc : Match F SZ ds σ HZ := M1.ret (by rw [hE]; exact RZ)
          refine ⟨hu1, MZ.keep c' _ Lm.co (by simp) codeO_ne, SZ, SZ, shOnly ds, Mc.shOnly, ?_⟩
          cases hgo : g (shOnly ds) with
          | ok d d2 =>
            rw [hgo] at ho
            subst ho
            intro H' S' e' M' v' r'
            have R' := M'.toRet
            rw [hE] at R' r'
            exact qz H' S' e' (MZ.ret R') v' r'
          | ex z d2 =>
            rw [hgo] at ho
            subst ho
            intro cls dx H' S' e' M' r'
            have R' := M'.toRet
            rw [hE] at R' r'
            exact qz cls dx H' S' e' (MZ.ret R') (r'.h0 fun b nb => MZ.new nb)
          | no =>
            rw [hgo] at ho
            subst ho
            exact qz
        · rw [if_neg hv] at qz; exact qz.elim
      · exact qz.elim
    refine ⟨_, hbg (.ref f) o X.A X.stack s' S H1 hr' (takes_of rfl rfl rfl rfl) ask, S, startD Ng [.raw (.ref f)], start_match M1.sub M1.nt (by exact Lm.tabs) (.cons rfl .nil), ?_⟩
    have hR := hres (.ref f) o hne
    cases hB : bd (.ref f) o (startD Ng [.raw (.ref f)]) with
    | rt d d2 =>
      rw [hB] at hR
      rw [← hR] at q1
      intro v σ' H' S' e' M' r'
      have R' := M'.toRet
      rw [← hE] at R' r'
      exact q1 H' S' R'.s (M1.ret R') v r'
    | nx d2 =>
      rw [hB] at hR
      rw [← hR] at q1
      intro σ' H' S' e' M'
      have R' := M'.toRet
      rw [← hE] at R'
      exact q1 H' S' R'.s (M1.ret R') .non rfl
    | ex z d2 =>
      rw [hB] at hR
      exact absurd hR.symm (hGx o z)
    | bk d2 => rw [hB] at hR; exact absurd hR.symm hne
    | ct d2 => rw [hB] at hR; exact absurd hR.symm hne
    | no => rw [hB] at hR; exact absurd hR.symm hne
  refine wpAny_call (codeAny_mono rc fun r s2 hq => ?_)
  cases r with
  | error e => exact passAt LamX.takes0 σ pins H1 s' e s2 I1 hq
  | ok fl =>
    cases fl with
    | ret u => exact I1.after hq
    | next => exact False.elim hq
    | brk => exact False.elim hq
    | cont => exact False.elim hq
end
end DV

set_option Elab.async false
set_option linter.all false
set_option maxRecDepth 100000
set_option maxHeartbeats 4000000
/-! DVE: defs at hand by their names; the law's end. -/
namespace DV
open PySem PySem.Spec PyProof.Rows L2
/-- a def of n parameters, its slots N, its body b, on plain data -/
def mkG (n : Nat) (N : List Str) (b : Ds → SO) (xs : List D) : FO := if xs.length = n then resD (b (startD N xs)) else .no
def mkI (n : Nat) (N : List Str) (b : Ds → SO) (d : D) (xs : List D) : FIO := if xs.length + 1 = n then resI (b (startI N d xs)) else .no
def mkN (n : Nat) (N : List Str) (g : Ds → Out D) (xs : List D) : FO := if xs.length = n then (match g (startD N xs) with | .ok d _ => .ok d | _ => .no) else .no
section
variable {P : Program} {w : World} {K : PySem.W.Frag} {mg : Str → Option Value} {base : Heap} {T : List (Addr × Str)}
structure CalD (P : Program) (w : World) (K : PySem.W.Frag) (mg : Str → Option Value) (base : Heap) (T : List (Addr × Str)) (k : Nat) (x : Str) (ps : List Str) (G : List D → FO) : Prop where
  ex : ∃ f fd, FnOk P w K mg base (L2.CX P w) k f fd ps (spD ⟨K, mg⟩ T G) ∧ mg x = some (.ref f) ∧ PySem.W.keepIn K (.ref f) = true ∧ Binds K fd ps []
  kb : ∀ k1 k2 : Str, ps = [k2, k1] → ∃ f fd, mg x = some (.ref f) ∧ FnOk P w K mg base (L2.CX P w) k f fd ps (spD ⟨K, mg⟩ T G) ∧ PySem.W.keepIn K (.ref f) = true ∧ ∀ (s : Shared) (u v : Value), BindsTo s fd ⟨[], [(k1, u), (k2, v)]⟩ (ps.zip [v, u])
structure CalN (P : Program) (w : World) (K : PySem.W.Frag) (mg : Str → Option Value) (base : Heap) (T : List (Addr × Str)) (k : Nat) (x : Str) (G : List D → FO) : Prop where
  ex : ∃ f fd ps, FnOk P w K mg base (L2.CX P w) k f fd ps (spN ⟨K, mg⟩ T G) ∧ mg x = some (.ref f) ∧ PySem.W.keepIn K (.ref f) = true ∧ Binds K fd ps []
structure CalI (P : Program) (w : World) (K : PySem.W.Frag) (mg : Str → Option Value) (base : Heap) (T : List (Addr × Str)) (k : Nat) (x : Str) (G : D → List D → FIO) : Prop where
  ex : ∃ f fd ps, FnOk P w K mg base (L2.CX P w) k f fd ps (spI ⟨K, mg⟩ T G) ∧ mg x = some (.ref f) ∧ PySem.W.keepIn K (.ref f) = true ∧ Binds K fd ps []
/-- a def of the text as it stands, found under its name; co: its code object -/
structure DefF (K : PySem.W.Frag) (mg : Str → Option Value) (x : Str) (st : Stmt) (co : Addr → Prop) : Prop where
  ex : ∃ (f c : Addr) (oc : Value) (od : Option Addr) (dV kV doc pm : Value) (an : Option Addr) (ct : Value) (osl : Array (Option Value)), mg x = some (.ref f) ∧ PySem.W.keepIn K (.ref f) = true ∧ dV = .none ∧ co c ∧
    K.lookup f = some ⟨oc, od, .func (PySem.W.fnOf x x (defArgs st) (defBody st) (defScope st) dV kV doc pm an (.ref c) ct), osl⟩ ∧ PySem.W.codeIn K (.ref c) x = true
/-- how it binds: all its parameters by place, or two by their names the other way round -/
structure BindF (x : Str) (st : Stmt) (ps : List Str) : Prop where
  all : ∀ (kV doc pm : Value) (an : Option Addr) (cdv ct : Value) (us : List Value), us.length = ps.length → bindArgs (PySem.W.fnOf x x (defArgs st) (defBody st) (defScope st) .none kV doc pm an cdv ct) ⟨us, []⟩ = pure (ps.zip us)
  kw : ∀ k1 k2 : Str, ps = [k2, k1] → ∀ (kV doc pm : Value) (an : Option Addr) (cdv ct : Value) (u v : Value), bindArgs (PySem.W.fnOf x x (defArgs st) (defBody st) (defScope st) .none kV doc pm an cdv ct) ⟨[], [(k1, u), (k2, v)]⟩ = pure [(k2, v), (k1, u)]
theorem cal_D {x : Str} {st : Stmt} {N ps : List Str} {n k : Nat} {b : Ds → SO} {co : Addr → Prop} (D0 : DefF K mg x st co) (B : BindF x st ps) (Sc : FnScope N ps (defScope st)) (hn : ps.length = n)
    (hb : ∀ (f c : Addr) (A : Around) (outer : List Env) (s : Shared) (S H : Hp) (E : XK), co c → Room k (bcx P w K mg base N x st f (.ref c) A outer s H E).A → Takes (bcx P w K mg base N x st f (.ref c) A outer s H E) (bW E) → DPSs (fcD ⟨K, mg⟩ T S H) (bW E) (bcx P w K mg base N x st f (.ref c) A outer s H E) (defBody st) b) :
    CalD P w K mg base T (k + 1) x ps (mkG n N b) := by
  obtain ⟨f, c, oc, od, dV, kV, doc, pm, an, ct, osl, hm, hk, rfl, hco, lk, hcd⟩ := D0.ex
  have F : FnOk P w K mg base (L2.CX P w) (k + 1) f (PySem.W.fnOf x x (defArgs st) (defBody st) (defScope st) .none kV doc pm an (.ref c) ct) ps (spD ⟨K, mg⟩ T (mkG n N b)) := by
    have hG : ∀ xs, mkG n N b xs ≠ .no → xs.length = ps.length := fun xs h => by
      unfold mkG at h
      split at h
      · rename_i e; rw [e, hn]
      · exact absurd rfl h
    refine fn_of lk hcd Sc (spD_len hG) fun A outer s H vs Q E hr h => ?_
    obtain ⟨S, xs, e, nt, t, r, h⟩ := h
    have hne : mkG n N b xs ≠ .no := fun z => by rw [z] at h; exact h
    have hR : resD (b (startD N xs)) = mkG n N b xs := by
      unfold mkG
      rw [if_pos (by rw [hG xs hne, hn])]
    refine ⟨_, hb f c A outer s S H E hco hr (takes_of rfl rfl rfl rfl), S, _, start_match e nt t r, ?_⟩
    cases hB : b (startD N xs) with
    | nx ds =>
      rw [hB] at hR
      rw [← hR] at h
      exact fun σ' H' S' e' M' => h .non S' H' M'.toRet rfl
    | rt d ds =>
      rw [hB] at hR
      rw [← hR] at h
      exact fun v σ' H' S' e' M' r' => h v S' H' M'.toRet r'
    | ex z ds =>
      rw [hB] at hR
      rw [← hR] at h
      exact fun cls dx σ' H' S' e' M' r' => h cls dx S' H' M'.toRet r'
    | bk ds => rw [hB] at hR; exact absurd hR.symm hne
    | ct ds => rw [hB] at hR; exact absurd hR.symm hne
    | no => rw [hB] at hR; exact absurd hR.symm hne
  refine ⟨⟨f, _, F, hm, hk, .all fun us hl => B.all kV doc pm an _ ct us hl⟩, fun k1 k2 hps => ⟨f, _, hm, F, hk, fun s u v => .of_eq ?_⟩⟩
  rw [B.kw k1 k2 hps kV doc pm an (.ref c) ct u v, hps]
  rfl
theorem cal_N {x : Str} {st : Stmt} {N ps : List Str} {n k : Nat} {g : Ds → Out D} {e : Expr} {rp : Pos} {co : Addr → Prop} (D0 : DefF K mg x st co) (B : BindF x st ps) (Sc : FnScope N ps (defScope st)) (hn : ps.length = n) (hbody : defBody st = [.Return (some e) rp])
    (hb : ∀ (f c : Addr) (A : Around) (outer : List Env) (s : Shared) (S H : Hp) (E : XK), co c → Room k (bcx P w K mg base N x st f (.ref c) A outer s H E).A → Takes (bcx P w K mg base N x st f (.ref c) A outer s H E) (bW E) → DPN (fcD ⟨K, mg⟩ T S H) (bW E) (bcx P w K mg base N x st f (.ref c) A outer s H E) e g) :
    CalN P w K mg base T (k + 1) x (mkN n N g) := by
  obtain ⟨f, c, oc, od, dV, kV, doc, pm, an, ct, osl, hm, hk, rfl, hco, lk, hcd⟩ := D0.ex
  refine ⟨f, _, ps, ?_, hm, hk, .all fun us hl => B.all kV doc pm an (.ref c) ct us hl⟩
  have hG : ∀ xs, mkN n N g xs ≠ .no → xs.length = ps.length := fun xs h => by
    unfold mkN at h
    split at h
    · rename_i e; rw [e, hn]
    · exact absurd rfl h
  refine fn_of lk hcd Sc (spN_len hG) fun A outer s H vs Q E hr h => ?_
  obtain ⟨S, xs, e1, nt, t, r, h⟩ := h
  have hne : mkN n N g xs ≠ .no := fun z => by rw [z] at h; exact h
  have hl : xs.length = n := by rw [hG xs hne, hn]
  unfold mkN at h
  rw [if_pos hl] at h
  rw [hbody]
  refine ⟨_, pss_one (ps_ret (hb f c A outer s S H E hco hr (takes_of rfl rfl rfl rfl))), S, _, start_match e1 nt t r, ?_⟩
  cases hgo : g (startD N xs) with
  | ok d ds =>
    rw [hgo] at h
    exact fun H' S' e' M' p n1 n2 n3 n4 rO => h p S' H' M'.toRet n1 n2 rO
  | ex z ds => rw [hgo] at h; exact h.elim
  | no => rw [hgo] at h; exact h.elim
theorem cal_I {x : Str} {st : Stmt} {N ps : List Str} {n k : Nat} {b : Ds → SO} {co : Addr → Prop} (D0 : DefF K mg x st co) (B : BindF x st ps) (Sc : FnScope N ps (defScope st)) (hn : ps.length = n)
    (hb : ∀ (f c : Addr) (A : Around) (outer : List Env) (s : Shared) (S H : Hp) (p : Addr) (E : XK), co c → Room k (bcx P w K mg base N x st f (.ref c) A outer s H E).A → Takes (bcx P w K mg base N x st f (.ref c) A outer s H E) (bW E) → DPSs (fcI ⟨K, mg⟩ T S H p) (bW E) (bcx P w K mg base N x st f (.ref c) A outer s H E) (defBody st) b) :
    CalI P w K mg base T (k + 1) x (mkI n N b) := by
  obtain ⟨f, c, oc, od, dV, kV, doc, pm, an, ct, osl, hm, hk, rfl, hco, lk, hcd⟩ := D0.ex
  refine ⟨f, _, ps, ?_, hm, hk, .all fun us hl => B.all kV doc pm an (.ref c) ct us hl⟩
  have hG : ∀ d xs, mkI n N b d xs ≠ .no → xs.length + 1 = ps.length := fun d xs h => by
    unfold mkI at h
    split at h
    · rename_i e; rw [e, hn]
    · exact absurd rfl h
  refine fn_of lk hcd Sc (spI_len hG) fun A outer s H vs Q E hr h => ?_
  obtain ⟨S, p, d, xs, ws, rfl, e, nt, t, nS, rO, r, h⟩ := h
  have hne : mkI n N b d xs ≠ .no := fun z => by rw [z] at h; exact h
  have hR : resI (b (startI N d xs)) = mkI n N b d xs := by
    unfold mkI
    rw [if_pos (by rw [hG d xs hne, hn])]
  refine ⟨_, hb f c A outer s S H p E hco hr (takes_of rfl rfl rfl rfl), S, _, start_matchI e nt t nS rO r, ?_⟩
  have own : ∀ {S' H' : Hp} {σ' : St} {ds : Ds} {d' : D}, Match (fcI ⟨K, mg⟩ T S H p) S' ds σ' H' → io0 ds = some d' → OwnRep ⟨K, mg⟩ S' H' p d' := fun {S' H' σ' ds d'} M' h0 => by
    obtain ⟨d2, a1, a2⟩ := M'.io (0, p) (by simp)
    obtain ⟨q, b1, _, b3, _⟩ := M'.ow 0 true d' (io0_eq h0)
    have a2' : σ'[0]? = some (some (V.ref p)) := a2
    rw [a2'] at b1; cases b1
    exact b3
  have key : ∀ {ds : Ds} {z : D → FIO}, (match io0 ds with | some d => z d | none => FIO.no) = mkI n N b d xs → ∃ d', io0 ds = some d' ∧ z d' = mkI n N b d xs := fun {ds z} e => by
    cases h0 : io0 ds with
    | none => rw [h0] at e; exact absurd e.symm hne
    | some d' => rw [h0] at e; exact ⟨d', rfl, e⟩
  cases hB : b (startI N d xs) with
  | nx ds =>
    rw [hB] at hR
    obtain ⟨d', h0, hR⟩ := key (z := fun d => .ok .non d) hR
    rw [← hR] at h
    exact fun σ' H' S' e' M' => h .non S' H' M'.toRet (own M' h0) rfl
  | rt z ds =>
    rw [hB] at hR
    obtain ⟨d', h0, hR⟩ := key (z := fun d => .ok z d) hR
    rw [← hR] at h
    exact fun v σ' H' S' e' M' r' => h v S' H' M'.toRet (own M' h0) r'
  | ex z ds =>
    rw [hB] at hR
    obtain ⟨d', h0, hR⟩ := key (z := fun d => .ex z d) hR
    rw [← hR] at h
    exact fun cls dx σ' H' S' e' M' r' => h cls dx S' H' M'.toRet (own M' h0) r'
  | bk ds => rw [hB] at hR; exact absurd hR.symm hne
  | ct ds => rw [hB] at hR; exact absurd hR.symm hne
  | no => rw [hB] at hR; exact absurd hR.symm hne
end
/-! ### calls by names -/
section
variable {F : Fc} {W : WX} {X : Cx} {k j : Nat} {ps : List Str} {x : Str} {p pos p3 : Pos} {e e1 e2 : Expr} {es : List Expr}
theorem d_cal {G : List D → FO} {fa : Ds → Out (List D)} (c : CalD X.prog X.w X.K X.mg X.base F.T k x ps G) (hE : F.E = ⟨X.K, X.mg⟩) (tk : Takes X W) (hr : Room j X.A) (hg : Gl X x) (ha : DPA F W X (e :: es) fa) (hj : k ≤ j := by decide) (hdb : (x == ("__debug__" : Str)) = false := by decide)
    (he : starEach (e :: es) X.env = (false, eval e X.env) :: starEach es X.env := by rfl) (hpl : (backTo pos (starEach es X.env)).any (·.1) = false := by rfl) : DPE F W X (.Call (.Name x p) (e :: es) [] pos) (eCall G fa) := by
  obtain ⟨f, fd, Fn, hm, hk, hb⟩ := c.ex
  rw [← hE] at Fn
  exact d_call Fn tk (hr.mono hj) hg hm hk hb ha hdb he hpl
theorem d_calN {G : List D → FO} {fa : Ds → Out (List D)} (c : CalN X.prog X.w X.K X.mg X.base F.T k x G) (hE : F.E = ⟨X.K, X.mg⟩) (tk : Takes X W) (hr : Room j X.A) (hg : Gl X x) (ha : DPA F W X (e :: es) fa) (hj : k ≤ j := by decide) (hdb : (x == ("__debug__" : Str)) = false := by decide)
    (he : starEach (e :: es) X.env = (false, eval e X.env) :: starEach es X.env := by rfl) (hpl : (backTo pos (starEach es X.env)).any (·.1) = false := by rfl) : DPN F W X (.Call (.Name x p) (e :: es) [] pos) (eCall G fa) := by
  obtain ⟨f, fd, ps, Fn, hm, hk, hb⟩ := c.ex
  rw [← hE] at Fn
  exact d_callN Fn tk (hr.mono hj) hg hm hk hb ha hdb he hpl
theorem d_calI {i : Nat} {y : Str} {G : D → List D → FIO} {fa : Ds → Out (List D)} (c : CalI X.prog X.w X.K X.mg X.base F.T k x G) (hE : F.E = ⟨X.K, X.mg⟩) (tk : Takes X W) (hr : Room j X.A) (hg : Gl X x) (hN : X.N[i]? = some y) (hv : Vis X.env.scope y) (ha : DPA F W X es fa) (hj : k ≤ j := by decide)
    (hd : (y == ("__debug__" : Str)) = false := by decide) (hcd : (y == ("__classdict__" : Str)) = false := by decide) (hdb : (x == ("__debug__" : Str)) = false := by decide)
    (he : starEach (.Name y p3 :: es) X.env = (false, eval (.Name y p3) X.env) :: starEach es X.env := by rfl) (hpl : (backTo pos (starEach es X.env)).any (·.1) = false := by rfl) : DPE F W X (.Call (.Name x p) (.Name y p3 :: es) [] pos) (eCallI i G fa) := by
  obtain ⟨f, fd, ps, Fn, hm, hk, hb⟩ := c.ex
  rw [← hE] at Fn
  exact d_callI Fn tk (hr.mono hj) hg hm hk hb hN hv ha hd hcd hdb he hpl
/-- x(k1 = e1, k2 = e2), the parameters k2, k1 -/
def eCallK (G : List D → FO) (f1 f2 : Ds → Out D) (ds : Ds) : Out D := (f1 ds).bind fun d1 ds1 => (f2 ds1).bind fun d2 ds2 => outD (G [d2, d1]) ds2
theorem d_calK {k1 k2 : Str} {q1 q2 : Pos} {G : List D → FO} {f1 f2 : Ds → Out D} (c : CalD X.prog X.w X.K X.mg X.base F.T k x ps G) (hps : ps = [k2, k1]) (hE : F.E = ⟨X.K, X.mg⟩) (tk : Takes X W) (hr : Room j X.A) (hg : Gl X x) (h1 : DPE F W X e1 f1) (h2 : DPE F W X e2 f2) (hj : k ≤ j := by decide) (hdb : (x == ("__debug__" : Str)) = false := by decide)
    (hall : (backToKw pos (keywordEach [⟨some k1, e1, q1⟩, ⟨some k2, e2, q2⟩] X.env)).all (·.1.isSome) = true := by rfl) (hks : (backToKw pos (keywordEach [⟨some k1, e1, q1⟩, ⟨some k2, e2, q2⟩] X.env)).filterMap (·.1) = [k1, k2] := by rfl)
    (hpl : ((backTo pos (starEach [] X.env)).any (·.1) || (backToKw pos (keywordEach [⟨some k1, e1, q1⟩, ⟨some k2, e2, q2⟩] X.env)).any (·.1.isNone)) = false := by rfl) : DPE F W X (.Call (.Name x p) [] [⟨some k1, e1, q1⟩, ⟨some k2, e2, q2⟩] pos) (eCallK G f1 f2) := by
  obtain ⟨f, fd, hm, Fn, hk, hb⟩ := c.kb k1 k2 hps
  rw [← hE] at Fn
  refine ⟨fun pins s σ H Q I ⟨S, ds, M, q⟩ => ?_⟩
  refine wpAny_Call_Name_kw (ld_glob I hg hm ?_ hdb)
  refine PySem.W.callWith_KW0 (h₀ := X.base) I.ok.mod.kin hk hall (thn ((pk_cons (nm := some k1) (kpos := q1) h1 (pk_cons (nm := some k2) (kpos := q2) h2 pk_nil)).run pos pins s σ H (fun vs H2 => ∃ v1 v2, vs = [v1, v2] ∧ spD F.E F.T G [v2, v1] H2 Q (WE W σ)) I ⟨S, ds, M, (GPost.bind q).imp fun d1 ds1 S1 H1 x1 M1 q1 v1 r1 => ⟨S1, ds1, M1, (GPost.bind q1).imp fun d2 ds2 S2 H2 x2 M2 q2 v2 r2 => ?_⟩⟩) fun ws s2 ⟨zs, H2, I2, rz, q2⟩ => ⟨I2.kIn, ?_⟩) hpl
  · exact ⟨v1, v2, rfl, spD_use M2 (.cons r2 (.cons (r1.mono x2) .nil)) q2⟩
  · rw [hks]
    obtain ⟨v1, v2, rfl, hsp⟩ := q2
    obtain ⟨u1, u2, rfl, g1, g2⟩ := Vals.two rz
    refine wpAny_call (codeAny_mono (Fn.run X.A X.stack s2 H2 ⟨[], [(k1, u1), (k2, u2)]⟩ [u2, u1] [v2, v1] Q (WE W σ) (hr.mono hj) I2.env0 (hb s2 u1 u2) (.cons g2 (.cons g1 .nil)) hsp) fun r s' hq => ?_)
    cases r with
    | error e => exact passAt tk σ pins H2 s2 e s' I2 hq
    | ok fl =>
      cases fl with
      | ret u => exact I2.after hq
      | next => exact False.elim hq
      | brk => exact False.elim hq
      | cont => exact False.elim hq
end
/-! ### the law's end -/
def dropT (H : Hp) : Hp := fun a => match H a with
  | some (.tbl _) => none
  | o => o
theorem dropT_same (H : Hp) : Same (dropT H) H := fun a o h => by
  unfold dropT at h
  split at h
  · cases h
  · exact h
theorem dropT_no (H : Hp) : NoTbl (dropT H) := fun a ps h => by
  unfold dropT at h
  split at h
  · cases h
  · rename_i hn
    exact hn ps h
theorem dropT_at {H : Hp} {a : Addr} {o : HO} (h : H a = some o) (n : ∀ ps, o ≠ .tbl ps) : dropT H a = some o := by
  unfold dropT
  rw [h]
  split
  · rename_i ps z
    cases z
    exact absurd rfl (n ps)
  · rfl
theorem law_sp {K : PySem.W.Frag} {mg : Str → Option Value} {cs : List (Addr × Addr)} {T : List (Addr × Str)} {G : List D → FO} {H : Hp} {a : Addr} {ns : List Int} (hT : ∀ p ∈ T, ∃ q ∈ cs, q.2 = p.1) (hc : ∀ p ∈ cs, H p.2 = some (.tbl #[])) (hS : SqL K H a (ns.map V.int)) (hG : G [.scr (ns.map .int)] = .ok (.bl true)) :
    spD ⟨K, mg⟩ T G [.ref a] H (fun v _ => v = .bl true) fun _ _ _ => False := by
  refine ⟨dropT H, [.scr (ns.map .int)], dropT_same H, dropT_no H, fun p hp => ?_, .cons ⟨a, _, rfl, ?_, Reps.ints ns⟩ .nil, ?_⟩
  · obtain ⟨q, hq, e⟩ := hT p hp
    rw [← e]
    exact LamX.TabS.nil (hc q hq)
  · rcases hS with (h | ⟨o, h⟩) | h
    · exact .inl (.inl (dropT_at h fun _ z => by cases z))
    · exact .inl (.inr ⟨o, dropT_at h fun _ z => by cases z⟩)
    · exact .inr h
  · rw [hG]
    exact fun v S' H' R r => r
end DV

set_option Elab.async false
set_option linter.all false
set_option maxRecDepth 100000
set_option maxHeartbeats 4000000
/-! DVG: the rules in short, for printed proofs. -/
namespace DV
open PySem PySem.Spec PyProof.Rows L2
section
variable {F : Fc} {W : WX} {X : Cx} {k j : Nat} {x y : Str} {p pos p2 p3 p4 : Pos} {a b c e : Expr} {es : List Expr} {fa fb fc : Ds → Out Opd}
theorem room_u (hr : Room k X.A) : X.A.units + 64 < cLine := by have := hr.un; omega
theorem dv (i : Nat) (hN : X.N[i]? = some x := by rfl) (hv : Vis X.env.scope x := by first | exact Or.inl rfl | exact Or.inr (Or.inl rfl) | exact Or.inr (Or.inr rfl)) (hd : (x == ("__debug__" : Str)) = false := by decide) (hcd : (x == ("__classdict__" : Str)) = false := by decide) : DPE F W X (.Name x pos) (eVar i) := d_var hN hv hd hcd
theorem ov (i : Nat) (hN : X.N[i]? = some x := by rfl) (hv : Vis X.env.scope x := by first | exact Or.inl rfl | exact Or.inr (Or.inl rfl) | exact Or.inr (Or.inr rfl)) (hd : (x == ("__debug__" : Str)) = false := by decide) (hcd : (x == ("__classdict__" : Str)) = false := by decide) : DPO F W X (.Name x pos) (oVar i) := d_ov hN hv hd hcd
/-- what the built-ins' names mean -/
structure Blt (mg : Str → Option Value) : Prop where
  len : mg "len" = none
  range : mg "range" = none
  int : mg "int" = none
  str : mg "str" = none
  abs : mg "abs" = none
  min : mg "min" = none
  max : mg "max" = none
  all : mg "all" = none
  any : mg "any" = none
  sum : mg "sum" = none
  sorted : mg "sorted" = none
  list : mg "list" = none
  tuple : mg "tuple" = none
  bool : mg "bool" = none
  isinstance : mg "isinstance" = none
  dict : mg "dict" = none
  super : mg "super" = none
  ve : mg "ValueError" = none
theorem b_len : bootBuiltins "len" = some (.builtin "len") := by decide +kernel
theorem b_abs : bootBuiltins "abs" = some (.builtin "abs") := by decide +kernel
theorem b_min : bootBuiltins "min" = some (.builtin "min") := by decide +kernel
theorem b_max : bootBuiltins "max" = some (.builtin "max") := by decide +kernel
theorem b_all : bootBuiltins "all" = some (.builtin "all") := by decide +kernel
theorem b_any : bootBuiltins "any" = some (.builtin "any") := by decide +kernel
theorem b_sum : bootBuiltins "sum" = some (.builtin "sum") := by decide +kernel
theorem b_sorted : bootBuiltins "sorted" = some (.builtin "sorted") := by decide +kernel
theorem b_int : bootBuiltins "int" = some (.type "int") := by decide +kernel
theorem b_str : bootBuiltins "str" = some (.type "str") := by decide +kernel
theorem b_bool : bootBuiltins "bool" = some (.type "bool") := by decide +kernel
theorem b_list : bootBuiltins "list" = some (.type "list") := by decide +kernel
theorem b_tuple : bootBuiltins "tuple" = some (.type "tuple") := by decide +kernel
theorem b_dict : bootBuiltins "dict" = some (.type "dict") := by decide +kernel
theorem b_ve : bootBuiltins "ValueError" = some (.type "ValueError") := by decide +kernel
section
variable (B : Blt X.mg)
include B
theorem b1_len (hK : X.K = F.E.K) (ha : DPO F W X a fa) (hg : Gl X "len" := by rfl) (he : starEach [a] X.env = (false, eval a X.env) :: starEach [] X.env := by rfl) : DPE F W X (.Call (.Name "len" p2) [a] [] pos) (eOp1 gLen fa) := d_b1 call_len (by rw [hK]; exact c_len) hg B.len b_len ha (by decide) (by decide) he
theorem b1_abs (ha : DPO F W X a fa) (hg : Gl X "abs" := by rfl) (he : starEach [a] X.env = (false, eval a X.env) :: starEach [] X.env := by rfl) : DPE F W X (.Call (.Name "abs" p2) [a] [] pos) (eOp1 gAbs fa) := d_b1 call_abs c_abs hg B.abs b_abs ha (by decide) (by decide) he
theorem b1_all (hc : X.calm = true) (hK : X.K = F.E.K) (ha : DPO F W X a fa) (hg : Gl X "all" := by rfl) (he : starEach [a] X.env = (false, eval a X.env) :: starEach [] X.env := by rfl) : DPE F W X (.Call (.Name "all" p2) [a] [] pos) (eOp1 gAll fa) := d_b1 (cr_all hc) (by rw [hK]; exact c_all) hg B.all b_all ha (by decide) (by decide) he
theorem b1_any (hc : X.calm = true) (hK : X.K = F.E.K) (ha : DPO F W X a fa) (hg : Gl X "any" := by rfl) (he : starEach [a] X.env = (false, eval a X.env) :: starEach [] X.env := by rfl) : DPE F W X (.Call (.Name "any" p2) [a] [] pos) (eOp1 gAny fa) := d_b1 (cr_any hc) (by rw [hK]; exact c_any) hg B.any b_any ha (by decide) (by decide) he
theorem b1_sum (hc : X.calm = true) (hK : X.K = F.E.K) (ha : DPO F W X a fa) (hg : Gl X "sum" := by rfl) (he : starEach [a] X.env = (false, eval a X.env) :: starEach [] X.env := by rfl) : DPE F W X (.Call (.Name "sum" p2) [a] [] pos) (eOp1 gSum fa) := d_b1 (cr_sum hc) (by rw [hK]; exact c_sum) hg B.sum b_sum ha (by decide) (by decide) he
theorem b1_sorted (hK : X.K = F.E.K) (ha : DPO F W X a fa) (hg : Gl X "sorted" := by rfl) (he : starEach [a] X.env = (false, eval a X.env) :: starEach [] X.env := by rfl) : DPE F W X (.Call (.Name "sorted" p2) [a] [] pos) (eOp1 gSorted fa) := d_b1 cr_sortedI (by rw [hK]; exact c_sorted) hg B.sorted b_sorted ha (by decide) (by decide) he
theorem b1_int (ha : DPO F W X a fa) (hg : Gl X "int" := by rfl) (he : starEach [a] X.env = (false, eval a X.env) :: starEach [] X.env := by rfl) : DPE F W X (.Call (.Name "int" p2) [a] [] pos) (eOp1 gInt fa) := d_t1 call_int1 c_int hg B.int b_int ha (by decide) (by decide) he
theorem b1_bool (ha : DPO F W X a fa) (hg : Gl X "bool" := by rfl) (he : starEach [a] X.env = (false, eval a X.env) :: starEach [] X.env := by rfl) : DPE F W X (.Call (.Name "bool" p2) [a] [] pos) (eOp1 gBool fa) := d_t1 call_bool1 c_bool hg B.bool b_bool ha (by decide) (by decide) he
theorem b1_str (ha : DPO F W X a fa) (hg : Gl X "str" := by rfl) (he : starEach [a] X.env = (false, eval a X.env) :: starEach [] X.env := by rfl) : DPE F W X (.Call (.Name "str" p2) [a] [] pos) (eOp1 gStrI fa) := d_t1 call_str_int c_strI hg B.str b_str ha (by decide) (by decide) he
theorem b1_tuple (hK : X.K = F.E.K) (ha : DPO F W X a fa) (hg : Gl X "tuple" := by rfl) (he : starEach [a] X.env = (false, eval a X.env) :: starEach [] X.env := by rfl) : DPE F W X (.Call (.Name "tuple" p2) [a] [] pos) (eOp1 gTuple fa) := d_t1 call_tuple_of (by rw [hK]; exact c_tuple) hg B.tuple b_tuple ha (by decide) (by decide) he
theorem b1_list (hK : X.K = F.E.K) (ha : DPO F W X a fa) (hg : Gl X "list" := by rfl) (he : starEach [a] X.env = (false, eval a X.env) :: starEach [] X.env := by rfl) : DPE F W X (.Call (.Name "list" p2) [a] [] pos) (eOp1 gList fa) := d_t1 call_list_of (by rw [hK]; exact c_list) hg B.list b_list ha (by decide) (by decide) he
theorem b2_min (hc : X.calm = true) (ha : DPO F W X a fa) (hb : DPO F W X b fb) (hg : Gl X "min" := by rfl) (he : starEach [a, b] X.env = (false, eval a X.env) :: starEach [b] X.env := by rfl) (hs : starEach [b] X.env = (false, eval b X.env) :: starEach [] X.env := by rfl) (hpl : (backTo pos (starEach [b] X.env)).any (·.1) = false := by rfl) :
    DPE F W X (.Call (.Name "min" p2) [a, b] [] pos) (eOp2 gMin2 fa fb) := d_b2 (call_min2 hc) c_min2 hg B.min b_min ha hb (by decide) (by decide) he hs hpl
theorem b2_max (hc : X.calm = true) (ha : DPO F W X a fa) (hb : DPO F W X b fb) (hg : Gl X "max" := by rfl) (he : starEach [a, b] X.env = (false, eval a X.env) :: starEach [b] X.env := by rfl) (hs : starEach [b] X.env = (false, eval b X.env) :: starEach [] X.env := by rfl) (hpl : (backTo pos (starEach [b] X.env)).any (·.1) = false := by rfl) :
    DPE F W X (.Call (.Name "max" p2) [a, b] [] pos) (eOp2 gMax2 fa fb) := d_b2 (call_max2 hc) c_max2 hg B.max b_max ha hb (by decide) (by decide) he hs hpl
theorem b2_int (ha : DPO F W X a fa) (hb : DPO F W X b fb) (hg : Gl X "int" := by rfl) (he : starEach [a, b] X.env = (false, eval a X.env) :: starEach [b] X.env := by rfl) (hs : starEach [b] X.env = (false, eval b X.env) :: starEach [] X.env := by rfl) (hpl : (backTo pos (starEach [b] X.env)).any (·.1) = false := by rfl) :
    DPE F W X (.Call (.Name "int" p2) [a, b] [] pos) (eOp2 gIntBase fa fb) := d_t2 call_int_bin c_intBase hg B.int b_int ha hb (by decide) (by decide) he hs hpl
theorem is_int (hK : X.K = F.E.K) (ha : DPO F W X a fa) (hg : Gl X "isinstance" := by rfl) (hg2 : Gl X "int" := by rfl) (he : starEach [a, .Name "int" p3] X.env = (false, eval a X.env) :: starEach [.Name "int" p3] X.env := by rfl) : DPE F W X (.Call (.Name "isinstance" p2) [a, .Name "int" p3] [] pos) (eOp1 (gIsi "int") fa) := d_isi hK (by decide) hg B.isinstance hg2 B.int b_int ha (by decide) (by decide) he
theorem is_bool (hK : X.K = F.E.K) (ha : DPO F W X a fa) (hg : Gl X "isinstance" := by rfl) (hg2 : Gl X "bool" := by rfl) (he : starEach [a, .Name "bool" p3] X.env = (false, eval a X.env) :: starEach [.Name "bool" p3] X.env := by rfl) : DPE F W X (.Call (.Name "isinstance" p2) [a, .Name "bool" p3] [] pos) (eOp1 (gIsi "bool") fa) := d_isi hK (by decide) hg B.isinstance hg2 B.bool b_bool ha (by decide) (by decide) he
theorem is_str (hK : X.K = F.E.K) (ha : DPO F W X a fa) (hg : Gl X "isinstance" := by rfl) (hg2 : Gl X "str" := by rfl) (he : starEach [a, .Name "str" p3] X.env = (false, eval a X.env) :: starEach [.Name "str" p3] X.env := by rfl) : DPE F W X (.Call (.Name "isinstance" p2) [a, .Name "str" p3] [] pos) (eOp1 (gIsi "str") fa) := d_isi hK (by decide) hg B.isinstance hg2 B.str b_str ha (by decide) (by decide) he
theorem is_list (hK : X.K = F.E.K) (ha : DPO F W X a fa) (hg : Gl X "isinstance" := by rfl) (hg2 : Gl X "list" := by rfl) (he : starEach [a, .Name "list" p3] X.env = (false, eval a X.env) :: starEach [.Name "list" p3] X.env := by rfl) : DPE F W X (.Call (.Name "isinstance" p2) [a, .Name "list" p3] [] pos) (eOp1 (gIsi "list") fa) := d_isi hK (by decide) hg B.isinstance hg2 B.list b_list ha (by decide) (by decide) he
theorem is_lt {n : Nat} {p5 : Pos} (hK : X.K = F.E.K) (ha : DPO F W X a fa) (hg : Gl X "isinstance" := by rfl) (hg2 : Gl X "list" := by rfl) (hg3 : Gl X "tuple" := by rfl) (he : starEach [a, .Tuple [.Name "list" p3, .Name "tuple" p4] n p5] X.env = (false, eval a X.env) :: starEach [.Tuple [.Name "list" p3, .Name "tuple" p4] n p5] X.env := by rfl) :
    DPE F W X (.Call (.Name "isinstance" p2) [a, .Tuple [.Name "list" p3, .Name "tuple" p4] n p5] [] pos) (eOp1 (gIsiT ["list", "tuple"]) fa) := d_isiT hK (by decide) (by decide) hg B.isinstance hg2 B.list b_list hg3 B.tuple b_tuple ha (by decide) (by decide) (by decide) (by decide) he
theorem i_r1 {tg : Expr} {f : Ds → Out (List D)} (h : DPA F W X [a] f) (hg : Gl X "range" := by rfl) (hs : starEach [a] X.env = [(false, eval a X.env)] := by rfl) : DPI F W X tg (.Call (.Name "range" p2) [a] [] pos) (iRange1 f) := d_irange1 hg B.range h hs
theorem i_r2 {tg : Expr} {f : Ds → Out (List D)} (h : DPA F W X [a, b] f) (hg : Gl X "range" := by rfl) (hs : starEach [a, b] X.env = [(false, eval a X.env), (false, eval b X.env)] := by rfl) (hs2 : starEach [b] X.env = [(false, eval b X.env)] := by rfl) : DPI F W X tg (.Call (.Name "range" p2) [a, b] [] pos) (iRange2 f) := d_irange2 hg B.range h hs hs2
theorem n_listS {f : Ds → Out D} (hc : X.calm = true) (ha : DPE F W X a f) (hg : Gl X "list" := by rfl) (he : starEach [a] X.env = (false, eval a X.env) :: starEach [] X.env := by rfl) : DPN F W X (.Call (.Name "list" p2) [a] [] pos) (fun ds => (f ds).bind fun d ds1 => liftO (gSigns d) ds1) := d_listS hc hg B.list ha he
end
theorem g_str {l : List Nat} {z : Str} (h : ∃ t, X.mg x = some (.str z t)) (hz : z = SX.S l := by first | rfl | decide +kernel) (hg : Gl X x := by rfl) (hd : (x == ("__debug__" : Str)) = false := by decide) : DPE F W X (.Name x pos) (eC (.str l)) := by
  obtain ⟨t, h⟩ := h
  exact d_gl (v := .str z) hg h ⟨t, rfl⟩ (fun _ => by rw [hz]; rfl) hd
theorem g_int {i : Int} (h : ∃ t, X.mg x = some (.int i t)) (hg : Gl X x := by rfl) (hd : (x == ("__debug__" : Str)) = false := by decide) : DPE F W X (.Name x pos) (eC (.int i)) := by
  obtain ⟨t, h⟩ := h
  exact d_gl (v := .int i) hg h ⟨t, rfl⟩ (fun _ => rfl) hd
/-- what is walked: a list, a tuple or a text -/
def iAny (f : Ds → Out D) (ds : Ds) : Out (List D) := (f ds).bind fun d ds1 => match d with
  | .lst xs => .ok xs ds1
  | .tup xs => .ok xs ds1
  | .str l => .ok (l.map fun c => D.str [c]) ds1
  | _ => .no
theorem i_any {tg : Expr} {f : Ds → Out D} (hK : X.K = F.E.K) (h : DPE F W X e f) : DPI F W X tg e (iAny f) := by
  have h1 := d_ilst (tg := tg) hK h
  have h2 := d_itup (tg := tg) hK h
  have h3 := d_istr (tg := tg) h
  refine ⟨fun pins s σ H R I ⟨S, ds, M, q⟩ => ?_⟩
  unfold iAny at q
  cases hf : f ds with
  | no => rw [hf] at q; exact q.elim
  | ex z ds1 =>
    rw [hf] at q
    exact h1.run pins s σ H R I ⟨S, ds, M, by unfold iLst; rw [hf]; exact q⟩
  | ok d ds1 =>
    rw [hf] at q
    cases d with
    | lst xs => exact h1.run pins s σ H R I ⟨S, ds, M, by unfold iLst; rw [hf]; exact q⟩
    | tup xs => exact h2.run pins s σ H R I ⟨S, ds, M, by unfold iTupD; rw [hf]; exact q⟩
    | str l => exact h3.run pins s σ H R I ⟨S, ds, M, by unfold iStr; rw [hf]; exact q⟩
    | _ => exact q.elim
end
theorem d_tisN {F : Fc} {W : WX} {X : Cx} {pos pos' : Pos} {a : Expr} {fa : Ds → Out Opd} {j : Nat} (ha : DPO F W X a fa) : DPT F W X (.Compare a [.Is] [.Constant .none j pos'] pos) (tBl (eOp1 gIsN fa)) :=
  pt_of (pt_cmp (pc_isN ha)) fun σ H Q h => tUn_of (r := fun x H Q => Q (.bl (decide (x = .non))) H) (fun S H x v d Q e hx h k => by
    dsimp only
    cases hb : isNon x with
    | none => unfold gIsN at h; rw [hb] at h; cases h
    | some b =>
      rw [top_non hx hb]
      unfold gIsN at h
      rw [hb] at h
      cases h
      exact k.here rfl) σ H _ (tB_of σ H Q h)
theorem d_tnotN {F : Fc} {W : WX} {X : Cx} {pos pos' : Pos} {a : Expr} {fa : Ds → Out Opd} {j : Nat} (ha : DPO F W X a fa) : DPT F W X (.Compare a [.IsNot] [.Constant .none j pos'] pos) (tBl (eOp1 gNotN fa)) :=
  pt_of (pt_cmp (pc_notN ha)) fun σ H Q h => tUn_of (r := fun x H Q => Q (.bl (!decide (x = .non))) H) (fun S H x v d Q e hx h k => by
    dsimp only
    cases hb : isNon x with
    | none => unfold gNotN at h; rw [hb] at h; cases h
    | some b =>
      rw [top_non hx hb]
      unfold gNotN at h
      rw [hb] at h
      cases h
      exact k.here rfl) σ H _ (tB_of σ H Q h)
def lamBC (N : List Str) (sc scope : Scope) (bs : List Str) : Bool :=
  decide (scope.kind = .function) && !scope.isCoroutine && !scope.isGenerator && (scope.names.all fun y => !decide (y.2 = .cell)) && (N.all fun y => !decide (scope.names.lookup y = some .local)) && (bs.all fun y => decide (scope.names.lookup y = some .local)) &&
    scope.names.all fun y => !decide (y.2 = .free) || decide (sc.names.lookup y.1 = some .cell) || decide (sc.names.lookup y.1 = some .free)
theorem lamB_by {X : Cx} {N : List Str} {sc scope : Scope} {bs : List Str} (hN : X.N = N) (hs : X.env.scope = sc) (h : lamBC N sc scope bs = true) : LamB X scope bs := by
  unfold lamBC at h
  simp only [Bool.and_eq_true, Bool.or_eq_true, Bool.not_eq_true', decide_eq_true_eq, decide_eq_false_iff_not, List.all_eq_true] at h
  obtain ⟨⟨⟨⟨⟨⟨h1, h2⟩, h3⟩, h4⟩, h5⟩, h6⟩, h7⟩ := h
  refine ⟨h1, h2, h3, h4, fun y hy hm => h5 y (by rw [← hN]; exact hm) hy, h6, fun y hy e => ?_⟩
  rw [hs]
  rcases h7 y hy with (z | z) | z
  · exact absurd e z
  · exact .inl z
  · exact .inr z
end DV

set_option Elab.async false
set_option linter.all false
set_option maxRecDepth 100000
set_option maxHeartbeats 4000000
/-! DVV: how the functions on plain data are reckoned out, step by step. -/
namespace DV
open PySem PySem.Spec PyProof.Rows L2
/-- a proof that simp does not take for a mere unfolding (the kernel would reckon it out anew) -/
theorem nr {α : Sort _} {a b : α} (h : a = b) : a = b := h
section
variable {α β : Type} {a : α} {ds ds1 : Ds} {x : Exn} {g2 : D → D → Option D} {g1 : D → Option D} {fa fb fc : Ds → Out Opd} {f g h : Ds → Out D} {i j : Nat} {d e : D} {b : Bool} {t : Ds → Out Bool} {S T : Ds → SO} {xs ys : List D} {o : Opd}
theorem bi_ok {k : α → Ds → Out β} : Out.bind (.ok a ds) k = k a ds := nr rfl
theorem bi_ex {k : α → Ds → Out β} : Out.bind (.ex x ds) k = .ex x ds := nr rfl
theorem th_ok {k : α → Ds → SO} : Out.then (.ok a ds) k = k a ds := nr rfl
theorem th_ex {k : α → Ds → SO} : Out.then (.ex x ds : Out α) k = .ex x ds := nr rfl
theorem lo_some : liftO (some d) ds = .ok d ds := nr rfl
def derefC : Option Cl → Option D
  | some (.sh d) => some d
  | some (.ow _ d) => some d
  | _ => none
theorem de_val : deref ds (.val d) = some d := nr rfl
theorem de_slot : deref ds (.slot i) = derefC (ds[i]?) := by
  unfold deref derefC
  split <;> rename_i h <;> (try (cases h)) <;> (try simp_all)
  all_goals (split <;> simp_all)
theorem dc_sh : derefC (some (.sh d)) = some d := nr rfl
theorem dc_ow : derefC (some (.ow b d)) = some d := nr rfl
def oVarC (i : Nat) (ds : Ds) : Option Cl → Out Opd
  | some (.sh _) => .ok (.slot i) ds
  | some (.ow _ _) => .ok (.slot i) ds
  | _ => .no
theorem ov_e : oVar i ds = oVarC i ds (ds[i]?) := by unfold oVar oVarC; rfl
theorem oc_sh : oVarC i ds (some (.sh d)) = .ok (.slot i) ds := nr rfl
theorem oc_ow : oVarC i ds (some (.ow b d)) = .ok (.slot i) ds := nr rfl
def kVal (d : D) (ds : Ds) : Out Opd := .ok (.val d) ds
theorem ol_e : oVal f ds = (f ds).bind kVal := nr rfl
theorem kl_e : kVal d ds = .ok (.val d) ds := nr rfl
def eVarC (i : Nat) (ds : Ds) : Option Cl → Out D
  | some (.sh d) => .ok d ds
  | some (.ow false d) => .ok d (ds.set i (.sh d))
  | _ => .no
theorem ev_e : eVar i ds = eVarC i ds (ds[i]?) := by unfold eVar eVarC; rfl
theorem ec_sh : eVarC i ds (some (.sh d)) = .ok d ds := nr rfl
theorem ec_ow : eVarC i ds (some (.ow false d)) = .ok d (ds.set i (.sh d)) := nr rfl
theorem cc_e : eC d ds = .ok d ds := nr rfl
def lift2 (g2 : D → D → Option D) (ds : Ds) : Option D → Option D → Out D
  | some x, some y => liftO (g2 x y) ds
  | _, _ => .no
def k2b (g2 : D → D → Option D) (a b : Opd) (ds : Ds) : Out D := lift2 g2 ds (deref ds a) (deref ds b)
def k2 (g2 : D → D → Option D) (fb : Ds → Out Opd) (a : Opd) (ds : Ds) : Out D := (fb ds).bind (k2b g2 a)
theorem o2_e : eOp2 g2 fa fb ds = (fa ds).bind (k2 g2 fb) := by
  unfold eOp2 k2 k2b lift2
  rfl
theorem k2_e : k2 g2 fb o ds = (fb ds).bind (k2b g2 o) := nr rfl
theorem k2b_e {o2 : Opd} : k2b g2 o o2 ds = lift2 g2 ds (deref ds o) (deref ds o2) := nr rfl
theorem l2_e : lift2 g2 ds (some d) (some e) = liftO (g2 d e) ds := nr rfl
def lift1 (g1 : D → Option D) (ds : Ds) : Option D → Out D
  | some x => liftO (g1 x) ds
  | _ => .no
def k1 (g1 : D → Option D) (a : Opd) (ds : Ds) : Out D := lift1 g1 ds (deref ds a)
theorem o1_e : eOp1 g1 fa ds = (fa ds).bind (k1 g1) := by
  unfold eOp1 k1 lift1
  rfl
theorem k1_e : k1 g1 o ds = lift1 g1 ds (deref ds o) := nr rfl
theorem l1_e : lift1 g1 ds (some d) = liftO (g1 d) ds := nr rfl
def kBl (d : D) (ds : Ds) : Out Bool := match d with
  | .bl b => .ok b ds
  | _ => .no
theorem tb_e : tBl f ds = (f ds).bind kBl := nr rfl
theorem kb_e : kBl (.bl b) ds = .ok b ds := nr rfl
def kAnd (u : Ds → Out Bool) (b : Bool) (ds : Ds) : Out Bool := if b then u ds else .ok false ds
def kOr (u : Ds → Out Bool) (b : Bool) (ds : Ds) : Out Bool := if b then .ok true ds else u ds
def kNot (b : Bool) (ds : Ds) : Out Bool := .ok (!b) ds
variable {u v : Ds → Out Bool}
theorem ta_e : tAndD t u ds = (t ds).bind (kAnd u) := nr rfl
theorem ka_t : kAnd u true ds = u ds := nr rfl
theorem ka_f : kAnd u false ds = .ok false ds := nr rfl
theorem to_e : tOrD t u ds = (t ds).bind (kOr u) := nr rfl
theorem ko_t : kOr u true ds = .ok true ds := nr rfl
theorem ko_f : kOr u false ds = u ds := nr rfl
theorem tn_e : tNotD t ds = (t ds).bind kNot := nr rfl
theorem kn_e : kNot b ds = .ok (!b) ds := nr rfl
def kEA (g : Ds → Out D) (d : D) (ds : Ds) : Out D := match d with
  | .bl b => if b then g ds else .ok (.bl false) ds
  | _ => .no
def kEO (g : Ds → Out D) (d : D) (ds : Ds) : Out D := match d with
  | .bl b => if b then .ok (.bl true) ds else g ds
  | _ => .no
def kEN (d : D) (ds : Ds) : Out D := match d with
  | .bl b => .ok (.bl (!b)) ds
  | _ => .no
theorem ea_e : eAndD f g ds = (f ds).bind (kEA g) := nr rfl
theorem ea_t : kEA g (.bl true) ds = g ds := nr rfl
theorem ea_f : kEA g (.bl false) ds = .ok (.bl false) ds := nr rfl
theorem eo_e : eOrD f g ds = (f ds).bind (kEO g) := nr rfl
theorem eo_t : kEO g (.bl true) ds = .ok (.bl true) ds := nr rfl
theorem eo_f : kEO g (.bl false) ds = g ds := nr rfl
theorem en_e : eNotD f ds = (f ds).bind kEN := nr rfl
theorem en_k : kEN (.bl b) ds = .ok (.bl (!b)) ds := nr rfl
def kIf (f g : Ds → Out D) (b : Bool) (ds : Ds) : Out D := if b then f ds else g ds
theorem if_e : eIf t f g ds = (t ds).bind (kIf f g) := nr rfl
theorem if_t : kIf f g true ds = f ds := nr rfl
theorem if_f : kIf f g false ds = g ds := nr rfl
def kTup (xs : List D) (ds : Ds) : Out D := if xs.length ≤ 10000 then .ok (.tup xs) ds else .no
def kLst (xs : List D) (ds : Ds) : Out D := if xs.length ≤ 10000 then .ok (.lst xs) ds else .no
variable {A B : Ds → Out (List D)}
theorem tu_e : eTup A ds = (A ds).bind kTup := nr rfl
theorem tu_k (hl : xs.length ≤ 10000) : kTup xs ds = .ok (.tup xs) ds := if_pos hl
theorem ls_e : eLst A ds = (A ds).bind kLst := nr rfl
theorem ls_k (hl : xs.length ≤ 10000) : kLst xs ds = .ok (.lst xs) ds := if_pos hl
def kA1 (g : Ds → Out (List D)) (d : D) (ds : Ds) : Out (List D) := (g ds).bind fun xs ds2 => .ok (d :: xs) ds2
theorem an_e : aNil ds = .ok [] ds := nr rfl
theorem ac_e : aCons f A ds = (f ds).bind (kA1 A) := nr rfl
def kA2 (d : D) (xs : List D) (ds : Ds) : Out (List D) := .ok (d :: xs) ds
theorem a1_e : kA1 A d ds = (A ds).bind (kA2 d) := nr rfl
theorem a2_e : kA2 d xs ds = .ok (d :: xs) ds := nr rfl
/-! statements -/
def seqK (o : SO) (g : Ds → SO) : SO := match o with
  | .nx ds1 => g ds1
  | o => o
theorem sq_e : sSeq S T ds = seqK (S ds) T := nr rfl
theorem sq_nx : seqK (.nx ds) T = T ds := nr rfl
theorem sq_rt : seqK (.rt d ds) T = .rt d ds := nr rfl
theorem sq_ex : seqK (.ex x ds) T = .ex x ds := nr rfl
theorem sn_e : sNext ds = .nx ds := nr rfl
def ioC : Option Cl → Bool
  | some (.ow true _) => false
  | _ => true
theorem io_e : ioFree ds i = ioC (ds[i]?) := by
  unfold ioFree ioC
  rfl
theorem io_sh : ioC (some (.sh d)) = true := nr rfl
theorem io_no : ioC (some .no) = true := nr rfl
theorem io_ow : ioC (some (.ow false d)) = true := nr rfl
def putC (i : Nat) (d : D) (ds : Ds) (b : Bool) : Option Ds := if b then some (ds.set i (.sh d)) else none
theorem pu_e : putSh i d ds = putC i d ds (ioFree ds i) := nr rfl
theorem pu_t : putC i d ds true = some (ds.set i (.sh d)) := nr rfl
theorem nx_e : nxO (some ds) = .nx ds := nr rfl
def kSet (i : Nat) (d : D) (ds : Ds) : SO := nxO (putSh i d ds)
theorem se_e : sSet i f ds = (f ds).then (kSet i) := nr rfl
theorem se_k : kSet i d ds = nxO (putSh i d ds) := nr rfl
def kNew (i : Nat) (d : D) (ds : Ds) : SO := if ioFree ds i then .nx (ds.set i (.ow false d)) else .no
def newC (i : Nat) (d : D) (ds : Ds) (b : Bool) : SO := if b then .nx (ds.set i (.ow false d)) else .no
theorem ne_e : sNew i f ds = (f ds).then (kNew i) := nr rfl
theorem ne_k : kNew i d ds = newC i d ds (ioFree ds i) := nr rfl
theorem ne_t : newC i d ds true = .nx (ds.set i (.ow false d)) := nr rfl
def kRet (d : D) (ds : Ds) : SO := .rt d ds
theorem re_e : sRet f ds = (f ds).then kRet := nr rfl
theorem re_k : kRet d ds = .rt d ds := nr rfl
def kDrop (d : D) (ds : Ds) : SO := .nx ds
theorem dr_e : sDrop f ds = (f ds).then kDrop := nr rfl
theorem dr_k : kDrop d ds = .nx ds := nr rfl
def kSIf (S T : Ds → SO) (b : Bool) (ds : Ds) : SO := if b then S ds else T ds
theorem si_e : sIf t S T ds = (t ds).then (kSIf S T) := nr rfl
theorem si_t : kSIf S T true ds = S ds := nr rfl
theorem si_f : kSIf S T false ds = T ds := nr rfl
def kPar (i j : Nat) (xs : List D) (ds : Ds) : SO := match xs with
  | [a, b] => nxO ((putSh i a ds).bind (putSh j b))
  | _ => .no
theorem pa_e : sPar i j A ds = (A ds).then (kPar i j) := nr rfl
theorem pa_k : kPar i j [d, e] ds = nxO ((putSh i d ds).bind (putSh j e)) := nr rfl
theorem ob_some {k : Ds → Option Ds} : (some ds).bind k = k ds := nr rfl
def kFor (g : D → Ds → Option Ds) (fb : Ds → SO) (xs : List D) (ds : Ds) : SO := loopD g fb xs ds
theorem fo_e {G : D → Ds → Option Ds} : sFor A G S ds = (A ds).then (kFor G S) := nr rfl
theorem fo_k {G : D → Ds → Option Ds} : kFor G S xs ds = loopD G S xs ds := nr rfl
def kRaise (c fld : Str) (d : D) (ds : Ds) : SO := .ex ⟨c, [fld], [d]⟩ ds
theorem ra_e {c fld : Str} : sRaise c fld f ds = (f ds).then (kRaise c fld) := nr rfl
theorem ra_k {c fld : Str} : kRaise c fld d ds = .ex ⟨c, [fld], [d]⟩ ds := nr rfl
/-! walks -/
def kAny (d : D) (ds : Ds) : Out (List D) := match d with
  | .lst xs => .ok xs ds
  | .tup xs => .ok xs ds
  | .str l => .ok (l.map fun c => D.str [c]) ds
  | _ => .no
theorem ia_e : iAny f ds = (f ds).bind kAny := nr rfl
theorem ia_l : kAny (.lst xs) ds = .ok xs ds := nr rfl
theorem ia_t : kAny (.tup xs) ds = .ok xs ds := nr rfl
theorem ia_s {l : List Nat} : kAny (.str l) ds = .ok (l.map fun c => D.str [c]) ds := nr rfl
def kR1 (xs : List D) (ds : Ds) : Out (List D) := match xs with
  | [.int n] => if -(2 ^ 62) ≤ n ∧ n < 2 ^ 62 then .ok (rangeD 0 n.toNat) ds else .no
  | _ => .no
theorem r1_e : iRange1 A ds = (A ds).bind kR1 := nr rfl
theorem r1_k {n : Int} (h : -4611686018427387904 ≤ n ∧ n < 4611686018427387904) : kR1 [.int n] ds = .ok (rangeD 0 n.toNat) ds := if_pos h
def kR2 (xs : List D) (ds : Ds) : Out (List D) := match xs with
  | [.int m, .int n] => if -(2 ^ 62) ≤ m ∧ m < 2 ^ 62 ∧ -(2 ^ 62) ≤ n ∧ n < 2 ^ 62 then .ok (rangeD m (n - m).toNat) ds else .no
  | _ => .no
theorem r2_e : iRange2 A ds = (A ds).bind kR2 := nr rfl
theorem r2_k {m n : Int} (h : -4611686018427387904 ≤ m ∧ m < 4611686018427387904 ∧ -4611686018427387904 ≤ n ∧ n < 4611686018427387904) : kR2 [.int m, .int n] ds = .ok (rangeD m (n - m).toNat) ds := if_pos h
/-! comprehensions -/
def lcC (vs : List Nat) (d0 : Ds) : Out (List D) → Out D
  | .ok ys ds2 => .ok (.lst ys) (restD vs d0 ds2)
  | _ => .no
def kLc (vs : List Nat) (G : D → Ds → Option Ds) (t : Ds → Out Bool) (f : Ds → Out D) (xs : List D) (ds : Ds) : Out D := if noOwn vs ds = true ∧ xs.length ≤ 1000000 then lcC vs ds (compD vs G t f xs (wipeD vs ds)) else .no
theorem lc_e {vs : List Nat} {G : D → Ds → Option Ds} : eLc vs A G t f ds = (A ds).bind (kLc vs G t f) := by
  unfold eLc kLc lcC
  rfl
theorem lc_k {vs : List Nat} {G : D → Ds → Option Ds} (h1 : noOwn vs ds = true) (h2 : xs.length ≤ 1000000) : kLc vs G t f xs ds = lcC vs ds (compD vs G t f xs (wipeD vs ds)) := if_pos ⟨h1, h2⟩
theorem lc_c {vs : List Nat} {d0 : Ds} : lcC vs d0 (.ok ys ds) = .ok (.lst ys) (restD vs d0 ds) := nr rfl
/-! calls -/
def kCall (G : List D → FO) (xs : List D) (ds : Ds) : Out D := outD (G xs) ds
theorem ca_e {G : List D → FO} : eCall G A ds = (A ds).bind (kCall G) := nr rfl
theorem ca_k {G : List D → FO} : kCall G xs ds = outD (G xs) ds := nr rfl
theorem ou_ok : outD (.ok d) ds = .ok d ds := nr rfl
theorem ou_ex : outD (.ex x) ds = .ex x ds := nr rfl
def kKw2 (G : List D → FO) (d1 : D) (d2 : D) (ds : Ds) : Out D := outD (G [d2, d1]) ds
def kKw1 (G : List D → FO) (f2 : Ds → Out D) (d1 : D) (ds : Ds) : Out D := (f2 ds).bind (kKw2 G d1)
theorem kw_e {G : List D → FO} : eCallK G f g ds = (f ds).bind (kKw1 G g) := nr rfl
theorem kw_1 {G : List D → FO} : kKw1 G g d ds = (g ds).bind (kKw2 G d) := nr rfl
theorem kw_2 {G : List D → FO} : kKw2 G d e ds = outD (G [e, d]) ds := nr rfl
def isOw : Option Cl → Bool
  | some (.ow _ _) => true
  | _ => false
def outI (j : Nat) (b : Bool) (ds : Ds) : FIO → Out D
  | .ok r d' => .ok r (ds.set j (.ow b d'))
  | .ex x d' => .ex x (ds.set j (.ow b d'))
  | .no => .no
def ioG (j : Nat) (G : D → List D → FIO) (xs : List D) (ds : Ds) : Option Cl → Out D
  | some (.ow b d) => outI j b ds (G d xs)
  | _ => .no
def kIo (j : Nat) (G : D → List D → FIO) (xs : List D) (ds : Ds) : Out D := ioG j G xs ds (ds[j]?)
def ioS (j : Nat) (G : D → List D → FIO) (A : Ds → Out (List D)) (ds : Ds) : Option Cl → Out D
  | some (.ow _ _) => (A ds).bind (kIo j G)
  | _ => .no
theorem ci_e {G : D → List D → FIO} : eCallI j G A ds = ioS j G A ds (ds[j]?) := by
  unfold eCallI ioS kIo ioG outI
  rfl
theorem ci_s {G : D → List D → FIO} : ioS j G A ds (some (.ow b d)) = (A ds).bind (kIo j G) := nr rfl
theorem ci_k {G : D → List D → FIO} : kIo j G xs ds = ioG j G xs ds (ds[j]?) := nr rfl
theorem ci_g {G : D → List D → FIO} : ioG j G xs ds (some (.ow b d)) = outI j b ds (G d xs) := nr rfl
theorem oi_ok : outI j b ds (.ok d e) = .ok d (ds.set j (.ow b e)) := nr rfl
theorem oi_ex : outI j b ds (.ex x e) = .ex x (ds.set j (.ow b e)) := nr rfl
/-! methods, lists -/
def liftM (g1 : D → Option D) (ds : Ds) : Option D → Out D
  | some x => liftO (g1 x) ds
  | none => .no
def kM2 (g : List Nat → D → Option D) (l : List Nat) (a : Opd) (ds : Ds) : Out D := liftM (g l) ds (deref ds a)
def kM1 (g : List Nat → D → Option D) (fa : Ds → Out Opd) (o : D) (ds : Ds) : Out D := match o with
  | .str l => (fa ds).bind (kM2 g l)
  | _ => .no
theorem m1_e {G : List Nat → D → Option D} : eM1 G f fa ds = (f ds).bind (kM1 G fa) := by
  unfold eM1 kM1 kM2 liftM
  rfl
theorem m1_k {G : List Nat → D → Option D} {l : List Nat} : kM1 G fa (.str l) ds = (fa ds).bind (kM2 G l) := nr rfl
theorem m2_k {G : List Nat → D → Option D} {l : List Nat} : kM2 G l o ds = liftM (G l) ds (deref ds o) := nr rfl
theorem m3_k : liftM g1 ds (some d) = liftO (g1 d) ds := nr rfl
def owC : Option Cl → Option (Bool × List D)
  | some (.ow b (.lst xs)) => some (b, xs)
  | _ => none
theorem ow_e : owLst ds i = owC (ds[i]?) := by
  unfold owLst owC
  rfl
theorem ow_k : owC (some (.ow b (.lst xs))) = some (b, xs) := nr rfl
def setC (j : Nat) (b : Bool) (xs : List D) (d : D) (ds : Ds) : Option Nat → SO
  | some n => .nx (ds.set j (.ow b (.lst (xs.set n d))))
  | none => .no
def kIx3 (j : Nat) (d k : D) (ds : Ds) : Option (Bool × List D) → SO
  | some (b, xs) => match k with
    | .int i => setC j b xs d ds (ixN xs.length i)
    | _ => .no
  | _ => .no
def kIx2 (j : Nat) (d k : D) (ds : Ds) : SO := kIx3 j d k ds (owLst ds j)
def kIx1 (j : Nat) (fi : Ds → Out D) (d : D) (ds : Ds) : Option (Bool × List D) → SO
  | some _ => (fi ds).then (kIx2 j d)
  | none => .no
def kIx0 (j : Nat) (fi : Ds → Out D) (d : D) (ds : Ds) : SO := kIx1 j fi d ds (owLst ds j)
theorem ix_e : sSetIx j f g ds = (f ds).then (kIx0 j g) := by
  unfold sSetIx kIx0 kIx1 kIx2 kIx3 setC
  congr
  funext d ds1
  cases owLst ds1 j with
  | none => rfl
  | some o =>
    dsimp only
    congr
    funext k ds2
    cases owLst ds2 j with
    | none => rfl
    | some o =>
      obtain ⟨b, xs⟩ := o
      cases k <;> rfl
theorem ix_0 : kIx0 j g d ds = kIx1 j g d ds (owLst ds j) := nr rfl
theorem ix_1 {z : Bool × List D} : kIx1 j g d ds (some z) = (g ds).then (kIx2 j d) := nr rfl
theorem ix_2 : kIx2 j d e ds = kIx3 j d e ds (owLst ds j) := nr rfl
theorem ix_3 {n : Int} : kIx3 j d (.int n) ds (some (b, xs)) = setC j b xs d ds (ixN xs.length n) := nr rfl
theorem ix_4 {n : Nat} : setC j b xs d ds (some n) = .nx (ds.set j (.ow b (.lst (xs.set n d)))) := nr rfl
/-! slices -/
def kP (d : D) (ds : Ds) : Out (Option Int) := match d with
  | .int i => .ok (some i) ds
  | _ => .no
theorem pn_e : pNone ds = .ok none ds := nr rfl
theorem ps_e : pSome f ds = (f ds).bind kP := nr rfl
theorem ps_k {n : Int} : kP (.int n) ds = .ok (some n) ds := nr rfl
def slC (lo hi : Option Int) (ds : Ds) : Option D → Out D
  | some x => liftO (gSl x lo hi) ds
  | none => .no
def kS3 (a : Opd) (lo hi : Option Int) (ds : Ds) : Out D := slC lo hi ds (deref ds a)
def kS2 (fh : Ds → Out (Option Int)) (a : Opd) (lo : Option Int) (ds : Ds) : Out D := (fh ds).bind (kS3 a lo)
def kS1 (fl fh : Ds → Out (Option Int)) (a : Opd) (ds : Ds) : Out D := (fl ds).bind (kS2 fh a)
variable {fl fh : Ds → Out (Option Int)} {lo hi : Option Int}
theorem sl_e : eSl fa fl fh ds = (fa ds).bind (kS1 fl fh) := by
  unfold eSl kS1 kS2 kS3 slC
  rfl
theorem sl_1 : kS1 fl fh o ds = (fl ds).bind (kS2 fh o) := nr rfl
theorem sl_2 : kS2 fh o lo ds = (fh ds).bind (kS3 o lo) := nr rfl
theorem sl_3 : kS3 o lo hi ds = slC lo hi ds (deref ds o) := nr rfl
theorem sl_4 : slC lo hi ds (some d) = liftO (gSl d lo hi) ds := nr rfl
def kFb (d : D) (ds : Ds) : Out D := liftO (gBin d) ds
theorem fb_e : eFb f ds = (f ds).bind kFb := nr rfl
theorem fb_k : kFb d ds = liftO (gBin d) ds := nr rfl
/-! chains -/
def chC (fc : Ds → Out Opd) (g' : D → D → Option D) (b : Opd) (ds : Ds) : Option D → Out D
  | some (.bl true) => (fc ds).bind fun c ds3 => lift2 g' ds3 (deref ds3 b) (deref ds3 c)
  | some (.bl false) => .ok (.bl false) ds
  | _ => .no
def chO (g g' : D → D → Option D) (fc : Ds → Out Opd) (b : Opd) (ds : Ds) : Option D → Option D → Out D
  | some x, some y => chC fc g' b ds (g x y)
  | _, _ => .no
def kCh2 (g g' : D → D → Option D) (fc : Ds → Out Opd) (a b : Opd) (ds : Ds) : Out D := chO g g' fc b ds (deref ds a) (deref ds b)
def kCh1 (g g' : D → D → Option D) (fb fc : Ds → Out Opd) (a : Opd) (ds : Ds) : Out D := (fb ds).bind (kCh2 g g' fc a)
variable {g3 : D → D → Option D} {o2 : Opd}
theorem ch_e : eChain g2 g3 fa fb fc ds = (fa ds).bind (kCh1 g2 g3 fb fc) := by
  unfold eChain kCh1 kCh2 chO chC lift2
  rfl
theorem ch_1 : kCh1 g2 g3 fb fc o ds = (fb ds).bind (kCh2 g2 g3 fc o) := nr rfl
theorem ch_2 : kCh2 g2 g3 fc o o2 ds = chO g2 g3 fc o2 ds (deref ds o) (deref ds o2) := nr rfl
theorem ch_3 : chO g2 g3 fc o ds (some d) (some e) = chC fc g3 o ds (g2 d e) := nr rfl
def kCh3 (g' : D → D → Option D) (b c : Opd) (ds3 : Ds) : Out D := lift2 g' ds3 (deref ds3 b) (deref ds3 c)
theorem ch_t : chC fc g3 o ds (some (.bl true)) = (fc ds).bind (kCh3 g3 o) := nr rfl
theorem ch_f : chC fc g3 o ds (some (.bl false)) = .ok (.bl false) ds := nr rfl
theorem ch_4 : kCh3 g3 o o2 ds = lift2 g3 ds (deref ds o) (deref ds o2) := nr rfl
/-! results -/
theorem rs_rt : resD (.rt d ds) = .ok d := nr rfl
theorem rs_nx : resD (.nx ds) = .ok .non := nr rfl
theorem rs_ex : resD (.ex x ds) = .ex x := nr rfl
def ioR (r : D) : Option D → FIO
  | some d => .ok r d
  | none => .no
def ioX (x : Exn) : Option D → FIO
  | some d => .ex x d
  | none => .no
theorem ri_rt : resI (.rt d ds) = ioR d (io0 ds) := nr rfl
theorem ri_nx : resI (.nx ds) = ioR .non (io0 ds) := nr rfl
theorem ri_ex : resI (.ex x ds) = ioX x (io0 ds) := nr rfl
theorem i0_e : io0 (.ow true d :: ds) = some d := nr rfl
theorem ir_e : ioR d (some e) = .ok d e := nr rfl
theorem ix_e0 : ioX x (some e) = .ex x e := nr rfl
end
end DV

set_option Elab.async false
set_option linter.all false
set_option maxRecDepth 100000
set_option maxHeartbeats 4000000
/-! DVW: the operations' answers, comprehensions and loops, in plain Lean. -/
namespace DV
open PySem PySem.Spec PyProof.Rows L2
section
variable {i j : Int} {a b : List Nat} {xs ys : List D} {c : Nat} {p q : Bool}
theorem g_sub : DV.gSub (.int i) (.int j) = some (.int (i - j)) := rfl
theorem g_addI : gAdd (.int i) (.int j) = some (.int (i + j)) := rfl
theorem g_addS (h : a.length + b.length ≤ 10000000) : gAdd (.str a) (.str b) = some (.str (a ++ b)) := if_pos h
theorem g_addL (h : xs.length + ys.length ≤ 10000000) : gAdd (.lst xs) (.lst ys) = some (.lst (xs ++ ys)) := if_pos h
theorem g_lt : gLt (.int i) (.int j) = some (.bl (decide (i < j))) := rfl
theorem g_le : gLe (.int i) (.int j) = some (.bl (decide (i ≤ j))) := rfl
theorem g_gt : gGt (.int i) (.int j) = some (.bl (decide (j < i))) := rfl
theorem g_ge : gGe (.int i) (.int j) = some (.bl (decide (j ≤ i))) := rfl
theorem g_eqS : gEq (.str a) (.str b) = some (.bl (a == b)) := rfl
theorem g_eqI : gEq (.int i) (.int j) = some (.bl (i == j)) := rfl
theorem g_neS : gNe (.str a) (.str b) = some (.bl (!(a == b))) := rfl
theorem g_neI : gNe (.int i) (.int j) = some (.bl (!(i == j))) := rfl
theorem g_lenS (h : a.length ≤ 10000000) : gLen (.str a) = some (.int a.length) := if_pos h
theorem g_lenL : gLen (.lst xs) = some (.int xs.length) := rfl
theorem g_lenT : gLen (.tup xs) = some (.int xs.length) := rfl
theorem g_intB : gInt (.bl p) = some (.int (if p then 1 else 0)) := rfl
theorem g_intI : gInt (.int i) = some (.int i) := rfl
theorem g_abs : gAbs (.int i) = some (.int (if i < 0 then -i else i)) := rfl
theorem g_min : gMin2 (.int i) (.int j) = some (.int (if j < i then j else i)) := rfl
theorem g_neg : gNeg (.int i) = some (.int (-i)) := rfl
theorem g_ixL : gIx (.lst xs) (.int i) = atI xs i := rfl
theorem g_ixT : gIx (.tup xs) (.int i) = atI xs i := rfl
theorem g_ixS (h : a.length ≤ 10000000) : gIx (.str a) (.int i) = (atI a i).map fun c => .str [c] := if_pos h
theorem g_all (bs : List Bool) : gAll (.lst (bs.map .bl)) = some (.bl (bs.all id)) := by
  unfold gAll
  dsimp only
  rw [allOf_bl]; rfl
theorem g_inS : gIn (.str [c]) (.str a) = some (.bl (decide (c ∈ a))) := rfl
theorem g_inL {x : D} (h1 : flatD x = true) (h2 : xs.all flatD = true) : gIn x (.lst xs) = some (.bl (xs.any fun y => deq y x)) := by
  unfold gIn isInD
  dsimp only
  rw [h1, h2]; rfl
theorem g_mod (h : 0 < j) : gMod (.int i) (.int j) = some (.int (i % j)) := by
  show (if decide (0 < j) = true then some (D.int (i % j)) else none) = _
  exact if_pos (decide_eq_true h)
theorem g_fdiv (h : 0 < j) (h2 : j < 1073741824) : gFdiv (.int i) (.int j) = some (.int (i / j)) := by
  show (if (decide (0 < j) && decide (j < 1073741824)) = true then some (D.int (i / j)) else none) = _
  exact if_pos (by rw [decide_eq_true h, decide_eq_true h2]; rfl)
theorem g_mulI (h : (-18446744073709551616 < i ∧ i < 18446744073709551616) ∨ (-18446744073709551616 < j ∧ j < 18446744073709551616)) : gMul (.int i) (.int j) = some (.int (i * j)) := if_pos h
theorem g_mulS {n : Int} (h : 0 ≤ n ∧ n ≤ 1000000 ∧ a.length * n.toNat ≤ 1000000) : gMul (.str a) (.int n) = some (.str (List.replicate n.toNat a).flatten) := if_pos h
theorem g_mulL {n : Int} (h : 0 ≤ n ∧ n ≤ 1000000 ∧ xs.length * n.toNat ≤ 1000000) : gMul (.lst xs) (.int n) = some (.lst (List.replicate n.toNat xs).flatten) := if_pos h
theorem g_pow (h1 : 0 ≤ j) (h2 : j ≤ 1000000) (h3 : i.natAbs < 18446744073709551616) : gPow (.int i) (.int j) = some (.int (i ^ j.toNat)) := by
  show (if (decide (0 ≤ j) && decide (j ≤ 1000000) && decide (i.natAbs < 2 ^ 64)) = true then some (D.int (i ^ j.toNat)) else none) = _
  exact if_pos (by rw [decide_eq_true h1, decide_eq_true h2, decide_eq_true (show i.natAbs < 2 ^ 64 from h3)]; rfl)
theorem g_shr (h : 0 ≤ j) : gShr (.int i) (.int j) = some (.int (i / 2 ^ j.toNat)) := by
  show (if decide (0 ≤ j) = true then some (D.int (i / 2 ^ j.toNat)) else none) = _
  exact if_pos (decide_eq_true h)
theorem g_xor : gXor (.int i) (.int j) = some (.int (Builtin.bitXor i j)) := rfl
theorem g_isN : gIsN .non = some (.bl true) := rfl
theorem g_isi_ss : gIsi "str" (.str a) = some (.bl true) := rfl
theorem g_isi_ii : gIsi "int" (.int i) = some (.bl true) := rfl
theorem g_isi_bi : gIsi "bool" (.int i) = some (.bl false) := rfl
theorem g_isi_ib : gIsi "int" (.bl p) = some (.bl true) := rfl
theorem g_isi_bb : gIsi "bool" (.bl p) = some (.bl true) := rfl
theorem g_isiT_l : gIsiT ["list", "tuple"] (.lst xs) = some (.bl true) := rfl
theorem g_isiT_t : gIsiT ["list", "tuple"] (.tup xs) = some (.bl true) := rfl
theorem g_tupL : gTuple (.lst xs) = some (.tup xs) := rfl
theorem g_sorted (ns : List Int) : gSorted (.lst (ns.map .int)) = some (.lst ((sortI ns).map .int)) := by
  unfold gSorted
  dsimp only
  rw [allOf_int]; rfl
theorem sortI_of {ns : List Int} (h : ns.Pairwise (· ≤ ·)) : sortI ns = ns := sorted_unique (sortI_perm ns) (sortI_sorted ns) h
theorem joinL_nil : ∀ ys : List (List Nat), TL.joinL [] ys = ys.flatten
  | [] => rfl
  | [p] => by simp [TL.joinL]
  | p :: q :: r => by
    have := joinL_nil (q :: r)
    simp only [TL.joinL, List.nil_append, List.flatten_cons] at this ⊢
    rw [this]
theorem g_join {ys : List (List Nat)} (h : (ys.map List.length).sum ≤ 10000000) : gJoin [] (.lst (ys.map .str)) = some (.str ys.flatten) := by
  unfold gJoin
  dsimp only
  rw [allOf_str]
  show (if (ys.map List.length).sum + ys.length * ([] : List Nat).length ≤ 10000000 then some (D.str (TL.joinL [] ys)) else none) = _
  rw [if_pos (by simpa using h), joinL_nil]
theorem sum_ones : ∀ l : List Nat, ((l.map fun c => [c]).map List.length).sum = l.length
  | [] => rfl
  | _ :: r => by simp only [List.map_cons, List.sum_cons, List.length_cons, sum_ones r, List.length_nil]; omega
theorem flat_ones : ∀ l : List Nat, (l.map fun c => [c]).flatten = l
  | [] => rfl
  | c :: r => by simp only [List.map_cons, List.flatten_cons, flat_ones r]; rfl
/-- ''.join of signs -/
theorem g_join1 {l : List Nat} (h : l.length ≤ 10000000) : gJoin [] (.lst (l.map fun c => .str [c])) = some (.str l) := by
  have := g_join (ys := l.map fun c => [c]) (by rw [sum_ones]; exact h)
  rw [flat_ones, List.map_map] at this
  exact this
theorem ixN_pos {n k : Nat} (h : k < n) : ixN n (k : Int) = some k := by
  unfold ixN
  rw [if_pos (by omega), if_pos (by omega)]
  simp
theorem atI_pos {α : Type} {l : List α} {k : Nat} (h : k < l.length) : atI l (k : Int) = some l[k] := by
  unfold atI
  rw [ixN_pos h]
  exact List.getElem?_eq_getElem h
theorem atI_last {α : Type} {l : List α} (h : l ≠ []) : atI l (-1) = some (l.getLast h) := by
  have hl := List.length_pos_iff.mpr h
  have e : ixN l.length (-1) = some (l.length - 1) := by
    unfold ixN
    rw [if_neg (by omega), if_pos (by omega)]
    congr 1
    omega
  unfold atI
  rw [e]
  show l[l.length - 1]? = _
  rw [List.getLast_eq_getElem, List.getElem?_eq_getElem (by omega)]
theorem range_nil : rangeD i 0 = [] := rfl
theorem rangeD_eq (n : Nat) : rangeD 0 n = (List.range n).map fun k : Nat => D.int (k : Int) := by
  unfold rangeD
  exact List.map_congr_left fun k _ => by rw [Int.zero_add]
theorem rangeD_eq1 (m : Int) (n : Nat) : rangeD m n = (List.range n).map fun k : Nat => D.int (m + (k : Int)) := rfl
end
/-! ### comprehensions -/
section
variable {α : Type} {vs : List Nat} {g : D → Ds → Option Ds} {t : Ds → Out Bool} {f : Ds → Out D} {k : α → D}
theorem comp_map {h : α → D} {ds : Ds} : ∀ (xs : List α), (∀ x ∈ xs, ∃ d1 d3, g (k x) ds = some d1 ∧ f d1 = .ok (h x) d3 ∧ wipeD vs d3 = ds) → compD vs g tYesD f (xs.map k) ds = .ok (xs.map h) ds
  | [], _ => rfl
  | x :: r, H => by
    obtain ⟨d1, d3, h1, h2, h3⟩ := H x List.mem_cons_self
    rw [List.map_cons]
    unfold compD
    rw [h1]
    show ((f d1).bind fun d ds3 => (compD vs g tYesD f (r.map k) (wipeD vs ds3)).bind fun ys ds4 => .ok (d :: ys) ds4) = _
    rw [h2]
    show (compD vs g tYesD f (r.map k) (wipeD vs d3)).bind _ = _
    rw [h3, comp_map r fun y hy => H y (List.mem_cons_of_mem _ hy)]
    rfl
theorem comp_filter {p : α → Bool} {h : α → D} {ds : Ds} : ∀ (xs : List α), (∀ x ∈ xs, ∃ d1 d2, g (k x) ds = some d1 ∧ t d1 = .ok (p x) d2 ∧ wipeD vs d2 = ds ∧ (p x = true → ∃ d3, f d2 = .ok (h x) d3 ∧ wipeD vs d3 = ds)) → compD vs g t f (xs.map k) ds = .ok ((xs.filter p).map h) ds
  | [], _ => rfl
  | x :: r, H => by
    obtain ⟨d1, d2, h1, h2, h3, h4⟩ := H x List.mem_cons_self
    have ih := comp_filter r fun y hy => H y (List.mem_cons_of_mem _ hy)
    rw [List.map_cons]
    unfold compD
    rw [h1]
    show ((t d1).bind fun b ds2 => if b then (f ds2).bind fun d ds3 => (compD vs g t f (r.map k) (wipeD vs ds3)).bind fun ys ds4 => .ok (d :: ys) ds4 else compD vs g t f (r.map k) (wipeD vs ds2)) = _
    rw [h2]
    show (if p x = true then (f d2).bind fun d ds3 => (compD vs g t f (r.map k) (wipeD vs ds3)).bind fun ys ds4 => .ok (d :: ys) ds4 else compD vs g t f (r.map k) (wipeD vs d2)) = _
    cases hp : p x with
    | false =>
      rw [if_neg Bool.false_ne_true, h3, ih, List.filter_cons_of_neg (by rw [hp]; exact Bool.false_ne_true)]
    | true =>
      obtain ⟨d3, h5, h6⟩ := h4 hp
      rw [if_pos rfl, h5]
      show (compD vs g t f (r.map k) (wipeD vs d3)).bind _ = _
      rw [h6, ih, List.filter_cons_of_pos hp]
      rfl
/-- each turn moves the state on by one -/
theorem comp_st (P : Nat → Ds → Prop) (R : D → Prop) : ∀ (xs : List α) (n : Nat) (ds : Ds), P n ds → (∀ m ds x, x ∈ xs → m < n + xs.length → P m ds → ∃ d1 y d3, g (k x) ds = some d1 ∧ f d1 = .ok y d3 ∧ R y ∧ P (m + 1) (wipeD vs d3)) →
    ∃ (ys : List D) (ds' : Ds), compD vs g tYesD f (xs.map k) ds = .ok ys ds' ∧ ((∀ y ∈ ys, R y) ∧ ys.length = xs.length) ∧ P (n + xs.length) ds'
  | [], n, ds, hP, _ => ⟨[], ds, rfl, ⟨by simp, rfl⟩, hP⟩
  | x :: r, n, ds, hP, H => by
    obtain ⟨d1, y, d3, h1, h2, h3, h4⟩ := H n ds x List.mem_cons_self (by simp) hP
    obtain ⟨ys, ds', e, F, Q⟩ := comp_st P R r (n + 1) _ h4 fun m ds z hz hm hp => H m ds z (List.mem_cons_of_mem _ hz) (by rw [List.length_cons]; omega) hp
    refine ⟨y :: ys, ds', ?_, ⟨fun z hz => (List.mem_cons.mp hz).elim (fun e => e ▸ h3) (F.1 z), by rw [List.length_cons, List.length_cons, F.2]⟩, by rw [List.length_cons, show n + (r.length + 1) = n + 1 + r.length by omega]; exact Q⟩
    rw [List.map_cons]
    unfold compD
    rw [h1]
    show ((f d1).bind fun d ds3 => (compD vs g tYesD f (r.map k) (wipeD vs ds3)).bind fun ys ds4 => .ok (d :: ys) ds4) = _
    rw [h2]
    show (compD vs g tYesD f (r.map k) (wipeD vs d3)).bind _ = _
    rw [e]
    rfl
/-- each turn moves the state on by one and tells whether the item stays -/
theorem comp_sel (P : Nat → Ds → Prop) (h : α → D) : ∀ (xs : List α) (n : Nat) (ds : Ds), P n ds → (∀ m ds x, x ∈ xs → m < n + xs.length → P m ds → ∃ d1 b d2, g (k x) ds = some d1 ∧ t d1 = .ok b d2 ∧ P (m + 1) (wipeD vs d2) ∧ ∃ d3, f d2 = .ok (h x) d3 ∧ wipeD vs d3 = wipeD vs d2) →
    ∃ (zs : List α) (ds' : Ds), compD vs g t f (xs.map k) ds = .ok (zs.map h) ds' ∧ zs.Sublist xs ∧ P (n + xs.length) ds'
  | [], n, ds, hP, _ => ⟨[], ds, rfl, List.Sublist.slnil, hP⟩
  | x :: r, n, ds, hP, H => by
    obtain ⟨d1, b, d2, h1, h2, h3, d3, h4, h5⟩ := H n ds x List.mem_cons_self (by simp) hP
    obtain ⟨zs, ds', e, F, Q⟩ := comp_sel P h r (n + 1) _ h3 fun m ds z hz hm hp => H m ds z (List.mem_cons_of_mem _ hz) (by rw [List.length_cons]; omega) hp
    have Q' : P (n + (x :: r).length) ds' := by rw [List.length_cons, show n + (r.length + 1) = n + 1 + r.length by omega]; exact Q
    have go : compD vs g t f ((x :: r).map k) ds = (if b = true then (f d2).bind fun d ds3 => (compD vs g t f (r.map k) (wipeD vs ds3)).bind fun ys ds4 => .ok (d :: ys) ds4 else compD vs g t f (r.map k) (wipeD vs d2)) := by
      rw [List.map_cons]
      conv => lhs; unfold compD
      rw [h1]
      show ((t d1).bind fun b ds2 => if b then (f ds2).bind fun d ds3 => (compD vs g t f (r.map k) (wipeD vs ds3)).bind fun ys ds4 => .ok (d :: ys) ds4 else compD vs g t f (r.map k) (wipeD vs ds2)) = _
      rw [h2]
      rfl
    cases b with
    | false =>
      exact ⟨zs, ds', by rw [go, if_neg Bool.false_ne_true]; exact e, .cons _ F, Q'⟩
    | true =>
      refine ⟨x :: zs, ds', ?_, .cons₂ _ F, Q'⟩
      rw [go, if_pos rfl, h4]
      show (compD vs g t f (r.map k) (wipeD vs d3)).bind _ = _
      rw [h5, e]
      rfl
/-! ### for -/
variable {fb : Ds → SO}
theorem loop_st {β : Type} (enc : β → Ds) (step : β → α → β) : ∀ (xs : List α) (b : β), (∀ b x, x ∈ xs → ∃ d1, g (k x) (enc b) = some d1 ∧ fb d1 = .nx (enc (step b x))) → loopD g fb (xs.map k) (enc b) = .nx (enc (xs.foldl step b))
  | [], _, _ => rfl
  | x :: r, b, H => by
    obtain ⟨d1, h1, h2⟩ := H b x List.mem_cons_self
    rw [List.map_cons]
    unfold loopD
    rw [h1]
    dsimp only
    rw [h2]
    exact loop_st enc step r (step b x) fun b y hy => H b y (List.mem_cons_of_mem _ hy)
/-- with a fact that each turn keeps -/
theorem loop_inv {β : Type} (enc : β → Ds) (I : β → Prop) (step : β → α → β) : ∀ (xs : List α) (b : β), I b → (∀ b x, I b → x ∈ xs → I (step b x) ∧ ∃ d1, g (k x) (enc b) = some d1 ∧ fb d1 = .nx (enc (step b x))) → loopD g fb (xs.map k) (enc b) = .nx (enc (xs.foldl step b)) ∧ I (xs.foldl step b)
  | [], _, hI, _ => ⟨rfl, hI⟩
  | x :: r, b, hI, H => by
    obtain ⟨h0, d1, h1, h2⟩ := H b x hI List.mem_cons_self
    rw [List.map_cons]
    unfold loopD
    rw [h1]
    dsimp only
    rw [h2]
    exact loop_inv enc I step r (step b x) h0 fun b y hi hy => H b y hi (List.mem_cons_of_mem _ hy)
end
section
variable {vs : List Nat} {A : Ds → Out (List D)} {G : D → Ds → Option Ds} {t : Ds → Out Bool} {f : Ds → Out D} {fb : Ds → SO} {ds ds1 ds2 ds3 : Ds} {xs ys : List D}
theorem lc_run (hA : A ds = .ok xs ds1) (h1 : noOwn vs ds1 = true) (h2 : xs.length ≤ 1000000) (hc : compD vs G t f xs (wipeD vs ds1) = .ok ys ds2) (h3 : restD vs ds1 ds2 = ds3) : eLc vs A G t f ds = .ok (.lst ys) ds3 := by
  rw [lc_e, hA, bi_ok, lc_k h1 h2, hc, lc_c, h3]
theorem for_run (hA : A ds = .ok xs ds1) : sFor A G fb ds = loopD G fb xs ds1 := by
  rw [fo_e, hA]
  rfl
theorem range1_run {n : Nat} (hA : A ds = .ok [.int (n : Int)] ds1) (hn : n ≤ 1000000) : iRange1 A ds = .ok ((List.range n).map fun k : Nat => D.int (k : Int)) ds1 := by
  rw [r1_e, hA, bi_ok, r1_k ⟨by omega, by omega⟩, Int.toNat_natCast, rangeD_eq]
theorem range1_neg {i : Int} (hA : A ds = .ok [.int i] ds1) (h0 : i ≤ 0) (hn : -1000000 ≤ i) : iRange1 A ds = .ok [] ds1 := by
  rw [r1_e, hA, bi_ok, r1_k ⟨by omega, by omega⟩, show i.toNat = 0 from by omega]
  rfl
theorem range2_run {m : Int} {n : Nat} {e : Int} (hA : A ds = .ok [.int m, .int e] ds1) (he : (e - m).toNat = n) (hm : 0 ≤ m ∧ m ≤ 1000000) (h2 : -1000000 ≤ e ∧ e ≤ 1000000) : iRange2 A ds = .ok ((List.range n).map fun k : Nat => D.int (m + (k : Int))) ds1 := by
  rw [r2_e, hA, bi_ok, r2_k ⟨by omega, by omega, by omega, by omega⟩, he, rangeD_eq1]
theorem range1_int {e : Int} {n : Nat} (hA : A ds = .ok [.int e] ds1) (he : e.toNat = n) (h2 : -1000000 ≤ e ∧ e ≤ 1000000) : iRange1 A ds = .ok ((List.range n).map fun k : Nat => D.int (k : Int)) ds1 := by
  rw [r1_e, hA, bi_ok, r1_k ⟨by omega, by omega⟩, he, rangeD_eq]
end
section
variable {α β γ : Type} {g : D → Ds → Option Ds} {fb : Ds → SO} {k : α → D}
theorem loop_ex (enc : β → γ → Ds) (I : β → Prop) (J : γ → Prop) (step : β → α → β) : ∀ (xs : List α) (b : β) (c : γ), I b → J c → (∀ b c x, I b → J c → x ∈ xs → I (step b x) ∧ ∃ d1 c', J c' ∧ g (k x) (enc b c) = some d1 ∧ fb d1 = .nx (enc (step b x) c')) →
    ∃ c', J c' ∧ loopD g fb (xs.map k) (enc b c) = .nx (enc (xs.foldl step b) c') ∧ I (xs.foldl step b)
  | [], _, c, hI, hJ, _ => ⟨c, hJ, rfl, hI⟩
  | x :: r, b, c, hI, hJ, H => by
    obtain ⟨h0, d1, c', hJ', h1, h2⟩ := H b c x hI hJ List.mem_cons_self
    obtain ⟨c2, q1, q2, q3⟩ := loop_ex enc I J step r (step b x) c' h0 hJ' fun b c y hi hj hy => H b c y hi hj (List.mem_cons_of_mem _ hy)
    refine ⟨c2, q1, ?_, q3⟩
    rw [List.map_cons]
    unfold loopD
    rw [h1]
    dsimp only
    rw [h2]
    exact q2
end
end DV

set_option Elab.async false
set_option linter.all false
set_option maxRecDepth 100000
set_option maxHeartbeats 4000000
namespace T76
open PySem PySem.Spec PyProof.Rows L2 DV
def top (i : Nat) : Stmt := PySem.Challenge.pw_askedcodes_k76_rests_and_changes.main.body.getD i (.Pass ⟨0, 0, 0, 0⟩)
/-- the exceptions that are raised here -/
def raised : List Str := ["BadBits", "BadRow"]
def isV (y : Str) : Option Bool := if y ∈ raised then some true else none
def errs : List Str := ["CodeError", "BadNumber", "BadBits", "BadTable", "BadBook", "BadRow", "BadQuestion", "BadPaper", "Misfit", "BadText", "BadCommand", "TooMany"]
def isC (c y : Str) : Option Bool := if c ∈ errs then (if y ∈ raised then some (decide (c = y) || decide (c = "CodeError")) else none) else none
def okF (n y : Str) : Bool := decide (n = "part") && decide (y ∈ raised)
/-- the word that tells of an exception -/
def tagOf (c : Str) : Option (List Nat) := if c = "BadBits" then some [98, 105, 116, 115] else if c = "BadRow" then some [114, 111, 119] else none
/-- what the module says -/
structure Md (P : Program) (K : PySem.W.Frag) (mg : Str → Option Value) where
  k_ONE : ∃ t, mg "ONE" = some (.str "1" t)
  k_MOST_DEGREE : ∃ t, mg "MOST_DEGREE" = some (.int 16 t)
  a_CodeError : Addr
  g_CodeError : mg "CodeError" = some (.ref a_CodeError)
  a_BadNumber : Addr
  g_BadNumber : mg "BadNumber" = some (.ref a_BadNumber)
  a_BadBits : Addr
  g_BadBits : mg "BadBits" = some (.ref a_BadBits)
  a_BadTable : Addr
  g_BadTable : mg "BadTable" = some (.ref a_BadTable)
  a_BadBook : Addr
  g_BadBook : mg "BadBook" = some (.ref a_BadBook)
  a_BadRow : Addr
  g_BadRow : mg "BadRow" = some (.ref a_BadRow)
  a_BadQuestion : Addr
  g_BadQuestion : mg "BadQuestion" = some (.ref a_BadQuestion)
  a_BadPaper : Addr
  g_BadPaper : mg "BadPaper" = some (.ref a_BadPaper)
  a_Misfit : Addr
  g_Misfit : mg "Misfit" = some (.ref a_Misfit)
  a_BadText : Addr
  g_BadText : mg "BadText" = some (.ref a_BadText)
  a_BadCommand : Addr
  g_BadCommand : mg "BadCommand" = some (.ref a_BadCommand)
  a_TooMany : Addr
  g_TooMany : mg "TooMany" = some (.ref a_TooMany)
  f_BadBits : Addr
  x_BadBits : ExT P K "BadBits" "BadBits.__init__" "part" "part" "no right bits" (inClass (top 3) 0) a_BadBits f_BadBits
  f_BadRow : Addr
  x_BadRow : ExT P K "BadRow" "BadRow.__init__" "part" "part" "no right row" (inClass (top 6) 0) a_BadRow f_BadRow
  isX : ∀ (c : Str) {Cc : Addr}, mg c = some (.ref Cc) → ∀ y C b, mg y = some (.ref C) → isC c y = some b → ExcC K C ∧ PySem.W.kitOne K (.ref C) (.ref Cc) = some b
  isVe : ∀ y C b, mg y = some (.ref C) → isV y = some b → ExcC K C ∧ PySem.W.kitOne K (.ref C) (.type "ValueError") = some b
  exm : ∀ (c : Str) {Cc : Addr}, mg c = some (.ref Cc) → ∀ y C b, mg y = some (.ref C) → isC c y = some b → PySem.W.exmOne K (.ref C) (.ref Cc) = some b
  hF : ∀ n y C, mg y = some (.ref C) → okF n y = true → XfC K C ∧ PySem.W.findIn K (.ref C) n = some none
variable {P : Program} {w : World} {K : PySem.W.Frag} {mg : Str → Option Value} {base : Heap} {T : List (Addr × Str)}
/-! ### _law_pen -/
abbrev s__law_pen : Stmt := top 35
abbrev N__law_pen : List Str := ["script", "cell"]
theorem sc__law_pen : FnScope N__law_pen ["script"] (defScope s__law_pen) := ⟨rfl, rfl, rfl, by decide +kernel, rfl, by decide +kernel, by decide +kernel⟩
theorem bi__law_pen : BindF "_law_pen" s__law_pen ["script"] := ⟨fun _ _ _ _ _ _ us hl => match us, hl with | [_], _ => rfl, fun k1 k2 h => by cases h⟩
def C1__law_pen : Ds → Out D := (eLc [1] (iAny (eSl (oVar 0) pNone (pSome (eC (.int 62))))) (putSh 1) tYesD (eOp1 gInt (oVar 1)))
def g__law_pen : Ds → Out D := (eLst (aCons C1__law_pen (aCons (eC (.int 0)) (aCons (eC (.int 0)) aNil))))
def G__law_pen : List D → FO := mkN 1 N__law_pen g__law_pen
theorem w__law_pen (B : Blt mg) (M : Md P K mg) (D0 : DefF K mg "_law_pen" s__law_pen fun _ => True) : CalN P w K mg base T 1 "_law_pen" G__law_pen :=
  cal_N D0 bi__law_pen sc__law_pen rfl rfl fun f c A outer s S H E _ hr tk => (d_lst (d_acons (d_new (d_lc rfl sc__law_pen.nd (i_any rfl (d_sl rfl (ov 0) d_pnone (d_psome d_int))) (own := [(("cell" : Str), 1)]) (blkOk_by (N := N__law_pen) (sc := defScope s__law_pen) (by decide +kernel)) (fun _ _ _ _ _ _ => (d_gname sc__law_pen.nd rfl (by first | exact Or.inl rfl | exact Or.inr rfl))) (fun _ _ _ _ _ => d_tnil) (fun _ _ _ _ _ _ => (b1_int B (ov 1))))) (d_acons d_int (d_acons d_int d_anil))))
/-! ### _law_draw -/
abbrev s__law_draw : Stmt := top 36
abbrev N__law_draw : List Str := ["pen", "many", "left", "turn", "cell", "mixed"]
theorem sc__law_draw : FnScope N__law_draw ["pen", "many"] (defScope s__law_draw) := ⟨rfl, rfl, rfl, by decide +kernel, rfl, by decide +kernel, by decide +kernel⟩
theorem bi__law_draw : BindF "_law_draw" s__law_draw ["pen", "many"] := ⟨fun _ _ _ _ _ _ us hl => match us, hl with | [_, _], _ => rfl, fun k1 k2 h => by cases h; intros; rfl⟩
def b__law_draw : Ds → SO := (sSeq (sIf (tBl (eOp2 gGt (oVal (eOp2 gIx (oVar 0) (oVal (eC (.int 2))))) (oVal (eC (.int 0))))) (sSeq (sSet 2 (eOp1 gInt (oVal (eOp2 gIx (oVar 0) (oVal (eC (.int 2))))))) (sSeq (sSetIx 0 (eOp2 gFdiv (oVar 2) (oVar 1)) (eC (.int 2))) (sRet (eOp2 gMod (oVal (eOp1 gInt (oVar 2))) (oVar 1))))) sNext) (sSeq (sSet 3 (eOp2 gIx (oVar 0) (oVal (eC (.int 1))))) (sSeq (sSetIx 0 (eOp2 gAdd (oVar 3) (oVal (eC (.int 1)))) (eC (.int 1))) (sSeq (sSet 4 (eOp2 gAdd (oVal (eOp2 gMul (oVal (eC (.int 224477))) (oVar 3))) (oVal (eC (.int 9173))))) (sSeq (sIf (tBl (eOp2 gNe (oVal (eOp2 gIx (oVar 0) (oVal (eC (.int 0))))) (oVal (eLst aNil)))) (sSet 4 (eOp2 gIx (oVal (eOp2 gIx (oVar 0) (oVal (eC (.int 0))))) (oVal (eOp2 gMod (oVal (eOp1 gInt (oVar 3))) (oVal (eOp1 gLen (oVal (eOp2 gIx (oVar 0) (oVal (eC (.int 0))))))))))) sNext) (sSeq (sIf (tAndD (tBl (eOp2 gLt (oVar 3) (oVal (eOp1 gLen (oVal (eOp2 gIx (oVar 0) (oVal (eC (.int 0))))))))) (tBl (eOp2 gGe (oVal (eOp1 gAbs (oVar 4))) (oVal (eOp2 gPow (oVal (eC (.int 10))) (oVal (eC (.int 18)))))))) (sSeq (sSet 2 (eOp2 gAdd (oVal (eOp2 gMul (oVal (eC (.int 2))) (oVal (eOp2 gSub (oVal (eOp1 gAbs (oVal (eOp1 gInt (oVar 4))))) (oVal (eOp2 gPow (oVal (eC (.int 10))) (oVal (eC (.int 18))))))))) (oVal (eOp1 gInt (oVal (eOp2 gLt (oVar 4) (oVal (eC (.int 0))))))))) (sSeq (sSetIx 0 (eOp2 gFdiv (oVar 2) (oVar 1)) (eC (.int 2))) (sRet (eOp2 gMod (oVal (eOp1 gInt (oVar 2))) (oVar 1))))) sNext) (sSeq (sSet 5 (eOp2 gMod (oVal (eOp1 gInt (oVal (eOp2 gPow (oVal (eOp2 gAdd (oVal (eOp2 gAdd (oVal (eOp2 gMod (oVal (eOp1 gInt (oVar 4))) (oVal (eC (.int 2147483563))))) (oVal (eOp2 gMul (oVal (eC (.int 224477))) (oVar 3))))) (oVal (eC (.int 9173))))) (oVal (eC (.int 5))))))) (oVal (eC (.int 2147483399))))) (sSeq (sSet 5 (eOp2 gMod (oVal (eOp1 gInt (oVal (eOp2 gPow (oVal (eOp2 gAdd (oVal (eOp2 gAdd (oVal (eOp2 gMul (oVar 5) (oVal (eOp2 gAdd (oVal (eOp2 gMul (oVal (eC (.int 2))) (oVar 3))) (oVal (eC (.int 7717))))))) (oVal (eOp2 gMul (oVal (eOp2 gMul (oVal (eC (.int 9173))) (oVar 3))) (oVar 3))))) (oVal (eC (.int 224477))))) (oVal (eC (.int 3))))))) (oVal (eC (.int 2147483477))))) (sRet (eOp2 gMod (oVal (eOp1 gInt (oVal (eOp2 gFdiv (oVar 5) (oVal (eC (.int 64))))))) (oVar 1)))))))))))
def G__law_draw : D → List D → FIO := mkI 2 N__law_draw b__law_draw
theorem w__law_draw (B : Blt mg) (M : Md P K mg) (D0 : DefF K mg "_law_draw" s__law_draw (fun _ => True)) : CalI P w K mg base T 1 "_law_draw" G__law_draw := by
  refine cal_I D0 bi__law_draw sc__law_draw rfl fun f c A outer s S H p E hco hr tk => ?_
  refine d_scons (d_sif (d_tcmp op_gt k_gt (d_oe (d_ix ix_seq k_ix (ov 0) (d_oe d_int) (fun _ _ => rfl))) (d_oe d_int) rfl) (d_scons (d_set sc__law_draw.nd rfl (by first | exact Or.inl rfl | exact Or.inr rfl) (b1_int B (d_oe (d_ix ix_seq k_ix (ov 0) (d_oe d_int) (fun _ _ => rfl))))) (d_scons (d_setIx rfl (by first | exact Or.inl rfl | exact Or.inr (Or.inl rfl)) (d_op op_fdiv k_fdiv (ov 2) (ov 1)) d_int) (d_sone (d_ret (d_op op_mod k_mod (d_oe (b1_int B (ov 2))) (ov 1)))))) d_snil) ?_
  refine d_scons (d_set sc__law_draw.nd rfl (by first | exact Or.inl rfl | exact Or.inr rfl) (d_ix ix_seq k_ix (ov 0) (d_oe d_int) (fun _ _ => rfl))) ?_
  refine d_scons (d_setIx rfl (by first | exact Or.inl rfl | exact Or.inr (Or.inl rfl)) (d_op op_addA k_add (ov 3) (d_oe d_int)) d_int) ?_
  refine d_scons (d_set sc__law_draw.nd rfl (by first | exact Or.inl rfl | exact Or.inr rfl) (d_op op_addA k_add (d_oe (d_op op_mulA k_mul (d_oe d_int) (ov 3))) (d_oe d_int))) ?_
  refine d_scons (d_sif (d_tcmp (op_neA (room_u hr)) k_ne (d_oe (d_ix ix_seq k_ix (ov 0) (d_oe d_int) (fun _ _ => rfl))) (d_oe (d_new (d_lst d_anil))) rfl) (d_sone (d_set sc__law_draw.nd rfl (by first | exact Or.inl rfl | exact Or.inr rfl) (d_ix ix_seq k_ix (d_oe (d_ix ix_seq k_ix (ov 0) (d_oe d_int) (fun _ _ => rfl))) (d_oe (d_op op_mod k_mod (d_oe (b1_int B (ov 3))) (d_oe (b1_len B rfl (d_oe (d_ix ix_seq k_ix (ov 0) (d_oe d_int) (fun _ _ => rfl))))))) (fun _ _ => rfl)))) d_snil) ?_
  refine d_scons (d_sif (d_tw (d_wand (d_tcmp op_lt k_lt (ov 3) (d_oe (b1_len B rfl (d_oe (d_ix ix_seq k_ix (ov 0) (d_oe d_int) (fun _ _ => rfl))))) rfl) (d_wand1 (d_tcmp op_ge k_ge (d_oe (b1_abs B (ov 4))) (d_oe (d_op op_pow k_pow (d_oe d_int) (d_oe d_int))) rfl)))) (d_scons (d_set sc__law_draw.nd rfl (by first | exact Or.inl rfl | exact Or.inr rfl) (d_op op_addA k_add (d_oe (d_op op_mulA k_mul (d_oe d_int) (d_oe (d_op op_sub k_sub (d_oe (b1_abs B (d_oe (b1_int B (ov 4))))) (d_oe (d_op op_pow k_pow (d_oe d_int) (d_oe d_int))))))) (d_oe (b1_int B (d_oe (d_cmp op_lt k_lt (ov 4) (d_oe d_int) rfl)))))) (d_scons (d_setIx rfl (by first | exact Or.inl rfl | exact Or.inr (Or.inl rfl)) (d_op op_fdiv k_fdiv (ov 2) (ov 1)) d_int) (d_sone (d_ret (d_op op_mod k_mod (d_oe (b1_int B (ov 2))) (ov 1)))))) d_snil) ?_
  refine d_scons (d_set sc__law_draw.nd rfl (by first | exact Or.inl rfl | exact Or.inr rfl) (d_op op_mod k_mod (d_oe (b1_int B (d_oe (d_op op_pow k_pow (d_oe (d_op op_addA k_add (d_oe (d_op op_addA k_add (d_oe (d_op op_mod k_mod (d_oe (b1_int B (ov 4))) (d_oe d_int))) (d_oe (d_op op_mulA k_mul (d_oe d_int) (ov 3))))) (d_oe d_int))) (d_oe d_int))))) (d_oe d_int))) ?_
  refine d_scons (d_set sc__law_draw.nd rfl (by first | exact Or.inl rfl | exact Or.inr rfl) (d_op op_mod k_mod (d_oe (b1_int B (d_oe (d_op op_pow k_pow (d_oe (d_op op_addA k_add (d_oe (d_op op_addA k_add (d_oe (d_op op_mulA k_mul (ov 5) (d_oe (d_op op_addA k_add (d_oe (d_op op_mulA k_mul (d_oe d_int) (ov 3))) (d_oe d_int))))) (d_oe (d_op op_mulA k_mul (d_oe (d_op op_mulA k_mul (d_oe d_int) (ov 3))) (ov 3))))) (d_oe d_int))) (d_oe d_int))))) (d_oe d_int))) ?_
  exact d_sone (d_ret (d_op op_mod k_mod (d_oe (b1_int B (d_oe (d_op op_fdiv k_fdiv (ov 5) (d_oe d_int))))) (ov 1)))
/-! ### _law_pick -/
abbrev s__law_pick : Stmt := top 37
abbrev N__law_pick : List Str := ["pen", "some"]
theorem sc__law_pick : FnScope N__law_pick ["pen", "some"] (defScope s__law_pick) := ⟨rfl, rfl, rfl, by decide +kernel, rfl, by decide +kernel, by decide +kernel⟩
theorem bi__law_pick : BindF "_law_pick" s__law_pick ["pen", "some"] := ⟨fun _ _ _ _ _ _ us hl => match us, hl with | [_, _], _ => rfl, fun k1 k2 h => by cases h; intros; rfl⟩
def b__law_pick : Ds → SO := (sRet (eOp2 gIx (oVar 1) (oVal (eCallI 0 G__law_draw (aCons (eOp1 gLen (oVar 1)) aNil)))))
def G__law_pick : D → List D → FIO := mkI 2 N__law_pick b__law_pick
theorem w__law_pick (B : Blt mg) (M : Md P K mg) (c__law_draw : CalI P w K mg base T 1 "_law_draw" G__law_draw) (D0 : DefF K mg "_law_pick" s__law_pick (fun _ => True)) : CalI P w K mg base T 2 "_law_pick" G__law_pick := by
  refine cal_I D0 bi__law_pick sc__law_pick rfl fun f c A outer s S H p E hco hr tk => ?_
  exact d_sone (d_ret (d_ix ix_seq k_ix (ov 1) (d_oe (d_calI c__law_draw rfl tk hr rfl (i := 0) rfl (by first | exact Or.inl rfl | exact Or.inr (Or.inl rfl) | exact Or.inr (Or.inr rfl)) (d_acons (b1_len B rfl (ov 1)) d_anil))) (fun _ _ => rfl)))
/-! ### _law_bits -/
abbrev s__law_bits : Stmt := top 42
abbrev N__law_bits : List Str := ["pen", "many", "k"]
theorem sc__law_bits : FnScope N__law_bits ["pen", "many"] (defScope s__law_bits) := ⟨rfl, rfl, rfl, by decide +kernel, rfl, by decide +kernel, by decide +kernel⟩
theorem bi__law_bits : BindF "_law_bits" s__law_bits ["pen", "many"] := ⟨fun _ _ _ _ _ _ us hl => match us, hl with | [_, _], _ => rfl, fun k1 k2 h => by cases h; intros; rfl⟩
def C1__law_bits : Ds → Out D := (eLc [2] (iRange1 (aCons (eVar 1) aNil)) (putSh 2) tYesD (eCallI 0 G__law_pick (aCons (eC (.str [48, 49])) aNil)))
def b__law_bits : Ds → SO := (sRet (eM1 gJoin (eC (.str [])) (oVal C1__law_bits)))
def G__law_bits : D → List D → FIO := mkI 2 N__law_bits b__law_bits
theorem w__law_bits (B : Blt mg) (M : Md P K mg) (c__law_pick : CalI P w K mg base T 2 "_law_pick" G__law_pick) (D0 : DefF K mg "_law_bits" s__law_bits (fun _ => True)) : CalI P w K mg base T 3 "_law_bits" G__law_bits := by
  refine cal_I D0 bi__law_bits sc__law_bits rfl fun f c A outer s S H p E hco hr tk => ?_
  exact d_sone (d_ret (d_join rfl (d_str (by first | rfl | decide +kernel)) (d_oe (d_new (d_lc rfl sc__law_bits.nd (i_r1 B (d_acons (dv 1) d_anil)) (own := [(("k" : Str), 2)]) (blkOk_by (N := N__law_bits) (sc := defScope s__law_bits) (by decide +kernel)) (fun _ _ _ _ _ _ => (d_gname sc__law_bits.nd rfl (by first | exact Or.inl rfl | exact Or.inr rfl))) (fun _ _ _ _ _ => d_tnil) (fun _ _ _ _ _ _ => (d_calI c__law_pick rfl LamX.takes0 hr rfl (i := 0) rfl (by first | exact Or.inl rfl | exact Or.inr (Or.inl rfl) | exact Or.inr (Or.inr rfl)) (d_acons (d_str (by first | rfl | decide +kernel)) d_anil))))))))
/-! ### _law_change -/
abbrev s__law_change : Stmt := top 43
abbrev N__law_change : List Str := ["bits", "places", "at"]
theorem sc__law_change : FnScope N__law_change ["bits", "places"] (defScope s__law_change) := ⟨rfl, rfl, rfl, by decide +kernel, rfl, by decide +kernel, by decide +kernel⟩
theorem bi__law_change : BindF "_law_change" s__law_change ["bits", "places"] := ⟨fun _ _ _ _ _ _ us hl => match us, hl with | [_, _], _ => rfl, fun k1 k2 h => by cases h; intros; rfl⟩
def C1__law_change : Ds → Out D := (eLc [2] (iRange1 (aCons (eOp1 gLen (oVar 0)) aNil)) (putSh 2) tYesD (eIf (tBl (eOp2 gIn (oVar 2) (oVar 1))) (eIf (tBl (eOp2 gEq (oVal (eOp2 gIx (oVar 0) (oVar 2))) (oVal (eC (.str [48]))))) (eC (.str [49])) (eC (.str [48]))) (eOp2 gIx (oVar 0) (oVar 2))))
def b__law_change : Ds → SO := (sRet (eM1 gJoin (eC (.str [])) (oVal C1__law_change)))
def G__law_change : List D → FO := mkG 2 N__law_change b__law_change
theorem w__law_change (B : Blt mg) (M : Md P K mg) (D0 : DefF K mg "_law_change" s__law_change (fun _ => True)) : CalD P w K mg base T 1 "_law_change" ["bits", "places"] G__law_change := by
  refine cal_D D0 bi__law_change sc__law_change rfl fun f c A outer s S H E hco hr tk => ?_
  exact d_sone (d_ret (d_join rfl (d_str (by first | rfl | decide +kernel)) (d_oe (d_new (d_lc rfl sc__law_change.nd (i_r1 B (d_acons (b1_len B rfl (ov 0)) d_anil)) (own := [(("at" : Str), 2)]) (blkOk_by (N := N__law_change) (sc := defScope s__law_change) (by decide +kernel)) (fun _ _ _ _ _ _ => (d_gname sc__law_change.nd rfl (by first | exact Or.inl rfl | exact Or.inr rfl))) (fun _ _ _ _ _ => d_tnil) (fun _ _ _ _ _ _ => (d_if (d_tcmp op_inA k_in (ov 2) (ov 1) rfl) (d_if (d_tcmp (op_eqA (room_u hr)) k_eq (d_oe (d_ix ix_seq k_ix (ov 0) (ov 2) (fun _ _ => rfl))) (d_oe (d_str (by first | rfl | decide +kernel))) rfl) (d_str (by first | rfl | decide +kernel)) (d_str (by first | rfl | decide +kernel))) (d_ix ix_seq k_ix (ov 0) (ov 2) (fun _ _ => rfl)))))))))
/-! ### _law_guard -/
abbrev s__law_guard : Stmt := top 41
abbrev N__law_guard : List Str := ["pen", "k"]
theorem sc__law_guard : FnScope N__law_guard ["pen"] (defScope s__law_guard) := ⟨rfl, rfl, rfl, by decide +kernel, rfl, by decide +kernel, by decide +kernel⟩
theorem bi__law_guard : BindF "_law_guard" s__law_guard ["pen"] := ⟨fun _ _ _ _ _ _ us hl => match us, hl with | [_], _ => rfl, fun k1 k2 h => by cases h⟩
def C1__law_guard : Ds → Out D := (eLc [1] (iRange1 (aCons (eCallI 0 G__law_draw (aCons (eC (.int 16)) aNil)) aNil)) (putSh 1) tYesD (eCallI 0 G__law_pick (aCons (eC (.str [48, 49])) aNil)))
def b__law_guard : Ds → SO := (sRet (eOp2 gAdd (oVal (eOp2 gAdd (oVal (eC (.str [49]))) (oVal (eM1 gJoin (eC (.str [])) (oVal C1__law_guard))))) (oVal (eC (.str [49])))))
def G__law_guard : D → List D → FIO := mkI 1 N__law_guard b__law_guard
theorem w__law_guard (B : Blt mg) (M : Md P K mg) (c__law_draw : CalI P w K mg base T 1 "_law_draw" G__law_draw) (c__law_pick : CalI P w K mg base T 2 "_law_pick" G__law_pick) (D0 : DefF K mg "_law_guard" s__law_guard (fun _ => True)) : CalI P w K mg base T 3 "_law_guard" G__law_guard := by
  refine cal_I D0 bi__law_guard sc__law_guard rfl fun f c A outer s S H p E hco hr tk => ?_
  exact d_sone (d_ret (d_op op_addA k_add (d_oe (d_op op_addA k_add (d_oe (d_str (by first | rfl | decide +kernel))) (d_oe (d_join rfl (d_str (by first | rfl | decide +kernel)) (d_oe (d_new (d_lc rfl sc__law_guard.nd (i_r1 B (d_acons (d_calI c__law_draw rfl tk hr rfl (i := 0) rfl (by first | exact Or.inl rfl | exact Or.inr (Or.inl rfl) | exact Or.inr (Or.inr rfl)) (d_acons d_int d_anil)) d_anil)) (own := [(("k" : Str), 1)]) (blkOk_by (N := N__law_guard) (sc := defScope s__law_guard) (by decide +kernel)) (fun _ _ _ _ _ _ => (d_gname sc__law_guard.nd rfl (by first | exact Or.inl rfl | exact Or.inr rfl))) (fun _ _ _ _ _ => d_tnil) (fun _ _ _ _ _ _ => (d_calI c__law_pick rfl LamX.takes0 hr rfl (i := 0) rfl (by first | exact Or.inl rfl | exact Or.inr (Or.inl rfl) | exact Or.inr (Or.inr rfl)) (d_acons (d_str (by first | rfl | decide +kernel)) d_anil)))))))))) (d_oe (d_str (by first | rfl | decide +kernel)))))
/-! ### _law_places -/
abbrev s__law_places : Stmt := top 45
abbrev N__law_places : List Str := ["pen", "many", "within", "first", "room", "at"]
theorem sc__law_places : FnScope N__law_places ["pen", "many", "within"] (defScope s__law_places) := ⟨rfl, rfl, rfl, by decide +kernel, rfl, by decide +kernel, by decide +kernel⟩
theorem bi__law_places : BindF "_law_places" s__law_places ["pen", "many", "within"] := ⟨fun _ _ _ _ _ _ us hl => match us, hl with | [_, _, _], _ => rfl, fun k1 k2 h => by cases h⟩
def C1__law_places : Ds → Out D := (eLc [5] (iRange2 (aCons (eC (.int 1)) (aCons (eVar 4) aNil))) (putSh 5) (tBl (eOp2 gEq (oVal (eCallI 0 G__law_draw (aCons (eC (.int 2)) aNil))) (oVal (eC (.int 0))))) (eOp2 gAdd (oVar 3) (oVar 5)))
def b__law_places : Ds → SO := (sSeq (sSet 3 (eCallI 0 G__law_draw (aCons (eVar 1) aNil))) (sSeq (sSet 4 (eOp2 gMin2 (oVar 2) (oVal (eOp2 gSub (oVar 1) (oVar 3))))) (sRet (eOp2 gAdd (oVal (eLst (aCons (eVar 3) aNil))) (oVal C1__law_places)))))
def G__law_places : D → List D → FIO := mkI 3 N__law_places b__law_places
theorem w__law_places (B : Blt mg) (M : Md P K mg) (c__law_draw : CalI P w K mg base T 1 "_law_draw" G__law_draw) (D0 : DefF K mg "_law_places" s__law_places (fun _ => True)) : CalI P w K mg base T 2 "_law_places" G__law_places := by
  refine cal_I D0 bi__law_places sc__law_places rfl fun f c A outer s S H p E hco hr tk => ?_
  refine d_scons (d_set sc__law_places.nd rfl (by first | exact Or.inl rfl | exact Or.inr rfl) (d_calI c__law_draw rfl tk hr rfl (i := 0) rfl (by first | exact Or.inl rfl | exact Or.inr (Or.inl rfl) | exact Or.inr (Or.inr rfl)) (d_acons (dv 1) d_anil))) ?_
  refine d_scons (d_set sc__law_places.nd rfl (by first | exact Or.inl rfl | exact Or.inr rfl) (b2_min B rfl (ov 2) (d_oe (d_op op_sub k_sub (ov 1) (ov 3))))) ?_
  exact d_sone (d_ret (d_op op_addA k_add (d_oe (d_new (d_lst (d_acons (dv 3) d_anil)))) (d_oe (d_new (d_lc rfl sc__law_places.nd (i_r2 B (d_acons d_int (d_acons (dv 4) d_anil))) (own := [(("at" : Str), 5)]) (blkOk_by (N := N__law_places) (sc := defScope s__law_places) (by decide +kernel)) (fun _ _ _ _ _ _ => (d_gname sc__law_places.nd rfl (by first | exact Or.inl rfl | exact Or.inr rfl))) (fun _ _ _ _ _ => (d_tone (fun _ => (d_tcmp (op_eqA (room_u hr)) k_eq (d_oe (d_calI c__law_draw rfl LamX.takes0 hr rfl (i := 0) rfl (by first | exact Or.inl rfl | exact Or.inr (Or.inl rfl) | exact Or.inr (Or.inr rfl)) (d_acons d_int d_anil))) (d_oe d_int) rfl)))) (fun _ _ _ _ _ _ => (d_op op_addA k_add (ov 3) (ov 5))))))))
/-! ### _law_heard -/
abbrev s__law_heard : Stmt := top 38
abbrev N__law_heard : List Str := ["ask", "caught", "found", "error", "told"]
theorem sc__law_heard : FnScope N__law_heard ["ask"] (defScope s__law_heard) := ⟨rfl, rfl, rfl, by decide +kernel, rfl, by decide +kernel, by decide +kernel⟩
theorem bi__law_heard : BindF "_law_heard" s__law_heard ["ask"] := ⟨fun _ _ _ _ _ _ us hl => match us, hl with | [_], _ => rfl, fun k1 k2 h => by cases h⟩
def ba__law_heard : Ds → SO := (sAsg (eTup (aCons (eC .non) (aCons (eC .non) aNil))) (gTupD (gsCons (putSh 1) (gsCons (putSh 2) gsNil))))
def bt__law_heard (f : Ds → Out D) : Ds → SO := (sTry (isC "CodeError") 3 1 (sSet 2 f))
def bc__law_heard : Ds → SO := (sSeq (sIf (tBl (eOp1 gIsN (oVar 1))) (sRet (eLst (aCons (eVar 2) aNil))) sNext) (sSeq (sNew 4 (eLst aNil)) (sSeq (sIf (tBl (eOp1 (gIsX (isC "BadNumber")) (oVar 1))) (sApp 4 (eTup (aCons (eC (.str [110, 117, 109, 98, 101, 114])) (aCons (eOp1 (gXf (okF "part") "part") (oVar 1)) aNil)))) sNext) (sSeq (sIf (tBl (eOp1 (gIsX (isC "BadBits")) (oVar 1))) (sApp 4 (eTup (aCons (eC (.str [98, 105, 116, 115])) (aCons (eOp1 (gXf (okF "part") "part") (oVar 1)) aNil)))) sNext) (sSeq (sIf (tBl (eOp1 (gIsX (isC "BadTable")) (oVar 1))) (sApp 4 (eTup (aCons (eC (.str [116, 97, 98, 108, 101])) (aCons (eOp1 (gXf (okF "part") "part") (oVar 1)) aNil)))) sNext) (sSeq (sIf (tBl (eOp1 (gIsX (isC "BadBook")) (oVar 1))) (sApp 4 (eTup (aCons (eC (.str [98, 111, 111, 107])) (aCons (eOp1 (gXf (okF "part") "part") (oVar 1)) aNil)))) sNext) (sSeq (sIf (tBl (eOp1 (gIsX (isC "BadRow")) (oVar 1))) (sApp 4 (eTup (aCons (eC (.str [114, 111, 119])) (aCons (eOp1 (gXf (okF "part") "part") (oVar 1)) aNil)))) sNext) (sSeq (sIf (tBl (eOp1 (gIsX (isC "BadQuestion")) (oVar 1))) (sApp 4 (eTup (aCons (eC (.str [113, 117, 101, 115, 116, 105, 111, 110])) (aCons (eOp1 (gXf (okF "part") "part") (oVar 1)) aNil)))) sNext) (sSeq (sIf (tBl (eOp1 (gIsX (isC "BadPaper")) (oVar 1))) (sApp 4 (eTup (aCons (eC (.str [112, 97, 112, 101, 114])) (aCons (eOp1 (gXf (okF "part") "part") (oVar 1)) aNil)))) sNext) (sSeq (sIf (tBl (eOp1 (gIsX (isC "Misfit")) (oVar 1))) (sApp 4 (eTup (aCons (eC (.str [109, 105, 115, 102, 105, 116])) (aCons (eOp1 (gXf (okF "part") "part") (oVar 1)) aNil)))) sNext) (sSeq (sIf (tBl (eOp1 (gIsX (isC "BadText")) (oVar 1))) (sApp 4 (eTup (aCons (eC (.str [116, 101, 120, 116])) (aCons (eOp1 (gXf (okF "line") "line") (oVar 1)) (aCons (eOp1 (gXf (okF "word") "word") (oVar 1)) aNil))))) sNext) (sSeq (sIf (tBl (eOp1 (gIsX (isC "BadCommand")) (oVar 1))) (sApp 4 (eTup (aCons (eC (.str [99, 111, 109, 109, 97, 110, 100])) (aCons (eOp1 (gXf (okF "word") "word") (oVar 1)) aNil)))) sNext) (sSeq (sIf (tBl (eOp1 (gIsX (isC "TooMany")) (oVar 1))) (sApp 4 (eTup (aCons (eC (.str [109, 97, 110, 121])) (aCons (eOp1 (gXf (okF "what") "what") (oVar 1)) (aCons (eOp1 (gXf (okF "most") "most") (oVar 1)) aNil))))) sNext) (sRet (eIf (tAndD (tBl (eOp2 gEq (oVal (eOp1 gLen (oVar 4))) (oVal (eC (.int 1))))) (tBl (eOp1 (gIsX isV) (oVar 1)))) (eOp2 gIx (oVar 4) (oVal (eC (.int 0)))) (eTup (aCons (eC (.str [111, 100, 100])) (aCons (eOp1 gLen (oVar 4)) aNil))))))))))))))))))
def b__law_heard (v0 : V) (o : FO) : Ds → SO := sSeq ba__law_heard (sSeq (bt__law_heard (eAsk v0 o)) bc__law_heard)
def G__law_heard (o : FO) : FO := match o with
  | .ok d => .ok (.lst [d])
  | .ex ⟨c, ns, xs⟩ => match tagOf c, xs with
    | some t, [d] => if ns = [("part" : Str)] then .ok (.tup [.str t, d]) else .no
    | _, _ => .no
  | .no => .no
theorem hres__law_heard (v0 : V) (o : FO) (h : G__law_heard o ≠ .no) : resD (b__law_heard v0 o (startD N__law_heard [.raw v0])) = G__law_heard o := by
  have e1 : b__law_heard v0 o (startD N__law_heard [.raw v0]) = sSeq (bt__law_heard (eAsk v0 o)) bc__law_heard [.sh (.raw v0), .sh .non, .sh .non, .no, .no] := by
    unfold b__law_heard sSeq
    rw [show ba__law_heard (startD N__law_heard [.raw v0]) = .nx [.sh (.raw v0), .sh .non, .sh .non, .no, .no] from by kernel_rfl]
  have ask : eAsk v0 o [.sh (.raw v0), .sh .non, .sh .non, .no, .no] = outD o [.sh (.raw v0), .sh .non, .sh .non, .no, .no] := if_pos rfl
  have e2 : bt__law_heard (eAsk v0 o) [.sh (.raw v0), .sh .non, .sh .non, .no, .no] = bt__law_heard (outD o) [.sh (.raw v0), .sh .non, .sh .non, .no, .no] := by
    unfold bt__law_heard sTry sSet
    rw [ask]
  have e3 : sSeq (bt__law_heard (eAsk v0 o)) bc__law_heard [.sh (.raw v0), .sh .non, .sh .non, .no, .no] = sSeq (bt__law_heard (outD o)) bc__law_heard [.sh (.raw v0), .sh .non, .sh .non, .no, .no] := by
    unfold sSeq
    rw [e2]
  rw [e1, e3]
  clear e1 e2 e3 ask
  cases o with
  | ok d => kernel_rfl
  | no => exact absurd rfl h
  | ex x =>
    obtain ⟨c, ns, xs⟩ := x
    unfold G__law_heard at h
    dsimp only at h
    split at h
    · rename_i t d ht
      split at h
      · rename_i hn
        subst hn
        unfold tagOf at ht
        repeat
          split at ht
          · rename_i hc
            subst hc
            cases ht
            kernel_rfl
        cases ht
      · exact absurd rfl h
    · exact absurd rfl h
theorem hno__law_heard : ∀ (o : FO) (z : Exn), G__law_heard o ≠ .ex z := by
  intro o z h; unfold G__law_heard at h; split at h
  · cases h
  · split at h <;> (first | cases h | (split at h <;> cases h))
  · cases h
theorem w__law_heard (B : Blt mg) (M : Md P K mg) (D0 : DefF K mg "_law_heard" s__law_heard fun _ => True) (k : Nat) : Heard P w K mg base T (k + 1) "_law_heard" "ask" G__law_heard := by
  obtain ⟨f, c, oc, od, dV, kV, doc, pm, an, ct, osl, hm, hk, rfl, _, lk, hcd⟩ := D0.ex
  refine ⟨f, _, _, _, .none, kV, doc, pm, .ref c, ct, oc, an, od, osl, N__law_heard, b__law_heard, hm, hk, lk, hcd, .all fun us hl => bi__law_heard.all kV doc pm an (.ref c) ct us hl, sc__law_heard, rfl, Or.inl rfl, hres__law_heard, hno__law_heard, fun v0 o A outer s S H hr tk ask => ?_⟩
  unfold b__law_heard ba__law_heard bt__law_heard bc__law_heard
  refine d_scons (d_asg (d_tup (d_acons d_non (d_acons d_non d_anil))) (d_gtup rfl rfl (d_gscons (d_gname sc__law_heard.nd rfl (by first | exact Or.inl rfl | exact Or.inr rfl)) (d_gscons (d_gname sc__law_heard.nd rfl (by first | exact Or.inl rfl | exact Or.inr rfl)) d_gsnil)) (len_cons (len_cons len_nil)))) ?_
  refine d_scons (d_try rfl rfl rfl sc__law_heard.nd rfl rfl rfl rfl (by exact ⟨rfl, by decide, Or.inl M.g_CodeError⟩) tk rfl rfl (M.exm "CodeError" M.g_CodeError) (fun W pn xe tk' _ => d_sone (d_set sc__law_heard.nd rfl (Or.inl rfl) (ask W pn xe _ _ tk')))) ?_
  refine d_scons (d_sif (d_tisN (ov 1)) (d_sone (d_ret (d_new (d_lst (d_acons (dv 2) d_anil))))) d_snil) ?_
  refine d_scons (d_setN sc__law_heard.nd rfl (by first | exact Or.inl rfl | exact Or.inr rfl) (d_lst d_anil)) ?_
  refine d_scons (d_sif (d_tv (d_isX (c := .ref M.a_BadNumber) rfl (M.isX "BadNumber" M.g_BadNumber) (fun _ h => h) rfl B.isinstance (ov 1) (pe_glob (v := .ref M.a_BadNumber) rfl M.g_BadNumber rfl))) (d_sone (d_app rfl (by first | exact Or.inl rfl | exact Or.inr (Or.inl rfl)) (d_tup (d_acons (d_str (by first | rfl | decide +kernel)) (d_acons (d_xf rfl (M.hF "part") (ov 1)) d_anil))) rfl)) d_snil) ?_
  refine d_scons (d_sif (d_tv (d_isX (c := .ref M.a_BadBits) rfl (M.isX "BadBits" M.g_BadBits) (fun _ h => h) rfl B.isinstance (ov 1) (pe_glob (v := .ref M.a_BadBits) rfl M.g_BadBits rfl))) (d_sone (d_app rfl (by first | exact Or.inl rfl | exact Or.inr (Or.inl rfl)) (d_tup (d_acons (d_str (by first | rfl | decide +kernel)) (d_acons (d_xf rfl (M.hF "part") (ov 1)) d_anil))) rfl)) d_snil) ?_
  refine d_scons (d_sif (d_tv (d_isX (c := .ref M.a_BadTable) rfl (M.isX "BadTable" M.g_BadTable) (fun _ h => h) rfl B.isinstance (ov 1) (pe_glob (v := .ref M.a_BadTable) rfl M.g_BadTable rfl))) (d_sone (d_app rfl (by first | exact Or.inl rfl | exact Or.inr (Or.inl rfl)) (d_tup (d_acons (d_str (by first | rfl | decide +kernel)) (d_acons (d_xf rfl (M.hF "part") (ov 1)) d_anil))) rfl)) d_snil) ?_
  refine d_scons (d_sif (d_tv (d_isX (c := .ref M.a_BadBook) rfl (M.isX "BadBook" M.g_BadBook) (fun _ h => h) rfl B.isinstance (ov 1) (pe_glob (v := .ref M.a_BadBook) rfl M.g_BadBook rfl))) (d_sone (d_app rfl (by first | exact Or.inl rfl | exact Or.inr (Or.inl rfl)) (d_tup (d_acons (d_str (by first | rfl | decide +kernel)) (d_acons (d_xf rfl (M.hF "part") (ov 1)) d_anil))) rfl)) d_snil) ?_
  refine d_scons (d_sif (d_tv (d_isX (c := .ref M.a_BadRow) rfl (M.isX "BadRow" M.g_BadRow) (fun _ h => h) rfl B.isinstance (ov 1) (pe_glob (v := .ref M.a_BadRow) rfl M.g_BadRow rfl))) (d_sone (d_app rfl (by first | exact Or.inl rfl | exact Or.inr (Or.inl rfl)) (d_tup (d_acons (d_str (by first | rfl | decide +kernel)) (d_acons (d_xf rfl (M.hF "part") (ov 1)) d_anil))) rfl)) d_snil) ?_
  refine d_scons (d_sif (d_tv (d_isX (c := .ref M.a_BadQuestion) rfl (M.isX "BadQuestion" M.g_BadQuestion) (fun _ h => h) rfl B.isinstance (ov 1) (pe_glob (v := .ref M.a_BadQuestion) rfl M.g_BadQuestion rfl))) (d_sone (d_app rfl (by first | exact Or.inl rfl | exact Or.inr (Or.inl rfl)) (d_tup (d_acons (d_str (by first | rfl | decide +kernel)) (d_acons (d_xf rfl (M.hF "part") (ov 1)) d_anil))) rfl)) d_snil) ?_
  refine d_scons (d_sif (d_tv (d_isX (c := .ref M.a_BadPaper) rfl (M.isX "BadPaper" M.g_BadPaper) (fun _ h => h) rfl B.isinstance (ov 1) (pe_glob (v := .ref M.a_BadPaper) rfl M.g_BadPaper rfl))) (d_sone (d_app rfl (by first | exact Or.inl rfl | exact Or.inr (Or.inl rfl)) (d_tup (d_acons (d_str (by first | rfl | decide +kernel)) (d_acons (d_xf rfl (M.hF "part") (ov 1)) d_anil))) rfl)) d_snil) ?_
  refine d_scons (d_sif (d_tv (d_isX (c := .ref M.a_Misfit) rfl (M.isX "Misfit" M.g_Misfit) (fun _ h => h) rfl B.isinstance (ov 1) (pe_glob (v := .ref M.a_Misfit) rfl M.g_Misfit rfl))) (d_sone (d_app rfl (by first | exact Or.inl rfl | exact Or.inr (Or.inl rfl)) (d_tup (d_acons (d_str (by first | rfl | decide +kernel)) (d_acons (d_xf rfl (M.hF "part") (ov 1)) d_anil))) rfl)) d_snil) ?_
  refine d_scons (d_sif (d_tv (d_isX (c := .ref M.a_BadText) rfl (M.isX "BadText" M.g_BadText) (fun _ h => h) rfl B.isinstance (ov 1) (pe_glob (v := .ref M.a_BadText) rfl M.g_BadText rfl))) (d_sone (d_app rfl (by first | exact Or.inl rfl | exact Or.inr (Or.inl rfl)) (d_tup (d_acons (d_str (by first | rfl | decide +kernel)) (d_acons (d_xf rfl (M.hF "line") (ov 1)) (d_acons (d_xf rfl (M.hF "word") (ov 1)) d_anil)))) rfl)) d_snil) ?_
  refine d_scons (d_sif (d_tv (d_isX (c := .ref M.a_BadCommand) rfl (M.isX "BadCommand" M.g_BadCommand) (fun _ h => h) rfl B.isinstance (ov 1) (pe_glob (v := .ref M.a_BadCommand) rfl M.g_BadCommand rfl))) (d_sone (d_app rfl (by first | exact Or.inl rfl | exact Or.inr (Or.inl rfl)) (d_tup (d_acons (d_str (by first | rfl | decide +kernel)) (d_acons (d_xf rfl (M.hF "word") (ov 1)) d_anil))) rfl)) d_snil) ?_
  refine d_scons (d_sif (d_tv (d_isX (c := .ref M.a_TooMany) rfl (M.isX "TooMany" M.g_TooMany) (fun _ h => h) rfl B.isinstance (ov 1) (pe_glob (v := .ref M.a_TooMany) rfl M.g_TooMany rfl))) (d_sone (d_app rfl (by first | exact Or.inl rfl | exact Or.inr (Or.inl rfl)) (d_tup (d_acons (d_str (by first | rfl | decide +kernel)) (d_acons (d_xf rfl (M.hF "what") (ov 1)) (d_acons (d_xf rfl (M.hF "most") (ov 1)) d_anil)))) rfl)) d_snil) ?_
  exact d_sone (d_ret (d_if (d_tw (d_wand (d_tcmp (op_eqA (room_u hr)) k_eq (d_oe (b1_len B rfl (ov 4))) (d_oe d_int) rfl) (d_wand1 (d_tv (d_isX (c := .ty "ValueError") rfl M.isVe (fun _ h => h) rfl B.isinstance (ov 1) (pe_bltn (v := .ty "ValueError") rfl B.ve b_ve rfl)))))) (d_ix ix_seq k_ix (ov 4) (d_oe d_int) (fun _ _ => rfl)) (d_tup (d_acons (d_str (by first | rfl | decide +kernel)) (d_acons (b1_len B rfl (ov 4)) d_anil)))))
/-! ### is_listed -/
abbrev s_is_listed : Stmt := top 16
abbrev N_is_listed : List Str := ["value"]
theorem sc_is_listed : FnScope N_is_listed ["value"] (defScope s_is_listed) := ⟨rfl, rfl, rfl, by decide +kernel, rfl, by decide +kernel, by decide +kernel⟩
theorem bi_is_listed : BindF "is_listed" s_is_listed ["value"] := ⟨fun _ _ _ _ _ _ us hl => match us, hl with | [_], _ => rfl, fun k1 k2 h => by cases h⟩
def b_is_listed : Ds → SO := (sRet (eOp1 (gIsiT ["list", "tuple"]) (oVar 0)))
def G_is_listed : List D → FO := mkG 1 N_is_listed b_is_listed
theorem w_is_listed (B : Blt mg) (M : Md P K mg) (D0 : DefF K mg "is_listed" s_is_listed (fun _ => True)) : CalD P w K mg base T 1 "is_listed" ["value"] G_is_listed := by
  refine cal_D D0 bi_is_listed sc_is_listed rfl fun f c A outer s S H E hco hr tk => ?_
  exact d_sone (d_ret (is_lt B rfl (ov 0)))
/-! ### is_integer -/
abbrev s_is_integer : Stmt := top 14
abbrev N_is_integer : List Str := ["value"]
theorem sc_is_integer : FnScope N_is_integer ["value"] (defScope s_is_integer) := ⟨rfl, rfl, rfl, by decide +kernel, rfl, by decide +kernel, by decide +kernel⟩
theorem bi_is_integer : BindF "is_integer" s_is_integer ["value"] := ⟨fun _ _ _ _ _ _ us hl => match us, hl with | [_], _ => rfl, fun k1 k2 h => by cases h⟩
def b_is_integer : Ds → SO := (sRet (eAndD (eOp1 (gIsi "int") (oVar 0)) (eNotD (eOp1 (gIsi "bool") (oVar 0)))))
def G_is_integer : List D → FO := mkG 1 N_is_integer b_is_integer
theorem w_is_integer (B : Blt mg) (M : Md P K mg) (D0 : DefF K mg "is_integer" s_is_integer (fun _ => True)) : CalD P w K mg base T 1 "is_integer" ["value"] G_is_integer := by
  refine cal_D D0 bi_is_integer sc_is_integer rfl fun f c A outer s S H E hco hr tk => ?_
  exact d_sone (d_ret (d_and (is_int B rfl (ov 0)) (d_one (d_not (is_bool B rfl (ov 0))))))
/-! ### is_within -/
abbrev s_is_within : Stmt := top 15
abbrev N_is_within : List Str := ["value", "least", "most"]
theorem sc_is_within : FnScope N_is_within ["value", "least", "most"] (defScope s_is_within) := ⟨rfl, rfl, rfl, by decide +kernel, rfl, by decide +kernel, by decide +kernel⟩
theorem bi_is_within : BindF "is_within" s_is_within ["value", "least", "most"] := ⟨fun _ _ _ _ _ _ us hl => match us, hl with | [_, _, _], _ => rfl, fun k1 k2 h => by cases h⟩
def b_is_within : Ds → SO := (sRet (eAndD (eCall G_is_integer (aCons (eVar 0) aNil)) (eAndD (eOrD (eOp1 gIsN (oVar 1)) (eOp2 gGe (oVar 0) (oVar 1))) (eOrD (eOp1 gIsN (oVar 2)) (eOp2 gLe (oVar 0) (oVar 2))))))
def G_is_within : List D → FO := mkG 3 N_is_within b_is_within
theorem w_is_within (B : Blt mg) (M : Md P K mg) (c_is_integer : CalD P w K mg base T 1 "is_integer" ["value"] G_is_integer) (D0 : DefF K mg "is_within" s_is_within (fun _ => True)) : CalD P w K mg base T 2 "is_within" ["value", "least", "most"] G_is_within := by
  refine cal_D D0 bi_is_within sc_is_within rfl fun f c A outer s S H E hco hr tk => ?_
  exact d_sone (d_ret (d_and (d_cal c_is_integer rfl tk hr rfl (d_acons (dv 0) d_anil)) (d_and (d_or (d_isN (ov 1)) (d_one (d_cmp op_ge k_ge (ov 0) (ov 1) rfl))) (d_one (d_or (d_isN (ov 2)) (d_one (d_cmp op_le k_le (ov 0) (ov 2) rfl)))))))
/-! ### is_change -/
abbrev s_is_change : Stmt := top 30
abbrev N_is_change : List Str := ["value", "many", "place", "k"]
theorem sc_is_change : FnScope N_is_change ["value", "many"] (defScope s_is_change) := ⟨rfl, rfl, rfl, by decide +kernel, rfl, by decide +kernel, by decide +kernel⟩
theorem bi_is_change : BindF "is_change" s_is_change ["value", "many"] := ⟨fun _ _ _ _ _ _ us hl => match us, hl with | [_, _], _ => rfl, fun k1 k2 h => by cases h; intros; rfl⟩
def C1_is_change : Ds → Out D := (eLc [2] (iAny (eVar 0)) (putSh 2) tYesD (eCall G_is_within (aCons (eVar 2) (aCons (eC (.int 0)) (aCons (eOp2 gSub (oVar 1) (oVal (eC (.int 1)))) aNil)))))
def C2_is_change : Ds → Out D := (eLc [3] (iRange1 (aCons (eOp2 gSub (oVal (eOp1 gLen (oVar 0))) (oVal (eC (.int 1)))) aNil)) (putSh 3) tYesD (eOp2 gLt (oVal (eOp2 gIx (oVar 0) (oVar 3))) (oVal (eOp2 gIx (oVar 0) (oVal (eOp2 gAdd (oVar 3) (oVal (eC (.int 1)))))))))
def b_is_change : Ds → SO := (sSeq (sIf (tOrD (tNotD (tBl (eCall G_is_listed (aCons (eVar 0) aNil)))) (tNotD (tBl (eOp1 gAll (oVal C1_is_change))))) (sRet (eC (.bl false))) sNext) (sRet (eOp1 gAll (oVal C2_is_change))))
def G_is_change : List D → FO := mkG 2 N_is_change b_is_change
theorem w_is_change (B : Blt mg) (M : Md P K mg) (c_is_listed : CalD P w K mg base T 1 "is_listed" ["value"] G_is_listed) (c_is_within : CalD P w K mg base T 2 "is_within" ["value", "least", "most"] G_is_within) (D0 : DefF K mg "is_change" s_is_change (fun _ => True)) : CalD P w K mg base T 3 "is_change" ["value", "many"] G_is_change := by
  refine cal_D D0 bi_is_change sc_is_change rfl fun f c A outer s S H E hco hr tk => ?_
  refine d_scons (d_sif (d_tw (d_wor (d_tnot (d_tv (d_cal c_is_listed rfl tk hr rfl (d_acons (dv 0) d_anil)))) (d_wor1 (d_tnot (d_tv (b1_all B rfl rfl (d_oe (d_new (d_lc rfl sc_is_change.nd (i_any rfl (dv 0)) (own := [(("place" : Str), 2)]) (blkOk_by (N := N_is_change) (sc := defScope s_is_change) (by decide +kernel)) (fun _ _ _ _ _ _ => (d_gname sc_is_change.nd rfl (by first | exact Or.inl rfl | exact Or.inr rfl))) (fun _ _ _ _ _ => d_tnil) (fun _ _ _ _ _ _ => (d_cal c_is_within rfl LamX.takes0 hr rfl (d_acons (dv 2) (d_acons d_int (d_acons (d_op op_sub k_sub (ov 1) (d_oe d_int)) d_anil)))))))))))))) (d_sone (d_ret d_bl)) d_snil) ?_
  exact d_sone (d_ret (b1_all B rfl rfl (d_oe (d_new (d_lc rfl sc_is_change.nd (i_r1 B (d_acons (d_op op_sub k_sub (d_oe (b1_len B rfl (ov 0))) (d_oe d_int)) d_anil)) (own := [(("k" : Str), 3)]) (blkOk_by (N := N_is_change) (sc := defScope s_is_change) (by decide +kernel)) (fun _ _ _ _ _ _ => (d_gname sc_is_change.nd rfl (by first | exact Or.inl rfl | exact Or.inr rfl))) (fun _ _ _ _ _ => d_tnil) (fun _ _ _ _ _ _ => (d_cmp op_lt k_lt (d_oe (d_ix ix_seq k_ix (ov 0) (ov 3) (fun _ _ => rfl))) (d_oe (d_ix ix_seq k_ix (ov 0) (d_oe (d_op op_addA k_add (ov 3) (d_oe d_int))) (fun _ _ => rfl))) rfl)))))))
/-! ### is_bits -/
abbrev s_is_bits : Stmt := top 17
abbrev N_is_bits : List Str := ["value", "sign"]
theorem sc_is_bits : FnScope N_is_bits ["value"] (defScope s_is_bits) := ⟨rfl, rfl, rfl, by decide +kernel, rfl, by decide +kernel, by decide +kernel⟩
theorem bi_is_bits : BindF "is_bits" s_is_bits ["value"] := ⟨fun _ _ _ _ _ _ us hl => match us, hl with | [_], _ => rfl, fun k1 k2 h => by cases h⟩
def C1_is_bits : Ds → Out D := (eLc [1] (iAny (eVar 0)) (putSh 1) tYesD (eOp2 gIn (oVar 1) (oVal (eC (.str [48, 49])))))
def b_is_bits : Ds → SO := (sRet (eAndD (eOp1 (gIsi "str") (oVar 0)) (eOp1 gAll (oVal C1_is_bits))))
def G_is_bits : List D → FO := mkG 1 N_is_bits b_is_bits
theorem w_is_bits (B : Blt mg) (M : Md P K mg) (D0 : DefF K mg "is_bits" s_is_bits (fun _ => True)) : CalD P w K mg base T 1 "is_bits" ["value"] G_is_bits := by
  refine cal_D D0 bi_is_bits sc_is_bits rfl fun f c A outer s S H E hco hr tk => ?_
  exact d_sone (d_ret (d_and (is_str B rfl (ov 0)) (d_one (b1_all B rfl rfl (d_oe (d_new (d_lc rfl sc_is_bits.nd (i_any rfl (dv 0)) (own := [(("sign" : Str), 1)]) (blkOk_by (N := N_is_bits) (sc := defScope s_is_bits) (by decide +kernel)) (fun _ _ _ _ _ _ => (d_gname sc_is_bits.nd rfl (by first | exact Or.inl rfl | exact Or.inr rfl))) (fun _ _ _ _ _ => d_tnil) (fun _ _ _ _ _ _ => (d_cmp op_inA k_in (ov 1) (d_oe (d_str (by first | rfl | decide +kernel))) rfl)))))))))
/-! ### need_bits -/
abbrev s_need_bits : Stmt := top 29
abbrev N_need_bits : List Str := ["value", "part"]
theorem sc_need_bits : FnScope N_need_bits ["value", "part"] (defScope s_need_bits) := ⟨rfl, rfl, rfl, by decide +kernel, rfl, by decide +kernel, by decide +kernel⟩
theorem bi_need_bits : BindF "need_bits" s_need_bits ["value", "part"] := ⟨fun _ _ _ _ _ _ us hl => match us, hl with | [_, _], _ => rfl, fun k1 k2 h => by cases h; intros; rfl⟩
def b_need_bits : Ds → SO := (sIf (tNotD (tBl (eCall G_is_bits (aCons (eVar 0) aNil)))) (sRaise "BadBits" "part" (eVar 1)) sNext)
def G_need_bits : List D → FO := mkG 2 N_need_bits b_need_bits
theorem w_need_bits (B : Blt mg) (M : Md P K mg) (c_is_bits : CalD P w K mg base T 1 "is_bits" ["value"] G_is_bits) (D0 : DefF K mg "need_bits" s_need_bits (fun _ => True)) : CalD P w K mg base T 2 "need_bits" ["value", "part"] G_need_bits := by
  refine cal_D D0 bi_need_bits sc_need_bits rfl fun f c A outer s S H E hco hr tk => ?_
  exact d_sone (d_sif (d_tnot (d_tv (d_cal c_is_bits rfl tk hr rfl (d_acons (dv 0) d_anil)))) (d_sone (d_raise M.x_BadBits M.g_BadBits rfl rfl tk hr (dv 1) rfl)) d_snil)
/-! ### with_changes -/
abbrev s_with_changes : Stmt := top 26
abbrev N_with_changes : List Str := ["bits", "places", "found", "place"]
theorem sc_with_changes : FnScope N_with_changes ["bits", "places"] (defScope s_with_changes) := ⟨rfl, rfl, rfl, by decide +kernel, rfl, by decide +kernel, by decide +kernel⟩
theorem bi_with_changes : BindF "with_changes" s_with_changes ["bits", "places"] := ⟨fun _ _ _ _ _ _ us hl => match us, hl with | [_, _], _ => rfl, fun k1 k2 h => by cases h; intros; rfl⟩
def B1_with_changes : Ds → SO := (sSetIx 2 (eIf (tBl (eOp2 gEq (oVal (eOp2 gIx (oVar 2) (oVar 3))) (oVal (eC (.str [49]))))) (eC (.str [48])) (eC (.str [49]))) (eVar 3))
def F2_with_changes : Ds → SO := (sFor (iAny (eVar 1)) (putSh 3) B1_with_changes)
def b_with_changes : Ds → SO := (sSeq (sNew 2 (fun ds => ((eVar 0) ds).bind fun d ds1 => liftO (gSigns d) ds1)) (sSeq F2_with_changes (sRet (eM1 gJoin (eC (.str [])) (oVar 2)))))
def G_with_changes : List D → FO := mkG 2 N_with_changes b_with_changes
theorem w_with_changes (B : Blt mg) (M : Md P K mg) (D0 : DefF K mg "with_changes" s_with_changes (fun _ => True)) : CalD P w K mg base T 1 "with_changes" ["bits", "places"] G_with_changes := by
  refine cal_D D0 bi_with_changes sc_with_changes rfl fun f c A outer s S H E hco hr tk => ?_
  refine d_scons (d_setN sc_with_changes.nd rfl (by first | exact Or.inl rfl | exact Or.inr rfl) (n_listS B rfl (dv 0))) ?_
  refine d_scons (d_for (passes_of rfl) rfl (i_any rfl (dv 1)) (d_gname sc_with_changes.nd rfl (by first | exact Or.inl rfl | exact Or.inr rfl)) (d_sone (d_setIx rfl (by first | exact Or.inl rfl | exact Or.inr (Or.inl rfl)) (d_if (d_tcmp (op_eqA (room_u hr)) k_eq (d_oe (d_ix ix_seq k_ix (ov 2) (ov 3) (fun _ _ => rfl))) (d_oe (g_str M.k_ONE)) rfl) (d_str (by first | rfl | decide +kernel)) (g_str M.k_ONE)) (dv 3)))) ?_
  exact d_sone (d_ret (d_join rfl (d_str (by first | rfl | decide +kernel)) (ov 2)))
/-! ### changed -/
abbrev s_changed : Stmt := top 33
abbrev N_changed : List Str := ["bits", "places"]
theorem sc_changed : FnScope N_changed ["bits", "places"] (defScope s_changed) := ⟨rfl, rfl, rfl, by decide +kernel, rfl, by decide +kernel, by decide +kernel⟩
theorem bi_changed : BindF "changed" s_changed ["bits", "places"] := ⟨fun _ _ _ _ _ _ us hl => match us, hl with | [_, _], _ => rfl, fun k1 k2 h => by cases h; intros; rfl⟩
def b_changed : Ds → SO := (sSeq (sDrop (eCall G_need_bits (aCons (eVar 0) (aCons (eC (.str [98, 105, 116, 115])) aNil)))) (sSeq (sIf (tNotD (tBl (eCall G_is_change (aCons (eVar 1) (aCons (eOp1 gLen (oVar 0)) aNil))))) (sRaise "BadRow" "part" (eC (.str [112, 108, 97, 99, 101, 115]))) sNext) (sRet (eCall G_with_changes (aCons (eVar 0) (aCons (eVar 1) aNil))))))
def G_changed : List D → FO := mkG 2 N_changed b_changed
theorem w_changed (B : Blt mg) (M : Md P K mg) (c_is_change : CalD P w K mg base T 3 "is_change" ["value", "many"] G_is_change) (c_need_bits : CalD P w K mg base T 2 "need_bits" ["value", "part"] G_need_bits) (c_with_changes : CalD P w K mg base T 1 "with_changes" ["bits", "places"] G_with_changes) (D0 : DefF K mg "changed" s_changed (fun _ => True)) : CalD P w K mg base T 4 "changed" ["bits", "places"] G_changed := by
  refine cal_D D0 bi_changed sc_changed rfl fun f c A outer s S H E hco hr tk => ?_
  refine d_scons (d_expr (d_cal c_need_bits rfl tk hr rfl (d_acons (dv 0) (d_acons (d_str (by first | rfl | decide +kernel)) d_anil)))) ?_
  refine d_scons (d_sif (d_tnot (d_tv (d_cal c_is_change rfl tk hr rfl (d_acons (dv 1) (d_acons (b1_len B rfl (ov 0)) d_anil))))) (d_sone (d_raise M.x_BadRow M.g_BadRow rfl rfl tk hr (d_str (by first | rfl | decide +kernel)) rfl)) d_snil) ?_
  exact d_sone (d_ret (d_cal c_with_changes rfl tk hr rfl (d_acons (dv 0) (d_acons (dv 1) d_anil))))
/-! ### is_guard -/
abbrev s_is_guard : Stmt := top 27
abbrev N_is_guard : List Str := ["value"]
theorem sc_is_guard : FnScope N_is_guard ["value"] (defScope s_is_guard) := ⟨rfl, rfl, rfl, by decide +kernel, rfl, by decide +kernel, by decide +kernel⟩
theorem bi_is_guard : BindF "is_guard" s_is_guard ["value"] := ⟨fun _ _ _ _ _ _ us hl => match us, hl with | [_], _ => rfl, fun k1 k2 h => by cases h⟩
def b_is_guard : Ds → SO := (sRet (eAndD (eCall G_is_bits (aCons (eVar 0) aNil)) (eAndD (eChain gLe gLe (oVal (eC (.int 2))) (oVal (eOp1 gLen (oVar 0))) (oVal (eOp2 gAdd (oVal (eC (.int 16))) (oVal (eC (.int 1)))))) (eAndD (eOp2 gEq (oVal (eOp2 gIx (oVar 0) (oVal (eC (.int 0))))) (oVal (eC (.str [49])))) (eOp2 gEq (oVal (eOp2 gIx (oVar 0) (oVal (eOp1 gNeg (oVal (eC (.int 1))))))) (oVal (eC (.str [49]))))))))
def G_is_guard : List D → FO := mkG 1 N_is_guard b_is_guard
theorem w_is_guard (B : Blt mg) (M : Md P K mg) (c_is_bits : CalD P w K mg base T 1 "is_bits" ["value"] G_is_bits) (D0 : DefF K mg "is_guard" s_is_guard (fun _ => True)) : CalD P w K mg base T 2 "is_guard" ["value"] G_is_guard := by
  refine cal_D D0 bi_is_guard sc_is_guard rfl fun f c A outer s S H E hco hr tk => ?_
  exact d_sone (d_ret (d_and (d_cal c_is_bits rfl tk hr rfl (d_acons (dv 0) d_anil)) (d_and (d_chain op_le op_le k_le k_le (d_oe d_int) (d_oe (b1_len B rfl (ov 0))) (d_oe (d_op op_addA k_add (d_oe (g_int M.k_MOST_DEGREE)) (d_oe d_int))) rfl) (d_and (d_cmp (op_eqA (room_u hr)) k_eq (d_oe (d_ix ix_seq k_ix (ov 0) (d_oe d_int) (fun _ _ => rfl))) (d_oe (g_str M.k_ONE)) rfl) (d_one (d_cmp (op_eqA (room_u hr)) k_eq (d_oe (d_ix ix_seq k_ix (ov 0) (d_oe (d_un un_neg k_neg (d_oe d_int))) (fun _ _ => rfl))) (d_oe (g_str M.k_ONE)) rfl))))))
/-! ### need_guard -/
abbrev s_need_guard : Stmt := top 28
abbrev N_need_guard : List Str := ["value"]
theorem sc_need_guard : FnScope N_need_guard ["value"] (defScope s_need_guard) := ⟨rfl, rfl, rfl, by decide +kernel, rfl, by decide +kernel, by decide +kernel⟩
theorem bi_need_guard : BindF "need_guard" s_need_guard ["value"] := ⟨fun _ _ _ _ _ _ us hl => match us, hl with | [_], _ => rfl, fun k1 k2 h => by cases h⟩
def b_need_guard : Ds → SO := (sIf (tNotD (tBl (eCall G_is_guard (aCons (eVar 0) aNil)))) (sRaise "BadBits" "part" (eC (.str [103, 117, 97, 114, 100]))) sNext)
def G_need_guard : List D → FO := mkG 1 N_need_guard b_need_guard
theorem w_need_guard (B : Blt mg) (M : Md P K mg) (c_is_guard : CalD P w K mg base T 2 "is_guard" ["value"] G_is_guard) (D0 : DefF K mg "need_guard" s_need_guard (fun _ => True)) : CalD P w K mg base T 3 "need_guard" ["value"] G_need_guard := by
  refine cal_D D0 bi_need_guard sc_need_guard rfl fun f c A outer s S H E hco hr tk => ?_
  exact d_sone (d_sif (d_tnot (d_tv (d_cal c_is_guard rfl tk hr rfl (d_acons (dv 0) d_anil)))) (d_sone (d_raise M.x_BadBits M.g_BadBits rfl rfl tk hr (d_str (by first | rfl | decide +kernel)) rfl)) d_snil)
/-! ### degree_of -/
abbrev s_degree_of : Stmt := top 21
abbrev N_degree_of : List Str := ["guard"]
theorem sc_degree_of : FnScope N_degree_of ["guard"] (defScope s_degree_of) := ⟨rfl, rfl, rfl, by decide +kernel, rfl, by decide +kernel, by decide +kernel⟩
theorem bi_degree_of : BindF "degree_of" s_degree_of ["guard"] := ⟨fun _ _ _ _ _ _ us hl => match us, hl with | [_], _ => rfl, fun k1 k2 h => by cases h⟩
def b_degree_of : Ds → SO := (sRet (eOp2 gSub (oVal (eOp1 gLen (oVar 0))) (oVal (eC (.int 1)))))
def G_degree_of : List D → FO := mkG 1 N_degree_of b_degree_of
theorem w_degree_of (B : Blt mg) (M : Md P K mg) (D0 : DefF K mg "degree_of" s_degree_of (fun _ => True)) : CalD P w K mg base T 1 "degree_of" ["guard"] G_degree_of := by
  refine cal_D D0 bi_degree_of sc_degree_of rfl fun f c A outer s S H E hco hr tk => ?_
  exact d_sone (d_ret (d_op op_sub k_sub (d_oe (b1_len B rfl (ov 0))) (d_oe d_int)))
/-! ### bits_of_rest -/
abbrev s_bits_of_rest : Stmt := top 23
abbrev N_bits_of_rest : List Str := ["rest", "guard"]
theorem sc_bits_of_rest : FnScope N_bits_of_rest ["rest", "guard"] (defScope s_bits_of_rest) := ⟨rfl, rfl, rfl, by decide +kernel, rfl, by decide +kernel, by decide +kernel⟩
theorem bi_bits_of_rest : BindF "bits_of_rest" s_bits_of_rest ["rest", "guard"] := ⟨fun _ _ _ _ _ _ us hl => match us, hl with | [_, _], _ => rfl, fun k1 k2 h => by cases h; intros; rfl⟩
def b_bits_of_rest : Ds → SO := (sRet (eM1 gZfill (eFb (eVar 0)) (oVal (eCall G_degree_of (aCons (eVar 1) aNil)))))
def G_bits_of_rest : List D → FO := mkG 2 N_bits_of_rest b_bits_of_rest
theorem w_bits_of_rest (B : Blt mg) (M : Md P K mg) (c_degree_of : CalD P w K mg base T 1 "degree_of" ["guard"] G_degree_of) (D0 : DefF K mg "bits_of_rest" s_bits_of_rest (fun _ => True)) : CalD P w K mg base T 2 "bits_of_rest" ["rest", "guard"] G_bits_of_rest := by
  refine cal_D D0 bi_bits_of_rest sc_bits_of_rest rfl fun f c A outer s S H E hco hr tk => ?_
  exact d_sone (d_ret (d_zfill (d_fb (dv 0)) (d_oe (d_cal c_degree_of rfl tk hr rfl (d_acons (dv 1) d_anil)))))
/-! ### rest_number -/
abbrev s_rest_number : Stmt := top 22
abbrev N_rest_number : List Str := ["bits", "guard", "by", "degree", "rest", "sign"]
theorem sc_rest_number : FnScope N_rest_number ["bits", "guard"] (defScope s_rest_number) := ⟨rfl, rfl, rfl, by decide +kernel, rfl, by decide +kernel, by decide +kernel⟩
theorem bi_rest_number : BindF "rest_number" s_rest_number ["bits", "guard"] := ⟨fun _ _ _ _ _ _ us hl => match us, hl with | [_, _], _ => rfl, fun k1 k2 h => by cases h; intros; rfl⟩
def B1_rest_number : Ds → SO := (sSeq (sSet 4 (eOp2 gAdd (oVal (eOp2 gMul (oVal (eC (.int 2))) (oVar 4))) (oVal (eOp1 gInt (oVal (eOp2 gEq (oVar 5) (oVal (eC (.str [49]))))))))) (sIf (tBl (eOp2 gNe (oVal (eOp2 gShr (oVar 4) (oVar 3))) (oVal (eC (.int 0))))) (sSet 4 (eOp2 gXor (oVar 4) (oVar 2))) sNext))
def F2_rest_number : Ds → SO := (sFor (iAny (eVar 0)) (putSh 5) B1_rest_number)
def b_rest_number : Ds → SO := (sSeq (sPar 2 3 (aCons (eOp2 gIntBase (oVar 1) (oVal (eC (.int 2)))) (aCons (eCall G_degree_of (aCons (eVar 1) aNil)) aNil))) (sSeq (sSet 4 (eC (.int 0))) (sSeq F2_rest_number (sRet (eVar 4)))))
def G_rest_number : List D → FO := mkG 2 N_rest_number b_rest_number
theorem w_rest_number (B : Blt mg) (M : Md P K mg) (c_degree_of : CalD P w K mg base T 1 "degree_of" ["guard"] G_degree_of) (D0 : DefF K mg "rest_number" s_rest_number (fun _ => True)) : CalD P w K mg base T 2 "rest_number" ["bits", "guard"] G_rest_number := by
  refine cal_D D0 bi_rest_number sc_rest_number rfl fun f c A outer s S H E hco hr tk => ?_
  refine d_scons (d_par rfl sc_rest_number.nd rfl rfl (by decide) rfl rfl (d_acons (b2_int B (ov 1) (d_oe d_int)) (d_acons (d_cal c_degree_of rfl tk hr rfl (d_acons (dv 1) d_anil)) d_anil)) rfl) ?_
  refine d_scons (d_set sc_rest_number.nd rfl (by first | exact Or.inl rfl | exact Or.inr rfl) d_int) ?_
  refine d_scons (d_for (passes_of rfl) rfl (i_any rfl (dv 0)) (d_gname sc_rest_number.nd rfl (by first | exact Or.inl rfl | exact Or.inr rfl)) (d_scons (d_set sc_rest_number.nd rfl (by first | exact Or.inl rfl | exact Or.inr rfl) (d_op op_addA k_add (d_oe (d_op op_mulA k_mul (d_oe d_int) (ov 4))) (d_oe (b1_int B (d_oe (d_cmp (op_eqA (room_u hr)) k_eq (ov 5) (d_oe (g_str M.k_ONE)) rfl)))))) (d_sone (d_sif (d_tcmp (op_neA (room_u hr)) k_ne (d_oe (d_op op_shr k_shr (ov 4) (ov 3))) (d_oe d_int) rfl) (d_sone (d_set sc_rest_number.nd rfl (by first | exact Or.inl rfl | exact Or.inr rfl) (d_op op_xor k_xor (ov 4) (ov 2)))) d_snil)))) ?_
  exact d_sone (d_ret (dv 4))
/-! ### rest_of -/
abbrev s_rest_of : Stmt := top 24
abbrev N_rest_of : List Str := ["bits", "guard"]
theorem sc_rest_of : FnScope N_rest_of ["bits", "guard"] (defScope s_rest_of) := ⟨rfl, rfl, rfl, by decide +kernel, rfl, by decide +kernel, by decide +kernel⟩
theorem bi_rest_of : BindF "rest_of" s_rest_of ["bits", "guard"] := ⟨fun _ _ _ _ _ _ us hl => match us, hl with | [_, _], _ => rfl, fun k1 k2 h => by cases h; intros; rfl⟩
def b_rest_of : Ds → SO := (sRet (eCall G_bits_of_rest (aCons (eCall G_rest_number (aCons (eVar 0) (aCons (eVar 1) aNil))) (aCons (eVar 1) aNil))))
def G_rest_of : List D → FO := mkG 2 N_rest_of b_rest_of
theorem w_rest_of (B : Blt mg) (M : Md P K mg) (c_bits_of_rest : CalD P w K mg base T 2 "bits_of_rest" ["rest", "guard"] G_bits_of_rest) (c_rest_number : CalD P w K mg base T 2 "rest_number" ["bits", "guard"] G_rest_number) (D0 : DefF K mg "rest_of" s_rest_of (fun _ => True)) : CalD P w K mg base T 3 "rest_of" ["bits", "guard"] G_rest_of := by
  refine cal_D D0 bi_rest_of sc_rest_of rfl fun f c A outer s S H E hco hr tk => ?_
  exact d_sone (d_ret (d_cal c_bits_of_rest rfl tk hr rfl (d_acons (d_cal c_rest_number rfl tk hr rfl (d_acons (dv 0) (d_acons (dv 1) d_anil))) (d_acons (dv 1) d_anil))))
/-! ### rest_by -/
abbrev s_rest_by : Stmt := top 31
abbrev N_rest_by : List Str := ["guard", "bits"]
theorem sc_rest_by : FnScope N_rest_by ["guard", "bits"] (defScope s_rest_by) := ⟨rfl, rfl, rfl, by decide +kernel, rfl, by decide +kernel, by decide +kernel⟩
theorem bi_rest_by : BindF "rest_by" s_rest_by ["guard", "bits"] := ⟨fun _ _ _ _ _ _ us hl => match us, hl with | [_, _], _ => rfl, fun k1 k2 h => by cases h; intros; rfl⟩
def b_rest_by : Ds → SO := (sSeq (sDrop (eCall G_need_guard (aCons (eVar 0) aNil))) (sSeq (sDrop (eCall G_need_bits (aCons (eVar 1) (aCons (eC (.str [98, 105, 116, 115])) aNil)))) (sRet (eCall G_rest_of (aCons (eVar 1) (aCons (eVar 0) aNil))))))
def G_rest_by : List D → FO := mkG 2 N_rest_by b_rest_by
theorem w_rest_by (B : Blt mg) (M : Md P K mg) (c_need_bits : CalD P w K mg base T 2 "need_bits" ["value", "part"] G_need_bits) (c_need_guard : CalD P w K mg base T 3 "need_guard" ["value"] G_need_guard) (c_rest_of : CalD P w K mg base T 3 "rest_of" ["bits", "guard"] G_rest_of) (D0 : DefF K mg "rest_by" s_rest_by (fun _ => True)) : CalD P w K mg base T 4 "rest_by" ["guard", "bits"] G_rest_by := by
  refine cal_D D0 bi_rest_by sc_rest_by rfl fun f c A outer s S H E hco hr tk => ?_
  refine d_scons (d_expr (d_cal c_need_guard rfl tk hr rfl (d_acons (dv 0) d_anil))) ?_
  refine d_scons (d_expr (d_cal c_need_bits rfl tk hr rfl (d_acons (dv 1) (d_acons (d_str (by first | rfl | decide +kernel)) d_anil)))) ?_
  exact d_sone (d_ret (d_cal c_rest_of rfl tk hr rfl (d_acons (dv 1) (d_acons (dv 0) d_anil))))
/-! ### guarded -/
abbrev s_guarded : Stmt := top 25
abbrev N_guarded : List Str := ["bits", "guard"]
theorem sc_guarded : FnScope N_guarded ["bits", "guard"] (defScope s_guarded) := ⟨rfl, rfl, rfl, by decide +kernel, rfl, by decide +kernel, by decide +kernel⟩
theorem bi_guarded : BindF "guarded" s_guarded ["bits", "guard"] := ⟨fun _ _ _ _ _ _ us hl => match us, hl with | [_, _], _ => rfl, fun k1 k2 h => by cases h; intros; rfl⟩
def b_guarded : Ds → SO := (sRet (eOp2 gAdd (oVar 0) (oVal (eCall G_rest_of (aCons (eOp2 gAdd (oVar 0) (oVal (eOp2 gMul (oVal (eC (.str [48]))) (oVal (eCall G_degree_of (aCons (eVar 1) aNil)))))) (aCons (eVar 1) aNil))))))
def G_guarded : List D → FO := mkG 2 N_guarded b_guarded
theorem w_guarded (B : Blt mg) (M : Md P K mg) (c_degree_of : CalD P w K mg base T 1 "degree_of" ["guard"] G_degree_of) (c_rest_of : CalD P w K mg base T 3 "rest_of" ["bits", "guard"] G_rest_of) (D0 : DefF K mg "guarded" s_guarded (fun _ => True)) : CalD P w K mg base T 4 "guarded" ["bits", "guard"] G_guarded := by
  refine cal_D D0 bi_guarded sc_guarded rfl fun f c A outer s S H E hco hr tk => ?_
  exact d_sone (d_ret (d_op op_addA k_add (ov 0) (d_oe (d_cal c_rest_of rfl tk hr rfl (d_acons (d_op op_addA k_add (ov 0) (d_oe (d_op op_mulA k_mul (d_oe (d_str (by first | rfl | decide +kernel))) (d_oe (d_cal c_degree_of rfl tk hr rfl (d_acons (dv 1) d_anil)))))) (d_acons (dv 1) d_anil))))))
/-! ### with_guard -/
abbrev s_with_guard : Stmt := top 32
abbrev N_with_guard : List Str := ["guard", "bits"]
theorem sc_with_guard : FnScope N_with_guard ["guard", "bits"] (defScope s_with_guard) := ⟨rfl, rfl, rfl, by decide +kernel, rfl, by decide +kernel, by decide +kernel⟩
theorem bi_with_guard : BindF "with_guard" s_with_guard ["guard", "bits"] := ⟨fun _ _ _ _ _ _ us hl => match us, hl with | [_, _], _ => rfl, fun k1 k2 h => by cases h; intros; rfl⟩
def b_with_guard : Ds → SO := (sSeq (sDrop (eCall G_need_guard (aCons (eVar 0) aNil))) (sSeq (sDrop (eCall G_need_bits (aCons (eVar 1) (aCons (eC (.str [98, 105, 116, 115])) aNil)))) (sRet (eCall G_guarded (aCons (eVar 1) (aCons (eVar 0) aNil))))))
def G_with_guard : List D → FO := mkG 2 N_with_guard b_with_guard
theorem w_with_guard (B : Blt mg) (M : Md P K mg) (c_guarded : CalD P w K mg base T 4 "guarded" ["bits", "guard"] G_guarded) (c_need_bits : CalD P w K mg base T 2 "need_bits" ["value", "part"] G_need_bits) (c_need_guard : CalD P w K mg base T 3 "need_guard" ["value"] G_need_guard) (D0 : DefF K mg "with_guard" s_with_guard (fun _ => True)) : CalD P w K mg base T 5 "with_guard" ["guard", "bits"] G_with_guard := by
  refine cal_D D0 bi_with_guard sc_with_guard rfl fun f c A outer s S H E hco hr tk => ?_
  refine d_scons (d_expr (d_cal c_need_guard rfl tk hr rfl (d_acons (dv 0) d_anil))) ?_
  refine d_scons (d_expr (d_cal c_need_bits rfl tk hr rfl (d_acons (dv 1) (d_acons (d_str (by first | rfl | decide +kernel)) d_anil)))) ?_
  exact d_sone (d_ret (d_cal c_guarded rfl tk hr rfl (d_acons (dv 1) (d_acons (dv 0) d_anil))))
/-! ### _law_refused -/
abbrev s__law_refused : Stmt := top 47
abbrev N__law_refused : List Str := ["pen", "guard", "text", "odd", "bad", "few", "heard"]
theorem sc__law_refused : FnScope N__law_refused ["pen", "guard", "text"] (defScope s__law_refused) := ⟨rfl, rfl, rfl, by decide +kernel, rfl, by decide +kernel, by decide +kernel⟩
theorem bi__law_refused : BindF "_law_refused" s__law_refused ["pen", "guard", "text"] := ⟨fun _ _ _ _ _ _ us hl => match us, hl with | [_, _, _], _ => rfl, fun k1 k2 h => by cases h⟩
def b__law_refused : Ds → SO := (sSeq (sSet 3 (eCallI 0 G__law_pick (aCons (eLst (aCons (eC (.str [])) (aCons (eC (.str [49])) (aCons (eC (.str [48, 49])) (aCons (eC (.str [49, 48])) (aCons (eOp2 gMul (oVal (eC (.str [49]))) (oVal (eC (.int 18)))) (aCons (eC .non) (aCons (eC (.int 11)) (aCons (eLst (aCons (eC (.str [49])) (aCons (eC (.str [49])) aNil))) (aCons (eC (.str [49, 32, 49])) aNil)))))))))) aNil))) (sSeq (sSet 4 (eCallI 0 G__law_pick (aCons (eLst (aCons (eC .non) (aCons (eC (.int 0)) (aCons (eC (.str [48, 49, 50])) (aCons (eC (.str [49, 32])) (aCons (eLst (aCons (eC (.str [48])) aNil)) (aCons (eTup (aCons (eC (.str [49])) aNil)) (aCons (eC (.str [79])) aNil)))))))) aNil))) (sSeq (sSet 5 (eCallI 0 G__law_pick (aCons (eLst (aCons (eLst (aCons (eOp1 gLen (oVar 2)) aNil)) (aCons (eLst (aCons (eOp1 gNeg (oVal (eC (.int 1)))) aNil)) (aCons (eLst (aCons (eC (.int 1)) (aCons (eC (.int 0)) aNil))) (aCons (eLst (aCons (eC (.int 0)) (aCons (eC (.int 0)) aNil))) (aCons (eLst (aCons (eC (.bl true)) aNil)) (aCons (eC .non) (aCons (eC (.str [48])) (aCons (eC (.int 0)) (aCons (eLst (aCons (eC .non) aNil)) (aCons (eLst (aCons (eC (.int 0)) (aCons (eC (.str [49])) aNil))) aNil))))))))))) aNil))) (sSeq (sSet 6 (eLst (aCons (eHeard G__law_heard (eCall G_rest_by (aCons (eVar 3) (aCons (eVar 4) aNil)))) (aCons (eHeard G__law_heard (eCall G_with_guard (aCons (eVar 3) (aCons (eVar 2) aNil)))) aNil)))) (sSeq (sSet 6 (eOp2 gAdd (oVar 6) (oVal (eLst (aCons (eHeard G__law_heard (eCall G_rest_by (aCons (eVar 1) (aCons (eVar 4) aNil)))) (aCons (eHeard G__law_heard (eCall G_with_guard (aCons (eVar 1) (aCons (eVar 4) aNil)))) aNil)))))) (sSeq (sSet 6 (eOp2 gAdd (oVar 6) (oVal (eLst (aCons (eHeard G__law_heard (eCall G_changed (aCons (eVar 4) (aCons (eVar 5) aNil)))) (aCons (eHeard G__law_heard (eCall G_changed (aCons (eVar 2) (aCons (eVar 5) aNil)))) aNil)))))) (sSeq (sIf (tBl (eOp2 gNe (oVar 6) (oVal (eOp2 gAdd (oVal (eOp2 gAdd (oVal (eOp2 gMul (oVal (eLst (aCons (eTup (aCons (eC (.str [98, 105, 116, 115])) (aCons (eC (.str [103, 117, 97, 114, 100])) aNil))) aNil))) (oVal (eC (.int 2))))) (oVal (eOp2 gMul (oVal (eLst (aCons (eTup (aCons (eC (.str [98, 105, 116, 115])) (aCons (eC (.str [98, 105, 116, 115])) aNil))) aNil))) (oVal (eC (.int 3))))))) (oVal (eLst (aCons (eTup (aCons (eC (.str [114, 111, 119])) (aCons (eC (.str [112, 108, 97, 99, 101, 115])) aNil))) aNil))))))) (sRet (eC (.bl false))) sNext) (sRet (eOp2 gEq (oVal (eLst (aCons (eCall G_changed (aCons (eVar 2) (aCons (eLst aNil) aNil))) (aCons (eCall G_changed (aCons (eC (.str [])) (aCons (eTup aNil) aNil))) (aCons (eCall G_rest_by (aCons (eVar 1) (aCons (eC (.str [])) aNil))) aNil))))) (oVal (eLst (aCons (eVar 2) (aCons (eC (.str [])) (aCons (eOp2 gMul (oVal (eC (.str [48]))) (oVal (eOp2 gSub (oVal (eOp1 gLen (oVar 1))) (oVal (eC (.int 1)))))) aNil))))))))))))))
def co__law_refused (base : Heap) (mg : Str → Option Value) (T : List (Addr × Str)) (c : Addr) : Prop := ∃ P, LamX.TabB base mg c P ∧ (P, ("_law_refused.<locals>.<lambda>" : Str)) ∈ T ∧ ∀ p ∈ T, p.1 = P → p.2 = ("_law_refused.<locals>.<lambda>" : Str)
def G__law_refused : D → List D → FIO := mkI 3 N__law_refused b__law_refused
theorem w__law_refused (B : Blt mg) (M : Md P K mg) (c__law_heard : ∀ k, Heard P w K mg base T (k + 1) "_law_heard" "ask" G__law_heard) (c__law_pick : CalI P w K mg base T 2 "_law_pick" G__law_pick) (c_changed : CalD P w K mg base T 4 "changed" ["bits", "places"] G_changed) (c_rest_by : CalD P w K mg base T 4 "rest_by" ["guard", "bits"] G_rest_by) (c_with_guard : CalD P w K mg base T 5 "with_guard" ["guard", "bits"] G_with_guard) (D0 : DefF K mg "_law_refused" s__law_refused (co__law_refused base mg T)) : CalI P w K mg base T 8 "_law_refused" G__law_refused := by
  refine cal_I D0 bi__law_refused sc__law_refused rfl fun f c A outer s S H p E hco hr tk => ?_
  obtain ⟨TP, tbl, tmem, tuniq⟩ := hco
  refine d_scons (d_set sc__law_refused.nd rfl (by first | exact Or.inl rfl | exact Or.inr rfl) (d_calI c__law_pick rfl tk hr rfl (i := 0) rfl (by first | exact Or.inl rfl | exact Or.inr (Or.inl rfl) | exact Or.inr (Or.inr rfl)) (d_acons (d_new (d_lst (d_acons (d_str (by first | rfl | decide +kernel)) (d_acons (d_str (by first | rfl | decide +kernel)) (d_acons (d_str (by first | rfl | decide +kernel)) (d_acons (d_str (by first | rfl | decide +kernel)) (d_acons (d_op op_mulA k_mul (d_oe (d_str (by first | rfl | decide +kernel))) (d_oe d_int)) (d_acons d_non (d_acons d_int (d_acons (d_new (d_lst (d_acons (d_str (by first | rfl | decide +kernel)) (d_acons (d_str (by first | rfl | decide +kernel)) d_anil)))) (d_acons (d_str (by first | rfl | decide +kernel)) d_anil))))))))))) d_anil))) ?_
  refine d_scons (d_set sc__law_refused.nd rfl (by first | exact Or.inl rfl | exact Or.inr rfl) (d_calI c__law_pick rfl tk hr rfl (i := 0) rfl (by first | exact Or.inl rfl | exact Or.inr (Or.inl rfl) | exact Or.inr (Or.inr rfl)) (d_acons (d_new (d_lst (d_acons d_non (d_acons d_int (d_acons (d_str (by first | rfl | decide +kernel)) (d_acons (d_str (by first | rfl | decide +kernel)) (d_acons (d_new (d_lst (d_acons (d_str (by first | rfl | decide +kernel)) d_anil))) (d_acons (d_tup (d_acons (d_str (by first | rfl | decide +kernel)) d_anil)) (d_acons (d_str (by first | rfl | decide +kernel)) d_anil))))))))) d_anil))) ?_
  refine d_scons (d_set sc__law_refused.nd rfl (by first | exact Or.inl rfl | exact Or.inr rfl) (d_calI c__law_pick rfl tk hr rfl (i := 0) rfl (by first | exact Or.inl rfl | exact Or.inr (Or.inl rfl) | exact Or.inr (Or.inr rfl)) (d_acons (d_new (d_lst (d_acons (d_new (d_lst (d_acons (b1_len B rfl (ov 2)) d_anil))) (d_acons (d_new (d_lst (d_acons (d_un un_neg k_neg (d_oe d_int)) d_anil))) (d_acons (d_new (d_lst (d_acons d_int (d_acons d_int d_anil)))) (d_acons (d_new (d_lst (d_acons d_int (d_acons d_int d_anil)))) (d_acons (d_new (d_lst (d_acons d_bl d_anil))) (d_acons d_non (d_acons (d_str (by first | rfl | decide +kernel)) (d_acons d_int (d_acons (d_new (d_lst (d_acons d_non d_anil))) (d_acons (d_new (d_lst (d_acons d_int (d_acons (d_str (by first | rfl | decide +kernel)) d_anil)))) d_anil)))))))))))) d_anil))) ?_
  refine d_scons (d_set sc__law_refused.nd rfl (by first | exact Or.inl rfl | exact Or.inr rfl) (d_new (d_lst (d_acons (d_heard (bs := []) (k := 4) rfl (c__law_heard 4) rfl tbl rfl tmem tuniq (hr.mono (by decide)) (lamB_by (N := N__law_refused) (sc := defScope s__law_refused) rfl rfl (by decide +kernel)) (Or.inl rfl) rfl (fun _ _ _ _ _ _ => rfl) ⟨fun _ => rfl, fun _ h => (by cases h)⟩ (fun _ _ _ _ _ _ _ _ _ hr tkl => (d_cal c_rest_by rfl tkl hr rfl (d_acons (dv 3) (d_acons (dv 4) d_anil))))) (d_acons (d_heard (bs := [("a1" : Str)]) (k := 5) rfl (c__law_heard 5) rfl tbl rfl tmem tuniq (hr.mono (by decide)) (lamB_by (N := N__law_refused) (sc := defScope s__law_refused) rfl rfl (by decide +kernel)) (Or.inr ⟨_, _, _, rfl⟩) rfl (fun _ _ _ _ _ _ _ => ⟨_, rfl, fun _ => rfl⟩) ⟨fun h => (by cases h), fun _ _ => ⟨"a1", rfl⟩⟩ (fun _ _ _ _ _ _ _ _ _ hr tkl => (d_cal c_with_guard rfl tkl hr rfl (d_acons (dv 3) (d_acons (dv 2) d_anil))))) d_anil))))) ?_
  refine d_scons (d_set sc__law_refused.nd rfl (by first | exact Or.inl rfl | exact Or.inr rfl) (d_op op_addA k_add (ov 6) (d_oe (d_new (d_lst (d_acons (d_heard (bs := []) (k := 4) rfl (c__law_heard 4) rfl tbl rfl tmem tuniq (hr.mono (by decide)) (lamB_by (N := N__law_refused) (sc := defScope s__law_refused) rfl rfl (by decide +kernel)) (Or.inl rfl) rfl (fun _ _ _ _ _ _ => rfl) ⟨fun _ => rfl, fun _ h => (by cases h)⟩ (fun _ _ _ _ _ _ _ _ _ hr tkl => (d_cal c_rest_by rfl tkl hr rfl (d_acons (dv 1) (d_acons (dv 4) d_anil))))) (d_acons (d_heard (bs := [("a1" : Str)]) (k := 5) rfl (c__law_heard 5) rfl tbl rfl tmem tuniq (hr.mono (by decide)) (lamB_by (N := N__law_refused) (sc := defScope s__law_refused) rfl rfl (by decide +kernel)) (Or.inr ⟨_, _, _, rfl⟩) rfl (fun _ _ _ _ _ _ _ => ⟨_, rfl, fun _ => rfl⟩) ⟨fun h => (by cases h), fun _ _ => ⟨"a1", rfl⟩⟩ (fun _ _ _ _ _ _ _ _ _ hr tkl => (d_cal c_with_guard rfl tkl hr rfl (d_acons (dv 1) (d_acons (dv 4) d_anil))))) d_anil))))))) ?_
  refine d_scons (d_set sc__law_refused.nd rfl (by first | exact Or.inl rfl | exact Or.inr rfl) (d_op op_addA k_add (ov 6) (d_oe (d_new (d_lst (d_acons (d_heard (bs := []) (k := 4) rfl (c__law_heard 4) rfl tbl rfl tmem tuniq (hr.mono (by decide)) (lamB_by (N := N__law_refused) (sc := defScope s__law_refused) rfl rfl (by decide +kernel)) (Or.inl rfl) rfl (fun _ _ _ _ _ _ => rfl) ⟨fun _ => rfl, fun _ h => (by cases h)⟩ (fun _ _ _ _ _ _ _ _ _ hr tkl => (d_cal c_changed rfl tkl hr rfl (d_acons (dv 4) (d_acons (dv 5) d_anil))))) (d_acons (d_heard (bs := [("a1" : Str)]) (k := 4) rfl (c__law_heard 4) rfl tbl rfl tmem tuniq (hr.mono (by decide)) (lamB_by (N := N__law_refused) (sc := defScope s__law_refused) rfl rfl (by decide +kernel)) (Or.inr ⟨_, _, _, rfl⟩) rfl (fun _ _ _ _ _ _ _ => ⟨_, rfl, fun _ => rfl⟩) ⟨fun h => (by cases h), fun _ _ => ⟨"a1", rfl⟩⟩ (fun _ _ _ _ _ _ _ _ _ hr tkl => (d_cal c_changed rfl tkl hr rfl (d_acons (dv 2) (d_acons (dv 5) d_anil))))) d_anil))))))) ?_
  refine d_scons (d_sif (d_tcmp (op_neA (room_u hr)) k_ne (ov 6) (d_oe (d_op op_addA k_add (d_oe (d_op op_addA k_add (d_oe (d_op op_mulA k_mul (d_oe (d_new (d_lst (d_acons (d_tup (d_acons (d_str (by first | rfl | decide +kernel)) (d_acons (d_str (by first | rfl | decide +kernel)) d_anil))) d_anil)))) (d_oe d_int))) (d_oe (d_op op_mulA k_mul (d_oe (d_new (d_lst (d_acons (d_tup (d_acons (d_str (by first | rfl | decide +kernel)) (d_acons (d_str (by first | rfl | decide +kernel)) d_anil))) d_anil)))) (d_oe d_int))))) (d_oe (d_new (d_lst (d_acons (d_tup (d_acons (d_str (by first | rfl | decide +kernel)) (d_acons (d_str (by first | rfl | decide +kernel)) d_anil))) d_anil)))))) rfl) (d_sone (d_ret d_bl)) d_snil) ?_
  exact d_sone (d_ret (d_cmp (op_eqA (room_u hr)) k_eq (d_oe (d_new (d_lst (d_acons (d_cal c_changed rfl tk hr rfl (d_acons (dv 2) (d_acons (d_new (d_lst d_anil)) d_anil))) (d_acons (d_cal c_changed rfl tk hr rfl (d_acons (d_str (by first | rfl | decide +kernel)) (d_acons (d_tup d_anil) d_anil))) (d_acons (d_cal c_rest_by rfl tk hr rfl (d_acons (dv 1) (d_acons (d_str (by first | rfl | decide +kernel)) d_anil))) d_anil)))))) (d_oe (d_new (d_lst (d_acons (dv 2) (d_acons (d_str (by first | rfl | decide +kernel)) (d_acons (d_op op_mulA k_mul (d_oe (d_str (by first | rfl | decide +kernel))) (d_oe (d_op op_sub k_sub (d_oe (b1_len B rfl (ov 1))) (d_oe d_int)))) d_anil)))))) rfl))
/-! ### _law_rest -/
abbrev s__law_rest : Stmt := top 39
abbrev N__law_rest : List Str := ["bits", "guard", "sign", "left", "at", "k", "bit", "found"]
theorem sc__law_rest : FnScope N__law_rest ["bits", "guard"] (defScope s__law_rest) := ⟨rfl, rfl, rfl, by decide +kernel, rfl, by decide +kernel, by decide +kernel⟩
theorem bi__law_rest : BindF "_law_rest" s__law_rest ["bits", "guard"] := ⟨fun _ _ _ _ _ _ us hl => match us, hl with | [_, _], _ => rfl, fun k1 k2 h => by cases h; intros; rfl⟩
def C1__law_rest : Ds → Out D := (eLc [2] (iAny (eVar 0)) (putSh 2) tYesD (eOp1 gInt (oVal (eOp2 gEq (oVar 2) (oVal (eC (.str [49])))))))
def B2__law_rest : Ds → SO := (sSetIx 3 (eOp2 gMod (oVal (eOp2 gAdd (oVal (eOp2 gIx (oVar 3) (oVal (eOp2 gAdd (oVar 4) (oVar 5))))) (oVal (eOp1 gInt (oVal (eOp2 gEq (oVal (eOp2 gIx (oVar 1) (oVar 5))) (oVal (eC (.str [49]))))))))) (oVal (eC (.int 2)))) (eOp2 gAdd (oVar 4) (oVar 5)))
def F3__law_rest : Ds → SO := (sFor (iRange1 (aCons (eOp1 gLen (oVar 1)) aNil)) (putSh 5) B2__law_rest)
def B4__law_rest : Ds → SO := (sIf (tBl (eOp2 gEq (oVal (eOp2 gIx (oVar 3) (oVar 4))) (oVal (eC (.int 1))))) F3__law_rest sNext)
def F5__law_rest : Ds → SO := (sFor (iRange1 (aCons (eOp2 gAdd (oVal (eOp2 gSub (oVal (eOp1 gLen (oVar 3))) (oVal (eOp1 gLen (oVar 1))))) (oVal (eC (.int 1)))) aNil)) (putSh 4) B4__law_rest)
def C6__law_rest : Ds → Out D := (eLc [6] (iAny (eVar 3)) (putSh 6) tYesD (eOp1 gStrI (oVar 6)))
def b__law_rest : Ds → SO := (sSeq (sNew 3 C1__law_rest) (sSeq F5__law_rest (sSeq (sSet 7 (eM1 gJoin (eC (.str [])) (oVal C6__law_rest))) (sRet (eSl (oVal (eOp2 gAdd (oVal (eOp2 gMul (oVal (eC (.str [48]))) (oVal (eOp1 gLen (oVar 1))))) (oVar 7))) (pSome (eOp2 gAdd (oVal (eOp1 gLen (oVar 7))) (oVal (eC (.int 1))))) pNone)))))
def G__law_rest : List D → FO := mkG 2 N__law_rest b__law_rest
theorem w__law_rest (B : Blt mg) (M : Md P K mg) (D0 : DefF K mg "_law_rest" s__law_rest (fun _ => True)) : CalD P w K mg base T 1 "_law_rest" ["bits", "guard"] G__law_rest := by
  refine cal_D D0 bi__law_rest sc__law_rest rfl fun f c A outer s S H E hco hr tk => ?_
  refine d_scons (by first | exact (d_setLcN rfl sc__law_rest.nd rfl rfl rfl (i_any rfl (dv 0)) (own := [(("sign" : Str), 2)]) (blkOk_by (N := N__law_rest) (sc := defScope s__law_rest) (by decide +kernel)) (fun _ _ _ _ _ _ => (d_gname sc__law_rest.nd rfl (by first | exact Or.inl rfl | exact Or.inr rfl))) (fun _ _ _ _ _ => d_tnil) (fun _ _ _ _ _ _ => (b1_int B (d_oe (d_cmp (op_eqA (room_u hr)) k_eq (ov 2) (d_oe (d_str (by first | rfl | decide +kernel))) rfl))))) | exact (d_setN sc__law_rest.nd rfl (by first | exact Or.inl rfl | exact Or.inr rfl) (d_lc rfl sc__law_rest.nd (i_any rfl (dv 0)) (own := [(("sign" : Str), 2)]) (blkOk_by (N := N__law_rest) (sc := defScope s__law_rest) (by decide +kernel)) (fun _ _ _ _ _ _ => (d_gname sc__law_rest.nd rfl (by first | exact Or.inl rfl | exact Or.inr rfl))) (fun _ _ _ _ _ => d_tnil) (fun _ _ _ _ _ _ => (b1_int B (d_oe (d_cmp (op_eqA (room_u hr)) k_eq (ov 2) (d_oe (d_str (by first | rfl | decide +kernel))) rfl))))))) ?_
  refine d_scons (d_for (passes_of rfl) rfl (i_r1 B (d_acons (d_op op_addA k_add (d_oe (d_op op_sub k_sub (d_oe (b1_len B rfl (ov 3))) (d_oe (b1_len B rfl (ov 1))))) (d_oe d_int)) d_anil)) (d_gname sc__law_rest.nd rfl (by first | exact Or.inl rfl | exact Or.inr rfl)) (d_sone (d_sif (d_tcmp (op_eqA (room_u hr)) k_eq (d_oe (d_ix ix_seq k_ix (ov 3) (ov 4) (fun _ _ => rfl))) (d_oe d_int) rfl) (d_sone (d_for (passes_of rfl) rfl (i_r1 B (d_acons (b1_len B rfl (ov 1)) d_anil)) (d_gname sc__law_rest.nd rfl (by first | exact Or.inl rfl | exact Or.inr rfl)) (d_sone (d_setIx rfl (by first | exact Or.inl rfl | exact Or.inr (Or.inl rfl)) (d_op op_mod k_mod (d_oe (d_op op_addA k_add (d_oe (d_ix ix_seq k_ix (ov 3) (d_oe (d_op op_addA k_add (ov 4) (ov 5))) (fun _ _ => rfl))) (d_oe (b1_int B (d_oe (d_cmp (op_eqA (room_u hr)) k_eq (d_oe (d_ix ix_seq k_ix (ov 1) (ov 5) (fun _ _ => rfl))) (d_oe (d_str (by first | rfl | decide +kernel))) rfl)))))) (d_oe d_int)) (d_op op_addA k_add (ov 4) (ov 5)))))) d_snil))) ?_
  refine d_scons (d_set sc__law_rest.nd rfl (by first | exact Or.inl rfl | exact Or.inr rfl) (d_join rfl (d_str (by first | rfl | decide +kernel)) (d_oe (d_new (d_lc rfl sc__law_rest.nd (i_any rfl (dv 3)) (own := [(("bit" : Str), 6)]) (blkOk_by (N := N__law_rest) (sc := defScope s__law_rest) (by decide +kernel)) (fun _ _ _ _ _ _ => (d_gname sc__law_rest.nd rfl (by first | exact Or.inl rfl | exact Or.inr rfl))) (fun _ _ _ _ _ => d_tnil) (fun _ _ _ _ _ _ => (b1_str B (ov 6)))))))) ?_
  exact d_sone (d_ret (d_sl rfl (d_oe (d_op op_addA k_add (d_oe (d_op op_mulA k_mul (d_oe (d_str (by first | rfl | decide +kernel))) (d_oe (b1_len B rfl (ov 1))))) (ov 7))) (d_psome (d_op op_addA k_add (d_oe (b1_len B rfl (ov 7))) (d_oe d_int))) d_pnone))
/-! ### _law_sum -/
abbrev s__law_sum : Stmt := top 44
abbrev N__law_sum : List Str := ["one", "other", "at"]
theorem sc__law_sum : FnScope N__law_sum ["one", "other"] (defScope s__law_sum) := ⟨rfl, rfl, rfl, by decide +kernel, rfl, by decide +kernel, by decide +kernel⟩
theorem bi__law_sum : BindF "_law_sum" s__law_sum ["one", "other"] := ⟨fun _ _ _ _ _ _ us hl => match us, hl with | [_, _], _ => rfl, fun k1 k2 h => by cases h; intros; rfl⟩
def C1__law_sum : Ds → Out D := (eLc [2] (iRange1 (aCons (eOp1 gLen (oVar 0)) aNil)) (putSh 2) tYesD (eOp2 gIx (oVal (eC (.str [48, 49]))) (oVal (eOp1 gInt (oVal (eOp2 gNe (oVal (eOp2 gIx (oVar 0) (oVar 2))) (oVal (eOp2 gIx (oVar 1) (oVar 2)))))))))
def b__law_sum : Ds → SO := (sRet (eM1 gJoin (eC (.str [])) (oVal C1__law_sum)))
def G__law_sum : List D → FO := mkG 2 N__law_sum b__law_sum
theorem w__law_sum (B : Blt mg) (M : Md P K mg) (D0 : DefF K mg "_law_sum" s__law_sum (fun _ => True)) : CalD P w K mg base T 1 "_law_sum" ["one", "other"] G__law_sum := by
  refine cal_D D0 bi__law_sum sc__law_sum rfl fun f c A outer s S H E hco hr tk => ?_
  exact d_sone (d_ret (d_join rfl (d_str (by first | rfl | decide +kernel)) (d_oe (d_new (d_lc rfl sc__law_sum.nd (i_r1 B (d_acons (b1_len B rfl (ov 0)) d_anil)) (own := [(("at" : Str), 2)]) (blkOk_by (N := N__law_sum) (sc := defScope s__law_sum) (by decide +kernel)) (fun _ _ _ _ _ _ => (d_gname sc__law_sum.nd rfl (by first | exact Or.inl rfl | exact Or.inr rfl))) (fun _ _ _ _ _ => d_tnil) (fun _ _ _ _ _ _ => (d_ix ix_seq k_ix (d_oe (d_str (by first | rfl | decide +kernel))) (d_oe (b1_int B (d_oe (d_cmp (op_neA (room_u hr)) k_ne (d_oe (d_ix ix_seq k_ix (ov 0) (ov 2) (fun _ _ => rfl))) (d_oe (d_ix ix_seq k_ix (ov 1) (ov 2) (fun _ _ => rfl))) rfl)))) (fun _ _ => rfl))))))))
/-! ### _law_with_guard -/
abbrev s__law_with_guard : Stmt := top 40
abbrev N__law_with_guard : List Str := ["bits", "guard"]
theorem sc__law_with_guard : FnScope N__law_with_guard ["bits", "guard"] (defScope s__law_with_guard) := ⟨rfl, rfl, rfl, by decide +kernel, rfl, by decide +kernel, by decide +kernel⟩
theorem bi__law_with_guard : BindF "_law_with_guard" s__law_with_guard ["bits", "guard"] := ⟨fun _ _ _ _ _ _ us hl => match us, hl with | [_, _], _ => rfl, fun k1 k2 h => by cases h; intros; rfl⟩
def b__law_with_guard : Ds → SO := (sRet (eOp2 gAdd (oVar 0) (oVal (eCall G__law_rest (aCons (eOp2 gAdd (oVar 0) (oVal (eOp2 gMul (oVal (eC (.str [48]))) (oVal (eOp2 gSub (oVal (eOp1 gLen (oVar 1))) (oVal (eC (.int 1)))))))) (aCons (eVar 1) aNil))))))
def G__law_with_guard : List D → FO := mkG 2 N__law_with_guard b__law_with_guard
theorem w__law_with_guard (B : Blt mg) (M : Md P K mg) (c__law_rest : CalD P w K mg base T 1 "_law_rest" ["bits", "guard"] G__law_rest) (D0 : DefF K mg "_law_with_guard" s__law_with_guard (fun _ => True)) : CalD P w K mg base T 2 "_law_with_guard" ["bits", "guard"] G__law_with_guard := by
  refine cal_D D0 bi__law_with_guard sc__law_with_guard rfl fun f c A outer s S H E hco hr tk => ?_
  exact d_sone (d_ret (d_op op_addA k_add (ov 0) (d_oe (d_cal c__law_rest rfl tk hr rfl (d_acons (d_op op_addA k_add (ov 0) (d_oe (d_op op_mulA k_mul (d_oe (d_str (by first | rfl | decide +kernel))) (d_oe (d_op op_sub k_sub (d_oe (b1_len B rfl (ov 1))) (d_oe d_int)))))) (d_acons (dv 1) d_anil))))))
/-! ### _law_right -/
abbrev s__law_right : Stmt := top 46
abbrev N__law_right : List Str := ["pen", "guard", "degree", "bits", "text", "at", "places", "zeros", "other", "near", "k", "laid", "wide", "is_laid", "some", "seen"]
theorem sc__law_right : FnScope N__law_right ["pen"] (defScope s__law_right) := ⟨rfl, rfl, rfl, by decide +kernel, rfl, by decide +kernel, by decide +kernel⟩
theorem bi__law_right : BindF "_law_right" s__law_right ["pen"] := ⟨fun _ _ _ _ _ _ us hl => match us, hl with | [_], _ => rfl, fun k1 k2 h => by cases h⟩
def C1__law_right : Ds → Out D := (eLc [5] (iRange1 (aCons (eOp1 gLen (oVar 4)) aNil)) (putSh 5) (tBl (eOp2 gEq (oVal (eCallI 0 G__law_draw (aCons (eC (.int 4)) aNil))) (oVal (eC (.int 0))))) (eVar 5))
def C2__law_right : Ds → Out D := (eLc [10] (iRange1 (aCons (eOp2 gAdd (oVar 2) (oVal (eC (.int 1)))) aNil)) (putSh 10) (tBl (eOp2 gEq (oVal (eOp2 gIx (oVar 1) (oVar 10))) (oVal (eC (.str [49]))))) (eOp2 gAdd (oVar 5) (oVar 10)))
def C3__law_right : Ds → Out D := (eLc [10] (iRange1 (aCons (eOp2 gAdd (oVar 2) (oVal (eC (.int 1)))) aNil)) (putSh 10) (tBl (eOp2 gEq (oVal (eOp2 gIx (oVar 1) (oVar 10))) (oVal (eC (.str [49]))))) (eOp2 gAdd (oVal (eOp2 gIx (oVar 12) (oVal (eC (.int 0))))) (oVar 10)))
def C4__law_right : Ds → Out D := (eLc [14] (iAny (eTup (aCons (eVar 11) (aCons (eVar 12) aNil)))) (putSh 14) tYesD (eOp2 gIn (oVal (eC (.str [49]))) (oVal (eCall G_rest_by (aCons (eVar 1) (aCons (eCall G_changed (aCons (eVar 4) (aCons (eVar 14) aNil))) aNil))))))
def b__law_right : Ds → SO := (sSeq (sSet 1 (eCallI 0 G__law_guard aNil)) (sSeq (sSet 2 (eOp2 gSub (oVal (eOp1 gLen (oVar 1))) (oVal (eC (.int 1))))) (sSeq (sSet 3 (eCallI 0 G__law_bits (aCons (eCallI 0 G__law_pick (aCons (eLst (aCons (eC (.int 0)) (aCons (eC (.int 1)) (aCons (eVar 2) (aCons (eOp2 gAdd (oVar 2) (oVal (eC (.int 1)))) (aCons (eC (.int 40)) (aCons (eCallI 0 G__law_draw (aCons (eC (.int 90)) aNil)) aNil))))))) aNil)) aNil))) (sSeq (sIf (tOrD (tBl (eOp2 gNe (oVal (eCall G_rest_by (aCons (eVar 1) (aCons (eVar 3) aNil)))) (oVal (eCall G__law_rest (aCons (eVar 3) (aCons (eVar 1) aNil)))))) (tBl (eOp2 gNe (oVal (eCallK G_with_guard (eVar 3) (eVar 1))) (oVal (eCall G__law_with_guard (aCons (eVar 3) (aCons (eVar 1) aNil))))))) (sRet (eC (.bl false))) sNext) (sSeq (sSet 4 (eCall G_with_guard (aCons (eVar 1) (aCons (eOp2 gAdd (oVar 3) (oVal (eC (.str [49])))) aNil)))) (sSeq (sIf (tOrD (tBl (eOp2 gNe (oVal (eCall G_rest_by (aCons (eVar 1) (aCons (eVar 4) aNil)))) (oVal (eOp2 gMul (oVal (eC (.str [48]))) (oVar 2))))) (tBl (eOp2 gNe (oVal (eOp1 gLen (oVar 4))) (oVal (eOp2 gAdd (oVal (eOp2 gAdd (oVal (eOp1 gLen (oVar 3))) (oVal (eC (.int 1))))) (oVar 2)))))) (sRet (eC (.bl false))) sNext) (sSeq (sSet 6 (eOp1 gSorted (oVal C1__law_right))) (sSeq (sSet 7 (eOp2 gMul (oVal (eC (.str [48]))) (oVal (eOp1 gLen (oVar 4))))) (sSeq (sSet 8 (eCall G_changed (aCons (eVar 4) (aCons (eOp1 gTuple (oVar 6)) aNil)))) (sSeq (sIf (tOrD (tBl (eOp2 gNe (oVar 8) (oVal (eCall G__law_change (aCons (eVar 4) (aCons (eVar 6) aNil)))))) (tBl (eOp2 gNe (oVal (eCall G_rest_by (aCons (eVar 1) (aCons (eVar 8) aNil)))) (oVal (eCall G_rest_by (aCons (eVar 1) (aCons (eCall G_changed (aCons (eVar 7) (aCons (eVar 6) aNil))) aNil))))))) (sRet (eC (.bl false))) sNext) (sSeq (sIf (tBl (eOp2 gNe (oVal (eCall G_rest_by (aCons (eVar 1) (aCons (eCall G__law_change (aCons (eOp2 gAdd (oVar 3) (oVal (eC (.str [49])))) (aCons (eLst (aCons (eC (.int 0)) aNil)) aNil))) aNil)))) (oVal (eCall G__law_sum (aCons (eCall G_rest_by (aCons (eVar 1) (aCons (eOp2 gAdd (oVar 3) (oVal (eC (.str [49])))) aNil))) (aCons (eCall G_rest_by (aCons (eVar 1) (aCons (eOp2 gAdd (oVal (eC (.str [49]))) (oVal (eOp2 gMul (oVal (eC (.str [48]))) (oVal (eOp1 gLen (oVar 3)))))) aNil))) aNil)))))) (sRet (eC (.bl false))) sNext) (sSeq (sSet 9 (eCallI 0 G__law_places (aCons (eOp1 gLen (oVar 4)) (aCons (eVar 2) aNil)))) (sSeq (sIf (tOrD (tBl (eOp2 gNe (oVal (eCallK G_changed (eVar 9) (eVar 4))) (oVal (eCall G__law_change (aCons (eVar 4) (aCons (eVar 9) aNil)))))) (tBl (eOp2 gNotIn (oVal (eC (.str [49]))) (oVal (eCall G_rest_by (aCons (eVar 1) (aCons (eCall G_changed (aCons (eVar 4) (aCons (eVar 9) aNil))) aNil))))))) (sRet (eC (.bl false))) sNext) (sSeq (sSet 5 (eCallI 0 G__law_draw (aCons (eOp2 gSub (oVal (eOp1 gLen (oVar 4))) (oVar 2)) aNil))) (sSeq (sNew 11 C2__law_right) (sSeq (sSet 12 (eCallI 0 G__law_places (aCons (eOp1 gLen (oVar 4)) (aCons (eOp2 gAdd (oVar 2) (oVal (eC (.int 1)))) aNil)))) (sSeq (sSet 13 (eOp2 gEq (oVar 12) (oVal C3__law_right))) (sSeq (sNew 15 C4__law_right) (sRet (eAndD (eOp2 gEq (oVar 15) (oVal (eLst (aCons (eC (.bl false)) (aCons (eNotD (eVar 13)) aNil))))) (eCallI 0 G__law_refused (aCons (eVar 1) (aCons (eVar 4) aNil)))))))))))))))))))))))
def G__law_right : D → List D → FIO := mkI 1 N__law_right b__law_right
theorem w__law_right (B : Blt mg) (M : Md P K mg) (c__law_bits : CalI P w K mg base T 3 "_law_bits" G__law_bits) (c__law_change : CalD P w K mg base T 1 "_law_change" ["bits", "places"] G__law_change) (c__law_draw : CalI P w K mg base T 1 "_law_draw" G__law_draw) (c__law_guard : CalI P w K mg base T 3 "_law_guard" G__law_guard) (c__law_pick : CalI P w K mg base T 2 "_law_pick" G__law_pick) (c__law_places : CalI P w K mg base T 2 "_law_places" G__law_places) (c__law_refused : CalI P w K mg base T 8 "_law_refused" G__law_refused) (c__law_rest : CalD P w K mg base T 1 "_law_rest" ["bits", "guard"] G__law_rest) (c__law_sum : CalD P w K mg base T 1 "_law_sum" ["one", "other"] G__law_sum) (c__law_with_guard : CalD P w K mg base T 2 "_law_with_guard" ["bits", "guard"] G__law_with_guard) (c_changed : CalD P w K mg base T 4 "changed" ["bits", "places"] G_changed) (c_rest_by : CalD P w K mg base T 4 "rest_by" ["guard", "bits"] G_rest_by) (c_with_guard : CalD P w K mg base T 5 "with_guard" ["guard", "bits"] G_with_guard) (D0 : DefF K mg "_law_right" s__law_right (fun _ => True)) : CalI P w K mg base T 9 "_law_right" G__law_right := by
  refine cal_I D0 bi__law_right sc__law_right rfl fun f c A outer s S H p E hco hr tk => ?_
  refine d_scons (d_set sc__law_right.nd rfl (by first | exact Or.inl rfl | exact Or.inr rfl) (d_calI c__law_guard rfl tk hr rfl (i := 0) rfl (by first | exact Or.inl rfl | exact Or.inr (Or.inl rfl) | exact Or.inr (Or.inr rfl)) d_anil)) ?_
  refine d_scons (d_set sc__law_right.nd rfl (by first | exact Or.inl rfl | exact Or.inr rfl) (d_op op_sub k_sub (d_oe (b1_len B rfl (ov 1))) (d_oe d_int))) ?_
  refine d_scons (d_set sc__law_right.nd rfl (by first | exact Or.inl rfl | exact Or.inr rfl) (d_calI c__law_bits rfl tk hr rfl (i := 0) rfl (by first | exact Or.inl rfl | exact Or.inr (Or.inl rfl) | exact Or.inr (Or.inr rfl)) (d_acons (d_calI c__law_pick rfl tk hr rfl (i := 0) rfl (by first | exact Or.inl rfl | exact Or.inr (Or.inl rfl) | exact Or.inr (Or.inr rfl)) (d_acons (d_new (d_lst (d_acons d_int (d_acons d_int (d_acons (dv 2) (d_acons (d_op op_addA k_add (ov 2) (d_oe d_int)) (d_acons d_int (d_acons (d_calI c__law_draw rfl tk hr rfl (i := 0) rfl (by first | exact Or.inl rfl | exact Or.inr (Or.inl rfl) | exact Or.inr (Or.inr rfl)) (d_acons d_int d_anil)) d_anil)))))))) d_anil)) d_anil))) ?_
  refine d_scons (d_sif (d_tw (d_wor (d_tcmp (op_neA (room_u hr)) k_ne (d_oe (d_cal c_rest_by rfl tk hr rfl (d_acons (dv 1) (d_acons (dv 3) d_anil)))) (d_oe (d_cal c__law_rest rfl tk hr rfl (d_acons (dv 3) (d_acons (dv 1) d_anil)))) rfl) (d_wor1 (d_tcmp (op_neA (room_u hr)) k_ne (d_oe (d_calK c_with_guard rfl rfl tk hr rfl (dv 3) (dv 1))) (d_oe (d_cal c__law_with_guard rfl tk hr rfl (d_acons (dv 3) (d_acons (dv 1) d_anil)))) rfl)))) (d_sone (d_ret d_bl)) d_snil) ?_
  refine d_scons (d_set sc__law_right.nd rfl (by first | exact Or.inl rfl | exact Or.inr rfl) (d_cal c_with_guard rfl tk hr rfl (d_acons (dv 1) (d_acons (d_op op_addA k_add (ov 3) (d_oe (d_str (by first | rfl | decide +kernel)))) d_anil)))) ?_
  refine d_scons (d_sif (d_tw (d_wor (d_tcmp (op_neA (room_u hr)) k_ne (d_oe (d_cal c_rest_by rfl tk hr rfl (d_acons (dv 1) (d_acons (dv 4) d_anil)))) (d_oe (d_op op_mulA k_mul (d_oe (d_str (by first | rfl | decide +kernel))) (ov 2))) rfl) (d_wor1 (d_tcmp (op_neA (room_u hr)) k_ne (d_oe (b1_len B rfl (ov 4))) (d_oe (d_op op_addA k_add (d_oe (d_op op_addA k_add (d_oe (b1_len B rfl (ov 3))) (d_oe d_int))) (ov 2))) rfl)))) (d_sone (d_ret d_bl)) d_snil) ?_
  refine d_scons (d_set sc__law_right.nd rfl (by first | exact Or.inl rfl | exact Or.inr rfl) (b1_sorted B rfl (d_oe (d_new (d_lc rfl sc__law_right.nd (i_r1 B (d_acons (b1_len B rfl (ov 4)) d_anil)) (own := [(("at" : Str), 5)]) (blkOk_by (N := N__law_right) (sc := defScope s__law_right) (by decide +kernel)) (fun _ _ _ _ _ _ => (d_gname sc__law_right.nd rfl (by first | exact Or.inl rfl | exact Or.inr rfl))) (fun _ _ _ _ _ => (d_tone (fun _ => (d_tcmp (op_eqA (room_u hr)) k_eq (d_oe (d_calI c__law_draw rfl LamX.takes0 hr rfl (i := 0) rfl (by first | exact Or.inl rfl | exact Or.inr (Or.inl rfl) | exact Or.inr (Or.inr rfl)) (d_acons d_int d_anil))) (d_oe d_int) rfl)))) (fun _ _ _ _ _ _ => (dv 5))))))) ?_
  refine d_scons (d_set sc__law_right.nd rfl (by first | exact Or.inl rfl | exact Or.inr rfl) (d_op op_mulA k_mul (d_oe (d_str (by first | rfl | decide +kernel))) (d_oe (b1_len B rfl (ov 4))))) ?_
  refine d_scons (d_set sc__law_right.nd rfl (by first | exact Or.inl rfl | exact Or.inr rfl) (d_cal c_changed rfl tk hr rfl (d_acons (dv 4) (d_acons (b1_tuple B rfl (ov 6)) d_anil)))) ?_
  refine d_scons (d_sif (d_tw (d_wor (d_tcmp (op_neA (room_u hr)) k_ne (ov 8) (d_oe (d_cal c__law_change rfl tk hr rfl (d_acons (dv 4) (d_acons (dv 6) d_anil)))) rfl) (d_wor1 (d_tcmp (op_neA (room_u hr)) k_ne (d_oe (d_cal c_rest_by rfl tk hr rfl (d_acons (dv 1) (d_acons (dv 8) d_anil)))) (d_oe (d_cal c_rest_by rfl tk hr rfl (d_acons (dv 1) (d_acons (d_cal c_changed rfl tk hr rfl (d_acons (dv 7) (d_acons (dv 6) d_anil))) d_anil)))) rfl)))) (d_sone (d_ret d_bl)) d_snil) ?_
  refine d_scons (d_sif (d_tcmp (op_neA (room_u hr)) k_ne (d_oe (d_cal c_rest_by rfl tk hr rfl (d_acons (dv 1) (d_acons (d_cal c__law_change rfl tk hr rfl (d_acons (d_op op_addA k_add (ov 3) (d_oe (d_str (by first | rfl | decide +kernel)))) (d_acons (d_new (d_lst (d_acons d_int d_anil))) d_anil))) d_anil)))) (d_oe (d_cal c__law_sum rfl tk hr rfl (d_acons (d_cal c_rest_by rfl tk hr rfl (d_acons (dv 1) (d_acons (d_op op_addA k_add (ov 3) (d_oe (d_str (by first | rfl | decide +kernel)))) d_anil))) (d_acons (d_cal c_rest_by rfl tk hr rfl (d_acons (dv 1) (d_acons (d_op op_addA k_add (d_oe (d_str (by first | rfl | decide +kernel))) (d_oe (d_op op_mulA k_mul (d_oe (d_str (by first | rfl | decide +kernel))) (d_oe (b1_len B rfl (ov 3)))))) d_anil))) d_anil)))) rfl) (d_sone (d_ret d_bl)) d_snil) ?_
  refine d_scons (d_set sc__law_right.nd rfl (by first | exact Or.inl rfl | exact Or.inr rfl) (d_calI c__law_places rfl tk hr rfl (i := 0) rfl (by first | exact Or.inl rfl | exact Or.inr (Or.inl rfl) | exact Or.inr (Or.inr rfl)) (d_acons (b1_len B rfl (ov 4)) (d_acons (dv 2) d_anil)))) ?_
  refine d_scons (d_sif (d_tw (d_wor (d_tcmp (op_neA (room_u hr)) k_ne (d_oe (d_calK c_changed rfl rfl tk hr rfl (dv 9) (dv 4))) (d_oe (d_cal c__law_change rfl tk hr rfl (d_acons (dv 4) (d_acons (dv 9) d_anil)))) rfl) (d_wor1 (d_tcmp op_notInA k_notIn (d_oe (d_str (by first | rfl | decide +kernel))) (d_oe (d_cal c_rest_by rfl tk hr rfl (d_acons (dv 1) (d_acons (d_cal c_changed rfl tk hr rfl (d_acons (dv 4) (d_acons (dv 9) d_anil))) d_anil)))) rfl)))) (d_sone (d_ret d_bl)) d_snil) ?_
  refine d_scons (d_set sc__law_right.nd rfl (by first | exact Or.inl rfl | exact Or.inr rfl) (d_calI c__law_draw rfl tk hr rfl (i := 0) rfl (by first | exact Or.inl rfl | exact Or.inr (Or.inl rfl) | exact Or.inr (Or.inr rfl)) (d_acons (d_op op_sub k_sub (d_oe (b1_len B rfl (ov 4))) (ov 2)) d_anil))) ?_
  refine d_scons (by first | exact (d_setLcN rfl sc__law_right.nd rfl rfl rfl (i_r1 B (d_acons (d_op op_addA k_add (ov 2) (d_oe d_int)) d_anil)) (own := [(("k" : Str), 10)]) (blkOk_by (N := N__law_right) (sc := defScope s__law_right) (by decide +kernel)) (fun _ _ _ _ _ _ => (d_gname sc__law_right.nd rfl (by first | exact Or.inl rfl | exact Or.inr rfl))) (fun _ _ _ _ _ => (d_tone (fun _ => (d_tcmp (op_eqA (room_u hr)) k_eq (d_oe (d_ix ix_seq k_ix (ov 1) (ov 10) (fun _ _ => rfl))) (d_oe (d_str (by first | rfl | decide +kernel))) rfl)))) (fun _ _ _ _ _ _ => (d_op op_addA k_add (ov 5) (ov 10)))) | exact (d_setN sc__law_right.nd rfl (by first | exact Or.inl rfl | exact Or.inr rfl) (d_lc rfl sc__law_right.nd (i_r1 B (d_acons (d_op op_addA k_add (ov 2) (d_oe d_int)) d_anil)) (own := [(("k" : Str), 10)]) (blkOk_by (N := N__law_right) (sc := defScope s__law_right) (by decide +kernel)) (fun _ _ _ _ _ _ => (d_gname sc__law_right.nd rfl (by first | exact Or.inl rfl | exact Or.inr rfl))) (fun _ _ _ _ _ => (d_tone (fun _ => (d_tcmp (op_eqA (room_u hr)) k_eq (d_oe (d_ix ix_seq k_ix (ov 1) (ov 10) (fun _ _ => rfl))) (d_oe (d_str (by first | rfl | decide +kernel))) rfl)))) (fun _ _ _ _ _ _ => (d_op op_addA k_add (ov 5) (ov 10)))))) ?_
  refine d_scons (d_set sc__law_right.nd rfl (by first | exact Or.inl rfl | exact Or.inr rfl) (d_calI c__law_places rfl tk hr rfl (i := 0) rfl (by first | exact Or.inl rfl | exact Or.inr (Or.inl rfl) | exact Or.inr (Or.inr rfl)) (d_acons (b1_len B rfl (ov 4)) (d_acons (d_op op_addA k_add (ov 2) (d_oe d_int)) d_anil)))) ?_
  refine d_scons (d_set sc__law_right.nd rfl (by first | exact Or.inl rfl | exact Or.inr rfl) (d_cmp (op_eqA (room_u hr)) k_eq (ov 12) (d_oe (d_new (d_lc rfl sc__law_right.nd (i_r1 B (d_acons (d_op op_addA k_add (ov 2) (d_oe d_int)) d_anil)) (own := [(("k" : Str), 10)]) (blkOk_by (N := N__law_right) (sc := defScope s__law_right) (by decide +kernel)) (fun _ _ _ _ _ _ => (d_gname sc__law_right.nd rfl (by first | exact Or.inl rfl | exact Or.inr rfl))) (fun _ _ _ _ _ => (d_tone (fun _ => (d_tcmp (op_eqA (room_u hr)) k_eq (d_oe (d_ix ix_seq k_ix (ov 1) (ov 10) (fun _ _ => rfl))) (d_oe (d_str (by first | rfl | decide +kernel))) rfl)))) (fun _ _ _ _ _ _ => (d_op op_addA k_add (d_oe (d_ix ix_seq k_ix (ov 12) (d_oe d_int) (fun _ _ => rfl))) (ov 10)))))) rfl)) ?_
  refine d_scons (by first | exact (d_setLcN rfl sc__law_right.nd rfl rfl rfl (i_any rfl (d_tup (d_acons (dv 11) (d_acons (dv 12) d_anil)))) (own := [(("some" : Str), 14)]) (blkOk_by (N := N__law_right) (sc := defScope s__law_right) (by decide +kernel)) (fun _ _ _ _ _ _ => (d_gname sc__law_right.nd rfl (by first | exact Or.inl rfl | exact Or.inr rfl))) (fun _ _ _ _ _ => d_tnil) (fun _ _ _ _ _ _ => (d_cmp op_inA k_in (d_oe (d_str (by first | rfl | decide +kernel))) (d_oe (d_cal c_rest_by rfl LamX.takes0 hr rfl (d_acons (dv 1) (d_acons (d_cal c_changed rfl LamX.takes0 hr rfl (d_acons (dv 4) (d_acons (dv 14) d_anil))) d_anil)))) rfl))) | exact (d_setN sc__law_right.nd rfl (by first | exact Or.inl rfl | exact Or.inr rfl) (d_lc rfl sc__law_right.nd (i_any rfl (d_tup (d_acons (dv 11) (d_acons (dv 12) d_anil)))) (own := [(("some" : Str), 14)]) (blkOk_by (N := N__law_right) (sc := defScope s__law_right) (by decide +kernel)) (fun _ _ _ _ _ _ => (d_gname sc__law_right.nd rfl (by first | exact Or.inl rfl | exact Or.inr rfl))) (fun _ _ _ _ _ => d_tnil) (fun _ _ _ _ _ _ => (d_cmp op_inA k_in (d_oe (d_str (by first | rfl | decide +kernel))) (d_oe (d_cal c_rest_by rfl LamX.takes0 hr rfl (d_acons (dv 1) (d_acons (d_cal c_changed rfl LamX.takes0 hr rfl (d_acons (dv 4) (d_acons (dv 14) d_anil))) d_anil)))) rfl))))) ?_
  exact d_sone (d_ret (d_and (d_cmp (op_eqA (room_u hr)) k_eq (ov 15) (d_oe (d_new (d_lst (d_acons d_bl (d_acons (d_not (dv 13)) d_anil))))) rfl) (d_one (d_calI c__law_refused rfl tk hr rfl (i := 0) rfl (by first | exact Or.inl rfl | exact Or.inr (Or.inl rfl) | exact Or.inr (Or.inr rfl)) (d_acons (dv 1) (d_acons (dv 4) d_anil))))))
/-! ### law -/
abbrev s_law : Stmt := top 48
abbrev N_law : List Str := ["script", "pen", "turn"]
theorem sc_law : FnScope N_law ["script"] (defScope s_law) := ⟨rfl, rfl, rfl, by decide +kernel, rfl, by decide +kernel, by decide +kernel⟩
theorem bi_law : BindF "law" s_law ["script"] := ⟨fun _ _ _ _ _ _ us hl => match us, hl with | [_], _ => rfl, fun k1 k2 h => by cases h⟩
def B1_law : Ds → SO := (sIf (tNotD (tBl (eCallI 1 G__law_right aNil))) (sRet (eC (.bl false))) sNext)
def F2_law : Ds → SO := (sFor (iRange1 (aCons (eC (.int 4)) aNil)) (putSh 2) B1_law)
def b_law : Ds → SO := (sSeq (sNew 1 (eCall G__law_pen (aCons (eVar 0) aNil))) (sSeq F2_law (sRet (eC (.bl true)))))
def G_law : List D → FO := mkG 1 N_law b_law
theorem w_law (B : Blt mg) (M : Md P K mg) (c__law_pen : CalN P w K mg base T 1 "_law_pen" G__law_pen) (c__law_right : CalI P w K mg base T 9 "_law_right" G__law_right) (D0 : DefF K mg "law" s_law (fun _ => True)) : CalD P w K mg base T 10 "law" ["script"] G_law := by
  refine cal_D D0 bi_law sc_law rfl fun f c A outer s S H E hco hr tk => ?_
  refine d_scons (d_setN sc_law.nd rfl (by first | exact Or.inl rfl | exact Or.inr rfl) (d_calN c__law_pen rfl tk hr rfl (d_acons (dv 0) d_anil))) ?_
  refine d_scons (d_for (passes_of rfl) rfl (i_r1 B (d_acons d_int d_anil)) (d_gname sc_law.nd rfl (by first | exact Or.inl rfl | exact Or.inr rfl)) (d_sone (d_sif (d_tnot (d_tv (d_calI c__law_right rfl tk hr rfl (i := 1) rfl (by first | exact Or.inl rfl | exact Or.inr (Or.inl rfl) | exact Or.inr (Or.inr rfl)) d_anil))) (d_sone (d_ret d_bl)) d_snil))) ?_
  exact d_sone (d_ret d_bl)
end T76

set_option Elab.async false
set_option linter.all false
set_option maxRecDepth 10000
set_option maxHeartbeats 1000000
/-! M76: guards as plain mathematics: the rest of a list of bits by a guard, as a register that is moved on bit by bit. -/
namespace Crc
abbrev Bs := List Bool
def xl (a b : Bs) : Bs := List.zipWith (fun x y => x ^^ y) a b
def zs (n : Nat) : Bs := List.replicate n false
theorem xl_len (a b : Bs) (h : a.length = b.length) : (xl a b).length = a.length := by unfold xl; rw [List.length_zipWith, h]; omega
theorem xl_self : ∀ a : Bs, xl a a = zs a.length
  | [] => rfl
  | x :: r => by
    have := xl_self r
    unfold xl zs at *
    rw [List.zipWith_cons_cons, this, List.length_cons, List.replicate_succ]
    cases x <;> rfl
theorem xl_zero : ∀ (a : Bs) (n : Nat), a.length = n → xl a (zs n) = a
  | [], _, _ => by unfold xl; simp
  | x :: r, n, h => by
    subst h
    have := xl_zero r r.length rfl
    unfold xl zs at *
    rw [List.length_cons, List.replicate_succ, List.zipWith_cons_cons, this]
    cases x <;> rfl
theorem xl_comm : ∀ a b : Bs, xl a b = xl b a
  | [], [] => rfl
  | [], _ :: _ => rfl
  | _ :: _, [] => rfl
  | x :: a, y :: b => by
    have := xl_comm a b
    unfold xl at *
    rw [List.zipWith_cons_cons, List.zipWith_cons_cons, this, Bool.xor_comm]
theorem xl_assoc : ∀ a b c : Bs, xl (xl a b) c = xl a (xl b c)
  | [], _, _ => by unfold xl; simp
  | _ :: _, [], _ => by unfold xl; simp
  | _ :: _, _ :: _, [] => by unfold xl; simp
  | x :: a, y :: b, z :: c => by
    have := xl_assoc a b c
    unfold xl at *
    simp only [List.zipWith_cons_cons, this, Bool.xor_assoc]
theorem zero_xl (a : Bs) (n : Nat) (h : a.length = n) : xl (zs n) a = a := by rw [xl_comm]; exact xl_zero a n h
theorem xl_app {a b c d : Bs} (h : a.length = b.length) : xl (a ++ c) (b ++ d) = xl a b ++ xl c d := List.zipWith_append h
/-- a xor g xor g = a -/
theorem xl_back {a g : Bs} (h : a.length = g.length) : xl (xl a g) g = a := by
  rw [xl_assoc, xl_self]
  exact xl_zero a _ h
/-- the register moved on by one bit; gt: the guard without its first bit -/
def step (gt : Bs) (r : Bs) (b : Bool) : Bs := match r ++ [b] with
  | [] => []
  | h :: t => if h then xl t gt else t
def run (gt : Bs) (r : Bs) (m : Bs) : Bs := m.foldl (step gt) r
theorem step_nil (gt : Bs) (b : Bool) : step gt [] b = if b then xl [] gt else [] := rfl
theorem step_cons (gt : Bs) (h : Bool) (t : Bs) (b : Bool) : step gt (h :: t) b = if h then xl (t ++ [b]) gt else t ++ [b] := rfl
theorem step_len {gt r : Bs} {b : Bool} (h : gt.length = r.length) : (step gt r b).length = r.length := by
  cases r with
  | nil => rw [step_nil]; split <;> simp [xl]
  | cons x t =>
    rw [step_cons]
    split
    · rw [xl_len _ _ (by simpa using h.symm)]; simp
    · simp
theorem run_len {gt : Bs} : ∀ (m r : Bs), gt.length = r.length → (run gt r m).length = r.length
  | [], _, _ => rfl
  | b :: m, r, h => by
    show (run gt (step gt r b) m).length = _
    rw [run_len m _ (by rw [step_len h]; exact h), step_len h]
theorem run_app (gt r m n : Bs) : run gt r (m ++ n) = run gt (run gt r m) n := List.foldl_append
theorem step_lin {gt r s : Bs} {b c : Bool} (hr : r.length = s.length) (hg : gt.length = r.length) : step gt (xl r s) (b ^^ c) = xl (step gt r b) (step gt s c) := by
  cases r with
  | nil =>
    cases s with
    | cons _ _ => cases hr
    | nil =>
      have : gt = [] := List.eq_nil_of_length_eq_zero hg
      subst this
      show step [] [] _ = _
      rw [step_nil, step_nil, step_nil]
      cases b <;> cases c <;> rfl
  | cons x t =>
    cases s with
    | nil => cases hr
    | cons y u =>
      have hl : t.length = u.length := by simpa using hr
      have e1 : xl (x :: t) (y :: u) = (x ^^ y) :: xl t u := rfl
      have e2 : xl t u ++ [b ^^ c] = xl (t ++ [b]) (u ++ [c]) := by rw [xl_app hl]; rfl
      rw [e1, step_cons, step_cons, step_cons, e2]
      have l1 : (t ++ [b]).length = gt.length := by rw [hg]; simp
      have l2 : (u ++ [c]).length = gt.length := by rw [hg]; simp [hl]
      generalize t ++ [b] = p at *
      generalize u ++ [c] = q at *
      have l3 : (xl p q).length = gt.length := by rw [xl_len _ _ (l1.trans l2.symm)]; exact l1
      cases x with
      | false =>
        cases y with
        | false => rfl
        | true => show xl (xl p q) gt = xl p (xl q gt); exact xl_assoc _ _ _
      | true =>
        cases y with
        | false => show xl (xl p q) gt = xl (xl p gt) q; rw [xl_assoc, xl_comm q gt, ← xl_assoc]
        | true =>
          show xl p q = xl (xl p gt) (xl q gt)
          rw [xl_assoc p gt, xl_comm gt, xl_back l2]
theorem run_lin {gt : Bs} : ∀ (m n r s : Bs), m.length = n.length → r.length = s.length → gt.length = r.length → run gt (xl r s) (xl m n) = xl (run gt r m) (run gt s n)
  | [], [], _, _, _, _, _ => rfl
  | [], _ :: _, _, _, h, _, _ => by cases h
  | _ :: _, [], _, _, h, _, _ => by cases h
  | b :: m, c :: n, r, s, h, hr, hg => by
    show run gt (step gt (xl r s) (b ^^ c)) (xl m n) = xl (run gt (step gt r b) m) (run gt (step gt s c) n)
    rw [step_lin hr hg]
    exact run_lin m n _ _ (by simpa using h) (by rw [step_len hg, step_len (hg.trans hr), hr]) (by rw [step_len hg]; exact hg)
/-- zeros in front, bits moved in -/
theorem run_shift {gt : Bs} : ∀ (m p : Bs) (k : Nat), m.length ≤ k → run gt (zs k ++ p) m = zs (k - m.length) ++ p ++ m
  | [], p, k, _ => by simp [run]
  | b :: m, p, k, h => by
    obtain ⟨j, rfl⟩ : ∃ j, k = j + 1 := ⟨k - 1, by rw [List.length_cons] at h; omega⟩
    have e : step gt (zs (j + 1) ++ p) b = zs j ++ (p ++ [b]) := by
      show step gt (false :: (zs j ++ p)) b = _
      rw [step_cons, List.append_assoc]
      rfl
    show run gt (step gt (zs (j + 1) ++ p) b) m = _
    rw [e, run_shift m (p ++ [b]) j (by rw [List.length_cons] at h; omega)]
    simp only [List.length_cons, Nat.add_sub_add_right, List.append_assoc, List.cons_append, List.nil_append]
theorem run_zeros (gt : Bs) (d n : Nat) (h : gt.length = d) : run gt (zs d) (zs n) = zs d := by
  have : ∀ n, run gt (zs d) (zs n) = zs d := fun n => by
    induction n with
    | zero => rfl
    | succ n ih =>
      show run gt (step gt (zs d) false) (zs n) = _
      have e : step gt (zs d) false = zs d := by
        cases d with
        | zero => rfl
        | succ d =>
          show step gt (false :: zs d) false = _
          rw [step_cons]
          show zs d ++ [false] = zs (d + 1)
          unfold zs
          rw [List.replicate_succ', ]
      rw [e, ih]
  exact this n
theorem run_first {gt : Bs} {d : Nat} (m : Bs) (h : m.length ≤ d) : run gt (zs d) m = zs (d - m.length) ++ m := by
  have := run_shift (gt := gt) m [] d h
  rw [List.append_nil] at this
  rw [this, List.append_nil]
/-- the rest of m by the guard 1 :: gt -/
def rest (gt m : Bs) : Bs := run gt (zs gt.length) m
theorem rest_len (gt m : Bs) : (rest gt m).length = gt.length := by
  unfold rest
  rw [run_len _ _ (by unfold zs; simp)]
  unfold zs; simp
theorem rest_lin (gt m n : Bs) (h : m.length = n.length) : rest gt (xl m n) = xl (rest gt m) (rest gt n) := by
  have e : zs gt.length = xl (zs gt.length) (zs gt.length) := by rw [xl_self]; unfold zs; simp
  unfold rest
  conv => lhs; rw [e]
  exact run_lin _ _ _ _ h rfl (by unfold zs; simp)
theorem rest_zs (gt : Bs) (n : Nat) : rest gt (zs n) = zs gt.length := run_zeros gt _ n rfl
theorem rest_lead (gt m : Bs) (n : Nat) : rest gt (zs n ++ m) = rest gt m := by
  unfold rest
  rw [run_app, run_zeros gt _ n rfl]
theorem rest_short (gt m : Bs) (h : m.length ≤ gt.length) : rest gt m = zs (gt.length - m.length) ++ m := run_first m h
/-- a message with its rest behind has no rest -/
theorem rest_guarded (gt m : Bs) : rest gt (m ++ rest gt (m ++ zs gt.length)) = zs gt.length := by
  generalize hr : rest gt (m ++ zs gt.length) = r
  have lr : r.length = gt.length := by rw [← hr]; exact rest_len _ _
  have e : m ++ r = xl (m ++ zs gt.length) (zs m.length ++ r) := by
    rw [xl_app (by unfold zs; simp), xl_zero m _ rfl, zero_xl r _ lr]
  rw [e, rest_lin _ _ _ (by unfold zs; simp [lr]), hr, rest_lead, rest_short _ _ (by omega), lr, Nat.sub_self]
  show xl r ([] ++ r) = _
  rw [List.nil_append, xl_self, lr]
theorem rest_trail (gt m : Bs) (h : rest gt m = zs gt.length) (n : Nat) : rest gt (m ++ zs n) = zs gt.length := by
  have h' : run gt (zs gt.length) m = zs gt.length := h
  unfold rest
  rw [run_app, h']
  exact run_zeros gt _ n rfl
/-- the guard itself has no rest -/
theorem rest_self (gt : Bs) (h : gt ≠ []) : rest gt (true :: gt) = zs gt.length := by
  obtain ⟨gi, gl, hg⟩ : ∃ gi gl, gt = gi ++ [gl] := ⟨gt.dropLast, gt.getLast h, (List.dropLast_concat_getLast h).symm⟩
  have e : true :: gt = (true :: gi) ++ [gl] := by rw [hg]; rfl
  have hl : (true :: gi).length = gt.length := by rw [hg]; simp
  unfold rest
  rw [e, run_app, run_first (gt := gt) (true :: gi) (by omega), hl, Nat.sub_self]
  show step gt ([] ++ true :: gi) gl = _
  rw [List.nil_append, step_cons, if_pos rfl, ← hg, xl_self]
theorem rest_laid (gt : Bs) (h : gt ≠ []) (a n : Nat) : rest gt (zs a ++ (true :: gt) ++ zs n) = zs gt.length := by
  rw [rest_trail gt _ _ n]
  rw [rest_lead]
  exact rest_self gt h
/-- a zero that is moved in does not hide what stood there -/
theorem step_ne {gt r : Bs} (hl : gt.length = r.length) (hg : gt.getLast? = some true) (hr : r ≠ zs r.length) : step gt r false ≠ zs r.length := fun e => by
  cases r with
  | nil => exact hr rfl
  | cons x t =>
    rw [step_cons] at e
    cases x with
    | true =>
      rw [if_pos rfl] at e
      have hn : gt ≠ [] := fun z => by rw [z] at hg; cases hg
      have hgl : gt.getLast hn = true := by first | (rw [List.getLast?_eq_some_getLast hn] at hg; exact Option.some.inj hg) | (rw [List.getLast?_eq_getLast hn] at hg; exact Option.some.inj hg)
      have hgt := (List.dropLast_concat_getLast hn).symm
      rw [hgl] at hgt
      have ld : t.length = gt.dropLast.length := by rw [List.length_dropLast, hl]; simp
      rw [hgt, xl_app ld] at e
      have z : (xl t gt.dropLast ++ xl [false] [true]).getLast? = some true := by
        show (xl t gt.dropLast ++ [true]).getLast? = _
        simp
      rw [e] at z
      unfold zs at z
      rw [List.length_cons, List.replicate_succ'] at z
      simp at z
    | false =>
      rw [if_neg Bool.false_ne_true, List.length_cons] at e
      unfold zs at e
      rw [List.replicate_succ'] at e
      have e' := List.append_inj_left' e rfl
      apply hr
      unfold zs
      rw [List.length_cons, List.replicate_succ, ← e']
theorem run_ne {gt : Bs} (hg : gt.getLast? = some true) : ∀ (n : Nat) (r : Bs), gt.length = r.length → r ≠ zs r.length → run gt r (zs n) ≠ zs r.length
  | 0, r, _, hr => hr
  | n + 1, r, hl, hr => by
    show run gt (step gt r false) (zs n) ≠ _
    have h1 := step_len (b := false) hl
    have h2 := step_ne hl hg hr
    rw [← h1]
    exact run_ne hg n _ (by rw [h1]; exact hl) (by rw [h1]; exact h2)
/-- a word's rest is zero if and only if it is so with zeros behind -/
theorem rest_tail_iff {gt : Bs} (hg : gt.getLast? = some true) (m : Bs) (n : Nat) : rest gt (m ++ zs n) = zs gt.length ↔ rest gt m = zs gt.length := by
  refine ⟨fun h => ?_, fun h => rest_trail gt m h n⟩
  by_cases hm : rest gt m = zs gt.length
  · exact hm
  · exfalso
    have l := rest_len gt m
    have := run_ne hg n (rest gt m) l.symm (by rw [l]; exact hm)
    rw [l] at this
    apply this
    have h' : run gt (zs gt.length) (m ++ zs n) = zs gt.length := h
    rw [run_app] at h'
    exact h'
/-- a short burst is seen -/
theorem rest_burst {gt : Bs} (hg : gt.getLast? = some true) (w : Bs) (a n : Nat) (hw : (true :: w).length ≤ gt.length) : rest gt (zs a ++ (true :: w) ++ zs n) ≠ zs gt.length := fun h => by
  rw [rest_tail_iff hg, rest_lead, rest_short _ _ hw] at h
  have hm : true ∈ zs gt.length := by rw [← h]; simp
  have := List.eq_of_mem_replicate hm
  cases this
/-- a burst as wide as the guard is the guard, if it is not seen -/
theorem rest_wide {gt : Bs} (hg : gt.getLast? = some true) (w : Bs) (a n : Nat) (hw : w.length = gt.length) : rest gt (zs a ++ (true :: w) ++ zs n) = zs gt.length ↔ w = gt := by
  rw [rest_tail_iff hg, rest_lead]
  have hn : w ≠ [] := fun z => by
    rw [z] at hw
    have : gt = [] := List.eq_nil_of_length_eq_zero hw.symm
    rw [this] at hg; cases hg
  obtain ⟨wi, wl, he⟩ : ∃ wi wl, w = wi ++ [wl] := ⟨w.dropLast, w.getLast hn, (List.dropLast_concat_getLast hn).symm⟩
  have e : true :: w = (true :: wi) ++ [wl] := by rw [he]; rfl
  have hl : (true :: wi).length = gt.length := by rw [← hw, he]; simp
  have key : rest gt (true :: w) = xl w gt := by
    unfold rest
    rw [e, run_app, run_first (gt := gt) (true :: wi) (by omega), hl, Nat.sub_self]
    show step gt ([] ++ true :: wi) wl = _
    rw [List.nil_append, step_cons, if_pos rfl, ← he]
  rw [key]
  constructor
  · intro h
    have := xl_back (a := w) (g := gt) hw
    rw [h, zero_xl gt _ rfl] at this
    exact this.symm
  · rintro rfl
    exact xl_self _
/-! ### numbers -/
def val (l : Bs) : Nat := l.foldl (fun a b => 2 * a + (if b then 1 else 0)) 0
theorem val_snoc (l : Bs) (b : Bool) : val (l ++ [b]) = 2 * val l + (if b then 1 else 0) := by unfold val; rw [List.foldl_append]; rfl
theorem snoc_ind {P : Bs → Prop} (h0 : P []) (h1 : ∀ l b, P l → P (l ++ [b])) : ∀ l, P l := by
  intro l
  have : ∀ n (l : Bs), l.length = n → P l := by
    intro n
    induction n with
    | zero => intro l hl; rw [List.eq_nil_of_length_eq_zero hl]; exact h0
    | succ n ih =>
      intro l hl
      have hn : l ≠ [] := fun z => by rw [z] at hl; cases hl
      rw [← List.dropLast_concat_getLast hn]
      exact h1 _ _ (ih _ (by rw [List.length_dropLast, hl]; rfl))
  exact this _ l rfl
theorem val_lt : ∀ l : Bs, val l < 2 ^ l.length := by
  apply snoc_ind
  · decide
  · intro l b h
    rw [val_snoc, List.length_append, List.length_singleton, Nat.pow_succ]
    cases b <;> simp <;> omega
theorem val_cons (b : Bool) : ∀ l : Bs, val (b :: l) = (if b then 2 ^ l.length else 0) + val l := by
  apply snoc_ind
  · cases b <;> rfl
  · intro l c h
    rw [← List.cons_append, val_snoc, val_snoc, h, List.length_append, List.length_singleton, Nat.pow_succ]
    cases b <;> simp <;> omega
theorem xor_step (a b : Nat) (x y : Bool) : (2 * a + (if x then 1 else 0)) ^^^ (2 * b + (if y then 1 else 0)) = 2 * (a ^^^ b) + (if x ^^ y then 1 else 0) := by
  apply Nat.eq_of_testBit_eq
  intro i
  cases i with
  | zero =>
    simp only [Nat.testBit_zero, Nat.testBit_xor]
    cases x <;> cases y <;> simp <;> omega
  | succ i =>
    rw [Nat.testBit_xor, Nat.testBit_succ, Nat.testBit_succ, Nat.testBit_succ]
    have e : ∀ (n : Nat) (z : Bool), (2 * n + (if z then 1 else 0)) / 2 = n := fun n z => by cases z <;> simp <;> omega
    rw [e, e, e, Nat.testBit_xor]
theorem val_xl : ∀ a b : Bs, a.length = b.length → val (xl a b) = val a ^^^ val b := by
  apply snoc_ind
  · intro b h
    have : b = [] := List.eq_nil_of_length_eq_zero h.symm
    subst this
    decide
  · intro a x ih b h
    have hn : b ≠ [] := fun z => by rw [z] at h; simp at h
    obtain ⟨c, y, rfl⟩ : ∃ c y, b = c ++ [y] := ⟨b.dropLast, b.getLast hn, (List.dropLast_concat_getLast hn).symm⟩
    have hl : a.length = c.length := by simpa using h
    rw [xl_app hl, val_snoc, val_snoc]
    show val (xl a c ++ [x ^^ y]) = _
    rw [val_snoc, ih c hl, xor_step]
/-- the register as a number -/
theorem val_step (gt r : Bs) (b : Bool) (h : gt.length = r.length) (h0 : r ≠ []) :
    val (step gt r b) = (if (2 * val r + (if b then 1 else 0)) / 2 ^ gt.length ≠ 0 then (2 * val r + (if b then 1 else 0)) ^^^ val (true :: gt) else 2 * val r + (if b then 1 else 0)) := by
  cases r with
  | nil => exact absurd rfl h0
  | cons x t =>
    have e : 2 * val (x :: t) + (if b then 1 else 0) = val (x :: (t ++ [b])) := by rw [← List.cons_append, val_snoc]
    have hl : (t ++ [b]).length = gt.length := by rw [h]; simp
    rw [e, step_cons]
    generalize t ++ [b] = u at *
    have hu := val_lt u
    rw [hl] at hu
    cases x with
    | true =>
      have e1 : val (true :: u) = 2 ^ gt.length + val u := by rw [val_cons, hl]; rfl
      rw [if_pos rfl, if_pos, ← val_xl _ _ (by simpa using hl)]
      · show val (xl u gt) = val (false :: xl u gt)
        rw [val_cons]; simp
      · rw [e1]
        have := Nat.div_pos (show 2 ^ gt.length ≤ 2 ^ gt.length + val u by omega) (Nat.two_pow_pos gt.length)
        omega
    | false =>
      have e1 : val (false :: u) = val u := by rw [val_cons]; simp
      rw [if_neg Bool.false_ne_true, if_neg, e1]
      rw [e1, Nat.div_eq_of_lt hu]
      simp
end Crc

set_option Elab.async false
set_option linter.all false
set_option maxRecDepth 10000
set_option maxHeartbeats 1000000
/-! M76b: a register written as a text; the long division of a list. -/
namespace Crc
open PySem PySem.Spec PyProof.Rows L2 DV
def ch (b : Bool) : Nat := if b then 49 else 48
def tx (l : Bs) : List Nat := l.map ch
theorem tx_len (l : Bs) : (tx l).length = l.length := by unfold tx; simp
theorem tx_app (a b : Bs) : tx (a ++ b) = tx a ++ tx b := by unfold tx; simp
theorem tx_zs (n : Nat) : tx (zs n) = List.replicate n 48 := by unfold tx zs; simp [ch]
theorem ch_inj : ∀ a b : Bool, ch a = ch b → a = b := by decide
theorem tx_inj : ∀ a b : Bs, tx a = tx b → a = b
  | [], [], _ => rfl
  | [], _ :: _, h => by cases h
  | _ :: _, [], h => by cases h
  | x :: a, y :: b, h => by
    have h1 := List.cons.inj h
    rw [ch_inj _ _ h1.1, tx_inj a b h1.2]
/-- a text of bits is the text of a list of bits -/
def unt (l : List Nat) : Bs := l.map (· == 49)
theorem tx_unt (l : List Nat) (h : ∀ c ∈ l, c = 48 ∨ c = 49) : tx (unt l) = l := by
  unfold tx unt
  rw [List.map_map]
  conv => rhs; rw [← List.map_id l]
  refine List.map_congr_left fun c hc => ?_
  rcases h c hc with rfl | rfl <;> rfl
theorem tx_bin (l : Bs) : ∀ c ∈ tx l, c = 48 ∨ c = 49 := fun c hc => by
  unfold tx at hc
  obtain ⟨b, _, rfl⟩ := List.mem_map.mp hc
  cases b <;> simp [ch]
theorem val_zero : ∀ l : Bs, val l = 0 → l = zs l.length := by
  apply snoc_ind
  · intro _; rfl
  · intro l b ih h
    rw [val_snoc] at h
    have hb : b = false := by cases b <;> simp at h <;> rfl
    have hl : val l = 0 := by omega
    subst hb
    rw [List.length_append, List.length_singleton]
    unfold zs at *
    rw [List.replicate_succ', ← ih hl]
theorem bin_bit (b : Bool) : Fb.binL (if b then 1 else 0) = [ch b] := by cases b <;> decide
theorem bin_more (n : Nat) (b : Bool) (h : n ≠ 0) : Fb.binL (2 * n + (if b then 1 else 0)) = Fb.binL n ++ [ch b] := by
  unfold Fb.binL
  rw [Nat.toDigits_of_base_le (by decide) (by cases b <;> simp <;> omega), List.map_append]
  congr 1
  · congr 2
    cases b <;> simp <;> omega
  · cases b
    · rw [show (2 * n + (if false = true then 1 else 0)) % 2 = 0 from by simp]; rfl
    · rw [show (2 * n + (if true = true then 1 else 0)) % 2 = 1 from by simp]; rfl
theorem bin_val : ∀ l : Bs, l ≠ [] → ∃ k s, l = zs k ++ s ∧ s ≠ [] ∧ Fb.binL (val l) = tx s := by
  apply snoc_ind
  · intro h; exact absurd rfl h
  · intro l b ih _
    by_cases hl : l = []
    · subst hl
      refine ⟨0, [b], rfl, by simp, ?_⟩
      show Fb.binL (val ([] ++ [b])) = _
      rw [val_snoc]
      have : 2 * val [] + (if b then 1 else 0) = (if b then 1 else 0) := by simp [val]
      rw [this, bin_bit]; rfl
    · obtain ⟨k, s, e, hs, hb⟩ := ih hl
      by_cases hv : val l = 0
      · refine ⟨l.length, [b], by rw [← val_zero l hv], by simp, ?_⟩
        rw [val_snoc, hv]
        have : 2 * 0 + (if b then 1 else 0) = (if b then 1 else 0) := by simp
        rw [this, bin_bit]; rfl
      · refine ⟨k, s ++ [b], by rw [e, List.append_assoc], by simp, ?_⟩
        rw [val_snoc, bin_more _ _ hv, hb, tx_app]; rfl
theorem pad_eq (x : PySem.Str) (n : Nat) : (Builtin.Str.padded x n 0 48).cps.toList = List.replicate n 48 ++ x.cps.toList := by
  rw [PyProof.Rows.padded_list]
  simp
/-- the register's number, written out, is the register's text -/
theorem zfill_val (l : Bs) (h : l ≠ []) : (Txt.zfill (SX.S (Fb.binL (val l))) (l.length : Nat)).cps.toList = tx l := by
  obtain ⟨k, s, e, hs, hb⟩ := bin_val l h
  rw [hb]
  have hl : l.length = k + s.length := by rw [e]; simp [zs]
  unfold Txt.zfill
  have hS : (SX.S (tx s)).length = s.length := by rw [SX.S_len, tx_len]
  rw [hS]
  by_cases hk : k = 0
  · subst hk
    rw [if_pos (by rw [hl]; omega)]
    rw [e]
    simp [zs, SX.S]
  · rw [if_neg (by rw [hl]; omega)]
    have en : ((l.length : Nat) : Int).toNat - s.length = k := by rw [hl]; omega
    rw [en]
    have hz : zfilled (SX.S (tx s)) k = Builtin.Str.padded (SX.S (tx s)) k 0 48 := by
      unfold zfilled
      cases s with
      | nil => exact absurd rfl hs
      | cons b r =>
        have h0 : (SX.S (tx (b :: r))).cps[0]? = some (ch b) := by simp [SX.S, tx]
        rw [h0]
        cases b <;> rfl
    rw [hz, pad_eq, e, tx_app, tx_zs]
/-! ### the long division -/
def g0 (l : Bs) (i : Nat) : Bool := l.getD i false
/-- one bit of the window -/
def put1 (g : Bs) (at_ : Nat) (l : Bs) (k : Nat) : Bs := l.set (at_ + k) (g0 l (at_ + k) ^^ g0 g k)
/-- the window that begins at a place, by the guard -/
def win (g : Bs) (l : Bs) (at_ : Nat) : Bs := if g0 l at_ then (List.range g.length).foldl (put1 g at_) l else l
def divide (g : Bs) (l : Bs) : Bs := (List.range (l.length + 1 - g.length)).foldl (win g) l
theorem put_len (g : Bs) (a : Nat) (l : Bs) (k : Nat) : (put1 g a l k).length = l.length := by unfold put1; simp
theorem puts {g pre w post : Bs} (h : w.length = g.length) : ∀ k, k ≤ g.length → (List.range k).foldl (put1 g pre.length) (pre ++ w ++ post) = pre ++ (xl (w.take k) (g.take k) ++ w.drop k) ++ post
  | 0, _ => by simp [xl]
  | k + 1, hk => by
    rw [List.range_succ, List.foldl_append, puts h k (by omega)]
    show put1 g pre.length _ k = _
    have hw : k < w.length := by omega
    have hlx : (xl (w.take k) (g.take k)).length = k := by rw [xl_len _ _ (by simp; omega)]; simp; omega
    have hd : w.drop k = w[k] :: w.drop (k + 1) := List.drop_eq_getElem_cons hw
    unfold put1
    have hg : g0 (pre ++ (xl (w.take k) (g.take k) ++ w.drop k) ++ post) (pre.length + k) = w[k] := by
      unfold g0
      rw [List.append_assoc, List.getD_eq_getElem?_getD, List.getElem?_append_right (by omega), Nat.add_sub_cancel_left, List.append_assoc, List.getElem?_append_right (by omega), hlx, Nat.sub_self, hd]
      rfl
    rw [hg]
    have hgk : g0 g k = g[k] := by unfold g0; rw [List.getD_eq_getElem?_getD, List.getElem?_eq_getElem (by omega)]; rfl
    rw [hgk, List.append_assoc, List.set_append_right _ _ (by omega), Nat.add_sub_cancel_left, List.append_assoc, List.set_append_right _ _ (by omega), hlx, Nat.sub_self]
    have ht : xl (w.take (k + 1)) (g.take (k + 1)) = xl (w.take k) (g.take k) ++ [w[k] ^^ g[k]] := by
      rw [List.take_succ_eq_append_getElem hw, List.take_succ_eq_append_getElem (show k < g.length by omega), xl_app (by simp; omega)]
      rfl
    have hset : (w.drop k ++ post).set 0 (w[k] ^^ g[k]) = (w[k] ^^ g[k]) :: (w.drop (k + 1) ++ post) := by rw [hd]; rfl
    rw [ht, hset]
    simp
theorem puts_all {g pre w post : Bs} (h : w.length = g.length) : (List.range g.length).foldl (put1 g pre.length) (pre ++ w ++ post) = pre ++ xl w g ++ post := by
  rw [puts h _ (Nat.le_refl _), List.take_of_length_le (by omega), List.take_of_length_le (Nat.le_refl _), List.drop_of_length_le (by omega), List.append_nil]
/-- one turn of the division is one step of the register -/
theorem win_step {gt r post : Bs} {b : Bool} {a : Nat} (h : gt.length = r.length) (h0 : r ≠ []) : win (true :: gt) (zs a ++ r ++ (b :: post)) a = zs (a + 1) ++ step gt r b ++ post := by
  cases r with
  | nil => exact absurd rfl h0
  | cons x t =>
    have la : (zs a).length = a := by unfold zs; simp
    have hx : g0 (zs a ++ (x :: t) ++ (b :: post)) a = x := by
      unfold g0
      rw [List.append_assoc, List.getD_eq_getElem?_getD, List.getElem?_append_right (by omega), la, Nat.sub_self]
      rfl
    have hz : zs (a + 1) = zs a ++ [false] := by unfold zs; rw [List.replicate_succ']
    unfold win
    rw [hx, step_cons]
    cases x with
    | false =>
      rw [if_neg Bool.false_ne_true, if_neg Bool.false_ne_true, hz]
      simp
    | true =>
      rw [if_pos rfl, if_pos rfl]
      have e : zs a ++ (true :: t) ++ (b :: post) = zs a ++ (true :: (t ++ [b])) ++ post := by simp
      rw [e]
      have hw : (true :: (t ++ [b])).length = (true :: gt).length := by simp at h ⊢; omega
      have := puts_all (g := true :: gt) (pre := zs a) (w := true :: (t ++ [b])) (post := post) hw
      rw [la] at this
      rw [this, hz]
      show zs a ++ (false :: xl (t ++ [b]) gt) ++ post = _
      simp
theorem divide_run {gt : Bs} (h0 : gt ≠ []) : ∀ (post r : Bs) (a : Nat), r.length = gt.length → ((List.range post.length).map (a + ·)).foldl (win (true :: gt)) (zs a ++ r ++ post) = zs (a + post.length) ++ run gt r post
  | [], r, a, _ => by simp [run]
  | b :: post, r, a, h => by
    rw [List.length_cons, List.range_succ_eq_map, List.map_cons, List.foldl_cons, List.map_map]
    have hr : r ≠ [] := fun z => by rw [z] at h; exact h0 (List.eq_nil_of_length_eq_zero h.symm)
    rw [Nat.add_zero, win_step h.symm hr]
    have ih := divide_run h0 post (step gt r b) (a + 1) (by rw [step_len h.symm]; exact h)
    have e : (List.range post.length).map ((a + ·) ∘ Nat.succ) = (List.range post.length).map (a + 1 + ·) := List.map_congr_left fun k _ => by show a + (k + 1) = a + 1 + k; omega
    rw [e, ih]
    show zs (a + 1 + post.length) ++ run gt (step gt r b) post = zs (a + (post.length + 1)) ++ run gt (step gt r b) post
    rw [show a + 1 + post.length = a + (post.length + 1) by omega]
theorem divide_len (g l : Bs) : (divide g l).length = l.length := by
  have hw : ∀ l a, (win g l a).length = l.length := fun l a => by
    unfold win
    split
    · have : ∀ (ks : List Nat) (l : Bs), (ks.foldl (put1 g a) l).length = l.length := fun ks => by
        induction ks with
        | nil => intro l; rfl
        | cons k ks ih => intro l; rw [List.foldl_cons, ih, put_len]
      exact this _ _
    · rfl
  have : ∀ (ks : List Nat) (l : Bs), (ks.foldl (win g) l).length = l.length := fun ks => by
    induction ks with
    | nil => intro l; rfl
    | cons k ks ih => intro l; rw [List.foldl_cons, ih, hw]
  exact this _ _
/-- what the law makes of the divided list: its last places, as many as the guard has behind the first -/
theorem divide_rest {gt : Bs} (h0 : gt ≠ []) (m : Bs) : (List.replicate (gt.length + 1) 48 ++ tx (divide (true :: gt) m)).drop (m.length + 1) = tx (rest gt m) := by
  by_cases hm : m.length ≤ gt.length
  · have e : divide (true :: gt) m = m := by
      unfold divide
      rw [show m.length + 1 - (true :: gt).length = 0 by simp; omega]
      rfl
    rw [e, rest_short gt m hm, tx_app, tx_zs, List.drop_append_of_le_length (by simp; omega), List.drop_replicate]
    congr 2
    omega
  · have hm : gt.length < m.length := by omega
    have e : divide (true :: gt) m = zs (m.length - gt.length) ++ rest gt m := by
      have hs : m = m.take gt.length ++ m.drop gt.length := (List.take_append_drop _ _).symm
      have lt : (m.take gt.length).length = gt.length := by simp; omega
      have ld : (m.drop gt.length).length = m.length - gt.length := by simp
      have := divide_run h0 (m.drop gt.length) (m.take gt.length) 0 lt
      have e1 : (List.range (m.drop gt.length).length).map (0 + ·) = List.range (m.length + 1 - (true :: gt).length) := by
        rw [ld]
        rw [show m.length + 1 - (true :: gt).length = m.length - gt.length by simp]
        conv => rhs; rw [← List.map_id (List.range _)]
        exact List.map_congr_left fun k _ => by simp
      rw [e1] at this
      have e2 : zs 0 ++ m.take gt.length ++ m.drop gt.length = m := by simp [zs]
      rw [e2] at this
      unfold divide
      rw [this, ld, Nat.zero_add]
      congr 1
      unfold rest
      conv => rhs; rw [hs, run_app, run_first (gt := gt) (m.take gt.length) (by omega), lt, Nat.sub_self]
      rfl
    have l1 : (rest gt m).length = gt.length := rest_len _ _
    rw [e, tx_app, ← List.append_assoc]
    have l2 : (List.replicate (gt.length + 1) 48 ++ tx (zs (m.length - gt.length))).length = m.length + 1 := by rw [List.length_append, tx_len]; simp [zs]; omega
    rw [← l2, List.drop_left]
end Crc

set_option Elab.async false
set_option linter.all false
set_option maxRecDepth 10000
set_option maxHeartbeats 1000000
/-! M76c: changes at places. -/
namespace Crc
def mask (n : Nat) (ps : List Nat) : Bs := (List.range n).map fun i => decide (i ∈ ps)
def flips (m : Bs) (ps : List Nat) : Bs := ps.foldl (fun m p => m.set p (!g0 m p)) m
theorem mask_len (n : Nat) (ps : List Nat) : (mask n ps).length = n := by unfold mask; simp
theorem flips_len : ∀ (ps : List Nat) (m : Bs), (flips m ps).length = m.length
  | [], _ => rfl
  | p :: ps, m => by
    show (flips (m.set p (!g0 m p)) ps).length = _
    rw [flips_len ps]; simp
theorem g0_get {m : Bs} {i : Nat} (h : i < m.length) : g0 m i = m[i] := by unfold g0; rw [List.getD_eq_getElem?_getD, List.getElem?_eq_getElem h]; rfl
theorem flips_get : ∀ (ps : List Nat) (m : Bs) (i : Nat), ps.Nodup → i < m.length → g0 (flips m ps) i = (g0 m i ^^ decide (i ∈ ps))
  | [], m, i, _, _ => by simp [flips]
  | p :: ps, m, i, nd, h => by
    have nd' := List.nodup_cons.mp nd
    show g0 (flips (m.set p (!g0 m p)) ps) i = _
    rw [flips_get ps _ i nd'.2 (by simpa using h)]
    by_cases hp : p = i
    · subst hp
      have e : g0 (m.set p (!g0 m p)) p = !g0 m p := by
        rw [g0_get (by simpa using h)]
        simp
      rw [e, decide_eq_false nd'.1, decide_eq_true (List.mem_cons_self)]
      cases g0 m p <;> rfl
    · have e : g0 (m.set p (!g0 m p)) i = g0 m i := by
        rw [g0_get (by simpa using h), g0_get h, List.getElem_set_ne hp]
      rw [e]
      congr 1
      have : (i ∈ p :: ps) ↔ i ∈ ps := by simp [Ne.symm hp]
      exact decide_eq_decide.mpr this.symm
theorem xl_get {a b : Bs} {i : Nat} (h : i < (xl a b).length) (ha : i < a.length) (hb : i < b.length) : (xl a b)[i] = (a[i] ^^ b[i]) := List.getElem_zipWith
theorem mask_get {n : Nat} {ps : List Nat} {i : Nat} (h : i < (mask n ps).length) : (mask n ps)[i] = decide (i ∈ ps) := by simp [mask]
theorem flips_xl (m : Bs) (ps : List Nat) (nd : ps.Nodup) : flips m ps = xl m (mask m.length ps) := by
  have hl : (xl m (mask m.length ps)).length = m.length := xl_len _ _ (mask_len _ _).symm
  apply List.ext_getElem
  · rw [flips_len, hl]
  · intro i h1 h2
    rw [flips_len] at h1
    have := flips_get ps m i nd h1
    rw [g0_get (by rw [flips_len]; exact h1), g0_get h1] at this
    rw [this, xl_get h2 h1 (by rw [mask_len]; exact h1), mask_get]
theorem flips_eq (m : Bs) (ps : List Nat) : xl m (mask m.length ps) = (List.range m.length).map fun i => g0 m i ^^ decide (i ∈ ps) := by
  have hl : (xl m (mask m.length ps)).length = m.length := xl_len _ _ (mask_len _ _).symm
  apply List.ext_getElem
  · rw [hl]; simp
  · intro i h1 h2
    rw [hl] at h1
    rw [xl_get (by rw [hl]; exact h1) h1 (by rw [mask_len]; exact h1), mask_get, List.getElem_map, List.getElem_range, g0_get h1]
theorem mask_nil (n : Nat) : mask n [] = zs n := by
  unfold mask zs
  apply List.ext_getElem <;> simp
/-- the places from a on, by a word that begins with a one -/
def places (a : Nat) (w : Bs) : List Nat := (List.range w.length).filter (fun k => g0 w k) |>.map (a + ·)
theorem mask_places {n a : Nat} {w : Bs} (h : a + w.length ≤ n) : mask n (places a w) = zs a ++ w ++ zs (n - a - w.length) := by
  apply List.ext_getElem
  · rw [mask_len]; simp [zs]; omega
  · intro i h1 h2
    rw [mask_len] at h1
    rw [mask_get]
    have hm : i ∈ places a w ↔ ∃ k, k < w.length ∧ g0 w k = true ∧ a + k = i := by
      unfold places
      simp [List.mem_map, List.mem_filter, and_assoc]
    have la : (zs a).length = a := by simp [zs]
    by_cases c1 : i < a
    · rw [List.getElem_append_left (by rw [List.length_append]; omega), List.getElem_append_left (by omega)]
      have : i ∉ places a w := fun z => by obtain ⟨k, _, _, e⟩ := hm.mp z; omega
      rw [decide_eq_false this]
      simp [zs]
    · by_cases c2 : i < a + w.length
      · rw [List.getElem_append_left (by rw [List.length_append]; omega), List.getElem_append_right (by omega)]
        have hk : i - a < w.length := by omega
        have : (i ∈ places a w) ↔ w[i - a] = true := by
          rw [hm]
          constructor
          · rintro ⟨k, k1, k2, rfl⟩
            rw [g0_get k1] at k2
            have : a + k - a = k := by omega
            simp only [this]
            exact k2
          · intro z
            exact ⟨i - a, hk, by rw [g0_get hk]; exact z, by omega⟩
        have e : decide (i ∈ places a w) = w[i - a] := by
          cases hw : w[i - a] with
          | true => exact decide_eq_true (this.mpr hw)
          | false => exact decide_eq_false fun z => by rw [this.mp z] at hw; cases hw
        rw [e]
        simp [la]
      · rw [List.getElem_append_right (by rw [List.length_append]; omega)]
        have : i ∉ places a w := fun z => by obtain ⟨k, k1, _, e⟩ := hm.mp z; omega
        rw [decide_eq_false this]
        simp [zs]
end Crc

set_option Elab.async false
set_option linter.all false
set_option maxRecDepth 100000
set_option maxHeartbeats 4000000
/-! P76: what the defs of the text reckon out. -/
namespace T76
open PySem PySem.Spec PyProof.Rows L2 DV Crc
def bin? (l : List Nat) : Bool := l.all fun c => c == 48 || c == 49
theorem mem01 (c : Nat) : decide (c ∈ ([48, 49] : List Nat)) = (c == 48 || c == 49) := by
  by_cases h : c = 48 <;> by_cases h2 : c = 49 <;> simp [h, h2]
theorem p_is_bits (l : List Nat) (hl : l.length ≤ 10000) : G_is_bits [.str l] = .ok (.bl (bin? l)) := by
  show resD (b_is_bits [.sh (.str l), .no]) = _
  have hc : C1_is_bits [.sh (.str l), .no] = .ok (.lst (l.map fun c => .bl (c == 48 || c == 49))) [.sh (.str l), .no] := by
    refine lc_run (xs := l.map fun c => .str [c]) (by simp only [bi_ok, bi_ex, th_ok, th_ex, lo_some, de_val, de_slot, dc_sh, dc_ow, ov_e, oc_sh, oc_ow, ol_e, kl_e, ev_e, ec_sh, ec_ow, cc_e, o2_e, k2_e, k2b_e, l2_e, o1_e, k1_e, l1_e, tb_e, kb_e, ta_e, ka_t, ka_f, to_e, ko_t, ko_f, tn_e, kn_e, ea_e, ea_t, ea_f, eo_e, eo_t, eo_f, en_e, en_k, if_e, if_t, if_f, tu_e, tu_k, ls_e, ls_k, an_e, ac_e, a1_e, a2_e, sq_e, sq_nx, sq_rt, sq_ex, sn_e, io_e, io_sh, io_no, io_ow, pu_e, pu_t, nx_e, se_e, se_k, ne_e, ne_k, ne_t, re_e, re_k, dr_e, dr_k, si_e, si_t, si_f, pa_e, pa_k, ob_some, fo_e, fo_k, ra_e, ra_k, ia_e, ia_l, ia_t, ia_s, r1_e, r1_k, r2_e, r2_k, lc_e, lc_k, lc_c, ca_e, ca_k, ou_ok, ou_ex, kw_e, kw_1, kw_2, ci_e, ci_s, ci_k, ci_g, oi_ok, oi_ex, m1_e, m1_k, m2_k, m3_k, ow_e, ow_k, ix_e, ix_0, ix_1, ix_2, ix_3, ix_4, pn_e, ps_e, ps_k, sl_e, sl_1, sl_2, sl_3, sl_4, fb_e, fb_k, ch_e, ch_1, ch_2, ch_3, ch_t, ch_f, ch_4, rs_rt, rs_nx, rs_ex, ri_rt, ri_nx, ri_ex, i0_e, ir_e, ix_e0, List.getElem?_cons_zero, List.getElem?_cons_succ, List.set_cons_zero, List.set_cons_succ]; rfl) rfl (by rw [List.length_map]; omega) (comp_map (k := fun c : Nat => D.str [c]) (h := fun c => .bl (c == 48 || c == 49)) l fun c _ => ⟨[.sh (.str l), .sh (.str [c])], [.sh (.str l), .sh (.str [c])], rfl, ?_, rfl⟩) rfl
    simp only [g_inS, mem01, bi_ok, bi_ex, th_ok, th_ex, lo_some, de_val, de_slot, dc_sh, dc_ow, ov_e, oc_sh, oc_ow, ol_e, kl_e, ev_e, ec_sh, ec_ow, cc_e, o2_e, k2_e, k2b_e, l2_e, o1_e, k1_e, l1_e, tb_e, kb_e, ta_e, ka_t, ka_f, to_e, ko_t, ko_f, tn_e, kn_e, ea_e, ea_t, ea_f, eo_e, eo_t, eo_f, en_e, en_k, if_e, if_t, if_f, tu_e, tu_k, ls_e, ls_k, an_e, ac_e, a1_e, a2_e, sq_e, sq_nx, sq_rt, sq_ex, sn_e, io_e, io_sh, io_no, io_ow, pu_e, pu_t, nx_e, se_e, se_k, ne_e, ne_k, ne_t, re_e, re_k, dr_e, dr_k, si_e, si_t, si_f, pa_e, pa_k, ob_some, fo_e, fo_k, ra_e, ra_k, ia_e, ia_l, ia_t, ia_s, r1_e, r1_k, r2_e, r2_k, lc_e, lc_k, lc_c, ca_e, ca_k, ou_ok, ou_ex, kw_e, kw_1, kw_2, ci_e, ci_s, ci_k, ci_g, oi_ok, oi_ex, m1_e, m1_k, m2_k, m3_k, ow_e, ow_k, ix_e, ix_0, ix_1, ix_2, ix_3, ix_4, pn_e, ps_e, ps_k, sl_e, sl_1, sl_2, sl_3, sl_4, fb_e, fb_k, ch_e, ch_1, ch_2, ch_3, ch_t, ch_f, ch_4, rs_rt, rs_nx, rs_ex, ri_rt, ri_nx, ri_ex, i0_e, ir_e, ix_e0, List.getElem?_cons_zero, List.getElem?_cons_succ, List.set_cons_zero, List.set_cons_succ]
  have ha : gAll (.lst (l.map fun c => .bl (c == 48 || c == 49))) = some (.bl (bin? l)) := by
    have := g_all (l.map fun c => (c == 48 || c == 49))
    rw [List.map_map, List.all_map] at this
    exact this
  simp only [b_is_bits, g_isi_ss, hc, ha, bi_ok, bi_ex, th_ok, th_ex, lo_some, de_val, de_slot, dc_sh, dc_ow, ov_e, oc_sh, oc_ow, ol_e, kl_e, ev_e, ec_sh, ec_ow, cc_e, o2_e, k2_e, k2b_e, l2_e, o1_e, k1_e, l1_e, tb_e, kb_e, ta_e, ka_t, ka_f, to_e, ko_t, ko_f, tn_e, kn_e, ea_e, ea_t, ea_f, eo_e, eo_t, eo_f, en_e, en_k, if_e, if_t, if_f, tu_e, tu_k, ls_e, ls_k, an_e, ac_e, a1_e, a2_e, sq_e, sq_nx, sq_rt, sq_ex, sn_e, io_e, io_sh, io_no, io_ow, pu_e, pu_t, nx_e, se_e, se_k, ne_e, ne_k, ne_t, re_e, re_k, dr_e, dr_k, si_e, si_t, si_f, pa_e, pa_k, ob_some, fo_e, fo_k, ra_e, ra_k, ia_e, ia_l, ia_t, ia_s, r1_e, r1_k, r2_e, r2_k, lc_e, lc_k, lc_c, ca_e, ca_k, ou_ok, ou_ex, kw_e, kw_1, kw_2, ci_e, ci_s, ci_k, ci_g, oi_ok, oi_ex, m1_e, m1_k, m2_k, m3_k, ow_e, ow_k, ix_e, ix_0, ix_1, ix_2, ix_3, ix_4, pn_e, ps_e, ps_k, sl_e, sl_1, sl_2, sl_3, sl_4, fb_e, fb_k, ch_e, ch_1, ch_2, ch_3, ch_t, ch_f, ch_4, rs_rt, rs_nx, rs_ex, ri_rt, ri_nx, ri_ex, i0_e, ir_e, ix_e0, List.getElem?_cons_zero, List.getElem?_cons_succ, List.set_cons_zero, List.set_cons_succ]
theorem p_is_bits_no (d : D) (h : (tyName d).map (fun t => subTy t "str") = some false) : G_is_bits [d] = .ok (.bl false) := by
  show resD (b_is_bits [.sh d, .no]) = _
  have hg : gIsi "str" d = some (.bl false) := by
    unfold gIsi
    cases e : tyName d with
    | none => rw [e] at h; cases h
    | some t => rw [e] at h; exact congrArg (fun x => x.map D.bl) h
  simp only [b_is_bits, hg, bi_ok, bi_ex, th_ok, th_ex, lo_some, de_val, de_slot, dc_sh, dc_ow, ov_e, oc_sh, oc_ow, ol_e, kl_e, ev_e, ec_sh, ec_ow, cc_e, o2_e, k2_e, k2b_e, l2_e, o1_e, k1_e, l1_e, tb_e, kb_e, ta_e, ka_t, ka_f, to_e, ko_t, ko_f, tn_e, kn_e, ea_e, ea_t, ea_f, eo_e, eo_t, eo_f, en_e, en_k, if_e, if_t, if_f, tu_e, tu_k, ls_e, ls_k, an_e, ac_e, a1_e, a2_e, sq_e, sq_nx, sq_rt, sq_ex, sn_e, io_e, io_sh, io_no, io_ow, pu_e, pu_t, nx_e, se_e, se_k, ne_e, ne_k, ne_t, re_e, re_k, dr_e, dr_k, si_e, si_t, si_f, pa_e, pa_k, ob_some, fo_e, fo_k, ra_e, ra_k, ia_e, ia_l, ia_t, ia_s, r1_e, r1_k, r2_e, r2_k, lc_e, lc_k, lc_c, ca_e, ca_k, ou_ok, ou_ex, kw_e, kw_1, kw_2, ci_e, ci_s, ci_k, ci_g, oi_ok, oi_ex, m1_e, m1_k, m2_k, m3_k, ow_e, ow_k, ix_e, ix_0, ix_1, ix_2, ix_3, ix_4, pn_e, ps_e, ps_k, sl_e, sl_1, sl_2, sl_3, sl_4, fb_e, fb_k, ch_e, ch_1, ch_2, ch_3, ch_t, ch_f, ch_4, rs_rt, rs_nx, rs_ex, ri_rt, ri_nx, ri_ex, i0_e, ir_e, ix_e0, List.getElem?_cons_zero, List.getElem?_cons_succ, List.set_cons_zero, List.set_cons_succ]
theorem p_need_bits (d p : D) (h : G_is_bits [d] = .ok (.bl true)) : G_need_bits [d, p] = .ok .non := by
  show resD (b_need_bits [.sh d, .sh p]) = _
  simp only [b_need_bits, h, Bool.not_true, bi_ok, bi_ex, th_ok, th_ex, lo_some, de_val, de_slot, dc_sh, dc_ow, ov_e, oc_sh, oc_ow, ol_e, kl_e, ev_e, ec_sh, ec_ow, cc_e, o2_e, k2_e, k2b_e, l2_e, o1_e, k1_e, l1_e, tb_e, kb_e, ta_e, ka_t, ka_f, to_e, ko_t, ko_f, tn_e, kn_e, ea_e, ea_t, ea_f, eo_e, eo_t, eo_f, en_e, en_k, if_e, if_t, if_f, tu_e, tu_k, ls_e, ls_k, an_e, ac_e, a1_e, a2_e, sq_e, sq_nx, sq_rt, sq_ex, sn_e, io_e, io_sh, io_no, io_ow, pu_e, pu_t, nx_e, se_e, se_k, ne_e, ne_k, ne_t, re_e, re_k, dr_e, dr_k, si_e, si_t, si_f, pa_e, pa_k, ob_some, fo_e, fo_k, ra_e, ra_k, ia_e, ia_l, ia_t, ia_s, r1_e, r1_k, r2_e, r2_k, lc_e, lc_k, lc_c, ca_e, ca_k, ou_ok, ou_ex, kw_e, kw_1, kw_2, ci_e, ci_s, ci_k, ci_g, oi_ok, oi_ex, m1_e, m1_k, m2_k, m3_k, ow_e, ow_k, ix_e, ix_0, ix_1, ix_2, ix_3, ix_4, pn_e, ps_e, ps_k, sl_e, sl_1, sl_2, sl_3, sl_4, fb_e, fb_k, ch_e, ch_1, ch_2, ch_3, ch_t, ch_f, ch_4, rs_rt, rs_nx, rs_ex, ri_rt, ri_nx, ri_ex, i0_e, ir_e, ix_e0, List.getElem?_cons_zero, List.getElem?_cons_succ, List.set_cons_zero, List.set_cons_succ]
theorem p_need_bits_no (d p : D) (h : G_is_bits [d] = .ok (.bl false)) : G_need_bits [d, p] = .ex ⟨"BadBits", ["part"], [p]⟩ := by
  show resD (b_need_bits [.sh d, .sh p]) = _
  simp only [b_need_bits, h, Bool.not_false, bi_ok, bi_ex, th_ok, th_ex, lo_some, de_val, de_slot, dc_sh, dc_ow, ov_e, oc_sh, oc_ow, ol_e, kl_e, ev_e, ec_sh, ec_ow, cc_e, o2_e, k2_e, k2b_e, l2_e, o1_e, k1_e, l1_e, tb_e, kb_e, ta_e, ka_t, ka_f, to_e, ko_t, ko_f, tn_e, kn_e, ea_e, ea_t, ea_f, eo_e, eo_t, eo_f, en_e, en_k, if_e, if_t, if_f, tu_e, tu_k, ls_e, ls_k, an_e, ac_e, a1_e, a2_e, sq_e, sq_nx, sq_rt, sq_ex, sn_e, io_e, io_sh, io_no, io_ow, pu_e, pu_t, nx_e, se_e, se_k, ne_e, ne_k, ne_t, re_e, re_k, dr_e, dr_k, si_e, si_t, si_f, pa_e, pa_k, ob_some, fo_e, fo_k, ra_e, ra_k, ia_e, ia_l, ia_t, ia_s, r1_e, r1_k, r2_e, r2_k, lc_e, lc_k, lc_c, ca_e, ca_k, ou_ok, ou_ex, kw_e, kw_1, kw_2, ci_e, ci_s, ci_k, ci_g, oi_ok, oi_ex, m1_e, m1_k, m2_k, m3_k, ow_e, ow_k, ix_e, ix_0, ix_1, ix_2, ix_3, ix_4, pn_e, ps_e, ps_k, sl_e, sl_1, sl_2, sl_3, sl_4, fb_e, fb_k, ch_e, ch_1, ch_2, ch_3, ch_t, ch_f, ch_4, rs_rt, rs_nx, rs_ex, ri_rt, ri_nx, ri_ex, i0_e, ir_e, ix_e0, List.getElem?_cons_zero, List.getElem?_cons_succ, List.set_cons_zero, List.set_cons_succ]
theorem p_degree (l : List Nat) (hl : l.length ≤ 10000) : G_degree_of [.str l] = .ok (.int (l.length - 1)) := by
  show resD (b_degree_of [.sh (.str l)]) = _
  simp only [b_degree_of, g_lenS (show l.length ≤ 10000000 by omega), g_sub, bi_ok, bi_ex, th_ok, th_ex, lo_some, de_val, de_slot, dc_sh, dc_ow, ov_e, oc_sh, oc_ow, ol_e, kl_e, ev_e, ec_sh, ec_ow, cc_e, o2_e, k2_e, k2b_e, l2_e, o1_e, k1_e, l1_e, tb_e, kb_e, ta_e, ka_t, ka_f, to_e, ko_t, ko_f, tn_e, kn_e, ea_e, ea_t, ea_f, eo_e, eo_t, eo_f, en_e, en_k, if_e, if_t, if_f, tu_e, tu_k, ls_e, ls_k, an_e, ac_e, a1_e, a2_e, sq_e, sq_nx, sq_rt, sq_ex, sn_e, io_e, io_sh, io_no, io_ow, pu_e, pu_t, nx_e, se_e, se_k, ne_e, ne_k, ne_t, re_e, re_k, dr_e, dr_k, si_e, si_t, si_f, pa_e, pa_k, ob_some, fo_e, fo_k, ra_e, ra_k, ia_e, ia_l, ia_t, ia_s, r1_e, r1_k, r2_e, r2_k, lc_e, lc_k, lc_c, ca_e, ca_k, ou_ok, ou_ex, kw_e, kw_1, kw_2, ci_e, ci_s, ci_k, ci_g, oi_ok, oi_ex, m1_e, m1_k, m2_k, m3_k, ow_e, ow_k, ix_e, ix_0, ix_1, ix_2, ix_3, ix_4, pn_e, ps_e, ps_k, sl_e, sl_1, sl_2, sl_3, sl_4, fb_e, fb_k, ch_e, ch_1, ch_2, ch_3, ch_t, ch_f, ch_4, rs_rt, rs_nx, rs_ex, ri_rt, ri_nx, ri_ex, i0_e, ir_e, ix_e0, List.getElem?_cons_zero, List.getElem?_cons_succ, List.set_cons_zero, List.set_cons_succ]
def gd? (l : List Nat) : Bool := bin? l && decide (2 ≤ l.length) && decide (l.length ≤ 17) && (l.head? == some 49) && (l.getLast? == some 49)
theorem p_is_guard (l : List Nat) (hl : l.length ≤ 10000) : G_is_guard [.str l] = .ok (.bl (gd? l)) := by
  show resD (b_is_guard [.sh (.str l)]) = _
  have h1 := p_is_bits l hl
  have h2 := g_lenS (a := l) (show l.length ≤ 10000000 by omega)
  unfold gd?
  cases hb : bin? l with
  | false =>
    rw [hb] at h1
    simp only [b_is_guard, h1, bi_ok, bi_ex, th_ok, th_ex, lo_some, de_val, de_slot, dc_sh, dc_ow, ov_e, oc_sh, oc_ow, ol_e, kl_e, ev_e, ec_sh, ec_ow, cc_e, o2_e, k2_e, k2b_e, l2_e, o1_e, k1_e, l1_e, tb_e, kb_e, ta_e, ka_t, ka_f, to_e, ko_t, ko_f, tn_e, kn_e, ea_e, ea_t, ea_f, eo_e, eo_t, eo_f, en_e, en_k, if_e, if_t, if_f, tu_e, tu_k, ls_e, ls_k, an_e, ac_e, a1_e, a2_e, sq_e, sq_nx, sq_rt, sq_ex, sn_e, io_e, io_sh, io_no, io_ow, pu_e, pu_t, nx_e, se_e, se_k, ne_e, ne_k, ne_t, re_e, re_k, dr_e, dr_k, si_e, si_t, si_f, pa_e, pa_k, ob_some, fo_e, fo_k, ra_e, ra_k, ia_e, ia_l, ia_t, ia_s, r1_e, r1_k, r2_e, r2_k, lc_e, lc_k, lc_c, ca_e, ca_k, ou_ok, ou_ex, kw_e, kw_1, kw_2, ci_e, ci_s, ci_k, ci_g, oi_ok, oi_ex, m1_e, m1_k, m2_k, m3_k, ow_e, ow_k, ix_e, ix_0, ix_1, ix_2, ix_3, ix_4, pn_e, ps_e, ps_k, sl_e, sl_1, sl_2, sl_3, sl_4, fb_e, fb_k, ch_e, ch_1, ch_2, ch_3, ch_t, ch_f, ch_4, rs_rt, rs_nx, rs_ex, ri_rt, ri_nx, ri_ex, i0_e, ir_e, ix_e0, List.getElem?_cons_zero, List.getElem?_cons_succ, List.set_cons_zero, List.set_cons_succ, Bool.false_and]
  | true =>
    rw [hb] at h1
    by_cases c1 : 2 ≤ l.length
    · have c1' : decide ((2 : Int) ≤ l.length) = true := decide_eq_true (by omega)
      by_cases c2 : l.length ≤ 17
      · have c2' : decide ((l.length : Int) ≤ 16 + 1) = true := decide_eq_true (by omega)
        have hne : l ≠ [] := fun z => by rw [z] at c1; simp at c1
        have h3 : gIx (.str l) (.int 0) = some (.str [l[0]]) := by
          rw [g_ixS (by omega)]
          have := atI_pos (l := l) (k := 0) (by omega)
          rw [show ((0 : Nat) : Int) = 0 from rfl] at this
          rw [this]; rfl
        have h4 : gIx (.str l) (.int (-1)) = some (.str [l.getLast hne]) := by
          rw [g_ixS (by omega), atI_last hne]; rfl
        have h5 : l.head? = some l[0] := by rw [List.head?_eq_getElem?, List.getElem?_eq_getElem (by omega)]
        have h6 : l.getLast? = some (l.getLast hne) := by first | exact List.getLast?_eq_some_getLast hne | exact List.getLast?_eq_getLast hne
        rw [h5, h6]
        cases h7 : ([l[0]] == [49] : Bool) with
        | false =>
          have h7' : (some l[0] == some 49) = false := by simpa using h7
          simp only [b_is_guard, h1, h2, h3, g_le, g_addI, c1', c2', g_eqS, h7, h7', c1, c2, decide_true, bi_ok, bi_ex, th_ok, th_ex, lo_some, de_val, de_slot, dc_sh, dc_ow, ov_e, oc_sh, oc_ow, ol_e, kl_e, ev_e, ec_sh, ec_ow, cc_e, o2_e, k2_e, k2b_e, l2_e, o1_e, k1_e, l1_e, tb_e, kb_e, ta_e, ka_t, ka_f, to_e, ko_t, ko_f, tn_e, kn_e, ea_e, ea_t, ea_f, eo_e, eo_t, eo_f, en_e, en_k, if_e, if_t, if_f, tu_e, tu_k, ls_e, ls_k, an_e, ac_e, a1_e, a2_e, sq_e, sq_nx, sq_rt, sq_ex, sn_e, io_e, io_sh, io_no, io_ow, pu_e, pu_t, nx_e, se_e, se_k, ne_e, ne_k, ne_t, re_e, re_k, dr_e, dr_k, si_e, si_t, si_f, pa_e, pa_k, ob_some, fo_e, fo_k, ra_e, ra_k, ia_e, ia_l, ia_t, ia_s, r1_e, r1_k, r2_e, r2_k, lc_e, lc_k, lc_c, ca_e, ca_k, ou_ok, ou_ex, kw_e, kw_1, kw_2, ci_e, ci_s, ci_k, ci_g, oi_ok, oi_ex, m1_e, m1_k, m2_k, m3_k, ow_e, ow_k, ix_e, ix_0, ix_1, ix_2, ix_3, ix_4, pn_e, ps_e, ps_k, sl_e, sl_1, sl_2, sl_3, sl_4, fb_e, fb_k, ch_e, ch_1, ch_2, ch_3, ch_t, ch_f, ch_4, rs_rt, rs_nx, rs_ex, ri_rt, ri_nx, ri_ex, i0_e, ir_e, ix_e0, List.getElem?_cons_zero, List.getElem?_cons_succ, List.set_cons_zero, List.set_cons_succ, Bool.true_and, Bool.false_and, Bool.and_false]
        | true =>
          have h7' : (some l[0] == some 49) = true := by simpa using h7
          have h8 : ([l.getLast hne] == [49] : Bool) = (some (l.getLast hne) == some 49) := by
            cases h9 : (some (l.getLast hne) == some 49 : Bool) <;> simpa using h9
          simp only [b_is_guard, h1, h2, h3, h4, g_le, g_neg, g_addI, c1', c2', g_eqS, h7, h7', h8, c1, c2, decide_true, bi_ok, bi_ex, th_ok, th_ex, lo_some, de_val, de_slot, dc_sh, dc_ow, ov_e, oc_sh, oc_ow, ol_e, kl_e, ev_e, ec_sh, ec_ow, cc_e, o2_e, k2_e, k2b_e, l2_e, o1_e, k1_e, l1_e, tb_e, kb_e, ta_e, ka_t, ka_f, to_e, ko_t, ko_f, tn_e, kn_e, ea_e, ea_t, ea_f, eo_e, eo_t, eo_f, en_e, en_k, if_e, if_t, if_f, tu_e, tu_k, ls_e, ls_k, an_e, ac_e, a1_e, a2_e, sq_e, sq_nx, sq_rt, sq_ex, sn_e, io_e, io_sh, io_no, io_ow, pu_e, pu_t, nx_e, se_e, se_k, ne_e, ne_k, ne_t, re_e, re_k, dr_e, dr_k, si_e, si_t, si_f, pa_e, pa_k, ob_some, fo_e, fo_k, ra_e, ra_k, ia_e, ia_l, ia_t, ia_s, r1_e, r1_k, r2_e, r2_k, lc_e, lc_k, lc_c, ca_e, ca_k, ou_ok, ou_ex, kw_e, kw_1, kw_2, ci_e, ci_s, ci_k, ci_g, oi_ok, oi_ex, m1_e, m1_k, m2_k, m3_k, ow_e, ow_k, ix_e, ix_0, ix_1, ix_2, ix_3, ix_4, pn_e, ps_e, ps_k, sl_e, sl_1, sl_2, sl_3, sl_4, fb_e, fb_k, ch_e, ch_1, ch_2, ch_3, ch_t, ch_f, ch_4, rs_rt, rs_nx, rs_ex, ri_rt, ri_nx, ri_ex, i0_e, ir_e, ix_e0, List.getElem?_cons_zero, List.getElem?_cons_succ, List.set_cons_zero, List.set_cons_succ, Bool.true_and]
      · have c2' : decide ((l.length : Int) ≤ 16 + 1) = false := decide_eq_false (by omega)
        simp only [b_is_guard, h1, h2, g_le, g_addI, c1', c2', c2, c1, decide_true, decide_false, bi_ok, bi_ex, th_ok, th_ex, lo_some, de_val, de_slot, dc_sh, dc_ow, ov_e, oc_sh, oc_ow, ol_e, kl_e, ev_e, ec_sh, ec_ow, cc_e, o2_e, k2_e, k2b_e, l2_e, o1_e, k1_e, l1_e, tb_e, kb_e, ta_e, ka_t, ka_f, to_e, ko_t, ko_f, tn_e, kn_e, ea_e, ea_t, ea_f, eo_e, eo_t, eo_f, en_e, en_k, if_e, if_t, if_f, tu_e, tu_k, ls_e, ls_k, an_e, ac_e, a1_e, a2_e, sq_e, sq_nx, sq_rt, sq_ex, sn_e, io_e, io_sh, io_no, io_ow, pu_e, pu_t, nx_e, se_e, se_k, ne_e, ne_k, ne_t, re_e, re_k, dr_e, dr_k, si_e, si_t, si_f, pa_e, pa_k, ob_some, fo_e, fo_k, ra_e, ra_k, ia_e, ia_l, ia_t, ia_s, r1_e, r1_k, r2_e, r2_k, lc_e, lc_k, lc_c, ca_e, ca_k, ou_ok, ou_ex, kw_e, kw_1, kw_2, ci_e, ci_s, ci_k, ci_g, oi_ok, oi_ex, m1_e, m1_k, m2_k, m3_k, ow_e, ow_k, ix_e, ix_0, ix_1, ix_2, ix_3, ix_4, pn_e, ps_e, ps_k, sl_e, sl_1, sl_2, sl_3, sl_4, fb_e, fb_k, ch_e, ch_1, ch_2, ch_3, ch_t, ch_f, ch_4, rs_rt, rs_nx, rs_ex, ri_rt, ri_nx, ri_ex, i0_e, ir_e, ix_e0, List.getElem?_cons_zero, List.getElem?_cons_succ, List.set_cons_zero, List.set_cons_succ, Bool.true_and, Bool.false_and, Bool.and_false]
    · have c1' : decide ((2 : Int) ≤ l.length) = false := decide_eq_false (by omega)
      simp only [b_is_guard, h1, h2, g_le, c1', c1, decide_false, bi_ok, bi_ex, th_ok, th_ex, lo_some, de_val, de_slot, dc_sh, dc_ow, ov_e, oc_sh, oc_ow, ol_e, kl_e, ev_e, ec_sh, ec_ow, cc_e, o2_e, k2_e, k2b_e, l2_e, o1_e, k1_e, l1_e, tb_e, kb_e, ta_e, ka_t, ka_f, to_e, ko_t, ko_f, tn_e, kn_e, ea_e, ea_t, ea_f, eo_e, eo_t, eo_f, en_e, en_k, if_e, if_t, if_f, tu_e, tu_k, ls_e, ls_k, an_e, ac_e, a1_e, a2_e, sq_e, sq_nx, sq_rt, sq_ex, sn_e, io_e, io_sh, io_no, io_ow, pu_e, pu_t, nx_e, se_e, se_k, ne_e, ne_k, ne_t, re_e, re_k, dr_e, dr_k, si_e, si_t, si_f, pa_e, pa_k, ob_some, fo_e, fo_k, ra_e, ra_k, ia_e, ia_l, ia_t, ia_s, r1_e, r1_k, r2_e, r2_k, lc_e, lc_k, lc_c, ca_e, ca_k, ou_ok, ou_ex, kw_e, kw_1, kw_2, ci_e, ci_s, ci_k, ci_g, oi_ok, oi_ex, m1_e, m1_k, m2_k, m3_k, ow_e, ow_k, ix_e, ix_0, ix_1, ix_2, ix_3, ix_4, pn_e, ps_e, ps_k, sl_e, sl_1, sl_2, sl_3, sl_4, fb_e, fb_k, ch_e, ch_1, ch_2, ch_3, ch_t, ch_f, ch_4, rs_rt, rs_nx, rs_ex, ri_rt, ri_nx, ri_ex, i0_e, ir_e, ix_e0, List.getElem?_cons_zero, List.getElem?_cons_succ, List.set_cons_zero, List.set_cons_succ, Bool.true_and, Bool.false_and]
theorem p_is_guard_no (d : D) (h : (tyName d).map (fun t => subTy t "str") = some false) : G_is_guard [d] = .ok (.bl false) := by
  show resD (b_is_guard [.sh d]) = _
  simp only [b_is_guard, p_is_bits_no d h, bi_ok, bi_ex, th_ok, th_ex, lo_some, de_val, de_slot, dc_sh, dc_ow, ov_e, oc_sh, oc_ow, ol_e, kl_e, ev_e, ec_sh, ec_ow, cc_e, o2_e, k2_e, k2b_e, l2_e, o1_e, k1_e, l1_e, tb_e, kb_e, ta_e, ka_t, ka_f, to_e, ko_t, ko_f, tn_e, kn_e, ea_e, ea_t, ea_f, eo_e, eo_t, eo_f, en_e, en_k, if_e, if_t, if_f, tu_e, tu_k, ls_e, ls_k, an_e, ac_e, a1_e, a2_e, sq_e, sq_nx, sq_rt, sq_ex, sn_e, io_e, io_sh, io_no, io_ow, pu_e, pu_t, nx_e, se_e, se_k, ne_e, ne_k, ne_t, re_e, re_k, dr_e, dr_k, si_e, si_t, si_f, pa_e, pa_k, ob_some, fo_e, fo_k, ra_e, ra_k, ia_e, ia_l, ia_t, ia_s, r1_e, r1_k, r2_e, r2_k, lc_e, lc_k, lc_c, ca_e, ca_k, ou_ok, ou_ex, kw_e, kw_1, kw_2, ci_e, ci_s, ci_k, ci_g, oi_ok, oi_ex, m1_e, m1_k, m2_k, m3_k, ow_e, ow_k, ix_e, ix_0, ix_1, ix_2, ix_3, ix_4, pn_e, ps_e, ps_k, sl_e, sl_1, sl_2, sl_3, sl_4, fb_e, fb_k, ch_e, ch_1, ch_2, ch_3, ch_t, ch_f, ch_4, rs_rt, rs_nx, rs_ex, ri_rt, ri_nx, ri_ex, i0_e, ir_e, ix_e0, List.getElem?_cons_zero, List.getElem?_cons_succ, List.set_cons_zero, List.set_cons_succ]
theorem p_need_guard (d : D) (h : G_is_guard [d] = .ok (.bl true)) : G_need_guard [d] = .ok .non := by
  show resD (b_need_guard [.sh d]) = _
  simp only [b_need_guard, h, Bool.not_true, bi_ok, bi_ex, th_ok, th_ex, lo_some, de_val, de_slot, dc_sh, dc_ow, ov_e, oc_sh, oc_ow, ol_e, kl_e, ev_e, ec_sh, ec_ow, cc_e, o2_e, k2_e, k2b_e, l2_e, o1_e, k1_e, l1_e, tb_e, kb_e, ta_e, ka_t, ka_f, to_e, ko_t, ko_f, tn_e, kn_e, ea_e, ea_t, ea_f, eo_e, eo_t, eo_f, en_e, en_k, if_e, if_t, if_f, tu_e, tu_k, ls_e, ls_k, an_e, ac_e, a1_e, a2_e, sq_e, sq_nx, sq_rt, sq_ex, sn_e, io_e, io_sh, io_no, io_ow, pu_e, pu_t, nx_e, se_e, se_k, ne_e, ne_k, ne_t, re_e, re_k, dr_e, dr_k, si_e, si_t, si_f, pa_e, pa_k, ob_some, fo_e, fo_k, ra_e, ra_k, ia_e, ia_l, ia_t, ia_s, r1_e, r1_k, r2_e, r2_k, lc_e, lc_k, lc_c, ca_e, ca_k, ou_ok, ou_ex, kw_e, kw_1, kw_2, ci_e, ci_s, ci_k, ci_g, oi_ok, oi_ex, m1_e, m1_k, m2_k, m3_k, ow_e, ow_k, ix_e, ix_0, ix_1, ix_2, ix_3, ix_4, pn_e, ps_e, ps_k, sl_e, sl_1, sl_2, sl_3, sl_4, fb_e, fb_k, ch_e, ch_1, ch_2, ch_3, ch_t, ch_f, ch_4, rs_rt, rs_nx, rs_ex, ri_rt, ri_nx, ri_ex, i0_e, ir_e, ix_e0, List.getElem?_cons_zero, List.getElem?_cons_succ, List.set_cons_zero, List.set_cons_succ]
theorem p_need_guard_no (d : D) (h : G_is_guard [d] = .ok (.bl false)) : G_need_guard [d] = .ex ⟨"BadBits", ["part"], [.str [103, 117, 97, 114, 100]]⟩ := by
  show resD (b_need_guard [.sh d]) = _
  simp only [b_need_guard, h, Bool.not_false, bi_ok, bi_ex, th_ok, th_ex, lo_some, de_val, de_slot, dc_sh, dc_ow, ov_e, oc_sh, oc_ow, ol_e, kl_e, ev_e, ec_sh, ec_ow, cc_e, o2_e, k2_e, k2b_e, l2_e, o1_e, k1_e, l1_e, tb_e, kb_e, ta_e, ka_t, ka_f, to_e, ko_t, ko_f, tn_e, kn_e, ea_e, ea_t, ea_f, eo_e, eo_t, eo_f, en_e, en_k, if_e, if_t, if_f, tu_e, tu_k, ls_e, ls_k, an_e, ac_e, a1_e, a2_e, sq_e, sq_nx, sq_rt, sq_ex, sn_e, io_e, io_sh, io_no, io_ow, pu_e, pu_t, nx_e, se_e, se_k, ne_e, ne_k, ne_t, re_e, re_k, dr_e, dr_k, si_e, si_t, si_f, pa_e, pa_k, ob_some, fo_e, fo_k, ra_e, ra_k, ia_e, ia_l, ia_t, ia_s, r1_e, r1_k, r2_e, r2_k, lc_e, lc_k, lc_c, ca_e, ca_k, ou_ok, ou_ex, kw_e, kw_1, kw_2, ci_e, ci_s, ci_k, ci_g, oi_ok, oi_ex, m1_e, m1_k, m2_k, m3_k, ow_e, ow_k, ix_e, ix_0, ix_1, ix_2, ix_3, ix_4, pn_e, ps_e, ps_k, sl_e, sl_1, sl_2, sl_3, sl_4, fb_e, fb_k, ch_e, ch_1, ch_2, ch_3, ch_t, ch_f, ch_4, rs_rt, rs_nx, rs_ex, ri_rt, ri_nx, ri_ex, i0_e, ir_e, ix_e0, List.getElem?_cons_zero, List.getElem?_cons_succ, List.set_cons_zero, List.set_cons_succ]
/-! ### rests -/
/-- a guard: a one, bits, a one -/
structure Gd (gt : Bs) : Prop where
  last : gt.getLast? = some true
  len : gt.length ≤ 16
theorem Gd.ne {gt : Bs} (h : Gd gt) : gt ≠ [] := fun z => by
  have := h.last
  rw [z] at this; cases this
theorem Gd.pos {gt : Bs} (h : Gd gt) : 1 ≤ gt.length := List.length_pos_iff.mpr h.ne
theorem bin_tx (m : Bs) : bin? (tx m) = true := by
  unfold bin?
  rw [List.all_eq_true]
  intro c hc
  rcases tx_bin m c hc with rfl | rfl <;> rfl
theorem Gd.gd {gt : Bs} (h : Gd gt) : gd? (tx (true :: gt)) = true := by
  have h1 := h.pos
  have h2 := h.len
  unfold gd?
  rw [bin_tx, tx_len]
  have e1 : (tx (true :: gt)).head? = some 49 := rfl
  have e2 : (tx (true :: gt)).getLast? = some 49 := by
    unfold tx
    rw [List.getLast?_map, List.getLast?_cons, h.last]
    rfl
  rw [e1, e2]
  simp
  omega
theorem num_tx : ∀ l : Bs, Bin.num (tx l) = val l := by
  intro l
  unfold Bin.num val tx
  rw [List.foldl_map]
  congr 1
  funext a b
  cases b <;> simp [ch] <;> omega
theorem int_tx (l : Bs) (h1 : l ≠ []) (h2 : l.length ≤ 600) : gIntBase (.str (tx l)) (.int 2) = some (.int (val l : Nat)) := by
  show (if tx l ≠ [] ∧ (tx l).length ≤ 640 ∧ (tx l).all (fun c => c == 48 || c == 49) = true then some (D.int (Bin.num (tx l) : Nat)) else none) = _
  rw [num_tx]
  refine if_pos ⟨fun z => h1 ?_, by rw [tx_len]; omega, bin_tx l⟩
  exact List.eq_nil_of_length_eq_zero (by rw [← tx_len, z]; rfl)
theorem p_rest_number (gt m : Bs) (hg : Gd gt) (hm : m.length ≤ 5000) : G_rest_number [.str (tx m), .str (tx (true :: gt))] = .ok (.int (val (rest gt m) : Nat)) := by
  show resD (b_rest_number [.sh (.str (tx m)), .sh (.str (tx (true :: gt))), .no, .no, .no, .no]) = _
  have hl := hg.len
  have h1 := int_tx (true :: gt) (by simp) (by simp; omega)
  have h2 := p_degree (tx (true :: gt)) (by rw [tx_len]; simp; omega)
  have e2 : (((tx (true :: gt)).length : Int) - 1) = (gt.length : Nat) := by rw [tx_len]; simp
  rw [e2] at h2
  -- the loop: the register as a number
  have hloop : F2_rest_number [.sh (.str (tx m)), .sh (.str (tx (true :: gt))), .sh (.int (val (true :: gt) : Nat)), .sh (.int (gt.length : Nat)), .sh (.int 0), .no] = .nx [.sh (.str (tx m)), .sh (.str (tx (true :: gt))), .sh (.int (val (true :: gt) : Nat)), .sh (.int (gt.length : Nat)), .sh (.int (val (rest gt m) : Nat)), (m.foldl (fun s b => (step gt s.1 b, Cl.sh (.str [ch b]))) (zs gt.length, Cl.no)).2] := by
    have e0 : (tx m).map (fun c => D.str [c]) = m.map fun b => D.str [ch b] := by unfold tx; rw [List.map_map]; rfl
    have hA : iAny (eVar 0) [.sh (.str (tx m)), .sh (.str (tx (true :: gt))), .sh (.int (val (true :: gt) : Nat)), .sh (.int (gt.length : Nat)), .sh (.int 0), .no] = .ok (m.map fun b => D.str [ch b]) [.sh (.str (tx m)), .sh (.str (tx (true :: gt))), .sh (.int (val (true :: gt) : Nat)), .sh (.int (gt.length : Nat)), .sh (.int 0), .no] := by
      simp only [bi_ok, bi_ex, th_ok, th_ex, lo_some, de_val, de_slot, dc_sh, dc_ow, ov_e, oc_sh, oc_ow, ol_e, kl_e, ev_e, ec_sh, ec_ow, cc_e, o2_e, k2_e, k2b_e, l2_e, o1_e, k1_e, l1_e, tb_e, kb_e, ta_e, ka_t, ka_f, to_e, ko_t, ko_f, tn_e, kn_e, ea_e, ea_t, ea_f, eo_e, eo_t, eo_f, en_e, en_k, if_e, if_t, if_f, tu_e, tu_k, ls_e, ls_k, an_e, ac_e, a1_e, a2_e, sq_e, sq_nx, sq_rt, sq_ex, sn_e, io_e, io_sh, io_no, io_ow, pu_e, pu_t, nx_e, se_e, se_k, ne_e, ne_k, ne_t, re_e, re_k, dr_e, dr_k, si_e, si_t, si_f, pa_e, pa_k, ob_some, fo_e, fo_k, ra_e, ra_k, ia_e, ia_l, ia_t, ia_s, r1_e, r1_k, r2_e, r2_k, lc_e, lc_k, lc_c, ca_e, ca_k, ou_ok, ou_ex, kw_e, kw_1, kw_2, ci_e, ci_s, ci_k, ci_g, oi_ok, oi_ex, m1_e, m1_k, m2_k, m3_k, ow_e, ow_k, ix_e, ix_0, ix_1, ix_2, ix_3, ix_4, pn_e, ps_e, ps_k, sl_e, sl_1, sl_2, sl_3, sl_4, fb_e, fb_k, ch_e, ch_1, ch_2, ch_3, ch_t, ch_f, ch_4, rs_rt, rs_nx, rs_ex, ri_rt, ri_nx, ri_ex, i0_e, ir_e, ix_e0, List.getElem?_cons_zero, List.getElem?_cons_succ, List.set_cons_zero, List.set_cons_succ, e0]
    have hfst : ∀ (m : Bs) (s : Bs × Cl), (m.foldl (fun s b => (step gt s.1 b, Cl.sh (.str [ch b]))) s).1 = run gt s.1 m := fun m => by
      induction m with
      | nil => intro s; rfl
      | cons b m ih => intro s; rw [List.foldl_cons, ih]; rfl
    have hv0 : val (zs gt.length) = 0 := by
      have : ∀ n, val (zs n) = 0 := fun n => by
        induction n with
        | zero => rfl
        | succ n ih => unfold zs at *; rw [List.replicate_succ, val_cons, ih]; rfl
      exact this _
    have key := loop_inv (k := fun b : Bool => D.str [ch b]) (fun s : Bs × Cl => [Cl.sh (.str (tx m)), .sh (.str (tx (true :: gt))), .sh (.int (val (true :: gt) : Nat)), .sh (.int (gt.length : Nat)), .sh (.int (val s.1 : Nat)), s.2]) (fun s => s.1.length = gt.length ∧ ioC (some s.2) = true) (fun s b => (step gt s.1 b, Cl.sh (.str [ch b])))
      (g := putSh 5) (fb := B1_rest_number) m (zs gt.length, Cl.no) ⟨by simp [zs], rfl⟩ ?_
    · refine (for_run hA).trans ?_
      have k1 := key.1
      dsimp only at k1
      rw [hv0, hfst] at k1
      exact k1
    · rintro ⟨r, c⟩ b ⟨hr, hc⟩ _
      dsimp only at hr hc
      refine ⟨⟨by rw [step_len hr.symm]; exact hr, rfl⟩, _, by simp only [bi_ok, bi_ex, th_ok, th_ex, lo_some, de_val, de_slot, dc_sh, dc_ow, ov_e, oc_sh, oc_ow, ol_e, kl_e, ev_e, ec_sh, ec_ow, cc_e, o2_e, k2_e, k2b_e, l2_e, o1_e, k1_e, l1_e, tb_e, kb_e, ta_e, ka_t, ka_f, to_e, ko_t, ko_f, tn_e, kn_e, ea_e, ea_t, ea_f, eo_e, eo_t, eo_f, en_e, en_k, if_e, if_t, if_f, tu_e, tu_k, ls_e, ls_k, an_e, ac_e, a1_e, a2_e, sq_e, sq_nx, sq_rt, sq_ex, sn_e, io_e, io_sh, io_no, io_ow, pu_e, pu_t, nx_e, se_e, se_k, ne_e, ne_k, ne_t, re_e, re_k, dr_e, dr_k, si_e, si_t, si_f, pa_e, pa_k, ob_some, fo_e, fo_k, ra_e, ra_k, ia_e, ia_l, ia_t, ia_s, r1_e, r1_k, r2_e, r2_k, lc_e, lc_k, lc_c, ca_e, ca_k, ou_ok, ou_ex, kw_e, kw_1, kw_2, ci_e, ci_s, ci_k, ci_g, oi_ok, oi_ex, m1_e, m1_k, m2_k, m3_k, ow_e, ow_k, ix_e, ix_0, ix_1, ix_2, ix_3, ix_4, pn_e, ps_e, ps_k, sl_e, sl_1, sl_2, sl_3, sl_4, fb_e, fb_k, ch_e, ch_1, ch_2, ch_3, ch_t, ch_f, ch_4, rs_rt, rs_nx, rs_ex, ri_rt, ri_nx, ri_ex, i0_e, ir_e, ix_e0, List.getElem?_cons_zero, List.getElem?_cons_succ, List.set_cons_zero, List.set_cons_succ, hc]; rfl, ?_⟩
      dsimp only
      have r0 : r ≠ [] := fun z => by rw [z] at hr; exact hg.ne (List.eq_nil_of_length_eq_zero hr.symm)
      have hs := val_step gt r b hr.symm r0
      have hb : gInt (.bl ([ch b] == [49])) = some (.int ((if b then 1 else 0 : Nat) : Int)) := by cases b <;> rfl
      have hmul : gMul (.int 2) (.int (val r : Nat)) = some (.int (2 * (val r : Nat))) := g_mulI (.inl (by omega))
      have hsh : gShr (.int (2 * (val r : Nat) + ((if b then 1 else 0 : Nat) : Int))) (.int (gt.length : Nat)) = some (.int (((2 * val r + (if b then 1 else 0)) / 2 ^ gt.length : Nat) : Int)) := by
        rw [g_shr (by omega)]
        simp
      generalize hn : 2 * val r + (if b then 1 else 0) = n at *
      have hsum : (2 * (val r : Nat) : Int) + ((if b then 1 else 0 : Nat) : Int) = (n : Nat) := by rw [← hn]; simp
      rw [hsum] at hsh
      by_cases hz : n / 2 ^ gt.length = 0
      · have hz' : (!(((n / 2 ^ gt.length : Nat) : Int) == 0)) = false := by rw [hz]; rfl
        rw [if_neg (by simpa using hz)] at hs
        simp only [B1_rest_number, g_eqS, hb, hmul, g_addI, hsum, hsh, g_neI, hz', hs, bi_ok, bi_ex, th_ok, th_ex, lo_some, de_val, de_slot, dc_sh, dc_ow, ov_e, oc_sh, oc_ow, ol_e, kl_e, ev_e, ec_sh, ec_ow, cc_e, o2_e, k2_e, k2b_e, l2_e, o1_e, k1_e, l1_e, tb_e, kb_e, ta_e, ka_t, ka_f, to_e, ko_t, ko_f, tn_e, kn_e, ea_e, ea_t, ea_f, eo_e, eo_t, eo_f, en_e, en_k, if_e, if_t, if_f, tu_e, tu_k, ls_e, ls_k, an_e, ac_e, a1_e, a2_e, sq_e, sq_nx, sq_rt, sq_ex, sn_e, io_e, io_sh, io_no, io_ow, pu_e, pu_t, nx_e, se_e, se_k, ne_e, ne_k, ne_t, re_e, re_k, dr_e, dr_k, si_e, si_t, si_f, pa_e, pa_k, ob_some, fo_e, fo_k, ra_e, ra_k, ia_e, ia_l, ia_t, ia_s, r1_e, r1_k, r2_e, r2_k, lc_e, lc_k, lc_c, ca_e, ca_k, ou_ok, ou_ex, kw_e, kw_1, kw_2, ci_e, ci_s, ci_k, ci_g, oi_ok, oi_ex, m1_e, m1_k, m2_k, m3_k, ow_e, ow_k, ix_e, ix_0, ix_1, ix_2, ix_3, ix_4, pn_e, ps_e, ps_k, sl_e, sl_1, sl_2, sl_3, sl_4, fb_e, fb_k, ch_e, ch_1, ch_2, ch_3, ch_t, ch_f, ch_4, rs_rt, rs_nx, rs_ex, ri_rt, ri_nx, ri_ex, i0_e, ir_e, ix_e0, List.getElem?_cons_zero, List.getElem?_cons_succ, List.set_cons_zero, List.set_cons_succ]
      · have hz' : (!(((n / 2 ^ gt.length : Nat) : Int) == 0)) = true := by
          rw [Bool.not_eq_true', beq_eq_false_iff_ne]
          omega
        rw [if_pos hz] at hs
        have hx : gXor (.int (n : Nat)) (.int (val (true :: gt) : Nat)) = some (.int (val (step gt r b) : Nat)) := by
          rw [g_xor, Bits.bitXor_pp (by omega) (by omega), hs]
          simp
        simp only [B1_rest_number, g_eqS, hb, hmul, g_addI, hsum, hsh, g_neI, hz', hx, bi_ok, bi_ex, th_ok, th_ex, lo_some, de_val, de_slot, dc_sh, dc_ow, ov_e, oc_sh, oc_ow, ol_e, kl_e, ev_e, ec_sh, ec_ow, cc_e, o2_e, k2_e, k2b_e, l2_e, o1_e, k1_e, l1_e, tb_e, kb_e, ta_e, ka_t, ka_f, to_e, ko_t, ko_f, tn_e, kn_e, ea_e, ea_t, ea_f, eo_e, eo_t, eo_f, en_e, en_k, if_e, if_t, if_f, tu_e, tu_k, ls_e, ls_k, an_e, ac_e, a1_e, a2_e, sq_e, sq_nx, sq_rt, sq_ex, sn_e, io_e, io_sh, io_no, io_ow, pu_e, pu_t, nx_e, se_e, se_k, ne_e, ne_k, ne_t, re_e, re_k, dr_e, dr_k, si_e, si_t, si_f, pa_e, pa_k, ob_some, fo_e, fo_k, ra_e, ra_k, ia_e, ia_l, ia_t, ia_s, r1_e, r1_k, r2_e, r2_k, lc_e, lc_k, lc_c, ca_e, ca_k, ou_ok, ou_ex, kw_e, kw_1, kw_2, ci_e, ci_s, ci_k, ci_g, oi_ok, oi_ex, m1_e, m1_k, m2_k, m3_k, ow_e, ow_k, ix_e, ix_0, ix_1, ix_2, ix_3, ix_4, pn_e, ps_e, ps_k, sl_e, sl_1, sl_2, sl_3, sl_4, fb_e, fb_k, ch_e, ch_1, ch_2, ch_3, ch_t, ch_f, ch_4, rs_rt, rs_nx, rs_ex, ri_rt, ri_nx, ri_ex, i0_e, ir_e, ix_e0, List.getElem?_cons_zero, List.getElem?_cons_succ, List.set_cons_zero, List.set_cons_succ]
  simp only [b_rest_number, h1, h2, hloop, bi_ok, bi_ex, th_ok, th_ex, lo_some, de_val, de_slot, dc_sh, dc_ow, ov_e, oc_sh, oc_ow, ol_e, kl_e, ev_e, ec_sh, ec_ow, cc_e, o2_e, k2_e, k2b_e, l2_e, o1_e, k1_e, l1_e, tb_e, kb_e, ta_e, ka_t, ka_f, to_e, ko_t, ko_f, tn_e, kn_e, ea_e, ea_t, ea_f, eo_e, eo_t, eo_f, en_e, en_k, if_e, if_t, if_f, tu_e, tu_k, ls_e, ls_k, an_e, ac_e, a1_e, a2_e, sq_e, sq_nx, sq_rt, sq_ex, sn_e, io_e, io_sh, io_no, io_ow, pu_e, pu_t, nx_e, se_e, se_k, ne_e, ne_k, ne_t, re_e, re_k, dr_e, dr_k, si_e, si_t, si_f, pa_e, pa_k, ob_some, fo_e, fo_k, ra_e, ra_k, ia_e, ia_l, ia_t, ia_s, r1_e, r1_k, r2_e, r2_k, lc_e, lc_k, lc_c, ca_e, ca_k, ou_ok, ou_ex, kw_e, kw_1, kw_2, ci_e, ci_s, ci_k, ci_g, oi_ok, oi_ex, m1_e, m1_k, m2_k, m3_k, ow_e, ow_k, ix_e, ix_0, ix_1, ix_2, ix_3, ix_4, pn_e, ps_e, ps_k, sl_e, sl_1, sl_2, sl_3, sl_4, fb_e, fb_k, ch_e, ch_1, ch_2, ch_3, ch_t, ch_f, ch_4, rs_rt, rs_nx, rs_ex, ri_rt, ri_nx, ri_ex, i0_e, ir_e, ix_e0, List.getElem?_cons_zero, List.getElem?_cons_succ, List.set_cons_zero, List.set_cons_succ]
theorem p_bits_of_rest (gt r : Bs) (hg : Gd gt) (hr : r.length = gt.length) : G_bits_of_rest [.int (val r : Nat), .str (tx (true :: gt))] = .ok (.str (tx r)) := by
  show resD (b_bits_of_rest [.sh (.int (val r : Nat)), .sh (.str (tx (true :: gt)))]) = _
  have hl := hg.len
  have h2 := p_degree (tx (true :: gt)) (by rw [tx_len]; simp; omega)
  have e2 : (((tx (true :: gt)).length : Int) - 1) = (r.length : Nat) := by rw [tx_len]; simp [hr]
  rw [e2] at h2
  have r0 : r ≠ [] := fun z => by rw [z] at hr; exact hg.ne (List.eq_nil_of_length_eq_zero hr.symm)
  obtain ⟨k, s, e, hs, hb⟩ := bin_val r r0
  have hbl : (Fb.binL (val r)).length ≤ 1000 := by
    rw [hb, tx_len]
    have : r.length = k + s.length := by rw [e]; simp [zs]
    omega
  have h3 : gBin (.int (val r : Nat)) = some (.str (Fb.binL (val r))) := by
    show (if 0 ≤ ((val r : Nat) : Int) ∧ (Fb.binL ((val r : Nat) : Int).toNat).length ≤ 1000 then some (D.str (Fb.binL ((val r : Nat) : Int).toNat)) else none) = _
    rw [Int.toNat_natCast, if_pos ⟨by omega, hbl⟩]
  have h4 : gZfill (Fb.binL (val r)) (.int (r.length : Nat)) = some (.str (tx r)) := by
    show (if 0 ≤ ((r.length : Nat) : Int) ∧ ((r.length : Nat) : Int) ≤ 100000 then some (D.str (Txt.zfill (SX.S (Fb.binL (val r))) (r.length : Nat)).cps.toList) else none) = _
    rw [if_pos ⟨by omega, by omega⟩, zfill_val r r0]
  simp only [b_bits_of_rest, h2, h3, h4, bi_ok, bi_ex, th_ok, th_ex, lo_some, de_val, de_slot, dc_sh, dc_ow, ov_e, oc_sh, oc_ow, ol_e, kl_e, ev_e, ec_sh, ec_ow, cc_e, o2_e, k2_e, k2b_e, l2_e, o1_e, k1_e, l1_e, tb_e, kb_e, ta_e, ka_t, ka_f, to_e, ko_t, ko_f, tn_e, kn_e, ea_e, ea_t, ea_f, eo_e, eo_t, eo_f, en_e, en_k, if_e, if_t, if_f, tu_e, tu_k, ls_e, ls_k, an_e, ac_e, a1_e, a2_e, sq_e, sq_nx, sq_rt, sq_ex, sn_e, io_e, io_sh, io_no, io_ow, pu_e, pu_t, nx_e, se_e, se_k, ne_e, ne_k, ne_t, re_e, re_k, dr_e, dr_k, si_e, si_t, si_f, pa_e, pa_k, ob_some, fo_e, fo_k, ra_e, ra_k, ia_e, ia_l, ia_t, ia_s, r1_e, r1_k, r2_e, r2_k, lc_e, lc_k, lc_c, ca_e, ca_k, ou_ok, ou_ex, kw_e, kw_1, kw_2, ci_e, ci_s, ci_k, ci_g, oi_ok, oi_ex, m1_e, m1_k, m2_k, m3_k, ow_e, ow_k, ix_e, ix_0, ix_1, ix_2, ix_3, ix_4, pn_e, ps_e, ps_k, sl_e, sl_1, sl_2, sl_3, sl_4, fb_e, fb_k, ch_e, ch_1, ch_2, ch_3, ch_t, ch_f, ch_4, rs_rt, rs_nx, rs_ex, ri_rt, ri_nx, ri_ex, i0_e, ir_e, ix_e0, List.getElem?_cons_zero, List.getElem?_cons_succ, List.set_cons_zero, List.set_cons_succ]
theorem p_rest_of (gt m : Bs) (hg : Gd gt) (hm : m.length ≤ 5000) : G_rest_of [.str (tx m), .str (tx (true :: gt))] = .ok (.str (tx (rest gt m))) := by
  show resD (b_rest_of [.sh (.str (tx m)), .sh (.str (tx (true :: gt)))]) = _
  simp only [b_rest_of, p_rest_number gt m hg hm, p_bits_of_rest gt _ hg (rest_len gt m), bi_ok, bi_ex, th_ok, th_ex, lo_some, de_val, de_slot, dc_sh, dc_ow, ov_e, oc_sh, oc_ow, ol_e, kl_e, ev_e, ec_sh, ec_ow, cc_e, o2_e, k2_e, k2b_e, l2_e, o1_e, k1_e, l1_e, tb_e, kb_e, ta_e, ka_t, ka_f, to_e, ko_t, ko_f, tn_e, kn_e, ea_e, ea_t, ea_f, eo_e, eo_t, eo_f, en_e, en_k, if_e, if_t, if_f, tu_e, tu_k, ls_e, ls_k, an_e, ac_e, a1_e, a2_e, sq_e, sq_nx, sq_rt, sq_ex, sn_e, io_e, io_sh, io_no, io_ow, pu_e, pu_t, nx_e, se_e, se_k, ne_e, ne_k, ne_t, re_e, re_k, dr_e, dr_k, si_e, si_t, si_f, pa_e, pa_k, ob_some, fo_e, fo_k, ra_e, ra_k, ia_e, ia_l, ia_t, ia_s, r1_e, r1_k, r2_e, r2_k, lc_e, lc_k, lc_c, ca_e, ca_k, ou_ok, ou_ex, kw_e, kw_1, kw_2, ci_e, ci_s, ci_k, ci_g, oi_ok, oi_ex, m1_e, m1_k, m2_k, m3_k, ow_e, ow_k, ix_e, ix_0, ix_1, ix_2, ix_3, ix_4, pn_e, ps_e, ps_k, sl_e, sl_1, sl_2, sl_3, sl_4, fb_e, fb_k, ch_e, ch_1, ch_2, ch_3, ch_t, ch_f, ch_4, rs_rt, rs_nx, rs_ex, ri_rt, ri_nx, ri_ex, i0_e, ir_e, ix_e0, List.getElem?_cons_zero, List.getElem?_cons_succ, List.set_cons_zero, List.set_cons_succ]
theorem Gd.is {gt : Bs} (hg : Gd gt) : G_is_guard [.str (tx (true :: gt))] = .ok (.bl true) := by
  have := hg.len
  rw [p_is_guard _ (by rw [tx_len]; simp; omega), hg.gd]
theorem is_tx (m : Bs) (hm : m.length ≤ 5000) : G_is_bits [.str (tx m)] = .ok (.bl true) := by
  rw [p_is_bits _ (by rw [tx_len]; omega), bin_tx]
theorem p_rest_by (gt m : Bs) (hg : Gd gt) (hm : m.length ≤ 5000) : G_rest_by [.str (tx (true :: gt)), .str (tx m)] = .ok (.str (tx (rest gt m))) := by
  show resD (b_rest_by [.sh (.str (tx (true :: gt))), .sh (.str (tx m))]) = _
  simp only [b_rest_by, p_need_guard _ hg.is, p_need_bits _ _ (is_tx m hm), p_rest_of gt m hg hm, bi_ok, bi_ex, th_ok, th_ex, lo_some, de_val, de_slot, dc_sh, dc_ow, ov_e, oc_sh, oc_ow, ol_e, kl_e, ev_e, ec_sh, ec_ow, cc_e, o2_e, k2_e, k2b_e, l2_e, o1_e, k1_e, l1_e, tb_e, kb_e, ta_e, ka_t, ka_f, to_e, ko_t, ko_f, tn_e, kn_e, ea_e, ea_t, ea_f, eo_e, eo_t, eo_f, en_e, en_k, if_e, if_t, if_f, tu_e, tu_k, ls_e, ls_k, an_e, ac_e, a1_e, a2_e, sq_e, sq_nx, sq_rt, sq_ex, sn_e, io_e, io_sh, io_no, io_ow, pu_e, pu_t, nx_e, se_e, se_k, ne_e, ne_k, ne_t, re_e, re_k, dr_e, dr_k, si_e, si_t, si_f, pa_e, pa_k, ob_some, fo_e, fo_k, ra_e, ra_k, ia_e, ia_l, ia_t, ia_s, r1_e, r1_k, r2_e, r2_k, lc_e, lc_k, lc_c, ca_e, ca_k, ou_ok, ou_ex, kw_e, kw_1, kw_2, ci_e, ci_s, ci_k, ci_g, oi_ok, oi_ex, m1_e, m1_k, m2_k, m3_k, ow_e, ow_k, ix_e, ix_0, ix_1, ix_2, ix_3, ix_4, pn_e, ps_e, ps_k, sl_e, sl_1, sl_2, sl_3, sl_4, fb_e, fb_k, ch_e, ch_1, ch_2, ch_3, ch_t, ch_f, ch_4, rs_rt, rs_nx, rs_ex, ri_rt, ri_nx, ri_ex, i0_e, ir_e, ix_e0, List.getElem?_cons_zero, List.getElem?_cons_succ, List.set_cons_zero, List.set_cons_succ]
theorem p_rest_by_g (g b : D) (h : G_is_guard [g] = .ok (.bl false)) : G_rest_by [g, b] = .ex ⟨"BadBits", ["part"], [.str [103, 117, 97, 114, 100]]⟩ := by
  show resD (b_rest_by [.sh g, .sh b]) = _
  simp only [b_rest_by, p_need_guard_no _ h, bi_ok, bi_ex, th_ok, th_ex, lo_some, de_val, de_slot, dc_sh, dc_ow, ov_e, oc_sh, oc_ow, ol_e, kl_e, ev_e, ec_sh, ec_ow, cc_e, o2_e, k2_e, k2b_e, l2_e, o1_e, k1_e, l1_e, tb_e, kb_e, ta_e, ka_t, ka_f, to_e, ko_t, ko_f, tn_e, kn_e, ea_e, ea_t, ea_f, eo_e, eo_t, eo_f, en_e, en_k, if_e, if_t, if_f, tu_e, tu_k, ls_e, ls_k, an_e, ac_e, a1_e, a2_e, sq_e, sq_nx, sq_rt, sq_ex, sn_e, io_e, io_sh, io_no, io_ow, pu_e, pu_t, nx_e, se_e, se_k, ne_e, ne_k, ne_t, re_e, re_k, dr_e, dr_k, si_e, si_t, si_f, pa_e, pa_k, ob_some, fo_e, fo_k, ra_e, ra_k, ia_e, ia_l, ia_t, ia_s, r1_e, r1_k, r2_e, r2_k, lc_e, lc_k, lc_c, ca_e, ca_k, ou_ok, ou_ex, kw_e, kw_1, kw_2, ci_e, ci_s, ci_k, ci_g, oi_ok, oi_ex, m1_e, m1_k, m2_k, m3_k, ow_e, ow_k, ix_e, ix_0, ix_1, ix_2, ix_3, ix_4, pn_e, ps_e, ps_k, sl_e, sl_1, sl_2, sl_3, sl_4, fb_e, fb_k, ch_e, ch_1, ch_2, ch_3, ch_t, ch_f, ch_4, rs_rt, rs_nx, rs_ex, ri_rt, ri_nx, ri_ex, i0_e, ir_e, ix_e0, List.getElem?_cons_zero, List.getElem?_cons_succ, List.set_cons_zero, List.set_cons_succ]
theorem p_rest_by_b (g b : D) (hg : G_is_guard [g] = .ok (.bl true)) (h : G_is_bits [b] = .ok (.bl false)) : G_rest_by [g, b] = .ex ⟨"BadBits", ["part"], [.str [98, 105, 116, 115]]⟩ := by
  show resD (b_rest_by [.sh g, .sh b]) = _
  simp only [b_rest_by, p_need_guard _ hg, p_need_bits_no _ _ h, bi_ok, bi_ex, th_ok, th_ex, lo_some, de_val, de_slot, dc_sh, dc_ow, ov_e, oc_sh, oc_ow, ol_e, kl_e, ev_e, ec_sh, ec_ow, cc_e, o2_e, k2_e, k2b_e, l2_e, o1_e, k1_e, l1_e, tb_e, kb_e, ta_e, ka_t, ka_f, to_e, ko_t, ko_f, tn_e, kn_e, ea_e, ea_t, ea_f, eo_e, eo_t, eo_f, en_e, en_k, if_e, if_t, if_f, tu_e, tu_k, ls_e, ls_k, an_e, ac_e, a1_e, a2_e, sq_e, sq_nx, sq_rt, sq_ex, sn_e, io_e, io_sh, io_no, io_ow, pu_e, pu_t, nx_e, se_e, se_k, ne_e, ne_k, ne_t, re_e, re_k, dr_e, dr_k, si_e, si_t, si_f, pa_e, pa_k, ob_some, fo_e, fo_k, ra_e, ra_k, ia_e, ia_l, ia_t, ia_s, r1_e, r1_k, r2_e, r2_k, lc_e, lc_k, lc_c, ca_e, ca_k, ou_ok, ou_ex, kw_e, kw_1, kw_2, ci_e, ci_s, ci_k, ci_g, oi_ok, oi_ex, m1_e, m1_k, m2_k, m3_k, ow_e, ow_k, ix_e, ix_0, ix_1, ix_2, ix_3, ix_4, pn_e, ps_e, ps_k, sl_e, sl_1, sl_2, sl_3, sl_4, fb_e, fb_k, ch_e, ch_1, ch_2, ch_3, ch_t, ch_f, ch_4, rs_rt, rs_nx, rs_ex, ri_rt, ri_nx, ri_ex, i0_e, ir_e, ix_e0, List.getElem?_cons_zero, List.getElem?_cons_succ, List.set_cons_zero, List.set_cons_succ]
theorem flat48 (n : Nat) : (List.replicate n ([48] : List Nat)).flatten = List.replicate n 48 := by
  induction n with
  | zero => rfl
  | succ n ih => rw [List.replicate_succ, List.flatten_cons, ih, List.replicate_succ]; rfl
theorem p_guarded (gt m : Bs) (hg : Gd gt) (hm : m.length ≤ 4000) : G_guarded [.str (tx m), .str (tx (true :: gt))] = .ok (.str (tx (m ++ rest gt (m ++ zs gt.length)))) := by
  show resD (b_guarded [.sh (.str (tx m)), .sh (.str (tx (true :: gt)))]) = _
  have hl := hg.len
  have h2 := p_degree (tx (true :: gt)) (by rw [tx_len]; simp; omega)
  have e2 : (((tx (true :: gt)).length : Int) - 1) = (gt.length : Nat) := by rw [tx_len]; simp
  rw [e2] at h2
  have h3 : gMul (.str [48]) (.int (gt.length : Nat)) = some (.str (tx (zs gt.length))) := by
    rw [g_mulS ⟨by omega, by omega, by simp; omega⟩, Int.toNat_natCast, flat48, tx_zs]
  have h4 : gAdd (.str (tx m)) (.str (tx (zs gt.length))) = some (.str (tx (m ++ zs gt.length))) := by
    rw [g_addS (by rw [tx_len, tx_len]; simp [zs]; omega), tx_app]
  have h5 : gAdd (.str (tx m)) (.str (tx (rest gt (m ++ zs gt.length)))) = some (.str (tx (m ++ rest gt (m ++ zs gt.length)))) := by
    rw [g_addS (by rw [tx_len, tx_len, rest_len]; omega), tx_app]
  simp only [b_guarded, h2, h3, h4, p_rest_of gt (m ++ zs gt.length) hg (by simp [zs]; omega), h5, bi_ok, bi_ex, th_ok, th_ex, lo_some, de_val, de_slot, dc_sh, dc_ow, ov_e, oc_sh, oc_ow, ol_e, kl_e, ev_e, ec_sh, ec_ow, cc_e, o2_e, k2_e, k2b_e, l2_e, o1_e, k1_e, l1_e, tb_e, kb_e, ta_e, ka_t, ka_f, to_e, ko_t, ko_f, tn_e, kn_e, ea_e, ea_t, ea_f, eo_e, eo_t, eo_f, en_e, en_k, if_e, if_t, if_f, tu_e, tu_k, ls_e, ls_k, an_e, ac_e, a1_e, a2_e, sq_e, sq_nx, sq_rt, sq_ex, sn_e, io_e, io_sh, io_no, io_ow, pu_e, pu_t, nx_e, se_e, se_k, ne_e, ne_k, ne_t, re_e, re_k, dr_e, dr_k, si_e, si_t, si_f, pa_e, pa_k, ob_some, fo_e, fo_k, ra_e, ra_k, ia_e, ia_l, ia_t, ia_s, r1_e, r1_k, r2_e, r2_k, lc_e, lc_k, lc_c, ca_e, ca_k, ou_ok, ou_ex, kw_e, kw_1, kw_2, ci_e, ci_s, ci_k, ci_g, oi_ok, oi_ex, m1_e, m1_k, m2_k, m3_k, ow_e, ow_k, ix_e, ix_0, ix_1, ix_2, ix_3, ix_4, pn_e, ps_e, ps_k, sl_e, sl_1, sl_2, sl_3, sl_4, fb_e, fb_k, ch_e, ch_1, ch_2, ch_3, ch_t, ch_f, ch_4, rs_rt, rs_nx, rs_ex, ri_rt, ri_nx, ri_ex, i0_e, ir_e, ix_e0, List.getElem?_cons_zero, List.getElem?_cons_succ, List.set_cons_zero, List.set_cons_succ]
theorem p_with_guard (gt m : Bs) (hg : Gd gt) (hm : m.length ≤ 4000) : G_with_guard [.str (tx (true :: gt)), .str (tx m)] = .ok (.str (tx (m ++ rest gt (m ++ zs gt.length)))) := by
  show resD (b_with_guard [.sh (.str (tx (true :: gt))), .sh (.str (tx m))]) = _
  simp only [b_with_guard, p_need_guard _ hg.is, p_need_bits _ _ (is_tx m (by omega)), p_guarded gt m hg hm, bi_ok, bi_ex, th_ok, th_ex, lo_some, de_val, de_slot, dc_sh, dc_ow, ov_e, oc_sh, oc_ow, ol_e, kl_e, ev_e, ec_sh, ec_ow, cc_e, o2_e, k2_e, k2b_e, l2_e, o1_e, k1_e, l1_e, tb_e, kb_e, ta_e, ka_t, ka_f, to_e, ko_t, ko_f, tn_e, kn_e, ea_e, ea_t, ea_f, eo_e, eo_t, eo_f, en_e, en_k, if_e, if_t, if_f, tu_e, tu_k, ls_e, ls_k, an_e, ac_e, a1_e, a2_e, sq_e, sq_nx, sq_rt, sq_ex, sn_e, io_e, io_sh, io_no, io_ow, pu_e, pu_t, nx_e, se_e, se_k, ne_e, ne_k, ne_t, re_e, re_k, dr_e, dr_k, si_e, si_t, si_f, pa_e, pa_k, ob_some, fo_e, fo_k, ra_e, ra_k, ia_e, ia_l, ia_t, ia_s, r1_e, r1_k, r2_e, r2_k, lc_e, lc_k, lc_c, ca_e, ca_k, ou_ok, ou_ex, kw_e, kw_1, kw_2, ci_e, ci_s, ci_k, ci_g, oi_ok, oi_ex, m1_e, m1_k, m2_k, m3_k, ow_e, ow_k, ix_e, ix_0, ix_1, ix_2, ix_3, ix_4, pn_e, ps_e, ps_k, sl_e, sl_1, sl_2, sl_3, sl_4, fb_e, fb_k, ch_e, ch_1, ch_2, ch_3, ch_t, ch_f, ch_4, rs_rt, rs_nx, rs_ex, ri_rt, ri_nx, ri_ex, i0_e, ir_e, ix_e0, List.getElem?_cons_zero, List.getElem?_cons_succ, List.set_cons_zero, List.set_cons_succ]
theorem p_with_guard_g (g b : D) (h : G_is_guard [g] = .ok (.bl false)) : G_with_guard [g, b] = .ex ⟨"BadBits", ["part"], [.str [103, 117, 97, 114, 100]]⟩ := by
  show resD (b_with_guard [.sh g, .sh b]) = _
  simp only [b_with_guard, p_need_guard_no _ h, bi_ok, bi_ex, th_ok, th_ex, lo_some, de_val, de_slot, dc_sh, dc_ow, ov_e, oc_sh, oc_ow, ol_e, kl_e, ev_e, ec_sh, ec_ow, cc_e, o2_e, k2_e, k2b_e, l2_e, o1_e, k1_e, l1_e, tb_e, kb_e, ta_e, ka_t, ka_f, to_e, ko_t, ko_f, tn_e, kn_e, ea_e, ea_t, ea_f, eo_e, eo_t, eo_f, en_e, en_k, if_e, if_t, if_f, tu_e, tu_k, ls_e, ls_k, an_e, ac_e, a1_e, a2_e, sq_e, sq_nx, sq_rt, sq_ex, sn_e, io_e, io_sh, io_no, io_ow, pu_e, pu_t, nx_e, se_e, se_k, ne_e, ne_k, ne_t, re_e, re_k, dr_e, dr_k, si_e, si_t, si_f, pa_e, pa_k, ob_some, fo_e, fo_k, ra_e, ra_k, ia_e, ia_l, ia_t, ia_s, r1_e, r1_k, r2_e, r2_k, lc_e, lc_k, lc_c, ca_e, ca_k, ou_ok, ou_ex, kw_e, kw_1, kw_2, ci_e, ci_s, ci_k, ci_g, oi_ok, oi_ex, m1_e, m1_k, m2_k, m3_k, ow_e, ow_k, ix_e, ix_0, ix_1, ix_2, ix_3, ix_4, pn_e, ps_e, ps_k, sl_e, sl_1, sl_2, sl_3, sl_4, fb_e, fb_k, ch_e, ch_1, ch_2, ch_3, ch_t, ch_f, ch_4, rs_rt, rs_nx, rs_ex, ri_rt, ri_nx, ri_ex, i0_e, ir_e, ix_e0, List.getElem?_cons_zero, List.getElem?_cons_succ, List.set_cons_zero, List.set_cons_succ]
theorem p_with_guard_b (g b : D) (hg : G_is_guard [g] = .ok (.bl true)) (h : G_is_bits [b] = .ok (.bl false)) : G_with_guard [g, b] = .ex ⟨"BadBits", ["part"], [.str [98, 105, 116, 115]]⟩ := by
  show resD (b_with_guard [.sh g, .sh b]) = _
  simp only [b_with_guard, p_need_guard _ hg, p_need_bits_no _ _ h, bi_ok, bi_ex, th_ok, th_ex, lo_some, de_val, de_slot, dc_sh, dc_ow, ov_e, oc_sh, oc_ow, ol_e, kl_e, ev_e, ec_sh, ec_ow, cc_e, o2_e, k2_e, k2b_e, l2_e, o1_e, k1_e, l1_e, tb_e, kb_e, ta_e, ka_t, ka_f, to_e, ko_t, ko_f, tn_e, kn_e, ea_e, ea_t, ea_f, eo_e, eo_t, eo_f, en_e, en_k, if_e, if_t, if_f, tu_e, tu_k, ls_e, ls_k, an_e, ac_e, a1_e, a2_e, sq_e, sq_nx, sq_rt, sq_ex, sn_e, io_e, io_sh, io_no, io_ow, pu_e, pu_t, nx_e, se_e, se_k, ne_e, ne_k, ne_t, re_e, re_k, dr_e, dr_k, si_e, si_t, si_f, pa_e, pa_k, ob_some, fo_e, fo_k, ra_e, ra_k, ia_e, ia_l, ia_t, ia_s, r1_e, r1_k, r2_e, r2_k, lc_e, lc_k, lc_c, ca_e, ca_k, ou_ok, ou_ex, kw_e, kw_1, kw_2, ci_e, ci_s, ci_k, ci_g, oi_ok, oi_ex, m1_e, m1_k, m2_k, m3_k, ow_e, ow_k, ix_e, ix_0, ix_1, ix_2, ix_3, ix_4, pn_e, ps_e, ps_k, sl_e, sl_1, sl_2, sl_3, sl_4, fb_e, fb_k, ch_e, ch_1, ch_2, ch_3, ch_t, ch_f, ch_4, rs_rt, rs_nx, rs_ex, ri_rt, ri_nx, ri_ex, i0_e, ir_e, ix_e0, List.getElem?_cons_zero, List.getElem?_cons_succ, List.set_cons_zero, List.set_cons_succ]
/-! ### the law's own rest -/
def bi (l : Bs) : List D := l.map fun b => D.int (if b then 1 else 0)
def bd (b : Bool) : D := .int (if b then 1 else 0)
theorem bi_eq (l : Bs) : bi l = l.map bd := rfl
theorem bi_at {l : Bs} {i : Nat} (h : i < l.length) : atI (bi l) (i : Nat) = some (bd (g0 l i)) := by
  rw [atI_pos (by unfold bi; rw [List.length_map]; exact h)]
  unfold bi g0
  rw [List.getElem_map, List.getD_eq_getElem?_getD, List.getElem?_eq_getElem h]
  rfl
theorem tx_at {l : Bs} {i : Nat} (h : i < l.length) (hl : l.length ≤ 10000) : gIx (.str (tx l)) (.int (i : Nat)) = some (.str [ch (g0 l i)]) := by
  rw [g_ixS (by rw [tx_len]; omega), atI_pos (by rw [tx_len]; exact h)]
  unfold tx g0
  rw [List.getElem_map, List.getD_eq_getElem?_getD, List.getElem?_eq_getElem h]
  rfl
theorem bi_set (l : Bs) (i : Nat) (b : Bool) : (bi l).set i (bd b) = bi (l.set i b) := by
  unfold bi
  rw [List.map_set]
  rfl
theorem bd_add (x y : Bool) : gMod (.int ((if x then 1 else 0) + (if y then 1 else 0))) (.int 2) = some (bd (x ^^ y)) := by
  rw [g_mod (by decide)]
  cases x <;> cases y <;> rfl
theorem ch_eq (b : Bool) : ([ch b] == [49]) = b := by cases b <;> rfl
theorem p_put {g l : Bs} {a k : Nat} {c4 : Cl} {r : Ds} (h : a + k < l.length) (hk : k < g.length) (hg : g.length ≤ 17) {x : D} {c2 c6 c7 : Cl} :
    B2__law_rest [.sh x, .sh (.str (tx g)), c2, .ow false (.lst (bi l)), .sh (.int (a : Nat)), .sh (.int (k : Nat)), c6, c7] = .nx [.sh x, .sh (.str (tx g)), c2, .ow false (.lst (bi (put1 g a l k))), .sh (.int (a : Nat)), .sh (.int (k : Nat)), c6, c7] := by
  have e1 : ((a : Nat) : Int) + (k : Nat) = ((a + k : Nat) : Int) := by simp
  have h1 := bi_at h
  have h2 := tx_at hk (by omega)
  have h3 : ixN (bi l).length (((a + k : Nat)) : Int) = some (a + k) := ixN_pos (by unfold bi; rw [List.length_map]; exact h)
  have h4 : gInt (.bl (g0 g k)) = some (.int (if g0 g k then 1 else 0)) := rfl
  simp only [B2__law_rest, g_addI, e1, g_ixL, h1, h2, h3, g_eqS, ch_eq, h4, bd, bd_add, bi_ok, bi_ex, th_ok, th_ex, lo_some, de_val, de_slot, dc_sh, dc_ow, ov_e, oc_sh, oc_ow, ol_e, kl_e, ev_e, ec_sh, ec_ow, cc_e, o2_e, k2_e, k2b_e, l2_e, o1_e, k1_e, l1_e, tb_e, kb_e, ta_e, ka_t, ka_f, to_e, ko_t, ko_f, tn_e, kn_e, ea_e, ea_t, ea_f, eo_e, eo_t, eo_f, en_e, en_k, if_e, if_t, if_f, tu_e, tu_k, ls_e, ls_k, an_e, ac_e, a1_e, a2_e, sq_e, sq_nx, sq_rt, sq_ex, sn_e, io_e, io_sh, io_no, io_ow, pu_e, pu_t, nx_e, se_e, se_k, ne_e, ne_k, ne_t, re_e, re_k, dr_e, dr_k, si_e, si_t, si_f, pa_e, pa_k, ob_some, fo_e, fo_k, ra_e, ra_k, ia_e, ia_l, ia_t, ia_s, r1_e, r1_k, r2_e, r2_k, lc_e, lc_k, lc_c, ca_e, ca_k, ou_ok, ou_ex, kw_e, kw_1, kw_2, ci_e, ci_s, ci_k, ci_g, oi_ok, oi_ex, m1_e, m1_k, m2_k, m3_k, ow_e, ow_k, ix_e, ix_0, ix_1, ix_2, ix_3, ix_4, pn_e, ps_e, ps_k, sl_e, sl_1, sl_2, sl_3, sl_4, fb_e, fb_k, ch_e, ch_1, ch_2, ch_3, ch_t, ch_f, ch_4, rs_rt, rs_nx, rs_ex, ri_rt, ri_nx, ri_ex, i0_e, ir_e, ix_e0, List.getElem?_cons_zero, List.getElem?_cons_succ, List.set_cons_zero, List.set_cons_succ]
  have := bi_set l (a + k) (g0 l (a + k) ^^ g0 g k)
  unfold bd at this
  rw [this]
  rfl
theorem p_win {g l : Bs} {a : Nat} (h : a + g.length ≤ l.length) (hg : g.length ≤ 17) (h0 : 1 ≤ g.length) (hl : l.length ≤ 10000) {x : D} {c2 c5 c6 c7 : Cl} (hc : ioC (some c5) = true) :
    ∃ c5', ioC (some c5') = true ∧ B4__law_rest [.sh x, .sh (.str (tx g)), c2, .ow false (.lst (bi l)), .sh (.int (a : Nat)), c5, c6, c7] = .nx [.sh x, .sh (.str (tx g)), c2, .ow false (.lst (bi (win g l a))), .sh (.int (a : Nat)), c5', c6, c7] := by
  have h1 := bi_at (l := l) (i := a) (by omega)
  cases hb : g0 l a with
  | false =>
    rw [hb] at h1
    refine ⟨c5, hc, ?_⟩
    have hw : win g l a = l := by unfold win; rw [hb]; rfl
    simp only [B4__law_rest, g_ixL, h1, bd, g_eqI, hw, Bool.false_eq_true, if_false, show ((0 : Int) == 1) = false from rfl, bi_ok, bi_ex, th_ok, th_ex, lo_some, de_val, de_slot, dc_sh, dc_ow, ov_e, oc_sh, oc_ow, ol_e, kl_e, ev_e, ec_sh, ec_ow, cc_e, o2_e, k2_e, k2b_e, l2_e, o1_e, k1_e, l1_e, tb_e, kb_e, ta_e, ka_t, ka_f, to_e, ko_t, ko_f, tn_e, kn_e, ea_e, ea_t, ea_f, eo_e, eo_t, eo_f, en_e, en_k, if_e, if_t, if_f, tu_e, tu_k, ls_e, ls_k, an_e, ac_e, a1_e, a2_e, sq_e, sq_nx, sq_rt, sq_ex, sn_e, io_e, io_sh, io_no, io_ow, pu_e, pu_t, nx_e, se_e, se_k, ne_e, ne_k, ne_t, re_e, re_k, dr_e, dr_k, si_e, si_t, si_f, pa_e, pa_k, ob_some, fo_e, fo_k, ra_e, ra_k, ia_e, ia_l, ia_t, ia_s, r1_e, r1_k, r2_e, r2_k, lc_e, lc_k, lc_c, ca_e, ca_k, ou_ok, ou_ex, kw_e, kw_1, kw_2, ci_e, ci_s, ci_k, ci_g, oi_ok, oi_ex, m1_e, m1_k, m2_k, m3_k, ow_e, ow_k, ix_e, ix_0, ix_1, ix_2, ix_3, ix_4, pn_e, ps_e, ps_k, sl_e, sl_1, sl_2, sl_3, sl_4, fb_e, fb_k, ch_e, ch_1, ch_2, ch_3, ch_t, ch_f, ch_4, rs_rt, rs_nx, rs_ex, ri_rt, ri_nx, ri_ex, i0_e, ir_e, ix_e0, List.getElem?_cons_zero, List.getElem?_cons_succ, List.set_cons_zero, List.set_cons_succ]
  | true =>
    rw [hb] at h1
    have hw : win g l a = (List.range g.length).foldl (put1 g a) l := by unfold win; rw [hb]; rfl
    have key := loop_inv (k := fun k : Nat => D.int (k : Int)) (fun s : Bs × Cl => [Cl.sh x, .sh (.str (tx g)), c2, .ow false (.lst (bi s.1)), .sh (.int (a : Nat)), s.2, c6, c7]) (fun s => s.1.length = l.length ∧ ioC (some s.2) = true) (fun s k => (put1 g a s.1 k, Cl.sh (.int (k : Nat)))) (g := putSh 5) (fb := B2__law_rest) (List.range g.length) (l, c5) ⟨rfl, hc⟩ ?_
    · have hfst : ∀ (ks : List Nat) (s : Bs × Cl), (ks.foldl (fun s k => (put1 g a s.1 k, Cl.sh (.int (k : Nat)))) s).1 = ks.foldl (put1 g a) s.1 := fun ks => by
        induction ks with
        | nil => intro s; rfl
        | cons k ks ih => intro s; rw [List.foldl_cons, ih]; rfl
      have hF : F3__law_rest [.sh x, .sh (.str (tx g)), c2, .ow false (.lst (bi l)), .sh (.int (a : Nat)), c5, c6, c7] = loopD (putSh 5) B2__law_rest ((List.range g.length).map fun k : Nat => D.int (k : Int)) [.sh x, .sh (.str (tx g)), c2, .ow false (.lst (bi l)), .sh (.int (a : Nat)), c5, c6, c7] := by
        refine for_run ?_
        have e1 := g_lenS (a := tx g) (by rw [tx_len]; omega)
        exact range1_run (by simp only [e1, tx_len, bi_ok, bi_ex, th_ok, th_ex, lo_some, de_val, de_slot, dc_sh, dc_ow, ov_e, oc_sh, oc_ow, ol_e, kl_e, ev_e, ec_sh, ec_ow, cc_e, o2_e, k2_e, k2b_e, l2_e, o1_e, k1_e, l1_e, tb_e, kb_e, ta_e, ka_t, ka_f, to_e, ko_t, ko_f, tn_e, kn_e, ea_e, ea_t, ea_f, eo_e, eo_t, eo_f, en_e, en_k, if_e, if_t, if_f, tu_e, tu_k, ls_e, ls_k, an_e, ac_e, a1_e, a2_e, sq_e, sq_nx, sq_rt, sq_ex, sn_e, io_e, io_sh, io_no, io_ow, pu_e, pu_t, nx_e, se_e, se_k, ne_e, ne_k, ne_t, re_e, re_k, dr_e, dr_k, si_e, si_t, si_f, pa_e, pa_k, ob_some, fo_e, fo_k, ra_e, ra_k, ia_e, ia_l, ia_t, ia_s, r1_e, r1_k, r2_e, r2_k, lc_e, lc_k, lc_c, ca_e, ca_k, ou_ok, ou_ex, kw_e, kw_1, kw_2, ci_e, ci_s, ci_k, ci_g, oi_ok, oi_ex, m1_e, m1_k, m2_k, m3_k, ow_e, ow_k, ix_e, ix_0, ix_1, ix_2, ix_3, ix_4, pn_e, ps_e, ps_k, sl_e, sl_1, sl_2, sl_3, sl_4, fb_e, fb_k, ch_e, ch_1, ch_2, ch_3, ch_t, ch_f, ch_4, rs_rt, rs_nx, rs_ex, ri_rt, ri_nx, ri_ex, i0_e, ir_e, ix_e0, List.getElem?_cons_zero, List.getElem?_cons_succ, List.set_cons_zero, List.set_cons_succ]) (by omega)
      have k1 := key.1
      dsimp only at k1
      rw [hfst, ← hw] at k1
      refine ⟨_, key.2.2, ?_⟩
      simp only [B4__law_rest, g_ixL, h1, bd, g_eqI, if_true, show ((1 : Int) == 1) = true from rfl, hF, k1, bi_ok, bi_ex, th_ok, th_ex, lo_some, de_val, de_slot, dc_sh, dc_ow, ov_e, oc_sh, oc_ow, ol_e, kl_e, ev_e, ec_sh, ec_ow, cc_e, o2_e, k2_e, k2b_e, l2_e, o1_e, k1_e, l1_e, tb_e, kb_e, ta_e, ka_t, ka_f, to_e, ko_t, ko_f, tn_e, kn_e, ea_e, ea_t, ea_f, eo_e, eo_t, eo_f, en_e, en_k, if_e, if_t, if_f, tu_e, tu_k, ls_e, ls_k, an_e, ac_e, a1_e, a2_e, sq_e, sq_nx, sq_rt, sq_ex, sn_e, io_e, io_sh, io_no, io_ow, pu_e, pu_t, nx_e, se_e, se_k, ne_e, ne_k, ne_t, re_e, re_k, dr_e, dr_k, si_e, si_t, si_f, pa_e, pa_k, ob_some, fo_e, fo_k, ra_e, ra_k, ia_e, ia_l, ia_t, ia_s, r1_e, r1_k, r2_e, r2_k, lc_e, lc_k, lc_c, ca_e, ca_k, ou_ok, ou_ex, kw_e, kw_1, kw_2, ci_e, ci_s, ci_k, ci_g, oi_ok, oi_ex, m1_e, m1_k, m2_k, m3_k, ow_e, ow_k, ix_e, ix_0, ix_1, ix_2, ix_3, ix_4, pn_e, ps_e, ps_k, sl_e, sl_1, sl_2, sl_3, sl_4, fb_e, fb_k, ch_e, ch_1, ch_2, ch_3, ch_t, ch_f, ch_4, rs_rt, rs_nx, rs_ex, ri_rt, ri_nx, ri_ex, i0_e, ir_e, ix_e0, List.getElem?_cons_zero, List.getElem?_cons_succ, List.set_cons_zero, List.set_cons_succ]
    · rintro ⟨l2, c⟩ k ⟨hl2, hc2⟩ hk
      dsimp only at hl2 hc2
      have hk' : k < g.length := List.mem_range.mp hk
      refine ⟨⟨by rw [put_len]; exact hl2, rfl⟩, _, by simp only [bi_ok, bi_ex, th_ok, th_ex, lo_some, de_val, de_slot, dc_sh, dc_ow, ov_e, oc_sh, oc_ow, ol_e, kl_e, ev_e, ec_sh, ec_ow, cc_e, o2_e, k2_e, k2b_e, l2_e, o1_e, k1_e, l1_e, tb_e, kb_e, ta_e, ka_t, ka_f, to_e, ko_t, ko_f, tn_e, kn_e, ea_e, ea_t, ea_f, eo_e, eo_t, eo_f, en_e, en_k, if_e, if_t, if_f, tu_e, tu_k, ls_e, ls_k, an_e, ac_e, a1_e, a2_e, sq_e, sq_nx, sq_rt, sq_ex, sn_e, io_e, io_sh, io_no, io_ow, pu_e, pu_t, nx_e, se_e, se_k, ne_e, ne_k, ne_t, re_e, re_k, dr_e, dr_k, si_e, si_t, si_f, pa_e, pa_k, ob_some, fo_e, fo_k, ra_e, ra_k, ia_e, ia_l, ia_t, ia_s, r1_e, r1_k, r2_e, r2_k, lc_e, lc_k, lc_c, ca_e, ca_k, ou_ok, ou_ex, kw_e, kw_1, kw_2, ci_e, ci_s, ci_k, ci_g, oi_ok, oi_ex, m1_e, m1_k, m2_k, m3_k, ow_e, ow_k, ix_e, ix_0, ix_1, ix_2, ix_3, ix_4, pn_e, ps_e, ps_k, sl_e, sl_1, sl_2, sl_3, sl_4, fb_e, fb_k, ch_e, ch_1, ch_2, ch_3, ch_t, ch_f, ch_4, rs_rt, rs_nx, rs_ex, ri_rt, ri_nx, ri_ex, i0_e, ir_e, ix_e0, List.getElem?_cons_zero, List.getElem?_cons_succ, List.set_cons_zero, List.set_cons_succ, hc2]; rfl, ?_⟩
      exact p_put (c4 := c) (r := []) (by omega) hk' hg
theorem strI_bit (b : Bool) : gStrI (bd b) = some (.str [ch b]) := by cases b <;> (first | rfl | decide +kernel | kernel_rfl)
theorem join_tx (l : Bs) (h : l.length ≤ 10000) : gJoin [] (.lst (l.map fun b => .str [ch b])) = some (.str (tx l)) := by
  have := g_join1 (l := tx l) (by rw [tx_len]; omega)
  unfold tx at this
  rw [List.map_map] at this
  exact this
theorem cut_from {α : Type} (xs : List α) (k : Nat) (h : k ≤ xs.length) : DV.cutD xs (some (k : Int)) none = xs.drop k := by
  unfold DV.cutD
  rw [HT.sIx_nat, HT.sIx_none, Nat.min_eq_left h]
  rw [List.take_of_length_le (by rw [List.length_drop]; omega)]
theorem r_bits (gt m : Bs) (hm : m.length ≤ 5000) : C1__law_rest [.sh (.str (tx m)), .sh (.str (tx (true :: gt))), .no, .no, .no, .no, .no, .no] = .ok (.lst (bi m)) [.sh (.str (tx m)), .sh (.str (tx (true :: gt))), .no, .no, .no, .no, .no, .no] := by
  have e0 : (tx m).map (fun c => D.str [c]) = m.map fun b => D.str [ch b] := by unfold tx; rw [List.map_map]; rfl
  refine lc_run (xs := m.map fun b => D.str [ch b]) (by simp only [bi_ok, bi_ex, th_ok, th_ex, lo_some, de_val, de_slot, dc_sh, dc_ow, ov_e, oc_sh, oc_ow, ol_e, kl_e, ev_e, ec_sh, ec_ow, cc_e, o2_e, k2_e, k2b_e, l2_e, o1_e, k1_e, l1_e, tb_e, kb_e, ta_e, ka_t, ka_f, to_e, ko_t, ko_f, tn_e, kn_e, ea_e, ea_t, ea_f, eo_e, eo_t, eo_f, en_e, en_k, if_e, if_t, if_f, tu_e, tu_k, ls_e, ls_k, an_e, ac_e, a1_e, a2_e, sq_e, sq_nx, sq_rt, sq_ex, sn_e, io_e, io_sh, io_no, io_ow, pu_e, pu_t, nx_e, se_e, se_k, ne_e, ne_k, ne_t, re_e, re_k, dr_e, dr_k, si_e, si_t, si_f, pa_e, pa_k, ob_some, fo_e, fo_k, ra_e, ra_k, ia_e, ia_l, ia_t, ia_s, r1_e, r1_k, r2_e, r2_k, lc_e, lc_k, lc_c, ca_e, ca_k, ou_ok, ou_ex, kw_e, kw_1, kw_2, ci_e, ci_s, ci_k, ci_g, oi_ok, oi_ex, m1_e, m1_k, m2_k, m3_k, ow_e, ow_k, ix_e, ix_0, ix_1, ix_2, ix_3, ix_4, pn_e, ps_e, ps_k, sl_e, sl_1, sl_2, sl_3, sl_4, fb_e, fb_k, ch_e, ch_1, ch_2, ch_3, ch_t, ch_f, ch_4, rs_rt, rs_nx, rs_ex, ri_rt, ri_nx, ri_ex, i0_e, ir_e, ix_e0, List.getElem?_cons_zero, List.getElem?_cons_succ, List.set_cons_zero, List.set_cons_succ, e0]; rfl) rfl (by rw [List.length_map]; omega) (comp_map (k := fun b => D.str [ch b]) (h := bd) m fun b _ => ⟨_, [.sh (.str (tx m)), .sh (.str (tx (true :: gt))), .sh (.str [ch b]), .no, .no, .no, .no, .no], rfl, ?_, rfl⟩) rfl
  have hb : gInt (.bl b) = some (bd b) := rfl
  simp only [g_eqS, ch_eq, hb, wipeD, bi_ok, bi_ex, th_ok, th_ex, lo_some, de_val, de_slot, dc_sh, dc_ow, ov_e, oc_sh, oc_ow, ol_e, kl_e, ev_e, ec_sh, ec_ow, cc_e, o2_e, k2_e, k2b_e, l2_e, o1_e, k1_e, l1_e, tb_e, kb_e, ta_e, ka_t, ka_f, to_e, ko_t, ko_f, tn_e, kn_e, ea_e, ea_t, ea_f, eo_e, eo_t, eo_f, en_e, en_k, if_e, if_t, if_f, tu_e, tu_k, ls_e, ls_k, an_e, ac_e, a1_e, a2_e, sq_e, sq_nx, sq_rt, sq_ex, sn_e, io_e, io_sh, io_no, io_ow, pu_e, pu_t, nx_e, se_e, se_k, ne_e, ne_k, ne_t, re_e, re_k, dr_e, dr_k, si_e, si_t, si_f, pa_e, pa_k, ob_some, fo_e, fo_k, ra_e, ra_k, ia_e, ia_l, ia_t, ia_s, r1_e, r1_k, r2_e, r2_k, lc_e, lc_k, lc_c, ca_e, ca_k, ou_ok, ou_ex, kw_e, kw_1, kw_2, ci_e, ci_s, ci_k, ci_g, oi_ok, oi_ex, m1_e, m1_k, m2_k, m3_k, ow_e, ow_k, ix_e, ix_0, ix_1, ix_2, ix_3, ix_4, pn_e, ps_e, ps_k, sl_e, sl_1, sl_2, sl_3, sl_4, fb_e, fb_k, ch_e, ch_1, ch_2, ch_3, ch_t, ch_f, ch_4, rs_rt, rs_nx, rs_ex, ri_rt, ri_nx, ri_ex, i0_e, ir_e, ix_e0, List.getElem?_cons_zero, List.getElem?_cons_succ, List.set_cons_zero, List.set_cons_succ]
theorem r_loop (gt m : Bs) (hg : Gd gt) (hm : m.length ≤ 5000) : ∃ c4 c5, F5__law_rest [.sh (.str (tx m)), .sh (.str (tx (true :: gt))), .no, .ow false (.lst (bi m)), .no, .no, .no, .no] = .nx [.sh (.str (tx m)), .sh (.str (tx (true :: gt))), .no, .ow false (.lst (bi (divide (true :: gt) m))), c4, c5, .no, .no] := by
  have hl := hg.len
  have hp := hg.pos
  obtain ⟨c', hc', hF, hI⟩ := loop_ex (k := fun k : Nat => D.int (k : Int)) (fun (s : Bs) (c : Cl × Cl) => [Cl.sh (.str (tx m)), .sh (.str (tx (true :: gt))), .no, .ow false (.lst (bi s)), c.1, c.2, .no, .no]) (fun s => s.length = m.length) (fun c => ioC (some c.1) = true ∧ ioC (some c.2) = true) (fun s a => win (true :: gt) s a) (g := putSh 4) (fb := B4__law_rest) (List.range (m.length + 1 - (true :: gt).length)) m (.no, .no) rfl ⟨rfl, rfl⟩ (by
    rintro l ⟨c4, c5⟩ a hl2 ⟨h4, h5⟩ ha
    dsimp only at hl2 h4 h5
    have ha' := List.mem_range.mp ha
    rw [List.length_cons] at ha'
    obtain ⟨c5', h5', hB⟩ := p_win (g := true :: gt) (l := l) (a := a) (by rw [List.length_cons]; omega) (by rw [List.length_cons]; omega) (by simp) (by omega) (x := .str (tx m)) (c2 := .no) (c6 := .no) (c7 := .no) h5
    have hw : (win (true :: gt) l a).length = m.length := by
      unfold win
      split
      · have : ∀ (ks : List Nat) (l : Bs), (ks.foldl (put1 (true :: gt) a) l).length = l.length := fun ks => by
          induction ks with
          | nil => intro l; rfl
          | cons k ks ih => intro l; rw [List.foldl_cons, ih, put_len]
        rw [this, hl2]
      · exact hl2
    exact ⟨hw, _, (.sh (.int (a : Nat)), c5'), ⟨rfl, h5'⟩, by simp only [bi_ok, bi_ex, th_ok, th_ex, lo_some, de_val, de_slot, dc_sh, dc_ow, ov_e, oc_sh, oc_ow, ol_e, kl_e, ev_e, ec_sh, ec_ow, cc_e, o2_e, k2_e, k2b_e, l2_e, o1_e, k1_e, l1_e, tb_e, kb_e, ta_e, ka_t, ka_f, to_e, ko_t, ko_f, tn_e, kn_e, ea_e, ea_t, ea_f, eo_e, eo_t, eo_f, en_e, en_k, if_e, if_t, if_f, tu_e, tu_k, ls_e, ls_k, an_e, ac_e, a1_e, a2_e, sq_e, sq_nx, sq_rt, sq_ex, sn_e, io_e, io_sh, io_no, io_ow, pu_e, pu_t, nx_e, se_e, se_k, ne_e, ne_k, ne_t, re_e, re_k, dr_e, dr_k, si_e, si_t, si_f, pa_e, pa_k, ob_some, fo_e, fo_k, ra_e, ra_k, ia_e, ia_l, ia_t, ia_s, r1_e, r1_k, r2_e, r2_k, lc_e, lc_k, lc_c, ca_e, ca_k, ou_ok, ou_ex, kw_e, kw_1, kw_2, ci_e, ci_s, ci_k, ci_g, oi_ok, oi_ex, m1_e, m1_k, m2_k, m3_k, ow_e, ow_k, ix_e, ix_0, ix_1, ix_2, ix_3, ix_4, pn_e, ps_e, ps_k, sl_e, sl_1, sl_2, sl_3, sl_4, fb_e, fb_k, ch_e, ch_1, ch_2, ch_3, ch_t, ch_f, ch_4, rs_rt, rs_nx, rs_ex, ri_rt, ri_nx, ri_ex, i0_e, ir_e, ix_e0, List.getElem?_cons_zero, List.getElem?_cons_succ, List.set_cons_zero, List.set_cons_succ, h4], hB⟩)
  obtain ⟨c4, c5⟩ := c'
  have hd : (List.range (m.length + 1 - (true :: gt).length)).foldl (fun s a => win (true :: gt) s a) m = divide (true :: gt) m := rfl
  rw [hd] at hF hI
  refine ⟨c4, c5, ?_⟩
  have hF5 : F5__law_rest [.sh (.str (tx m)), .sh (.str (tx (true :: gt))), .no, .ow false (.lst (bi m)), .no, .no, .no, .no] = .nx [.sh (.str (tx m)), .sh (.str (tx (true :: gt))), .no, .ow false (.lst (bi (divide (true :: gt) m))), c4, c5, .no, .no] := by
    refine (for_run (range1_int (n := m.length + 1 - (true :: gt).length) (e := (m.length : Int) - ((true :: gt).length : Nat) + 1) ?_ (by simp; omega) ⟨by simp; omega, by simp; omega⟩)).trans hF
    have e1 := g_lenS (a := tx (true :: gt)) (by rw [tx_len]; simp; omega)
    have e2 : gLen (.lst (bi m)) = some (.int (m.length : Nat)) := by rw [g_lenL]; unfold bi; rw [List.length_map]
    simp only [e1, e2, tx_len, g_sub, g_addI, bi_ok, bi_ex, th_ok, th_ex, lo_some, de_val, de_slot, dc_sh, dc_ow, ov_e, oc_sh, oc_ow, ol_e, kl_e, ev_e, ec_sh, ec_ow, cc_e, o2_e, k2_e, k2b_e, l2_e, o1_e, k1_e, l1_e, tb_e, kb_e, ta_e, ka_t, ka_f, to_e, ko_t, ko_f, tn_e, kn_e, ea_e, ea_t, ea_f, eo_e, eo_t, eo_f, en_e, en_k, if_e, if_t, if_f, tu_e, tu_k, ls_e, ls_k, an_e, ac_e, a1_e, a2_e, sq_e, sq_nx, sq_rt, sq_ex, sn_e, io_e, io_sh, io_no, io_ow, pu_e, pu_t, nx_e, se_e, se_k, ne_e, ne_k, ne_t, re_e, re_k, dr_e, dr_k, si_e, si_t, si_f, pa_e, pa_k, ob_some, fo_e, fo_k, ra_e, ra_k, ia_e, ia_l, ia_t, ia_s, r1_e, r1_k, r2_e, r2_k, lc_e, lc_k, lc_c, ca_e, ca_k, ou_ok, ou_ex, kw_e, kw_1, kw_2, ci_e, ci_s, ci_k, ci_g, oi_ok, oi_ex, m1_e, m1_k, m2_k, m3_k, ow_e, ow_k, ix_e, ix_0, ix_1, ix_2, ix_3, ix_4, pn_e, ps_e, ps_k, sl_e, sl_1, sl_2, sl_3, sl_4, fb_e, fb_k, ch_e, ch_1, ch_2, ch_3, ch_t, ch_f, ch_4, rs_rt, rs_nx, rs_ex, ri_rt, ri_nx, ri_ex, i0_e, ir_e, ix_e0, List.getElem?_cons_zero, List.getElem?_cons_succ, List.set_cons_zero, List.set_cons_succ]
  exact hF5
theorem r_text (gt m dv : Bs) (c4 c5 : Cl) (hd : dv.length ≤ 5000) : C6__law_rest [.sh (.str (tx m)), .sh (.str (tx (true :: gt))), .no, .ow false (.lst (bi dv)), c4, c5, .no, .no] = .ok (.lst (dv.map fun b => .str [ch b])) [.sh (.str (tx m)), .sh (.str (tx (true :: gt))), .no, .sh (.lst (bi dv)), c4, c5, .no, .no] := by
  refine lc_run (xs := dv.map bd) (by simp only [bi_ok, bi_ex, th_ok, th_ex, lo_some, de_val, de_slot, dc_sh, dc_ow, ov_e, oc_sh, oc_ow, ol_e, kl_e, ev_e, ec_sh, ec_ow, cc_e, o2_e, k2_e, k2b_e, l2_e, o1_e, k1_e, l1_e, tb_e, kb_e, ta_e, ka_t, ka_f, to_e, ko_t, ko_f, tn_e, kn_e, ea_e, ea_t, ea_f, eo_e, eo_t, eo_f, en_e, en_k, if_e, if_t, if_f, tu_e, tu_k, ls_e, ls_k, an_e, ac_e, a1_e, a2_e, sq_e, sq_nx, sq_rt, sq_ex, sn_e, io_e, io_sh, io_no, io_ow, pu_e, pu_t, nx_e, se_e, se_k, ne_e, ne_k, ne_t, re_e, re_k, dr_e, dr_k, si_e, si_t, si_f, pa_e, pa_k, ob_some, fo_e, fo_k, ra_e, ra_k, ia_e, ia_l, ia_t, ia_s, r1_e, r1_k, r2_e, r2_k, lc_e, lc_k, lc_c, ca_e, ca_k, ou_ok, ou_ex, kw_e, kw_1, kw_2, ci_e, ci_s, ci_k, ci_g, oi_ok, oi_ex, m1_e, m1_k, m2_k, m3_k, ow_e, ow_k, ix_e, ix_0, ix_1, ix_2, ix_3, ix_4, pn_e, ps_e, ps_k, sl_e, sl_1, sl_2, sl_3, sl_4, fb_e, fb_k, ch_e, ch_1, ch_2, ch_3, ch_t, ch_f, ch_4, rs_rt, rs_nx, rs_ex, ri_rt, ri_nx, ri_ex, i0_e, ir_e, ix_e0, List.getElem?_cons_zero, List.getElem?_cons_succ, List.set_cons_zero, List.set_cons_succ]; rfl) rfl (by rw [List.length_map]; omega) (comp_map (k := bd) (h := fun b => .str [ch b]) dv fun b _ => ⟨_, [.sh (.str (tx m)), .sh (.str (tx (true :: gt))), .no, .sh (.lst (bi dv)), c4, c5, .sh (bd b), .no], rfl, ?_, rfl⟩) rfl
  simp only [strI_bit, wipeD, bi_ok, bi_ex, th_ok, th_ex, lo_some, de_val, de_slot, dc_sh, dc_ow, ov_e, oc_sh, oc_ow, ol_e, kl_e, ev_e, ec_sh, ec_ow, cc_e, o2_e, k2_e, k2b_e, l2_e, o1_e, k1_e, l1_e, tb_e, kb_e, ta_e, ka_t, ka_f, to_e, ko_t, ko_f, tn_e, kn_e, ea_e, ea_t, ea_f, eo_e, eo_t, eo_f, en_e, en_k, if_e, if_t, if_f, tu_e, tu_k, ls_e, ls_k, an_e, ac_e, a1_e, a2_e, sq_e, sq_nx, sq_rt, sq_ex, sn_e, io_e, io_sh, io_no, io_ow, pu_e, pu_t, nx_e, se_e, se_k, ne_e, ne_k, ne_t, re_e, re_k, dr_e, dr_k, si_e, si_t, si_f, pa_e, pa_k, ob_some, fo_e, fo_k, ra_e, ra_k, ia_e, ia_l, ia_t, ia_s, r1_e, r1_k, r2_e, r2_k, lc_e, lc_k, lc_c, ca_e, ca_k, ou_ok, ou_ex, kw_e, kw_1, kw_2, ci_e, ci_s, ci_k, ci_g, oi_ok, oi_ex, m1_e, m1_k, m2_k, m3_k, ow_e, ow_k, ix_e, ix_0, ix_1, ix_2, ix_3, ix_4, pn_e, ps_e, ps_k, sl_e, sl_1, sl_2, sl_3, sl_4, fb_e, fb_k, ch_e, ch_1, ch_2, ch_3, ch_t, ch_f, ch_4, rs_rt, rs_nx, rs_ex, ri_rt, ri_nx, ri_ex, i0_e, ir_e, ix_e0, List.getElem?_cons_zero, List.getElem?_cons_succ, List.set_cons_zero, List.set_cons_succ]
theorem p_law_rest (gt m : Bs) (hg : Gd gt) (hm : m.length ≤ 5000) : G__law_rest [.str (tx m), .str (tx (true :: gt))] = .ok (.str (tx (rest gt m))) := by
  show resD (b__law_rest [.sh (.str (tx m)), .sh (.str (tx (true :: gt))), .no, .no, .no, .no, .no, .no]) = _
  have hl := hg.len
  have hp := hg.pos
  obtain ⟨c4, c5, hF5⟩ := r_loop gt m hg hm
  have hI' : (divide (true :: gt) m).length = m.length := divide_len _ _
  generalize hdv : divide (true :: gt) m = dv at *
  have hc6 := r_text gt m dv c4 c5 (by omega)
  have hj := join_tx dv (by omega)
  have e1 := g_lenS (a := tx (true :: gt)) (by rw [tx_len]; simp; omega)
  rw [tx_len] at e1
  have e2 := g_lenS (a := tx dv) (by rw [tx_len]; omega)
  rw [tx_len] at e2
  have h3 : gMul (.str [48]) (.int ((true :: gt).length : Nat)) = some (.str (List.replicate (gt.length + 1) 48)) := by
    rw [List.length_cons, g_mulS ⟨by omega, by omega, by rw [Int.toNat_natCast]; simp; omega⟩, Int.toNat_natCast, flat48]
  have h4 : gAdd (.str (List.replicate (gt.length + 1) 48)) (.str (tx dv)) = some (.str (List.replicate (gt.length + 1) 48 ++ tx dv)) := g_addS (by rw [tx_len]; simp; omega)
  have h5 : gSl (.str (List.replicate (gt.length + 1) 48 ++ tx dv)) (some ((dv.length : Int) + 1)) none = some (.str (tx (rest gt m))) := by
    have e : ((dv.length : Int) + 1) = ((dv.length + 1 : Nat) : Int) := by simp
    show (if (List.replicate (gt.length + 1) 48 ++ tx dv).length ≤ 10000000 then some (D.str (DV.cutD (List.replicate (gt.length + 1) 48 ++ tx dv) (some ((dv.length : Int) + 1)) none)) else none) = _
    rw [if_pos (by simp [tx_len]; omega), e, cut_from _ _ (by simp [tx_len]; omega), hI', ← hdv, divide_rest hg.ne]
  simp only [b__law_rest, r_bits gt m hm, hF5, hc6, hj, e1, e2, h3, h4, h5, g_addI, bi_ok, bi_ex, th_ok, th_ex, lo_some, de_val, de_slot, dc_sh, dc_ow, ov_e, oc_sh, oc_ow, ol_e, kl_e, ev_e, ec_sh, ec_ow, cc_e, o2_e, k2_e, k2b_e, l2_e, o1_e, k1_e, l1_e, tb_e, kb_e, ta_e, ka_t, ka_f, to_e, ko_t, ko_f, tn_e, kn_e, ea_e, ea_t, ea_f, eo_e, eo_t, eo_f, en_e, en_k, if_e, if_t, if_f, tu_e, tu_k, ls_e, ls_k, an_e, ac_e, a1_e, a2_e, sq_e, sq_nx, sq_rt, sq_ex, sn_e, io_e, io_sh, io_no, io_ow, pu_e, pu_t, nx_e, se_e, se_k, ne_e, ne_k, ne_t, re_e, re_k, dr_e, dr_k, si_e, si_t, si_f, pa_e, pa_k, ob_some, fo_e, fo_k, ra_e, ra_k, ia_e, ia_l, ia_t, ia_s, r1_e, r1_k, r2_e, r2_k, lc_e, lc_k, lc_c, ca_e, ca_k, ou_ok, ou_ex, kw_e, kw_1, kw_2, ci_e, ci_s, ci_k, ci_g, oi_ok, oi_ex, m1_e, m1_k, m2_k, m3_k, ow_e, ow_k, ix_e, ix_0, ix_1, ix_2, ix_3, ix_4, pn_e, ps_e, ps_k, sl_e, sl_1, sl_2, sl_3, sl_4, fb_e, fb_k, ch_e, ch_1, ch_2, ch_3, ch_t, ch_f, ch_4, rs_rt, rs_nx, rs_ex, ri_rt, ri_nx, ri_ex, i0_e, ir_e, ix_e0, List.getElem?_cons_zero, List.getElem?_cons_succ, List.set_cons_zero, List.set_cons_succ]
end T76

set_option Elab.async false
set_option linter.all false
set_option maxRecDepth 100000
set_option maxHeartbeats 4000000
/-! P76b: changes, sums, refusals. -/
namespace T76
open PySem PySem.Spec PyProof.Rows L2 DV Crc
theorem p_is_integer (i : Int) : G_is_integer [.int i] = .ok (.bl true) := by
  show resD (b_is_integer [.sh (.int i)]) = _
  simp only [b_is_integer, g_isi_ii, g_isi_bi, Bool.not_false, bi_ok, bi_ex, th_ok, th_ex, lo_some, de_val, de_slot, dc_sh, dc_ow, ov_e, oc_sh, oc_ow, ol_e, kl_e, ev_e, ec_sh, ec_ow, cc_e, o2_e, k2_e, k2b_e, l2_e, o1_e, k1_e, l1_e, tb_e, kb_e, ta_e, ka_t, ka_f, to_e, ko_t, ko_f, tn_e, kn_e, ea_e, ea_t, ea_f, eo_e, eo_t, eo_f, en_e, en_k, if_e, if_t, if_f, tu_e, tu_k, ls_e, ls_k, an_e, ac_e, a1_e, a2_e, sq_e, sq_nx, sq_rt, sq_ex, sn_e, io_e, io_sh, io_no, io_ow, pu_e, pu_t, nx_e, se_e, se_k, ne_e, ne_k, ne_t, re_e, re_k, dr_e, dr_k, si_e, si_t, si_f, pa_e, pa_k, ob_some, fo_e, fo_k, ra_e, ra_k, ia_e, ia_l, ia_t, ia_s, r1_e, r1_k, r2_e, r2_k, lc_e, lc_k, lc_c, ca_e, ca_k, ou_ok, ou_ex, kw_e, kw_1, kw_2, ci_e, ci_s, ci_k, ci_g, oi_ok, oi_ex, m1_e, m1_k, m2_k, m3_k, ow_e, ow_k, ix_e, ix_0, ix_1, ix_2, ix_3, ix_4, pn_e, ps_e, ps_k, sl_e, sl_1, sl_2, sl_3, sl_4, fb_e, fb_k, ch_e, ch_1, ch_2, ch_3, ch_t, ch_f, ch_4, rs_rt, rs_nx, rs_ex, ri_rt, ri_nx, ri_ex, i0_e, ir_e, ix_e0, List.getElem?_cons_zero, List.getElem?_cons_succ, List.set_cons_zero, List.set_cons_succ]
theorem p_is_integer_bl (b : Bool) : G_is_integer [.bl b] = .ok (.bl false) := by
  show resD (b_is_integer [.sh (.bl b)]) = _
  simp only [b_is_integer, g_isi_ib, g_isi_bb, Bool.not_true, bi_ok, bi_ex, th_ok, th_ex, lo_some, de_val, de_slot, dc_sh, dc_ow, ov_e, oc_sh, oc_ow, ol_e, kl_e, ev_e, ec_sh, ec_ow, cc_e, o2_e, k2_e, k2b_e, l2_e, o1_e, k1_e, l1_e, tb_e, kb_e, ta_e, ka_t, ka_f, to_e, ko_t, ko_f, tn_e, kn_e, ea_e, ea_t, ea_f, eo_e, eo_t, eo_f, en_e, en_k, if_e, if_t, if_f, tu_e, tu_k, ls_e, ls_k, an_e, ac_e, a1_e, a2_e, sq_e, sq_nx, sq_rt, sq_ex, sn_e, io_e, io_sh, io_no, io_ow, pu_e, pu_t, nx_e, se_e, se_k, ne_e, ne_k, ne_t, re_e, re_k, dr_e, dr_k, si_e, si_t, si_f, pa_e, pa_k, ob_some, fo_e, fo_k, ra_e, ra_k, ia_e, ia_l, ia_t, ia_s, r1_e, r1_k, r2_e, r2_k, lc_e, lc_k, lc_c, ca_e, ca_k, ou_ok, ou_ex, kw_e, kw_1, kw_2, ci_e, ci_s, ci_k, ci_g, oi_ok, oi_ex, m1_e, m1_k, m2_k, m3_k, ow_e, ow_k, ix_e, ix_0, ix_1, ix_2, ix_3, ix_4, pn_e, ps_e, ps_k, sl_e, sl_1, sl_2, sl_3, sl_4, fb_e, fb_k, ch_e, ch_1, ch_2, ch_3, ch_t, ch_f, ch_4, rs_rt, rs_nx, rs_ex, ri_rt, ri_nx, ri_ex, i0_e, ir_e, ix_e0, List.getElem?_cons_zero, List.getElem?_cons_succ, List.set_cons_zero, List.set_cons_succ]
theorem p_is_integer_no (d : D) (h : (tyName d).map (fun t => subTy t "int") = some false) : G_is_integer [d] = .ok (.bl false) := by
  show resD (b_is_integer [.sh d]) = _
  have hg : gIsi "int" d = some (.bl false) := by
    unfold gIsi
    cases e : tyName d with
    | none => rw [e] at h; cases h
    | some t => rw [e] at h; exact congrArg (fun x => x.map D.bl) h
  simp only [b_is_integer, hg, bi_ok, bi_ex, th_ok, th_ex, lo_some, de_val, de_slot, dc_sh, dc_ow, ov_e, oc_sh, oc_ow, ol_e, kl_e, ev_e, ec_sh, ec_ow, cc_e, o2_e, k2_e, k2b_e, l2_e, o1_e, k1_e, l1_e, tb_e, kb_e, ta_e, ka_t, ka_f, to_e, ko_t, ko_f, tn_e, kn_e, ea_e, ea_t, ea_f, eo_e, eo_t, eo_f, en_e, en_k, if_e, if_t, if_f, tu_e, tu_k, ls_e, ls_k, an_e, ac_e, a1_e, a2_e, sq_e, sq_nx, sq_rt, sq_ex, sn_e, io_e, io_sh, io_no, io_ow, pu_e, pu_t, nx_e, se_e, se_k, ne_e, ne_k, ne_t, re_e, re_k, dr_e, dr_k, si_e, si_t, si_f, pa_e, pa_k, ob_some, fo_e, fo_k, ra_e, ra_k, ia_e, ia_l, ia_t, ia_s, r1_e, r1_k, r2_e, r2_k, lc_e, lc_k, lc_c, ca_e, ca_k, ou_ok, ou_ex, kw_e, kw_1, kw_2, ci_e, ci_s, ci_k, ci_g, oi_ok, oi_ex, m1_e, m1_k, m2_k, m3_k, ow_e, ow_k, ix_e, ix_0, ix_1, ix_2, ix_3, ix_4, pn_e, ps_e, ps_k, sl_e, sl_1, sl_2, sl_3, sl_4, fb_e, fb_k, ch_e, ch_1, ch_2, ch_3, ch_t, ch_f, ch_4, rs_rt, rs_nx, rs_ex, ri_rt, ri_nx, ri_ex, i0_e, ir_e, ix_e0, List.getElem?_cons_zero, List.getElem?_cons_succ, List.set_cons_zero, List.set_cons_succ]
theorem isN_int (i : Int) : gIsN (.int i) = some (.bl false) := rfl
theorem p_is_within (i lo hi : Int) : G_is_within [.int i, .int lo, .int hi] = .ok (.bl (decide (lo ≤ i) && decide (i ≤ hi))) := by
  show resD (b_is_within [.sh (.int i), .sh (.int lo), .sh (.int hi)]) = _
  cases h1 : decide (lo ≤ i) with
  | true => simp only [b_is_within, p_is_integer, isN_int, g_ge, g_le, h1, Bool.true_and, bi_ok, bi_ex, th_ok, th_ex, lo_some, de_val, de_slot, dc_sh, dc_ow, ov_e, oc_sh, oc_ow, ol_e, kl_e, ev_e, ec_sh, ec_ow, cc_e, o2_e, k2_e, k2b_e, l2_e, o1_e, k1_e, l1_e, tb_e, kb_e, ta_e, ka_t, ka_f, to_e, ko_t, ko_f, tn_e, kn_e, ea_e, ea_t, ea_f, eo_e, eo_t, eo_f, en_e, en_k, if_e, if_t, if_f, tu_e, tu_k, ls_e, ls_k, an_e, ac_e, a1_e, a2_e, sq_e, sq_nx, sq_rt, sq_ex, sn_e, io_e, io_sh, io_no, io_ow, pu_e, pu_t, nx_e, se_e, se_k, ne_e, ne_k, ne_t, re_e, re_k, dr_e, dr_k, si_e, si_t, si_f, pa_e, pa_k, ob_some, fo_e, fo_k, ra_e, ra_k, ia_e, ia_l, ia_t, ia_s, r1_e, r1_k, r2_e, r2_k, lc_e, lc_k, lc_c, ca_e, ca_k, ou_ok, ou_ex, kw_e, kw_1, kw_2, ci_e, ci_s, ci_k, ci_g, oi_ok, oi_ex, m1_e, m1_k, m2_k, m3_k, ow_e, ow_k, ix_e, ix_0, ix_1, ix_2, ix_3, ix_4, pn_e, ps_e, ps_k, sl_e, sl_1, sl_2, sl_3, sl_4, fb_e, fb_k, ch_e, ch_1, ch_2, ch_3, ch_t, ch_f, ch_4, rs_rt, rs_nx, rs_ex, ri_rt, ri_nx, ri_ex, i0_e, ir_e, ix_e0, List.getElem?_cons_zero, List.getElem?_cons_succ, List.set_cons_zero, List.set_cons_succ]
  | false => simp only [b_is_within, p_is_integer, isN_int, g_ge, g_le, h1, Bool.false_and, bi_ok, bi_ex, th_ok, th_ex, lo_some, de_val, de_slot, dc_sh, dc_ow, ov_e, oc_sh, oc_ow, ol_e, kl_e, ev_e, ec_sh, ec_ow, cc_e, o2_e, k2_e, k2b_e, l2_e, o1_e, k1_e, l1_e, tb_e, kb_e, ta_e, ka_t, ka_f, to_e, ko_t, ko_f, tn_e, kn_e, ea_e, ea_t, ea_f, eo_e, eo_t, eo_f, en_e, en_k, if_e, if_t, if_f, tu_e, tu_k, ls_e, ls_k, an_e, ac_e, a1_e, a2_e, sq_e, sq_nx, sq_rt, sq_ex, sn_e, io_e, io_sh, io_no, io_ow, pu_e, pu_t, nx_e, se_e, se_k, ne_e, ne_k, ne_t, re_e, re_k, dr_e, dr_k, si_e, si_t, si_f, pa_e, pa_k, ob_some, fo_e, fo_k, ra_e, ra_k, ia_e, ia_l, ia_t, ia_s, r1_e, r1_k, r2_e, r2_k, lc_e, lc_k, lc_c, ca_e, ca_k, ou_ok, ou_ex, kw_e, kw_1, kw_2, ci_e, ci_s, ci_k, ci_g, oi_ok, oi_ex, m1_e, m1_k, m2_k, m3_k, ow_e, ow_k, ix_e, ix_0, ix_1, ix_2, ix_3, ix_4, pn_e, ps_e, ps_k, sl_e, sl_1, sl_2, sl_3, sl_4, fb_e, fb_k, ch_e, ch_1, ch_2, ch_3, ch_t, ch_f, ch_4, rs_rt, rs_nx, rs_ex, ri_rt, ri_nx, ri_ex, i0_e, ir_e, ix_e0, List.getElem?_cons_zero, List.getElem?_cons_succ, List.set_cons_zero, List.set_cons_succ]
theorem p_is_within_no (d lo hi : D) (h : G_is_integer [d] = .ok (.bl false)) : G_is_within [d, lo, hi] = .ok (.bl false) := by
  show resD (b_is_within [.sh d, .sh lo, .sh hi]) = _
  simp only [b_is_within, h, bi_ok, bi_ex, th_ok, th_ex, lo_some, de_val, de_slot, dc_sh, dc_ow, ov_e, oc_sh, oc_ow, ol_e, kl_e, ev_e, ec_sh, ec_ow, cc_e, o2_e, k2_e, k2b_e, l2_e, o1_e, k1_e, l1_e, tb_e, kb_e, ta_e, ka_t, ka_f, to_e, ko_t, ko_f, tn_e, kn_e, ea_e, ea_t, ea_f, eo_e, eo_t, eo_f, en_e, en_k, if_e, if_t, if_f, tu_e, tu_k, ls_e, ls_k, an_e, ac_e, a1_e, a2_e, sq_e, sq_nx, sq_rt, sq_ex, sn_e, io_e, io_sh, io_no, io_ow, pu_e, pu_t, nx_e, se_e, se_k, ne_e, ne_k, ne_t, re_e, re_k, dr_e, dr_k, si_e, si_t, si_f, pa_e, pa_k, ob_some, fo_e, fo_k, ra_e, ra_k, ia_e, ia_l, ia_t, ia_s, r1_e, r1_k, r2_e, r2_k, lc_e, lc_k, lc_c, ca_e, ca_k, ou_ok, ou_ex, kw_e, kw_1, kw_2, ci_e, ci_s, ci_k, ci_g, oi_ok, oi_ex, m1_e, m1_k, m2_k, m3_k, ow_e, ow_k, ix_e, ix_0, ix_1, ix_2, ix_3, ix_4, pn_e, ps_e, ps_k, sl_e, sl_1, sl_2, sl_3, sl_4, fb_e, fb_k, ch_e, ch_1, ch_2, ch_3, ch_t, ch_f, ch_4, rs_rt, rs_nx, rs_ex, ri_rt, ri_nx, ri_ex, i0_e, ir_e, ix_e0, List.getElem?_cons_zero, List.getElem?_cons_succ, List.set_cons_zero, List.set_cons_succ]
theorem p_listed_l (xs : List D) : G_is_listed [.lst xs] = .ok (.bl true) := by
  show resD (b_is_listed [.sh (.lst xs)]) = _
  simp only [b_is_listed, g_isiT_l, bi_ok, bi_ex, th_ok, th_ex, lo_some, de_val, de_slot, dc_sh, dc_ow, ov_e, oc_sh, oc_ow, ol_e, kl_e, ev_e, ec_sh, ec_ow, cc_e, o2_e, k2_e, k2b_e, l2_e, o1_e, k1_e, l1_e, tb_e, kb_e, ta_e, ka_t, ka_f, to_e, ko_t, ko_f, tn_e, kn_e, ea_e, ea_t, ea_f, eo_e, eo_t, eo_f, en_e, en_k, if_e, if_t, if_f, tu_e, tu_k, ls_e, ls_k, an_e, ac_e, a1_e, a2_e, sq_e, sq_nx, sq_rt, sq_ex, sn_e, io_e, io_sh, io_no, io_ow, pu_e, pu_t, nx_e, se_e, se_k, ne_e, ne_k, ne_t, re_e, re_k, dr_e, dr_k, si_e, si_t, si_f, pa_e, pa_k, ob_some, fo_e, fo_k, ra_e, ra_k, ia_e, ia_l, ia_t, ia_s, r1_e, r1_k, r2_e, r2_k, lc_e, lc_k, lc_c, ca_e, ca_k, ou_ok, ou_ex, kw_e, kw_1, kw_2, ci_e, ci_s, ci_k, ci_g, oi_ok, oi_ex, m1_e, m1_k, m2_k, m3_k, ow_e, ow_k, ix_e, ix_0, ix_1, ix_2, ix_3, ix_4, pn_e, ps_e, ps_k, sl_e, sl_1, sl_2, sl_3, sl_4, fb_e, fb_k, ch_e, ch_1, ch_2, ch_3, ch_t, ch_f, ch_4, rs_rt, rs_nx, rs_ex, ri_rt, ri_nx, ri_ex, i0_e, ir_e, ix_e0, List.getElem?_cons_zero, List.getElem?_cons_succ, List.set_cons_zero, List.set_cons_succ]
theorem p_listed_t (xs : List D) : G_is_listed [.tup xs] = .ok (.bl true) := by
  show resD (b_is_listed [.sh (.tup xs)]) = _
  simp only [b_is_listed, g_isiT_t, bi_ok, bi_ex, th_ok, th_ex, lo_some, de_val, de_slot, dc_sh, dc_ow, ov_e, oc_sh, oc_ow, ol_e, kl_e, ev_e, ec_sh, ec_ow, cc_e, o2_e, k2_e, k2b_e, l2_e, o1_e, k1_e, l1_e, tb_e, kb_e, ta_e, ka_t, ka_f, to_e, ko_t, ko_f, tn_e, kn_e, ea_e, ea_t, ea_f, eo_e, eo_t, eo_f, en_e, en_k, if_e, if_t, if_f, tu_e, tu_k, ls_e, ls_k, an_e, ac_e, a1_e, a2_e, sq_e, sq_nx, sq_rt, sq_ex, sn_e, io_e, io_sh, io_no, io_ow, pu_e, pu_t, nx_e, se_e, se_k, ne_e, ne_k, ne_t, re_e, re_k, dr_e, dr_k, si_e, si_t, si_f, pa_e, pa_k, ob_some, fo_e, fo_k, ra_e, ra_k, ia_e, ia_l, ia_t, ia_s, r1_e, r1_k, r2_e, r2_k, lc_e, lc_k, lc_c, ca_e, ca_k, ou_ok, ou_ex, kw_e, kw_1, kw_2, ci_e, ci_s, ci_k, ci_g, oi_ok, oi_ex, m1_e, m1_k, m2_k, m3_k, ow_e, ow_k, ix_e, ix_0, ix_1, ix_2, ix_3, ix_4, pn_e, ps_e, ps_k, sl_e, sl_1, sl_2, sl_3, sl_4, fb_e, fb_k, ch_e, ch_1, ch_2, ch_3, ch_t, ch_f, ch_4, rs_rt, rs_nx, rs_ex, ri_rt, ri_nx, ri_ex, i0_e, ir_e, ix_e0, List.getElem?_cons_zero, List.getElem?_cons_succ, List.set_cons_zero, List.set_cons_succ]
theorem p_listed_no (d : D) (h : gIsiT ["list", "tuple"] d = some (.bl false)) : G_is_listed [d] = .ok (.bl false) := by
  show resD (b_is_listed [.sh d]) = _
  simp only [b_is_listed, h, bi_ok, bi_ex, th_ok, th_ex, lo_some, de_val, de_slot, dc_sh, dc_ow, ov_e, oc_sh, oc_ow, ol_e, kl_e, ev_e, ec_sh, ec_ow, cc_e, o2_e, k2_e, k2b_e, l2_e, o1_e, k1_e, l1_e, tb_e, kb_e, ta_e, ka_t, ka_f, to_e, ko_t, ko_f, tn_e, kn_e, ea_e, ea_t, ea_f, eo_e, eo_t, eo_f, en_e, en_k, if_e, if_t, if_f, tu_e, tu_k, ls_e, ls_k, an_e, ac_e, a1_e, a2_e, sq_e, sq_nx, sq_rt, sq_ex, sn_e, io_e, io_sh, io_no, io_ow, pu_e, pu_t, nx_e, se_e, se_k, ne_e, ne_k, ne_t, re_e, re_k, dr_e, dr_k, si_e, si_t, si_f, pa_e, pa_k, ob_some, fo_e, fo_k, ra_e, ra_k, ia_e, ia_l, ia_t, ia_s, r1_e, r1_k, r2_e, r2_k, lc_e, lc_k, lc_c, ca_e, ca_k, ou_ok, ou_ex, kw_e, kw_1, kw_2, ci_e, ci_s, ci_k, ci_g, oi_ok, oi_ex, m1_e, m1_k, m2_k, m3_k, ow_e, ow_k, ix_e, ix_0, ix_1, ix_2, ix_3, ix_4, pn_e, ps_e, ps_k, sl_e, sl_1, sl_2, sl_3, sl_4, fb_e, fb_k, ch_e, ch_1, ch_2, ch_3, ch_t, ch_f, ch_4, rs_rt, rs_nx, rs_ex, ri_rt, ri_nx, ri_ex, i0_e, ir_e, ix_e0, List.getElem?_cons_zero, List.getElem?_cons_succ, List.set_cons_zero, List.set_cons_succ]
/-! lists and tuples alike -/
def intsD (ps : List Nat) : List D := ps.map fun p => D.int (p : Nat)
theorem c1_change (v : D) (xs : List D) (hv : ∀ ds : Ds, kAny v ds = .ok xs ds) (n : Int) (f : D → Bool) (hx : xs.length ≤ 10000) (h : ∀ x ∈ xs, G_is_within [x, .int 0, .int (n - 1)] = .ok (.bl (f x))) :
    C1_is_change [.sh v, .sh (.int n), .no, .no] = .ok (.lst (xs.map fun x => .bl (f x))) [.sh v, .sh (.int n), .no, .no] := by
  have h0 := comp_map (vs := [2]) (g := putSh 2) (f := eCall G_is_within (aCons (eVar 2) (aCons (eC (.int 0)) (aCons (eOp2 DV.gSub (oVar 1) (oVal (eC (.int 1)))) aNil)))) (k := fun x : D => x) (h := fun x => D.bl (f x)) (ds := [.sh v, .sh (.int n), .no, .no]) xs (fun x hx => ⟨[.sh v, .sh (.int n), .sh x, .no], [.sh v, .sh (.int n), .sh x, .no], rfl, by simp only [g_sub, h x hx, bi_ok, bi_ex, th_ok, th_ex, lo_some, de_val, de_slot, dc_sh, dc_ow, ov_e, oc_sh, oc_ow, ol_e, kl_e, ev_e, ec_sh, ec_ow, cc_e, o2_e, k2_e, k2b_e, l2_e, o1_e, k1_e, l1_e, tb_e, kb_e, ta_e, ka_t, ka_f, to_e, ko_t, ko_f, tn_e, kn_e, ea_e, ea_t, ea_f, eo_e, eo_t, eo_f, en_e, en_k, if_e, if_t, if_f, tu_e, tu_k, ls_e, ls_k, an_e, ac_e, a1_e, a2_e, sq_e, sq_nx, sq_rt, sq_ex, sn_e, io_e, io_sh, io_no, io_ow, pu_e, pu_t, nx_e, se_e, se_k, ne_e, ne_k, ne_t, re_e, re_k, dr_e, dr_k, si_e, si_t, si_f, pa_e, pa_k, ob_some, fo_e, fo_k, ra_e, ra_k, ia_e, ia_l, ia_t, ia_s, r1_e, r1_k, r2_e, r2_k, lc_e, lc_k, lc_c, ca_e, ca_k, ou_ok, ou_ex, kw_e, kw_1, kw_2, ci_e, ci_s, ci_k, ci_g, oi_ok, oi_ex, m1_e, m1_k, m2_k, m3_k, ow_e, ow_k, ix_e, ix_0, ix_1, ix_2, ix_3, ix_4, pn_e, ps_e, ps_k, sl_e, sl_1, sl_2, sl_3, sl_4, fb_e, fb_k, ch_e, ch_1, ch_2, ch_3, ch_t, ch_f, ch_4, rs_rt, rs_nx, rs_ex, ri_rt, ri_nx, ri_ex, i0_e, ir_e, ix_e0, List.getElem?_cons_zero, List.getElem?_cons_succ, List.set_cons_zero, List.set_cons_succ], rfl⟩)
  rw [List.map_id'] at h0
  exact lc_run (xs := xs) (ds1 := [.sh v, .sh (.int n), .no, .no]) (by simp only [hv, bi_ok, bi_ex, th_ok, th_ex, lo_some, de_val, de_slot, dc_sh, dc_ow, ov_e, oc_sh, oc_ow, ol_e, kl_e, ev_e, ec_sh, ec_ow, cc_e, o2_e, k2_e, k2b_e, l2_e, o1_e, k1_e, l1_e, tb_e, kb_e, ta_e, ka_t, ka_f, to_e, ko_t, ko_f, tn_e, kn_e, ea_e, ea_t, ea_f, eo_e, eo_t, eo_f, en_e, en_k, if_e, if_t, if_f, tu_e, tu_k, ls_e, ls_k, an_e, ac_e, a1_e, a2_e, sq_e, sq_nx, sq_rt, sq_ex, sn_e, io_e, io_sh, io_no, io_ow, pu_e, pu_t, nx_e, se_e, se_k, ne_e, ne_k, ne_t, re_e, re_k, dr_e, dr_k, si_e, si_t, si_f, pa_e, pa_k, ob_some, fo_e, fo_k, ra_e, ra_k, ia_e, ia_l, ia_t, ia_s, r1_e, r1_k, r2_e, r2_k, lc_e, lc_k, lc_c, ca_e, ca_k, ou_ok, ou_ex, kw_e, kw_1, kw_2, ci_e, ci_s, ci_k, ci_g, oi_ok, oi_ex, m1_e, m1_k, m2_k, m3_k, ow_e, ow_k, ix_e, ix_0, ix_1, ix_2, ix_3, ix_4, pn_e, ps_e, ps_k, sl_e, sl_1, sl_2, sl_3, sl_4, fb_e, fb_k, ch_e, ch_1, ch_2, ch_3, ch_t, ch_f, ch_4, rs_rt, rs_nx, rs_ex, ri_rt, ri_nx, ri_ex, i0_e, ir_e, ix_e0, List.getElem?_cons_zero, List.getElem?_cons_succ, List.set_cons_zero, List.set_cons_succ]) rfl (by omega) h0 rfl
theorem all_map (xs : List D) (f : D → Bool) : gAll (.lst (xs.map fun x => .bl (f x))) = some (.bl (xs.all f)) := by
  have := g_all (xs.map f)
  rw [List.map_map, List.all_map] at this
  exact this
theorem c2_change (v : D) (ps : List Nat) (hv : ∀ i, gIx v (.int i) = atI (intsD ps) i) (hl : gLen v = some (.int ps.length)) (n : Int) (hp : ps.length ≤ 10000) :
    C2_is_change [.sh v, .sh (.int n), .no, .no] = .ok (.lst ((List.range (ps.length - 1)).map fun k => .bl (decide ((ps.getD k 0 : Int) < (ps.getD (k + 1) 0 : Nat))))) [.sh v, .sh (.int n), .no, .no] := by
  refine lc_run (xs := (List.range (ps.length - 1)).map fun k : Nat => D.int (k : Int)) (range1_int (e := (ps.length : Int) - 1) (by simp only [hl, g_sub, bi_ok, bi_ex, th_ok, th_ex, lo_some, de_val, de_slot, dc_sh, dc_ow, ov_e, oc_sh, oc_ow, ol_e, kl_e, ev_e, ec_sh, ec_ow, cc_e, o2_e, k2_e, k2b_e, l2_e, o1_e, k1_e, l1_e, tb_e, kb_e, ta_e, ka_t, ka_f, to_e, ko_t, ko_f, tn_e, kn_e, ea_e, ea_t, ea_f, eo_e, eo_t, eo_f, en_e, en_k, if_e, if_t, if_f, tu_e, tu_k, ls_e, ls_k, an_e, ac_e, a1_e, a2_e, sq_e, sq_nx, sq_rt, sq_ex, sn_e, io_e, io_sh, io_no, io_ow, pu_e, pu_t, nx_e, se_e, se_k, ne_e, ne_k, ne_t, re_e, re_k, dr_e, dr_k, si_e, si_t, si_f, pa_e, pa_k, ob_some, fo_e, fo_k, ra_e, ra_k, ia_e, ia_l, ia_t, ia_s, r1_e, r1_k, r2_e, r2_k, lc_e, lc_k, lc_c, ca_e, ca_k, ou_ok, ou_ex, kw_e, kw_1, kw_2, ci_e, ci_s, ci_k, ci_g, oi_ok, oi_ex, m1_e, m1_k, m2_k, m3_k, ow_e, ow_k, ix_e, ix_0, ix_1, ix_2, ix_3, ix_4, pn_e, ps_e, ps_k, sl_e, sl_1, sl_2, sl_3, sl_4, fb_e, fb_k, ch_e, ch_1, ch_2, ch_3, ch_t, ch_f, ch_4, rs_rt, rs_nx, rs_ex, ri_rt, ri_nx, ri_ex, i0_e, ir_e, ix_e0, List.getElem?_cons_zero, List.getElem?_cons_succ, List.set_cons_zero, List.set_cons_succ]; rfl) (by omega) ⟨by omega, by omega⟩) rfl (by simp; omega)
    (comp_map (k := fun k : Nat => D.int (k : Int)) (h := fun k => .bl (decide ((ps.getD k 0 : Int) < (ps.getD (k + 1) 0 : Nat)))) _ fun k hk => ⟨_, [.sh v, .sh (.int n), .no, .sh (.int (k : Nat))], rfl, ?_, rfl⟩) rfl
  have hk' := List.mem_range.mp hk
  have at_ : ∀ i, i < ps.length → atI (intsD ps) (i : Nat) = some (.int (ps.getD i 0 : Nat)) := fun i hi => by
    rw [atI_pos (by unfold intsD; rw [List.length_map]; exact hi)]
    unfold intsD
    rw [List.getElem_map, List.getD_eq_getElem?_getD, List.getElem?_eq_getElem hi]
    rfl
  have e1 : ((k : Nat) : Int) + 1 = ((k + 1 : Nat) : Int) := by simp
  simp only [wipeD, hv, at_ k (by omega), e1, at_ (k + 1) (by omega), g_addI, g_lt, bi_ok, bi_ex, th_ok, th_ex, lo_some, de_val, de_slot, dc_sh, dc_ow, ov_e, oc_sh, oc_ow, ol_e, kl_e, ev_e, ec_sh, ec_ow, cc_e, o2_e, k2_e, k2b_e, l2_e, o1_e, k1_e, l1_e, tb_e, kb_e, ta_e, ka_t, ka_f, to_e, ko_t, ko_f, tn_e, kn_e, ea_e, ea_t, ea_f, eo_e, eo_t, eo_f, en_e, en_k, if_e, if_t, if_f, tu_e, tu_k, ls_e, ls_k, an_e, ac_e, a1_e, a2_e, sq_e, sq_nx, sq_rt, sq_ex, sn_e, io_e, io_sh, io_no, io_ow, pu_e, pu_t, nx_e, se_e, se_k, ne_e, ne_k, ne_t, re_e, re_k, dr_e, dr_k, si_e, si_t, si_f, pa_e, pa_k, ob_some, fo_e, fo_k, ra_e, ra_k, ia_e, ia_l, ia_t, ia_s, r1_e, r1_k, r2_e, r2_k, lc_e, lc_k, lc_c, ca_e, ca_k, ou_ok, ou_ex, kw_e, kw_1, kw_2, ci_e, ci_s, ci_k, ci_g, oi_ok, oi_ex, m1_e, m1_k, m2_k, m3_k, ow_e, ow_k, ix_e, ix_0, ix_1, ix_2, ix_3, ix_4, pn_e, ps_e, ps_k, sl_e, sl_1, sl_2, sl_3, sl_4, fb_e, fb_k, ch_e, ch_1, ch_2, ch_3, ch_t, ch_f, ch_4, rs_rt, rs_nx, rs_ex, ri_rt, ri_nx, ri_ex, i0_e, ir_e, ix_e0, List.getElem?_cons_zero, List.getElem?_cons_succ, List.set_cons_zero, List.set_cons_succ]
theorem p_change_ok (v : D) (ps : List Nat) (n : Nat) (hlist : G_is_listed [v] = .ok (.bl true)) (hv : ∀ ds : Ds, kAny v ds = .ok (intsD ps) ds) (hx : ∀ i, gIx v (.int i) = atI (intsD ps) i) (hl : gLen v = some (.int ps.length)) (hp : ps.length ≤ 10000)
    (h1 : ∀ p ∈ ps, p < n) (h2 : ps.Pairwise (· < ·)) : G_is_change [v, .int (n : Nat)] = .ok (.bl true) := by
  show resD (b_is_change [.sh v, .sh (.int (n : Nat)), .no, .no]) = _
  have hc1 := c1_change v (intsD ps) hv (n : Nat) (fun _ => true) (by unfold intsD; simp; omega) (fun x hx => by
    unfold intsD at hx
    obtain ⟨p, hp, rfl⟩ := List.mem_map.mp hx
    have := h1 p hp
    rw [p_is_within, decide_eq_true (by omega), decide_eq_true (by omega)]
    rfl)
  have ha1 := all_map (intsD ps) (fun _ => true)
  have e1 : (intsD ps).all (fun _ => true) = true := by simp
  rw [e1] at ha1
  have hc2 := c2_change v ps hx hl (n : Nat) hp
  have ha2 : gAll (.lst ((List.range (ps.length - 1)).map fun k => .bl (decide ((ps.getD k 0 : Int) < (ps.getD (k + 1) 0 : Nat))))) = some (.bl true) := by
    have := g_all ((List.range (ps.length - 1)).map fun k => decide ((ps.getD k 0 : Int) < (ps.getD (k + 1) 0 : Nat)))
    rw [List.map_map, List.all_map] at this
    refine Eq.trans this ?_
    congr 2
    rw [List.all_eq_true]
    intro k hk
    have hk' := List.mem_range.mp hk
    have := List.pairwise_iff_getElem.mp h2 k (k + 1) (by omega) (by omega) (by omega)
    show decide _ = true
    rw [List.getD_eq_getElem?_getD, List.getD_eq_getElem?_getD, List.getElem?_eq_getElem (by omega), List.getElem?_eq_getElem (by omega)]
    exact decide_eq_true (Int.ofNat_lt.mpr this)
  simp only [b_is_change, hlist, hc1, ha1, hc2, ha2, Bool.not_true, bi_ok, bi_ex, th_ok, th_ex, lo_some, de_val, de_slot, dc_sh, dc_ow, ov_e, oc_sh, oc_ow, ol_e, kl_e, ev_e, ec_sh, ec_ow, cc_e, o2_e, k2_e, k2b_e, l2_e, o1_e, k1_e, l1_e, tb_e, kb_e, ta_e, ka_t, ka_f, to_e, ko_t, ko_f, tn_e, kn_e, ea_e, ea_t, ea_f, eo_e, eo_t, eo_f, en_e, en_k, if_e, if_t, if_f, tu_e, tu_k, ls_e, ls_k, an_e, ac_e, a1_e, a2_e, sq_e, sq_nx, sq_rt, sq_ex, sn_e, io_e, io_sh, io_no, io_ow, pu_e, pu_t, nx_e, se_e, se_k, ne_e, ne_k, ne_t, re_e, re_k, dr_e, dr_k, si_e, si_t, si_f, pa_e, pa_k, ob_some, fo_e, fo_k, ra_e, ra_k, ia_e, ia_l, ia_t, ia_s, r1_e, r1_k, r2_e, r2_k, lc_e, lc_k, lc_c, ca_e, ca_k, ou_ok, ou_ex, kw_e, kw_1, kw_2, ci_e, ci_s, ci_k, ci_g, oi_ok, oi_ex, m1_e, m1_k, m2_k, m3_k, ow_e, ow_k, ix_e, ix_0, ix_1, ix_2, ix_3, ix_4, pn_e, ps_e, ps_k, sl_e, sl_1, sl_2, sl_3, sl_4, fb_e, fb_k, ch_e, ch_1, ch_2, ch_3, ch_t, ch_f, ch_4, rs_rt, rs_nx, rs_ex, ri_rt, ri_nx, ri_ex, i0_e, ir_e, ix_e0, List.getElem?_cons_zero, List.getElem?_cons_succ, List.set_cons_zero, List.set_cons_succ]
theorem p_change_l (ps : List Nat) (n : Nat) (hp : ps.length ≤ 10000) (h1 : ∀ p ∈ ps, p < n) (h2 : ps.Pairwise (· < ·)) : G_is_change [.lst (intsD ps), .int (n : Nat)] = .ok (.bl true) :=
  p_change_ok _ ps n (p_listed_l _) (fun _ => rfl) (fun _ => rfl) (by rw [g_lenL]; unfold intsD; rw [List.length_map]) hp h1 h2
theorem p_change_t (ps : List Nat) (n : Nat) (hp : ps.length ≤ 10000) (h1 : ∀ p ∈ ps, p < n) (h2 : ps.Pairwise (· < ·)) : G_is_change [.tup (intsD ps), .int (n : Nat)] = .ok (.bl true) :=
  p_change_ok _ ps n (p_listed_t _) (fun _ => rfl) (fun _ => rfl) (by rw [g_lenT]; unfold intsD; rw [List.length_map]) hp h1 h2
/-! with_changes -/
def sg (m : Bs) : List D := m.map fun b => D.str [ch b]
theorem sg_at {m : Bs} {i : Nat} (h : i < m.length) : atI (sg m) (i : Nat) = some (.str [ch (g0 m i)]) := by
  rw [atI_pos (by unfold sg; rw [List.length_map]; exact h)]
  unfold sg
  rw [List.getElem_map, g0_get h]
theorem p_with (v : D) (ps : List Nat) (m : Bs) (hv : ∀ ds : Ds, kAny v ds = .ok (intsD ps) ds) (hm : m.length ≤ 10000) (h1 : ∀ p ∈ ps, p < m.length) : G_with_changes [.str (tx m), v] = .ok (.str (tx (flips m ps))) := by
  show resD (b_with_changes [.sh (.str (tx m)), .sh v, .no, .no]) = _
  have hs : gSigns (.str (tx m)) = some (.lst (sg m)) := by
    show (if (tx m).length ≤ 10000000 then some (D.lst ((tx m).map fun c => .str [c])) else none) = _
    rw [if_pos (by rw [tx_len]; omega)]
    unfold sg tx
    rw [List.map_map]
    rfl
  obtain ⟨c', hc', hF, hI⟩ := loop_ex (k := fun p : Nat => D.int (p : Int)) (fun (s : Bs) (c : Cl) => [Cl.sh (.str (tx m)), .sh v, .ow false (.lst (sg s)), c]) (fun s => s.length = m.length) (fun c => ioC (some c) = true) (fun s p => s.set p (!g0 s p)) (g := putSh 3) (fb := B1_with_changes) ps m .no rfl rfl (by
    intro s c p hs hc hp
    have hp' := h1 p hp
    refine ⟨by simpa using hs, _, .sh (.int (p : Nat)), rfl, by simp only [bi_ok, bi_ex, th_ok, th_ex, lo_some, de_val, de_slot, dc_sh, dc_ow, ov_e, oc_sh, oc_ow, ol_e, kl_e, ev_e, ec_sh, ec_ow, cc_e, o2_e, k2_e, k2b_e, l2_e, o1_e, k1_e, l1_e, tb_e, kb_e, ta_e, ka_t, ka_f, to_e, ko_t, ko_f, tn_e, kn_e, ea_e, ea_t, ea_f, eo_e, eo_t, eo_f, en_e, en_k, if_e, if_t, if_f, tu_e, tu_k, ls_e, ls_k, an_e, ac_e, a1_e, a2_e, sq_e, sq_nx, sq_rt, sq_ex, sn_e, io_e, io_sh, io_no, io_ow, pu_e, pu_t, nx_e, se_e, se_k, ne_e, ne_k, ne_t, re_e, re_k, dr_e, dr_k, si_e, si_t, si_f, pa_e, pa_k, ob_some, fo_e, fo_k, ra_e, ra_k, ia_e, ia_l, ia_t, ia_s, r1_e, r1_k, r2_e, r2_k, lc_e, lc_k, lc_c, ca_e, ca_k, ou_ok, ou_ex, kw_e, kw_1, kw_2, ci_e, ci_s, ci_k, ci_g, oi_ok, oi_ex, m1_e, m1_k, m2_k, m3_k, ow_e, ow_k, ix_e, ix_0, ix_1, ix_2, ix_3, ix_4, pn_e, ps_e, ps_k, sl_e, sl_1, sl_2, sl_3, sl_4, fb_e, fb_k, ch_e, ch_1, ch_2, ch_3, ch_t, ch_f, ch_4, rs_rt, rs_nx, rs_ex, ri_rt, ri_nx, ri_ex, i0_e, ir_e, ix_e0, List.getElem?_cons_zero, List.getElem?_cons_succ, List.set_cons_zero, List.set_cons_succ, hc]; rfl, ?_⟩
    have ha := sg_at (m := s) (i := p) (by rw [hs]; exact hp')
    have hix : ixN (sg s).length (p : Int) = some p := ixN_pos (by unfold sg; rw [List.length_map, hs]; exact hp')
    have hset : ∀ b, (sg s).set p (.str [ch b]) = sg (s.set p b) := fun b => by unfold sg; rw [List.map_set]
    cases hb : g0 s p with
    | true =>
      rw [hb] at ha
      have := hset false
      simp only [B1_with_changes, g_ixL, ha, g_eqS, ch_eq, hix, Bool.not_true, bi_ok, bi_ex, th_ok, th_ex, lo_some, de_val, de_slot, dc_sh, dc_ow, ov_e, oc_sh, oc_ow, ol_e, kl_e, ev_e, ec_sh, ec_ow, cc_e, o2_e, k2_e, k2b_e, l2_e, o1_e, k1_e, l1_e, tb_e, kb_e, ta_e, ka_t, ka_f, to_e, ko_t, ko_f, tn_e, kn_e, ea_e, ea_t, ea_f, eo_e, eo_t, eo_f, en_e, en_k, if_e, if_t, if_f, tu_e, tu_k, ls_e, ls_k, an_e, ac_e, a1_e, a2_e, sq_e, sq_nx, sq_rt, sq_ex, sn_e, io_e, io_sh, io_no, io_ow, pu_e, pu_t, nx_e, se_e, se_k, ne_e, ne_k, ne_t, re_e, re_k, dr_e, dr_k, si_e, si_t, si_f, pa_e, pa_k, ob_some, fo_e, fo_k, ra_e, ra_k, ia_e, ia_l, ia_t, ia_s, r1_e, r1_k, r2_e, r2_k, lc_e, lc_k, lc_c, ca_e, ca_k, ou_ok, ou_ex, kw_e, kw_1, kw_2, ci_e, ci_s, ci_k, ci_g, oi_ok, oi_ex, m1_e, m1_k, m2_k, m3_k, ow_e, ow_k, ix_e, ix_0, ix_1, ix_2, ix_3, ix_4, pn_e, ps_e, ps_k, sl_e, sl_1, sl_2, sl_3, sl_4, fb_e, fb_k, ch_e, ch_1, ch_2, ch_3, ch_t, ch_f, ch_4, rs_rt, rs_nx, rs_ex, ri_rt, ri_nx, ri_ex, i0_e, ir_e, ix_e0, List.getElem?_cons_zero, List.getElem?_cons_succ, List.set_cons_zero, List.set_cons_succ]
      rw [show ([48] : List Nat) = [ch false] from rfl, this]
    | false =>
      rw [hb] at ha
      have := hset true
      simp only [B1_with_changes, g_ixL, ha, g_eqS, ch_eq, hix, Bool.not_false, bi_ok, bi_ex, th_ok, th_ex, lo_some, de_val, de_slot, dc_sh, dc_ow, ov_e, oc_sh, oc_ow, ol_e, kl_e, ev_e, ec_sh, ec_ow, cc_e, o2_e, k2_e, k2b_e, l2_e, o1_e, k1_e, l1_e, tb_e, kb_e, ta_e, ka_t, ka_f, to_e, ko_t, ko_f, tn_e, kn_e, ea_e, ea_t, ea_f, eo_e, eo_t, eo_f, en_e, en_k, if_e, if_t, if_f, tu_e, tu_k, ls_e, ls_k, an_e, ac_e, a1_e, a2_e, sq_e, sq_nx, sq_rt, sq_ex, sn_e, io_e, io_sh, io_no, io_ow, pu_e, pu_t, nx_e, se_e, se_k, ne_e, ne_k, ne_t, re_e, re_k, dr_e, dr_k, si_e, si_t, si_f, pa_e, pa_k, ob_some, fo_e, fo_k, ra_e, ra_k, ia_e, ia_l, ia_t, ia_s, r1_e, r1_k, r2_e, r2_k, lc_e, lc_k, lc_c, ca_e, ca_k, ou_ok, ou_ex, kw_e, kw_1, kw_2, ci_e, ci_s, ci_k, ci_g, oi_ok, oi_ex, m1_e, m1_k, m2_k, m3_k, ow_e, ow_k, ix_e, ix_0, ix_1, ix_2, ix_3, ix_4, pn_e, ps_e, ps_k, sl_e, sl_1, sl_2, sl_3, sl_4, fb_e, fb_k, ch_e, ch_1, ch_2, ch_3, ch_t, ch_f, ch_4, rs_rt, rs_nx, rs_ex, ri_rt, ri_nx, ri_ex, i0_e, ir_e, ix_e0, List.getElem?_cons_zero, List.getElem?_cons_succ, List.set_cons_zero, List.set_cons_succ]
      rw [show ([49] : List Nat) = [ch true] from rfl, this])
  have hF2 : F2_with_changes [.sh (.str (tx m)), .sh v, .ow false (.lst (sg m)), .no] = .nx [.sh (.str (tx m)), .sh v, .ow false (.lst (sg (flips m ps))), c'] :=
    (for_run (xs := intsD ps) (by simp only [hv, bi_ok, bi_ex, th_ok, th_ex, lo_some, de_val, de_slot, dc_sh, dc_ow, ov_e, oc_sh, oc_ow, ol_e, kl_e, ev_e, ec_sh, ec_ow, cc_e, o2_e, k2_e, k2b_e, l2_e, o1_e, k1_e, l1_e, tb_e, kb_e, ta_e, ka_t, ka_f, to_e, ko_t, ko_f, tn_e, kn_e, ea_e, ea_t, ea_f, eo_e, eo_t, eo_f, en_e, en_k, if_e, if_t, if_f, tu_e, tu_k, ls_e, ls_k, an_e, ac_e, a1_e, a2_e, sq_e, sq_nx, sq_rt, sq_ex, sn_e, io_e, io_sh, io_no, io_ow, pu_e, pu_t, nx_e, se_e, se_k, ne_e, ne_k, ne_t, re_e, re_k, dr_e, dr_k, si_e, si_t, si_f, pa_e, pa_k, ob_some, fo_e, fo_k, ra_e, ra_k, ia_e, ia_l, ia_t, ia_s, r1_e, r1_k, r2_e, r2_k, lc_e, lc_k, lc_c, ca_e, ca_k, ou_ok, ou_ex, kw_e, kw_1, kw_2, ci_e, ci_s, ci_k, ci_g, oi_ok, oi_ex, m1_e, m1_k, m2_k, m3_k, ow_e, ow_k, ix_e, ix_0, ix_1, ix_2, ix_3, ix_4, pn_e, ps_e, ps_k, sl_e, sl_1, sl_2, sl_3, sl_4, fb_e, fb_k, ch_e, ch_1, ch_2, ch_3, ch_t, ch_f, ch_4, rs_rt, rs_nx, rs_ex, ri_rt, ri_nx, ri_ex, i0_e, ir_e, ix_e0, List.getElem?_cons_zero, List.getElem?_cons_succ, List.set_cons_zero, List.set_cons_succ])).trans hF
  have hj : gJoin [] (.lst (sg (flips m ps))) = some (.str (tx (flips m ps))) := join_tx _ (by rw [flips_len]; exact hm)
  simp only [b_with_changes, hs, hF2, hj, bi_ok, bi_ex, th_ok, th_ex, lo_some, de_val, de_slot, dc_sh, dc_ow, ov_e, oc_sh, oc_ow, ol_e, kl_e, ev_e, ec_sh, ec_ow, cc_e, o2_e, k2_e, k2b_e, l2_e, o1_e, k1_e, l1_e, tb_e, kb_e, ta_e, ka_t, ka_f, to_e, ko_t, ko_f, tn_e, kn_e, ea_e, ea_t, ea_f, eo_e, eo_t, eo_f, en_e, en_k, if_e, if_t, if_f, tu_e, tu_k, ls_e, ls_k, an_e, ac_e, a1_e, a2_e, sq_e, sq_nx, sq_rt, sq_ex, sn_e, io_e, io_sh, io_no, io_ow, pu_e, pu_t, nx_e, se_e, se_k, ne_e, ne_k, ne_t, re_e, re_k, dr_e, dr_k, si_e, si_t, si_f, pa_e, pa_k, ob_some, fo_e, fo_k, ra_e, ra_k, ia_e, ia_l, ia_t, ia_s, r1_e, r1_k, r2_e, r2_k, lc_e, lc_k, lc_c, ca_e, ca_k, ou_ok, ou_ex, kw_e, kw_1, kw_2, ci_e, ci_s, ci_k, ci_g, oi_ok, oi_ex, m1_e, m1_k, m2_k, m3_k, ow_e, ow_k, ix_e, ix_0, ix_1, ix_2, ix_3, ix_4, pn_e, ps_e, ps_k, sl_e, sl_1, sl_2, sl_3, sl_4, fb_e, fb_k, ch_e, ch_1, ch_2, ch_3, ch_t, ch_f, ch_4, rs_rt, rs_nx, rs_ex, ri_rt, ri_nx, ri_ex, i0_e, ir_e, ix_e0, List.getElem?_cons_zero, List.getElem?_cons_succ, List.set_cons_zero, List.set_cons_succ]
theorem len_tx (m : Bs) (hm : m.length ≤ 10000) : gLen (.str (tx m)) = some (.int (m.length : Nat)) := by rw [g_lenS (by rw [tx_len]; omega), tx_len]
theorem p_changed (v : D) (ps : List Nat) (m : Bs) (hv : ∀ ds : Ds, kAny v ds = .ok (intsD ps) ds) (hm : m.length ≤ 5000) (h1 : ∀ p ∈ ps, p < m.length) (h2 : ps.Pairwise (· < ·)) (hc : G_is_change [v, .int (m.length : Nat)] = .ok (.bl true)) :
    G_changed [.str (tx m), v] = .ok (.str (tx (xl m (mask m.length ps)))) := by
  show resD (b_changed [.sh (.str (tx m)), .sh v]) = _
  have nd : ps.Nodup := h2.imp fun {a b} h => by omega
  have hw := p_with v ps m hv (by omega) h1
  rw [flips_xl m ps nd] at hw
  simp only [b_changed, p_need_bits _ _ (is_tx m hm), len_tx m (by omega), hc, hw, Bool.not_true, bi_ok, bi_ex, th_ok, th_ex, lo_some, de_val, de_slot, dc_sh, dc_ow, ov_e, oc_sh, oc_ow, ol_e, kl_e, ev_e, ec_sh, ec_ow, cc_e, o2_e, k2_e, k2b_e, l2_e, o1_e, k1_e, l1_e, tb_e, kb_e, ta_e, ka_t, ka_f, to_e, ko_t, ko_f, tn_e, kn_e, ea_e, ea_t, ea_f, eo_e, eo_t, eo_f, en_e, en_k, if_e, if_t, if_f, tu_e, tu_k, ls_e, ls_k, an_e, ac_e, a1_e, a2_e, sq_e, sq_nx, sq_rt, sq_ex, sn_e, io_e, io_sh, io_no, io_ow, pu_e, pu_t, nx_e, se_e, se_k, ne_e, ne_k, ne_t, re_e, re_k, dr_e, dr_k, si_e, si_t, si_f, pa_e, pa_k, ob_some, fo_e, fo_k, ra_e, ra_k, ia_e, ia_l, ia_t, ia_s, r1_e, r1_k, r2_e, r2_k, lc_e, lc_k, lc_c, ca_e, ca_k, ou_ok, ou_ex, kw_e, kw_1, kw_2, ci_e, ci_s, ci_k, ci_g, oi_ok, oi_ex, m1_e, m1_k, m2_k, m3_k, ow_e, ow_k, ix_e, ix_0, ix_1, ix_2, ix_3, ix_4, pn_e, ps_e, ps_k, sl_e, sl_1, sl_2, sl_3, sl_4, fb_e, fb_k, ch_e, ch_1, ch_2, ch_3, ch_t, ch_f, ch_4, rs_rt, rs_nx, rs_ex, ri_rt, ri_nx, ri_ex, i0_e, ir_e, ix_e0, List.getElem?_cons_zero, List.getElem?_cons_succ, List.set_cons_zero, List.set_cons_succ]
theorem p_changed_l (ps : List Nat) (m : Bs) (hm : m.length ≤ 5000) (hp : ps.length ≤ 10000) (h1 : ∀ p ∈ ps, p < m.length) (h2 : ps.Pairwise (· < ·)) : G_changed [.str (tx m), .lst (intsD ps)] = .ok (.str (tx (xl m (mask m.length ps)))) :=
  p_changed _ ps m (fun _ => rfl) hm h1 h2 (p_change_l ps _ hp h1 h2)
theorem p_changed_t (ps : List Nat) (m : Bs) (hm : m.length ≤ 5000) (hp : ps.length ≤ 10000) (h1 : ∀ p ∈ ps, p < m.length) (h2 : ps.Pairwise (· < ·)) : G_changed [.str (tx m), .tup (intsD ps)] = .ok (.str (tx (xl m (mask m.length ps)))) :=
  p_changed _ ps m (fun _ => rfl) hm h1 h2 (p_change_t ps _ hp h1 h2)
theorem p_changed_b (b v : D) (h : G_is_bits [b] = .ok (.bl false)) : G_changed [b, v] = .ex ⟨"BadBits", ["part"], [.str [98, 105, 116, 115]]⟩ := by
  show resD (b_changed [.sh b, .sh v]) = _
  simp only [b_changed, p_need_bits_no _ _ h, bi_ok, bi_ex, th_ok, th_ex, lo_some, de_val, de_slot, dc_sh, dc_ow, ov_e, oc_sh, oc_ow, ol_e, kl_e, ev_e, ec_sh, ec_ow, cc_e, o2_e, k2_e, k2b_e, l2_e, o1_e, k1_e, l1_e, tb_e, kb_e, ta_e, ka_t, ka_f, to_e, ko_t, ko_f, tn_e, kn_e, ea_e, ea_t, ea_f, eo_e, eo_t, eo_f, en_e, en_k, if_e, if_t, if_f, tu_e, tu_k, ls_e, ls_k, an_e, ac_e, a1_e, a2_e, sq_e, sq_nx, sq_rt, sq_ex, sn_e, io_e, io_sh, io_no, io_ow, pu_e, pu_t, nx_e, se_e, se_k, ne_e, ne_k, ne_t, re_e, re_k, dr_e, dr_k, si_e, si_t, si_f, pa_e, pa_k, ob_some, fo_e, fo_k, ra_e, ra_k, ia_e, ia_l, ia_t, ia_s, r1_e, r1_k, r2_e, r2_k, lc_e, lc_k, lc_c, ca_e, ca_k, ou_ok, ou_ex, kw_e, kw_1, kw_2, ci_e, ci_s, ci_k, ci_g, oi_ok, oi_ex, m1_e, m1_k, m2_k, m3_k, ow_e, ow_k, ix_e, ix_0, ix_1, ix_2, ix_3, ix_4, pn_e, ps_e, ps_k, sl_e, sl_1, sl_2, sl_3, sl_4, fb_e, fb_k, ch_e, ch_1, ch_2, ch_3, ch_t, ch_f, ch_4, rs_rt, rs_nx, rs_ex, ri_rt, ri_nx, ri_ex, i0_e, ir_e, ix_e0, List.getElem?_cons_zero, List.getElem?_cons_succ, List.set_cons_zero, List.set_cons_succ]
theorem p_changed_p (m : Bs) (v : D) (hm : m.length ≤ 5000) (h : G_is_change [v, .int (m.length : Nat)] = .ok (.bl false)) : G_changed [.str (tx m), v] = .ex ⟨"BadRow", ["part"], [.str [112, 108, 97, 99, 101, 115]]⟩ := by
  show resD (b_changed [.sh (.str (tx m)), .sh v]) = _
  simp only [b_changed, p_need_bits _ _ (is_tx m hm), len_tx m (by omega), h, Bool.not_false, bi_ok, bi_ex, th_ok, th_ex, lo_some, de_val, de_slot, dc_sh, dc_ow, ov_e, oc_sh, oc_ow, ol_e, kl_e, ev_e, ec_sh, ec_ow, cc_e, o2_e, k2_e, k2b_e, l2_e, o1_e, k1_e, l1_e, tb_e, kb_e, ta_e, ka_t, ka_f, to_e, ko_t, ko_f, tn_e, kn_e, ea_e, ea_t, ea_f, eo_e, eo_t, eo_f, en_e, en_k, if_e, if_t, if_f, tu_e, tu_k, ls_e, ls_k, an_e, ac_e, a1_e, a2_e, sq_e, sq_nx, sq_rt, sq_ex, sn_e, io_e, io_sh, io_no, io_ow, pu_e, pu_t, nx_e, se_e, se_k, ne_e, ne_k, ne_t, re_e, re_k, dr_e, dr_k, si_e, si_t, si_f, pa_e, pa_k, ob_some, fo_e, fo_k, ra_e, ra_k, ia_e, ia_l, ia_t, ia_s, r1_e, r1_k, r2_e, r2_k, lc_e, lc_k, lc_c, ca_e, ca_k, ou_ok, ou_ex, kw_e, kw_1, kw_2, ci_e, ci_s, ci_k, ci_g, oi_ok, oi_ex, m1_e, m1_k, m2_k, m3_k, ow_e, ow_k, ix_e, ix_0, ix_1, ix_2, ix_3, ix_4, pn_e, ps_e, ps_k, sl_e, sl_1, sl_2, sl_3, sl_4, fb_e, fb_k, ch_e, ch_1, ch_2, ch_3, ch_t, ch_f, ch_4, rs_rt, rs_nx, rs_ex, ri_rt, ri_nx, ri_ex, i0_e, ir_e, ix_e0, List.getElem?_cons_zero, List.getElem?_cons_succ, List.set_cons_zero, List.set_cons_succ]
/-! the law's own change -/
theorem any_ints (ps : List Nat) (i : Nat) : ((intsD ps).any fun y => deq y (.int (i : Nat))) = decide (i ∈ ps) := by
  unfold intsD
  rw [List.any_map]
  induction ps with
  | nil => rfl
  | cons p ps ih =>
    rw [List.any_cons, ih]
    show ((((p : Nat) : Int) == (i : Nat)) || decide (i ∈ ps)) = _
    by_cases h : p = i
    · subst h; simp
    · have : (((p : Nat) : Int) == (i : Nat)) = false := beq_eq_false_iff_ne.mpr (by omega)
      rw [this]
      simp [Ne.symm h]
theorem p_law_change (ps : List Nat) (m : Bs) (hm : m.length ≤ 5000) : G__law_change [.str (tx m), .lst (intsD ps)] = .ok (.str (tx (xl m (mask m.length ps)))) := by
  show resD (b__law_change [.sh (.str (tx m)), .sh (.lst (intsD ps)), .no]) = _
  have hc : C1__law_change [.sh (.str (tx m)), .sh (.lst (intsD ps)), .no] = .ok (.lst ((List.range m.length).map fun i => .str [ch (g0 m i ^^ decide (i ∈ ps))])) [.sh (.str (tx m)), .sh (.lst (intsD ps)), .no] := by
    refine lc_run (xs := (List.range m.length).map fun k : Nat => D.int (k : Int)) (range1_run (by simp only [len_tx m (by omega), bi_ok, bi_ex, th_ok, th_ex, lo_some, de_val, de_slot, dc_sh, dc_ow, ov_e, oc_sh, oc_ow, ol_e, kl_e, ev_e, ec_sh, ec_ow, cc_e, o2_e, k2_e, k2b_e, l2_e, o1_e, k1_e, l1_e, tb_e, kb_e, ta_e, ka_t, ka_f, to_e, ko_t, ko_f, tn_e, kn_e, ea_e, ea_t, ea_f, eo_e, eo_t, eo_f, en_e, en_k, if_e, if_t, if_f, tu_e, tu_k, ls_e, ls_k, an_e, ac_e, a1_e, a2_e, sq_e, sq_nx, sq_rt, sq_ex, sn_e, io_e, io_sh, io_no, io_ow, pu_e, pu_t, nx_e, se_e, se_k, ne_e, ne_k, ne_t, re_e, re_k, dr_e, dr_k, si_e, si_t, si_f, pa_e, pa_k, ob_some, fo_e, fo_k, ra_e, ra_k, ia_e, ia_l, ia_t, ia_s, r1_e, r1_k, r2_e, r2_k, lc_e, lc_k, lc_c, ca_e, ca_k, ou_ok, ou_ex, kw_e, kw_1, kw_2, ci_e, ci_s, ci_k, ci_g, oi_ok, oi_ex, m1_e, m1_k, m2_k, m3_k, ow_e, ow_k, ix_e, ix_0, ix_1, ix_2, ix_3, ix_4, pn_e, ps_e, ps_k, sl_e, sl_1, sl_2, sl_3, sl_4, fb_e, fb_k, ch_e, ch_1, ch_2, ch_3, ch_t, ch_f, ch_4, rs_rt, rs_nx, rs_ex, ri_rt, ri_nx, ri_ex, i0_e, ir_e, ix_e0, List.getElem?_cons_zero, List.getElem?_cons_succ, List.set_cons_zero, List.set_cons_succ]; rfl) (by omega)) rfl (by simp; omega)
      (comp_map (k := fun k : Nat => D.int (k : Int)) (h := fun i => .str [ch (g0 m i ^^ decide (i ∈ ps))]) _ fun i hi => ⟨_, [.sh (.str (tx m)), .sh (.lst (intsD ps)), .sh (.int (i : Nat))], rfl, ?_, rfl⟩) rfl
    have hi' := List.mem_range.mp hi
    have h1 := tx_at hi' (by omega)
    have h2 : gIn (.int (i : Nat)) (.lst (intsD ps)) = some (.bl (decide (i ∈ ps))) := by
      rw [g_inL rfl (by unfold intsD; simp [flatD]), any_ints]
    have h3 : ∀ b, ([ch b] == [48]) = !b := by decide
    cases hb : decide (i ∈ ps) with
    | false =>
      rw [hb] at h2
      simp only [wipeD, h1, h2, Bool.xor_false, bi_ok, bi_ex, th_ok, th_ex, lo_some, de_val, de_slot, dc_sh, dc_ow, ov_e, oc_sh, oc_ow, ol_e, kl_e, ev_e, ec_sh, ec_ow, cc_e, o2_e, k2_e, k2b_e, l2_e, o1_e, k1_e, l1_e, tb_e, kb_e, ta_e, ka_t, ka_f, to_e, ko_t, ko_f, tn_e, kn_e, ea_e, ea_t, ea_f, eo_e, eo_t, eo_f, en_e, en_k, if_e, if_t, if_f, tu_e, tu_k, ls_e, ls_k, an_e, ac_e, a1_e, a2_e, sq_e, sq_nx, sq_rt, sq_ex, sn_e, io_e, io_sh, io_no, io_ow, pu_e, pu_t, nx_e, se_e, se_k, ne_e, ne_k, ne_t, re_e, re_k, dr_e, dr_k, si_e, si_t, si_f, pa_e, pa_k, ob_some, fo_e, fo_k, ra_e, ra_k, ia_e, ia_l, ia_t, ia_s, r1_e, r1_k, r2_e, r2_k, lc_e, lc_k, lc_c, ca_e, ca_k, ou_ok, ou_ex, kw_e, kw_1, kw_2, ci_e, ci_s, ci_k, ci_g, oi_ok, oi_ex, m1_e, m1_k, m2_k, m3_k, ow_e, ow_k, ix_e, ix_0, ix_1, ix_2, ix_3, ix_4, pn_e, ps_e, ps_k, sl_e, sl_1, sl_2, sl_3, sl_4, fb_e, fb_k, ch_e, ch_1, ch_2, ch_3, ch_t, ch_f, ch_4, rs_rt, rs_nx, rs_ex, ri_rt, ri_nx, ri_ex, i0_e, ir_e, ix_e0, List.getElem?_cons_zero, List.getElem?_cons_succ, List.set_cons_zero, List.set_cons_succ]
    | true =>
      rw [hb] at h2
      cases hg : g0 m i with
      | false =>
        rw [hg] at h1
        simp only [wipeD, h1, h2, g_eqS, h3, Bool.not_false, bi_ok, bi_ex, th_ok, th_ex, lo_some, de_val, de_slot, dc_sh, dc_ow, ov_e, oc_sh, oc_ow, ol_e, kl_e, ev_e, ec_sh, ec_ow, cc_e, o2_e, k2_e, k2b_e, l2_e, o1_e, k1_e, l1_e, tb_e, kb_e, ta_e, ka_t, ka_f, to_e, ko_t, ko_f, tn_e, kn_e, ea_e, ea_t, ea_f, eo_e, eo_t, eo_f, en_e, en_k, if_e, if_t, if_f, tu_e, tu_k, ls_e, ls_k, an_e, ac_e, a1_e, a2_e, sq_e, sq_nx, sq_rt, sq_ex, sn_e, io_e, io_sh, io_no, io_ow, pu_e, pu_t, nx_e, se_e, se_k, ne_e, ne_k, ne_t, re_e, re_k, dr_e, dr_k, si_e, si_t, si_f, pa_e, pa_k, ob_some, fo_e, fo_k, ra_e, ra_k, ia_e, ia_l, ia_t, ia_s, r1_e, r1_k, r2_e, r2_k, lc_e, lc_k, lc_c, ca_e, ca_k, ou_ok, ou_ex, kw_e, kw_1, kw_2, ci_e, ci_s, ci_k, ci_g, oi_ok, oi_ex, m1_e, m1_k, m2_k, m3_k, ow_e, ow_k, ix_e, ix_0, ix_1, ix_2, ix_3, ix_4, pn_e, ps_e, ps_k, sl_e, sl_1, sl_2, sl_3, sl_4, fb_e, fb_k, ch_e, ch_1, ch_2, ch_3, ch_t, ch_f, ch_4, rs_rt, rs_nx, rs_ex, ri_rt, ri_nx, ri_ex, i0_e, ir_e, ix_e0, List.getElem?_cons_zero, List.getElem?_cons_succ, List.set_cons_zero, List.set_cons_succ]
        rfl
      | true =>
        rw [hg] at h1
        simp only [wipeD, h1, h2, g_eqS, h3, Bool.not_true, bi_ok, bi_ex, th_ok, th_ex, lo_some, de_val, de_slot, dc_sh, dc_ow, ov_e, oc_sh, oc_ow, ol_e, kl_e, ev_e, ec_sh, ec_ow, cc_e, o2_e, k2_e, k2b_e, l2_e, o1_e, k1_e, l1_e, tb_e, kb_e, ta_e, ka_t, ka_f, to_e, ko_t, ko_f, tn_e, kn_e, ea_e, ea_t, ea_f, eo_e, eo_t, eo_f, en_e, en_k, if_e, if_t, if_f, tu_e, tu_k, ls_e, ls_k, an_e, ac_e, a1_e, a2_e, sq_e, sq_nx, sq_rt, sq_ex, sn_e, io_e, io_sh, io_no, io_ow, pu_e, pu_t, nx_e, se_e, se_k, ne_e, ne_k, ne_t, re_e, re_k, dr_e, dr_k, si_e, si_t, si_f, pa_e, pa_k, ob_some, fo_e, fo_k, ra_e, ra_k, ia_e, ia_l, ia_t, ia_s, r1_e, r1_k, r2_e, r2_k, lc_e, lc_k, lc_c, ca_e, ca_k, ou_ok, ou_ex, kw_e, kw_1, kw_2, ci_e, ci_s, ci_k, ci_g, oi_ok, oi_ex, m1_e, m1_k, m2_k, m3_k, ow_e, ow_k, ix_e, ix_0, ix_1, ix_2, ix_3, ix_4, pn_e, ps_e, ps_k, sl_e, sl_1, sl_2, sl_3, sl_4, fb_e, fb_k, ch_e, ch_1, ch_2, ch_3, ch_t, ch_f, ch_4, rs_rt, rs_nx, rs_ex, ri_rt, ri_nx, ri_ex, i0_e, ir_e, ix_e0, List.getElem?_cons_zero, List.getElem?_cons_succ, List.set_cons_zero, List.set_cons_succ]
        rfl
  have hj := join_tx (xl m (mask m.length ps)) (by rw [xl_len _ _ (mask_len _ _).symm]; omega)
  rw [flips_eq, List.map_map] at hj
  rw [flips_eq]
  have hj' : gJoin [] (.lst ((List.range m.length).map fun i => .str [ch (g0 m i ^^ decide (i ∈ ps))])) = some (.str (tx ((List.range m.length).map fun i => g0 m i ^^ decide (i ∈ ps)))) := hj
  simp only [b__law_change, hc, hj', bi_ok, bi_ex, th_ok, th_ex, lo_some, de_val, de_slot, dc_sh, dc_ow, ov_e, oc_sh, oc_ow, ol_e, kl_e, ev_e, ec_sh, ec_ow, cc_e, o2_e, k2_e, k2b_e, l2_e, o1_e, k1_e, l1_e, tb_e, kb_e, ta_e, ka_t, ka_f, to_e, ko_t, ko_f, tn_e, kn_e, ea_e, ea_t, ea_f, eo_e, eo_t, eo_f, en_e, en_k, if_e, if_t, if_f, tu_e, tu_k, ls_e, ls_k, an_e, ac_e, a1_e, a2_e, sq_e, sq_nx, sq_rt, sq_ex, sn_e, io_e, io_sh, io_no, io_ow, pu_e, pu_t, nx_e, se_e, se_k, ne_e, ne_k, ne_t, re_e, re_k, dr_e, dr_k, si_e, si_t, si_f, pa_e, pa_k, ob_some, fo_e, fo_k, ra_e, ra_k, ia_e, ia_l, ia_t, ia_s, r1_e, r1_k, r2_e, r2_k, lc_e, lc_k, lc_c, ca_e, ca_k, ou_ok, ou_ex, kw_e, kw_1, kw_2, ci_e, ci_s, ci_k, ci_g, oi_ok, oi_ex, m1_e, m1_k, m2_k, m3_k, ow_e, ow_k, ix_e, ix_0, ix_1, ix_2, ix_3, ix_4, pn_e, ps_e, ps_k, sl_e, sl_1, sl_2, sl_3, sl_4, fb_e, fb_k, ch_e, ch_1, ch_2, ch_3, ch_t, ch_f, ch_4, rs_rt, rs_nx, rs_ex, ri_rt, ri_nx, ri_ex, i0_e, ir_e, ix_e0, List.getElem?_cons_zero, List.getElem?_cons_succ, List.set_cons_zero, List.set_cons_succ]
theorem p_law_sum (a b : Bs) (h : a.length = b.length) (ha : a.length ≤ 5000) : G__law_sum [.str (tx a), .str (tx b)] = .ok (.str (tx (xl a b))) := by
  show resD (b__law_sum [.sh (.str (tx a)), .sh (.str (tx b)), .no]) = _
  have hx : (List.range a.length).map (fun i => g0 a i ^^ g0 b i) = xl a b := by
    have hl := xl_len a b h
    apply List.ext_getElem
    · rw [hl]; simp
    · intro i h1 h2
      rw [hl] at h2
      rw [List.getElem_map, List.getElem_range, xl_get (by rw [hl]; exact h2) h2 (by omega), g0_get h2, g0_get (by omega)]
  have hc : C1__law_sum [.sh (.str (tx a)), .sh (.str (tx b)), .no] = .ok (.lst ((List.range a.length).map fun i => .str [ch (g0 a i ^^ g0 b i)])) [.sh (.str (tx a)), .sh (.str (tx b)), .no] := by
    refine lc_run (xs := (List.range a.length).map fun k : Nat => D.int (k : Int)) (range1_run (by simp only [len_tx a (by omega), bi_ok, bi_ex, th_ok, th_ex, lo_some, de_val, de_slot, dc_sh, dc_ow, ov_e, oc_sh, oc_ow, ol_e, kl_e, ev_e, ec_sh, ec_ow, cc_e, o2_e, k2_e, k2b_e, l2_e, o1_e, k1_e, l1_e, tb_e, kb_e, ta_e, ka_t, ka_f, to_e, ko_t, ko_f, tn_e, kn_e, ea_e, ea_t, ea_f, eo_e, eo_t, eo_f, en_e, en_k, if_e, if_t, if_f, tu_e, tu_k, ls_e, ls_k, an_e, ac_e, a1_e, a2_e, sq_e, sq_nx, sq_rt, sq_ex, sn_e, io_e, io_sh, io_no, io_ow, pu_e, pu_t, nx_e, se_e, se_k, ne_e, ne_k, ne_t, re_e, re_k, dr_e, dr_k, si_e, si_t, si_f, pa_e, pa_k, ob_some, fo_e, fo_k, ra_e, ra_k, ia_e, ia_l, ia_t, ia_s, r1_e, r1_k, r2_e, r2_k, lc_e, lc_k, lc_c, ca_e, ca_k, ou_ok, ou_ex, kw_e, kw_1, kw_2, ci_e, ci_s, ci_k, ci_g, oi_ok, oi_ex, m1_e, m1_k, m2_k, m3_k, ow_e, ow_k, ix_e, ix_0, ix_1, ix_2, ix_3, ix_4, pn_e, ps_e, ps_k, sl_e, sl_1, sl_2, sl_3, sl_4, fb_e, fb_k, ch_e, ch_1, ch_2, ch_3, ch_t, ch_f, ch_4, rs_rt, rs_nx, rs_ex, ri_rt, ri_nx, ri_ex, i0_e, ir_e, ix_e0, List.getElem?_cons_zero, List.getElem?_cons_succ, List.set_cons_zero, List.set_cons_succ]; rfl) (by omega)) rfl (by simp; omega)
      (comp_map (k := fun k : Nat => D.int (k : Int)) (h := fun i => .str [ch (g0 a i ^^ g0 b i)]) _ fun i hi => ⟨_, [.sh (.str (tx a)), .sh (.str (tx b)), .sh (.int (i : Nat))], rfl, ?_, rfl⟩) rfl
    have hi' := List.mem_range.mp hi
    have h1 := tx_at (l := a) hi' (by omega)
    have h2 := tx_at (l := b) (i := i) (by omega) (by omega)
    have h3 : ∀ x y : Bool, (!([ch x] == [ch y])) = (x ^^ y) := by decide
    have h4 : ∀ x : Bool, gIx (.str [48, 49]) (.int (if x then 1 else 0)) = some (.str [ch x]) := fun x => by cases x <;> rfl
    simp only [wipeD, h1, h2, g_neS, h3, g_intB, h4, bi_ok, bi_ex, th_ok, th_ex, lo_some, de_val, de_slot, dc_sh, dc_ow, ov_e, oc_sh, oc_ow, ol_e, kl_e, ev_e, ec_sh, ec_ow, cc_e, o2_e, k2_e, k2b_e, l2_e, o1_e, k1_e, l1_e, tb_e, kb_e, ta_e, ka_t, ka_f, to_e, ko_t, ko_f, tn_e, kn_e, ea_e, ea_t, ea_f, eo_e, eo_t, eo_f, en_e, en_k, if_e, if_t, if_f, tu_e, tu_k, ls_e, ls_k, an_e, ac_e, a1_e, a2_e, sq_e, sq_nx, sq_rt, sq_ex, sn_e, io_e, io_sh, io_no, io_ow, pu_e, pu_t, nx_e, se_e, se_k, ne_e, ne_k, ne_t, re_e, re_k, dr_e, dr_k, si_e, si_t, si_f, pa_e, pa_k, ob_some, fo_e, fo_k, ra_e, ra_k, ia_e, ia_l, ia_t, ia_s, r1_e, r1_k, r2_e, r2_k, lc_e, lc_k, lc_c, ca_e, ca_k, ou_ok, ou_ex, kw_e, kw_1, kw_2, ci_e, ci_s, ci_k, ci_g, oi_ok, oi_ex, m1_e, m1_k, m2_k, m3_k, ow_e, ow_k, ix_e, ix_0, ix_1, ix_2, ix_3, ix_4, pn_e, ps_e, ps_k, sl_e, sl_1, sl_2, sl_3, sl_4, fb_e, fb_k, ch_e, ch_1, ch_2, ch_3, ch_t, ch_f, ch_4, rs_rt, rs_nx, rs_ex, ri_rt, ri_nx, ri_ex, i0_e, ir_e, ix_e0, List.getElem?_cons_zero, List.getElem?_cons_succ, List.set_cons_zero, List.set_cons_succ]
  have hj := join_tx (xl a b) (by rw [xl_len _ _ h]; omega)
  rw [← hx, List.map_map] at hj
  have hj' : gJoin [] (.lst ((List.range a.length).map fun i => .str [ch (g0 a i ^^ g0 b i)])) = some (.str (tx ((List.range a.length).map fun i => g0 a i ^^ g0 b i))) := hj
  rw [hx] at hj'
  simp only [b__law_sum, hc, hj', bi_ok, bi_ex, th_ok, th_ex, lo_some, de_val, de_slot, dc_sh, dc_ow, ov_e, oc_sh, oc_ow, ol_e, kl_e, ev_e, ec_sh, ec_ow, cc_e, o2_e, k2_e, k2b_e, l2_e, o1_e, k1_e, l1_e, tb_e, kb_e, ta_e, ka_t, ka_f, to_e, ko_t, ko_f, tn_e, kn_e, ea_e, ea_t, ea_f, eo_e, eo_t, eo_f, en_e, en_k, if_e, if_t, if_f, tu_e, tu_k, ls_e, ls_k, an_e, ac_e, a1_e, a2_e, sq_e, sq_nx, sq_rt, sq_ex, sn_e, io_e, io_sh, io_no, io_ow, pu_e, pu_t, nx_e, se_e, se_k, ne_e, ne_k, ne_t, re_e, re_k, dr_e, dr_k, si_e, si_t, si_f, pa_e, pa_k, ob_some, fo_e, fo_k, ra_e, ra_k, ia_e, ia_l, ia_t, ia_s, r1_e, r1_k, r2_e, r2_k, lc_e, lc_k, lc_c, ca_e, ca_k, ou_ok, ou_ex, kw_e, kw_1, kw_2, ci_e, ci_s, ci_k, ci_g, oi_ok, oi_ex, m1_e, m1_k, m2_k, m3_k, ow_e, ow_k, ix_e, ix_0, ix_1, ix_2, ix_3, ix_4, pn_e, ps_e, ps_k, sl_e, sl_1, sl_2, sl_3, sl_4, fb_e, fb_k, ch_e, ch_1, ch_2, ch_3, ch_t, ch_f, ch_4, rs_rt, rs_nx, rs_ex, ri_rt, ri_nx, ri_ex, i0_e, ir_e, ix_e0, List.getElem?_cons_zero, List.getElem?_cons_succ, List.set_cons_zero, List.set_cons_succ]
theorem p_law_with_guard (gt m : Bs) (hg : Gd gt) (hm : m.length ≤ 4000) : G__law_with_guard [.str (tx m), .str (tx (true :: gt))] = .ok (.str (tx (m ++ rest gt (m ++ zs gt.length)))) := by
  show resD (b__law_with_guard [.sh (.str (tx m)), .sh (.str (tx (true :: gt)))]) = _
  have hl := hg.len
  have h2 := len_tx (true :: gt) (by simp; omega)
  have e2 : (((true :: gt).length : Nat) : Int) - 1 = (gt.length : Nat) := by simp
  have h3 : gMul (.str [48]) (.int (gt.length : Nat)) = some (.str (tx (zs gt.length))) := by
    rw [g_mulS ⟨by omega, by omega, by simp; omega⟩, Int.toNat_natCast, flat48, tx_zs]
  have h4 : gAdd (.str (tx m)) (.str (tx (zs gt.length))) = some (.str (tx (m ++ zs gt.length))) := by
    rw [g_addS (by rw [tx_len, tx_len]; simp [zs]; omega), tx_app]
  have h5 : gAdd (.str (tx m)) (.str (tx (rest gt (m ++ zs gt.length)))) = some (.str (tx (m ++ rest gt (m ++ zs gt.length)))) := by
    rw [g_addS (by rw [tx_len, tx_len, rest_len]; omega), tx_app]
  simp only [b__law_with_guard, h2, g_sub, e2, h3, h4, p_law_rest gt (m ++ zs gt.length) hg (by simp [zs]; omega), h5, bi_ok, bi_ex, th_ok, th_ex, lo_some, de_val, de_slot, dc_sh, dc_ow, ov_e, oc_sh, oc_ow, ol_e, kl_e, ev_e, ec_sh, ec_ow, cc_e, o2_e, k2_e, k2b_e, l2_e, o1_e, k1_e, l1_e, tb_e, kb_e, ta_e, ka_t, ka_f, to_e, ko_t, ko_f, tn_e, kn_e, ea_e, ea_t, ea_f, eo_e, eo_t, eo_f, en_e, en_k, if_e, if_t, if_f, tu_e, tu_k, ls_e, ls_k, an_e, ac_e, a1_e, a2_e, sq_e, sq_nx, sq_rt, sq_ex, sn_e, io_e, io_sh, io_no, io_ow, pu_e, pu_t, nx_e, se_e, se_k, ne_e, ne_k, ne_t, re_e, re_k, dr_e, dr_k, si_e, si_t, si_f, pa_e, pa_k, ob_some, fo_e, fo_k, ra_e, ra_k, ia_e, ia_l, ia_t, ia_s, r1_e, r1_k, r2_e, r2_k, lc_e, lc_k, lc_c, ca_e, ca_k, ou_ok, ou_ex, kw_e, kw_1, kw_2, ci_e, ci_s, ci_k, ci_g, oi_ok, oi_ex, m1_e, m1_k, m2_k, m3_k, ow_e, ow_k, ix_e, ix_0, ix_1, ix_2, ix_3, ix_4, pn_e, ps_e, ps_k, sl_e, sl_1, sl_2, sl_3, sl_4, fb_e, fb_k, ch_e, ch_1, ch_2, ch_3, ch_t, ch_f, ch_4, rs_rt, rs_nx, rs_ex, ri_rt, ri_nx, ri_ex, i0_e, ir_e, ix_e0, List.getElem?_cons_zero, List.getElem?_cons_succ, List.set_cons_zero, List.set_cons_succ]
end T76

set_option Elab.async false
set_option linter.all false
set_option maxRecDepth 100000
set_option maxHeartbeats 4000000
/-! P76c: what is drawn. -/
namespace T76
open PySem PySem.Spec PyProof.Rows L2 DV Crc
def dr_tl : Ds → SO := (sSeq (sSet 5 (eOp2 gMod (oVal (eOp1 gInt (oVal (eOp2 gPow (oVal (eOp2 gAdd (oVal (eOp2 gAdd (oVal (eOp2 gMod (oVal (eOp1 gInt (oVar 4))) (oVal (eC (.int 2147483563))))) (oVal (eOp2 gMul (oVal (eC (.int 224477))) (oVar 3))))) (oVal (eC (.int 9173))))) (oVal (eC (.int 5))))))) (oVal (eC (.int 2147483399))))) (sSeq (sSet 5 (eOp2 gMod (oVal (eOp1 gInt (oVal (eOp2 gPow (oVal (eOp2 gAdd (oVal (eOp2 gAdd (oVal (eOp2 gMul (oVar 5) (oVal (eOp2 gAdd (oVal (eOp2 gMul (oVal (eC (.int 2))) (oVar 3))) (oVal (eC (.int 7717))))))) (oVal (eOp2 gMul (oVal (eOp2 gMul (oVal (eC (.int 9173))) (oVar 3))) (oVar 3))))) (oVal (eC (.int 224477))))) (oVal (eC (.int 3))))))) (oVal (eC (.int 2147483477))))) (sRet (eOp2 gMod (oVal (eOp1 gInt (oVal (eOp2 gFdiv (oVar 5) (oVal (eC (.int 64))))))) (oVar 1)))))
def dr_hd (T : Ds → SO) : Ds → SO := (sSeq (sIf (tBl (eOp2 gGt (oVal (eOp2 gIx (oVar 0) (oVal (eC (.int 2))))) (oVal (eC (.int 0))))) (sSeq (sSet 2 (eOp1 gInt (oVal (eOp2 gIx (oVar 0) (oVal (eC (.int 2))))))) (sSeq (sSetIx 0 (eOp2 gFdiv (oVar 2) (oVar 1)) (eC (.int 2))) (sRet (eOp2 gMod (oVal (eOp1 gInt (oVar 2))) (oVar 1))))) sNext) (sSeq (sSet 3 (eOp2 gIx (oVar 0) (oVal (eC (.int 1))))) (sSeq (sSetIx 0 (eOp2 gAdd (oVar 3) (oVal (eC (.int 1)))) (eC (.int 1))) (sSeq (sSet 4 (eOp2 gAdd (oVal (eOp2 gMul (oVal (eC (.int 224477))) (oVar 3))) (oVal (eC (.int 9173))))) (sSeq (sIf (tBl (eOp2 gNe (oVal (eOp2 gIx (oVar 0) (oVal (eC (.int 0))))) (oVal (eLst aNil)))) (sSet 4 (eOp2 gIx (oVal (eOp2 gIx (oVar 0) (oVal (eC (.int 0))))) (oVal (eOp2 gMod (oVal (eOp1 gInt (oVar 3))) (oVal (eOp1 gLen (oVal (eOp2 gIx (oVar 0) (oVal (eC (.int 0))))))))))) sNext) (sSeq (sIf (tAndD (tBl (eOp2 gLt (oVar 3) (oVal (eOp1 gLen (oVal (eOp2 gIx (oVar 0) (oVal (eC (.int 0))))))))) (tBl (eOp2 gGe (oVal (eOp1 gAbs (oVar 4))) (oVal (eOp2 gPow (oVal (eC (.int 10))) (oVal (eC (.int 18)))))))) (sSeq (sSet 2 (eOp2 gAdd (oVal (eOp2 gMul (oVal (eC (.int 2))) (oVal (eOp2 gSub (oVal (eOp1 gAbs (oVal (eOp1 gInt (oVar 4))))) (oVal (eOp2 gPow (oVal (eC (.int 10))) (oVal (eC (.int 18))))))))) (oVal (eOp1 gInt (oVal (eOp2 gLt (oVar 4) (oVal (eC (.int 0))))))))) (sSeq (sSetIx 0 (eOp2 gFdiv (oVar 2) (oVar 1)) (eC (.int 2))) (sRet (eOp2 gMod (oVal (eOp1 gInt (oVar 2))) (oVar 1))))) sNext) T))))))
theorem dr_eq : b__law_draw = dr_hd dr_tl := rfl
theorem p_mixed (c : Int) (t many : Nat) (ht : t ≤ 1000000) (h0 : 0 < many) : ∃ (r : Nat) (M : Int), r < many ∧ ∀ d : D, dr_tl [.ow true d, .sh (.int (many : Nat)), .no, .sh (.int (t : Nat)), .sh (.int c), .no] = .rt (.int (r : Nat)) [.ow true d, .sh (.int (many : Nat)), .no, .sh (.int (t : Nat)), .sh (.int c), .sh (.int M)] := by
  have a1 := g_mod (i := c) (j := 2147483563) (by omega)
  have a0 : 0 ≤ c % 2147483563 ∧ c % 2147483563 < 2147483563 := by omega
  generalize c % 2147483563 = C at *
  have a2 := g_mulI (i := 224477) (j := (t : Nat)) (.inl (by omega))
  have a3 := g_pow (i := C + 224477 * (t : Nat) + 9173) (j := 5) (by omega) (by omega) (by omega)
  generalize (C + 224477 * ((t : Nat) : Int) + 9173) ^ (5 : Int).toNat = P1 at *
  have a4 := g_mod (i := P1) (j := 2147483399) (by omega)
  have b4 : 0 ≤ P1 % 2147483399 ∧ P1 % 2147483399 < 2147483399 := by omega
  generalize P1 % 2147483399 = M1 at *
  have a5 := g_mulI (i := 2) (j := (t : Nat)) (.inl (by omega))
  have a6 := g_mulI (i := M1) (j := 2 * (t : Nat) + 7717) (.inl (by omega))
  have b6 : 0 ≤ M1 * (2 * (t : Nat) + 7717) ∧ M1 * (2 * (t : Nat) + 7717) ≤ 2147483399 * 2007717 := ⟨Int.mul_nonneg (by omega) (by omega), Int.mul_le_mul (by omega) (by omega) (by omega) (by omega)⟩
  generalize M1 * (2 * ((t : Nat) : Int) + 7717) = Q at *
  have a7 := g_mulI (i := 9173) (j := (t : Nat)) (.inl (by omega))
  have a8 := g_mulI (i := 9173 * (t : Nat)) (j := (t : Nat)) (.inl (by omega))
  have b8 : 0 ≤ 9173 * ((t : Nat) : Int) * (t : Nat) ∧ 9173 * ((t : Nat) : Int) * (t : Nat) ≤ 9173000000 * 1000000 := ⟨Int.mul_nonneg (by omega) (by omega), Int.mul_le_mul (by omega) (by omega) (by omega) (by omega)⟩
  generalize 9173 * ((t : Nat) : Int) * (t : Nat) = R at *
  have a9 := g_pow (i := Q + R + 224477) (j := 3) (by omega) (by omega) (by omega)
  generalize (Q + R + 224477) ^ (3 : Int).toNat = P2 at *
  have a10 := g_mod (i := P2) (j := 2147483477) (by omega)
  have b10 : 0 ≤ P2 % 2147483477 := by omega
  generalize P2 % 2147483477 = M2 at *
  have a11 := g_fdiv (i := M2) (j := 64) (by omega) (by omega)
  generalize M2 / 64 = F at *
  have a12 := g_mod (i := F) (j := (many : Nat)) (by omega)
  have b12 : 0 ≤ F % ((many : Nat) : Int) ∧ F % ((many : Nat) : Int) < (many : Nat) := ⟨Int.emod_nonneg _ (by omega), Int.emod_lt_of_pos _ (by omega)⟩
  generalize F % ((many : Nat) : Int) = r at *
  refine ⟨r.toNat, M2, by omega, fun d => ?_⟩
  rw [show ((r.toNat : Nat) : Int) = r from Int.toNat_of_nonneg b12.1]
  simp only [dr_tl, g_intI, g_addI, a1, a2, a3, a4, a5, a6, a7, a8, a9, a10, a11, a12, bi_ok, bi_ex, th_ok, th_ex, lo_some, de_val, de_slot, dc_sh, dc_ow, ov_e, oc_sh, oc_ow, ol_e, kl_e, ev_e, ec_sh, ec_ow, cc_e, o2_e, k2_e, k2b_e, l2_e, o1_e, k1_e, l1_e, tb_e, kb_e, ta_e, ka_t, ka_f, to_e, ko_t, ko_f, tn_e, kn_e, ea_e, ea_t, ea_f, eo_e, eo_t, eo_f, en_e, en_k, if_e, if_t, if_f, tu_e, tu_k, ls_e, ls_k, an_e, ac_e, a1_e, a2_e, sq_e, sq_nx, sq_rt, sq_ex, sn_e, io_e, io_sh, io_no, io_ow, pu_e, pu_t, nx_e, se_e, se_k, ne_e, ne_k, ne_t, re_e, re_k, dr_e, dr_k, si_e, si_t, si_f, pa_e, pa_k, ob_some, fo_e, fo_k, ra_e, ra_k, ia_e, ia_l, ia_t, ia_s, r1_e, r1_k, r2_e, r2_k, lc_e, lc_k, lc_c, ca_e, ca_k, ou_ok, ou_ex, kw_e, kw_1, kw_2, ci_e, ci_s, ci_k, ci_g, oi_ok, oi_ex, m1_e, m1_k, m2_k, m3_k, ow_e, ow_k, ix_e, ix_0, ix_1, ix_2, ix_3, ix_4, pn_e, ps_e, ps_k, sl_e, sl_1, sl_2, sl_3, sl_4, fb_e, fb_k, ch_e, ch_1, ch_2, ch_3, ch_t, ch_f, ch_4, rs_rt, rs_nx, rs_ex, ri_rt, ri_nx, ri_ex, i0_e, ir_e, ix_e0, List.getElem?_cons_zero, List.getElem?_cons_succ, List.set_cons_zero, List.set_cons_succ]
section
variable {a b c d e f g h i j : D} {ds : Ds}
theorem ls0 : kLst [] ds = .ok (.lst []) ds := ls_k (by simp)
theorem ls1 : kLst [a] ds = .ok (.lst [a]) ds := ls_k (by simp)
theorem ls2 : kLst [a, b] ds = .ok (.lst [a, b]) ds := ls_k (by simp)
theorem ls3 : kLst [a, b, c] ds = .ok (.lst [a, b, c]) ds := ls_k (by simp)
theorem ls6 : kLst [a, b, c, d, e, f] ds = .ok (.lst [a, b, c, d, e, f]) ds := ls_k (by simp)
theorem ls7 : kLst [a, b, c, d, e, f, g] ds = .ok (.lst [a, b, c, d, e, f, g]) ds := ls_k (by simp)
theorem ls9 : kLst [a, b, c, d, e, f, g, h, i] ds = .ok (.lst [a, b, c, d, e, f, g, h, i]) ds := ls_k (by simp)
theorem ls10 : kLst [a, b, c, d, e, f, g, h, i, j] ds = .ok (.lst [a, b, c, d, e, f, g, h, i, j]) ds := ls_k (by simp)
theorem tu0 : kTup [] ds = .ok (.tup []) ds := tu_k (by simp)
theorem tu1 : kTup [a] ds = .ok (.tup [a]) ds := tu_k (by simp)
theorem tu2 : kTup [a, b] ds = .ok (.tup [a, b]) ds := tu_k (by simp)
end
def Pen (B : Nat) (d : D) : Prop := ∃ (ns : List Int) (t l : Nat), d = .lst [.lst (ns.map .int), .int (t : Nat), .int (l : Nat)] ∧ t ≤ B ∧ ns.length ≤ 62
theorem Pen.mono {B C : Nat} {d : D} (h : Pen B d) (hb : B ≤ C) : Pen C d := by
  obtain ⟨ns, t, l, h1, h2, h3⟩ := h
  exact ⟨ns, t, l, h1, by omega, h3⟩
theorem l3_0 {a b c : D} : atI [a, b, c] 0 = some a := rfl
theorem l3_1 {a b c : D} : atI [a, b, c] 1 = some b := rfl
theorem l3_2 {a b c : D} : atI [a, b, c] 2 = some c := rfl
theorem n3_1 {a b c : D} : ixN [a, b, c].length (1 : Int) = some 1 := rfl
theorem n3_2 {a b c : D} : ixN [a, b, c].length (2 : Int) = some 2 := rfl
theorem doks_ints : ∀ (ns : List Int) (n : Nat), doks (ns.map .int) n = true
  | [], _ => rfl
  | i :: r, n => by
    rw [List.map_cons]
    unfold doks
    rw [doks_ints r n]
    simp [dok]
theorem ne_nilL (ns : List Int) : gNe (.lst (ns.map .int)) (.lst []) = some (.bl (!ns.isEmpty)) := by
  unfold gNe
  have h1 : dok (.lst (ns.map .int)) 60 = true := doks_ints ns 59
  have h2 : dok (.lst []) 60 = true := rfl
  dsimp only
  rw [h1, h2]
  cases ns <;> rfl
theorem pow18 : gPow (.int 10) (.int 18) = some (.int 1000000000000000000) := g_pow (by omega) (by omega) (by omega)
theorem p_draw {B : Nat} {d : D} {many : Nat} (h : Pen B d) (hB : B ≤ 1000000) (h0 : 0 < many) (h1 : many < 1000000000) : ∃ (r : Nat) (d' : D), G__law_draw d [.int (many : Nat)] = .ok (.int (r : Nat)) d' ∧ r < many ∧ Pen (B + 1) d' := by
  obtain ⟨ns, t, l, rfl, ht, hns⟩ := h
  have fd : ∀ l : Nat, gFdiv (.int (l : Nat)) (.int (many : Nat)) = some (.int ((l / many : Nat) : Int)) := fun l => by rw [g_fdiv (by omega) (by omega)]; rfl
  have fm : ∀ l : Nat, gMod (.int (l : Nat)) (.int (many : Nat)) = some (.int ((l % many : Nat) : Int)) := fun l => by rw [g_mod (by omega)]; rfl
  have lt : ∀ l : Nat, l % many < many := fun l => Nat.mod_lt _ h0
  show ∃ (r : Nat) (d' : D), resI (b__law_draw [.ow true (.lst [.lst (ns.map .int), .int (t : Nat), .int (l : Nat)]), .sh (.int (many : Nat)), .no, .no, .no, .no]) = _ ∧ _
  rw [dr_eq]
  by_cases hl : 0 < l
  · have e0 : decide ((0 : Int) < ((l : Nat) : Int)) = true := decide_eq_true (by omega)
    refine ⟨l % many, .lst [.lst (ns.map .int), .int (t : Nat), .int ((l / many : Nat) : Int)], ?_, lt _, ns, t, l / many, rfl, by omega, hns⟩
    simp only [dr_hd, g_ixL, l3_0, l3_1, l3_2, n3_1, n3_2, ls0, g_gt, e0, g_intI, fd, fm, bi_ok, bi_ex, th_ok, th_ex, lo_some, de_val, de_slot, dc_sh, dc_ow, ov_e, oc_sh, oc_ow, ol_e, kl_e, ev_e, ec_sh, ec_ow, cc_e, o2_e, k2_e, k2b_e, l2_e, o1_e, k1_e, l1_e, tb_e, kb_e, ta_e, ka_t, ka_f, to_e, ko_t, ko_f, tn_e, kn_e, ea_e, ea_t, ea_f, eo_e, eo_t, eo_f, en_e, en_k, if_e, if_t, if_f, tu_e, tu_k, ls_e, ls_k, an_e, ac_e, a1_e, a2_e, sq_e, sq_nx, sq_rt, sq_ex, sn_e, io_e, io_sh, io_no, io_ow, pu_e, pu_t, nx_e, se_e, se_k, ne_e, ne_k, ne_t, re_e, re_k, dr_e, dr_k, si_e, si_t, si_f, pa_e, pa_k, ob_some, fo_e, fo_k, ra_e, ra_k, ia_e, ia_l, ia_t, ia_s, r1_e, r1_k, r2_e, r2_k, lc_e, lc_k, lc_c, ca_e, ca_k, ou_ok, ou_ex, kw_e, kw_1, kw_2, ci_e, ci_s, ci_k, ci_g, oi_ok, oi_ex, m1_e, m1_k, m2_k, m3_k, ow_e, ow_k, ix_e, ix_0, ix_1, ix_2, ix_3, ix_4, pn_e, ps_e, ps_k, sl_e, sl_1, sl_2, sl_3, sl_4, fb_e, fb_k, ch_e, ch_1, ch_2, ch_3, ch_t, ch_f, ch_4, rs_rt, rs_nx, rs_ex, ri_rt, ri_nx, ri_ex, i0_e, ir_e, ix_e0, List.getElem?_cons_zero, List.getElem?_cons_succ, List.set_cons_zero, List.set_cons_succ]
  · have l0 : l = 0 := by omega
    subst l0
    have e0 : decide ((0 : Int) < ((0 : Nat) : Int)) = false := rfl
    have a1 := g_mulI (i := 224477) (j := (t : Nat)) (.inl (by omega))
    have et : ((t : Nat) : Int) + 1 = ((t + 1 : Nat) : Int) := rfl
    have hn := ne_nilL ns
    by_cases hne : ns = []
    · subst hne
      obtain ⟨r, M, hr, hm⟩ := p_mixed (224477 * ((t : Nat) : Int) + 9173) t many (by omega) h0
      have e1 : decide (((t : Nat) : Int) < ((0 : Nat) : Int)) = false := decide_eq_false (by omega)
      have hn' : gNe (.lst []) (.lst []) = some (.bl false) := hn
      refine ⟨r, .lst [.lst [], .int ((t + 1 : Nat) : Int), .int ((0 : Nat) : Int)], ?_, hr, [], t + 1, 0, rfl, by omega, hns⟩
      simp only [List.map_nil, dr_hd, g_ixL, l3_0, l3_1, l3_2, n3_1, n3_2, ls0, g_gt, e0, g_intI, a1, g_addI, et, hn', g_lenL, List.length_nil, g_lt, e1, hm, bi_ok, bi_ex, th_ok, th_ex, lo_some, de_val, de_slot, dc_sh, dc_ow, ov_e, oc_sh, oc_ow, ol_e, kl_e, ev_e, ec_sh, ec_ow, cc_e, o2_e, k2_e, k2b_e, l2_e, o1_e, k1_e, l1_e, tb_e, kb_e, ta_e, ka_t, ka_f, to_e, ko_t, ko_f, tn_e, kn_e, ea_e, ea_t, ea_f, eo_e, eo_t, eo_f, en_e, en_k, if_e, if_t, if_f, tu_e, tu_k, ls_e, ls_k, an_e, ac_e, a1_e, a2_e, sq_e, sq_nx, sq_rt, sq_ex, sn_e, io_e, io_sh, io_no, io_ow, pu_e, pu_t, nx_e, se_e, se_k, ne_e, ne_k, ne_t, re_e, re_k, dr_e, dr_k, si_e, si_t, si_f, pa_e, pa_k, ob_some, fo_e, fo_k, ra_e, ra_k, ia_e, ia_l, ia_t, ia_s, r1_e, r1_k, r2_e, r2_k, lc_e, lc_k, lc_c, ca_e, ca_k, ou_ok, ou_ex, kw_e, kw_1, kw_2, ci_e, ci_s, ci_k, ci_g, oi_ok, oi_ex, m1_e, m1_k, m2_k, m3_k, ow_e, ow_k, ix_e, ix_0, ix_1, ix_2, ix_3, ix_4, pn_e, ps_e, ps_k, sl_e, sl_1, sl_2, sl_3, sl_4, fb_e, fb_k, ch_e, ch_1, ch_2, ch_3, ch_t, ch_f, ch_4, rs_rt, rs_nx, rs_ex, ri_rt, ri_nx, ri_ex, i0_e, ir_e, ix_e0, List.getElem?_cons_zero, List.getElem?_cons_succ, List.set_cons_zero, List.set_cons_succ]
    · have hlen : 0 < ns.length := List.length_pos_iff.mpr hne
      have hn' : gNe (.lst (ns.map .int)) (.lst []) = some (.bl true) := by rw [hn]; cases ns with | nil => exact absurd rfl hne | cons => rfl
      have hmod : gMod (.int (t : Nat)) (.int (ns.length : Nat)) = some (.int ((t % ns.length : Nat) : Int)) := by rw [g_mod (by omega)]; rfl
      have hi : t % ns.length < ns.length := Nat.mod_lt _ hlen
      have hat : atI (ns.map D.int) ((t % ns.length : Nat) : Int) = some (.int ns[t % ns.length]) := by
        rw [atI_pos (by rw [List.length_map]; exact hi), List.getElem_map]
      generalize ns[t % ns.length] = c at hat
      obtain ⟨r, M, hr, hm⟩ := p_mixed c t many (by omega) h0
      by_cases hc : (decide (((t : Nat) : Int) < (ns.length : Nat)) && decide ((1000000000000000000 : Int) ≤ (if c < 0 then -c else c))) = true
      · obtain ⟨c1, c2⟩ := Bool.and_eq_true_iff.mp hc
        have c2' := of_decide_eq_true c2
        have hm2 := g_mulI (i := 2) (j := (if c < 0 then -c else c) - 1000000000000000000) (.inl (by omega))
        obtain ⟨l, hl⟩ := Int.eq_ofNat_of_zero_le (a := 2 * ((if c < 0 then -c else c) - 1000000000000000000) + (if decide (c < 0) then 1 else 0)) (by split <;> omega)
        refine ⟨l % many, .lst [.lst (ns.map .int), .int ((t + 1 : Nat) : Int), .int ((l / many : Nat) : Int)], ?_, lt _, ns, t + 1, l / many, rfl, by omega, hns⟩
        simp only [dr_hd, g_ixL, l3_0, l3_1, l3_2, n3_1, n3_2, ls0, g_gt, e0, g_intI, a1, g_addI, et, hn', g_lenL, List.length_map, hmod, hat, g_lt, c1, g_abs, pow18, g_ge, c2, g_sub, hm2, g_intB, hl, fd, fm, bi_ok, bi_ex, th_ok, th_ex, lo_some, de_val, de_slot, dc_sh, dc_ow, ov_e, oc_sh, oc_ow, ol_e, kl_e, ev_e, ec_sh, ec_ow, cc_e, o2_e, k2_e, k2b_e, l2_e, o1_e, k1_e, l1_e, tb_e, kb_e, ta_e, ka_t, ka_f, to_e, ko_t, ko_f, tn_e, kn_e, ea_e, ea_t, ea_f, eo_e, eo_t, eo_f, en_e, en_k, if_e, if_t, if_f, tu_e, tu_k, ls_e, ls_k, an_e, ac_e, a1_e, a2_e, sq_e, sq_nx, sq_rt, sq_ex, sn_e, io_e, io_sh, io_no, io_ow, pu_e, pu_t, nx_e, se_e, se_k, ne_e, ne_k, ne_t, re_e, re_k, dr_e, dr_k, si_e, si_t, si_f, pa_e, pa_k, ob_some, fo_e, fo_k, ra_e, ra_k, ia_e, ia_l, ia_t, ia_s, r1_e, r1_k, r2_e, r2_k, lc_e, lc_k, lc_c, ca_e, ca_k, ou_ok, ou_ex, kw_e, kw_1, kw_2, ci_e, ci_s, ci_k, ci_g, oi_ok, oi_ex, m1_e, m1_k, m2_k, m3_k, ow_e, ow_k, ix_e, ix_0, ix_1, ix_2, ix_3, ix_4, pn_e, ps_e, ps_k, sl_e, sl_1, sl_2, sl_3, sl_4, fb_e, fb_k, ch_e, ch_1, ch_2, ch_3, ch_t, ch_f, ch_4, rs_rt, rs_nx, rs_ex, ri_rt, ri_nx, ri_ex, i0_e, ir_e, ix_e0, List.getElem?_cons_zero, List.getElem?_cons_succ, List.set_cons_zero, List.set_cons_succ]
      · refine ⟨r, .lst [.lst (ns.map .int), .int ((t + 1 : Nat) : Int), .int ((0 : Nat) : Int)], ?_, hr, ns, t + 1, 0, rfl, by omega, hns⟩
        cases c1 : decide (((t : Nat) : Int) < (ns.length : Nat)) with
        | false =>
          simp only [dr_hd, g_ixL, l3_0, l3_1, l3_2, n3_1, n3_2, ls0, g_gt, e0, g_intI, a1, g_addI, et, hn', g_lenL, List.length_map, hmod, hat, g_lt, c1, hm, bi_ok, bi_ex, th_ok, th_ex, lo_some, de_val, de_slot, dc_sh, dc_ow, ov_e, oc_sh, oc_ow, ol_e, kl_e, ev_e, ec_sh, ec_ow, cc_e, o2_e, k2_e, k2b_e, l2_e, o1_e, k1_e, l1_e, tb_e, kb_e, ta_e, ka_t, ka_f, to_e, ko_t, ko_f, tn_e, kn_e, ea_e, ea_t, ea_f, eo_e, eo_t, eo_f, en_e, en_k, if_e, if_t, if_f, tu_e, tu_k, ls_e, ls_k, an_e, ac_e, a1_e, a2_e, sq_e, sq_nx, sq_rt, sq_ex, sn_e, io_e, io_sh, io_no, io_ow, pu_e, pu_t, nx_e, se_e, se_k, ne_e, ne_k, ne_t, re_e, re_k, dr_e, dr_k, si_e, si_t, si_f, pa_e, pa_k, ob_some, fo_e, fo_k, ra_e, ra_k, ia_e, ia_l, ia_t, ia_s, r1_e, r1_k, r2_e, r2_k, lc_e, lc_k, lc_c, ca_e, ca_k, ou_ok, ou_ex, kw_e, kw_1, kw_2, ci_e, ci_s, ci_k, ci_g, oi_ok, oi_ex, m1_e, m1_k, m2_k, m3_k, ow_e, ow_k, ix_e, ix_0, ix_1, ix_2, ix_3, ix_4, pn_e, ps_e, ps_k, sl_e, sl_1, sl_2, sl_3, sl_4, fb_e, fb_k, ch_e, ch_1, ch_2, ch_3, ch_t, ch_f, ch_4, rs_rt, rs_nx, rs_ex, ri_rt, ri_nx, ri_ex, i0_e, ir_e, ix_e0, List.getElem?_cons_zero, List.getElem?_cons_succ, List.set_cons_zero, List.set_cons_succ]
        | true =>
          have c2 : decide ((1000000000000000000 : Int) ≤ (if c < 0 then -c else c)) = false := by
            rw [c1, Bool.true_and] at hc
            exact Bool.not_eq_true _ ▸ hc
          simp only [dr_hd, g_ixL, l3_0, l3_1, l3_2, n3_1, n3_2, ls0, g_gt, e0, g_intI, a1, g_addI, et, hn', g_lenL, List.length_map, hmod, hat, g_lt, c1, g_abs, pow18, g_ge, c2, hm, bi_ok, bi_ex, th_ok, th_ex, lo_some, de_val, de_slot, dc_sh, dc_ow, ov_e, oc_sh, oc_ow, ol_e, kl_e, ev_e, ec_sh, ec_ow, cc_e, o2_e, k2_e, k2b_e, l2_e, o1_e, k1_e, l1_e, tb_e, kb_e, ta_e, ka_t, ka_f, to_e, ko_t, ko_f, tn_e, kn_e, ea_e, ea_t, ea_f, eo_e, eo_t, eo_f, en_e, en_k, if_e, if_t, if_f, tu_e, tu_k, ls_e, ls_k, an_e, ac_e, a1_e, a2_e, sq_e, sq_nx, sq_rt, sq_ex, sn_e, io_e, io_sh, io_no, io_ow, pu_e, pu_t, nx_e, se_e, se_k, ne_e, ne_k, ne_t, re_e, re_k, dr_e, dr_k, si_e, si_t, si_f, pa_e, pa_k, ob_some, fo_e, fo_k, ra_e, ra_k, ia_e, ia_l, ia_t, ia_s, r1_e, r1_k, r2_e, r2_k, lc_e, lc_k, lc_c, ca_e, ca_k, ou_ok, ou_ex, kw_e, kw_1, kw_2, ci_e, ci_s, ci_k, ci_g, oi_ok, oi_ex, m1_e, m1_k, m2_k, m3_k, ow_e, ow_k, ix_e, ix_0, ix_1, ix_2, ix_3, ix_4, pn_e, ps_e, ps_k, sl_e, sl_1, sl_2, sl_3, sl_4, fb_e, fb_k, ch_e, ch_1, ch_2, ch_3, ch_t, ch_f, ch_4, rs_rt, rs_nx, rs_ex, ri_rt, ri_nx, ri_ex, i0_e, ir_e, ix_e0, List.getElem?_cons_zero, List.getElem?_cons_succ, List.set_cons_zero, List.set_cons_succ]
/-! picks -/
theorem p_pick {B : Nat} {d : D} {xs : List D} (h : Pen B d) (hB : B ≤ 1000000) (h0 : 0 < xs.length) (h1 : xs.length < 1000) : ∃ (i : Nat) (hi : i < xs.length) (d' : D), G__law_pick d [.lst xs] = .ok xs[i] d' ∧ Pen (B + 1) d' := by
  obtain ⟨i, d', e, hi, hp⟩ := p_draw (many := xs.length) h hB h0 (by omega)
  refine ⟨i, hi, d', ?_, hp⟩
  show resI (b__law_pick [.ow true d, .sh (.lst xs)]) = _
  simp only [b__law_pick, g_lenL, e, g_ixL, atI_pos hi, bi_ok, bi_ex, th_ok, th_ex, lo_some, de_val, de_slot, dc_sh, dc_ow, ov_e, oc_sh, oc_ow, ol_e, kl_e, ev_e, ec_sh, ec_ow, cc_e, o2_e, k2_e, k2b_e, l2_e, o1_e, k1_e, l1_e, tb_e, kb_e, ta_e, ka_t, ka_f, to_e, ko_t, ko_f, tn_e, kn_e, ea_e, ea_t, ea_f, eo_e, eo_t, eo_f, en_e, en_k, if_e, if_t, if_f, tu_e, tu_k, ls_e, ls_k, an_e, ac_e, a1_e, a2_e, sq_e, sq_nx, sq_rt, sq_ex, sn_e, io_e, io_sh, io_no, io_ow, pu_e, pu_t, nx_e, se_e, se_k, ne_e, ne_k, ne_t, re_e, re_k, dr_e, dr_k, si_e, si_t, si_f, pa_e, pa_k, ob_some, fo_e, fo_k, ra_e, ra_k, ia_e, ia_l, ia_t, ia_s, r1_e, r1_k, r2_e, r2_k, lc_e, lc_k, lc_c, ca_e, ca_k, ou_ok, ou_ex, kw_e, kw_1, kw_2, ci_e, ci_s, ci_k, ci_g, oi_ok, oi_ex, m1_e, m1_k, m2_k, m3_k, ow_e, ow_k, ix_e, ix_0, ix_1, ix_2, ix_3, ix_4, pn_e, ps_e, ps_k, sl_e, sl_1, sl_2, sl_3, sl_4, fb_e, fb_k, ch_e, ch_1, ch_2, ch_3, ch_t, ch_f, ch_4, rs_rt, rs_nx, rs_ex, ri_rt, ri_nx, ri_ex, i0_e, ir_e, ix_e0, List.getElem?_cons_zero, List.getElem?_cons_succ, List.set_cons_zero, List.set_cons_succ]
theorem p_bit {B : Nat} {d : D} (h : Pen B d) (hB : B ≤ 1000000) : ∃ (b : Bool) (d' : D), G__law_pick d [.str [48, 49]] = .ok (.str [ch b]) d' ∧ Pen (B + 1) d' := by
  obtain ⟨i, d', e, hi, hp⟩ := p_draw (many := 2) h hB (by omega) (by omega)
  have hb : ∃ b : Bool, gIx (.str [48, 49]) (.int (i : Nat)) = some (.str [ch b]) := by
    match i, hi with
    | 0, _ => exact ⟨false, rfl⟩
    | 1, _ => exact ⟨true, rfl⟩
  obtain ⟨b, hb⟩ := hb
  have e' : G__law_draw d [.int 2] = .ok (.int (i : Nat)) d' := e
  have hl : gLen (.str [48, 49]) = some (.int 2) := rfl
  refine ⟨b, d', ?_, hp⟩
  show resI (b__law_pick [.ow true d, .sh (.str [48, 49])]) = _
  simp only [b__law_pick, hl, e', hb, bi_ok, bi_ex, th_ok, th_ex, lo_some, de_val, de_slot, dc_sh, dc_ow, ov_e, oc_sh, oc_ow, ol_e, kl_e, ev_e, ec_sh, ec_ow, cc_e, o2_e, k2_e, k2b_e, l2_e, o1_e, k1_e, l1_e, tb_e, kb_e, ta_e, ka_t, ka_f, to_e, ko_t, ko_f, tn_e, kn_e, ea_e, ea_t, ea_f, eo_e, eo_t, eo_f, en_e, en_k, if_e, if_t, if_f, tu_e, tu_k, ls_e, ls_k, an_e, ac_e, a1_e, a2_e, sq_e, sq_nx, sq_rt, sq_ex, sn_e, io_e, io_sh, io_no, io_ow, pu_e, pu_t, nx_e, se_e, se_k, ne_e, ne_k, ne_t, re_e, re_k, dr_e, dr_k, si_e, si_t, si_f, pa_e, pa_k, ob_some, fo_e, fo_k, ra_e, ra_k, ia_e, ia_l, ia_t, ia_s, r1_e, r1_k, r2_e, r2_k, lc_e, lc_k, lc_c, ca_e, ca_k, ou_ok, ou_ex, kw_e, kw_1, kw_2, ci_e, ci_s, ci_k, ci_g, oi_ok, oi_ex, m1_e, m1_k, m2_k, m3_k, ow_e, ow_k, ix_e, ix_0, ix_1, ix_2, ix_3, ix_4, pn_e, ps_e, ps_k, sl_e, sl_1, sl_2, sl_3, sl_4, fb_e, fb_k, ch_e, ch_1, ch_2, ch_3, ch_t, ch_f, ch_4, rs_rt, rs_nx, rs_ex, ri_rt, ri_nx, ri_ex, i0_e, ir_e, ix_e0, List.getElem?_cons_zero, List.getElem?_cons_succ, List.set_cons_zero, List.set_cons_succ]
theorem lift_map {α : Type} {f : α → D} : ∀ ys : List D, (∀ y ∈ ys, ∃ b, y = f b) → ∃ m : List α, ys = m.map f ∧ m.length = ys.length
  | [], _ => ⟨[], rfl, rfl⟩
  | y :: r, h => by
    obtain ⟨b, hb⟩ := h y List.mem_cons_self
    obtain ⟨m, h1, h2⟩ := lift_map r fun z hz => h z (List.mem_cons_of_mem _ hz)
    exact ⟨b :: m, by rw [List.map_cons, hb, h1], by simp [h2]⟩
theorem c_bits {B : Nat} {d : D} (n : Nat) (h : Pen B d) (hB : B + n ≤ 1000000) (hn : n ≤ 1000) : ∃ (m : Bs) (d' : D), C1__law_bits [.ow true d, .sh (.int (n : Nat)), .no] = .ok (.lst (m.map fun b => .str [ch b])) [.ow true d', .sh (.int (n : Nat)), .no] ∧ m.length = n ∧ Pen (B + n) d' := by
  obtain ⟨ys, ds', e, ⟨hR, hl⟩, hp⟩ := comp_st (vs := [2]) (g := putSh 2) (f := eCallI 0 G__law_pick (aCons (eC (.str [48, 49])) aNil)) (k := fun k : Nat => D.int (k : Int)) (fun k ds => ∃ d, ds = [.ow true d, .sh (.int (n : Nat)), .no] ∧ Pen (B + k) d) (fun y => ∃ b : Bool, y = .str [ch b]) (List.range n) 0 [.ow true d, .sh (.int (n : Nat)), .no] ⟨d, rfl, h⟩ (fun m ds x hx hm hP => by
    obtain ⟨d, rfl, hp⟩ := hP
    simp only [List.length_range] at hm
    obtain ⟨b, d', e, hp'⟩ := p_bit hp (by omega)
    exact ⟨[.ow true d, .sh (.int (n : Nat)), .sh (.int (x : Nat))], .str [ch b], [.ow true d', .sh (.int (n : Nat)), .sh (.int (x : Nat))], rfl, by simp only [e, bi_ok, bi_ex, th_ok, th_ex, lo_some, de_val, de_slot, dc_sh, dc_ow, ov_e, oc_sh, oc_ow, ol_e, kl_e, ev_e, ec_sh, ec_ow, cc_e, o2_e, k2_e, k2b_e, l2_e, o1_e, k1_e, l1_e, tb_e, kb_e, ta_e, ka_t, ka_f, to_e, ko_t, ko_f, tn_e, kn_e, ea_e, ea_t, ea_f, eo_e, eo_t, eo_f, en_e, en_k, if_e, if_t, if_f, tu_e, tu_k, ls_e, ls_k, an_e, ac_e, a1_e, a2_e, sq_e, sq_nx, sq_rt, sq_ex, sn_e, io_e, io_sh, io_no, io_ow, pu_e, pu_t, nx_e, se_e, se_k, ne_e, ne_k, ne_t, re_e, re_k, dr_e, dr_k, si_e, si_t, si_f, pa_e, pa_k, ob_some, fo_e, fo_k, ra_e, ra_k, ia_e, ia_l, ia_t, ia_s, r1_e, r1_k, r2_e, r2_k, lc_e, lc_k, lc_c, ca_e, ca_k, ou_ok, ou_ex, kw_e, kw_1, kw_2, ci_e, ci_s, ci_k, ci_g, oi_ok, oi_ex, m1_e, m1_k, m2_k, m3_k, ow_e, ow_k, ix_e, ix_0, ix_1, ix_2, ix_3, ix_4, pn_e, ps_e, ps_k, sl_e, sl_1, sl_2, sl_3, sl_4, fb_e, fb_k, ch_e, ch_1, ch_2, ch_3, ch_t, ch_f, ch_4, rs_rt, rs_nx, rs_ex, ri_rt, ri_nx, ri_ex, i0_e, ir_e, ix_e0, List.getElem?_cons_zero, List.getElem?_cons_succ, List.set_cons_zero, List.set_cons_succ], ⟨b, rfl⟩, d', rfl, hp'⟩)
  obtain ⟨m, rfl, hm⟩ := lift_map ys hR
  obtain ⟨d', rfl, hp'⟩ := hp
  rw [List.length_range] at hl hp'
  rw [Nat.zero_add] at hp'
  refine ⟨m, d', ?_, by omega, hp'⟩
  exact lc_run (xs := (List.range n).map fun k : Nat => D.int (k : Int)) (ds1 := [.ow true d, .sh (.int (n : Nat)), .no]) (range1_run (by simp only [bi_ok, bi_ex, th_ok, th_ex, lo_some, de_val, de_slot, dc_sh, dc_ow, ov_e, oc_sh, oc_ow, ol_e, kl_e, ev_e, ec_sh, ec_ow, cc_e, o2_e, k2_e, k2b_e, l2_e, o1_e, k1_e, l1_e, tb_e, kb_e, ta_e, ka_t, ka_f, to_e, ko_t, ko_f, tn_e, kn_e, ea_e, ea_t, ea_f, eo_e, eo_t, eo_f, en_e, en_k, if_e, if_t, if_f, tu_e, tu_k, ls_e, ls_k, an_e, ac_e, a1_e, a2_e, sq_e, sq_nx, sq_rt, sq_ex, sn_e, io_e, io_sh, io_no, io_ow, pu_e, pu_t, nx_e, se_e, se_k, ne_e, ne_k, ne_t, re_e, re_k, dr_e, dr_k, si_e, si_t, si_f, pa_e, pa_k, ob_some, fo_e, fo_k, ra_e, ra_k, ia_e, ia_l, ia_t, ia_s, r1_e, r1_k, r2_e, r2_k, lc_e, lc_k, lc_c, ca_e, ca_k, ou_ok, ou_ex, kw_e, kw_1, kw_2, ci_e, ci_s, ci_k, ci_g, oi_ok, oi_ex, m1_e, m1_k, m2_k, m3_k, ow_e, ow_k, ix_e, ix_0, ix_1, ix_2, ix_3, ix_4, pn_e, ps_e, ps_k, sl_e, sl_1, sl_2, sl_3, sl_4, fb_e, fb_k, ch_e, ch_1, ch_2, ch_3, ch_t, ch_f, ch_4, rs_rt, rs_nx, rs_ex, ri_rt, ri_nx, ri_ex, i0_e, ir_e, ix_e0, List.getElem?_cons_zero, List.getElem?_cons_succ, List.set_cons_zero, List.set_cons_succ]) (by omega)) rfl (by simp; omega) e rfl
theorem p_bits {B : Nat} {d : D} (n : Nat) (h : Pen B d) (hB : B + n ≤ 1000000) (hn : n ≤ 1000) : ∃ (m : Bs) (d' : D), G__law_bits d [.int (n : Nat)] = .ok (.str (tx m)) d' ∧ m.length = n ∧ Pen (B + n) d' := by
  obtain ⟨m, d', e, hm, hp⟩ := c_bits n h hB hn
  refine ⟨m, d', ?_, hm, hp⟩
  have key : G__law_bits d [.int (n : Nat)] = resI (b__law_bits (startI N__law_bits d [.int (n : Nat)])) := by
    unfold G__law_bits mkI
    exact if_pos rfl
  have k2 : startI N__law_bits d [.int (n : Nat)] = [.ow true d, .sh (.int (n : Nat)), .no] := rfl
  rw [key, k2]
  simp only [b__law_bits, e, join_tx m (by omega), bi_ok, bi_ex, th_ok, th_ex, lo_some, de_val, de_slot, dc_sh, dc_ow, ov_e, oc_sh, oc_ow, ol_e, kl_e, ev_e, ec_sh, ec_ow, cc_e, o2_e, k2_e, k2b_e, l2_e, o1_e, k1_e, l1_e, tb_e, kb_e, ta_e, ka_t, ka_f, to_e, ko_t, ko_f, tn_e, kn_e, ea_e, ea_t, ea_f, eo_e, eo_t, eo_f, en_e, en_k, if_e, if_t, if_f, tu_e, tu_k, ls_e, ls_k, an_e, ac_e, a1_e, a2_e, sq_e, sq_nx, sq_rt, sq_ex, sn_e, io_e, io_sh, io_no, io_ow, pu_e, pu_t, nx_e, se_e, se_k, ne_e, ne_k, ne_t, re_e, re_k, dr_e, dr_k, si_e, si_t, si_f, pa_e, pa_k, ob_some, fo_e, fo_k, ra_e, ra_k, ia_e, ia_l, ia_t, ia_s, r1_e, r1_k, r2_e, r2_k, lc_e, lc_k, lc_c, ca_e, ca_k, ou_ok, ou_ex, kw_e, kw_1, kw_2, ci_e, ci_s, ci_k, ci_g, oi_ok, oi_ex, m1_e, m1_k, m2_k, m3_k, ow_e, ow_k, ix_e, ix_0, ix_1, ix_2, ix_3, ix_4, pn_e, ps_e, ps_k, sl_e, sl_1, sl_2, sl_3, sl_4, fb_e, fb_k, ch_e, ch_1, ch_2, ch_3, ch_t, ch_f, ch_4, rs_rt, rs_nx, rs_ex, ri_rt, ri_nx, ri_ex, i0_e, ir_e, ix_e0, List.getElem?_cons_zero, List.getElem?_cons_succ, List.set_cons_zero, List.set_cons_succ]
theorem p_guard {B : Nat} {d : D} (h : Pen B d) (hB : B + 20 ≤ 1000000) : ∃ (gt : Bs) (d' : D), G__law_guard d [] = .ok (.str (tx (true :: gt))) d' ∧ Gd gt ∧ Pen (B + 20) d' := by
  obtain ⟨n, d0, e0, hn, hp0⟩ := p_draw (many := 16) h (by omega) (by omega) (by omega)
  obtain ⟨ys, ds', e, ⟨hR, hl⟩, hp⟩ := comp_st (vs := [1]) (g := putSh 1) (f := eCallI 0 G__law_pick (aCons (eC (.str [48, 49])) aNil)) (k := fun k : Nat => D.int (k : Int)) (fun k ds => ∃ d, ds = [.ow true d, .no] ∧ Pen (B + 1 + k) d) (fun y => ∃ b : Bool, y = .str [ch b]) (List.range n) 0 [.ow true d0, .no] ⟨d0, rfl, hp0⟩ (fun m ds x hx hm hP => by
    obtain ⟨d, rfl, hp⟩ := hP
    simp only [List.length_range] at hm
    obtain ⟨b, d', e, hp'⟩ := p_bit hp (by omega)
    exact ⟨[.ow true d, .sh (.int (x : Nat))], .str [ch b], [.ow true d', .sh (.int (x : Nat))], rfl, by simp only [e, bi_ok, bi_ex, th_ok, th_ex, lo_some, de_val, de_slot, dc_sh, dc_ow, ov_e, oc_sh, oc_ow, ol_e, kl_e, ev_e, ec_sh, ec_ow, cc_e, o2_e, k2_e, k2b_e, l2_e, o1_e, k1_e, l1_e, tb_e, kb_e, ta_e, ka_t, ka_f, to_e, ko_t, ko_f, tn_e, kn_e, ea_e, ea_t, ea_f, eo_e, eo_t, eo_f, en_e, en_k, if_e, if_t, if_f, tu_e, tu_k, ls_e, ls_k, an_e, ac_e, a1_e, a2_e, sq_e, sq_nx, sq_rt, sq_ex, sn_e, io_e, io_sh, io_no, io_ow, pu_e, pu_t, nx_e, se_e, se_k, ne_e, ne_k, ne_t, re_e, re_k, dr_e, dr_k, si_e, si_t, si_f, pa_e, pa_k, ob_some, fo_e, fo_k, ra_e, ra_k, ia_e, ia_l, ia_t, ia_s, r1_e, r1_k, r2_e, r2_k, lc_e, lc_k, lc_c, ca_e, ca_k, ou_ok, ou_ex, kw_e, kw_1, kw_2, ci_e, ci_s, ci_k, ci_g, oi_ok, oi_ex, m1_e, m1_k, m2_k, m3_k, ow_e, ow_k, ix_e, ix_0, ix_1, ix_2, ix_3, ix_4, pn_e, ps_e, ps_k, sl_e, sl_1, sl_2, sl_3, sl_4, fb_e, fb_k, ch_e, ch_1, ch_2, ch_3, ch_t, ch_f, ch_4, rs_rt, rs_nx, rs_ex, ri_rt, ri_nx, ri_ex, i0_e, ir_e, ix_e0, List.getElem?_cons_zero, List.getElem?_cons_succ, List.set_cons_zero, List.set_cons_succ], ⟨b, rfl⟩, d', rfl, hp'⟩)
  obtain ⟨m, rfl, hm⟩ := lift_map ys hR
  obtain ⟨d', rfl, hp'⟩ := hp
  rw [List.length_range] at hl hp'
  have e0' : G__law_draw d [.int 16] = .ok (.int (n : Nat)) d0 := e0
  have hc : C1__law_guard [.ow true d, .no] = .ok (.lst (m.map fun b => .str [ch b])) [.ow true d', .no] :=
    lc_run (xs := (List.range n).map fun k : Nat => D.int (k : Int)) (ds1 := [.ow true d0, .no]) (range1_run (by simp only [e0', bi_ok, bi_ex, th_ok, th_ex, lo_some, de_val, de_slot, dc_sh, dc_ow, ov_e, oc_sh, oc_ow, ol_e, kl_e, ev_e, ec_sh, ec_ow, cc_e, o2_e, k2_e, k2b_e, l2_e, o1_e, k1_e, l1_e, tb_e, kb_e, ta_e, ka_t, ka_f, to_e, ko_t, ko_f, tn_e, kn_e, ea_e, ea_t, ea_f, eo_e, eo_t, eo_f, en_e, en_k, if_e, if_t, if_f, tu_e, tu_k, ls_e, ls_k, an_e, ac_e, a1_e, a2_e, sq_e, sq_nx, sq_rt, sq_ex, sn_e, io_e, io_sh, io_no, io_ow, pu_e, pu_t, nx_e, se_e, se_k, ne_e, ne_k, ne_t, re_e, re_k, dr_e, dr_k, si_e, si_t, si_f, pa_e, pa_k, ob_some, fo_e, fo_k, ra_e, ra_k, ia_e, ia_l, ia_t, ia_s, r1_e, r1_k, r2_e, r2_k, lc_e, lc_k, lc_c, ca_e, ca_k, ou_ok, ou_ex, kw_e, kw_1, kw_2, ci_e, ci_s, ci_k, ci_g, oi_ok, oi_ex, m1_e, m1_k, m2_k, m3_k, ow_e, ow_k, ix_e, ix_0, ix_1, ix_2, ix_3, ix_4, pn_e, ps_e, ps_k, sl_e, sl_1, sl_2, sl_3, sl_4, fb_e, fb_k, ch_e, ch_1, ch_2, ch_3, ch_t, ch_f, ch_4, rs_rt, rs_nx, rs_ex, ri_rt, ri_nx, ri_ex, i0_e, ir_e, ix_e0, List.getElem?_cons_zero, List.getElem?_cons_succ, List.set_cons_zero, List.set_cons_succ]) (by omega)) rfl (by simp; omega) e rfl
  refine ⟨m ++ [true], d', ?_, ⟨by simp, by simp; omega⟩, hp'.mono (by omega)⟩
  have j1 := join_tx m (by omega)
  have j2 : gAdd (.str [49]) (.str (tx m)) = some (.str (tx (true :: m))) := g_addS (by rw [tx_len]; simp; omega)
  have j3 : gAdd (.str (tx (true :: m))) (.str [49]) = some (.str (tx (true :: (m ++ [true])))) := by
    rw [g_addS (by rw [tx_len]; simp; omega)]
    rw [show ([49] : List Nat) = tx [true] from rfl, ← tx_app]
    rfl
  show resI (b__law_guard [.ow true d, .no]) = _
  simp only [b__law_guard, hc, j1, j2, j3, bi_ok, bi_ex, th_ok, th_ex, lo_some, de_val, de_slot, dc_sh, dc_ow, ov_e, oc_sh, oc_ow, ol_e, kl_e, ev_e, ec_sh, ec_ow, cc_e, o2_e, k2_e, k2b_e, l2_e, o1_e, k1_e, l1_e, tb_e, kb_e, ta_e, ka_t, ka_f, to_e, ko_t, ko_f, tn_e, kn_e, ea_e, ea_t, ea_f, eo_e, eo_t, eo_f, en_e, en_k, if_e, if_t, if_f, tu_e, tu_k, ls_e, ls_k, an_e, ac_e, a1_e, a2_e, sq_e, sq_nx, sq_rt, sq_ex, sn_e, io_e, io_sh, io_no, io_ow, pu_e, pu_t, nx_e, se_e, se_k, ne_e, ne_k, ne_t, re_e, re_k, dr_e, dr_k, si_e, si_t, si_f, pa_e, pa_k, ob_some, fo_e, fo_k, ra_e, ra_k, ia_e, ia_l, ia_t, ia_s, r1_e, r1_k, r2_e, r2_k, lc_e, lc_k, lc_c, ca_e, ca_k, ou_ok, ou_ex, kw_e, kw_1, kw_2, ci_e, ci_s, ci_k, ci_g, oi_ok, oi_ex, m1_e, m1_k, m2_k, m3_k, ow_e, ow_k, ix_e, ix_0, ix_1, ix_2, ix_3, ix_4, pn_e, ps_e, ps_k, sl_e, sl_1, sl_2, sl_3, sl_4, fb_e, fb_k, ch_e, ch_1, ch_2, ch_3, ch_t, ch_f, ch_4, rs_rt, rs_nx, rs_ex, ri_rt, ri_nx, ri_ex, i0_e, ir_e, ix_e0, List.getElem?_cons_zero, List.getElem?_cons_succ, List.set_cons_zero, List.set_cons_succ]
end T76

set_option Elab.async false
set_option linter.all false
set_option maxRecDepth 100000
set_option maxHeartbeats 4000000
/-! P76d: places, refusals. -/
namespace T76
open PySem PySem.Spec PyProof.Rows L2 DV Crc
theorem mkI_e {n : Nat} {N : List Str} {b : Ds → SO} {d : D} {xs : List D} (h : xs.length + 1 = n) : mkI n N b d xs = resI (b (startI N d xs)) := if_pos h
theorem sub_filter {zs xs : List Nat} (h : zs.Sublist xs) : xs.Nodup → zs = xs.filter fun j => decide (j ∈ zs) := by
  induction h with
  | slnil => exact fun _ => rfl
  | @cons zs xs a h ih =>
    intro nd
    obtain ⟨n1, n2⟩ := List.nodup_cons.mp nd
    rw [List.filter_cons_of_neg (by simpa using fun z => n1 (h.subset z))]
    exact ih n2
  | @cons_cons zs xs a h ih =>
    intro nd
    obtain ⟨n1, n2⟩ := List.nodup_cons.mp nd
    rw [List.filter_cons_of_pos (by simp)]
    congr 1
    refine (ih n2).trans (List.filter_congr fun j hj => ?_)
    have : j ≠ a := fun z => n1 (z ▸ hj)
    simp [this]
/-- the run of places that is drawn -/
theorem places_cons (a : Nat) (w : Bs) : places a (true :: w) = a :: ((List.range w.length).filter fun k => g0 w k).map (fun k => a + (k + 1)) := by
  unfold places
  rw [List.length_cons, List.range_succ_eq_map, List.filter_cons_of_pos rfl, List.map_cons, List.filter_map, List.map_map]
  rfl
theorem p_places {B : Nat} {d : D} (many within : Nat) (h : Pen B d) (hB : B + 40 ≤ 1000000) (h0 : 0 < many) (h1 : many < 10000) (h2 : 0 < within) (h3 : within ≤ 20) :
    ∃ (a : Nat) (w : Bs) (d' : D), G__law_places d [.int (many : Nat), .int (within : Nat)] = .ok (.lst (intsD (places a (true :: w)))) d' ∧ a < many ∧ w.length + 1 = min within (many - a) ∧ Pen (B + 40) d' := by
  obtain ⟨a, d0, e0, ha, hp0⟩ := p_draw h (by omega) h0 (by omega)
  have hm : gMin2 (.int (within : Nat)) (.int ((many : Nat) - (a : Nat) : Int)) = some (.int ((min within (many - a) : Nat) : Int)) := by
    rw [g_min]
    congr 2
    split <;> omega
  obtain ⟨n, hn⟩ : ∃ n, min within (many - a) = n + 1 := ⟨min within (many - a) - 1, by omega⟩
  rw [hn] at hm
  obtain ⟨zs, ds', e, hs, hp⟩ := comp_sel (vs := [5]) (g := putSh 5) (t := tBl (eOp2 gEq (oVal (eCallI 0 G__law_draw (aCons (eC (.int 2)) aNil))) (oVal (eC (.int 0))))) (f := eOp2 gAdd (oVar 3) (oVar 5)) (k := fun k : Nat => D.int (1 + (k : Int)))
    (fun k ds => ∃ d, ds = [.ow true d, .sh (.int (many : Nat)), .sh (.int (within : Nat)), .sh (.int (a : Nat)), .sh (.int ((n + 1 : Nat) : Int)), .no] ∧ Pen (B + 1 + k) d) (fun k : Nat => D.int ((a + (k + 1) : Nat) : Int)) (List.range n) 0 [.ow true d0, .sh (.int (many : Nat)), .sh (.int (within : Nat)), .sh (.int (a : Nat)), .sh (.int ((n + 1 : Nat) : Int)), .no] ⟨d0, rfl, hp0⟩ (fun m ds x hx hm hP => by
      obtain ⟨d, rfl, hp⟩ := hP
      simp only [List.length_range] at hm
      obtain ⟨r, d', e, hr, hp'⟩ := p_draw (many := 2) hp (by omega) (by omega) (by omega)
      have e' : G__law_draw d [.int 2] = .ok (.int (r : Nat)) d' := e
      refine ⟨[.ow true d, .sh (.int (many : Nat)), .sh (.int (within : Nat)), .sh (.int (a : Nat)), .sh (.int ((n + 1 : Nat) : Int)), .sh (.int (1 + (x : Int)))], (((r : Nat) : Int) == 0), [.ow true d', .sh (.int (many : Nat)), .sh (.int (within : Nat)), .sh (.int (a : Nat)), .sh (.int ((n + 1 : Nat) : Int)), .sh (.int (1 + (x : Int)))], rfl, by simp only [e', g_eqI, bi_ok, bi_ex, th_ok, th_ex, lo_some, de_val, de_slot, dc_sh, dc_ow, ov_e, oc_sh, oc_ow, ol_e, kl_e, ev_e, ec_sh, ec_ow, cc_e, o2_e, k2_e, k2b_e, l2_e, o1_e, k1_e, l1_e, tb_e, kb_e, ta_e, ka_t, ka_f, to_e, ko_t, ko_f, tn_e, kn_e, ea_e, ea_t, ea_f, eo_e, eo_t, eo_f, en_e, en_k, if_e, if_t, if_f, tu_e, tu_k, ls_e, ls_k, an_e, ac_e, a1_e, a2_e, sq_e, sq_nx, sq_rt, sq_ex, sn_e, io_e, io_sh, io_no, io_ow, pu_e, pu_t, nx_e, se_e, se_k, ne_e, ne_k, ne_t, re_e, re_k, dr_e, dr_k, si_e, si_t, si_f, pa_e, pa_k, ob_some, fo_e, fo_k, ra_e, ra_k, ia_e, ia_l, ia_t, ia_s, r1_e, r1_k, r2_e, r2_k, lc_e, lc_k, lc_c, ca_e, ca_k, ou_ok, ou_ex, kw_e, kw_1, kw_2, ci_e, ci_s, ci_k, ci_g, oi_ok, oi_ex, m1_e, m1_k, m2_k, m3_k, ow_e, ow_k, ix_e, ix_0, ix_1, ix_2, ix_3, ix_4, pn_e, ps_e, ps_k, sl_e, sl_1, sl_2, sl_3, sl_4, fb_e, fb_k, ch_e, ch_1, ch_2, ch_3, ch_t, ch_f, ch_4, rs_rt, rs_nx, rs_ex, ri_rt, ri_nx, ri_ex, i0_e, ir_e, ix_e0, List.getElem?_cons_zero, List.getElem?_cons_succ, List.set_cons_zero, List.set_cons_succ], ⟨d', rfl, hp'⟩, _, ?_, rfl⟩
      have hx : ((a : Nat) : Int) + (1 + (x : Nat)) = ((a + (x + 1) : Nat) : Int) := by omega
      simp only [g_addI, hx, bi_ok, bi_ex, th_ok, th_ex, lo_some, de_val, de_slot, dc_sh, dc_ow, ov_e, oc_sh, oc_ow, ol_e, kl_e, ev_e, ec_sh, ec_ow, cc_e, o2_e, k2_e, k2b_e, l2_e, o1_e, k1_e, l1_e, tb_e, kb_e, ta_e, ka_t, ka_f, to_e, ko_t, ko_f, tn_e, kn_e, ea_e, ea_t, ea_f, eo_e, eo_t, eo_f, en_e, en_k, if_e, if_t, if_f, tu_e, tu_k, ls_e, ls_k, an_e, ac_e, a1_e, a2_e, sq_e, sq_nx, sq_rt, sq_ex, sn_e, io_e, io_sh, io_no, io_ow, pu_e, pu_t, nx_e, se_e, se_k, ne_e, ne_k, ne_t, re_e, re_k, dr_e, dr_k, si_e, si_t, si_f, pa_e, pa_k, ob_some, fo_e, fo_k, ra_e, ra_k, ia_e, ia_l, ia_t, ia_s, r1_e, r1_k, r2_e, r2_k, lc_e, lc_k, lc_c, ca_e, ca_k, ou_ok, ou_ex, kw_e, kw_1, kw_2, ci_e, ci_s, ci_k, ci_g, oi_ok, oi_ex, m1_e, m1_k, m2_k, m3_k, ow_e, ow_k, ix_e, ix_0, ix_1, ix_2, ix_3, ix_4, pn_e, ps_e, ps_k, sl_e, sl_1, sl_2, sl_3, sl_4, fb_e, fb_k, ch_e, ch_1, ch_2, ch_3, ch_t, ch_f, ch_4, rs_rt, rs_nx, rs_ex, ri_rt, ri_nx, ri_ex, i0_e, ir_e, ix_e0, List.getElem?_cons_zero, List.getElem?_cons_succ, List.set_cons_zero, List.set_cons_succ])
  obtain ⟨d', rfl, hp'⟩ := hp
  rw [List.length_range] at hp'
  have hz := sub_filter hs List.nodup_range
  refine ⟨a, (List.range n).map fun j => decide (j ∈ zs), d', ?_, ha, by rw [hn]; simp, hp'.mono (by omega)⟩
  have hr0 : iRange2 (aCons (eC (.int 1)) (aCons (eVar 4) aNil)) [.ow true d0, .sh (.int (many : Nat)), .sh (.int (within : Nat)), .sh (.int (a : Nat)), .sh (.int ((n + 1 : Nat) : Int)), .no] = .ok ((List.range n).map fun k : Nat => D.int (1 + (k : Int))) [.ow true d0, .sh (.int (many : Nat)), .sh (.int (within : Nat)), .sh (.int (a : Nat)), .sh (.int ((n + 1 : Nat) : Int)), .no] := by
    refine range2_run (m := 1) (n := n) (e := ((n + 1 : Nat) : Int)) ?_ (by omega) (by omega) (by omega)
    simp only [bi_ok, bi_ex, th_ok, th_ex, lo_some, de_val, de_slot, dc_sh, dc_ow, ov_e, oc_sh, oc_ow, ol_e, kl_e, ev_e, ec_sh, ec_ow, cc_e, o2_e, k2_e, k2b_e, l2_e, o1_e, k1_e, l1_e, tb_e, kb_e, ta_e, ka_t, ka_f, to_e, ko_t, ko_f, tn_e, kn_e, ea_e, ea_t, ea_f, eo_e, eo_t, eo_f, en_e, en_k, if_e, if_t, if_f, tu_e, tu_k, ls_e, ls_k, an_e, ac_e, a1_e, a2_e, sq_e, sq_nx, sq_rt, sq_ex, sn_e, io_e, io_sh, io_no, io_ow, pu_e, pu_t, nx_e, se_e, se_k, ne_e, ne_k, ne_t, re_e, re_k, dr_e, dr_k, si_e, si_t, si_f, pa_e, pa_k, ob_some, fo_e, fo_k, ra_e, ra_k, ia_e, ia_l, ia_t, ia_s, r1_e, r1_k, r2_e, r2_k, lc_e, lc_k, lc_c, ca_e, ca_k, ou_ok, ou_ex, kw_e, kw_1, kw_2, ci_e, ci_s, ci_k, ci_g, oi_ok, oi_ex, m1_e, m1_k, m2_k, m3_k, ow_e, ow_k, ix_e, ix_0, ix_1, ix_2, ix_3, ix_4, pn_e, ps_e, ps_k, sl_e, sl_1, sl_2, sl_3, sl_4, fb_e, fb_k, ch_e, ch_1, ch_2, ch_3, ch_t, ch_f, ch_4, rs_rt, rs_nx, rs_ex, ri_rt, ri_nx, ri_ex, i0_e, ir_e, ix_e0, List.getElem?_cons_zero, List.getElem?_cons_succ, List.set_cons_zero, List.set_cons_succ]
  have hc : C1__law_places [.ow true d0, .sh (.int (many : Nat)), .sh (.int (within : Nat)), .sh (.int (a : Nat)), .sh (.int ((n + 1 : Nat) : Int)), .no] = .ok (.lst (zs.map fun k : Nat => D.int ((a + (k + 1) : Nat) : Int))) [.ow true d', .sh (.int (many : Nat)), .sh (.int (within : Nat)), .sh (.int (a : Nat)), .sh (.int ((n + 1 : Nat) : Int)), .no] :=
    by
    unfold C1__law_places
    refine lc_run hr0 ?_ ?_ e ?_
    · rfl
    · rw [List.length_map, List.length_range]; omega
    · simp only [restD, List.getElem?_cons_succ, List.getElem?_cons_zero, Option.getD_some, List.set_cons_succ, List.set_cons_zero]
  have hlen : zs.length ≤ n := by have := hs.length_le; rwa [List.length_range] at this
  have hpl : places a (true :: (List.range n).map fun j => decide (j ∈ zs)) = a :: zs.map fun k => a + (k + 1) := by
    rw [places_cons]
    have hf : ((List.range ((List.range n).map fun j => decide (j ∈ zs)).length).filter fun k => g0 ((List.range n).map fun j => decide (j ∈ zs)) k) = zs := by
      refine Eq.trans ?_ hz.symm
      rw [List.length_map, List.length_range]
      refine List.filter_congr fun k hk => ?_
      have hk' := List.mem_range.mp hk
      rw [g0_get (by simpa using hk'), List.getElem_map, List.getElem_range]
    rw [hf]
  rw [hpl]
  have hadd : gAdd (.lst [.int (a : Nat)]) (.lst (zs.map fun k : Nat => D.int ((a + (k + 1) : Nat) : Int))) = some (.lst (intsD (a :: zs.map fun k => a + (k + 1)))) := by
    rw [g_addL (by simp; omega)]
    unfold intsD
    rw [List.map_cons, List.map_map]
    rfl
  rw [show G__law_places d [.int (many : Nat), .int (within : Nat)] = resI (b__law_places (startI N__law_places d [.int (many : Nat), .int (within : Nat)])) from mkI_e rfl, show startI N__law_places d [.int (many : Nat), .int (within : Nat)] = [.ow true d, .sh (.int (many : Nat)), .sh (.int (within : Nat)), .no, .no, .no] from rfl]
  simp only [b__law_places, e0, g_sub, hm, ls1, hc, hadd, bi_ok, bi_ex, th_ok, th_ex, lo_some, de_val, de_slot, dc_sh, dc_ow, ov_e, oc_sh, oc_ow, ol_e, kl_e, ev_e, ec_sh, ec_ow, cc_e, o2_e, k2_e, k2b_e, l2_e, o1_e, k1_e, l1_e, tb_e, kb_e, ta_e, ka_t, ka_f, to_e, ko_t, ko_f, tn_e, kn_e, ea_e, ea_t, ea_f, eo_e, eo_t, eo_f, en_e, en_k, if_e, if_t, if_f, tu_e, tu_k, ls_e, ls_k, an_e, ac_e, a1_e, a2_e, sq_e, sq_nx, sq_rt, sq_ex, sn_e, io_e, io_sh, io_no, io_ow, pu_e, pu_t, nx_e, se_e, se_k, ne_e, ne_k, ne_t, re_e, re_k, dr_e, dr_k, si_e, si_t, si_f, pa_e, pa_k, ob_some, fo_e, fo_k, ra_e, ra_k, ia_e, ia_l, ia_t, ia_s, r1_e, r1_k, r2_e, r2_k, lc_e, lc_k, lc_c, ca_e, ca_k, ou_ok, ou_ex, kw_e, kw_1, kw_2, ci_e, ci_s, ci_k, ci_g, oi_ok, oi_ex, m1_e, m1_k, m2_k, m3_k, ow_e, ow_k, ix_e, ix_0, ix_1, ix_2, ix_3, ix_4, pn_e, ps_e, ps_k, sl_e, sl_1, sl_2, sl_3, sl_4, fb_e, fb_k, ch_e, ch_1, ch_2, ch_3, ch_t, ch_f, ch_4, rs_rt, rs_nx, rs_ex, ri_rt, ri_nx, ri_ex, i0_e, ir_e, ix_e0, List.getElem?_cons_zero, List.getElem?_cons_succ, List.set_cons_zero, List.set_cons_succ]
/-! refusals -/
def tG : D := .tup [.str [98, 105, 116, 115], .str [103, 117, 97, 114, 100]]
def tB : D := .tup [.str [98, 105, 116, 115], .str [98, 105, 116, 115]]
def tP : D := .tup [.str [114, 111, 119], .str [112, 108, 97, 99, 101, 115]]
theorem h_g : G__law_heard (.ex ⟨"BadBits", ["part"], [.str [103, 117, 97, 114, 100]]⟩) = .ok tG := rfl
theorem h_b : G__law_heard (.ex ⟨"BadBits", ["part"], [.str [98, 105, 116, 115]]⟩) = .ok tB := rfl
theorem h_p : G__law_heard (.ex ⟨"BadRow", ["part"], [.str [112, 108, 97, 99, 101, 115]]⟩) = .ok tP := rfl
theorem any_no {xs : List D} {P : D → Prop} (h : ∀ x ∈ xs, P x) {i : Nat} (hi : i < xs.length) : P xs[i] := h _ (List.getElem_mem hi)
def odds : List D := [.str [], .str [49], .str [48, 49], .str [49, 48], .str (List.replicate 18 49), .non, .int 11, .lst [.str [49], .str [49]], .str [49, 32, 49]]
def bads : List D := [.non, .int 0, .str [48, 49, 50], .str [49, 32], .lst [.str [48]], .tup [.str [49]], .str [79]]
def fews (n : Nat) : List D := [.lst [.int (n : Nat)], .lst [.int (-1)], .lst [.int 1, .int 0], .lst [.int 0, .int 0], .lst [.bl true], .non, .str [48], .int 0, .lst [.non], .lst [.int 0, .str [49]]]
theorem odds_no : ∀ x ∈ odds, G_is_guard [x] = .ok (.bl false) := by
  intro x hx
  simp only [odds, List.mem_cons, List.not_mem_nil, or_false] at hx
  rcases hx with rfl | rfl | rfl | rfl | rfl | rfl | rfl | rfl | rfl
  · exact p_is_guard [] (by decide)
  · exact p_is_guard [49] (by decide)
  · exact p_is_guard [48, 49] (by decide)
  · exact p_is_guard [49, 48] (by decide)
  · exact p_is_guard (List.replicate 18 49) (by decide)
  · exact p_is_guard_no _ (by decide)
  · exact p_is_guard_no _ (by decide)
  · exact p_is_guard_no _ (by decide)
  · exact p_is_guard [49, 32, 49] (by decide)
theorem bads_no : ∀ x ∈ bads, G_is_bits [x] = .ok (.bl false) := by
  intro x hx
  simp only [bads, List.mem_cons, List.not_mem_nil, or_false] at hx
  rcases hx with rfl | rfl | rfl | rfl | rfl | rfl | rfl
  · exact p_is_bits_no _ (by decide)
  · exact p_is_bits_no _ (by decide)
  · exact p_is_bits [48, 49, 50] (by decide)
  · exact p_is_bits [49, 32] (by decide)
  · exact p_is_bits_no _ (by decide)
  · exact p_is_bits_no _ (by decide)
  · exact p_is_bits [79] (by decide)
theorem change_no1 (xs : List D) (n : Int) (f : D → Bool) (hx : xs.length ≤ 10000) (h : ∀ x ∈ xs, G_is_within [x, .int 0, .int (n - 1)] = .ok (.bl (f x))) (ha : xs.all f = false) : G_is_change [.lst xs, .int n] = .ok (.bl false) := by
  show resD (b_is_change [.sh (.lst xs), .sh (.int n), .no, .no]) = _
  have hc := c1_change (.lst xs) xs (fun _ => rfl) n f hx h
  have h2 := all_map xs f
  rw [ha] at h2
  simp only [b_is_change, p_listed_l, hc, h2, Bool.not_true, Bool.not_false, bi_ok, bi_ex, th_ok, th_ex, lo_some, de_val, de_slot, dc_sh, dc_ow, ov_e, oc_sh, oc_ow, ol_e, kl_e, ev_e, ec_sh, ec_ow, cc_e, o2_e, k2_e, k2b_e, l2_e, o1_e, k1_e, l1_e, tb_e, kb_e, ta_e, ka_t, ka_f, to_e, ko_t, ko_f, tn_e, kn_e, ea_e, ea_t, ea_f, eo_e, eo_t, eo_f, en_e, en_k, if_e, if_t, if_f, tu_e, tu_k, ls_e, ls_k, an_e, ac_e, a1_e, a2_e, sq_e, sq_nx, sq_rt, sq_ex, sn_e, io_e, io_sh, io_no, io_ow, pu_e, pu_t, nx_e, se_e, se_k, ne_e, ne_k, ne_t, re_e, re_k, dr_e, dr_k, si_e, si_t, si_f, pa_e, pa_k, ob_some, fo_e, fo_k, ra_e, ra_k, ia_e, ia_l, ia_t, ia_s, r1_e, r1_k, r2_e, r2_k, lc_e, lc_k, lc_c, ca_e, ca_k, ou_ok, ou_ex, kw_e, kw_1, kw_2, ci_e, ci_s, ci_k, ci_g, oi_ok, oi_ex, m1_e, m1_k, m2_k, m3_k, ow_e, ow_k, ix_e, ix_0, ix_1, ix_2, ix_3, ix_4, pn_e, ps_e, ps_k, sl_e, sl_1, sl_2, sl_3, sl_4, fb_e, fb_k, ch_e, ch_1, ch_2, ch_3, ch_t, ch_f, ch_4, rs_rt, rs_nx, rs_ex, ri_rt, ri_nx, ri_ex, i0_e, ir_e, ix_e0, List.getElem?_cons_zero, List.getElem?_cons_succ, List.set_cons_zero, List.set_cons_succ]
theorem change_no2 (ps : List Nat) (n : Nat) (hx : ps.length ≤ 10000) (h : ∀ p ∈ ps, p < n) (h2 : ((List.range (ps.length - 1)).all fun k => decide ((ps.getD k 0 : Int) < (ps.getD (k + 1) 0 : Nat))) = false) : G_is_change [.lst (intsD ps), .int (n : Nat)] = .ok (.bl false) := by
  show resD (b_is_change [.sh (.lst (intsD ps)), .sh (.int (n : Nat)), .no, .no]) = _
  have hc1 := c1_change (.lst (intsD ps)) (intsD ps) (fun _ => rfl) (n : Nat) (fun _ => true) (by unfold intsD; simp; omega) (fun x hx => by
    unfold intsD at hx
    obtain ⟨p, hp, rfl⟩ := List.mem_map.mp hx
    have := h p hp
    rw [p_is_within, decide_eq_true (by omega), decide_eq_true (by omega)]
    rfl)
  have ha1 := all_map (intsD ps) (fun _ => true)
  have e1 : (intsD ps).all (fun _ => true) = true := by simp
  rw [e1] at ha1
  have hc2 := c2_change (.lst (intsD ps)) ps (fun _ => rfl) (by rw [g_lenL]; unfold intsD; rw [List.length_map]) (n : Nat) hx
  have ha2 := g_all ((List.range (ps.length - 1)).map fun k => decide ((ps.getD k 0 : Int) < (ps.getD (k + 1) 0 : Nat)))
  rw [List.map_map, List.all_map] at ha2
  have ha3 : gAll (.lst ((List.range (ps.length - 1)).map fun k => .bl (decide ((ps.getD k 0 : Int) < (ps.getD (k + 1) 0 : Nat))))) = some (.bl false) := by
    refine Eq.trans ha2 ?_
    congr 2
  simp only [b_is_change, p_listed_l, hc1, ha1, hc2, ha3, Bool.not_true, bi_ok, bi_ex, th_ok, th_ex, lo_some, de_val, de_slot, dc_sh, dc_ow, ov_e, oc_sh, oc_ow, ol_e, kl_e, ev_e, ec_sh, ec_ow, cc_e, o2_e, k2_e, k2b_e, l2_e, o1_e, k1_e, l1_e, tb_e, kb_e, ta_e, ka_t, ka_f, to_e, ko_t, ko_f, tn_e, kn_e, ea_e, ea_t, ea_f, eo_e, eo_t, eo_f, en_e, en_k, if_e, if_t, if_f, tu_e, tu_k, ls_e, ls_k, an_e, ac_e, a1_e, a2_e, sq_e, sq_nx, sq_rt, sq_ex, sn_e, io_e, io_sh, io_no, io_ow, pu_e, pu_t, nx_e, se_e, se_k, ne_e, ne_k, ne_t, re_e, re_k, dr_e, dr_k, si_e, si_t, si_f, pa_e, pa_k, ob_some, fo_e, fo_k, ra_e, ra_k, ia_e, ia_l, ia_t, ia_s, r1_e, r1_k, r2_e, r2_k, lc_e, lc_k, lc_c, ca_e, ca_k, ou_ok, ou_ex, kw_e, kw_1, kw_2, ci_e, ci_s, ci_k, ci_g, oi_ok, oi_ex, m1_e, m1_k, m2_k, m3_k, ow_e, ow_k, ix_e, ix_0, ix_1, ix_2, ix_3, ix_4, pn_e, ps_e, ps_k, sl_e, sl_1, sl_2, sl_3, sl_4, fb_e, fb_k, ch_e, ch_1, ch_2, ch_3, ch_t, ch_f, ch_4, rs_rt, rs_nx, rs_ex, ri_rt, ri_nx, ri_ex, i0_e, ir_e, ix_e0, List.getElem?_cons_zero, List.getElem?_cons_succ, List.set_cons_zero, List.set_cons_succ]
theorem change_no (x : D) (n : D) (h : gIsiT ["list", "tuple"] x = some (.bl false)) : G_is_change [x, n] = .ok (.bl false) := by
  show resD (b_is_change [.sh x, .sh n, .no, .no]) = _
  simp only [b_is_change, p_listed_no x h, Bool.not_false, bi_ok, bi_ex, th_ok, th_ex, lo_some, de_val, de_slot, dc_sh, dc_ow, ov_e, oc_sh, oc_ow, ol_e, kl_e, ev_e, ec_sh, ec_ow, cc_e, o2_e, k2_e, k2b_e, l2_e, o1_e, k1_e, l1_e, tb_e, kb_e, ta_e, ka_t, ka_f, to_e, ko_t, ko_f, tn_e, kn_e, ea_e, ea_t, ea_f, eo_e, eo_t, eo_f, en_e, en_k, if_e, if_t, if_f, tu_e, tu_k, ls_e, ls_k, an_e, ac_e, a1_e, a2_e, sq_e, sq_nx, sq_rt, sq_ex, sn_e, io_e, io_sh, io_no, io_ow, pu_e, pu_t, nx_e, se_e, se_k, ne_e, ne_k, ne_t, re_e, re_k, dr_e, dr_k, si_e, si_t, si_f, pa_e, pa_k, ob_some, fo_e, fo_k, ra_e, ra_k, ia_e, ia_l, ia_t, ia_s, r1_e, r1_k, r2_e, r2_k, lc_e, lc_k, lc_c, ca_e, ca_k, ou_ok, ou_ex, kw_e, kw_1, kw_2, ci_e, ci_s, ci_k, ci_g, oi_ok, oi_ex, m1_e, m1_k, m2_k, m3_k, ow_e, ow_k, ix_e, ix_0, ix_1, ix_2, ix_3, ix_4, pn_e, ps_e, ps_k, sl_e, sl_1, sl_2, sl_3, sl_4, fb_e, fb_k, ch_e, ch_1, ch_2, ch_3, ch_t, ch_f, ch_4, rs_rt, rs_nx, rs_ex, ri_rt, ri_nx, ri_ex, i0_e, ir_e, ix_e0, List.getElem?_cons_zero, List.getElem?_cons_succ, List.set_cons_zero, List.set_cons_succ]
theorem fews_no (n : Nat) (hn : 2 ≤ n) : ∀ x ∈ fews n, G_is_change [x, .int (n : Nat)] = .ok (.bl false) := by
  intro x hx
  simp only [fews, List.mem_cons, List.not_mem_nil, or_false] at hx
  rcases hx with rfl | rfl | rfl | rfl | rfl | rfl | rfl | rfl | rfl | rfl
  · refine change_no1 _ _ (fun _ => false) (by simp) (fun x hx => ?_) rfl
    rw [List.mem_singleton] at hx
    subst hx
    rw [p_is_within, show decide ((n : Int) ≤ (n : Nat) - 1) = false from decide_eq_false (by omega), Bool.and_false]
  · refine change_no1 _ _ (fun _ => false) (by simp) (fun x hx => ?_) rfl
    rw [List.mem_singleton] at hx
    subst hx
    rw [p_is_within, show decide ((0 : Int) ≤ -1) = false from rfl, Bool.false_and]
  · exact change_no2 [1, 0] n (by simp) (by simp; omega) rfl
  · exact change_no2 [0, 0] n (by simp) (by simp; omega) rfl
  · refine change_no1 _ _ (fun _ => false) (by simp) (fun x hx => ?_) rfl
    rw [List.mem_singleton] at hx
    subst hx
    exact p_is_within_no _ _ _ (p_is_integer_bl true)
  · exact change_no _ _ rfl
  · exact change_no _ _ rfl
  · exact change_no _ _ rfl
  · refine change_no1 _ _ (fun _ => false) (by simp) (fun x hx => ?_) rfl
    rw [List.mem_singleton] at hx
    subst hx
    exact p_is_within_no _ _ _ (p_is_integer_no _ (by decide))
  · refine change_no1 _ _ (fun x => match x with | .int _ => true | _ => false) (by simp) (fun x hx => ?_) rfl
    simp only [List.mem_cons, List.not_mem_nil, or_false] at hx
    rcases hx with rfl | rfl
    · rw [p_is_within, decide_eq_true (by omega), decide_eq_true (by omega)]
      rfl
    · exact p_is_within_no _ _ _ (p_is_integer_no _ (by decide))
end T76

set_option Elab.async false
set_option linter.all false
set_option maxRecDepth 100000
set_option maxHeartbeats 8000000
/-! P76e: the refused turns and the pieces of a right turn. -/
namespace T76
open PySem PySem.Spec PyProof.Rows L2 DV Crc
theorem so_n : shOnly [] = [] := rfl
theorem so_s {d : D} {r : Ds} : shOnly (.sh d :: r) = .sh d :: shOnly r := rfl
theorem so_o {b : Bool} {d : D} {r : Ds} : shOnly (.ow b d :: r) = .no :: shOnly r := rfl
theorem so_x {r : Ds} : shOnly (.no :: r) = .no :: shOnly r := rfl
theorem he_e {G : FO → FO} {g : Ds → Out D} {ds : Ds} : eHeard G g ds = outD (G (resL (g (shOnly ds)))) ds := nr rfl
theorem rl_x {x : Exn} {ds : Ds} : resL (.ex x ds) = .ex x := nr rfl
theorem rl_o {d : D} {ds : Ds} : resL (.ok d ds) = .ok d := nr rfl
theorem dok_tx (m : Bs) (n : Nat) : dok (.str (tx m)) n = true := by
  have : (tx m).all (· < 0x110000) = true := List.all_eq_true.mpr fun c hc => by
    rcases tx_bin m c hc with rfl | rfl <;> rfl
  unfold dok
  exact this
theorem eq3 (a c : Bs) : gEq (.lst [.str (tx a), .str [], .str (tx c)]) (.lst [.str (tx a), .str [], .str (tx c)]) = some (.bl true) := by
  have h : dok (.lst [.str (tx a), .str [], .str (tx c)]) 60 = true := by
    show doks [.str (tx a), .str [], .str (tx c)] 59 = true
    simp only [doks, dok_tx]
    rfl
  have h2 : deq (.lst [.str (tx a), .str [], .str (tx c)]) (.lst [.str (tx a), .str [], .str (tx c)]) = true := by
    simp [deq, deqs]
  unfold gEq
  dsimp only
  rw [h, h2]
  rfl
theorem mul0 (gt : Bs) (h : gt.length ≤ 1000) : gMul (.str [48]) (.int (gt.length : Nat)) = some (.str (tx (zs gt.length))) := by
  rw [g_mulS ⟨by omega, by omega, by simp; omega⟩, Int.toNat_natCast, flat48, tx_zs]
theorem same (T : Bs) : xl T (mask T.length []) = T := by rw [mask_nil, xl_zero T _ rfl]
theorem p_law_refused {B : Nat} {d : D} (gt T : Bs) (hg : Gd gt) (h2 : 2 ≤ T.length) (hT : T.length ≤ 1000) (h : Pen B d) (hB : B + 3 ≤ 1000000) : ∃ d', G__law_refused d [.str (tx (true :: gt)), .str (tx T)] = .ok (.bl true) d' ∧ Pen (B + 3) d' := by
  obtain ⟨i, hi, d1, e1, hp1⟩ := p_pick (xs := odds) h (by omega) (by decide) (by decide)
  have g1 := odds_no _ (List.getElem_mem hi)
  generalize odds[i] = x at e1 g1
  obtain ⟨j, hj, d2, e2, hp2⟩ := p_pick (xs := bads) hp1 (by omega) (by decide) (by decide)
  have g2 := bads_no _ (List.getElem_mem hj)
  generalize bads[j] = y at e2 g2
  obtain ⟨k, hk, d3, e3, hp3⟩ := p_pick (xs := fews T.length) hp2 (by omega) (by simp [fews]) (by simp [fews])
  have g3 := fews_no T.length h2 _ (List.getElem_mem hk)
  generalize (fews T.length)[k] = z at e3 g3
  unfold odds at e1
  unfold bads at e2
  unfold fews at e3
  refine ⟨d3, ?_, hp3⟩
  have m18 : gMul (.str [49]) (.int 18) = some (.str (List.replicate 18 49)) := rfl
  have n1 : gNeg (.int 1) = some (.int (-1)) := rfl
  have q1 := p_rest_by_g x y g1
  have q2 := p_with_guard_g x (.str (tx T)) g1
  have q3 := p_rest_by_b (.str (tx (true :: gt))) y hg.is g2
  have q4 := p_with_guard_b (.str (tx (true :: gt))) y hg.is g2
  have q5 := p_changed_b y z g2
  have q6 := p_changed_p T z (by omega) g3
  have b1 : gAdd (.lst [tG, tG]) (.lst [tB, tB]) = some (.lst [tG, tG, tB, tB]) := rfl
  have b2 : gAdd (.lst [tG, tG, tB, tB]) (.lst [tB, tP]) = some (.lst [tG, tG, tB, tB, tB, tP]) := rfl
  have b3 : gMul (.lst [.tup [.str [98, 105, 116, 115], .str [103, 117, 97, 114, 100]]]) (.int 2) = some (.lst [tG, tG]) := rfl
  have b4 : gMul (.lst [.tup [.str [98, 105, 116, 115], .str [98, 105, 116, 115]]]) (.int 3) = some (.lst [tB, tB, tB]) := rfl
  have b5 : gAdd (.lst [tG, tG]) (.lst [tB, tB, tB]) = some (.lst [tG, tG, tB, tB, tB]) := rfl
  have b6 : gAdd (.lst [tG, tG, tB, tB, tB]) (.lst [.tup [.str [114, 111, 119], .str [112, 108, 97, 99, 101, 115]]]) = some (.lst [tG, tG, tB, tB, tB, tP]) := rfl
  have b7 : gNe (.lst [tG, tG, tB, tB, tB, tP]) (.lst [tG, tG, tB, tB, tB, tP]) = some (.bl false) := rfl
  have c1 : G_changed [.str (tx T), .lst []] = .ok (.str (tx T)) := by
    have := p_changed_l [] T (by omega) (by simp) (by simp) List.Pairwise.nil
    rwa [same] at this
  have c2 : G_changed [.str [], .tup []] = .ok (.str []) := p_changed_t [] [] (by simp) (by simp) (by simp) List.Pairwise.nil
  have c3 : G_rest_by [.str (tx (true :: gt)), .str []] = .ok (.str (tx (zs gt.length))) := p_rest_by gt [] hg (by simp)
  have hl := hg.len
  have l1 := len_tx (true :: gt) (by simp; omega)
  have l2 : (((true :: gt).length : Nat) : Int) - 1 = (gt.length : Nat) := by simp
  have l3 := len_tx T (by omega)
  have l4 := mul0 gt (by omega)
  have l5 := eq3 T (zs gt.length)
  rw [show G__law_refused d [.str (tx (true :: gt)), .str (tx T)] = resI (b__law_refused (startI N__law_refused d [.str (tx (true :: gt)), .str (tx T)])) from mkI_e rfl, show startI N__law_refused d [.str (tx (true :: gt)), .str (tx T)] = [.ow true d, .sh (.str (tx (true :: gt))), .sh (.str (tx T)), .no, .no, .no, .no] from rfl]
  simp only [b__law_refused, m18, n1, l3, ls0, ls1, ls2, ls3, ls7, ls9, ls10, tu0, tu1, tu2, e1, e2, e3, he_e, so_n, so_s, so_o, so_x, rl_x, q1, q2, q3, q4, q5, q6, h_g, h_b, h_p, b1, b2, b3, b4, b5, b6, b7, c1, c2, c3, l1, g_sub, l2, l4, l5, bi_ok, bi_ex, th_ok, th_ex, lo_some, de_val, de_slot, dc_sh, dc_ow, ov_e, oc_sh, oc_ow, ol_e, kl_e, ev_e, ec_sh, ec_ow, cc_e, o2_e, k2_e, k2b_e, l2_e, o1_e, k1_e, l1_e, tb_e, kb_e, ta_e, ka_t, ka_f, to_e, ko_t, ko_f, tn_e, kn_e, ea_e, ea_t, ea_f, eo_e, eo_t, eo_f, en_e, en_k, if_e, if_t, if_f, tu_e, tu_k, ls_e, ls_k, an_e, ac_e, a1_e, a2_e, sq_e, sq_nx, sq_rt, sq_ex, sn_e, io_e, io_sh, io_no, io_ow, pu_e, pu_t, nx_e, se_e, se_k, ne_e, ne_k, ne_t, re_e, re_k, dr_e, dr_k, si_e, si_t, si_f, pa_e, pa_k, ob_some, fo_e, fo_k, ra_e, ra_k, ia_e, ia_l, ia_t, ia_s, r1_e, r1_k, r2_e, r2_k, lc_e, lc_k, lc_c, ca_e, ca_k, ou_ok, ou_ex, kw_e, kw_1, kw_2, ci_e, ci_s, ci_k, ci_g, oi_ok, oi_ex, m1_e, m1_k, m2_k, m3_k, ow_e, ow_k, ix_e, ix_0, ix_1, ix_2, ix_3, ix_4, pn_e, ps_e, ps_k, sl_e, sl_1, sl_2, sl_3, sl_4, fb_e, fb_k, ch_e, ch_1, ch_2, ch_3, ch_t, ch_f, ch_4, rs_rt, rs_nx, rs_ex, ri_rt, ri_nx, ri_ex, i0_e, ir_e, ix_e0, List.getElem?_cons_zero, List.getElem?_cons_succ, List.set_cons_zero, List.set_cons_succ]
/-! pieces of _law_right -/
theorem r_sel {B : Nat} {d : D} (T : Bs) (hT : T.length ≤ 200) (h : Pen B d) (hB : B + 200 ≤ 1000000) (c1 c2 c3 c6 c7 c8 c9 c10 c11 c12 c13 c14 c15 : Cl) : ∃ (ps : List Nat) (d' : D),
    C1__law_right [.ow true d, c1, c2, c3, .sh (.str (tx T)), .no, c6, c7, c8, c9, c10, c11, c12, c13, c14, c15] = .ok (.lst (intsD ps)) [.ow true d', c1, c2, c3, .sh (.str (tx T)), .no, c6, c7, c8, c9, c10, c11, c12, c13, c14, c15] ∧ ps.Sublist (List.range T.length) ∧ Pen (B + 200) d' := by
  obtain ⟨zs, ds', e, hs, hp⟩ := comp_sel (vs := [5]) (g := putSh 5) (t := tBl (eOp2 gEq (oVal (eCallI 0 G__law_draw (aCons (eC (.int 4)) aNil))) (oVal (eC (.int 0))))) (f := eVar 5) (k := fun k : Nat => D.int (k : Int))
    (fun k ds => ∃ d, ds = [.ow true d, c1, c2, c3, .sh (.str (tx T)), .no, c6, c7, c8, c9, c10, c11, c12, c13, c14, c15] ∧ Pen (B + k) d) (fun k : Nat => D.int (k : Int)) (List.range T.length) 0 [.ow true d, c1, c2, c3, .sh (.str (tx T)), .no, c6, c7, c8, c9, c10, c11, c12, c13, c14, c15] ⟨d, rfl, h⟩ (fun m ds x hx hm hP => by
      obtain ⟨d, rfl, hp⟩ := hP
      simp only [List.length_range] at hm
      obtain ⟨r, d', e, hr, hp'⟩ := p_draw (many := 4) hp (by omega) (by omega) (by omega)
      have e' : G__law_draw d [.int 4] = .ok (.int (r : Nat)) d' := e
      refine ⟨[.ow true d, c1, c2, c3, .sh (.str (tx T)), .sh (.int (x : Nat)), c6, c7, c8, c9, c10, c11, c12, c13, c14, c15], (((r : Nat) : Int) == 0), [.ow true d', c1, c2, c3, .sh (.str (tx T)), .sh (.int (x : Nat)), c6, c7, c8, c9, c10, c11, c12, c13, c14, c15], rfl, by simp only [e', g_eqI, bi_ok, bi_ex, th_ok, th_ex, lo_some, de_val, de_slot, dc_sh, dc_ow, ov_e, oc_sh, oc_ow, ol_e, kl_e, ev_e, ec_sh, ec_ow, cc_e, o2_e, k2_e, k2b_e, l2_e, o1_e, k1_e, l1_e, tb_e, kb_e, ta_e, ka_t, ka_f, to_e, ko_t, ko_f, tn_e, kn_e, ea_e, ea_t, ea_f, eo_e, eo_t, eo_f, en_e, en_k, if_e, if_t, if_f, tu_e, tu_k, ls_e, ls_k, an_e, ac_e, a1_e, a2_e, sq_e, sq_nx, sq_rt, sq_ex, sn_e, io_e, io_sh, io_no, io_ow, pu_e, pu_t, nx_e, se_e, se_k, ne_e, ne_k, ne_t, re_e, re_k, dr_e, dr_k, si_e, si_t, si_f, pa_e, pa_k, ob_some, fo_e, fo_k, ra_e, ra_k, ia_e, ia_l, ia_t, ia_s, r1_e, r1_k, r2_e, r2_k, lc_e, lc_k, lc_c, ca_e, ca_k, ou_ok, ou_ex, kw_e, kw_1, kw_2, ci_e, ci_s, ci_k, ci_g, oi_ok, oi_ex, m1_e, m1_k, m2_k, m3_k, ow_e, ow_k, ix_e, ix_0, ix_1, ix_2, ix_3, ix_4, pn_e, ps_e, ps_k, sl_e, sl_1, sl_2, sl_3, sl_4, fb_e, fb_k, ch_e, ch_1, ch_2, ch_3, ch_t, ch_f, ch_4, rs_rt, rs_nx, rs_ex, ri_rt, ri_nx, ri_ex, i0_e, ir_e, ix_e0, List.getElem?_cons_zero, List.getElem?_cons_succ, List.set_cons_zero, List.set_cons_succ], ⟨d', rfl, hp'⟩, [.ow true d', c1, c2, c3, .sh (.str (tx T)), .sh (.int (x : Nat)), c6, c7, c8, c9, c10, c11, c12, c13, c14, c15], ?_, rfl⟩
      simp only [bi_ok, bi_ex, th_ok, th_ex, lo_some, de_val, de_slot, dc_sh, dc_ow, ov_e, oc_sh, oc_ow, ol_e, kl_e, ev_e, ec_sh, ec_ow, cc_e, o2_e, k2_e, k2b_e, l2_e, o1_e, k1_e, l1_e, tb_e, kb_e, ta_e, ka_t, ka_f, to_e, ko_t, ko_f, tn_e, kn_e, ea_e, ea_t, ea_f, eo_e, eo_t, eo_f, en_e, en_k, if_e, if_t, if_f, tu_e, tu_k, ls_e, ls_k, an_e, ac_e, a1_e, a2_e, sq_e, sq_nx, sq_rt, sq_ex, sn_e, io_e, io_sh, io_no, io_ow, pu_e, pu_t, nx_e, se_e, se_k, ne_e, ne_k, ne_t, re_e, re_k, dr_e, dr_k, si_e, si_t, si_f, pa_e, pa_k, ob_some, fo_e, fo_k, ra_e, ra_k, ia_e, ia_l, ia_t, ia_s, r1_e, r1_k, r2_e, r2_k, lc_e, lc_k, lc_c, ca_e, ca_k, ou_ok, ou_ex, kw_e, kw_1, kw_2, ci_e, ci_s, ci_k, ci_g, oi_ok, oi_ex, m1_e, m1_k, m2_k, m3_k, ow_e, ow_k, ix_e, ix_0, ix_1, ix_2, ix_3, ix_4, pn_e, ps_e, ps_k, sl_e, sl_1, sl_2, sl_3, sl_4, fb_e, fb_k, ch_e, ch_1, ch_2, ch_3, ch_t, ch_f, ch_4, rs_rt, rs_nx, rs_ex, ri_rt, ri_nx, ri_ex, i0_e, ir_e, ix_e0, List.getElem?_cons_zero, List.getElem?_cons_succ, List.set_cons_zero, List.set_cons_succ])
  obtain ⟨d', rfl, hp'⟩ := hp
  rw [List.length_range, Nat.zero_add] at hp'
  have hlen : zs.length ≤ T.length := by have := hs.length_le; rwa [List.length_range] at this
  refine ⟨zs, d', ?_, hs, hp'.mono (by omega)⟩
  have l3 := len_tx T (by omega)
  have hr : iRange1 (aCons (eOp1 gLen (oVar 4)) aNil) [.ow true d, c1, c2, c3, .sh (.str (tx T)), .no, c6, c7, c8, c9, c10, c11, c12, c13, c14, c15] = .ok ((List.range T.length).map fun k : Nat => D.int (k : Int)) [.ow true d, c1, c2, c3, .sh (.str (tx T)), .no, c6, c7, c8, c9, c10, c11, c12, c13, c14, c15] := by
    refine range1_run ?_ (by omega)
    simp only [l3, bi_ok, bi_ex, th_ok, th_ex, lo_some, de_val, de_slot, dc_sh, dc_ow, ov_e, oc_sh, oc_ow, ol_e, kl_e, ev_e, ec_sh, ec_ow, cc_e, o2_e, k2_e, k2b_e, l2_e, o1_e, k1_e, l1_e, tb_e, kb_e, ta_e, ka_t, ka_f, to_e, ko_t, ko_f, tn_e, kn_e, ea_e, ea_t, ea_f, eo_e, eo_t, eo_f, en_e, en_k, if_e, if_t, if_f, tu_e, tu_k, ls_e, ls_k, an_e, ac_e, a1_e, a2_e, sq_e, sq_nx, sq_rt, sq_ex, sn_e, io_e, io_sh, io_no, io_ow, pu_e, pu_t, nx_e, se_e, se_k, ne_e, ne_k, ne_t, re_e, re_k, dr_e, dr_k, si_e, si_t, si_f, pa_e, pa_k, ob_some, fo_e, fo_k, ra_e, ra_k, ia_e, ia_l, ia_t, ia_s, r1_e, r1_k, r2_e, r2_k, lc_e, lc_k, lc_c, ca_e, ca_k, ou_ok, ou_ex, kw_e, kw_1, kw_2, ci_e, ci_s, ci_k, ci_g, oi_ok, oi_ex, m1_e, m1_k, m2_k, m3_k, ow_e, ow_k, ix_e, ix_0, ix_1, ix_2, ix_3, ix_4, pn_e, ps_e, ps_k, sl_e, sl_1, sl_2, sl_3, sl_4, fb_e, fb_k, ch_e, ch_1, ch_2, ch_3, ch_t, ch_f, ch_4, rs_rt, rs_nx, rs_ex, ri_rt, ri_nx, ri_ex, i0_e, ir_e, ix_e0, List.getElem?_cons_zero, List.getElem?_cons_succ, List.set_cons_zero, List.set_cons_succ]
  unfold C1__law_right
  refine lc_run hr ?_ ?_ e ?_
  · rfl
  · rw [List.length_map, List.length_range]; omega
  · rfl
theorem ints_places (a : Nat) (w : Bs) : intsD (places a w) = ((List.range w.length).filter fun k => g0 w k).map fun k => D.int ((a + k : Nat) : Int) := by
  unfold intsD places
  rw [List.map_map]
  rfl
theorem r_laid (d : D) (gt : Bs) (hg : Gd gt) (a : Nat) (c3 c4 c6 c7 c8 c9 c11 c12 c13 c14 c15 : Cl) :
    C2__law_right [.ow true d, .sh (.str (tx (true :: gt))), .sh (.int (gt.length : Nat)), c3, c4, .sh (.int (a : Nat)), c6, c7, c8, c9, .no, c11, c12, c13, c14, c15] = .ok (.lst (intsD (places a (true :: gt)))) [.ow true d, .sh (.str (tx (true :: gt))), .sh (.int (gt.length : Nat)), c3, c4, .sh (.int (a : Nat)), c6, c7, c8, c9, .no, c11, c12, c13, c14, c15] := by
  have hl := hg.len
  have e2 : ((gt.length : Nat) : Int) + 1 = ((gt.length + 1 : Nat) : Int) := rfl
  have hr : iRange1 (aCons (eOp2 gAdd (oVar 2) (oVal (eC (.int 1)))) aNil) [.ow true d, .sh (.str (tx (true :: gt))), .sh (.int (gt.length : Nat)), c3, c4, .sh (.int (a : Nat)), c6, c7, c8, c9, .no, c11, c12, c13, c14, c15] = .ok ((List.range (gt.length + 1)).map fun k : Nat => D.int (k : Int)) [.ow true d, .sh (.str (tx (true :: gt))), .sh (.int (gt.length : Nat)), c3, c4, .sh (.int (a : Nat)), c6, c7, c8, c9, .no, c11, c12, c13, c14, c15] := by
    refine range1_run ?_ (by omega)
    simp only [g_addI, e2, bi_ok, bi_ex, th_ok, th_ex, lo_some, de_val, de_slot, dc_sh, dc_ow, ov_e, oc_sh, oc_ow, ol_e, kl_e, ev_e, ec_sh, ec_ow, cc_e, o2_e, k2_e, k2b_e, l2_e, o1_e, k1_e, l1_e, tb_e, kb_e, ta_e, ka_t, ka_f, to_e, ko_t, ko_f, tn_e, kn_e, ea_e, ea_t, ea_f, eo_e, eo_t, eo_f, en_e, en_k, if_e, if_t, if_f, tu_e, tu_k, ls_e, ls_k, an_e, ac_e, a1_e, a2_e, sq_e, sq_nx, sq_rt, sq_ex, sn_e, io_e, io_sh, io_no, io_ow, pu_e, pu_t, nx_e, se_e, se_k, ne_e, ne_k, ne_t, re_e, re_k, dr_e, dr_k, si_e, si_t, si_f, pa_e, pa_k, ob_some, fo_e, fo_k, ra_e, ra_k, ia_e, ia_l, ia_t, ia_s, r1_e, r1_k, r2_e, r2_k, lc_e, lc_k, lc_c, ca_e, ca_k, ou_ok, ou_ex, kw_e, kw_1, kw_2, ci_e, ci_s, ci_k, ci_g, oi_ok, oi_ex, m1_e, m1_k, m2_k, m3_k, ow_e, ow_k, ix_e, ix_0, ix_1, ix_2, ix_3, ix_4, pn_e, ps_e, ps_k, sl_e, sl_1, sl_2, sl_3, sl_4, fb_e, fb_k, ch_e, ch_1, ch_2, ch_3, ch_t, ch_f, ch_4, rs_rt, rs_nx, rs_ex, ri_rt, ri_nx, ri_ex, i0_e, ir_e, ix_e0, List.getElem?_cons_zero, List.getElem?_cons_succ, List.set_cons_zero, List.set_cons_succ]
  rw [ints_places]
  unfold C2__law_right
  refine lc_run hr ?_ ?_ (comp_filter (k := fun k : Nat => D.int (k : Int)) (p := fun k => g0 (true :: gt) k) (h := fun k => D.int ((a + k : Nat) : Int)) _ fun k hk => ?_) ?_
  · rfl
  · rw [List.length_map, List.length_range]; omega
  · have hk' := List.mem_range.mp hk
    have hx := tx_at (l := true :: gt) (i := k) (by simpa using hk') (by simp; omega)
    have hc := ch_eq (g0 (true :: gt) k)
    refine ⟨[.ow true d, .sh (.str (tx (true :: gt))), .sh (.int (gt.length : Nat)), c3, c4, .sh (.int (a : Nat)), c6, c7, c8, c9, .sh (.int (k : Nat)), c11, c12, c13, c14, c15], [.ow true d, .sh (.str (tx (true :: gt))), .sh (.int (gt.length : Nat)), c3, c4, .sh (.int (a : Nat)), c6, c7, c8, c9, .sh (.int (k : Nat)), c11, c12, c13, c14, c15], rfl, ?_, rfl, fun _ => ⟨[.ow true d, .sh (.str (tx (true :: gt))), .sh (.int (gt.length : Nat)), c3, c4, .sh (.int (a : Nat)), c6, c7, c8, c9, .sh (.int (k : Nat)), c11, c12, c13, c14, c15], ?_, rfl⟩⟩
    · simp only [hx, g_eqS, hc, bi_ok, bi_ex, th_ok, th_ex, lo_some, de_val, de_slot, dc_sh, dc_ow, ov_e, oc_sh, oc_ow, ol_e, kl_e, ev_e, ec_sh, ec_ow, cc_e, o2_e, k2_e, k2b_e, l2_e, o1_e, k1_e, l1_e, tb_e, kb_e, ta_e, ka_t, ka_f, to_e, ko_t, ko_f, tn_e, kn_e, ea_e, ea_t, ea_f, eo_e, eo_t, eo_f, en_e, en_k, if_e, if_t, if_f, tu_e, tu_k, ls_e, ls_k, an_e, ac_e, a1_e, a2_e, sq_e, sq_nx, sq_rt, sq_ex, sn_e, io_e, io_sh, io_no, io_ow, pu_e, pu_t, nx_e, se_e, se_k, ne_e, ne_k, ne_t, re_e, re_k, dr_e, dr_k, si_e, si_t, si_f, pa_e, pa_k, ob_some, fo_e, fo_k, ra_e, ra_k, ia_e, ia_l, ia_t, ia_s, r1_e, r1_k, r2_e, r2_k, lc_e, lc_k, lc_c, ca_e, ca_k, ou_ok, ou_ex, kw_e, kw_1, kw_2, ci_e, ci_s, ci_k, ci_g, oi_ok, oi_ex, m1_e, m1_k, m2_k, m3_k, ow_e, ow_k, ix_e, ix_0, ix_1, ix_2, ix_3, ix_4, pn_e, ps_e, ps_k, sl_e, sl_1, sl_2, sl_3, sl_4, fb_e, fb_k, ch_e, ch_1, ch_2, ch_3, ch_t, ch_f, ch_4, rs_rt, rs_nx, rs_ex, ri_rt, ri_nx, ri_ex, i0_e, ir_e, ix_e0, List.getElem?_cons_zero, List.getElem?_cons_succ, List.set_cons_zero, List.set_cons_succ]
    · have e3 : ((a : Nat) : Int) + (k : Nat) = ((a + k : Nat) : Int) := rfl
      simp only [g_addI, e3, bi_ok, bi_ex, th_ok, th_ex, lo_some, de_val, de_slot, dc_sh, dc_ow, ov_e, oc_sh, oc_ow, ol_e, kl_e, ev_e, ec_sh, ec_ow, cc_e, o2_e, k2_e, k2b_e, l2_e, o1_e, k1_e, l1_e, tb_e, kb_e, ta_e, ka_t, ka_f, to_e, ko_t, ko_f, tn_e, kn_e, ea_e, ea_t, ea_f, eo_e, eo_t, eo_f, en_e, en_k, if_e, if_t, if_f, tu_e, tu_k, ls_e, ls_k, an_e, ac_e, a1_e, a2_e, sq_e, sq_nx, sq_rt, sq_ex, sn_e, io_e, io_sh, io_no, io_ow, pu_e, pu_t, nx_e, se_e, se_k, ne_e, ne_k, ne_t, re_e, re_k, dr_e, dr_k, si_e, si_t, si_f, pa_e, pa_k, ob_some, fo_e, fo_k, ra_e, ra_k, ia_e, ia_l, ia_t, ia_s, r1_e, r1_k, r2_e, r2_k, lc_e, lc_k, lc_c, ca_e, ca_k, ou_ok, ou_ex, kw_e, kw_1, kw_2, ci_e, ci_s, ci_k, ci_g, oi_ok, oi_ex, m1_e, m1_k, m2_k, m3_k, ow_e, ow_k, ix_e, ix_0, ix_1, ix_2, ix_3, ix_4, pn_e, ps_e, ps_k, sl_e, sl_1, sl_2, sl_3, sl_4, fb_e, fb_k, ch_e, ch_1, ch_2, ch_3, ch_t, ch_f, ch_4, rs_rt, rs_nx, rs_ex, ri_rt, ri_nx, ri_ex, i0_e, ir_e, ix_e0, List.getElem?_cons_zero, List.getElem?_cons_succ, List.set_cons_zero, List.set_cons_succ]
  · rfl
theorem r_wide (d : D) (gt w : Bs) (hg : Gd gt) (a : Nat) (c3 c4 c5 c6 c7 c8 c9 c11 c13 c14 c15 : Cl) :
    C3__law_right [.ow true d, .sh (.str (tx (true :: gt))), .sh (.int (gt.length : Nat)), c3, c4, c5, c6, c7, c8, c9, .no, c11, .sh (.lst (intsD (places a (true :: w)))), c13, c14, c15] = .ok (.lst (intsD (places a (true :: gt)))) [.ow true d, .sh (.str (tx (true :: gt))), .sh (.int (gt.length : Nat)), c3, c4, c5, c6, c7, c8, c9, .no, c11, .sh (.lst (intsD (places a (true :: w)))), c13, c14, c15] := by
  have hl := hg.len
  have e2 : ((gt.length : Nat) : Int) + 1 = ((gt.length + 1 : Nat) : Int) := rfl
  have hr : iRange1 (aCons (eOp2 gAdd (oVar 2) (oVal (eC (.int 1)))) aNil) [.ow true d, .sh (.str (tx (true :: gt))), .sh (.int (gt.length : Nat)), c3, c4, c5, c6, c7, c8, c9, .no, c11, .sh (.lst (intsD (places a (true :: w)))), c13, c14, c15] = .ok ((List.range (gt.length + 1)).map fun k : Nat => D.int (k : Int)) [.ow true d, .sh (.str (tx (true :: gt))), .sh (.int (gt.length : Nat)), c3, c4, c5, c6, c7, c8, c9, .no, c11, .sh (.lst (intsD (places a (true :: w)))), c13, c14, c15] := by
    refine range1_run ?_ (by omega)
    simp only [g_addI, e2, bi_ok, bi_ex, th_ok, th_ex, lo_some, de_val, de_slot, dc_sh, dc_ow, ov_e, oc_sh, oc_ow, ol_e, kl_e, ev_e, ec_sh, ec_ow, cc_e, o2_e, k2_e, k2b_e, l2_e, o1_e, k1_e, l1_e, tb_e, kb_e, ta_e, ka_t, ka_f, to_e, ko_t, ko_f, tn_e, kn_e, ea_e, ea_t, ea_f, eo_e, eo_t, eo_f, en_e, en_k, if_e, if_t, if_f, tu_e, tu_k, ls_e, ls_k, an_e, ac_e, a1_e, a2_e, sq_e, sq_nx, sq_rt, sq_ex, sn_e, io_e, io_sh, io_no, io_ow, pu_e, pu_t, nx_e, se_e, se_k, ne_e, ne_k, ne_t, re_e, re_k, dr_e, dr_k, si_e, si_t, si_f, pa_e, pa_k, ob_some, fo_e, fo_k, ra_e, ra_k, ia_e, ia_l, ia_t, ia_s, r1_e, r1_k, r2_e, r2_k, lc_e, lc_k, lc_c, ca_e, ca_k, ou_ok, ou_ex, kw_e, kw_1, kw_2, ci_e, ci_s, ci_k, ci_g, oi_ok, oi_ex, m1_e, m1_k, m2_k, m3_k, ow_e, ow_k, ix_e, ix_0, ix_1, ix_2, ix_3, ix_4, pn_e, ps_e, ps_k, sl_e, sl_1, sl_2, sl_3, sl_4, fb_e, fb_k, ch_e, ch_1, ch_2, ch_3, ch_t, ch_f, ch_4, rs_rt, rs_nx, rs_ex, ri_rt, ri_nx, ri_ex, i0_e, ir_e, ix_e0, List.getElem?_cons_zero, List.getElem?_cons_succ, List.set_cons_zero, List.set_cons_succ]
  have hd : atI (intsD (places a (true :: w))) 0 = some (.int (a : Nat)) := by
    rw [places_cons]
    unfold intsD
    rw [List.map_cons]
    exact atI_pos (k := 0) (by simp)
  rw [ints_places a (true :: gt)]
  unfold C3__law_right
  refine lc_run hr ?_ ?_ (comp_filter (k := fun k : Nat => D.int (k : Int)) (p := fun k => g0 (true :: gt) k) (h := fun k => D.int ((a + k : Nat) : Int)) _ fun k hk => ?_) ?_
  · rfl
  · rw [List.length_map, List.length_range]; omega
  · have hk' := List.mem_range.mp hk
    have hx := tx_at (l := true :: gt) (i := k) (by simpa using hk') (by simp; omega)
    have hc := ch_eq (g0 (true :: gt) k)
    refine ⟨[.ow true d, .sh (.str (tx (true :: gt))), .sh (.int (gt.length : Nat)), c3, c4, c5, c6, c7, c8, c9, .sh (.int (k : Nat)), c11, .sh (.lst (intsD (places a (true :: w)))), c13, c14, c15], [.ow true d, .sh (.str (tx (true :: gt))), .sh (.int (gt.length : Nat)), c3, c4, c5, c6, c7, c8, c9, .sh (.int (k : Nat)), c11, .sh (.lst (intsD (places a (true :: w)))), c13, c14, c15], rfl, ?_, rfl, fun _ => ⟨[.ow true d, .sh (.str (tx (true :: gt))), .sh (.int (gt.length : Nat)), c3, c4, c5, c6, c7, c8, c9, .sh (.int (k : Nat)), c11, .sh (.lst (intsD (places a (true :: w)))), c13, c14, c15], ?_, rfl⟩⟩
    · simp only [hx, g_eqS, hc, bi_ok, bi_ex, th_ok, th_ex, lo_some, de_val, de_slot, dc_sh, dc_ow, ov_e, oc_sh, oc_ow, ol_e, kl_e, ev_e, ec_sh, ec_ow, cc_e, o2_e, k2_e, k2b_e, l2_e, o1_e, k1_e, l1_e, tb_e, kb_e, ta_e, ka_t, ka_f, to_e, ko_t, ko_f, tn_e, kn_e, ea_e, ea_t, ea_f, eo_e, eo_t, eo_f, en_e, en_k, if_e, if_t, if_f, tu_e, tu_k, ls_e, ls_k, an_e, ac_e, a1_e, a2_e, sq_e, sq_nx, sq_rt, sq_ex, sn_e, io_e, io_sh, io_no, io_ow, pu_e, pu_t, nx_e, se_e, se_k, ne_e, ne_k, ne_t, re_e, re_k, dr_e, dr_k, si_e, si_t, si_f, pa_e, pa_k, ob_some, fo_e, fo_k, ra_e, ra_k, ia_e, ia_l, ia_t, ia_s, r1_e, r1_k, r2_e, r2_k, lc_e, lc_k, lc_c, ca_e, ca_k, ou_ok, ou_ex, kw_e, kw_1, kw_2, ci_e, ci_s, ci_k, ci_g, oi_ok, oi_ex, m1_e, m1_k, m2_k, m3_k, ow_e, ow_k, ix_e, ix_0, ix_1, ix_2, ix_3, ix_4, pn_e, ps_e, ps_k, sl_e, sl_1, sl_2, sl_3, sl_4, fb_e, fb_k, ch_e, ch_1, ch_2, ch_3, ch_t, ch_f, ch_4, rs_rt, rs_nx, rs_ex, ri_rt, ri_nx, ri_ex, i0_e, ir_e, ix_e0, List.getElem?_cons_zero, List.getElem?_cons_succ, List.set_cons_zero, List.set_cons_succ]
    · have e3 : ((a : Nat) : Int) + (k : Nat) = ((a + k : Nat) : Int) := rfl
      simp only [g_ixL, hd, g_addI, e3, bi_ok, bi_ex, th_ok, th_ex, lo_some, de_val, de_slot, dc_sh, dc_ow, ov_e, oc_sh, oc_ow, ol_e, kl_e, ev_e, ec_sh, ec_ow, cc_e, o2_e, k2_e, k2b_e, l2_e, o1_e, k1_e, l1_e, tb_e, kb_e, ta_e, ka_t, ka_f, to_e, ko_t, ko_f, tn_e, kn_e, ea_e, ea_t, ea_f, eo_e, eo_t, eo_f, en_e, en_k, if_e, if_t, if_f, tu_e, tu_k, ls_e, ls_k, an_e, ac_e, a1_e, a2_e, sq_e, sq_nx, sq_rt, sq_ex, sn_e, io_e, io_sh, io_no, io_ow, pu_e, pu_t, nx_e, se_e, se_k, ne_e, ne_k, ne_t, re_e, re_k, dr_e, dr_k, si_e, si_t, si_f, pa_e, pa_k, ob_some, fo_e, fo_k, ra_e, ra_k, ia_e, ia_l, ia_t, ia_s, r1_e, r1_k, r2_e, r2_k, lc_e, lc_k, lc_c, ca_e, ca_k, ou_ok, ou_ex, kw_e, kw_1, kw_2, ci_e, ci_s, ci_k, ci_g, oi_ok, oi_ex, m1_e, m1_k, m2_k, m3_k, ow_e, ow_k, ix_e, ix_0, ix_1, ix_2, ix_3, ix_4, pn_e, ps_e, ps_k, sl_e, sl_1, sl_2, sl_3, sl_4, fb_e, fb_k, ch_e, ch_1, ch_2, ch_3, ch_t, ch_f, ch_4, rs_rt, rs_nx, rs_ex, ri_rt, ri_nx, ri_ex, i0_e, ir_e, ix_e0, List.getElem?_cons_zero, List.getElem?_cons_succ, List.set_cons_zero, List.set_cons_succ]
  · rfl
theorem one_in (r : Bs) : decide (49 ∈ tx r) = !decide (r = zs r.length) := by
  have : (49 ∈ tx r) ↔ ¬ r = zs r.length := by
    unfold tx
    rw [List.mem_map]
    constructor
    · rintro ⟨b, hb, hc⟩ e
      rw [e] at hb
      rw [List.eq_of_mem_replicate hb] at hc
      cases hc
    · intro h
      apply Classical.byContradiction
      intro hn
      apply h
      unfold zs
      rw [List.eq_replicate_iff]
      refine ⟨rfl, fun b hb => ?_⟩
      cases b with
      | false => rfl
      | true => exact absurd ⟨true, hb, rfl⟩ hn
  by_cases h : r = zs r.length
  · rw [decide_eq_true h, decide_eq_false (fun z => this.mp z h)]
    rfl
  · rw [decide_eq_false h, decide_eq_true (this.mpr h)]
    rfl
/-- a change is right and moves the rest -/
theorem moved (gt T : Bs) (hz : rest gt T = zs gt.length) (ps : List Nat) : rest gt (xl T (mask T.length ps)) = rest gt (mask T.length ps) := by
  rw [rest_lin gt T _ (mask_len _ _).symm, hz, zero_xl _ _ (rest_len _ _)]
structure Okp (n : Nat) (ps : List Nat) : Prop where
  lt : ∀ p ∈ ps, p < n
  pw : ps.Pairwise (· < ·)
  len : ps.length ≤ 10000
theorem okp_sub {n : Nat} {ps : List Nat} (hn : n ≤ 10000) (h : ps.Sublist (List.range n)) : Okp n ps := ⟨fun p hp => List.mem_range.mp (h.subset hp), List.Pairwise.sublist h List.pairwise_lt_range, by have := h.length_le; rw [List.length_range] at this; omega⟩
theorem okp_places {n a : Nat} {w : Bs} (hn : n ≤ 10000) (h : a + w.length ≤ n) : Okp n (places a w) := by
  refine ⟨fun p hp => ?_, ?_, ?_⟩
  · unfold places at hp
    obtain ⟨k, hk, rfl⟩ := List.mem_map.mp hp
    have := List.mem_range.mp (List.mem_filter.mp hk).1
    omega
  · unfold places
    rw [List.pairwise_map]
    exact (List.pairwise_lt_range.filter _).imp fun {x y} h => by omega
  · unfold places
    rw [List.length_map]
    have := List.length_filter_le (fun k => g0 w k) (List.range w.length)
    rw [List.length_range] at this
    omega
theorem r_seen (d : D) (gt T : Bs) (hg : Gd gt) (hT : T.length ≤ 1000) (hz : rest gt T = zs gt.length) (p1 p2 : List Nat) (o1 : Okp T.length p1) (o2 : Okp T.length p2) (b : Bool) (c2 c3 c5 c6 c7 c8 c9 c10 c13 c15 : Cl) :
    C4__law_right [.ow true d, .sh (.str (tx (true :: gt))), c2, c3, .sh (.str (tx T)), c5, c6, c7, c8, c9, c10, .ow false (.lst (intsD p1)), .sh (.lst (intsD p2)), c13, .no, c15] =
      .ok (.lst [.bl (!decide (rest gt (mask T.length p1) = zs gt.length)), .bl (!decide (rest gt (mask T.length p2) = zs gt.length))]) [.ow true d, .sh (.str (tx (true :: gt))), c2, c3, .sh (.str (tx T)), c5, c6, c7, c8, c9, c10, .sh (.lst (intsD p1)), .sh (.lst (intsD p2)), c13, .no, c15] := by
  have h1 : iAny (eTup (aCons (eVar 11) (aCons (eVar 12) aNil))) [.ow true d, .sh (.str (tx (true :: gt))), c2, c3, .sh (.str (tx T)), c5, c6, c7, c8, c9, c10, .ow false (.lst (intsD p1)), .sh (.lst (intsD p2)), c13, .no, c15] = .ok ([p1, p2].map fun p => D.lst (intsD p)) [.ow true d, .sh (.str (tx (true :: gt))), c2, c3, .sh (.str (tx T)), c5, c6, c7, c8, c9, c10, .sh (.lst (intsD p1)), .sh (.lst (intsD p2)), c13, .no, c15] := by
    simp only [tu2, List.map_cons, List.map_nil, bi_ok, bi_ex, th_ok, th_ex, lo_some, de_val, de_slot, dc_sh, dc_ow, ov_e, oc_sh, oc_ow, ol_e, kl_e, ev_e, ec_sh, ec_ow, cc_e, o2_e, k2_e, k2b_e, l2_e, o1_e, k1_e, l1_e, tb_e, kb_e, ta_e, ka_t, ka_f, to_e, ko_t, ko_f, tn_e, kn_e, ea_e, ea_t, ea_f, eo_e, eo_t, eo_f, en_e, en_k, if_e, if_t, if_f, tu_e, tu_k, ls_e, ls_k, an_e, ac_e, a1_e, a2_e, sq_e, sq_nx, sq_rt, sq_ex, sn_e, io_e, io_sh, io_no, io_ow, pu_e, pu_t, nx_e, se_e, se_k, ne_e, ne_k, ne_t, re_e, re_k, dr_e, dr_k, si_e, si_t, si_f, pa_e, pa_k, ob_some, fo_e, fo_k, ra_e, ra_k, ia_e, ia_l, ia_t, ia_s, r1_e, r1_k, r2_e, r2_k, lc_e, lc_k, lc_c, ca_e, ca_k, ou_ok, ou_ex, kw_e, kw_1, kw_2, ci_e, ci_s, ci_k, ci_g, oi_ok, oi_ex, m1_e, m1_k, m2_k, m3_k, ow_e, ow_k, ix_e, ix_0, ix_1, ix_2, ix_3, ix_4, pn_e, ps_e, ps_k, sl_e, sl_1, sl_2, sl_3, sl_4, fb_e, fb_k, ch_e, ch_1, ch_2, ch_3, ch_t, ch_f, ch_4, rs_rt, rs_nx, rs_ex, ri_rt, ri_nx, ri_ex, i0_e, ir_e, ix_e0, List.getElem?_cons_zero, List.getElem?_cons_succ, List.set_cons_zero, List.set_cons_succ]
  unfold C4__law_right
  refine lc_run h1 ?_ ?_ (comp_map (k := fun p : List Nat => D.lst (intsD p)) (h := fun p => .bl (!decide (rest gt (mask T.length p) = zs gt.length))) [p1, p2] fun p hp => ?_) ?_
  · rfl
  · simp
  · have ho : Okp T.length p := by
      rcases List.mem_cons.mp hp with rfl | hp
      · exact o1
      · rw [List.mem_singleton.mp hp]; exact o2
    have q1 := p_changed_l p T (by omega) ho.len ho.lt ho.pw
    have hxl : (xl T (mask T.length p)).length = T.length := xl_len _ _ (mask_len _ _).symm
    have q2 := p_rest_by gt (xl T (mask T.length p)) hg (by omega)
    rw [moved gt T hz p] at q2
    have q3 := one_in (rest gt (mask T.length p))
    rw [rest_len] at q3
    refine ⟨[.ow true d, .sh (.str (tx (true :: gt))), c2, c3, .sh (.str (tx T)), c5, c6, c7, c8, c9, c10, .sh (.lst (intsD p1)), .sh (.lst (intsD p2)), c13, .sh (.lst (intsD p)), c15], [.ow true d, .sh (.str (tx (true :: gt))), c2, c3, .sh (.str (tx T)), c5, c6, c7, c8, c9, c10, .sh (.lst (intsD p1)), .sh (.lst (intsD p2)), c13, .sh (.lst (intsD p)), c15], rfl, ?_, rfl⟩
    simp only [q1, q2, g_inS, q3, bi_ok, bi_ex, th_ok, th_ex, lo_some, de_val, de_slot, dc_sh, dc_ow, ov_e, oc_sh, oc_ow, ol_e, kl_e, ev_e, ec_sh, ec_ow, cc_e, o2_e, k2_e, k2b_e, l2_e, o1_e, k1_e, l1_e, tb_e, kb_e, ta_e, ka_t, ka_f, to_e, ko_t, ko_f, tn_e, kn_e, ea_e, ea_t, ea_f, eo_e, eo_t, eo_f, en_e, en_k, if_e, if_t, if_f, tu_e, tu_k, ls_e, ls_k, an_e, ac_e, a1_e, a2_e, sq_e, sq_nx, sq_rt, sq_ex, sn_e, io_e, io_sh, io_no, io_ow, pu_e, pu_t, nx_e, se_e, se_k, ne_e, ne_k, ne_t, re_e, re_k, dr_e, dr_k, si_e, si_t, si_f, pa_e, pa_k, ob_some, fo_e, fo_k, ra_e, ra_k, ia_e, ia_l, ia_t, ia_s, r1_e, r1_k, r2_e, r2_k, lc_e, lc_k, lc_c, ca_e, ca_k, ou_ok, ou_ex, kw_e, kw_1, kw_2, ci_e, ci_s, ci_k, ci_g, oi_ok, oi_ex, m1_e, m1_k, m2_k, m3_k, ow_e, ow_k, ix_e, ix_0, ix_1, ix_2, ix_3, ix_4, pn_e, ps_e, ps_k, sl_e, sl_1, sl_2, sl_3, sl_4, fb_e, fb_k, ch_e, ch_1, ch_2, ch_3, ch_t, ch_f, ch_4, rs_rt, rs_nx, rs_ex, ri_rt, ri_nx, ri_ex, i0_e, ir_e, ix_e0, List.getElem?_cons_zero, List.getElem?_cons_succ, List.set_cons_zero, List.set_cons_succ]
  · rfl
end T76

set_option Elab.async false
set_option linter.all false
set_option maxRecDepth 100000
set_option maxHeartbeats 8000000
/-! P76f: a right turn. -/
namespace T76
open PySem PySem.Spec PyProof.Rows L2 DV Crc
def stA (T : Ds → SO) : Ds → SO := (sSeq (sSet 1 (eCallI 0 G__law_guard aNil)) (sSeq (sSet 2 (eOp2 gSub (oVal (eOp1 gLen (oVar 1))) (oVal (eC (.int 1))))) (sSeq (sSet 3 (eCallI 0 G__law_bits (aCons (eCallI 0 G__law_pick (aCons (eLst (aCons (eC (.int 0)) (aCons (eC (.int 1)) (aCons (eVar 2) (aCons (eOp2 gAdd (oVar 2) (oVal (eC (.int 1)))) (aCons (eC (.int 40)) (aCons (eCallI 0 G__law_draw (aCons (eC (.int 90)) aNil)) aNil))))))) aNil)) aNil))) (sSeq (sIf (tOrD (tBl (eOp2 gNe (oVal (eCall G_rest_by (aCons (eVar 1) (aCons (eVar 3) aNil)))) (oVal (eCall G__law_rest (aCons (eVar 3) (aCons (eVar 1) aNil)))))) (tBl (eOp2 gNe (oVal (eCallK G_with_guard (eVar 3) (eVar 1))) (oVal (eCall G__law_with_guard (aCons (eVar 3) (aCons (eVar 1) aNil))))))) (sRet (eC (.bl false))) sNext) (sSeq (sSet 4 (eCall G_with_guard (aCons (eVar 1) (aCons (eOp2 gAdd (oVar 3) (oVal (eC (.str [49])))) aNil)))) (sSeq (sIf (tOrD (tBl (eOp2 gNe (oVal (eCall G_rest_by (aCons (eVar 1) (aCons (eVar 4) aNil)))) (oVal (eOp2 gMul (oVal (eC (.str [48]))) (oVar 2))))) (tBl (eOp2 gNe (oVal (eOp1 gLen (oVar 4))) (oVal (eOp2 gAdd (oVal (eOp2 gAdd (oVal (eOp1 gLen (oVar 3))) (oVal (eC (.int 1))))) (oVar 2)))))) (sRet (eC (.bl false))) sNext) T))))))
def stB (T : Ds → SO) : Ds → SO := (sSeq (sSet 6 (eOp1 gSorted (oVal C1__law_right))) (sSeq (sSet 7 (eOp2 gMul (oVal (eC (.str [48]))) (oVal (eOp1 gLen (oVar 4))))) (sSeq (sSet 8 (eCall G_changed (aCons (eVar 4) (aCons (eOp1 gTuple (oVar 6)) aNil)))) (sSeq (sIf (tOrD (tBl (eOp2 gNe (oVar 8) (oVal (eCall G__law_change (aCons (eVar 4) (aCons (eVar 6) aNil)))))) (tBl (eOp2 gNe (oVal (eCall G_rest_by (aCons (eVar 1) (aCons (eVar 8) aNil)))) (oVal (eCall G_rest_by (aCons (eVar 1) (aCons (eCall G_changed (aCons (eVar 7) (aCons (eVar 6) aNil))) aNil))))))) (sRet (eC (.bl false))) sNext) (sSeq (sIf (tBl (eOp2 gNe (oVal (eCall G_rest_by (aCons (eVar 1) (aCons (eCall G__law_change (aCons (eOp2 gAdd (oVar 3) (oVal (eC (.str [49])))) (aCons (eLst (aCons (eC (.int 0)) aNil)) aNil))) aNil)))) (oVal (eCall G__law_sum (aCons (eCall G_rest_by (aCons (eVar 1) (aCons (eOp2 gAdd (oVar 3) (oVal (eC (.str [49])))) aNil))) (aCons (eCall G_rest_by (aCons (eVar 1) (aCons (eOp2 gAdd (oVal (eC (.str [49]))) (oVal (eOp2 gMul (oVal (eC (.str [48]))) (oVal (eOp1 gLen (oVar 3)))))) aNil))) aNil)))))) (sRet (eC (.bl false))) sNext) T)))))
def stC : Ds → SO := (sSeq (sSet 9 (eCallI 0 G__law_places (aCons (eOp1 gLen (oVar 4)) (aCons (eVar 2) aNil)))) (sSeq (sIf (tOrD (tBl (eOp2 gNe (oVal (eCallK G_changed (eVar 9) (eVar 4))) (oVal (eCall G__law_change (aCons (eVar 4) (aCons (eVar 9) aNil)))))) (tBl (eOp2 gNotIn (oVal (eC (.str [49]))) (oVal (eCall G_rest_by (aCons (eVar 1) (aCons (eCall G_changed (aCons (eVar 4) (aCons (eVar 9) aNil))) aNil))))))) (sRet (eC (.bl false))) sNext) (sSeq (sSet 5 (eCallI 0 G__law_draw (aCons (eOp2 gSub (oVal (eOp1 gLen (oVar 4))) (oVar 2)) aNil))) (sSeq (sNew 11 C2__law_right) (sSeq (sSet 12 (eCallI 0 G__law_places (aCons (eOp1 gLen (oVar 4)) (aCons (eOp2 gAdd (oVar 2) (oVal (eC (.int 1)))) aNil)))) (sSeq (sSet 13 (eOp2 gEq (oVar 12) (oVal C3__law_right))) (sSeq (sNew 15 C4__law_right) (sRet (eAndD (eOp2 gEq (oVar 15) (oVal (eLst (aCons (eC (.bl false)) (aCons (eNotD (eVar 13)) aNil))))) (eCallI 0 G__law_refused (aCons (eVar 1) (aCons (eVar 4) aNil))))))))))))
theorem st_eq : b__law_right = stA (stB stC) := rfl
theorem mulz (n : Nat) (h : n ≤ 1000) : gMul (.str [48]) (.int (n : Nat)) = some (.str (tx (zs n))) := by
  rw [g_mulS ⟨by omega, by omega, by simp; omega⟩, Int.toNat_natCast, flat48, tx_zs]
theorem last1 {gt : Bs} (hg : Gd gt) : g0 (true :: gt) gt.length = true := by
  have h1 := hg.last
  have h2 := hg.pos
  rw [List.getLast?_eq_getElem?] at h1
  unfold g0
  rw [List.getD_eq_getElem?_getD, show gt.length = (gt.length - 1) + 1 from by omega, List.getElem?_cons_succ, h1]
  rfl
theorem places_inj {a : Nat} {x y : Bs} (h : x.length = y.length) (e : places a x = places a y) : x = y := by
  have h1 := mask_places (n := a + x.length) (a := a) (w := x) (Nat.le_refl _)
  have h2 := mask_places (n := a + x.length) (a := a) (w := y) (by omega)
  rw [e, h2, ← h] at h1
  have := List.append_cancel_right h1
  exact (List.append_cancel_left this).symm
theorem wide_iff {gt w : Bs} (hg : Gd gt) {n a : Nat} (hw : w.length + 1 = min (gt.length + 1) (n - a)) (ha : a < n) : (rest gt (mask n (places a (true :: w))) = zs gt.length) ↔ places a (true :: w) = places a (true :: gt) := by
  rw [mask_places (by rw [List.length_cons]; omega)]
  by_cases h : w.length = gt.length
  · rw [rest_wide hg.last w _ _ h]
    constructor
    · intro e; rw [e]
    · intro e
      exact (List.cons.inj (places_inj (by simp [h]) e)).2
  · constructor
    · intro e
      exact absurd e (rest_burst hg.last w _ _ (by rw [List.length_cons]; omega))
    · intro e
      exfalso
      have hm : a + gt.length ∈ places a (true :: gt) := by
        unfold places
        refine List.mem_map.mpr ⟨gt.length, List.mem_filter.mpr ⟨List.mem_range.mpr (by simp), last1 hg⟩, rfl⟩
      rw [← e] at hm
      unfold places at hm
      obtain ⟨k, hk, hk2⟩ := List.mem_map.mp hm
      have := List.mem_range.mp (List.mem_filter.mp hk).1
      rw [List.length_cons] at this
      omega
theorem deqs_ints : ∀ a b : List Nat, deqs (intsD a) (intsD b) = decide (a = b)
  | [], [] => rfl
  | [], _ :: _ => rfl
  | _ :: _, [] => rfl
  | x :: a, y :: b => by
    have ih := deqs_ints a b
    show ((((x : Nat) : Int) == (y : Nat)) && deqs (intsD a) (intsD b)) = _
    rw [ih]
    by_cases h : x = y
    · subst h; simp
    · have : (((x : Nat) : Int) == (y : Nat)) = false := beq_eq_false_iff_ne.mpr (by omega)
      rw [this]
      simp [h]
theorem doks_intsD : ∀ (ns : List Nat) (n : Nat), doks (intsD ns) n = true
  | [], _ => rfl
  | i :: r, n => by
    show (dok (.int (i : Nat)) n && doks (intsD r) n) = true
    rw [doks_intsD r n]
    simp [dok]
theorem eq_ints (a b : List Nat) : gEq (.lst (intsD a)) (.lst (intsD b)) = some (.bl (decide (a = b))) := by
  have h1 : dok (.lst (intsD a)) 60 = true := doks_intsD a 59
  have h2 : dok (.lst (intsD b)) 60 = true := doks_intsD b 59
  have h3 : deq (.lst (intsD a)) (.lst (intsD b)) = decide (a = b) := by
    rw [← deqs_ints]
    simp [deq]
  unfold gEq
  dsimp only
  rw [h1, h2, h3]
  rfl
theorem eq_bls (x : Bool) : gEq (.lst [.bl false, .bl x]) (.lst [.bl false, .bl x]) = some (.bl true) := by cases x <;> rfl
theorem sorted_ints (ps : List Nat) (h : ps.Pairwise (· < ·)) : gSorted (.lst (intsD ps)) = some (.lst (intsD ps)) := by
  have h1 := g_sorted (ps.map fun p : Nat => (p : Int))
  rw [sortI_of (by rw [List.pairwise_map]; exact h.imp fun {x y} h => by omega), List.map_map] at h1
  exact h1
theorem g_notIn1 (r : Bs) : gNotIn (.str [49]) (.str (tx r)) = some (.bl (decide (r = zs r.length))) := by
  show some (D.bl (!decide (49 ∈ tx r))) = _
  rw [one_in, Bool.not_not]
theorem mask0 (k : Nat) : mask (k + 1) [0] = true :: zs k := by
  unfold mask zs
  rw [List.range_succ_eq_map, List.map_cons, List.map_map]
  congr 1
  rw [List.eq_replicate_iff]
  refine ⟨by simp, fun b hb => ?_⟩
  obtain ⟨j, _, rfl⟩ := List.mem_map.mp hb
  simp
theorem stC_run {B : Nat} {d : D} (gt T : Bs) (hg : Gd gt) (k : Nat) (hT : T.length = k + 1 + gt.length) (hk : k ≤ 100) (hz : rest gt T = zs gt.length) (h : Pen B d) (hB : B + 100 ≤ 1000000) (c3 c6 c7 c8 : Cl) :
    ∃ (d' : D), resI (stC [.ow true d, .sh (.str (tx (true :: gt))), .sh (.int (gt.length : Nat)), c3, .sh (.str (tx T)), .no, c6, c7, c8, .no, .no, .no, .no, .no, .no, .no]) = .ok (.bl true) d' ∧ Pen (B + 100) d' := by
  have hl := hg.len
  have hp := hg.pos
  have l3 := len_tx T (by omega)
  obtain ⟨a1, w1, d1, e1, ha1, hw1, hp1⟩ := p_places T.length gt.length h (by omega) (by omega) (by omega) (by omega) (by omega)
  obtain ⟨b, d2, e2, hb, hp2⟩ := p_draw (many := k + 1) hp1 (by omega) (by omega) (by omega)
  obtain ⟨a3, w3, d3, e3, ha3, hw3, hp3⟩ := p_places T.length (gt.length + 1) hp2 (by omega) (by omega) (by omega) (by omega) (by omega)
  obtain ⟨d4, e4, hp4⟩ := p_law_refused gt T hg (by omega) (by omega) hp3 (by omega)
  have o1 := okp_places (n := T.length) (a := a1) (w := true :: w1) (by omega) (by rw [List.length_cons]; omega)
  have o2 := okp_places (n := T.length) (a := b) (w := true :: gt) (by omega) (by rw [List.length_cons]; omega)
  have o3 := okp_places (n := T.length) (a := a3) (w := true :: w3) (by omega) (by rw [List.length_cons]; omega)
  have q1 := p_changed_l _ T (by omega) o1.len o1.lt o1.pw
  have q2 := p_law_change (places a1 (true :: w1)) T (by omega)
  have hxl : (xl T (mask T.length (places a1 (true :: w1)))).length = T.length := xl_len _ _ (mask_len _ _).symm
  have q3 := p_rest_by gt (xl T (mask T.length (places a1 (true :: w1)))) hg (by omega)
  rw [moved gt T hz] at q3
  have q4 := g_notIn1 (rest gt (mask T.length (places a1 (true :: w1))))
  rw [rest_len, decide_eq_false (by rw [mask_places (by rw [List.length_cons]; omega)]; exact rest_burst hg.last w1 _ _ (by rw [List.length_cons]; omega))] at q4
  have q5 : ((T.length : Nat) : Int) - (gt.length : Nat) = ((k + 1 : Nat) : Int) := by omega
  have q6 : ((gt.length : Nat) : Int) + 1 = ((gt.length + 1 : Nat) : Int) := rfl
  have q7 := fun c3 c4 c6 c7 c8 c9 c11 c12 c13 c14 c15 => r_laid d2 gt hg b c3 c4 c6 c7 c8 c9 c11 c12 c13 c14 c15
  have q8 := fun c3 c4 c5 c6 c7 c8 c9 c11 c13 c14 c15 => r_wide d3 gt w3 hg a3 c3 c4 c5 c6 c7 c8 c9 c11 c13 c14 c15
  have q9 := eq_ints (places a3 (true :: w3)) (places a3 (true :: gt))
  have q10 := fun c2 c3 c5 c6 c7 c8 c9 c10 c13 c15 => r_seen d3 gt T hg (by omega) hz _ _ o2 o3 true c2 c3 c5 c6 c7 c8 c9 c10 c13 c15
  have hlaid : rest gt (mask T.length (places b (true :: gt))) = zs gt.length := by
    rw [mask_places (by rw [List.length_cons]; omega)]
    exact rest_laid gt hg.ne _ _
  have hwide : decide (rest gt (mask T.length (places a3 (true :: w3))) = zs gt.length) = decide (places a3 (true :: w3) = places a3 (true :: gt)) := decide_eq_decide.mpr (wide_iff hg hw3 ha3)
  rw [decide_eq_true hlaid, hwide] at q10
  refine ⟨d4, ?_, hp4.mono (by omega)⟩
  simp only [stC, l3, e1, q1, q2, q3, q4, g_neS, beq_self_eq_true, Bool.not_true, g_sub, q5, e2, q7, g_addI, q6, e3, q8, q9, q10, eq_bls, e4, ls2, bi_ok, bi_ex, th_ok, th_ex, lo_some, de_val, de_slot, dc_sh, dc_ow, ov_e, oc_sh, oc_ow, ol_e, kl_e, ev_e, ec_sh, ec_ow, cc_e, o2_e, k2_e, k2b_e, l2_e, o1_e, k1_e, l1_e, tb_e, kb_e, ta_e, ka_t, ka_f, to_e, ko_t, ko_f, tn_e, kn_e, ea_e, ea_t, ea_f, eo_e, eo_t, eo_f, en_e, en_k, if_e, if_t, if_f, tu_e, tu_k, ls_e, ls_k, an_e, ac_e, a1_e, a2_e, sq_e, sq_nx, sq_rt, sq_ex, sn_e, io_e, io_sh, io_no, io_ow, pu_e, pu_t, nx_e, se_e, se_k, ne_e, ne_k, ne_t, re_e, re_k, dr_e, dr_k, si_e, si_t, si_f, pa_e, pa_k, ob_some, fo_e, fo_k, ra_e, ra_k, ia_e, ia_l, ia_t, ia_s, r1_e, r1_k, r2_e, r2_k, lc_e, lc_k, lc_c, ca_e, ca_k, ou_ok, ou_ex, kw_e, kw_1, kw_2, ci_e, ci_s, ci_k, ci_g, oi_ok, oi_ex, m1_e, m1_k, m2_k, m3_k, ow_e, ow_k, ix_e, ix_0, ix_1, ix_2, ix_3, ix_4, pn_e, ps_e, ps_k, sl_e, sl_1, sl_2, sl_3, sl_4, fb_e, fb_k, ch_e, ch_1, ch_2, ch_3, ch_t, ch_f, ch_4, rs_rt, rs_nx, rs_ex, ri_rt, ri_nx, ri_ex, i0_e, ir_e, ix_e0, List.getElem?_cons_zero, List.getElem?_cons_succ, List.set_cons_zero, List.set_cons_succ]
end T76

set_option Elab.async false
set_option linter.all false
set_option maxRecDepth 100000
set_option maxHeartbeats 8000000
/-! P76g: the law. -/
namespace T76
open PySem PySem.Spec PyProof.Rows L2 DV Crc
theorem stB_run {B : Nat} {d : D} (gt m T : Bs) (hg : Gd gt) (hT : T.length ≤ 200) (hm : m.length ≤ 100) (hz : rest gt T = zs gt.length) (h : Pen B d) (hB : B + 200 ≤ 1000000) :
    ∃ (ps : List Nat) (d' : D) (c6 c7 c8 : Cl), (∀ W : Ds → SO, stB W [.ow true d, .sh (.str (tx (true :: gt))), .sh (.int (gt.length : Nat)), .sh (.str (tx m)), .sh (.str (tx T)), .no, .no, .no, .no, .no, .no, .no, .no, .no, .no, .no] =
      W [.ow true d', .sh (.str (tx (true :: gt))), .sh (.int (gt.length : Nat)), .sh (.str (tx m)), .sh (.str (tx T)), .no, c6, c7, c8, .no, .no, .no, .no, .no, .no, .no]) ∧ Pen (B + 200) d' := by
  have hl := hg.len
  have hp := hg.pos
  obtain ⟨ps, d', e, hs, hp'⟩ := r_sel T hT h hB (.sh (.str (tx (true :: gt)))) (.sh (.int (gt.length : Nat))) (.sh (.str (tx m))) .no .no .no .no .no .no .no .no .no .no
  have o := okp_sub (by omega) hs
  have l3 := len_tx T (by omega)
  have l4 := len_tx m (by omega)
  have q1 := sorted_ints ps o.pw
  have q2 := mulz T.length (by omega)
  have q3 := p_changed_t ps T (by omega) o.len o.lt o.pw
  have q4 := p_law_change ps T (by omega)
  have hxl : (xl T (mask T.length ps)).length = T.length := xl_len _ _ (mask_len _ _).symm
  have q5 := p_rest_by gt (xl T (mask T.length ps)) hg (by omega)
  rw [moved gt T hz] at q5
  have q6 := p_changed_l ps (zs T.length) (by simp [zs]; omega) o.len (by simpa [zs] using o.lt) o.pw
  have zl : (zs T.length).length = T.length := by simp [zs]
  rw [zl, zero_xl _ _ (mask_len _ _)] at q6
  have q7 := p_rest_by gt (mask T.length ps) hg (by rw [mask_len]; omega)
  have q8 : gAdd (.str (tx m)) (.str [49]) = some (.str (tx (m ++ [true]))) := by
    rw [g_addS (by rw [tx_len]; simp; omega), tx_app]
    rfl
  have ml : (m ++ [true]).length = m.length + 1 := by simp
  have q9 : G__law_change [.str (tx (m ++ [true])), .lst [.int 0]] = .ok (.str (tx (xl (m ++ [true]) (mask (m ++ [true]).length [0])))) := p_law_change [0] (m ++ [true]) (by omega)
  rw [ml, mask0] at q9
  have h1 : (m ++ [true]).length = (true :: zs m.length).length := by simp [zs]
  have q10 := p_rest_by gt (xl (m ++ [true]) (true :: zs m.length)) hg (by rw [xl_len _ _ h1]; omega)
  rw [rest_lin gt _ _ h1] at q10
  have q11 := p_rest_by gt (m ++ [true]) hg (by omega)
  have q12 := p_rest_by gt (true :: zs m.length) hg (by rw [← h1]; omega)
  have q13 := p_law_sum (rest gt (m ++ [true])) (rest gt (true :: zs m.length)) (by rw [rest_len, rest_len]) (by rw [rest_len]; omega)
  have q14 := mulz m.length (by omega)
  have q15 : gAdd (.str [49]) (.str (tx (zs m.length))) = some (.str (tx (true :: zs m.length))) := by
    rw [g_addS (by rw [tx_len]; simp [zs]; omega)]
    rfl
  refine ⟨ps, d', .sh (.lst (intsD ps)), .sh (.str (tx (zs T.length))), .sh (.str (tx (xl T (mask T.length ps)))), fun W => ?_, hp'⟩
  simp only [stB, e, q1, l3, l4, q2, g_tupL, q3, q4, q5, q6, q7, q8, ls1, q9, q10, q11, q12, q13, q14, q15, g_neS, beq_self_eq_true, Bool.not_true, bi_ok, bi_ex, th_ok, th_ex, lo_some, de_val, de_slot, dc_sh, dc_ow, ov_e, oc_sh, oc_ow, ol_e, kl_e, ev_e, ec_sh, ec_ow, cc_e, o2_e, k2_e, k2b_e, l2_e, o1_e, k1_e, l1_e, tb_e, kb_e, ta_e, ka_t, ka_f, to_e, ko_t, ko_f, tn_e, kn_e, ea_e, ea_t, ea_f, eo_e, eo_t, eo_f, en_e, en_k, if_e, if_t, if_f, tu_e, tu_k, ls_e, ls_k, an_e, ac_e, a1_e, a2_e, sq_e, sq_nx, sq_rt, sq_ex, sn_e, io_e, io_sh, io_no, io_ow, pu_e, pu_t, nx_e, se_e, se_k, ne_e, ne_k, ne_t, re_e, re_k, dr_e, dr_k, si_e, si_t, si_f, pa_e, pa_k, ob_some, fo_e, fo_k, ra_e, ra_k, ia_e, ia_l, ia_t, ia_s, r1_e, r1_k, r2_e, r2_k, lc_e, lc_k, lc_c, ca_e, ca_k, ou_ok, ou_ex, kw_e, kw_1, kw_2, ci_e, ci_s, ci_k, ci_g, oi_ok, oi_ex, m1_e, m1_k, m2_k, m3_k, ow_e, ow_k, ix_e, ix_0, ix_1, ix_2, ix_3, ix_4, pn_e, ps_e, ps_k, sl_e, sl_1, sl_2, sl_3, sl_4, fb_e, fb_k, ch_e, ch_1, ch_2, ch_3, ch_t, ch_f, ch_4, rs_rt, rs_nx, rs_ex, ri_rt, ri_nx, ri_ex, i0_e, ir_e, ix_e0, List.getElem?_cons_zero, List.getElem?_cons_succ, List.set_cons_zero, List.set_cons_succ]
theorem stA_run {B : Nat} {d : D} (h : Pen B d) (hB : B + 300 ≤ 1000000) :
    ∃ (gt m T : Bs) (d' : D), (∀ W : Ds → SO, stA W [.ow true d, .no, .no, .no, .no, .no, .no, .no, .no, .no, .no, .no, .no, .no, .no, .no] =
      W [.ow true d', .sh (.str (tx (true :: gt))), .sh (.int (gt.length : Nat)), .sh (.str (tx m)), .sh (.str (tx T)), .no, .no, .no, .no, .no, .no, .no, .no, .no, .no, .no]) ∧ Pen (B + 300) d' ∧ Gd gt ∧ m.length ≤ 100 ∧ T.length = m.length + 1 + gt.length ∧ rest gt T = zs gt.length := by
  obtain ⟨gt, d1, e1, hg, hp1⟩ := p_guard h (by omega)
  have hl := hg.len
  have hp := hg.pos
  obtain ⟨r, d2, e2, hr, hp2⟩ := p_draw (many := 90) hp1 (by omega) (by omega) (by omega)
  obtain ⟨i, hi, d3, e3, hp3⟩ := p_pick (xs := [.int 0, .int 1, .int (gt.length : Nat), .int ((gt.length + 1 : Nat) : Int), .int 40, .int (r : Nat)]) hp2 (by omega) (by simp) (by simp)
  have hx : ∀ x ∈ ([.int 0, .int 1, .int (gt.length : Nat), .int ((gt.length + 1 : Nat) : Int), .int 40, .int (r : Nat)] : List D), ∃ n : Nat, x = .int (n : Nat) ∧ n ≤ 90 := by
    intro x hx
    simp only [List.mem_cons, List.not_mem_nil, or_false] at hx
    rcases hx with rfl | rfl | rfl | rfl | rfl | rfl
    · exact ⟨0, rfl, by omega⟩
    · exact ⟨1, rfl, by omega⟩
    · exact ⟨_, rfl, by omega⟩
    · exact ⟨_, rfl, by omega⟩
    · exact ⟨40, rfl, by omega⟩
    · exact ⟨_, rfl, by omega⟩
  obtain ⟨n, hn, hn2⟩ := hx _ (List.getElem_mem hi)
  rw [hn] at e3
  obtain ⟨m, d4, e4, hm, hp4⟩ := p_bits n hp3 (by omega) (by omega)
  have e2' : G__law_draw d1 [.int 90] = .ok (.int (r : Nat)) d2 := e2
  have l1 := len_tx (true :: gt) (by simp; omega)
  have l2 : (((true :: gt).length : Nat) : Int) - 1 = (gt.length : Nat) := by simp
  have q0 : ((gt.length : Nat) : Int) + 1 = ((gt.length + 1 : Nat) : Int) := rfl
  have q1 := p_rest_by gt m hg (by omega)
  have q2 := p_law_rest gt m hg (by omega)
  have q3 := p_with_guard gt m hg (by omega)
  have q4 := p_law_with_guard gt m hg (by omega)
  have q5 : gAdd (.str (tx m)) (.str [49]) = some (.str (tx (m ++ [true]))) := by
    rw [g_addS (by rw [tx_len]; simp; omega), tx_app]
    rfl
  have q6 := p_with_guard gt (m ++ [true]) hg (by simp; omega)
  have hz := rest_guarded gt (m ++ [true])
  have hT : ((m ++ [true]) ++ rest gt ((m ++ [true]) ++ zs gt.length)).length = m.length + 1 + gt.length := by
    rw [List.length_append, rest_len]
    simp
  generalize (m ++ [true]) ++ rest gt ((m ++ [true]) ++ zs gt.length) = T at *
  have q7 := p_rest_by gt T hg (by omega)
  rw [hz] at q7
  have q8 := mulz gt.length (by omega)
  have l3 := len_tx T (by omega)
  have l4 := len_tx m (by omega)
  have q9 : (((T.length : Nat) : Int) == (m.length : Nat) + 1 + (gt.length : Nat)) = true := beq_iff_eq.mpr (by omega)
  refine ⟨gt, m, T, d4, fun W => ?_, hp4.mono (by omega), hg, by omega, hT, hz⟩
  simp only [stA, e1, l1, g_sub, l2, g_addI, q0, e2', ls6, e3, e4, q1, q2, q3, q4, q5, q6, q7, q8, l3, l4, g_neI, q9, g_neS, beq_self_eq_true, Bool.not_true, bi_ok, bi_ex, th_ok, th_ex, lo_some, de_val, de_slot, dc_sh, dc_ow, ov_e, oc_sh, oc_ow, ol_e, kl_e, ev_e, ec_sh, ec_ow, cc_e, o2_e, k2_e, k2b_e, l2_e, o1_e, k1_e, l1_e, tb_e, kb_e, ta_e, ka_t, ka_f, to_e, ko_t, ko_f, tn_e, kn_e, ea_e, ea_t, ea_f, eo_e, eo_t, eo_f, en_e, en_k, if_e, if_t, if_f, tu_e, tu_k, ls_e, ls_k, an_e, ac_e, a1_e, a2_e, sq_e, sq_nx, sq_rt, sq_ex, sn_e, io_e, io_sh, io_no, io_ow, pu_e, pu_t, nx_e, se_e, se_k, ne_e, ne_k, ne_t, re_e, re_k, dr_e, dr_k, si_e, si_t, si_f, pa_e, pa_k, ob_some, fo_e, fo_k, ra_e, ra_k, ia_e, ia_l, ia_t, ia_s, r1_e, r1_k, r2_e, r2_k, lc_e, lc_k, lc_c, ca_e, ca_k, ou_ok, ou_ex, kw_e, kw_1, kw_2, ci_e, ci_s, ci_k, ci_g, oi_ok, oi_ex, m1_e, m1_k, m2_k, m3_k, ow_e, ow_k, ix_e, ix_0, ix_1, ix_2, ix_3, ix_4, pn_e, ps_e, ps_k, sl_e, sl_1, sl_2, sl_3, sl_4, fb_e, fb_k, ch_e, ch_1, ch_2, ch_3, ch_t, ch_f, ch_4, rs_rt, rs_nx, rs_ex, ri_rt, ri_nx, ri_ex, i0_e, ir_e, ix_e0, List.getElem?_cons_zero, List.getElem?_cons_succ, List.set_cons_zero, List.set_cons_succ]
theorem p_law_right {B : Nat} {d : D} (h : Pen B d) (hB : B + 600 ≤ 1000000) : ∃ d', G__law_right d [] = .ok (.bl true) d' ∧ Pen (B + 600) d' := by
  obtain ⟨gt, m, T, d1, e1, hp1, hg, hm, hT, hz⟩ := stA_run h (by omega)
  have hl := hg.len
  obtain ⟨ps, d2, c6, c7, c8, e2, hp2⟩ := stB_run gt m T hg (by omega) hm hz hp1 (by omega)
  obtain ⟨d3, e3, hp3⟩ := stC_run gt T hg m.length hT hm hz hp2 (by omega) (.sh (.str (tx m))) c6 c7 c8
  refine ⟨d3, ?_, hp3⟩
  rw [show G__law_right d [] = resI (b__law_right (startI N__law_right d [])) from mkI_e rfl, show startI N__law_right d [] = [.ow true d, .no, .no, .no, .no, .no, .no, .no, .no, .no, .no, .no, .no, .no, .no, .no] from rfl, st_eq, e1, e2]
  exact e3
theorem p_law_pen (ns : List Int) : ∃ d, G__law_pen [.scr (ns.map .int)] = .ok d ∧ Pen 0 d := by
  refine ⟨.lst [.lst ((ns.take 62).map .int), .int 0, .int 0], ?_, ns.take 62, 0, 0, rfl, Nat.le_refl _, by rw [List.length_take]; omega⟩
  have hcut : DV.cutD (ns.map D.int) none (some 62) = (ns.take 62).map .int := by
    unfold DV.cutD
    rw [HT.sIx_none, show (some 62 : Option Int) = some ((62 : Nat) : Int) from rfl, HT.sIx_nat, List.drop_zero, List.length_map, Nat.sub_zero, List.map_take]
    rw [← List.take_take, List.take_of_length_le (l := List.map D.int ns) (i := ns.length) (by simp)]
  have hs : gSl (.scr (ns.map .int)) none (some 62) = some (.lst ((ns.take 62).map .int)) := by
    show some (D.lst (DV.cutD (ns.map .int) none (some 62))) = _
    rw [hcut]
  have hi : iAny (eSl (oVar 0) pNone (pSome (eC (.int 62)))) [.sh (.scr (ns.map .int)), .no] = .ok ((ns.take 62).map .int) [.sh (.scr (ns.map .int)), .no] := by
    simp only [hs, bi_ok, bi_ex, th_ok, th_ex, lo_some, de_val, de_slot, dc_sh, dc_ow, ov_e, oc_sh, oc_ow, ol_e, kl_e, ev_e, ec_sh, ec_ow, cc_e, o2_e, k2_e, k2b_e, l2_e, o1_e, k1_e, l1_e, tb_e, kb_e, ta_e, ka_t, ka_f, to_e, ko_t, ko_f, tn_e, kn_e, ea_e, ea_t, ea_f, eo_e, eo_t, eo_f, en_e, en_k, if_e, if_t, if_f, tu_e, tu_k, ls_e, ls_k, an_e, ac_e, a1_e, a2_e, sq_e, sq_nx, sq_rt, sq_ex, sn_e, io_e, io_sh, io_no, io_ow, pu_e, pu_t, nx_e, se_e, se_k, ne_e, ne_k, ne_t, re_e, re_k, dr_e, dr_k, si_e, si_t, si_f, pa_e, pa_k, ob_some, fo_e, fo_k, ra_e, ra_k, ia_e, ia_l, ia_t, ia_s, r1_e, r1_k, r2_e, r2_k, lc_e, lc_k, lc_c, ca_e, ca_k, ou_ok, ou_ex, kw_e, kw_1, kw_2, ci_e, ci_s, ci_k, ci_g, oi_ok, oi_ex, m1_e, m1_k, m2_k, m3_k, ow_e, ow_k, ix_e, ix_0, ix_1, ix_2, ix_3, ix_4, pn_e, ps_e, ps_k, sl_e, sl_1, sl_2, sl_3, sl_4, fb_e, fb_k, ch_e, ch_1, ch_2, ch_3, ch_t, ch_f, ch_4, rs_rt, rs_nx, rs_ex, ri_rt, ri_nx, ri_ex, i0_e, ir_e, ix_e0, List.getElem?_cons_zero, List.getElem?_cons_succ, List.set_cons_zero, List.set_cons_succ]
  have hc : C1__law_pen [.sh (.scr (ns.map .int)), .no] = .ok (.lst ((ns.take 62).map .int)) [.sh (.scr (ns.map .int)), .no] := by
    unfold C1__law_pen
    refine lc_run hi ?_ ?_ (comp_map (k := fun i : Int => D.int i) (h := fun i => D.int i) _ fun i hi => ⟨[.sh (.scr (ns.map .int)), .sh (.int i)], [.sh (.scr (ns.map .int)), .sh (.int i)], rfl, ?_, rfl⟩) ?_
    · rfl
    · rw [List.length_map, List.length_take]; omega
    · simp only [g_intI, bi_ok, bi_ex, th_ok, th_ex, lo_some, de_val, de_slot, dc_sh, dc_ow, ov_e, oc_sh, oc_ow, ol_e, kl_e, ev_e, ec_sh, ec_ow, cc_e, o2_e, k2_e, k2b_e, l2_e, o1_e, k1_e, l1_e, tb_e, kb_e, ta_e, ka_t, ka_f, to_e, ko_t, ko_f, tn_e, kn_e, ea_e, ea_t, ea_f, eo_e, eo_t, eo_f, en_e, en_k, if_e, if_t, if_f, tu_e, tu_k, ls_e, ls_k, an_e, ac_e, a1_e, a2_e, sq_e, sq_nx, sq_rt, sq_ex, sn_e, io_e, io_sh, io_no, io_ow, pu_e, pu_t, nx_e, se_e, se_k, ne_e, ne_k, ne_t, re_e, re_k, dr_e, dr_k, si_e, si_t, si_f, pa_e, pa_k, ob_some, fo_e, fo_k, ra_e, ra_k, ia_e, ia_l, ia_t, ia_s, r1_e, r1_k, r2_e, r2_k, lc_e, lc_k, lc_c, ca_e, ca_k, ou_ok, ou_ex, kw_e, kw_1, kw_2, ci_e, ci_s, ci_k, ci_g, oi_ok, oi_ex, m1_e, m1_k, m2_k, m3_k, ow_e, ow_k, ix_e, ix_0, ix_1, ix_2, ix_3, ix_4, pn_e, ps_e, ps_k, sl_e, sl_1, sl_2, sl_3, sl_4, fb_e, fb_k, ch_e, ch_1, ch_2, ch_3, ch_t, ch_f, ch_4, rs_rt, rs_nx, rs_ex, ri_rt, ri_nx, ri_ex, i0_e, ir_e, ix_e0, List.getElem?_cons_zero, List.getElem?_cons_succ, List.set_cons_zero, List.set_cons_succ]
    · rfl
  have hg : g__law_pen [.sh (.scr (ns.map .int)), .no] = .ok (.lst [.lst ((ns.take 62).map .int), .int 0, .int 0]) [.sh (.scr (ns.map .int)), .no] := by
    simp only [g__law_pen, hc, ls3, bi_ok, bi_ex, th_ok, th_ex, lo_some, de_val, de_slot, dc_sh, dc_ow, ov_e, oc_sh, oc_ow, ol_e, kl_e, ev_e, ec_sh, ec_ow, cc_e, o2_e, k2_e, k2b_e, l2_e, o1_e, k1_e, l1_e, tb_e, kb_e, ta_e, ka_t, ka_f, to_e, ko_t, ko_f, tn_e, kn_e, ea_e, ea_t, ea_f, eo_e, eo_t, eo_f, en_e, en_k, if_e, if_t, if_f, tu_e, tu_k, ls_e, ls_k, an_e, ac_e, a1_e, a2_e, sq_e, sq_nx, sq_rt, sq_ex, sn_e, io_e, io_sh, io_no, io_ow, pu_e, pu_t, nx_e, se_e, se_k, ne_e, ne_k, ne_t, re_e, re_k, dr_e, dr_k, si_e, si_t, si_f, pa_e, pa_k, ob_some, fo_e, fo_k, ra_e, ra_k, ia_e, ia_l, ia_t, ia_s, r1_e, r1_k, r2_e, r2_k, lc_e, lc_k, lc_c, ca_e, ca_k, ou_ok, ou_ex, kw_e, kw_1, kw_2, ci_e, ci_s, ci_k, ci_g, oi_ok, oi_ex, m1_e, m1_k, m2_k, m3_k, ow_e, ow_k, ix_e, ix_0, ix_1, ix_2, ix_3, ix_4, pn_e, ps_e, ps_k, sl_e, sl_1, sl_2, sl_3, sl_4, fb_e, fb_k, ch_e, ch_1, ch_2, ch_3, ch_t, ch_f, ch_4, rs_rt, rs_nx, rs_ex, ri_rt, ri_nx, ri_ex, i0_e, ir_e, ix_e0, List.getElem?_cons_zero, List.getElem?_cons_succ, List.set_cons_zero, List.set_cons_succ]
  show (match g__law_pen [.sh (.scr (ns.map .int)), .no] with | .ok d _ => FO.ok d | _ => .no) = _
  rw [hg]
theorem turns {k : Nat → D} (v : Cl) : ∀ (xs : List Nat) (B : Nat) (d : D) (c : Cl), ioC (some c) = true → Pen B d → B + 600 * xs.length ≤ 1000000 → ∃ (d' : D) (c' : Cl), loopD (putSh 2) B1_law (xs.map k) [v, .ow false d, c] = .nx [v, .ow false d', c']
  | [], B, d, c, _, _, _ => ⟨d, c, rfl⟩
  | x :: r, B, d, c, hc, hp, hB => by
    rw [List.length_cons] at hB
    obtain ⟨d1, e1, hp1⟩ := p_law_right hp (by omega)
    obtain ⟨d', c', e⟩ := turns (k := k) v r (B + 600) d1 (.sh (k x)) rfl hp1 (by omega)
    refine ⟨d', c', ?_⟩
    have hput : putSh 2 (k x) [v, .ow false d, c] = some [v, .ow false d, .sh (k x)] := by
      simp only [hc, bi_ok, bi_ex, th_ok, th_ex, lo_some, de_val, de_slot, dc_sh, dc_ow, ov_e, oc_sh, oc_ow, ol_e, kl_e, ev_e, ec_sh, ec_ow, cc_e, o2_e, k2_e, k2b_e, l2_e, o1_e, k1_e, l1_e, tb_e, kb_e, ta_e, ka_t, ka_f, to_e, ko_t, ko_f, tn_e, kn_e, ea_e, ea_t, ea_f, eo_e, eo_t, eo_f, en_e, en_k, if_e, if_t, if_f, tu_e, tu_k, ls_e, ls_k, an_e, ac_e, a1_e, a2_e, sq_e, sq_nx, sq_rt, sq_ex, sn_e, io_e, io_sh, io_no, io_ow, pu_e, pu_t, nx_e, se_e, se_k, ne_e, ne_k, ne_t, re_e, re_k, dr_e, dr_k, si_e, si_t, si_f, pa_e, pa_k, ob_some, fo_e, fo_k, ra_e, ra_k, ia_e, ia_l, ia_t, ia_s, r1_e, r1_k, r2_e, r2_k, lc_e, lc_k, lc_c, ca_e, ca_k, ou_ok, ou_ex, kw_e, kw_1, kw_2, ci_e, ci_s, ci_k, ci_g, oi_ok, oi_ex, m1_e, m1_k, m2_k, m3_k, ow_e, ow_k, ix_e, ix_0, ix_1, ix_2, ix_3, ix_4, pn_e, ps_e, ps_k, sl_e, sl_1, sl_2, sl_3, sl_4, fb_e, fb_k, ch_e, ch_1, ch_2, ch_3, ch_t, ch_f, ch_4, rs_rt, rs_nx, rs_ex, ri_rt, ri_nx, ri_ex, i0_e, ir_e, ix_e0, List.getElem?_cons_zero, List.getElem?_cons_succ, List.set_cons_zero, List.set_cons_succ]
    have hb : B1_law [v, .ow false d, .sh (k x)] = .nx [v, .ow false d1, .sh (k x)] := by
      simp only [B1_law, e1, Bool.not_true, bi_ok, bi_ex, th_ok, th_ex, lo_some, de_val, de_slot, dc_sh, dc_ow, ov_e, oc_sh, oc_ow, ol_e, kl_e, ev_e, ec_sh, ec_ow, cc_e, o2_e, k2_e, k2b_e, l2_e, o1_e, k1_e, l1_e, tb_e, kb_e, ta_e, ka_t, ka_f, to_e, ko_t, ko_f, tn_e, kn_e, ea_e, ea_t, ea_f, eo_e, eo_t, eo_f, en_e, en_k, if_e, if_t, if_f, tu_e, tu_k, ls_e, ls_k, an_e, ac_e, a1_e, a2_e, sq_e, sq_nx, sq_rt, sq_ex, sn_e, io_e, io_sh, io_no, io_ow, pu_e, pu_t, nx_e, se_e, se_k, ne_e, ne_k, ne_t, re_e, re_k, dr_e, dr_k, si_e, si_t, si_f, pa_e, pa_k, ob_some, fo_e, fo_k, ra_e, ra_k, ia_e, ia_l, ia_t, ia_s, r1_e, r1_k, r2_e, r2_k, lc_e, lc_k, lc_c, ca_e, ca_k, ou_ok, ou_ex, kw_e, kw_1, kw_2, ci_e, ci_s, ci_k, ci_g, oi_ok, oi_ex, m1_e, m1_k, m2_k, m3_k, ow_e, ow_k, ix_e, ix_0, ix_1, ix_2, ix_3, ix_4, pn_e, ps_e, ps_k, sl_e, sl_1, sl_2, sl_3, sl_4, fb_e, fb_k, ch_e, ch_1, ch_2, ch_3, ch_t, ch_f, ch_4, rs_rt, rs_nx, rs_ex, ri_rt, ri_nx, ri_ex, i0_e, ir_e, ix_e0, List.getElem?_cons_zero, List.getElem?_cons_succ, List.set_cons_zero, List.set_cons_succ]
    rw [List.map_cons]
    unfold loopD
    rw [hput]
    dsimp only
    rw [hb]
    exact e
theorem mkG_e {n : Nat} {N : List Str} {b : Ds → SO} {xs : List D} (h : xs.length = n) : mkG n N b xs = resD (b (startD N xs)) := if_pos h
theorem p_law (ns : List Int) : G_law [.scr (ns.map .int)] = .ok (.bl true) := by
  obtain ⟨d, e, hp⟩ := p_law_pen ns
  obtain ⟨d', c', e2⟩ := turns (k := fun k : Nat => D.int (k : Int)) (.sh (.scr (ns.map .int))) (List.range 4) 0 d .no rfl hp (by simp)
  have hF : F2_law [.sh (.scr (ns.map .int)), .ow false d, .no] = .nx [.sh (.scr (ns.map .int)), .ow false d', c'] :=
    (for_run (range1_run (n := 4) (by simp only [bi_ok, bi_ex, th_ok, th_ex, lo_some, de_val, de_slot, dc_sh, dc_ow, ov_e, oc_sh, oc_ow, ol_e, kl_e, ev_e, ec_sh, ec_ow, cc_e, o2_e, k2_e, k2b_e, l2_e, o1_e, k1_e, l1_e, tb_e, kb_e, ta_e, ka_t, ka_f, to_e, ko_t, ko_f, tn_e, kn_e, ea_e, ea_t, ea_f, eo_e, eo_t, eo_f, en_e, en_k, if_e, if_t, if_f, tu_e, tu_k, ls_e, ls_k, an_e, ac_e, a1_e, a2_e, sq_e, sq_nx, sq_rt, sq_ex, sn_e, io_e, io_sh, io_no, io_ow, pu_e, pu_t, nx_e, se_e, se_k, ne_e, ne_k, ne_t, re_e, re_k, dr_e, dr_k, si_e, si_t, si_f, pa_e, pa_k, ob_some, fo_e, fo_k, ra_e, ra_k, ia_e, ia_l, ia_t, ia_s, r1_e, r1_k, r2_e, r2_k, lc_e, lc_k, lc_c, ca_e, ca_k, ou_ok, ou_ex, kw_e, kw_1, kw_2, ci_e, ci_s, ci_k, ci_g, oi_ok, oi_ex, m1_e, m1_k, m2_k, m3_k, ow_e, ow_k, ix_e, ix_0, ix_1, ix_2, ix_3, ix_4, pn_e, ps_e, ps_k, sl_e, sl_1, sl_2, sl_3, sl_4, fb_e, fb_k, ch_e, ch_1, ch_2, ch_3, ch_t, ch_f, ch_4, rs_rt, rs_nx, rs_ex, ri_rt, ri_nx, ri_ex, i0_e, ir_e, ix_e0, List.getElem?_cons_zero, List.getElem?_cons_succ, List.set_cons_zero, List.set_cons_succ]; rfl) (by omega))).trans e2
  rw [show G_law [.scr (ns.map .int)] = resD (b_law (startD N_law [.scr (ns.map .int)])) from mkG_e rfl, show startD N_law [.scr (ns.map .int)] = [.sh (.scr (ns.map .int)), .no, .no] from rfl]
  simp only [b_law, e, hF, bi_ok, bi_ex, th_ok, th_ex, lo_some, de_val, de_slot, dc_sh, dc_ow, ov_e, oc_sh, oc_ow, ol_e, kl_e, ev_e, ec_sh, ec_ow, cc_e, o2_e, k2_e, k2b_e, l2_e, o1_e, k1_e, l1_e, tb_e, kb_e, ta_e, ka_t, ka_f, to_e, ko_t, ko_f, tn_e, kn_e, ea_e, ea_t, ea_f, eo_e, eo_t, eo_f, en_e, en_k, if_e, if_t, if_f, tu_e, tu_k, ls_e, ls_k, an_e, ac_e, a1_e, a2_e, sq_e, sq_nx, sq_rt, sq_ex, sn_e, io_e, io_sh, io_no, io_ow, pu_e, pu_t, nx_e, se_e, se_k, ne_e, ne_k, ne_t, re_e, re_k, dr_e, dr_k, si_e, si_t, si_f, pa_e, pa_k, ob_some, fo_e, fo_k, ra_e, ra_k, ia_e, ia_l, ia_t, ia_s, r1_e, r1_k, r2_e, r2_k, lc_e, lc_k, lc_c, ca_e, ca_k, ou_ok, ou_ex, kw_e, kw_1, kw_2, ci_e, ci_s, ci_k, ci_g, oi_ok, oi_ex, m1_e, m1_k, m2_k, m3_k, ow_e, ow_k, ix_e, ix_0, ix_1, ix_2, ix_3, ix_4, pn_e, ps_e, ps_k, sl_e, sl_1, sl_2, sl_3, sl_4, fb_e, fb_k, ch_e, ch_1, ch_2, ch_3, ch_t, ch_f, ch_4, rs_rt, rs_nx, rs_ex, ri_rt, ri_nx, ri_ex, i0_e, ir_e, ix_e0, List.getElem?_cons_zero, List.getElem?_cons_succ, List.set_cons_zero, List.set_cons_succ]
end T76

set_option Elab.async false
set_option linter.all false
set_option maxRecDepth 100000
set_option maxHeartbeats 4000000
/-! E76: from the facts of the head to the law's promise. -/
namespace T76
open PySem PySem.Spec PyProof.Rows L2 DV Crc
section
variable {P : Program} {w : World} {K : PySem.W.Frag} {mg : Str → Option Value} {base : Heap} {T : List (Addr × Str)}
theorem fnD {x : Str} {st : Stmt} {N ps : List Str} {n k : Nat} {b : Ds → SO} {f c : Addr} {oc : Value} {od : Option Addr} {kV doc pm : Value} {an : Option Addr} {ct : Value} {osl : Array (Option Value)}
    (lk : K.lookup f = some ⟨oc, od, .func (PySem.W.fnOf x x (defArgs st) (defBody st) (defScope st) .none kV doc pm an (.ref c) ct), osl⟩) (hcd : PySem.W.codeIn K (.ref c) x = true) (Sc : FnScope N ps (defScope st)) (hn : ps.length = n)
    (hb : ∀ (A : Around) (outer : List Env) (s : Shared) (S H : Hp) (E : XK), Room k (bcx P w K mg base N x st f (.ref c) A outer s H E).A → Takes (bcx P w K mg base N x st f (.ref c) A outer s H E) (bW E) → DPSs (fcD ⟨K, mg⟩ T S H) (bW E) (bcx P w K mg base N x st f (.ref c) A outer s H E) (defBody st) b) :
    FnOk P w K mg base (L2.CX P w) (k + 1) f (PySem.W.fnOf x x (defArgs st) (defBody st) (defScope st) .none kV doc pm an (.ref c) ct) ps (spD ⟨K, mg⟩ T (mkG n N b)) := by
  have hG : ∀ xs, mkG n N b xs ≠ .no → xs.length = ps.length := fun xs h => by
    unfold mkG at h
    split at h
    · rename_i e; rw [e, hn]
    · exact absurd rfl h
  refine fn_of lk hcd Sc (spD_len hG) fun A outer s H vs Q E hr h => ?_
  obtain ⟨S, xs, e, nt, t, r, h⟩ := h
  have hne : mkG n N b xs ≠ .no := fun z => by rw [z] at h; exact h
  have hR : resD (b (startD N xs)) = mkG n N b xs := by
    unfold mkG
    rw [if_pos (by rw [hG xs hne, hn])]
  refine ⟨_, hb A outer s S H E hr (takes_of rfl rfl rfl rfl), S, _, start_match e nt t r, ?_⟩
  cases hB : b (startD N xs) with
  | nx ds =>
    rw [hB] at hR
    rw [← hR] at h
    exact fun σ' H' S' e' M' => h .non S' H' M'.toRet rfl
  | rt d ds =>
    rw [hB] at hR
    rw [← hR] at h
    exact fun v σ' H' S' e' M' r' => h v S' H' M'.toRet r'
  | ex z ds =>
    rw [hB] at hR
    rw [← hR] at h
    exact fun cls dx σ' H' S' e' M' r' => h cls dx S' H' M'.toRet r'
  | bk ds => rw [hB] at hR; exact absurd hR.symm hne
  | ct ds => rw [hB] at hR; exact absurd hR.symm hne
  | no => rw [hB] at hR; exact absurd hR.symm hne
theorem defF_of {h : Heap} {x : Str} {st : Stmt} {f c : Addr} {oc : Value} {od : Option Addr} {kV doc pm : Value} {an : Option Addr} {ct : Value} {osl : Array (Option Value)} {co : Addr → Prop} (X : K.In h) (G : h.Ns mainGlobals mg) (a : PySem.W.nsIn K mainGlobals x = some (some (.ref f)))
    (l : K.lookup f = some ⟨oc, od, .func (PySem.W.fnOf x x (defArgs st) (defBody st) (defScope st) .none kV doc pm an (.ref c) ct), osl⟩) (k : PySem.W.keepIn K (.ref f) = true) (cc : PySem.W.codeIn K (.ref c) x = true) (hco : co c) : DefF K mg x st co :=
  ⟨f, c, oc, od, .none, kV, doc, pm, an, ct, osl, PySem.W.mg_of X G a, k, rfl, hco, l, cc⟩
theorem defF_to {x : Str} {st : Stmt} {co co' : Addr → Prop} (D : DefF K mg x st co) (h : ∀ c, co c → co' c) : DefF K mg x st co' := by
  obtain ⟨f, c, oc, od, dV, kV, doc, pm, an, ct, osl, hm, hk, e, hco, lk, hcd⟩ := D.ex
  exact ⟨f, c, oc, od, dV, kV, doc, pm, an, ct, osl, hm, hk, e, h c hco, lk, hcd⟩
theorem fn_law (B : Blt mg) (M : Md P K mg) (c__law_pen : CalN P w K mg base T 1 "_law_pen" G__law_pen) (c__law_right : CalI P w K mg base T 9 "_law_right" G__law_right) {f c : Addr} {oc : Value} {od : Option Addr} {kV doc pm : Value} {an : Option Addr} {ct : Value} {osl : Array (Option Value)}
    (lk : K.lookup f = some ⟨oc, od, .func (PySem.W.fnOf "law" "law" (defArgs s_law) (defBody s_law) (defScope s_law) .none kV doc pm an (.ref c) ct), osl⟩) (hcd : PySem.W.codeIn K (.ref c) "law" = true) :
    FnOk P w K mg base (L2.CX P w) 10 f (PySem.W.fnOf "law" "law" (defArgs s_law) (defBody s_law) (defScope s_law) .none kV doc pm an (.ref c) ct) ["script"] (spD ⟨K, mg⟩ T G_law) := by
  refine fnD lk hcd sc_law rfl fun A outer s S H E hr tk => ?_
  refine d_scons (d_setN sc_law.nd rfl (by first | exact Or.inl rfl | exact Or.inr rfl) (d_calN c__law_pen rfl tk hr rfl (d_acons (dv 0) d_anil))) ?_
  refine d_scons (d_for (passes_of rfl) rfl (i_r1 B (d_acons d_int d_anil)) (d_gname sc_law.nd rfl (by first | exact Or.inl rfl | exact Or.inr rfl)) (d_sone (d_sif (d_tnot (d_tv (d_calI c__law_right rfl tk hr rfl (i := 1) rfl (by first | exact Or.inl rfl | exact Or.inr (Or.inl rfl) | exact Or.inr (Or.inr rfl)) d_anil))) (d_sone (d_ret d_bl)) d_snil))) ?_
  exact d_sone (d_ret d_bl)
theorem law_at {l : PySem.W.OpenLaw} {fa cr TP : Addr} {h : Heap} {nn : Nat} (X : K.In h) (G : h.Ns mainGlobals mg) (hfa : mg "law" = some (.ref fa)) (hcd : PySem.W.codeHdIn K cr TP = true) (hT : h.get? TP = some { cls := .none, data := .fields #[] }) (nT : K.lookup TP = none) (B : Blt mg) (M : Md l.prog K mg)
    (D_law : DefF K mg "law" s_law fun _ => True)
    (D__law_pen : DefF K mg "_law_pen" s__law_pen fun _ => True)
    (D__law_draw : DefF K mg "_law_draw" s__law_draw fun _ => True)
    (D__law_pick : DefF K mg "_law_pick" s__law_pick fun _ => True)
    (D__law_bits : DefF K mg "_law_bits" s__law_bits fun _ => True)
    (D__law_change : DefF K mg "_law_change" s__law_change fun _ => True)
    (D__law_guard : DefF K mg "_law_guard" s__law_guard fun _ => True)
    (D__law_places : DefF K mg "_law_places" s__law_places fun _ => True)
    (D__law_heard : DefF K mg "_law_heard" s__law_heard fun _ => True)
    (D_is_listed : DefF K mg "is_listed" s_is_listed fun _ => True)
    (D_is_integer : DefF K mg "is_integer" s_is_integer fun _ => True)
    (D_is_within : DefF K mg "is_within" s_is_within fun _ => True)
    (D_is_change : DefF K mg "is_change" s_is_change fun _ => True)
    (D_is_bits : DefF K mg "is_bits" s_is_bits fun _ => True)
    (D_need_bits : DefF K mg "need_bits" s_need_bits fun _ => True)
    (D_with_changes : DefF K mg "with_changes" s_with_changes fun _ => True)
    (D_changed : DefF K mg "changed" s_changed fun _ => True)
    (D_is_guard : DefF K mg "is_guard" s_is_guard fun _ => True)
    (D_need_guard : DefF K mg "need_guard" s_need_guard fun _ => True)
    (D_degree_of : DefF K mg "degree_of" s_degree_of fun _ => True)
    (D_bits_of_rest : DefF K mg "bits_of_rest" s_bits_of_rest fun _ => True)
    (D_rest_number : DefF K mg "rest_number" s_rest_number fun _ => True)
    (D_rest_of : DefF K mg "rest_of" s_rest_of fun _ => True)
    (D_rest_by : DefF K mg "rest_by" s_rest_by fun _ => True)
    (D_guarded : DefF K mg "guarded" s_guarded fun _ => True)
    (D_with_guard : DefF K mg "with_guard" s_with_guard fun _ => True)
    (D__law_refused : DefF K mg "_law_refused" s__law_refused fun c => c = cr)
    (D__law_rest : DefF K mg "_law_rest" s__law_rest fun _ => True)
    (D__law_sum : DefF K mg "_law_sum" s__law_sum fun _ => True)
    (D__law_with_guard : DefF K mg "_law_with_guard" s__law_with_guard fun _ => True)
    (D__law_right : DefF K mg "_law_right" s__law_right fun _ => True) :
    LamX.LawAtS l w K (L2.CX l.prog w) 10 nn "script" mg fa h := by
  obtain ⟨f, c, oc, od, dV, kV, doc, pm, an, ct, osl, hm, hk, rfl, -, lk, hc⟩ := D_law.ex
  have e := hfa.symm.trans hm
  cases e
  have C := PySem.W.codeHd_of_K X hcd
  refine ⟨PySem.W.fnOf "law" "law" (defArgs s_law) (defBody s_law) (defScope s_law) .none kV doc pm an (.ref c) ct, [(cr, TP)], spD ⟨K, mg⟩ [(TP, "_law_refused.<locals>.<lambda>")] G_law, fun p hp => ?_, fun p hp => ?_, fun p hp => ?_, fun s v => .of_eq rfl, fun H a ns _ _ hH hS => ?_, fun base hK hns hTB => ?_⟩
  · rw [List.mem_singleton.mp hp]; exact hT
  · rw [List.mem_singleton.mp hp]; exact nT
  · rw [List.mem_singleton.mp hp]; exact C
  · refine law_sp (cs := [(cr, TP)]) (fun p hp => ⟨(cr, TP), List.mem_singleton.mpr rfl, ?_⟩) hH hS (p_law ns)
    rw [List.mem_singleton.mp hp]
  · have D__law_refused' : DefF K mg "_law_refused" s__law_refused (co__law_refused base mg [(TP, "_law_refused.<locals>.<lambda>")]) := defF_to D__law_refused fun c hc => by
      subst hc
      exact ⟨TP, hTB _ (List.mem_singleton.mpr rfl), List.mem_singleton.mpr rfl, fun p hp _ => by rw [List.mem_singleton.mp hp]⟩
    have c__law_pen := w__law_pen (P := l.prog) (w := w) (base := base) (T := [(TP, "_law_refused.<locals>.<lambda>")]) B M D__law_pen
    have c__law_draw := w__law_draw (P := l.prog) (w := w) (base := base) (T := [(TP, "_law_refused.<locals>.<lambda>")]) B M D__law_draw
    have c__law_pick := w__law_pick (P := l.prog) (w := w) (base := base) (T := [(TP, "_law_refused.<locals>.<lambda>")]) B M c__law_draw D__law_pick
    have c__law_bits := w__law_bits (P := l.prog) (w := w) (base := base) (T := [(TP, "_law_refused.<locals>.<lambda>")]) B M c__law_pick D__law_bits
    have c__law_change := w__law_change (P := l.prog) (w := w) (base := base) (T := [(TP, "_law_refused.<locals>.<lambda>")]) B M D__law_change
    have c__law_guard := w__law_guard (P := l.prog) (w := w) (base := base) (T := [(TP, "_law_refused.<locals>.<lambda>")]) B M c__law_draw c__law_pick D__law_guard
    have c__law_places := w__law_places (P := l.prog) (w := w) (base := base) (T := [(TP, "_law_refused.<locals>.<lambda>")]) B M c__law_draw D__law_places
    have c__law_heard : ∀ k, Heard l.prog w K mg base [(TP, "_law_refused.<locals>.<lambda>")] (k + 1) "_law_heard" "ask" G__law_heard := fun k => w__law_heard B M D__law_heard k
    have c_is_listed := w_is_listed (P := l.prog) (w := w) (base := base) (T := [(TP, "_law_refused.<locals>.<lambda>")]) B M D_is_listed
    have c_is_integer := w_is_integer (P := l.prog) (w := w) (base := base) (T := [(TP, "_law_refused.<locals>.<lambda>")]) B M D_is_integer
    have c_is_within := w_is_within (P := l.prog) (w := w) (base := base) (T := [(TP, "_law_refused.<locals>.<lambda>")]) B M c_is_integer D_is_within
    have c_is_change := w_is_change (P := l.prog) (w := w) (base := base) (T := [(TP, "_law_refused.<locals>.<lambda>")]) B M c_is_listed c_is_within D_is_change
    have c_is_bits := w_is_bits (P := l.prog) (w := w) (base := base) (T := [(TP, "_law_refused.<locals>.<lambda>")]) B M D_is_bits
    have c_need_bits := w_need_bits (P := l.prog) (w := w) (base := base) (T := [(TP, "_law_refused.<locals>.<lambda>")]) B M c_is_bits D_need_bits
    have c_with_changes := w_with_changes (P := l.prog) (w := w) (base := base) (T := [(TP, "_law_refused.<locals>.<lambda>")]) B M D_with_changes
    have c_changed := w_changed (P := l.prog) (w := w) (base := base) (T := [(TP, "_law_refused.<locals>.<lambda>")]) B M c_is_change c_need_bits c_with_changes D_changed
    have c_is_guard := w_is_guard (P := l.prog) (w := w) (base := base) (T := [(TP, "_law_refused.<locals>.<lambda>")]) B M c_is_bits D_is_guard
    have c_need_guard := w_need_guard (P := l.prog) (w := w) (base := base) (T := [(TP, "_law_refused.<locals>.<lambda>")]) B M c_is_guard D_need_guard
    have c_degree_of := w_degree_of (P := l.prog) (w := w) (base := base) (T := [(TP, "_law_refused.<locals>.<lambda>")]) B M D_degree_of
    have c_bits_of_rest := w_bits_of_rest (P := l.prog) (w := w) (base := base) (T := [(TP, "_law_refused.<locals>.<lambda>")]) B M c_degree_of D_bits_of_rest
    have c_rest_number := w_rest_number (P := l.prog) (w := w) (base := base) (T := [(TP, "_law_refused.<locals>.<lambda>")]) B M c_degree_of D_rest_number
    have c_rest_of := w_rest_of (P := l.prog) (w := w) (base := base) (T := [(TP, "_law_refused.<locals>.<lambda>")]) B M c_bits_of_rest c_rest_number D_rest_of
    have c_rest_by := w_rest_by (P := l.prog) (w := w) (base := base) (T := [(TP, "_law_refused.<locals>.<lambda>")]) B M c_need_bits c_need_guard c_rest_of D_rest_by
    have c_guarded := w_guarded (P := l.prog) (w := w) (base := base) (T := [(TP, "_law_refused.<locals>.<lambda>")]) B M c_degree_of c_rest_of D_guarded
    have c_with_guard := w_with_guard (P := l.prog) (w := w) (base := base) (T := [(TP, "_law_refused.<locals>.<lambda>")]) B M c_guarded c_need_bits c_need_guard D_with_guard
    have c__law_refused := w__law_refused (P := l.prog) (w := w) (base := base) (T := [(TP, "_law_refused.<locals>.<lambda>")]) B M c__law_heard c__law_pick c_changed c_rest_by c_with_guard D__law_refused'
    have c__law_rest := w__law_rest (P := l.prog) (w := w) (base := base) (T := [(TP, "_law_refused.<locals>.<lambda>")]) B M D__law_rest
    have c__law_sum := w__law_sum (P := l.prog) (w := w) (base := base) (T := [(TP, "_law_refused.<locals>.<lambda>")]) B M D__law_sum
    have c__law_with_guard := w__law_with_guard (P := l.prog) (w := w) (base := base) (T := [(TP, "_law_refused.<locals>.<lambda>")]) B M c__law_rest D__law_with_guard
    have c__law_right := w__law_right (P := l.prog) (w := w) (base := base) (T := [(TP, "_law_refused.<locals>.<lambda>")]) B M c__law_bits c__law_change c__law_draw c__law_guard c__law_pick c__law_places c__law_refused c__law_rest c__law_sum c__law_with_guard c_changed c_rest_by c_with_guard D__law_right
    exact fn_law B M c__law_pen c__law_right lk hc
end
end T76

set_option Elab.async false
set_option linter.all false
set_option maxRecDepth 100000
set_option maxHeartbeats 4000000
/-! F76: the module's facts. -/
namespace T76
open PySem PySem.Spec PyProof.Rows L2 DV PySem.HandSPX
section
variable {K : PySem.W.Frag} {mg : Str → Option Value} {h : Heap}
abbrev pw : Program := PySem.Challenge.pw_askedcodes_k76_rests_and_changes
structure ErF (K : PySem.W.Frag) (mg : Str → Option Value) (c : Str) (s1 s2 : Bool) (C1 C2 : Addr) : Prop where
  ex : ∃ Cc, mg c = some (.ref Cc) ∧ PySem.W.subIn K (.ref Cc) (.type "BaseException") = some true ∧ PySem.W.hasDictIn K Cc = true ∧ PySem.W.typeIn K (.ref Cc) = some (.type "type") ∧ PySem.W.subIn K (.ref C1) (.ref Cc) = some s1 ∧ PySem.W.subIn K (.ref C2) (.ref Cc) = some s2
theorem erF_of {c : Str} {s1 s2 : Bool} {C1 C2 Cc : Addr} (X : K.In h) (G : h.Ns mainGlobals mg) (a : PySem.W.nsIn K mainGlobals c = some (some (.ref Cc))) (b : PySem.W.subIn K (.ref Cc) (.type "BaseException") = some true) (d : PySem.W.hasDictIn K Cc = true) (e : PySem.W.typeIn K (.ref Cc) = some (.type "type"))
    (f : PySem.W.subIn K (.ref C1) (.ref Cc) = some s1) (g : PySem.W.subIn K (.ref C2) (.ref Cc) = some s2) : ErF K mg c s1 s2 C1 C2 := ⟨Cc, PySem.W.mg_of X G a, b, d, e, f, g⟩
theorem kit_ref {C Cc : Addr} {b : Bool} (hd : PySem.W.hasDictIn K Cc = true) (ht : PySem.W.typeIn K (.ref Cc) = some (.type "type")) (hs : PySem.W.subIn K (.ref C) (.ref Cc) = some b) (self : PySem.W.subIn K (.ref C) (.ref C) = some true) : PySem.W.kitOne K (.ref C) (.ref Cc) = some b := by
  unfold PySem.W.kitOne
  by_cases e : (Value.ref C == Value.ref Cc) = true
  · rw [if_pos e]
    have e2 := Value.ref.inj (beq_iff_eq.mp e)
    subst e2
    exact self.symm.trans hs
  · rw [if_neg e]
    obtain ⟨cd, hc, _⟩ := PySem.W.any_some hd
    have e2 : ((PySem.W.clsIn K Cc).isSome && PySem.W.typeIn K (.ref Cc) == some (.type "type")) = true := by rw [hc, ht] <;> rfl
    show (if ((PySem.W.clsIn K Cc).isSome && PySem.W.typeIn K (.ref Cc) == some (.type "type")) = true then PySem.W.subIn K (.ref C) (.ref Cc) else none) = some b
    rw [if_pos e2]
    exact hs
theorem kit_ve {C : Addr} (hs : PySem.W.subIn K (.ref C) (.type "ValueError") = some true) : PySem.W.kitOne K (.ref C) (.type "ValueError") = some true := by
  have e1 : ¬ (Value.ref C == Value.type "ValueError") = true := fun e => by cases beq_iff_eq.mp e
  have e2 : PySem.W.kitMeta "ValueError" = true := by decide +kernel
  unfold PySem.W.kitOne
  rw [if_neg e1]
  show (if PySem.W.kitMeta "ValueError" = true then PySem.W.subIn K (.ref C) (.type "ValueError") else none) = some true
  rw [if_pos e2]
  exact hs
structure YF (K : PySem.W.Frag) (C : Addr) : Prop where
  hg : PySem.W.findIn K (.ref C) "__getattribute__" = some (some (.builtin "BaseException.__getattribute__"))
  hk : PySem.W.findIn K (.ref C) "__getattr__" = some none
  hs : PySem.W.subIn K (.ref C) (.type "BaseException") = some true
  hd : PySem.W.hasDictIn K C = true
  ha : PySem.W.findIn K (.ref C) "__class__" = some (some (.builtin "object.__class__"))
  hn : PySem.W.specialIn K (.builtin "object.__class__") "__get__" = some (some (.builtin "getset_descriptor.__get__"))
  ht : PySem.W.takesIn K (.builtin "object.__class__") = some true
  hm : PySem.W.mroIn K C (.type "object") = some true
  self : PySem.W.subIn K (.ref C) (.ref C) = some true
  ve : PySem.W.subIn K (.ref C) (.type "ValueError") = some true
  noN : PySem.W.findIn K (.ref C) "part" = some none
theorem YF.e {C : Addr} (y : YF K C) : ExcC K C := ⟨y.hg, y.hk, y.hs, y.hd, y.ha, y.hn, y.ht, y.hm⟩
theorem YF.x {C : Addr} (y : YF K C) : XfC K C := ⟨y.hg, y.hk, y.hs, y.hd⟩
theorem XF_dummy : True := trivial
abbrev i3 : Stmt := inClass (top 3) 0
theorem ext_BadBits {P : Program} (hP : P = pw) {C fI cda cc : Addr} {nm q N bs bm sn sub ab col dd k0 k1 k2 k3 k5} {oc : Value} {od : Option Addr} {doc pm : Value} {an : Option Addr} {ct : Value} {osl : Array (Option Value)} {ccl cdd vs ccs file tf} {cl cld csl}
    (cls : K.lookup C = some (excClassObj nm q C N bs bm true sn sub ab col dd k0 k1 k2 k3 k5 "ValueError.__new__")) (bmv : refsVE bm = true)
    (sa : PySem.W.findIn K (.ref C) "__setattr__" = some (some (.builtin "object.__setattr__"))) (noN : PySem.W.findIn K (.ref C) "part" = some none) (iC : PySem.W.findIn K (.ref C) "__init__" = some (some (.ref fI))) (tC : PySem.W.typeIn K (.ref fI) = some (.type "function")) (kC : PySem.W.keepIn K (.ref C) = true)
    (exC : PySem.W.subIn K (.ref C) (.type "BaseException") = some true) (veC : PySem.W.subIn K (.ref C) (.type "ValueError") = some true) (tyC : PySem.W.typeIn K (.ref C) = some (.type "type"))
    (lk : K.lookup fI = some ⟨oc, od, .func (PySem.W.ksFn "__init__" "BadBits.__init__" (defArgs i3) (defBody i3) (defScope i3) .none .none doc pm an (.ref cda) ct cc), osl⟩) (cd : PySem.W.codeIn K (.ref cda) "BadBits.__init__" = true)
    (cdo : K.lookup cda = some ⟨ccl, cdd, .fields vs, ccs⟩) (v2 : vs[2]? = some (.str file tf)) (vf : ((pw.main.file : Str) == file) = true) (cel : K.lookup cc = some ⟨cl, cld, .cell (some (.ref C)), csl⟩)
    (sup : PySem.W.nsIn K mainGlobals "super" = some none) (opq : PySem.W.nsIn K cStatics "thirdparty.any" = some none) (along : PySem.W.ks_superIn K C C "__init__" = some (some (.builtin "ValueError.__init__"))) :
    ExT P K "BadBits" "BadBits.__init__" "part" "part" "no right bits" (inClass (top 3) 0) C fI := by
  subst hP
  exact { cls := ⟨_, _, _, _, _, _, _, _, _, _, _, _, _, _, _, cls, bmv⟩, sa := sa, noN := noN, iC := iC, tC := tC, kC := kC, exC := exC, veC := veC, tyC := tyC, fn := ⟨_, _, _, _, _, _, _, _, _, _, _, rfl, rfl, lk, cd, ⟨_, _, _, _, _, _, cdo, v2, vf⟩, _, _, _, cel⟩, sup := sup, opq := opq, along := along, top := by decide +kernel, bd := ⟨_, _, _, _, _, _, _, _, _, _, _, rfl, fun env => ⟨⟨_, rfl⟩, rfl, rfl⟩⟩, pr := ⟨_, _, rfl, rfl, rfl⟩, bn := (fun _ _ _ _ _ _ _ _ _ _ h1 h2 => by subst h1 h2; rfl), sc := ⟨rfl, rfl, rfl, by decide +kernel, by decide +kernel, by decide +kernel, by decide +kernel, by decide +kernel⟩, na := ⟨by decide, by decide⟩ }
abbrev i6 : Stmt := inClass (top 6) 0
theorem ext_BadRow {P : Program} (hP : P = pw) {C fI cda cc : Addr} {nm q N bs bm sn sub ab col dd k0 k1 k2 k3 k5} {oc : Value} {od : Option Addr} {doc pm : Value} {an : Option Addr} {ct : Value} {osl : Array (Option Value)} {ccl cdd vs ccs file tf} {cl cld csl}
    (cls : K.lookup C = some (excClassObj nm q C N bs bm true sn sub ab col dd k0 k1 k2 k3 k5 "ValueError.__new__")) (bmv : refsVE bm = true)
    (sa : PySem.W.findIn K (.ref C) "__setattr__" = some (some (.builtin "object.__setattr__"))) (noN : PySem.W.findIn K (.ref C) "part" = some none) (iC : PySem.W.findIn K (.ref C) "__init__" = some (some (.ref fI))) (tC : PySem.W.typeIn K (.ref fI) = some (.type "function")) (kC : PySem.W.keepIn K (.ref C) = true)
    (exC : PySem.W.subIn K (.ref C) (.type "BaseException") = some true) (veC : PySem.W.subIn K (.ref C) (.type "ValueError") = some true) (tyC : PySem.W.typeIn K (.ref C) = some (.type "type"))
    (lk : K.lookup fI = some ⟨oc, od, .func (PySem.W.ksFn "__init__" "BadRow.__init__" (defArgs i6) (defBody i6) (defScope i6) .none .none doc pm an (.ref cda) ct cc), osl⟩) (cd : PySem.W.codeIn K (.ref cda) "BadRow.__init__" = true)
    (cdo : K.lookup cda = some ⟨ccl, cdd, .fields vs, ccs⟩) (v2 : vs[2]? = some (.str file tf)) (vf : ((pw.main.file : Str) == file) = true) (cel : K.lookup cc = some ⟨cl, cld, .cell (some (.ref C)), csl⟩)
    (sup : PySem.W.nsIn K mainGlobals "super" = some none) (opq : PySem.W.nsIn K cStatics "thirdparty.any" = some none) (along : PySem.W.ks_superIn K C C "__init__" = some (some (.builtin "ValueError.__init__"))) :
    ExT P K "BadRow" "BadRow.__init__" "part" "part" "no right row" (inClass (top 6) 0) C fI := by
  subst hP
  exact { cls := ⟨_, _, _, _, _, _, _, _, _, _, _, _, _, _, _, cls, bmv⟩, sa := sa, noN := noN, iC := iC, tC := tC, kC := kC, exC := exC, veC := veC, tyC := tyC, fn := ⟨_, _, _, _, _, _, _, _, _, _, _, rfl, rfl, lk, cd, ⟨_, _, _, _, _, _, cdo, v2, vf⟩, _, _, _, cel⟩, sup := sup, opq := opq, along := along, top := by decide +kernel, bd := ⟨_, _, _, _, _, _, _, _, _, _, _, rfl, fun env => ⟨⟨_, rfl⟩, rfl, rfl⟩⟩, pr := ⟨_, _, rfl, rfl, rfl⟩, bn := (fun _ _ _ _ _ _ _ _ _ _ h1 h2 => by subst h1 h2; rfl), sc := ⟨rfl, rfl, rfl, by decide +kernel, by decide +kernel, by decide +kernel, by decide +kernel, by decide +kernel⟩, na := ⟨by decide, by decide⟩ }
theorem md_of {P : Program} {C1 C2 f1 f2 : Addr} (k1 : ∃ t, mg "ONE" = some (.str "1" t)) (k2 : ∃ t, mg "MOST_DEGREE" = some (.int 16 t)) (g1 : mg "BadBits" = some (.ref C1)) (g2 : mg "BadRow" = some (.ref C2)) (Y1 : YF K C1) (Y2 : YF K C2)
    (E_CodeError : ErF K mg "CodeError" true true C1 C2)
    (E_BadNumber : ErF K mg "BadNumber" false false C1 C2)
    (E_BadBits : ErF K mg "BadBits" true false C1 C2)
    (E_BadTable : ErF K mg "BadTable" false false C1 C2)
    (E_BadBook : ErF K mg "BadBook" false false C1 C2)
    (E_BadRow : ErF K mg "BadRow" false true C1 C2)
    (E_BadQuestion : ErF K mg "BadQuestion" false false C1 C2)
    (E_BadPaper : ErF K mg "BadPaper" false false C1 C2)
    (E_Misfit : ErF K mg "Misfit" false false C1 C2)
    (E_BadText : ErF K mg "BadText" false false C1 C2)
    (E_BadCommand : ErF K mg "BadCommand" false false C1 C2)
    (E_TooMany : ErF K mg "TooMany" false false C1 C2)
    (x1 : ExT P K "BadBits" "BadBits.__init__" "part" "part" "no right bits" (inClass (top 3) 0) C1 f1) (x2 : ExT P K "BadRow" "BadRow.__init__" "part" "part" "no right row" (inClass (top 6) 0) C2 f2) : ∃ M : Md P K mg, True := by
  obtain ⟨a_CodeError, g_CodeError, b_CodeError, d_CodeError, t_CodeError, s_CodeError, r_CodeError⟩ := E_CodeError.ex
  obtain ⟨a_BadNumber, g_BadNumber, b_BadNumber, d_BadNumber, t_BadNumber, s_BadNumber, r_BadNumber⟩ := E_BadNumber.ex
  obtain ⟨a_BadBits, g_BadBits, b_BadBits, d_BadBits, t_BadBits, s_BadBits, r_BadBits⟩ := E_BadBits.ex
  obtain ⟨a_BadTable, g_BadTable, b_BadTable, d_BadTable, t_BadTable, s_BadTable, r_BadTable⟩ := E_BadTable.ex
  obtain ⟨a_BadBook, g_BadBook, b_BadBook, d_BadBook, t_BadBook, s_BadBook, r_BadBook⟩ := E_BadBook.ex
  obtain ⟨a_BadRow, g_BadRow, b_BadRow, d_BadRow, t_BadRow, s_BadRow, r_BadRow⟩ := E_BadRow.ex
  obtain ⟨a_BadQuestion, g_BadQuestion, b_BadQuestion, d_BadQuestion, t_BadQuestion, s_BadQuestion, r_BadQuestion⟩ := E_BadQuestion.ex
  obtain ⟨a_BadPaper, g_BadPaper, b_BadPaper, d_BadPaper, t_BadPaper, s_BadPaper, r_BadPaper⟩ := E_BadPaper.ex
  obtain ⟨a_Misfit, g_Misfit, b_Misfit, d_Misfit, t_Misfit, s_Misfit, r_Misfit⟩ := E_Misfit.ex
  obtain ⟨a_BadText, g_BadText, b_BadText, d_BadText, t_BadText, s_BadText, r_BadText⟩ := E_BadText.ex
  obtain ⟨a_BadCommand, g_BadCommand, b_BadCommand, d_BadCommand, t_BadCommand, s_BadCommand, r_BadCommand⟩ := E_BadCommand.ex
  obtain ⟨a_TooMany, g_TooMany, b_TooMany, d_TooMany, t_TooMany, s_TooMany, r_TooMany⟩ := E_TooMany.ex
  have e1 := g1.symm.trans g_BadBits
  cases e1
  have e2 := g2.symm.trans g_BadRow
  cases e2
  have ysplit : ∀ y C, mg y = some (.ref C) → y ∈ raised → (y = "BadBits" ∧ C = C1) ∨ (y = "BadRow" ∧ C = C2) := fun y C hy hr => by
    simp only [raised, List.mem_cons, List.not_mem_nil, or_false] at hr
    rcases hr with rfl | rfl
    · exact .inl ⟨rfl, Value.ref.inj (Option.some.inj (hy.symm.trans g1))⟩
    · exact .inr ⟨rfl, Value.ref.inj (Option.some.inj (hy.symm.trans g2))⟩
  have all : ∀ (c : Str) {Cc : Addr}, mg c = some (.ref Cc) → c ∈ errs → ∃ s1 s2, s1 = (decide (c = "BadBits") || decide (c = "CodeError")) ∧ s2 = (decide (c = "BadRow") || decide (c = "CodeError")) ∧ PySem.W.subIn K (.ref Cc) (.type "BaseException") = some true ∧ PySem.W.hasDictIn K Cc = true ∧ PySem.W.typeIn K (.ref Cc) = some (.type "type") ∧ PySem.W.subIn K (.ref C1) (.ref Cc) = some s1 ∧ PySem.W.subIn K (.ref C2) (.ref Cc) = some s2 := fun c Cc hc he => by
    simp only [errs, List.mem_cons, List.not_mem_nil, or_false] at he
    rcases he with rfl | rfl | rfl | rfl | rfl | rfl | rfl | rfl | rfl | rfl | rfl | rfl
    · have z := hc.symm.trans g_CodeError
      cases z
      exact ⟨_, _, by decide +kernel, by decide +kernel, b_CodeError, d_CodeError, t_CodeError, s_CodeError, r_CodeError⟩
    · have z := hc.symm.trans g_BadNumber
      cases z
      exact ⟨_, _, by decide +kernel, by decide +kernel, b_BadNumber, d_BadNumber, t_BadNumber, s_BadNumber, r_BadNumber⟩
    · have z := hc.symm.trans g_BadBits
      cases z
      exact ⟨_, _, by decide +kernel, by decide +kernel, b_BadBits, d_BadBits, t_BadBits, s_BadBits, r_BadBits⟩
    · have z := hc.symm.trans g_BadTable
      cases z
      exact ⟨_, _, by decide +kernel, by decide +kernel, b_BadTable, d_BadTable, t_BadTable, s_BadTable, r_BadTable⟩
    · have z := hc.symm.trans g_BadBook
      cases z
      exact ⟨_, _, by decide +kernel, by decide +kernel, b_BadBook, d_BadBook, t_BadBook, s_BadBook, r_BadBook⟩
    · have z := hc.symm.trans g_BadRow
      cases z
      exact ⟨_, _, by decide +kernel, by decide +kernel, b_BadRow, d_BadRow, t_BadRow, s_BadRow, r_BadRow⟩
    · have z := hc.symm.trans g_BadQuestion
      cases z
      exact ⟨_, _, by decide +kernel, by decide +kernel, b_BadQuestion, d_BadQuestion, t_BadQuestion, s_BadQuestion, r_BadQuestion⟩
    · have z := hc.symm.trans g_BadPaper
      cases z
      exact ⟨_, _, by decide +kernel, by decide +kernel, b_BadPaper, d_BadPaper, t_BadPaper, s_BadPaper, r_BadPaper⟩
    · have z := hc.symm.trans g_Misfit
      cases z
      exact ⟨_, _, by decide +kernel, by decide +kernel, b_Misfit, d_Misfit, t_Misfit, s_Misfit, r_Misfit⟩
    · have z := hc.symm.trans g_BadText
      cases z
      exact ⟨_, _, by decide +kernel, by decide +kernel, b_BadText, d_BadText, t_BadText, s_BadText, r_BadText⟩
    · have z := hc.symm.trans g_BadCommand
      cases z
      exact ⟨_, _, by decide +kernel, by decide +kernel, b_BadCommand, d_BadCommand, t_BadCommand, s_BadCommand, r_BadCommand⟩
    · have z := hc.symm.trans g_TooMany
      cases z
      exact ⟨_, _, by decide +kernel, by decide +kernel, b_TooMany, d_TooMany, t_TooMany, s_TooMany, r_TooMany⟩
  have key : ∀ (c : Str) {Cc : Addr}, mg c = some (.ref Cc) → ∀ y C b, mg y = some (.ref C) → isC c y = some b → ExcC K C ∧ PySem.W.kitOne K (.ref C) (.ref Cc) = some b ∧ PySem.W.exmOne K (.ref C) (.ref Cc) = some b := fun c Cc hc y C b hy hb => by
    unfold isC at hb
    split at hb
    · rename_i he
      split at hb
      · rename_i hr
        have hb' := Option.some.inj hb
        obtain ⟨s1, s2, h1, h2, b1, b2, b3, b4, b5⟩ := all c hc he
        rcases ysplit y C hy hr with ⟨rfl, rfl⟩ | ⟨rfl, rfl⟩
        · have : s1 = b := h1.trans hb'
          subst this
          exact ⟨Y1.e, kit_ref b2 b3 b4 Y1.self, PySem.W.exm_ref b1 b2 b3 b4⟩
        · have : s2 = b := h2.trans hb'
          subst this
          exact ⟨Y2.e, kit_ref b2 b3 b5 Y2.self, PySem.W.exm_ref b1 b2 b3 b5⟩
      · cases hb
    · cases hb
  exact ⟨{ k_ONE := k1, k_MOST_DEGREE := k2
           a_CodeError := a_CodeError, g_CodeError := g_CodeError
           a_BadNumber := a_BadNumber, g_BadNumber := g_BadNumber
           a_BadBits := C1, g_BadBits := g1
           a_BadTable := a_BadTable, g_BadTable := g_BadTable
           a_BadBook := a_BadBook, g_BadBook := g_BadBook
           a_BadRow := C2, g_BadRow := g2
           a_BadQuestion := a_BadQuestion, g_BadQuestion := g_BadQuestion
           a_BadPaper := a_BadPaper, g_BadPaper := g_BadPaper
           a_Misfit := a_Misfit, g_Misfit := g_Misfit
           a_BadText := a_BadText, g_BadText := g_BadText
           a_BadCommand := a_BadCommand, g_BadCommand := g_BadCommand
           a_TooMany := a_TooMany, g_TooMany := g_TooMany
           f_BadBits := f1, x_BadBits := x1, f_BadRow := f2, x_BadRow := x2
           isX := fun c Cc hc y C b hy hb => ⟨(key c hc y C b hy hb).1, (key c hc y C b hy hb).2.1⟩
           isVe := fun y C b hy hb => by
             unfold isV at hb
             split at hb
             · rename_i hr
               cases hb
               rcases ysplit y C hy hr with ⟨rfl, rfl⟩ | ⟨rfl, rfl⟩
               · exact ⟨Y1.e, kit_ve Y1.ve⟩
               · exact ⟨Y2.e, kit_ve Y2.ve⟩
             · cases hb
           exm := fun c Cc hc y C b hy hb => (key c hc y C b hy hb).2.2
           hF := fun n y C hy hb => by
             unfold okF at hb
             obtain ⟨q1, q2⟩ := Bool.and_eq_true_iff.mp hb
             have q1 := of_decide_eq_true q1
             subst q1
             rcases ysplit y C hy (of_decide_eq_true q2) with ⟨rfl, rfl⟩ | ⟨rfl, rfl⟩
             · exact ⟨Y1.x, Y1.noN⟩
             · exact ⟨Y2.x, Y2.noN⟩ }, trivial⟩
end
end T76

set_option Elab.async false
set_option linter.all false
set_option maxRecDepth 100000
set_option maxHeartbeats 4000000
namespace T76
open PySem PySem.Spec PyProof.Rows L2 DV PySem.HandSPX
theorem cx_no {P : Program} {w : World} {H : Hp} {s s' : Shared} {e : Value} (z : L2.CX P w [] H s (fun _ _ _ => False) e s') : False := by
  obtain ⟨_, _, _, _, _, _, _, _, _, _, _, _, z⟩ := z
  exact z
theorem law_fin {l : PySem.W.OpenLaw} {w : World} {K : PySem.W.Frag} {mg : Str → Option Value} {fa cr TP C1 C2 f1 f2 : Addr} {t1 t2} {h : Heap} {nn : Nat} (X : K.In h) (G : h.Ns mainGlobals mg) (hfa : mg "law" = some (.ref fa)) (hT : h.get? TP = some { cls := .none, data := .fields #[] })
    (n1 : PySem.W.nsIn K mainGlobals "BadBits" = some (some (.ref C1))) (n2 : PySem.W.nsIn K mainGlobals "BadRow" = some (some (.ref C2)))
    (D_law : DefF K mg "law" s_law fun _ => True)
    (D__law_pen : DefF K mg "_law_pen" s__law_pen fun _ => True)
    (D__law_draw : DefF K mg "_law_draw" s__law_draw fun _ => True)
    (D__law_pick : DefF K mg "_law_pick" s__law_pick fun _ => True)
    (D__law_bits : DefF K mg "_law_bits" s__law_bits fun _ => True)
    (D__law_change : DefF K mg "_law_change" s__law_change fun _ => True)
    (D__law_guard : DefF K mg "_law_guard" s__law_guard fun _ => True)
    (D__law_places : DefF K mg "_law_places" s__law_places fun _ => True)
    (D__law_heard : DefF K mg "_law_heard" s__law_heard fun _ => True)
    (D_is_listed : DefF K mg "is_listed" s_is_listed fun _ => True)
    (D_is_integer : DefF K mg "is_integer" s_is_integer fun _ => True)
    (D_is_within : DefF K mg "is_within" s_is_within fun _ => True)
    (D_is_change : DefF K mg "is_change" s_is_change fun _ => True)
    (D_is_bits : DefF K mg "is_bits" s_is_bits fun _ => True)
    (D_need_bits : DefF K mg "need_bits" s_need_bits fun _ => True)
    (D_with_changes : DefF K mg "with_changes" s_with_changes fun _ => True)
    (D_changed : DefF K mg "changed" s_changed fun _ => True)
    (D_is_guard : DefF K mg "is_guard" s_is_guard fun _ => True)
    (D_need_guard : DefF K mg "need_guard" s_need_guard fun _ => True)
    (D_degree_of : DefF K mg "degree_of" s_degree_of fun _ => True)
    (D_bits_of_rest : DefF K mg "bits_of_rest" s_bits_of_rest fun _ => True)
    (D_rest_number : DefF K mg "rest_number" s_rest_number fun _ => True)
    (D_rest_of : DefF K mg "rest_of" s_rest_of fun _ => True)
    (D_rest_by : DefF K mg "rest_by" s_rest_by fun _ => True)
    (D_guarded : DefF K mg "guarded" s_guarded fun _ => True)
    (D_with_guard : DefF K mg "with_guard" s_with_guard fun _ => True)
    (D__law_refused : DefF K mg "_law_refused" s__law_refused fun c => c = cr)
    (D__law_rest : DefF K mg "_law_rest" s__law_rest fun _ => True)
    (D__law_sum : DefF K mg "_law_sum" s__law_sum fun _ => True)
    (D__law_with_guard : DefF K mg "_law_with_guard" s__law_with_guard fun _ => True)
    (D__law_right : DefF K mg "_law_right" s__law_right fun _ => True)
    (hcd : PySem.W.codeHdIn K cr TP = true) (nT : K.lookup TP = none) (B : Blt mg) (k1 : PySem.W.nsIn K mainGlobals "ONE" = some (some (.str "1" t1))) (k2 : PySem.W.nsIn K mainGlobals "MOST_DEGREE" = some (some (.int 16 t2))) (Y1 : YF K C1) (Y2 : YF K C2)
    (E_CodeError : ErF K mg "CodeError" true true C1 C2) (E_BadNumber : ErF K mg "BadNumber" false false C1 C2) (E_BadBits : ErF K mg "BadBits" true false C1 C2) (E_BadTable : ErF K mg "BadTable" false false C1 C2) (E_BadBook : ErF K mg "BadBook" false false C1 C2) (E_BadRow : ErF K mg "BadRow" false true C1 C2) (E_BadQuestion : ErF K mg "BadQuestion" false false C1 C2) (E_BadPaper : ErF K mg "BadPaper" false false C1 C2) (E_Misfit : ErF K mg "Misfit" false false C1 C2) (E_BadText : ErF K mg "BadText" false false C1 C2) (E_BadCommand : ErF K mg "BadCommand" false false C1 C2) (E_TooMany : ErF K mg "TooMany" false false C1 C2)
    (x1 : ExT l.prog K "BadBits" "BadBits.__init__" "part" "part" "no right bits" (inClass (top 3) 0) C1 f1) (x2 : ExT l.prog K "BadRow" "BadRow.__init__" "part" "part" "no right row" (inClass (top 6) 0) C2 f2) :
    LamX.LawAtS l w K (L2.CX l.prog w) 10 nn "script" mg fa h := by
  obtain ⟨M, -⟩ := md_of (P := l.prog) ⟨_, PySem.W.mg_of X G k1⟩ ⟨_, PySem.W.mg_of X G k2⟩ (PySem.W.mg_of X G n1) (PySem.W.mg_of X G n2) Y1 Y2 E_CodeError E_BadNumber E_BadBits E_BadTable E_BadBook E_BadRow E_BadQuestion E_BadPaper E_Misfit E_BadText E_BadCommand E_TooMany x1 x2
  exact law_at X G hfa hcd hT nT B M D_law D__law_pen D__law_draw D__law_pick D__law_bits D__law_change D__law_guard D__law_places D__law_heard D_is_listed D_is_integer D_is_within D_is_change D_is_bits D_need_bits D_with_changes D_changed D_is_guard D_need_guard D_degree_of D_bits_of_rest D_rest_number D_rest_of D_rest_by D_guarded D_with_guard D__law_refused D__law_rest D__law_sum D__law_with_guard D__law_right
end T76

set_option Elab.async false
set_option linter.all false
set_option maxRecDepth 100000
open PySem PySem.W PyProof.Rows
set_option maxRecDepth 100000 in
set_option maxHeartbeats 0 in
theorem PySem.Challenge.cw_askedcodes_k76_rests_and_changes_holds : PySem.Challenge.rw_askedcodes_k76_rests_and_changes.Holds := by
  w_on; o_law; k_head; (case hw => w_witness2)
  k_fill
  refine LamX.walk_ofTs (l := PySem.Challenge.rw_askedcodes_k76_rests_and_changes) (k := 10) (x := "script") (CX := fun w => L2.CX PySem.Challenge.rw_askedcodes_k76_rests_and_changes.prog w) rfl (by decide +kernel) rfl ⟨rfl, by decide, by decide⟩ (fun w h Y => PySem.W.km_in_of Y) ?F (fun _ _ _ _ _ z => T76.cx_no z)
  case F =>
    intro w mg fa h Y KX G hmg
    have hT := PySem.W.km_tabs_of Y 443 (by k_mem)
    refine' T76.law_fin KX G hmg hT ?n1 ?n2 ?D_law ?D__law_pen ?D__law_draw ?D__law_pick ?D__law_bits ?D__law_change ?D__law_guard ?D__law_places ?D__law_heard ?D_is_listed ?D_is_integer ?D_is_within ?D_is_change ?D_is_bits ?D_need_bits ?D_with_changes ?D_changed ?D_is_guard ?D_need_guard ?D_degree_of ?D_bits_of_rest ?D_rest_number ?D_rest_of ?D_rest_by ?D_guarded ?D_with_guard ?D__law_refused ?D__law_rest ?D__law_sum ?D__law_with_guard ?D__law_right ?hcd ?nT ?B ?k1 ?k2 ?Y1 ?Y2 ?E_CodeError ?E_BadNumber ?E_BadBits ?E_BadTable ?E_BadBook ?E_BadRow ?E_BadQuestion ?E_BadPaper ?E_Misfit ?E_BadText ?E_BadCommand ?E_TooMany ?x1 ?x2
    (case n1 => k_is); (case n2 => k_is); (case k1 => k_is); (case k2 => k_is)
    (case D_law => refine' T76.defF_of KX G ?a ?l ?k ?c trivial; (case a => k_is); (case l => k_is); (case k => k_is); (case c => k_is))
    (case D__law_pen => refine' T76.defF_of KX G ?a ?l ?k ?c trivial; (case a => k_is); (case l => k_is); (case k => k_is); (case c => k_is))
    (case D__law_draw => refine' T76.defF_of KX G ?a ?l ?k ?c trivial; (case a => k_is); (case l => k_is); (case k => k_is); (case c => k_is))
    (case D__law_pick => refine' T76.defF_of KX G ?a ?l ?k ?c trivial; (case a => k_is); (case l => k_is); (case k => k_is); (case c => k_is))
    (case D__law_bits => refine' T76.defF_of KX G ?a ?l ?k ?c trivial; (case a => k_is); (case l => k_is); (case k => k_is); (case c => k_is))
    (case D__law_change => refine' T76.defF_of KX G ?a ?l ?k ?c trivial; (case a => k_is); (case l => k_is); (case k => k_is); (case c => k_is))
    (case D__law_guard => refine' T76.defF_of KX G ?a ?l ?k ?c trivial; (case a => k_is); (case l => k_is); (case k => k_is); (case c => k_is))
    (case D__law_places => refine' T76.defF_of KX G ?a ?l ?k ?c trivial; (case a => k_is); (case l => k_is); (case k => k_is); (case c => k_is))
    (case D__law_heard => refine' T76.defF_of KX G ?a ?l ?k ?c trivial; (case a => k_is); (case l => k_is); (case k => k_is); (case c => k_is))
    (case D_is_listed => refine' T76.defF_of KX G ?a ?l ?k ?c trivial; (case a => k_is); (case l => k_is); (case k => k_is); (case c => k_is))
    (case D_is_integer => refine' T76.defF_of KX G ?a ?l ?k ?c trivial; (case a => k_is); (case l => k_is); (case k => k_is); (case c => k_is))
    (case D_is_within => refine' T76.defF_of KX G ?a ?l ?k ?c trivial; (case a => k_is); (case l => k_is); (case k => k_is); (case c => k_is))
    (case D_is_change => refine' T76.defF_of KX G ?a ?l ?k ?c trivial; (case a => k_is); (case l => k_is); (case k => k_is); (case c => k_is))
    (case D_is_bits => refine' T76.defF_of KX G ?a ?l ?k ?c trivial; (case a => k_is); (case l => k_is); (case k => k_is); (case c => k_is))
    (case D_need_bits => refine' T76.defF_of KX G ?a ?l ?k ?c trivial; (case a => k_is); (case l => k_is); (case k => k_is); (case c => k_is))
    (case D_with_changes => refine' T76.defF_of KX G ?a ?l ?k ?c trivial; (case a => k_is); (case l => k_is); (case k => k_is); (case c => k_is))
    (case D_changed => refine' T76.defF_of KX G ?a ?l ?k ?c trivial; (case a => k_is); (case l => k_is); (case k => k_is); (case c => k_is))
    (case D_is_guard => refine' T76.defF_of KX G ?a ?l ?k ?c trivial; (case a => k_is); (case l => k_is); (case k => k_is); (case c => k_is))
    (case D_need_guard => refine' T76.defF_of KX G ?a ?l ?k ?c trivial; (case a => k_is); (case l => k_is); (case k => k_is); (case c => k_is))
    (case D_degree_of => refine' T76.defF_of KX G ?a ?l ?k ?c trivial; (case a => k_is); (case l => k_is); (case k => k_is); (case c => k_is))
    (case D_bits_of_rest => refine' T76.defF_of KX G ?a ?l ?k ?c trivial; (case a => k_is); (case l => k_is); (case k => k_is); (case c => k_is))
    (case D_rest_number => refine' T76.defF_of KX G ?a ?l ?k ?c trivial; (case a => k_is); (case l => k_is); (case k => k_is); (case c => k_is))
    (case D_rest_of => refine' T76.defF_of KX G ?a ?l ?k ?c trivial; (case a => k_is); (case l => k_is); (case k => k_is); (case c => k_is))
    (case D_rest_by => refine' T76.defF_of KX G ?a ?l ?k ?c trivial; (case a => k_is); (case l => k_is); (case k => k_is); (case c => k_is))
    (case D_guarded => refine' T76.defF_of KX G ?a ?l ?k ?c trivial; (case a => k_is); (case l => k_is); (case k => k_is); (case c => k_is))
    (case D_with_guard => refine' T76.defF_of KX G ?a ?l ?k ?c trivial; (case a => k_is); (case l => k_is); (case k => k_is); (case c => k_is))
    (case D__law_refused => refine' T76.defF_of KX G ?a ?l ?k ?c rfl; (case a => k_is); (case l => k_is); (case k => k_is); (case c => k_is))
    (case D__law_rest => refine' T76.defF_of KX G ?a ?l ?k ?c trivial; (case a => k_is); (case l => k_is); (case k => k_is); (case c => k_is))
    (case D__law_sum => refine' T76.defF_of KX G ?a ?l ?k ?c trivial; (case a => k_is); (case l => k_is); (case k => k_is); (case c => k_is))
    (case D__law_with_guard => refine' T76.defF_of KX G ?a ?l ?k ?c trivial; (case a => k_is); (case l => k_is); (case k => k_is); (case c => k_is))
    (case D__law_right => refine' T76.defF_of KX G ?a ?l ?k ?c trivial; (case a => k_is); (case l => k_is); (case k => k_is); (case c => k_is))
    (case hcd => kernel_rfl)
    (case nT => kernel_rfl)
    (case B => constructor <;> (refine PySem.W.mg_none_of KX G ?_; k_is))
    (case Y1 => constructor <;> k_is)
    (case Y2 => constructor <;> k_is)
    (case E_CodeError => refine' T76.erF_of KX G ?a ?b ?d ?e ?f ?g; (case a => k_is); (case b => k_is); (case d => k_is); (case e => k_is); (case f => k_is); (case g => k_is))
    (case E_BadNumber => refine' T76.erF_of KX G ?a ?b ?d ?e ?f ?g; (case a => k_is); (case b => k_is); (case d => k_is); (case e => k_is); (case f => k_is); (case g => k_is))
    (case E_BadBits => refine' T76.erF_of KX G ?a ?b ?d ?e ?f ?g; (case a => k_is); (case b => k_is); (case d => k_is); (case e => k_is); (case f => k_is); (case g => k_is))
    (case E_BadTable => refine' T76.erF_of KX G ?a ?b ?d ?e ?f ?g; (case a => k_is); (case b => k_is); (case d => k_is); (case e => k_is); (case f => k_is); (case g => k_is))
    (case E_BadBook => refine' T76.erF_of KX G ?a ?b ?d ?e ?f ?g; (case a => k_is); (case b => k_is); (case d => k_is); (case e => k_is); (case f => k_is); (case g => k_is))
    (case E_BadRow => refine' T76.erF_of KX G ?a ?b ?d ?e ?f ?g; (case a => k_is); (case b => k_is); (case d => k_is); (case e => k_is); (case f => k_is); (case g => k_is))
    (case E_BadQuestion => refine' T76.erF_of KX G ?a ?b ?d ?e ?f ?g; (case a => k_is); (case b => k_is); (case d => k_is); (case e => k_is); (case f => k_is); (case g => k_is))
    (case E_BadPaper => refine' T76.erF_of KX G ?a ?b ?d ?e ?f ?g; (case a => k_is); (case b => k_is); (case d => k_is); (case e => k_is); (case f => k_is); (case g => k_is))
    (case E_Misfit => refine' T76.erF_of KX G ?a ?b ?d ?e ?f ?g; (case a => k_is); (case b => k_is); (case d => k_is); (case e => k_is); (case f => k_is); (case g => k_is))
    (case E_BadText => refine' T76.erF_of KX G ?a ?b ?d ?e ?f ?g; (case a => k_is); (case b => k_is); (case d => k_is); (case e => k_is); (case f => k_is); (case g => k_is))
    (case E_BadCommand => refine' T76.erF_of KX G ?a ?b ?d ?e ?f ?g; (case a => k_is); (case b => k_is); (case d => k_is); (case e => k_is); (case f => k_is); (case g => k_is))
    (case E_TooMany => refine' T76.erF_of KX G ?a ?b ?d ?e ?f ?g; (case a => k_is); (case b => k_is); (case d => k_is); (case e => k_is); (case f => k_is); (case g => k_is))
    (case x1 =>
      refine' T76.ext_BadBits rfl ?p_cls ?p_bmv ?p_sa ?p_noN ?p_iC ?p_tC ?p_kC ?p_exC ?p_veC ?p_tyC ?p_lk ?p_cd ?p_cdo ?p_v2 ?p_vf ?p_cel ?p_sup ?p_opq ?p_along
      (case p_cls => k_is); (case p_bmv => rfl); (case p_sa => k_is); (case p_noN => k_is); (case p_iC => k_is); (case p_tC => k_is); (case p_kC => k_is); (case p_exC => k_is); (case p_veC => k_is); (case p_tyC => k_is)
      (case p_lk => k_is); (case p_cd => k_is); (case p_cdo => k_is); (case p_v2 => rfl); (case p_vf => first | rfl | decide +kernel); (case p_cel => k_is); (case p_sup => k_is); (case p_opq => k_is); (case p_along => first | kernel_rfl | rfl))
    (case x2 =>
      refine' T76.ext_BadRow rfl ?q_cls ?q_bmv ?q_sa ?q_noN ?q_iC ?q_tC ?q_kC ?q_exC ?q_veC ?q_tyC ?q_lk ?q_cd ?q_cdo ?q_v2 ?q_vf ?q_cel ?q_sup ?q_opq ?q_along
      (case q_cls => k_is); (case q_bmv => rfl); (case q_sa => k_is); (case q_noN => k_is); (case q_iC => k_is); (case q_tC => k_is); (case q_kC => k_is); (case q_exC => k_is); (case q_veC => k_is); (case q_tyC => k_is)
      (case q_lk => k_is); (case q_cd => k_is); (case q_cdo => k_is); (case q_v2 => rfl); (case q_vf => first | rfl | decide +kernel); (case q_cel => k_is); (case q_sup => k_is); (case q_opq => k_is); (case q_along => first | kernel_rfl | rfl))
