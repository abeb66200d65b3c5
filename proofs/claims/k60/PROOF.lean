import PyProof.Rows.All
import Wide.All
import OpenK.AllK
import Wide.FinOn
import HandS.ForExc
import HandS.ForMost
import HandS.TupAny
import HandS.TupLe
import HandS.Deep
import HandS.TupLen
import HandS.Zip
import HandS.RevRange
import HandS.Conv
import HandS.Small
import HandS.Comp
import HandS.Iter
import HandS.ExcOwn
import HandS.WordsExc
import HandS.Text
import HandS.StrMore
import HandS.ExcInit
import HandS.ExcField
import KE.KExcSuper
import KE.KSuper
import HandS.TryOnly
import HandS.More
import HandS.CallLocal
import PySem.Challenge.RW_symhouse_k60_named_groups
set_option Elab.async false
set_option linter.all false
set_option autoImplicit false
set_option maxRecDepth 100000
/-! A layer over HandS: programs as functions over values and a small heap of their own. -/
namespace G
open PySem PySem.Spec PyProof.Rows L2

/-- values: tuples and lists that are only read are values; what is changed stands in the heap by its number -/
inductive LV where
  | non | bl (b : Bool) | int (i : Int) | str (x : Str) | tup (xs : List LV) | ktp (xs : List LV) | lst (xs : List LV) | frz (xs : List LV) | ref (n : Nat) | fn (x : Str)
inductive LO where
  | lst (xs : List LV) | dic (t : Bool) (kvs : List (LV × LV)) | ins (c : Str) (fs : List (Str × LV)) | lkd (t : Bool) (kvs : List (LV × LV))
abbrev LH := List LO
abbrev LSt := List (Option LV)
structure LEx where
  cls : Str
  fs : List (Str × LV)
inductive Res (α : Type) where
  | ok (a : α) (h : LH) | err (e : LEx) (h : LH) | bad
def Res.bind {α β : Type} (r : Res α) (k : α → LH → Res β) : Res β :=
  match r with
  | .ok a h => k a h
  | .err e h => .err e h
  | .bad => .bad
inductive Fl where
  | nx | bk | ct | rt (v : LV)
inductive SR where
  | ok (f : Fl) (ls : LSt) (h : LH) | err (e : LEx) (ls : LSt) (h : LH) | bad

/-- where the program's objects stand, and all addresses whose lists are not values -/
structure Mp where
  ι : List Addr
  M : Addr → Prop
  sub : ∀ a, a ∈ ι → M a

section
variable (K : PySem.W.Frag) (mg : Str → Option Value) (m : Mp) (H : Hp)
def TupAt (a : Addr) (vs : List V) : Prop := H a = some (.tup vs) ∧ ¬ m.M a
def KtpAt (a : Addr) (vs : List V) : Prop := SqT K (fun _ => none) a vs
def LstAt (a : Addr) (vs : List V) : Prop := H a = some (.lst vs) ∧ ¬ m.M a
def FrzAt (a : Addr) (vs : List V) : Prop := (Rd H a (.lst vs) ∧ ¬ m.M a) ∨ SqL K (fun _ => none) a vs
mutual
def Rv : LV → V → Prop
  | .non, x => x = .non
  | .bl b, x => x = .bl b
  | .int i, x => x = .int i
  | .str s, x => x = .str s
  | .tup xs, x => ∃ a vs, x = .ref a ∧ TupAt m H a vs ∧ RvL xs vs
  | .ktp xs, x => ∃ a vs, x = .ref a ∧ KtpAt K a vs ∧ RvL xs vs
  | .lst xs, x => ∃ a vs, x = .ref a ∧ LstAt m H a vs ∧ RvL xs vs
  | .frz xs, x => ∃ a vs, x = .ref a ∧ FrzAt K m H a vs ∧ RvL xs vs
  | .ref n, x => ∃ a, m.ι[n]? = some a ∧ x = .ref a
  | .fn f, x => ∃ a, mg f = some (.ref a) ∧ x = .ref a
def RvL : List LV → List V → Prop
  | [], vs => vs = []
  | v :: r, vs => ∃ x t, vs = x :: t ∧ Rv v x ∧ RvL r t
end
/-- keys of dicts -/
def kOf : LV → Option Key
  | .int i => some (.inl i)
  | .str s => some (.inr s)
  | _ => none
def ksOf : List LV → Option (List Key)
  | [] => some []
  | v :: r => match kOf v, ksOf r with
    | some k, some ks => some (k :: ks)
    | _, _ => none
def tkOf : LV → Option (List Key)
  | .tup xs => ksOf xs
  | _ => none
def RD {κ : Type} (key : LV → Option κ) : List (LV × LV) → List (κ × V) → Prop
  | [], ps => ps = []
  | (k, v) :: r, ps => ∃ c x t, ps = (c, x) :: t ∧ key k = some c ∧ Rv K mg m H v x ∧ RD key r t
def RF : List (Str × LV) → List (Str × V) → Prop
  | [], ps => ps = []
  | (k, v) :: r, ps => ∃ x t, ps = (k, x) :: t ∧ Rv K mg m H v x ∧ RF r t
def RO : LO → Addr → Prop
  | .lst xs, a => ∃ vs, H a = some (.lst vs) ∧ RvL K mg m H xs vs
  | .dic false kvs, a => ∃ ps, H a = some (.dK ps) ∧ RD K mg m H kOf kvs ps
  | .dic true kvs, a => ∃ ps, H a = some (.dT ps) ∧ RD K mg m H tkOf kvs ps
  | .ins c fs, a => ∃ C dx ps, mg c = some (.ref C) ∧ H a = some (.ins C dx ps) ∧ RF K mg m H fs ps
  | .lkd false kvs, a => ∃ o ps, H a = some (.frz o (.dK ps)) ∧ RD K mg m H kOf kvs ps
  | .lkd true kvs, a => ∃ o ps, H a = some (.frz o (.dT ps)) ∧ RD K mg m H tkOf kvs ps
structure Sim (L : LH) : Prop where
  len : m.ι.length = L.length
  nd : m.ι.Nodup
  ob : ∀ (n : Nat) (lo : LO) (a : Addr), L[n]? = some lo → m.ι[n]? = some a → RO K mg m H lo a
  live : ∀ a, m.M a → ∃ o, H a = some o
def RS (ls : LSt) (σ : L2.St) : Prop := ls.length = σ.length ∧ ∀ (i : Nat) (v : LV), ls[i]? = some (some v) → ∃ x, σ[i]? = some (some x) ∧ Rv K mg m H v x
end
structure Fr (m : Mp) (H : Hp) (m' : Mp) (H' : Hp) : Prop where
  pre : m.ι <+: m'.ι
  keep : ∀ b o, H b = some o → b ∉ m.ι → H' b = some o
  newi : ∀ b, b ∈ m'.ι → b ∈ m.ι ∨ H b = none
  newm : ∀ b, m'.M b → m.M b ∨ H b = none
  mono : ∀ b, m.M b → m'.M b
  fz : ∀ b o u, H b = some (.frz o u) → b ∈ m.ι → H' b = some (.frz o u)

section
variable {K : PySem.W.Frag} {mg : Str → Option Value} {m m' m2 : Mp} {H H' H2 : Hp} {L L' : LH}
theorem Fr.refl : Fr m H m H := ⟨List.prefix_refl _, fun _ _ h _ => h, fun _ h => .inl h, fun _ h => .inl h, fun _ h => h, fun _ _ _ h _ => h⟩
theorem Fr.back (p : Fr m H m' H') {b : Addr} (z : H' b = none) : b ∈ m.ι ∨ H b = none := by
  by_cases hi : b ∈ m.ι
  · exact .inl hi
  · refine .inr ?_
    cases e : H b with
    | none => rfl
    | some o => rw [p.keep b o e hi] at z; cases z
theorem Fr.trans (p : Fr m H m' H') (q : Fr m' H' m2 H2) : Fr m H m2 H2 := by
  refine ⟨p.pre.trans q.pre, fun b o h n => ?_, fun b hb => ?_, fun b hb => ?_, fun b hb => q.mono b (p.mono b hb), fun b o u h n => q.fz b o u (p.fz b o u h n) (p.pre.subset n)⟩
  · have h' := p.keep b o h n
    refine q.keep b o h' fun hb => ?_
    rcases p.newi b hb with z | z
    · exact n z
    · rw [h] at z; cases z
  · rcases q.newi b hb with z | z
    · exact p.newi b z
    · exact p.back z
  · rcases q.newm b hb with z | z
    · exact p.newm b z
    · rcases p.back z with y | y
      · exact .inl (m.sub b y)
      · exact .inr y
/-- less is kept: what is no value's may change -/
structure Fr1 (m : Mp) (H : Hp) (m' : Mp) (H' : Hp) : Prop where
  pre : m.ι <+: m'.ι
  keep : ∀ b o, H b = some o → ¬ m.M b → H' b = some o
  newm : ∀ b, m'.M b → m.M b ∨ H b = none
theorem Fr.to1 (p : Fr m H m' H') : Fr1 m H m' H' := ⟨p.pre, fun b o h n => p.keep b o h fun z => n (m.sub b z), p.newm⟩
theorem Fr1.poke {D : Addr} {o : HO} (p : Fr1 m H m' H') (hD : m.M D) : Fr1 m H m' (L2.upd H' D o) :=
  ⟨p.pre, fun b u e n => by rw [upd_ne (fun z => n (by rw [z]; exact hD))]; exact p.keep b u e n, p.newm⟩
theorem Fr1.then (p : Fr1 m H m' H') (q : Fr m' H' m2 H2) : Fr1 m H m2 H2 := by
  refine ⟨p.pre.trans q.pre, fun b o h n => ?_, fun b hb => ?_⟩
  · have h' := p.keep b o h n
    refine q.keep b o h' fun hb => ?_
    rcases p.newm b (m'.sub b hb) with z | z
    · exact n z
    · rw [h] at z; cases z
  · rcases q.newm b hb with z | z
    · exact p.newm b z
    · by_cases hm : m.M b
      · exact .inl hm
      · refine .inr ?_
        cases e : H b with
        | none => rfl
        | some o => rw [p.keep b o e hm] at z; cases z
/-- .. and what is locked stays locked -/
structure Fr2 (m : Mp) (H : Hp) (m' : Mp) (H' : Hp) : Prop extends Fr1 m H m' H' where
  fz : ∀ b o u, H b = some (.frz o u) → b ∈ m.ι → H' b = some (.frz o u)
theorem Fr.to2 (p : Fr m H m' H') : Fr2 m H m' H' := ⟨p.to1, p.fz⟩
theorem Fr2.poke {D : Addr} {o u : HO} (p : Fr2 m H m' H') (hD : m.M D) (he : H D = some u) (nf : ∀ q w, u ≠ .frz q w := by intro q w z; cases z) : Fr2 m H m' (L2.upd H' D o) :=
  ⟨p.toFr1.poke hD, fun b q w e h => by rw [upd_ne (fun z => by rw [z, he] at e; exact nf q w (Option.some.inj e))]; exact p.fz b q w e h⟩
theorem Fr2.then (p : Fr2 m H m' H') (q : Fr m' H' m2 H2) : Fr2 m H m2 H2 := ⟨p.toFr1.then q, fun b o u e h => q.fz b o u (p.fz b o u e h) (p.pre.subset h)⟩
theorem rd_keep (p : Fr1 m H m' H') {a : Addr} {o : HO} (h : Rd H a o) (n : ¬ m.M a) : Rd H' a o ∧ ¬ m'.M a := by
  have out : ∀ u, H a = some u → ¬ m'.M a := fun u e hb => by
    rcases p.newm a hb with z | z
    · exact n z
    · rw [e] at z; cases z
  rcases h with h | ⟨u, h⟩
  · exact ⟨.inl (p.keep _ _ h n), out _ h⟩
  · exact ⟨.inr ⟨u, p.keep _ _ h n⟩, out _ h⟩
theorem TupAt.mono1 (p : Fr1 m H m' H') {a : Addr} {vs : List V} (h : TupAt m H a vs) : TupAt m' H' a vs := by
  obtain ⟨h, n⟩ := h
  exact ⟨p.keep _ _ h n, (rd_keep p (.inl h) n).2⟩
theorem LstAt.mono1 (p : Fr1 m H m' H') {a : Addr} {vs : List V} (h : LstAt m H a vs) : LstAt m' H' a vs := by
  obtain ⟨h, n⟩ := h
  exact ⟨p.keep _ _ h n, (rd_keep p (.inl h) n).2⟩
theorem FrzAt.mono1 (p : Fr1 m H m' H') {a : Addr} {vs : List V} (h : FrzAt K m H a vs) : FrzAt K m' H' a vs := by
  rcases h with ⟨h, n⟩ | h
  · exact .inl (rd_keep p h n)
  · exact .inr h
theorem pre_get {ι ι' : List Addr} (p : ι <+: ι') {n : Nat} {a : Addr} (h : ι[n]? = some a) : ι'[n]? = some a := by
  obtain ⟨t, rfl⟩ := p
  obtain ⟨hn, _⟩ := List.getElem?_eq_some_iff.mp h
  rw [List.getElem?_append_left hn]
  exact h
mutual
theorem Rv.mono1 (p : Fr1 m H m' H') : ∀ (v : LV) (x : V), Rv K mg m H v x → Rv K mg m' H' v x
  | .non, _, h => h
  | .bl _, _, h => h
  | .int _, _, h => h
  | .str _, _, h => h
  | .tup xs, _, ⟨a, vs, e, t, r⟩ => ⟨a, vs, e, t.mono1 p, RvL.mono1 p xs vs r⟩
  | .ktp xs, _, ⟨a, vs, e, t, r⟩ => ⟨a, vs, e, t, RvL.mono1 p xs vs r⟩
  | .lst xs, _, ⟨a, vs, e, t, r⟩ => ⟨a, vs, e, t.mono1 p, RvL.mono1 p xs vs r⟩
  | .frz xs, _, ⟨a, vs, e, t, r⟩ => ⟨a, vs, e, t.mono1 p, RvL.mono1 p xs vs r⟩
  | .ref _, _, ⟨a, h, e⟩ => ⟨a, pre_get p.pre h, e⟩
  | .fn _, _, h => h
theorem RvL.mono1 (p : Fr1 m H m' H') : ∀ (xs : List LV) (vs : List V), RvL K mg m H xs vs → RvL K mg m' H' xs vs
  | [], _, h => h
  | v :: r, _, ⟨x, t, e, h, hr⟩ => ⟨x, t, e, Rv.mono1 p v x h, RvL.mono1 p r t hr⟩
end
theorem TupAt.mono (p : Fr m H m' H') {a : Addr} {vs : List V} (h : TupAt m H a vs) : TupAt m' H' a vs := h.mono1 p.to1
theorem LstAt.mono (p : Fr m H m' H') {a : Addr} {vs : List V} (h : LstAt m H a vs) : LstAt m' H' a vs := h.mono1 p.to1
theorem FrzAt.mono (p : Fr m H m' H') {a : Addr} {vs : List V} (h : FrzAt K m H a vs) : FrzAt K m' H' a vs := h.mono1 p.to1
theorem Rv.mono (p : Fr m H m' H') (v : LV) (x : V) (h : Rv K mg m H v x) : Rv K mg m' H' v x := Rv.mono1 p.to1 v x h
theorem RvL.mono (p : Fr m H m' H') (xs : List LV) (vs : List V) (h : RvL K mg m H xs vs) : RvL K mg m' H' xs vs := RvL.mono1 p.to1 xs vs h
/-- fewer addresses that are not values -/
def Mp.Le (m' m : Mp) : Prop := m'.ι = m.ι ∧ ∀ a, m'.M a → m.M a
mutual
theorem Rv.le (p : m'.Le m) : ∀ (v : LV) (x : V), Rv K mg m H v x → Rv K mg m' H v x
  | .non, _, h => h
  | .bl _, _, h => h
  | .int _, _, h => h
  | .str _, _, h => h
  | .tup xs, _, ⟨a, vs, e, t, r⟩ => ⟨a, vs, e, ⟨t.1, fun y => t.2 (p.2 a y)⟩, RvL.le p xs vs r⟩
  | .ktp xs, _, ⟨a, vs, e, t, r⟩ => ⟨a, vs, e, t, RvL.le p xs vs r⟩
  | .lst xs, _, ⟨a, vs, e, t, r⟩ => ⟨a, vs, e, ⟨t.1, fun y => t.2 (p.2 a y)⟩, RvL.le p xs vs r⟩
  | .frz xs, _, ⟨a, vs, e, t, r⟩ => ⟨a, vs, e, t.elim (fun z => .inl ⟨z.1, fun y => z.2 (p.2 a y)⟩) .inr, RvL.le p xs vs r⟩
  | .ref _, _, ⟨a, h, e⟩ => ⟨a, by rw [p.1]; exact h, e⟩
  | .fn _, _, h => h
theorem RvL.le (p : m'.Le m) : ∀ (xs : List LV) (vs : List V), RvL K mg m H xs vs → RvL K mg m' H xs vs
  | [], _, h => h
  | v :: r, _, ⟨x, t, e, h, hr⟩ => ⟨x, t, e, Rv.le p v x h, RvL.le p r t hr⟩
end
theorem RD.imp {κ : Type} {key : LV → Option κ} (p : ∀ v x, Rv K mg m H v x → Rv K mg m' H' v x) : ∀ {kvs : List (LV × LV)} {ps : List (κ × V)}, RD K mg m H key kvs ps → RD K mg m' H' key kvs ps
  | [], _, h => h
  | (k, v) :: r, _, ⟨c, x, t, e, hk, h, hr⟩ => ⟨c, x, t, e, hk, p v x h, RD.imp p hr⟩
theorem RF.imp (p : ∀ v x, Rv K mg m H v x → Rv K mg m' H' v x) : ∀ {fs : List (Str × LV)} {ps : List (Str × V)}, RF K mg m H fs ps → RF K mg m' H' fs ps
  | [], _, h => h
  | (k, v) :: r, _, ⟨x, t, e, h, hr⟩ => ⟨x, t, e, p v x h, RF.imp p hr⟩
theorem RO.imp (p : ∀ v x, Rv K mg m H v x → Rv K mg m' H' v x) (q : ∀ xs vs, RvL K mg m H xs vs → RvL K mg m' H' xs vs) : ∀ {lo : LO} {a : Addr}, H' a = H a → RO K mg m H lo a → RO K mg m' H' lo a
  | .lst xs, a, e, ⟨vs, h, r⟩ => ⟨vs, e.trans h, q xs vs r⟩
  | .dic false kvs, a, e, ⟨ps, h, r⟩ => ⟨ps, e.trans h, r.imp p⟩
  | .dic true kvs, a, e, ⟨ps, h, r⟩ => ⟨ps, e.trans h, r.imp p⟩
  | .ins c fs, a, e, ⟨C, dx, ps, hc, h, r⟩ => ⟨C, dx, ps, hc, e.trans h, r.imp p⟩
  | .lkd false kvs, a, e, ⟨o, ps, h, r⟩ => ⟨o, ps, e.trans h, r.imp p⟩
  | .lkd true kvs, a, e, ⟨o, ps, h, r⟩ => ⟨o, ps, e.trans h, r.imp p⟩
theorem RO.mono (p : Fr m H m' H') {lo : LO} {a : Addr} (e : H' a = H a) (h : RO K mg m H lo a) : RO K mg m' H' lo a := h.imp (Rv.mono p) (RvL.mono p) e
theorem RF.mono (p : Fr m H m' H') {fs : List (Str × LV)} {ps : List (Str × V)} (h : RF K mg m H fs ps) : RF K mg m' H' fs ps := h.imp (Rv.mono p)
theorem RS.mono (p : Fr m H m' H') {ls : LSt} {σ : L2.St} (h : RS K mg m H ls σ) : RS K mg m' H' ls σ :=
  ⟨h.1, fun i v e => let ⟨x, e', r⟩ := h.2 i v e; ⟨x, e', Rv.mono p v x r⟩⟩
theorem RO.has {lo : LO} {a : Addr} (h : RO K mg m H lo a) : ∃ o, H a = some o := by
  cases lo with
  | lst xs => obtain ⟨vs, h, _⟩ := h; exact ⟨_, h⟩
  | dic t kvs => cases t <;> (obtain ⟨ps, h, _⟩ := h; exact ⟨_, h⟩)
  | ins c fs => obtain ⟨_, _, _, _, h, _⟩ := h; exact ⟨_, h⟩
  | lkd t kvs => cases t <;> (obtain ⟨o, ps, h, _⟩ := h; exact ⟨_, h⟩)
theorem Sim.has (S : Sim K mg m H L) {a : Addr} (h : a ∈ m.ι) : ∃ o, H a = some o := S.live a (m.sub a h)
theorem Sim.out (S : Sim K mg m H L) {p : Addr} (h : H p = none) : ¬ m.M p := fun hp => by
  obtain ⟨o, e⟩ := S.live p hp
  rw [h] at e; cases e
theorem Sim.outi (S : Sim K mg m H L) {p : Addr} (h : H p = none) : p ∉ m.ι := fun hp => S.out h (m.sub p hp)
/-- new behind is new ahead -/
theorem Fr.fresh (f : Fr m H m' H') (S' : Sim K mg m' H' L') {p : Addr} (h : H' p = none) : H p = none := by
  rcases f.back h with z | z
  · exact absurd h (fun e => by obtain ⟨o, e'⟩ := S'.live p (f.mono p (m.sub p z)); rw [e] at e'; cases e')
  · exact z
/-- something else is new -/
theorem Fr.upd {p : Addr} {o : HO} (h : H p = none) : Fr m H m (L2.upd H p o) :=
  ⟨List.prefix_refl _, fun b u e _ => by rw [upd_ne (ne_of_none e h)]; exact e, fun _ h => .inl h, fun _ h => .inl h, fun _ h => h, fun b o u e _ => by rw [upd_ne (ne_of_none e h)]; exact e⟩
theorem Sim.mono (S : Sim K mg m H L) (f : Fr m H m H') (h : ∀ a, a ∈ m.ι → H' a = H a) (hl : ∀ a, m.M a → ∃ o, H' a = some o) : Sim K mg m H' L :=
  ⟨S.len, S.nd, fun n lo a e e' => (S.ob n lo a e e').mono f (h a (List.mem_of_getElem? e')), hl⟩
theorem Sim.upd (S : Sim K mg m H L) {p : Addr} {o : HO} (h : H p = none) : Sim K mg m (L2.upd H p o) L :=
  S.mono (Fr.upd h) (fun a ha => upd_ne fun e => S.outi h (e ▸ ha)) fun a ha => by
    obtain ⟨u, e⟩ := S.live a ha
    exact ⟨u, by rw [upd_ne (ne_of_none e h)]; exact e⟩
/-- one more address that is no value, one fewer -/
def Mp.add (m : Mp) (a : Addr) : Mp := ⟨m.ι, fun b => m.M b ∨ b = a, fun b h => .inl (m.sub b h)⟩
theorem Fr.add {a : Addr} (F : Fr m H m' H') (n : H a = none) : Fr m H (m'.add a) H' :=
  ⟨F.pre, F.keep, F.newi, fun b hb => hb.elim (F.newm b) fun e => .inr (e ▸ n), fun b hb => .inl (F.mono b hb), F.fz⟩
theorem Sim.le (S : Sim K mg m H L) (p : m'.Le m) : Sim K mg m' H L :=
  ⟨by rw [p.1]; exact S.len, by rw [p.1]; exact S.nd, fun n lo a e e' => (S.ob n lo a e (by rw [← p.1]; exact e')).imp (Rv.le p) (RvL.le p) rfl, fun a ha => S.live a (p.2 a ha)⟩
/-- it joins the program's heap -/
def Mp.push (m : Mp) (a : Addr) (h : m.M a) : Mp := ⟨m.ι ++ [a], m.M, fun b hb => by
  rcases List.mem_append.mp hb with z | z
  · exact m.sub b z
  · rw [List.mem_singleton] at z; exact z ▸ h⟩
theorem Fr.push {a : Addr} {h : m'.M a} (F : Fr m H m' H') (n : H a = none) : Fr m H (m'.push a h) H' :=
  ⟨F.pre.trans (List.prefix_append _ _), F.keep, fun b hb => by
    rcases List.mem_append.mp hb with z | z
    · exact F.newi b z
    · rw [List.mem_singleton] at z; exact .inr (z ▸ n), F.newm, F.mono, F.fz⟩
theorem Sim.add (S : Sim K mg m H L) {p : Addr} {o : HO} (h : H p = none) : Sim K mg (m.add p) (L2.upd H p o) L := by
  have F : Fr m H (m.add p) (L2.upd H p o) := (Fr.upd h).add h
  refine ⟨S.len, S.nd, fun n lo a e e' => (S.ob n lo a e e').mono F (upd_ne fun z => S.outi h (z ▸ List.mem_of_getElem? e')), fun a ha => ?_⟩
  rcases ha with ha | ha
  · obtain ⟨u, e⟩ := S.live a ha
    exact ⟨u, by rw [upd_ne (ne_of_none e h)]; exact e⟩
  · exact ⟨o, by rw [ha, upd_same]⟩
mutual
theorem Rv.push {a : Addr} {h : m.M a} : ∀ (v : LV) (x : V), Rv K mg m H v x → Rv K mg (m.push a h) H v x
  | .non, _, h => h
  | .bl _, _, h => h
  | .int _, _, h => h
  | .str _, _, h => h
  | .tup xs, _, ⟨a, vs, e, t, r⟩ => ⟨a, vs, e, t, RvL.push xs vs r⟩
  | .ktp xs, _, ⟨a, vs, e, t, r⟩ => ⟨a, vs, e, t, RvL.push xs vs r⟩
  | .lst xs, _, ⟨a, vs, e, t, r⟩ => ⟨a, vs, e, t, RvL.push xs vs r⟩
  | .frz xs, _, ⟨a, vs, e, t, r⟩ => ⟨a, vs, e, t, RvL.push xs vs r⟩
  | .ref _, _, ⟨a, h, e⟩ => ⟨a, pre_get (List.prefix_append _ _) h, e⟩
  | .fn _, _, h => h
theorem RvL.push {a : Addr} {h : m.M a} : ∀ (xs : List LV) (vs : List V), RvL K mg m H xs vs → RvL K mg (m.push a h) H xs vs
  | [], _, h => h
  | v :: r, _, ⟨x, t, e, h, hr⟩ => ⟨x, t, e, Rv.push v x h, RvL.push r t hr⟩
end
theorem Sim.push (S : Sim K mg m H L) {a : Addr} {h : m.M a} (n : a ∉ m.ι) {lo : LO} (r : RO K mg (m.push a h) H lo a) : Sim K mg (m.push a h) H (L ++ [lo]) := by
  refine ⟨by simp [Mp.push, S.len], ?_, fun k lo' b e e' => ?_, S.live⟩
  · show (m.ι ++ [a]).Nodup
    rw [List.nodup_append]
    exact ⟨S.nd, by simp, fun x hx y hy e => by rw [List.mem_singleton] at hy; subst hy; subst e; exact n hx⟩
  · have e2 : (m.ι ++ [a])[k]? = some b := e'
    clear e'
    by_cases hk : k < L.length
    · rw [List.getElem?_append_left hk] at e
      rw [List.getElem?_append_left (by rw [S.len]; exact hk)] at e2
      exact (S.ob k lo' b e e2).imp Rv.push RvL.push rfl
    · have hk' : k = L.length := by
        have := (List.getElem?_eq_some_iff.mp e).1
        simp at this; omega
      subst hk'
      rw [List.getElem?_append_right (Nat.le_refl _), Nat.sub_self] at e
      rw [← S.len, List.getElem?_append_right (Nat.le_refl _), Nat.sub_self] at e2
      cases e; cases e2
      exact r
/-- an object of the program's heap is changed -/
theorem Fr.put {a : Addr} {o u : HO} (h : a ∈ m.ι) (he : H a = some u) (nf : ∀ q w, u ≠ .frz q w := by intro q w z; cases z) : Fr m H m (L2.upd H a o) :=
  ⟨List.prefix_refl _, fun b u e n => by rw [upd_ne (fun z => n (by rw [z]; exact h))]; exact e, fun _ h => .inl h, fun _ h => .inl h, fun _ h => h, fun b q w e _ => by
    rw [upd_ne (fun z => by rw [z, he] at e; exact nf q w (Option.some.inj e))]; exact e⟩
theorem Fr1.put {a : Addr} {o : HO} (h : m.M a) : Fr1 m H m (L2.upd H a o) :=
  ⟨List.prefix_refl _, fun b u e n => by rw [upd_ne (fun z => n (by rw [z]; exact h))]; exact e, fun _ h => .inl h⟩
theorem Sim.put (S : Sim K mg m H L) {n : Nat} {a : Addr} {o : HO} {lo : LO} (hn : m.ι[n]? = some a) (r : RO K mg m (L2.upd H a o) lo a) : Sim K mg m (L2.upd H a o) (L.set n lo) := by
  have ha : a ∈ m.ι := List.mem_of_getElem? hn
  refine ⟨by rw [List.length_set]; exact S.len, S.nd, fun k lo' b e e' => ?_, fun b hb => ?_⟩
  · by_cases hk : n = k
    · subst hk
      rw [hn] at e'; cases e'
      have hl : n < L.length := by rw [← S.len]; exact (List.getElem?_eq_some_iff.mp hn).1
      rw [List.getElem?_set_self hl] at e
      cases e
      exact r
    · rw [List.getElem?_set_ne hk] at e
      refine (S.ob k lo' b e e').imp (Rv.mono1 (Fr1.put (m.sub a ha))) (RvL.mono1 (Fr1.put (m.sub a ha))) (upd_ne fun z => hk ?_)
      subst z
      obtain ⟨h1, e1⟩ := List.getElem?_eq_some_iff.mp hn
      obtain ⟨h2, e2⟩ := List.getElem?_eq_some_iff.mp e'
      exact (List.getElem_inj S.nd).mp (e1.trans e2.symm)
  · by_cases hb' : b = a
    · exact ⟨o, by rw [hb', upd_same]⟩
    · obtain ⟨u, e⟩ := S.live b hb
      exact ⟨u, by rw [upd_ne hb']; exact e⟩
end

section
variable {K : PySem.W.Frag} {mg : Str → Option Value} {m m' m2 : Mp} {H H' H2 : Hp} {L L' : LH}
theorem TupAt.sq {a : Addr} {vs : List V} (h : TupAt m H a vs) : SqT K H a vs := SqT.of h.1
theorem KtpAt.sq {a : Addr} {vs : List V} (h : KtpAt K a vs) : SqT K H a vs := by
  rcases h with h | h
  · rcases h with h | ⟨_, h⟩ <;> cases h
  · exact .inr h
theorem FrzAt.sq {a : Addr} {vs : List V} (h : FrzAt K m H a vs) : SqL K H a vs := by
  rcases h with ⟨h, _⟩ | h
  · exact .inl h
  · rcases h with h | h
    · rcases h with h | ⟨_, h⟩ <;> cases h
    · exact .inr h
theorem LstAt.sq {a : Addr} {vs : List V} (h : LstAt m H a vs) : SqL K H a vs := SqL.of h.1
theorem RvL.length : ∀ {xs : List LV} {vs : List V}, RvL K mg m H xs vs → vs.length = xs.length
  | [], _, h => by cases h; rfl
  | v :: r, _, ⟨x, t, e, _, h⟩ => by subst e; simp [RvL.length h]
theorem RvL.get : ∀ {xs : List LV} {vs : List V} {i : Nat} {v : LV}, RvL K mg m H xs vs → xs[i]? = some v → ∃ x, vs[i]? = some x ∧ Rv K mg m H v x
  | v :: r, _, 0, w, ⟨x, t, e, h, _⟩, q => by
    subst e
    cases (Option.some.inj q)
    exact ⟨x, rfl, h⟩
  | v :: r, _, i + 1, w, ⟨x, t, e, _, h⟩, q => by
    subst e
    obtain ⟨y, e, r⟩ := RvL.get (i := i) h q
    exact ⟨y, e, r⟩
theorem RvL.append : ∀ {xs ys : List LV} {vs us : List V}, RvL K mg m H xs vs → RvL K mg m H ys us → RvL K mg m H (xs ++ ys) (vs ++ us)
  | [], _, _, _, h, q => by cases h; exact q
  | v :: r, _, _, _, ⟨x, t, e, h, hr⟩, q => by subst e; exact ⟨x, t ++ _, rfl, h, RvL.append hr q⟩
theorem RvL.one {v : LV} {x : V} (h : Rv K mg m H v x) : RvL K mg m H [v] [x] := ⟨x, [], rfl, h, rfl⟩
theorem RvL.set : ∀ {xs : List LV} {vs : List V} (i : Nat) {v : LV} {x : V}, RvL K mg m H xs vs → Rv K mg m H v x → RvL K mg m H (xs.set i v) (vs.set i x)
  | [], _, _, _, _, h, _ => by cases h; exact rfl
  | _ :: _, _, 0, _, x, ⟨_, t, e, _, hr⟩, q => by subst e; exact ⟨x, t, rfl, q, hr⟩
  | _ :: _, _, i + 1, _, _, ⟨y, t, e, h, hr⟩, q => by subst e; exact ⟨y, _, rfl, h, RvL.set i hr q⟩
theorem RvL.take : ∀ {xs : List LV} {vs : List V} (n : Nat), RvL K mg m H xs vs → RvL K mg m H (xs.take n) (vs.take n)
  | [], _, n, h => by cases h; simp [RvL]
  | _ :: _, _, 0, _ => rfl
  | _ :: _, _, n + 1, ⟨y, t, e, h, hr⟩ => by subst e; exact ⟨y, _, rfl, h, RvL.take n hr⟩
theorem RvL.drop : ∀ {xs : List LV} {vs : List V} (n : Nat), RvL K mg m H xs vs → RvL K mg m H (xs.drop n) (vs.drop n)
  | [], _, n, h => by cases h; simp [RvL]
  | _ :: _, _, 0, h => h
  | _ :: _, _, n + 1, ⟨y, t, e, h, hr⟩ => by subst e; exact RvL.drop n hr
theorem RvL.eraseIdx : ∀ {xs : List LV} {vs : List V} (i : Nat), RvL K mg m H xs vs → RvL K mg m H (xs.eraseIdx i) (vs.eraseIdx i)
  | [], _, n, h => by cases h; simp [RvL]
  | _ :: _, _, 0, ⟨y, t, e, h, hr⟩ => by subst e; exact hr
  | _ :: _, _, n + 1, ⟨y, t, e, h, hr⟩ => by subst e; exact ⟨y, _, rfl, h, RvL.eraseIdx n hr⟩
theorem RvL.dropLast : ∀ {xs : List LV} {vs : List V}, RvL K mg m H xs vs → RvL K mg m H xs.dropLast vs.dropLast := fun {xs vs} h => by
  rw [List.dropLast_eq_take, List.dropLast_eq_take, h.length]
  exact h.take _
theorem RvL.reverse : ∀ {xs : List LV} {vs : List V}, RvL K mg m H xs vs → RvL K mg m H xs.reverse vs.reverse
  | [], _, h => by cases h; exact rfl
  | _ :: _, _, ⟨y, t, e, h, hr⟩ => by subst e; rw [List.reverse_cons, List.reverse_cons]; exact hr.reverse.append (.one h)
end

/-! ### posts -/
section
variable (X : Cx) (W : WX) (σ : L2.St) (m : Mp) (H : Hp)
/-- an exception's class and dict -/
def ExAt (K : PySem.W.Frag) (mg : Str → Option Value) (m : Mp) (H : Hp) (e : LEx) (C d : Addr) : Prop :=
  mg e.cls = some (.ref C) ∧ d ∉ m.ι ∧ ∃ ps, H d = some (.xd ps) ∧ RF K mg m H e.fs ps
def Post {α : Type} (ok : α → LH → Mp → Hp → Prop) : Res α → Prop
  | .ok v L' => ∀ m' H', Sim X.K X.mg m' H' L' → Fr m H m' H' → ok v L' m' H'
  | .err e L' => ∀ m' H' C d, Sim X.K X.mg m' H' L' → Fr m H m' H' → ExAt X.K X.mg m' H' e C d → W (.ref C) (some d) σ H'
  | .bad => False
def EPost (r : Res LV) (Q : VK) : Prop := Post X W σ m H (fun v _ m' H' => ∀ x, Rv X.K X.mg m' H' v x → Q x H') r
def FPost (r : Res (List LV)) (Q : VK) : Prop := Post X W σ m H (fun xs _ m' H' => ∀ a vs, H a = none → H' a = some (.lst vs) → m'.M a → a ∉ m'.ι → RvL X.K X.mg m' H' xs vs → Q (.ref a) H') r
def APost (r : Res (List LV)) (Q : List V → Hp → Prop) : Prop := Post X W σ m H (fun xs _ m' H' => ∀ vs, RvL X.K X.mg m' H' xs vs → Q vs H') r
def TPost (r : Res Bool) (Q : Bool → Hp → Prop) : Prop := Post X W σ m H (fun b _ _ H' => Q b H') r
def SPost (D : Ends) : SR → Prop
  | .ok f ls' L' => ∀ m' H', Sim X.K X.mg m' H' L' → Fr m H m' H' →
    match f with
    | .nx => ∀ σ', RS X.K X.mg m' H' ls' σ' → D.nx σ' H'
    | .bk => ∀ σ', RS X.K X.mg m' H' ls' σ' → D.bk σ' H'
    | .ct => ∀ σ', RS X.K X.mg m' H' ls' σ' → D.ct σ' H'
    | .rt v => ∀ x, Rv X.K X.mg m' H' v x → D.rt x H'
  | .err e ls' L' => ∀ m' H' σ' C d, Sim X.K X.mg m' H' L' → Fr m H m' H' → RS X.K X.mg m' H' ls' σ' → ExAt X.K X.mg m' H' e C d → W (.ref C) (some d) σ' H'
  | .bad => False
end
section
variable {X : Cx} {W : WX} {σ : L2.St} {m m' : Mp} {H H' : Hp}
theorem Post.trans {α : Type} {ok : α → LH → Mp → Hp → Prop} {r : Res α} (h : Post X W σ m H ok r) (f : Fr m H m' H') : Post X W σ m' H' ok r := by
  cases r with
  | ok v L => exact fun m2 H2 S F => h m2 H2 S (f.trans F)
  | err e L => exact fun m2 H2 C d S F => h m2 H2 C d S (f.trans F)
  | bad => exact h
theorem Post.bind {α β : Type} {ok : β → LH → Mp → Hp → Prop} {ok1 : α → LH → Mp → Hp → Prop} {r : Res α} {k : α → LH → Res β} (h : Post X W σ m H ok (r.bind k))
    (step : ∀ v L1 m1 H1, Sim X.K X.mg m1 H1 L1 → Fr m H m1 H1 → Post X W σ m1 H1 ok (k v L1) → ok1 v L1 m1 H1) : Post X W σ m H ok1 r := by
  cases r with
  | ok v L => exact fun m1 H1 S F => step v L m1 H1 S F (Post.trans h F)
  | err e L => exact h
  | bad => exact h
theorem Post.imp {α : Type} {ok ok1 : α → LH → Mp → Hp → Prop} {r : Res α} (h : Post X W σ m H ok r)
    (step : ∀ v L1 m1 H1, Sim X.K X.mg m1 H1 L1 → Fr m H m1 H1 → ok v L1 m1 H1 → ok1 v L1 m1 H1) : Post X W σ m H ok1 r := by
  cases r with
  | ok v L => exact fun m1 H1 S F => step v L m1 H1 S F (h m1 H1 S F)
  | err e L => exact h
  | bad => exact h
/-- a post at an end -/
theorem Post.now {α : Type} {ok : α → LH → Mp → Hp → Prop} {v : α} {L : LH} (h : Post X W σ m H ok (.ok v L)) (S : Sim X.K X.mg m H L) : ok v L m H := h m H S .refl
end

abbrev LE := LSt → LH → Res LV
abbrev LF := LSt → LH → Res (List LV)
abbrev LT := LSt → LH → Res Bool
abbrev LS := LSt → LH → SR
section
variable (X : Cx) (W : WX)
def ME (e : Expr) (f : LE) : Prop := ∃ t, PE X e t ∧ ∀ m L H ls σ Q, Sim X.K X.mg m H L → RS X.K X.mg m H ls σ → EPost X W σ m H (f ls L) Q → t σ H Q
def MF (e : Expr) (f : LF) : Prop := ∃ t, PE X e t ∧ ∀ m L H ls σ Q, Sim X.K X.mg m H L → RS X.K X.mg m H ls σ → FPost X W σ m H (f ls L) Q → t σ H Q
def MA (es : List Expr) (f : LF) : Prop := (∀ ls L vs L', f ls L = .ok vs L' → vs.length = es.length) ∧ ∃ t, PA X es t ∧ ∀ m L H ls σ Q, Sim X.K X.mg m H L → RS X.K X.mg m H ls σ → APost X W σ m H (f ls L) Q → t σ H Q
def MT (e : Expr) (f : LT) : Prop := ∃ t, PT X e t ∧ ∀ m L H ls σ Q, Sim X.K X.mg m H L → RS X.K X.mg m H ls σ → TPost X W σ m H (f ls L) Q → t σ H Q
def MW (e : Expr) (f : LT) : Prop := ∃ t, PW X e t ∧ ∀ m L H ls σ Q, Sim X.K X.mg m H L → RS X.K X.mg m H ls σ → TPost X W σ m H (f ls L) Q → t σ H Q
def MS (st : Stmt) (f : LS) : Prop := ∃ t, PS X st t ∧ ∀ m L H ls σ D, Sim X.K X.mg m H L → RS X.K X.mg m H ls σ → SPost X W m H D (f ls L) → t D σ H
def MB (sts : List Stmt) (f : LS) : Prop := ∃ t, PSs X sts t ∧ ∀ m L H ls σ D, Sim X.K X.mg m H L → RS X.K X.mg m H ls σ → SPost X W m H D (f ls L) → t D σ H
end
end G

namespace G
open PySem PySem.Spec PyProof.Rows L2
/-! ### reading values -/
def refL (L : LH) (n : Nat) : Option (List LV) := match L[n]? with
  | some (.lst xs) => some xs
  | _ => none
def refD (L : LH) (n : Nat) : Option (Bool × List (LV × LV)) := match L[n]? with
  | some (.dic t xs) => some (t, xs)
  | _ => none
/-- a list that is tracked -/
def lstOf (L : LH) : LV → Option (List LV)
  | .lst xs => some xs
  | .ref n => refL L n
  | _ => none
/-- any list -/
def lsqOf (L : LH) : LV → Option (List LV)
  | .lst xs => some xs
  | .frz xs => some xs
  | .ref n => refL L n
  | _ => none
def tupOf : LV → Option (List LV)
  | .tup xs => some xs
  | .ktp xs => some xs
  | _ => none
def seqOf (L : LH) : LV → Option (List LV)
  | .tup xs => some xs
  | .ktp xs => some xs
  | .lst xs => some xs
  | .frz xs => some xs
  | .ref n => refL L n
  | _ => none
def dicOf (L : LH) : LV → Option (Bool × List (LV × LV))
  | .ref n => refD L n
  | _ => none
section
variable {K : PySem.W.Frag} {mg : Str → Option Value} {m m' : Mp} {H H' : Hp} {L L' : LH}
theorem refL_at (S : Sim K mg m H L) {n : Nat} {x : V} {xs : List LV} (r : Rv K mg m H (.ref n) x) (h : refL L n = some xs) : ∃ a vs, m.ι[n]? = some a ∧ x = .ref a ∧ H a = some (.lst vs) ∧ RvL K mg m H xs vs := by
  obtain ⟨a, ha, e⟩ := r
  unfold refL at h
  split at h
  · rename_i ys hl
    cases h
    obtain ⟨vs, h1, h2⟩ := S.ob n _ a hl ha
    exact ⟨a, vs, ha, e, h1, h2⟩
  · cases h
theorem lstOf_at (S : Sim K mg m H L) {v : LV} {x : V} {xs : List LV} (r : Rv K mg m H v x) (h : lstOf L v = some xs) : ∃ a vs, x = .ref a ∧ H a = some (.lst vs) ∧ RvL K mg m H xs vs := by
  cases v with
  | ref n => obtain ⟨a, vs, _, h1, h2, h3⟩ := refL_at S r h; exact ⟨a, vs, h1, h2, h3⟩
  | lst ys => cases h; obtain ⟨a, vs, e, t, q⟩ := r; exact ⟨a, vs, e, t.1, q⟩
  | _ => cases h
theorem lsqOf_at (S : Sim K mg m H L) {v : LV} {x : V} {xs : List LV} (r : Rv K mg m H v x) (h : lsqOf L v = some xs) : ∃ a vs, x = .ref a ∧ SqL K H a vs ∧ RvL K mg m H xs vs := by
  cases v with
  | ref n => obtain ⟨a, vs, _, h1, h2, h3⟩ := refL_at S r h; exact ⟨a, vs, h1, SqL.of h2, h3⟩
  | lst ys => cases h; obtain ⟨a, vs, e, t, q⟩ := r; exact ⟨a, vs, e, t.sq, q⟩
  | frz ys => cases h; obtain ⟨a, vs, e, t, q⟩ := r; exact ⟨a, vs, e, t.sq, q⟩
  | _ => cases h
theorem tupOf_at {v : LV} {x : V} {xs : List LV} (r : Rv K mg m H v x) (h : tupOf v = some xs) : ∃ a vs, x = .ref a ∧ SqT K H a vs ∧ RvL K mg m H xs vs := by
  cases v with
  | tup ys => cases h; obtain ⟨a, vs, e, t, q⟩ := r; exact ⟨a, vs, e, t.sq, q⟩
  | ktp ys => cases h; obtain ⟨a, vs, e, t, q⟩ := r; exact ⟨a, vs, e, t.sq, q⟩
  | _ => cases h
theorem seqOf_at (S : Sim K mg m H L) {v : LV} {x : V} {xs : List LV} (r : Rv K mg m H v x) (h : seqOf L v = some xs) : ∃ a vs, x = .ref a ∧ (SqL K H a vs ∨ SqT K H a vs) ∧ RvL K mg m H xs vs := by
  cases v with
  | ref n => obtain ⟨a, vs, _, h1, h2, h3⟩ := refL_at S r h; exact ⟨a, vs, h1, .inl (SqL.of h2), h3⟩
  | tup ys => cases h; obtain ⟨a, vs, e, t, q⟩ := r; exact ⟨a, vs, e, .inr t.sq, q⟩
  | ktp ys => cases h; obtain ⟨a, vs, e, t, q⟩ := r; exact ⟨a, vs, e, .inr t.sq, q⟩
  | lst ys => cases h; obtain ⟨a, vs, e, t, q⟩ := r; exact ⟨a, vs, e, .inl t.sq, q⟩
  | frz ys => cases h; obtain ⟨a, vs, e, t, q⟩ := r; exact ⟨a, vs, e, .inl t.sq, q⟩
  | _ => cases h
theorem dicOf_at (S : Sim K mg m H L) {v : LV} {x : V} {t : Bool} {kvs : List (LV × LV)} (r : Rv K mg m H v x) (h : dicOf L v = some (t, kvs)) : ∃ n a, v = .ref n ∧ L[n]? = some (.dic t kvs) ∧ m.ι[n]? = some a ∧ x = .ref a ∧ RO K mg m H (.dic t kvs) a := by
  cases v with
  | ref n =>
    obtain ⟨a, ha, e⟩ := r
    simp only [dicOf, refD] at h
    split at h
    · rename_i t' ys hl
      cases h
      exact ⟨n, a, rfl, hl, ha, e, S.ob n _ a hl ha⟩
    · cases h
  | _ => cases h
end

def lift {α : Type} (o : Option α) (L : LH) : Res α := match o with
  | some v => .ok v L
  | none => .bad
def guard {α : Type} (c : Bool) (o : Option α) : Option α := if c then o else none
theorem guard_some {α : Type} {c : Bool} {o : Option α} {v : α} (h : guard c o = some v) : c = true ∧ o = some v := by
  unfold guard at h
  split at h
  · exact ⟨by assumption, h⟩
  · cases h

/-- what is wanted of a pure operation's answer -/
def Fine (X : Cx) (m : Mp) (H : Hp) (L : LH) (z : LV) (Q : VK) : Prop := ∀ m' H' u, Sim X.K X.mg m' H' L → Fr m H m' H' → Rv X.K X.mg m' H' z u → Q u H'
def FineL (X : Cx) (m : Mp) (H : Hp) (L : LH) (zs : List LV) (Q : VK) : Prop := ∀ m' H' a vs, Sim X.K X.mg m' H' L → Fr m H m' H' → H a = none → H' a = some (.lst vs) → m'.M a → a ∉ m'.ι → RvL X.K X.mg m' H' zs vs → Q (.ref a) H'
section
variable {X : Cx} {W : WX} {σ : L2.St} {m m' : Mp} {H H' : Hp} {L : LH}
theorem Fine.now {z : LV} {Q : VK} {u : V} (h : Fine X m H L z Q) (S : Sim X.K X.mg m H L) (r : Rv X.K X.mg m H z u) : Q u H := h m H u S .refl r
theorem Fine.tup {zs : List LV} {Q : VK} {vs : List V} {p : Addr} (h : Fine X m H L (.tup zs) Q) (S : Sim X.K X.mg m H L) (r : RvL X.K X.mg m H zs vs) (hp : H p = none) : Q (.ref p) (upd H p (.tup vs)) :=
  h m _ _ (S.upd hp) (Fr.upd hp) ⟨p, vs, rfl, ⟨upd_same, S.out hp⟩, RvL.mono (Fr.upd hp) _ _ r⟩
theorem FineL.lst {zs : List LV} {Q : VK} {vs : List V} {p : Addr} (h : FineL X m H L zs Q) (S : Sim X.K X.mg m H L) (r : RvL X.K X.mg m H zs vs) (hp : H p = none) : Q (.ref p) (upd H p (.lst vs)) :=
  h (m.add p) _ p vs (S.add hp) ((Fr.upd hp).add hp) hp upd_same (.inr rfl) (S.outi hp) (RvL.mono ((Fr.upd hp).add hp) _ _ r)
theorem epost_lift {o : Option LV} {Q : VK} (h : EPost X W σ m H (lift o L) Q) : ∃ z, o = some z ∧ Fine X m H L z Q := by
  cases o with
  | none => exact h.elim
  | some z => exact ⟨z, rfl, fun m' H' u S f r => h m' H' S f u r⟩
theorem fpost_lift {o : Option (List LV)} {Q : VK} (h : FPost X W σ m H (lift o L) Q) : ∃ z, o = some z ∧ FineL X m H L z Q := by
  cases o with
  | none => exact h.elim
  | some z => exact ⟨z, rfl, fun m' H' a vs S f n e ma ni r => h m' H' S f a vs n e ma ni r⟩
theorem EPost.bind1 {α : Type} {r : Res α} {k : α → LH → Res LV} {Q : VK} {ok1 : α → LH → Mp → Hp → Prop} (h : EPost X W σ m H (r.bind k) Q)
    (step : ∀ v L1 m1 H1, Sim X.K X.mg m1 H1 L1 → Fr m H m1 H1 → EPost X W σ m1 H1 (k v L1) Q → ok1 v L1 m1 H1) : Post X W σ m H ok1 r := Post.bind h step
end

/-! ### names, constants -/
def eVar (i : Nat) : LE := fun ls L => match ls[i]? with
  | some (some v) => .ok v L
  | _ => .bad
def eC (v : LV) : LE := fun _ L => .ok v L
section
variable {X : Cx} {W : WX} {pos : Pos} {x : Str}
theorem me_var (i : Nat) (hN : X.N[i]? = some x := by rfl) (hv : Vis X.env.scope x := by first | exact Or.inl rfl | exact Or.inr (Or.inl rfl) | exact Or.inr (Or.inr rfl)) (hd : (x == ("__debug__" : Str)) = false := by decide)
    (hcd : (x == ("__classdict__" : Str)) = false := by decide) : ME X W (.Name x pos) (eVar i) := by
  refine ⟨tVar i, pe_var hN hv hd hcd, fun m L H ls σ Q S r h => ?_⟩
  unfold eVar at h
  split at h
  · rename_i v e
    obtain ⟨y, e', ry⟩ := r.2 i v e
    exact ⟨y, e', h m H S .refl y ry⟩
  · exact h.elim
theorem me_int {i j} : ME X W (.Constant (.int i) j pos) (eC (.int i)) := ⟨_, pe_int, fun m L H ls σ Q S r h => h m H S .refl _ rfl⟩
theorem me_bl {b j} : ME X W (.Constant (.bool b) j pos) (eC (.bl b)) := ⟨_, pe_bl, fun m L H ls σ Q S r h => h m H S .refl _ rfl⟩
theorem me_non {j} : ME X W (.Constant .none j pos) (eC .non) := ⟨_, pe_non, fun m L H ls σ Q S r h => h m H S .refl _ rfl⟩
theorem me_str {s j} : ME X W (.Constant (.str s) j pos) (eC (.str s)) := ⟨_, pe_str, fun m L H ls σ Q S r h => h m H S .refl _ rfl⟩
/-- a global that stands still: v is what it holds, whatever the heap -/
theorem me_glob {v : LV} (hg : Gl X x) (h : ∃ u y, X.mg x = some u ∧ RelV y u ∧ ∀ m H L, Sim X.K X.mg m H L → Rv X.K X.mg m H v y) (hd : (x == ("__debug__" : Str)) = false := by decide) : ME X W (.Name x pos) (eC v) := by
  obtain ⟨u, y, e, r, hv⟩ := h
  exact ⟨_, pe_glob hg e r hd, fun m L H ls σ Q S _ h => h m H S .refl y (hv m H L S)⟩
end

/-! ### operations of one, two values -/
def e1 (p : LH → LV → Option LV) (fa : LE) : LE := fun ls L => (fa ls L).bind fun a L1 => lift (p L1 a) L1
def e2 (p : LH → LV → LV → Option LV) (fa fb : LE) : LE := fun ls L => (fa ls L).bind fun a L1 => (fb ls L1).bind fun b L2 => lift (p L2 a b) L2
def f1 (p : LH → LV → Option (List LV)) (fa : LE) : LF := fun ls L => (fa ls L).bind fun a L1 => lift (p L1 a) L1
def f2 (p : LH → LV → LV → Option (List LV)) (fa fb : LE) : LF := fun ls L => (fa ls L).bind fun a L1 => (fb ls L1).bind fun b L2 => lift (p L2 a b) L2
def P1 (X : Cx) (r : V → Hp → VK → Prop) (p : LH → LV → Option LV) : Prop := ∀ m L H v x z Q, Sim X.K X.mg m H L → Rv X.K X.mg m H v x → p L v = some z → Fine X m H L z Q → r x H Q
def P2 (X : Cx) (r : R2) (p : LH → LV → LV → Option LV) : Prop := ∀ m L H v w x y z Q, Sim X.K X.mg m H L → Rv X.K X.mg m H v x → Rv X.K X.mg m H w y → p L v w = some z → Fine X m H L z Q → r x y H Q
def PF1 (X : Cx) (r : V → Hp → VK → Prop) (p : LH → LV → Option (List LV)) : Prop := ∀ m L H v x z Q, Sim X.K X.mg m H L → Rv X.K X.mg m H v x → p L v = some z → FineL X m H L z Q → r x H Q
def PF2 (X : Cx) (r : R2) (p : LH → LV → LV → Option (List LV)) : Prop := ∀ m L H v w x y z Q, Sim X.K X.mg m H L → Rv X.K X.mg m H v x → Rv X.K X.mg m H w y → p L v w = some z → FineL X m H L z Q → r x y H Q
section
variable {X : Cx} {W : WX} {pos : Pos} {a b e : Expr} {fa fb : LE} {r : V → Hp → VK → Prop} {r2 : R2}
theorem me_1 (pe : ∀ ta, PE X a ta → PE X e (tUn r ta)) {p : LH → LV → Option LV} (hp : P1 X r p) (ha : ME X W a fa) : ME X W e (e1 p fa) := by
  obtain ⟨ta, pa, ha⟩ := ha
  refine ⟨_, pe ta pa, fun m L H ls σ Q S rs h => ha m L H ls σ _ S rs (Post.bind h fun v L1 m1 H1 S1 F1 h1 x rx => ?_)⟩
  obtain ⟨z, ez, fz⟩ := epost_lift h1
  exact hp _ _ _ _ _ _ _ S1 rx ez fz
theorem me_2 (pe : ∀ ta tb, PE X a ta → PE X b tb → PE X e (tOp r2 ta tb)) {p : LH → LV → LV → Option LV} (hp : P2 X r2 p) (ha : ME X W a fa) (hb : ME X W b fb) : ME X W e (e2 p fa fb) := by
  obtain ⟨ta, pa, ha⟩ := ha
  obtain ⟨tb, pb, hb⟩ := hb
  refine ⟨_, pe ta tb pa pb, fun m L H ls σ Q S rs h => ha m L H ls σ _ S rs (Post.bind h fun v L1 m1 H1 S1 F1 h1 x rx => ?_)⟩
  refine hb m1 L1 H1 ls σ _ S1 (rs.mono F1) (Post.bind h1 fun w L2 m2 H2 S2 F2 h2 y ry => ?_)
  obtain ⟨z, ez, fz⟩ := epost_lift h2
  exact hp _ _ _ _ _ _ _ _ _ S2 (Rv.mono F2 _ _ rx) ry ez fz
theorem fpost_move {σ : L2.St} {m m1 : Mp} {H H1 : Hp} {L1 : LH} {Q : VK} {rr : Res (List LV)} (h : Post X W σ m1 H1 (fun xs _ m' H' => ∀ a vs, H a = none → H' a = some (.lst vs) → m'.M a → a ∉ m'.ι → RvL X.K X.mg m' H' xs vs → Q (.ref a) H') rr)
    (S1 : Sim X.K X.mg m1 H1 L1) (F1 : Fr m H m1 H1) : FPost X W σ m1 H1 rr Q :=
  Post.imp h fun v L2 m2 H2 S2 F2 q a vs n e ma ni rl => q a vs (F1.fresh S1 n) e ma ni rl
theorem mf_1 (pe : ∀ ta, PE X a ta → PE X e (tUn r ta)) {p : LH → LV → Option (List LV)} (hp : PF1 X r p) (ha : ME X W a fa) : MF X W e (f1 p fa) := by
  obtain ⟨ta, pa, ha⟩ := ha
  refine ⟨_, pe ta pa, fun m L H ls σ Q S rs h => ha m L H ls σ _ S rs (Post.bind h fun v L1 m1 H1 S1 F1 h1 x rx => ?_)⟩
  obtain ⟨z, ez, fz⟩ := fpost_lift (fpost_move h1 S1 F1)
  exact hp _ _ _ _ _ _ _ S1 rx ez fz
theorem mf_2 (pe : ∀ ta tb, PE X a ta → PE X b tb → PE X e (tOp r2 ta tb)) {p : LH → LV → LV → Option (List LV)} (hp : PF2 X r2 p) (ha : ME X W a fa) (hb : ME X W b fb) : MF X W e (f2 p fa fb) := by
  obtain ⟨ta, pa, ha⟩ := ha
  obtain ⟨tb, pb, hb⟩ := hb
  refine ⟨_, pe ta tb pa pb, fun m L H ls σ Q S rs h => ha m L H ls σ _ S rs (Post.bind h fun v L1 m1 H1 S1 F1 h1 x rx => ?_)⟩
  refine hb m1 L1 H1 ls σ _ S1 (rs.mono F1) (Post.bind h1 fun w L2 m2 H2 S2 F2 h2 y ry => ?_)
  obtain ⟨z, ez, fz⟩ := fpost_lift (fpost_move h2 S2 (F1.trans F2))
  exact hp _ _ _ _ _ _ _ _ _ S2 (Rv.mono F2 _ _ rx) ry ez fz
/-- a new list as a value that is only read; as one that is changed -/
def eFrz (f : LF) : LE := fun ls L => (f ls L).bind fun xs L1 => .ok (.lst xs) L1
def eNew (f : LF) : LE := fun ls L => (f ls L).bind fun xs L1 => .ok (.ref L1.length) (L1 ++ [.lst xs])
/-- no longer in the set -/
def Mp.del (m : Mp) (a : Addr) (h : a ∉ m.ι) : Mp := ⟨m.ι, fun b => m.M b ∧ b ≠ a, fun b hb => ⟨m.sub b hb, fun z => h (z ▸ hb)⟩⟩
theorem Fr.del {m m' : Mp} {H H' : Hp} {a : Addr} {h : a ∉ m'.ι} (F : Fr m H m' H') (n : ¬ m.M a) : Fr m H (m'.del a h) H' :=
  ⟨F.pre, F.keep, F.newi, fun b hb => F.newm b hb.1, fun b hb => ⟨F.mono b hb, fun z => n (z ▸ hb)⟩, F.fz⟩
theorem Post.bind0 {X : Cx} {W : WX} {σ : L2.St} {m : Mp} {H : Hp} {α β : Type} {ok : β → LH → Mp → Hp → Prop} {ok1 : α → LH → Mp → Hp → Prop} {r : Res α} {k : α → LH → Res β} (h : Post X W σ m H ok (r.bind k))
    (step : ∀ v L1 m1 H1, Sim X.K X.mg m1 H1 L1 → Fr m H m1 H1 → Post X W σ m H ok (k v L1) → ok1 v L1 m1 H1) : Post X W σ m H ok1 r := by
  cases r with
  | ok v L => exact fun m1 H1 S F => step v L m1 H1 S F h
  | err e L => exact h
  | bad => exact h
theorem me_frz {f : LF} (h : MF X W e f) : ME X W e (eFrz f) := by
  obtain ⟨t, pe, h⟩ := h
  refine ⟨t, pe, fun m L H ls σ Q S rs q => h m L H ls σ Q S rs (Post.bind0 q fun xs L1 m1 H1 S1 F1 q1 a vs n e1 ma ni r1 => ?_)⟩
  have le : (m1.del a ni).Le m1 := ⟨rfl, fun b hb => hb.1⟩
  exact q1 (m1.del a ni) H1 (S1.le le) (F1.del (S.out n)) (.ref a) ⟨a, vs, rfl, ⟨e1, fun z => z.2 rfl⟩, RvL.le le _ _ r1⟩
theorem me_new {f : LF} (h : MF X W e f) : ME X W e (eNew f) := by
  obtain ⟨t, pe, h⟩ := h
  refine ⟨t, pe, fun m L H ls σ Q S rs q => h m L H ls σ Q S rs (Post.bind0 q fun xs L1 m1 H1 S1 F1 q1 a vs n e1 ma ni r1 => ?_)⟩
  refine q1 (m1.push a ma) H1 (S1.push ni ⟨vs, e1, RvL.push _ _ r1⟩) (F1.push n) (.ref a) ⟨a, ?_, rfl⟩
  show (m1.ι ++ [a])[L1.length]? = some a
  rw [← S1.len, List.getElem?_append_right (Nat.le_refl _), Nat.sub_self]
  rfl
end
end G

namespace G
open PySem PySem.Spec PyProof.Rows L2
/-! ### operators -/
def pAdd (_ : LH) : LV → LV → Option LV
  | .int i, .int j => some (.int (i + j))
  | .str s, .str t => guard (decide (s.length + t.length ≤ sizeLine)) (some (.str (s ++ t)))
  | .tup xs, .tup ys => guard (decide (xs.length + ys.length ≤ sizeLine)) (some (.tup (xs ++ ys)))
  | _, _ => none
def pSub (_ : LH) : LV → LV → Option LV
  | .int i, .int j => some (.int (i - j))
  | _, _ => none
def pMul (_ : LH) : LV → LV → Option LV
  | .int i, .int j => guard (decide ((-(2 ^ 64) < i ∧ i < 2 ^ 64) ∨ (-(2 ^ 64) < j ∧ j < 2 ^ 64))) (some (.int (i * j)))
  | _, _ => none
def pFdiv (_ : LH) : LV → LV → Option LV
  | .int i, .int j => guard (decide (0 < j ∧ j < 1073741824)) (some (.int (i / j)))
  | _, _ => none
def pMod (_ : LH) : LV → LV → Option LV
  | .int i, .int j => guard (decide (0 < j)) (some (.int (i % j)))
  | _, _ => none
def pPow (_ : LH) : LV → LV → Option LV
  | .int i, .int j => guard (decide (0 ≤ j ∧ j ≤ 1000000 ∧ i.natAbs < 2 ^ 64)) (some (.int (i ^ j.toNat)))
  | _, _ => none
def pShl (_ : LH) : LV → LV → Option LV
  | .int i, .int j => guard (decide (0 ≤ j ∧ j ≤ 1000000 ∧ i.natAbs < 2 ^ 64)) (some (.int (i * 2 ^ j.toNat)))
  | _, _ => none
def pShr (_ : LH) : LV → LV → Option LV
  | .int i, .int j => guard (decide (0 ≤ j)) (some (.int (i / 2 ^ j.toNat)))
  | _, _ => none
def pAnd (_ : LH) : LV → LV → Option LV
  | .int i, .int j => some (.int (Builtin.bitAnd i j))
  | _, _ => none
def pOr (_ : LH) : LV → LV → Option LV
  | .int i, .int j => some (.int (Builtin.bitOr i j))
  | _, _ => none
def pXor (_ : LH) : LV → LV → Option LV
  | .int i, .int j => some (.int (Builtin.bitXor i j))
  | _, _ => none
def pNeg (_ : LH) : LV → Option LV
  | .int i => some (.int (-i))
  | _ => none
def pCat (L : LH) (v w : LV) : Option (List LV) := match lstOf L v, lstOf L w with
  | some xs, some ys => guard (decide (xs.length + ys.length ≤ sizeLine)) (some (xs ++ ys))
  | _, _ => none
def pRep (L : LH) (v : LV) : LV → Option (List LV)
  | .int k => match lstOf L v with
    | some xs => guard (decide (-(2 ^ 63) ≤ k ∧ k < 2 ^ 63 ∧ xs.length * k.toNat ≤ sizeLine)) (some (List.replicate k.toNat xs).flatten)
    | none => none
  | _ => none
theorem guard_dec {α : Type} {c : Prop} [Decidable c] {o : Option α} {v : α} (h : guard (decide c) o = some v) : c ∧ o = some v := by
  obtain ⟨h1, h2⟩ := guard_some h
  exact ⟨of_decide_eq_true h1, h2⟩
section
variable {X : Cx}
theorem p_add : P2 X (fun x y H Q => rI0 (fun i j => .int (i + j)) x y H Q ∨ ((∃ i j, x = .str i ∧ y = .str j ∧ i.length + j.length ≤ sizeLine ∧ Q (.str (i ++ j)) H) ∨ rCatA X.K x y H Q)) pAdd := by
  intro m L H v w x y z Q S rv rw h f
  cases v <;> cases w <;> first
    | (cases h; done)
    | skip
  · cases h; cases rv; cases rw
    exact .inl ⟨_, _, rfl, rfl, f.now S rfl⟩
  · obtain ⟨h1, h2⟩ := guard_dec h
    cases h2; cases rv; cases rw
    exact .inr (.inl ⟨_, _, rfl, rfl, h1, f.now S rfl⟩)
  · obtain ⟨h1, h2⟩ := guard_dec h
    cases h2
    obtain ⟨a, vs, rfl, ta, ra⟩ := rv
    obtain ⟨b, us, rfl, tb, rb⟩ := rw
    refine .inr (.inr ⟨a, b, vs, us, rfl, rfl, ta.sq, tb.sq, by rw [ra.length, rb.length]; exact h1, fun e => ?_, fun e1 e => ?_, fun e1 e p hp => f.tup S (ra.append rb) hp⟩)
    · refine f.now S ⟨b, us, rfl, tb, ?_⟩
      have := ra.length; rw [e] at this
      rename_i xs ys
      cases xs with
      | nil => exact rb
      | cons _ _ => simp at this
    · refine f.now S ⟨a, vs, rfl, ta, ?_⟩
      have := rb.length; rw [e] at this
      rename_i xs ys
      cases ys with
      | nil => rw [List.append_nil]; exact ra
      | cons _ _ => simp at this
theorem p_int0 {g : Int → Int → Int} {p : LH → LV → LV → Option LV} (h0 : ∀ L v w z, p L v w = some z → ∃ i j, v = .int i ∧ w = .int j ∧ z = .int (g i j)) : P2 X (rI0 fun i j => .int (g i j)) p := by
  intro m L H v w x y z Q S rv rw h f
  obtain ⟨i, j, rfl, rfl, rfl⟩ := h0 _ _ _ _ h
  cases rv; cases rw
  exact ⟨_, _, rfl, rfl, f.now S rfl⟩
theorem p_intC {C : Int → Int → Prop} {g : Int → Int → Int} {p : LH → LV → LV → Option LV} (h0 : ∀ L v w z, p L v w = some z → ∃ i j, v = .int i ∧ w = .int j ∧ C i j ∧ z = .int (g i j)) : P2 X (rI C fun i j => .int (g i j)) p := by
  intro m L H v w x y z Q S rv rw h f
  obtain ⟨i, j, rfl, rfl, c, rfl⟩ := h0 _ _ _ _ h
  cases rv; cases rw
  exact ⟨_, _, rfl, rfl, c, f.now S rfl⟩
theorem p_sub : P2 X (rI0 fun i j => .int (i - j)) pSub := p_int0 fun L v w z h => by
  cases v <;> cases w <;> first | (cases h; done) | exact ⟨_, _, rfl, rfl, (Option.some.inj h).symm⟩
theorem p_and : P2 X (rI0 fun i j => .int (Builtin.bitAnd i j)) pAnd := p_int0 fun L v w z h => by
  cases v <;> cases w <;> first | (cases h; done) | exact ⟨_, _, rfl, rfl, (Option.some.inj h).symm⟩
theorem p_or : P2 X (rI0 fun i j => .int (Builtin.bitOr i j)) pOr := p_int0 fun L v w z h => by
  cases v <;> cases w <;> first | (cases h; done) | exact ⟨_, _, rfl, rfl, (Option.some.inj h).symm⟩
theorem p_xor : P2 X (rI0 fun i j => .int (Builtin.bitXor i j)) pXor := p_int0 fun L v w z h => by
  cases v <;> cases w <;> first | (cases h; done) | exact ⟨_, _, rfl, rfl, (Option.some.inj h).symm⟩
theorem p_mul : P2 X (rI CMul fun i j => .int (i * j)) pMul := p_intC fun L v w z h => by
  cases v <;> cases w <;> first | (cases h; done) | exact ⟨_, _, rfl, rfl, (guard_dec h).1, (Option.some.inj (guard_dec h).2).symm⟩
theorem p_fdiv : P2 X (rI CDiv fun i j => .int (i / j)) pFdiv := p_intC fun L v w z h => by
  cases v <;> cases w <;> first | (cases h; done) | exact ⟨_, _, rfl, rfl, (guard_dec h).1, (Option.some.inj (guard_dec h).2).symm⟩
theorem p_mod : P2 X (rI (fun _ j => 0 < j) fun i j => .int (i % j)) pMod := p_intC fun L v w z h => by
  cases v <;> cases w <;> first | (cases h; done) | exact ⟨_, _, rfl, rfl, (guard_dec h).1, (Option.some.inj (guard_dec h).2).symm⟩
theorem p_pow : P2 X (rI CPow fun i j => .int (i ^ j.toNat)) pPow := p_intC fun L v w z h => by
  cases v <;> cases w <;> first | (cases h; done) | exact ⟨_, _, rfl, rfl, (guard_dec h).1, (Option.some.inj (guard_dec h).2).symm⟩
theorem p_shl : P2 X (rI CPow fun i j => .int (i * 2 ^ j.toNat)) pShl := p_intC fun L v w z h => by
  cases v <;> cases w <;> first | (cases h; done) | exact ⟨_, _, rfl, rfl, (guard_dec h).1, (Option.some.inj (guard_dec h).2).symm⟩
theorem p_shr : P2 X (rI (fun _ j => 0 ≤ j) fun i j => .int (i / 2 ^ j.toNat)) pShr := p_intC fun L v w z h => by
  cases v <;> cases w <;> first | (cases h; done) | exact ⟨_, _, rfl, rfl, (guard_dec h).1, (Option.some.inj (guard_dec h).2).symm⟩
theorem p_neg : P1 X (rU fun i => .int (-i)) pNeg := by
  intro m L H v x z Q S rv h f
  cases v <;> first | (cases h; done) | (cases h; cases rv; exact ⟨_, rfl, f.now S rfl⟩)
theorem p_cat : PF2 X rCat pCat := by
  intro m L H v w x y z Q S rv rw h f
  unfold pCat at h
  split at h
  · rename_i xs ys h1 h2
    obtain ⟨hz, e⟩ := guard_dec h
    cases e
    obtain ⟨a, vs, rfl, ha, ra⟩ := lstOf_at S rv h1
    obtain ⟨b, us, rfl, hb, rb⟩ := lstOf_at S rw h2
    exact ⟨a, b, vs, us, rfl, rfl, ha, hb, by rw [ra.length, rb.length]; exact hz, fun p hp => f.lst S (ra.append rb) hp⟩
  · cases h
theorem RvL.rep {K : PySem.W.Frag} {mg : Str → Option Value} {m : Mp} {H : Hp} {xs : List LV} {vs : List V} (r : RvL K mg m H xs vs) : ∀ k : Nat, RvL K mg m H (List.replicate k xs).flatten (List.replicate k vs).flatten
  | 0 => rfl
  | k + 1 => by
    rw [List.replicate_succ, List.replicate_succ, List.flatten_cons, List.flatten_cons]
    exact r.append (RvL.rep r k)
theorem p_rep : PF2 X rRep pRep := by
  intro m L H v w x y z Q S rv rw h f
  cases w with
  | int k =>
    simp only [pRep] at h
    split at h
    · rename_i xs h1
      obtain ⟨⟨c1, c2, c3⟩, e⟩ := guard_dec h
      cases e
      obtain ⟨a, vs, rfl, ha, ra⟩ := lstOf_at S rv h1
      cases rw
      exact ⟨a, k, vs, rfl, rfl, ha, c1, c2, by rw [ra.length]; exact c3, fun p hp => f.lst S (ra.rep _) hp⟩
    · cases h
  | _ => cases h
end

section
variable {X : Cx} {W : WX} {pos : Pos} {a b : Expr} {fa fb : LE}
theorem me_add (ha : ME X W a fa) (hb : ME X W b fb) : ME X W (.BinOp a .Add b pos) (e2 pAdd fa fb) := me_2 (fun _ _ pa pb => pe_op (op_add.or (op_add_str.or op_catA)) pa pb) p_add ha hb
theorem me_sub (ha : ME X W a fa) (hb : ME X W b fb) : ME X W (.BinOp a .Sub b pos) (e2 pSub fa fb) := me_2 (fun _ _ pa pb => pe_op op_sub pa pb) p_sub ha hb
theorem me_mul (ha : ME X W a fa) (hb : ME X W b fb) : ME X W (.BinOp a .Mult b pos) (e2 pMul fa fb) := me_2 (fun _ _ pa pb => pe_op op_mul pa pb) p_mul ha hb
theorem me_fdiv (ha : ME X W a fa) (hb : ME X W b fb) : ME X W (.BinOp a .FloorDiv b pos) (e2 pFdiv fa fb) := me_2 (fun _ _ pa pb => pe_op op_fdiv pa pb) p_fdiv ha hb
theorem me_mod (ha : ME X W a fa) (hb : ME X W b fb) : ME X W (.BinOp a .Mod b pos) (e2 pMod fa fb) := me_2 (fun _ _ pa pb => pe_op op_mod pa pb) p_mod ha hb
theorem me_pow (ha : ME X W a fa) (hb : ME X W b fb) : ME X W (.BinOp a .Pow b pos) (e2 pPow fa fb) := me_2 (fun _ _ pa pb => pe_op op_pow pa pb) p_pow ha hb
theorem me_shl (ha : ME X W a fa) (hb : ME X W b fb) : ME X W (.BinOp a .LShift b pos) (e2 pShl fa fb) := me_2 (fun _ _ pa pb => pe_op op_shl pa pb) p_shl ha hb
theorem me_shr (ha : ME X W a fa) (hb : ME X W b fb) : ME X W (.BinOp a .RShift b pos) (e2 pShr fa fb) := me_2 (fun _ _ pa pb => pe_op op_shr pa pb) p_shr ha hb
theorem me_band (ha : ME X W a fa) (hb : ME X W b fb) : ME X W (.BinOp a .BitAnd b pos) (e2 pAnd fa fb) := me_2 (fun _ _ pa pb => pe_op op_and pa pb) p_and ha hb
theorem me_bor (ha : ME X W a fa) (hb : ME X W b fb) : ME X W (.BinOp a .BitOr b pos) (e2 pOr fa fb) := me_2 (fun _ _ pa pb => pe_op op_or pa pb) p_or ha hb
theorem me_bxor (ha : ME X W a fa) (hb : ME X W b fb) : ME X W (.BinOp a .BitXor b pos) (e2 pXor fa fb) := me_2 (fun _ _ pa pb => pe_op op_xor pa pb) p_xor ha hb
theorem me_neg (ha : ME X W a fa) : ME X W (.UnaryOp .USub a pos) (e1 pNeg fa) := me_1 (fun _ pa => pe_un un_neg pa) p_neg ha
theorem mf_cat (ha : ME X W a fa) (hb : ME X W b fb) : MF X W (.BinOp a .Add b pos) (f2 pCat fa fb) := mf_2 (fun _ _ pa pb => pe_op op_cat pa pb) p_cat ha hb
theorem mf_rep (ha : ME X W a fa) (hb : ME X W b fb) : MF X W (.BinOp a .Mult b pos) (f2 pRep fa fb) := mf_2 (fun _ _ pa pb => pe_op op_rep pa pb) p_rep ha hb
end

/-! ### data, == -/
mutual
def toPD (L : LH) : LV → Option PyData
  | .non => some .none
  | .bl b => some (.bool b)
  | .int i => some (.int i)
  | .str s => some (.str s)
  | .tup xs => (toPDs L xs).map .tuple
  | .ktp xs => (toPDs L xs).map .tuple
  | .lst xs => (toPDs L xs).map .list
  | .frz xs => (toPDs L xs).map .list
  | .ref _ => none
  | .fn _ => none
def toPDs (L : LH) : List LV → Option (List PyData)
  | [] => some []
  | v :: r => match toPD L v, toPDs L r with
    | some d, some ds => some (d :: ds)
    | _, _ => none
end
/-- a list of the program's heap is data, too -/
def toPD' (L : LH) : LV → Option PyData
  | .ref n => match refL L n with
    | some xs => (toPDs L xs).map .list
    | none => none
  | v => toPD L v
section
variable {K : PySem.W.Frag} {mg : Str → Option Value} {m : Mp} {H : Hp} {L : LH}
mutual
theorem dp_of : ∀ (v : LV) (x : V) (d : PyData), Rv K mg m H v x → toPD L v = some d → Dp K H x d
  | .non, _, _, r, h => by cases h; cases r; exact .non
  | .bl _, _, _, r, h => by cases h; cases r; exact .bl _
  | .int _, _, _, r, h => by cases h; cases r; exact .int _
  | .str _, _, _, r, h => by cases h; cases r; exact .str _
  | .tup xs, _, d, ⟨a, vs, e, t, r⟩, h => by
    simp only [toPD, Option.map_eq_some_iff] at h
    obtain ⟨ds, h1, rfl⟩ := h
    subst e
    exact .tup t.sq (dps_of xs vs ds r h1)
  | .ktp xs, _, d, ⟨a, vs, e, t, r⟩, h => by
    simp only [toPD, Option.map_eq_some_iff] at h
    obtain ⟨ds, h1, rfl⟩ := h
    subst e
    exact .tup t.sq (dps_of xs vs ds r h1)
  | .lst xs, _, d, ⟨a, vs, e, t, r⟩, h => by
    simp only [toPD, Option.map_eq_some_iff] at h
    obtain ⟨ds, h1, rfl⟩ := h
    subst e
    exact .lst t.sq (dps_of xs vs ds r h1)
  | .frz xs, _, d, ⟨a, vs, e, t, r⟩, h => by
    simp only [toPD, Option.map_eq_some_iff] at h
    obtain ⟨ds, h1, rfl⟩ := h
    subst e
    exact .lst t.sq (dps_of xs vs ds r h1)
  | .ref _, _, _, _, h => by cases h
  | .fn _, _, _, _, h => by cases h
theorem dps_of : ∀ (xs : List LV) (vs : List V) (ds : List PyData), RvL K mg m H xs vs → toPDs L xs = some ds → DpAll K H vs ds
  | [], _, _, r, h => by cases h; cases r; exact .nil
  | v :: r, _, ds, ⟨x, t, e, hv, hr⟩, h => by
    simp only [toPDs] at h
    split at h
    · rename_i d ds' h1 h2
      cases h
      subst e
      exact .cons (dp_of v x d hv h1) (dps_of r t ds' hr h2)
    · cases h
end
theorem dp_of' (S : Sim K mg m H L) {v : LV} {x : V} {d : PyData} (r : Rv K mg m H v x) (h : toPD' L v = some d) : Dp K H x d := by
  cases v with
  | ref n =>
    simp only [toPD'] at h
    split at h
    · rename_i xs h1
      obtain ⟨ds, h2, rfl⟩ := Option.map_eq_some_iff.mp h
      obtain ⟨a, vs, _, rfl, ha, rl⟩ := refL_at S r h1
      exact .lst (SqL.of ha) (dps_of xs vs ds rl h2)
    · cases h
  | _ => exact dp_of (L := L) _ _ _ r h
end
def eqB (L : LH) (v w : LV) : Option Bool := match toPD' L v, toPD' L w with
  | some d, some e => guard (SeqAt.shaped d && SeqAt.shaped e) (some (PyData.eqv d e))
  | _, _ => none
def pEq (L : LH) (v w : LV) : Option LV := (eqB L v w).map .bl
def pNe (L : LH) (v w : LV) : Option LV := (eqB L v w).map fun b => .bl (!b)
theorem eqB_some {L : LH} {v w : LV} {b : Bool} (h : eqB L v w = some b) : ∃ d e, toPD' L v = some d ∧ toPD' L w = some e ∧ SeqAt.shaped d = true ∧ SeqAt.shaped e = true ∧ b = PyData.eqv d e := by
  unfold eqB at h
  split at h
  · rename_i d e h1 h2
    obtain ⟨h3, h4⟩ := guard_some h
    rw [Bool.and_eq_true] at h3
    cases h4
    exact ⟨d, e, h1, h2, h3.1, h3.2, rfl⟩
  · cases h
section
variable {X : Cx}
theorem p_eq : P2 X (rEqD X.K) pEq := by
  intro m L H v w x y z Q S rv rw h f
  obtain ⟨b, hb, rfl⟩ := Option.map_eq_some_iff.mp h
  obtain ⟨d, e, h1, h2, h3, h4, rfl⟩ := eqB_some hb
  exact ⟨d, e, dp_of' S rv h1, dp_of' S rw h2, h3, h4, f.now S rfl⟩
theorem p_ne : P2 X (rNeD X.K) pNe := by
  intro m L H v w x y z Q S rv rw h f
  obtain ⟨b, hb, rfl⟩ := Option.map_eq_some_iff.mp h
  obtain ⟨d, e, h1, h2, h3, h4, rfl⟩ := eqB_some hb
  exact ⟨d, e, dp_of' S rv h1, dp_of' S rw h2, h3, h4, f.now S rfl⟩
end
end G

namespace G
open PySem PySem.Spec PyProof.Rows L2
/-! ### dicts as tables -/
abbrev KK := Sum Key (List Key)
def kkOf (v : LV) : Option KK := match kOf v with
  | some k => some (.inl k)
  | none => (tkOf v).map .inr
def dLook (kvs : List (LV × LV)) (c : KK) : Option LV := (kvs.find? fun p => decide (kkOf p.1 = some c)).map (·.2)
def dSet (kvs : List (LV × LV)) (k v : LV) : List (LV × LV) :=
  if (kvs.any fun p => decide (kkOf p.1 = kkOf k)) = true then kvs.map (fun p => if kkOf p.1 = kkOf k then (p.1, v) else p) else kvs ++ [(k, v)]
/-- the key is of the dict's kind -/
def dKey (t : Bool) (k : LV) : Option KK := match t with
  | false => (kOf k).map .inl
  | true => (tkOf k).map .inr
theorem kOf_kk {v : LV} {c : Key} (h : kOf v = some c) : kkOf v = some (.inl c) := by unfold kkOf; rw [h]
theorem tkOf_kk {v : LV} {c : List Key} (h : tkOf v = some c) : kkOf v = some (.inr c) := by
  cases v <;> first | (cases h; done) | (unfold kkOf; rw [h]; rfl)
section
variable {K : PySem.W.Frag} {mg : Str → Option Value} {m : Mp} {H : Hp}
theorem rd_look {κ : Type} [DecidableEq κ] {key : LV → Option κ} {inj : κ → KK} (hi : ∀ a b, inj a = inj b → a = b) (hk : ∀ v c, key v = some c → kkOf v = some (inj c)) (c : κ) :
    ∀ {kvs : List (LV × LV)} {ps : List (κ × V)}, RD K mg m H key kvs ps → match dLook kvs (inj c) with
      | some v => ∃ x, valV ps c = some x ∧ Rv K mg m H v x
      | none => valV ps c = none
  | [], _, h => by cases h; rfl
  | (k, v) :: r, _, ⟨d, x, t, e, h1, h2, h3⟩ => by
    subst e
    have ih := rd_look hi hk c h3
    by_cases q : d = c
    · subst q
      have : dLook ((k, v) :: r) (inj d) = some v := by simp [dLook, List.find?_cons, hk _ _ h1]
      rw [this]
      exact ⟨x, valV_pos rfl, h2⟩
    · have n : ¬ (some (inj d) : Option KK) = some (inj c) := fun z => q (hi _ _ (Option.some.inj z))
      have : dLook ((k, v) :: r) (inj c) = dLook r (inj c) := by simp [dLook, List.find?_cons, hk _ _ h1, n]
      rw [this, show valV ((d, x) :: t) c = valV t c from valV_neg q]
      exact ih
theorem rd_any {κ : Type} [DecidableEq κ] {key : LV → Option κ} {inj : κ → KK} (hi : ∀ a b, inj a = inj b → a = b) (hk : ∀ v c, key v = some c → kkOf v = some (inj c)) (c : κ) :
    ∀ {kvs : List (LV × LV)} {ps : List (κ × V)}, RD K mg m H key kvs ps → (kvs.any fun p => decide (kkOf p.1 = some (inj c))) = ps.any fun kv => decide (kv.1 = c)
  | [], _, h => by cases h; rfl
  | (k, v) :: r, _, ⟨d, x, t, e, h1, h2, h3⟩ => by
    subst e
    rw [List.any_cons, List.any_cons, rd_any hi hk c h3, hk _ _ h1]
    congr 1
    by_cases q : d = c
    · subst q; simp
    · rw [decide_eq_false q, decide_eq_false fun z => q (hi _ _ (Option.some.inj z))]
theorem rd_map {κ : Type} [DecidableEq κ] {key : LV → Option κ} {inj : κ → KK} (hi : ∀ a b, inj a = inj b → a = b) (hk : ∀ v c, key v = some c → kkOf v = some (inj c)) (c : κ) {v : LV} {x : V} (rx : Rv K mg m H v x) :
    ∀ {kvs : List (LV × LV)} {ps : List (κ × V)}, RD K mg m H key kvs ps → RD K mg m H key (kvs.map fun p => if kkOf p.1 = some (inj c) then (p.1, v) else p) (ps.map fun kv => if kv.1 = c then (kv.1, x) else kv)
  | [], _, h => by cases h; exact rfl
  | (k, w) :: r, _, ⟨d, y, t, e, h1, h2, h3⟩ => by
    subst e
    rw [List.map_cons, List.map_cons]
    have ih := rd_map hi hk c rx h3
    by_cases q : d = c
    · subst q
      rw [if_pos rfl, if_pos (by rw [hk _ _ h1])]
      exact ⟨d, x, _, rfl, h1, rx, ih⟩
    · rw [if_neg q, if_neg (by rw [hk _ _ h1]; exact fun z => q (hi _ _ (Option.some.inj z)))]
      exact ⟨d, y, _, rfl, h1, h2, ih⟩
theorem rd_app {κ : Type} {key : LV → Option κ} {k v : LV} {c : κ} {x : V} (hk : key k = some c) (rx : Rv K mg m H v x) : ∀ {kvs : List (LV × LV)} {ps : List (κ × V)}, RD K mg m H key kvs ps → RD K mg m H key (kvs ++ [(k, v)]) (ps ++ [(c, x)])
  | [], _, h => by cases h; exact ⟨c, x, [], rfl, hk, rx, rfl⟩
  | (j, w) :: r, _, ⟨d, y, t, e, h1, h2, h3⟩ => by subst e; exact ⟨d, y, _, rfl, h1, h2, rd_app hk rx h3⟩
theorem rd_put {κ : Type} [DecidableEq κ] {key : LV → Option κ} {inj : κ → KK} (hi : ∀ a b, inj a = inj b → a = b) (hk : ∀ v c, key v = some c → kkOf v = some (inj c)) {k v : LV} {c : κ} {x : V} (h : key k = some c) (rx : Rv K mg m H v x)
    {kvs : List (LV × LV)} {ps : List (κ × V)} (r : RD K mg m H key kvs ps) : RD K mg m H key (dSet kvs k v) (putK ps c x) := by
  unfold dSet putK
  rw [hk _ _ h, rd_any hi hk c r]
  split
  · exact rd_map hi hk c rx r
  · exact rd_app h rx r
theorem rd_len {κ : Type} {key : LV → Option κ} : ∀ {kvs : List (LV × LV)} {ps : List (κ × V)}, RD K mg m H key kvs ps → ps.length = kvs.length
  | [], _, h => by cases h; rfl
  | (j, w) :: r, _, ⟨d, y, t, e, h1, h2, h3⟩ => by subst e; simp [rd_len h3]
theorem kV_of {v : LV} {x : V} {c : Key} (h : kOf v = some c) (r : Rv K mg m H v x) : x = kV c := by
  cases v <;> first | (cases h; done) | (cases h; cases r; rfl)
theorem kVs_of : ∀ {xs : List LV} {vs : List V} {cs : List Key}, ksOf xs = some cs → RvL K mg m H xs vs → vs = cs.map kV
  | [], _, _, h, r => by cases h; cases r; rfl
  | v :: r, _, cs, h, ⟨x, t, e, h1, h2⟩ => by
    simp only [ksOf] at h
    split at h
    · rename_i k ks q1 q2
      cases h
      subst e
      rw [List.map_cons, kV_of q1 h1, kVs_of q2 h2]
    · cases h
theorem tk_of {v : LV} {x : V} {c : List Key} (h : tkOf v = some c) (r : Rv K mg m H v x) : ∃ b, x = .ref b ∧ H b = some (.tup (c.map kV)) := by
  cases v <;> first
    | (cases h; done)
    | (obtain ⟨a, vs, e, t, q⟩ := r; exact ⟨a, e, by rw [← kVs_of h q]; exact t.1⟩)
theorem dget_of {v k : LV} {x y : V} {t : Bool} {kvs : List (LV × LV)} {a : Addr} {c : KK} (h : RO K mg m H (.dic t kvs) a) (hk : dKey t k = some c) (ry : Rv K mg m H k y) : match dLook kvs c with
    | some v => ∃ x, DGet H a y (some x) ∧ Rv K mg m H v x
    | none => DGet H a y none := by
  cases t with
  | false =>
    obtain ⟨ps, e, r⟩ := h
    obtain ⟨d, h1, rfl⟩ := Option.map_eq_some_iff.mp hk
    obtain rfl := kV_of h1 ry
    have q := rd_look (K := K) (mg := mg) (m := m) (H := H) (key := kOf) (inj := Sum.inl) (fun _ _ z => Sum.inl.inj z) (fun _ _ => kOf_kk) d r
    split <;> rename_i z <;> rw [z] at q
    · obtain ⟨x, h1, h2⟩ := q
      exact ⟨x, h1 ▸ DGet.k e, h2⟩
    · exact q ▸ DGet.k e
  | true =>
    obtain ⟨ps, e, r⟩ := h
    obtain ⟨d, h1, rfl⟩ := Option.map_eq_some_iff.mp hk
    obtain ⟨b, rfl, hb⟩ := tk_of h1 ry
    have q := rd_look (K := K) (mg := mg) (m := m) (H := H) (key := tkOf) (inj := Sum.inr) (fun _ _ z => Sum.inr.inj z) (fun _ _ => tkOf_kk) d r
    split <;> rename_i z <;> rw [z] at q
    · obtain ⟨x, h1, h2⟩ := q
      exact ⟨x, h1 ▸ DGet.t e hb, h2⟩
    · exact q ▸ DGet.t e hb
end

/-! ### rules for dicts by values -/
section
variable {X : Cx}
def rInDic : R2 := fun x y H Q => ∃ a o, y = .ref a ∧ DGet H a x o ∧ Q (.bl o.isSome) H
def rNinDic : R2 := fun x y H Q => ∃ a o, y = .ref a ∧ DGet H a x o ∧ Q (.bl (!o.isSome)) H
theorem op_inDic (hu : X.A.units + 1 < cLine) : OpR X (compareOp .In) rInDic := by
  intro pins s σ H x y v u Q I rx ry h
  obtain ⟨a, o, rfl, g, q⟩ := h
  cases ry
  exact d_in hu I g rx fun s3 I3 => ⟨.bl o.isSome, H, I3, rfl, q⟩
theorem op_ninDic (hu : X.A.units + 1 < cLine) : OpR X (compareOp .NotIn) rNinDic := by
  intro pins s σ H x y v u Q I rx ry h
  obtain ⟨a, o, rfl, g, q⟩ := h
  cases ry
  exact d_notIn hu I g rx fun s3 I3 => ⟨.bl (!o.isSome), H, I3, rfl, q⟩
def rIxDic : R2 := fun x y H Q => ∃ a v, x = .ref a ∧ DGet H a y (some v) ∧ Q v H
theorem ix_dic (hu : X.A.units + 1 < cLine) : IxR X rIxDic := by
  intro value slice pins s σ H x y v u Q I rx ry h hs
  obtain ⟨a, z, rfl, g, q⟩ := h
  cases rx
  unfold subscriptTail
  refine wpAny_bind ?_
  rw [getitemInPython_of_ne (dict_typeIs I g).not_modules]
  refine wpAny_bind (wpAny_specialOf (dict_typeIs I g) PySem.F.slot_dict_getitem.lookup ?_)
  have fin : wpAny (model X.prog X.w) X.A (subscripted slice false (.ref a) u) (fun r s₃ => wpAny (model X.prog X.w) X.A (letTemporaryGo value (.ref a) r >>= fun _ => pure r) (EP X pins σ Q) X.xe s₃) X.xe s := by
    rw [hs]
    exact wpAny_operating (wpAny_mono (d_getItem (E := X.xe) (Q := EP X pins σ Q) hu I g ry fun w' s3 I3 rw' => ⟨z, H, I3, rw', q⟩) (fun r s₃ h₃ => wpAny_bind (wpAny_letTemporaryGo (wpAny_pure h₃))) fun _ _ x => x)
  first
    | exact wpAny_pure (wpAny_bind fin)
    | exact wpAny_bind (wpAny_pure (wpAny_bind fin))
    | exact wpAny_bind fin
end

/-! ### in, not in -/
def flatL : LV → Bool
  | .non => true
  | .bl _ => true
  | .int _ => true
  | .str _ => true
  | _ => false
/-- == of flat values: the item, what is sought -/
def eqFlat : LV → LV → Bool
  | .non, .non => true
  | .bl a, .bl b => a == b
  | .bl a, .int b => (if a then 1 else 0) == b
  | .int a, .bl b => a == (if b then 1 else 0)
  | .int a, .int b => a == b
  | .str a, .str b => a == b
  | _, _ => false
def strIn (s t : Str) : Bool := !(Builtin.Str.occurrences t s 0 t.length 1).isEmpty
def inB (L : LH) (v : LV) : LV → Option Bool
  | .str t => match v with
    | .str s => some (match s.cps with
      | ⟨[c]⟩ => decide (c ∈ t.cps.toList)
      | _ => strIn s t)
    | _ => none
  | .tup xs => guard (flatL v && xs.all flatL) (some (xs.any fun y => eqFlat y v))
  | .ktp xs => guard (flatL v && xs.all flatL) (some (xs.any fun y => eqFlat y v))
  | .lst xs => match toPD L v, toPDs L xs with
    | some d, some ds => guard (SeqAt.shaped d && SeqAt.shaped (.list ds)) (some (ds.any fun z => PyData.eqv z d))
    | _, _ => none
  | .frz xs => match toPD L v, toPDs L xs with
    | some d, some ds => guard (SeqAt.shaped d && SeqAt.shaped (.list ds)) (some (ds.any fun z => PyData.eqv z d))
    | _, _ => none
  | .ref n => match L[n]? with
    | some (.lst xs) => match toPD L v, toPDs L xs with
      | some d, some ds => guard (SeqAt.shaped d && SeqAt.shaped (.list ds)) (some (ds.any fun z => PyData.eqv z d))
      | _, _ => none
    | some (.dic t kvs) => (dKey t v).map fun c => (dLook kvs c).isSome
    | _ => none
  | _ => none
def pIn (L : LH) (v w : LV) : Option LV := (inB L v w).map .bl
def pNin (L : LH) (v w : LV) : Option LV := (inB L v w).map fun b => .bl (!b)
section
variable {K : PySem.W.Frag} {mg : Str → Option Value} {m : Mp} {H : Hp} {L : LH}
theorem flat_of {v : LV} {x : V} (r : Rv K mg m H v x) (h : flatL v = true) : flatV x = true := by
  cases v <;> first | (cases h; done) | (cases r; rfl)
theorem flats_of : ∀ {xs : List LV} {vs : List V}, RvL K mg m H xs vs → xs.all flatL = true → vs.all flatV = true
  | [], _, h, _ => by cases h; rfl
  | v :: r, _, ⟨x, t, e, h1, h2⟩, q => by
    subst e
    rw [List.all_cons, Bool.and_eq_true] at q
    rw [List.all_cons, flat_of h1 q.1, flats_of h2 q.2]; rfl
theorem eqFlat_of {v w : LV} {x y : V} (rv : Rv K mg m H v x) (rw : Rv K mg m H w y) (h1 : flatL v = true) (h2 : flatL w = true) : eqV x y = eqFlat v w := by
  cases v <;> first | (cases h1; done) | (cases w <;> first | (cases h2; done) | (cases rv; cases rw; rfl))
theorem anyFlat_of {v : LV} {x : V} (rv : Rv K mg m H v x) (h1 : flatL v = true) : ∀ {xs : List LV} {vs : List V}, RvL K mg m H xs vs → xs.all flatL = true → inV x vs = xs.any fun y => eqFlat y v
  | [], _, h, _ => by cases h; rfl
  | w :: r, _, ⟨y, t, e, hw, hr⟩, q => by
    subst e
    rw [List.all_cons, Bool.and_eq_true] at q
    show (eqV y x || inV x t) = _
    rw [List.any_cons, eqFlat_of hw rv q.1 h1, anyFlat_of rv h1 hr q.2]
end
section
variable {X : Cx}
/-- what in asks, by its answer b -/
def rInAny (K : PySem.W.Frag) (ng : Bool) : R2 := fun x y H Q =>
  ((∃ (c : Nat) (z : Str), x = .str ⟨#[c]⟩ ∧ y = .str z ∧ Q (.bl (if ng then !decide (c ∈ z.cps.toList) else decide (c ∈ z.cps.toList))) H) ∨ (∃ i j, x = .str i ∧ y = .str j ∧ Q (.bl (if ng then !(!(Builtin.Str.occurrences j i 0 j.length 1).isEmpty) else !(Builtin.Str.occurrences j i 0 j.length 1).isEmpty)) H)) ∨
  (rIn K ng x y H Q ∨ (if ng then rNotInD K x y H Q else rInD K x y H Q) ∨ (if ng then rNinDic x y H Q else rInDic x y H Q))
theorem op_inAny (hu : X.A.units + 65 < cLine) : OpR X (compareOp .In) (rInAny X.K false) := by
  refine (OpR.or (OpR.or op_in_sign op_in_str) (op_in_seq.or ((op_inD hu).or (op_inDic (by omega)))))
theorem op_ninAny (hu : X.A.units + 65 < cLine) : OpR X (compareOp .NotIn) (rInAny X.K true) := by
  refine (OpR.or (OpR.or op_notIn_sign op_notin_str) (op_notIn_seq.or ((op_notInD hu).or (op_ninDic (by omega)))))
theorem in_core {ng : Bool} {m : Mp} {L : LH} {H : Hp} {v w : LV} {x y : V} {b : Bool} {Q : VK} (S : Sim X.K X.mg m H L) (rv : Rv X.K X.mg m H v x) (rw : Rv X.K X.mg m H w y) (h : inB L v w = some b) (q : Q (.bl (if ng then !b else b)) H) : rInAny X.K ng x y H Q := by
  have deep : ∀ {xs : List LV} {a : Addr} {vs : List V} {d : PyData} {ds : List PyData} (_ : y = .ref a) (_ : SqL X.K H a vs) (_ : RvL X.K X.mg m H xs vs) (_ : toPD L v = some d) (_ : toPDs L xs = some ds)
      (_ : guard (SeqAt.shaped d && SeqAt.shaped (.list ds)) (some (ds.any fun z => PyData.eqv z d)) = some b), rInAny X.K ng x y H Q := by
    intro xs a vs d ds e hs hr h1 h2 h3
    subst e
    obtain ⟨h4, h5⟩ := guard_some h3
    rw [Bool.and_eq_true] at h4
    cases h5
    refine .inr (.inr (.inl ?_))
    cases ng
    · exact ⟨d, ds, dp_of _ _ _ rv h1, .lst hs (dps_of _ _ _ hr h2), h4.1, h4.2, q⟩
    · exact ⟨d, ds, dp_of _ _ _ rv h1, .lst hs (dps_of _ _ _ hr h2), h4.1, h4.2, q⟩
  have flat : ∀ {xs : List LV} {a : Addr} {vs : List V} (_ : y = .ref a) (_ : SqT X.K H a vs) (_ : RvL X.K X.mg m H xs vs) (_ : guard (flatL v && xs.all flatL) (some (xs.any fun y => eqFlat y v)) = some b), rInAny X.K ng x y H Q := by
    intro xs a vs e hs hr h3
    subst e
    obtain ⟨h4, h5⟩ := guard_some h3
    rw [Bool.and_eq_true] at h4
    cases h5
    exact .inr (.inl ⟨a, vs, rfl, .inr hs, flat_of rv h4.1, flats_of hr h4.2, by rw [anyFlat_of rv h4.1 hr h4.2]; exact q⟩)
  cases w with
  | str t =>
    cases v with
    | str s =>
      cases rv; cases rw
      simp only [inB] at h
      left
      split at h
      · rename_i c e
        cases h
        left
        exact ⟨c, t, by cases s; simp only at e; rw [e], rfl, q⟩
      · cases h
        right
        exact ⟨s, t, rfl, rfl, q⟩
    | _ => cases h
  | tup xs =>
    obtain ⟨a, vs, e, t, r⟩ := rw
    exact flat e t.sq r h
  | ktp xs =>
    obtain ⟨a, vs, e, t, r⟩ := rw
    exact flat e t.sq r h
  | lst xs =>
    obtain ⟨a, vs, e, t, r⟩ := rw
    simp only [inB] at h
    split at h
    · rename_i d ds h1 h2
      exact deep e t.sq r h1 h2 h
    · cases h
  | frz xs =>
    obtain ⟨a, vs, e, t, r⟩ := rw
    simp only [inB] at h
    split at h
    · rename_i d ds h1 h2
      exact deep e t.sq r h1 h2 h
    · cases h
  | ref n =>
    obtain ⟨a, ha, e⟩ := rw
    simp only [inB] at h
    split at h
    · rename_i xs hl
      split at h
      · rename_i d ds h1 h2
        obtain ⟨vs, hv, r⟩ := S.ob n _ a hl ha
        exact deep e (SqL.of hv) r h1 h2 h
      · cases h
    · rename_i t kvs hl
      obtain ⟨c, hc, rfl⟩ := Option.map_eq_some_iff.mp h
      have g := dget_of (v := .non) (x := .non) (S.ob n _ a hl ha) hc rv
      refine .inr (.inr (.inr ?_))
      cases hd : dLook kvs c with
      | some z =>
        rw [hd] at g q
        obtain ⟨u, g, _⟩ := g
        cases ng
        · exact ⟨a, some u, e, g, q⟩
        · exact ⟨a, some u, e, g, q⟩
      | none =>
        rw [hd] at g q
        cases ng
        · exact ⟨a, none, e, g, q⟩
        · exact ⟨a, none, e, g, q⟩
    · cases h
  | _ => cases h
theorem p_in : P2 X (rInAny X.K false) pIn := by
  intro m L H v w x y z Q S rv rw h f
  obtain ⟨b, hb, rfl⟩ := Option.map_eq_some_iff.mp h
  exact in_core S rv rw hb (f.now S rfl)
theorem p_nin : P2 X (rInAny X.K true) pNin := by
  intro m L H v w x y z Q S rv rw h f
  obtain ⟨b, hb, rfl⟩ := Option.map_eq_some_iff.mp h
  exact in_core S rv rw hb (f.now S rfl)
end

/-! ### order -/
def intsOf : List LV → Option (List Int)
  | [] => some []
  | .int i :: r => (intsOf r).map (i :: ·)
  | _ :: _ => none
def ltB (v w : LV) : Option Bool := match v, w with
  | .int i, .int j => some (decide (i < j))
  | .str s, .str t => some (decide (s.cps.toList < t.cps.toList))
  | v, w => match tupOf v, tupOf w with
    | some xs, some ys => match intsOf xs, intsOf ys with
      | some ns, some ms => some (HT.lexLt ns ms)
      | _, _ => none
    | _, _ => none
def pLt (_ : LH) (v w : LV) : Option LV := (ltB v w).map .bl
def pLe (_ : LH) : LV → LV → Option LV
  | .int i, .int j => some (.bl (decide (i ≤ j)))
  | _, _ => none
def pGt (_ : LH) : LV → LV → Option LV
  | .int i, .int j => some (.bl (decide (j < i)))
  | _, _ => none
def pGe (_ : LH) : LV → LV → Option LV
  | .int i, .int j => some (.bl (decide (j ≤ i)))
  | _, _ => none
section
variable {K : PySem.W.Frag} {mg : Str → Option Value} {m : Mp} {H : Hp} {L : LH}
theorem intsOf_at : ∀ {xs : List LV} {vs : List V} {ns : List Int}, intsOf xs = some ns → RvL K mg m H xs vs → vs = ns.map V.int
  | [], _, _, h, r => by cases h; cases r; rfl
  | .int i :: r, _, ns, h, ⟨x, t, e, h1, h2⟩ => by
    obtain ⟨ms, h3, rfl⟩ := Option.map_eq_some_iff.mp h
    subst e
    rw [List.map_cons, ← intsOf_at h3 h2]
    rw [show x = V.int i from h1]
end
section
variable {X : Cx}
theorem p_lt : P2 X (fun x y H Q => rI0 (fun i j => .bl (decide (i < j))) x y H Q ∨ ((∃ i j, x = .str i ∧ y = .str j ∧ Q (.bl (decide (i.cps.toList < j.cps.toList))) H) ∨ rLtT X.K x y H Q)) pLt := by
  intro m L H v w x y z Q S rv rw h f
  obtain ⟨b, hb, rfl⟩ := Option.map_eq_some_iff.mp h
  unfold ltB at hb
  split at hb
  · cases hb; cases rv; cases rw
    exact .inl ⟨_, _, rfl, rfl, f.now S rfl⟩
  · cases hb; cases rv; cases rw
    exact .inr (.inl ⟨_, _, rfl, rfl, f.now S rfl⟩)
  · split at hb
    · rename_i xs ys h1 h2
      split at hb
      · rename_i ns ms h3 h4
        cases hb
        obtain ⟨a, vs, rfl, ta, ra⟩ := tupOf_at rv h1
        obtain ⟨c, us, rfl, tc, rc⟩ := tupOf_at rw h2
        obtain rfl := intsOf_at h3 ra
        obtain rfl := intsOf_at h4 rc
        exact .inr (.inr ⟨a, c, ns, ms, rfl, rfl, ta, tc, f.now S rfl⟩)
      · cases hb
    · cases hb
theorem p_bool0 {g : Int → Int → Bool} {p : LH → LV → LV → Option LV} (h0 : ∀ L v w z, p L v w = some z → ∃ i j, v = .int i ∧ w = .int j ∧ z = .bl (g i j)) : P2 X (rI0 fun i j => .bl (g i j)) p := by
  intro m L H v w x y z Q S rv rw h f
  obtain ⟨i, j, rfl, rfl, rfl⟩ := h0 _ _ _ _ h
  cases rv; cases rw
  exact ⟨_, _, rfl, rfl, f.now S rfl⟩
theorem p_le : P2 X (rI0 fun i j => .bl (decide (i ≤ j))) pLe := p_bool0 fun L v w z h => by
  cases v <;> cases w <;> first | (cases h; done) | exact ⟨_, _, rfl, rfl, (Option.some.inj h).symm⟩
theorem p_gt : P2 X (rI0 fun i j => .bl (decide (j < i))) pGt := p_bool0 fun L v w z h => by
  cases v <;> cases w <;> first | (cases h; done) | exact ⟨_, _, rfl, rfl, (Option.some.inj h).symm⟩
theorem p_ge : P2 X (rI0 fun i j => .bl (decide (j ≤ i))) pGe := p_bool0 fun L v w z h => by
  cases v <;> cases w <;> first | (cases h; done) | exact ⟨_, _, rfl, rfl, (Option.some.inj h).symm⟩
def isNonL : LV → Bool
  | .non => true
  | _ => false
def pIs (_ : LH) (v w : LV) : Option LV := guard (isNonL w) (some (.bl (isNonL v)))
def pIsn (_ : LH) (v w : LV) : Option LV := guard (isNonL w) (some (.bl (!isNonL v)))
theorem isNon_of {m : Mp} {H : Hp} {v : LV} {x : V} (r : Rv X.K X.mg m H v x) : decide (x = .non) = isNonL v := by
  cases v with
  | non => cases r; rfl
  | bl _ => cases r; rfl
  | int _ => cases r; rfl
  | str _ => cases r; rfl
  | tup _ => obtain ⟨a, _, rfl, _⟩ := r; rfl
  | ktp _ => obtain ⟨a, _, rfl, _⟩ := r; rfl
  | lst _ => obtain ⟨a, _, rfl, _⟩ := r; rfl
  | frz _ => obtain ⟨a, _, rfl, _⟩ := r; rfl
  | ref _ => obtain ⟨a, _, rfl⟩ := r; rfl
  | fn _ => obtain ⟨a, _, rfl⟩ := r; rfl
theorem p_is : P2 X (fun x y H Q => y = .non ∧ Q (.bl (decide (x = .non))) H) pIs := by
  intro m L H v w x y z Q S rv rw h f
  obtain ⟨h1, h2⟩ := guard_some h
  cases h2
  cases w <;> first | (cases h1; done) | (cases rw; exact ⟨rfl, by rw [isNon_of rv]; exact f.now S rfl⟩)
theorem p_isn : P2 X (fun x y H Q => y = .non ∧ Q (.bl (!decide (x = .non))) H) pIsn := by
  intro m L H v w x y z Q S rv rw h f
  obtain ⟨h1, h2⟩ := guard_some h
  cases h2
  cases w <;> first | (cases h1; done) | (cases rw; exact ⟨rfl, by rw [isNon_of rv]; exact f.now S rfl⟩)
end

/-! ### tests -/
def tOf (f : LE) : LT := fun ls L => (f ls L).bind fun v L1 => match v with
  | .bl b => .ok b L1
  | _ => .bad
def truL (L : LH) : LV → Option Bool
  | .non => some false
  | .bl b => some b
  | .int i => some (i != 0)
  | .str y => guard (decide (y.length ≤ sizeLine)) (some ((y.length : Int) != 0))
  | .tup xs => some (!xs.isEmpty)
  | .ktp xs => some (!xs.isEmpty)
  | .lst xs => some (!xs.isEmpty)
  | .frz xs => some (!xs.isEmpty)
  | .ref n => match L[n]? with
    | some (.lst xs) => some (!xs.isEmpty)
    | some (.dic false kvs) => some (!kvs.isEmpty)
    | _ => none
  | _ => none
def tTru (f : LE) : LT := fun ls L => (f ls L).bind fun v L1 => lift (truL L1 v) L1
def tAndL (f g : LT) : LT := fun ls L => (f ls L).bind fun b L1 => if b = true then g ls L1 else .ok false L1
def tOrL (f g : LT) : LT := fun ls L => (f ls L).bind fun b L1 => if b = true then .ok true L1 else g ls L1
def tNotL (f : LT) : LT := fun ls L => (f ls L).bind fun b L1 => .ok (!b) L1
def eIf (c : LT) (f g : LE) : LE := fun ls L => (c ls L).bind fun b L1 => if b = true then f ls L1 else g ls L1
/-- a test as a value -/
def eT (c : LT) : LE := fun ls L => (c ls L).bind fun b L1 => .ok (.bl b) L1
section
variable {X : Cx} {W : WX} {pos : Pos} {a b c e : Expr} {fa fb : LE} {r2 : R2} {rest : List Expr} {f g : LT}
theorem tpost_of {σ : L2.St} {m : Mp} {H : Hp} {r : Res LV} {Q : Bool → Hp → Prop} (h : TPost X W σ m H (r.bind fun v L1 => match v with | .bl b => .ok b L1 | _ => .bad) Q) : EPost X W σ m H r fun x H' => ∃ k, x = .bl k ∧ Q k H' := by
  refine Post.bind h fun v L1 m1 H1 S1 F1 h1 x rx => ?_
  cases v with
  | bl b => cases rx; exact ⟨b, rfl, h1.now S1⟩
  | _ => exact h1.elim
theorem mt_cmp {op : CmpOp} {p : LH → LV → LV → Option LV} (ho : OpR X (compareOp op) r2) (hp : P2 X r2 p) (hm : behindInMarks op b = false) (ha : ME X W a fa) (hb : ME X W b fb) : MT X W (.Compare a [op] [b] pos) (tOf (e2 p fa fb)) := by
  obtain ⟨ta, pa, ha⟩ := ha
  obtain ⟨tb, pb, hb⟩ := hb
  refine ⟨_, pt_cmpR ho pa pb hm, fun m L H ls σ Q S rs h => ?_⟩
  refine ha m L H ls σ _ S rs (Post.bind (tpost_of h) fun v L1 m1 H1 S1 F1 h1 x rx => ?_)
  refine hb m1 L1 H1 ls σ _ S1 (rs.mono F1) (Post.bind h1 fun w L2 m2 H2 S2 F2 h2 y ry => ?_)
  obtain ⟨z, ez, fz⟩ := epost_lift h2
  exact hp _ _ _ _ _ _ _ _ _ S2 (Rv.mono F2 _ _ rx) ry ez fz
theorem me_cmp {op : CmpOp} {p : LH → LV → LV → Option LV} (ho : OpR X (compareOp op) r2) (hp : P2 X r2 p) (hm : behindInMarks op b = false) (ha : ME X W a fa) (hb : ME X W b fb) : ME X W (.Compare a [op] [b] pos) (e2 p fa fb) :=
  me_2 (fun _ _ pa pb => pe_cmpR ho pa pb hm) hp ha hb
/-- an expression whose value is a bool, as a test -/
theorem mt_val (h : ME X W e fa) (he : ∀ whole, isTrue e X.env whole = (do let v ← whole; standAt e.pos; holding [v] (truthy v)) := by intro _; rfl) : MT X W e (tOf fa) := by
  obtain ⟨ta, pa, ha⟩ := h
  exact ⟨_, pt_val pa he, fun m L H ls σ Q S rs h => ha m L H ls σ _ S rs (tpost_of h)⟩
theorem tru_at {m : Mp} {H : Hp} {L : LH} (S : Sim X.K X.mg m H L) {v : LV} {x : V} {k : Bool} (r : Rv X.K X.mg m H v x) (h : truL L v = some k) : TruV X.K x H k := by
  cases v with
  | non => cases r; exact (Option.some.inj h).symm
  | bl b => cases r; exact (Option.some.inj h).symm
  | int i => cases r; exact (Option.some.inj h).symm
  | str y => cases r; obtain ⟨h1, h2⟩ := guard_dec h; exact ⟨h1, (Option.some.inj h2).symm⟩
  | tup xs =>
    obtain ⟨a, vs, rfl, t, q⟩ := r
    refine .inr (.inl ⟨vs, t.sq, ?_⟩)
    cases h
    have := q.length
    cases xs <;> cases vs <;> simp_all
  | ktp xs =>
    obtain ⟨a, vs, rfl, t, q⟩ := r
    refine .inr (.inl ⟨vs, t.sq, ?_⟩)
    cases h
    have := q.length
    cases xs <;> cases vs <;> simp_all
  | lst xs =>
    obtain ⟨a, vs, rfl, t, q⟩ := r
    refine .inl ⟨vs, t.sq, ?_⟩
    cases h
    have := q.length
    cases xs <;> cases vs <;> simp_all
  | frz xs =>
    obtain ⟨a, vs, rfl, t, q⟩ := r
    refine .inl ⟨vs, t.sq, ?_⟩
    cases h
    have := q.length
    cases xs <;> cases vs <;> simp_all
  | ref n =>
    obtain ⟨a, ha, rfl⟩ := r
    simp only [truL] at h
    split at h
    · rename_i xs hl
      obtain ⟨vs, hv, q⟩ := S.ob n _ a hl ha
      refine .inl ⟨vs, SqL.of hv, ?_⟩
      cases h
      have := q.length
      cases xs <;> cases vs <;> simp_all
    · rename_i kvs hl
      obtain ⟨ps, hv, q⟩ := S.ob n _ a hl ha
      refine .inr (.inr ⟨ps, hv, ?_⟩)
      cases h
      have := rd_len q
      cases kvs <;> cases ps <;> simp_all
    · cases h
  | fn x => cases h
theorem mt_tru (h : ME X W e fa) (he : ∀ whole, isTrue e X.env whole = (do let v ← whole; standAt e.pos; holding [v] (truthy v)) := by intro _; rfl) : MT X W e (tTru fa) := by
  obtain ⟨ta, pa, ha⟩ := h
  refine ⟨_, pt_truth pa he, fun m L H ls σ Q S rs h => ha m L H ls σ _ S rs (Post.bind h fun v L1 m1 H1 S1 F1 h1 x rx => ?_)⟩
  cases hk : truL L1 v with
  | none => rw [hk] at h1; exact h1.elim
  | some k =>
    rw [hk] at h1
    exact ⟨k, tru_at S1 rx hk, h1.now S1⟩
theorem mw_and1 (h : MT X W a f) : MW X W (.BoolOp .And [a] pos) f := let ⟨t, p, h⟩ := h; ⟨t, pw_and1 p, h⟩
theorem mw_or1 (h : MT X W a f) : MW X W (.BoolOp .Or [a] pos) f := let ⟨t, p, h⟩ := h; ⟨t, pw_or1 p, h⟩
theorem mw_and (ha : MT X W a f) (hb : MW X W (.BoolOp .And (b :: rest) pos) g) : MW X W (.BoolOp .And (a :: b :: rest) pos) (tAndL f g) := by
  obtain ⟨t, p, ha⟩ := ha
  obtain ⟨u, q, hb⟩ := hb
  refine ⟨_, pw_and p q, fun m L H ls σ Q S rs h => ha m L H ls σ _ S rs (Post.bind h fun c L1 m1 H1 S1 F1 h1 => ?_)⟩
  cases c with
  | true => exact hb m1 L1 H1 ls σ Q S1 (rs.mono F1) h1
  | false => exact h1.now S1
theorem mw_or (ha : MT X W a f) (hb : MW X W (.BoolOp .Or (b :: rest) pos) g) : MW X W (.BoolOp .Or (a :: b :: rest) pos) (tOrL f g) := by
  obtain ⟨t, p, ha⟩ := ha
  obtain ⟨u, q, hb⟩ := hb
  refine ⟨_, pw_or p q, fun m L H ls σ Q S rs h => ha m L H ls σ _ S rs (Post.bind h fun c L1 m1 H1 S1 F1 h1 => ?_)⟩
  cases c with
  | false => exact hb m1 L1 H1 ls σ Q S1 (rs.mono F1) h1
  | true => exact h1.now S1
theorem mt_w (h : MW X W e f) : MT X W e f := let ⟨t, p, h⟩ := h; ⟨t, p.pt, h⟩
theorem mt_not (ha : MT X W a f) : MT X W (.UnaryOp .Not a pos) (tNotL f) := by
  obtain ⟨t, p, ha⟩ := ha
  exact ⟨_, pt_not p, fun m L H ls σ Q S rs h => ha m L H ls σ _ S rs (Post.bind h fun c L1 m1 H1 S1 F1 h1 => h1.now S1)⟩
theorem me_if (hc : MT X W c f) (ha : ME X W a fa) (hb : ME X W b fb) : ME X W (.IfExp c a b pos) (eIf f fa fb) := by
  obtain ⟨t, p, hc⟩ := hc
  obtain ⟨ta, pa, ha⟩ := ha
  obtain ⟨tb, pb, hb⟩ := hb
  refine ⟨_, pe_ifExp p pa pb, fun m L H ls σ Q S rs h => hc m L H ls σ _ S rs (Post.bind h fun c L1 m1 H1 S1 F1 h1 => ?_)⟩
  cases c with
  | true => exact ha m1 L1 H1 ls σ Q S1 (rs.mono F1) h1
  | false => exact hb m1 L1 H1 ls σ Q S1 (rs.mono F1) h1
/-- and, or, not as values: all but the last are bools -/
def eAnd (f g : LE) : LE := fun ls L => (f ls L).bind fun v L1 => match v with
  | .bl true => g ls L1
  | .bl false => .ok (.bl false) L1
  | _ => .bad
def eOr (f g : LE) : LE := fun ls L => (f ls L).bind fun v L1 => match v with
  | .bl false => g ls L1
  | .bl true => .ok (.bl true) L1
  | _ => .bad
def eNot (f : LE) : LE := fun ls L => (f ls L).bind fun v L1 => match v with
  | .bl b => .ok (.bl (!b)) L1
  | _ => .bad
theorem me_one {op} (h : ME X W a fa) : ME X W (.BoolOp op [a] pos) fa := let ⟨t, p, h⟩ := h; ⟨t, pe_one p, h⟩
theorem me_and (ha : ME X W a fa) (hb : ME X W (.BoolOp .And (b :: rest) pos) fb) : ME X W (.BoolOp .And (a :: b :: rest) pos) (eAnd fa fb) := by
  obtain ⟨t, p, ha⟩ := ha
  obtain ⟨u, q, hb⟩ := hb
  refine ⟨_, pe_and p q, fun m L H ls σ Q S rs h => ha m L H ls σ _ S rs (Post.bind h fun v L1 m1 H1 S1 F1 h1 x rx => ?_)⟩
  cases v with
  | bl c =>
    cases rx
    cases c with
    | true => exact ⟨true, rfl, hb m1 L1 H1 ls σ Q S1 (rs.mono F1) h1⟩
    | false => exact ⟨false, rfl, h1.now S1 _ rfl⟩
  | _ => exact h1.elim
theorem me_or (ha : ME X W a fa) (hb : ME X W (.BoolOp .Or (b :: rest) pos) fb) : ME X W (.BoolOp .Or (a :: b :: rest) pos) (eOr fa fb) := by
  obtain ⟨t, p, ha⟩ := ha
  obtain ⟨u, q, hb⟩ := hb
  refine ⟨_, pe_or p q, fun m L H ls σ Q S rs h => ha m L H ls σ _ S rs (Post.bind h fun v L1 m1 H1 S1 F1 h1 x rx => ?_)⟩
  cases v with
  | bl c =>
    cases rx
    cases c with
    | false => exact ⟨false, rfl, hb m1 L1 H1 ls σ Q S1 (rs.mono F1) h1⟩
    | true => exact ⟨true, rfl, h1.now S1 _ rfl⟩
  | _ => exact h1.elim
theorem me_not (ha : ME X W a fa) : ME X W (.UnaryOp .Not a pos) (eNot fa) := by
  obtain ⟨t, p, ha⟩ := ha
  refine ⟨_, pe_not p, fun m L H ls σ Q S rs h => ha m L H ls σ _ S rs (Post.bind h fun v L1 m1 H1 S1 F1 h1 x rx => ?_)⟩
  cases v with
  | bl c => cases rx; exact ⟨c, rfl, h1.now S1 _ rfl⟩
  | _ => exact h1.elim
/-- a op b op' c -/
def eChain (p p' : LH → LV → LV → Option LV) (fa fb fc : LE) : LE := fun ls L => (fa ls L).bind fun v L1 => (fb ls L1).bind fun w L2 => match p L2 v w with
  | some (.bl true) => (fc ls L2).bind fun u L3 => lift (p' L3 w u) L3
  | some (.bl false) => .ok (.bl false) L2
  | _ => .bad
/-- the answers of p are bools, at the heap as it stands -/
def PB (X : Cx) (r : R2) (p : LH → LV → LV → Option LV) : Prop := ∀ m L H v w x y b (Q : VK), Sim X.K X.mg m H L → Rv X.K X.mg m H v x → Rv X.K X.mg m H w y → p L v w = some (.bl b) → Q (.bl b) H → r x y H Q
theorem chain_core {fc : LE} {tc : TE} {r r' : R2} {p p' : LH → LV → LV → Option LV} (hp : PB X r p) (hp' : P2 X r' p') {ta tb : TE}
    (ha : ∀ m L H ls σ Q, Sim X.K X.mg m H L → RS X.K X.mg m H ls σ → EPost X W σ m H (fa ls L) Q → ta σ H Q)
    (hb : ∀ m L H ls σ Q, Sim X.K X.mg m H L → RS X.K X.mg m H ls σ → EPost X W σ m H (fb ls L) Q → tb σ H Q)
    (hc : ∀ m L H ls σ Q, Sim X.K X.mg m H L → RS X.K X.mg m H ls σ → EPost X W σ m H (fc ls L) Q → tc σ H Q)
    {m : Mp} {L : LH} {H : Hp} {ls : LSt} {σ : L2.St} {Q : VK} (S : Sim X.K X.mg m H L) (rs : RS X.K X.mg m H ls σ) (h : EPost X W σ m H (eChain p p' fa fb fc ls L) Q) : tChain r r' ta tb tc σ H Q := by
  refine ha m L H ls σ _ S rs (Post.bind h fun v L1 m1 H1 S1 F1 h1 x rx => ?_)
  refine hb m1 L1 H1 ls σ _ S1 (rs.mono F1) (Post.bind h1 fun w L2 m2 H2 S2 F2 h2 y ry => ?_)
  split at h2
  · rename_i e
    refine hp m2 L2 H2 v w x y true _ S2 (Rv.mono F2 _ _ rx) ry e ⟨true, rfl, ?_⟩
    rw [if_pos rfl]
    refine hc m2 L2 H2 ls σ _ S2 ((rs.mono F1).mono F2) (Post.bind h2 fun u L3 m3 H3 S3 F3 h3 z rz => ?_)
    obtain ⟨q, eq, fq⟩ := epost_lift h3
    exact hp' _ _ _ _ _ _ _ _ _ S3 (Rv.mono F3 _ _ ry) rz eq fq
  · rename_i e
    refine hp m2 L2 H2 v w x y false _ S2 (Rv.mono F2 _ _ rx) ry e ⟨false, rfl, ?_⟩
    rw [if_neg Bool.false_ne_true]
    exact h2.now S2 _ rfl
  · exact h2.elim
theorem me_chain {fc : LE} {op op' : CmpOp} {r r' : R2} {p p' : LH → LV → LV → Option LV} (ho : OpR X (compareOp op) r) (ho' : OpR X (compareOp op') r') (hp : PB X r p) (hp' : P2 X r' p') (ha : ME X W a fa) (hb : ME X W b fb) (hc : ME X W c fc)
    (hm : lastMarks [op, op'] [b, c] = false := by with_unfolding_all rfl) : ME X W (.Compare a [op, op'] [b, c] pos) (eChain p p' fa fb fc) := by
  obtain ⟨ta, pa, ha⟩ := ha
  obtain ⟨tb, pb, hb⟩ := hb
  obtain ⟨tc, pc, hc⟩ := hc
  exact ⟨_, pe_chain ho ho' pa pb pc hm, fun m L H ls σ Q S rs h => chain_core hp hp' ha hb hc S rs h⟩
theorem mt_chain {fc : LE} {op op' : CmpOp} {r r' : R2} {p p' : LH → LV → LV → Option LV} (ho : OpR X (compareOp op) r) (ho' : OpR X (compareOp op') r') (hp : PB X r p) (hp' : P2 X r' p') (ha : ME X W a fa) (hb : ME X W b fb) (hc : ME X W c fc)
    (hm : lastMarks [op, op'] [b, c] = false := by with_unfolding_all rfl) : MT X W (.Compare a [op, op'] [b, c] pos) (tOf (eChain p p' fa fb fc)) := by
  obtain ⟨ta, pa, ha⟩ := ha
  obtain ⟨tb, pb, hb⟩ := hb
  obtain ⟨tc, pc, hc⟩ := hc
  exact ⟨_, pt_chain ho ho' pa pb pc hm, fun m L H ls σ Q S rs h => chain_core hp hp' ha hb hc S rs (tpost_of h)⟩
theorem pb_le : PB X (rI0 fun i j => .bl (decide (i ≤ j))) pLe := by
  intro m L H v w x y b Q S rv rw h q
  cases v <;> cases w <;> first | (cases h; done) | (cases h; cases rv; cases rw; exact ⟨_, _, rfl, rfl, q⟩)
theorem pb_lt : PB X (rI0 fun i j => .bl (decide (i < j))) (fun _ v w => match v, w with | .int i, .int j => some (.bl (decide (i < j))) | _, _ => none) := by
  intro m L H v w x y b Q S rv rw h q
  cases v <;> cases w <;> first | (cases h; done) | (cases h; cases rv; cases rw; exact ⟨_, _, rfl, rfl, q⟩)
end

/-! ### the comparisons, one by one -/
section
variable {X : Cx} {W : WX} {pos : Pos} {a b : Expr} {fa fb : LE}
theorem mt_eq (hu : X.A.units + 65 < cLine) (ha : ME X W a fa) (hb : ME X W b fb) : MT X W (.Compare a [.Eq] [b] pos) (tOf (e2 pEq fa fb)) := mt_cmp (op_eqD (by omega)) p_eq (nomark _) ha hb
theorem mt_ne (hu : X.A.units + 65 < cLine) (ha : ME X W a fa) (hb : ME X W b fb) : MT X W (.Compare a [.NotEq] [b] pos) (tOf (e2 pNe fa fb)) := mt_cmp (op_neD (by omega)) p_ne (nomark _) ha hb
theorem mt_lt (hu : X.A.units + 65 < cLine) (ha : ME X W a fa) (hb : ME X W b fb) : MT X W (.Compare a [.Lt] [b] pos) (tOf (e2 pLt fa fb)) := mt_cmp (op_lt.or (op_lt_str.or (op_ltT (by omega)))) p_lt (nomark _) ha hb
theorem mt_le (ha : ME X W a fa) (hb : ME X W b fb) : MT X W (.Compare a [.LtE] [b] pos) (tOf (e2 pLe fa fb)) := mt_cmp op_le p_le (nomark _) ha hb
theorem mt_gt (ha : ME X W a fa) (hb : ME X W b fb) : MT X W (.Compare a [.Gt] [b] pos) (tOf (e2 pGt fa fb)) := mt_cmp op_gt p_gt (nomark _) ha hb
theorem mt_ge (ha : ME X W a fa) (hb : ME X W b fb) : MT X W (.Compare a [.GtE] [b] pos) (tOf (e2 pGe fa fb)) := mt_cmp op_ge p_ge (nomark _) ha hb
theorem mt_in (hu : X.A.units + 65 < cLine) (hm : behindInMarks .In b = false) (ha : ME X W a fa) (hb : ME X W b fb) : MT X W (.Compare a [.In] [b] pos) (tOf (e2 pIn fa fb)) := mt_cmp (op_inAny hu) p_in hm ha hb
theorem mt_nin (hu : X.A.units + 65 < cLine) (hm : behindInMarks .NotIn b = false) (ha : ME X W a fa) (hb : ME X W b fb) : MT X W (.Compare a [.NotIn] [b] pos) (tOf (e2 pNin fa fb)) := mt_cmp (op_ninAny hu) p_nin hm ha hb
theorem mt_is (ha : ME X W a fa) (hb : ME X W b fb) : MT X W (.Compare a [.Is] [b] pos) (tOf (e2 pIs fa fb)) := mt_cmp op_isN p_is (nomark _) ha hb
theorem mt_isn (ha : ME X W a fa) (hb : ME X W b fb) : MT X W (.Compare a [.IsNot] [b] pos) (tOf (e2 pIsn fa fb)) := mt_cmp op_notN p_isn (nomark _) ha hb
theorem me_eq (hu : X.A.units + 65 < cLine) (ha : ME X W a fa) (hb : ME X W b fb) : ME X W (.Compare a [.Eq] [b] pos) (e2 pEq fa fb) := me_cmp (op_eqD (by omega)) p_eq (nomark _) ha hb
theorem me_ne (hu : X.A.units + 65 < cLine) (ha : ME X W a fa) (hb : ME X W b fb) : ME X W (.Compare a [.NotEq] [b] pos) (e2 pNe fa fb) := me_cmp (op_neD (by omega)) p_ne (nomark _) ha hb
theorem me_lt (hu : X.A.units + 65 < cLine) (ha : ME X W a fa) (hb : ME X W b fb) : ME X W (.Compare a [.Lt] [b] pos) (e2 pLt fa fb) := me_cmp (op_lt.or (op_lt_str.or (op_ltT (by omega)))) p_lt (nomark _) ha hb
theorem me_le (ha : ME X W a fa) (hb : ME X W b fb) : ME X W (.Compare a [.LtE] [b] pos) (e2 pLe fa fb) := me_cmp op_le p_le (nomark _) ha hb
theorem me_gt (ha : ME X W a fa) (hb : ME X W b fb) : ME X W (.Compare a [.Gt] [b] pos) (e2 pGt fa fb) := me_cmp op_gt p_gt (nomark _) ha hb
theorem me_ge (ha : ME X W a fa) (hb : ME X W b fb) : ME X W (.Compare a [.GtE] [b] pos) (e2 pGe fa fb) := me_cmp op_ge p_ge (nomark _) ha hb
theorem me_in (hu : X.A.units + 65 < cLine) (hm : behindInMarks .In b = false) (ha : ME X W a fa) (hb : ME X W b fb) : ME X W (.Compare a [.In] [b] pos) (e2 pIn fa fb) := me_cmp (op_inAny hu) p_in hm ha hb
theorem me_nin (hu : X.A.units + 65 < cLine) (hm : behindInMarks .NotIn b = false) (ha : ME X W a fa) (hb : ME X W b fb) : ME X W (.Compare a [.NotIn] [b] pos) (e2 pNin fa fb) := me_cmp (op_ninAny hu) p_nin hm ha hb
theorem me_is (ha : ME X W a fa) (hb : ME X W b fb) : ME X W (.Compare a [.Is] [b] pos) (e2 pIs fa fb) := me_cmp op_isN p_is (nomark _) ha hb
theorem me_isn (ha : ME X W a fa) (hb : ME X W b fb) : ME X W (.Compare a [.IsNot] [b] pos) (e2 pIsn fa fb) := me_cmp op_notN p_isn (nomark _) ha hb
end
end G

namespace G
open PySem PySem.Spec PyProof.Rows L2
/-! ### argument lists, displays -/
def aNil : LF := fun _ L => .ok [] L
def aCons (f : LE) (g : LF) : LF := fun ls L => (f ls L).bind fun v L1 => (g ls L1).bind fun vs L2 => .ok (v :: vs) L2
def eTup (f : LF) : LE := fun ls L => (f ls L).bind fun vs L1 => .ok (.tup vs) L1
/-- a new dict of the program's heap -/
def eDic (t : Bool) : LE := fun _ L => .ok (.ref L.length) (L ++ [.dic t []])
def eDic1 (t : Bool) (fk fv : LE) : LE := fun ls L => (fk ls L).bind fun k L1 => (fv ls L1).bind fun v L2 => if (dKey t k).isSome = true then .ok (.ref L2.length) (L2 ++ [.dic t [(k, v)]]) else .bad
theorem Res.bind_ok {α β : Type} {r : Res α} {k : α → LH → Res β} {v : β} {L : LH} (h : r.bind k = .ok v L) : ∃ a L1, r = .ok a L1 ∧ k a L1 = .ok v L := by
  cases r with
  | ok a L1 => exact ⟨a, L1, rfl, h⟩
  | err e L1 => cases h
  | bad => cases h
section
variable {X : Cx} {W : WX} {pos : Pos} {e a b : Expr} {es : List Expr} {f fa fb : LE} {g : LF}
theorem ma_nil : MA X W [] aNil := ⟨fun _ _ _ _ h => by cases h; rfl, _, pa_nil, fun m L H ls σ Q S rs h => h m H S .refl [] rfl⟩
theorem ma_cons (ha : ME X W e f) (hr : MA X W es g) (hs : starEach (e :: es) X.env = (false, eval e X.env) :: starEach es X.env := by rfl) : MA X W (e :: es) (aCons f g) := by
  obtain ⟨t, p, ha⟩ := ha
  obtain ⟨hl, u, q, hr⟩ := hr
  refine ⟨fun ls L vs L' h => ?_, _, pa_cons p q hs, fun m L H ls σ Q S rs h => ha m L H ls σ _ S rs (Post.bind h fun v L1 m1 H1 S1 F1 h1 x rx => ?_)⟩
  · obtain ⟨v, L1, h1, h2⟩ := Res.bind_ok h
    obtain ⟨r, L2, h3, h4⟩ := Res.bind_ok h2
    cases h4
    rw [List.length_cons, List.length_cons, hl _ _ _ _ h3]
  · refine hr m1 L1 H1 ls σ _ S1 (rs.mono F1) (Post.bind h1 fun vs L2 m2 H2 S2 F2 h2 xs rxs => ?_)
    exact h2.now S2 _ ⟨x, xs, rfl, Rv.mono F2 _ _ rx, rxs⟩
theorem me_tup {k} (h : MA X W es g) (hz : decide (es.length ≤ 1000) = true := by rfl) : ME X W (.Tuple es k pos) (eTup g) := by
  obtain ⟨hl, t, p, h⟩ := h
  refine ⟨_, pe_tup p, fun m L H ls σ Q S rs q => h m L H ls σ _ S rs ?_⟩
  unfold eTup at q
  cases hg : g ls L with
  | ok vs L1 =>
    rw [hg] at q
    intro m1 H1 S1 F1 xs rx
    have len : vs.length = es.length := hl _ _ _ _ hg
    refine ⟨by rw [rx.length, len]; exact Nat.le_trans (of_decide_eq_true hz) (by rw [sizeLine_eq]; decide), fun p hp => ?_⟩
    exact q m1 _ (S1.upd hp) (F1.trans (Fr.upd hp)) _ ⟨p, xs, rfl, ⟨upd_same, S1.out hp⟩, RvL.mono (Fr.upd hp) _ _ rx⟩
  | err e L1 => rw [hg] at q; exact q
  | bad => rw [hg] at q; exact q
theorem mf_lst (h : MA X W es g) (hz : decide (es.length ≤ 1000) = true := by rfl) : MF X W (.List es pos) g := by
  obtain ⟨hl, t, p, h⟩ := h
  refine ⟨_, pe_lst p, fun m L H ls σ Q S rs q => h m L H ls σ _ S rs ?_⟩
  cases hg : g ls L with
  | ok vs L1 =>
    rw [hg] at q
    intro m1 H1 S1 F1 xs rx
    have len : vs.length = es.length := hl _ _ _ _ hg
    refine ⟨by rw [rx.length, len]; exact Nat.le_trans (of_decide_eq_true hz) (by rw [sizeLine_eq]; decide), fun p hp => ?_⟩
    exact q (m1.add p) _ (S1.add hp) (F1.trans ((Fr.upd hp).add hp)) p xs (F1.fresh S1 hp) upd_same (.inr rfl) (S1.outi hp) (RvL.mono ((Fr.upd hp).add hp) _ _ rx)
  | err e L1 => rw [hg] at q; exact q
  | bad => rw [hg] at q; exact q
theorem add_push {K : PySem.W.Frag} {mg : Str → Option Value} {m : Mp} {H : Hp} {L : LH} {p : Addr} {o : HO} {lo : LO} (S : Sim K mg m H L) (hp : H p = none) (r : RO K mg ((m.add p).push p (.inr rfl)) (upd H p o) lo p) :
    Sim K mg ((m.add p).push p (.inr rfl)) (upd H p o) (L ++ [lo]) ∧ Fr m H ((m.add p).push p (.inr rfl)) (upd H p o) ∧ Rv K mg ((m.add p).push p (.inr rfl)) (upd H p o) (.ref L.length) (.ref p) := by
  refine ⟨(S.add hp).push (S.outi hp) r, ((Fr.upd hp).add hp).push hp, p, ?_, rfl⟩
  show (m.ι ++ [p])[L.length]? = some p
  rw [← S.len, List.getElem?_append_right (Nat.le_refl _), Nat.sub_self]
  rfl
theorem me_dicK : ME X W (.Dict [] [] pos) (eDic false) := by
  refine ⟨_, pe_dnewK, fun m L H ls σ Q S rs q p hp => ?_⟩
  obtain ⟨S1, F1, r1⟩ := add_push (K := X.K) (mg := X.mg) (lo := .dic false []) (o := .dK []) S hp ⟨[], upd_same, rfl⟩
  exact q _ _ S1 F1 _ r1
theorem me_dicT : ME X W (.Dict [] [] pos) (eDic true) := by
  refine ⟨_, pe_dnewT, fun m L H ls σ Q S rs q p hp => ?_⟩
  obtain ⟨S1, F1, r1⟩ := add_push (K := X.K) (mg := X.mg) (lo := .dic true []) (o := .dT []) S hp ⟨[], upd_same, rfl⟩
  exact q _ _ S1 F1 _ r1
end

/-! ### subscripts -/
def pIx (L : LH) (v w : LV) : Option LV := match v, w with
  | .str z, .int i => guard (decide (z.length ≤ sizeLine)) ((atI z.cps.toList i).map fun c => .str ⟨#[c]⟩)
  | .ref n, k => match L[n]? with
    | some (.lst xs) => match k with
      | .int i => atI xs i
      | _ => none
    | some (.dic t kvs) => (dKey t k).bind fun c => dLook kvs c
    | _ => none
  | v, .int i => (seqOf L v).bind fun xs => atI xs i
  | _, _ => none
section
variable {K : PySem.W.Frag} {mg : Str → Option Value} {m : Mp} {H : Hp} {L : LH}
theorem atI_of {xs : List LV} {vs : List V} {i : Int} {v : LV} (r : RvL K mg m H xs vs) (h : atI xs i = some v) : ∃ x, atI vs i = some x ∧ Rv K mg m H v x := by
  unfold atI at *
  rw [r.length]
  cases hj : ixN xs.length i with
  | none => rw [hj] at h; cases h
  | some j =>
    rw [hj] at h
    exact r.get h
end
section
variable {X : Cx} {W : WX} {pos : Pos} {a b : Expr} {fa fb : LE}
theorem p_ix : P2 X (fun x y H Q => rIx X.K x y H Q ∨ rIxDic x y H Q) pIx := by
  intro m L H v w x y z Q S rv rw h f
  have lst : ∀ {xs : List LV} {a : Addr} {vs : List V} {i : Int}, x = .ref a → SqL X.K H a vs → RvL X.K X.mg m H xs vs → w = .int i → atI xs i = some z → (rIx X.K x y H Q ∨ rIxDic x y H Q) := by
    intro xs a vs i e hs hr ew ha
    subst e ew
    cases rw
    obtain ⟨u, h1, h2⟩ := atI_of hr ha
    exact .inl (.inl ⟨a, vs, i, u, rfl, rfl, hs, h1, f.now S h2⟩)
  have tup : ∀ {xs : List LV} {a : Addr} {vs : List V} {i : Int}, x = .ref a → SqT X.K H a vs → RvL X.K X.mg m H xs vs → w = .int i → atI xs i = some z → (rIx X.K x y H Q ∨ rIxDic x y H Q) := by
    intro xs a vs i e hs hr ew ha
    subst e ew
    cases rw
    obtain ⟨u, h1, h2⟩ := atI_of hr ha
    exact .inl (.inr (.inl ⟨a, vs, i, u, rfl, rfl, hs, h1, f.now S h2⟩))
  cases v with
  | str s =>
    cases w with
    | int i =>
      obtain ⟨h1, h2⟩ := guard_dec h
      obtain ⟨c, h3, rfl⟩ := Option.map_eq_some_iff.mp h2
      cases rv; cases rw
      exact .inl (.inr (.inr ⟨s, i, c, rfl, rfl, h1, h3, f.now S rfl⟩))
    | _ => cases h
  | ref n =>
    obtain ⟨a, ha, e⟩ := rv
    simp only [pIx] at h
    split at h
    · rename_i xs hl
      obtain ⟨vs, hv, r⟩ := S.ob n _ a hl ha
      cases w with
      | int i => exact lst e (SqL.of hv) r rfl h
      | _ => cases h
    · rename_i t kvs hl
      obtain ⟨c, hc, hd⟩ := Option.bind_eq_some_iff.mp h
      have g := dget_of (v := .non) (x := .non) (S.ob n _ a hl ha) hc rw
      rw [hd] at g
      obtain ⟨u, g, ru⟩ := g
      exact .inr ⟨a, u, e, g, f.now S ru⟩
    · cases h
  | tup xs =>
    cases w with
    | int i => obtain ⟨a, vs, e, t, r⟩ := rv; exact tup e t.sq r rfl h
    | _ => cases h
  | ktp xs =>
    cases w with
    | int i => obtain ⟨a, vs, e, t, r⟩ := rv; exact tup e t.sq r rfl h
    | _ => cases h
  | lst xs =>
    cases w with
    | int i => obtain ⟨a, vs, e, t, r⟩ := rv; exact lst e t.sq r rfl h
    | _ => cases h
  | frz xs =>
    cases w with
    | int i => obtain ⟨a, vs, e, t, r⟩ := rv; exact lst e t.sq r rfl h
    | _ => cases h
  | _ => cases w <;> cases h
theorem me_ix (hu : X.A.units + 65 < cLine) (hs : PlainIx b) (ha : ME X W a fa) (hb : ME X W b fb) : ME X W (.Subscript a b pos) (e2 pIx fa fb) :=
  me_2 (fun _ _ pa pb => pe_ix (ix_seq.or (ix_dic (by omega))) pa pb hs) p_ix ha hb
end

/-! ### slices -/
def cutL (xs : List LV) (lo hi : Option Int) : List LV := (xs.drop (HT.sIx xs.length 0 lo)).take (HT.sIx xs.length xs.length hi - HT.sIx xs.length 0 lo)
abbrev LPart := LSt → LH → Res (Option Int)
def oNone : LPart := fun _ L => .ok none L
def oSome (f : LE) : LPart := fun ls L => (f ls L).bind fun v L1 => match v with
  | .int i => .ok (some i) L1
  | _ => .bad
/-- of a text, of a tuple -/
def pSlice (_ : LH) (v : LV) (lo hi : Option Int) : Option LV := match v with
  | .str z => guard (decide (z.length ≤ sizeLine)) (some (.str (cutS z lo hi)))
  | .tup xs => some (.tup (cutL xs lo hi))
  | _ => none
def pSliceL (L : LH) (v : LV) (lo hi : Option Int) : Option (List LV) := (lsqOf L v).map fun xs => cutL xs lo hi
def e3 (p : LH → LV → Option Int → Option Int → Option LV) (f : LE) (lo hi : LPart) : LE := fun ls L => (f ls L).bind fun v L1 => (lo ls L1).bind fun l L2 => (hi ls L2).bind fun h L3 => lift (p L3 v l h) L3
def f3 (p : LH → LV → Option Int → Option Int → Option (List LV)) (f : LE) (lo hi : LPart) : LF := fun ls L => (f ls L).bind fun v L1 => (lo ls L1).bind fun l L2 => (hi ls L2).bind fun h L3 => lift (p L3 v l h) L3
section
variable (X : Cx) (W : WX)
def MO (e : Option Expr) (f : LPart) : Prop := ∃ t, PO X e t ∧ ∀ m L H ls σ Q, Sim X.K X.mg m H L → RS X.K X.mg m H ls σ → Post X W σ m H (fun o _ _ H' => Q o H') (f ls L) → t σ H Q
end
section
variable {X : Cx} {W : WX} {pos p2 : Pos} {e : Expr} {lo hi : Option Expr} {f : LE} {fl fh : LPart}
theorem mo_none : MO X W none oNone := ⟨_, po_none, fun m L H ls σ Q S rs h => h.now S⟩
theorem mo_some (h : ME X W e f) : MO X W (some e) (oSome f) := by
  obtain ⟨t, p, h⟩ := h
  refine ⟨_, po_some p, fun m L H ls σ Q S rs q => h m L H ls σ _ S rs (Post.bind q fun v L1 m1 H1 S1 F1 h1 x rx => ?_)⟩
  cases v with
  | int i => cases rx; exact ⟨i, rfl, h1.now S1⟩
  | _ => exact h1.elim
theorem RvL.cut {K : PySem.W.Frag} {mg : Str → Option Value} {m : Mp} {H : Hp} {xs : List LV} {vs : List V} (r : RvL K mg m H xs vs) (lo hi : Option Int) : RvL K mg m H (cutL xs lo hi) (cutV vs lo hi) := by
  unfold cutL cutV
  rw [r.length]
  exact (r.drop _).take _
theorem cut_whole {xs : List LV} {lo hi : Option Int} (h1 : HT.sIx xs.length 0 lo = 0) (h2 : HT.sIx xs.length xs.length hi = xs.length) : cutL xs lo hi = xs := by
  unfold cutL; rw [h1, h2]; simp
theorem me_slice (he : ME X W e f) (hl : MO X W lo fl) (hh : MO X W hi fh) : ME X W (.Subscript e (.Slice lo hi none p2) pos) (e3 pSlice f fl fh) := by
  obtain ⟨t, p, he⟩ := he
  obtain ⟨tl, pl, hl⟩ := hl
  obtain ⟨th, ph, hh⟩ := hh
  refine ⟨_, pe_slice (sl_str.or sl_tupA) p pl ph, fun m L H ls σ Q S rs q => he m L H ls σ _ S rs (Post.bind q fun v L1 m1 H1 S1 F1 h1 x rx => ?_)⟩
  refine hl m1 L1 H1 ls σ _ S1 (rs.mono F1) (Post.bind h1 fun l L2 m2 H2 S2 F2 h2 => ?_)
  refine hh m2 L2 H2 ls σ _ S2 ((rs.mono F1).mono F2) (Post.bind h2 fun h L3 m3 H3 S3 F3 h3 => ?_)
  obtain ⟨z, ez, fz⟩ := epost_lift h3
  have rx3 := Rv.mono F3 _ _ (Rv.mono F2 _ _ rx)
  cases v with
  | str s =>
    obtain ⟨h4, h5⟩ := guard_dec ez
    cases h5; cases rx3
    exact .inl ⟨s, rfl, h4, fz.now S3 rfl⟩
  | tup xs =>
    cases ez
    obtain ⟨a, vs, rfl, ta, r⟩ := rx3
    refine .inr ⟨a, vs, rfl, ta.sq, fun hw => ?_, fun hw p hp => fz.tup S3 (r.cut l h) hp⟩
    rw [r.length] at hw
    refine fz.now S3 ⟨a, vs, rfl, ta, ?_⟩
    rw [cut_whole hw.1 hw.2]
    exact r
  | _ => cases ez
theorem mf_slice (he : ME X W e f) (hl : MO X W lo fl) (hh : MO X W hi fh) : MF X W (.Subscript e (.Slice lo hi none p2) pos) (f3 pSliceL f fl fh) := by
  obtain ⟨t, p, he⟩ := he
  obtain ⟨tl, pl, hl⟩ := hl
  obtain ⟨th, ph, hh⟩ := hh
  refine ⟨_, pe_slice sl_list p pl ph, fun m L H ls σ Q S rs q => he m L H ls σ _ S rs (Post.bind q fun v L1 m1 H1 S1 F1 h1 x rx => ?_)⟩
  refine hl m1 L1 H1 ls σ _ S1 (rs.mono F1) (Post.bind h1 fun l L2 m2 H2 S2 F2 h2 => ?_)
  refine hh m2 L2 H2 ls σ _ S2 ((rs.mono F1).mono F2) (Post.bind h2 fun h L3 m3 H3 S3 F3 h3 => ?_)
  obtain ⟨z, ez, fz⟩ := fpost_lift (fpost_move h3 S3 ((F1.trans F2).trans F3))
  obtain ⟨xs, h4, rfl⟩ := Option.map_eq_some_iff.mp ez
  obtain ⟨a, vs, rfl, ha, r⟩ := lsqOf_at S3 (Rv.mono F3 _ _ (Rv.mono F2 _ _ rx)) h4
  exact ⟨a, vs, rfl, ha, fun p hp => fz.lst S3 (r.cut l h) hp⟩
end

/-! ### calls of built-ins -/
def eCall (p : LH → List LV → Option LV) (f : LF) : LE := fun ls L => (f ls L).bind fun vs L1 => lift (p L1 vs) L1
def fCall (p : LH → List LV → Option (List LV)) (f : LF) : LF := fun ls L => (f ls L).bind fun vs L1 => lift (p L1 vs) L1
def PC1 (X : Cx) (r : List V → Hp → VK → Prop) (p : LH → List LV → Option LV) : Prop := ∀ m L H vs xs z Q, Sim X.K X.mg m H L → RvL X.K X.mg m H vs xs → p L vs = some z → Fine X m H L z Q → r xs H Q
def PCF (X : Cx) (r : List V → Hp → VK → Prop) (p : LH → List LV → Option (List LV)) : Prop := ∀ m L H vs xs z Q, Sim X.K X.mg m H L → RvL X.K X.mg m H vs xs → p L vs = some z → FineL X m H L z Q → r xs H Q
section
variable {X : Cx} {W : WX} {pos p : Pos} {e : Expr} {es : List Expr} {x : Str} {id T : String} {r : List V → Hp → VK → Prop} {g : LF}
theorem me_callB {pf : LH → List LV → Option LV} (hc : CallR X (.builtin id) r) (hp : PC1 X r pf) (hg : Gl X x) (hm : X.mg x = none) (hv : bootBuiltins x = some (.builtin id)) (ha : MA X W (e :: es) g) (hn : x ≠ "__name__" := by decide) (hdb : (x == ("__debug__" : Str)) = false := by decide)
    (he : starEach (e :: es) X.env = (false, eval e X.env) :: starEach es X.env := by rfl) (hpl : (backTo pos (starEach es X.env)).any (·.1) = false := by rfl) : ME X W (.Call (.Name x p) (e :: es) [] pos) (eCall pf g) := by
  obtain ⟨hl, t, pa, ha⟩ := ha
  refine ⟨_, pe_callB hc hg hm hv pa hn hdb he hpl, fun m L H ls σ Q S rs q => ha m L H ls σ _ S rs (Post.bind q fun vs L1 m1 H1 S1 F1 h1 xs rx => ?_)⟩
  obtain ⟨z, ez, fz⟩ := epost_lift h1
  exact hp _ _ _ _ _ _ _ S1 rx ez fz
theorem me_callTy {pf : LH → List LV → Option LV} (hc : CallR X (.type T) r) (hp : PC1 X r pf) (hg : Gl X x) (hm : X.mg x = none) (hv : bootBuiltins x = some (.type T)) (ha : MA X W (e :: es) g) (hn : x ≠ "__name__" := by decide) (hdb : (x == ("__debug__" : Str)) = false := by decide)
    (he : starEach (e :: es) X.env = (false, eval e X.env) :: starEach es X.env := by rfl) (hpl : (backTo pos (starEach es X.env)).any (·.1) = false := by rfl) : ME X W (.Call (.Name x p) (e :: es) [] pos) (eCall pf g) := by
  obtain ⟨hl, t, pa, ha⟩ := ha
  refine ⟨_, pe_callTy hc hg hm hv pa hn hdb he hpl, fun m L H ls σ Q S rs q => ha m L H ls σ _ S rs (Post.bind q fun vs L1 m1 H1 S1 F1 h1 xs rx => ?_)⟩
  obtain ⟨z, ez, fz⟩ := epost_lift h1
  exact hp _ _ _ _ _ _ _ S1 rx ez fz
theorem mf_callB {pf : LH → List LV → Option (List LV)} (hc : CallR X (.builtin id) r) (hp : PCF X r pf) (hg : Gl X x) (hm : X.mg x = none) (hv : bootBuiltins x = some (.builtin id)) (ha : MA X W (e :: es) g) (hn : x ≠ "__name__" := by decide) (hdb : (x == ("__debug__" : Str)) = false := by decide)
    (he : starEach (e :: es) X.env = (false, eval e X.env) :: starEach es X.env := by rfl) (hpl : (backTo pos (starEach es X.env)).any (·.1) = false := by rfl) : MF X W (.Call (.Name x p) (e :: es) [] pos) (fCall pf g) := by
  obtain ⟨hl, t, pa, ha⟩ := ha
  refine ⟨_, pe_callB hc hg hm hv pa hn hdb he hpl, fun m L H ls σ Q S rs q => ha m L H ls σ _ S rs (Post.bind q fun vs L1 m1 H1 S1 F1 h1 xs rx => ?_)⟩
  obtain ⟨z, ez, fz⟩ := fpost_lift (fpost_move h1 S1 F1)
  exact hp _ _ _ _ _ _ _ S1 rx ez fz
theorem mf_callTy {pf : LH → List LV → Option (List LV)} (hc : CallR X (.type T) r) (hp : PCF X r pf) (hg : Gl X x) (hm : X.mg x = none) (hv : bootBuiltins x = some (.type T)) (ha : MA X W (e :: es) g) (hn : x ≠ "__name__" := by decide) (hdb : (x == ("__debug__" : Str)) = false := by decide)
    (he : starEach (e :: es) X.env = (false, eval e X.env) :: starEach es X.env := by rfl) (hpl : (backTo pos (starEach es X.env)).any (·.1) = false := by rfl) : MF X W (.Call (.Name x p) (e :: es) [] pos) (fCall pf g) := by
  obtain ⟨hl, t, pa, ha⟩ := ha
  refine ⟨_, pe_callTy hc hg hm hv pa hn hdb he hpl, fun m L H ls σ Q S rs q => ha m L H ls σ _ S rs (Post.bind q fun vs L1 m1 H1 S1 F1 h1 xs rx => ?_)⟩
  obtain ⟨z, ez, fz⟩ := fpost_lift (fpost_move h1 S1 F1)
  exact hp _ _ _ _ _ _ _ S1 rx ez fz
end
def pLen (L : LH) : List LV → Option LV
  | [.str s] => guard (decide (s.length ≤ sizeLine)) (some (.int s.length))
  | [.ref n] => match L[n]? with
    | some (.lst xs) => some (.int xs.length)
    | some (.dic _ kvs) => some (.int kvs.length)
    | _ => none
  | [v] => (seqOf L v).map fun xs => .int xs.length
  | _ => none
def pAbs (_ : LH) : List LV → Option LV
  | [.int i] => some (.int (if i < 0 then -i else i))
  | _ => none
def pMax2 (_ : LH) : List LV → Option LV
  | [.int i, .int j] => some (.int (if j > i then j else i))
  | _ => none
def pMin2 (_ : LH) : List LV → Option LV
  | [.int i, .int j] => some (.int (if j < i then j else i))
  | _ => none
def pInt (_ : LH) : List LV → Option LV
  | [.int i] => some (.int i)
  | [.bl k] => some (.int (if k then 1 else 0))
  | [.str s] => match PySem.intText? s with
    | some n => guard (decide (s.length ≤ 640)) (some (.int n))
    | none => none
  | _ => none
def pStr (_ : LH) : List LV → Option LV
  | [.int i] => guard (decide (i.natAbs.log2 < 1920)) (some (.str (toString i)))
  | _ => none
def pTuple (L : LH) : List LV → Option LV
  | [v] => (seqOf L v).map fun xs => match v with
    | .ktp xs => .ktp xs
    | _ => .tup xs
  | _ => none
def pList (L : LH) : List LV → Option (List LV)
  | [v] => seqOf L v
  | _ => none
def pSum (L : LH) : List LV → Option LV
  | [v] => (lsqOf L v).bind fun xs => (intsOf xs).map fun ns => .int ns.sum
  | _ => none
def blsOf : List LV → Option (List Bool)
  | [] => some []
  | .bl b :: r => (blsOf r).map (b :: ·)
  | _ :: _ => none
def pAny (L : LH) : List LV → Option LV
  | [v] => (lsqOf L v).bind fun xs => (blsOf xs).map fun bs => .bl (bs.any id)
  | _ => none
def pAll (L : LH) : List LV → Option LV
  | [v] => (lsqOf L v).bind fun xs => (blsOf xs).map fun bs => .bl (bs.all id)
  | _ => none
/-- the greatest, the least of some ints -/
def maxI : List Int → Int
  | [] => 0
  | [a] => a
  | a :: r => let b := maxI r; if a < b then b else a
def minI : List Int → Int
  | [] => 0
  | [a] => a
  | a :: r => let b := minI r; if b < a then b else a
theorem maxI_mem : ∀ {ns : List Int}, ns ≠ [] → maxI ns ∈ ns
  | [a], _ => by simp [maxI]
  | a :: b :: r, _ => by
    have ih := maxI_mem (ns := b :: r) (by simp)
    show (if a < maxI (b :: r) then maxI (b :: r) else a) ∈ _
    split
    · exact List.mem_cons_of_mem _ ih
    · exact List.mem_cons_self ..
theorem maxI_ge : ∀ {ns : List Int} (y : Int), y ∈ ns → y ≤ maxI ns
  | [a], y, h => by simp at h; simp [maxI, h]
  | a :: b :: r, y, h => by
    show y ≤ (if a < maxI (b :: r) then maxI (b :: r) else a)
    rcases List.mem_cons.mp h with e | h
    · subst e; split <;> omega
    · have ih := maxI_ge (ns := b :: r) y h
      split <;> omega
theorem minI_mem : ∀ {ns : List Int}, ns ≠ [] → minI ns ∈ ns
  | [a], _ => by simp [minI]
  | a :: b :: r, _ => by
    have ih := minI_mem (ns := b :: r) (by simp)
    show (if minI (b :: r) < a then minI (b :: r) else a) ∈ _
    split
    · exact List.mem_cons_of_mem _ ih
    · exact List.mem_cons_self ..
theorem minI_le : ∀ {ns : List Int} (y : Int), y ∈ ns → minI ns ≤ y
  | [a], y, h => by simp at h; simp [minI, h]
  | a :: b :: r, y, h => by
    show (if minI (b :: r) < a then minI (b :: r) else a) ≤ y
    rcases List.mem_cons.mp h with e | h
    · subst e; split <;> omega
    · have ih := minI_le (ns := b :: r) y h
      split <;> omega
def pMax (L : LH) : List LV → Option LV
  | [v] => (lsqOf L v).bind fun xs => (intsOf xs).bind fun ns => guard (!ns.isEmpty) (some (.int (maxI ns)))
  | _ => none
def pMin (L : LH) : List LV → Option LV
  | [v] => (lsqOf L v).bind fun xs => (intsOf xs).bind fun ns => guard (!ns.isEmpty) (some (.int (minI ns)))
  | _ => none
section
variable {X : Cx}
theorem RvL.inv1 {K : PySem.W.Frag} {mg : Str → Option Value} {m : Mp} {H : Hp} {v : LV} {xs : List V} (r : RvL K mg m H [v] xs) : ∃ x, xs = [x] ∧ Rv K mg m H v x := by
  obtain ⟨x, t, e, h, h2⟩ := r
  cases h2
  exact ⟨x, e, h⟩
theorem RvL.inv2 {K : PySem.W.Frag} {mg : Str → Option Value} {m : Mp} {H : Hp} {v w : LV} {xs : List V} (r : RvL K mg m H [v, w] xs) : ∃ x y, xs = [x, y] ∧ Rv K mg m H v x ∧ Rv K mg m H w y := by
  obtain ⟨x, t, e, h, h2⟩ := r
  obtain ⟨y, rfl, h3⟩ := h2.inv1
  exact ⟨x, y, e, h, h3⟩
theorem blsOf_at {K : PySem.W.Frag} {mg : Str → Option Value} {m : Mp} {H : Hp} : ∀ {xs : List LV} {vs : List V} {ns : List Bool}, blsOf xs = some ns → RvL K mg m H xs vs → vs = ns.map V.bl
  | [], _, _, h, r => by cases h; cases r; rfl
  | .bl i :: r, _, ns, h, ⟨x, t, e, h1, h2⟩ => by
    obtain ⟨ms, h3, rfl⟩ := Option.map_eq_some_iff.mp h
    subst e
    rw [List.map_cons, ← blsOf_at h3 h2]
    rw [show x = V.bl i from h1]
def rLenAny (K : PySem.W.Frag) : List V → Hp → VK → Prop := fun xs H Q => (∃ x n, xs = [x] ∧ LenV K x H n ∧ Q (.int n) H) ∨ ((∃ p kvs, xs = [.ref p] ∧ H p = some (.dK kvs) ∧ Q (.int (kvs.length : Nat)) H) ∨ rLenT xs H Q)
theorem call_lenDK : CallR X (.builtin "len") (fun xs H Q => ∃ p kvs, xs = [.ref p] ∧ H p = some (.dK kvs) ∧ Q (.int (kvs.length : Nat)) H) := by
  intro pins s σ H xs us Q I r h
  obtain ⟨p, kvs, rfl, hp, q⟩ := h
  obtain ⟨u, rfl, rx⟩ := vals1 r
  obtain rfl : u = .ref p := rx
  exact d_len I (.inl hp) fun t s' I' => ⟨.int ((kvs.length : Nat) : Int), H, I', ⟨_, rfl⟩, q⟩
theorem call_lenAny : CallR X (.builtin "len") (rLenAny X.K) := call_len.or (call_lenDK.or call_len_dT)
theorem seq_len {m : Mp} {L : LH} {H : Hp} {v : LV} {x : V} {xs : List LV} (S : Sim X.K X.mg m H L) (r : Rv X.K X.mg m H v x) (h : seqOf L v = some xs) : LenV X.K x H xs.length := by
  obtain ⟨a, vs, rfl, hs, hr⟩ := seqOf_at S r h
  rcases hs with hs | hs
  · exact .inl ⟨vs, hs, hr.length.symm⟩
  · exact .inr ⟨vs, hs, hr.length.symm⟩
theorem p_len : PC1 X (rLenAny X.K) pLen := by
  intro m L H vs xs z Q S r h f
  rcases vs with _ | ⟨v, _ | ⟨w, tl⟩⟩
  · cases h
  rotate_left
  · cases v <;> cases h
  · obtain ⟨x, rfl, rx⟩ := r.inv1
    have seq : ∀ ys, seqOf L v = some ys → z = .int ys.length → rLenAny X.K [x] H Q := fun ys hs ez => by
      subst ez
      exact .inl ⟨x, _, rfl, seq_len S rx hs, f.now S rfl⟩
    cases v with
    | str s =>
      obtain ⟨h1, h2⟩ := guard_dec h
      cases h2; cases rx
      exact .inl ⟨_, _, rfl, ⟨h1, rfl⟩, f.now S rfl⟩
    | ref n =>
      obtain ⟨a, ha, rfl⟩ := rx
      simp only [pLen] at h
      split at h
      · rename_i ys hl
        cases h
        exact seq ys (by simp only [seqOf, refL, hl]) rfl
      · rename_i t kvs hl
        cases h
        have o := S.ob n _ a hl ha
        cases t with
        | false =>
          obtain ⟨ps, e, rd⟩ := o
          exact .inr (.inl ⟨a, ps, rfl, e, by rw [rd_len rd]; exact f.now S rfl⟩)
        | true =>
          obtain ⟨ps, e, rd⟩ := o
          exact .inr (.inr ⟨a, ps, rfl, e, by rw [rd_len rd]; exact f.now S rfl⟩)
      · cases h
    | tup ys => exact seq ys rfl (Option.some.inj h).symm
    | ktp ys => exact seq ys rfl (Option.some.inj h).symm
    | lst ys => exact seq ys rfl (Option.some.inj h).symm
    | frz ys => exact seq ys rfl (Option.some.inj h).symm
    | _ => cases h
theorem p_abs : PC1 X (fun xs H Q => ∃ i, xs = [.int i] ∧ Q (.int (if i < 0 then -i else i)) H) pAbs := by
  intro m L H vs xs z Q S r h f
  rcases vs with _ | ⟨v, _ | ⟨w, tl⟩⟩
  · cases h
  · cases v with
    | int i =>
      obtain ⟨x, rfl, rx⟩ := r.inv1
      cases h; cases rx
      exact ⟨i, rfl, f.now S rfl⟩
    | _ => cases h
  · cases v <;> cases h
theorem p_max2 : PC1 X (fun xs H Q => ∃ i j, xs = [.int i, .int j] ∧ Q (.int (if j > i then j else i)) H) pMax2 := by
  intro m L H vs xs z Q S r h f
  rcases vs with _ | ⟨v, _ | ⟨w, _ | ⟨u, tl⟩⟩⟩
  · cases h
  · cases v <;> cases h
  · cases v with
    | int i =>
      cases w with
      | int j =>
        obtain ⟨x, y, rfl, rx, ry⟩ := r.inv2
        cases h; cases rx; cases ry
        exact ⟨i, j, rfl, f.now S rfl⟩
      | _ => cases h
    | _ => cases h
  · cases v <;> first | (cases h; done) | (cases w <;> cases h)
theorem p_min2 : PC1 X (fun xs H Q => ∃ i j, xs = [.int i, .int j] ∧ Q (.int (if j < i then j else i)) H) pMin2 := by
  intro m L H vs xs z Q S r h f
  rcases vs with _ | ⟨v, _ | ⟨w, _ | ⟨u, tl⟩⟩⟩
  · cases h
  · cases v <;> cases h
  · cases v with
    | int i =>
      cases w with
      | int j =>
        obtain ⟨x, y, rfl, rx, ry⟩ := r.inv2
        cases h; cases rx; cases ry
        exact ⟨i, j, rfl, f.now S rfl⟩
      | _ => cases h
    | _ => cases h
  · cases v <;> first | (cases h; done) | (cases w <;> cases h)
theorem p_int : PC1 X (fun xs H Q => ((∃ i, xs = [.int i] ∧ Q (.int i) H) ∨ ∃ k, xs = [.bl k] ∧ Q (.int (if k then 1 else 0)) H) ∨ ∃ a n, xs = [.str a] ∧ PySem.intText? a = some n ∧ a.length ≤ 640 ∧ Q (.int n) H) pInt := by
  intro m L H vs xs z Q S r h f
  rcases vs with _ | ⟨v, _ | ⟨w, tl⟩⟩
  · cases h
  · obtain ⟨x, rfl, rx⟩ := r.inv1
    cases v with
    | int i =>
      cases h; cases rx
      exact .inl (.inl ⟨i, rfl, f.now S rfl⟩)
    | bl k =>
      cases h; cases rx
      exact .inl (.inr ⟨k, rfl, f.now S rfl⟩)
    | str s =>
      simp only [pInt] at h
      split at h
      · rename_i n hn
        obtain ⟨h1, h2⟩ := guard_dec h
        cases h2; cases rx
        exact .inr ⟨s, n, rfl, hn, h1, f.now S rfl⟩
      · cases h
    | _ => cases h
  · cases v <;> cases h
theorem p_str : PC1 X (fun xs H Q => ∃ i, xs = [.int i] ∧ i.natAbs.log2 < 1920 ∧ Q (.str (toString i)) H) pStr := by
  intro m L H vs xs z Q S r h f
  rcases vs with _ | ⟨v, _ | ⟨w, tl⟩⟩
  · cases h
  · cases v with
    | int i =>
      obtain ⟨x, rfl, rx⟩ := r.inv1
      obtain ⟨h1, h2⟩ := guard_dec h
      cases h2; cases rx
      exact ⟨i, rfl, h1, f.now S rfl⟩
    | _ => cases h
  · cases v <;> cases h
theorem p_tuple : PC1 X (fun xs H Q => ∃ p ys, xs = [.ref p] ∧ ((SqL X.K H p ys ∧ ∀ l, H l = none → Q (.ref l) (upd H l (.tup ys))) ∨ (SqT X.K H p ys ∧ Q (.ref p) H))) pTuple := by
  intro m L H vs xs z Q S r h f
  rcases vs with _ | ⟨v, _ | ⟨w, tl⟩⟩
  · cases h
  rotate_left
  · cases h
  · obtain ⟨x, rfl, rx⟩ := r.inv1
    obtain ⟨ys, hs, rfl⟩ := Option.map_eq_some_iff.mp h
    cases v with
    | tup zs => cases hs; obtain ⟨a, us, rfl, t, q⟩ := rx; exact ⟨a, us, rfl, .inr ⟨t.sq, f.now S ⟨a, us, rfl, t, q⟩⟩⟩
    | ktp zs => cases hs; obtain ⟨a, us, rfl, t, q⟩ := rx; exact ⟨a, us, rfl, .inr ⟨t.sq, f.now S ⟨a, us, rfl, t, q⟩⟩⟩
    | lst zs => cases hs; obtain ⟨a, us, rfl, t, q⟩ := rx; exact ⟨a, us, rfl, .inl ⟨t.sq, fun l hl => f.tup S q hl⟩⟩
    | frz zs => cases hs; obtain ⟨a, us, rfl, t, q⟩ := rx; exact ⟨a, us, rfl, .inl ⟨t.sq, fun l hl => f.tup S q hl⟩⟩
    | ref n => obtain ⟨a, us, _, rfl, t, q⟩ := refL_at S rx hs; exact ⟨a, us, rfl, .inl ⟨SqL.of t, fun l hl => f.tup S q hl⟩⟩
    | _ => cases hs
theorem p_list : PCF X (fun xs H Q => ∃ p ys, xs = [.ref p] ∧ (SqL X.K H p ys ∨ SqT X.K H p ys) ∧ ∀ l, H l = none → Q (.ref l) (upd H l (.lst ys))) pList := by
  intro m L H vs xs z Q S r h f
  rcases vs with _ | ⟨v, _ | ⟨w, tl⟩⟩
  · cases h
  rotate_left
  · cases h
  · obtain ⟨x, rfl, rx⟩ := r.inv1
    obtain ⟨a, us, rfl, hs, q⟩ := seqOf_at S rx h
    exact ⟨a, us, rfl, hs, fun l hl => f.lst S q hl⟩
theorem p_sum : PC1 X (rSum X.K) pSum := by
  intro m L H vs xs z Q S r h f
  rcases vs with _ | ⟨v, _ | ⟨w, tl⟩⟩
  · cases h
  rotate_left
  · cases h
  · obtain ⟨x, rfl, rx⟩ := r.inv1
    obtain ⟨ys, hs, h2⟩ := Option.bind_eq_some_iff.mp h
    obtain ⟨ns, hn, rfl⟩ := Option.map_eq_some_iff.mp h2
    obtain ⟨a, us, rfl, hq, q⟩ := lsqOf_at S rx hs
    obtain rfl := intsOf_at hn q
    exact ⟨a, ns, rfl, hq, f.now S rfl⟩
theorem p_any : PC1 X (rAny X.K) pAny := by
  intro m L H vs xs z Q S r h f
  rcases vs with _ | ⟨v, _ | ⟨w, tl⟩⟩
  · cases h
  rotate_left
  · cases h
  · obtain ⟨x, rfl, rx⟩ := r.inv1
    obtain ⟨ys, hs, h2⟩ := Option.bind_eq_some_iff.mp h
    obtain ⟨ns, hn, rfl⟩ := Option.map_eq_some_iff.mp h2
    obtain ⟨a, us, rfl, hq, q⟩ := lsqOf_at S rx hs
    obtain rfl := blsOf_at hn q
    exact ⟨a, ns, rfl, hq, f.now S rfl⟩
theorem p_all : PC1 X (rAll X.K) pAll := by
  intro m L H vs xs z Q S r h f
  rcases vs with _ | ⟨v, _ | ⟨w, tl⟩⟩
  · cases h
  rotate_left
  · cases h
  · obtain ⟨x, rfl, rx⟩ := r.inv1
    obtain ⟨ys, hs, h2⟩ := Option.bind_eq_some_iff.mp h
    obtain ⟨ns, hn, rfl⟩ := Option.map_eq_some_iff.mp h2
    obtain ⟨a, us, rfl, hq, q⟩ := lsqOf_at S rx hs
    obtain rfl := blsOf_at hn q
    exact ⟨a, ns, rfl, hq, f.now S rfl⟩
theorem p_max : PC1 X (rMax X.K) pMax := by
  intro m L H vs xs z Q S r h f
  rcases vs with _ | ⟨v, _ | ⟨w, tl⟩⟩
  · cases h
  rotate_left
  · cases h
  · obtain ⟨x, rfl, rx⟩ := r.inv1
    obtain ⟨ys, hs, h2⟩ := Option.bind_eq_some_iff.mp h
    obtain ⟨ns, hn, h3⟩ := Option.bind_eq_some_iff.mp h2
    obtain ⟨h4, h5⟩ := guard_some h3
    cases h5
    obtain ⟨a, us, rfl, hq, q⟩ := lsqOf_at S rx hs
    obtain rfl := intsOf_at hn q
    have ne : ns ≠ [] := by intro e; subst e; cases h4
    refine ⟨a, ns, rfl, hq, by cases ns with | nil => exact absurd rfl ne | cons _ _ => simp, fun k hk hk2 => ?_⟩
    rw [show k = maxI ns from Int.le_antisymm (maxI_ge _ hk) (hk2 _ (maxI_mem ne))]
    exact f.now S rfl
theorem p_minL : PC1 X (rMin X.K) pMin := by
  intro m L H vs xs z Q S r h f
  rcases vs with _ | ⟨v, _ | ⟨w, tl⟩⟩
  · cases h
  rotate_left
  · cases h
  · obtain ⟨x, rfl, rx⟩ := r.inv1
    obtain ⟨ys, hs, h2⟩ := Option.bind_eq_some_iff.mp h
    obtain ⟨ns, hn, h3⟩ := Option.bind_eq_some_iff.mp h2
    obtain ⟨h4, h5⟩ := guard_some h3
    cases h5
    obtain ⟨a, us, rfl, hq, q⟩ := lsqOf_at S rx hs
    obtain rfl := intsOf_at hn q
    have ne : ns ≠ [] := by intro e; subst e; cases h4
    refine ⟨a, ns, rfl, hq, by cases ns with | nil => exact absurd rfl ne | cons _ _ => simp, fun k hk hk2 => ?_⟩
    rw [show k = minI ns from Int.le_antisymm (hk2 _ (minI_mem ne)) (minI_le _ hk)]
    exact f.now S rfl
end
end G

namespace G
open PySem PySem.Spec PyProof.Rows L2
/-! ### values are told apart -/
mutual
def beqV : LV → LV → Bool
  | .non, .non => true
  | .bl a, .bl b => a == b
  | .int a, .int b => a == b
  | .str a, .str b => decide (a = b)
  | .tup a, .tup b => beqVs a b
  | .ktp a, .ktp b => beqVs a b
  | .lst a, .lst b => beqVs a b
  | .frz a, .frz b => beqVs a b
  | .ref a, .ref b => a == b
  | .fn a, .fn b => decide (a = b)
  | _, _ => false
def beqVs : List LV → List LV → Bool
  | [], [] => true
  | a :: r, b :: t => beqV a b && beqVs r t
  | _, _ => false
end
mutual
theorem beqV_refl : ∀ v : LV, beqV v v = true
  | .non => rfl
  | .bl a => by simp [beqV]
  | .int a => by simp [beqV]
  | .str a => by simp [beqV]
  | .tup a => by simp only [beqV]; exact beqVs_refl a
  | .ktp a => by simp only [beqV]; exact beqVs_refl a
  | .lst a => by simp only [beqV]; exact beqVs_refl a
  | .frz a => by simp only [beqV]; exact beqVs_refl a
  | .ref a => by simp [beqV]
  | .fn a => by simp [beqV]
theorem beqVs_refl : ∀ vs : List LV, beqVs vs vs = true
  | [] => rfl
  | v :: r => by simp only [beqVs, beqV_refl v, beqVs_refl r, Bool.and_self]
end
mutual
theorem beqV_eq : ∀ v w : LV, beqV v w = true → v = w
  | .non, w, h => by cases w <;> first | rfl | cases h
  | .bl a, w, h => by cases w <;> first | (cases h; done) | (simp [beqV] at h; rw [h])
  | .int a, w, h => by cases w <;> first | (cases h; done) | (simp [beqV] at h; rw [h])
  | .str a, w, h => by cases w <;> first | (cases h; done) | (simp [beqV] at h; rw [h])
  | .tup a, w, h => by cases w <;> first | (cases h; done) | (simp only [beqV] at h; rw [beqVs_eq a _ h])
  | .ktp a, w, h => by cases w <;> first | (cases h; done) | (simp only [beqV] at h; rw [beqVs_eq a _ h])
  | .lst a, w, h => by cases w <;> first | (cases h; done) | (simp only [beqV] at h; rw [beqVs_eq a _ h])
  | .frz a, w, h => by cases w <;> first | (cases h; done) | (simp only [beqV] at h; rw [beqVs_eq a _ h])
  | .ref a, w, h => by cases w <;> first | (cases h; done) | (simp [beqV] at h; rw [h])
  | .fn a, w, h => by cases w <;> first | (cases h; done) | (simp [beqV] at h; rw [h])
theorem beqVs_eq : ∀ vs ws : List LV, beqVs vs ws = true → vs = ws
  | [], [], _ => rfl
  | [], _ :: _, h => by cases h
  | _ :: _, [], h => by cases h
  | v :: r, w :: t, h => by
    simp only [beqVs, Bool.and_eq_true] at h
    rw [beqV_eq v w h.1, beqVs_eq r t h.2]
end
/-- the list at n is xs -/
def isLst (n : Nat) (xs : List LV) (L : LH) : Bool := match L[n]? with
  | some (.lst ys) => beqVs ys xs
  | _ => false
theorem isLst_eq {n : Nat} {xs : List LV} {L : LH} (h : isLst n xs L = true) : L[n]? = some (.lst xs) := by
  unfold isLst at h
  split at h
  · rename_i ys e
    rw [e, beqVs_eq _ _ h]
  · cases h
theorem isLst_of {n : Nat} {xs : List LV} {L : LH} (h : L[n]? = some (.lst xs)) : isLst n xs L = true := by
  unfold isLst; rw [h]; exact beqVs_refl xs

/-! ### statements -/
def SR.then (r : SR) (k : LS) : SR := match r with
  | .ok .nx ls L => k ls L
  | r => r
def sSeq (f g : LS) : LS := fun ls L => (f ls L).then g
def sNop : LS := fun ls L => .ok .nx ls L
def sBreak : LS := fun ls L => .ok .bk ls L
def sCont : LS := fun ls L => .ok .ct ls L
/-- by an expression -/
def Res.toS {α : Type} (r : Res α) (ls : LSt) (k : α → LH → SR) : SR := match r with
  | .ok v L => k v L
  | .err e L => .err e ls L
  | .bad => .bad
def sExpr (f : LE) : LS := fun ls L => (f ls L).toS ls fun _ L1 => .ok .nx ls L1
def sRet (f : LE) : LS := fun ls L => (f ls L).toS ls fun v L1 => .ok (.rt v) ls L1
def sRetN : LS := fun ls L => .ok (.rt .non) ls L
def sIf (c : LT) (f g : LS) : LS := fun ls L => (c ls L).toS ls fun b L1 => if b = true then f ls L1 else g ls L1
abbrev LG := LV → LSt → LH → Option LSt
def sAsg (f : LE) (g : LG) : LS := fun ls L => (f ls L).toS ls fun v L1 => match g v ls L1 with
  | some ls1 => .ok .nx ls1 L1
  | none => .bad
def gN (i : Nat) : LG := fun v ls _ => some (ls.set i (some v))
abbrev LGs := List LV → LSt → LH → Option LSt
def gNl : LGs := fun vs ls _ => match vs with
  | [] => some ls
  | _ => none
def gCs (g : LG) (r : LGs) : LGs := fun vs ls L => match vs with
  | v :: t => (g v ls L).bind fun ls1 => r t ls1 L
  | [] => none
def gTp (n : Nat) (g : LGs) : LG := fun v ls L => match tupOf v with
  | some xs => if xs.length = n then g xs ls L else none
  | none => none
def gLs (n : Nat) (g : LGs) : LG := fun v ls L => match lsqOf L v with
  | some xs => if xs.length = n then g xs ls L else none
  | none => none
/-- o[i] = v -/
def pSet (L : LH) (o i v : LV) : Option LH := match o with
  | .ref n => match L[n]? with
    | some (.lst xs) => match i with
      | .int k => (ixN xs.length k).map fun j => L.set n (.lst (xs.set j v))
      | _ => none
    | some (.dic t kvs) => match dKey t i with
      | some _ => guard (decide (kvs.length < sizeLine)) (some (L.set n (.dic t (dSet kvs i v))))
      | none => none
    | _ => none
  | _ => none
def sSet (fo fi fv : LE) : LS := fun ls L => (fv ls L).toS ls fun v L1 => (fo ls L1).toS ls fun o L2 => (fi ls L2).toS ls fun i L3 => match pSet L3 o i v with
  | some L4 => .ok .nx ls L4
  | none => .bad
def sAug (i : Nat) (p : LH → LV → LV → Option LV) (f : LE) : LS := fun ls L => match ls[i]? with
  | some (some x) => (f ls L).toS ls fun y L1 => match p L1 x y with
    | some z => .ok .nx (ls.set i (some z)) L1
    | none => .bad
  | _ => .bad
def sWhile (N : Nat) (c : LT) (f : LS) : LS := match N with
  | 0 => fun _ _ => .bad
  | N + 1 => fun ls L => (c ls L).toS ls fun b L1 => if b = true then (match f ls L1 with
      | .ok .nx ls2 L2 => sWhile N c f ls2 L2
      | .ok .ct ls2 L2 => sWhile N c f ls2 L2
      | .ok .bk ls2 L2 => .ok .nx ls2 L2
      | r => r)
    else .ok .nx ls L1
def forL (g : LG) (f : LS) (chk : LH → Bool) : List LV → LS
  | [] => sNop
  | x :: r => fun ls L => match g x ls L with
    | none => .bad
    | some ls1 => match f ls1 L with
      | .ok .nx ls2 L2 => if chk L2 = true then forL g f chk r ls2 L2 else .bad
      | .ok .ct ls2 L2 => if chk L2 = true then forL g f chk r ls2 L2 else .bad
      | .ok .bk ls2 L2 => .ok .nx ls2 L2
      | r => r
abbrev LI := LSt → LH → Res (List LV × (LH → Bool))
def sFor (it : LI) (g : LG) (f : LS) : LS := fun ls L => (it ls L).toS ls fun p L1 => forL g f p.2 p.1 ls L1

section
variable {X : Cx} {W : WX} {m m' : Mp} {H H' : Hp} {σ : L2.St} {D : Ends}
theorem SPost.trans {r : SR} (h : SPost X W m H D r) (f : Fr m H m' H') : SPost X W m' H' D r := by
  cases r with
  | ok fl ls L => exact fun m2 H2 S F => h m2 H2 S (f.trans F)
  | err e ls L => exact fun m2 H2 σ' C d S F => h m2 H2 σ' C d S (f.trans F)
  | bad => exact h
/-- by an expression -/
theorem SPost.bind {α : Type} {r : Res α} {ls : LSt} {k : α → LH → SR} {ok1 : α → LH → Mp → Hp → Prop} (rs : RS X.K X.mg m H ls σ) (h : SPost X W m H D (r.toS ls k))
    (step : ∀ v L1 m1 H1, Sim X.K X.mg m1 H1 L1 → Fr m H m1 H1 → SPost X W m1 H1 D (k v L1) → ok1 v L1 m1 H1) : Post X W σ m H ok1 r := by
  cases r with
  | ok v L => exact fun m1 H1 S F => step v L m1 H1 S F (SPost.trans h F)
  | err e L => exact fun m1 H1 C d S F => h m1 H1 σ C d S F (rs.mono F)
  | bad => exact h
theorem SPost.seq {r : SR} {g : LS} {t : TS} (hg : ∀ m L H ls σ D, Sim X.K X.mg m H L → RS X.K X.mg m H ls σ → SPost X W m H D (g ls L) → t D σ H) (h : SPost X W m H D (r.then g)) : SPost X W m H { D with nx := t D } r := by
  cases r with
  | ok fl ls L =>
    cases fl with
    | nx => exact fun m1 H1 S F σ' rs => hg m1 L H1 ls σ' D S rs (SPost.trans h F)
    | bk => exact h
    | ct => exact h
    | rt v => exact h
  | err e ls L => exact h
  | bad => exact h
end
section
variable {X : Cx} {W : WX} {st : Stmt} {rest body a b : List Stmt} {f g : LS} {e c tg : Expr} {fe : LE} {ft : LT} {pos : Pos}
theorem mb_nil : MB X W [] sNop := ⟨_, pss_nil, fun m L H ls σ D S rs h => h m H S .refl σ rs⟩
theorem mb_cons (h1 : MS X W st f) (h2 : MB X W rest g) : MB X W (st :: rest) (sSeq f g) := by
  obtain ⟨t, p, h1⟩ := h1
  obtain ⟨u, q, h2⟩ := h2
  exact ⟨_, pss_cons p q, fun m L H ls σ D S rs h => h1 m L H ls σ _ S rs (SPost.seq h2 h)⟩
theorem mb_one (h1 : MS X W st f) : MB X W [st] f := let ⟨t, p, h⟩ := h1; ⟨t, pss_one p, h⟩
theorem ms_pass : MS X W (.Pass pos) sNop := ⟨_, ps_pass, fun m L H ls σ D S rs h => h m H S .refl σ rs⟩
theorem ms_break : MS X W (.Break pos) sBreak := ⟨_, ps_break, fun m L H ls σ D S rs h => h m H S .refl σ rs⟩
theorem ms_cont : MS X W (.Continue pos) sCont := ⟨_, ps_continue, fun m L H ls σ D S rs h => h m H S .refl σ rs⟩
theorem ms_expr (he : ME X W e fe) (hs : swapsWith e none pos.line X.env = pure false := by rfl) : MS X W (.Expr e pos) (sExpr fe) := by
  obtain ⟨t, p, he⟩ := he
  exact ⟨_, ps_expr p hs, fun m L H ls σ D S rs h => he m L H ls σ _ S rs (SPost.bind rs h fun v L1 m1 H1 S1 F1 h1 x rx => h1 m1 H1 S1 .refl σ (rs.mono F1))⟩
theorem ms_ret (he : ME X W e fe) : MS X W (.Return (some e) pos) (sRet fe) := by
  obtain ⟨t, p, he⟩ := he
  exact ⟨_, ps_ret p, fun m L H ls σ D S rs h => he m L H ls σ _ S rs (SPost.bind rs h fun v L1 m1 H1 S1 F1 h1 x rx => h1 m1 H1 S1 .refl x rx)⟩
theorem ms_retN : MS X W (.Return none pos) sRetN := ⟨_, ps_retN, fun m L H ls σ D S rs h => h m H S .refl _ rfl⟩
theorem ms_if (hc : MT X W c ft) (ha : MB X W a f) (hb : MB X W b g) : MS X W (.If c a b pos) (sIf ft f g) := by
  obtain ⟨t, p, hc⟩ := hc
  obtain ⟨ta, pa, ha⟩ := ha
  obtain ⟨tb, pb, hb⟩ := hb
  refine ⟨_, ps_if p pa pb, fun m L H ls σ D S rs h => hc m L H ls σ _ S rs (SPost.bind rs h fun b L1 m1 H1 S1 F1 h1 => ?_)⟩
  cases b with
  | true => exact ha m1 L1 H1 ls σ D S1 (rs.mono F1) h1
  | false => exact hb m1 L1 H1 ls σ D S1 (rs.mono F1) h1
/-- targets; ix: the slots that are set -/
def Same1 (ix : List Nat) (σ σ' : L2.St) : Prop := σ'.length = σ.length ∧ ∀ j, j ∉ ix → σ'[j]? = σ[j]?
def MG (X : Cx) (tg : Expr) (g : LG) (ix : List Nat) : Prop := ∃ t, PG X tg t ∧ ∀ m L H ls σ v x ls' Q, Sim X.K X.mg m H L → RS X.K X.mg m H ls σ → Rv X.K X.mg m H v x → g v ls L = some ls' → (∀ σ', RS X.K X.mg m H ls' σ' → Same1 ix σ σ' → Q σ' H) → t x σ H Q
def MGs (X : Cx) (tgs : List Expr) (g : LGs) (ix : List Nat) : Prop := ∃ t, PGs X tgs t ∧ ∀ m L H ls σ vs xs ls' Q, Sim X.K X.mg m H L → RS X.K X.mg m H ls σ → RvL X.K X.mg m H vs xs → g vs ls L = some ls' → (∀ σ', RS X.K X.mg m H ls' σ' → Same1 ix σ σ' → Q σ' H) → t xs σ H Q
theorem RS.set {K : PySem.W.Frag} {mg : Str → Option Value} {m : Mp} {H : Hp} {ls : LSt} {σ : L2.St} (rs : RS K mg m H ls σ) (i : Nat) {v : LV} {x : V} (r : Rv K mg m H v x) : RS K mg m H (ls.set i (some v)) (σ.set i (some x)) := by
  refine ⟨by rw [List.length_set, List.length_set]; exact rs.1, fun j w e => ?_⟩
  by_cases h : i = j
  · subst h
    have hl : i < ls.length := by
      rw [List.getElem?_set] at e
      simp only [if_true] at e
      split at e
      · assumption
      · cases e
    rw [List.getElem?_set_self hl] at e
    cases e
    exact ⟨x, by rw [List.getElem?_set_self (by rw [← rs.1]; exact hl)], r⟩
  · rw [List.getElem?_set_ne h] at e
    obtain ⟨y, e', r'⟩ := rs.2 j w e
    exact ⟨y, by rw [List.getElem?_set_ne h]; exact e', r'⟩
theorem mg_name {x : Str} (i : Nat) (hN : X.N.Nodup) (hi : X.N[i]? = some x := by rfl) (hx : Loc X.env.scope x := by first | exact .inl rfl | exact .inr rfl) (hf : X.fn x = true ∨ X.env.scope.names.lookup x = some .local := by first | exact .inl rfl | exact .inr rfl) : MG X (.Name x pos) (gN i) [i] :=
  ⟨_, pg_name hN hi hx hf, fun m L H ls σ v y ls' Q S rs r e q => by
    cases e
    exact q _ (rs.set i r) ⟨List.length_set, fun j hj => List.getElem?_set_ne (fun z => hj (by rw [z]; exact List.mem_singleton.mpr rfl))⟩⟩
theorem mgs_nil : MGs X [] gNl [] := ⟨_, pgs_nil, fun m L H ls σ vs xs ls' Q S rs r e q => by
  cases vs with
  | nil => cases e; cases r; exact ⟨rfl, q _ rs ⟨rfl, fun _ _ => rfl⟩⟩
  | cons _ _ => cases e⟩
theorem mgs_cons {t : Expr} {ts : List Expr} {g : LG} {r : LGs} {ix jx : List Nat} (h1 : MG X t g ix) (h2 : MGs X ts r jx) (hs : (assignEach (t :: ts) X.env).map (·.2) = assign t X.env :: (assignEach ts X.env).map (·.2) := by rfl) : MGs X (t :: ts) (gCs g r) (ix ++ jx) := by
  obtain ⟨u, p, h1⟩ := h1
  obtain ⟨w, q, h2⟩ := h2
  refine ⟨_, pgs_cons p q hs, fun m L H ls σ vs xs ls' Q S rs rv e hq => ?_⟩
  cases vs with
  | nil => cases e
  | cons v vr =>
    obtain ⟨x, t, e1, r1, r2⟩ := rv
    obtain ⟨ls1, e2, e3⟩ := Option.bind_eq_some_iff.mp e
    refine ⟨x, t, e1, h1 m L H ls σ v x ls1 _ S rs r1 e2 fun σ1 rs1 s1 => h2 m L H ls1 σ1 vr t ls' Q S rs1 r2 e3 fun σ2 rs2 s2 => hq σ2 rs2 ⟨s2.1.trans s1.1, fun j hj => ?_⟩⟩
    rw [List.mem_append, not_or] at hj
    exact (s2.2 j hj.2).trans (s1.2 j hj.1)
theorem mg_tup {es : List Expr} {k n : Nat} {r : LGs} {ix : List Nat} (hc : X.calm = true) (h : MGs X es r ix) (hn : (assignEach es X.env).length = n := by rfl) (hst : (assignEach es X.env).findIdx? (·.1) = none := by rfl) : MG X (.Tuple es k pos) (gTp n r) ix := by
  obtain ⟨w, q, h⟩ := h
  refine ⟨_, pg_tup hc q hn hst, fun m L H ls σ v x ls' Q S rs rv e hq => ?_⟩
  unfold gTp at e
  split at e
  · rename_i xs hx
    split at e
    · rename_i hl
      obtain ⟨a, vs, rfl, ta, ra⟩ := tupOf_at rv hx
      exact ⟨a, vs, rfl, ta, by rw [ra.length]; exact hl, h m L H ls σ xs vs ls' Q S rs ra e hq⟩
    · cases e
  · cases e
theorem ms_asg {g : LG} {ix : List Nat} (he : ME X W e fe) (hg : MG X tg g ix) (hs : swapsWithSole [tg] e pos.line X.env = pure false := by rfl) (hw : swappedStores [tg] e X.env = pure none := by rfl)
    (h1 : (assignEach [tg] X.env).map (·.2) = [assign tg X.env] := by rfl) : MS X W (.Assign [tg] e pos) (sAsg fe g) := by
  obtain ⟨t, p, he⟩ := he
  obtain ⟨u, q, hg⟩ := hg
  refine ⟨_, ps_asg p q hs hw h1, fun m L H ls σ D S rs h => he m L H ls σ _ S rs (SPost.bind rs h fun v L1 m1 H1 S1 F1 h1 x rx => ?_)⟩
  cases hv : g v ls L1 with
  | none => rw [hv] at h1; exact h1.elim
  | some ls1 =>
    rw [hv] at h1
    exact hg m1 L1 H1 ls σ v x ls1 _ S1 (rs.mono F1) rx hv fun σ' rs' _ => h1 m1 H1 S1 .refl σ' rs'
theorem ms_set {x : Str} {pos' : Pos} (i : Nat) (hN : X.N.Nodup) (he : ME X W e fe) (hi : X.N[i]? = some x := by rfl) (hx : Loc X.env.scope x := by first | exact .inl rfl | exact .inr rfl) (hs : swapsWith e (some (.Name x pos')) pos.line X.env = pure false := by rfl)
    (hf : X.fn x = true ∨ X.env.scope.names.lookup x = some .local := by first | exact .inl rfl | exact .inr rfl) : MS X W (.Assign [.Name x pos'] e pos) (sAsg fe (gN i)) := by
  obtain ⟨t, p, he⟩ := he
  refine ⟨_, ps_set hN hi hx p hs hf, fun m L H ls σ D S rs h => he m L H ls σ _ S rs (SPost.bind rs h fun v L1 m1 H1 S1 F1 h1 x rx => ?_)⟩
  exact h1 m1 H1 S1 .refl _ ((rs.mono F1).set i rx)
/-- o[i] = v -/
theorem ms_sub {o i : Expr} {pos' : Pos} {fo fi : LE} (hu : X.A.units + 65 < cLine) (ho : ME X W o fo) (hi : ME X W i fi) (he : ME X W e fe)
    (ha : ∀ v, assign (.Subscript o i pos') X.env v = (do
      let ov ← holding [v] (eval o X.env)
      let iv ← holding [v, ov] (eval i X.env)
      standAt pos'
      holding [v, ov, iv] (setItem ov iv v)
      release [v, ov, iv] []) := by intro _; rfl)
    (hs : swapsWithSole [.Subscript o i pos'] e pos.line X.env = pure false := by rfl) (hw : swappedStores [.Subscript o i pos'] e X.env = pure none := by rfl)
    (h1 : (assignEach [.Subscript o i pos'] X.env).map (·.2) = [assign (.Subscript o i pos') X.env] := by rfl) : MS X W (.Assign [.Subscript o i pos'] e pos) (sSet fo fi fe) := by
  obtain ⟨t, p, he⟩ := he
  obtain ⟨to, po, ho⟩ := ho
  obtain ⟨ti, pi, hi⟩ := hi
  have ps : PSet X (fun o i v H Q => rSetL o i v H Q ∨ rSetD o i v H Q) := by
    intro pins s σ H o i v ov iv u Q I ro ri rv h
    rcases h with h | h
    · exact set_list pins s σ H o i v ov iv u Q I ro ri rv h
    · exact set_dict (by omega) pins s σ H o i v ov iv u Q I ro ri rv h
  refine ⟨_, ps_asg p (pg_sub po pi ps ha) hs hw h1, fun m L H ls σ D S rs h => he m L H ls σ _ S rs (SPost.bind rs h fun v L1 m1 H1 S1 F1 h1 x rx => ?_)⟩
  refine ho m1 L1 H1 ls σ _ S1 (rs.mono F1) (SPost.bind (rs.mono F1) h1 fun ov L2 m2 H2 S2 F2 h2 y ry => ?_)
  refine hi m2 L2 H2 ls σ _ S2 ((rs.mono F1).mono F2) (SPost.bind ((rs.mono F1).mono F2) h2 fun iv L3 m3 H3 S3 F3 h3 z rz => ?_)
  have rx3 := Rv.mono F3 _ _ (Rv.mono F2 _ _ rx)
  have ry3 := Rv.mono F3 _ _ ry
  have rs3 := ((rs.mono F1).mono F2).mono F3
  cases ov with
  | ref n =>
    obtain ⟨a, hn, rfl⟩ := ry3
    simp only [pSet] at h3
    split at h3
    · rename_i L4 e4
      split at e4
      · rename_i xs hl
        split at e4
        · rename_i k
          obtain ⟨j, hj, rfl⟩ := Option.map_eq_some_iff.mp e4
          obtain ⟨vs, hv, r⟩ := S3.ob n _ a hl hn
          cases rz
          refine .inl ⟨a, vs, k, j, rfl, rfl, hv, by rw [r.length]; exact hj, ?_⟩
          have F : Fr m3 H3 m3 (upd H3 a (.lst (vs.set j x))) := Fr.put (List.mem_of_getElem? hn) hv
          exact h3 m3 _ (S3.put hn ⟨_, upd_same, RvL.mono F _ _ (r.set j rx3)⟩) F σ (rs3.mono F)
        · cases e4
      · rename_i t kvs hl
        split at e4
        · rename_i c hc
          obtain ⟨h5, h6⟩ := guard_dec e4
          cases h6
          have o := S3.ob n _ a hl hn
          cases t with
          | false =>
            obtain ⟨ps, ea, rd⟩ := o
            obtain ⟨d, h7, h8⟩ := Option.map_eq_some_iff.mp hc
            obtain rfl := kV_of h7 rz
            have F : Fr m3 H3 m3 (upd H3 a (.dK (putK ps d x))) := Fr.put (List.mem_of_getElem? hn) ea
            have rp := rd_put (inj := Sum.inl) (fun _ _ z => Sum.inl.inj z) (fun _ _ => kOf_kk) h7 rx3 rd
            exact .inr ⟨a, _, rfl, DPut.k (v := x) ea (by rw [rd_len rd]; exact h5), h3 m3 _ (S3.put hn ⟨_, upd_same, rp.imp (Rv.mono F)⟩) F σ (rs3.mono F)⟩
          | true =>
            obtain ⟨ps, ea, rd⟩ := o
            obtain ⟨d, h7, h8⟩ := Option.map_eq_some_iff.mp hc
            obtain ⟨b, rfl, hb⟩ := tk_of h7 rz
            have F : Fr m3 H3 m3 (upd H3 a (.dT (putK ps d x))) := Fr.put (List.mem_of_getElem? hn) ea
            have rp := rd_put (inj := Sum.inr) (fun _ _ z => Sum.inr.inj z) (fun _ _ => tkOf_kk) h7 rx3 rd
            exact .inr ⟨a, _, rfl, DPut.t (v := x) ea hb (by rw [rd_len rd]; exact h5), h3 m3 _ (S3.put hn ⟨_, upd_same, rp.imp (Rv.mono F)⟩) F σ (rs3.mono F)⟩
        · cases e4
      · cases e4
    · exact h3.elim
  | _ => exact h3.elim
/-- x op= e -/
theorem ms_aug {x : Str} {op : Operator} {r2 : R2} {p : LH → LV → LV → Option LV} {npos : Pos} (i : Nat) (ho : OpR X (inplaceOp op) r2) (hp : P2 X r2 p) (hN : X.N.Nodup) (he : ME X W e fe) (hi : X.N[i]? = some x := by rfl)
    (hx : Loc X.env.scope x := by first | exact .inl rfl | exact .inr rfl) (hf : X.fn x = true ∨ X.env.scope.names.lookup x = some .local := by first | exact .inl rfl | exact .inr rfl) : MS X W (.AugAssign (.Name x npos) op e pos) (sAug i p fe) := by
  obtain ⟨t, pe, he⟩ := he
  refine ⟨_, ps_aug (ti := r2) hN hi hx pe ho hf, fun m L H ls σ D S rs h => ?_⟩
  unfold sAug at h
  split at h
  · rename_i v ev
    obtain ⟨y, ey, ry⟩ := rs.2 i v ev
    refine ⟨y, ey, he m L H ls σ _ S rs (SPost.bind rs h fun w L1 m1 H1 S1 F1 h1 z rz => ?_)⟩
    cases hv : p L1 v w with
    | none => rw [hv] at h1; exact h1.elim
    | some q =>
      rw [hv] at h1
      exact hp _ _ _ _ _ _ _ _ _ S1 (Rv.mono F1 _ _ ry) rz hv fun m2 H2 u S2 F2 ru => h1 m2 H2 S2 F2 _ (((rs.mono F1).mono F2).set i ru)
  · exact h.elim
end
end G

namespace G
open PySem PySem.Spec PyProof.Rows L2
/-! ### while -/
section
variable {X : Cx} {W : WX} {c : Expr} {body : List Stmt} {ft : LT} {f : LS} {pos : Pos}
theorem ms_while (N : Nat) (hp : PassesOwn (model X.prog X.w) X.A X.env X.xe) (hc : MT X W c ft) (hb : MB X W body f) : MS X W (.While c body [] pos) (sWhile N ft f) := by
  obtain ⟨t, p, hc⟩ := hc
  obtain ⟨u, q, hb⟩ := hb
  refine ⟨_, ps_while hp p q, fun m L H ls σ D S rs h => ?_⟩
  refine ⟨fun n σ1 H1 => ∃ m1 L1 ls1, Sim X.K X.mg m1 H1 L1 ∧ RS X.K X.mg m1 H1 ls1 σ1 ∧ SPost X W m1 H1 D (sWhile n ft f ls1 L1), ⟨N, m, L, ls, S, rs, h⟩, ?_⟩
  rintro n σ1 H1 ⟨m1, L1, ls1, S1, rs1, h1⟩
  cases n with
  | zero => exact h1.elim
  | succ n =>
    refine hc m1 L1 H1 ls1 σ1 _ S1 rs1 (SPost.bind rs1 h1 fun b L2 m2 H2 S2 F2 h2 => ?_)
    cases b with
    | false =>
      rw [if_neg Bool.false_ne_true] at h2 ⊢
      exact h2 m2 H2 S2 .refl σ1 (rs1.mono F2)
    | true =>
      rw [if_pos rfl] at h2 ⊢
      refine ⟨fun σ' H' => ∃ m3 L3 ls3, Sim X.K X.mg m3 H' L3 ∧ RS X.K X.mg m3 H' ls3 σ' ∧ SPost X W m3 H' D (sWhile n ft f ls3 L3), fun σ' H' w => ⟨n, Nat.lt_succ_self n, w⟩, ?_⟩
      refine hb m2 L2 H2 ls1 σ1 _ S2 (rs1.mono F2) ?_
      cases hr : f ls1 L2 with
      | ok fl ls3 L3 =>
        rw [hr] at h2
        cases fl with
        | nx => exact fun m3 H3 S3 F3 σ3 rs3 => ⟨m3, L3, ls3, S3, rs3, SPost.trans h2 F3⟩
        | ct => exact fun m3 H3 S3 F3 σ3 rs3 => ⟨m3, L3, ls3, S3, rs3, SPost.trans h2 F3⟩
        | bk => exact h2
        | rt v => exact h2
      | err e ls3 L3 => rw [hr] at h2; exact h2
      | bad => rw [hr] at h2; exact h2
end
/-! ### what is walked -/
/-- J yields xs, as long as chk holds -/
def ItOk (X : Cx) (J : It) (xs : List LV) (chk : LH → Bool) (m : Mp) (H : Hp) : Prop :=
  ∀ i m2 H2 L2, Sim X.K X.mg m2 H2 L2 → Fr2 m H m2 H2 → chk L2 = true →
    (∀ v, xs[i]? = some v → J.go i H2 ∧ ∀ x H3, J.yld i H2 x H3 → Sim X.K X.mg m2 H3 L2 ∧ Fr m2 H2 m2 H3 ∧ Rv X.K X.mg m2 H3 v x) ∧ (xs.length ≤ i → J.stop i H2)
def MI (X : Cx) (W : WX) (tg it : Expr) (f : LI) : Prop := ∃ wi, PI X tg it wi ∧ ∀ m L H ls σ R, Sim X.K X.mg m H L → RS X.K X.mg m H ls σ →
  Post X W σ m H (fun p L' m' H' => p.2 L' = true → ∀ J, ItOk X J p.1 p.2 m' H' → R J H') (f ls L) → wi σ H R
section
variable {X : Cx} {W : WX} {tg it : Expr} {body : List Stmt} {g : LG} {f : LS} {fi : LI} {pos : Pos}
theorem ms_for {ix : List Nat} (hp : PassesOwn (model X.prog X.w) X.A X.env X.xe) (hc : X.calm = true) (hi : MI X W tg it fi) (hg : MG X tg g ix) (hb : MB X W body f) (chk0 : ∀ ls L p L', fi ls L = .ok p L' → p.2 L' = true)
    (hs : ∀ x, foldedSetIterable it X.env x = pure x := by intro _; rfl) : MS X W (.For tg it body [] pos) (sFor fi g f) := by
  obtain ⟨wi, pi, hi⟩ := hi
  obtain ⟨t, pg, hg⟩ := hg
  obtain ⟨u, q, hb⟩ := hb
  refine ⟨_, ps_for hp hc pi pg q hs, fun m L H ls σ D S rs h => ?_⟩
  have h0 := chk0 ls L
  refine hi m L H ls σ _ S rs ?_
  unfold sFor at h
  cases hf : fi ls L with
  | err e L1 => rw [hf] at h; exact fun m1 H1 C d S F => h m1 H1 σ C d S F (rs.mono F)
  | bad => rw [hf] at h; exact h
  | ok p L1 =>
    obtain ⟨xs, chk⟩ := p
    rw [hf] at h
    have hchk := h0 _ _ hf
    intro m1 H1 S1 F1 _ J ok
    refine ⟨fun i n σ' H' => ∃ m' L' ls', n = xs.length - i ∧ i ≤ xs.length ∧ Sim X.K X.mg m' H' L' ∧ Fr m1 H1 m' H' ∧ chk L' = true ∧ RS X.K X.mg m' H' ls' σ' ∧ SPost X W m' H' D (forL g f chk (xs.drop i) ls' L'),
      ⟨xs.length, m1, L1, ls, by simp, Nat.zero_le _, S1, .refl, hchk, rs.mono F1, SPost.trans h F1⟩, ?_⟩
    rintro i n σ' H' ⟨m', L', ls', rfl, hle, S', F', ck', rs', h'⟩
    obtain ⟨ok1, ok2⟩ := ok i m' H' L' S' F'.to2 ck'
    by_cases hlt : i < xs.length
    · have hx : xs[i]? = some xs[i] := List.getElem?_eq_getElem hlt
      rw [List.drop_eq_getElem_cons hlt] at h'
      obtain ⟨go, yl⟩ := ok1 _ hx
      refine .inr ⟨go, fun σ2 H2 => ∃ m2 L2 ls2, Sim X.K X.mg m2 H2 L2 ∧ Fr m1 H1 m2 H2 ∧ chk L2 = true ∧ RS X.K X.mg m2 H2 ls2 σ2 ∧ SPost X W m2 H2 D (forL g f chk (xs.drop (i + 1)) ls2 L2),
        fun σ2 H2 ⟨m2, L2, ls2, a1, a2, a3, a4, a5⟩ => ⟨xs.length - (i + 1), by omega, m2, L2, ls2, rfl, hlt, a1, a2, a3, a4, a5⟩, fun x H3 hy => ?_⟩
      obtain ⟨S3, F3, r3⟩ := yl x H3 hy
      have h3 := SPost.trans h' F3
      unfold forL at h3
      cases hgx : g xs[i] ls' L' with
      | none => rw [hgx] at h3; exact h3.elim
      | some ls1 =>
        rw [hgx] at h3
        dsimp only at h3
        refine hg m' L' H3 ls' σ' xs[i] x ls1 _ S3 (rs'.mono F3) r3 hgx fun σ4 rs4 _ => hb m' L' H3 ls1 σ4 _ S3 rs4 ?_
        cases hr : f ls1 L' with
        | ok fl ls5 L5 =>
          rw [hr] at h3
          cases fl with
          | nx =>
            dsimp only at h3
            split at h3
            · rename_i ck
              exact fun m5 H5 S5 F5 σ5 rs5 => ⟨m5, L5, ls5, S5, (F'.trans F3).trans F5, ck, rs5, SPost.trans h3 F5⟩
            · exact h3.elim
          | ct =>
            dsimp only at h3
            split at h3
            · rename_i ck
              exact fun m5 H5 S5 F5 σ5 rs5 => ⟨m5, L5, ls5, S5, (F'.trans F3).trans F5, ck, rs5, SPost.trans h3 F5⟩
            · exact h3.elim
          | bk => exact h3
          | rt v => exact h3
        | err e ls5 L5 => rw [hr] at h3; exact h3
        | bad => rw [hr] at h3; exact h3
    · have e : i = xs.length := by omega
      rw [e, List.drop_length] at h'
      exact .inl ⟨ok2 (by show xs.length ≤ i; omega), h' m' H' S' .refl σ' rs'⟩
end

end G

namespace G
open PySem PySem.Spec PyProof.Rows L2
/-! ### lists, tuples, texts -/
def always : LH → Bool := fun _ => true
def strItems (s : Str) : List LV := s.cps.toList.map fun c => .str ⟨#[c]⟩
def itOf (L : LH) : LV → Option (List LV × (LH → Bool))
  | .tup xs => some (xs, always)
  | .ktp xs => some (xs, always)
  | .lst xs => some (xs, always)
  | .frz xs => some (xs, always)
  | .str s => some (strItems s, always)
  | .ref n => (refL L n).map fun xs => (xs, isLst n xs)
  | _ => none
def iOf (f : LE) : LI := fun ls L => (f ls L).bind fun v L1 => lift (itOf L1 v) L1
theorem refL_some {L : LH} {n : Nat} {xs : List LV} (h : refL L n = some xs) : L[n]? = some (.lst xs) := by
  unfold refL at h
  split at h
  · rename_i ys e; cases h; exact e
  · cases h
theorem iOf_chk {f : LE} : ∀ ls L p L', iOf f ls L = .ok p L' → p.2 L' = true := by
  intro ls L p L' h
  obtain ⟨v, L1, h1, h2⟩ := Res.bind_ok h
  cases hi : itOf L1 v with
  | none => rw [hi] at h2; cases h2
  | some q =>
    rw [hi] at h2
    cases h2
    cases v <;> first
      | (cases hi; done)
      | (cases hi; rfl)
      | (obtain ⟨xs, h3, rfl⟩ := Option.map_eq_some_iff.mp hi; exact isLst_of (refL_some h3))
section
variable {X : Cx} {W : WX} {tg e : Expr} {f : LE}
def iAny (K : PySem.W.Frag) (te : TE) : TI := fun σ H R => te σ H fun x H1 => (∃ a, x = .ref a ∧ (∃ xs, SqL K H1 a xs) ∧ R (Itl K a) H1) ∨ (∃ a, x = .ref a ∧ (∃ xs, SqT K H1 a xs) ∧ R (Itt K a) H1) ∨ ∃ y, x = .str y ∧ R (Its y) H1
theorem pi_any {te : TE} (he : PE X e te) : PI X tg e (iAny X.K te) := by
  refine ⟨fun pins s σ H R I h => ?_⟩
  refine thn (he.run pins s σ H _ I h) fun v s1 ⟨x, H1, I1, r1, q1⟩ => ?_
  rcases q1 with ⟨a, e, ⟨xs, hq⟩, q⟩ | ⟨a, e, ⟨xs, hq⟩, q⟩ | ⟨y, ex, q⟩
  · subst e
    cases r1
    obtain ⟨its, rv, p, hz⟩ := I1.list hq
    refine wpAny_pyIter_list p.isList ?_
    refine ⟨s1.heap.objs.size, [s1.heap.objs.size], _, _, H1, rfl, I1.kept (t' := s1.toks) fun b o e => Heap.get?_push_of_some _ e, turn_list a _, ⟨_, Heap.get?_push_size _ rfl, rfl, rfl⟩, fun b hb => ?_, q⟩
    have e : b = s1.heap.objs.size := by simpa using hb
    subst e
    exact I1.fpOk (Nat.le_refl _) (I1.hok.fresh (Nat.le_refl _))
  · subst e
    cases r1
    obtain ⟨its, rv, p, hz⟩ := I1.tuple hq
    refine wpAny_pyIter_tuple (show s1.heap.IsTuple a its.toArray from p) ?_
    refine ⟨s1.heap.objs.size, [s1.heap.objs.size], _, _, H1, rfl, I1.kept (t' := s1.toks) fun b o e => Heap.get?_push_of_some _ e, turn_tuple a _, ⟨_, Heap.get?_push_size _ rfl, rfl, rfl⟩, fun b hb => ?_, q⟩
    have e : b = s1.heap.objs.size := by simpa using hb
    subst e
    exact I1.fpOk (Nat.le_refl _) (I1.hok.fresh (Nat.le_refl _))
  · subst ex
    obtain ⟨t, rfl⟩ := r1
    cases ha : y.cps.all (· < 128)
    · exact wpAny_pyIter_wide ha (pi_one (tk := s1.toks) I1 _ (turn_str _ y t "str_iterator" (.inr rfl)) ⟨_, Heap.get?_push_size _ rfl, rfl, rfl⟩ q)
    · exact wpAny_pyIter_ascii ha (pi_one (tk := s1.toks) I1 _ (turn_str _ y t "str_ascii_iterator" (.inl rfl)) ⟨_, Heap.get?_push_size _ rfl, rfl, rfl⟩ q)
theorem itl_ok {xs : List LV} {chk : LH → Bool} {m : Mp} {H : Hp} {a : Addr} (h : ∀ m2 H2 L2, Sim X.K X.mg m2 H2 L2 → Fr2 m H m2 H2 → chk L2 = true → ∃ vs, SqL X.K H2 a vs ∧ RvL X.K X.mg m2 H2 xs vs) : ItOk X (Itl X.K a) xs chk m H := by
  intro i m2 H2 L2 S2 F2 ck
  obtain ⟨vs, hs, r⟩ := h m2 H2 L2 S2 F2 ck
  refine ⟨fun v hv => ?_, fun hl => ⟨vs, hs, by rw [r.length]; exact hl⟩⟩
  obtain ⟨y, hy, ry⟩ := r.get hv
  refine ⟨⟨vs, y, hs, hy⟩, fun x H3 hy3 => ?_⟩
  obtain ⟨rfl, fx⟩ := hy3
  have e : y = x := Option.some.inj (hy.symm.trans (fx vs hs))
  exact ⟨S2, .refl, e ▸ ry⟩
theorem itt_ok {xs : List LV} {chk : LH → Bool} {m : Mp} {H : Hp} {a : Addr} (h : ∀ m2 H2 L2, Sim X.K X.mg m2 H2 L2 → Fr2 m H m2 H2 → chk L2 = true → ∃ vs, SqT X.K H2 a vs ∧ RvL X.K X.mg m2 H2 xs vs) : ItOk X (Itt X.K a) xs chk m H := by
  intro i m2 H2 L2 S2 F2 ck
  obtain ⟨vs, hs, r⟩ := h m2 H2 L2 S2 F2 ck
  refine ⟨fun v hv => ?_, fun hl => ⟨vs, hs, by rw [r.length]; exact hl⟩⟩
  obtain ⟨y, hy, ry⟩ := r.get hv
  refine ⟨⟨vs, y, hs, hy⟩, fun x H3 hy3 => ?_⟩
  obtain ⟨rfl, fx⟩ := hy3
  have e : y = x := Option.some.inj (hy.symm.trans (fx vs hs))
  exact ⟨S2, .refl, e ▸ ry⟩
/-- the list or tuple at a stands -/
theorem seq_walk {m : Mp} {H : Hp} {L : LH} {v : LV} {x : V} {xs : List LV} {chk : LH → Bool} (S : Sim X.K X.mg m H L) (r : Rv X.K X.mg m H v x) (h : itOf L v = some (xs, chk)) (hs : ∀ s, v ≠ .str s) :
    (∃ a, x = .ref a ∧ (∃ vs, SqL X.K H a vs) ∧ ∀ m2 H2 L2, Sim X.K X.mg m2 H2 L2 → Fr2 m H m2 H2 → chk L2 = true → ∃ vs, SqL X.K H2 a vs ∧ RvL X.K X.mg m2 H2 xs vs) ∨
    (∃ a, x = .ref a ∧ (∃ vs, SqT X.K H a vs) ∧ ∀ m2 H2 L2, Sim X.K X.mg m2 H2 L2 → Fr2 m H m2 H2 → chk L2 = true → ∃ vs, SqT X.K H2 a vs ∧ RvL X.K X.mg m2 H2 xs vs) := by
  cases v with
  | tup ys =>
    cases h
    obtain ⟨a, vs, rfl, t, q⟩ := r
    exact .inr ⟨a, rfl, ⟨vs, t.sq⟩, fun m2 H2 L2 _ F _ => ⟨vs, (t.mono1 F.toFr1).sq, RvL.mono1 F.toFr1 _ _ q⟩⟩
  | ktp ys =>
    cases h
    obtain ⟨a, vs, rfl, t, q⟩ := r
    exact .inr ⟨a, rfl, ⟨vs, t.sq⟩, fun m2 H2 L2 _ F _ => ⟨vs, t.sq, RvL.mono1 F.toFr1 _ _ q⟩⟩
  | lst ys =>
    cases h
    obtain ⟨a, vs, rfl, t, q⟩ := r
    exact .inl ⟨a, rfl, ⟨vs, t.sq⟩, fun m2 H2 L2 _ F _ => ⟨vs, (t.mono1 F.toFr1).sq, RvL.mono1 F.toFr1 _ _ q⟩⟩
  | frz ys =>
    cases h
    obtain ⟨a, vs, rfl, t, q⟩ := r
    exact .inl ⟨a, rfl, ⟨vs, t.sq⟩, fun m2 H2 L2 _ F _ => ⟨vs, (t.mono1 F.toFr1).sq, RvL.mono1 F.toFr1 _ _ q⟩⟩
  | ref n =>
    obtain ⟨ys, h1, h2⟩ := Option.map_eq_some_iff.mp h
    cases h2
    obtain ⟨a, vs, ha, rfl, hv, q⟩ := refL_at S r h1
    refine .inl ⟨a, rfl, ⟨vs, SqL.of hv⟩, fun m2 H2 L2 S2 F ck => ?_⟩
    obtain ⟨us, hu, ru⟩ := S2.ob n _ a (isLst_eq ck) (pre_get F.pre ha)
    exact ⟨us, SqL.of hu, ru⟩
  | str s => exact absurd rfl (hs s)
  | _ => cases h
theorem mi_any (h : ME X W e f) : MI X W tg e (iOf f) := by
  obtain ⟨t, p, h⟩ := h
  refine ⟨_, pi_any p, fun m L H ls σ R S rs q => h m L H ls σ _ S rs (Post.bind q fun v L1 m1 H1 S1 F1 h1 x rx => ?_)⟩
  cases hi : itOf L1 v with
  | none => rw [hi] at h1; exact h1.elim
  | some pr =>
    obtain ⟨xs, chk⟩ := pr
    rw [hi] at h1
    have ck : chk L1 = true := by
      cases v <;> first
        | (cases hi; done)
        | (cases hi; rfl)
        | (obtain ⟨ys, h3, h4⟩ := Option.map_eq_some_iff.mp hi; cases h4; exact isLst_of (refL_some h3))
    have go := h1.now S1 ck
    by_cases hs : ∃ s, v = .str s
    · obtain ⟨s, rfl⟩ := hs
      cases hi; cases rx
      refine .inr (.inr ⟨s, rfl, go _ ?_⟩)
      intro i m2 H2 L2 S2 F2 ck
      refine ⟨fun w hw => ?_, fun hl => ?_⟩
      · unfold strItems at hw
        rw [List.getElem?_map] at hw
        obtain ⟨c, hc, rfl⟩ := Option.map_eq_some_iff.mp hw
        rw [Array.getElem?_toList] at hc
        refine ⟨(Array.getElem?_eq_some_iff.mp hc).1, fun x H3 hy => ?_⟩
        obtain ⟨rfl, c', hc', rfl⟩ := hy
        rw [hc] at hc'
        cases hc'
        exact ⟨S2, .refl, rfl⟩
      · unfold strItems at hl
        rw [List.length_map, Array.length_toList] at hl
        exact hl
    · rcases seq_walk S1 rx hi (fun s e => hs ⟨s, e⟩) with ⟨a, rfl, hv, w⟩ | ⟨a, rfl, hv, w⟩
      · exact .inl ⟨a, rfl, hv, go _ (itl_ok w)⟩
      · exact .inr (.inl ⟨a, rfl, hv, go _ (itt_ok w)⟩)
end

end G

namespace G
open PySem PySem.Spec PyProof.Rows L2
/-! ### ranges -/
def rangeL (lo : Int) (n : Nat) : List LV := (List.range n).map fun (i : Nat) => .int (lo + (i : Int))
def smallI (i : Int) : Bool := decide (-(2 ^ 62) ≤ i ∧ i < 2 ^ 62)
theorem smallI_iff {i : Int} (h : smallI i = true) : -(2 ^ 62) ≤ i ∧ i < 2 ^ 62 := of_decide_eq_true h
def pRange (L : LH) : List LV → Option (List LV × (LH → Bool))
  | [.int j] => guard (smallI j) (some (rangeL 0 j.toNat, always))
  | [.int i, .int j] => guard (smallI i && smallI j) (some (rangeL i (j - i).toNat, always))
  | _ => none
def iRange (f : LF) : LI := fun ls L => (f ls L).bind fun vs L1 => lift (pRange L1 vs) L1
theorem pRange_chk {L : LH} {vs : List LV} {p : List LV × (LH → Bool)} (h : pRange L vs = some p) (L' : LH) : p.2 L' = true := by
  unfold pRange at h
  split at h
  · obtain ⟨_, h2⟩ := guard_some h; cases h2; rfl
  · obtain ⟨_, h2⟩ := guard_some h; cases h2; rfl
  · cases h
theorem iRange_chk {f : LF} : ∀ ls L p L', iRange f ls L = .ok p L' → p.2 L' = true := by
  intro ls L p L' h
  obtain ⟨v, L1, h1, h2⟩ := Res.bind_ok h
  cases hi : pRange L1 v with
  | none => rw [hi] at h2; cases h2
  | some q => rw [hi] at h2; cases h2; exact pRange_chk hi _
section
variable {X : Cx} {W : WX} {tg a b : Expr} {f : LF} {p pos : Pos}
theorem itr_ok {lo : Int} {n : Nat} {m : Mp} {H : Hp} : ItOk X (Itr lo n) (rangeL lo n) always m H := by
  intro i m2 H2 L2 S2 F2 ck
  refine ⟨fun v hv => ?_, fun hl => ?_⟩
  · unfold rangeL at hv
    rw [List.getElem?_map] at hv
    obtain ⟨k, hk, rfl⟩ := Option.map_eq_some_iff.mp hv
    obtain ⟨hl, e⟩ := List.getElem?_eq_some_iff.mp hk
    rw [List.getElem_range] at e
    subst e
    refine ⟨(by simpa using hl : i < n), fun x H3 hy => ?_⟩
    obtain ⟨rfl, rfl⟩ := hy
    exact ⟨S2, .refl, rfl⟩
  · unfold rangeL at hl
    rw [List.length_map, List.length_range] at hl
    exact hl
theorem mi_range1 (hg : Gl X "range") (hm : X.mg "range" = none) (ha : MA X W [a] f) (hs : starEach [a] X.env = [(false, eval a X.env)] := by rfl) : MI X W tg (.Call (.Name "range" p) [a] [] pos) (iRange f) := by
  obtain ⟨hl, t, pa, ha⟩ := ha
  refine ⟨_, pi_range1 hg hm pa hs, fun m L H ls σ R S rs q => ha m L H ls σ _ S rs ?_⟩
  unfold iRange at q
  cases hf : f ls L with
  | err e L1 => rw [hf] at q; exact q
  | bad => rw [hf] at q; exact q
  | ok vs L1 =>
    rw [hf] at q
    intro m1 H1 S1 F1 xs rx
    have q := Post.trans q F1
    have len := hl _ _ _ _ hf
    dsimp only [Res.bind] at q
    cases hp : pRange L1 vs with
    | none => rw [hp] at q; exact q.elim
    | some pr =>
      rw [hp] at q
      have go := q.now S1 (pRange_chk hp _)
      unfold pRange at hp
      split at hp
      · rename_i j
        obtain ⟨h1, h2⟩ := guard_some hp
        cases h2
        obtain ⟨x, rfl, r1⟩ := rx.inv1
        cases r1
        have h1 := smallI_iff h1
        exact ⟨j, rfl, h1.1, h1.2, go _ itr_ok⟩
      · simp at len
      · cases hp
theorem mi_range2 (hg : Gl X "range") (hm : X.mg "range" = none) (ha : MA X W [a, b] f) (hs : starEach [a, b] X.env = [(false, eval a X.env), (false, eval b X.env)] := by rfl) (hs2 : starEach [b] X.env = [(false, eval b X.env)] := by rfl) : MI X W tg (.Call (.Name "range" p) [a, b] [] pos) (iRange f) := by
  obtain ⟨hl, t, pa, ha⟩ := ha
  refine ⟨_, pi_range2 hg hm pa hs hs2, fun m L H ls σ R S rs q => ha m L H ls σ _ S rs ?_⟩
  unfold iRange at q
  cases hf : f ls L with
  | err e L1 => rw [hf] at q; exact q
  | bad => rw [hf] at q; exact q
  | ok vs L1 =>
    rw [hf] at q
    intro m1 H1 S1 F1 xs rx
    have q := Post.trans q F1
    have len := hl _ _ _ _ hf
    dsimp only [Res.bind] at q
    cases hp : pRange L1 vs with
    | none => rw [hp] at q; exact q.elim
    | some pr =>
      rw [hp] at q
      have go := q.now S1 (pRange_chk hp _)
      unfold pRange at hp
      split at hp
      · simp at len
      · rename_i i j
        obtain ⟨h1, h2⟩ := guard_some hp
        cases h2
        obtain ⟨x, y, rfl, r1, r2⟩ := rx.inv2
        cases r1; cases r2
        rw [Bool.and_eq_true] at h1
        have h3 := smallI_iff h1.1
        have h4 := smallI_iff h1.2
        exact ⟨i, j, rfl, ⟨h3.1, h3.2, h4.1, h4.2⟩, go _ itr_ok⟩
      · cases hp
end
end G

namespace G
open PySem PySem.Spec PyProof.Rows L2
/-! ### an object that is no value is changed -/
section
variable {K : PySem.W.Frag} {mg : Str → Option Value} {m m' : Mp} {H H' : Hp} {L : LH} {D : Addr} {o : HO}
mutual
theorem Rv.poke (hD : m.M D) : ∀ (v : LV) (x : V), Rv K mg m H v x → Rv K mg m (upd H D o) v x
  | .non, _, h => h
  | .bl _, _, h => h
  | .int _, _, h => h
  | .str _, _, h => h
  | .tup xs, _, ⟨a, vs, e, t, r⟩ => ⟨a, vs, e, ⟨by rw [upd_ne (fun z => t.2 (by rw [z]; exact hD))]; exact t.1, t.2⟩, RvL.poke hD xs vs r⟩
  | .ktp xs, _, ⟨a, vs, e, t, r⟩ => ⟨a, vs, e, t, RvL.poke hD xs vs r⟩
  | .lst xs, _, ⟨a, vs, e, t, r⟩ => ⟨a, vs, e, ⟨by rw [upd_ne (fun z => t.2 (by rw [z]; exact hD))]; exact t.1, t.2⟩, RvL.poke hD xs vs r⟩
  | .frz xs, _, ⟨a, vs, e, t, r⟩ => ⟨a, vs, e, t.elim (fun z => .inl ⟨by
      have n : a ≠ D := fun y => z.2 (by rw [y]; exact hD)
      rcases z.1 with h | ⟨u, h⟩
      · exact .inl (by rw [upd_ne n]; exact h)
      · exact .inr ⟨u, by rw [upd_ne n]; exact h⟩, z.2⟩) .inr, RvL.poke hD xs vs r⟩
  | .ref _, _, h => h
  | .fn _, _, h => h
theorem RvL.poke (hD : m.M D) : ∀ (xs : List LV) (vs : List V), RvL K mg m H xs vs → RvL K mg m (upd H D o) xs vs
  | [], _, h => h
  | v :: r, _, ⟨x, t, e, h, hr⟩ => ⟨x, t, e, Rv.poke hD v x h, RvL.poke hD r t hr⟩
end
theorem Sim.poke (S : Sim K mg m H L) (hD : m.M D) (n : D ∉ m.ι) : Sim K mg m (L2.upd H D o) L :=
  ⟨S.len, S.nd, fun k lo a e e' => (S.ob k lo a e e').imp (Rv.poke hD) (RvL.poke hD) (upd_ne fun z => n (by rw [← z]; exact List.mem_of_getElem? e')), fun a ha => by
    by_cases z : a = D
    · exact ⟨o, by rw [z, upd_same]⟩
    · obtain ⟨u, e⟩ := S.live a ha
      exact ⟨u, by rw [upd_ne z]; exact e⟩⟩
theorem Fr.poke (F : Fr m H m' H') (n : H D = none) : Fr m H m' (L2.upd H' D o) :=
  ⟨F.pre, fun b u e hb => by rw [upd_ne (ne_of_none e n)]; exact F.keep b u e hb, F.newi, F.newm, F.mono, fun b q u e hb => by rw [upd_ne (ne_of_none e n)]; exact F.fz b q u e hb⟩
end
/-! ### the slots of a comprehension -/
def wipeL (ls : LSt) : List Nat → LSt
  | [] => ls
  | v :: vs => (wipeL ls vs).set v none
theorem wipe_get (σ : L2.St) : ∀ (vs : List Nat) (j : Nat), (wipe σ vs)[j]? = if j ∈ vs then (if j < σ.length then some none else none) else σ[j]?
  | [], j => by simp [wipe]
  | v :: vs, j => by
    unfold wipe
    by_cases h : v = j
    · subst h
      rw [List.getElem?_set]
      simp [wipe_length]
    · rw [List.getElem?_set_ne h, wipe_get σ vs j]
      have : (j ∈ v :: vs) ↔ j ∈ vs := by simp [List.mem_cons, Ne.symm h]
      by_cases hj : j ∈ vs
      · rw [if_pos hj, if_pos (this.mpr hj)]
      · rw [if_neg hj, if_neg fun z => hj (this.mp z)]
theorem wipeL_get (σ : LSt) : ∀ (vs : List Nat) (j : Nat), (wipeL σ vs)[j]? = if j ∈ vs then (if j < σ.length then some none else none) else σ[j]?
  | [], j => by simp [wipeL]
  | v :: vs, j => by
    have wl : ∀ us : List Nat, (wipeL σ us).length = σ.length := fun us => by
      induction us with
      | nil => rfl
      | cons u us ih => unfold wipeL; rw [List.length_set]; exact ih
    unfold wipeL
    by_cases h : v = j
    · subst h
      rw [List.getElem?_set]
      simp [wl]
    · rw [List.getElem?_set_ne h, wipeL_get σ vs j]
      have : (j ∈ v :: vs) ↔ j ∈ vs := by simp [List.mem_cons, Ne.symm h]
      by_cases hj : j ∈ vs
      · rw [if_pos hj, if_pos (this.mpr hj)]
      · rw [if_neg hj, if_neg fun z => hj (this.mp z)]
theorem wipeL_length (σ : LSt) : ∀ us : List Nat, (wipeL σ us).length = σ.length
  | [] => rfl
  | u :: us => by unfold wipeL; rw [List.length_set]; exact wipeL_length σ us
theorem wipe_same {ix vs : List Nat} {σ σ' : L2.St} (h : Same1 ix (wipe σ vs) σ') (hx : ∀ j ∈ ix, j ∈ vs) : wipe σ' vs = wipe σ vs := by
  refine List.ext_getElem? fun j => ?_
  rw [wipe_get, wipe_get]
  have hl : σ'.length = σ.length := by rw [h.1, wipe_length]
  by_cases hj : j ∈ vs
  · rw [if_pos hj, if_pos hj, hl]
  · rw [if_neg hj, if_neg hj, h.2 j fun z => hj (hx j z), wipe_get, if_neg hj]
theorem RS.wipe {K : PySem.W.Frag} {mg : Str → Option Value} {m : Mp} {H : Hp} {ls : LSt} {σ : L2.St} (rs : RS K mg m H ls σ) (vs : List Nat) : RS K mg m H (wipeL ls vs) (L2.wipe σ vs) := by
  refine ⟨by rw [wipeL_length, wipe_length]; exact rs.1, fun j v e => ?_⟩
  rw [wipeL_get] at e
  by_cases hj : j ∈ vs
  · rw [if_pos hj] at e
    split at e <;> cases e
  · rw [if_neg hj] at e
    obtain ⟨x, e', r⟩ := rs.2 j v e
    exact ⟨x, by rw [wipe_get, if_neg hj]; exact e', r⟩

/-! ### [elt for target in iter if ..] -/
def Res.strip {α : Type} : Res α → Res α
  | .ok a L => .ok a L
  | _ => .bad
def tYesL : LT := fun _ L => .ok true L
def compL (g : LG) (tt : LT) (fe : LE) (chk : LH → Bool) (vs : List Nat) : List LV → LF
  | [] => fun _ L => .ok [] L
  | x :: r => fun ls L => match g x (wipeL ls vs) L with
    | none => .bad
    | some ls1 => (tt ls1 L).strip.bind fun b L1 => if b = true then (fe ls1 L1).strip.bind fun y L2 => if chk L2 = true then (compL g tt fe chk vs r ls L2).bind fun ys L3 => .ok (y :: ys) L3 else .bad
      else if chk L1 = true then compL g tt fe chk vs r ls L1 else .bad
theorem compL_cons {g : LG} {tt : LT} {fe : LE} {chk : LH → Bool} {vs : List Nat} {x : LV} {r : List LV} {ls : LSt} {L : LH} : compL g tt fe chk vs (x :: r) ls L = match g x (wipeL ls vs) L with
    | none => .bad
    | some ls1 => (tt ls1 L).strip.bind fun b L1 => if b = true then (fe ls1 L1).strip.bind fun y L2 => if chk L2 = true then (compL g tt fe chk vs r ls L2).bind fun ys L3 => .ok (y :: ys) L3 else .bad
      else if chk L1 = true then compL g tt fe chk vs r ls L1 else .bad := rfl
def fComp (it : LI) (g : LG) (tt : LT) (fe : LE) (vs : List Nat) : LF := fun ls L => (it ls L).bind fun p L1 => if p.1.length ≤ sizeLine then compL g tt fe p.2 vs p.1 ls L1 else .bad
def WF : WX := fun _ _ _ _ => False
def MTs (X : Cx) (W : WX) (ifs : List Expr) (f : LT) : Prop := ∃ t, PTs X ifs t ∧ ∀ m L H ls σ Q, Sim X.K X.mg m H L → RS X.K X.mg m H ls σ → TPost X W σ m H (f ls L) Q → t σ H Q
theorem mts_nil {X : Cx} {W : WX} : MTs X W [] tYesL := ⟨_, pts_nil, fun m L H ls σ Q S rs h => h.now S⟩
theorem mts_one {X : Cx} {W : WX} {c : Expr} {f : LT} (h : MT X W c f) : MTs X W [c] f := let ⟨t, p, h⟩ := h; ⟨_, pts_one p, h⟩
theorem PE.weak {X : Cx} {e : Expr} {t u : TE} (h : PE X e t) (k : ∀ σ H Q, u σ H Q → t σ H Q) : PE X e u := ⟨fun pins s σ H Q I q => h.run pins s σ H Q I (k σ H Q q)⟩
theorem PTs.weak {X : Cx} {e : List Expr} {t u : TT} (h : PTs X e t) (k : ∀ σ H Q, u σ H Q → t σ H Q) : PTs X e u := ⟨fun pins s σ H Q I q => h.run pins s σ H Q I (k σ H Q q)⟩
theorem PG.weak {X : Cx} {e : Expr} {t u : TG} (h : PG X e t) (k : ∀ v σ H Q, u v σ H Q → t v σ H Q) : PG X e u := ⟨fun pins s σ H v w Q I r q => h.run pins s σ H v w Q I r (k v σ H Q q)⟩
section
variable {X : Cx} {W : WX} {elt tg iter : Expr} {ifs : List Expr} {scope : Scope} {pos : Pos} {fi : LI} {g : LG} {tt : LT} {fe : LE} {ix : List Nat}
theorem tlc_core {wi : TI} {gt : TG} {t2 : TT} {te : TE} {vs : List Nat} (hx : ∀ j ∈ ix, j ∈ vs)
    (hi : ∀ m L H ls σ R, Sim X.K X.mg m H L → RS X.K X.mg m H ls σ → Post X W σ m H (fun p L' m' H' => p.2 L' = true → ∀ J, ItOk X J p.1 p.2 m' H' → R J H') (fi ls L) → wi σ H R)
    (hg : ∀ m L H ls σ v x ls' Q, Sim X.K X.mg m H L → RS X.K X.mg m H ls σ → Rv X.K X.mg m H v x → g v ls L = some ls' → (∀ σ', RS X.K X.mg m H ls' σ' → Same1 ix σ σ' → Q σ' H) → gt x σ H Q)
    (ht : ∀ m L H ls σ Q, Sim X.K X.mg m H L → RS X.K X.mg m H ls σ → TPost X WF σ m H (tt ls L) Q → t2 σ H Q)
    (he : ∀ m L H ls σ Q, Sim X.K X.mg m H L → RS X.K X.mg m H ls σ → EPost X WF σ m H (fe ls L) Q → te σ H Q) (chk0 : ∀ ls L p L', fi ls L = .ok p L' → p.2 L' = true)
    {m : Mp} {L : LH} {H : Hp} {ls : LSt} {σ : L2.St} {Q : VK} (S : Sim X.K X.mg m H L) (rs : RS X.K X.mg m H ls σ) (q : FPost X W σ m H (fComp fi g tt fe vs ls L) Q) : tLc wi gt t2 te vs σ H Q := by
  have h0 := chk0 ls L
  refine hi m L H ls σ _ S rs ?_
  unfold fComp at q
  cases hf : fi ls L with
  | err e L1 => rw [hf] at q; exact q
  | bad => rw [hf] at q; exact q
  | ok p L1 =>
    obtain ⟨xs, chk⟩ := p
    rw [hf] at q
    have hchk := h0 _ _ hf
    intro m1 H1 S1 F1 _ J ok D hD
    dsimp only [Res.bind] at q
    split at q
    · rename_i hsz
      have nD : H D = none := F1.fresh S1 hD
      refine ⟨fun i n H' => ∃ m' L' acc vacc, n = xs.length - i ∧ i ≤ xs.length ∧ Sim X.K X.mg m' H' L' ∧ Fr m1 H1 m' H' ∧ m'.M D ∧ D ∉ m'.ι ∧ H' D = some (.lst vacc) ∧ RvL X.K X.mg m' H' acc vacc ∧ acc.length ≤ i ∧ chk L' = true ∧
          compL g tt fe chk vs xs ls L1 = (compL g tt fe chk vs (xs.drop i) ls L').bind fun ys L3 => .ok (acc ++ ys) L3,
        ⟨xs.length, m1.add D, L1, [], [], by simp, Nat.zero_le _, S1.add hD, (Fr.upd hD).add hD, .inr rfl, S1.outi hD, upd_same, rfl, Nat.le_refl _, hchk, ?_⟩, ?_⟩
      · rw [List.drop_zero]
        cases compL g tt fe chk vs xs ls L1 <;> rfl
      rintro i n H' ⟨m', L', acc, vacc, rfl, hle, S', F', mD, iD, eD, rA, lA, ck', tot⟩
      obtain ⟨ok1, ok2⟩ := ok i m' H' L' S' F'.to2 ck'
      by_cases hlt : i < xs.length
      · have hxi : xs[i]? = some xs[i] := List.getElem?_eq_getElem hlt
        rw [List.drop_eq_getElem_cons hlt] at tot
        obtain ⟨go, yl⟩ := ok1 _ hxi
        refine .inr ⟨go, fun H2 => ∃ m2 L2 acc2 vacc2, Sim X.K X.mg m2 H2 L2 ∧ Fr m1 H1 m2 H2 ∧ m2.M D ∧ D ∉ m2.ι ∧ H2 D = some (.lst vacc2) ∧ RvL X.K X.mg m2 H2 acc2 vacc2 ∧ acc2.length ≤ i + 1 ∧ chk L2 = true ∧
            compL g tt fe chk vs xs ls L1 = (compL g tt fe chk vs (xs.drop (i + 1)) ls L2).bind fun ys L3 => .ok (acc2 ++ ys) L3,
          fun H2 ⟨m2, L2, acc2, vacc2, a1, a2, a3, a4, a5, a6, a7, a8, a9⟩ => ⟨xs.length - (i + 1), by show xs.length - (i + 1) < xs.length - i; omega, m2, L2, acc2, vacc2, rfl, hlt, a1, a2, a3, a4, a5, a6, a7, a8, a9⟩, fun x H3 hy => ?_⟩
        obtain ⟨S3, F3, r3⟩ := yl x H3 hy
        rw [compL_cons] at tot
        cases hgx : g xs[i] (wipeL ls vs) L' with
        | none => rw [hgx] at tot; rw [tot] at q; exact q.elim
        | some ls1 =>
          rw [hgx] at tot
          dsimp only at tot
          have rs3 := (((rs.mono F1).mono F').mono F3).wipe vs
          refine hg m' L' H3 _ _ xs[i] x ls1 _ S3 rs3 r3 hgx fun σ4 rs4 s4 => ⟨wipe_same s4 hx, ht m' L' H3 ls1 σ4 _ S3 rs4 ?_⟩
          cases htt : tt ls1 L' with
          | err e L4 => rw [htt] at tot; rw [tot] at q; exact q.elim
          | bad => rw [htt] at tot; rw [tot] at q; exact q.elim
          | ok b L4 =>
            rw [htt] at tot
            dsimp only [Res.strip, Res.bind] at tot
            intro m4 H4 S4 F4
            have iD3 : H3 D = some (.lst vacc) := F3.keep _ _ eD iD
            have iD4 : H4 D = some (.lst vacc) := F4.keep _ _ iD3 iD
            have ni4 : D ∉ m4.ι := fun z => by
              rcases F4.newi D z with y | y
              · exact iD y
              · rw [iD3] at y; cases y
            have mD4 : m4.M D := F4.mono D mD
            have rA4 := RvL.mono F4 _ _ (RvL.mono F3 _ _ rA)
            cases b with
            | false =>
              rw [if_neg Bool.false_ne_true] at tot
              refine iteF ?_
              by_cases ck4 : chk L4 = true
              · rw [if_pos ck4] at tot
                exact ⟨m4, L4, acc, vacc, S4, (F'.trans F3).trans F4, mD4, ni4, iD4, rA4, by omega, ck4, tot⟩
              · rw [if_neg ck4] at tot; rw [tot] at q; exact q.elim
            | true =>
              rw [if_pos rfl] at tot
              refine iteT ?_
              refine he m4 L4 H4 ls1 σ4 _ S4 (rs4.mono F4) ?_
              cases hfe : fe ls1 L4 with
              | err e L5 => rw [hfe] at tot; rw [tot] at q; exact q.elim
              | bad => rw [hfe] at tot; rw [tot] at q; exact q.elim
              | ok y L5 =>
                rw [hfe] at tot
                dsimp only [Res.strip, Res.bind] at tot
                intro m5 H5 S5 F5 u ru
                have iD5 : H5 D = some (.lst vacc) := F5.keep _ _ iD4 ni4
                have ni5 : D ∉ m5.ι := fun z => by
                  rcases F5.newi D z with y | y
                  · exact ni4 y
                  · rw [iD4] at y; cases y
                have mD5 : m5.M D := F5.mono D mD4
                have rA5 := RvL.mono F5 _ _ rA4
                by_cases ck5 : chk L5 = true
                · rw [if_pos ck5] at tot
                  refine ⟨vacc, iD5, by rw [rA5.length]; omega, m5, L5, acc ++ [y], vacc ++ [u], S5.poke mD5 ni5, (((F'.trans F3).trans F4).trans F5).poke hD, mD5, ni5, upd_same, ?_, by rw [List.length_append, List.length_singleton]; omega, ck5, ?_⟩
                  · exact RvL.poke mD5 _ _ (rA5.append (.one ru))
                  · rw [tot]
                    cases compL g tt fe chk vs (xs.drop (i + 1)) ls L5 with
                    | ok ys L6 => show Res.ok (acc ++ y :: ys) L6 = Res.ok (acc ++ [y] ++ ys) L6; rw [List.append_assoc]; rfl
                    | err e L6 => rfl
                    | bad => rfl
                · rw [if_neg ck5] at tot; rw [tot] at q; exact q.elim
      · have e : i = xs.length := by omega
        rw [e, List.drop_length] at tot
        have tot : compL g tt fe chk vs xs ls L1 = .ok (acc ++ []) L' := tot
        rw [List.append_nil] at tot
        rw [tot] at q
        exact .inl ⟨ok2 (by show xs.length ≤ i; omega), q m' H' S' (F1.trans F') D vacc nD eD mD iD rA⟩
    · exact q.elim
theorem mf_comp {own : List (Str × Nat)} (hc : X.calm = true) (hN : X.N.Nodup) (hi : MI X W tg iter fi) (chk0 : ∀ ls L p L', fi ls L = .ok p L' → p.2 L' = true) (ok : BlkOk X.N X.env.scope scope own) (hx : ix.all (fun j => (own.map (·.2)).contains j) = true)
    (hg : ∀ (s : Shared) (H : Hp) (C : Addr) (cl : List (Str × Addr)) (fp : List Addr), MG (X.blk s H scope (compEnvC scope cl C X.env) fp) tg g ix)
    (ht : ∀ (s : Shared) (H : Hp) (C : Addr) (cl : List (Str × Addr)) (fp : List Addr), MTs (X.blk s H scope (compEnvC scope cl C X.env) fp) WF ifs tt)
    (he : ∀ (s : Shared) (H : Hp) (C : Addr) (cl : List (Str × Addr)) (fp : List Addr), ME (X.blk s H scope (compEnvC scope cl C X.env) fp) WF elt fe) (hs : ∀ x, foldedSetIterable iter X.env x = pure x := by intro _; rfl) :
    MF X W (.ListComp elt [⟨tg, iter, ifs, 0⟩] scope pos) (fComp fi g tt fe (own.map (·.2))) := by
  obtain ⟨wi, pi, hi⟩ := hi
  have PGw := fun s H C cl fp => PG.weak (u := fun v σ H' Q => ∀ s H C cl fp, (hg s H C cl fp).choose v σ H' Q) (hg s H C cl fp).choose_spec.1 fun v σ H' Q q => q s H C cl fp
  have PTw := fun s H C cl fp => PTs.weak (u := fun σ H' Q => ∀ s H C cl fp, (ht s H C cl fp).choose σ H' Q) (ht s H C cl fp).choose_spec.1 fun σ H' Q q => q s H C cl fp
  have PEw := fun s H C cl fp => PE.weak (u := fun σ H' Q => ∀ s H C cl fp, (he s H C cl fp).choose σ H' Q) (he s H C cl fp).choose_spec.1 fun σ H' Q q => q s H C cl fp
  refine ⟨_, pe_lc hc hN pi ok PGw PTw PEw hs, fun m L H ls σ Q S rs q => ?_⟩
  refine tlc_core (fi := fi) (g := g) (tt := tt) (fe := fe) (ix := ix) (fun j hj => ?_) hi (fun m L H ls σ v x ls' Q S rs r e k s0 H0 C cl fp => ?_) (fun m L H ls σ Q S rs k s0 H0 C cl fp => ?_) (fun m L H ls σ Q S rs k s0 H0 C cl fp => ?_) chk0 S rs q
  · have := List.all_eq_true.mp hx j hj
    simpa using this
  · exact (hg s0 H0 C cl fp).choose_spec.2 m L H ls σ v x ls' Q S rs r e k
  · exact (ht s0 H0 C cl fp).choose_spec.2 m L H ls σ Q S rs k
  · exact (he s0 H0 C cl fp).choose_spec.2 m L H ls σ Q S rs k
/-- y = [..] on one line: into the program's heap, or as a value -/
theorem comp_asg {own : List (Str × Nat)} {y : Str} {py spos : Pos} (i : Nat) (hc : X.calm = true) (hN : X.N.Nodup) (hy : X.N[i]? = some y) (hyl : X.env.scope.names.lookup y = some .local)
    (hsw : swapsWith (.ListComp elt [⟨tg, iter, ifs, 0⟩] scope pos) (some (.Name y py)) spos.line X.env = pure true) (hi : MI X W tg iter fi) (chk0 : ∀ ls L p L', fi ls L = .ok p L' → p.2 L' = true) (ok : BlkOk X.N X.env.scope scope own) (hx : ix.all (fun j => (own.map (·.2)).contains j) = true)
    (hg : ∀ (s : Shared) (H : Hp) (C : Addr) (cl : List (Str × Addr)) (fp : List Addr), MG (X.blk s H scope (compEnvC scope cl C X.env) fp) tg g ix)
    (ht : ∀ (s : Shared) (H : Hp) (C : Addr) (cl : List (Str × Addr)) (fp : List Addr), MTs (X.blk s H scope (compEnvC scope cl C X.env) fp) WF ifs tt)
    (he : ∀ (s : Shared) (H : Hp) (C : Addr) (cl : List (Str × Addr)) (fp : List Addr), ME (X.blk s H scope (compEnvC scope cl C X.env) fp) WF elt fe) (hs : ∀ x, foldedSetIterable iter X.env x = pure x := by intro _; rfl) :
    ∃ t, PS X (.Assign [.Name y py] (.ListComp elt [⟨tg, iter, ifs, 0⟩] scope pos) spos) (tAsg t (gName i)) ∧ ∀ m L H ls σ Q, Sim X.K X.mg m H L → RS X.K X.mg m H ls σ → FPost X W σ m H (fComp fi g tt fe (own.map (·.2)) ls L) Q → t σ H Q := by
  obtain ⟨wi, pi, hi⟩ := hi
  have PGw := fun s H C cl fp => PG.weak (u := fun v σ H' Q => ∀ s H C cl fp, (hg s H C cl fp).choose v σ H' Q) (hg s H C cl fp).choose_spec.1 fun v σ H' Q q => q s H C cl fp
  have PTw := fun s H C cl fp => PTs.weak (u := fun σ H' Q => ∀ s H C cl fp, (ht s H C cl fp).choose σ H' Q) (ht s H C cl fp).choose_spec.1 fun σ H' Q q => q s H C cl fp
  have PEw := fun s H C cl fp => PE.weak (u := fun σ H' Q => ∀ s H C cl fp, (he s H C cl fp).choose σ H' Q) (he s H C cl fp).choose_spec.1 fun σ H' Q q => q s H C cl fp
  refine ⟨_, ps_setLc hc hN hy hyl hsw pi ok PGw PTw PEw hs, fun m L H ls σ Q S rs q => ?_⟩
  refine tlc_core (fi := fi) (g := g) (tt := tt) (fe := fe) (ix := ix) (fun j hj => ?_) hi (fun m L H ls σ v x ls' Q S rs r e k s0 H0 C cl fp => ?_) (fun m L H ls σ Q S rs k s0 H0 C cl fp => ?_) (fun m L H ls σ Q S rs k s0 H0 C cl fp => ?_) chk0 S rs q
  · have := List.all_eq_true.mp hx j hj
    simpa using this
  · exact (hg s0 H0 C cl fp).choose_spec.2 m L H ls σ v x ls' Q S rs r e k
  · exact (ht s0 H0 C cl fp).choose_spec.2 m L H ls σ Q S rs k
  · exact (he s0 H0 C cl fp).choose_spec.2 m L H ls σ Q S rs k
end
section
variable {X : Cx} {W : WX} {st : Stmt} {f : LF} {i : Nat}
theorem ms_setFrz (h : ∃ t, PS X st (tAsg t (gName i)) ∧ ∀ m L H ls σ Q, Sim X.K X.mg m H L → RS X.K X.mg m H ls σ → FPost X W σ m H (f ls L) Q → t σ H Q) : MS X W st (sAsg (eFrz f) (gN i)) := by
  obtain ⟨t, p, h⟩ := h
  refine ⟨_, p, fun m L H ls σ D S rs q => h m L H ls σ _ S rs ?_⟩
  unfold sAsg eFrz at q
  cases hf : f ls L with
  | err e L1 => rw [hf] at q; exact fun m1 H1 C d S F => q m1 H1 σ C d S F (rs.mono F)
  | bad => rw [hf] at q; exact q
  | ok xs L1 =>
    rw [hf] at q
    intro m1 H1 S1 F1 a vs n e1 ma ni r1
    have le : (m1.del a ni).Le m1 := ⟨rfl, fun b hb => hb.1⟩
    have F2 : Fr m H (m1.del a ni) H1 := F1.del (S.out n)
    exact q (m1.del a ni) H1 (S1.le le) F2 _ ((rs.mono F2).set i (v := .lst xs) ⟨a, vs, rfl, ⟨e1, fun z => z.2 rfl⟩, RvL.le le _ _ r1⟩)
theorem ms_setNew (h : ∃ t, PS X st (tAsg t (gName i)) ∧ ∀ m L H ls σ Q, Sim X.K X.mg m H L → RS X.K X.mg m H ls σ → FPost X W σ m H (f ls L) Q → t σ H Q) : MS X W st (sAsg (eNew f) (gN i)) := by
  obtain ⟨t, p, h⟩ := h
  refine ⟨_, p, fun m L H ls σ D S rs q => h m L H ls σ _ S rs ?_⟩
  unfold sAsg eNew at q
  cases hf : f ls L with
  | err e L1 => rw [hf] at q; exact fun m1 H1 C d S F => q m1 H1 σ C d S F (rs.mono F)
  | bad => rw [hf] at q; exact q
  | ok xs L1 =>
    rw [hf] at q
    intro m1 H1 S1 F1 a vs n e1 ma ni r1
    have F2 : Fr m H (m1.push a ma) H1 := F1.push n
    refine q (m1.push a ma) H1 (S1.push ni ⟨vs, e1, RvL.push _ _ r1⟩) F2 _ ((rs.mono F2).set i (v := .ref L1.length) ⟨a, ?_, rfl⟩)
    show (m1.ι ++ [a])[L1.length]? = some a
    rw [← S1.len, List.getElem?_append_right (Nat.le_refl _), Nat.sub_self]
    rfl
end
end G

namespace G
open PySem PySem.Spec PyProof.Rows L2
/-! ### defs -/
abbrev Sem' := List LV → LH → Res LV
def FnPost (K : PySem.W.Frag) (mg : Str → Option Value) (m : Mp) (H : Hp) (Q : VK) (E : XK) : Res LV → Prop
  | .ok v L' => ∀ m' H', Sim K mg m' H' L' → Fr m H m' H' → ∀ x, Rv K mg m' H' v x → Q x H'
  | .err e L' => ∀ m' H' C d, Sim K mg m' H' L' → Fr m H m' H' → ExAt K mg m' H' e C d → E (.ref C) (some d) H'
  | .bad => False
def spG (K : PySem.W.Frag) (mg : Str → Option Value) (n : Nat) (sem : Sem') : Sp := fun vs H Q E => vs.length = n ∧ ∃ m L lvs, Sim K mg m H L ∧ RvL K mg m H lvs vs ∧ FnPost K mg m H Q E (sem lvs L)
/-- what a body is worth as a def: N names, the parameters first -/
def fnSem (N : Nat) (f : LS) : Sem' := fun args L => match f (args.map some ++ List.replicate (N - args.length) none) L with
  | .ok (.rt v) _ L' => .ok v L'
  | .ok .nx _ L' => .ok .non L'
  | .err e _ L' => .err e L'
  | _ => .bad
/-- the name x stands for a def of n parameters that is worth sem -/
structure Cal (P : Program) (w : World) (K : PySem.W.Frag) (mg : Str → Option Value) (base : Heap) (k : Nat) (x : Str) (n : Nat) (sem : Sem') : Prop where
  ex : ∃ (f : Addr) (fd : FuncData) (ps : List Str), mg x = some (.ref f) ∧ PySem.W.keepIn K (.ref f) = true ∧ ps.length = n ∧ Binds K fd ps [] ∧ FnOk P w K mg base (L2.CX P w) k f fd ps (spG K mg n sem)
section
variable {P : Program} {w : World} {K : PySem.W.Frag} {mg : Str → Option Value} {base : Heap}
theorem rs_start {m : Mp} {H : Hp} {lvs : List LV} {vs : List V} (r : RvL K mg m H lvs vs) (N : List Str) : RS K mg m H (lvs.map some ++ List.replicate (N.length - lvs.length) none) (L2.start N vs) := by
  unfold L2.start
  refine ⟨by simp [r.length], fun i v e => ?_⟩
  by_cases h : i < lvs.length
  · rw [List.getElem?_append_left (by simpa using h), List.getElem?_map] at e
    cases hv : lvs[i]? with
    | none => rw [hv] at e; cases e
    | some u =>
      rw [hv] at e
      cases e
      obtain ⟨x, hx, rx⟩ := r.get hv
      exact ⟨x, by rw [List.getElem?_append_left (by rw [List.length_map, r.length]; exact h), List.getElem?_map, hx]; rfl, rx⟩
  · rw [List.getElem?_append_right (by simpa using h), List.getElem?_replicate] at e
    split at e <;> cases e
theorem fn_of {x : Str} {st : Stmt} {f : Addr} {fd : FuncData} {N ps : List Str} {k n : Nat} {g : LS} (F : Fun K x x st f fd) (gx : mg x = some (.ref f)) (S : FnScope N ps (defScope st)) (hn : ps.length = n) (b : Binds K fd ps [])
    (hbody : ∀ (cdv : Value) (A : Around) (outer : List Env) (s : Shared) (H : Hp) (E : XK), Room k (A.deeper (envOfC x (defScope st) s.heap.objs.size f cdv)) →
      MB (cxOf (L2.CX P w) P w K mg base N x (defScope st) f cdv A outer s H E) (fun cls d _ H => E cls d H) (defBody st) g) : FnOk P w K mg base (L2.CX P w) (k + 1) f fd ps (spG K mg n (fnSem N.length g)) := by
  refine F.okX S (fun vs H Q E h => h.1.trans hn.symm) fun cdv A outer s H vs Q E hr hsp => ?_
  obtain ⟨t, ht, q⟩ := hbody cdv A outer s H E hr
  obtain ⟨hl, m, L, lvs, Sm, r, post⟩ := hsp
  refine ⟨t, ht, q m L H _ _ _ Sm (rs_start r N) ?_⟩
  unfold fnSem at post
  cases hg : g (lvs.map some ++ List.replicate (N.length - lvs.length) none) L with
  | ok fl ls L1 =>
    rw [hg] at post
    cases fl with
    | rt v => exact fun m1 H1 S1 F1 x rx => post m1 H1 S1 F1 x rx
    | nx => exact fun m1 H1 S1 F1 σ' _ => post m1 H1 S1 F1 .non rfl
    | bk => exact post.elim
    | ct => exact post.elim
  | err e ls L1 =>
    rw [hg] at post
    exact fun m1 H1 σ' C d S1 F1 _ ex => post m1 H1 C d S1 F1 ex
  | bad => rw [hg] at post; exact post.elim
theorem cal_of {x : Str} {st : Stmt} {f : Addr} {fd : FuncData} {N ps : List Str} {k n : Nat} {g : LS} (F : Fun K x x st f fd) (gx : mg x = some (.ref f)) (S : FnScope N ps (defScope st)) (hn : ps.length = n) (b : Binds K fd ps [])
    (hbody : ∀ (cdv : Value) (A : Around) (outer : List Env) (s : Shared) (H : Hp) (E : XK), Room k (A.deeper (envOfC x (defScope st) s.heap.objs.size f cdv)) →
      MB (cxOf (L2.CX P w) P w K mg base N x (defScope st) f cdv A outer s H E) (fun cls d _ H => E cls d H) (defBody st) g) : Cal P w K mg base (k + 1) x n (fnSem N.length g) := ⟨f, fd, ps, gx, F.kp, hn, b, fn_of F gx S hn b hbody⟩
theorem Cal.mono {j k n : Nat} {x : Str} {sem : Sem'} (c : Cal P w K mg base j x n sem) (h : j ≤ k) : Cal P w K mg base k x n sem := by
  obtain ⟨f, fd, ps, a, b, d, e, g⟩ := c.ex
  exact ⟨f, fd, ps, a, b, d, e, g.mono h⟩
end
def eFn (sem : Sem') (f : LF) : LE := fun ls L => (f ls L).bind fun vs L1 => sem vs L1
section
variable {X : Cx} {W : WX} {x : Str} {p pos : Pos} {e : Expr} {es : List Expr} {g : LF}
theorem me_call {j k n : Nat} {sem : Sem'} (c : Cal X.prog X.w X.K X.mg X.base k x n sem) (hr : Room j X.A) (hk : k ≤ j) (hg : Gl X x) (tk : Takes X W) (ha : MA X W (e :: es) g) (hn : (e :: es).length = n := by rfl) (hdb : (x == ("__debug__" : Str)) = false := by decide)
    (he : starEach (e :: es) X.env = (false, eval e X.env) :: starEach es X.env := by rfl) (hpl : (backTo pos (starEach es X.env)).any (·.1) = false := by rfl) : ME X W (.Call (.Name x p) (e :: es) [] pos) (eFn sem g) := by
  obtain ⟨f, fd, ps, hm, kp, hpn, hb, G⟩ := c.ex
  obtain ⟨hl, t, pa, ha⟩ := ha
  refine ⟨_, pe_callS G (hr.mono hk) hg hm kp hb (fun σ => passAt tk σ) pa hdb he hpl, fun m L H ls σ Q S rs q => ha m L H ls σ _ S rs ?_⟩
  unfold eFn at q
  cases hf : g ls L with
  | err e L1 => rw [hf] at q; exact q
  | bad => rw [hf] at q; exact q
  | ok vs L1 =>
    rw [hf] at q
    have len := hl _ _ _ _ hf
    intro m1 H1 S1 F1 xs rx
    refine ⟨by rw [rx.length, len, hn], m1, L1, vs, S1, rx, ?_⟩
    have q := Post.trans q F1
    dsimp only [Res.bind] at q
    cases hs : sem vs L1 with
    | ok v L2 => rw [hs] at q; exact q
    | err e L2 => rw [hs] at q; exact q
    | bad => rw [hs] at q; exact q
end

/-! ### a def's worth, said in another way -/
mutual
def blw (n : Nat) : LV → Bool
  | .tup xs => blws n xs
  | .ktp xs => blws n xs
  | .lst xs => blws n xs
  | .frz xs => blws n xs
  | .ref k => decide (k < n)
  | _ => true
def blws (n : Nat) : List LV → Bool
  | [] => true
  | v :: r => blw n v && blws n r
end
def blwD (n : Nat) : List (LV × LV) → Bool
  | [] => true
  | (_, v) :: r => blw n v && blwD n r
def blwF (n : Nat) : List (Str × LV) → Bool
  | [] => true
  | (_, v) :: r => blw n v && blwF n r
def blwO (n : Nat) : LO → Bool
  | .lst xs => blws n xs
  | .dic _ kvs => blwD n kvs
  | .ins _ fs => blwF n fs
  | .lkd _ kvs => blwD n kvs
/-- new lists of the program's heap, from number n on, as values -/
inductive Frz (n : Nat) (L : LH) : LV → LV → Prop where
  | same (v : LV) (h : blw n v = true) : Frz n L v v
  | lst (k : Nat) (xs : List LV) (hk : n ≤ k) (hl : L[k]? = some (.lst xs)) (h : blws n xs = true) : Frz n L (.ref k) (.lst xs)
def Mp.cut (m : Mp) (n : Nat) : Mp := ⟨m.ι.take n, fun b => m.M b ∧ (b ∈ m.ι.take n ∨ b ∉ m.ι), fun b h => ⟨m.sub b (List.mem_of_mem_take h), .inl h⟩⟩
section
variable {K : PySem.W.Frag} {mg : Str → Option Value} {m m2 : Mp} {H H2 : Hp} {L L2 : LH} {n : Nat}
mutual
theorem Rv.cut : ∀ (v : LV) (x : V), blw n v = true → Rv K mg m H v x → Rv K mg (m.cut n) H v x
  | .non, _, _, h => h
  | .bl _, _, _, h => h
  | .int _, _, _, h => h
  | .str _, _, _, h => h
  | .tup xs, _, b, ⟨a, vs, e, t, r⟩ => ⟨a, vs, e, ⟨t.1, fun z => t.2 z.1⟩, RvL.cut' xs vs b r⟩
  | .ktp xs, _, b, ⟨a, vs, e, t, r⟩ => ⟨a, vs, e, t, RvL.cut' xs vs b r⟩
  | .lst xs, _, b, ⟨a, vs, e, t, r⟩ => ⟨a, vs, e, ⟨t.1, fun z => t.2 z.1⟩, RvL.cut' xs vs b r⟩
  | .frz xs, _, b, ⟨a, vs, e, t, r⟩ => ⟨a, vs, e, t.elim (fun z => .inl ⟨z.1, fun y => z.2 y.1⟩) .inr, RvL.cut' xs vs b r⟩
  | .ref k, _, b, ⟨a, h, e⟩ => ⟨a, by
      have hk : k < n := by simpa [blw] using b
      show (m.ι.take n)[k]? = some a
      rw [List.getElem?_take_of_lt hk]; exact h, e⟩
  | .fn _, _, _, h => h
theorem RvL.cut' : ∀ (xs : List LV) (vs : List V), blws n xs = true → RvL K mg m H xs vs → RvL K mg (m.cut n) H xs vs
  | [], _, _, h => h
  | v :: r, _, b, ⟨x, t, e, h, hr⟩ => by
    simp only [blws, Bool.and_eq_true] at b
    exact ⟨x, t, e, Rv.cut v x b.1 h, RvL.cut' r t b.2 hr⟩
end
mutual
theorem Rv.blw : ∀ (v : LV) (x : V), Rv K mg m H v x → G.blw m.ι.length v = true
  | .non, _, h => rfl
  | .bl _, _, h => rfl
  | .int _, _, h => rfl
  | .str _, _, h => rfl
  | .tup xs, _, ⟨a, vs, e, t, r⟩ => by simp only [G.blw]; exact RvL.blws xs vs r
  | .ktp xs, _, ⟨a, vs, e, t, r⟩ => by simp only [G.blw]; exact RvL.blws xs vs r
  | .lst xs, _, ⟨a, vs, e, t, r⟩ => by simp only [G.blw]; exact RvL.blws xs vs r
  | .frz xs, _, ⟨a, vs, e, t, r⟩ => by simp only [G.blw]; exact RvL.blws xs vs r
  | .ref k, _, ⟨a, h, e⟩ => by simp only [G.blw, decide_eq_true_eq]; exact (List.getElem?_eq_some_iff.mp h).1
  | .fn _, _, h => rfl
theorem RvL.blws : ∀ (xs : List LV) (vs : List V), RvL K mg m H xs vs → G.blws m.ι.length xs = true
  | [], _, h => rfl
  | v :: r, _, ⟨x, t, e, h, hr⟩ => by simp only [G.blws, Bool.and_eq_true]; exact ⟨Rv.blw v x h, RvL.blws r t hr⟩
end
theorem RD.blwD {κ : Type} {key : LV → Option κ} : ∀ {kvs : List (LV × LV)} {ps : List (κ × V)}, RD K mg m H key kvs ps → G.blwD m.ι.length kvs = true
  | [], _, h => rfl
  | (k, v) :: r, _, ⟨c, x, t, e, hk, h, hr⟩ => by simp only [G.blwD, Bool.and_eq_true]; exact ⟨Rv.blw v x h, RD.blwD hr⟩
theorem RF.blwF : ∀ {fs : List (Str × LV)} {ps : List (Str × V)}, RF K mg m H fs ps → G.blwF m.ι.length fs = true
  | [], _, h => rfl
  | (k, v) :: r, _, ⟨x, t, e, h, hr⟩ => by simp only [G.blwF, Bool.and_eq_true]; exact ⟨Rv.blw v x h, RF.blwF hr⟩
theorem RO.blwO : ∀ {lo : LO} {a : Addr}, RO K mg m H lo a → G.blwO m.ι.length lo = true
  | .lst xs, _, ⟨vs, h, r⟩ => RvL.blws xs vs r
  | .dic false kvs, _, ⟨ps, h, r⟩ => RD.blwD r
  | .dic true kvs, _, ⟨ps, h, r⟩ => RD.blwD r
  | .ins c fs, _, ⟨C, dx, ps, hc, h, r⟩ => RF.blwF r
  | .lkd false kvs, _, ⟨o, ps, h, r⟩ => RD.blwD r
  | .lkd true kvs, _, ⟨o, ps, h, r⟩ => RD.blwD r
theorem RD.cut {κ : Type} {key : LV → Option κ} : ∀ {kvs : List (LV × LV)} {ps : List (κ × V)}, G.blwD n kvs = true → RD K mg m H key kvs ps → RD K mg (m.cut n) H key kvs ps
  | [], _, _, h => h
  | (k, v) :: r, _, b, ⟨c, x, t, e, hk, h, hr⟩ => by
    simp only [G.blwD, Bool.and_eq_true] at b
    exact ⟨c, x, t, e, hk, Rv.cut v x b.1 h, RD.cut b.2 hr⟩
theorem RF.cut : ∀ {fs : List (Str × LV)} {ps : List (Str × V)}, G.blwF n fs = true → RF K mg m H fs ps → RF K mg (m.cut n) H fs ps
  | [], _, _, h => h
  | (k, v) :: r, _, b, ⟨x, t, e, h, hr⟩ => by
    simp only [G.blwF, Bool.and_eq_true] at b
    exact ⟨x, t, e, Rv.cut v x b.1 h, RF.cut b.2 hr⟩
theorem RO.cut : ∀ {lo : LO} {a : Addr}, G.blwO n lo = true → RO K mg m H lo a → RO K mg (m.cut n) H lo a
  | .lst xs, _, b, ⟨vs, h, r⟩ => ⟨vs, h, RvL.cut' xs vs b r⟩
  | .dic false kvs, _, b, ⟨ps, h, r⟩ => ⟨ps, h, RD.cut b r⟩
  | .dic true kvs, _, b, ⟨ps, h, r⟩ => ⟨ps, h, RD.cut b r⟩
  | .ins c fs, _, b, ⟨C, dx, ps, hc, h, r⟩ => ⟨C, dx, ps, hc, h, RF.cut b r⟩
  | .lkd false kvs, _, b, ⟨o, ps, h, r⟩ => ⟨o, ps, h, RD.cut b r⟩
  | .lkd true kvs, _, b, ⟨o, ps, h, r⟩ => ⟨o, ps, h, RD.cut b r⟩
/-- what stands from number n on is let go -/
theorem cut_ok (S : Sim K mg m H L) (S2 : Sim K mg m2 H2 L2) (F : Fr m H m2 H2) (hn : L.length ≤ n) (hn2 : n ≤ L2.length) (cl : ∀ k lo, k < n → L2[k]? = some lo → L[k]? = some lo ∨ blwO n lo = true) :
    Sim K mg (m2.cut n) H2 (L2.take n) ∧ Fr m H (m2.cut n) H2 := by
  have hlen : m.ι.length ≤ n := by rw [S.len]; exact hn
  have pre : m.ι <+: m2.ι.take n := by
    obtain ⟨t, e⟩ := F.pre
    refine ⟨t.take (n - m.ι.length), ?_⟩
    rw [← e, List.take_append, List.take_of_length_le hlen]
  refine ⟨⟨?_, ?_, fun k lo a e e' => ?_, fun a ha => S2.live a ha.1⟩, pre, F.keep, fun b hb => F.newi b (List.mem_of_mem_take hb), fun b hb => F.newm b hb.1, fun b hb => ⟨F.mono b hb, ?_⟩, F.fz⟩
  · show (m2.ι.take n).length = (L2.take n).length
    rw [List.length_take, List.length_take, S2.len]
  · exact S2.nd.sublist (List.take_sublist _ _)
  · have hk : k < n := by
      have := (List.getElem?_eq_some_iff.mp e).1
      rw [List.length_take] at this
      omega
    rw [List.getElem?_take_of_lt hk] at e
    have e2 : (m2.ι.take n)[k]? = some a := e'
    rw [List.getElem?_take_of_lt hk] at e2
    have o := S2.ob k lo a e e2
    refine RO.cut ?_ o
    rcases cl k lo hk e with h | h
    · have hkl : k < L.length := (List.getElem?_eq_some_iff.mp h).1
      have hb : blwO m.ι.length lo = true := RO.blwO (S.ob k lo (m.ι[k]'(by rw [S.len]; exact hkl)) h (List.getElem?_eq_getElem (by rw [S.len]; exact hkl)))
      -- more is below a greater number
      have mono : ∀ lo : LO, blwO m.ι.length lo = true → blwO n lo = true := by
        have mv : (∀ v : LV, blw m.ι.length v = true → blw n v = true) ∧ (∀ vs : List LV, blws m.ι.length vs = true → blws n vs = true) := by
          refine ⟨fun v => ?_, fun vs => ?_⟩
          · exact LV.rec (motive_1 := fun v => blw m.ι.length v = true → blw n v = true) (motive_2 := fun vs => blws m.ι.length vs = true → blws n vs = true)
              (fun _ => rfl) (fun _ _ => rfl) (fun _ _ => rfl) (fun _ _ => rfl) (fun xs ih h => ih h) (fun xs ih h => ih h) (fun xs ih h => ih h) (fun xs ih h => ih h)
              (fun k h => by simp only [blw, decide_eq_true_eq] at h ⊢; omega) (fun _ _ => rfl) (fun _ => rfl)
              (fun v r ihv ihr h => by simp only [blws, Bool.and_eq_true] at h ⊢; exact ⟨ihv h.1, ihr h.2⟩) v
          · exact LV.rec_1 (motive_1 := fun v => blw m.ι.length v = true → blw n v = true) (motive_2 := fun vs => blws m.ι.length vs = true → blws n vs = true)
              (fun _ => rfl) (fun _ _ => rfl) (fun _ _ => rfl) (fun _ _ => rfl) (fun xs ih h => ih h) (fun xs ih h => ih h) (fun xs ih h => ih h) (fun xs ih h => ih h)
              (fun k h => by simp only [blw, decide_eq_true_eq] at h ⊢; omega) (fun _ _ => rfl) (fun _ => rfl)
              (fun v r ihv ihr h => by simp only [blws, Bool.and_eq_true] at h ⊢; exact ⟨ihv h.1, ihr h.2⟩) vs
        intro lo h
        cases lo with
        | lst xs => exact mv.2 xs h
        | dic t kvs =>
          simp only [blwO] at h ⊢
          induction kvs with
          | nil => rfl
          | cons p r ih => simp only [blwD, Bool.and_eq_true] at h ⊢; exact ⟨mv.1 _ h.1, ih h.2⟩
        | lkd t kvs =>
          simp only [blwO] at h ⊢
          induction kvs with
          | nil => rfl
          | cons p r ih => simp only [blwD, Bool.and_eq_true] at h ⊢; exact ⟨mv.1 _ h.1, ih h.2⟩
        | ins c fs =>
          simp only [blwO] at h ⊢
          induction fs with
          | nil => rfl
          | cons p r ih => simp only [blwF, Bool.and_eq_true] at h ⊢; exact ⟨mv.1 _ h.1, ih h.2⟩
      exact mono lo hb
    · exact h
  · by_cases hb2 : b ∈ m2.ι
    · rcases F.newi b hb2 with z | z
      · exact .inl (pre.subset z)
      · obtain ⟨o, e⟩ := S.live b hb
        rw [z] at e; cases e
    · exact .inr hb2
theorem Frz.at {v v' : LV} {x : V} (h : Frz n L2 v v') (S2 : Sim K mg m2 H2 L2) (r : Rv K mg m2 H2 v x) : Rv K mg (m2.cut n) H2 v' x := by
  cases h with
  | same _ hb => exact Rv.cut _ _ hb r
  | lst k xs hk hl hb =>
    obtain ⟨a, ha, e⟩ := r
    obtain ⟨vs, hv, rl⟩ := S2.ob k _ a hl ha
    refine ⟨a, vs, e, ⟨hv, fun z => ?_⟩, RvL.cut' _ _ hb rl⟩
    rcases z.2 with y | y
    · obtain ⟨j, hj, ej⟩ := List.mem_iff_getElem.mp y
      rw [List.length_take] at hj
      rw [List.getElem_take] at ej
      obtain ⟨h1, e1⟩ := List.getElem?_eq_some_iff.mp ha
      have : j = k := (List.getElem_inj S2.nd).mp (ej.trans e1.symm)
      omega
    · exact y (List.mem_of_getElem? ha)
end
/-- sem' says no more than sem -/
def Ref (sem sem' : Sem') : Prop := ∀ (lvs : List LV) (L : LH), match sem' lvs L with
  | .bad => True
  | .ok v' L' => ∃ v L2, sem lvs L = .ok v L2 ∧ L.length ≤ L'.length ∧ L' = L2.take L'.length ∧ Frz L'.length L2 v v' ∧ ∀ (k : Nat) (lo : LO), L'[k]? = some lo → L[k]? = some lo ∨ blwO L'.length lo = true
  | .err e L' => ∃ L2, sem lvs L = .err e L2 ∧ L.length ≤ L'.length ∧ L' = L2.take L'.length ∧ blwF L'.length e.fs = true ∧ ∀ (k : Nat) (lo : LO), L'[k]? = some lo → L[k]? = some lo ∨ blwO L'.length lo = true
theorem take_len {α : Type} {L' L2 : List α} (h : L' = L2.take L'.length) : L'.length ≤ L2.length := by
  have := congrArg List.length h
  rw [List.length_take] at this
  omega
theorem Cal.ref {P : Program} {w : World} {K : PySem.W.Frag} {mg : Str → Option Value} {base : Heap} {k n : Nat} {x : Str} {sem sem' : Sem'} (c : Cal P w K mg base k x n sem) (h : Ref sem sem') : Cal P w K mg base k x n sem' := by
  obtain ⟨f, fd, ps, a, b, d, e, g⟩ := c.ex
  refine ⟨f, fd, ps, a, b, d, e, g.imp fun vs H Q E ⟨hl, m, L, lvs, S, r, post⟩ => ⟨hl, m, L, lvs, S, r, ?_⟩⟩
  have hr := h lvs L
  cases hs : sem' lvs L with
  | bad => rw [hs] at post; exact post.elim
  | ok v' L' =>
    rw [hs] at hr post
    obtain ⟨v, L2, e1, h1, h2, h3, h4⟩ := hr
    rw [e1]
    intro m2 H2 S2 F2 y ry
    have hle := take_len h2
    obtain ⟨S3, F3⟩ := cut_ok S S2 F2 h1 hle fun k lo hk e => h4 k lo (by rw [h2, List.getElem?_take_of_lt hk]; exact e)
    rw [← h2] at S3
    exact post _ _ S3 F3 y (h3.at S2 ry)
  | err ex L' =>
    rw [hs] at hr post
    obtain ⟨L2, e1, h1, h2, h3, h4⟩ := hr
    rw [e1]
    intro m2 H2 C dd S2 F2 ea
    have hle := take_len h2
    obtain ⟨S3, F3⟩ := cut_ok S S2 F2 h1 hle fun k lo hk e => h4 k lo (by rw [h2, List.getElem?_take_of_lt hk]; exact e)
    rw [← h2] at S3
    obtain ⟨q1, q2, ps, q3, q4⟩ := ea
    exact post _ _ C dd S3 F3 ⟨q1, fun z => q2 (List.mem_of_mem_take z), ps, q3, RF.cut h3 q4⟩
/-- a law's promise: it answers True -/
def spLaw (K : PySem.W.Frag) : Sp := fun vs H Q _ => ∃ (a : Addr) (ns : List Int), vs = [.ref a] ∧ SqL K H a (ns.map V.int) ∧ ns.length ≤ 63 ∧ ∀ H', Q (.bl true) H'
theorem rvl_ints {K : PySem.W.Frag} {mg : Str → Option Value} {m : Mp} {H : Hp} : ∀ ns : List Int, RvL K mg m H (ns.map LV.int) (ns.map V.int)
  | [] => rfl
  | n :: r => ⟨_, _, rfl, rfl, rvl_ints r⟩
theorem law_end {P : Program} {w : World} {K : PySem.W.Frag} {mg : Str → Option Value} {base : Heap} {CX : CXT} {k : Nat} {f : Addr} {fd : FuncData} {ps : List Str} {sem : Sem'} (F : FnOk P w K mg base CX k f fd ps (spG K mg 1 sem))
    (h : ∀ ns : List Int, ns.length ≤ 63 → ∃ L, sem [.frz (ns.map LV.int)] [] = .ok (.bl true) L) : FnOk P w K mg base CX k f fd ps (spLaw K) :=
  F.imp fun vs H Q E ⟨a, ns, e, hs, hl, q⟩ => by
    subst e
    obtain ⟨L, hL⟩ := h ns hl
    refine ⟨rfl, ⟨[], fun _ => False, fun _ h => by cases h⟩, [], [.frz (ns.map LV.int)], ⟨rfl, List.nodup_nil, fun n lo a h => by simp at h, fun a h => h.elim⟩, ⟨_, _, rfl, ⟨a, ns.map V.int, rfl, ?_, rvl_ints ns⟩, rfl⟩, ?_⟩
    · rcases hs with h | h
      · exact .inl ⟨h, fun z => z⟩
      · exact .inr (.inr h)
    · rw [hL]
      intro m' H' S' F' x rx
      cases rx
      exact q H'
end G

namespace G
open PySem PySem.Spec PyProof.Rows L2
/-! ### methods of lists and texts -/
def tyL (L : LH) (T : String) (o : LV) : Bool := match o with
  | .str _ => T == "str"
  | .int _ => T == "int"
  | o => T == "list" && (lsqOf L o).isSome
def eMeth (T : String) (p : LH → LV → List LV → Option (LV × LH)) (fo : LE) (fa : LF) : LE := fun ls L => (fo ls L).bind fun o L1 => if tyL L1 T o = true then (fa ls L1).bind fun vs L2 => match p L2 o vs with
  | some (v, L3) => .ok v L3
  | none => .bad else .bad
def fMeth (T : String) (p : LH → LV → List LV → Option (List LV)) (fo : LE) (fa : LF) : LF := fun ls L => (fo ls L).bind fun o L1 => if tyL L1 T o = true then (fa ls L1).bind fun vs L2 => lift (p L2 o vs) L2 else .bad
def PM (X : Cx) (r : V → List V → Hp → VK → Prop) (p : LH → LV → List LV → Option (LV × LH)) : Prop := ∀ m L H v vs x xs z L' Q, Sim X.K X.mg m H L → Rv X.K X.mg m H v x → RvL X.K X.mg m H vs xs → p L v vs = some (z, L') →
  (∀ m' H' u, Sim X.K X.mg m' H' L' → Fr m H m' H' → Rv X.K X.mg m' H' z u → Q u H') → r x xs H Q
def PMF (X : Cx) (r : V → List V → Hp → VK → Prop) (p : LH → LV → List LV → Option (List LV)) : Prop := ∀ m L H v vs x xs z Q, Sim X.K X.mg m H L → Rv X.K X.mg m H v x → RvL X.K X.mg m H vs xs → p L v vs = some z → FineL X m H L z Q → r x xs H Q
section
variable {X : Cx} {W : WX} {o e : Expr} {es : List Expr} {name : Str} {apos cpos : Pos} {T id : String} {r : V → List V → Hp → VK → Prop} {fo : LE} {fa : LF}
theorem tyL_at {m : Mp} {L : LH} {H : Hp} {v : LV} {x : V} (S : Sim X.K X.mg m H L) (rx : Rv X.K X.mg m H v x) (h : tyL L T v = true) : tyV X.K T x H := by
  have lst : ∀ v : LV, Rv X.K X.mg m H v x → (T == "list" && (lsqOf L v).isSome) = true → tyV X.K T x H := by
    intro v rx h
    rw [Bool.and_eq_true] at h
    obtain ⟨xs, hx⟩ := Option.isSome_iff_exists.mp h.2
    obtain ⟨a, vs, rfl, hs, _⟩ := lsqOf_at S rx hx
    exact .inl ⟨eq_of_beq h.1, vs, hs⟩
  cases v with
  | str s => cases rx; exact eq_of_beq h
  | int s => cases rx; exact eq_of_beq h
  | _ => exact lst _ rx h
theorem me_meth {p : LH → LV → List LV → Option (LV × LH)} (pa : PlainAttrs T) (slot : Slot T name id) (hty : typeOf (.builtin id) = pure (.type "method_descriptor")) (hm : MtR X id r) (hp : PM X r p) (ho : ME X W o fo) (ha : MA X W (e :: es) fa)
    (hbase : attributeBase o name X.env (eval o X.env) = eval o X.env := by rfl)
    (hfew : ((backTo cpos (starEach (e :: es) X.env)).all (fun x => !x.1) && (backToKw cpos (keywordEach [] X.env)).all (fun x => x.1.isSome)
      && decide ((e :: es).length + ([] : List Keyword).length + (if ([] : List Keyword).isEmpty then 0 else 1) < 30)) = true := by rfl)
    (hline : (apos.endLine == cpos.line) = true := by rfl) (hs : starEach (e :: es) X.env = (false, eval e X.env) :: starEach es X.env := by rfl) (hplain : (backTo cpos (starEach es X.env)).any (·.1) = false := by rfl) :
    ME X W (.Call (.Attribute o name apos) (e :: es) [] cpos) (eMeth T p fo fa) := by
  obtain ⟨to, po, ho⟩ := ho
  obtain ⟨_, ta, pA, ha⟩ := ha
  refine ⟨_, pe_bm pa slot hty hm po pA hbase hfew hline hs hplain, fun m L H ls σ Q S rs q => ho m L H ls σ _ S rs (Post.bind q fun v L1 m1 H1 S1 F1 h1 x rx => ?_)⟩
  split at h1
  · rename_i ht
    refine ⟨tyL_at S1 rx ht, ha m1 L1 H1 ls σ _ S1 (rs.mono F1) (Post.bind h1 fun vs L2 m2 H2 S2 F2 h2 xs rxs => ?_)⟩
    cases hp2 : p L2 v vs with
    | none => rw [hp2] at h2; exact h2.elim
    | some zl =>
      obtain ⟨z, L3⟩ := zl
      rw [hp2] at h2
      exact hp _ _ _ _ _ _ _ _ _ _ S2 (Rv.mono F2 _ _ rx) rxs hp2 fun m' H' u S' F' ru => h2 m' H' S' F' u ru
  · exact h1.elim
theorem me_meth0 {p : LH → LV → List LV → Option (LV × LH)} (pa : PlainAttrs T) (slot : Slot T name id) (hty : typeOf (.builtin id) = pure (.type "method_descriptor")) (hm : MtR X id r) (hp : PM X r p) (ho : ME X W o fo)
    (hbase : attributeBase o name X.env (eval o X.env) = eval o X.env := by rfl) (hline : (apos.endLine == cpos.line) = true := by rfl) : ME X W (.Call (.Attribute o name apos) [] [] cpos) (eMeth T p fo aNil) := by
  obtain ⟨to, po, ho⟩ := ho
  refine ⟨_, pe_bm0 pa slot hty hm po hbase hline, fun m L H ls σ Q S rs q => ho m L H ls σ _ S rs (Post.bind q fun v L1 m1 H1 S1 F1 h1 x rx => ?_)⟩
  split at h1
  · rename_i ht
    refine ⟨tyL_at S1 rx ht, ?_⟩
    dsimp only [aNil, Res.bind] at h1
    cases hp2 : p L1 v [] with
    | none => rw [hp2] at h1; exact h1.elim
    | some zl =>
      obtain ⟨z, L3⟩ := zl
      rw [hp2] at h1
      exact hp m1 L1 H1 v [] x [] z L3 _ S1 rx (show RvL X.K X.mg m1 H1 [] [] from rfl) hp2 fun m' H' u S' F' ru => h1 m' H' S' F' u ru
  · exact h1.elim
theorem mf_meth {p : LH → LV → List LV → Option (List LV)} (pa : PlainAttrs T) (slot : Slot T name id) (hty : typeOf (.builtin id) = pure (.type "method_descriptor")) (hm : MtR X id r) (hp : PMF X r p) (ho : ME X W o fo) (ha : MA X W (e :: es) fa)
    (hbase : attributeBase o name X.env (eval o X.env) = eval o X.env := by rfl)
    (hfew : ((backTo cpos (starEach (e :: es) X.env)).all (fun x => !x.1) && (backToKw cpos (keywordEach [] X.env)).all (fun x => x.1.isSome)
      && decide ((e :: es).length + ([] : List Keyword).length + (if ([] : List Keyword).isEmpty then 0 else 1) < 30)) = true := by rfl)
    (hline : (apos.endLine == cpos.line) = true := by rfl) (hs : starEach (e :: es) X.env = (false, eval e X.env) :: starEach es X.env := by rfl) (hplain : (backTo cpos (starEach es X.env)).any (·.1) = false := by rfl) :
    MF X W (.Call (.Attribute o name apos) (e :: es) [] cpos) (fMeth T p fo fa) := by
  obtain ⟨to, po, ho⟩ := ho
  obtain ⟨_, ta, pA, ha⟩ := ha
  refine ⟨_, pe_bm pa slot hty hm po pA hbase hfew hline hs hplain, fun m L H ls σ Q S rs q => ho m L H ls σ _ S rs (Post.bind q fun v L1 m1 H1 S1 F1 h1 x rx => ?_)⟩
  split at h1
  · rename_i ht
    refine ⟨tyL_at S1 rx ht, ha m1 L1 H1 ls σ _ S1 (rs.mono F1) (Post.bind h1 fun vs L2 m2 H2 S2 F2 h2 xs rxs => ?_)⟩
    obtain ⟨z, ez, fz⟩ := fpost_lift (fpost_move h2 S2 (F1.trans F2))
    exact hp _ _ _ _ _ _ _ _ _ S2 (Rv.mono F2 _ _ rx) rxs ez fz
  · exact h1.elim
end

/-! ### append, extend, pop -/
def pAppend (L : LH) (o : LV) : List LV → Option (LV × LH)
  | [v] => match o with
    | .ref n => match L[n]? with
      | some (.lst xs) => guard (decide (xs.length < sizeLine)) (some (.non, L.set n (.lst (xs ++ [v]))))
      | _ => none
    | _ => none
  | _ => none
def pExtend (L : LH) (o : LV) : List LV → Option (LV × LH)
  | [v] => match o with
    | .ref n => match L[n]? with
      | some (.lst xs) => match lstOf L v with
        | some ys => guard (decide (xs.length + ys.length ≤ sizeLine)) (some (.non, L.set n (.lst (xs ++ ys))))
        | none => none
      | _ => none
    | _ => none
  | _ => none
def pPop (L : LH) (o : LV) : List LV → Option (LV × LH)
  | [] => match o with
    | .ref n => match L[n]? with
      | some (.lst xs) => match xs[xs.length - 1]? with
        | some y => some (y, L.set n (.lst xs.dropLast))
        | none => none
      | _ => none
    | _ => none
  | _ => none
def pPopAt (L : LH) (o : LV) : List LV → Option (LV × LH)
  | [.int i] => match o with
    | .ref n => match L[n]? with
      | some (.lst xs) => if -(2 ^ 63) ≤ i ∧ i < 2 ^ 63 then match seqIndex? i xs.length with
        | some k => match xs[k]? with
          | some y => some (y, L.set n (.lst (xs.eraseIdx k)))
          | none => none
        | none => none else none
      | _ => none
    | _ => none
  | _ => none
section
variable {X : Cx}
theorem ref_obj {m : Mp} {L : LH} {H : Hp} {n : Nat} {x : V} {xs : List LV} (S : Sim X.K X.mg m H L) (r : Rv X.K X.mg m H (.ref n) x) (h : L[n]? = some (.lst xs)) : ∃ a vs, m.ι[n]? = some a ∧ x = .ref a ∧ H a = some (.lst vs) ∧ RvL X.K X.mg m H xs vs := by
  obtain ⟨a, ha, e⟩ := r
  obtain ⟨vs, h1, h2⟩ := S.ob n _ a h ha
  exact ⟨a, vs, ha, e, h1, h2⟩
theorem p_append : PM X rAppend pAppend := by
  intro m L H v vs x xs z L' Q S rx rxs h f
  rcases vs with _ | ⟨w, _ | ⟨w2, tl⟩⟩
  · cases h
  · cases v with
    | ref n =>
      simp only [pAppend] at h
      split at h
      · rename_i ys hl
        obtain ⟨h1, h2⟩ := guard_dec h
        cases h2
        obtain ⟨a, us, ha, rfl, hv, q⟩ := ref_obj S rx hl
        obtain ⟨y, rfl, ry⟩ := rxs.inv1
        have F : Fr m H m (upd H a (.lst (us ++ [y]))) := Fr.put (List.mem_of_getElem? ha) hv
        exact ⟨a, us, y, rfl, rfl, hv, by rw [q.length]; exact h1, f m _ .non (S.put ha ⟨_, upd_same, RvL.mono F _ _ (q.append (.one ry))⟩) F rfl⟩
      · cases h
    | _ => cases h
  · cases h
theorem p_extend : PM X rExtend pExtend := by
  intro m L H v vs x xs z L' Q S rx rxs h f
  rcases vs with _ | ⟨w, _ | ⟨w2, tl⟩⟩
  · cases h
  · cases v with
    | ref n =>
      simp only [pExtend] at h
      split at h
      · rename_i ys hl
        split at h
        · rename_i zs hz
          obtain ⟨h1, h2⟩ := guard_dec h
          cases h2
          obtain ⟨a, us, ha, rfl, hv, q⟩ := ref_obj S rx hl
          obtain ⟨y, rfl, ry⟩ := rxs.inv1
          obtain ⟨b, ws, rfl, hb, rb⟩ := lstOf_at S ry hz
          have F : Fr m H m (upd H a (.lst (us ++ ws))) := Fr.put (List.mem_of_getElem? ha) hv
          exact ⟨a, b, us, ws, rfl, rfl, hv, hb, by rw [q.length, rb.length]; exact h1, f m _ .non (S.put ha ⟨_, upd_same, RvL.mono F _ _ (q.append rb)⟩) F rfl⟩
        · cases h
      · cases h
    | _ => cases h
  · cases h
theorem p_pop : PM X rPop pPop := by
  intro m L H v vs x xs z L' Q S rx rxs h f
  rcases vs with _ | ⟨w, tl⟩
  · cases v with
    | ref n =>
      simp only [pPop] at h
      split at h
      · rename_i ys hl
        split at h
        · rename_i y hy
          cases h
          obtain ⟨a, us, ha, rfl, hv, q⟩ := ref_obj S rx hl
          cases rxs
          obtain ⟨u, hu, ru⟩ := q.get hy
          have F : Fr m H m (upd H a (.lst us.dropLast)) := Fr.put (List.mem_of_getElem? ha) hv
          exact ⟨a, us, u, rfl, rfl, hv, by rw [q.length]; exact hu, f m _ u (S.put ha ⟨_, upd_same, RvL.mono F _ _ q.dropLast⟩) F (Rv.mono F _ _ ru)⟩
        · cases h
      · cases h
    | _ => cases h
  · cases h
theorem p_popAt : PM X rPopAt pPopAt := by
  intro m L H v vs x xs z L' Q S rx rxs h f
  rcases vs with _ | ⟨w, _ | ⟨w2, tl⟩⟩
  · cases h
  · cases w with
    | int i =>
      cases v with
      | ref n =>
        simp only [pPopAt] at h
        split at h
        · rename_i ys hl
          split at h
          · rename_i hb
            split at h
            · rename_i k hk
              split at h
              · rename_i y hy
                cases h
                obtain ⟨a, us, ha, rfl, hv, q⟩ := ref_obj S rx hl
                obtain ⟨y', rfl, ry⟩ := rxs.inv1
                cases ry
                obtain ⟨u, hu, ru⟩ := q.get hy
                have F : Fr m H m (upd H a (.lst (us.eraseIdx k))) := Fr.put (List.mem_of_getElem? ha) hv
                exact ⟨a, us, i, k, u, rfl, rfl, hv, hb.1, hb.2, by rw [q.length]; exact hk, hu, f m _ u (S.put ha ⟨_, upd_same, RvL.mono F _ _ (q.eraseIdx k)⟩) F (Rv.mono F _ _ ru)⟩
              · cases h
            · cases h
          · cases h
        · cases h
      | _ => cases h
    | _ => cases h
  · cases w <;> cases h
end
section
variable {X : Cx} {W : WX} {o e : Expr} {apos cpos : Pos} {fo : LE} {fa : LF}
abbrev HFew (X : Cx) (e : Expr) (cpos : Pos) : Prop := ((backTo cpos (starEach [e] X.env)).all (fun x => !x.1) && (backToKw cpos (keywordEach [] X.env)).all (fun x => x.1.isSome)
      && decide ([e].length + ([] : List Keyword).length + (if ([] : List Keyword).isEmpty then 0 else 1) < 30)) = true
theorem me_append (ho : ME X W o fo) (ha : MA X W [e] fa) (hbase : attributeBase o "append" X.env (eval o X.env) = eval o X.env := by rfl) (hfew : HFew X e cpos := by rfl) (hline : (apos.endLine == cpos.line) = true := by rfl)
    (hs : starEach [e] X.env = (false, eval e X.env) :: starEach [] X.env := by rfl) : ME X W (.Call (.Attribute o "append" apos) [e] [] cpos) (eMeth "list" pAppend fo fa) :=
  me_meth PySem.F.plainAttrs_list PySem.F.slot_list_append PySem.F.type_list_append mt_append p_append ho ha hbase hfew hline hs rfl
theorem me_extend (ho : ME X W o fo) (ha : MA X W [e] fa) (hbase : attributeBase o "extend" X.env (eval o X.env) = eval o X.env := by rfl) (hfew : HFew X e cpos := by rfl) (hline : (apos.endLine == cpos.line) = true := by rfl)
    (hs : starEach [e] X.env = (false, eval e X.env) :: starEach [] X.env := by rfl) : ME X W (.Call (.Attribute o "extend" apos) [e] [] cpos) (eMeth "list" pExtend fo fa) :=
  me_meth PySem.F.plainAttrs_list PySem.F.slot_list_extend PySem.F.type_list_extend mt_extend p_extend ho ha hbase hfew hline hs rfl
theorem me_popAt (ho : ME X W o fo) (ha : MA X W [e] fa) (hbase : attributeBase o "pop" X.env (eval o X.env) = eval o X.env := by rfl) (hfew : HFew X e cpos := by rfl) (hline : (apos.endLine == cpos.line) = true := by rfl)
    (hs : starEach [e] X.env = (false, eval e X.env) :: starEach [] X.env := by rfl) : ME X W (.Call (.Attribute o "pop" apos) [e] [] cpos) (eMeth "list" pPopAt fo fa) :=
  me_meth PySem.F.plainAttrs_list PySem.F.slot_list_pop PySem.F.type_list_pop mt_popAt p_popAt ho ha hbase hfew hline hs rfl
theorem me_pop (ho : ME X W o fo) (hbase : attributeBase o "pop" X.env (eval o X.env) = eval o X.env := by rfl) (hline : (apos.endLine == cpos.line) = true := by rfl) : ME X W (.Call (.Attribute o "pop" apos) [] [] cpos) (eMeth "list" pPop fo aNil) :=
  me_meth0 PySem.F.plainAttrs_list PySem.F.slot_list_pop PySem.F.type_list_pop mt_pop p_pop ho hbase hline
end

/-! ### texts -/
def strsL (ys : List Str) : List LV := ys.map .str
def strsOf : List LV → Option (List Str)
  | [] => some []
  | .str s :: r => (strsOf r).map (s :: ·)
  | _ :: _ => none
theorem RvL.strs {K : PySem.W.Frag} {mg : Str → Option Value} {m : Mp} {H : Hp} : ∀ ys : List Str, RvL K mg m H (strsL ys) (ys.map V.str)
  | [] => rfl
  | y :: r => ⟨.str y, _, rfl, rfl, RvL.strs r⟩
theorem strsOf_at {K : PySem.W.Frag} {mg : Str → Option Value} {m : Mp} {H : Hp} : ∀ {xs : List LV} {vs : List V} {ns : List Str}, strsOf xs = some ns → RvL K mg m H xs vs → vs = ns.map V.str
  | [], _, _, h, r => by cases h; cases r; rfl
  | .str i :: r, _, ns, h, ⟨x, t, e, h1, h2⟩ => by
    obtain ⟨ms, h3, rfl⟩ := Option.map_eq_some_iff.mp h
    subst e
    rw [List.map_cons, ← strsOf_at h3 h2]
    rw [show x = V.str i from h1]
def pSplit (_ : LH) (o : LV) : List LV → Option (List LV)
  | [.str b] => match o with
    | .str a => guard (decide ((b.length == 0) = false ∧ a.length + 2 ≤ sizeLine)) (some (strsL (Txt.split a b)))
    | _ => none
  | _ => none
def pPartition (L : LH) (o : LV) : List LV → Option (LV × LH)
  | [.str b] => match o with
    | .str a => guard (decide ((b.length == 0) = false ∧ a.length ≤ sizeLine)) (some (.tup [.str (Txt.partition a b).1, .str (Txt.partition a b).2.1, .str (Txt.partition a b).2.2], L))
    | _ => none
  | _ => none
def pJoin (L : LH) (o : LV) : List LV → Option (LV × LH)
  | [v] => match o with
    | .str a => match (seqOf L v).bind strsOf with
      | some ys => guard (decide ((ys.map (·.length)).sum + ys.length * a.length ≤ 16777216)) (some (.str (Txt.join a ys), L))
      | none => none
    | _ => none
  | _ => none
def pTxt0 (C : Str → Bool) (g : Str → LV) (L : LH) (o : LV) : List LV → Option (LV × LH)
  | [] => match o with
    | .str a => guard (C a) (some (g a, L))
    | _ => none
  | _ => none
section
variable {X : Cx}
theorem p_split : PMF X (fun x xs H Q => ∃ a b, x = .str a ∧ xs = [.str b] ∧ (b.length == 0) = false ∧ a.length + 2 ≤ sizeLine ∧ rNewStrs (Txt.split a b) H Q) pSplit := by
  intro m L H v vs x xs z Q S rx rxs h f
  rcases vs with _ | ⟨w, _ | ⟨w2, tl⟩⟩
  · cases h
  · cases w with
    | str b =>
      cases v with
      | str a =>
        obtain ⟨h1, h2⟩ := guard_dec h
        cases h2; cases rx
        obtain ⟨y, rfl, ry⟩ := rxs.inv1
        cases ry
        exact ⟨a, b, rfl, rfl, h1.1, h1.2, fun p hp => f.lst S (RvL.strs _) hp⟩
      | _ => cases h
    | _ => cases h
  · cases w <;> cases h
theorem p_partition : PM X (fun x xs H Q => ∃ a b, x = .str a ∧ xs = [.str b] ∧ (b.length == 0) = false ∧ a.length ≤ sizeLine ∧
    ∀ p, H p = none → Q (.ref p) (upd H p (.tup [.str (Txt.partition a b).1, .str (Txt.partition a b).2.1, .str (Txt.partition a b).2.2]))) pPartition := by
  intro m L H v vs x xs z L' Q S rx rxs h f
  rcases vs with _ | ⟨w, _ | ⟨w2, tl⟩⟩
  · cases h
  · cases w with
    | str b =>
      cases v with
      | str a =>
        obtain ⟨h1, h2⟩ := guard_dec h
        cases h2; cases rx
        obtain ⟨y, rfl, ry⟩ := rxs.inv1
        cases ry
        exact ⟨a, b, rfl, rfl, h1.1, h1.2, fun p hp => f m _ _ (S.upd hp) (Fr.upd hp) ⟨p, _, rfl, ⟨upd_same, S.out hp⟩, _, _, rfl, rfl, _, _, rfl, rfl, _, _, rfl, rfl, rfl⟩⟩
      | _ => cases h
    | _ => cases h
  · cases w <;> cases h
theorem p_join : PM X (fun x xs H Q => ∃ a p, ∃ ys : List Str, x = .str a ∧ xs = [.ref p] ∧ (SqL X.K H p (ys.map V.str) ∨ SqT X.K H p (ys.map V.str)) ∧
    (ys.map (·.length)).sum + ys.length * a.length ≤ 16777216 ∧ Q (.str (Txt.join a ys)) H) pJoin := by
  intro m L H v vs x xs z L' Q S rx rxs h f
  rcases vs with _ | ⟨w, _ | ⟨w2, tl⟩⟩
  · cases h
  · cases v with
    | str a =>
      simp only [pJoin] at h
      split at h
      · rename_i ys hy
        obtain ⟨h1, h2⟩ := guard_dec h
        cases h2; cases rx
        obtain ⟨y, rfl, ry⟩ := rxs.inv1
        obtain ⟨zs, h3, h4⟩ := Option.bind_eq_some_iff.mp hy
        obtain ⟨p, us, rfl, hs, q⟩ := seqOf_at S ry h3
        obtain rfl := strsOf_at h4 q
        exact ⟨a, p, ys, rfl, rfl, hs, h1, f m H _ S .refl rfl⟩
      · cases h
    | _ => cases h
  · cases v <;> cases h
theorem p_txt0 {C : Str → Prop} {Cb : Str → Bool} {g : Str → V} {gl : Str → LV} (hc : ∀ a, Cb a = true → C a) (hg : ∀ (m : Mp) (H : Hp) a, Rv X.K X.mg m H (gl a) (g a)) : PM X (fun x xs H Q => ∃ a, x = .str a ∧ xs = [] ∧ C a ∧ Q (g a) H) (pTxt0 Cb gl) := by
  intro m L H v vs x xs z L' Q S rx rxs h f
  rcases vs with _ | ⟨w, tl⟩
  · cases v with
    | str a =>
      obtain ⟨h1, h2⟩ := guard_some h
      cases h2; cases rx; cases rxs
      exact ⟨a, rfl, rfl, hc a h1, f m H _ S .refl (hg m H a)⟩
    | _ => cases h
  · cases h
end
def smallT (n : Nat) (a : Str) : Bool := decide (a.length ≤ n)
section
variable {X : Cx} {W : WX} {o e : Expr} {apos cpos : Pos} {fo : LE} {fa : LF}
theorem mf_split (ho : ME X W o fo) (ha : MA X W [e] fa) (hbase : attributeBase o "split" X.env (eval o X.env) = eval o X.env := by rfl) (hfew : HFew X e cpos := by rfl) (hline : (apos.endLine == cpos.line) = true := by rfl)
    (hs : starEach [e] X.env = (false, eval e X.env) :: starEach [] X.env := by rfl) : MF X W (.Call (.Attribute o "split" apos) [e] [] cpos) (fMeth "str" pSplit fo fa) :=
  mf_meth PySem.F.plainAttrs_str PySem.F.slot_str_split PySem.F.type_str_split mt_split p_split ho ha hbase hfew hline hs rfl
theorem me_partition (ho : ME X W o fo) (ha : MA X W [e] fa) (hbase : attributeBase o "partition" X.env (eval o X.env) = eval o X.env := by rfl) (hfew : HFew X e cpos := by rfl) (hline : (apos.endLine == cpos.line) = true := by rfl)
    (hs : starEach [e] X.env = (false, eval e X.env) :: starEach [] X.env := by rfl) : ME X W (.Call (.Attribute o "partition" apos) [e] [] cpos) (eMeth "str" pPartition fo fa) :=
  me_meth PySem.F.plainAttrs_str PySem.F.slot_str_partition PySem.F.type_str_partition mt_partition p_partition ho ha hbase hfew hline hs rfl
theorem me_join (ho : ME X W o fo) (ha : MA X W [e] fa) (hbase : attributeBase o "join" X.env (eval o X.env) = eval o X.env := by rfl) (hfew : HFew X e cpos := by rfl) (hline : (apos.endLine == cpos.line) = true := by rfl)
    (hs : starEach [e] X.env = (false, eval e X.env) :: starEach [] X.env := by rfl) : ME X W (.Call (.Attribute o "join" apos) [e] [] cpos) (eMeth "str" pJoin fo fa) :=
  me_meth PySem.F.plainAttrs_str PySem.F.slot_str_join PySem.F.type_str_join mt_join p_join ho ha hbase hfew hline hs rfl
theorem me_upper (ho : ME X W o fo) (hbase : attributeBase o "upper" X.env (eval o X.env) = eval o X.env := by rfl) (hline : (apos.endLine == cpos.line) = true := by rfl) : ME X W (.Call (.Attribute o "upper" apos) [] [] cpos) (eMeth "str" (pTxt0 (smallT 5592405) fun a => .str (Txt.upper a)) fo aNil) :=
  me_meth0 PySem.F.plainAttrs_str PySem.F.slot_str_upper PySem.F.type_str_upper mt_upper (p_txt0 (fun a h => of_decide_eq_true h) fun _ _ _ => rfl) ho hbase hline
end
end G

namespace G
open PySem PySem.Spec PyProof.Rows L2
/-! ### texts with one text -/
def pTxt1 (C : Str → Bool) (g : Str → Str → LV) (L : LH) (o : LV) : List LV → Option (LV × LH)
  | [.str b] => match o with
    | .str a => guard (C a) (some (g a b, L))
    | _ => none
  | _ => none
section
variable {X : Cx}
theorem p_txt1 {C : Str → Prop} {Cb : Str → Bool} {g : Str → Str → V} {gl : Str → Str → LV} (hc : ∀ a, Cb a = true → C a) (hg : ∀ (m : Mp) (H : Hp) a b, Rv X.K X.mg m H (gl a b) (g a b)) : PM X (fun x xs H Q => ∃ a b, x = .str a ∧ xs = [.str b] ∧ C a ∧ Q (g a b) H) (pTxt1 Cb gl) := by
  intro m L H v vs x xs z L' Q S rx rxs h f
  rcases vs with _ | ⟨w, _ | ⟨w2, tl⟩⟩
  · cases h
  · cases w with
    | str b =>
      cases v with
      | str a =>
        obtain ⟨h1, h2⟩ := guard_some h
        cases h2; cases rx
        obtain ⟨y, rfl, ry⟩ := rxs.inv1
        cases ry
        exact ⟨a, b, rfl, rfl, hc a h1, f m H _ S .refl (hg m H a b)⟩
      | _ => cases h
    | _ => cases h
  · cases w <;> cases h
end
section
variable {X : Cx} {W : WX} {o e : Expr} {apos cpos : Pos} {fo : LE} {fa : LF}
theorem me_strip1 (ho : ME X W o fo) (ha : MA X W [e] fa) (hbase : attributeBase o "strip" X.env (eval o X.env) = eval o X.env := by rfl) (hfew : HFew X e cpos := by rfl) (hline : (apos.endLine == cpos.line) = true := by rfl)
    (hs : starEach [e] X.env = (false, eval e X.env) :: starEach [] X.env := by rfl) : ME X W (.Call (.Attribute o "strip" apos) [e] [] cpos) (eMeth "str" (pTxt1 (smallT sizeLine) fun a b => .str (Txt.stripChars a b)) fo fa) :=
  me_meth PySem.F.plainAttrs_str PySem.F.slot_str_strip PySem.F.type_str_strip mt_stripChars (p_txt1 (fun a h => of_decide_eq_true h) fun _ _ _ _ => rfl) ho ha hbase hfew hline hs rfl
theorem me_lstrip1 (ho : ME X W o fo) (ha : MA X W [e] fa) (hbase : attributeBase o "lstrip" X.env (eval o X.env) = eval o X.env := by rfl) (hfew : HFew X e cpos := by rfl) (hline : (apos.endLine == cpos.line) = true := by rfl)
    (hs : starEach [e] X.env = (false, eval e X.env) :: starEach [] X.env := by rfl) : ME X W (.Call (.Attribute o "lstrip" apos) [e] [] cpos) (eMeth "str" (pTxt1 (smallT sizeLine) fun a b => .str (Txt.lstripChars a b)) fo fa) :=
  me_meth PySem.F.plainAttrs_str PySem.F.slot_str_lstrip PySem.F.type_str_lstrip mt_lstripChars (p_txt1 (fun a h => of_decide_eq_true h) fun _ _ _ _ => rfl) ho ha hbase hfew hline hs rfl
end

/-! ### list(range(..)), tuple(range(..)) -/
def pRg : List LV → Option (Int × Int)
  | [.int j] => guard (smallI j && decide (j.toNat ≤ 2 ^ 24)) (some (0, j))
  | [.int i, .int j] => guard (smallI i && smallI j && decide ((j - i).toNat ≤ 2 ^ 24)) (some (i, j))
  | _ => none
def fRange (f : LF) : LF := fun ls L => (f ls L).bind fun vs L1 => lift ((pRg vs).map fun p => rangeL p.1 (p.2 - p.1).toNat) L1
def MRg (X : Cx) (W : WX) (e : Expr) (f : LSt → LH → Res (Int × Int)) : Prop := ∃ t, PRg X e t ∧ ∀ m L H ls σ (Q : Int → Int → Hp → Prop), Sim X.K X.mg m H L → RS X.K X.mg m H ls σ → Post X W σ m H (fun p _ _ H' => Q p.1 p.2 H') (f ls L) → t σ H Q
def rg (f : LF) : LSt → LH → Res (Int × Int) := fun ls L => (f ls L).bind fun vs L1 => lift (pRg vs) L1
def fRg (f : LSt → LH → Res (Int × Int)) : LF := fun ls L => (f ls L).bind fun p L1 => .ok (rangeL p.1 (p.2 - p.1).toNat) L1
def RgOkB (p : Int × Int) : Prop := RgOk p.1 p.2
section
variable {X : Cx} {W : WX} {a b e : Expr} {f : LE} {g : LE} {p pos : Pos}
def rg1 (f : LE) : LSt → LH → Res (Int × Int) := fun ls L => (f ls L).bind fun v L1 => match v with
  | .int j => if smallI j = true ∧ j.toNat ≤ 2 ^ 24 then .ok (0, j) L1 else .bad
  | _ => .bad
def rg2 (f g : LE) : LSt → LH → Res (Int × Int) := fun ls L => (f ls L).bind fun v L1 => (g ls L1).bind fun w L2 => match v, w with
  | .int i, .int j => if smallI i = true ∧ smallI j = true ∧ (j - i).toNat ≤ 2 ^ 24 then .ok (i, j) L2 else .bad
  | _, _ => .bad
theorem mrg_1 (hg : Gl X "range") (hm : X.mg "range" = none) (ha : ME X W a f) (na : starEach [a] X.env = (false, eval a X.env) :: starEach [] X.env := by rfl) :
    ∃ t, PRg X (.Call (.Name "range" p) [a] [] pos) t ∧ ∀ m L H ls σ (Q : Int → Int → Hp → Prop), Sim X.K X.mg m H L → RS X.K X.mg m H ls σ → Post X W σ m H (fun p _ _ H' => RgOk p.1 p.2 → Q p.1 p.2 H') (rg1 f ls L) → t σ H Q := by
  obtain ⟨t, pa, ha⟩ := ha
  refine ⟨_, prg_1 hg hm pa na, fun m L H ls σ Q S rs q => ha m L H ls σ _ S rs (Post.bind q fun v L1 m1 H1 S1 F1 h1 x rx => ?_)⟩
  cases v with
  | int j =>
    cases rx
    dsimp only at h1
    split at h1
    · rename_i hj
      have s := smallI_iff hj.1
      exact ⟨j, rfl, h1.now S1 ⟨by show -(2 ^ 62) ≤ (0 : Int); decide, by show (0 : Int) < 2 ^ 62; decide, s.1, s.2, by show (j - 0).toNat ≤ 2 ^ 24; rw [Int.sub_zero]; exact hj.2⟩⟩
    · exact h1.elim
  | _ => exact h1.elim
theorem mrg_2 (hg : Gl X "range") (hm : X.mg "range" = none) (ha : ME X W a f) (hb : ME X W b g) (na : starEach [a, b] X.env = (false, eval a X.env) :: starEach [b] X.env := by rfl)
    (nb : starEach [b] X.env = (false, eval b X.env) :: starEach [] X.env := by rfl) (hp : (backTo pos (starEach [b] X.env)).any (·.1) = false := by rfl) :
    ∃ t, PRg X (.Call (.Name "range" p) [a, b] [] pos) t ∧ ∀ m L H ls σ (Q : Int → Int → Hp → Prop), Sim X.K X.mg m H L → RS X.K X.mg m H ls σ → Post X W σ m H (fun p _ _ H' => RgOk p.1 p.2 → Q p.1 p.2 H') (rg2 f g ls L) → t σ H Q := by
  obtain ⟨t, pa, ha⟩ := ha
  obtain ⟨u, pb, hb⟩ := hb
  refine ⟨_, prg_2 hg hm pa pb na nb hp, fun m L H ls σ Q S rs q => ha m L H ls σ _ S rs (Post.bind q fun v L1 m1 H1 S1 F1 h1 x rx => hb m1 L1 H1 ls σ _ S1 (rs.mono F1) (Post.bind h1 fun w L2 m2 H2 S2 F2 h2 y ry => ?_))⟩
  cases v with
  | int i =>
    cases w with
    | int j =>
      cases rx; cases ry
      dsimp only at h2
      split at h2
      · rename_i hj
        have s := smallI_iff hj.1
        have s2 := smallI_iff hj.2.1
        exact ⟨i, j, rfl, rfl, h2.now S2 ⟨s.1, s.2, s2.1, s2.2, hj.2.2⟩⟩
      · exact h2.elim
    | _ => exact h2.elim
  | _ => exact h2.elim
theorem rg_rv {K : PySem.W.Frag} {mg : Str → Option Value} {m : Mp} {H : Hp} (i j : Int) : RvL K mg m H (rangeL i (j - i).toNat) (rgV i j) := by
  unfold rangeL rgV
  generalize List.range (j - i).toNat = l
  induction l with
  | nil => rfl
  | cons k r ih => exact ⟨_, _, rfl, rfl, ih⟩
theorem mf_listRg {h : LSt → LH → Res (Int × Int)} (hc : X.calm = true) (hg : Gl X "list") (hm : X.mg "list" = none)
    (he : ∃ t, PRg X e t ∧ ∀ m L H ls σ (Q : Int → Int → Hp → Prop), Sim X.K X.mg m H L → RS X.K X.mg m H ls σ → Post X W σ m H (fun p _ _ H' => RgOk p.1 p.2 → Q p.1 p.2 H') (h ls L) → t σ H Q)
    (na : starEach [e] X.env = (false, eval e X.env) :: starEach [] X.env := by rfl) : MF X W (.Call (.Name "list" p) [e] [] pos) (fRg h) := by
  obtain ⟨t, pe, he⟩ := he
  refine ⟨_, pe_listRg hc hg hm pe na, fun m L H ls σ Q S rs q => he m L H ls σ _ S rs (Post.bind q fun pr L1 m1 H1 S1 F1 h1 ok => ⟨ok, fun d hd => ?_⟩)⟩
  have h1 := fpost_move h1 S1 F1
  exact h1 (m1.add d) _ (S1.add hd) ((Fr.upd hd).add hd) d _ hd upd_same (.inr rfl) (S1.outi hd) (rg_rv _ _)
theorem me_tupRg {h : LSt → LH → Res (Int × Int)} (hc : X.calm = true) (hg : Gl X "tuple") (hm : X.mg "tuple" = none)
    (he : ∃ t, PRg X e t ∧ ∀ m L H ls σ (Q : Int → Int → Hp → Prop), Sim X.K X.mg m H L → RS X.K X.mg m H ls σ → Post X W σ m H (fun p _ _ H' => RgOk p.1 p.2 → Q p.1 p.2 H') (h ls L) → t σ H Q)
    (na : starEach [e] X.env = (false, eval e X.env) :: starEach [] X.env := by rfl) : ME X W (.Call (.Name "tuple" p) [e] [] pos) (eTup (fRg h)) := by
  obtain ⟨t, pe, he⟩ := he
  refine ⟨_, pe_tupRg hc hg hm pe na, fun m L H ls σ Q S rs q => he m L H ls σ _ S rs ?_⟩
  unfold eTup fRg at q
  cases hh : h ls L with
  | err e L1 => rw [hh] at q; exact q
  | bad => rw [hh] at q; exact q
  | ok pr L1 =>
    rw [hh] at q
    exact fun m1 H1 S1 F1 ok => ⟨ok, fun d hd => q m1 _ (S1.upd hd) (F1.trans (Fr.upd hd)) _ ⟨d, _, rfl, ⟨upd_same, S1.out hd⟩, rg_rv _ _⟩⟩
end

/-! ### a def without arguments, a statement that is never reached -/
def eFn0 (sem : Sem') : LE := fun _ L => sem [] L
def sBad : LS := fun _ _ => .bad
section
variable {X : Cx} {W : WX} {x : Str} {p pos : Pos} {st : Stmt}
theorem me_call0 {j k : Nat} {sem : Sem'} (c : Cal X.prog X.w X.K X.mg X.base k x 0 sem) (hr : Room j X.A) (hk : k ≤ j) (hg : Gl X x) (tk : Takes X W) (hdb : (x == ("__debug__" : Str)) = false := by decide) : ME X W (.Call (.Name x p) [] [] pos) (eFn0 sem) := by
  obtain ⟨f, fd, ps, hm, kp, hpn, hb, G⟩ := c.ex
  refine ⟨fun σ H Q => spG X.K X.mg 0 sem [] H Q (WE W σ), ⟨fun pins s σ H Q I h => ?_⟩, fun m L H ls σ Q S rs q => ?_⟩
  · refine wpAny_Call_Name_kw (ld_glob I hg hm ?_ hdb)
    exact PySem.W.callWith_K0 I.kIn kp (run_fnS (us := []) G (hr.mono hk) hb (passAt tk σ) I .nil h)
  · refine ⟨rfl, m, L, [], S, rfl, ?_⟩
    unfold eFn0 at q
    cases hs : sem [] L with
    | ok v L2 => rw [hs] at q; exact q
    | err e L2 => rw [hs] at q; exact q
    | bad => rw [hs] at q; exact q
theorem ms_bad : MS X W st sBad := ⟨_, ps_never, fun m L H ls σ D S rs h => h⟩
end

/-! ### a, b = x, y -/
def sPar (i j : Nat) (f g : LE) : LS := fun ls L => (f ls L).toS ls fun v L1 => (g ls L1).toS ls fun w L2 => .ok .nx ((ls.set i (some v)).set j (some w)) L2
section
variable {X : Cx} {W : WX} {x y : Str} {a b : Expr} {px py pt pos pt2 : Pos} {kt k2 : Nat} {f g : LE}
theorem ms_par (i j : Nat) (hc : X.calm = true) (hN : X.N.Nodup) (hi : X.N[i]? = some x) (hj : X.N[j]? = some y) (hij : i ≠ j)
    (hx : X.env.scope.names.lookup x = some .local) (hy : X.env.scope.names.lookup y = some .local) (ha : ME X W a f) (hb : ME X W b g)
    (hw : swappedStores [.Tuple [.Name x px, .Name y py] kt pt] (.Tuple [a, b] k2 pt2) X.env = pure (some [x, y]))
    (hsw : swapsWithSole [.Tuple [.Name x px, .Name y py] kt pt] (.Tuple [a, b] k2 pt2) pos.line X.env = pure false := by rfl)
    (hs : starEach [a, b] X.env = (false, eval a X.env) :: starEach [b] X.env := by rfl) (hs2 : starEach [b] X.env = (false, eval b X.env) :: starEach [] X.env := by rfl) :
    MS X W (.Assign [.Tuple [.Name x px, .Name y py] kt pt] (.Tuple [a, b] k2 pt2) pos) (sPar i j f g) := by
  obtain ⟨t, pa, ha⟩ := ha
  obtain ⟨u, pb, hb⟩ := hb
  refine ⟨_, ps_par hc hN hi hj hij hx hy (pa_cons pa (pa_cons pb pa_nil hs2) hs) hw hsw, fun m L H ls σ D S rs h => ha m L H ls σ _ S rs (SPost.bind rs h fun v L1 m1 H1 S1 F1 h1 x rx => ?_)⟩
  refine hb m1 L1 H1 ls σ _ S1 (rs.mono F1) (SPost.bind (rs.mono F1) h1 fun w L2 m2 H2 S2 F2 h2 y ry => ?_)
  exact ⟨x, y, rfl, h2 m2 H2 S2 .refl _ (((rs.mono F1).mono F2).set i (Rv.mono F2 _ _ rx) |>.set j ry)⟩
end

/-! ### enumerate, zip, reversed of lists -/
def enumL (xs : List LV) : List LV := (List.range xs.length).zipWith (fun (i : Nat) v => .tup [.int (i : Int), v]) xs
def itLst (L : LH) : LV → Option (List LV × (LH → Bool))
  | .lst xs => some (xs, always)
  | .frz xs => some (xs, always)
  | .ref n => (refL L n).map fun xs => (xs, isLst n xs)
  | _ => none
def iEnumL (f : LF) : LI := fun ls L => (f ls L).bind fun vs L1 => match vs with
  | [v] => lift ((itLst L1 v).map fun p => (enumL p.1, p.2)) L1
  | _ => .bad
theorem itLst_of {L : LH} {v : LV} {p : List LV × (LH → Bool)} (h : itLst L v = some p) : itOf L v = some p ∧ (∀ s, v ≠ .str s) ∧ p.2 L = true := by
  cases v <;> first
    | (cases h; done)
    | (cases h; exact ⟨rfl, fun s e => by (cases e), rfl⟩)
    | (obtain ⟨ys, h3, h4⟩ := Option.map_eq_some_iff.mp h; cases h4; exact ⟨h, fun s e => by (cases e), isLst_of (refL_some h3)⟩)
theorem iEnum_chk {f : LF} : ∀ ls L p L', iEnumL f ls L = .ok p L' → p.2 L' = true := by
  intro ls L p L' h
  obtain ⟨vs, L1, h1, h2⟩ := Res.bind_ok h
  rcases vs with _ | ⟨v, _ | ⟨w, tl⟩⟩
  · cases h2
  · dsimp only at h2
    cases hi : itLst L1 v with
    | none => rw [hi] at h2; cases h2
    | some q => rw [hi] at h2; cases h2; exact (itLst_of hi).2.2
  · cases h2
theorem enumL_get {xs : List LV} {i : Nat} {v : LV} (h : (enumL xs)[i]? = some v) : ∃ w, xs[i]? = some w ∧ v = .tup [.int (i : Int), w] := by
  unfold enumL at h
  rw [List.getElem?_zipWith] at h
  cases hr : (List.range xs.length)[i]? with
  | none => rw [hr] at h; cases h
  | some j =>
    cases hx : xs[i]? with
    | none => rw [hr, hx] at h; cases h
    | some w =>
      rw [hr, hx] at h
      cases h
      obtain ⟨h1, h2⟩ := List.getElem?_eq_some_iff.mp hr
      rw [List.getElem_range] at h2
      exact ⟨w, rfl, by rw [h2]⟩
theorem enumL_length (xs : List LV) : (enumL xs).length = xs.length := by unfold enumL; simp
section
variable {X : Cx} {W : WX} {e : Expr} {f : LF} {p pos tpos : Pos} {elts : List Expr} {kk : Nat}
theorem lst_walk {m : Mp} {H : Hp} {L : LH} {v : LV} {x : V} {xs : List LV} {chk : LH → Bool} (S : Sim X.K X.mg m H L) (r : Rv X.K X.mg m H v x) (h : itLst L v = some (xs, chk)) :
    ∃ a, x = .ref a ∧ (∃ vs, SqL X.K H a vs) ∧ ∀ m2 H2 L2, Sim X.K X.mg m2 H2 L2 → Fr2 m H m2 H2 → chk L2 = true → ∃ vs, SqL X.K H2 a vs ∧ RvL X.K X.mg m2 H2 xs vs := by
  cases v with
  | lst ys =>
    cases h
    obtain ⟨a, vs, rfl, t, q⟩ := r
    exact ⟨a, rfl, ⟨vs, t.sq⟩, fun m2 H2 L2 _ F _ => ⟨vs, (t.mono1 F.toFr1).sq, RvL.mono1 F.toFr1 _ _ q⟩⟩
  | frz ys =>
    cases h
    obtain ⟨a, vs, rfl, t, q⟩ := r
    exact ⟨a, rfl, ⟨vs, t.sq⟩, fun m2 H2 L2 _ F _ => ⟨vs, (t.mono1 F.toFr1).sq, RvL.mono1 F.toFr1 _ _ q⟩⟩
  | ref n =>
    obtain ⟨ys, h1, h2⟩ := Option.map_eq_some_iff.mp h
    cases h2
    obtain ⟨a, vs, ha, rfl, hv, q⟩ := refL_at S r h1
    refine ⟨a, rfl, ⟨vs, SqL.of hv⟩, fun m2 H2 L2 S2 F ck => ?_⟩
    obtain ⟨us, hu, ru⟩ := S2.ob n _ a (isLst_eq ck) (pre_get F.pre ha)
    exact ⟨us, SqL.of hu, ru⟩
  | _ => cases h
theorem mi_enum (hg : Gl X "enumerate") (hm : X.mg "enumerate" = none) (ha : MA X W [e] f) (hs : starEach [e] X.env = [(false, eval e X.env)] := by rfl) : MI X W (.Tuple elts kk tpos) (.Call (.Name "enumerate" p) [e] [] pos) (iEnumL f) := by
  obtain ⟨hl, t, pa, ha⟩ := ha
  refine ⟨_, pi_enum hg hm pa hs, fun m L H ls σ R S rs q => ha m L H ls σ _ S rs (Post.bind q fun vs L1 m1 H1 S1 F1 h1 xs rx => ?_)⟩
  rcases vs with _ | ⟨v, _ | ⟨w, tl⟩⟩
  · exact h1.elim
  · dsimp only at h1
    cases hi : itLst L1 v with
    | none => rw [hi] at h1; exact h1.elim
    | some pr =>
      rw [hi] at h1
      obtain ⟨h2, h3, h4⟩ := itLst_of hi
      have go := h1.now S1 h4
      obtain ⟨x, rfl, rv⟩ := rx.inv1
      obtain ⟨ys, chk⟩ := pr
      obtain ⟨a, rfl, ⟨us, hv⟩, wk⟩ := lst_walk S1 rv hi
      refine ⟨a, us, rfl, hv, go _ fun i m2 H2 L2 S2 F2 ck => ?_⟩
      obtain ⟨vs2, hs2, r2⟩ := wk m2 H2 L2 S2 F2 ck
      refine ⟨fun z hz => ?_, fun hle => ⟨vs2, hs2, by rw [r2.length, ← enumL_length]; exact hle⟩⟩
      obtain ⟨w, hw, rfl⟩ := enumL_get hz
      obtain ⟨y, hy, ry⟩ := r2.get hw
      refine ⟨⟨vs2, y, hs2, hy⟩, fun x H3 hy3 => ?_⟩
      obtain ⟨T, x', rfl, nT, rfl, fx⟩ := hy3
      have e : y = x' := Option.some.inj (hy.symm.trans (fx vs2 hs2))
      subst e
      exact ⟨S2.upd nT, Fr.upd nT, T, _, rfl, ⟨upd_same, S2.out nT⟩, _, _, rfl, rfl, _, _, rfl, Rv.mono (Fr.upd nT) _ _ ry, rfl⟩
  · exact h1.elim
end
end G

section
set_option maxHeartbeats 4000000
namespace G
open PySem PySem.Spec PySem.Calls PyProof.Rows PySem.W
open PySem.HandSPX (excO refsVE)
/-! ### super().__init__(..) of an own error over ValueError -/
section
variable {prog : Program} {w : World} {A : Around} {E : Value → Shared → Prop} {R : Result → Shared → Prop} {s : Shared} {K : Frag} {mg : Str → Option Value}
theorem one_size (v : Value) : [v].length ≤ sizeLine := by
  rw [sizeLine_eq]
  exact (by decide : 1 ≤ 16777216)
/-- what the written part says of an __init__ with its __class__ cell: the def at f, its class at S -/
structure SupFn (prog : Program) (K : Frag) (nm q : Str) (S f : Addr) (ar : Arguments) (bd : List Stmt) (sc : Scope) : Prop where
  fn : ∃ (oc : Value) (od : Option Addr) (dV kV doc pm : Value) (an : Option Addr) (cda : Addr) (ct : Value) (cc : Addr) (osl : Array (Option Value)),
    K.lookup f = some ⟨oc, od, .func (ksFn nm q ar bd sc dV kV doc pm an (.ref cda) ct cc), osl⟩ ∧ codeIn K (.ref cda) q = true ∧ dV = .none ∧
    (∃ ccl cdd vs ccs file tf, K.lookup cda = some ⟨ccl, cdd, .fields vs, ccs⟩ ∧ vs[2]? = some (.str file tf) ∧ ((prog.main.file : Str) == file) = true) ∧
    (∃ cl cld csl, K.lookup cc = some ⟨cl, cld, .cell (some (.ref S)), csl⟩)
  clD : ∃ cdD, clsIn K S = some cdD
  sup : nsIn K mainGlobals "super" = some none
  tpa : nsIn K cStatics "thirdparty.any" = some none
  top : (prog.main.scope.names.lookup ("super" : Str)).isSome = false
/-- super() in an __init__, then the method looked up and called -/
theorem sup_base {q : Str} {S f : Addr} {bd : List Stmt} {sc : Scope} {base : Heap} {L x C cda cc : Addr} {ox : Obj} {odx : Option Obj} {fd : FuncData} {oc ccl cl : Value} {od cdd cld : Option Addr} {osl ccs csl : Array (Option Value)} {vs : Array Value} {file : Str} {tf : Tok} {cdD : ClassData}
    {m : Str → Option Value} {a0 : Arg} {p0 p1 : Pos} {attr : Str} {whole : Sem Value} {Q : Value → Shared → Prop}
    (M : L2.Mod K mg base) (bk : ∀ b o, base.get? b = some o → s.heap.get? b = some o)
    (hf : K.lookup f = some ⟨oc, od, .func fd, osl⟩) (hp : (fd.params.posonlyargs ++ fd.params.args).head? = some a0) (hns : s.heap.Ns L m) (hv : m a0.arg = some (.ref x)) (I : InstAt s.heap x ox C odx)
    (hcode : K.lookup cda = some ⟨ccl, cdd, .fields vs, ccs⟩) (hvs : vs[2]? = some (.str file tf)) (hfile : ((prog.main.file : Str) == file) = true)
    (hcell : K.lookup cc = some ⟨cl, cld, .cell (some (.ref S)), csl⟩) (hD : clsIn K S = some cdD) (hsub : mroIn K C (.ref S) = some true) (hsuper : nsIn K mainGlobals "super" = some none)
    (hat : (attr == ("__class__" : Str)) = false) (hks : sc.names.lookup ("super" : Str) = some .globalImplicit) (hkc : sc.names.lookup ("__class__" : Str) = some .free) (hka : sc.names.lookup a0.arg = some .local) (hk : sc.kind = .function)
    (htop : (prog.main.scope.names.lookup ("super" : Str)).isSome = false)
    (h : ∀ h', h'.get? s.heap.objs.size = some (ks_superObj S x C) → (∀ y o, s.heap.get? y = some o → h'.get? y = some o) → Q (.ref s.heap.objs.size) { s with heap := h' }) :
    _root_.PySem.wpAt (model prog w) A (.func bd (ksEnv q sc L f (.ref cda) cc)) (attributeBase (.Call (.Name "super" p0) [] [] p1) attr (ksEnv q sc L f (.ref cda) cc) whole) Q E s := by
  have X : K.In s.heap := M.kin.keeps bk
  obtain ⟨mb, hmb, hbl⟩ := M.blt
  obtain ⟨hh, g, d, t, os⟩ := s
  obtain ⟨oD, hD1, hD2⟩ : ∃ oD, hh.get? S = some oD ∧ oD.data = .cls cdD := by
    unfold clsIn at hD
    split at hD
    · rename_i c d cd' sl ho
      cases hD
      exact ⟨_, X _ _ ho, rfl⟩
    · cases hD
  refine ks_wpAt_super_base (env := ksEnv q sc L f (.ref cda) cc) hks hkc hat rfl (X _ _ hf) rfl hp rfl (X _ _ hcode) rfl hvs hfile htop ?_
  refine ks_loadName_global hk hks (loadGlobal_builtin (env := ksEnv q sc L f (.ref cda) cc) (M.glob.keeps bk) (mg_none_of M.kin M.glob hsuper) (hmb.keeps bk) ((hbl _ (by decide +kernel)).trans (by first | rfl | kernel_rfl)) ⟨rfl, ?_⟩)
  refine wpAny_loadName_free hk hkc rfl ⟨_, X _ _ hcell, rfl⟩ ?_
  refine wpAny_loadName_local hk hka hns hv ?_
  refine ks_wpAny_isType_cls hD1 hD2 ⟨rfl, ?_⟩
  refine ks_wpAny_call_super hD1 hD2 I.at_ I.cls (fun c e => ?_) (looks_mroIn X hsub) (fun h' e k => h h' e k)
  have := I.no
  unfold notCls at this
  rw [e] at this
  exact Bool.noConfusion this
/-- super().__init__(v) of an object over ValueError: its args anew -/
theorem sup_init {q : Str} {S f : Addr} {bd : List Stmt} {sc : Scope} {base : Heap} {L x C cda cc t0 : Addr} {fd : FuncData} {oc ccl cl : Value} {od cdd cld : Option Addr} {osl ccs csl : Array (Option Value)} {vs : Array Value} {file : Str} {tf : Tok} {cdD : ClassData}
    {m : Str → Option Value} {a0 : Arg} {p0 p1 p2 p3 : Pos} {e : Expr} {v : Value} {Q : Value → Shared → Prop}
    (M : L2.Mod K mg base) (bk : ∀ b o, base.get? b = some o → s.heap.get? b = some o)
    (hf : K.lookup f = some ⟨oc, od, .func fd, osl⟩) (hp : (fd.params.posonlyargs ++ fd.params.args).head? = some a0) (hns : s.heap.Ns L m) (hv : m a0.arg = some (.ref x)) (hx : s.heap.get? x = some (excO C t0))
    (hcode : K.lookup cda = some ⟨ccl, cdd, .fields vs, ccs⟩) (hvs : vs[2]? = some (.str file tf)) (hfile : ((prog.main.file : Str) == file) = true)
    (hcell : K.lookup cc = some ⟨cl, cld, .cell (some (.ref S)), csl⟩) (hD : clsIn K S = some cdD) (hsub : mroIn K C (.ref S) = some true) (hsuper : nsIn K mainGlobals "super" = some none) (ho : nsIn K cStatics "thirdparty.any" = some none)
    (hks : sc.names.lookup ("super" : Str) = some .globalImplicit) (hkc : sc.names.lookup ("__class__" : Str) = some .free) (hka : sc.names.lookup a0.arg = some .local) (hk : sc.kind = .function)
    (htop : (prog.main.scope.names.lookup ("super" : Str)).isSome = false)
    (hmr : ks_superIn K C S "__init__" = some (some (.builtin "ValueError.__init__"))) (hB : subIn K (.ref C) (.type "ValueError") = some true) (hin : excInitIn K C [.type "ValueError", .type "Exception", .type "BaseException", .type "object"] "ValueError.__new__" = true)
    (ev : ∀ (s' : Shared) (Q' : Value → Shared → Prop), (∃ Lo, s'.heap.Ns L m ∧ Lo = L) → Q' v s' → wpAny (model prog w) A (eval e (ksEnv q sc L f (.ref cda) cc)) Q' E s')
    (hline : (p2.endLine == p3.line) = true) (hform : methodCallForm ([e].length + ([] : List Keyword).length) (backTo p3 (starEach [e] (ksEnv q sc L f (.ref cda) cc))) (backToKw p3 (keywordEach [] (ksEnv q sc L f (.ref cda) cc))) = true)
    (he : starEach [e] (ksEnv q sc L f (.ref cda) cc) = (false, eval e (ksEnv q sc L f (.ref cda) cc)) :: starEach [] (ksEnv q sc L f (.ref cda) cc))
    (h : ∀ h' t' tk, (∀ y o, y ≠ x → s.heap.get? y = some o → h'.get? y = some o) → h'.get? x = some (excO C t') → Q .none { s with heap := h', toks := tk }) :
    _root_.PySem.wpAt (model prog w) A (.func bd (ksEnv q sc L f (.ref cda) cc)) (eval (.Call (.Attribute (.Call (.Name "super" p0) [] [] p1) "__init__" p2) [e] [] p3) (ksEnv q sc L f (.ref cda) cc)) Q E s := by
  have X : K.In s.heap := M.kin.keeps bk
  have hI : InstAt s.heap x (excO C t0) C none := ⟨hx, rfl, rfl, trivial⟩
  rw [arm_eval_Call]
  refine _root_.PySem.wpAt_bind (ks_wpAt_mono (Q := fun ov s₁ => wpAny (model prog w) A (getMethod ov "__init__" (do return (← importBound (.Call (.Name "super" p0) [] [] p1) (ksEnv q sc L f (.ref cda) cc)).getD true)) (fun fx s₂ => wpAny (model prog w) A (callWith p3 fx.1 fx.2 (backTo p3 (starEach [e] (ksEnv q sc L f (.ref cda) cc))) []) Q E s₂) E s₁) (E := E) ?_ (fun ov s₁ h₁ => ?_) fun _ _ x => x)
  rotate_left
  · refine _root_.PySem.wpAt_of_wpAny (wpAny_bind (wpAny_standAt ?_))
    have hpos : methodCallPos true (.Call (.Name "super" p0) [] [] p1) (ksEnv q sc L f (.ref cda) cc) p2 p3 = pure p3 := by unfold methodCallPos; simp [hline]
    unfold methodCall
    rw [hform]
    refine wpAny_bind (wpAny_holding (wpAny_mono h₁ (fun fx s₂ h₂ => ?_) fun _ _ x => x))
    exact wpAny_bind (wpAny_of_eq hpos h₂)
  refine sup_base M bk hf hp hns hv hI hcode hvs hfile hcell hD hsub hsuper (by decide) hks hkc hka hk htop fun h1 e1 k1 => ?_
  have X1 : K.In h1 := X.keeps k1
  have hx1 := k1 _ _ hx
  have hI1 : InstAt h1 x (excO C t0) C none := ⟨hx1, rfl, rfl, trivial⟩
  obtain ⟨hh, g, d, tk, os⟩ := s
  cases hc : clsIn K C with
  | none => unfold ks_superIn at hmr; rw [hc] at hmr; cases hmr
  | some cd =>
    unfold ks_superIn at hmr
    rw [hc] at hmr
    refine kxs_getMethod kxs_ValueError e1 (looks_opaque X1 ho) (l₀ := cd.mro) ?_ rfl X1 hmr (hI1.type.andThen (looks_subIn X1 hB)) (ks_ne X1 hI1 hc) (by decide) ?_
    · exact fun A Q E s k q => wpAny_bind ((looks_clsIn X1 hc) A _ E s k (wpAny_pure q))
    · have k2 : ∀ y o, h1.get? y = some o → (h1.push (kxs_mw "ValueError.__init__" x)).get? y = some o := fun y o z => Heap.get?_push_of_some _ z
      have hu : (h1.push (kxs_mw "ValueError.__init__" x)).get? h1.objs.size = some (kxs_mw "ValueError.__init__" x) := Heap.get?_push_at rfl rfl
      have X2 := X1.keeps k2
      have hx2 := k2 _ _ hx1
      refine kxs_callWith (i := "ValueError.__init__") (x := x) (by rw [he]; rfl) ?_
      have k02 : ∀ y o, hh.get? y = some o → (h1.push (kxs_mw "ValueError.__init__" x)).get? y = some o := fun y o z => k2 _ _ (k1 _ _ z)
      suffices HH : wpAny (model prog w) A (spliced (backTo p3 (starEach [e] (ksEnv q sc L f (.ref cda) cc)))) (fun vs s₁ => KxsAt "ValueError.__init__" h1.objs.size x s₁.heap ∧ wpAny (model prog w) A (call (.ref h1.objs.size) vs) Q E s₁) E ⟨h1.push (kxs_mw "ValueError.__init__" x), g, d, tk + 1, os⟩ by
        rw [he] at HH ⊢
        exact evalArgs_plain HH
      refine args_cons (ev _ _ ⟨L, hns.keeps k02, rfl⟩ (args_nil ⟨hu, ?_⟩)) he
      obtain ⟨nm, N', qn, bs, bm, hdct, sn, sub, ab, col, dd, k0, k1', k2', k3, k5, hC, hT⟩ := excInit_of X2 hin
      have fin : ∀ h', (∀ b o, b ≠ x → (h1.push (kxs_mw "ValueError.__init__" x)).get? b = some o → h'.get? b = some o) → h'.get? x = some (excO C (h1.push (kxs_mw "ValueError.__init__" x)).objs.size) → h'.get? (h1.push (kxs_mw "ValueError.__init__" x)).objs.size = some (excTup [v]) → Q .none { heap := h', gens := g, drawn := d, toks := tk + 1, os := os } :=
        fun h' k' e' _ => h h' _ _ (fun y o hy z => k' y o hy (k02 y o z)) e'
      refine wpAny_call (codeAny_of_tree ?_)
      show wpAny _ A.in1 (callAny (.ref h1.objs.size) ⟨[v], []⟩) _ _ _
      simp only [callAny]
      refine wpAny_bind (wpAny_load hu ?_)
      simp only [kxs_mw, show (Value.type "method-wrapper" == Value.type "method" || Value.type "method-wrapper" == Value.type "builtin_function_or_method" || Value.type "method-wrapper" == Value.type "method-wrapper") = true by decide, if_true]
      refine KFB.if_so (by decide) ?_
      refine wpAny_bind (check_bound_init PySem.F.excBase_ValueError.toExcCallFacts hC hx2 rfl ?_)
      refine wpAny_bind (wpAny_pure (wpAny_pure ?_))
      refine ⟨plainId_quiet PySem.F.excBase_ValueError.init.plain _, codeAny_builtin PySem.F.excBase_ValueError.initEntry ?_⟩
      exact exc_init_tree (cls := .ref C) (t0 := t0) (dv := none) (c2 := .none) (c3 := .none) (b4 := .bool false) hx2 (one_size v) fin

/-! ### SymError.__init__ -/
def symA (p1 p2 : Pos) : Arguments := { posonlyargs := [], args := [{ arg := "self", annotation := none, pos := p1 }, { arg := "code", annotation := none, pos := p2 }], vararg := none, kwonlyargs := [], kw_defaults := [], kwarg := none, defaults := [] }
def symB (q1 q2 q3 q4 q5 q6 q7 q8 q9 q10 : Pos) : List Stmt := [.Expr (.Call (.Attribute (.Call (.Name "super" q1) [] [] q2) "__init__" q3) [.Name "code" q4] [] q5) q6, .Assign [.Attribute (.Name "self" q7) "code" q8] (.Name "code" q9) q10]
def symS : Scope := { kind := .function, names := [(PySem.Str.ofString "self", .local), (PySem.Str.ofString "code", .local), (PySem.Str.ofString "__class__", .free), (PySem.Str.ofString "super", .globalImplicit)], isGenerator := false, isCoroutine := false, more := [] }
/-- an error's class over SymError (or itself), at C -/
structure XCls (K : Frag) (S C : Addr) : Prop where
  cls : ∃ nm q N bs bm sn sub ab col dd k0 k1 k2 k3 k5, K.lookup C = some (excClassObj nm q C N bs bm true sn sub ab col dd k0 k1 k2 k3 k5 "ValueError.__new__") ∧ refsVE bm = true
  sa : findIn K (.ref C) "__setattr__" = some (some (.builtin "object.__setattr__"))
  noN : findIn K (.ref C) "code" = some none
  sub : mroIn K C (.ref S) = some true
  hmr : ks_superIn K C S "__init__" = some (some (.builtin "ValueError.__init__"))
  hB : subIn K (.ref C) (.type "ValueError") = some true
  hin : excInitIn K C [.type "ValueError", .type "Exception", .type "BaseException", .type "object"] "ValueError.__new__" = true
/-- what __init__ leaves of a fresh exception at x -/
structure InitEnd (h h' : Heap) (x C dx : Addr) (ns : Str → Option Value) : Prop where
  keep : ∀ b o, b ≠ x → h.get? b = some o → h'.get? b = some o
  obj : ∃ t1, h'.get? x = some { cls := .ref C, dict := some dx, data := .fields #[.ref t1, .none, .none, .none, .bool false, .none] }
  dbig : h.objs.size ≤ dx
  dne : dx ≠ x
  ns : h'.Ns1 dx ns
structure SymFn (prog : Program) (K : Frag) (S f : Addr) : Prop where
  fn : ∃ (oc : Value) (od : Option Addr) (doc pm : Value) (an : Option Addr) (cda : Addr) (ct : Value) (cc : Addr) (osl : Array (Option Value)) (p1 p2 q1 q2 q3 q4 q5 q6 q7 q8 q9 q10 : Pos) (ccl : Value) (cdd : Option Addr) (vs : Array Value) (ccs : Array (Option Value)) (file : Str) (tf : Tok) (cl : Value) (cld : Option Addr) (csl : Array (Option Value)), (q3.endLine == q5.line) = true ∧
    K.lookup f = some ⟨oc, od, .func (ksFn "__init__" "SymError.__init__" (symA p1 p2) (symB q1 q2 q3 q4 q5 q6 q7 q8 q9 q10) symS .none .none doc pm an (.ref cda) ct cc), osl⟩ ∧ codeIn K (.ref cda) "SymError.__init__" = true ∧
    K.lookup cda = some ⟨ccl, cdd, .fields vs, ccs⟩ ∧ vs[2]? = some (.str file tf) ∧ ((prog.main.file : Str) == file) = true ∧
    K.lookup cc = some ⟨cl, cld, .cell (some (.ref S)), csl⟩
  clD : ∃ cdD, clsIn K S = some cdD
  sup : nsIn K mainGlobals "super" = some none
  tpa : nsIn K cStatics "thirdparty.any" = some none
  top : (prog.main.scope.names.lookup ("super" : Str)).isSome = false
theorem sym_init {S f C x t0 : Addr} {v : Value} {base : Heap} (T : SymFn prog K S f) (C0 : XCls K S C) (M : L2.Mod K mg base) (bk : ∀ b o, base.get? b = some o → s.heap.get? b = some o) (hlim : s.heap.NoLimit) (hx : s.heap.get? x = some (excO C t0)) (hnx : base.get? x = none) (hroom : A.depth < recursionLimit)
    (hq : ∀ h' tk dx, InitEnd s.heap h' x C dx (fun y => if y = "code" then some v else none) → R (.ok (.ret .none)) { s with heap := h', toks := tk }) :
    codeAny (model prog w) A (.call (.ref f) ⟨[.ref x, v], []⟩) R s := by
  obtain ⟨oc, od, doc, pm, an, cda, ct, cc, osl, p1, p2, q1, q2, q3, q4, q5, q6, q7, q8, q9, q10, ccl, cdd, vs, ccs, file, tf, cl, cld, csl, hline, hf, hcd, hcode, hvs, hfile, hcell⟩ := T.fn
  obtain ⟨nm, q, N, bs, bm, sn, sub, ab, col, dd, k0, k1, k2, k3, k5, hC, hbm⟩ := C0.cls
  obtain ⟨cdD, hD⟩ := T.clD
  have X : K.In s.heap := M.kin.keeps bk
  have hcl : clsIn K C = some { name := nm, bases := bs, mro := .ref C :: bm, ns := N, qualname := q, hasDict := true, slotNames := sn, subclasses := sub, abstract := ab, collection := col, hasDel := false } := by unfold clsIn; rw [hC] <;> rfl
  refine ks_codeAny_call_defAt (fd := ksFn "__init__" "SymError.__init__" (symA p1 p2) (symB q1 q2 q3 q4 q5 q6 q7 q8 q9 q10) symS .none .none doc pm an (.ref cda) ct cc) (body := symB q1 q2 q3 q4 q5 q6 q7 q8 q9 q10) (binds := [("self", .ref x), ("code", v)])
    hroom (X _ _ hf) rfl hlim (codeRec_of X hcd) rfl (BindsTo.of_eq (by first | rfl | with_unfolding_all rfl)) (show ∀ x ∈ symS.names, x.2 ≠ .cell by decide) (fun y hy => by
      rcases List.mem_cons.mp hy with rfl | hy
      · rfl
      · rcases List.mem_cons.mp hy with rfl | hy
        · rfl
        · cases hy) (fun h₀ hns k0 => ?_)
  have bk0 : ∀ b o, base.get? b = some o → h₀.get? b = some o := fun b o e => k0 _ _ (bk _ _ e)
  have hx0 := k0 _ _ hx
  have env0 : callEnv (ksFn "__init__" "SymError.__init__" (symA p1 p2) (symB q1 q2 q3 q4 q5 q6 q7 q8 q9 q10) symS .none .none doc pm an (.ref cda) ct cc) s.heap.objs.size f = ksEnv "SymError.__init__" symS s.heap.objs.size f (.ref cda) cc := rfl
  rw [env0]
  have ld : ∀ (y : Str) (u : Value) (A' : Around) (s' : Shared) (E' : Value → Shared → Prop) (Q' : Value → Shared → Prop) (p : Pos), symS.names.lookup y = some .local → ((List.reverse [(("self" : Str), Value.ref x), (("code" : Str), v)]).lookup y = some u) → (y == ("__debug__" : Str)) = false → s'.heap.Ns s.heap.objs.size (fun z => (List.reverse [(("self" : Str), Value.ref x), (("code" : Str), v)]).lookup z) → Q' u s' →
      wpAny (model prog w) A' (eval (.Name y p) (ksEnv "SymError.__init__" symS s.heap.objs.size f (.ref cda) cc)) Q' E' s' := fun y u A' s' E' Q' p hl hv hd hn h => wpAny_Name (wpAny_loadName_local rfl hl hn hv h) hd
  refine ks_wpAt_execs_cons (ks_wpAt_Expr_any ?_)
  · refine sup_init (s := { s with heap := h₀, toks := s.toks + 2 }) (v := v) M bk0 hf rfl hns rfl hx0 hcode hvs hfile hcell hD C0.sub T.sup T.tpa rfl rfl rfl rfl T.top C0.hmr C0.hB C0.hin (fun s' Q' hl h => ?_) hline rfl rfl fun h1 t1 tk1 k1 hx1 => ?_
    · obtain ⟨_, hn, _⟩ := hl
      exact ld "code" v _ _ _ _ _ rfl rfl rfl hn h
    · have k01 : ∀ b o, b ≠ x → s.heap.get? b = some o → h1.get? b = some o := fun b o hb e => k1 b o hb (k0 _ _ e)
      have hL : s.heap.objs.size ≠ x := Nat.ne_of_gt (Heap.lt_size hx)
      have hn1 : h1.Ns s.heap.objs.size (fun z => (List.reverse [(("self" : Str), Value.ref x), (("code" : Str), v)]).lookup z) := by
        obtain ⟨oL, es, ep, hl, r⟩ := hns
        exact ⟨oL, es, ep, k1 _ _ hL hl, r⟩
      have bk1 : ∀ b o, base.get? b = some o → h1.get? b = some o := fun b o e => k01 b o (fun z => by rw [z, hnx] at e; cases e) (bk _ _ e)
      have X1 : K.In h1 := M.kin.keeps bk1
      refine wpAt_of_wpAny (wpAny_execs_cons (plainObj_wpAny_Assign_Attribute (ld "code" v _ _ _ _ _ rfl rfl rfl hn1 (ld "self" (.ref x) _ _ _ _ _ rfl rfl rfl hn1 ?_))))
      refine set_plain X1 (ox := excO C t1) (od := none) ⟨hx1, rfl, rfl, trivial⟩ C0.sa ?_
      refine HandSPX.exc_osa X1 hx1 hcl (show refsVE (.ref C :: bm) = true from hbm) rfl C0.noN (fun h₃ tk₃ dx k₃ dn dne hx₃ hn₃ => ?_)
      show wpAny _ _ (execs _ _) _ _ _
      have z : s.heap.objs.size < h1.objs.size := hn1.lt
      exact wpAny_execs_nil (hq h₃ tk₃ dx ⟨fun b o hb e => k₃ b o hb (k01 b o hb e), ⟨t1, hx₃⟩, Nat.le_of_lt (Nat.lt_of_lt_of_le z dn), dne, hn₃⟩)
end
/-! ### an error made: class x, n arguments, the fields -/
section
variable {prog : Program} {w : World} {K : Frag} {mg : Str → Option Value}
def InitOk (prog : Program) (w : World) (base : Heap) (C f : Addr) (us : List Value) (ns : Str → Option Value) : Prop :=
  ∀ (A : Around) (s : Shared) (x t0 : Addr) (R : Result → Shared → Prop), (∀ b o, base.get? b = some o → s.heap.get? b = some o) → s.heap.NoLimit → s.heap.get? x = some (excO C t0) → base.get? x = none → A.depth + 1 < recursionLimit →
    (∀ h' tk dx, InitEnd s.heap h' x C dx ns → R (.ok (.ret .none)) { s with heap := h', toks := tk }) → codeAny (model prog w) A (.call (.ref f) ⟨.ref x :: us, []⟩) R s
structure XMk (prog : Program) (w : World) (K : Frag) (mg : Str → Option Value) (base : Heap) (x : Str) (n : Nat) (fs : List LV → List (Str × LV)) (fv : List L2.V → List (Str × L2.V)) : Prop where
  ex : ∃ C f, mg x = some (.ref C) ∧ keepIn K (.ref C) = true ∧ (subIn K (.ref C) (.type "BaseException") = some true ∧ typeIn K (.ref C) = some (.type "type")) ∧
    (∃ nm q N bs bm sn sub ab col dd k0 k1 k2 k3 k5, K.lookup C = some (excClassObj nm q C N bs bm true sn sub ab col dd k0 k1 k2 k3 k5 "ValueError.__new__") ∧ refsVE bm = true) ∧
    findIn K (.ref C) "__init__" = some (some (.ref f)) ∧ typeIn K (.ref f) = some (.type "function") ∧
    ∀ (_ : L2.Mod K mg base) (vs : List L2.V) (us : List Value), vs.length = n → L2.Vals vs us → ∃ ns, InitOk prog w base C f us ns ∧ ∀ y, L2.RelO ((fv vs).lookup y) (ns y)
  rf : ∀ (m : Mp) (H : L2.Hp) (lvs : List LV) (vs : List L2.V), lvs.length = n → RvL K mg m H lvs vs → RF K mg m H (fs lvs) (fv vs)
  few : n ≤ 1000
end
end G

end

section
set_option maxHeartbeats 4000000
namespace G
open PySem PySem.Spec PySem.Calls PyProof.Rows PySem.W L2
open PySem.HandSPX (excO refsVE)
def fvT (fv : List V → List (Str × V)) (n : Nat) (C : Addr) (ta : TA) : L2.St → Hp → XK → Prop := fun σ H Q => ta σ H fun vs H1 => vs.length = n ∧ ∀ d, H1 d = none → Q (.ref C) (some d) (L2.upd H1 d (.xd (fv vs)))
section
variable {X : Cx} {W : WX} {x : Str} {n j : Nat} {fs : List LV → List (Str × LV)} {fv : List V → List (Str × V)} {a : Expr} {es : List Expr} {p pos pos2 : Pos} {g : LF}
theorem pmk_x {ta : TA} {C f : Addr} (few : n ≤ 1000) (gC : X.mg x = some (.ref C)) (kC : keepIn X.K (.ref C) = true) (rs : subIn X.K (.ref C) (.type "BaseException") = some true ∧ typeIn X.K (.ref C) = some (.type "type"))
    (cl : ∃ nm q N bs bm sn sub ab col dd k0 k1 k2 k3 k5, X.K.lookup C = some (excClassObj nm q C N bs bm true sn sub ab col dd k0 k1 k2 k3 k5 "ValueError.__new__") ∧ refsVE bm = true)
    (iC : findIn X.K (.ref C) "__init__" = some (some (.ref f))) (tC : typeIn X.K (.ref f) = some (.type "function"))
    (ini : ∀ (_ : L2.Mod X.K X.mg X.base) (vs : List V) (us : List Value), vs.length = n → Vals vs us → ∃ ns, InitOk X.prog X.w X.base C f us ns ∧ ∀ y, RelO ((fv vs).lookup y) (ns y))
    (hr : Room j X.A) (hj : 3 ≤ j) (ha : PA X (a :: es) ta) (hg : Gl X x) (hdb : (x == ("__debug__" : Str)) = false)
    (he : starEach (a :: es) X.env = (false, eval a X.env) :: starEach es X.env) (hpl : (backTo pos (starEach es X.env)).any (·.1) = false) :
    PMk X (.Call (.Name x p) (a :: es) [] pos) (fvT fv n C ta) := by
  intro pins s σ H Q I h
  refine wpAny_Call_Name_kw (ld_glob I hg gC ?_ hdb)
  refine PySem.W.callWith_K (h₀ := X.base) I.ok.mod.kin kC (thn (ha.run pos pins s σ H _ I h) fun us s1 hh => ?_) he hpl
  obtain ⟨vs, H1, I1, r1, hl, q1⟩ := hh
  refine ⟨I1.kIn, ?_⟩
  show wpAny _ _ (call (.ref C) us) _ _ _
  have hlim := I1.nolimit
  have hk := I1.bk
  have KX := I1.kIn
  obtain ⟨hp, gg, dr, tk, os⟩ := s1
  obtain ⟨ns, io, ro⟩ := ini I1.ok.mod vs us hl r1
  obtain ⟨nm, q, N, bs, bm, sn, sub, ab, col, dd, k0, k1, k2, k3, k5, hC, hbm⟩ := cl
  have k : ∀ b o, hp.get? b = some o → ((hp.push (kdv_tup us)).push (excO C hp.objs.size)).get? b = some o := fun b o e => Heap.get?_push_of_some _ (Heap.get?_push_of_some _ e)
  have hget : ((hp.push (kdv_tup us)).push (excO C hp.objs.size)).get? (hp.objs.size + 1) = some (excO C hp.objs.size) := by heap_get
  have hnx : X.base.get? (hp.objs.size + 1) = none := by
    cases e : X.base.get? (hp.objs.size + 1) with
    | none => rfl
    | some o =>
      have z : hp.get? (hp.objs.size + 1) = some o := hk _ _ e
      exact absurd (Nat.lt_of_succ_lt (Heap.lt_size z)) (Nat.lt_irrefl _)
  refine wpAny_call (HandSPX.call_own PySem.F.excBase_ValueError (fun X => HandSPX.refsVE_contains X bm hbm) (KX _ _ hC) (looks_findIn KX iC) (fun self => bind_fn KX self tC) (by rw [← r1.length, hl, sizeLine_eq]; omega) ?_)
  refine io _ ⟨(hp.push (kdv_tup us)).push (excO C hp.objs.size), gg, dr, tk, os⟩ _ hp.objs.size _ (fun b o e => k b o (hk b o e)) (hlim.keeps k) hget hnx ?_ fun h' tk' d ⟨k', hx, dn, dne, hns⟩ => ⟨rfl, ?_⟩
  · have := hr.dp
    show X.A.depth + 1 + 1 < recursionLimit
    omega
  obtain ⟨t1, hx⟩ := hx
  show MkP X pins σ Q (.ref (hp.objs.size + 1)) ⟨h', gg, dr, tk', os⟩
  have old0 : ∀ b o, hp.get? b = some o → h'.get? b = some o := fun b o e => k' b o (Nat.ne_of_lt (Nat.lt_succ_of_lt (Heap.lt_size e))) (k b o e)
  have dbig : hp.objs.size ≤ d := by
    have z : hp.objs.size + 1 + 1 ≤ d := by
      first
        | (simpa only [Heap.size_push] using dn)
        | exact dn
        | (have q := dn; rw [Heap.size_push, Heap.size_push] at q; exact q)
    omega
  obtain ⟨G', g1, g2⟩ := restrict h' fun b => decide (b ≠ hp.objs.size + 1)
  have gk : ∀ b, b ≠ hp.objs.size + 1 → G'.get? b = h'.get? b := fun b hb => g1 b (decide_eq_true hb)
  have ge : G'.get? (hp.objs.size + 1) = none := g2 _ (by simp)
  have old : ∀ b o, hp.get? b = some o → G'.get? b = some o := fun b o q => (gk b (Nat.ne_of_lt (Nat.lt_succ_of_lt (Heap.lt_size q)))).trans (old0 b o q)
  have ob : ObjOk X.prog X.w (L2.upd H1 d (.xd (fv vs))) G' d (.xd (fv vs)) :=
    ⟨_, hns.at (fun o q => (gk d dne).trans q), ro⟩
  have J : Inv X pins σ (L2.upd H1 d (.xd (fv vs))) ⟨G', gg, dr, tk', os⟩ := I1.laid (t' := tk') old dbig ob
  refine ⟨hp.objs.size + 1, _, _, ⟨G', gg, dr, tk', os⟩, _, .ref C, some d, rfl, J, fun b o q => ?_, ge, hx, ⟨rfl, rfl⟩, rfl, rfl, ?_, rfl, I1.bare, raises_own rs.1 rs.2, q1 d (I1.hok.fresh dbig)⟩
  · by_cases hb : b = hp.objs.size + 1
    · have q' : G'.get? b = some o := q
      rw [hb, ge] at q'; cases q'
    · exact (gk b hb).symm.trans q
  · rw [upd_ne (Ne.symm dne)]
    exact I1.hok.fresh (Nat.le_succ _)
def sRaise (x : Str) (fs : List LV → List (Str × LV)) (g : LF) : LS := fun ls L => (g ls L).toS ls fun vs L1 => .err ⟨x, fs vs⟩ ls L1
theorem ms_raise (T : XMk X.prog X.w X.K X.mg X.base x n fs fv) (hc : X.calm = true) (hr : Room j X.A) (hj : 3 ≤ j) (tk : Takes X W) (ha : MA X W (a :: es) g) (hg : Gl X x) (hn : (a :: es).length = n := by rfl) (hdb : (x == ("__debug__" : Str)) = false := by decide)
    (he : starEach (a :: es) X.env = (false, eval a X.env) :: starEach es X.env := by rfl) (hpl : (backTo pos (starEach es X.env)).any (·.1) = false := by rfl) :
    MS X W (.Raise (some (.Call (.Name x p) (a :: es) [] pos)) none pos2) (sRaise x fs g) := by
  obtain ⟨C, f, gC, kC, rs0, cl, iC, tC, ini⟩ := T.ex
  obtain ⟨hl, t, pa, ha⟩ := ha
  refine ⟨_, ps_raise hc tk (pmk_x T.few gC kC rs0 cl iC tC ini hr hj pa hg hdb he hpl), fun m L H ls σ D S rs h => ha m L H ls σ _ S rs ?_⟩
  unfold sRaise at h
  cases hf : g ls L with
  | err e L1 => rw [hf] at h; exact fun m1 H1 C d S1 F1 ex => h m1 H1 σ C d S1 F1 (rs.mono F1) ex
  | bad => rw [hf] at h; exact h.elim
  | ok vs L1 =>
    rw [hf] at h
    have len := hl _ _ _ _ hf
    intro m1 H1 S1 F1 xs rx
    have hlen : xs.length = n := by rw [rx.length, len, hn]
    refine ⟨hlen, fun d hd => ?_⟩
    exact h m1 _ σ C d (S1.upd hd) (F1.trans (Fr.upd hd)) (rs.mono (F1.trans (Fr.upd hd))) ⟨gC, S1.outi hd, _, upd_same, RF.mono (Fr.upd hd) (T.rf _ _ _ _ (len.trans hn) rx)⟩
end
end G

end

section
set_option maxHeartbeats 4000000
namespace G
open PySem PySem.Spec PySem.Calls PyProof.Rows PySem.W L2
open PySem.HandSPX (excO refsVE)
def fs1 {α : Type} (f : Str) : List α → List (Str × α)
  | [v] => [(f, v)]
  | _ => []
theorem relO_one {v : V} {v' : Value} (r : RelV v v') (k f : Str) : RelO (List.lookup f [(k, v)]) (if f = k then some v' else none) := by
  by_cases hw : f = k
  · subst hw
    rw [if_pos rfl]
    have q : List.lookup f [(f, v)] = some v := by simp [List.lookup]
    rw [q]
    exact r
  · rw [if_neg hw]
    have qw : (f == k) = false := by simpa using hw
    have q2 : List.lookup f [(k, v)] = none := by simp [List.lookup, qw]
    rw [q2]
    trivial
/-- what the written part says of a class made by SymError.__init__ -/
structure XTxt (K : Frag) (mg : Str → Option Value) (x : Str) (C f : Addr) : Prop where
  gC : mg x = some (.ref C)
  kC : keepIn K (.ref C) = true
  exC : subIn K (.ref C) (.type "BaseException") = some true
  tyC : typeIn K (.ref C) = some (.type "type")
  iC : findIn K (.ref C) "__init__" = some (some (.ref f))
  tC : typeIn K (.ref f) = some (.type "function")
theorem xmk_sym {prog : Program} {w : World} {K : Frag} {mg : Str → Option Value} {base : Heap} {x : Str} {S C f : Addr} (T : SymFn prog K S f) (C0 : XCls K S C) (t : XTxt K mg x C f) : XMk prog w K mg base x 1 (fs1 "code") (fs1 "code") := by
  refine ⟨⟨C, f, t.gC, t.kC, ⟨t.exC, t.tyC⟩, C0.cls, t.iC, t.tC, fun M vs us hl r => ?_⟩, fun m H lvs vs hl r => ?_, by decide⟩
  · match vs, us, hl, r with
    | [v], [u], _, r =>
      cases r with
      | cons rv rn => exact ⟨_, fun A s y t0 R bk hlim hx hnx hroom hq => sym_init T C0 M bk hlim hx hnx (by omega) hq, fun y => relO_one rv "code" y⟩
  · match lvs, hl, r with
    | [v], _, r =>
      obtain ⟨y, rfl, ry⟩ := r.inv1
      exact ⟨y, [], rfl, ry, rfl⟩
/-! ### try .. except C as n: return .. -/
def sTry (i : Nat) (tbl : List (Str × Bool)) (f : LS) (g : LEx → LE) : LS := fun ls L => match f ls L with
  | .err ex ls' L' => match tbl.lookup ex.cls with
    | some true => if i < ls'.length then (match g ex (ls'.set i none) L' with
      | .ok v L2 => .ok (.rt v) ls' L2
      | _ => .bad) else .bad
    | some false => .err ex ls' L'
    | none => .bad
  | r => r
/-- the expression e in an except suite: the error in slot i -/
def MX (X : Cx) (i : Nat) (e : Expr) (f : LEx → LE) : Prop := ∀ (a : Addr) (oe : Obj) (cls : Value) (d : Option Addr) (pn : List (Addr × Obj)), Zc cls d oe → (∃ vs, oe.data = .fields vs) → ∃ t, PE (X.suite a ((a, oe) :: pn)) e t ∧
  ∀ ex C dd m L H ls σ Q, cls = .ref C → d = some dd → Sim X.K X.mg m H L → RS X.K X.mg m H ls σ → σ[i]? = some (some (.ref a)) → ExAt X.K X.mg m H ex C dd → EPost (X.suite a ((a, oe) :: pn)) (fun _ _ _ _ => False) σ m H (f ex ls L) Q → t σ H Q
section
variable {X : Cx} {W : WX} {x n : Str} {c : Value} {i : Nat} {body : List Stmt} {e : Expr} {np pos pos' rp : Pos} {f : LS} {g : LEx → LE} {tbl : List (Str × Bool)}
theorem RS.clr {K : Frag} {mg : Str → Option Value} {m : Mp} {H : Hp} {ls : LSt} {σ : L2.St} {v : Option V} (r : RS K mg m H ls σ) (i : Nat) : RS K mg m H (ls.set i none) (σ.set i v) := by
  refine ⟨by simp [r.1], fun j u e => ?_⟩
  by_cases h : j = i
  · subst h
    rw [List.getElem?_set] at e
    rw [if_pos rfl] at e
    split at e <;> cases e
  · rw [List.getElem?_set_ne (Ne.symm h)] at e ⊢
    exact r.2 j u e
theorem ms_try (hs : X.stack = X.env :: X.outer) (hf : X.env.frame = some X.env.locals) (hN : X.N.Nodup) (hi : X.N[i]? = some n) (hln : X.env.kindOf n = some .local) (hc : Names X x c) (tk : Takes X W)
    (htb : ∀ cls b C, tbl.lookup cls = some b → X.mg cls = some (.ref C) → exmOne X.K (.ref C) c = some b)
    (hb : ∀ W' pn xe, Takes (X.tr pn xe) W' → PassesOwn (model X.prog X.w) X.A X.env xe → MB (X.tr pn xe) W' body f) (hx : MX X i e g) :
    MS X W (.Try body [.ExceptHandler (some (.Name x np)) (some n) [.Return (some e) rp] pos'] [] [] pos) (sTry i tbl f g) := by
  refine ⟨_, ps_try_as hs hf hN hi hln hc tk
    (tb := fun W' D σ H => ∃ m L ls, Sim X.K X.mg m H L ∧ RS X.K X.mg m H ls σ ∧ SPost X W' m H D (f ls L))
    (ts := fun a cls d D σ H => ∃ ex C dd m L ls, cls = .ref C ∧ d = some dd ∧ Sim X.K X.mg m H L ∧ RS X.K X.mg m H ls σ ∧ σ[i]? = some (some (.ref a)) ∧ ExAt X.K X.mg m H ex C dd ∧ EPost X (fun _ _ _ _ => False) σ m H (g ex ls L) D.rt)
    (fun W' pn xe tk' po => ?_) (fun a oe cls d pn hz hv => ?_), fun m L H ls σ D S rs h => ?_⟩
  · obtain ⟨t, pt, q⟩ := hb W' pn xe tk' po
    exact ⟨fun pins s σ H D I ⟨m, L, ls, S, rs, h⟩ => pt.run pins s σ H D I (q m L H ls σ D S rs h)⟩
  · obtain ⟨t, pt, q⟩ := hx a oe cls d pn hz hv
    refine ⟨fun pins s σ H D I ⟨ex, C, dd, m, L, ls, e1, e2, S, rs, hi, ea, h⟩ => ?_⟩
    exact (pss_one (ps_ret pt)).run pins s σ H D I (q ex C dd m L H ls σ _ e1 e2 S rs hi ea h)
  · refine ⟨m, L, ls, S, rs, ?_⟩
    unfold sTry at h
    cases hfl : f ls L with
    | ok fl ls' L' => rw [hfl] at h; exact h
    | bad => rw [hfl] at h; exact h.elim
    | err ex ls' L' =>
      rw [hfl] at h
      dsimp only at h
      intro m' H' σ' C d S1 F1 rs1 ea
      cases ht : tbl.lookup ex.cls with
      | none => rw [ht] at h; exact h.elim
      | some b =>
        rw [ht] at h
        refine ⟨b, htb _ _ _ ht ea.1, fun hb a na => ?_, fun hb => ?_⟩
        · subst hb
          dsimp only at h
          split at h
          · rename_i hlt
            refine ⟨ex, C, d, m', L', ls'.set i none, rfl, rfl, S1, rs1.clr i, ?_, ea, ?_⟩
            · rw [rs1.1] at hlt
              rw [List.getElem?_set_self hlt]
            · cases hg : g ex (ls'.set i none) L' with
              | ok v L2 =>
                rw [hg] at h
                exact fun m2 H2 S2 F2 y ry => h m2 H2 S2 (F1.trans F2) y ry
              | err e2 L2 => rw [hg] at h; exact h.elim
              | bad => rw [hg] at h; exact h.elim
          · exact h.elim
        · subst hb
          exact h m' H' σ' C d S1 F1 rs1 ea
end
/-! ### e.f in the suite -/
def xFld (cs : List Str) (k : Str) : LEx → LE := fun ex _ L => if cs.contains ex.cls = true then lift (ex.fs.lookup k) L else .bad
def xTup2 (f g : LEx → LE) : LEx → LE := fun ex ls L => (f ex ls L).bind fun v L1 => (g ex ls L1).bind fun u L2 => .ok (.tup [v, u]) L2
section
variable {X : Cx} {i : Nat} {n : Str} {k : Str} {p pos : Pos} {cs : List Str}
theorem rf_lookup {K : Frag} {mg : Str → Option Value} {m : Mp} {H : Hp} {k : Str} {v : LV} : ∀ {fs : List (Str × LV)} {ps : List (Str × V)}, RF K mg m H fs ps → fs.lookup k = some v → ∃ x, ps.lookup k = some x ∧ Rv K mg m H v x
  | [], _, _, h => by cases h
  | (a, u) :: r, _, ⟨x, t, e, h, hr⟩, hl => by
    subst e
    simp only [List.lookup] at hl ⊢
    cases ha : k == a with
    | true => rw [ha] at hl; cases hl; exact ⟨x, rfl, h⟩
    | false => rw [ha] at hl; exact rf_lookup hr hl
theorem ExAt.mono {K : Frag} {mg : Str → Option Value} {m m1 : Mp} {H H1 : Hp} {ex : LEx} {C d : Addr} (F : Fr m H m1 H1) (ea : ExAt K mg m H ex C d) : ExAt K mg m1 H1 ex C d := by
  obtain ⟨q1, q2, ps, q3, q4⟩ := ea
  refine ⟨q1, fun z => ?_, ps, F.keep _ _ q3 q2, RF.mono F q4⟩
  rcases F.newi _ z with y | y
  · exact q2 y
  · rw [q3] at y; cases y
def CsOk (X : Cx) (cs : List Str) (k : Str) : Prop := ∀ x C, cs.contains x = true → X.mg x = some (.ref C) → XfC X.K C ∧ findIn X.K (.ref C) k = some none
theorem mx_fld (hN : X.N[i]? = some n) (hv : Vis X.env.scope n) (hx : CsOk X cs k) (hd : (n == ("__debug__" : Str)) = false := by decide) (hcd : (n == ("__classdict__" : Str)) = false := by decide)
    (hb : attributeBase (.Name n p) k X.env (eval (.Name n p) X.env) = eval (.Name n p) X.env := by rfl) :
    MX X i (.Attribute (.Name n p) k pos) (xFld cs k) := by
  intro a oe cls d pn hz hvs
  refine ⟨fun σ H Q => ∃ C, (XfC X.K C ∧ findIn X.K (.ref C) k = some none) ∧ tXf a cls d C k (tVar i) σ H Q, ⟨fun pins s σ H Q I ⟨C, ⟨h1, h2⟩, h⟩ => ?_⟩, fun ex C dd m L H ls σ Q e1 e2 S rs hi ea h => ?_⟩
  · have hvar : PE (X.suite a ((a, oe) :: pn)) (.Name n p) (tVar i) := pe_var hN hv hd hcd
    exact (pe_xf (X := X) (pos := pos) h1 h2 hz hvs hvar hb).run pins s σ H Q I h
  · unfold xFld at h
    split at h
    · rename_i hc
      obtain ⟨q1, q2, ps, q3, q4⟩ := ea
      refine ⟨C, hx _ _ hc q1, ?_⟩
      cases hl : ex.fs.lookup k with
      | none => rw [hl] at h; exact h.elim
      | some v =>
        rw [hl] at h
        obtain ⟨x, hx2, rx⟩ := rf_lookup q4 hl
        exact ⟨_, hi, rfl, e1, dd, ps, x, e2, q3, hx2, h m H S .refl x rx⟩
    · exact h.elim
theorem mx_tup2 {e1 e2 : Expr} {k2 : Nat} {f g : LEx → LE} (h1 : MX X i e1 f) (h2 : MX X i e2 g) (hs : starEach [e1, e2] X.env = (false, eval e1 X.env) :: starEach [e2] X.env := by rfl) (hs2 : starEach [e2] X.env = (false, eval e2 X.env) :: starEach [] X.env := by rfl) :
    MX X i (.Tuple [e1, e2] k2 pos) (xTup2 f g) := by
  intro a oe cls d pn hz hvs
  obtain ⟨t, pt, ht⟩ := h1 a oe cls d pn hz hvs
  obtain ⟨u, pu, hu⟩ := h2 a oe cls d pn hz hvs
  refine ⟨_, pe_tup (pa_cons pt (pa_cons pu pa_nil hs2) hs), fun ex C dd m L H ls σ Q q1 q2 S rs hi ea h => ht ex C dd m L H ls σ _ q1 q2 S rs hi ea (Post.bind h fun v L1 m1 H1 S1 F1 h1 x rx => ?_)⟩
  refine hu ex C dd m1 L1 H1 ls σ _ q1 q2 S1 (rs.mono F1) hi (ExAt.mono F1 ea) (Post.bind h1 fun v2 L2 m2 H2 S2 F2 h2 y ry => ?_)
  refine ⟨by show 2 ≤ sizeLine; rw [sizeLine_eq]; decide, fun p hp => ?_⟩
  have rx2 := Rv.mono F2 _ _ rx
  exact h2 m2 _ (S2.upd hp) (Fr.upd hp) _ ⟨p, [x, y], rfl, ⟨upd_same, S2.out hp⟩, RvL.mono (Fr.upd hp) _ _ ⟨x, [y], rfl, rx2, y, [], rfl, ry, rfl⟩⟩
end
end G

end

namespace G
open PySem PySem.Spec PyProof.Rows L2
theorem hu_room {k : Nat} {A : Around} (hr : Room k A) : A.units + 65 < cLine := by have := hr.un; omega
section
variable {P : Program} {w : World} {K : PySem.W.Frag} {mg : Str → Option Value} {base : Heap} {N : List Str} {x : Str} {sc : Scope} {f : Addr} {cd : Value} {A : Around} {outer : List Env} {s : Shared} {H : Hp} {E : XK}
theorem tk_cx : Takes (cxOf (L2.CX P w) P w K mg base N x sc f cd A outer s H E) (fun cls d _ H => E cls d H) := takes_of rfl rfl rfl rfl
theorem hp_cx : PassesOwn (model (cxOf (L2.CX P w) P w K mg base N x sc f cd A outer s H E).prog (cxOf (L2.CX P w) P w K mg base N x sc f cd A outer s H E).w) (cxOf (L2.CX P w) P w K mg base N x sc f cd A outer s H E).A (cxOf (L2.CX P w) P w K mg base N x sc f cd A outer s H E).env (cxOf (L2.CX P w) P w K mg base N x sc f cd A outer s H E).xe := passes_of rfl
theorem hc_cx : (cxOf (L2.CX P w) P w K mg base N x sc f cd A outer s H E).calm = true := rfl
end
def pIadd (_ : LH) : LV → LV → Option LV
  | .int i, .int j => some (.int (i + j))
  | _, _ => none
theorem p_iadd {X : Cx} : P2 X (rI0 fun i j => .int (i + j)) pIadd := p_int0 fun L v w z h => by
  cases v <;> cases w <;> first | (cases h; done) | (cases h; exact ⟨_, _, rfl, rfl, rfl⟩)
theorem hc_blk {X : Cx} (h : X.calm = true) (s : Shared) (H : Hp) (scope : Scope) (C : Addr) (cl : List (Str × Addr)) (fp : List Addr) : (X.blk s H scope (compEnvC scope cl C X.env) fp).calm = true := h
theorem hc_tr {X : Cx} (h : X.calm = true) (pn : List (Addr × Obj)) (xe : Value → Shared → Prop) : (X.tr pn xe).calm = true := h
theorem takes_wf {X : Cx} : Takes X WF := fun u s' ⟨_, _, _, _, _, _, _, _, _, _, _, _, _, _, _, _, h⟩ => h.elim
end G

namespace G
open PySem PySem.Spec PyProof.Rows L2
/-! ### a written dict with text keys -/
def ktab : List DictEntry → Option (List (Str × Value))
  | [] => some []
  | e :: r => match e.key, ktab r with
    | .str k _, some t => some ((k, e.val) :: t)
    | _, _ => none
theorem ktab_find {name : Str} : ∀ {es : List DictEntry} {t : List (Str × Value)}, ktab es = some t → es.any (·.refKey) = false ∧ (es.find? (·.key.isStr name)).map (·.val) = t.lookup name
  | [], t, h => by cases h; exact ⟨rfl, rfl⟩
  | e :: r, t, h => by
    obtain ⟨hash, key, val⟩ := e
    cases key with
    | str k tk =>
      simp only [ktab] at h
      cases hr : ktab r with
      | none => rw [hr] at h; cases h
      | some t' =>
        rw [hr] at h
        cases h
        obtain ⟨h1, h2⟩ := ktab_find (name := name) hr
        refine ⟨?_, ?_⟩
        · rw [List.any_cons, h1]; rfl
        · rw [List.find?_cons]
          have sym : (Value.isStr (.str k tk) name) = (name == k) := by
            show (k == name) = (name == k)
            cases hk : k == name with
            | true =>
              have e : k = name := by simpa using hk
              rw [e]; simp
            | false =>
              have e : ¬ k = name := by simpa using hk
              cases hq : name == k with
              | false => rfl
              | true => exact absurd (show k = name by have : name = k := by simpa using hq
                                                       exact this.symm) e
          show (match Value.isStr (.str k tk) name with | true => some _ | false => _).map _ = _
          rw [sym]
          simp only [List.lookup]
          cases name == k with
          | true => rfl
          | false => exact h2
    | _ => simp only [ktab] at h; cases h
theorem ktab_ns {K : PySem.W.Frag} {d : Addr} {es : Array DictEntry} {n : Nat} {t : List (Str × Value)} {z : Str} (h : K.lookup d = some ⟨.type "dict", none, .dict es n, #[]⟩) (e : ktab es.toList = some t) : PySem.W.nsIn K d z = some (t.lookup z) := by
  obtain ⟨h1, h2⟩ := ktab_find (name := z) e
  unfold PySem.W.nsIn
  rw [h]
  dsimp only
  cases hf : es.toList.find? (·.key.isStr z) with
  | none => rw [hf] at h2; simp only [Option.map_none] at h2; dsimp only; rw [h1, ← h2]; rfl
  | some en => rw [hf] at h2; simp only [Option.map_some] at h2; dsimp only; rw [h2]
/-- the values of a written dict -/
def KVs (K : PySem.W.Frag) (mg : Str → Option Value) : List (Str × Value) → List (Str × LV) → Prop
  | [], [] => True
  | p :: t, q :: u => (p.1 = q.1 ∧ ∃ y, RelV y p.2 ∧ ∀ (m : Mp) (H : Hp), Rv K mg m H q.2 y) ∧ KVs K mg t u
  | _, _ => False
theorem KVs.look {K : PySem.W.Frag} {mg : Str → Option Value} {z : Str} : ∀ {t : List (Str × Value)} {u : List (Str × LV)}, KVs K mg t u → (t.lookup z).isSome = (u.lookup z).isSome ∧ ∀ v, u.lookup z = some v → ∃ a y, t.lookup z = some a ∧ RelV y a ∧ ∀ (m : Mp) (H : Hp), Rv K mg m H v y
  | [], [], _ => ⟨rfl, fun v h => by cases h⟩
  | (k, a) :: t, (k', v) :: u, ⟨⟨e, y, r, hv⟩, hr⟩ => by
    cases e
    simp only [List.lookup]
    cases z == k with
    | true => exact ⟨rfl, fun v' h => by cases h; exact ⟨a, y, rfl, r, hv⟩⟩
    | false => exact hr.look
  | [], _ :: _, h => h.elim
  | _ :: _, [], h => h.elim
structure KdOk (K : PySem.W.Frag) (w : World) (mg : Str → Option Value) (x : Str) (tb : List (Str × LV)) : Prop where
  ex : ∃ d es n t, mg x = some (.ref d) ∧ KDict K w d es n ∧ ktab es.toList = some t ∧ KVs K mg t tb
def kdGet (x : Str) (tb : List (Str × LV)) (_ : LH) (v w : LV) : Option LV := match v, w with
  | .fn n, .str z => if n = x then tb.lookup z else none
  | _, _ => none
def kdIn (x : Str) (tb : List (Str × LV)) (_ : LH) (v w : LV) : Option LV := match v, w with
  | .str z, .fn n => if n = x then some (.bl (tb.lookup z).isSome) else none
  | _, _ => none
def kdNin (x : Str) (tb : List (Str × LV)) (_ : LH) (v w : LV) : Option LV := match v, w with
  | .str z, .fn n => if n = x then some (.bl (!(tb.lookup z).isSome)) else none
  | _, _ => none
section
variable {X : Cx} {W : WX} {x : Str} {tb : List (Str × LV)} {p pos : Pos} {a b : Expr} {fa fb : LE}
theorem me_kname (hg : Gl X x) (D : KdOk X.K X.w X.mg x tb) (hd : (x == ("__debug__" : Str)) = false) : ME X W (.Name x p) (eC (.fn x)) := by
  obtain ⟨d, es, n, t, hm, _⟩ := D.ex
  exact me_glob hg ⟨_, .ref d, hm, rfl, fun m H L S => ⟨d, hm, rfl⟩⟩ hd
theorem p_kget (D : KdOk X.K X.w X.mg x tb) : P2 X (rIxD X.K X.w) (kdGet x tb) := by
  intro m L H v w y z u Q S rv rw' h f
  obtain ⟨d, es, n, t, hm, kd, kt, kv⟩ := D.ex
  unfold kdGet at h
  split at h
  · rename_i n' z'
    split at h
    · rename_i e
      subst e
      obtain ⟨d', hm', rfl⟩ := rv
      rw [hm] at hm'
      cases hm'
      cases rw'
      obtain ⟨a, y, h1, h2, h3⟩ := kv.look.2 u h
      exact ⟨d, _, y, rfl, rfl, ⟨es, n, a, kd.at_, kd.lit, by rw [ktab_ns kd.at_ kt, h1], h2⟩, f m H y S .refl (h3 m H)⟩
    · cases h
  · cases h
theorem me_kitem (hg : Gl X x) (D : KdOk X.K X.w X.mg x tb) (hs : PlainIx b) (hb : ME X W b fb) (hd : (x == ("__debug__" : Str)) = false := by decide) : ME X W (.Subscript (.Name x p) b pos) (e2 (kdGet x tb) (eC (.fn x)) fb) :=
  me_2 (fun _ _ pa pb => pe_ix ix_kdict pa pb hs) (p_kget D) (me_kname hg D hd) hb
def rKin (X : Cx) (d : Addr) (neg : Bool) : R2 := fun x y H Q => ∃ (z : Str) (r : Option Value), x = .str z ∧ y = .ref d ∧ PySem.W.nsIn X.K d z = some r ∧ Q (.bl (if neg then !r.isSome else r.isSome)) H
theorem p_kin (D : KdOk X.K X.w X.mg x tb) : ∃ d es n, KDict X.K X.w d es n ∧ P2 X (rKin X d false) (kdIn x tb) ∧ P2 X (rKin X d true) (kdNin x tb) := by
  obtain ⟨d, es, n, t, hm, kd, kt, kv⟩ := D.ex
  refine ⟨d, es, n, kd, ?_, ?_⟩
  · intro m L H v w y z u Q S rv rw' h f
    unfold kdIn at h
    split at h
    · rename_i z' n'
      split at h
      · rename_i e
        subst e
        obtain ⟨d', hm', rfl⟩ := rw'
        rw [hm] at hm'
        cases hm'
        cases rv
        cases h
        refine ⟨_, _, rfl, rfl, ktab_ns kd.at_ kt, ?_⟩
        rw [if_neg Bool.false_ne_true, kv.look.1]
        exact f m H _ S .refl rfl
      · cases h
    · cases h
  · intro m L H v w y z u Q S rv rw' h f
    unfold kdNin at h
    split at h
    · rename_i z' n'
      split at h
      · rename_i e
        subst e
        obtain ⟨d', hm', rfl⟩ := rw'
        rw [hm] at hm'
        cases hm'
        cases rv
        cases h
        refine ⟨_, _, rfl, rfl, ktab_ns kd.at_ kt, ?_⟩
        rw [if_pos rfl, kv.look.1]
        exact f m H _ S .refl rfl
      · cases h
    · cases h
theorem me_kin (hg : Gl X x) (D : KdOk X.K X.w X.mg x tb) (ha : ME X W a fa) (hd : (x == ("__debug__" : Str)) = false := by decide) (hm : behindInMarks .In (.Name x p) = false := by rfl) : ME X W (.Compare a [.In] [.Name x p] pos) (e2 (kdIn x tb) fa (eC (.fn x))) := by
  obtain ⟨d, es, n, kd, h1, h2⟩ := p_kin D
  exact me_cmp (op_in_kd kd) h1 hm ha (me_kname hg D hd)
theorem mt_kin (hg : Gl X x) (D : KdOk X.K X.w X.mg x tb) (ha : ME X W a fa) (hd : (x == ("__debug__" : Str)) = false := by decide) (hm : behindInMarks .In (.Name x p) = false := by rfl) : MT X W (.Compare a [.In] [.Name x p] pos) (tOf (e2 (kdIn x tb) fa (eC (.fn x)))) := by
  obtain ⟨d, es, n, kd, h1, h2⟩ := p_kin D
  exact mt_cmp (op_in_kd kd) h1 hm ha (me_kname hg D hd)
theorem mt_knin (hg : Gl X x) (D : KdOk X.K X.w X.mg x tb) (ha : ME X W a fa) (hd : (x == ("__debug__" : Str)) = false := by decide) (hm : behindInMarks .NotIn (.Name x p) = false := by rfl) : MT X W (.Compare a [.NotIn] [.Name x p] pos) (tOf (e2 (kdNin x tb) fa (eC (.fn x)))) := by
  obtain ⟨d, es, n, kd, h1, h2⟩ := p_kin D
  exact mt_cmp (op_notIn_kd kd) h2 hm ha (me_kname hg D hd)
end

/-! ### a def that a slot holds -/
def eFnL (i : Nat) (tb : List (Str × Sem')) (f : LF) : LE := fun ls L => match ls[i]? with
  | some (some (.fn n)) => match tb.lookup n with
    | some sem => (f ls L).bind fun vs L1 => sem vs L1
    | none => .bad
  | _ => .bad
/-- the defs by name, one argument each -/
def HeldOk (P : Program) (w : World) (K : PySem.W.Frag) (mg : Str → Option Value) (base : Heap) (k n : Nat) (tb : List (Str × Sem')) : Prop := ∀ x sem, tb.lookup x = some sem → Cal P w K mg base k x n sem
section
variable {X : Cx} {W : WX} {x : Str} {p pos : Pos} {e : Expr} {es : List Expr} {g : LF}
theorem me_callL {j k n : Nat} {tb : List (Str × Sem')} (i : Nat) (A : HeldOk X.prog X.w X.K X.mg X.base k n tb) (hr : Room j X.A) (hk : k ≤ j) (tk : Takes X W) (ha : MA X W (e :: es) g) (hN : X.N[i]? = some x := by rfl)
    (hv : Vis X.env.scope x := by first | exact Or.inl rfl | exact Or.inr (Or.inl rfl) | exact Or.inr (Or.inr rfl)) (hn : (e :: es).length = n := by rfl) (hdb : (x == ("__debug__" : Str)) = false := by decide) (hcd : (x == ("__classdict__" : Str)) = false := by decide)
    (he : starEach (e :: es) X.env = (false, eval e X.env) :: starEach es X.env := by rfl) (hpl : (backTo pos (starEach es X.env)).any (·.1) = false := by rfl) : ME X W (.Call (.Name x p) (e :: es) [] pos) (eFnL i tb g) := by
  obtain ⟨hl, t, pa, ha⟩ := ha
  refine ⟨fun σ H Q => ∃ (f : Addr) (nm : Str) (sem : Sem'), σ[i]? = some (some (.ref f)) ∧ X.mg nm = some (.ref f) ∧ tb.lookup nm = some sem ∧ t σ H fun vs H1 => spG X.K X.mg n sem vs H1 Q (WE W σ), ⟨fun pins s σ H Q I h => ?_⟩, fun m L H ls σ Q S rs q => ?_⟩
  · obtain ⟨f, nm, sem, hs, hm, hS, ht⟩ := h
    obtain ⟨f', fd, ps, hm', kp, hpn, hb, G⟩ := (A nm sem hS).ex
    rw [hm] at hm'
    cases hm'
    refine wpAny_Call_Name_kw (thn ((pe_var (pos := p) hN hv hdb hcd).run pins s σ H (fun v H1 => v = .ref f ∧ H1 = H) I ⟨.ref f, hs, rfl, rfl⟩) fun u s1 ⟨v, H1, I1, r1, q1⟩ => ?_)
    obtain ⟨rfl, rfl⟩ := q1
    cases r1
    refine PySem.W.callWith_K (h₀ := X.base) I.ok.mod.kin kp (thn (pa.run pos pins s1 σ _ _ I1 ht) fun us s2 ⟨vs, H2, I2, r, q⟩ => ⟨I2.kIn, ?_⟩) he hpl
    exact run_fnS G (hr.mono hk) hb (passAt tk σ) I2 r q
  · unfold eFnL at q
    split at q
    · rename_i nm hs
      obtain ⟨x', hx', f, hm, rfl⟩ := rs.2 i _ hs
      cases hS : tb.lookup nm with
      | none => rw [hS] at q; exact q.elim
      | some sem =>
        rw [hS] at q
        refine ⟨f, nm, sem, hx', hm, hS, ha m L H ls σ _ S rs ?_⟩
        cases hf : g ls L with
        | err e L1 => rw [hf] at q; exact q
        | bad => rw [hf] at q; exact q
        | ok vs L1 =>
          rw [hf] at q
          have len := hl _ _ _ _ hf
          intro m1 H1 S1 F1 xs rx
          refine ⟨by rw [rx.length, len, hn], m1, L1, vs, S1, rx, ?_⟩
          have q := Post.trans q F1
          dsimp only [Res.bind] at q
          cases hs : sem vs L1 with
          | ok v L2 => rw [hs] at q; exact q
          | err e L2 => rw [hs] at q; exact q
          | bad => rw [hs] at q; exact q
    · exact q.elim
end

/-! ### {k: v} -/
section
variable {X : Cx} {W : WX} {k v : Expr} {fk fv : LE} {pos : Pos}
def eDic1K (fk fv : LE) : LE := fun ls L => (fk ls L).bind fun k L1 => (fv ls L1).bind fun v L2 => if (kOf k).isSome = true then .ok (.ref L2.length) (L2 ++ [.dic false [(k, v)]]) else .bad
theorem me_dic1K (hk : ME X W k fk) (hv : ME X W v fv) : ME X W (.Dict [some k] [v] pos) (eDic1K fk fv) := by
  obtain ⟨tk, pk, hk⟩ := hk
  obtain ⟨tv, pv, hv⟩ := hv
  refine ⟨_, pe_disp (pps_cons pk pv pps_nil) rfl rfl (by simp) (Nat.le_of_ble_eq_true rfl), fun m L H ls σ Q S rs q p hp => ?_⟩
  have F0 : Fr m H (m.add p) (L2.upd H p (.dK [])) := (Fr.upd hp).add hp
  have S0 : Sim X.K X.mg (m.add p) (L2.upd H p (.dK [])) L := S.add hp
  have rs0 := rs.mono F0
  show tk σ _ fun x H1 => tv σ H1 fun y H2 => _
  unfold eDic1K at q
  refine hk _ _ _ ls σ _ S0 rs0 ?_
  cases hf : fk ls L with
  | err e L1 => rw [hf] at q; exact fun m1 H1 C d S1 F1 ex => q m1 H1 C d S1 (F0.trans F1) ex
  | bad => rw [hf] at q; exact q.elim
  | ok kl L1 =>
    rw [hf] at q
    intro m1 H1 S1 F1 x rx
    refine hv _ _ _ ls σ _ S1 (rs0.mono F1) ?_
    cases hg : fv ls L1 with
    | err e L2 => dsimp only [Res.bind] at q; rw [hg] at q; exact fun m2 H2 C d S2 F2 ex => q m2 H2 C d S2 ((F0.trans F1).trans F2) ex
    | bad => dsimp only [Res.bind] at q; rw [hg] at q; exact q.elim
    | ok vl L2 =>
      dsimp only [Res.bind] at q
      rw [hg] at q
      dsimp only [Res.bind] at q
      intro m2 H2 S2 F2 y ry
      split at q
      · rename_i hkk
        obtain ⟨c, hc⟩ := Option.isSome_iff_exists.mp hkk
        have F12 := F1.trans F2
        have np : p ∉ (m.add p).ι := S.outi hp
        have e2 : H2 p = some (.dK []) := F12.keep p _ upd_same np
        have mD : m2.M p := F12.mono p (.inr rfl)
        have ni : p ∉ m2.ι := fun z => by
          rcases F12.newi p z with w | w
          · exact np w
          · rw [upd_same] at w; cases w
        have ex : x = kV c := by
          cases kl with
          | int i => cases hc; cases rx; rfl
          | str t => cases hc; cases rx; rfl
          | _ => cases hc
        refine ⟨e2, [(c, y)], by rw [ex]; rfl, Nat.le_of_ble_eq_true rfl, ?_⟩
        refine q (m2.push p mD) _ ((S2.poke mD ni).push ni ⟨[(c, y)], upd_same, c, y, [], rfl, hc, Rv.push _ _ (Rv.poke mD _ _ ry), rfl⟩) ((((F0.trans F12)).poke hp).push hp) (.ref p) ⟨p, ?_, rfl⟩
        show (m2.ι ++ [p])[L2.length]? = some p
        rw [← S2.len, List.getElem?_append_right (Nat.le_refl _), Nat.sub_self]
        rfl
      · exact q.elim
end
end G

section
set_option maxHeartbeats 1000000
namespace G
open PySem PySem.Spec PyProof.Rows L2
/-! ### [elt for tg in iter if .. for tg1 in iter1 if ..] -/
def comp2L (g : LG) (tt : LT) (chk : LH → Bool) (vs : List Nat) (fi1 : LI) (g1 : LG) (tt1 : LT) (fe : LE) (vs1 : List Nat) : List LV → LF
  | [] => fun _ L => .ok [] L
  | x :: r => fun ls L => match g x (wipeL ls vs) L with
    | none => .bad
    | some ls1 => (tt ls1 L).strip.bind fun b L1 => if b = true then (fi1 ls1 L1).strip.bind fun p L2 => if chk L2 = true then (compL g1 tt1 fe (fun L => chk L && p.2 L) vs1 p.1 ls1 L2).bind fun ys L3 => (comp2L g tt chk vs fi1 g1 tt1 fe vs1 r ls L3).bind fun zs L4 => .ok (ys ++ zs) L4 else .bad
      else if chk L1 = true then comp2L g tt chk vs fi1 g1 tt1 fe vs1 r ls L1 else .bad
theorem comp2L_cons {g : LG} {tt : LT} {chk : LH → Bool} {vs : List Nat} {fi1 : LI} {g1 : LG} {tt1 : LT} {fe : LE} {vs1 : List Nat} {x : LV} {r : List LV} {ls : LSt} {L : LH} : comp2L g tt chk vs fi1 g1 tt1 fe vs1 (x :: r) ls L = match g x (wipeL ls vs) L with
    | none => .bad
    | some ls1 => (tt ls1 L).strip.bind fun b L1 => if b = true then (fi1 ls1 L1).strip.bind fun p L2 => if chk L2 = true then (compL g1 tt1 fe (fun L => chk L && p.2 L) vs1 p.1 ls1 L2).bind fun ys L3 => (comp2L g tt chk vs fi1 g1 tt1 fe vs1 r ls L3).bind fun zs L4 => .ok (ys ++ zs) L4 else .bad
      else if chk L1 = true then comp2L g tt chk vs fi1 g1 tt1 fe vs1 r ls L1 else .bad := rfl
def fComp2 (it : LI) (g : LG) (tt : LT) (vs : List Nat) (fi1 : LI) (g1 : LG) (tt1 : LT) (fe : LE) (vs1 : List Nat) : LF := fun ls L => (it ls L).bind fun p L1 => match comp2L g tt p.2 vs fi1 g1 tt1 fe vs1 p.1 ls L1 with
  | .ok ys L2 => if ys.length ≤ sizeLine then .ok ys L2 else .bad
  | _ => .bad
theorem ok_bind {α β : Type} {r : Res α} {k : α → LH → Res β} {b : β} {L : LH} (h : Res.ok b L = r.bind k) : ∃ a L1, r = .ok a L1 ∧ k a L1 = .ok b L := by
  cases r with
  | ok a L1 => exact ⟨a, L1, rfl, h.symm⟩
  | err e L1 => cases h
  | bad => cases h
theorem ok_strip {α : Type} {r : Res α} {a : α} {L : LH} (h : r.strip = .ok a L) : r = .ok a L := by
  cases r with
  | ok a L1 => cases h; rfl
  | err e L1 => cases h
  | bad => cases h
theorem PI.weak {X : Cx} {tg e : Expr} {t u : TI} (h : PI X tg e t) (k : ∀ σ H R, u σ H R → t σ H R) : PI X tg e u := ⟨fun pins s σ H R I q => h.run pins s σ H R I (k σ H R q)⟩
section
variable {X : Cx} {W : WX} {elt tg iter tg1 iter1 : Expr} {ifs ifs1 : List Expr} {scope : Scope} {pos : Pos} {fi fi1 : LI} {g g1 : LG} {tt tt1 : LT} {fe : LE} {ix ix1 : List Nat}
theorem keep_D {m m' : Mp} {H H' : Hp} {D : Addr} {o : HO} (F : Fr m H m' H') (e : H D = some o) (n : D ∉ m.ι) (M : m.M D) : H' D = some o ∧ D ∉ m'.ι ∧ m'.M D :=
  ⟨F.keep _ _ e n, fun z => (F.newi D z).elim n (fun y => by rw [e] at y; cases y), F.mono D M⟩
theorem RS.mono1 {K : PySem.W.Frag} {mg : Str → Option Value} {m m' : Mp} {H H' : Hp} (p : Fr1 m H m' H') {ls : LSt} {σ : L2.St} (h : RS K mg m H ls σ) : RS K mg m' H' ls σ :=
  ⟨h.1, fun i v e => let ⟨x, e', r⟩ := h.2 i v e; ⟨x, e', Rv.mono1 p v x r⟩⟩
theorem tlc2_core {wi wi1 : TI} {gt gt1 : TG} {t2 t21 : TT} {te : TE} {vs vs1 : List Nat} (hx : ∀ j ∈ ix, j ∈ vs) (hx1 : ∀ j ∈ ix1, j ∈ vs1)
    (hi : ∀ m L H ls σ R, Sim X.K X.mg m H L → RS X.K X.mg m H ls σ → Post X W σ m H (fun p L' m' H' => p.2 L' = true → ∀ J, ItOk X J p.1 p.2 m' H' → R J H') (fi ls L) → wi σ H R)
    (hg : ∀ m L H ls σ v x ls' Q, Sim X.K X.mg m H L → RS X.K X.mg m H ls σ → Rv X.K X.mg m H v x → g v ls L = some ls' → (∀ σ', RS X.K X.mg m H ls' σ' → Same1 ix σ σ' → Q σ' H) → gt x σ H Q)
    (ht : ∀ m L H ls σ Q, Sim X.K X.mg m H L → RS X.K X.mg m H ls σ → TPost X WF σ m H (tt ls L) Q → t2 σ H Q)
    (hi1 : ∀ m L H ls σ R, Sim X.K X.mg m H L → RS X.K X.mg m H ls σ → Post X WF σ m H (fun p L' m' H' => p.2 L' = true → ∀ J, ItOk X J p.1 p.2 m' H' → R J H') (fi1 ls L) → wi1 σ H R)
    (hg1 : ∀ m L H ls σ v x ls' Q, Sim X.K X.mg m H L → RS X.K X.mg m H ls σ → Rv X.K X.mg m H v x → g1 v ls L = some ls' → (∀ σ', RS X.K X.mg m H ls' σ' → Same1 ix1 σ σ' → Q σ' H) → gt1 x σ H Q)
    (ht1 : ∀ m L H ls σ Q, Sim X.K X.mg m H L → RS X.K X.mg m H ls σ → TPost X WF σ m H (tt1 ls L) Q → t21 σ H Q)
    (he : ∀ m L H ls σ Q, Sim X.K X.mg m H L → RS X.K X.mg m H ls σ → EPost X WF σ m H (fe ls L) Q → te σ H Q) (chk0 : ∀ ls L p L', fi ls L = .ok p L' → p.2 L' = true) (chk1 : ∀ ls L p L', fi1 ls L = .ok p L' → p.2 L' = true)
    {m : Mp} {L : LH} {H : Hp} {ls : LSt} {σ : L2.St} {Q : VK} (S : Sim X.K X.mg m H L) (rs : RS X.K X.mg m H ls σ) (q : FPost X W σ m H (fComp2 fi g tt vs fi1 g1 tt1 fe vs1 ls L) Q) : tLc2 wi gt t2 wi1 gt1 t21 te vs vs1 σ H Q := by
  have h0 := chk0 ls L
  refine hi m L H ls σ _ S rs ?_
  unfold fComp2 at q
  cases hf : fi ls L with
  | err e L1 => rw [hf] at q; exact q
  | bad => rw [hf] at q; exact q
  | ok p L1 =>
    obtain ⟨xs, chk⟩ := p
    rw [hf] at q
    have hchk := h0 _ _ hf
    intro m1 H1 S1 F1 _ J ok D hD
    dsimp only [Res.bind] at q
    cases hres : comp2L g tt chk vs fi1 g1 tt1 fe vs1 xs ls L1 with
    | err e L2 => rw [hres] at q; exact q.elim
    | bad => rw [hres] at q; exact q.elim
    | ok res Lf =>
      rw [hres] at q
      dsimp only at q
      split at q
      · rename_i hsz
        have nD : H D = none := F1.fresh S1 hD
        refine ⟨fun i n H' => ∃ m' L' acc vacc, n = xs.length - i ∧ i ≤ xs.length ∧ Sim X.K X.mg m' H' L' ∧ Fr m1 H1 m' H' ∧ m'.M D ∧ D ∉ m'.ι ∧ H' D = some (.lst vacc) ∧ RvL X.K X.mg m' H' acc vacc ∧ chk L' = true ∧
            ∃ ys, comp2L g tt chk vs fi1 g1 tt1 fe vs1 (xs.drop i) ls L' = .ok ys Lf ∧ acc ++ ys = res,
          ⟨xs.length, m1.add D, L1, [], [], by simp, Nat.zero_le _, S1.add hD, (Fr.upd hD).add hD, .inr rfl, S1.outi hD, upd_same, rfl, hchk, res, by rw [List.drop_zero]; exact hres, rfl⟩, ?_⟩
        rintro i n H' ⟨m', L', acc, vacc, rfl, hle, S', F', mD, iD, eD, rA, ck', ys0, tot, hacc⟩
        obtain ⟨ok1, ok2⟩ := ok i m' H' L' S' F'.to2 ck'
        by_cases hlt : i < xs.length
        · have hxi : xs[i]? = some xs[i] := List.getElem?_eq_getElem hlt
          rw [List.drop_eq_getElem_cons hlt, comp2L_cons] at tot
          obtain ⟨go, yl⟩ := ok1 _ hxi
          refine .inr ⟨go, fun H2 => ∃ m2 L2 acc2 vacc2, Sim X.K X.mg m2 H2 L2 ∧ Fr m1 H1 m2 H2 ∧ m2.M D ∧ D ∉ m2.ι ∧ H2 D = some (.lst vacc2) ∧ RvL X.K X.mg m2 H2 acc2 vacc2 ∧ chk L2 = true ∧
              ∃ ys, comp2L g tt chk vs fi1 g1 tt1 fe vs1 (xs.drop (i + 1)) ls L2 = .ok ys Lf ∧ acc2 ++ ys = res,
            fun H2 ⟨m2, L2, acc2, vacc2, a1, a2, a3, a4, a5, a6, a7, a8⟩ => ⟨xs.length - (i + 1), by show xs.length - (i + 1) < xs.length - i; omega, m2, L2, acc2, vacc2, rfl, hlt, a1, a2, a3, a4, a5, a6, a7, a8⟩, fun x H3 hy => ?_⟩
          obtain ⟨S3, F3, r3⟩ := yl x H3 hy
          cases hgx : g xs[i] (wipeL ls vs) L' with
          | none => rw [hgx] at tot; cases tot
          | some ls1 =>
            rw [hgx] at tot
            dsimp only at tot
            have rs3 := (((rs.mono F1).mono F').mono F3).wipe vs
            refine hg m' L' H3 _ _ xs[i] x ls1 _ S3 rs3 r3 hgx fun σ4 rs4 s4 => ⟨wipe_same s4 hx, ht m' L' H3 ls1 σ4 _ S3 rs4 ?_⟩
            obtain ⟨b, L4, htt, tot⟩ := ok_bind tot.symm
            rw [ok_strip htt]
            intro m4 H4 S4 F4
            obtain ⟨eD3, iD3, mD3⟩ := keep_D F3 eD iD mD
            obtain ⟨eD4, iD4, mD4⟩ := keep_D F4 eD3 iD3 mD3
            have rA4 := RvL.mono F4 _ _ (RvL.mono F3 _ _ rA)
            cases b with
            | false =>
              rw [if_neg Bool.false_ne_true] at tot
              refine iteF ?_
              by_cases ck4 : chk L4 = true
              · rw [if_pos ck4] at tot
                exact ⟨m4, L4, acc, vacc, S4, (F'.trans F3).trans F4, mD4, iD4, eD4, rA4, ck4, ys0, tot, hacc⟩
              · rw [if_neg ck4] at tot; cases tot
            | true =>
              rw [if_pos rfl] at tot
              refine iteT ?_
              obtain ⟨p1, L5, hf1, tot⟩ := ok_bind tot.symm
              obtain ⟨xs1, chkI⟩ := p1
              have hck1 := chk1 _ _ _ _ (ok_strip hf1)
              by_cases ck5 : chk L5 = true
              · rw [if_pos ck5] at tot
                refine hi1 m4 L4 H4 ls1 σ4 _ S4 (rs4.mono F4) ?_
                rw [ok_strip hf1]
                intro m5 H5 S5 F5 _ J1 okJ
                obtain ⟨eD5, iD5, mD5⟩ := keep_D F5 eD4 iD4 mD4
                have rA5 := RvL.mono F5 _ _ rA4
                have rs5 : RS X.K X.mg m5 H5 ls1 σ4 := (rs4.mono F4).mono F5
                obtain ⟨y1, L6, hc1, tot⟩ := ok_bind tot.symm
                obtain ⟨z1, L7, hc2, tot⟩ := ok_bind tot.symm
                have ey : y1 ++ z1 = ys0 ∧ L7 = Lf := by
                  injection tot with a1 a2
                  exact ⟨a1, a2⟩
                obtain ⟨ey, el⟩ := ey
                subst el
                refine ⟨fun j k H6 => ∃ m6 L6' acc6 vacc6, k = xs1.length - j ∧ j ≤ xs1.length ∧ Sim X.K X.mg m6 H6 L6' ∧ (Fr2 m5 H5 m6 H6 ∧ Fr m1 H1 m6 H6) ∧ m6.M D ∧ D ∉ m6.ι ∧ H6 D = some (.lst vacc6) ∧ RvL X.K X.mg m6 H6 acc6 vacc6 ∧ (chk L6' && chkI L6') = true ∧
                    ∃ ys, compL g1 tt1 fe (fun L => chk L && chkI L) vs1 (xs1.drop j) ls1 L6' = .ok ys L6 ∧ acc6 ++ (ys ++ z1) = res,
                  ⟨xs1.length, m5, L5, acc, vacc, by simp, Nat.zero_le _, S5, ⟨Fr.refl.to2, ((F'.trans F3).trans F4).trans F5⟩, mD5, iD5, eD5, rA5, by show (chk L5 && chkI L5) = true; rw [ck5, show chkI L5 = true from hck1]; rfl, y1, by rw [List.drop_zero]; exact hc1, by rw [ey]; exact hacc⟩, ?_⟩
                rintro j k H6 ⟨m6, L6', acc6, vacc6, rfl, hle6, S6, F6, mD6, iD6, eD6, rA6, ck6, ys6, tot6, hacc6⟩
                have ck6a : chk L6' = true := (Bool.and_eq_true_iff.mp ck6).1
                have ck6b : chkI L6' = true := (Bool.and_eq_true_iff.mp ck6).2
                obtain ⟨okj1, okj2⟩ := okJ j m6 H6 L6' S6 F6.1 ck6b
                by_cases hlt6 : j < xs1.length
                · have hxj : xs1[j]? = some xs1[j] := List.getElem?_eq_getElem hlt6
                  rw [List.drop_eq_getElem_cons hlt6, compL_cons] at tot6
                  obtain ⟨go6, yl6⟩ := okj1 _ hxj
                  refine .inr ⟨go6, fun H2 => ∃ m2 L2 acc2 vacc2, Sim X.K X.mg m2 H2 L2 ∧ (Fr2 m5 H5 m2 H2 ∧ Fr m1 H1 m2 H2) ∧ m2.M D ∧ D ∉ m2.ι ∧ H2 D = some (.lst vacc2) ∧ RvL X.K X.mg m2 H2 acc2 vacc2 ∧ (chk L2 && chkI L2) = true ∧
                      ∃ ys, compL g1 tt1 fe (fun L => chk L && chkI L) vs1 (xs1.drop (j + 1)) ls1 L2 = .ok ys L6 ∧ acc2 ++ (ys ++ z1) = res,
                    fun H2 ⟨m2, L2, acc2, vacc2, a1, a2, a3, a4, a5, a6, a7, a8⟩ => ⟨xs1.length - (j + 1), by show xs1.length - (j + 1) < xs1.length - j; omega, m2, L2, acc2, vacc2, rfl, hlt6, a1, a2, a3, a4, a5, a6, a7, a8⟩, fun x7 H7 hy7 => ?_⟩
                  obtain ⟨S7, F7, r7⟩ := yl6 x7 H7 hy7
                  cases hgx7 : g1 xs1[j] (wipeL ls1 vs1) L6' with
                  | none => rw [hgx7] at tot6; cases tot6
                  | some ls2 =>
                    rw [hgx7] at tot6
                    dsimp only at tot6
                    have rs7 := ((RS.mono1 F6.1.toFr1 rs5).mono F7).wipe vs1
                    refine hg1 m6 L6' H7 _ _ xs1[j] x7 ls2 _ S7 rs7 r7 hgx7 fun σ8 rs8 s8 => ⟨wipe_same s8 hx1, ht1 m6 L6' H7 ls2 σ8 _ S7 rs8 ?_⟩
                    obtain ⟨b8, L8, htt8, tot6⟩ := ok_bind tot6.symm
                    rw [ok_strip htt8]
                    intro m8 H8 S8 F8
                    obtain ⟨eD7, iD7, mD7⟩ := keep_D F7 eD6 iD6 mD6
                    obtain ⟨eD8, iD8, mD8⟩ := keep_D F8 eD7 iD7 mD7
                    have rA8 := RvL.mono F8 _ _ (RvL.mono F7 _ _ rA6)
                    cases b8 with
                    | false =>
                      rw [if_neg Bool.false_ne_true] at tot6
                      refine iteF ?_
                      by_cases ck8 : (chk L8 && chkI L8) = true
                      · rw [if_pos ck8] at tot6
                        exact ⟨m8, L8, acc6, vacc6, S8, ⟨(F6.1.then F7).then F8, (F6.2.trans F7).trans F8⟩, mD8, iD8, eD8, rA8, ck8, ys6, tot6, hacc6⟩
                      · rw [if_neg ck8] at tot6; cases tot6
                    | true =>
                      rw [if_pos rfl] at tot6
                      refine iteT ?_
                      obtain ⟨y9, L9, hfe, tot6⟩ := ok_bind tot6.symm
                      by_cases ck9 : (chk L9 && chkI L9) = true
                      · rw [if_pos ck9] at tot6
                        obtain ⟨ys9, L10, hc9, tot6⟩ := ok_bind tot6.symm
                        have e9 : y9 :: ys9 = ys6 ∧ L10 = L6 := by
                          injection tot6 with a1 a2
                          exact ⟨a1, a2⟩
                        obtain ⟨e9, el9⟩ := e9
                        subst el9
                        refine he m8 L8 H8 ls2 σ8 _ S8 (rs8.mono F8) ?_
                        rw [ok_strip hfe]
                        intro m9 H9 S9 F9 u ru
                        obtain ⟨eD9, iD9, mD9⟩ := keep_D F9 eD8 iD8 mD8
                        have rA9 := RvL.mono F9 _ _ rA8
                        have nD5 : H5 D ≠ none := by rw [eD5]; simp
                        have lenb : acc6.length < res.length := by
                          rw [← hacc6, ← e9]
                          simp
                        refine ⟨vacc6, eD9, by rw [rA9.length]; omega, m9, L9, acc6 ++ [y9], vacc6 ++ [u], S9.poke mD9 iD9, ⟨(((F6.1.then F7).then F8).then F9).poke mD5 eD5, (((F6.2.trans F7).trans F8).trans F9).poke hD⟩, mD9, iD9, upd_same, RvL.poke mD9 _ _ (rA9.append (.one ru)), ck9, ys9, hc9, ?_⟩
                        rw [← hacc6, ← e9]; simp
                      · rw [if_neg ck9] at tot6; cases tot6
                · have e : j = xs1.length := by omega
                  rw [e, List.drop_length] at tot6
                  have tot6 : Res.ok ([] : List LV) L6' = .ok ys6 L6 := tot6
                  injection tot6 with a1 a2
                  subst a1
                  subst a2
                  exact .inl ⟨okj2 (by show xs1.length ≤ j; omega), m6, L6', acc6, vacc6, S6, F6.2, mD6, iD6, eD6, rA6, ck6a, z1, hc2, by rw [← hacc6]; rfl⟩
              · rw [if_neg ck5] at tot; cases tot
        · have e : i = xs.length := by omega
          rw [e, List.drop_length] at tot
          have tot : Res.ok ([] : List LV) L' = .ok ys0 Lf := tot
          injection tot with a1 a2
          subst a1
          subst a2
          rw [List.append_nil] at hacc
          subst hacc
          exact .inl ⟨ok2 (by show xs.length ≤ i; omega), q m' H' S' (F1.trans F') D vacc nD eD mD iD rA⟩
      · exact q.elim
theorem mf_comp2 {own : List (Str × Nat)} {vs1 : List Nat} (hc : X.calm = true) (hN : X.N.Nodup) (hi : MI X W tg iter fi) (chk0 : ∀ ls L p L', fi ls L = .ok p L' → p.2 L' = true) (ok : BlkOk X.N X.env.scope scope own) (hx : ix.all (fun j => (own.map (·.2)).contains j) = true)
    (hv : ∀ i ∈ vs1, i ∈ own.map (·.2)) (hx1 : ix1.all (fun j => vs1.contains j) = true) (chk1 : ∀ ls L p L', fi1 ls L = .ok p L' → p.2 L' = true)
    (hg : ∀ (s : Shared) (H : Hp) (C : Addr) (cl : List (Str × Addr)) (fp : List Addr), MG (X.blk s H scope (compEnvC scope cl C X.env) fp) tg g ix)
    (ht : ∀ (s : Shared) (H : Hp) (C : Addr) (cl : List (Str × Addr)) (fp : List Addr), MTs (X.blk s H scope (compEnvC scope cl C X.env) fp) WF ifs tt)
    (hi1 : ∀ (s : Shared) (H : Hp) (C : Addr) (cl : List (Str × Addr)) (fp : List Addr), MI (X.blk s H scope (compEnvC scope cl C X.env) fp) WF tg1 iter1 fi1)
    (hg1 : ∀ (s : Shared) (H : Hp) (C : Addr) (cl : List (Str × Addr)) (fp : List Addr), MG (X.blk s H scope (compEnvC scope cl C X.env) fp) tg1 g1 ix1)
    (ht1 : ∀ (s : Shared) (H : Hp) (C : Addr) (cl : List (Str × Addr)) (fp : List Addr), MTs (X.blk s H scope (compEnvC scope cl C X.env) fp) WF ifs1 tt1)
    (he : ∀ (s : Shared) (H : Hp) (C : Addr) (cl : List (Str × Addr)) (fp : List Addr), ME (X.blk s H scope (compEnvC scope cl C X.env) fp) WF elt fe)
    (hs : ∀ x, foldedSetIterable iter X.env x = pure x := by intro _; rfl) (hs1 : ∀ env x, foldedSetIterable iter1 env x = pure x := by intro _ _; rfl) :
    MF X W (.ListComp elt [⟨tg, iter, ifs, 0⟩, ⟨tg1, iter1, ifs1, 0⟩] scope pos) (fComp2 fi g tt (own.map (·.2)) fi1 g1 tt1 fe vs1) := by
  obtain ⟨wi, pi, hi⟩ := hi
  have PGw := fun s H C cl fp => PG.weak (u := fun v σ H' Q => ∀ s H C cl fp, (hg s H C cl fp).choose v σ H' Q) (hg s H C cl fp).choose_spec.1 fun v σ H' Q q => q s H C cl fp
  have PTw := fun s H C cl fp => PTs.weak (u := fun σ H' Q => ∀ s H C cl fp, (ht s H C cl fp).choose σ H' Q) (ht s H C cl fp).choose_spec.1 fun σ H' Q q => q s H C cl fp
  have PIw := fun s H C cl fp => PI.weak (u := fun σ H' R => ∀ s H C cl fp, (hi1 s H C cl fp).choose σ H' R) (hi1 s H C cl fp).choose_spec.1 fun σ H' Q q => q s H C cl fp
  have PGw1 := fun s H C cl fp => PG.weak (u := fun v σ H' Q => ∀ s H C cl fp, (hg1 s H C cl fp).choose v σ H' Q) (hg1 s H C cl fp).choose_spec.1 fun v σ H' Q q => q s H C cl fp
  have PTw1 := fun s H C cl fp => PTs.weak (u := fun σ H' Q => ∀ s H C cl fp, (ht1 s H C cl fp).choose σ H' Q) (ht1 s H C cl fp).choose_spec.1 fun σ H' Q q => q s H C cl fp
  have PEw := fun s H C cl fp => PE.weak (u := fun σ H' Q => ∀ s H C cl fp, (he s H C cl fp).choose σ H' Q) (he s H C cl fp).choose_spec.1 fun σ H' Q q => q s H C cl fp
  refine ⟨_, pe_lc2 hc hN pi ok hv PGw PTw PIw PGw1 PTw1 PEw hs hs1, fun m L H ls σ Q S rs q => ?_⟩
  refine tlc2_core (fi := fi) (g := g) (tt := tt) (fe := fe) (ix := ix) (ix1 := ix1) (g1 := g1) (tt1 := tt1) (fi1 := fi1) (fun j hj => ?_) (fun j hj => ?_) hi (fun m L H ls σ v x ls' Q S rs r e k s0 H0 C cl fp => ?_) (fun m L H ls σ Q S rs k s0 H0 C cl fp => ?_) (fun m L H ls σ Q S rs k s0 H0 C cl fp => ?_)
    (fun m L H ls σ v x ls' Q S rs r e k s0 H0 C cl fp => ?_) (fun m L H ls σ Q S rs k s0 H0 C cl fp => ?_) (fun m L H ls σ Q S rs k s0 H0 C cl fp => ?_) chk0 chk1 S rs q
  · have := List.all_eq_true.mp hx j hj
    simpa using this
  · have := List.all_eq_true.mp hx1 j hj
    simpa using this
  · exact (hg s0 H0 C cl fp).choose_spec.2 m L H ls σ v x ls' Q S rs r e k
  · exact (ht s0 H0 C cl fp).choose_spec.2 m L H ls σ Q S rs k
  · exact (hi1 s0 H0 C cl fp).choose_spec.2 m L H ls σ Q S rs k
  · exact (hg1 s0 H0 C cl fp).choose_spec.2 m L H ls σ v x ls' Q S rs r e k
  · exact (ht1 s0 H0 C cl fp).choose_spec.2 m L H ls σ Q S rs k
  · exact (he s0 H0 C cl fp).choose_spec.2 m L H ls σ Q S rs k
end
end G

end

namespace G
open PySem PySem.Spec PyProof.Rows L2
def GlobOk (K : PySem.W.Frag) (mg : Str → Option Value) (x : Str) (v : LV) : Prop := ∃ u y, mg x = some u ∧ RelV y u ∧ ∀ m H L, Sim K mg m H L → Rv K mg m H v y
structure TryOk (K : PySem.W.Frag) (mg : Str → Option Value) (x : Str) (tbl : List (Str × Bool)) : Prop where
  ex : ∃ c, mg x = some c ∧ ∀ cls b C, tbl.lookup cls = some b → mg cls = some (.ref C) → PySem.W.exmOne K (.ref C) c = some b
def CsK (K : PySem.W.Frag) (mg : Str → Option Value) (cs : List Str) (k : Str) : Prop := ∀ x C, cs.contains x = true → mg x = some (.ref C) → XfC K C ∧ PySem.W.findIn K (.ref C) k = some none
theorem ms_tryT {X : Cx} {W : WX} {x n : Str} {i : Nat} {body : List Stmt} {e : Expr} {np pos pos' rp : Pos} {f : LS} {g : LEx → LE} {tbl : List (Str × Bool)} (hs : X.stack = X.env :: X.outer) (hf : X.env.frame = some X.env.locals) (hN : X.N.Nodup) (hi : X.N[i]? = some n) (hln : X.env.kindOf n = some .local) (hg : Gl X x) (T : TryOk X.K X.mg x tbl) (tk : Takes X W)
    (hb : ∀ W' pn xe, Takes (X.tr pn xe) W' → PassesOwn (model X.prog X.w) X.A X.env xe → MB (X.tr pn xe) W' body f) (hx : MX X i e g) (hd : (x == ("__debug__" : Str)) = false := by decide) :
    MS X W (.Try body [.ExceptHandler (some (.Name x np)) (some n) [.Return (some e) rp] pos'] [] [] pos) (sTry i tbl f g) := by
  obtain ⟨c, hm, ht⟩ := T.ex
  exact ms_try hs hf hN hi hln ⟨hg, hd, .inl hm⟩ tk ht hb hx
/-- a, b, .. = a list -/
theorem mg_lst {X : Cx} {pos : Pos} {es : List Expr} {k n : Nat} {r : LGs} {ix : List Nat} (hc : X.calm = true) (h : MGs X es r ix) (hn : (assignEach es X.env).length = n := by rfl) (hst : (assignEach es X.env).findIdx? (·.1) = none := by rfl) : MG X (.Tuple es k pos) (gLs n r) ix := by
  obtain ⟨w, q, h⟩ := h
  refine ⟨_, pg_lst hc q hn hst, fun m L H ls σ v x ls' Q S rs rv e hq => ?_⟩
  unfold gLs at e
  split at e
  · rename_i xs hx
    split at e
    · rename_i hl
      obtain ⟨a, vs, rfl, ta, ra⟩ := lsqOf_at S rv hx
      exact ⟨a, vs, rfl, ta, by rw [ra.length]; exact hl, h m L H ls σ xs vs ls' Q S rs ra e hq⟩
    · cases e
  · cases e
theorem ktp_of {K : PySem.W.Frag} {a : Addr} {od : Option Addr} {it : Array Value} {n : Nat} {sl : Array (Option Value)} {vs : List V} {us : List Value} (l : K.lookup a = some ⟨.type "tuple", od, .seq it n, sl⟩) (e : it.toList = us) (v : Vals vs us) (hz : vs.length ≤ 1000) : KtpAt K a vs := by
  refine .inr ⟨_, it, n, l, rfl, rfl, ?_, by rw [e]; exact v⟩
  have h1 : it.toList.length = vs.length := by rw [e, v.length]
  rw [Array.length_toList] at h1
  rw [h1, sizeLine_eq]
  omega
end G

namespace G
open PySem PySem.Spec PyProof.Rows L2
/-! ### what touches nothing of the program's heap: worked out on an empty one -/
mutual
def fz (L : LH) : Nat → LV → Option LV
  | 0, _ => none
  | d + 1, .tup xs => (fzs L d xs).map .tup
  | d + 1, .ktp xs => (fzs L d xs).map .ktp
  | d + 1, .lst xs => (fzs L d xs).map .lst
  | d + 1, .frz xs => (fzs L d xs).map .frz
  | d + 1, .ref k => match L[k]? with
    | some (.lst xs) => (fzs L d xs).map .lst
    | _ => none
  | _ + 1, v => some v
def fzs (L : LH) : Nat → List LV → Option (List LV)
  | 0, _ => none
  | _ + 1, [] => some []
  | d + 1, v :: r => match fz L d v, fzs L d r with
    | some v', some r' => some (v' :: r')
    | _, _ => none
end
def fzF (L : LH) (d : Nat) : List (Str × LV) → Option (List (Str × LV))
  | [] => some []
  | (k, v) :: r => match fz L d v, fzF L d r with
    | some v', some r' => some ((k, v') :: r')
    | _, _ => none
section
variable {K : PySem.W.Frag} {mg : Str → Option Value} {m m' m2 : Mp} {H H' : Hp} {L L' : LH}
mutual
theorem Rv.nr (hM : ∀ a, m2.M a → m.M a) : ∀ (v : LV) (x : V), blw 0 v = true → Rv K mg m H v x → Rv K mg m2 H v x
  | .non, _, _, h => h
  | .bl _, _, _, h => h
  | .int _, _, _, h => h
  | .str _, _, _, h => h
  | .tup xs, _, b, ⟨a, vs, e, t, r⟩ => ⟨a, vs, e, ⟨t.1, fun z => t.2 (hM a z)⟩, RvL.nr hM xs vs b r⟩
  | .ktp xs, _, b, ⟨a, vs, e, t, r⟩ => ⟨a, vs, e, t, RvL.nr hM xs vs b r⟩
  | .lst xs, _, b, ⟨a, vs, e, t, r⟩ => ⟨a, vs, e, ⟨t.1, fun z => t.2 (hM a z)⟩, RvL.nr hM xs vs b r⟩
  | .frz xs, _, b, ⟨a, vs, e, t, r⟩ => ⟨a, vs, e, t.elim (fun z => .inl ⟨z.1, fun y => z.2 (hM a y)⟩) .inr, RvL.nr hM xs vs b r⟩
  | .ref k, _, b, _ => absurd (show k < 0 by simpa [blw] using b) (Nat.not_lt_zero k)
  | .fn _, _, _, h => h
theorem RvL.nr (hM : ∀ a, m2.M a → m.M a) : ∀ (xs : List LV) (vs : List V), blws 0 xs = true → RvL K mg m H xs vs → RvL K mg m2 H xs vs
  | [], _, _, h => h
  | v :: r, _, b, ⟨x, t, e, h, hr⟩ => by
    simp only [blws, Bool.and_eq_true] at b
    exact ⟨x, t, e, Rv.nr hM v x b.1 h, RvL.nr hM r t b.2 hr⟩
end
mutual
theorem Rv.fz (S : Sim K mg m H L) (hM : ∀ a, m2.M a → m.M a ∧ a ∉ m.ι) : ∀ (d : Nat) (v v' : LV) (x : V), G.fz L d v = some v' → Rv K mg m H v x → Rv K mg m2 H v' x
  | 0, _, _, _, e, _ => by simp [G.fz] at e
  | d + 1, .tup xs, v', x, e, ⟨a, vs, e1, t, r⟩ => by
    simp only [G.fz] at e
    obtain ⟨ys, h1, h2⟩ := Option.map_eq_some_iff.mp e
    subst h2
    exact ⟨a, vs, e1, ⟨t.1, fun z => t.2 (hM a z).1⟩, RvL.fz S hM d xs ys vs h1 r⟩
  | d + 1, .ktp xs, v', x, e, ⟨a, vs, e1, t, r⟩ => by
    simp only [G.fz] at e
    obtain ⟨ys, h1, h2⟩ := Option.map_eq_some_iff.mp e
    subst h2
    exact ⟨a, vs, e1, t, RvL.fz S hM d xs ys vs h1 r⟩
  | d + 1, .lst xs, v', x, e, ⟨a, vs, e1, t, r⟩ => by
    simp only [G.fz] at e
    obtain ⟨ys, h1, h2⟩ := Option.map_eq_some_iff.mp e
    subst h2
    exact ⟨a, vs, e1, ⟨t.1, fun z => t.2 (hM a z).1⟩, RvL.fz S hM d xs ys vs h1 r⟩
  | d + 1, .frz xs, v', x, e, ⟨a, vs, e1, t, r⟩ => by
    simp only [G.fz] at e
    obtain ⟨ys, h1, h2⟩ := Option.map_eq_some_iff.mp e
    subst h2
    exact ⟨a, vs, e1, t.elim (fun z => .inl ⟨z.1, fun y => z.2 (hM a y).1⟩) .inr, RvL.fz S hM d xs ys vs h1 r⟩
  | d + 1, .ref k, v', x, e, ⟨a, ha, e1⟩ => by
    simp only [G.fz] at e
    cases hl : L[k]? with
    | none => rw [hl] at e; cases e
    | some lo =>
      rw [hl] at e
      cases lo with
      | lst xs =>
        obtain ⟨ys, h1, h2⟩ := Option.map_eq_some_iff.mp e
        subst h2
        obtain ⟨vs, hv, r⟩ := S.ob k _ a hl ha
        exact ⟨a, vs, e1, ⟨hv, fun z => (hM a z).2 (List.mem_of_getElem? ha)⟩, RvL.fz S hM d xs ys vs h1 r⟩
      | dic t kvs => cases e
      | ins c fs => cases e
      | lkd t kvs => cases e
  | d + 1, .non, v', x, e, h => by simp only [G.fz] at e; cases e; exact h
  | d + 1, .bl _, v', x, e, h => by simp only [G.fz] at e; cases e; exact h
  | d + 1, .int _, v', x, e, h => by simp only [G.fz] at e; cases e; exact h
  | d + 1, .str _, v', x, e, h => by simp only [G.fz] at e; cases e; exact h
  | d + 1, .fn _, v', x, e, h => by simp only [G.fz] at e; cases e; exact h
theorem RvL.fz (S : Sim K mg m H L) (hM : ∀ a, m2.M a → m.M a ∧ a ∉ m.ι) : ∀ (d : Nat) (xs ys : List LV) (vs : List V), G.fzs L d xs = some ys → RvL K mg m H xs vs → RvL K mg m2 H ys vs
  | 0, _, _, _, e, _ => by simp [G.fzs] at e
  | d + 1, [], ys, vs, e, h => by simp only [G.fzs] at e; cases e; exact h
  | d + 1, v :: r, ys, vs, e, ⟨x, t, e1, h, hr⟩ => by
    simp only [G.fzs] at e
    cases h1 : G.fz L d v with
    | none => rw [h1] at e; cases e
    | some v' =>
      cases h2 : G.fzs L d r with
      | none => rw [h1, h2] at e; cases e
      | some r' =>
        rw [h1, h2] at e
        cases e
        exact ⟨x, t, e1, Rv.fz S hM d v v' x h1 h, RvL.fz S hM d r r' t h2 hr⟩
end
theorem RF.fz (S : Sim K mg m H L) (hM : ∀ a, m2.M a → m.M a ∧ a ∉ m.ι) {d : Nat} : ∀ {fs fs' : List (Str × LV)} {ps : List (Str × V)}, fzF L d fs = some fs' → RF K mg m H fs ps → RF K mg m2 H fs' ps
  | [], _, _, e, h => by simp only [fzF] at e; cases e; exact h
  | (k, v) :: r, fs', ps, e, ⟨x, t, e1, h, hr⟩ => by
    simp only [fzF] at e
    cases h1 : G.fz L d v with
    | none => rw [h1] at e; cases e
    | some v' =>
      cases h2 : fzF L d r with
      | none => rw [h1, h2] at e; cases e
      | some r' =>
        rw [h1, h2] at e
        cases e
        exact ⟨x, t, e1, Rv.fz S hM d v v' x h1 h, RF.fz S hM h2 hr⟩
/-- no heap, the same live addresses -/
def Mp.no (m : Mp) : Mp := ⟨[], m.M, fun _ h => by cases h⟩
def Mp.mix (m m' : Mp) (h : ∀ a, a ∈ m.ι → m'.M a ∧ a ∉ m'.ι) : Mp := ⟨m.ι, fun a => m'.M a ∧ a ∉ m'.ι, h⟩
theorem Sim.no (S : Sim K mg m H L) : Sim K mg m.no H [] := ⟨rfl, List.nodup_nil, fun n lo a h => by simp at h, fun a h => S.live a h⟩
theorem mix_ok (S : Sim K mg m H L) (S' : Sim K mg m' H' L') (F : Fr m.no H m' H') : ∃ h, Sim K mg (m.mix m' h) H' L ∧ Fr m H (m.mix m' h) H' := by
  have out : ∀ a, m.M a → a ∉ m'.ι := fun a ha z => by
    rcases F.newi a z with y | y
    · cases y
    · obtain ⟨o, e⟩ := S.live a ha
      rw [e] at y; cases y
  have h : ∀ a, a ∈ m.ι → m'.M a ∧ a ∉ m'.ι := fun a ha => ⟨F.mono a (m.sub a ha), out a (m.sub a ha)⟩
  have keep : ∀ b o, H b = some o → H' b = some o := fun b o e => F.keep b o e (fun z => by cases z)
  have FF : Fr m H (m.mix m' h) H' := ⟨List.prefix_refl _, fun b o e _ => keep b o e, fun b hb => .inl hb, fun b hb => F.newm b hb.1, fun b hb => ⟨F.mono b hb, out b hb⟩, fun b o u e _ => keep b _ e⟩
  refine ⟨h, ⟨S.len, S.nd, fun n lo a e e' => ?_, fun a ha => S'.live a ha.1⟩, FF⟩
  have o := S.ob n lo a e e'
  obtain ⟨u, hu⟩ := o.has
  exact RO.mono FF (by rw [keep _ _ hu, hu]) o
theorem not_ix (S : Sim K mg m H L) {d : Addr} {ps : List (Str × V)} (e : H d = some (.xd ps)) : d ∉ m.ι := fun z => by
  obtain ⟨n, hn, hd⟩ := List.mem_iff_getElem.mp z
  have hl : n < L.length := by rw [← S.len]; exact hn
  have o := S.ob n L[n] d (List.getElem?_eq_getElem hl) (by rw [List.getElem?_eq_getElem hn, hd])
  cases hlo : L[n] with
  | lst xs => rw [hlo] at o; obtain ⟨vs, h, _⟩ := o; rw [e] at h; cases h
  | dic t kvs => rw [hlo] at o; cases t <;> (obtain ⟨q, h, _⟩ := o; rw [e] at h; cases h)
  | ins c fs => rw [hlo] at o; obtain ⟨_, _, _, _, h, _⟩ := o; rw [e] at h; cases h
  | lkd t kvs => rw [hlo] at o; cases t <;> (obtain ⟨q, ps2, h, _⟩ := o; rw [e] at h; cases h)
end
def norf : Option LV → Option LV
  | some v => if blw 0 v = true then some v else none
  | none => none
theorem RS.no {K : PySem.W.Frag} {mg : Str → Option Value} {m : Mp} {H : Hp} {ls : LSt} {σ : L2.St} (r : RS K mg m H ls σ) : RS K mg m.no H (ls.map norf) σ := by
  refine ⟨by rw [List.length_map]; exact r.1, fun i v e => ?_⟩
  rw [List.getElem?_map] at e
  cases hl : ls[i]? with
  | none => rw [hl] at e; cases e
  | some o =>
    rw [hl] at e
    cases o with
    | none => cases e
    | some u =>
      have e : norf (some u) = some v := by simpa using e
      simp only [norf] at e
      split at e
      · rename_i hb
        cases e
        obtain ⟨x, hx, rx⟩ := r.2 i _ hl
        exact ⟨x, hx, Rv.nr (m := m) (m2 := m.no) (fun a h => h) _ _ hb rx⟩
      · cases e
/-- the worth of e, said without heap: depth d of what is answered -/
def pureE (d : Nat) (f : LE) : LE := fun ls L => match f (ls.map norf) [] with
  | .ok v L' => match fz L' d v with
    | some v' => .ok v' L
    | none => f ls L
  | .err e L' => match fzF L' d e.fs with
    | some fs' => .err ⟨e.cls, fs'⟩ L
    | none => f ls L
  | .bad => f ls L
theorem me_pure {X : Cx} {W : WX} {e : Expr} {f : LE} (d : Nat) (h : ME X W e f) : ME X W e (pureE d f) := by
  obtain ⟨t, p, h⟩ := h
  refine ⟨t, p, fun m L H ls σ Q S rs q => ?_⟩
  unfold pureE at q
  cases hf : f (ls.map norf) [] with
  | bad => rw [hf] at q; exact h m L H ls σ Q S rs q
  | ok v L' =>
    rw [hf] at q
    dsimp only at q
    cases hz : fz L' d v with
    | none => rw [hz] at q; exact h m L H ls σ Q S rs q
    | some v' =>
      rw [hz] at q
      refine h m.no [] H (ls.map norf) σ Q S.no rs.no ?_
      rw [hf]
      intro m' H' S' F' x rx
      obtain ⟨hh, S2, F2⟩ := mix_ok S S' F'
      exact q _ _ S2 F2 x (Rv.fz S' (fun a ha => ha) d v v' x hz rx)
  | err ex L' =>
    rw [hf] at q
    dsimp only at q
    cases hz : fzF L' d ex.fs with
    | none => rw [hz] at q; exact h m L H ls σ Q S rs q
    | some fs' =>
      rw [hz] at q
      refine h m.no [] H (ls.map norf) σ Q S.no rs.no ?_
      rw [hf]
      intro m' H' C dd S' F' ea
      obtain ⟨hh, S2, F2⟩ := mix_ok S S' F'
      obtain ⟨q1, q2, ps, q3, q4⟩ := ea
      exact q _ _ C dd S2 F2 ⟨q1, not_ix S2 q3, ps, q3, RF.fz S' (fun a ha => ha) hz q4⟩
/-- the same of a def -/
def pureF (d : Nat) (sem : Sem') : Sem' := fun lvs L => if blws 0 lvs = true then (match sem lvs [] with
  | .ok v L' => match fz L' d v with
    | some v' => .ok v' L
    | none => sem lvs L
  | .err e L' => match fzF L' d e.fs with
    | some fs' => .err ⟨e.cls, fs'⟩ L
    | none => sem lvs L
  | .bad => sem lvs L) else sem lvs L
theorem Cal.pure {P : Program} {w : World} {K : PySem.W.Frag} {mg : Str → Option Value} {base : Heap} {k n : Nat} {x : Str} {sem : Sem'} (d : Nat) (c : Cal P w K mg base k x n sem) : Cal P w K mg base k x n (pureF d sem) := by
  obtain ⟨f, fd, ps, a, b, dd, e, g⟩ := c.ex
  refine ⟨f, fd, ps, a, b, dd, e, g.imp fun vs H Q E ⟨hl, m, L, lvs, S, r, q⟩ => ?_⟩
  have same : FnPost K mg m H Q E (sem lvs L) → spG K mg n sem vs H Q E := fun q => ⟨hl, m, L, lvs, S, r, q⟩
  unfold pureF at q
  split at q
  · rename_i hb
    cases hf : sem lvs [] with
    | bad => rw [hf] at q; exact same q
    | ok v L' =>
      rw [hf] at q
      dsimp only at q
      cases hz : fz L' d v with
      | none => rw [hz] at q; exact same q
      | some v' =>
        rw [hz] at q
        refine ⟨hl, m.no, [], lvs, S.no, RvL.nr (m := m) (m2 := m.no) (fun a h => h) _ _ hb r, ?_⟩
        rw [hf]
        intro m' H' S' F' x rx
        obtain ⟨hh, S2, F2⟩ := mix_ok S S' F'
        exact q _ _ S2 F2 x (Rv.fz S' (fun a ha => ha) d v v' x hz rx)
    | err ex L' =>
      rw [hf] at q
      dsimp only at q
      cases hz : fzF L' d ex.fs with
      | none => rw [hz] at q; exact same q
      | some fs' =>
        rw [hz] at q
        refine ⟨hl, m.no, [], lvs, S.no, RvL.nr (m := m) (m2 := m.no) (fun a h => h) _ _ hb r, ?_⟩
        rw [hf]
        intro m' H' C dd2 S' F' ea
        obtain ⟨hh, S2, F2⟩ := mix_ok S S' F'
        obtain ⟨q1, q2, ps2, q3, q4⟩ := ea
        exact q _ _ C dd2 S2 F2 ⟨q1, not_ix S2 q3, ps2, q3, RF.fz S' (fun a ha => ha) hz q4⟩
  · exact same q
end G

namespace G
open PySem PySem.Spec PyProof.Rows L2
/-! ### a dict walked: it is locked while the statement runs -/
def isLkd (n : Nat) (t : Bool) (ks : List LV) : LH → Bool := fun L => match L[n]? with
  | some (.lkd t' kvs) => t' == t && decide (kvs.length = ks.length)
  | _ => false
def iKeysL (f : LE) : LI := fun ls L => (f ls L).bind fun v L1 => match v with
  | .ref n => match L1[n]? with
    | some (.lkd false kvs) => .ok (kvs.map (·.1), always) L1
    | _ => .bad
  | _ => .bad
theorem iKeysL_chk {f : LE} : ∀ ls L p L', iKeysL f ls L = .ok p L' → p.2 L' = true := by
  intro ls L p L' h
  obtain ⟨v, L1, h1, h2⟩ := Res.bind_ok h
  split at h2
  · split at h2
    · cases h2; rfl
    · cases h2
  · cases h2
theorem rd_get {K : PySem.W.Frag} {mg : Str → Option Value} {m : Mp} {H : Hp} : ∀ {kvs : List (LV × LV)} {ps : List (Key × V)}, RD K mg m H kOf kvs ps → kvs.length = ps.length ∧ ∀ (i : Nat) (v : LV), (kvs.map (·.1))[i]? = some v → ∃ k x, ps[i]? = some (k, x) ∧ ∀ (m2 : Mp) (H2 : Hp), Rv K mg m2 H2 v (kV k)
  | [], ps, h => by cases h; exact ⟨rfl, fun i v e => by simp at e⟩
  | (k, v) :: r, ps, ⟨c, x, t, e, hk, h, hr⟩ => by
    subst e
    obtain ⟨h1, h2⟩ := rd_get hr
    refine ⟨by simp [h1], fun i w e => ?_⟩
    cases i with
    | zero =>
      have e : k = w := by simpa using e
      subst e
      refine ⟨c, x, rfl, fun m2 H2 => ?_⟩
      cases k with
      | int j => cases hk; rfl
      | str s => cases hk; rfl
      | _ => cases hk
    | succ i =>
      have e : (r.map (·.1))[i]? = some w := by simpa using e
      obtain ⟨k', x', h3, h4⟩ := h2 i w e
      exact ⟨k', x', by simpa using h3, h4⟩
section
variable {X : Cx} {W : WX} {tg e : Expr} {f : LE}
theorem mi_keys (h : ME X W e f) : MI X W tg e (iKeysL f) := by
  obtain ⟨t, p, h⟩ := h
  refine ⟨_, pi_keys p, fun m L H ls σ R S rs q => h m L H ls σ _ S rs (Post.bind q fun v L1 m1 H1 S1 F1 h1 x rx => ?_)⟩
  split at h1
  · rename_i n
    split at h1
    · rename_i kvs hl
      obtain ⟨a, ha, rfl⟩ := rx
      obtain ⟨o, ps, ho, rd⟩ := S1.ob n _ a hl ha
      have go := h1.now S1 rfl
      obtain ⟨len, get⟩ := rd_get rd
      refine ⟨a, o, rfl, .inl ⟨ps, ho, go _ fun i m2 H2 L2 S2 F2 ck => ?_⟩⟩
      have ho2 := F2.fz a o _ ho (List.mem_of_getElem? ha)
      refine ⟨fun v hv => ?_, fun hle => ⟨ho2, by rw [← len]; simpa using hle⟩⟩
      obtain ⟨k, x, hk, hr⟩ := get i v hv
      refine ⟨⟨ho2, (List.getElem?_eq_some_iff.mp hk).1⟩, fun x3 H3 hy => ?_⟩
      obtain ⟨rfl, k', v', hk', rfl⟩ := hy
      rw [hk] at hk'
      cases hk'
      exact ⟨S2, .refl, hr _ _⟩
    · exact h1.elim
  · exact h1.elim
end
/-! ### the lock -/
def lockAt (L : LH) (n : Nat) : Option (Bool × List (LV × LV)) := match L[n]? with
  | some (.dic t kvs) => some (t, kvs)
  | _ => none
/-- what is locked is told by f: a place of the program's heap -/
def sLock (sel : LSt → LH → Option Nat) (f : LS) : LS := fun ls L => match sel ls L with
  | some n => match lockAt L n with
    | some (t, kvs) => match f ls (L.set n (.lkd t kvs)) with
      | .ok fl ls' L' => if n < L'.length then .ok fl ls' (L'.set n (.dic t kvs)) else .bad
      | _ => .bad
    | none => .bad
  | none => .bad
theorem lockAt_of {L : LH} {n : Nat} {t : Bool} {kvs : List (LV × LV)} (h : lockAt L n = some (t, kvs)) : L[n]? = some (.dic t kvs) := by
  unfold lockAt at h
  split at h
  · rename_i e; cases h; exact e
  · cases h
theorem unlock {K : PySem.W.Frag} {mg : Str → Option Value} {m m' : Mp} {H H' : Hp} {L' : LH} {n : Nat} {d : Addr} {od : Obj} {u : HO} {lo : LO}
    (hd : m.ι[n]? = some d) (hu : H d = some u) (nu : ∀ q w, u ≠ .frz q w) (S' : Sim K mg m' H' L') (F' : Fr m (upd H d (.frz od u)) m' H') (ro : Fr m H m' (upd H' d u) → RO K mg m' (upd H' d u) lo d) :
    H' d = some (.frz od u) ∧ Sim K mg m' (upd H' d u) (L'.set n lo) ∧ Fr m H m' (upd H' d u) ∧ m'.M d := by
  have hm : d ∈ m.ι := List.mem_of_getElem? hd
  have e1 : H' d = some (.frz od u) := F'.fz d od u upd_same hm
  have hd' : m'.ι[n]? = some d := pre_get F'.pre hd
  have FF : Fr m H m' (upd H' d u) := by
    refine ⟨F'.pre, fun b o e hb => ?_, fun b hb => ?_, fun b hb => ?_, F'.mono, fun b q w e hb => ?_⟩
    · have nb : b ≠ d := fun z => hb (z ▸ hm)
      rw [upd_ne nb]
      exact F'.keep b o (by rw [upd_ne nb]; exact e) hb
    · rcases F'.newi b hb with z | z
      · exact .inl z
      · by_cases nb : b = d
        · rw [nb, upd_same] at z; cases z
        · rw [upd_ne nb] at z; exact .inr z
    · rcases F'.newm b hb with z | z
      · exact .inl z
      · by_cases nb : b = d
        · rw [nb, upd_same] at z; cases z
        · rw [upd_ne nb] at z; exact .inr z
    · have nb : b ≠ d := fun z => by rw [z, hu] at e; exact nu q w (Option.some.inj e)
      rw [upd_ne nb]
      exact F'.fz b q w (by rw [upd_ne nb]; exact e) hb
  exact ⟨e1, S'.put hd' (ro FF), FF, m'.sub d (List.mem_of_getElem? hd')⟩
section
variable {K : PySem.W.Frag} {mg : Str → Option Value} {m : Mp} {H : Hp} {L : LH}
/-- the dict at place n, locked -/
theorem lock_in (S : Sim K mg m H L) {n : Nat} {t : Bool} {kvs : List (LV × LV)} (h : L[n]? = some (.dic t kvs)) : ∃ d u, m.ι[n]? = some d ∧ H d = some u ∧ Mut (some u) ∧ (∀ q w, u ≠ .frz q w) ∧
    (∀ od, Sim K mg m (upd H d (.frz od u)) (L.set n (.lkd t kvs))) ∧ (∀ od ls σ, RS K mg m H ls σ → RS K mg m (upd H d (.frz od u)) ls σ) ∧
      ∀ m' H', Fr m H m' (upd H' d u) → RO K mg m' (upd H' d u) (.dic t kvs) d := by
  have hn : n < m.ι.length := by rw [S.len]; exact (List.getElem?_eq_some_iff.mp h).1
  have hd : m.ι[n]? = some m.ι[n] := List.getElem?_eq_getElem hn
  have o := S.ob n _ _ h hd
  have hM : m.M m.ι[n] := m.sub _ (List.getElem_mem hn)
  have rs : ∀ u od ls σ, RS K mg m H ls σ → RS K mg m (upd H m.ι[n] (.frz od u)) ls σ := fun u od ls σ r => ⟨r.1, fun i v e => let ⟨x, e', q⟩ := r.2 i v e; ⟨x, e', Rv.mono1 (Fr1.put hM) v x q⟩⟩
  cases t with
  | false =>
    obtain ⟨ps, ho, rd⟩ := o
    refine ⟨_, _, hd, ho, trivial, (fun q w z => by cases z), fun od => S.put hd ⟨od, ps, upd_same, rd.imp (Rv.mono1 (Fr1.put hM))⟩, rs _, fun m' H' F => ⟨ps, upd_same, rd.imp (Rv.mono F)⟩⟩
  | true =>
    obtain ⟨ps, ho, rd⟩ := o
    refine ⟨_, _, hd, ho, trivial, (fun q w z => by cases z), fun od => S.put hd ⟨od, ps, upd_same, rd.imp (Rv.mono1 (Fr1.put hM))⟩, rs _, fun m' H' F => ⟨ps, upd_same, rd.imp (Rv.mono F)⟩⟩
end
section
variable {X : Cx} {W : WX} {st : Stmt} {f : LS} {e : Expr} {fe : LE}
theorem RS.poke {K : PySem.W.Frag} {mg : Str → Option Value} {m : Mp} {H : Hp} {D : Addr} {o : HO} {ls : LSt} {σ : L2.St} (hD : m.M D) (r : RS K mg m H ls σ) : RS K mg m (upd H D o) ls σ :=
  ⟨r.1, fun i v e => let ⟨x, e', q⟩ := r.2 i v e; ⟨x, e', Rv.poke hD v x q⟩⟩
theorem ms_lock (sel : LSt → LH → Option Nat) (h : MS X W st f) : MS X W st (sLock sel f) := by
  obtain ⟨t, p, h⟩ := h
  refine ⟨_, ps_lock p, fun m L H ls σ D S rs q => ?_⟩
  unfold sLock at q
  cases hs : sel ls L with
  | none => rw [hs] at q; exact q.elim
  | some n =>
    rw [hs] at q
    dsimp only at q
    cases hl : lockAt L n with
    | none => rw [hl] at q; exact q.elim
    | some tk =>
      obtain ⟨tt, kvs⟩ := tk
      rw [hl] at q
      dsimp only at q
      obtain ⟨d, u, hd, hu, mu, nu, S1, rs1, ro⟩ := lock_in S (lockAt_of hl)
      refine ⟨d, u, hu, mu, fun od => h m _ _ ls σ _ (S1 od) (rs1 od ls σ rs) ?_⟩
      cases hf : f ls (L.set n (.lkd tt kvs)) with
      | bad => rw [hf] at q; exact q.elim
      | err ex ls' L' => rw [hf] at q; exact q.elim
      | ok fl ls' L' =>
        rw [hf] at q
        dsimp only at q
        split at q
        · intro m' H' S' F'
          obtain ⟨e1, S2, F2, hM⟩ := unlock hd hu nu S' F' (ro m' H')
          have q := q m' _ S2 F2
          cases fl with
          | nx => exact fun σ' r => ⟨e1, q σ' (r.poke hM)⟩
          | bk => exact fun σ' r => ⟨e1, q σ' (r.poke hM)⟩
          | ct => exact fun σ' r => ⟨e1, q σ' (r.poke hM)⟩
          | rt v => exact fun x r => ⟨e1, q x (Rv.poke hM v x r)⟩
        · exact q.elim
def eLock (sel : LSt → LH → Option Nat) (f : LE) : LE := fun ls L => match sel ls L with
  | some n => match lockAt L n with
    | some (t, kvs) => match f ls (L.set n (.lkd t kvs)) with
      | .ok v L' => if n < L'.length then .ok v (L'.set n (.dic t kvs)) else .bad
      | _ => .bad
    | none => .bad
  | none => .bad
theorem me_lock (sel : LSt → LH → Option Nat) (h : ME X W e fe) : ME X W e (eLock sel fe) := by
  obtain ⟨t, p, h⟩ := h
  refine ⟨_, pe_lock p, fun m L H ls σ Q S rs q => ?_⟩
  unfold eLock at q
  cases hs : sel ls L with
  | none => rw [hs] at q; exact q.elim
  | some n =>
    rw [hs] at q
    dsimp only at q
    cases hl : lockAt L n with
    | none => rw [hl] at q; exact q.elim
    | some tk =>
      obtain ⟨tt, kvs⟩ := tk
      rw [hl] at q
      dsimp only at q
      obtain ⟨d, u, hd, hu, mu, nu, S1, rs1, ro⟩ := lock_in S (lockAt_of hl)
      refine ⟨d, u, hu, mu, fun od => h m _ _ ls σ _ (S1 od) (rs1 od ls σ rs) ?_⟩
      cases hf : fe ls (L.set n (.lkd tt kvs)) with
      | bad => rw [hf] at q; exact q.elim
      | err ex L' => rw [hf] at q; exact q.elim
      | ok v L' =>
        rw [hf] at q
        dsimp only at q
        split at q
        · intro m' H' S' F' x r
          obtain ⟨e1, S2, F2, hM⟩ := unlock hd hu nu S' F' (ro m' H')
          exact ⟨e1, q m' _ S2 F2 x (Rv.poke hM v x r)⟩
        · exact q.elim
/-- the place that an expression names -/
def selE (f : LE) : LSt → LH → Option Nat := fun ls L => match f ls L with
  | .ok (.ref n) _ => some n
  | _ => none
end
end G

namespace G
open PySem PySem.Spec PyProof.Rows L2
/-! ### what a def has made and hands out is a value; the rest of what it made is let go -/
mutual
def fzn (n : Nat) (L : LH) : Nat → LV → Option LV
  | 0, _ => none
  | d + 1, .tup xs => (fzns n L d xs).map .tup
  | d + 1, .ktp xs => (fzns n L d xs).map .ktp
  | d + 1, .lst xs => (fzns n L d xs).map .lst
  | d + 1, .frz xs => (fzns n L d xs).map .frz
  | d + 1, .ref k => if k < n then some (.ref k) else match L[k]? with
    | some (.lst xs) => (fzns n L d xs).map .lst
    | _ => none
  | _ + 1, v => some v
def fzns (n : Nat) (L : LH) : Nat → List LV → Option (List LV)
  | 0, _ => none
  | _ + 1, [] => some []
  | d + 1, v :: r => match fzn n L d v, fzns n L d r with
    | some v', some r' => some (v' :: r')
    | _, _ => none
end
section
variable {K : PySem.W.Frag} {mg : Str → Option Value} {m : Mp} {H : Hp} {L : LH} {n : Nat}
mutual
theorem Rv.fzn (S : Sim K mg m H L) : ∀ (d : Nat) (v v' : LV) (x : V), G.fzn n L d v = some v' → Rv K mg m H v x → Rv K mg (m.cut n) H v' x
  | 0, _, _, _, e, _ => by simp [G.fzn] at e
  | d + 1, .tup xs, v', x, e, ⟨a, vs, e1, t, r⟩ => by
    simp only [G.fzn] at e
    obtain ⟨ys, h1, h2⟩ := Option.map_eq_some_iff.mp e
    subst h2
    exact ⟨a, vs, e1, ⟨t.1, fun z => t.2 z.1⟩, RvL.fzn S d xs ys vs h1 r⟩
  | d + 1, .ktp xs, v', x, e, ⟨a, vs, e1, t, r⟩ => by
    simp only [G.fzn] at e
    obtain ⟨ys, h1, h2⟩ := Option.map_eq_some_iff.mp e
    subst h2
    exact ⟨a, vs, e1, t, RvL.fzn S d xs ys vs h1 r⟩
  | d + 1, .lst xs, v', x, e, ⟨a, vs, e1, t, r⟩ => by
    simp only [G.fzn] at e
    obtain ⟨ys, h1, h2⟩ := Option.map_eq_some_iff.mp e
    subst h2
    exact ⟨a, vs, e1, ⟨t.1, fun z => t.2 z.1⟩, RvL.fzn S d xs ys vs h1 r⟩
  | d + 1, .frz xs, v', x, e, ⟨a, vs, e1, t, r⟩ => by
    simp only [G.fzn] at e
    obtain ⟨ys, h1, h2⟩ := Option.map_eq_some_iff.mp e
    subst h2
    exact ⟨a, vs, e1, t.elim (fun z => .inl ⟨z.1, fun y => z.2 y.1⟩) .inr, RvL.fzn S d xs ys vs h1 r⟩
  | d + 1, .ref k, v', x, e, ⟨a, ha, e1⟩ => by
    simp only [G.fzn] at e
    split at e
    · rename_i hk
      cases e
      exact ⟨a, by show (m.ι.take n)[k]? = some a; rw [List.getElem?_take_of_lt hk]; exact ha, e1⟩
    · rename_i hk
      cases hl : L[k]? with
      | none => rw [hl] at e; cases e
      | some lo =>
        rw [hl] at e
        cases lo with
        | lst xs =>
          obtain ⟨ys, h1, h2⟩ := Option.map_eq_some_iff.mp e
          subst h2
          obtain ⟨vs, hv, r⟩ := S.ob k _ a hl ha
          refine ⟨a, vs, e1, ⟨hv, fun z => ?_⟩, RvL.fzn S d xs ys vs h1 r⟩
          rcases z.2 with y | y
          · obtain ⟨j, hj, ej⟩ := List.mem_iff_getElem.mp y
            rw [List.length_take] at hj
            rw [List.getElem_take] at ej
            obtain ⟨h3, e3⟩ := List.getElem?_eq_some_iff.mp ha
            have : j = k := (List.getElem_inj S.nd).mp (ej.trans e3.symm)
            omega
          · exact y (List.mem_of_getElem? ha)
        | dic t kvs => cases e
        | ins c fs => cases e
        | lkd t kvs => cases e
  | d + 1, .non, v', x, e, h => by simp only [G.fzn] at e; cases e; exact h
  | d + 1, .bl _, v', x, e, h => by simp only [G.fzn] at e; cases e; exact h
  | d + 1, .int _, v', x, e, h => by simp only [G.fzn] at e; cases e; exact h
  | d + 1, .str _, v', x, e, h => by simp only [G.fzn] at e; cases e; exact h
  | d + 1, .fn _, v', x, e, h => by simp only [G.fzn] at e; cases e; exact h
theorem RvL.fzn (S : Sim K mg m H L) : ∀ (d : Nat) (xs ys : List LV) (vs : List V), G.fzns n L d xs = some ys → RvL K mg m H xs vs → RvL K mg (m.cut n) H ys vs
  | 0, _, _, _, e, _ => by simp [G.fzns] at e
  | d + 1, [], ys, vs, e, h => by simp only [G.fzns] at e; cases e; exact h
  | d + 1, v :: r, ys, vs, e, ⟨x, t, e1, h, hr⟩ => by
    simp only [G.fzns] at e
    cases h1 : G.fzn n L d v with
    | none => rw [h1] at e; cases e
    | some v' =>
      cases h2 : G.fzns n L d r with
      | none => rw [h1, h2] at e; cases e
      | some r' =>
        rw [h1, h2] at e
        cases e
        exact ⟨x, t, e1, Rv.fzn S d v v' x h1 h, RvL.fzn S d r r' t h2 hr⟩
end
end
def ThOk (L L2 : LH) : Prop := L.length ≤ L2.length ∧ ∀ k lo, k < L.length → L2[k]? = some lo → L[k]? = some lo ∨ blwO L.length lo = true
open Classical in
noncomputable def thawF (d : Nat) (sem : Sem') : Sem' := fun lvs L => match sem lvs L with
  | .ok v L2 => if ThOk L L2 then (match fzn L.length L2 d v with
    | some v' => .ok v' (L2.take L.length)
    | none => .ok v L2) else .ok v L2
  | r => r
theorem Cal.thaw {P : Program} {w : World} {K : PySem.W.Frag} {mg : Str → Option Value} {base : Heap} {k n : Nat} {x : Str} {sem : Sem'} (d : Nat) (c : Cal P w K mg base k x n sem) : Cal P w K mg base k x n (thawF d sem) := by
  obtain ⟨f, fd, ps, a, b, dd, e, g⟩ := c.ex
  refine ⟨f, fd, ps, a, b, dd, e, g.imp fun vs H Q E ⟨hl, m, L, lvs, S, r, q⟩ => ⟨hl, m, L, lvs, S, r, ?_⟩⟩
  unfold thawF at q
  cases hf : sem lvs L with
  | bad => rw [hf] at q; exact q
  | err ex L' => rw [hf] at q; exact q
  | ok v L2 =>
    rw [hf] at q
    dsimp only at q
    split at q
    · rename_i ht
      cases hz : fzn L.length L2 d v with
      | none => rw [hz] at q; exact q
      | some v' =>
        rw [hz] at q
        intro m' H' S' F' y ry
        obtain ⟨S3, F3⟩ := cut_ok S S' F' (Nat.le_refl _) ht.1 (fun k lo hk e => ht.2 k lo hk e)
        exact q _ _ S3 F3 y (Rv.fzn S' d v v' y hz ry)
    · exact q
theorem thaw_eq {d : Nat} {sem : Sem'} {lvs : List LV} {L A B : LH} {v v' : LV} (h : sem lvs L = .ok v (A ++ B)) (hl : A.length = L.length) (hA : ∀ (k : Nat) (lo : LO), A[k]? = some lo → L[k]? = some lo ∨ blwO L.length lo = true) (hv : fzn L.length (A ++ B) d v = some v') :
    thawF d sem lvs L = .ok v' A := by
  unfold thawF
  rw [h]
  dsimp only
  rw [if_pos, hv]
  · dsimp only
    rw [← hl, List.take_left]
  · refine ⟨by rw [List.length_append]; omega, fun k lo hk e => ?_⟩
    rw [List.getElem?_append_left (by omega)] at e
    exact hA k lo e
mutual
/-- how deep a value is, items counted -/
def dv : LV → Nat
  | .tup xs => dvs xs + 1
  | .ktp xs => dvs xs + 1
  | .lst xs => dvs xs + 1
  | .frz xs => dvs xs + 1
  | _ => 1
def dvs : List LV → Nat
  | [] => 1
  | v :: r => max (dv v) (dvs r) + 1
end
section
variable {n : Nat} {L : LH}
mutual
theorem fzn_id : ∀ (v : LV) (d : Nat), blw 0 v = true → dv v ≤ d → fzn n L d v = some v
  | .tup xs, d, b, h => by
    obtain ⟨d, rfl⟩ : ∃ e, d = e + 1 := ⟨d - 1, by simp only [dv] at h; omega⟩
    show (fzns n L d xs).map LV.tup = _
    rw [fzns_id xs d b (by simp only [dv] at h; omega)]; rfl
  | .ktp xs, d, b, h => by
    obtain ⟨d, rfl⟩ : ∃ e, d = e + 1 := ⟨d - 1, by simp only [dv] at h; omega⟩
    show (fzns n L d xs).map LV.ktp = _
    rw [fzns_id xs d b (by simp only [dv] at h; omega)]; rfl
  | .lst xs, d, b, h => by
    obtain ⟨d, rfl⟩ : ∃ e, d = e + 1 := ⟨d - 1, by simp only [dv] at h; omega⟩
    show (fzns n L d xs).map LV.lst = _
    rw [fzns_id xs d b (by simp only [dv] at h; omega)]; rfl
  | .frz xs, d, b, h => by
    obtain ⟨d, rfl⟩ : ∃ e, d = e + 1 := ⟨d - 1, by simp only [dv] at h; omega⟩
    show (fzns n L d xs).map LV.frz = _
    rw [fzns_id xs d b (by simp only [dv] at h; omega)]; rfl
  | .ref k, d, b, h => absurd (show k < 0 by simpa [blw] using b) (Nat.not_lt_zero k)
  | .non, d, b, h => by obtain ⟨d, rfl⟩ : ∃ e, d = e + 1 := ⟨d - 1, by simp only [dv] at h; omega⟩; rfl
  | .bl _, d, b, h => by obtain ⟨d, rfl⟩ : ∃ e, d = e + 1 := ⟨d - 1, by simp only [dv] at h; omega⟩; rfl
  | .int _, d, b, h => by obtain ⟨d, rfl⟩ : ∃ e, d = e + 1 := ⟨d - 1, by simp only [dv] at h; omega⟩; rfl
  | .str _, d, b, h => by obtain ⟨d, rfl⟩ : ∃ e, d = e + 1 := ⟨d - 1, by simp only [dv] at h; omega⟩; rfl
  | .fn _, d, b, h => by obtain ⟨d, rfl⟩ : ∃ e, d = e + 1 := ⟨d - 1, by simp only [dv] at h; omega⟩; rfl
theorem fzns_id : ∀ (xs : List LV) (d : Nat), blws 0 xs = true → dvs xs ≤ d → fzns n L d xs = some xs
  | [], d, b, h => by obtain ⟨d, rfl⟩ : ∃ e, d = e + 1 := ⟨d - 1, by simp only [dvs] at h; omega⟩; rfl
  | v :: r, d, b, h => by
    obtain ⟨d, rfl⟩ : ∃ e, d = e + 1 := ⟨d - 1, by simp only [dvs] at h; omega⟩
    simp only [blws, Bool.and_eq_true] at b
    simp only [dvs] at h
    show (match fzn n L d v, fzns n L d r with | some v', some r' => some (v' :: r') | _, _ => none) = _
    rw [fzn_id v d b.1 (by omega), fzns_id r d b.2 (by omega)]
end
end
end G

namespace G
open PySem PySem.Spec PyProof.Rows L2
/-! ### rules to work out a worth step by step -/
section
variable {ls ls1 ls2 : LSt} {L L1 L2 L3 : LH} {v w z a b : LV} {vs : List LV}
theorem v_var {i : Nat} (h : ls[i]? = some (some v)) : eVar i ls L = .ok v L := by unfold eVar; rw [h]
theorem v_nil : aNil ls L = .ok [] L := rfl
theorem v_cons {f : LE} {g : LF} (h1 : f ls L = .ok v L1) (h2 : g ls L1 = .ok vs L2) : aCons f g ls L = .ok (v :: vs) L2 := by unfold aCons; rw [h1]; simp only [Res.bind]; rw [h2]
theorem v_1 {f : LE} (h1 : f ls L = .ok v L1) : aCons f aNil ls L = .ok [v] L1 := v_cons h1 rfl
theorem v_2 {p : LH → LV → LV → Option LV} {fa fb : LE} (h1 : fa ls L = .ok a L1) (h2 : fb ls L1 = .ok b L2) (h3 : p L2 a b = some z) : e2 p fa fb ls L = .ok z L2 := by
  unfold e2; rw [h1]; simp only [Res.bind]; rw [h2]; simp only [h3]; rfl
theorem v_f2 {p : LH → LV → LV → Option (List LV)} {fa fb : LE} (h1 : fa ls L = .ok a L1) (h2 : fb ls L1 = .ok b L2) (h3 : p L2 a b = some vs) : f2 p fa fb ls L = .ok vs L2 := by
  unfold f2; rw [h1]; simp only [Res.bind]; rw [h2]; simp only [h3]; rfl
theorem v_call {p : LH → List LV → Option LV} {f : LF} (h1 : f ls L = .ok vs L1) (h2 : p L1 vs = some z) : eCall p f ls L = .ok z L1 := by
  unfold eCall; rw [h1]; simp only [Res.bind, h2]; rfl
theorem v_fcall {p : LH → List LV → Option (List LV)} {f : LF} {zs : List LV} (h1 : f ls L = .ok vs L1) (h2 : p L1 vs = some zs) : fCall p f ls L = .ok zs L1 := by
  unfold fCall; rw [h1]; simp only [Res.bind, h2]; rfl
theorem v_fn {sem : Sem'} {f : LF} (h1 : f ls L = .ok vs L1) (h2 : sem vs L1 = .ok z L2) : eFn sem f ls L = .ok z L2 := by
  unfold eFn; rw [h1]; simp only [Res.bind]; rw [h2]
theorem v_frz {f : LF} (h1 : f ls L = .ok vs L1) : eFrz f ls L = .ok (.lst vs) L1 := by unfold eFrz; rw [h1]; rfl
theorem v_new {f : LF} (h1 : f ls L = .ok vs L1) : eNew f ls L = .ok (.ref L1.length) (L1 ++ [.lst vs]) := by unfold eNew; rw [h1]; rfl
theorem v_tup {f : LF} (h1 : f ls L = .ok vs L1) : eTup f ls L = .ok (.tup vs) L1 := by unfold eTup; rw [h1]; rfl
theorem v_meth {T : String} {p : LH → LV → List LV → Option (LV × LH)} {fo : LE} {fa : LF} (h1 : fo ls L = .ok a L1) (ht : tyL L1 T a = true) (h2 : fa ls L1 = .ok vs L2) (h3 : p L2 a vs = some (z, L3)) : eMeth T p fo fa ls L = .ok z L3 := by
  unfold eMeth; rw [h1]; simp only [Res.bind, ht, if_true]; rw [h2]; simp only [h3]
theorem ty_ref {n : Nat} {xs : List LV} (h : L[n]? = some (.lst xs)) : tyL L "list" (.ref n) = true := by
  show ("list" == "list" && (refL L n).isSome) = true
  unfold refL; rw [h]; rfl
theorem s_asg {f : LE} {g : LG} (h1 : f ls L = .ok v L1) (h2 : g v ls L1 = some ls1) : sAsg f g ls L = .ok .nx ls1 L1 := by
  unfold sAsg; rw [h1]; simp only [Res.toS, h2]
theorem s_set {fo fi fv : LE} {i : LV} {L4 : LH} (h1 : fv ls L = .ok v L1) (h2 : fo ls L1 = .ok a L2) (h3 : fi ls L2 = .ok i L3) (h4 : pSet L3 a i v = some L4) : sSet fo fi fv ls L = .ok .nx ls L4 := by
  unfold sSet; rw [h1]; simp only [Res.toS]; rw [h2]; simp only; rw [h3]; simp only [h4]
theorem s_expr {f : LE} (h : f ls L = .ok v L1) : sExpr f ls L = .ok .nx ls L1 := by unfold sExpr; rw [h]; rfl
theorem s_ret {f : LE} (h : f ls L = .ok v L1) : sRet f ls L = .ok (.rt v) ls L1 := by unfold sRet; rw [h]; rfl
theorem s_nx {f k : LS} {r : SR} (h : f ls L = .ok .nx ls1 L1) (h2 : k ls1 L1 = r) : sSeq f k ls L = r := by unfold sSeq; rw [h]; exact h2
theorem s_rt {f k : LS} (h : f ls L = .ok (.rt v) ls1 L1) : sSeq f k ls L = .ok (.rt v) ls1 L1 := by unfold sSeq; rw [h]; rfl
theorem s_ct {f k : LS} (h : f ls L = .ok .ct ls1 L1) : sSeq f k ls L = .ok .ct ls1 L1 := by unfold sSeq; rw [h]; rfl
theorem s_bk {f k : LS} (h : f ls L = .ok .bk ls1 L1) : sSeq f k ls L = .ok .bk ls1 L1 := by unfold sSeq; rw [h]; rfl
theorem s_ift {c : LT} {f g : LS} {r : SR} (h : c ls L = .ok true L1) (h2 : f ls L1 = r) : sIf c f g ls L = r := by unfold sIf; rw [h]; simp only [Res.toS, if_true]; exact h2
theorem s_iff {c : LT} {f g : LS} {r : SR} (h : c ls L = .ok false L1) (h2 : g ls L1 = r) : sIf c f g ls L = r := by unfold sIf; rw [h]; simp only [Res.toS]; exact h2
theorem t_of {f : LE} {b : Bool} (h : f ls L = .ok (.bl b) L1) : tOf f ls L = .ok b L1 := by unfold tOf; rw [h]; rfl
theorem s_while_nx {N : Nat} {c : LT} {f : LS} {r : SR} (h1 : c ls L = .ok true L1) (h2 : f ls L1 = .ok .nx ls2 L2) (h3 : sWhile N c f ls2 L2 = r) : sWhile (N + 1) c f ls L = r := by
  unfold sWhile; rw [h1]; simp only [Res.toS, if_true]; rw [h2]; exact h3
theorem s_while_ct {N : Nat} {c : LT} {f : LS} {r : SR} (h1 : c ls L = .ok true L1) (h2 : f ls L1 = .ok .ct ls2 L2) (h3 : sWhile N c f ls2 L2 = r) : sWhile (N + 1) c f ls L = r := by
  unfold sWhile; rw [h1]; simp only [Res.toS, if_true]; rw [h2]; exact h3
theorem s_while_bk {N : Nat} {c : LT} {f : LS} (h1 : c ls L = .ok true L1) (h2 : f ls L1 = .ok .bk ls2 L2) : sWhile (N + 1) c f ls L = .ok .nx ls2 L2 := by
  unfold sWhile; rw [h1]; simp only [Res.toS, if_true]; rw [h2]
theorem s_while_rt {N : Nat} {c : LT} {f : LS} (h1 : c ls L = .ok true L1) (h2 : f ls L1 = .ok (.rt v) ls2 L2) : sWhile (N + 1) c f ls L = .ok (.rt v) ls2 L2 := by
  unfold sWhile; rw [h1]; simp only [Res.toS, if_true]; rw [h2]
theorem s_while_end {N : Nat} {c : LT} {f : LS} (h1 : c ls L = .ok false L1) : sWhile (N + 1) c f ls L = .ok .nx ls L1 := by
  unfold sWhile; rw [h1]; simp [Res.toS]
section
variable {g : LG} {f : LS} {chk : LH → Bool} {x : LV} {r : List LV} {R : SR}
theorem l_nil : forL g f chk [] ls L = .ok .nx ls L := rfl
theorem l_nx (h1 : g x ls L = some ls1) (h2 : f ls1 L = .ok .nx ls2 L2) (h3 : chk L2 = true) (h4 : forL g f chk r ls2 L2 = R) : forL g f chk (x :: r) ls L = R := by
  rw [← h4]
  show (match g x ls L with | none => SR.bad | some ls1 => match f ls1 L with | .ok .nx ls2 L2 => if chk L2 = true then forL g f chk r ls2 L2 else .bad | .ok .ct ls2 L2 => if chk L2 = true then forL g f chk r ls2 L2 else .bad | .ok .bk ls2 L2 => .ok .nx ls2 L2 | r => r) = _
  rw [h1]
  dsimp only
  rw [h2]
  dsimp only
  rw [if_pos h3]
theorem l_ct (h1 : g x ls L = some ls1) (h2 : f ls1 L = .ok .ct ls2 L2) (h3 : chk L2 = true) (h4 : forL g f chk r ls2 L2 = R) : forL g f chk (x :: r) ls L = R := by
  rw [← h4]
  show (match g x ls L with | none => SR.bad | some ls1 => match f ls1 L with | .ok .nx ls2 L2 => if chk L2 = true then forL g f chk r ls2 L2 else .bad | .ok .ct ls2 L2 => if chk L2 = true then forL g f chk r ls2 L2 else .bad | .ok .bk ls2 L2 => .ok .nx ls2 L2 | r => r) = _
  rw [h1]
  dsimp only
  rw [h2]
  dsimp only
  rw [if_pos h3]
theorem l_bk (h1 : g x ls L = some ls1) (h2 : f ls1 L = .ok .bk ls2 L2) : forL g f chk (x :: r) ls L = .ok .nx ls2 L2 := by
  show (match g x ls L with | none => SR.bad | some ls1 => match f ls1 L with | .ok .nx ls2 L2 => if chk L2 = true then forL g f chk r ls2 L2 else .bad | .ok .ct ls2 L2 => if chk L2 = true then forL g f chk r ls2 L2 else .bad | .ok .bk ls2 L2 => .ok .nx ls2 L2 | r => r) = _
  rw [h1]
  dsimp only
  rw [h2]
theorem l_rt (h1 : g x ls L = some ls1) (h2 : f ls1 L = .ok (.rt v) ls2 L2) : forL g f chk (x :: r) ls L = .ok (.rt v) ls2 L2 := by
  show (match g x ls L with | none => SR.bad | some ls1 => match f ls1 L with | .ok .nx ls2 L2 => if chk L2 = true then forL g f chk r ls2 L2 else .bad | .ok .ct ls2 L2 => if chk L2 = true then forL g f chk r ls2 L2 else .bad | .ok .bk ls2 L2 => .ok .nx ls2 L2 | r => r) = _
  rw [h1]
  dsimp only
  rw [h2]
theorem s_for {it : LI} {p : List LV × (LH → Bool)} (h1 : it ls L = .ok p L1) (h2 : forL g f p.2 p.1 ls L1 = R) : sFor it g f ls L = R := by unfold sFor; rw [h1]; exact h2
end
theorem c_map {g : LG} {tt : LT} {fe : LE} {chk : LH → Bool} {ns : List Nat} {f : LV → LV} (hc : chk L = true) : ∀ {xs : List LV}, (∀ x ∈ xs, ∃ ls1, g x (wipeL ls ns) L = some ls1 ∧ tt ls1 L = .ok true L ∧ fe ls1 L = .ok (f x) L) → compL g tt fe chk ns xs ls L = .ok (xs.map f) L
  | [], _ => rfl
  | x :: r, h => by
    obtain ⟨ls1, h1, h2, h3⟩ := h x (List.mem_cons_self ..)
    rw [compL_cons, h1]
    dsimp only
    rw [h2]
    simp only [Res.strip, Res.bind, if_true]
    rw [h3]
    simp only [hc, if_true]
    rw [c_map hc fun y hy => h y (List.mem_cons_of_mem _ hy)]
    rfl
theorem v_comp {it : LI} {g : LG} {tt : LT} {fe : LE} {ns : List Nat} {p : List LV × (LH → Bool)} (h1 : it ls L = .ok p L1) (hl : p.1.length ≤ sizeLine) (h2 : compL g tt fe p.2 ns p.1 ls L1 = .ok vs L2) : fComp it g tt fe ns ls L = .ok vs L2 := by
  unfold fComp; rw [h1]; simp only [Res.bind]; rw [if_pos hl, h2]
theorem i_of {f : LE} {p : List LV × (LH → Bool)} (h1 : f ls L = .ok v L1) (h2 : itOf L1 v = some p) : iOf f ls L = .ok p L1 := by unfold iOf; rw [h1]; simp only [Res.bind, h2]; rfl
theorem small_nat {n : Nat} (h : n ≤ 16777216) : smallI (n : Int) = true := by
  unfold smallI
  rw [decide_eq_true_eq]
  have e : (2 : Int) ^ 62 = 4611686018427387904 := by decide
  rw [e]
  exact ⟨by omega, by omega⟩
theorem rangeL_nat (n : Nat) : rangeL 0 (n : Int).toNat = (List.range n).map fun (i : Nat) => .int (i : Int) := by
  unfold rangeL
  rw [Int.toNat_natCast]
  exact List.map_congr_left fun i _ => by rw [Int.zero_add]
theorem pRange_1 (L : LH) (j : Int) : pRange L [.int j] = G.guard (smallI j) (some (rangeL 0 j.toNat, always)) := rfl
theorem guard_t {α : Type} {c : Bool} {o : Option α} (h : c = true) : G.guard c o = o := by subst h; rfl
theorem v_range {f : LF} {p : List LV × (LH → Bool)} (h1 : f ls L = .ok vs L1) (h2 : pRange L1 vs = some p) : iRange f ls L = .ok p L1 := by unfold iRange; rw [h1]; simp only [Res.bind, h2]; rfl
theorem i_range {f : LF} {n : Nat} (h1 : f ls L = .ok [.int (n : Int)] L1) (h : n ≤ 16777216) : iRange f ls L = .ok ((List.range n).map fun (i : Nat) => .int (i : Int), always) L1 :=
  v_range h1 (by rw [pRange_1, guard_t (small_nat h), rangeL_nat])
/-- a def's body -/
theorem f_ret {N : Nat} {f : LS} {args : List LV} (h : f (args.map some ++ List.replicate (N - args.length) none) L = .ok (.rt v) ls1 L1) : fnSem N f args L = .ok v L1 := by unfold fnSem; rw [h]
theorem f_nx {N : Nat} {f : LS} {args : List LV} (h : f (args.map some ++ List.replicate (N - args.length) none) L = .ok .nx ls1 L1) : fnSem N f args L = .ok .non L1 := by unfold fnSem; rw [h]
end
theorem ixN_nat {n i : Nat} (h : i < n) : ixN n (i : Int) = some i := by
  unfold ixN
  rw [if_pos (by omega), if_pos (by omega)]
  simp
theorem atI_nat {α : Type} {xs : List α} {i : Nat} {v : α} (h : xs[i]? = some v) : atI xs (i : Int) = some v := by
  unfold atI
  rw [ixN_nat (List.getElem?_eq_some_iff.mp h).1]
  exact h
section
variable {L : LH} {xs : List LV} {i n : Nat} {v : LV}
theorem ix_ref (h : L[n]? = some (.lst xs)) (h2 : xs[i]? = some v) : pIx L (.ref n) (.int (i : Int)) = some v := by
  show (match L[n]? with | some (.lst xs) => atI xs (i : Int) | some (.dic t kvs) => (dKey t (.int (i : Int))).bind fun c => dLook kvs c | _ => none) = _
  rw [h]
  exact atI_nat h2
theorem pop_ok {y : LV} (h : L[n]? = some (.lst (xs ++ [y]))) : pPop L (.ref n) [] = some (y, L.set n (.lst xs)) := by
  show (match L[n]? with
      | some (.lst xs) => (match xs[xs.length - 1]? with
        | some y => some (y, L.set n (.lst xs.dropLast))
        | none => none)
      | _ => none) = _
  rw [h]
  simp
theorem append_ok (h : L[n]? = some (.lst xs)) (hl : xs.length < sizeLine) : pAppend L (.ref n) [v] = some (LV.non, L.set n (.lst (xs ++ [v]))) := by
  show (match L[n]? with
      | some (.lst xs) => guard (decide (xs.length < sizeLine)) (some (LV.non, L.set n (.lst (xs ++ [v]))))
      | _ => none) = _
  rw [h]
  exact guard_t (decide_eq_true hl)
theorem extend_ok {ys : List LV} (h : L[n]? = some (.lst xs)) (hl : xs.length + ys.length ≤ sizeLine) : pExtend L (.ref n) [.lst ys] = some (LV.non, L.set n (.lst (xs ++ ys))) := by
  show (match L[n]? with
      | some (.lst xs) => guard (decide (xs.length + ys.length ≤ sizeLine)) (some (LV.non, L.set n (.lst (xs ++ ys))))
      | _ => none) = _
  rw [h]
  exact guard_t (decide_eq_true hl)
theorem len_ref (h : L[n]? = some (.lst xs)) : pLen L [.ref n] = some (.int xs.length) := by
  show (match L[n]? with
    | some (.lst xs) => some (LV.int xs.length)
    | some (.dic _ kvs) => some (.int kvs.length)
    | _ => none) = _
  rw [h]
theorem it_ref (h : L[n]? = some (.lst xs)) : itOf L (.ref n) = some (xs, isLst n xs) := by
  show (refL L n).map _ = _
  unfold refL; rw [h]; rfl
theorem ix_lst (h2 : xs[i]? = some v) : pIx L (.lst xs) (.int (i : Int)) = some v := atI_nat h2
theorem ix_frz (h2 : xs[i]? = some v) : pIx L (.frz xs) (.int (i : Int)) = some v := atI_nat h2
theorem ix_tup (h2 : xs[i]? = some v) : pIx L (.tup xs) (.int (i : Int)) = some v := atI_nat h2
end
end G

namespace Lw
open PySem PySem.Spec PyProof.Rows L2 G
def top (i : Nat) : Stmt := PySem.Challenge.pw_symhouse_k60_named_groups.main.body.getD i (.Pass ⟨0, 0, 0, 0⟩)
abbrev fs_PermError : List LV → List (Str × LV) := fs1 "code"
abbrev fs_BuildError : List LV → List (Str × LV) := fs1 "code"
def tt_BuildError : List (Str × Bool) := [("BuildError", true), ("PermError", false)]
def cs_code : List Str := ["BuildError"]
def tb_MATHIEU : List (Str × LV) := [("m11", .ktp [.int 11, .ktp [.str "(0 1 2 3 4 5 6 7 8 9 10)", .str "(2 6 10 7)(3 9 4 5)"]]), ("m12", .ktp [.int 12, .ktp [.str "(0 1 2 3 4 5 6 7 8 9 10)", .str "(2 6 10 7)(3 9 4 5)", .str "(0 11)(1 10)(2 5)(3 7)(4 8)(6 9)"]])]
def tb_MAKERS : List (Str × LV) := [("s", .fn "symmetric"), ("a", .fn "alternating"), ("c", .fn "cyclic"), ("d", .fn "dihedral"), ("f", .fn "affine"), ("l", .fn "projective"), ("b", .fn "linear")]
def lv_ALL : LV := .ktp [.int 1, .int 2, .int 3, .int 4, .int 5, .int 6, .int 7, .int 8, .int 9, .int 10, .int 11, .int 12, .int 13, .int 14, .int 15, .int 16]
def lv_PRIMES : LV := .ktp [.int 2, .int 3, .int 5, .int 7, .int 11, .int 13]
def tb_NUMBERS : List (Str × LV) := [("s", lv_ALL), ("a", lv_ALL), ("c", lv_ALL), ("d", lv_ALL), ("f", lv_PRIMES), ("l", lv_PRIMES), ("b", .ktp [.int 1, .int 2, .int 3, .int 4])]
/-! ### is_number -/
abbrev s_is_number : Stmt := top 6
theorem sc_is_number : FnScope ["word", "sign"] ["word"] (defScope s_is_number) := ⟨rfl, rfl, rfl, by decide +kernel, rfl, by decide +kernel, by decide +kernel⟩
def sc_b_is_number_14_42 : Scope := { kind := PySem.ScopeKind.function, names := [(PySem.Str.ofString ".0", PySem.NameKind.local), (PySem.Str.ofString "sign", PySem.NameKind.local)], isGenerator := false, isCoroutine := false, more := [] : PySem.Scope }
theorem ok_b_is_number_14_42 : BlkOk ["word", "sign"] (defScope s_is_number) sc_b_is_number_14_42 [("sign", 1)] := ⟨rfl, by decide +kernel, by decide +kernel, by decide +kernel, by decide +kernel⟩
def f_is_number : LS := (sSeq (sIf (tOrL (tOf (e2 pEq (eVar 0) (eC (.str "")))) (tOrL (tOf (e2 pGt (eCall pLen (aCons (eVar 0) aNil)) (eC (.int 2)))) (tTru (eCall pAny (aCons (eFrz (fComp (iOf (eVar 0)) (gN 1) tYesL (e2 pNin (eVar 1) (eC (.str "0123456789"))) [1])) aNil))))) (sRet (eC (.bl false))) sNop)
  (sRet (eOr (e2 pEq (eVar 0) (eC (.str "0"))) (e2 pNe (e2 pIx (eVar 0) (eC (.int 0))) (eC (.str "0"))))))
def F_is_number : Sem' := fnSem 2 f_is_number
/-! ### cycle_texts -/
abbrev s_cycle_texts : Stmt := top 7
theorem sc_cycle_texts : FnScope ["text", "found", "rest", "inner", "_", "behind"] ["text"] (defScope s_cycle_texts) := ⟨rfl, rfl, rfl, by decide +kernel, rfl, by decide +kernel, by decide +kernel⟩
def f_cycle_texts : LS := (sSeq (sAsg (eNew aNil) (gN 1))
  (sSeq (sAsg (eMeth "str" (pTxt1 (smallT sizeLine) fun a b => .str (Txt.stripChars a b)) (eVar 0) (aCons (eC (.str " ")) aNil)) (gN 2))
  (sSeq (sWhile 100000 (tOf (e2 pNe (eVar 2) (eC (.str "")))) (sSeq (sIf (tOrL (tOf (e2 pNe (e2 pIx (eVar 2) (eC (.int 0))) (eC (.str "(")))) (tOf (e2 pNin (eC (.str ")")) (eVar 2)))) (sRet (eC .non)) sNop)
  (sSeq (sAsg (eMeth "str" pPartition (e3 pSlice (eVar 2) (oSome (eC (.int 1))) oNone) (aCons (eC (.str ")")) aNil)) (gTp 3 (gCs (gN 3) (gCs (gN 4) (gCs (gN 5) gNl)))))
  (sSeq (sExpr (eMeth "list" pAppend (eVar 1) (aCons (eVar 3) aNil)))
  (sAsg (eMeth "str" (pTxt1 (smallT sizeLine) fun a b => .str (Txt.lstripChars a b)) (eVar 5) (aCons (eC (.str " ")) aNil)) (gN 2))))))
  (sRet (eIf (tTru (eVar 1)) (eVar 1) (eC .non))))))
def F_cycle_texts : Sem' := fnSem 6 f_cycle_texts
/-! ### parse_perm -/
abbrev s_parse_perm : Stmt := top 8
theorem sc_parse_perm : FnScope ["many", "text", "inners", "rows", "images", "seen", "row", "points", "point", "at", "inner", "word"] ["many", "text"] (defScope s_parse_perm) := ⟨rfl, rfl, rfl, by decide +kernel, rfl, by decide +kernel, by decide +kernel⟩
def sc_b_parse_perm_33_11 : Scope := { kind := PySem.ScopeKind.function, names := [(PySem.Str.ofString ".0", PySem.NameKind.local), (PySem.Str.ofString "inner", PySem.NameKind.local)], isGenerator := false, isCoroutine := false, more := [] : PySem.Scope }
theorem ok_b_parse_perm_33_11 : BlkOk ["many", "text", "inners", "rows", "images", "seen", "row", "points", "point", "at", "inner", "word"] (defScope s_parse_perm) sc_b_parse_perm_33_11 [("inner", 10)] := ⟨rfl, by decide +kernel, by decide +kernel, by decide +kernel, by decide +kernel⟩
def sc_b_parse_perm_33_12 : Scope := { kind := PySem.ScopeKind.function, names := [(PySem.Str.ofString ".0", PySem.NameKind.local), (PySem.Str.ofString "word", PySem.NameKind.local)], isGenerator := false, isCoroutine := false, more := [] : PySem.Scope }
theorem ok_b_parse_perm_33_12 : BlkOk ["many", "text", "inners", "rows", "images", "seen", "row", "points", "point", "at", "inner", "word"] sc_b_parse_perm_33_11 sc_b_parse_perm_33_12 [("word", 11)] := ⟨rfl, by decide +kernel, by decide +kernel, by decide +kernel, by decide +kernel⟩
def sc_b_parse_perm_34_11 : Scope := { kind := PySem.ScopeKind.function, names := [ (PySem.Str.ofString ".0", PySem.NameKind.local), (PySem.Str.ofString "row", PySem.NameKind.local), (PySem.Str.ofString "word", PySem.NameKind.local), (PySem.Str.ofString "is_number", PySem.NameKind.globalImplicit)], isGenerator := false, isCoroutine := false, more := [] : PySem.Scope }
theorem ok_b_parse_perm_34_11 : BlkOk ["many", "text", "inners", "rows", "images", "seen", "row", "points", "point", "at", "inner", "word"] (defScope s_parse_perm) sc_b_parse_perm_34_11 [("row", 6), ("word", 11)] := ⟨rfl, by decide +kernel, by decide +kernel, by decide +kernel, by decide +kernel⟩
def sc_b_parse_perm_39_17 : Scope := { kind := PySem.ScopeKind.function, names := [ (PySem.Str.ofString ".0", PySem.NameKind.local), (PySem.Str.ofString "word", PySem.NameKind.local), (PySem.Str.ofString "int", PySem.NameKind.globalImplicit)], isGenerator := false, isCoroutine := false, more := [] : PySem.Scope }
theorem ok_b_parse_perm_39_17 : BlkOk ["many", "text", "inners", "rows", "images", "seen", "row", "points", "point", "at", "inner", "word"] (defScope s_parse_perm) sc_b_parse_perm_39_17 [("word", 11)] := ⟨rfl, by decide +kernel, by decide +kernel, by decide +kernel, by decide +kernel⟩
def f_parse_perm : LS := (sSeq (sIf (tOf (e2 pGt (eCall pLen (aCons (eVar 1) aNil)) (eC (.int 200)))) (sRaise "PermError" fs_PermError (aCons (eC (.str "long")) aNil)) sNop)
  (sSeq (sAsg (eFn (pureF 200 F_cycle_texts) (aCons (eVar 1) aNil)) (gN 2))
  (sSeq (sIf (tOf (e2 pIs (eVar 2) (eC .non))) (sRaise "PermError" fs_PermError (aCons (eC (.str "form")) aNil)) sNop)
  (sSeq (sAsg (eFrz (fComp (iOf (eVar 2)) (gN 10) tYesL (eFrz (fComp (iOf (eFrz (fMeth "str" pSplit (eVar 10) (aCons (eC (.str " ")) aNil)))) (gN 11) (tOf (e2 pNe (eVar 11) (eC (.str "")))) (eVar 11) [11])) [10])) (gN 3))
  (sSeq (sIf (tTru (eCall pAny (aCons (eFrz (fComp2 (iOf (eVar 3)) (gN 6) tYesL [6, 11] (iOf (eVar 6)) (gN 11) tYesL (eNot (eFn (pureF 200 F_is_number) (aCons (eVar 11) aNil))) [11])) aNil))) (sRaise "PermError" fs_PermError (aCons (eC (.str "form")) aNil)) sNop)
  (sSeq (sAsg (eNew (fRg (rg1 (eVar 0)))) (gN 4))
  (sSeq (sAsg (eDic false) (gN 5))
  (sSeq (sFor (iOf (eVar 3)) (gN 6) (sSeq (sAsg (eFrz (fComp (iOf (eVar 6)) (gN 11) tYesL (eCall pInt (aCons (eVar 11) aNil)) [11])) (gN 7))
  (sSeq (sFor (iOf (eVar 7)) (gN 8) (sSeq (sIf (tOf (e2 pGe (eVar 8) (eVar 0))) (sRaise "PermError" fs_PermError (aCons (eC (.str "point")) aNil)) sNop)
  (sSeq (sIf (tOf (e2 pIn (eVar 8) (eVar 5))) (sRaise "PermError" fs_PermError (aCons (eC (.str "twice")) aNil)) sNop)
  (sSet (eVar 5) (eVar 8) (eC (.bl true))))))
  (sFor (iEnumL (aCons (eVar 7) aNil)) (gTp 2 (gCs (gN 9) (gCs (gN 8) gNl))) (sSet (eVar 4) (eVar 8) (e2 pIx (eVar 7) (e2 pMod (e2 pAdd (eVar 9) (eC (.int 1))) (eCall pLen (aCons (eVar 7) aNil)))))))))
  (sRet (eCall pTuple (aCons (eVar 4) aNil)))))))))))
def F_parse_perm : Sem' := fnSem 12 f_parse_perm
/-! ### turned -/
abbrev s_turned : Stmt := top 12
theorem sc_turned : FnScope ["many", "points", "images", "at", "point"] ["many", "points"] (defScope s_turned) := ⟨rfl, rfl, rfl, by decide +kernel, rfl, by decide +kernel, by decide +kernel⟩
def f_turned : LS := (sSeq (sAsg (eNew (fRg (rg1 (eVar 0)))) (gN 2))
  (sSeq (sFor (iEnumL (aCons (eVar 1) aNil)) (gTp 2 (gCs (gN 3) (gCs (gN 4) gNl))) (sSet (eVar 2) (eVar 4) (e2 pIx (eVar 1) (e2 pMod (e2 pAdd (eVar 3) (eC (.int 1))) (eCall pLen (aCons (eVar 1) aNil))))))
  (sRet (eCall pTuple (aCons (eVar 2) aNil)))))
def F_turned : Sem' := fnSem 5 f_turned
/-! ### symmetric -/
abbrev s_symmetric : Stmt := top 13
theorem sc_symmetric : FnScope ["many"] ["many"] (defScope s_symmetric) := ⟨rfl, rfl, rfl, by decide +kernel, rfl, by decide +kernel, by decide +kernel⟩
def f_symmetric : LS := (sRet (eTup (aCons (eVar 0) (aCons (eTup (aCons (eFn (pureF 200 F_turned) (aCons (eVar 0) (aCons (eFrz (fRg (rg1 (eVar 0)))) aNil))) (aCons (eFn (pureF 200 F_turned) (aCons (eVar 0) (aCons (eFrz (fRg (rg1 (eCall pMin2 (aCons (eVar 0) (aCons (eC (.int 2)) aNil)))))) aNil))) aNil))) aNil))))
def F_symmetric : Sem' := fnSem 1 f_symmetric
/-! ### alternating -/
abbrev s_alternating : Stmt := top 14
theorem sc_alternating : FnScope ["many", "at"] ["many"] (defScope s_alternating) := ⟨rfl, rfl, rfl, by decide +kernel, rfl, by decide +kernel, by decide +kernel⟩
def sc_b_alternating_60_24 : Scope := { kind := PySem.ScopeKind.function, names := [ (PySem.Str.ofString ".0", PySem.NameKind.local), (PySem.Str.ofString "at", PySem.NameKind.local), (PySem.Str.ofString "turned", PySem.NameKind.globalImplicit), (PySem.Str.ofString "many", PySem.NameKind.free)], isGenerator := false, isCoroutine := false, more := [] : PySem.Scope }
theorem ok_b_alternating_60_24 : BlkOk ["many", "at"] (defScope s_alternating) sc_b_alternating_60_24 [("at", 1)] := ⟨rfl, by decide +kernel, by decide +kernel, by decide +kernel, by decide +kernel⟩
def f_alternating : LS := (sRet (eTup (aCons (eVar 0) (aCons (eCall pTuple (aCons (eFrz (fComp (iRange (aCons (e2 pSub (eVar 0) (eC (.int 2))) aNil)) (gN 1) tYesL (eFn (pureF 200 F_turned) (aCons (eVar 0) (aCons (eFrz (aCons (eVar 1) (aCons (e2 pAdd (eVar 1) (eC (.int 1))) (aCons (e2 pAdd (eVar 1) (eC (.int 2))) aNil)))) aNil))) [1])) aNil)) aNil))))
def F_alternating : Sem' := fnSem 2 f_alternating
/-! ### cyclic -/
abbrev s_cyclic : Stmt := top 15
theorem sc_cyclic : FnScope ["many"] ["many"] (defScope s_cyclic) := ⟨rfl, rfl, rfl, by decide +kernel, rfl, by decide +kernel, by decide +kernel⟩
def f_cyclic : LS := (sRet (eTup (aCons (eVar 0) (aCons (eTup (aCons (eFn (pureF 200 F_turned) (aCons (eVar 0) (aCons (eFrz (fRg (rg1 (eVar 0)))) aNil))) aNil)) aNil))))
def F_cyclic : Sem' := fnSem 1 f_cyclic
/-! ### dihedral -/
abbrev s_dihedral : Stmt := top 16
theorem sc_dihedral : FnScope ["many", "point"] ["many"] (defScope s_dihedral) := ⟨rfl, rfl, rfl, by decide +kernel, rfl, by decide +kernel, by decide +kernel⟩
def sc_b_dihedral_64_58 : Scope := { kind := PySem.ScopeKind.function, names := [ (PySem.Str.ofString ".0", PySem.NameKind.local), (PySem.Str.ofString "point", PySem.NameKind.local), (PySem.Str.ofString "many", PySem.NameKind.free)], isGenerator := false, isCoroutine := false, more := [] : PySem.Scope }
theorem ok_b_dihedral_64_58 : BlkOk ["many", "point"] (defScope s_dihedral) sc_b_dihedral_64_58 [("point", 1)] := ⟨rfl, by decide +kernel, by decide +kernel, by decide +kernel, by decide +kernel⟩
def f_dihedral : LS := (sRet (eTup (aCons (eVar 0) (aCons (eTup (aCons (eFn (pureF 200 F_turned) (aCons (eVar 0) (aCons (eFrz (fRg (rg1 (eVar 0)))) aNil))) (aCons (eCall pTuple (aCons (eFrz (fComp (iRange (aCons (eVar 0) aNil)) (gN 1) tYesL (e2 pMod (e2 pSub (eVar 0) (eVar 1)) (eVar 0)) [1])) aNil)) aNil))) aNil))))
def F_dihedral : Sem' := fnSem 2 f_dihedral
/-! ### root_of_prime -/
abbrev s_root_of_prime : Stmt := top 17
theorem sc_root_of_prime : FnScope ["prime", "number", "power", "size"] ["prime"] (defScope s_root_of_prime) := ⟨rfl, rfl, rfl, by decide +kernel, rfl, by decide +kernel, by decide +kernel⟩
def f_root_of_prime : LS := (sSeq (sFor (iRange (aCons (eC (.int 1)) (aCons (eVar 0) aNil))) (gN 1) (sSeq (sAsg (eVar 1) (gN 2))
  (sSeq (sAsg (eC (.int 1)) (gN 3))
  (sSeq (sWhile 100000 (tOf (e2 pNe (eVar 2) (eC (.int 1)))) (sSeq (sAsg (e2 pMod (e2 pMul (eVar 2) (eVar 1)) (eVar 0)) (gN 2))
  (sAug 3 pIadd (eC (.int 1)))))
  (sIf (tOf (e2 pEq (eVar 3) (e2 pSub (eVar 0) (eC (.int 1))))) (sRet (eVar 1)) sNop)))))
  (sRet (eC (.int 1))))
def F_root_of_prime : Sem' := fnSem 4 f_root_of_prime
/-! ### affine -/
abbrev s_affine : Stmt := top 18
theorem sc_affine : FnScope ["prime", "root", "steps", "point"] ["prime"] (defScope s_affine) := ⟨rfl, rfl, rfl, by decide +kernel, rfl, by decide +kernel, by decide +kernel⟩
def sc_b_affine_77_18 : Scope := { kind := PySem.ScopeKind.function, names := [ (PySem.Str.ofString ".0", PySem.NameKind.local), (PySem.Str.ofString "point", PySem.NameKind.local), (PySem.Str.ofString "prime", PySem.NameKind.free)], isGenerator := false, isCoroutine := false, more := [] : PySem.Scope }
theorem ok_b_affine_77_18 : BlkOk ["prime", "root", "steps", "point"] (defScope s_affine) sc_b_affine_77_18 [("point", 3)] := ⟨rfl, by decide +kernel, by decide +kernel, by decide +kernel, by decide +kernel⟩
def sc_b_affine_78_33 : Scope := { kind := PySem.ScopeKind.function, names := [ (PySem.Str.ofString ".0", PySem.NameKind.local), (PySem.Str.ofString "point", PySem.NameKind.local), (PySem.Str.ofString "prime", PySem.NameKind.free), (PySem.Str.ofString "root", PySem.NameKind.free)], isGenerator := false, isCoroutine := false, more := [] : PySem.Scope }
theorem ok_b_affine_78_33 : BlkOk ["prime", "root", "steps", "point"] (defScope s_affine) sc_b_affine_78_33 [("point", 3)] := ⟨rfl, by decide +kernel, by decide +kernel, by decide +kernel, by decide +kernel⟩
def f_affine : LS := (sSeq (sAsg (eFn (pureF 200 F_root_of_prime) (aCons (eVar 0) aNil)) (gN 1))
  (sSeq (sAsg (eCall pTuple (aCons (eFrz (fComp (iRange (aCons (eVar 0) aNil)) (gN 3) tYesL (e2 pMod (e2 pAdd (eVar 3) (eC (.int 1))) (eVar 0)) [3])) aNil)) (gN 2))
  (sRet (eTup (aCons (eVar 0) (aCons (eTup (aCons (eVar 2) (aCons (eCall pTuple (aCons (eFrz (fComp (iRange (aCons (eVar 0) aNil)) (gN 3) tYesL (e2 pMod (e2 pMul (eVar 3) (eVar 1)) (eVar 0)) [3])) aNil)) aNil))) aNil))))))
def F_affine : Sem' := fnSem 4 f_affine
/-! ### inverse_below -/
abbrev s_inverse_below : Stmt := top 19
theorem sc_inverse_below : FnScope ["number", "prime", "other"] ["number", "prime"] (defScope s_inverse_below) := ⟨rfl, rfl, rfl, by decide +kernel, rfl, by decide +kernel, by decide +kernel⟩
def sc_b_inverse_below_80_11 : Scope := { kind := PySem.ScopeKind.function, names := [ (PySem.Str.ofString ".0", PySem.NameKind.local), (PySem.Str.ofString "other", PySem.NameKind.local), (PySem.Str.ofString "number", PySem.NameKind.free), (PySem.Str.ofString "prime", PySem.NameKind.free)], isGenerator := false, isCoroutine := false, more := [] : PySem.Scope }
theorem ok_b_inverse_below_80_11 : BlkOk ["number", "prime", "other"] (defScope s_inverse_below) sc_b_inverse_below_80_11 [("other", 2)] := ⟨rfl, by decide +kernel, by decide +kernel, by decide +kernel, by decide +kernel⟩
def f_inverse_below : LS := (sRet (e2 pIx (eFrz (fComp (iRange (aCons (eVar 1) aNil)) (gN 2) (tOf (e2 pEq (e2 pMod (e2 pMul (eVar 0) (eVar 2)) (eVar 1)) (eC (.int 1)))) (eVar 2) [2])) (eC (.int 0))))
def F_inverse_below : Sem' := fnSem 3 f_inverse_below
/-! ### projective -/
abbrev s_projective : Stmt := top 20
theorem sc_projective : FnScope ["prime", "steps", "flip", "point"] ["prime"] (defScope s_projective) := ⟨rfl, rfl, rfl, by decide +kernel, rfl, by decide +kernel, by decide +kernel⟩
def sc_b_projective_82_18 : Scope := { kind := PySem.ScopeKind.function, names := [ (PySem.Str.ofString ".0", PySem.NameKind.local), (PySem.Str.ofString "point", PySem.NameKind.local), (PySem.Str.ofString "prime", PySem.NameKind.free)], isGenerator := false, isCoroutine := false, more := [] : PySem.Scope }
theorem ok_b_projective_82_18 : BlkOk ["prime", "steps", "flip", "point"] (defScope s_projective) sc_b_projective_82_18 [("point", 3)] := ⟨rfl, by decide +kernel, by decide +kernel, by decide +kernel, by decide +kernel⟩
def sc_b_projective_83_21 : Scope := { kind := PySem.ScopeKind.function, names := [ (PySem.Str.ofString ".0", PySem.NameKind.local), (PySem.Str.ofString "point", PySem.NameKind.local), (PySem.Str.ofString "inverse_below", PySem.NameKind.globalImplicit), (PySem.Str.ofString "prime", PySem.NameKind.free)], isGenerator := false, isCoroutine := false, more := [] : PySem.Scope }
theorem ok_b_projective_83_21 : BlkOk ["prime", "steps", "flip", "point"] (defScope s_projective) sc_b_projective_83_21 [("point", 3)] := ⟨rfl, by decide +kernel, by decide +kernel, by decide +kernel, by decide +kernel⟩
def f_projective : LS := (sSeq (sAsg (eCall pTuple (aCons (eFrz (f2 pCat (eFrz (fComp (iRange (aCons (eVar 0) aNil)) (gN 3) tYesL (e2 pMod (e2 pAdd (eVar 3) (eC (.int 1))) (eVar 0)) [3])) (eFrz (aCons (eVar 0) aNil)))) aNil)) (gN 1))
  (sSeq (sAsg (eFrz (f2 pCat (eFrz (f2 pCat (eFrz (aCons (eVar 0) aNil)) (eFrz (fComp (iRange (aCons (eC (.int 1)) (aCons (eVar 0) aNil))) (gN 3) tYesL (e2 pMod (e2 pSub (eVar 0) (eFn (pureF 200 F_inverse_below) (aCons (eVar 3) (aCons (eVar 0) aNil)))) (eVar 0)) [3])))) (eFrz (aCons (eC (.int 0)) aNil)))) (gN 2))
  (sRet (eTup (aCons (e2 pAdd (eVar 0) (eC (.int 1))) (aCons (eTup (aCons (eVar 1) (aCons (eCall pTuple (aCons (eVar 2) aNil)) aNil))) aNil))))))
def F_projective : Sem' := fnSem 4 f_projective
/-! ### linear -/
abbrev s_linear : Stmt := top 21
theorem sc_linear : FnScope ["many", "size", "turn", "add", "shift", "shear", "point"] ["many"] (defScope s_linear) := ⟨rfl, rfl, rfl, by decide +kernel, rfl, by decide +kernel, by decide +kernel⟩
def sc_b_linear_89_16 : Scope := { kind := PySem.ScopeKind.function, names := [(PySem.Str.ofString ".0", PySem.NameKind.local), (PySem.Str.ofString "point", PySem.NameKind.local)], isGenerator := false, isCoroutine := false, more := [] : PySem.Scope }
theorem ok_b_linear_89_16 : BlkOk ["many", "size", "turn", "add", "shift", "shear", "point"] (defScope s_linear) sc_b_linear_89_16 [("point", 6)] := ⟨rfl, by decide +kernel, by decide +kernel, by decide +kernel, by decide +kernel⟩
def sc_b_linear_90_18 : Scope := { kind := PySem.ScopeKind.function, names := [ (PySem.Str.ofString ".0", PySem.NameKind.local), (PySem.Str.ofString "point", PySem.NameKind.local), (PySem.Str.ofString "size", PySem.NameKind.free)], isGenerator := false, isCoroutine := false, more := [] : PySem.Scope }
theorem ok_b_linear_90_18 : BlkOk ["many", "size", "turn", "add", "shift", "shear", "point"] (defScope s_linear) sc_b_linear_90_18 [("point", 6)] := ⟨rfl, by decide +kernel, by decide +kernel, by decide +kernel, by decide +kernel⟩
def sc_b_linear_91_18 : Scope := { kind := PySem.ScopeKind.function, names := [ (PySem.Str.ofString ".0", PySem.NameKind.local), (PySem.Str.ofString "point", PySem.NameKind.local), (PySem.Str.ofString "many", PySem.NameKind.free)], isGenerator := false, isCoroutine := false, more := [] : PySem.Scope }
theorem ok_b_linear_91_18 : BlkOk ["many", "size", "turn", "add", "shift", "shear", "point"] (defScope s_linear) sc_b_linear_91_18 [("point", 6)] := ⟨rfl, by decide +kernel, by decide +kernel, by decide +kernel, by decide +kernel⟩
def f_linear : LS := (sSeq (sAsg (eC (.int 1)) (gN 1))
  (sSeq (sFor (iRange (aCons (eVar 0) aNil)) (gN 2) (sAsg (e2 pMul (eVar 1) (eC (.int 2))) (gN 1)))
  (sSeq (sAsg (eCall pTuple (aCons (eFrz (fComp (iRange (aCons (eVar 1) aNil)) (gN 6) tYesL (e2 pXor (eVar 6) (eC (.int 1))) [6])) aNil)) (gN 3))
  (sSeq (sAsg (eCall pTuple (aCons (eFrz (fComp (iRange (aCons (eVar 1) aNil)) (gN 6) tYesL (e2 pAdd (e2 pMod (e2 pMul (eVar 6) (eC (.int 2))) (eVar 1)) (e2 pFdiv (e2 pMul (eVar 6) (eC (.int 2))) (eVar 1))) [6])) aNil)) (gN 4))
  (sSeq (sAsg (eCall pTuple (aCons (eFrz (fComp (iRange (aCons (eVar 1) aNil)) (gN 6) tYesL (eIf (tOf (e2 pGt (eVar 0) (eC (.int 1)))) (e2 pXor (eVar 6) (e2 pMod (e2 pFdiv (eVar 6) (eC (.int 2))) (eC (.int 2)))) (eVar 6)) [6])) aNil)) (gN 5))
  (sRet (eTup (aCons (eVar 1) (aCons (eTup (aCons (eVar 3) (aCons (eVar 4) (aCons (eVar 5) aNil)))) aNil)))))))))
def F_linear : Sem' := fnSem 7 f_linear
/-! ### quaternion -/
abbrev s_quaternion : Stmt := top 22
theorem sc_quaternion : FnScope [] [] (defScope s_quaternion) := ⟨rfl, rfl, rfl, by decide +kernel, rfl, by decide +kernel, by decide +kernel⟩
def f_quaternion : LS := (sRet (eTup (aCons (eC (.int 8)) (aCons (eTup (aCons (eFn (pureF 200 F_parse_perm) (aCons (eC (.int 8)) (aCons (eC (.str "(0 2 1 3)(4 6 5 7)")) aNil))) (aCons (eFn (pureF 200 F_parse_perm) (aCons (eC (.int 8)) (aCons (eC (.str "(0 4 1 5)(2 7 3 6)")) aNil))) aNil))) aNil))))
def F_quaternion : Sem' := fnSem 0 f_quaternion
def held : List (Str × Sem') := [("symmetric", (pureF 200 F_symmetric)), ("alternating", (pureF 200 F_alternating)), ("cyclic", (pureF 200 F_cyclic)), ("dihedral", (pureF 200 F_dihedral)), ("affine", (pureF 200 F_affine)), ("projective", (pureF 200 F_projective)), ("linear", (pureF 200 F_linear))]
/-! ### named -/
abbrev s_named : Stmt := top 26
theorem sc_named : FnScope ["name", "many", "texts", "head", "digits", "maker", "text", "number"] ["name"] (defScope s_named) := ⟨rfl, rfl, rfl, by decide +kernel, rfl, by decide +kernel, by decide +kernel⟩
def sc_b_named_101_28 : Scope := { kind := PySem.ScopeKind.function, names := [ (PySem.Str.ofString ".0", PySem.NameKind.local), (PySem.Str.ofString "text", PySem.NameKind.local), (PySem.Str.ofString "parse_perm", PySem.NameKind.globalImplicit), (PySem.Str.ofString "many", PySem.NameKind.free)], isGenerator := false, isCoroutine := false, more := [] : PySem.Scope }
theorem ok_b_named_101_28 : BlkOk ["name", "many", "texts", "head", "digits", "maker", "text", "number"] (defScope s_named) sc_b_named_101_28 [("text", 6)] := ⟨rfl, by decide +kernel, by decide +kernel, by decide +kernel, by decide +kernel⟩
def sc_b_named_105_43 : Scope := { kind := PySem.ScopeKind.function, names := [ (PySem.Str.ofString ".0", PySem.NameKind.local), (PySem.Str.ofString "number", PySem.NameKind.local), (PySem.Str.ofString "str", PySem.NameKind.globalImplicit)], isGenerator := false, isCoroutine := false, more := [] : PySem.Scope }
theorem ok_b_named_105_43 : BlkOk ["name", "many", "texts", "head", "digits", "maker", "text", "number"] (defScope s_named) sc_b_named_105_43 [("number", 7)] := ⟨rfl, by decide +kernel, by decide +kernel, by decide +kernel, by decide +kernel⟩
def f_named : LS := (sSeq (sIf (tOf (e2 (kdIn "MATHIEU" tb_MATHIEU) (eVar 0) (eC (.fn "MATHIEU")))) (sSeq (sAsg (e2 (kdGet "MATHIEU" tb_MATHIEU) (eC (.fn "MATHIEU")) (eVar 0)) (gTp 2 (gCs (gN 1) (gCs (gN 2) gNl))))
  (sRet (eTup (aCons (eVar 1) (aCons (eCall pTuple (aCons (eFrz (fComp (iOf (eVar 2)) (gN 6) tYesL (eFn (pureF 200 F_parse_perm) (aCons (eVar 1) (aCons (eVar 6) aNil))) [6])) aNil)) aNil))))) sNop)
  (sSeq (sIf (tOf (e2 pEq (eVar 0) (eC (.str "q8")))) (sRet (eFn0 (pureF 200 F_quaternion))) sNop)
  (sSeq (sPar 3 4 (e3 pSlice (eVar 0) oNone (oSome (eC (.int 1)))) (e3 pSlice (eVar 0) (oSome (eC (.int 1))) oNone))
  (sSeq (sIf (tOrL (tOf (e2 (kdNin "MAKERS" tb_MAKERS) (eVar 3) (eC (.fn "MAKERS")))) (tOf (e2 pNin (eVar 4) (eFrz (fComp (iOf (e2 (kdGet "NUMBERS" tb_NUMBERS) (eC (.fn "NUMBERS")) (eVar 3))) (gN 7) tYesL (eCall pStr (aCons (eVar 7) aNil)) [7]))))) (sRaise "BuildError" fs_BuildError (aCons (eC (.str "name")) aNil)) sNop)
  (sSeq (sAsg (e2 (kdGet "MAKERS" tb_MAKERS) (eC (.fn "MAKERS")) (eVar 3)) (gN 5))
  (sRet (eFnL 5 held (aCons (eCall pInt (aCons (eVar 4) aNil)) aNil))))))))
def F_named : Sem' := fnSem 8 f_named
/-! ### _law_cycle -/
abbrev s__law_cycle : Stmt := top 28
theorem sc__law_cycle : FnScope ["n", "row", "images", "k"] ["n", "row"] (defScope s__law_cycle) := ⟨rfl, rfl, rfl, by decide +kernel, rfl, by decide +kernel, by decide +kernel⟩
def f__law_cycle : LS := (sSeq (sAsg (eNew (fRg (rg1 (eVar 0)))) (gN 2))
  (sSeq (sFor (iRange (aCons (eCall pLen (aCons (eVar 1) aNil)) aNil)) (gN 3) (sSet (eVar 2) (e2 pIx (eVar 1) (eVar 3)) (e2 pIx (eVar 1) (e2 pMod (e2 pAdd (eVar 3) (eC (.int 1))) (eCall pLen (aCons (eVar 1) aNil))))))
  (sRet (eCall pTuple (aCons (eVar 2) aNil)))))
def F__law_cycle : Sem' := fnSem 4 f__law_cycle
/-! ### _law_take -/
abbrev s__law_take : Stmt := top 29
theorem sc__law_take : FnScope ["d", "many", "small", "digit"] ["d", "many"] (defScope s__law_take) := ⟨rfl, rfl, rfl, by decide +kernel, rfl, by decide +kernel, by decide +kernel⟩
def f__law_take : LS := (sSeq (sIf (tAndL (tOf (e2 pEq (e2 pIx (eVar 0) (eC (.int 2))) (eC (.int 0)))) (tOf (e2 pLt (e2 pIx (eVar 0) (eC (.int 1))) (eCall pLen (aCons (e2 pIx (eVar 0) (eC (.int 0))) aNil))))) (sSeq (sSet (eVar 0) (eC (.int 2)) (eCall pAbs (aCons (eCall pInt (aCons (e2 pIx (e2 pIx (eVar 0) (eC (.int 0))) (e2 pIx (eVar 0) (eC (.int 1)))) aNil)) aNil)))
  (sSeq (sSet (eVar 0) (eC (.int 1)) (e2 pAdd (e2 pIx (eVar 0) (eC (.int 1))) (eC (.int 1))))
  (sIf (tOf (e2 pLt (e2 pIx (eVar 0) (eC (.int 2))) (e2 pPow (eC (.int 10)) (eC (.int 18))))) (sSeq (sAsg (eCall pInt (aCons (e2 pIx (eVar 0) (eC (.int 2))) aNil)) (gN 2))
  (sSeq (sSet (eVar 0) (eC (.int 2)) (eC (.int 0)))
  (sRet (e2 pMod (eVar 2) (eVar 1))))) sNop))) sNop)
  (sSeq (sIf (tOf (e2 pGt (e2 pIx (eVar 0) (eC (.int 2))) (eC (.int 0)))) (sSeq (sAsg (e2 pMod (eCall pInt (aCons (e2 pIx (eVar 0) (eC (.int 2))) aNil)) (eVar 1)) (gN 3))
  (sSeq (sSet (eVar 0) (eC (.int 2)) (e2 pFdiv (eCall pInt (aCons (e2 pIx (eVar 0) (eC (.int 2))) aNil)) (eVar 1)))
  (sRet (eVar 3)))) sNop)
  (sSeq (sSet (eVar 0) (eC (.int 3)) (e2 pMod (eCall pInt (aCons (e2 pAdd (e2 pMul (e2 pIx (eVar 0) (eC (.int 3))) (eC (.int 69621))) (eC (.int 7))) aNil)) (eC (.int 2147483647))))
  (sRet (e2 pMod (eCall pInt (aCons (e2 pFdiv (e2 pIx (eVar 0) (eC (.int 3))) (eC (.int 5))) aNil)) (eVar 1))))))
def F__law_take : Sem' := fnSem 4 f__law_take
/-! ### _law_pick -/
abbrev s__law_pick : Stmt := top 30
theorem sc__law_pick : FnScope ["d", "menu"] ["d", "menu"] (defScope s__law_pick) := ⟨rfl, rfl, rfl, by decide +kernel, rfl, by decide +kernel, by decide +kernel⟩
def f__law_pick : LS := (sRet (e2 pIx (eVar 1) (eFn F__law_take (aCons (eVar 0) (aCons (eCall pLen (aCons (eVar 1) aNil)) aNil)))))
def F__law_pick : Sem' := fnSem 2 f__law_pick
/-! ### _law_times -/
abbrev s__law_times : Stmt := top 31
theorem sc__law_times : FnScope ["p", "q", "x"] ["p", "q"] (defScope s__law_times) := ⟨rfl, rfl, rfl, by decide +kernel, rfl, by decide +kernel, by decide +kernel⟩
def sc_b__law_times_132_17 : Scope := { kind := PySem.ScopeKind.function, names := [ (PySem.Str.ofString ".0", PySem.NameKind.local), (PySem.Str.ofString "x", PySem.NameKind.local), (PySem.Str.ofString "q", PySem.NameKind.free)], isGenerator := false, isCoroutine := false, more := [] : PySem.Scope }
theorem ok_b__law_times_132_17 : BlkOk ["p", "q", "x"] (defScope s__law_times) sc_b__law_times_132_17 [("x", 2)] := ⟨rfl, by decide +kernel, by decide +kernel, by decide +kernel, by decide +kernel⟩
def f__law_times : LS := (sRet (eCall pTuple (aCons (eFrz (fComp (iOf (eVar 0)) (gN 2) tYesL (e2 pIx (eVar 1) (eVar 2)) [2])) aNil)))
def F__law_times : Sem' := fnSem 3 f__law_times
/-! ### _law_begin -/
abbrev s__law_begin : Stmt := top 32
theorem sc__law_begin : FnScope ["script", "seed", "cell"] ["script"] (defScope s__law_begin) := ⟨rfl, rfl, rfl, by decide +kernel, rfl, by decide +kernel, by decide +kernel⟩
def f__law_begin : LS := (sSeq (sAsg (eC (.int 5)) (gN 1))
  (sSeq (sFor (iOf (eVar 0)) (gN 2) (sAsg (e2 pMod (e2 pAdd (e2 pAdd (e2 pMul (eVar 1) (eC (.int 48271))) (e2 pMod (eCall pInt (aCons (eVar 2) aNil)) (eC (.int 2147483629)))) (eC (.int 11))) (eC (.int 2147483647))) (gN 1)))
  (sRet (eNew (aCons (eFrz (fCall pList (aCons (eVar 0) aNil))) (aCons (eC (.int 0)) (aCons (eC (.int 0)) (aCons (eVar 1) aNil))))))))
def F__law_begin : Sem' := fnSem 3 f__law_begin
/-! ### _law_size -/
abbrev s__law_size : Stmt := top 33
theorem sc__law_size : FnScope ["levels", "size", "row"] ["levels"] (defScope s__law_size) := ⟨rfl, rfl, rfl, by decide +kernel, rfl, by decide +kernel, by decide +kernel⟩
def f__law_size : LS := (sSeq (sAsg (eC (.int 1)) (gN 1))
  (sSeq (sFor (iOf (eVar 0)) (gN 2) (sAsg (e2 pMul (eVar 1) (eCall pLen (aCons (eVar 2) aNil))) (gN 1)))
  (sRet (eVar 1))))
def F__law_size : Sem' := fnSem 3 f__law_size
/-! ### _law_inverse -/
abbrev s__law_inverse : Stmt := top 34
theorem sc__law_inverse : FnScope ["p", "row", "x"] ["p"] (defScope s__law_inverse) := ⟨rfl, rfl, rfl, by decide +kernel, rfl, by decide +kernel, by decide +kernel⟩
def f__law_inverse : LS := (sSeq (sAsg (eNew (f2 pRep (eFrz (aCons (eC (.int 0)) aNil)) (eCall pLen (aCons (eVar 0) aNil)))) (gN 1))
  (sSeq (sFor (iRange (aCons (eCall pLen (aCons (eVar 0) aNil)) aNil)) (gN 2) (sSet (eVar 1) (e2 pIx (eVar 0) (eVar 2)) (eVar 2)))
  (sRet (eCall pTuple (aCons (eVar 1) aNil)))))
def F__law_inverse : Sem' := fnSem 3 f__law_inverse
/-! ### _law_sift -/
abbrev s__law_sift : Stmt := top 35
theorem sc__law_sift : FnScope ["levels", "p", "i"] ["levels", "p"] (defScope s__law_sift) := ⟨rfl, rfl, rfl, by decide +kernel, rfl, by decide +kernel, by decide +kernel⟩
def f__law_sift : LS := (sSeq (sFor (iRange (aCons (eCall pLen (aCons (eVar 1) aNil)) aNil)) (gN 2) (sSeq (sIf (tOf (e2 pNin (e2 pIx (eVar 1) (eVar 2)) (e2 pIx (eVar 0) (eVar 2)))) (sRet (eTup (aCons (eVar 2) (aCons (eVar 1) aNil)))) sNop)
  (sAsg (eFn (pureF 200 F__law_times) (aCons (eVar 1) (aCons (eFn (pureF 200 F__law_inverse) (aCons (e2 pIx (e2 pIx (eVar 0) (eVar 2)) (e2 pIx (eVar 1) (eVar 2))) aNil)) aNil))) (gN 1))))
  (sRet (eTup (aCons (eCall pLen (aCons (eVar 1) aNil)) (aCons (eVar 1) aNil)))))
def F__law_sift : Sem' := fnSem 3 f__law_sift
/-! ### _law_extend -/
abbrev s__law_extend : Stmt := top 36
theorem sc__law_extend : FnScope ["levels", "strong", "j", "r", "work", "waiting", "x", "s", "made", "rest", "t"] ["levels", "strong", "j", "r", "work"] (defScope s__law_extend) := ⟨rfl, rfl, rfl, by decide +kernel, rfl, by decide +kernel, by decide +kernel⟩
def sc_b__law_extend_156_14 : Scope := { kind := PySem.ScopeKind.function, names := [ (PySem.Str.ofString ".0", PySem.NameKind.local), (PySem.Str.ofString "x", PySem.NameKind.local), (PySem.Str.ofString "r", PySem.NameKind.free)], isGenerator := false, isCoroutine := false, more := [] : PySem.Scope }
theorem ok_b__law_extend_156_14 : BlkOk ["levels", "strong", "j", "r", "work", "waiting", "x", "s", "made", "rest", "t"] (defScope s__law_extend) sc_b__law_extend_156_14 [("x", 6)] := ⟨rfl, by decide +kernel, by decide +kernel, by decide +kernel, by decide +kernel⟩
def sc_b__law_extend_162_27 : Scope := { kind := PySem.ScopeKind.function, names := [ (PySem.Str.ofString ".0", PySem.NameKind.local), (PySem.Str.ofString "t", PySem.NameKind.local), (PySem.Str.ofString "j", PySem.NameKind.free), (PySem.Str.ofString "made", PySem.NameKind.free)], isGenerator := false, isCoroutine := false, more := [] : PySem.Scope }
theorem ok_b__law_extend_162_27 : BlkOk ["levels", "strong", "j", "r", "work", "waiting", "x", "s", "made", "rest", "t"] (defScope s__law_extend) sc_b__law_extend_162_27 [("t", 10)] := ⟨rfl, by decide +kernel, by decide +kernel, by decide +kernel, by decide +kernel⟩
def f__law_extend : LS := (sSeq (sExpr (eMeth "list" pAppend (e2 pIx (eVar 1) (eVar 2)) (aCons (eVar 3) aNil)))
  (sSeq (sLock (selE (e2 pIx (eVar 0) (eVar 2))) (sAsg (eNew (fComp (iKeysL (e2 pIx (eVar 0) (eVar 2))) (gN 6) tYesL (eTup (aCons (eVar 6) (aCons (eVar 3) aNil))) [6])) (gN 5)))
  (sWhile 100000 (tOf (e2 pGt (eCall pLen (aCons (eVar 5) aNil)) (eC (.int 0)))) (sSeq (sAsg (eMeth "list" pPop (eVar 5) aNil) (gTp 2 (gCs (gN 6) (gCs (gN 7) gNl))))
  (sSeq (sAsg (eFn (pureF 200 F__law_times) (aCons (e2 pIx (e2 pIx (eVar 0) (eVar 2)) (eVar 6)) (aCons (eVar 7) aNil))) (gN 8))
  (sIf (tOf (e2 pNin (e2 pIx (eVar 8) (eVar 2)) (e2 pIx (eVar 0) (eVar 2)))) (sSeq (sSet (e2 pIx (eVar 0) (eVar 2)) (e2 pIx (eVar 8) (eVar 2)) (eVar 8))
  (sExpr (eMeth "list" pExtend (eVar 5) (aCons (eFrz (fComp (iOf (e2 pIx (eVar 1) (eVar 2))) (gN 10) tYesL (eTup (aCons (e2 pIx (eVar 8) (eVar 2)) (aCons (eVar 10) aNil))) [10])) aNil)))) (sSeq (sAsg (eFn (pureF 200 F__law_times) (aCons (eVar 8) (aCons (eFn (pureF 200 F__law_inverse) (aCons (e2 pIx (e2 pIx (eVar 0) (eVar 2)) (e2 pIx (eVar 8) (eVar 2))) aNil)) aNil))) (gN 9))
  (sIf (tOf (e2 pNe (eVar 9) (eTup (fRg (rg1 (eCall pLen (aCons (eVar 3) aNil))))))) (sExpr (eMeth "list" pAppend (eVar 4) (aCons (eVar 9) aNil))) sNop))))))))
def F__law_extend : Sem' := fnSem 11 f__law_extend
/-! ### _law_grow -/
abbrev s__law_grow : Stmt := top 37
theorem sc__law_grow : FnScope ["n", "gens", "levels", "i", "strong", "work", "r", "j"] ["n", "gens"] (defScope s__law_grow) := ⟨rfl, rfl, rfl, by decide +kernel, rfl, by decide +kernel, by decide +kernel⟩
def sc_b__law_grow_171_13 : Scope := { kind := PySem.ScopeKind.function, names := [(PySem.Str.ofString ".0", PySem.NameKind.local), (PySem.Str.ofString "i", PySem.NameKind.local)], isGenerator := false, isCoroutine := false, more := [] : PySem.Scope }
theorem ok_b__law_grow_171_13 : BlkOk ["n", "gens", "levels", "i", "strong", "work", "r", "j"] (defScope s__law_grow) sc_b__law_grow_171_13 [("i", 3)] := ⟨rfl, by decide +kernel, by decide +kernel, by decide +kernel, by decide +kernel⟩
noncomputable def f__law_grow : LS := (sSeq (sAsg (eNew aNil) (gN 2))
  (sSeq (sFor (iRange (aCons (eVar 0) aNil)) (gN 3) (sExpr (eMeth "list" pAppend (eVar 2) (aCons (eDic1K (eVar 3) (eTup (fRg (rg1 (eVar 0))))) aNil))))
  (sSeq (sAsg (eFrz (fComp (iRange (aCons (eVar 0) aNil)) (gN 3) tYesL (eNew aNil) [3])) (gN 4))
  (sSeq (sAsg (eNew (fCall pList (aCons (eVar 1) aNil))) (gN 5))
  (sSeq (sWhile 100000 (tOf (e2 pGt (eCall pLen (aCons (eVar 5) aNil)) (eC (.int 0)))) (sSeq (sAsg (eFn F__law_sift (aCons (eVar 2) (aCons (eMeth "list" pPop (eVar 5) aNil) aNil))) (gTp 2 (gCs (gN 3) (gCs (gN 6) gNl))))
  (sIf (tOf (e2 pLt (eVar 3) (eVar 0))) (sFor (iRange (aCons (e2 pAdd (eVar 3) (eC (.int 1))) aNil)) (gN 7) (sExpr (eFn (thawF 200 F__law_extend) (aCons (eVar 2) (aCons (eVar 4) (aCons (eVar 7) (aCons (eVar 6) (aCons (eVar 5) aNil)))))))) sNop)))
  (sRet (eVar 2)))))))
noncomputable def F__law_grow : Sem' := fnSem 8 f__law_grow
/-! ### _law_asked -/
abbrev s__law_asked : Stmt := top 38
theorem sc__law_asked : FnScope ["name", "e"] ["name"] (defScope s__law_asked) := ⟨rfl, rfl, rfl, by decide +kernel, rfl, by decide +kernel, by decide +kernel⟩
def f__law_asked : LS := (sTry 1 tt_BuildError (sRet (eFn (pureF 200 F_named) (aCons (eVar 0) aNil))) (xFld cs_code "code"))
def F__law_asked : Sem' := fnSem 2 f__law_asked
/-! ### _law_turn -/
abbrev s__law_turn : Stmt := top 39
theorem sc__law_turn : FnScope ["n"] ["n"] (defScope s__law_turn) := ⟨rfl, rfl, rfl, by decide +kernel, rfl, by decide +kernel, by decide +kernel⟩
def f__law_turn : LS := (sRet (eFn (pureF 200 F__law_cycle) (aCons (eVar 0) (aCons (eFrz (fRg (rg1 (eVar 0)))) aNil))))
def F__law_turn : Sem' := fnSem 1 f__law_turn
/-! ### _law_root -/
abbrev s__law_root : Stmt := top 40
theorem sc__law_root : FnScope ["p", "r", "rows"] ["p"] (defScope s__law_root) := ⟨rfl, rfl, rfl, by decide +kernel, rfl, by decide +kernel, by decide +kernel⟩
def f__law_root : LS := (sSeq (sFor (iRange (aCons (eC (.int 1)) (aCons (eVar 0) aNil))) (gN 1) (sSeq (sAsg (eNew (aCons (eC (.int 1)) aNil)) (gN 2))
  (sSeq (sWhile 100000 (tOf (e2 pNin (e2 pMod (e2 pMul (e2 pIx (eVar 2) (e1 pNeg (eC (.int 1)))) (eVar 1)) (eVar 0)) (eVar 2))) (sExpr (eMeth "list" pAppend (eVar 2) (aCons (e2 pMod (e2 pMul (e2 pIx (eVar 2) (e1 pNeg (eC (.int 1)))) (eVar 1)) (eVar 0)) aNil))))
  (sIf (tOf (e2 pEq (eCall pLen (aCons (eVar 2) aNil)) (e2 pSub (eVar 0) (eC (.int 1))))) (sRet (eVar 1)) sNop))))
  (sRet (eC (.int 1))))
def F__law_root : Sem' := fnSem 3 f__law_root
/-! ### _law_prime_group -/
abbrev s__law_prime_group : Stmt := top 41
theorem sc__law_prime_group : FnScope ["kind", "p", "step", "turn", "x", "y"] ["kind", "p"] (defScope s__law_prime_group) := ⟨rfl, rfl, rfl, by decide +kernel, rfl, by decide +kernel, by decide +kernel⟩
def sc_b__law_prime_group_195_17 : Scope := { kind := PySem.ScopeKind.function, names := [ (PySem.Str.ofString ".0", PySem.NameKind.local), (PySem.Str.ofString "x", PySem.NameKind.local), (PySem.Str.ofString "p", PySem.NameKind.free)], isGenerator := false, isCoroutine := false, more := [] : PySem.Scope }
theorem ok_b__law_prime_group_195_17 : BlkOk ["kind", "p", "step", "turn", "x", "y"] (defScope s__law_prime_group) sc_b__law_prime_group_195_17 [("x", 4)] := ⟨rfl, by decide +kernel, by decide +kernel, by decide +kernel, by decide +kernel⟩
def sc_b__law_prime_group_197_32 : Scope := { kind := PySem.ScopeKind.function, names := [ (PySem.Str.ofString ".0", PySem.NameKind.local), (PySem.Str.ofString "x", PySem.NameKind.local), (PySem.Str.ofString "_law_root", PySem.NameKind.globalImplicit), (PySem.Str.ofString "p", PySem.NameKind.free)], isGenerator := false, isCoroutine := false, more := [] : PySem.Scope }
theorem ok_b__law_prime_group_197_32 : BlkOk ["kind", "p", "step", "turn", "x", "y"] (defScope s__law_prime_group) sc_b__law_prime_group_197_32 [("x", 4)] := ⟨rfl, by decide +kernel, by decide +kernel, by decide +kernel, by decide +kernel⟩
def sc_b__law_prime_group_200_18 : Scope := { kind := PySem.ScopeKind.function, names := [ (PySem.Str.ofString ".0", PySem.NameKind.local), (PySem.Str.ofString "y", PySem.NameKind.local), (PySem.Str.ofString "p", PySem.NameKind.free), (PySem.Str.ofString "x", PySem.NameKind.free)], isGenerator := false, isCoroutine := false, more := [] : PySem.Scope }
theorem ok_b__law_prime_group_200_18 : BlkOk ["kind", "p", "step", "turn", "x", "y"] (defScope s__law_prime_group) sc_b__law_prime_group_200_18 [("y", 5)] := ⟨rfl, by decide +kernel, by decide +kernel, by decide +kernel, by decide +kernel⟩
def f__law_prime_group : LS := (sSeq (sAsg (eCall pTuple (aCons (eFrz (fComp (iRange (aCons (eVar 1) aNil)) (gN 4) tYesL (e2 pMod (e2 pAdd (eVar 4) (eC (.int 1))) (eVar 1)) [4])) aNil)) (gN 2))
  (sSeq (sIf (tOf (e2 pEq (eVar 0) (eC (.str "f")))) (sRet (eFrz (aCons (eVar 1) (aCons (eFrz (aCons (eVar 2) (aCons (eCall pTuple (aCons (eFrz (fComp (iRange (aCons (eVar 1) aNil)) (gN 4) tYesL (e2 pMod (e2 pMul (eFn (pureF 200 F__law_root) (aCons (eVar 1) aNil)) (eVar 4)) (eVar 1)) [4])) aNil)) aNil))) (aCons (e2 pMul (eVar 1) (e2 pSub (eVar 1) (eC (.int 1)))) aNil))))) sNop)
  (sSeq (sAsg (eNew (f2 pCat (eFrz (aCons (eVar 1) aNil)) (eFrz (f2 pRep (eFrz (aCons (eC (.int 0)) aNil)) (eVar 1))))) (gN 3))
  (sSeq (sFor (iRange (aCons (eC (.int 1)) (aCons (eVar 1) aNil))) (gN 4) (sSet (eVar 3) (eVar 4) (e2 pIx (eFrz (fComp (iRange (aCons (eVar 1) aNil)) (gN 5) (tOf (e2 pEq (e2 pMod (e2 pAdd (e2 pMul (eVar 4) (eVar 5)) (eC (.int 1))) (eVar 1)) (eC (.int 0)))) (eVar 5) [5])) (eC (.int 0)))))
  (sRet (eFrz (aCons (e2 pAdd (eVar 1) (eC (.int 1))) (aCons (eFrz (aCons (e2 pAdd (eVar 2) (eTup (aCons (eVar 1) aNil))) (aCons (eCall pTuple (aCons (eVar 3) aNil)) aNil))) (aCons (e2 pFdiv (e2 pMul (eVar 1) (e2 pSub (e2 pMul (eVar 1) (eVar 1)) (eC (.int 1)))) (eIf (tOf (e2 pEq (eVar 1) (eC (.int 2)))) (eC (.int 1)) (eC (.int 2)))) aNil)))))))))
def F__law_prime_group : Sem' := fnSem 6 f__law_prime_group
/-! ### _law_bits -/
abbrev s__law_bits : Stmt := top 42
theorem sc__law_bits : FnScope ["k", "n", "last", "shift", "shear", "x"] ["k"] (defScope s__law_bits) := ⟨rfl, rfl, rfl, by decide +kernel, rfl, by decide +kernel, by decide +kernel⟩
def sc_b__law_bits_204_17 : Scope := { kind := PySem.ScopeKind.function, names := [ (PySem.Str.ofString ".0", PySem.NameKind.local), (PySem.Str.ofString "x", PySem.NameKind.local), (PySem.Str.ofString "int", PySem.NameKind.globalImplicit)], isGenerator := false, isCoroutine := false, more := [] : PySem.Scope }
theorem ok_b__law_bits_204_17 : BlkOk ["k", "n", "last", "shift", "shear", "x"] (defScope s__law_bits) sc_b__law_bits_204_17 [("x", 5)] := ⟨rfl, by decide +kernel, by decide +kernel, by decide +kernel, by decide +kernel⟩
def sc_b__law_bits_205_18 : Scope := { kind := PySem.ScopeKind.function, names := [ (PySem.Str.ofString ".0", PySem.NameKind.local), (PySem.Str.ofString "x", PySem.NameKind.local), (PySem.Str.ofString "n", PySem.NameKind.free)], isGenerator := false, isCoroutine := false, more := [] : PySem.Scope }
theorem ok_b__law_bits_205_18 : BlkOk ["k", "n", "last", "shift", "shear", "x"] (defScope s__law_bits) sc_b__law_bits_205_18 [("x", 5)] := ⟨rfl, by decide +kernel, by decide +kernel, by decide +kernel, by decide +kernel⟩
def sc_b__law_bits_206_18 : Scope := { kind := PySem.ScopeKind.function, names := [ (PySem.Str.ofString ".0", PySem.NameKind.local), (PySem.Str.ofString "x", PySem.NameKind.local), (PySem.Str.ofString "int", PySem.NameKind.globalImplicit), (PySem.Str.ofString "k", PySem.NameKind.free), (PySem.Str.ofString "last", PySem.NameKind.free)], isGenerator := false, isCoroutine := false, more := [] : PySem.Scope }
theorem ok_b__law_bits_206_18 : BlkOk ["k", "n", "last", "shift", "shear", "x"] (defScope s__law_bits) sc_b__law_bits_206_18 [("x", 5)] := ⟨rfl, by decide +kernel, by decide +kernel, by decide +kernel, by decide +kernel⟩
def f__law_bits : LS := (sSeq (sAsg (e2 pIx (eFrz (aCons (eC (.int 1)) (aCons (eC (.int 2)) (aCons (eC (.int 4)) (aCons (eC (.int 8)) (aCons (eC (.int 16)) aNil)))))) (eVar 0)) (gN 1))
  (sSeq (sAsg (eCall pTuple (aCons (eFrz (fComp (iRange (aCons (eVar 1) aNil)) (gN 5) tYesL (e2 pSub (e2 pAdd (eVar 5) (eC (.int 1))) (e2 pMul (eC (.int 2)) (e2 pMod (eCall pInt (aCons (eVar 5) aNil)) (eC (.int 2))))) [5])) aNil)) (gN 2))
  (sSeq (sAsg (eCall pTuple (aCons (eFrz (fComp (iRange (aCons (eVar 1) aNil)) (gN 5) tYesL (eIf (tOf (e2 pLt (e2 pMul (eC (.int 2)) (eVar 5)) (eVar 1))) (e2 pMul (eC (.int 2)) (eVar 5)) (e2 pAdd (e2 pSub (e2 pMul (eC (.int 2)) (eVar 5)) (eVar 1)) (eC (.int 1)))) [5])) aNil)) (gN 3))
  (sSeq (sAsg (eCall pTuple (aCons (eFrz (fComp (iRange (aCons (eVar 1) aNil)) (gN 5) tYesL (eIf (tAndL (tOf (e2 pGt (eVar 0) (eC (.int 1)))) (tOf (e2 pEq (e2 pMod (eCall pInt (aCons (e2 pFdiv (eVar 5) (eC (.int 2))) aNil)) (eC (.int 2))) (eC (.int 1))))) (e2 pIx (eVar 2) (eVar 5)) (eVar 5)) [5])) aNil)) (gN 4))
  (sRet (eFrz (aCons (eVar 1) (aCons (eFrz (aCons (eVar 2) (aCons (eVar 3) (aCons (eVar 4) aNil)))) (aCons (e2 pIx (eFrz (aCons (eC (.int 1)) (aCons (eC (.int 2)) (aCons (eC (.int 24)) (aCons (eC (.int 1344)) (aCons (eC (.int 322560)) aNil)))))) (eVar 0)) aNil)))))))))
def F__law_bits : Sem' := fnSem 6 f__law_bits
/-! ### _law_due -/
abbrev s__law_due : Stmt := top 43
theorem sc__law_due : FnScope ["d", "n", "kind", "full", "k", "p", "twelve", "gens", "x"] ["d"] (defScope s__law_due) := ⟨rfl, rfl, rfl, by decide +kernel, rfl, by decide +kernel, by decide +kernel⟩
def sc_b__law_due_217_34 : Scope := { kind := PySem.ScopeKind.function, names := [ (PySem.Str.ofString ".0", PySem.NameKind.local), (PySem.Str.ofString "k", PySem.NameKind.local), (PySem.Str.ofString "_law_cycle", PySem.NameKind.globalImplicit), (PySem.Str.ofString "n", PySem.NameKind.free)], isGenerator := false, isCoroutine := false, more := [] : PySem.Scope }
theorem ok_b__law_due_217_34 : BlkOk ["d", "n", "kind", "full", "k", "p", "twelve", "gens", "x"] (defScope s__law_due) sc_b__law_due_217_34 [("k", 4)] := ⟨rfl, by decide +kernel, by decide +kernel, by decide +kernel, by decide +kernel⟩
def sc_b__law_due_221_55 : Scope := { kind := PySem.ScopeKind.function, names := [ (PySem.Str.ofString ".0", PySem.NameKind.local), (PySem.Str.ofString "x", PySem.NameKind.local), (PySem.Str.ofString "n", PySem.NameKind.free)], isGenerator := false, isCoroutine := false, more := [] : PySem.Scope }
theorem ok_b__law_due_221_55 : BlkOk ["d", "n", "kind", "full", "k", "p", "twelve", "gens", "x"] (defScope s__law_due) sc_b__law_due_221_55 [("x", 8)] := ⟨rfl, by decide +kernel, by decide +kernel, by decide +kernel, by decide +kernel⟩
def f__law_due : LS := (sSeq (sAsg (e2 pAdd (eC (.int 1)) (eFn F__law_take (aCons (eVar 0) (aCons (eC (.int 16)) aNil)))) (gN 1))
  (sSeq (sAsg (eFn F__law_pick (aCons (eVar 0) (aCons (eFrz (aCons (eC (.str "s")) (aCons (eC (.str "a")) (aCons (eC (.str "c")) (aCons (eC (.str "d")) (aCons (eC (.str "f")) (aCons (eC (.str "l")) (aCons (eC (.str "b")) (aCons (eC (.str "q")) (aCons (eC (.str "m")) aNil)))))))))) aNil))) (gN 2))
  (sSeq (sAsg (eC (.int 1)) (gN 3))
  (sSeq (sFor (iRange (aCons (eVar 1) aNil)) (gN 4) (sAsg (e2 pMul (eVar 3) (e2 pAdd (eVar 4) (eC (.int 1)))) (gN 3)))
  (sSeq (sIf (tOf (e2 pEq (eVar 2) (eC (.str "s")))) (sRet (eFrz (aCons (e2 pAdd (eVar 2) (eCall pStr (aCons (eVar 1) aNil))) (aCons (eVar 1) (aCons (eFrz (aCons (eFn (pureF 200 F__law_turn) (aCons (eVar 1) aNil)) (aCons (eFn (pureF 200 F__law_cycle) (aCons (eVar 1) (aCons (eFrz (fRg (rg1 (eCall pMin2 (aCons (eC (.int 2)) (aCons (eVar 1) aNil)))))) aNil))) aNil))) (aCons (eVar 3) aNil)))))) sNop)
  (sSeq (sIf (tOf (e2 pEq (eVar 2) (eC (.str "a")))) (sRet (eFrz (aCons (e2 pAdd (eVar 2) (eCall pStr (aCons (eVar 1) aNil))) (aCons (eVar 1) (aCons (eFrz (fComp (iRange (aCons (e2 pSub (eVar 1) (eC (.int 2))) aNil)) (gN 4) tYesL (eFn (pureF 200 F__law_cycle) (aCons (eVar 1) (aCons (eFrz (aCons (eVar 4) (aCons (e2 pAdd (eVar 4) (eC (.int 1))) (aCons (e2 pAdd (eVar 4) (eC (.int 2))) aNil)))) aNil))) [4])) (aCons (eIf (tOf (e2 pGt (eVar 1) (eC (.int 1)))) (e2 pFdiv (eVar 3) (eC (.int 2))) (eC (.int 1))) aNil)))))) sNop)
  (sSeq (sIf (tOf (e2 pEq (eVar 2) (eC (.str "c")))) (sRet (eFrz (aCons (e2 pAdd (eVar 2) (eCall pStr (aCons (eVar 1) aNil))) (aCons (eVar 1) (aCons (eFrz (aCons (eFn (pureF 200 F__law_turn) (aCons (eVar 1) aNil)) aNil)) (aCons (eVar 1) aNil)))))) sNop)
  (sSeq (sIf (tOf (e2 pEq (eVar 2) (eC (.str "d")))) (sRet (eFrz (aCons (e2 pAdd (eVar 2) (eCall pStr (aCons (eVar 1) aNil))) (aCons (eVar 1) (aCons (eFrz (aCons (eFn (pureF 200 F__law_turn) (aCons (eVar 1) aNil)) (aCons (eCall pTuple (aCons (eFrz (fComp (iRange (aCons (eVar 1) aNil)) (gN 8) tYesL (e2 pMod (e2 pSub (eVar 1) (eVar 8)) (eVar 1)) [8])) aNil)) aNil))) (aCons (eIf (tOf (e2 pGt (eVar 1) (eC (.int 2)))) (e2 pMul (eC (.int 2)) (eVar 1)) (eVar 1)) aNil)))))) sNop)
  (sSeq (sIf (tOf (e2 pIn (eVar 2) (eFrz (aCons (eC (.str "f")) (aCons (eC (.str "l")) aNil))))) (sSeq (sAsg (eFn F__law_pick (aCons (eVar 0) (aCons (eFrz (aCons (eC (.int 2)) (aCons (eC (.int 3)) (aCons (eC (.int 5)) (aCons (eC (.int 7)) (aCons (eC (.int 11)) (aCons (eC (.int 13)) aNil))))))) aNil))) (gN 5))
  (sRet (eFrz (f2 pCat (eFrz (aCons (e2 pAdd (eVar 2) (eCall pStr (aCons (eVar 5) aNil))) aNil)) (eFn (pureF 200 F__law_prime_group) (aCons (eVar 2) (aCons (eVar 5) aNil))))))) sNop)
  (sSeq (sIf (tOf (e2 pEq (eVar 2) (eC (.str "b")))) (sSeq (sAsg (e2 pAdd (eC (.int 1)) (eFn F__law_take (aCons (eVar 0) (aCons (eC (.int 4)) aNil)))) (gN 4))
  (sRet (eFrz (f2 pCat (eFrz (aCons (e2 pAdd (eC (.str "b")) (eCall pStr (aCons (eVar 4) aNil))) aNil)) (eFn (pureF 200 F__law_bits) (aCons (eVar 4) aNil)))))) sNop)
  (sSeq (sIf (tOf (e2 pEq (eVar 2) (eC (.str "q")))) (sRet (eFrz (aCons (eC (.str "q8")) (aCons (eC (.int 8)) (aCons (eFrz (aCons (eTup (aCons (eC (.int 2)) (aCons (eC (.int 3)) (aCons (eC (.int 1)) (aCons (eC (.int 0)) (aCons (eC (.int 6)) (aCons (eC (.int 7)) (aCons (eC (.int 5)) (aCons (eC (.int 4)) aNil))))))))) (aCons (eTup (aCons (eC (.int 4)) (aCons (eC (.int 5)) (aCons (eC (.int 7)) (aCons (eC (.int 6)) (aCons (eC (.int 1)) (aCons (eC (.int 0)) (aCons (eC (.int 2)) (aCons (eC (.int 3)) aNil))))))))) aNil))) (aCons (eC (.int 8)) aNil)))))) sNop)
  (sSeq (sAsg (eFn F__law_take (aCons (eVar 0) (aCons (eC (.int 2)) aNil))) (gN 6))
  (sSeq (sAsg (e2 pAdd (eC (.int 11)) (eVar 6)) (gN 1))
  (sSeq (sAsg (eNew (aCons (eFn (pureF 200 F__law_cycle) (aCons (eVar 1) (aCons (eFrz (fRg (rg1 (eC (.int 11))))) aNil))) (aCons (eFn (pureF 200 F__law_times) (aCons (eFn (pureF 200 F__law_cycle) (aCons (eVar 1) (aCons (eFrz (aCons (eC (.int 2)) (aCons (eC (.int 6)) (aCons (eC (.int 10)) (aCons (eC (.int 7)) aNil))))) aNil))) (aCons (eFn (pureF 200 F__law_cycle) (aCons (eVar 1) (aCons (eFrz (aCons (eC (.int 3)) (aCons (eC (.int 9)) (aCons (eC (.int 4)) (aCons (eC (.int 5)) aNil))))) aNil))) aNil))) aNil))) (gN 7))
  (sSeq (sIf (tOf (e2 pEq (eVar 6) (eC (.int 1)))) (sExpr (eMeth "list" pAppend (eVar 7) (aCons (eTup (aCons (eC (.int 11)) (aCons (eC (.int 10)) (aCons (eC (.int 5)) (aCons (eC (.int 7)) (aCons (eC (.int 8)) (aCons (eC (.int 2)) (aCons (eC (.int 9)) (aCons (eC (.int 3)) (aCons (eC (.int 4)) (aCons (eC (.int 6)) (aCons (eC (.int 1)) (aCons (eC (.int 0)) aNil))))))))))))) aNil))) sNop)
  (sRet (eFrz (aCons (e2 pAdd (eC (.str "m")) (eCall pStr (aCons (eVar 1) aNil))) (aCons (eVar 1) (aCons (eVar 7) (aCons (e2 pIx (eFrz (aCons (eC (.int 7920)) (aCons (eC (.int 95040)) aNil))) (eVar 6)) aNil)))))))))))))))))))))
def F__law_due : Sem' := fnSem 9 f__law_due
/-! ### law -/
abbrev s_law : Stmt := top 44
theorem sc_law : FnScope ["script", "d", "turn", "name", "n", "gens", "size", "wrong", "known"] ["script"] (defScope s_law) := ⟨rfl, rfl, rfl, by decide +kernel, rfl, by decide +kernel, by decide +kernel⟩
noncomputable def f_law : LS := (sSeq (sAsg (eFn F__law_begin (aCons (eVar 0) aNil)) (gN 1))
  (sSeq (sFor (iRange (aCons (eC (.int 3)) aNil)) (gN 2) (sSeq (sAsg (eFn (thawF 200 F__law_due) (aCons (eVar 1) aNil)) (gLs 4 (gCs (gN 3) (gCs (gN 4) (gCs (gN 5) (gCs (gN 6) gNl))))))
  (sSeq (sIf (tOrL (tOf (e2 pNe (eFn (pureF 200 F__law_asked) (aCons (eVar 3) aNil)) (eTup (aCons (eVar 4) (aCons (eCall pTuple (aCons (eVar 5) aNil)) aNil))))) (tOf (e2 pNe (pureE 200 (eFn F__law_size (aCons (eFn F__law_grow (aCons (eVar 4) (aCons (eVar 5) aNil))) aNil))) (eVar 6)))) (sRet (eC (.bl false))) sNop)
  (sSeq (sAsg (eFn F__law_pick (aCons (eVar 1) (aCons (eFrz (aCons (e2 pAdd (eVar 3) (eC (.str "0"))) (aCons (e3 pSlice (eVar 3) oNone (oSome (eC (.int 1)))) (aCons (eC (.str "")) (aCons (eC (.str "s17")) (aCons (eC (.str "s0")) (aCons (eC (.str "s01")) (aCons (eC (.str "f4")) (aCons (eC (.str "l1")) (aCons (eC (.str "b5")) (aCons (eC (.str "b0")) (aCons (eC (.str "q9")) (aCons (eC (.str "m10")) (aCons (eC (.str "x3")) (aCons (eMeth "str" (pTxt0 (smallT 5592405) fun a => .str (Txt.upper a)) (eVar 3) aNil) (aCons (e2 pAdd (eC (.str " ")) (eVar 3)) (aCons (eC (.str "d-1")) aNil))))))))))))))))) aNil))) (gN 7))
  (sSeq (sAsg (eFrz (aCons (eC (.str "s10")) (aCons (eC (.str "a10")) (aCons (eC (.str "c10")) (aCons (eC (.str "d10")) (aCons (eC (.str "d1")) (aCons (eC (.str "f2")) (aCons (eC (.str "s1")) (aCons (eC (.str "a1")) (aCons (eC (.str "c1")) (aCons (eC (.str "l1")) aNil))))))))))) (gN 8))
  (sIf (tAndL (tOf (e2 pNin (eVar 7) (eVar 8))) (tAndL (tOf (e2 pNe (eVar 7) (eVar 3))) (tAndL (tOf (e2 pNe (eFn (pureF 200 F__law_asked) (aCons (eVar 7) aNil)) (eC (.str "name")))) (tNotL (tAndL (tOf (e2 pEq (eCall pLen (aCons (eVar 7) aNil)) (eC (.int 3)))) (tOf (e2 pEq (e3 pSlice (eVar 7) (oSome (eC (.int 1))) oNone) (eC (.str "10"))))))))) (sRet (eC (.bl false))) sNop))))))
  (sRet (eAnd (e2 pEq (eFn (pureF 200 F__law_asked) (aCons (eC (.str "s17")) aNil)) (eC (.str "name"))) (eAnd (e2 pEq (eFn (pureF 200 F__law_asked) (aCons (eC (.str "f9")) aNil)) (eC (.str "name"))) (eAnd (e2 pEq (eFn (pureF 200 F__law_asked) (aCons (eC (.str "m13")) aNil)) (eC (.str "name"))) (e2 pEq (eFn (pureF 200 F__law_asked) (aCons (eC (.str "s01")) aNil)) (eC (.str "name")))))))))
noncomputable def F_law : Sem' := fnSem 9 f_law
end Lw

namespace Lw
open PySem PySem.Spec PyProof.Rows L2 G
def D (sc : List Int) (i : Nat) (acc seed : Int) : LO := .lst [.lst (sc.map .int), .int i, .int acc, .int seed]
theorem pEq_ii (L : LH) (i j : Int) : pEq L (.int i) (.int j) = some (.bl (decide (i = j))) := rfl
theorem pNe_ii (L : LH) (i j : Int) : pNe L (.int i) (.int j) = some (.bl (!decide (i = j))) := rfl
theorem pLt_ii (L : LH) (i j : Int) : pLt L (.int i) (.int j) = some (.bl (decide (i < j))) := rfl
theorem pLen_l (L : LH) (xs : List LV) : pLen L [.lst xs] = some (.int xs.length) := rfl
def tkA : LS := (sIf (tAndL (tOf (e2 pEq (e2 pIx (eVar 0) (eC (.int 2))) (eC (.int 0)))) (tOf (e2 pLt (e2 pIx (eVar 0) (eC (.int 1))) (eCall pLen (aCons (e2 pIx (eVar 0) (eC (.int 0))) aNil))))) (sSeq (sSet (eVar 0) (eC (.int 2)) (eCall pAbs (aCons (eCall pInt (aCons (e2 pIx (e2 pIx (eVar 0) (eC (.int 0))) (e2 pIx (eVar 0) (eC (.int 1)))) aNil)) aNil)))
  (sSeq (sSet (eVar 0) (eC (.int 1)) (e2 pAdd (e2 pIx (eVar 0) (eC (.int 1))) (eC (.int 1))))
  (sIf (tOf (e2 pLt (e2 pIx (eVar 0) (eC (.int 2))) (e2 pPow (eC (.int 10)) (eC (.int 18))))) (sSeq (sAsg (eCall pInt (aCons (e2 pIx (eVar 0) (eC (.int 2))) aNil)) (gN 2))
  (sSeq (sSet (eVar 0) (eC (.int 2)) (eC (.int 0)))
  (sRet (e2 pMod (eVar 2) (eVar 1))))) sNop))) sNop)
def tkB : LS := (sSeq (sIf (tOf (e2 pGt (e2 pIx (eVar 0) (eC (.int 2))) (eC (.int 0)))) (sSeq (sAsg (e2 pMod (eCall pInt (aCons (e2 pIx (eVar 0) (eC (.int 2))) aNil)) (eVar 1)) (gN 3))
  (sSeq (sSet (eVar 0) (eC (.int 2)) (e2 pFdiv (eCall pInt (aCons (e2 pIx (eVar 0) (eC (.int 2))) aNil)) (eVar 1)))
  (sRet (eVar 3)))) sNop)
  (sSeq (sSet (eVar 0) (eC (.int 3)) (e2 pMod (eCall pInt (aCons (e2 pAdd (e2 pMul (e2 pIx (eVar 0) (eC (.int 3))) (eC (.int 69621))) (eC (.int 7))) aNil)) (eC (.int 2147483647))))
  (sRet (e2 pMod (eCall pInt (aCons (e2 pFdiv (e2 pIx (eVar 0) (eC (.int 3))) (eC (.int 5))) aNil)) (eVar 1)))))
theorem tk_run {args : List LV} {L L1 L2 : LH} {ls ls2 : LSt} {v : LV} (h1 : tkA (args.map some ++ List.replicate (4 - args.length) none) L = .ok .nx ls L1) (h2 : tkB ls L1 = .ok (.rt v) ls2 L2) : F__law_take args L = .ok v L2 := by
  show fnSem 4 (sSeq tkA tkB) args L = _
  unfold fnSem sSeq
  rw [h1]
  show (match (tkB ls L1 : SR) with | .ok (.rt v) _ L' => Res.ok v L' | .ok .nx _ L' => .ok .non L' | .err e _ L' => .err e L' | _ => .bad) = _
  rw [h2]
/-- what take leaves -/
def Tk (sc : List Int) (many r : Int) (i : Nat) (acc seed : Int) : Prop := (0 ≤ r ∧ r < many) ∧ (i ≤ sc.length ∧ 0 ≤ acc ∧ 0 ≤ seed)
theorem tkB_ok (sc : List Int) (i : Nat) (acc seed many : Int) (R : LH) (x y : Option LV) (hi : i ≤ sc.length) (ha : 0 ≤ acc) (hs : 0 ≤ seed) (hm : 0 < many) (hm2 : many < 1073741824) :
    ∃ (r : Int) (i' : Nat) (acc' seed' : Int), Tk sc many r i' acc' seed' ∧ ∃ ls, tkB [some (.ref 0), some (.int many), x, y] (D sc i acc seed :: R) = .ok (.rt (.int r)) ls (D sc i' acc' seed' :: R) := by
  by_cases h0 : 0 < acc
  · refine ⟨acc % many, i, acc / many, seed, ⟨⟨Int.emod_nonneg _ (by omega), Int.emod_lt_of_pos _ hm⟩, ⟨hi, Int.ediv_nonneg ha (by omega), hs⟩⟩, ?_⟩
    simp [tkB, sSeq, SR.then, sIf, tOf, e2, eVar, eC, eCall, aCons, aNil, Res.bind, Res.toS, lift, pIx, D, atI, ixN, pGt, h0, sAsg, gN, pInt, pMod, G.guard, hm, sSet, pFdiv, hm2, pSet, sRet]
  · refine ⟨((seed * 69621 + 7) % 2147483647 / 5) % many, i, acc, (seed * 69621 + 7) % 2147483647, ⟨⟨Int.emod_nonneg _ (by omega), Int.emod_lt_of_pos _ hm⟩, ⟨hi, ha, Int.emod_nonneg _ (by decide)⟩⟩, ?_⟩
    simp [tkB, sSeq, SR.then, sIf, tOf, e2, eVar, eC, eCall, aCons, aNil, Res.bind, Res.toS, lift, pIx, D, atI, ixN, pGt, sAsg, gN, pInt, pMod, G.guard, hm, sSet, pFdiv, hm2, pSet, sRet, pMul, pAdd, sNop, h0]
theorem take_ok (sc : List Int) (i : Nat) (acc seed many : Int) (R : LH) (hi : i ≤ sc.length) (ha : 0 ≤ acc) (hs : 0 ≤ seed) (hm : 0 < many) (hm2 : many < 1073741824) :
    ∃ (r : Int) (i' : Nat) (acc' seed' : Int), Tk sc many r i' acc' seed' ∧ F__law_take [.ref 0, .int many] (D sc i acc seed :: R) = .ok (.int r) (D sc i' acc' seed' :: R) := by
  by_cases hA : acc = 0 ∧ i < sc.length
  · obtain ⟨h0, hlt⟩ := hA
    subst h0
    by_cases hsm : (if sc[i] < 0 then -sc[i] else sc[i]) < 1000000000000000000
    · refine ⟨(if sc[i] < 0 then -sc[i] else sc[i]) % many, i + 1, 0, seed, ⟨⟨Int.emod_nonneg _ (by omega), Int.emod_lt_of_pos _ hm⟩, ⟨hlt, Int.le_refl _, hs⟩⟩, ?_⟩
      simp [F__law_take, f__law_take, fnSem, tAndL, pEq_ii, pLt_ii, pLen_l, pAbs, pPow, hlt, seqOf, hsm, sSeq, SR.then, sIf, tOf, e2, eVar, eC, eCall, aCons, aNil, Res.bind, Res.toS, lift, pIx, D, atI, ixN, pGt, sAsg, gN, pInt, pMod, G.guard, hm, sSet, pFdiv, hm2, pSet, sRet, pMul, pAdd, sNop]
    · obtain ⟨r, i', acc', seed', tk, ls, hB⟩ := tkB_ok sc (i + 1) (if sc[i] < 0 then -sc[i] else sc[i]) seed many R none none hlt (by split <;> omega) hs hm hm2
      refine ⟨r, i', acc', seed', tk, tk_run ?_ hB⟩
      simp [tkA, tAndL, pEq_ii, pLt_ii, pLen_l, pAbs, pPow, hlt, seqOf, hsm, sSeq, SR.then, sIf, tOf, e2, eVar, eC, eCall, aCons, aNil, Res.bind, Res.toS, lift, pIx, D, atI, ixN, pGt, sAsg, gN, pInt, pMod, G.guard, hm, sSet, pFdiv, hm2, pSet, sRet, pMul, pAdd, sNop]
  · obtain ⟨r, i', acc', seed', tk, ls, hB⟩ := tkB_ok sc i acc seed many R none none hi ha hs hm hm2
    refine ⟨r, i', acc', seed', tk, tk_run ?_ hB⟩
    by_cases h0 : acc = 0
    · have hlt : ¬ i < sc.length := fun z => hA ⟨h0, z⟩
      simp [tkA, tAndL, pEq_ii, pLt_ii, pLen_l, h0, hlt, seqOf, sSeq, SR.then, sIf, tOf, e2, eVar, eC, eCall, aCons, aNil, Res.bind, Res.toS, lift, pIx, D, atI, ixN, G.guard, sNop]
    · simp [tkA, tAndL, pEq_ii, pLt_ii, pLen_l, h0, seqOf, sSeq, SR.then, sIf, tOf, e2, eVar, eC, eCall, aCons, aNil, Res.bind, Res.toS, lift, pIx, D, atI, ixN, G.guard, sNop]
theorem pick_ok (sc : List Int) (i : Nat) (acc seed : Int) (R : LH) (xs : List LV) (hi : i ≤ sc.length) (ha : 0 ≤ acc) (hs : 0 ≤ seed) (hx : 0 < xs.length) (hx2 : xs.length < 1000) :
    ∃ (v : LV) (i' : Nat) (acc' seed' : Int), v ∈ xs ∧ (i' ≤ sc.length ∧ 0 ≤ acc' ∧ 0 ≤ seed') ∧ F__law_pick [.ref 0, .lst xs] (D sc i acc seed :: R) = .ok v (D sc i' acc' seed' :: R) := by
  obtain ⟨r, i', acc', seed', ⟨⟨h1, h2⟩, h3⟩, ht⟩ := take_ok sc i acc seed (xs.length : Int) R hi ha hs (by omega) (by omega)
  have hr : r.toNat < xs.length := by omega
  refine ⟨xs[r.toNat], i', acc', seed', List.getElem_mem hr, h3, ?_⟩
  simp [F__law_pick, f__law_pick, fnSem, sRet, e2, eVar, eFn, aCons, aNil, eCall, pLen_l, Res.bind, Res.toS, lift, ht, pIx, seqOf, atI, ixN, h1, h2, hr]
def stB : LS := sAsg (e2 pMod (e2 pAdd (e2 pAdd (e2 pMul (eVar 1) (eC (.int 48271))) (e2 pMod (eCall pInt (aCons (eVar 2) aNil)) (eC (.int 2147483629)))) (eC (.int 11))) (eC (.int 2147483647))) (gN 1)
theorem begin_loop (v0 : LV) : ∀ (ns : List Int) (seed : Int) (c : Option LV), 0 ≤ seed → ∃ (seed' : Int) (c' : Option LV), 0 ≤ seed' ∧ forL (gN 2) stB always (ns.map .int) [some v0, some (.int seed), c] [] = .ok .nx [some v0, some (.int seed'), c'] []
  | [], seed, c, h => ⟨seed, c, h, rfl⟩
  | n :: r, seed, c, h => by
    obtain ⟨s', c', h1, h2⟩ := begin_loop v0 r ((seed * 48271 + n % 2147483629 + 11) % 2147483647) (some (.int n)) (Int.emod_nonneg _ (by decide))
    refine ⟨s', c', h1, ?_⟩
    rw [← h2]
    simp [forL, gN, stB, sAsg, e2, eVar, eC, eCall, aCons, aNil, Res.bind, Res.toS, lift, pMod, pAdd, pMul, pInt, G.guard, always]
theorem begin_ok (ns : List Int) (h : ns.length ≤ 63) : ∃ seed : Int, 0 ≤ seed ∧ F__law_begin [.frz (ns.map .int)] [] = .ok (.ref 0) [D ns 0 0 seed] := by
  obtain ⟨s, c, h1, h2⟩ := begin_loop (.frz (ns.map .int)) ns 5 none (by decide)
  refine ⟨s, h1, ?_⟩
  have e : F__law_begin [.frz (ns.map .int)] [] = fnSem 3 (sSeq (sAsg (eC (.int 5)) (gN 1)) (sSeq (sFor (iOf (eVar 0)) (gN 2) stB) (sRet (eNew (aCons (eFrz (fCall pList (aCons (eVar 0) aNil))) (aCons (eC (.int 0)) (aCons (eC (.int 0)) (aCons (eVar 1) aNil)))))))) [.frz (ns.map .int)] [] := rfl
  rw [e]
  simp [fnSem, sSeq, SR.then, sAsg, eC, gN, Res.toS, sFor, iOf, eVar, Res.bind, lift, itOf, h2]
  rfl
end Lw

namespace Lw
open PySem PySem.Spec PyProof.Rows L2 G
def dueR : LS := (sSeq (sAsg (eC (.int 1)) (gN 3))
  (sSeq (sFor (iRange (aCons (eVar 1) aNil)) (gN 4) (sAsg (e2 pMul (eVar 3) (e2 pAdd (eVar 4) (eC (.int 1)))) (gN 3)))
  (sSeq (sIf (tOf (e2 pEq (eVar 2) (eC (.str "s")))) (sRet (eFrz (aCons (e2 pAdd (eVar 2) (eCall pStr (aCons (eVar 1) aNil))) (aCons (eVar 1) (aCons (eFrz (aCons (eFn (pureF 200 F__law_turn) (aCons (eVar 1) aNil)) (aCons (eFn (pureF 200 F__law_cycle) (aCons (eVar 1) (aCons (eFrz (fRg (rg1 (eCall pMin2 (aCons (eC (.int 2)) (aCons (eVar 1) aNil)))))) aNil))) aNil))) (aCons (eVar 3) aNil)))))) sNop)
  (sSeq (sIf (tOf (e2 pEq (eVar 2) (eC (.str "a")))) (sRet (eFrz (aCons (e2 pAdd (eVar 2) (eCall pStr (aCons (eVar 1) aNil))) (aCons (eVar 1) (aCons (eFrz (fComp (iRange (aCons (e2 pSub (eVar 1) (eC (.int 2))) aNil)) (gN 4) tYesL (eFn (pureF 200 F__law_cycle) (aCons (eVar 1) (aCons (eFrz (aCons (eVar 4) (aCons (e2 pAdd (eVar 4) (eC (.int 1))) (aCons (e2 pAdd (eVar 4) (eC (.int 2))) aNil)))) aNil))) [4])) (aCons (eIf (tOf (e2 pGt (eVar 1) (eC (.int 1)))) (e2 pFdiv (eVar 3) (eC (.int 2))) (eC (.int 1))) aNil)))))) sNop)
  (sSeq (sIf (tOf (e2 pEq (eVar 2) (eC (.str "c")))) (sRet (eFrz (aCons (e2 pAdd (eVar 2) (eCall pStr (aCons (eVar 1) aNil))) (aCons (eVar 1) (aCons (eFrz (aCons (eFn (pureF 200 F__law_turn) (aCons (eVar 1) aNil)) aNil)) (aCons (eVar 1) aNil)))))) sNop)
  (sSeq (sIf (tOf (e2 pEq (eVar 2) (eC (.str "d")))) (sRet (eFrz (aCons (e2 pAdd (eVar 2) (eCall pStr (aCons (eVar 1) aNil))) (aCons (eVar 1) (aCons (eFrz (aCons (eFn (pureF 200 F__law_turn) (aCons (eVar 1) aNil)) (aCons (eCall pTuple (aCons (eFrz (fComp (iRange (aCons (eVar 1) aNil)) (gN 8) tYesL (e2 pMod (e2 pSub (eVar 1) (eVar 8)) (eVar 1)) [8])) aNil)) aNil))) (aCons (eIf (tOf (e2 pGt (eVar 1) (eC (.int 2)))) (e2 pMul (eC (.int 2)) (eVar 1)) (eVar 1)) aNil)))))) sNop)
  (sSeq (sIf (tOf (e2 pIn (eVar 2) (eFrz (aCons (eC (.str "f")) (aCons (eC (.str "l")) aNil))))) (sSeq (sAsg (eFn F__law_pick (aCons (eVar 0) (aCons (eFrz (aCons (eC (.int 2)) (aCons (eC (.int 3)) (aCons (eC (.int 5)) (aCons (eC (.int 7)) (aCons (eC (.int 11)) (aCons (eC (.int 13)) aNil))))))) aNil))) (gN 5))
  (sRet (eFrz (f2 pCat (eFrz (aCons (e2 pAdd (eVar 2) (eCall pStr (aCons (eVar 5) aNil))) aNil)) (eFn (pureF 200 F__law_prime_group) (aCons (eVar 2) (aCons (eVar 5) aNil))))))) sNop)
  (sSeq (sIf (tOf (e2 pEq (eVar 2) (eC (.str "b")))) (sSeq (sAsg (e2 pAdd (eC (.int 1)) (eFn F__law_take (aCons (eVar 0) (aCons (eC (.int 4)) aNil)))) (gN 4))
  (sRet (eFrz (f2 pCat (eFrz (aCons (e2 pAdd (eC (.str "b")) (eCall pStr (aCons (eVar 4) aNil))) aNil)) (eFn (pureF 200 F__law_bits) (aCons (eVar 4) aNil)))))) sNop)
  (sSeq (sIf (tOf (e2 pEq (eVar 2) (eC (.str "q")))) (sRet (eFrz (aCons (eC (.str "q8")) (aCons (eC (.int 8)) (aCons (eFrz (aCons (eTup (aCons (eC (.int 2)) (aCons (eC (.int 3)) (aCons (eC (.int 1)) (aCons (eC (.int 0)) (aCons (eC (.int 6)) (aCons (eC (.int 7)) (aCons (eC (.int 5)) (aCons (eC (.int 4)) aNil))))))))) (aCons (eTup (aCons (eC (.int 4)) (aCons (eC (.int 5)) (aCons (eC (.int 7)) (aCons (eC (.int 6)) (aCons (eC (.int 1)) (aCons (eC (.int 0)) (aCons (eC (.int 2)) (aCons (eC (.int 3)) aNil))))))))) aNil))) (aCons (eC (.int 8)) aNil)))))) sNop)
  (sSeq (sAsg (eFn F__law_take (aCons (eVar 0) (aCons (eC (.int 2)) aNil))) (gN 6))
  (sSeq (sAsg (e2 pAdd (eC (.int 11)) (eVar 6)) (gN 1))
  (sSeq (sAsg (eNew (aCons (eFn (pureF 200 F__law_cycle) (aCons (eVar 1) (aCons (eFrz (fRg (rg1 (eC (.int 11))))) aNil))) (aCons (eFn (pureF 200 F__law_times) (aCons (eFn (pureF 200 F__law_cycle) (aCons (eVar 1) (aCons (eFrz (aCons (eC (.int 2)) (aCons (eC (.int 6)) (aCons (eC (.int 10)) (aCons (eC (.int 7)) aNil))))) aNil))) (aCons (eFn (pureF 200 F__law_cycle) (aCons (eVar 1) (aCons (eFrz (aCons (eC (.int 3)) (aCons (eC (.int 9)) (aCons (eC (.int 4)) (aCons (eC (.int 5)) aNil))))) aNil))) aNil))) aNil))) (gN 7))
  (sSeq (sIf (tOf (e2 pEq (eVar 6) (eC (.int 1)))) (sExpr (eMeth "list" pAppend (eVar 7) (aCons (eTup (aCons (eC (.int 11)) (aCons (eC (.int 10)) (aCons (eC (.int 5)) (aCons (eC (.int 7)) (aCons (eC (.int 8)) (aCons (eC (.int 2)) (aCons (eC (.int 9)) (aCons (eC (.int 3)) (aCons (eC (.int 4)) (aCons (eC (.int 6)) (aCons (eC (.int 1)) (aCons (eC (.int 0)) aNil))))))))))))) aNil))) sNop)
  (sRet (eFrz (aCons (e2 pAdd (eC (.str "m")) (eCall pStr (aCons (eVar 1) aNil))) (aCons (eVar 1) (aCons (eVar 7) (aCons (e2 pIx (eFrz (aCons (eC (.int 7920)) (aCons (eC (.int 95040)) aNil))) (eVar 6)) aNil)))))))))))))))))))
def due_S1 : LS := (sAsg (e2 pAdd (eC (.int 1)) (eFn F__law_take (aCons (eVar 0) (aCons (eC (.int 16)) aNil)))) (gN 1))
def due_S2 : LS := (sAsg (eFn F__law_pick (aCons (eVar 0) (aCons (eFrz (aCons (eC (.str "s")) (aCons (eC (.str "a")) (aCons (eC (.str "c")) (aCons (eC (.str "d")) (aCons (eC (.str "f")) (aCons (eC (.str "l")) (aCons (eC (.str "b")) (aCons (eC (.str "q")) (aCons (eC (.str "m")) aNil)))))))))) aNil))) (gN 2))
theorem f_due_eq : f__law_due = sSeq due_S1 (sSeq due_S2 dueR) := by unfold f__law_due due_S1 due_S2 dueR; rfl
def due_flP : LS := (sAsg (eFn F__law_pick (aCons (eVar 0) (aCons (eFrz (aCons (eC (.int 2)) (aCons (eC (.int 3)) (aCons (eC (.int 5)) (aCons (eC (.int 7)) (aCons (eC (.int 11)) (aCons (eC (.int 13)) aNil))))))) aNil))) (gN 5))
def due_flQ : LS := (sRet (eFrz (f2 pCat (eFrz (aCons (e2 pAdd (eVar 2) (eCall pStr (aCons (eVar 5) aNil))) aNil)) (eFn (pureF 200 F__law_prime_group) (aCons (eVar 2) (aCons (eVar 5) aNil))))))
def due_flR : LS := (sSeq (sIf (tOf (e2 pEq (eVar 2) (eC (.str "b")))) (sSeq (sAsg (e2 pAdd (eC (.int 1)) (eFn F__law_take (aCons (eVar 0) (aCons (eC (.int 4)) aNil)))) (gN 4))
  (sRet (eFrz (f2 pCat (eFrz (aCons (e2 pAdd (eC (.str "b")) (eCall pStr (aCons (eVar 4) aNil))) aNil)) (eFn (pureF 200 F__law_bits) (aCons (eVar 4) aNil)))))) sNop)
  (sSeq (sIf (tOf (e2 pEq (eVar 2) (eC (.str "q")))) (sRet (eFrz (aCons (eC (.str "q8")) (aCons (eC (.int 8)) (aCons (eFrz (aCons (eTup (aCons (eC (.int 2)) (aCons (eC (.int 3)) (aCons (eC (.int 1)) (aCons (eC (.int 0)) (aCons (eC (.int 6)) (aCons (eC (.int 7)) (aCons (eC (.int 5)) (aCons (eC (.int 4)) aNil))))))))) (aCons (eTup (aCons (eC (.int 4)) (aCons (eC (.int 5)) (aCons (eC (.int 7)) (aCons (eC (.int 6)) (aCons (eC (.int 1)) (aCons (eC (.int 0)) (aCons (eC (.int 2)) (aCons (eC (.int 3)) aNil))))))))) aNil))) (aCons (eC (.int 8)) aNil)))))) sNop)
  (sSeq (sAsg (eFn F__law_take (aCons (eVar 0) (aCons (eC (.int 2)) aNil))) (gN 6))
  (sSeq (sAsg (e2 pAdd (eC (.int 11)) (eVar 6)) (gN 1))
  (sSeq (sAsg (eNew (aCons (eFn (pureF 200 F__law_cycle) (aCons (eVar 1) (aCons (eFrz (fRg (rg1 (eC (.int 11))))) aNil))) (aCons (eFn (pureF 200 F__law_times) (aCons (eFn (pureF 200 F__law_cycle) (aCons (eVar 1) (aCons (eFrz (aCons (eC (.int 2)) (aCons (eC (.int 6)) (aCons (eC (.int 10)) (aCons (eC (.int 7)) aNil))))) aNil))) (aCons (eFn (pureF 200 F__law_cycle) (aCons (eVar 1) (aCons (eFrz (aCons (eC (.int 3)) (aCons (eC (.int 9)) (aCons (eC (.int 4)) (aCons (eC (.int 5)) aNil))))) aNil))) aNil))) aNil))) (gN 7))
  (sSeq (sIf (tOf (e2 pEq (eVar 6) (eC (.int 1)))) (sExpr (eMeth "list" pAppend (eVar 7) (aCons (eTup (aCons (eC (.int 11)) (aCons (eC (.int 10)) (aCons (eC (.int 5)) (aCons (eC (.int 7)) (aCons (eC (.int 8)) (aCons (eC (.int 2)) (aCons (eC (.int 9)) (aCons (eC (.int 3)) (aCons (eC (.int 4)) (aCons (eC (.int 6)) (aCons (eC (.int 1)) (aCons (eC (.int 0)) aNil))))))))))))) aNil))) sNop)
  (sRet (eFrz (aCons (e2 pAdd (eC (.str "m")) (eCall pStr (aCons (eVar 1) aNil))) (aCons (eVar 1) (aCons (eVar 7) (aCons (e2 pIx (eFrz (aCons (eC (.int 7920)) (aCons (eC (.int 95040)) aNil))) (eVar 6)) aNil))))))))))))
def due_bP : LS := (sAsg (e2 pAdd (eC (.int 1)) (eFn F__law_take (aCons (eVar 0) (aCons (eC (.int 4)) aNil)))) (gN 4))
def due_bQ : LS := (sRet (eFrz (f2 pCat (eFrz (aCons (e2 pAdd (eC (.str "b")) (eCall pStr (aCons (eVar 4) aNil))) aNil)) (eFn (pureF 200 F__law_bits) (aCons (eVar 4) aNil)))))
def due_bR : LS := (sSeq (sIf (tOf (e2 pEq (eVar 2) (eC (.str "q")))) (sRet (eFrz (aCons (eC (.str "q8")) (aCons (eC (.int 8)) (aCons (eFrz (aCons (eTup (aCons (eC (.int 2)) (aCons (eC (.int 3)) (aCons (eC (.int 1)) (aCons (eC (.int 0)) (aCons (eC (.int 6)) (aCons (eC (.int 7)) (aCons (eC (.int 5)) (aCons (eC (.int 4)) aNil))))))))) (aCons (eTup (aCons (eC (.int 4)) (aCons (eC (.int 5)) (aCons (eC (.int 7)) (aCons (eC (.int 6)) (aCons (eC (.int 1)) (aCons (eC (.int 0)) (aCons (eC (.int 2)) (aCons (eC (.int 3)) aNil))))))))) aNil))) (aCons (eC (.int 8)) aNil)))))) sNop)
  (sSeq (sAsg (eFn F__law_take (aCons (eVar 0) (aCons (eC (.int 2)) aNil))) (gN 6))
  (sSeq (sAsg (e2 pAdd (eC (.int 11)) (eVar 6)) (gN 1))
  (sSeq (sAsg (eNew (aCons (eFn (pureF 200 F__law_cycle) (aCons (eVar 1) (aCons (eFrz (fRg (rg1 (eC (.int 11))))) aNil))) (aCons (eFn (pureF 200 F__law_times) (aCons (eFn (pureF 200 F__law_cycle) (aCons (eVar 1) (aCons (eFrz (aCons (eC (.int 2)) (aCons (eC (.int 6)) (aCons (eC (.int 10)) (aCons (eC (.int 7)) aNil))))) aNil))) (aCons (eFn (pureF 200 F__law_cycle) (aCons (eVar 1) (aCons (eFrz (aCons (eC (.int 3)) (aCons (eC (.int 9)) (aCons (eC (.int 4)) (aCons (eC (.int 5)) aNil))))) aNil))) aNil))) aNil))) (gN 7))
  (sSeq (sIf (tOf (e2 pEq (eVar 6) (eC (.int 1)))) (sExpr (eMeth "list" pAppend (eVar 7) (aCons (eTup (aCons (eC (.int 11)) (aCons (eC (.int 10)) (aCons (eC (.int 5)) (aCons (eC (.int 7)) (aCons (eC (.int 8)) (aCons (eC (.int 2)) (aCons (eC (.int 9)) (aCons (eC (.int 3)) (aCons (eC (.int 4)) (aCons (eC (.int 6)) (aCons (eC (.int 1)) (aCons (eC (.int 0)) aNil))))))))))))) aNil))) sNop)
  (sRet (eFrz (aCons (e2 pAdd (eC (.str "m")) (eCall pStr (aCons (eVar 1) aNil))) (aCons (eVar 1) (aCons (eVar 7) (aCons (e2 pIx (eFrz (aCons (eC (.int 7920)) (aCons (eC (.int 95040)) aNil))) (eVar 6)) aNil)))))))))))
def due_mR : LS := (sSeq (sAsg (eFn F__law_take (aCons (eVar 0) (aCons (eC (.int 2)) aNil))) (gN 6))
  (sSeq (sAsg (e2 pAdd (eC (.int 11)) (eVar 6)) (gN 1))
  (sSeq (sAsg (eNew (aCons (eFn (pureF 200 F__law_cycle) (aCons (eVar 1) (aCons (eFrz (fRg (rg1 (eC (.int 11))))) aNil))) (aCons (eFn (pureF 200 F__law_times) (aCons (eFn (pureF 200 F__law_cycle) (aCons (eVar 1) (aCons (eFrz (aCons (eC (.int 2)) (aCons (eC (.int 6)) (aCons (eC (.int 10)) (aCons (eC (.int 7)) aNil))))) aNil))) (aCons (eFn (pureF 200 F__law_cycle) (aCons (eVar 1) (aCons (eFrz (aCons (eC (.int 3)) (aCons (eC (.int 9)) (aCons (eC (.int 4)) (aCons (eC (.int 5)) aNil))))) aNil))) aNil))) aNil))) (gN 7))
  (sSeq (sIf (tOf (e2 pEq (eVar 6) (eC (.int 1)))) (sExpr (eMeth "list" pAppend (eVar 7) (aCons (eTup (aCons (eC (.int 11)) (aCons (eC (.int 10)) (aCons (eC (.int 5)) (aCons (eC (.int 7)) (aCons (eC (.int 8)) (aCons (eC (.int 2)) (aCons (eC (.int 9)) (aCons (eC (.int 3)) (aCons (eC (.int 4)) (aCons (eC (.int 6)) (aCons (eC (.int 1)) (aCons (eC (.int 0)) aNil))))))))))))) aNil))) sNop)
  (sRet (eFrz (aCons (e2 pAdd (eC (.str "m")) (eCall pStr (aCons (eVar 1) aNil))) (aCons (eVar 1) (aCons (eVar 7) (aCons (e2 pIx (eFrz (aCons (eC (.int 7920)) (aCons (eC (.int 95040)) aNil))) (eVar 6)) aNil))))))))))
def retS : SR → Option (LV × LH)
  | .ok (.rt v) _ L => some (v, L)
  | _ => none
def lsD (n : Int) (k : Str) : LSt := [some (.ref 0), some (.int n), some (.str k), none, none, none, none, none, none]
def it_s1 : LV := .lst [.str "s1", .int 1, .lst [.tup [.int 0], .tup [.int 0]], .int 1]
theorem due_s1 (L : LH) : retS (dueR (lsD 1 "s") L) = some (it_s1, L) := by kernel_rfl
def it_a1 : LV := .lst [.str "a1", .int 1, .lst [], .int 1]
theorem due_a1 (L : LH) : retS (dueR (lsD 1 "a") L) = some (it_a1, L) := by kernel_rfl
def it_c1 : LV := .lst [.str "c1", .int 1, .lst [.tup [.int 0]], .int 1]
theorem due_c1 (L : LH) : retS (dueR (lsD 1 "c") L) = some (it_c1, L) := by kernel_rfl
def it_d1 : LV := .lst [.str "d1", .int 1, .lst [.tup [.int 0], .tup [.int 0]], .int 1]
theorem due_d1 (L : LH) : retS (dueR (lsD 1 "d") L) = some (it_d1, L) := by kernel_rfl
def it_s2 : LV := .lst [.str "s2", .int 2, .lst [.tup [.int 1, .int 0], .tup [.int 1, .int 0]], .int 2]
theorem due_s2 (L : LH) : retS (dueR (lsD 2 "s") L) = some (it_s2, L) := by kernel_rfl
def it_a2 : LV := .lst [.str "a2", .int 2, .lst [], .int 1]
theorem due_a2 (L : LH) : retS (dueR (lsD 2 "a") L) = some (it_a2, L) := by kernel_rfl
def it_c2 : LV := .lst [.str "c2", .int 2, .lst [.tup [.int 1, .int 0]], .int 2]
theorem due_c2 (L : LH) : retS (dueR (lsD 2 "c") L) = some (it_c2, L) := by kernel_rfl
def it_d2 : LV := .lst [.str "d2", .int 2, .lst [.tup [.int 1, .int 0], .tup [.int 0, .int 1]], .int 2]
theorem due_d2 (L : LH) : retS (dueR (lsD 2 "d") L) = some (it_d2, L) := by kernel_rfl
def it_s3 : LV := .lst [.str "s3", .int 3, .lst [.tup [.int 1, .int 2, .int 0], .tup [.int 1, .int 0, .int 2]], .int 6]
theorem due_s3 (L : LH) : retS (dueR (lsD 3 "s") L) = some (it_s3, L) := by kernel_rfl
def it_a3 : LV := .lst [.str "a3", .int 3, .lst [.tup [.int 1, .int 2, .int 0]], .int 3]
theorem due_a3 (L : LH) : retS (dueR (lsD 3 "a") L) = some (it_a3, L) := by kernel_rfl
def it_c3 : LV := .lst [.str "c3", .int 3, .lst [.tup [.int 1, .int 2, .int 0]], .int 3]
theorem due_c3 (L : LH) : retS (dueR (lsD 3 "c") L) = some (it_c3, L) := by kernel_rfl
def it_d3 : LV := .lst [.str "d3", .int 3, .lst [.tup [.int 1, .int 2, .int 0], .tup [.int 0, .int 2, .int 1]], .int 6]
theorem due_d3 (L : LH) : retS (dueR (lsD 3 "d") L) = some (it_d3, L) := by kernel_rfl
def it_s4 : LV := .lst [.str "s4", .int 4, .lst [.tup [.int 1, .int 2, .int 3, .int 0], .tup [.int 1, .int 0, .int 2, .int 3]], .int 24]
theorem due_s4 (L : LH) : retS (dueR (lsD 4 "s") L) = some (it_s4, L) := by kernel_rfl
def it_a4 : LV := .lst [.str "a4", .int 4, .lst [.tup [.int 1, .int 2, .int 0, .int 3], .tup [.int 0, .int 2, .int 3, .int 1]], .int 12]
theorem due_a4 (L : LH) : retS (dueR (lsD 4 "a") L) = some (it_a4, L) := by kernel_rfl
def it_c4 : LV := .lst [.str "c4", .int 4, .lst [.tup [.int 1, .int 2, .int 3, .int 0]], .int 4]
theorem due_c4 (L : LH) : retS (dueR (lsD 4 "c") L) = some (it_c4, L) := by kernel_rfl
def it_d4 : LV := .lst [.str "d4", .int 4, .lst [.tup [.int 1, .int 2, .int 3, .int 0], .tup [.int 0, .int 3, .int 2, .int 1]], .int 8]
theorem due_d4 (L : LH) : retS (dueR (lsD 4 "d") L) = some (it_d4, L) := by kernel_rfl
def it_s5 : LV := .lst [.str "s5", .int 5, .lst [.tup [.int 1, .int 2, .int 3, .int 4, .int 0], .tup [.int 1, .int 0, .int 2, .int 3, .int 4]], .int 120]
theorem due_s5 (L : LH) : retS (dueR (lsD 5 "s") L) = some (it_s5, L) := by kernel_rfl
def it_a5 : LV := .lst [.str "a5", .int 5, .lst [.tup [.int 1, .int 2, .int 0, .int 3, .int 4], .tup [.int 0, .int 2, .int 3, .int 1, .int 4], .tup [.int 0, .int 1, .int 3, .int 4, .int 2]], .int 60]
theorem due_a5 (L : LH) : retS (dueR (lsD 5 "a") L) = some (it_a5, L) := by kernel_rfl
def it_c5 : LV := .lst [.str "c5", .int 5, .lst [.tup [.int 1, .int 2, .int 3, .int 4, .int 0]], .int 5]
theorem due_c5 (L : LH) : retS (dueR (lsD 5 "c") L) = some (it_c5, L) := by kernel_rfl
def it_d5 : LV := .lst [.str "d5", .int 5, .lst [.tup [.int 1, .int 2, .int 3, .int 4, .int 0], .tup [.int 0, .int 4, .int 3, .int 2, .int 1]], .int 10]
theorem due_d5 (L : LH) : retS (dueR (lsD 5 "d") L) = some (it_d5, L) := by kernel_rfl
def it_s6 : LV := .lst [.str "s6", .int 6, .lst [.tup [.int 1, .int 2, .int 3, .int 4, .int 5, .int 0], .tup [.int 1, .int 0, .int 2, .int 3, .int 4, .int 5]], .int 720]
theorem due_s6 (L : LH) : retS (dueR (lsD 6 "s") L) = some (it_s6, L) := by kernel_rfl
def it_a6 : LV := .lst [.str "a6", .int 6, .lst [.tup [.int 1, .int 2, .int 0, .int 3, .int 4, .int 5], .tup [.int 0, .int 2, .int 3, .int 1, .int 4, .int 5], .tup [.int 0, .int 1, .int 3, .int 4, .int 2, .int 5], .tup [.int 0, .int 1, .int 2, .int 4, .int 5, .int 3]], .int 360]
theorem due_a6 (L : LH) : retS (dueR (lsD 6 "a") L) = some (it_a6, L) := by kernel_rfl
def it_c6 : LV := .lst [.str "c6", .int 6, .lst [.tup [.int 1, .int 2, .int 3, .int 4, .int 5, .int 0]], .int 6]
theorem due_c6 (L : LH) : retS (dueR (lsD 6 "c") L) = some (it_c6, L) := by kernel_rfl
def it_d6 : LV := .lst [.str "d6", .int 6, .lst [.tup [.int 1, .int 2, .int 3, .int 4, .int 5, .int 0], .tup [.int 0, .int 5, .int 4, .int 3, .int 2, .int 1]], .int 12]
theorem due_d6 (L : LH) : retS (dueR (lsD 6 "d") L) = some (it_d6, L) := by kernel_rfl
def it_s7 : LV := .lst [.str "s7", .int 7, .lst [.tup [.int 1, .int 2, .int 3, .int 4, .int 5, .int 6, .int 0], .tup [.int 1, .int 0, .int 2, .int 3, .int 4, .int 5, .int 6]], .int 5040]
theorem due_s7 (L : LH) : retS (dueR (lsD 7 "s") L) = some (it_s7, L) := by kernel_rfl
def it_a7 : LV := .lst [.str "a7", .int 7, .lst [.tup [.int 1, .int 2, .int 0, .int 3, .int 4, .int 5, .int 6], .tup [.int 0, .int 2, .int 3, .int 1, .int 4, .int 5, .int 6], .tup [.int 0, .int 1, .int 3, .int 4, .int 2, .int 5, .int 6], .tup [.int 0, .int 1, .int 2, .int 4, .int 5, .int 3, .int 6], .tup [.int 0, .int 1, .int 2, .int 3, .int 5, .int 6, .int 4]], .int 2520]
theorem due_a7 (L : LH) : retS (dueR (lsD 7 "a") L) = some (it_a7, L) := by kernel_rfl
def it_c7 : LV := .lst [.str "c7", .int 7, .lst [.tup [.int 1, .int 2, .int 3, .int 4, .int 5, .int 6, .int 0]], .int 7]
theorem due_c7 (L : LH) : retS (dueR (lsD 7 "c") L) = some (it_c7, L) := by kernel_rfl
def it_d7 : LV := .lst [.str "d7", .int 7, .lst [.tup [.int 1, .int 2, .int 3, .int 4, .int 5, .int 6, .int 0], .tup [.int 0, .int 6, .int 5, .int 4, .int 3, .int 2, .int 1]], .int 14]
theorem due_d7 (L : LH) : retS (dueR (lsD 7 "d") L) = some (it_d7, L) := by kernel_rfl
def it_s8 : LV := .lst [.str "s8", .int 8, .lst [.tup [.int 1, .int 2, .int 3, .int 4, .int 5, .int 6, .int 7, .int 0], .tup [.int 1, .int 0, .int 2, .int 3, .int 4, .int 5, .int 6, .int 7]], .int 40320]
theorem due_s8 (L : LH) : retS (dueR (lsD 8 "s") L) = some (it_s8, L) := by kernel_rfl
def it_a8 : LV := .lst [.str "a8", .int 8, .lst [.tup [.int 1, .int 2, .int 0, .int 3, .int 4, .int 5, .int 6, .int 7], .tup [.int 0, .int 2, .int 3, .int 1, .int 4, .int 5, .int 6, .int 7], .tup [.int 0, .int 1, .int 3, .int 4, .int 2, .int 5, .int 6, .int 7], .tup [.int 0, .int 1, .int 2, .int 4, .int 5, .int 3, .int 6, .int 7], .tup [.int 0, .int 1, .int 2, .int 3, .int 5, .int 6, .int 4, .int 7], .tup [.int 0, .int 1, .int 2, .int 3, .int 4, .int 6, .int 7, .int 5]], .int 20160]
theorem due_a8 (L : LH) : retS (dueR (lsD 8 "a") L) = some (it_a8, L) := by kernel_rfl
def it_c8 : LV := .lst [.str "c8", .int 8, .lst [.tup [.int 1, .int 2, .int 3, .int 4, .int 5, .int 6, .int 7, .int 0]], .int 8]
theorem due_c8 (L : LH) : retS (dueR (lsD 8 "c") L) = some (it_c8, L) := by kernel_rfl
def it_d8 : LV := .lst [.str "d8", .int 8, .lst [.tup [.int 1, .int 2, .int 3, .int 4, .int 5, .int 6, .int 7, .int 0], .tup [.int 0, .int 7, .int 6, .int 5, .int 4, .int 3, .int 2, .int 1]], .int 16]
theorem due_d8 (L : LH) : retS (dueR (lsD 8 "d") L) = some (it_d8, L) := by kernel_rfl
def it_s9 : LV := .lst [.str "s9", .int 9, .lst [.tup [.int 1, .int 2, .int 3, .int 4, .int 5, .int 6, .int 7, .int 8, .int 0], .tup [.int 1, .int 0, .int 2, .int 3, .int 4, .int 5, .int 6, .int 7, .int 8]], .int 362880]
theorem due_s9 (L : LH) : retS (dueR (lsD 9 "s") L) = some (it_s9, L) := by kernel_rfl
def it_a9 : LV := .lst [.str "a9", .int 9, .lst [.tup [.int 1, .int 2, .int 0, .int 3, .int 4, .int 5, .int 6, .int 7, .int 8], .tup [.int 0, .int 2, .int 3, .int 1, .int 4, .int 5, .int 6, .int 7, .int 8], .tup [.int 0, .int 1, .int 3, .int 4, .int 2, .int 5, .int 6, .int 7, .int 8], .tup [.int 0, .int 1, .int 2, .int 4, .int 5, .int 3, .int 6, .int 7, .int 8], .tup [.int 0, .int 1, .int 2, .int 3, .int 5, .int 6, .int 4, .int 7, .int 8], .tup [.int 0, .int 1, .int 2, .int 3, .int 4, .int 6, .int 7, .int 5, .int 8], .tup [.int 0, .int 1, .int 2, .int 3, .int 4, .int 5, .int 7, .int 8, .int 6]], .int 181440]
theorem due_a9 (L : LH) : retS (dueR (lsD 9 "a") L) = some (it_a9, L) := by kernel_rfl
def it_c9 : LV := .lst [.str "c9", .int 9, .lst [.tup [.int 1, .int 2, .int 3, .int 4, .int 5, .int 6, .int 7, .int 8, .int 0]], .int 9]
theorem due_c9 (L : LH) : retS (dueR (lsD 9 "c") L) = some (it_c9, L) := by kernel_rfl
def it_d9 : LV := .lst [.str "d9", .int 9, .lst [.tup [.int 1, .int 2, .int 3, .int 4, .int 5, .int 6, .int 7, .int 8, .int 0], .tup [.int 0, .int 8, .int 7, .int 6, .int 5, .int 4, .int 3, .int 2, .int 1]], .int 18]
theorem due_d9 (L : LH) : retS (dueR (lsD 9 "d") L) = some (it_d9, L) := by kernel_rfl
def it_s10 : LV := .lst [.str "s10", .int 10, .lst [.tup [.int 1, .int 2, .int 3, .int 4, .int 5, .int 6, .int 7, .int 8, .int 9, .int 0], .tup [.int 1, .int 0, .int 2, .int 3, .int 4, .int 5, .int 6, .int 7, .int 8, .int 9]], .int 3628800]
theorem due_s10 (L : LH) : retS (dueR (lsD 10 "s") L) = some (it_s10, L) := by kernel_rfl
def it_a10 : LV := .lst [.str "a10", .int 10, .lst [.tup [.int 1, .int 2, .int 0, .int 3, .int 4, .int 5, .int 6, .int 7, .int 8, .int 9], .tup [.int 0, .int 2, .int 3, .int 1, .int 4, .int 5, .int 6, .int 7, .int 8, .int 9], .tup [.int 0, .int 1, .int 3, .int 4, .int 2, .int 5, .int 6, .int 7, .int 8, .int 9], .tup [.int 0, .int 1, .int 2, .int 4, .int 5, .int 3, .int 6, .int 7, .int 8, .int 9], .tup [.int 0, .int 1, .int 2, .int 3, .int 5, .int 6, .int 4, .int 7, .int 8, .int 9], .tup [.int 0, .int 1, .int 2, .int 3, .int 4, .int 6, .int 7, .int 5, .int 8, .int 9], .tup [.int 0, .int 1, .int 2, .int 3, .int 4, .int 5, .int 7, .int 8, .int 6, .int 9], .tup [.int 0, .int 1, .int 2, .int 3, .int 4, .int 5, .int 6, .int 8, .int 9, .int 7]], .int 1814400]
theorem due_a10 (L : LH) : retS (dueR (lsD 10 "a") L) = some (it_a10, L) := by kernel_rfl
def it_c10 : LV := .lst [.str "c10", .int 10, .lst [.tup [.int 1, .int 2, .int 3, .int 4, .int 5, .int 6, .int 7, .int 8, .int 9, .int 0]], .int 10]
theorem due_c10 (L : LH) : retS (dueR (lsD 10 "c") L) = some (it_c10, L) := by kernel_rfl
def it_d10 : LV := .lst [.str "d10", .int 10, .lst [.tup [.int 1, .int 2, .int 3, .int 4, .int 5, .int 6, .int 7, .int 8, .int 9, .int 0], .tup [.int 0, .int 9, .int 8, .int 7, .int 6, .int 5, .int 4, .int 3, .int 2, .int 1]], .int 20]
theorem due_d10 (L : LH) : retS (dueR (lsD 10 "d") L) = some (it_d10, L) := by kernel_rfl
def it_s11 : LV := .lst [.str "s11", .int 11, .lst [.tup [.int 1, .int 2, .int 3, .int 4, .int 5, .int 6, .int 7, .int 8, .int 9, .int 10, .int 0], .tup [.int 1, .int 0, .int 2, .int 3, .int 4, .int 5, .int 6, .int 7, .int 8, .int 9, .int 10]], .int 39916800]
theorem due_s11 (L : LH) : retS (dueR (lsD 11 "s") L) = some (it_s11, L) := by kernel_rfl
def it_a11 : LV := .lst [.str "a11", .int 11, .lst [.tup [.int 1, .int 2, .int 0, .int 3, .int 4, .int 5, .int 6, .int 7, .int 8, .int 9, .int 10], .tup [.int 0, .int 2, .int 3, .int 1, .int 4, .int 5, .int 6, .int 7, .int 8, .int 9, .int 10], .tup [.int 0, .int 1, .int 3, .int 4, .int 2, .int 5, .int 6, .int 7, .int 8, .int 9, .int 10], .tup [.int 0, .int 1, .int 2, .int 4, .int 5, .int 3, .int 6, .int 7, .int 8, .int 9, .int 10], .tup [.int 0, .int 1, .int 2, .int 3, .int 5, .int 6, .int 4, .int 7, .int 8, .int 9, .int 10], .tup [.int 0, .int 1, .int 2, .int 3, .int 4, .int 6, .int 7, .int 5, .int 8, .int 9, .int 10], .tup [.int 0, .int 1, .int 2, .int 3, .int 4, .int 5, .int 7, .int 8, .int 6, .int 9, .int 10], .tup [.int 0, .int 1, .int 2, .int 3, .int 4, .int 5, .int 6, .int 8, .int 9, .int 7, .int 10], .tup [.int 0, .int 1, .int 2, .int 3, .int 4, .int 5, .int 6, .int 7, .int 9, .int 10, .int 8]], .int 19958400]
theorem due_a11 (L : LH) : retS (dueR (lsD 11 "a") L) = some (it_a11, L) := by kernel_rfl
def it_c11 : LV := .lst [.str "c11", .int 11, .lst [.tup [.int 1, .int 2, .int 3, .int 4, .int 5, .int 6, .int 7, .int 8, .int 9, .int 10, .int 0]], .int 11]
theorem due_c11 (L : LH) : retS (dueR (lsD 11 "c") L) = some (it_c11, L) := by kernel_rfl
def it_d11 : LV := .lst [.str "d11", .int 11, .lst [.tup [.int 1, .int 2, .int 3, .int 4, .int 5, .int 6, .int 7, .int 8, .int 9, .int 10, .int 0], .tup [.int 0, .int 10, .int 9, .int 8, .int 7, .int 6, .int 5, .int 4, .int 3, .int 2, .int 1]], .int 22]
theorem due_d11 (L : LH) : retS (dueR (lsD 11 "d") L) = some (it_d11, L) := by kernel_rfl
def it_s12 : LV := .lst [.str "s12", .int 12, .lst [.tup [.int 1, .int 2, .int 3, .int 4, .int 5, .int 6, .int 7, .int 8, .int 9, .int 10, .int 11, .int 0], .tup [.int 1, .int 0, .int 2, .int 3, .int 4, .int 5, .int 6, .int 7, .int 8, .int 9, .int 10, .int 11]], .int 479001600]
theorem due_s12 (L : LH) : retS (dueR (lsD 12 "s") L) = some (it_s12, L) := by kernel_rfl
def it_a12 : LV := .lst [.str "a12", .int 12, .lst [.tup [.int 1, .int 2, .int 0, .int 3, .int 4, .int 5, .int 6, .int 7, .int 8, .int 9, .int 10, .int 11], .tup [.int 0, .int 2, .int 3, .int 1, .int 4, .int 5, .int 6, .int 7, .int 8, .int 9, .int 10, .int 11], .tup [.int 0, .int 1, .int 3, .int 4, .int 2, .int 5, .int 6, .int 7, .int 8, .int 9, .int 10, .int 11], .tup [.int 0, .int 1, .int 2, .int 4, .int 5, .int 3, .int 6, .int 7, .int 8, .int 9, .int 10, .int 11], .tup [.int 0, .int 1, .int 2, .int 3, .int 5, .int 6, .int 4, .int 7, .int 8, .int 9, .int 10, .int 11], .tup [.int 0, .int 1, .int 2, .int 3, .int 4, .int 6, .int 7, .int 5, .int 8, .int 9, .int 10, .int 11], .tup [.int 0, .int 1, .int 2, .int 3, .int 4, .int 5, .int 7, .int 8, .int 6, .int 9, .int 10, .int 11], .tup [.int 0, .int 1, .int 2, .int 3, .int 4, .int 5, .int 6, .int 8, .int 9, .int 7, .int 10, .int 11], .tup [.int 0, .int 1, .int 2, .int 3, .int 4, .int 5, .int 6, .int 7, .int 9, .int 10, .int 8, .int 11], .tup [.int 0, .int 1, .int 2, .int 3, .int 4, .int 5, .int 6, .int 7, .int 8, .int 10, .int 11, .int 9]], .int 239500800]
theorem due_a12 (L : LH) : retS (dueR (lsD 12 "a") L) = some (it_a12, L) := by kernel_rfl
def it_c12 : LV := .lst [.str "c12", .int 12, .lst [.tup [.int 1, .int 2, .int 3, .int 4, .int 5, .int 6, .int 7, .int 8, .int 9, .int 10, .int 11, .int 0]], .int 12]
theorem due_c12 (L : LH) : retS (dueR (lsD 12 "c") L) = some (it_c12, L) := by kernel_rfl
def it_d12 : LV := .lst [.str "d12", .int 12, .lst [.tup [.int 1, .int 2, .int 3, .int 4, .int 5, .int 6, .int 7, .int 8, .int 9, .int 10, .int 11, .int 0], .tup [.int 0, .int 11, .int 10, .int 9, .int 8, .int 7, .int 6, .int 5, .int 4, .int 3, .int 2, .int 1]], .int 24]
theorem due_d12 (L : LH) : retS (dueR (lsD 12 "d") L) = some (it_d12, L) := by kernel_rfl
def it_s13 : LV := .lst [.str "s13", .int 13, .lst [.tup [.int 1, .int 2, .int 3, .int 4, .int 5, .int 6, .int 7, .int 8, .int 9, .int 10, .int 11, .int 12, .int 0], .tup [.int 1, .int 0, .int 2, .int 3, .int 4, .int 5, .int 6, .int 7, .int 8, .int 9, .int 10, .int 11, .int 12]], .int 6227020800]
theorem due_s13 (L : LH) : retS (dueR (lsD 13 "s") L) = some (it_s13, L) := by kernel_rfl
def it_a13 : LV := .lst [.str "a13", .int 13, .lst [.tup [.int 1, .int 2, .int 0, .int 3, .int 4, .int 5, .int 6, .int 7, .int 8, .int 9, .int 10, .int 11, .int 12], .tup [.int 0, .int 2, .int 3, .int 1, .int 4, .int 5, .int 6, .int 7, .int 8, .int 9, .int 10, .int 11, .int 12], .tup [.int 0, .int 1, .int 3, .int 4, .int 2, .int 5, .int 6, .int 7, .int 8, .int 9, .int 10, .int 11, .int 12], .tup [.int 0, .int 1, .int 2, .int 4, .int 5, .int 3, .int 6, .int 7, .int 8, .int 9, .int 10, .int 11, .int 12], .tup [.int 0, .int 1, .int 2, .int 3, .int 5, .int 6, .int 4, .int 7, .int 8, .int 9, .int 10, .int 11, .int 12], .tup [.int 0, .int 1, .int 2, .int 3, .int 4, .int 6, .int 7, .int 5, .int 8, .int 9, .int 10, .int 11, .int 12], .tup [.int 0, .int 1, .int 2, .int 3, .int 4, .int 5, .int 7, .int 8, .int 6, .int 9, .int 10, .int 11, .int 12], .tup [.int 0, .int 1, .int 2, .int 3, .int 4, .int 5, .int 6, .int 8, .int 9, .int 7, .int 10, .int 11, .int 12], .tup [.int 0, .int 1, .int 2, .int 3, .int 4, .int 5, .int 6, .int 7, .int 9, .int 10, .int 8, .int 11, .int 12], .tup [.int 0, .int 1, .int 2, .int 3, .int 4, .int 5, .int 6, .int 7, .int 8, .int 10, .int 11, .int 9, .int 12], .tup [.int 0, .int 1, .int 2, .int 3, .int 4, .int 5, .int 6, .int 7, .int 8, .int 9, .int 11, .int 12, .int 10]], .int 3113510400]
theorem due_a13 (L : LH) : retS (dueR (lsD 13 "a") L) = some (it_a13, L) := by kernel_rfl
def it_c13 : LV := .lst [.str "c13", .int 13, .lst [.tup [.int 1, .int 2, .int 3, .int 4, .int 5, .int 6, .int 7, .int 8, .int 9, .int 10, .int 11, .int 12, .int 0]], .int 13]
theorem due_c13 (L : LH) : retS (dueR (lsD 13 "c") L) = some (it_c13, L) := by kernel_rfl
def it_d13 : LV := .lst [.str "d13", .int 13, .lst [.tup [.int 1, .int 2, .int 3, .int 4, .int 5, .int 6, .int 7, .int 8, .int 9, .int 10, .int 11, .int 12, .int 0], .tup [.int 0, .int 12, .int 11, .int 10, .int 9, .int 8, .int 7, .int 6, .int 5, .int 4, .int 3, .int 2, .int 1]], .int 26]
theorem due_d13 (L : LH) : retS (dueR (lsD 13 "d") L) = some (it_d13, L) := by kernel_rfl
def it_s14 : LV := .lst [.str "s14", .int 14, .lst [.tup [.int 1, .int 2, .int 3, .int 4, .int 5, .int 6, .int 7, .int 8, .int 9, .int 10, .int 11, .int 12, .int 13, .int 0], .tup [.int 1, .int 0, .int 2, .int 3, .int 4, .int 5, .int 6, .int 7, .int 8, .int 9, .int 10, .int 11, .int 12, .int 13]], .int 87178291200]
theorem due_s14 (L : LH) : retS (dueR (lsD 14 "s") L) = some (it_s14, L) := by kernel_rfl
def it_a14 : LV := .lst [.str "a14", .int 14, .lst [.tup [.int 1, .int 2, .int 0, .int 3, .int 4, .int 5, .int 6, .int 7, .int 8, .int 9, .int 10, .int 11, .int 12, .int 13], .tup [.int 0, .int 2, .int 3, .int 1, .int 4, .int 5, .int 6, .int 7, .int 8, .int 9, .int 10, .int 11, .int 12, .int 13], .tup [.int 0, .int 1, .int 3, .int 4, .int 2, .int 5, .int 6, .int 7, .int 8, .int 9, .int 10, .int 11, .int 12, .int 13], .tup [.int 0, .int 1, .int 2, .int 4, .int 5, .int 3, .int 6, .int 7, .int 8, .int 9, .int 10, .int 11, .int 12, .int 13], .tup [.int 0, .int 1, .int 2, .int 3, .int 5, .int 6, .int 4, .int 7, .int 8, .int 9, .int 10, .int 11, .int 12, .int 13], .tup [.int 0, .int 1, .int 2, .int 3, .int 4, .int 6, .int 7, .int 5, .int 8, .int 9, .int 10, .int 11, .int 12, .int 13], .tup [.int 0, .int 1, .int 2, .int 3, .int 4, .int 5, .int 7, .int 8, .int 6, .int 9, .int 10, .int 11, .int 12, .int 13], .tup [.int 0, .int 1, .int 2, .int 3, .int 4, .int 5, .int 6, .int 8, .int 9, .int 7, .int 10, .int 11, .int 12, .int 13], .tup [.int 0, .int 1, .int 2, .int 3, .int 4, .int 5, .int 6, .int 7, .int 9, .int 10, .int 8, .int 11, .int 12, .int 13], .tup [.int 0, .int 1, .int 2, .int 3, .int 4, .int 5, .int 6, .int 7, .int 8, .int 10, .int 11, .int 9, .int 12, .int 13], .tup [.int 0, .int 1, .int 2, .int 3, .int 4, .int 5, .int 6, .int 7, .int 8, .int 9, .int 11, .int 12, .int 10, .int 13], .tup [.int 0, .int 1, .int 2, .int 3, .int 4, .int 5, .int 6, .int 7, .int 8, .int 9, .int 10, .int 12, .int 13, .int 11]], .int 43589145600]
theorem due_a14 (L : LH) : retS (dueR (lsD 14 "a") L) = some (it_a14, L) := by kernel_rfl
def it_c14 : LV := .lst [.str "c14", .int 14, .lst [.tup [.int 1, .int 2, .int 3, .int 4, .int 5, .int 6, .int 7, .int 8, .int 9, .int 10, .int 11, .int 12, .int 13, .int 0]], .int 14]
theorem due_c14 (L : LH) : retS (dueR (lsD 14 "c") L) = some (it_c14, L) := by kernel_rfl
def it_d14 : LV := .lst [.str "d14", .int 14, .lst [.tup [.int 1, .int 2, .int 3, .int 4, .int 5, .int 6, .int 7, .int 8, .int 9, .int 10, .int 11, .int 12, .int 13, .int 0], .tup [.int 0, .int 13, .int 12, .int 11, .int 10, .int 9, .int 8, .int 7, .int 6, .int 5, .int 4, .int 3, .int 2, .int 1]], .int 28]
theorem due_d14 (L : LH) : retS (dueR (lsD 14 "d") L) = some (it_d14, L) := by kernel_rfl
def it_s15 : LV := .lst [.str "s15", .int 15, .lst [.tup [.int 1, .int 2, .int 3, .int 4, .int 5, .int 6, .int 7, .int 8, .int 9, .int 10, .int 11, .int 12, .int 13, .int 14, .int 0], .tup [.int 1, .int 0, .int 2, .int 3, .int 4, .int 5, .int 6, .int 7, .int 8, .int 9, .int 10, .int 11, .int 12, .int 13, .int 14]], .int 1307674368000]
theorem due_s15 (L : LH) : retS (dueR (lsD 15 "s") L) = some (it_s15, L) := by kernel_rfl
def it_a15 : LV := .lst [.str "a15", .int 15, .lst [.tup [.int 1, .int 2, .int 0, .int 3, .int 4, .int 5, .int 6, .int 7, .int 8, .int 9, .int 10, .int 11, .int 12, .int 13, .int 14], .tup [.int 0, .int 2, .int 3, .int 1, .int 4, .int 5, .int 6, .int 7, .int 8, .int 9, .int 10, .int 11, .int 12, .int 13, .int 14], .tup [.int 0, .int 1, .int 3, .int 4, .int 2, .int 5, .int 6, .int 7, .int 8, .int 9, .int 10, .int 11, .int 12, .int 13, .int 14], .tup [.int 0, .int 1, .int 2, .int 4, .int 5, .int 3, .int 6, .int 7, .int 8, .int 9, .int 10, .int 11, .int 12, .int 13, .int 14], .tup [.int 0, .int 1, .int 2, .int 3, .int 5, .int 6, .int 4, .int 7, .int 8, .int 9, .int 10, .int 11, .int 12, .int 13, .int 14], .tup [.int 0, .int 1, .int 2, .int 3, .int 4, .int 6, .int 7, .int 5, .int 8, .int 9, .int 10, .int 11, .int 12, .int 13, .int 14], .tup [.int 0, .int 1, .int 2, .int 3, .int 4, .int 5, .int 7, .int 8, .int 6, .int 9, .int 10, .int 11, .int 12, .int 13, .int 14], .tup [.int 0, .int 1, .int 2, .int 3, .int 4, .int 5, .int 6, .int 8, .int 9, .int 7, .int 10, .int 11, .int 12, .int 13, .int 14], .tup [.int 0, .int 1, .int 2, .int 3, .int 4, .int 5, .int 6, .int 7, .int 9, .int 10, .int 8, .int 11, .int 12, .int 13, .int 14], .tup [.int 0, .int 1, .int 2, .int 3, .int 4, .int 5, .int 6, .int 7, .int 8, .int 10, .int 11, .int 9, .int 12, .int 13, .int 14], .tup [.int 0, .int 1, .int 2, .int 3, .int 4, .int 5, .int 6, .int 7, .int 8, .int 9, .int 11, .int 12, .int 10, .int 13, .int 14], .tup [.int 0, .int 1, .int 2, .int 3, .int 4, .int 5, .int 6, .int 7, .int 8, .int 9, .int 10, .int 12, .int 13, .int 11, .int 14], .tup [.int 0, .int 1, .int 2, .int 3, .int 4, .int 5, .int 6, .int 7, .int 8, .int 9, .int 10, .int 11, .int 13, .int 14, .int 12]], .int 653837184000]
theorem due_a15 (L : LH) : retS (dueR (lsD 15 "a") L) = some (it_a15, L) := by kernel_rfl
def it_c15 : LV := .lst [.str "c15", .int 15, .lst [.tup [.int 1, .int 2, .int 3, .int 4, .int 5, .int 6, .int 7, .int 8, .int 9, .int 10, .int 11, .int 12, .int 13, .int 14, .int 0]], .int 15]
theorem due_c15 (L : LH) : retS (dueR (lsD 15 "c") L) = some (it_c15, L) := by kernel_rfl
def it_d15 : LV := .lst [.str "d15", .int 15, .lst [.tup [.int 1, .int 2, .int 3, .int 4, .int 5, .int 6, .int 7, .int 8, .int 9, .int 10, .int 11, .int 12, .int 13, .int 14, .int 0], .tup [.int 0, .int 14, .int 13, .int 12, .int 11, .int 10, .int 9, .int 8, .int 7, .int 6, .int 5, .int 4, .int 3, .int 2, .int 1]], .int 30]
theorem due_d15 (L : LH) : retS (dueR (lsD 15 "d") L) = some (it_d15, L) := by kernel_rfl
def it_s16 : LV := .lst [.str "s16", .int 16, .lst [.tup [.int 1, .int 2, .int 3, .int 4, .int 5, .int 6, .int 7, .int 8, .int 9, .int 10, .int 11, .int 12, .int 13, .int 14, .int 15, .int 0], .tup [.int 1, .int 0, .int 2, .int 3, .int 4, .int 5, .int 6, .int 7, .int 8, .int 9, .int 10, .int 11, .int 12, .int 13, .int 14, .int 15]], .int 20922789888000]
theorem due_s16 (L : LH) : retS (dueR (lsD 16 "s") L) = some (it_s16, L) := by kernel_rfl
def it_a16 : LV := .lst [.str "a16", .int 16, .lst [.tup [.int 1, .int 2, .int 0, .int 3, .int 4, .int 5, .int 6, .int 7, .int 8, .int 9, .int 10, .int 11, .int 12, .int 13, .int 14, .int 15], .tup [.int 0, .int 2, .int 3, .int 1, .int 4, .int 5, .int 6, .int 7, .int 8, .int 9, .int 10, .int 11, .int 12, .int 13, .int 14, .int 15], .tup [.int 0, .int 1, .int 3, .int 4, .int 2, .int 5, .int 6, .int 7, .int 8, .int 9, .int 10, .int 11, .int 12, .int 13, .int 14, .int 15], .tup [.int 0, .int 1, .int 2, .int 4, .int 5, .int 3, .int 6, .int 7, .int 8, .int 9, .int 10, .int 11, .int 12, .int 13, .int 14, .int 15], .tup [.int 0, .int 1, .int 2, .int 3, .int 5, .int 6, .int 4, .int 7, .int 8, .int 9, .int 10, .int 11, .int 12, .int 13, .int 14, .int 15], .tup [.int 0, .int 1, .int 2, .int 3, .int 4, .int 6, .int 7, .int 5, .int 8, .int 9, .int 10, .int 11, .int 12, .int 13, .int 14, .int 15], .tup [.int 0, .int 1, .int 2, .int 3, .int 4, .int 5, .int 7, .int 8, .int 6, .int 9, .int 10, .int 11, .int 12, .int 13, .int 14, .int 15], .tup [.int 0, .int 1, .int 2, .int 3, .int 4, .int 5, .int 6, .int 8, .int 9, .int 7, .int 10, .int 11, .int 12, .int 13, .int 14, .int 15], .tup [.int 0, .int 1, .int 2, .int 3, .int 4, .int 5, .int 6, .int 7, .int 9, .int 10, .int 8, .int 11, .int 12, .int 13, .int 14, .int 15], .tup [.int 0, .int 1, .int 2, .int 3, .int 4, .int 5, .int 6, .int 7, .int 8, .int 10, .int 11, .int 9, .int 12, .int 13, .int 14, .int 15], .tup [.int 0, .int 1, .int 2, .int 3, .int 4, .int 5, .int 6, .int 7, .int 8, .int 9, .int 11, .int 12, .int 10, .int 13, .int 14, .int 15], .tup [.int 0, .int 1, .int 2, .int 3, .int 4, .int 5, .int 6, .int 7, .int 8, .int 9, .int 10, .int 12, .int 13, .int 11, .int 14, .int 15], .tup [.int 0, .int 1, .int 2, .int 3, .int 4, .int 5, .int 6, .int 7, .int 8, .int 9, .int 10, .int 11, .int 13, .int 14, .int 12, .int 15], .tup [.int 0, .int 1, .int 2, .int 3, .int 4, .int 5, .int 6, .int 7, .int 8, .int 9, .int 10, .int 11, .int 12, .int 14, .int 15, .int 13]], .int 10461394944000]
theorem due_a16 (L : LH) : retS (dueR (lsD 16 "a") L) = some (it_a16, L) := by kernel_rfl
def it_c16 : LV := .lst [.str "c16", .int 16, .lst [.tup [.int 1, .int 2, .int 3, .int 4, .int 5, .int 6, .int 7, .int 8, .int 9, .int 10, .int 11, .int 12, .int 13, .int 14, .int 15, .int 0]], .int 16]
theorem due_c16 (L : LH) : retS (dueR (lsD 16 "c") L) = some (it_c16, L) := by kernel_rfl
def it_d16 : LV := .lst [.str "d16", .int 16, .lst [.tup [.int 1, .int 2, .int 3, .int 4, .int 5, .int 6, .int 7, .int 8, .int 9, .int 10, .int 11, .int 12, .int 13, .int 14, .int 15, .int 0], .tup [.int 0, .int 15, .int 14, .int 13, .int 12, .int 11, .int 10, .int 9, .int 8, .int 7, .int 6, .int 5, .int 4, .int 3, .int 2, .int 1]], .int 32]
theorem due_d16 (L : LH) : retS (dueR (lsD 16 "d") L) = some (it_d16, L) := by kernel_rfl
theorem due_f1_P (L : LH) : dueR (lsD 1 "f") L = ((due_flP [some (.ref 0), some (.int 1), some (.str "f"), some (.int 1), some (.int 0), none, none, none, none] L).then due_flQ).then due_flR := by kernel_rfl
theorem due_l1_P (L : LH) : dueR (lsD 1 "l") L = ((due_flP [some (.ref 0), some (.int 1), some (.str "l"), some (.int 1), some (.int 0), none, none, none, none] L).then due_flQ).then due_flR := by kernel_rfl
theorem due_b1_P (L : LH) : dueR (lsD 1 "b") L = ((due_bP [some (.ref 0), some (.int 1), some (.str "b"), some (.int 1), some (.int 0), none, none, none, none] L).then due_bQ).then due_bR := by kernel_rfl
theorem due_q1 (L : LH) : retS (dueR (lsD 1 "q") L) = some (.lst [.str "q8", .int 8, .lst [.tup [.int 2, .int 3, .int 1, .int 0, .int 6, .int 7, .int 5, .int 4], .tup [.int 4, .int 5, .int 7, .int 6, .int 1, .int 0, .int 2, .int 3]], .int 8], L) := by kernel_rfl
theorem due_m1_P (L : LH) : dueR (lsD 1 "m") L = due_mR [some (.ref 0), some (.int 1), some (.str "m"), some (.int 1), some (.int 0), none, none, none, none] L := by kernel_rfl
theorem due_f2_P (L : LH) : dueR (lsD 2 "f") L = ((due_flP [some (.ref 0), some (.int 2), some (.str "f"), some (.int 2), some (.int 1), none, none, none, none] L).then due_flQ).then due_flR := by kernel_rfl
theorem due_l2_P (L : LH) : dueR (lsD 2 "l") L = ((due_flP [some (.ref 0), some (.int 2), some (.str "l"), some (.int 2), some (.int 1), none, none, none, none] L).then due_flQ).then due_flR := by kernel_rfl
theorem due_b2_P (L : LH) : dueR (lsD 2 "b") L = ((due_bP [some (.ref 0), some (.int 2), some (.str "b"), some (.int 2), some (.int 1), none, none, none, none] L).then due_bQ).then due_bR := by kernel_rfl
theorem due_q2 (L : LH) : retS (dueR (lsD 2 "q") L) = some (.lst [.str "q8", .int 8, .lst [.tup [.int 2, .int 3, .int 1, .int 0, .int 6, .int 7, .int 5, .int 4], .tup [.int 4, .int 5, .int 7, .int 6, .int 1, .int 0, .int 2, .int 3]], .int 8], L) := by kernel_rfl
theorem due_m2_P (L : LH) : dueR (lsD 2 "m") L = due_mR [some (.ref 0), some (.int 2), some (.str "m"), some (.int 2), some (.int 1), none, none, none, none] L := by kernel_rfl
theorem due_f3_P (L : LH) : dueR (lsD 3 "f") L = ((due_flP [some (.ref 0), some (.int 3), some (.str "f"), some (.int 6), some (.int 2), none, none, none, none] L).then due_flQ).then due_flR := by kernel_rfl
theorem due_l3_P (L : LH) : dueR (lsD 3 "l") L = ((due_flP [some (.ref 0), some (.int 3), some (.str "l"), some (.int 6), some (.int 2), none, none, none, none] L).then due_flQ).then due_flR := by kernel_rfl
theorem due_b3_P (L : LH) : dueR (lsD 3 "b") L = ((due_bP [some (.ref 0), some (.int 3), some (.str "b"), some (.int 6), some (.int 2), none, none, none, none] L).then due_bQ).then due_bR := by kernel_rfl
theorem due_q3 (L : LH) : retS (dueR (lsD 3 "q") L) = some (.lst [.str "q8", .int 8, .lst [.tup [.int 2, .int 3, .int 1, .int 0, .int 6, .int 7, .int 5, .int 4], .tup [.int 4, .int 5, .int 7, .int 6, .int 1, .int 0, .int 2, .int 3]], .int 8], L) := by kernel_rfl
theorem due_m3_P (L : LH) : dueR (lsD 3 "m") L = due_mR [some (.ref 0), some (.int 3), some (.str "m"), some (.int 6), some (.int 2), none, none, none, none] L := by kernel_rfl
theorem due_f4_P (L : LH) : dueR (lsD 4 "f") L = ((due_flP [some (.ref 0), some (.int 4), some (.str "f"), some (.int 24), some (.int 3), none, none, none, none] L).then due_flQ).then due_flR := by kernel_rfl
theorem due_l4_P (L : LH) : dueR (lsD 4 "l") L = ((due_flP [some (.ref 0), some (.int 4), some (.str "l"), some (.int 24), some (.int 3), none, none, none, none] L).then due_flQ).then due_flR := by kernel_rfl
theorem due_b4_P (L : LH) : dueR (lsD 4 "b") L = ((due_bP [some (.ref 0), some (.int 4), some (.str "b"), some (.int 24), some (.int 3), none, none, none, none] L).then due_bQ).then due_bR := by kernel_rfl
theorem due_q4 (L : LH) : retS (dueR (lsD 4 "q") L) = some (.lst [.str "q8", .int 8, .lst [.tup [.int 2, .int 3, .int 1, .int 0, .int 6, .int 7, .int 5, .int 4], .tup [.int 4, .int 5, .int 7, .int 6, .int 1, .int 0, .int 2, .int 3]], .int 8], L) := by kernel_rfl
theorem due_m4_P (L : LH) : dueR (lsD 4 "m") L = due_mR [some (.ref 0), some (.int 4), some (.str "m"), some (.int 24), some (.int 3), none, none, none, none] L := by kernel_rfl
theorem due_f5_P (L : LH) : dueR (lsD 5 "f") L = ((due_flP [some (.ref 0), some (.int 5), some (.str "f"), some (.int 120), some (.int 4), none, none, none, none] L).then due_flQ).then due_flR := by kernel_rfl
theorem due_l5_P (L : LH) : dueR (lsD 5 "l") L = ((due_flP [some (.ref 0), some (.int 5), some (.str "l"), some (.int 120), some (.int 4), none, none, none, none] L).then due_flQ).then due_flR := by kernel_rfl
theorem due_b5_P (L : LH) : dueR (lsD 5 "b") L = ((due_bP [some (.ref 0), some (.int 5), some (.str "b"), some (.int 120), some (.int 4), none, none, none, none] L).then due_bQ).then due_bR := by kernel_rfl
theorem due_q5 (L : LH) : retS (dueR (lsD 5 "q") L) = some (.lst [.str "q8", .int 8, .lst [.tup [.int 2, .int 3, .int 1, .int 0, .int 6, .int 7, .int 5, .int 4], .tup [.int 4, .int 5, .int 7, .int 6, .int 1, .int 0, .int 2, .int 3]], .int 8], L) := by kernel_rfl
theorem due_m5_P (L : LH) : dueR (lsD 5 "m") L = due_mR [some (.ref 0), some (.int 5), some (.str "m"), some (.int 120), some (.int 4), none, none, none, none] L := by kernel_rfl
theorem due_f6_P (L : LH) : dueR (lsD 6 "f") L = ((due_flP [some (.ref 0), some (.int 6), some (.str "f"), some (.int 720), some (.int 5), none, none, none, none] L).then due_flQ).then due_flR := by kernel_rfl
theorem due_l6_P (L : LH) : dueR (lsD 6 "l") L = ((due_flP [some (.ref 0), some (.int 6), some (.str "l"), some (.int 720), some (.int 5), none, none, none, none] L).then due_flQ).then due_flR := by kernel_rfl
theorem due_b6_P (L : LH) : dueR (lsD 6 "b") L = ((due_bP [some (.ref 0), some (.int 6), some (.str "b"), some (.int 720), some (.int 5), none, none, none, none] L).then due_bQ).then due_bR := by kernel_rfl
theorem due_q6 (L : LH) : retS (dueR (lsD 6 "q") L) = some (.lst [.str "q8", .int 8, .lst [.tup [.int 2, .int 3, .int 1, .int 0, .int 6, .int 7, .int 5, .int 4], .tup [.int 4, .int 5, .int 7, .int 6, .int 1, .int 0, .int 2, .int 3]], .int 8], L) := by kernel_rfl
theorem due_m6_P (L : LH) : dueR (lsD 6 "m") L = due_mR [some (.ref 0), some (.int 6), some (.str "m"), some (.int 720), some (.int 5), none, none, none, none] L := by kernel_rfl
theorem due_f7_P (L : LH) : dueR (lsD 7 "f") L = ((due_flP [some (.ref 0), some (.int 7), some (.str "f"), some (.int 5040), some (.int 6), none, none, none, none] L).then due_flQ).then due_flR := by kernel_rfl
theorem due_l7_P (L : LH) : dueR (lsD 7 "l") L = ((due_flP [some (.ref 0), some (.int 7), some (.str "l"), some (.int 5040), some (.int 6), none, none, none, none] L).then due_flQ).then due_flR := by kernel_rfl
theorem due_b7_P (L : LH) : dueR (lsD 7 "b") L = ((due_bP [some (.ref 0), some (.int 7), some (.str "b"), some (.int 5040), some (.int 6), none, none, none, none] L).then due_bQ).then due_bR := by kernel_rfl
theorem due_q7 (L : LH) : retS (dueR (lsD 7 "q") L) = some (.lst [.str "q8", .int 8, .lst [.tup [.int 2, .int 3, .int 1, .int 0, .int 6, .int 7, .int 5, .int 4], .tup [.int 4, .int 5, .int 7, .int 6, .int 1, .int 0, .int 2, .int 3]], .int 8], L) := by kernel_rfl
theorem due_m7_P (L : LH) : dueR (lsD 7 "m") L = due_mR [some (.ref 0), some (.int 7), some (.str "m"), some (.int 5040), some (.int 6), none, none, none, none] L := by kernel_rfl
theorem due_f8_P (L : LH) : dueR (lsD 8 "f") L = ((due_flP [some (.ref 0), some (.int 8), some (.str "f"), some (.int 40320), some (.int 7), none, none, none, none] L).then due_flQ).then due_flR := by kernel_rfl
theorem due_l8_P (L : LH) : dueR (lsD 8 "l") L = ((due_flP [some (.ref 0), some (.int 8), some (.str "l"), some (.int 40320), some (.int 7), none, none, none, none] L).then due_flQ).then due_flR := by kernel_rfl
theorem due_b8_P (L : LH) : dueR (lsD 8 "b") L = ((due_bP [some (.ref 0), some (.int 8), some (.str "b"), some (.int 40320), some (.int 7), none, none, none, none] L).then due_bQ).then due_bR := by kernel_rfl
theorem due_q8 (L : LH) : retS (dueR (lsD 8 "q") L) = some (.lst [.str "q8", .int 8, .lst [.tup [.int 2, .int 3, .int 1, .int 0, .int 6, .int 7, .int 5, .int 4], .tup [.int 4, .int 5, .int 7, .int 6, .int 1, .int 0, .int 2, .int 3]], .int 8], L) := by kernel_rfl
theorem due_m8_P (L : LH) : dueR (lsD 8 "m") L = due_mR [some (.ref 0), some (.int 8), some (.str "m"), some (.int 40320), some (.int 7), none, none, none, none] L := by kernel_rfl
theorem due_f9_P (L : LH) : dueR (lsD 9 "f") L = ((due_flP [some (.ref 0), some (.int 9), some (.str "f"), some (.int 362880), some (.int 8), none, none, none, none] L).then due_flQ).then due_flR := by kernel_rfl
theorem due_l9_P (L : LH) : dueR (lsD 9 "l") L = ((due_flP [some (.ref 0), some (.int 9), some (.str "l"), some (.int 362880), some (.int 8), none, none, none, none] L).then due_flQ).then due_flR := by kernel_rfl
theorem due_b9_P (L : LH) : dueR (lsD 9 "b") L = ((due_bP [some (.ref 0), some (.int 9), some (.str "b"), some (.int 362880), some (.int 8), none, none, none, none] L).then due_bQ).then due_bR := by kernel_rfl
theorem due_q9 (L : LH) : retS (dueR (lsD 9 "q") L) = some (.lst [.str "q8", .int 8, .lst [.tup [.int 2, .int 3, .int 1, .int 0, .int 6, .int 7, .int 5, .int 4], .tup [.int 4, .int 5, .int 7, .int 6, .int 1, .int 0, .int 2, .int 3]], .int 8], L) := by kernel_rfl
theorem due_m9_P (L : LH) : dueR (lsD 9 "m") L = due_mR [some (.ref 0), some (.int 9), some (.str "m"), some (.int 362880), some (.int 8), none, none, none, none] L := by kernel_rfl
theorem due_f10_P (L : LH) : dueR (lsD 10 "f") L = ((due_flP [some (.ref 0), some (.int 10), some (.str "f"), some (.int 3628800), some (.int 9), none, none, none, none] L).then due_flQ).then due_flR := by kernel_rfl
theorem due_l10_P (L : LH) : dueR (lsD 10 "l") L = ((due_flP [some (.ref 0), some (.int 10), some (.str "l"), some (.int 3628800), some (.int 9), none, none, none, none] L).then due_flQ).then due_flR := by kernel_rfl
theorem due_b10_P (L : LH) : dueR (lsD 10 "b") L = ((due_bP [some (.ref 0), some (.int 10), some (.str "b"), some (.int 3628800), some (.int 9), none, none, none, none] L).then due_bQ).then due_bR := by kernel_rfl
theorem due_q10 (L : LH) : retS (dueR (lsD 10 "q") L) = some (.lst [.str "q8", .int 8, .lst [.tup [.int 2, .int 3, .int 1, .int 0, .int 6, .int 7, .int 5, .int 4], .tup [.int 4, .int 5, .int 7, .int 6, .int 1, .int 0, .int 2, .int 3]], .int 8], L) := by kernel_rfl
theorem due_m10_P (L : LH) : dueR (lsD 10 "m") L = due_mR [some (.ref 0), some (.int 10), some (.str "m"), some (.int 3628800), some (.int 9), none, none, none, none] L := by kernel_rfl
theorem due_f11_P (L : LH) : dueR (lsD 11 "f") L = ((due_flP [some (.ref 0), some (.int 11), some (.str "f"), some (.int 39916800), some (.int 10), none, none, none, none] L).then due_flQ).then due_flR := by kernel_rfl
theorem due_l11_P (L : LH) : dueR (lsD 11 "l") L = ((due_flP [some (.ref 0), some (.int 11), some (.str "l"), some (.int 39916800), some (.int 10), none, none, none, none] L).then due_flQ).then due_flR := by kernel_rfl
theorem due_b11_P (L : LH) : dueR (lsD 11 "b") L = ((due_bP [some (.ref 0), some (.int 11), some (.str "b"), some (.int 39916800), some (.int 10), none, none, none, none] L).then due_bQ).then due_bR := by kernel_rfl
theorem due_q11 (L : LH) : retS (dueR (lsD 11 "q") L) = some (.lst [.str "q8", .int 8, .lst [.tup [.int 2, .int 3, .int 1, .int 0, .int 6, .int 7, .int 5, .int 4], .tup [.int 4, .int 5, .int 7, .int 6, .int 1, .int 0, .int 2, .int 3]], .int 8], L) := by kernel_rfl
theorem due_m11_P (L : LH) : dueR (lsD 11 "m") L = due_mR [some (.ref 0), some (.int 11), some (.str "m"), some (.int 39916800), some (.int 10), none, none, none, none] L := by kernel_rfl
theorem due_f12_P (L : LH) : dueR (lsD 12 "f") L = ((due_flP [some (.ref 0), some (.int 12), some (.str "f"), some (.int 479001600), some (.int 11), none, none, none, none] L).then due_flQ).then due_flR := by kernel_rfl
theorem due_l12_P (L : LH) : dueR (lsD 12 "l") L = ((due_flP [some (.ref 0), some (.int 12), some (.str "l"), some (.int 479001600), some (.int 11), none, none, none, none] L).then due_flQ).then due_flR := by kernel_rfl
theorem due_b12_P (L : LH) : dueR (lsD 12 "b") L = ((due_bP [some (.ref 0), some (.int 12), some (.str "b"), some (.int 479001600), some (.int 11), none, none, none, none] L).then due_bQ).then due_bR := by kernel_rfl
theorem due_q12 (L : LH) : retS (dueR (lsD 12 "q") L) = some (.lst [.str "q8", .int 8, .lst [.tup [.int 2, .int 3, .int 1, .int 0, .int 6, .int 7, .int 5, .int 4], .tup [.int 4, .int 5, .int 7, .int 6, .int 1, .int 0, .int 2, .int 3]], .int 8], L) := by kernel_rfl
theorem due_m12_P (L : LH) : dueR (lsD 12 "m") L = due_mR [some (.ref 0), some (.int 12), some (.str "m"), some (.int 479001600), some (.int 11), none, none, none, none] L := by kernel_rfl
theorem due_f13_P (L : LH) : dueR (lsD 13 "f") L = ((due_flP [some (.ref 0), some (.int 13), some (.str "f"), some (.int 6227020800), some (.int 12), none, none, none, none] L).then due_flQ).then due_flR := by kernel_rfl
theorem due_l13_P (L : LH) : dueR (lsD 13 "l") L = ((due_flP [some (.ref 0), some (.int 13), some (.str "l"), some (.int 6227020800), some (.int 12), none, none, none, none] L).then due_flQ).then due_flR := by kernel_rfl
theorem due_b13_P (L : LH) : dueR (lsD 13 "b") L = ((due_bP [some (.ref 0), some (.int 13), some (.str "b"), some (.int 6227020800), some (.int 12), none, none, none, none] L).then due_bQ).then due_bR := by kernel_rfl
theorem due_q13 (L : LH) : retS (dueR (lsD 13 "q") L) = some (.lst [.str "q8", .int 8, .lst [.tup [.int 2, .int 3, .int 1, .int 0, .int 6, .int 7, .int 5, .int 4], .tup [.int 4, .int 5, .int 7, .int 6, .int 1, .int 0, .int 2, .int 3]], .int 8], L) := by kernel_rfl
theorem due_m13_P (L : LH) : dueR (lsD 13 "m") L = due_mR [some (.ref 0), some (.int 13), some (.str "m"), some (.int 6227020800), some (.int 12), none, none, none, none] L := by kernel_rfl
theorem due_f14_P (L : LH) : dueR (lsD 14 "f") L = ((due_flP [some (.ref 0), some (.int 14), some (.str "f"), some (.int 87178291200), some (.int 13), none, none, none, none] L).then due_flQ).then due_flR := by kernel_rfl
theorem due_l14_P (L : LH) : dueR (lsD 14 "l") L = ((due_flP [some (.ref 0), some (.int 14), some (.str "l"), some (.int 87178291200), some (.int 13), none, none, none, none] L).then due_flQ).then due_flR := by kernel_rfl
theorem due_b14_P (L : LH) : dueR (lsD 14 "b") L = ((due_bP [some (.ref 0), some (.int 14), some (.str "b"), some (.int 87178291200), some (.int 13), none, none, none, none] L).then due_bQ).then due_bR := by kernel_rfl
theorem due_q14 (L : LH) : retS (dueR (lsD 14 "q") L) = some (.lst [.str "q8", .int 8, .lst [.tup [.int 2, .int 3, .int 1, .int 0, .int 6, .int 7, .int 5, .int 4], .tup [.int 4, .int 5, .int 7, .int 6, .int 1, .int 0, .int 2, .int 3]], .int 8], L) := by kernel_rfl
theorem due_m14_P (L : LH) : dueR (lsD 14 "m") L = due_mR [some (.ref 0), some (.int 14), some (.str "m"), some (.int 87178291200), some (.int 13), none, none, none, none] L := by kernel_rfl
theorem due_f15_P (L : LH) : dueR (lsD 15 "f") L = ((due_flP [some (.ref 0), some (.int 15), some (.str "f"), some (.int 1307674368000), some (.int 14), none, none, none, none] L).then due_flQ).then due_flR := by kernel_rfl
theorem due_l15_P (L : LH) : dueR (lsD 15 "l") L = ((due_flP [some (.ref 0), some (.int 15), some (.str "l"), some (.int 1307674368000), some (.int 14), none, none, none, none] L).then due_flQ).then due_flR := by kernel_rfl
theorem due_b15_P (L : LH) : dueR (lsD 15 "b") L = ((due_bP [some (.ref 0), some (.int 15), some (.str "b"), some (.int 1307674368000), some (.int 14), none, none, none, none] L).then due_bQ).then due_bR := by kernel_rfl
theorem due_q15 (L : LH) : retS (dueR (lsD 15 "q") L) = some (.lst [.str "q8", .int 8, .lst [.tup [.int 2, .int 3, .int 1, .int 0, .int 6, .int 7, .int 5, .int 4], .tup [.int 4, .int 5, .int 7, .int 6, .int 1, .int 0, .int 2, .int 3]], .int 8], L) := by kernel_rfl
theorem due_m15_P (L : LH) : dueR (lsD 15 "m") L = due_mR [some (.ref 0), some (.int 15), some (.str "m"), some (.int 1307674368000), some (.int 14), none, none, none, none] L := by kernel_rfl
theorem due_f16_P (L : LH) : dueR (lsD 16 "f") L = ((due_flP [some (.ref 0), some (.int 16), some (.str "f"), some (.int 20922789888000), some (.int 15), none, none, none, none] L).then due_flQ).then due_flR := by kernel_rfl
theorem due_l16_P (L : LH) : dueR (lsD 16 "l") L = ((due_flP [some (.ref 0), some (.int 16), some (.str "l"), some (.int 20922789888000), some (.int 15), none, none, none, none] L).then due_flQ).then due_flR := by kernel_rfl
theorem due_b16_P (L : LH) : dueR (lsD 16 "b") L = ((due_bP [some (.ref 0), some (.int 16), some (.str "b"), some (.int 20922789888000), some (.int 15), none, none, none, none] L).then due_bQ).then due_bR := by kernel_rfl
theorem due_q16 (L : LH) : retS (dueR (lsD 16 "q") L) = some (.lst [.str "q8", .int 8, .lst [.tup [.int 2, .int 3, .int 1, .int 0, .int 6, .int 7, .int 5, .int 4], .tup [.int 4, .int 5, .int 7, .int 6, .int 1, .int 0, .int 2, .int 3]], .int 8], L) := by kernel_rfl
theorem due_m16_P (L : LH) : dueR (lsD 16 "m") L = due_mR [some (.ref 0), some (.int 16), some (.str "m"), some (.int 20922789888000), some (.int 15), none, none, none, none] L := by kernel_rfl
theorem due_fQ2 (a b c e x y z : Option LV) (L : LH) : retS (due_flQ [a, b, some (.str "f"), c, e, some (.int 2), x, y, z] L) = some (.lst [.str "f2", .int 2, .lst [.tup [.int 1, .int 0], .tup [.int 0, .int 1]], .int 2], L) := by kernel_rfl
theorem due_lQ2 (a b c e x y z : Option LV) (L : LH) : retS (due_flQ [a, b, some (.str "l"), c, e, some (.int 2), x, y, z] L) = some (.lst [.str "l2", .int 3, .lst [.tup [.int 1, .int 0, .int 2], .tup [.int 2, .int 1, .int 0]], .int 6], L) := by kernel_rfl
theorem due_fQ3 (a b c e x y z : Option LV) (L : LH) : retS (due_flQ [a, b, some (.str "f"), c, e, some (.int 3), x, y, z] L) = some (.lst [.str "f3", .int 3, .lst [.tup [.int 1, .int 2, .int 0], .tup [.int 0, .int 2, .int 1]], .int 6], L) := by kernel_rfl
theorem due_lQ3 (a b c e x y z : Option LV) (L : LH) : retS (due_flQ [a, b, some (.str "l"), c, e, some (.int 3), x, y, z] L) = some (.lst [.str "l3", .int 4, .lst [.tup [.int 1, .int 2, .int 0, .int 3], .tup [.int 3, .int 2, .int 1, .int 0]], .int 12], L) := by kernel_rfl
theorem due_fQ5 (a b c e x y z : Option LV) (L : LH) : retS (due_flQ [a, b, some (.str "f"), c, e, some (.int 5), x, y, z] L) = some (.lst [.str "f5", .int 5, .lst [.tup [.int 1, .int 2, .int 3, .int 4, .int 0], .tup [.int 0, .int 2, .int 4, .int 1, .int 3]], .int 20], L) := by kernel_rfl
theorem due_lQ5 (a b c e x y z : Option LV) (L : LH) : retS (due_flQ [a, b, some (.str "l"), c, e, some (.int 5), x, y, z] L) = some (.lst [.str "l5", .int 6, .lst [.tup [.int 1, .int 2, .int 3, .int 4, .int 0, .int 5], .tup [.int 5, .int 4, .int 2, .int 3, .int 1, .int 0]], .int 60], L) := by kernel_rfl
theorem due_fQ7 (a b c e x y z : Option LV) (L : LH) : retS (due_flQ [a, b, some (.str "f"), c, e, some (.int 7), x, y, z] L) = some (.lst [.str "f7", .int 7, .lst [.tup [.int 1, .int 2, .int 3, .int 4, .int 5, .int 6, .int 0], .tup [.int 0, .int 3, .int 6, .int 2, .int 5, .int 1, .int 4]], .int 42], L) := by kernel_rfl
theorem due_lQ7 (a b c e x y z : Option LV) (L : LH) : retS (due_flQ [a, b, some (.str "l"), c, e, some (.int 7), x, y, z] L) = some (.lst [.str "l7", .int 8, .lst [.tup [.int 1, .int 2, .int 3, .int 4, .int 5, .int 6, .int 0, .int 7], .tup [.int 7, .int 6, .int 3, .int 2, .int 5, .int 4, .int 1, .int 0]], .int 168], L) := by kernel_rfl
theorem due_fQ11 (a b c e x y z : Option LV) (L : LH) : retS (due_flQ [a, b, some (.str "f"), c, e, some (.int 11), x, y, z] L) = some (.lst [.str "f11", .int 11, .lst [.tup [.int 1, .int 2, .int 3, .int 4, .int 5, .int 6, .int 7, .int 8, .int 9, .int 10, .int 0], .tup [.int 0, .int 2, .int 4, .int 6, .int 8, .int 10, .int 1, .int 3, .int 5, .int 7, .int 9]], .int 110], L) := by kernel_rfl
theorem due_lQ11 (a b c e x y z : Option LV) (L : LH) : retS (due_flQ [a, b, some (.str "l"), c, e, some (.int 11), x, y, z] L) = some (.lst [.str "l11", .int 12, .lst [.tup [.int 1, .int 2, .int 3, .int 4, .int 5, .int 6, .int 7, .int 8, .int 9, .int 10, .int 0, .int 11], .tup [.int 11, .int 10, .int 5, .int 7, .int 8, .int 2, .int 9, .int 3, .int 4, .int 6, .int 1, .int 0]], .int 660], L) := by kernel_rfl
theorem due_fQ13 (a b c e x y z : Option LV) (L : LH) : retS (due_flQ [a, b, some (.str "f"), c, e, some (.int 13), x, y, z] L) = some (.lst [.str "f13", .int 13, .lst [.tup [.int 1, .int 2, .int 3, .int 4, .int 5, .int 6, .int 7, .int 8, .int 9, .int 10, .int 11, .int 12, .int 0], .tup [.int 0, .int 2, .int 4, .int 6, .int 8, .int 10, .int 12, .int 1, .int 3, .int 5, .int 7, .int 9, .int 11]], .int 156], L) := by kernel_rfl
theorem due_lQ13 (a b c e x y z : Option LV) (L : LH) : retS (due_flQ [a, b, some (.str "l"), c, e, some (.int 13), x, y, z] L) = some (.lst [.str "l13", .int 14, .lst [.tup [.int 1, .int 2, .int 3, .int 4, .int 5, .int 6, .int 7, .int 8, .int 9, .int 10, .int 11, .int 12, .int 0, .int 13], .tup [.int 13, .int 12, .int 6, .int 4, .int 3, .int 5, .int 2, .int 11, .int 8, .int 10, .int 9, .int 7, .int 1, .int 0]], .int 1092], L) := by kernel_rfl
theorem due_bQ1 (a b c e x y z w : Option LV) (L : LH) : retS (due_bQ [a, b, e, c, some (.int 1), x, y, z, w] L) = some (.lst [.str "b1", .int 2, .lst [.tup [.int 1, .int 0], .tup [.int 0, .int 1], .tup [.int 0, .int 1]], .int 2], L) := by kernel_rfl
theorem due_bQ2 (a b c e x y z w : Option LV) (L : LH) : retS (due_bQ [a, b, e, c, some (.int 2), x, y, z, w] L) = some (.lst [.str "b2", .int 4, .lst [.tup [.int 1, .int 0, .int 3, .int 2], .tup [.int 0, .int 2, .int 1, .int 3], .tup [.int 0, .int 1, .int 3, .int 2]], .int 24], L) := by kernel_rfl
theorem due_bQ3 (a b c e x y z w : Option LV) (L : LH) : retS (due_bQ [a, b, e, c, some (.int 3), x, y, z, w] L) = some (.lst [.str "b3", .int 8, .lst [.tup [.int 1, .int 0, .int 3, .int 2, .int 5, .int 4, .int 7, .int 6], .tup [.int 0, .int 2, .int 4, .int 6, .int 1, .int 3, .int 5, .int 7], .tup [.int 0, .int 1, .int 3, .int 2, .int 4, .int 5, .int 7, .int 6]], .int 1344], L) := by kernel_rfl
theorem due_bQ4 (a b c e x y z w : Option LV) (L : LH) : retS (due_bQ [a, b, e, c, some (.int 4), x, y, z, w] L) = some (.lst [.str "b4", .int 16, .lst [.tup [.int 1, .int 0, .int 3, .int 2, .int 5, .int 4, .int 7, .int 6, .int 9, .int 8, .int 11, .int 10, .int 13, .int 12, .int 15, .int 14], .tup [.int 0, .int 2, .int 4, .int 6, .int 8, .int 10, .int 12, .int 14, .int 1, .int 3, .int 5, .int 7, .int 9, .int 11, .int 13, .int 15], .tup [.int 0, .int 1, .int 3, .int 2, .int 4, .int 5, .int 7, .int 6, .int 8, .int 9, .int 11, .int 10, .int 12, .int 13, .int 15, .int 14]], .int 322560], L) := by kernel_rfl
end Lw

namespace Lw
open PySem PySem.Spec PyProof.Rows L2 G
def MENU : List LV := [.lst [.str "s1", .int 1, .lst [.tup [.int 0], .tup [.int 0]], .int 1],
  .lst [.str "a1", .int 1, .lst [], .int 1],
  .lst [.str "c1", .int 1, .lst [.tup [.int 0]], .int 1],
  .lst [.str "d1", .int 1, .lst [.tup [.int 0], .tup [.int 0]], .int 1],
  .lst [.str "s2", .int 2, .lst [.tup [.int 1, .int 0], .tup [.int 1, .int 0]], .int 2],
  .lst [.str "a2", .int 2, .lst [], .int 1],
  .lst [.str "c2", .int 2, .lst [.tup [.int 1, .int 0]], .int 2],
  .lst [.str "d2", .int 2, .lst [.tup [.int 1, .int 0], .tup [.int 0, .int 1]], .int 2],
  .lst [.str "s3", .int 3, .lst [.tup [.int 1, .int 2, .int 0], .tup [.int 1, .int 0, .int 2]], .int 6],
  .lst [.str "a3", .int 3, .lst [.tup [.int 1, .int 2, .int 0]], .int 3],
  .lst [.str "c3", .int 3, .lst [.tup [.int 1, .int 2, .int 0]], .int 3],
  .lst [.str "d3", .int 3, .lst [.tup [.int 1, .int 2, .int 0], .tup [.int 0, .int 2, .int 1]], .int 6],
  .lst [.str "s4", .int 4, .lst [.tup [.int 1, .int 2, .int 3, .int 0], .tup [.int 1, .int 0, .int 2, .int 3]], .int 24],
  .lst [.str "a4", .int 4, .lst [.tup [.int 1, .int 2, .int 0, .int 3], .tup [.int 0, .int 2, .int 3, .int 1]], .int 12],
  .lst [.str "c4", .int 4, .lst [.tup [.int 1, .int 2, .int 3, .int 0]], .int 4],
  .lst [.str "d4", .int 4, .lst [.tup [.int 1, .int 2, .int 3, .int 0], .tup [.int 0, .int 3, .int 2, .int 1]], .int 8],
  .lst [.str "s5", .int 5, .lst [.tup [.int 1, .int 2, .int 3, .int 4, .int 0], .tup [.int 1, .int 0, .int 2, .int 3, .int 4]], .int 120],
  .lst [.str "a5", .int 5, .lst [.tup [.int 1, .int 2, .int 0, .int 3, .int 4], .tup [.int 0, .int 2, .int 3, .int 1, .int 4], .tup [.int 0, .int 1, .int 3, .int 4, .int 2]], .int 60],
  .lst [.str "c5", .int 5, .lst [.tup [.int 1, .int 2, .int 3, .int 4, .int 0]], .int 5],
  .lst [.str "d5", .int 5, .lst [.tup [.int 1, .int 2, .int 3, .int 4, .int 0], .tup [.int 0, .int 4, .int 3, .int 2, .int 1]], .int 10],
  .lst [.str "s6", .int 6, .lst [.tup [.int 1, .int 2, .int 3, .int 4, .int 5, .int 0], .tup [.int 1, .int 0, .int 2, .int 3, .int 4, .int 5]], .int 720],
  .lst [.str "a6", .int 6, .lst [.tup [.int 1, .int 2, .int 0, .int 3, .int 4, .int 5], .tup [.int 0, .int 2, .int 3, .int 1, .int 4, .int 5], .tup [.int 0, .int 1, .int 3, .int 4, .int 2, .int 5], .tup [.int 0, .int 1, .int 2, .int 4, .int 5, .int 3]], .int 360],
  .lst [.str "c6", .int 6, .lst [.tup [.int 1, .int 2, .int 3, .int 4, .int 5, .int 0]], .int 6],
  .lst [.str "d6", .int 6, .lst [.tup [.int 1, .int 2, .int 3, .int 4, .int 5, .int 0], .tup [.int 0, .int 5, .int 4, .int 3, .int 2, .int 1]], .int 12],
  .lst [.str "s7", .int 7, .lst [.tup [.int 1, .int 2, .int 3, .int 4, .int 5, .int 6, .int 0], .tup [.int 1, .int 0, .int 2, .int 3, .int 4, .int 5, .int 6]], .int 5040],
  .lst [.str "a7", .int 7, .lst [.tup [.int 1, .int 2, .int 0, .int 3, .int 4, .int 5, .int 6], .tup [.int 0, .int 2, .int 3, .int 1, .int 4, .int 5, .int 6], .tup [.int 0, .int 1, .int 3, .int 4, .int 2, .int 5, .int 6], .tup [.int 0, .int 1, .int 2, .int 4, .int 5, .int 3, .int 6], .tup [.int 0, .int 1, .int 2, .int 3, .int 5, .int 6, .int 4]], .int 2520],
  .lst [.str "c7", .int 7, .lst [.tup [.int 1, .int 2, .int 3, .int 4, .int 5, .int 6, .int 0]], .int 7],
  .lst [.str "d7", .int 7, .lst [.tup [.int 1, .int 2, .int 3, .int 4, .int 5, .int 6, .int 0], .tup [.int 0, .int 6, .int 5, .int 4, .int 3, .int 2, .int 1]], .int 14],
  .lst [.str "s8", .int 8, .lst [.tup [.int 1, .int 2, .int 3, .int 4, .int 5, .int 6, .int 7, .int 0], .tup [.int 1, .int 0, .int 2, .int 3, .int 4, .int 5, .int 6, .int 7]], .int 40320],
  .lst [.str "a8", .int 8, .lst [.tup [.int 1, .int 2, .int 0, .int 3, .int 4, .int 5, .int 6, .int 7], .tup [.int 0, .int 2, .int 3, .int 1, .int 4, .int 5, .int 6, .int 7], .tup [.int 0, .int 1, .int 3, .int 4, .int 2, .int 5, .int 6, .int 7], .tup [.int 0, .int 1, .int 2, .int 4, .int 5, .int 3, .int 6, .int 7], .tup [.int 0, .int 1, .int 2, .int 3, .int 5, .int 6, .int 4, .int 7], .tup [.int 0, .int 1, .int 2, .int 3, .int 4, .int 6, .int 7, .int 5]], .int 20160],
  .lst [.str "c8", .int 8, .lst [.tup [.int 1, .int 2, .int 3, .int 4, .int 5, .int 6, .int 7, .int 0]], .int 8],
  .lst [.str "d8", .int 8, .lst [.tup [.int 1, .int 2, .int 3, .int 4, .int 5, .int 6, .int 7, .int 0], .tup [.int 0, .int 7, .int 6, .int 5, .int 4, .int 3, .int 2, .int 1]], .int 16],
  .lst [.str "s9", .int 9, .lst [.tup [.int 1, .int 2, .int 3, .int 4, .int 5, .int 6, .int 7, .int 8, .int 0], .tup [.int 1, .int 0, .int 2, .int 3, .int 4, .int 5, .int 6, .int 7, .int 8]], .int 362880],
  .lst [.str "a9", .int 9, .lst [.tup [.int 1, .int 2, .int 0, .int 3, .int 4, .int 5, .int 6, .int 7, .int 8], .tup [.int 0, .int 2, .int 3, .int 1, .int 4, .int 5, .int 6, .int 7, .int 8], .tup [.int 0, .int 1, .int 3, .int 4, .int 2, .int 5, .int 6, .int 7, .int 8], .tup [.int 0, .int 1, .int 2, .int 4, .int 5, .int 3, .int 6, .int 7, .int 8], .tup [.int 0, .int 1, .int 2, .int 3, .int 5, .int 6, .int 4, .int 7, .int 8], .tup [.int 0, .int 1, .int 2, .int 3, .int 4, .int 6, .int 7, .int 5, .int 8], .tup [.int 0, .int 1, .int 2, .int 3, .int 4, .int 5, .int 7, .int 8, .int 6]], .int 181440],
  .lst [.str "c9", .int 9, .lst [.tup [.int 1, .int 2, .int 3, .int 4, .int 5, .int 6, .int 7, .int 8, .int 0]], .int 9],
  .lst [.str "d9", .int 9, .lst [.tup [.int 1, .int 2, .int 3, .int 4, .int 5, .int 6, .int 7, .int 8, .int 0], .tup [.int 0, .int 8, .int 7, .int 6, .int 5, .int 4, .int 3, .int 2, .int 1]], .int 18],
  .lst [.str "s10", .int 10, .lst [.tup [.int 1, .int 2, .int 3, .int 4, .int 5, .int 6, .int 7, .int 8, .int 9, .int 0], .tup [.int 1, .int 0, .int 2, .int 3, .int 4, .int 5, .int 6, .int 7, .int 8, .int 9]], .int 3628800],
  .lst [.str "a10", .int 10, .lst [.tup [.int 1, .int 2, .int 0, .int 3, .int 4, .int 5, .int 6, .int 7, .int 8, .int 9], .tup [.int 0, .int 2, .int 3, .int 1, .int 4, .int 5, .int 6, .int 7, .int 8, .int 9], .tup [.int 0, .int 1, .int 3, .int 4, .int 2, .int 5, .int 6, .int 7, .int 8, .int 9], .tup [.int 0, .int 1, .int 2, .int 4, .int 5, .int 3, .int 6, .int 7, .int 8, .int 9], .tup [.int 0, .int 1, .int 2, .int 3, .int 5, .int 6, .int 4, .int 7, .int 8, .int 9], .tup [.int 0, .int 1, .int 2, .int 3, .int 4, .int 6, .int 7, .int 5, .int 8, .int 9], .tup [.int 0, .int 1, .int 2, .int 3, .int 4, .int 5, .int 7, .int 8, .int 6, .int 9], .tup [.int 0, .int 1, .int 2, .int 3, .int 4, .int 5, .int 6, .int 8, .int 9, .int 7]], .int 1814400],
  .lst [.str "c10", .int 10, .lst [.tup [.int 1, .int 2, .int 3, .int 4, .int 5, .int 6, .int 7, .int 8, .int 9, .int 0]], .int 10],
  .lst [.str "d10", .int 10, .lst [.tup [.int 1, .int 2, .int 3, .int 4, .int 5, .int 6, .int 7, .int 8, .int 9, .int 0], .tup [.int 0, .int 9, .int 8, .int 7, .int 6, .int 5, .int 4, .int 3, .int 2, .int 1]], .int 20],
  .lst [.str "s11", .int 11, .lst [.tup [.int 1, .int 2, .int 3, .int 4, .int 5, .int 6, .int 7, .int 8, .int 9, .int 10, .int 0], .tup [.int 1, .int 0, .int 2, .int 3, .int 4, .int 5, .int 6, .int 7, .int 8, .int 9, .int 10]], .int 39916800],
  .lst [.str "a11", .int 11, .lst [.tup [.int 1, .int 2, .int 0, .int 3, .int 4, .int 5, .int 6, .int 7, .int 8, .int 9, .int 10], .tup [.int 0, .int 2, .int 3, .int 1, .int 4, .int 5, .int 6, .int 7, .int 8, .int 9, .int 10], .tup [.int 0, .int 1, .int 3, .int 4, .int 2, .int 5, .int 6, .int 7, .int 8, .int 9, .int 10], .tup [.int 0, .int 1, .int 2, .int 4, .int 5, .int 3, .int 6, .int 7, .int 8, .int 9, .int 10], .tup [.int 0, .int 1, .int 2, .int 3, .int 5, .int 6, .int 4, .int 7, .int 8, .int 9, .int 10], .tup [.int 0, .int 1, .int 2, .int 3, .int 4, .int 6, .int 7, .int 5, .int 8, .int 9, .int 10], .tup [.int 0, .int 1, .int 2, .int 3, .int 4, .int 5, .int 7, .int 8, .int 6, .int 9, .int 10], .tup [.int 0, .int 1, .int 2, .int 3, .int 4, .int 5, .int 6, .int 8, .int 9, .int 7, .int 10], .tup [.int 0, .int 1, .int 2, .int 3, .int 4, .int 5, .int 6, .int 7, .int 9, .int 10, .int 8]], .int 19958400],
  .lst [.str "c11", .int 11, .lst [.tup [.int 1, .int 2, .int 3, .int 4, .int 5, .int 6, .int 7, .int 8, .int 9, .int 10, .int 0]], .int 11],
  .lst [.str "d11", .int 11, .lst [.tup [.int 1, .int 2, .int 3, .int 4, .int 5, .int 6, .int 7, .int 8, .int 9, .int 10, .int 0], .tup [.int 0, .int 10, .int 9, .int 8, .int 7, .int 6, .int 5, .int 4, .int 3, .int 2, .int 1]], .int 22],
  .lst [.str "s12", .int 12, .lst [.tup [.int 1, .int 2, .int 3, .int 4, .int 5, .int 6, .int 7, .int 8, .int 9, .int 10, .int 11, .int 0], .tup [.int 1, .int 0, .int 2, .int 3, .int 4, .int 5, .int 6, .int 7, .int 8, .int 9, .int 10, .int 11]], .int 479001600],
  .lst [.str "a12", .int 12, .lst [.tup [.int 1, .int 2, .int 0, .int 3, .int 4, .int 5, .int 6, .int 7, .int 8, .int 9, .int 10, .int 11], .tup [.int 0, .int 2, .int 3, .int 1, .int 4, .int 5, .int 6, .int 7, .int 8, .int 9, .int 10, .int 11], .tup [.int 0, .int 1, .int 3, .int 4, .int 2, .int 5, .int 6, .int 7, .int 8, .int 9, .int 10, .int 11], .tup [.int 0, .int 1, .int 2, .int 4, .int 5, .int 3, .int 6, .int 7, .int 8, .int 9, .int 10, .int 11], .tup [.int 0, .int 1, .int 2, .int 3, .int 5, .int 6, .int 4, .int 7, .int 8, .int 9, .int 10, .int 11], .tup [.int 0, .int 1, .int 2, .int 3, .int 4, .int 6, .int 7, .int 5, .int 8, .int 9, .int 10, .int 11], .tup [.int 0, .int 1, .int 2, .int 3, .int 4, .int 5, .int 7, .int 8, .int 6, .int 9, .int 10, .int 11], .tup [.int 0, .int 1, .int 2, .int 3, .int 4, .int 5, .int 6, .int 8, .int 9, .int 7, .int 10, .int 11], .tup [.int 0, .int 1, .int 2, .int 3, .int 4, .int 5, .int 6, .int 7, .int 9, .int 10, .int 8, .int 11], .tup [.int 0, .int 1, .int 2, .int 3, .int 4, .int 5, .int 6, .int 7, .int 8, .int 10, .int 11, .int 9]], .int 239500800],
  .lst [.str "c12", .int 12, .lst [.tup [.int 1, .int 2, .int 3, .int 4, .int 5, .int 6, .int 7, .int 8, .int 9, .int 10, .int 11, .int 0]], .int 12],
  .lst [.str "d12", .int 12, .lst [.tup [.int 1, .int 2, .int 3, .int 4, .int 5, .int 6, .int 7, .int 8, .int 9, .int 10, .int 11, .int 0], .tup [.int 0, .int 11, .int 10, .int 9, .int 8, .int 7, .int 6, .int 5, .int 4, .int 3, .int 2, .int 1]], .int 24],
  .lst [.str "s13", .int 13, .lst [.tup [.int 1, .int 2, .int 3, .int 4, .int 5, .int 6, .int 7, .int 8, .int 9, .int 10, .int 11, .int 12, .int 0], .tup [.int 1, .int 0, .int 2, .int 3, .int 4, .int 5, .int 6, .int 7, .int 8, .int 9, .int 10, .int 11, .int 12]], .int 6227020800],
  .lst [.str "a13", .int 13, .lst [.tup [.int 1, .int 2, .int 0, .int 3, .int 4, .int 5, .int 6, .int 7, .int 8, .int 9, .int 10, .int 11, .int 12], .tup [.int 0, .int 2, .int 3, .int 1, .int 4, .int 5, .int 6, .int 7, .int 8, .int 9, .int 10, .int 11, .int 12], .tup [.int 0, .int 1, .int 3, .int 4, .int 2, .int 5, .int 6, .int 7, .int 8, .int 9, .int 10, .int 11, .int 12], .tup [.int 0, .int 1, .int 2, .int 4, .int 5, .int 3, .int 6, .int 7, .int 8, .int 9, .int 10, .int 11, .int 12], .tup [.int 0, .int 1, .int 2, .int 3, .int 5, .int 6, .int 4, .int 7, .int 8, .int 9, .int 10, .int 11, .int 12], .tup [.int 0, .int 1, .int 2, .int 3, .int 4, .int 6, .int 7, .int 5, .int 8, .int 9, .int 10, .int 11, .int 12], .tup [.int 0, .int 1, .int 2, .int 3, .int 4, .int 5, .int 7, .int 8, .int 6, .int 9, .int 10, .int 11, .int 12], .tup [.int 0, .int 1, .int 2, .int 3, .int 4, .int 5, .int 6, .int 8, .int 9, .int 7, .int 10, .int 11, .int 12], .tup [.int 0, .int 1, .int 2, .int 3, .int 4, .int 5, .int 6, .int 7, .int 9, .int 10, .int 8, .int 11, .int 12], .tup [.int 0, .int 1, .int 2, .int 3, .int 4, .int 5, .int 6, .int 7, .int 8, .int 10, .int 11, .int 9, .int 12], .tup [.int 0, .int 1, .int 2, .int 3, .int 4, .int 5, .int 6, .int 7, .int 8, .int 9, .int 11, .int 12, .int 10]], .int 3113510400],
  .lst [.str "c13", .int 13, .lst [.tup [.int 1, .int 2, .int 3, .int 4, .int 5, .int 6, .int 7, .int 8, .int 9, .int 10, .int 11, .int 12, .int 0]], .int 13],
  .lst [.str "d13", .int 13, .lst [.tup [.int 1, .int 2, .int 3, .int 4, .int 5, .int 6, .int 7, .int 8, .int 9, .int 10, .int 11, .int 12, .int 0], .tup [.int 0, .int 12, .int 11, .int 10, .int 9, .int 8, .int 7, .int 6, .int 5, .int 4, .int 3, .int 2, .int 1]], .int 26],
  .lst [.str "s14", .int 14, .lst [.tup [.int 1, .int 2, .int 3, .int 4, .int 5, .int 6, .int 7, .int 8, .int 9, .int 10, .int 11, .int 12, .int 13, .int 0], .tup [.int 1, .int 0, .int 2, .int 3, .int 4, .int 5, .int 6, .int 7, .int 8, .int 9, .int 10, .int 11, .int 12, .int 13]], .int 87178291200],
  .lst [.str "a14", .int 14, .lst [.tup [.int 1, .int 2, .int 0, .int 3, .int 4, .int 5, .int 6, .int 7, .int 8, .int 9, .int 10, .int 11, .int 12, .int 13], .tup [.int 0, .int 2, .int 3, .int 1, .int 4, .int 5, .int 6, .int 7, .int 8, .int 9, .int 10, .int 11, .int 12, .int 13], .tup [.int 0, .int 1, .int 3, .int 4, .int 2, .int 5, .int 6, .int 7, .int 8, .int 9, .int 10, .int 11, .int 12, .int 13], .tup [.int 0, .int 1, .int 2, .int 4, .int 5, .int 3, .int 6, .int 7, .int 8, .int 9, .int 10, .int 11, .int 12, .int 13], .tup [.int 0, .int 1, .int 2, .int 3, .int 5, .int 6, .int 4, .int 7, .int 8, .int 9, .int 10, .int 11, .int 12, .int 13], .tup [.int 0, .int 1, .int 2, .int 3, .int 4, .int 6, .int 7, .int 5, .int 8, .int 9, .int 10, .int 11, .int 12, .int 13], .tup [.int 0, .int 1, .int 2, .int 3, .int 4, .int 5, .int 7, .int 8, .int 6, .int 9, .int 10, .int 11, .int 12, .int 13], .tup [.int 0, .int 1, .int 2, .int 3, .int 4, .int 5, .int 6, .int 8, .int 9, .int 7, .int 10, .int 11, .int 12, .int 13], .tup [.int 0, .int 1, .int 2, .int 3, .int 4, .int 5, .int 6, .int 7, .int 9, .int 10, .int 8, .int 11, .int 12, .int 13], .tup [.int 0, .int 1, .int 2, .int 3, .int 4, .int 5, .int 6, .int 7, .int 8, .int 10, .int 11, .int 9, .int 12, .int 13], .tup [.int 0, .int 1, .int 2, .int 3, .int 4, .int 5, .int 6, .int 7, .int 8, .int 9, .int 11, .int 12, .int 10, .int 13], .tup [.int 0, .int 1, .int 2, .int 3, .int 4, .int 5, .int 6, .int 7, .int 8, .int 9, .int 10, .int 12, .int 13, .int 11]], .int 43589145600],
  .lst [.str "c14", .int 14, .lst [.tup [.int 1, .int 2, .int 3, .int 4, .int 5, .int 6, .int 7, .int 8, .int 9, .int 10, .int 11, .int 12, .int 13, .int 0]], .int 14],
  .lst [.str "d14", .int 14, .lst [.tup [.int 1, .int 2, .int 3, .int 4, .int 5, .int 6, .int 7, .int 8, .int 9, .int 10, .int 11, .int 12, .int 13, .int 0], .tup [.int 0, .int 13, .int 12, .int 11, .int 10, .int 9, .int 8, .int 7, .int 6, .int 5, .int 4, .int 3, .int 2, .int 1]], .int 28],
  .lst [.str "s15", .int 15, .lst [.tup [.int 1, .int 2, .int 3, .int 4, .int 5, .int 6, .int 7, .int 8, .int 9, .int 10, .int 11, .int 12, .int 13, .int 14, .int 0], .tup [.int 1, .int 0, .int 2, .int 3, .int 4, .int 5, .int 6, .int 7, .int 8, .int 9, .int 10, .int 11, .int 12, .int 13, .int 14]], .int 1307674368000],
  .lst [.str "a15", .int 15, .lst [.tup [.int 1, .int 2, .int 0, .int 3, .int 4, .int 5, .int 6, .int 7, .int 8, .int 9, .int 10, .int 11, .int 12, .int 13, .int 14], .tup [.int 0, .int 2, .int 3, .int 1, .int 4, .int 5, .int 6, .int 7, .int 8, .int 9, .int 10, .int 11, .int 12, .int 13, .int 14], .tup [.int 0, .int 1, .int 3, .int 4, .int 2, .int 5, .int 6, .int 7, .int 8, .int 9, .int 10, .int 11, .int 12, .int 13, .int 14], .tup [.int 0, .int 1, .int 2, .int 4, .int 5, .int 3, .int 6, .int 7, .int 8, .int 9, .int 10, .int 11, .int 12, .int 13, .int 14], .tup [.int 0, .int 1, .int 2, .int 3, .int 5, .int 6, .int 4, .int 7, .int 8, .int 9, .int 10, .int 11, .int 12, .int 13, .int 14], .tup [.int 0, .int 1, .int 2, .int 3, .int 4, .int 6, .int 7, .int 5, .int 8, .int 9, .int 10, .int 11, .int 12, .int 13, .int 14], .tup [.int 0, .int 1, .int 2, .int 3, .int 4, .int 5, .int 7, .int 8, .int 6, .int 9, .int 10, .int 11, .int 12, .int 13, .int 14], .tup [.int 0, .int 1, .int 2, .int 3, .int 4, .int 5, .int 6, .int 8, .int 9, .int 7, .int 10, .int 11, .int 12, .int 13, .int 14], .tup [.int 0, .int 1, .int 2, .int 3, .int 4, .int 5, .int 6, .int 7, .int 9, .int 10, .int 8, .int 11, .int 12, .int 13, .int 14], .tup [.int 0, .int 1, .int 2, .int 3, .int 4, .int 5, .int 6, .int 7, .int 8, .int 10, .int 11, .int 9, .int 12, .int 13, .int 14], .tup [.int 0, .int 1, .int 2, .int 3, .int 4, .int 5, .int 6, .int 7, .int 8, .int 9, .int 11, .int 12, .int 10, .int 13, .int 14], .tup [.int 0, .int 1, .int 2, .int 3, .int 4, .int 5, .int 6, .int 7, .int 8, .int 9, .int 10, .int 12, .int 13, .int 11, .int 14], .tup [.int 0, .int 1, .int 2, .int 3, .int 4, .int 5, .int 6, .int 7, .int 8, .int 9, .int 10, .int 11, .int 13, .int 14, .int 12]], .int 653837184000],
  .lst [.str "c15", .int 15, .lst [.tup [.int 1, .int 2, .int 3, .int 4, .int 5, .int 6, .int 7, .int 8, .int 9, .int 10, .int 11, .int 12, .int 13, .int 14, .int 0]], .int 15],
  .lst [.str "d15", .int 15, .lst [.tup [.int 1, .int 2, .int 3, .int 4, .int 5, .int 6, .int 7, .int 8, .int 9, .int 10, .int 11, .int 12, .int 13, .int 14, .int 0], .tup [.int 0, .int 14, .int 13, .int 12, .int 11, .int 10, .int 9, .int 8, .int 7, .int 6, .int 5, .int 4, .int 3, .int 2, .int 1]], .int 30],
  .lst [.str "s16", .int 16, .lst [.tup [.int 1, .int 2, .int 3, .int 4, .int 5, .int 6, .int 7, .int 8, .int 9, .int 10, .int 11, .int 12, .int 13, .int 14, .int 15, .int 0], .tup [.int 1, .int 0, .int 2, .int 3, .int 4, .int 5, .int 6, .int 7, .int 8, .int 9, .int 10, .int 11, .int 12, .int 13, .int 14, .int 15]], .int 20922789888000],
  .lst [.str "a16", .int 16, .lst [.tup [.int 1, .int 2, .int 0, .int 3, .int 4, .int 5, .int 6, .int 7, .int 8, .int 9, .int 10, .int 11, .int 12, .int 13, .int 14, .int 15], .tup [.int 0, .int 2, .int 3, .int 1, .int 4, .int 5, .int 6, .int 7, .int 8, .int 9, .int 10, .int 11, .int 12, .int 13, .int 14, .int 15], .tup [.int 0, .int 1, .int 3, .int 4, .int 2, .int 5, .int 6, .int 7, .int 8, .int 9, .int 10, .int 11, .int 12, .int 13, .int 14, .int 15], .tup [.int 0, .int 1, .int 2, .int 4, .int 5, .int 3, .int 6, .int 7, .int 8, .int 9, .int 10, .int 11, .int 12, .int 13, .int 14, .int 15], .tup [.int 0, .int 1, .int 2, .int 3, .int 5, .int 6, .int 4, .int 7, .int 8, .int 9, .int 10, .int 11, .int 12, .int 13, .int 14, .int 15], .tup [.int 0, .int 1, .int 2, .int 3, .int 4, .int 6, .int 7, .int 5, .int 8, .int 9, .int 10, .int 11, .int 12, .int 13, .int 14, .int 15], .tup [.int 0, .int 1, .int 2, .int 3, .int 4, .int 5, .int 7, .int 8, .int 6, .int 9, .int 10, .int 11, .int 12, .int 13, .int 14, .int 15], .tup [.int 0, .int 1, .int 2, .int 3, .int 4, .int 5, .int 6, .int 8, .int 9, .int 7, .int 10, .int 11, .int 12, .int 13, .int 14, .int 15], .tup [.int 0, .int 1, .int 2, .int 3, .int 4, .int 5, .int 6, .int 7, .int 9, .int 10, .int 8, .int 11, .int 12, .int 13, .int 14, .int 15], .tup [.int 0, .int 1, .int 2, .int 3, .int 4, .int 5, .int 6, .int 7, .int 8, .int 10, .int 11, .int 9, .int 12, .int 13, .int 14, .int 15], .tup [.int 0, .int 1, .int 2, .int 3, .int 4, .int 5, .int 6, .int 7, .int 8, .int 9, .int 11, .int 12, .int 10, .int 13, .int 14, .int 15], .tup [.int 0, .int 1, .int 2, .int 3, .int 4, .int 5, .int 6, .int 7, .int 8, .int 9, .int 10, .int 12, .int 13, .int 11, .int 14, .int 15], .tup [.int 0, .int 1, .int 2, .int 3, .int 4, .int 5, .int 6, .int 7, .int 8, .int 9, .int 10, .int 11, .int 13, .int 14, .int 12, .int 15], .tup [.int 0, .int 1, .int 2, .int 3, .int 4, .int 5, .int 6, .int 7, .int 8, .int 9, .int 10, .int 11, .int 12, .int 14, .int 15, .int 13]], .int 10461394944000],
  .lst [.str "c16", .int 16, .lst [.tup [.int 1, .int 2, .int 3, .int 4, .int 5, .int 6, .int 7, .int 8, .int 9, .int 10, .int 11, .int 12, .int 13, .int 14, .int 15, .int 0]], .int 16],
  .lst [.str "d16", .int 16, .lst [.tup [.int 1, .int 2, .int 3, .int 4, .int 5, .int 6, .int 7, .int 8, .int 9, .int 10, .int 11, .int 12, .int 13, .int 14, .int 15, .int 0], .tup [.int 0, .int 15, .int 14, .int 13, .int 12, .int 11, .int 10, .int 9, .int 8, .int 7, .int 6, .int 5, .int 4, .int 3, .int 2, .int 1]], .int 32],
  .lst [.str "f2", .int 2, .lst [.tup [.int 1, .int 0], .tup [.int 0, .int 1]], .int 2],
  .lst [.str "l2", .int 3, .lst [.tup [.int 1, .int 0, .int 2], .tup [.int 2, .int 1, .int 0]], .int 6],
  .lst [.str "f3", .int 3, .lst [.tup [.int 1, .int 2, .int 0], .tup [.int 0, .int 2, .int 1]], .int 6],
  .lst [.str "l3", .int 4, .lst [.tup [.int 1, .int 2, .int 0, .int 3], .tup [.int 3, .int 2, .int 1, .int 0]], .int 12],
  .lst [.str "f5", .int 5, .lst [.tup [.int 1, .int 2, .int 3, .int 4, .int 0], .tup [.int 0, .int 2, .int 4, .int 1, .int 3]], .int 20],
  .lst [.str "l5", .int 6, .lst [.tup [.int 1, .int 2, .int 3, .int 4, .int 0, .int 5], .tup [.int 5, .int 4, .int 2, .int 3, .int 1, .int 0]], .int 60],
  .lst [.str "f7", .int 7, .lst [.tup [.int 1, .int 2, .int 3, .int 4, .int 5, .int 6, .int 0], .tup [.int 0, .int 3, .int 6, .int 2, .int 5, .int 1, .int 4]], .int 42],
  .lst [.str "l7", .int 8, .lst [.tup [.int 1, .int 2, .int 3, .int 4, .int 5, .int 6, .int 0, .int 7], .tup [.int 7, .int 6, .int 3, .int 2, .int 5, .int 4, .int 1, .int 0]], .int 168],
  .lst [.str "f11", .int 11, .lst [.tup [.int 1, .int 2, .int 3, .int 4, .int 5, .int 6, .int 7, .int 8, .int 9, .int 10, .int 0], .tup [.int 0, .int 2, .int 4, .int 6, .int 8, .int 10, .int 1, .int 3, .int 5, .int 7, .int 9]], .int 110],
  .lst [.str "l11", .int 12, .lst [.tup [.int 1, .int 2, .int 3, .int 4, .int 5, .int 6, .int 7, .int 8, .int 9, .int 10, .int 0, .int 11], .tup [.int 11, .int 10, .int 5, .int 7, .int 8, .int 2, .int 9, .int 3, .int 4, .int 6, .int 1, .int 0]], .int 660],
  .lst [.str "f13", .int 13, .lst [.tup [.int 1, .int 2, .int 3, .int 4, .int 5, .int 6, .int 7, .int 8, .int 9, .int 10, .int 11, .int 12, .int 0], .tup [.int 0, .int 2, .int 4, .int 6, .int 8, .int 10, .int 12, .int 1, .int 3, .int 5, .int 7, .int 9, .int 11]], .int 156],
  .lst [.str "l13", .int 14, .lst [.tup [.int 1, .int 2, .int 3, .int 4, .int 5, .int 6, .int 7, .int 8, .int 9, .int 10, .int 11, .int 12, .int 0, .int 13], .tup [.int 13, .int 12, .int 6, .int 4, .int 3, .int 5, .int 2, .int 11, .int 8, .int 10, .int 9, .int 7, .int 1, .int 0]], .int 1092],
  .lst [.str "b1", .int 2, .lst [.tup [.int 1, .int 0], .tup [.int 0, .int 1], .tup [.int 0, .int 1]], .int 2],
  .lst [.str "b2", .int 4, .lst [.tup [.int 1, .int 0, .int 3, .int 2], .tup [.int 0, .int 2, .int 1, .int 3], .tup [.int 0, .int 1, .int 3, .int 2]], .int 24],
  .lst [.str "b3", .int 8, .lst [.tup [.int 1, .int 0, .int 3, .int 2, .int 5, .int 4, .int 7, .int 6], .tup [.int 0, .int 2, .int 4, .int 6, .int 1, .int 3, .int 5, .int 7], .tup [.int 0, .int 1, .int 3, .int 2, .int 4, .int 5, .int 7, .int 6]], .int 1344],
  .lst [.str "b4", .int 16, .lst [.tup [.int 1, .int 0, .int 3, .int 2, .int 5, .int 4, .int 7, .int 6, .int 9, .int 8, .int 11, .int 10, .int 13, .int 12, .int 15, .int 14], .tup [.int 0, .int 2, .int 4, .int 6, .int 8, .int 10, .int 12, .int 14, .int 1, .int 3, .int 5, .int 7, .int 9, .int 11, .int 13, .int 15], .tup [.int 0, .int 1, .int 3, .int 2, .int 4, .int 5, .int 7, .int 6, .int 8, .int 9, .int 11, .int 10, .int 12, .int 13, .int 15, .int 14]], .int 322560],
  .lst [.str "q8", .int 8, .lst [.tup [.int 2, .int 3, .int 1, .int 0, .int 6, .int 7, .int 5, .int 4], .tup [.int 4, .int 5, .int 7, .int 6, .int 1, .int 0, .int 2, .int 3]], .int 8],
  .lst [.str "m11", .int 11, .lst [.tup [.int 1, .int 2, .int 3, .int 4, .int 5, .int 6, .int 7, .int 8, .int 9, .int 10, .int 0], .tup [.int 0, .int 1, .int 6, .int 9, .int 5, .int 3, .int 10, .int 2, .int 8, .int 4, .int 7]], .int 7920],
  .lst [.str "m12", .int 12, .lst [.tup [.int 1, .int 2, .int 3, .int 4, .int 5, .int 6, .int 7, .int 8, .int 9, .int 10, .int 0, .int 11], .tup [.int 0, .int 1, .int 6, .int 9, .int 5, .int 3, .int 10, .int 2, .int 8, .int 4, .int 7, .int 11], .tup [.int 11, .int 10, .int 5, .int 7, .int 8, .int 2, .int 9, .int 3, .int 4, .int 6, .int 1, .int 0]], .int 95040]]
def Good (sc : List Int) (i : Nat) (acc seed : Int) : Prop := i ≤ sc.length ∧ 0 ≤ acc ∧ 0 ≤ seed
theorem k_s (r : Int) (h0 : 0 ≤ r) (h1 : r < 16) (L : LH) : ∃ it, it ∈ MENU ∧ retS (dueR (lsD (1 + r) "s") L) = some (it, L) := by
  have hr : r = 0 ∨ r = 1 ∨ r = 2 ∨ r = 3 ∨ r = 4 ∨ r = 5 ∨ r = 6 ∨ r = 7 ∨ r = 8 ∨ r = 9 ∨ r = 10 ∨ r = 11 ∨ r = 12 ∨ r = 13 ∨ r = 14 ∨ r = 15 := by omega
  rcases hr with rfl | rfl | rfl | rfl | rfl | rfl | rfl | rfl | rfl | rfl | rfl | rfl | rfl | rfl | rfl | rfl
  · exact ⟨_, (List.mem_of_getElem? (i := 0) (by kernel_rfl)), due_s1 L⟩
  · exact ⟨_, (List.mem_of_getElem? (i := 4) (by kernel_rfl)), due_s2 L⟩
  · exact ⟨_, (List.mem_of_getElem? (i := 8) (by kernel_rfl)), due_s3 L⟩
  · exact ⟨_, (List.mem_of_getElem? (i := 12) (by kernel_rfl)), due_s4 L⟩
  · exact ⟨_, (List.mem_of_getElem? (i := 16) (by kernel_rfl)), due_s5 L⟩
  · exact ⟨_, (List.mem_of_getElem? (i := 20) (by kernel_rfl)), due_s6 L⟩
  · exact ⟨_, (List.mem_of_getElem? (i := 24) (by kernel_rfl)), due_s7 L⟩
  · exact ⟨_, (List.mem_of_getElem? (i := 28) (by kernel_rfl)), due_s8 L⟩
  · exact ⟨_, (List.mem_of_getElem? (i := 32) (by kernel_rfl)), due_s9 L⟩
  · exact ⟨_, (List.mem_of_getElem? (i := 36) (by kernel_rfl)), due_s10 L⟩
  · exact ⟨_, (List.mem_of_getElem? (i := 40) (by kernel_rfl)), due_s11 L⟩
  · exact ⟨_, (List.mem_of_getElem? (i := 44) (by kernel_rfl)), due_s12 L⟩
  · exact ⟨_, (List.mem_of_getElem? (i := 48) (by kernel_rfl)), due_s13 L⟩
  · exact ⟨_, (List.mem_of_getElem? (i := 52) (by kernel_rfl)), due_s14 L⟩
  · exact ⟨_, (List.mem_of_getElem? (i := 56) (by kernel_rfl)), due_s15 L⟩
  · exact ⟨_, (List.mem_of_getElem? (i := 60) (by kernel_rfl)), due_s16 L⟩
theorem k_a (r : Int) (h0 : 0 ≤ r) (h1 : r < 16) (L : LH) : ∃ it, it ∈ MENU ∧ retS (dueR (lsD (1 + r) "a") L) = some (it, L) := by
  have hr : r = 0 ∨ r = 1 ∨ r = 2 ∨ r = 3 ∨ r = 4 ∨ r = 5 ∨ r = 6 ∨ r = 7 ∨ r = 8 ∨ r = 9 ∨ r = 10 ∨ r = 11 ∨ r = 12 ∨ r = 13 ∨ r = 14 ∨ r = 15 := by omega
  rcases hr with rfl | rfl | rfl | rfl | rfl | rfl | rfl | rfl | rfl | rfl | rfl | rfl | rfl | rfl | rfl | rfl
  · exact ⟨_, (List.mem_of_getElem? (i := 1) (by kernel_rfl)), due_a1 L⟩
  · exact ⟨_, (List.mem_of_getElem? (i := 5) (by kernel_rfl)), due_a2 L⟩
  · exact ⟨_, (List.mem_of_getElem? (i := 9) (by kernel_rfl)), due_a3 L⟩
  · exact ⟨_, (List.mem_of_getElem? (i := 13) (by kernel_rfl)), due_a4 L⟩
  · exact ⟨_, (List.mem_of_getElem? (i := 17) (by kernel_rfl)), due_a5 L⟩
  · exact ⟨_, (List.mem_of_getElem? (i := 21) (by kernel_rfl)), due_a6 L⟩
  · exact ⟨_, (List.mem_of_getElem? (i := 25) (by kernel_rfl)), due_a7 L⟩
  · exact ⟨_, (List.mem_of_getElem? (i := 29) (by kernel_rfl)), due_a8 L⟩
  · exact ⟨_, (List.mem_of_getElem? (i := 33) (by kernel_rfl)), due_a9 L⟩
  · exact ⟨_, (List.mem_of_getElem? (i := 37) (by kernel_rfl)), due_a10 L⟩
  · exact ⟨_, (List.mem_of_getElem? (i := 41) (by kernel_rfl)), due_a11 L⟩
  · exact ⟨_, (List.mem_of_getElem? (i := 45) (by kernel_rfl)), due_a12 L⟩
  · exact ⟨_, (List.mem_of_getElem? (i := 49) (by kernel_rfl)), due_a13 L⟩
  · exact ⟨_, (List.mem_of_getElem? (i := 53) (by kernel_rfl)), due_a14 L⟩
  · exact ⟨_, (List.mem_of_getElem? (i := 57) (by kernel_rfl)), due_a15 L⟩
  · exact ⟨_, (List.mem_of_getElem? (i := 61) (by kernel_rfl)), due_a16 L⟩
theorem k_c (r : Int) (h0 : 0 ≤ r) (h1 : r < 16) (L : LH) : ∃ it, it ∈ MENU ∧ retS (dueR (lsD (1 + r) "c") L) = some (it, L) := by
  have hr : r = 0 ∨ r = 1 ∨ r = 2 ∨ r = 3 ∨ r = 4 ∨ r = 5 ∨ r = 6 ∨ r = 7 ∨ r = 8 ∨ r = 9 ∨ r = 10 ∨ r = 11 ∨ r = 12 ∨ r = 13 ∨ r = 14 ∨ r = 15 := by omega
  rcases hr with rfl | rfl | rfl | rfl | rfl | rfl | rfl | rfl | rfl | rfl | rfl | rfl | rfl | rfl | rfl | rfl
  · exact ⟨_, (List.mem_of_getElem? (i := 2) (by kernel_rfl)), due_c1 L⟩
  · exact ⟨_, (List.mem_of_getElem? (i := 6) (by kernel_rfl)), due_c2 L⟩
  · exact ⟨_, (List.mem_of_getElem? (i := 10) (by kernel_rfl)), due_c3 L⟩
  · exact ⟨_, (List.mem_of_getElem? (i := 14) (by kernel_rfl)), due_c4 L⟩
  · exact ⟨_, (List.mem_of_getElem? (i := 18) (by kernel_rfl)), due_c5 L⟩
  · exact ⟨_, (List.mem_of_getElem? (i := 22) (by kernel_rfl)), due_c6 L⟩
  · exact ⟨_, (List.mem_of_getElem? (i := 26) (by kernel_rfl)), due_c7 L⟩
  · exact ⟨_, (List.mem_of_getElem? (i := 30) (by kernel_rfl)), due_c8 L⟩
  · exact ⟨_, (List.mem_of_getElem? (i := 34) (by kernel_rfl)), due_c9 L⟩
  · exact ⟨_, (List.mem_of_getElem? (i := 38) (by kernel_rfl)), due_c10 L⟩
  · exact ⟨_, (List.mem_of_getElem? (i := 42) (by kernel_rfl)), due_c11 L⟩
  · exact ⟨_, (List.mem_of_getElem? (i := 46) (by kernel_rfl)), due_c12 L⟩
  · exact ⟨_, (List.mem_of_getElem? (i := 50) (by kernel_rfl)), due_c13 L⟩
  · exact ⟨_, (List.mem_of_getElem? (i := 54) (by kernel_rfl)), due_c14 L⟩
  · exact ⟨_, (List.mem_of_getElem? (i := 58) (by kernel_rfl)), due_c15 L⟩
  · exact ⟨_, (List.mem_of_getElem? (i := 62) (by kernel_rfl)), due_c16 L⟩
theorem k_d (r : Int) (h0 : 0 ≤ r) (h1 : r < 16) (L : LH) : ∃ it, it ∈ MENU ∧ retS (dueR (lsD (1 + r) "d") L) = some (it, L) := by
  have hr : r = 0 ∨ r = 1 ∨ r = 2 ∨ r = 3 ∨ r = 4 ∨ r = 5 ∨ r = 6 ∨ r = 7 ∨ r = 8 ∨ r = 9 ∨ r = 10 ∨ r = 11 ∨ r = 12 ∨ r = 13 ∨ r = 14 ∨ r = 15 := by omega
  rcases hr with rfl | rfl | rfl | rfl | rfl | rfl | rfl | rfl | rfl | rfl | rfl | rfl | rfl | rfl | rfl | rfl
  · exact ⟨_, (List.mem_of_getElem? (i := 3) (by kernel_rfl)), due_d1 L⟩
  · exact ⟨_, (List.mem_of_getElem? (i := 7) (by kernel_rfl)), due_d2 L⟩
  · exact ⟨_, (List.mem_of_getElem? (i := 11) (by kernel_rfl)), due_d3 L⟩
  · exact ⟨_, (List.mem_of_getElem? (i := 15) (by kernel_rfl)), due_d4 L⟩
  · exact ⟨_, (List.mem_of_getElem? (i := 19) (by kernel_rfl)), due_d5 L⟩
  · exact ⟨_, (List.mem_of_getElem? (i := 23) (by kernel_rfl)), due_d6 L⟩
  · exact ⟨_, (List.mem_of_getElem? (i := 27) (by kernel_rfl)), due_d7 L⟩
  · exact ⟨_, (List.mem_of_getElem? (i := 31) (by kernel_rfl)), due_d8 L⟩
  · exact ⟨_, (List.mem_of_getElem? (i := 35) (by kernel_rfl)), due_d9 L⟩
  · exact ⟨_, (List.mem_of_getElem? (i := 39) (by kernel_rfl)), due_d10 L⟩
  · exact ⟨_, (List.mem_of_getElem? (i := 43) (by kernel_rfl)), due_d11 L⟩
  · exact ⟨_, (List.mem_of_getElem? (i := 47) (by kernel_rfl)), due_d12 L⟩
  · exact ⟨_, (List.mem_of_getElem? (i := 51) (by kernel_rfl)), due_d13 L⟩
  · exact ⟨_, (List.mem_of_getElem? (i := 55) (by kernel_rfl)), due_d14 L⟩
  · exact ⟨_, (List.mem_of_getElem? (i := 59) (by kernel_rfl)), due_d15 L⟩
  · exact ⟨_, (List.mem_of_getElem? (i := 63) (by kernel_rfl)), due_d16 L⟩
theorem k_q (r : Int) (h0 : 0 ≤ r) (h1 : r < 16) (L : LH) : ∃ it, it ∈ MENU ∧ retS (dueR (lsD (1 + r) "q") L) = some (it, L) := by
  have hr : r = 0 ∨ r = 1 ∨ r = 2 ∨ r = 3 ∨ r = 4 ∨ r = 5 ∨ r = 6 ∨ r = 7 ∨ r = 8 ∨ r = 9 ∨ r = 10 ∨ r = 11 ∨ r = 12 ∨ r = 13 ∨ r = 14 ∨ r = 15 := by omega
  rcases hr with rfl | rfl | rfl | rfl | rfl | rfl | rfl | rfl | rfl | rfl | rfl | rfl | rfl | rfl | rfl | rfl
  · exact ⟨_, (List.mem_of_getElem? (i := 80) (by kernel_rfl)), due_q1 L⟩
  · exact ⟨_, (List.mem_of_getElem? (i := 80) (by kernel_rfl)), due_q2 L⟩
  · exact ⟨_, (List.mem_of_getElem? (i := 80) (by kernel_rfl)), due_q3 L⟩
  · exact ⟨_, (List.mem_of_getElem? (i := 80) (by kernel_rfl)), due_q4 L⟩
  · exact ⟨_, (List.mem_of_getElem? (i := 80) (by kernel_rfl)), due_q5 L⟩
  · exact ⟨_, (List.mem_of_getElem? (i := 80) (by kernel_rfl)), due_q6 L⟩
  · exact ⟨_, (List.mem_of_getElem? (i := 80) (by kernel_rfl)), due_q7 L⟩
  · exact ⟨_, (List.mem_of_getElem? (i := 80) (by kernel_rfl)), due_q8 L⟩
  · exact ⟨_, (List.mem_of_getElem? (i := 80) (by kernel_rfl)), due_q9 L⟩
  · exact ⟨_, (List.mem_of_getElem? (i := 80) (by kernel_rfl)), due_q10 L⟩
  · exact ⟨_, (List.mem_of_getElem? (i := 80) (by kernel_rfl)), due_q11 L⟩
  · exact ⟨_, (List.mem_of_getElem? (i := 80) (by kernel_rfl)), due_q12 L⟩
  · exact ⟨_, (List.mem_of_getElem? (i := 80) (by kernel_rfl)), due_q13 L⟩
  · exact ⟨_, (List.mem_of_getElem? (i := 80) (by kernel_rfl)), due_q14 L⟩
  · exact ⟨_, (List.mem_of_getElem? (i := 80) (by kernel_rfl)), due_q15 L⟩
  · exact ⟨_, (List.mem_of_getElem? (i := 80) (by kernel_rfl)), due_q16 L⟩
theorem ret_then {s : SR} {k : LS} {v : LV} {L : LH} (h : retS s = some (v, L)) : retS (s.then k) = some (v, L) := by
  unfold retS at h
  split at h
  · cases h; rfl
  · cases h
theorem seq_step {f k : LS} {ls ls1 : LSt} {L L1 : LH} {o : Option (LV × LH)} (h : f ls L = .ok .nx ls1 L1) (h2 : retS (k ls1 L1) = o) : retS ((f ls L).then k) = o := by
  rw [h]; exact h2
section
variable (sc : List Int) (i : Nat) (acc seed : Int) (R : LH) (hg : Good sc i acc seed)
include hg
theorem k_f (r : Int) (h0 : 0 ≤ r) (h1 : r < 16) : ∃ it i2 a2 s2, it ∈ MENU ∧ Good sc i2 a2 s2 ∧ retS (dueR (lsD (1 + r) "f") (D sc i acc seed :: R)) = some (it, D sc i2 a2 s2 :: R) := by
  obtain ⟨v, i2, a2, s2, hv, g2, hp⟩ := pick_ok sc i acc seed R [.int 2, .int 3, .int 5, .int 7, .int 11, .int 13] hg.1 hg.2.1 hg.2.2 (by decide) (by decide)
  have st : ∀ (n full e : Option LV), due_flP [some (.ref 0), n, some (.str "f"), full, e, none, none, none, none] (D sc i acc seed :: R) = .ok .nx [some (.ref 0), n, some (.str "f"), full, e, some v, none, none, none] (D sc i2 a2 s2 :: R) := fun n full e => by
    simp [due_flP, sAsg, eFn, aCons, aNil, eVar, eFrz, eC, Res.bind, Res.toS, hp, gN]
  have q : ∀ (n full e : Option LV), ∃ it, it ∈ MENU ∧ retS (due_flQ [some (.ref 0), n, some (.str "f"), full, e, some v, none, none, none] (D sc i2 a2 s2 :: R)) = some (it, D sc i2 a2 s2 :: R) := fun n full e => by
    simp only [List.mem_cons, List.mem_nil_iff, or_false] at hv
    rcases hv with rfl | rfl | rfl | rfl | rfl | rfl
    · exact ⟨_, (List.mem_of_getElem? (i := 64) (by kernel_rfl)), due_fQ2 _ _ _ _ _ _ _ _⟩
    · exact ⟨_, (List.mem_of_getElem? (i := 66) (by kernel_rfl)), due_fQ3 _ _ _ _ _ _ _ _⟩
    · exact ⟨_, (List.mem_of_getElem? (i := 68) (by kernel_rfl)), due_fQ5 _ _ _ _ _ _ _ _⟩
    · exact ⟨_, (List.mem_of_getElem? (i := 70) (by kernel_rfl)), due_fQ7 _ _ _ _ _ _ _ _⟩
    · exact ⟨_, (List.mem_of_getElem? (i := 72) (by kernel_rfl)), due_fQ11 _ _ _ _ _ _ _ _⟩
    · exact ⟨_, (List.mem_of_getElem? (i := 74) (by kernel_rfl)), due_fQ13 _ _ _ _ _ _ _ _⟩
  have hr : r = 0 ∨ r = 1 ∨ r = 2 ∨ r = 3 ∨ r = 4 ∨ r = 5 ∨ r = 6 ∨ r = 7 ∨ r = 8 ∨ r = 9 ∨ r = 10 ∨ r = 11 ∨ r = 12 ∨ r = 13 ∨ r = 14 ∨ r = 15 := by omega
  rcases hr with rfl | rfl | rfl | rfl | rfl | rfl | rfl | rfl | rfl | rfl | rfl | rfl | rfl | rfl | rfl | rfl
  · obtain ⟨it, h3, h4⟩ := q (some (.int 1)) (some (.int 1)) (some (.int 0)); exact ⟨it, i2, a2, s2, h3, g2, by rw [show (1 + 0 : Int) = 1 from rfl, due_f1_P]; exact ret_then (seq_step (st _ _ _) h4)⟩
  · obtain ⟨it, h3, h4⟩ := q (some (.int 2)) (some (.int 2)) (some (.int 1)); exact ⟨it, i2, a2, s2, h3, g2, by rw [show (1 + 1 : Int) = 2 from rfl, due_f2_P]; exact ret_then (seq_step (st _ _ _) h4)⟩
  · obtain ⟨it, h3, h4⟩ := q (some (.int 3)) (some (.int 6)) (some (.int 2)); exact ⟨it, i2, a2, s2, h3, g2, by rw [show (1 + 2 : Int) = 3 from rfl, due_f3_P]; exact ret_then (seq_step (st _ _ _) h4)⟩
  · obtain ⟨it, h3, h4⟩ := q (some (.int 4)) (some (.int 24)) (some (.int 3)); exact ⟨it, i2, a2, s2, h3, g2, by rw [show (1 + 3 : Int) = 4 from rfl, due_f4_P]; exact ret_then (seq_step (st _ _ _) h4)⟩
  · obtain ⟨it, h3, h4⟩ := q (some (.int 5)) (some (.int 120)) (some (.int 4)); exact ⟨it, i2, a2, s2, h3, g2, by rw [show (1 + 4 : Int) = 5 from rfl, due_f5_P]; exact ret_then (seq_step (st _ _ _) h4)⟩
  · obtain ⟨it, h3, h4⟩ := q (some (.int 6)) (some (.int 720)) (some (.int 5)); exact ⟨it, i2, a2, s2, h3, g2, by rw [show (1 + 5 : Int) = 6 from rfl, due_f6_P]; exact ret_then (seq_step (st _ _ _) h4)⟩
  · obtain ⟨it, h3, h4⟩ := q (some (.int 7)) (some (.int 5040)) (some (.int 6)); exact ⟨it, i2, a2, s2, h3, g2, by rw [show (1 + 6 : Int) = 7 from rfl, due_f7_P]; exact ret_then (seq_step (st _ _ _) h4)⟩
  · obtain ⟨it, h3, h4⟩ := q (some (.int 8)) (some (.int 40320)) (some (.int 7)); exact ⟨it, i2, a2, s2, h3, g2, by rw [show (1 + 7 : Int) = 8 from rfl, due_f8_P]; exact ret_then (seq_step (st _ _ _) h4)⟩
  · obtain ⟨it, h3, h4⟩ := q (some (.int 9)) (some (.int 362880)) (some (.int 8)); exact ⟨it, i2, a2, s2, h3, g2, by rw [show (1 + 8 : Int) = 9 from rfl, due_f9_P]; exact ret_then (seq_step (st _ _ _) h4)⟩
  · obtain ⟨it, h3, h4⟩ := q (some (.int 10)) (some (.int 3628800)) (some (.int 9)); exact ⟨it, i2, a2, s2, h3, g2, by rw [show (1 + 9 : Int) = 10 from rfl, due_f10_P]; exact ret_then (seq_step (st _ _ _) h4)⟩
  · obtain ⟨it, h3, h4⟩ := q (some (.int 11)) (some (.int 39916800)) (some (.int 10)); exact ⟨it, i2, a2, s2, h3, g2, by rw [show (1 + 10 : Int) = 11 from rfl, due_f11_P]; exact ret_then (seq_step (st _ _ _) h4)⟩
  · obtain ⟨it, h3, h4⟩ := q (some (.int 12)) (some (.int 479001600)) (some (.int 11)); exact ⟨it, i2, a2, s2, h3, g2, by rw [show (1 + 11 : Int) = 12 from rfl, due_f12_P]; exact ret_then (seq_step (st _ _ _) h4)⟩
  · obtain ⟨it, h3, h4⟩ := q (some (.int 13)) (some (.int 6227020800)) (some (.int 12)); exact ⟨it, i2, a2, s2, h3, g2, by rw [show (1 + 12 : Int) = 13 from rfl, due_f13_P]; exact ret_then (seq_step (st _ _ _) h4)⟩
  · obtain ⟨it, h3, h4⟩ := q (some (.int 14)) (some (.int 87178291200)) (some (.int 13)); exact ⟨it, i2, a2, s2, h3, g2, by rw [show (1 + 13 : Int) = 14 from rfl, due_f14_P]; exact ret_then (seq_step (st _ _ _) h4)⟩
  · obtain ⟨it, h3, h4⟩ := q (some (.int 15)) (some (.int 1307674368000)) (some (.int 14)); exact ⟨it, i2, a2, s2, h3, g2, by rw [show (1 + 14 : Int) = 15 from rfl, due_f15_P]; exact ret_then (seq_step (st _ _ _) h4)⟩
  · obtain ⟨it, h3, h4⟩ := q (some (.int 16)) (some (.int 20922789888000)) (some (.int 15)); exact ⟨it, i2, a2, s2, h3, g2, by rw [show (1 + 15 : Int) = 16 from rfl, due_f16_P]; exact ret_then (seq_step (st _ _ _) h4)⟩
theorem k_l (r : Int) (h0 : 0 ≤ r) (h1 : r < 16) : ∃ it i2 a2 s2, it ∈ MENU ∧ Good sc i2 a2 s2 ∧ retS (dueR (lsD (1 + r) "l") (D sc i acc seed :: R)) = some (it, D sc i2 a2 s2 :: R) := by
  obtain ⟨v, i2, a2, s2, hv, g2, hp⟩ := pick_ok sc i acc seed R [.int 2, .int 3, .int 5, .int 7, .int 11, .int 13] hg.1 hg.2.1 hg.2.2 (by decide) (by decide)
  have st : ∀ (n full e : Option LV), due_flP [some (.ref 0), n, some (.str "l"), full, e, none, none, none, none] (D sc i acc seed :: R) = .ok .nx [some (.ref 0), n, some (.str "l"), full, e, some v, none, none, none] (D sc i2 a2 s2 :: R) := fun n full e => by
    simp [due_flP, sAsg, eFn, aCons, aNil, eVar, eFrz, eC, Res.bind, Res.toS, hp, gN]
  have q : ∀ (n full e : Option LV), ∃ it, it ∈ MENU ∧ retS (due_flQ [some (.ref 0), n, some (.str "l"), full, e, some v, none, none, none] (D sc i2 a2 s2 :: R)) = some (it, D sc i2 a2 s2 :: R) := fun n full e => by
    simp only [List.mem_cons, List.mem_nil_iff, or_false] at hv
    rcases hv with rfl | rfl | rfl | rfl | rfl | rfl
    · exact ⟨_, (List.mem_of_getElem? (i := 65) (by kernel_rfl)), due_lQ2 _ _ _ _ _ _ _ _⟩
    · exact ⟨_, (List.mem_of_getElem? (i := 67) (by kernel_rfl)), due_lQ3 _ _ _ _ _ _ _ _⟩
    · exact ⟨_, (List.mem_of_getElem? (i := 69) (by kernel_rfl)), due_lQ5 _ _ _ _ _ _ _ _⟩
    · exact ⟨_, (List.mem_of_getElem? (i := 71) (by kernel_rfl)), due_lQ7 _ _ _ _ _ _ _ _⟩
    · exact ⟨_, (List.mem_of_getElem? (i := 73) (by kernel_rfl)), due_lQ11 _ _ _ _ _ _ _ _⟩
    · exact ⟨_, (List.mem_of_getElem? (i := 75) (by kernel_rfl)), due_lQ13 _ _ _ _ _ _ _ _⟩
  have hr : r = 0 ∨ r = 1 ∨ r = 2 ∨ r = 3 ∨ r = 4 ∨ r = 5 ∨ r = 6 ∨ r = 7 ∨ r = 8 ∨ r = 9 ∨ r = 10 ∨ r = 11 ∨ r = 12 ∨ r = 13 ∨ r = 14 ∨ r = 15 := by omega
  rcases hr with rfl | rfl | rfl | rfl | rfl | rfl | rfl | rfl | rfl | rfl | rfl | rfl | rfl | rfl | rfl | rfl
  · obtain ⟨it, h3, h4⟩ := q (some (.int 1)) (some (.int 1)) (some (.int 0)); exact ⟨it, i2, a2, s2, h3, g2, by rw [show (1 + 0 : Int) = 1 from rfl, due_l1_P]; exact ret_then (seq_step (st _ _ _) h4)⟩
  · obtain ⟨it, h3, h4⟩ := q (some (.int 2)) (some (.int 2)) (some (.int 1)); exact ⟨it, i2, a2, s2, h3, g2, by rw [show (1 + 1 : Int) = 2 from rfl, due_l2_P]; exact ret_then (seq_step (st _ _ _) h4)⟩
  · obtain ⟨it, h3, h4⟩ := q (some (.int 3)) (some (.int 6)) (some (.int 2)); exact ⟨it, i2, a2, s2, h3, g2, by rw [show (1 + 2 : Int) = 3 from rfl, due_l3_P]; exact ret_then (seq_step (st _ _ _) h4)⟩
  · obtain ⟨it, h3, h4⟩ := q (some (.int 4)) (some (.int 24)) (some (.int 3)); exact ⟨it, i2, a2, s2, h3, g2, by rw [show (1 + 3 : Int) = 4 from rfl, due_l4_P]; exact ret_then (seq_step (st _ _ _) h4)⟩
  · obtain ⟨it, h3, h4⟩ := q (some (.int 5)) (some (.int 120)) (some (.int 4)); exact ⟨it, i2, a2, s2, h3, g2, by rw [show (1 + 4 : Int) = 5 from rfl, due_l5_P]; exact ret_then (seq_step (st _ _ _) h4)⟩
  · obtain ⟨it, h3, h4⟩ := q (some (.int 6)) (some (.int 720)) (some (.int 5)); exact ⟨it, i2, a2, s2, h3, g2, by rw [show (1 + 5 : Int) = 6 from rfl, due_l6_P]; exact ret_then (seq_step (st _ _ _) h4)⟩
  · obtain ⟨it, h3, h4⟩ := q (some (.int 7)) (some (.int 5040)) (some (.int 6)); exact ⟨it, i2, a2, s2, h3, g2, by rw [show (1 + 6 : Int) = 7 from rfl, due_l7_P]; exact ret_then (seq_step (st _ _ _) h4)⟩
  · obtain ⟨it, h3, h4⟩ := q (some (.int 8)) (some (.int 40320)) (some (.int 7)); exact ⟨it, i2, a2, s2, h3, g2, by rw [show (1 + 7 : Int) = 8 from rfl, due_l8_P]; exact ret_then (seq_step (st _ _ _) h4)⟩
  · obtain ⟨it, h3, h4⟩ := q (some (.int 9)) (some (.int 362880)) (some (.int 8)); exact ⟨it, i2, a2, s2, h3, g2, by rw [show (1 + 8 : Int) = 9 from rfl, due_l9_P]; exact ret_then (seq_step (st _ _ _) h4)⟩
  · obtain ⟨it, h3, h4⟩ := q (some (.int 10)) (some (.int 3628800)) (some (.int 9)); exact ⟨it, i2, a2, s2, h3, g2, by rw [show (1 + 9 : Int) = 10 from rfl, due_l10_P]; exact ret_then (seq_step (st _ _ _) h4)⟩
  · obtain ⟨it, h3, h4⟩ := q (some (.int 11)) (some (.int 39916800)) (some (.int 10)); exact ⟨it, i2, a2, s2, h3, g2, by rw [show (1 + 10 : Int) = 11 from rfl, due_l11_P]; exact ret_then (seq_step (st _ _ _) h4)⟩
  · obtain ⟨it, h3, h4⟩ := q (some (.int 12)) (some (.int 479001600)) (some (.int 11)); exact ⟨it, i2, a2, s2, h3, g2, by rw [show (1 + 11 : Int) = 12 from rfl, due_l12_P]; exact ret_then (seq_step (st _ _ _) h4)⟩
  · obtain ⟨it, h3, h4⟩ := q (some (.int 13)) (some (.int 6227020800)) (some (.int 12)); exact ⟨it, i2, a2, s2, h3, g2, by rw [show (1 + 12 : Int) = 13 from rfl, due_l13_P]; exact ret_then (seq_step (st _ _ _) h4)⟩
  · obtain ⟨it, h3, h4⟩ := q (some (.int 14)) (some (.int 87178291200)) (some (.int 13)); exact ⟨it, i2, a2, s2, h3, g2, by rw [show (1 + 13 : Int) = 14 from rfl, due_l14_P]; exact ret_then (seq_step (st _ _ _) h4)⟩
  · obtain ⟨it, h3, h4⟩ := q (some (.int 15)) (some (.int 1307674368000)) (some (.int 14)); exact ⟨it, i2, a2, s2, h3, g2, by rw [show (1 + 14 : Int) = 15 from rfl, due_l15_P]; exact ret_then (seq_step (st _ _ _) h4)⟩
  · obtain ⟨it, h3, h4⟩ := q (some (.int 16)) (some (.int 20922789888000)) (some (.int 15)); exact ⟨it, i2, a2, s2, h3, g2, by rw [show (1 + 15 : Int) = 16 from rfl, due_l16_P]; exact ret_then (seq_step (st _ _ _) h4)⟩
theorem k_b (r : Int) (h0 : 0 ≤ r) (h1 : r < 16) : ∃ it i2 a2 s2, it ∈ MENU ∧ Good sc i2 a2 s2 ∧ retS (dueR (lsD (1 + r) "b") (D sc i acc seed :: R)) = some (it, D sc i2 a2 s2 :: R) := by
  obtain ⟨q, i2, a2, s2, ⟨⟨q0, q1⟩, g2⟩, hp⟩ := take_ok sc i acc seed 4 R hg.1 hg.2.1 hg.2.2 (by decide) (by decide)
  have st : ∀ (n full e : Option LV), due_bP [some (.ref 0), n, some (.str "b"), full, e, none, none, none, none] (D sc i acc seed :: R) = .ok .nx [some (.ref 0), n, some (.str "b"), full, some (.int (1 + q)), none, none, none, none] (D sc i2 a2 s2 :: R) := fun n full e => by
    simp [due_bP, sAsg, e2, eFn, aCons, aNil, eVar, eC, Res.bind, Res.toS, hp, gN, pAdd, lift]
  have qq : ∀ (n full : Option LV), ∃ it, it ∈ MENU ∧ retS (due_bQ [some (.ref 0), n, some (.str "b"), full, some (.int (1 + q)), none, none, none, none] (D sc i2 a2 s2 :: R)) = some (it, D sc i2 a2 s2 :: R) := fun n full => by
    have hq : q = 0 ∨ q = 1 ∨ q = 2 ∨ q = 3 := by omega
    rcases hq with rfl | rfl | rfl | rfl
    · exact ⟨_, (List.mem_of_getElem? (i := 76) (by kernel_rfl)), due_bQ1 _ _ _ _ _ _ _ _ _⟩
    · exact ⟨_, (List.mem_of_getElem? (i := 77) (by kernel_rfl)), due_bQ2 _ _ _ _ _ _ _ _ _⟩
    · exact ⟨_, (List.mem_of_getElem? (i := 78) (by kernel_rfl)), due_bQ3 _ _ _ _ _ _ _ _ _⟩
    · exact ⟨_, (List.mem_of_getElem? (i := 79) (by kernel_rfl)), due_bQ4 _ _ _ _ _ _ _ _ _⟩
  have hr : r = 0 ∨ r = 1 ∨ r = 2 ∨ r = 3 ∨ r = 4 ∨ r = 5 ∨ r = 6 ∨ r = 7 ∨ r = 8 ∨ r = 9 ∨ r = 10 ∨ r = 11 ∨ r = 12 ∨ r = 13 ∨ r = 14 ∨ r = 15 := by omega
  rcases hr with rfl | rfl | rfl | rfl | rfl | rfl | rfl | rfl | rfl | rfl | rfl | rfl | rfl | rfl | rfl | rfl
  · obtain ⟨it, h3, h4⟩ := qq (some (.int 1)) (some (.int 1)); exact ⟨it, i2, a2, s2, h3, g2, by rw [show (1 + 0 : Int) = 1 from rfl, due_b1_P]; exact ret_then (seq_step (st _ _ _) h4)⟩
  · obtain ⟨it, h3, h4⟩ := qq (some (.int 2)) (some (.int 2)); exact ⟨it, i2, a2, s2, h3, g2, by rw [show (1 + 1 : Int) = 2 from rfl, due_b2_P]; exact ret_then (seq_step (st _ _ _) h4)⟩
  · obtain ⟨it, h3, h4⟩ := qq (some (.int 3)) (some (.int 6)); exact ⟨it, i2, a2, s2, h3, g2, by rw [show (1 + 2 : Int) = 3 from rfl, due_b3_P]; exact ret_then (seq_step (st _ _ _) h4)⟩
  · obtain ⟨it, h3, h4⟩ := qq (some (.int 4)) (some (.int 24)); exact ⟨it, i2, a2, s2, h3, g2, by rw [show (1 + 3 : Int) = 4 from rfl, due_b4_P]; exact ret_then (seq_step (st _ _ _) h4)⟩
  · obtain ⟨it, h3, h4⟩ := qq (some (.int 5)) (some (.int 120)); exact ⟨it, i2, a2, s2, h3, g2, by rw [show (1 + 4 : Int) = 5 from rfl, due_b5_P]; exact ret_then (seq_step (st _ _ _) h4)⟩
  · obtain ⟨it, h3, h4⟩ := qq (some (.int 6)) (some (.int 720)); exact ⟨it, i2, a2, s2, h3, g2, by rw [show (1 + 5 : Int) = 6 from rfl, due_b6_P]; exact ret_then (seq_step (st _ _ _) h4)⟩
  · obtain ⟨it, h3, h4⟩ := qq (some (.int 7)) (some (.int 5040)); exact ⟨it, i2, a2, s2, h3, g2, by rw [show (1 + 6 : Int) = 7 from rfl, due_b7_P]; exact ret_then (seq_step (st _ _ _) h4)⟩
  · obtain ⟨it, h3, h4⟩ := qq (some (.int 8)) (some (.int 40320)); exact ⟨it, i2, a2, s2, h3, g2, by rw [show (1 + 7 : Int) = 8 from rfl, due_b8_P]; exact ret_then (seq_step (st _ _ _) h4)⟩
  · obtain ⟨it, h3, h4⟩ := qq (some (.int 9)) (some (.int 362880)); exact ⟨it, i2, a2, s2, h3, g2, by rw [show (1 + 8 : Int) = 9 from rfl, due_b9_P]; exact ret_then (seq_step (st _ _ _) h4)⟩
  · obtain ⟨it, h3, h4⟩ := qq (some (.int 10)) (some (.int 3628800)); exact ⟨it, i2, a2, s2, h3, g2, by rw [show (1 + 9 : Int) = 10 from rfl, due_b10_P]; exact ret_then (seq_step (st _ _ _) h4)⟩
  · obtain ⟨it, h3, h4⟩ := qq (some (.int 11)) (some (.int 39916800)); exact ⟨it, i2, a2, s2, h3, g2, by rw [show (1 + 10 : Int) = 11 from rfl, due_b11_P]; exact ret_then (seq_step (st _ _ _) h4)⟩
  · obtain ⟨it, h3, h4⟩ := qq (some (.int 12)) (some (.int 479001600)); exact ⟨it, i2, a2, s2, h3, g2, by rw [show (1 + 11 : Int) = 12 from rfl, due_b12_P]; exact ret_then (seq_step (st _ _ _) h4)⟩
  · obtain ⟨it, h3, h4⟩ := qq (some (.int 13)) (some (.int 6227020800)); exact ⟨it, i2, a2, s2, h3, g2, by rw [show (1 + 12 : Int) = 13 from rfl, due_b13_P]; exact ret_then (seq_step (st _ _ _) h4)⟩
  · obtain ⟨it, h3, h4⟩ := qq (some (.int 14)) (some (.int 87178291200)); exact ⟨it, i2, a2, s2, h3, g2, by rw [show (1 + 13 : Int) = 14 from rfl, due_b14_P]; exact ret_then (seq_step (st _ _ _) h4)⟩
  · obtain ⟨it, h3, h4⟩ := qq (some (.int 15)) (some (.int 1307674368000)); exact ⟨it, i2, a2, s2, h3, g2, by rw [show (1 + 14 : Int) = 15 from rfl, due_b15_P]; exact ret_then (seq_step (st _ _ _) h4)⟩
  · obtain ⟨it, h3, h4⟩ := qq (some (.int 16)) (some (.int 20922789888000)); exact ⟨it, i2, a2, s2, h3, g2, by rw [show (1 + 15 : Int) = 16 from rfl, due_b16_P]; exact ret_then (seq_step (st _ _ _) h4)⟩
end
def due_mA : LS := (sAsg (eFn F__law_take (aCons (eVar 0) (aCons (eC (.int 2)) aNil))) (gN 6))
def due_mB : LS := (sAsg (e2 pAdd (eC (.int 11)) (eVar 6)) (gN 1))
def due_mC : LS := (sAsg (eNew (aCons (eFn (pureF 200 F__law_cycle) (aCons (eVar 1) (aCons (eFrz (fRg (rg1 (eC (.int 11))))) aNil))) (aCons (eFn (pureF 200 F__law_times) (aCons (eFn (pureF 200 F__law_cycle) (aCons (eVar 1) (aCons (eFrz (aCons (eC (.int 2)) (aCons (eC (.int 6)) (aCons (eC (.int 10)) (aCons (eC (.int 7)) aNil))))) aNil))) (aCons (eFn (pureF 200 F__law_cycle) (aCons (eVar 1) (aCons (eFrz (aCons (eC (.int 3)) (aCons (eC (.int 9)) (aCons (eC (.int 4)) (aCons (eC (.int 5)) aNil))))) aNil))) aNil))) aNil))) (gN 7))
def due_mD : LS := (sIf (tOf (e2 pEq (eVar 6) (eC (.int 1)))) (sExpr (eMeth "list" pAppend (eVar 7) (aCons (eTup (aCons (eC (.int 11)) (aCons (eC (.int 10)) (aCons (eC (.int 5)) (aCons (eC (.int 7)) (aCons (eC (.int 8)) (aCons (eC (.int 2)) (aCons (eC (.int 9)) (aCons (eC (.int 3)) (aCons (eC (.int 4)) (aCons (eC (.int 6)) (aCons (eC (.int 1)) (aCons (eC (.int 0)) aNil))))))))))))) aNil))) sNop)
def due_mE : LS := (sRet (eFrz (aCons (e2 pAdd (eC (.str "m")) (eCall pStr (aCons (eVar 1) aNil))) (aCons (eVar 1) (aCons (eVar 7) (aCons (e2 pIx (eFrz (aCons (eC (.int 7920)) (aCons (eC (.int 95040)) aNil))) (eVar 6)) aNil))))))
def lsM (n full e : Option LV) (q : Option LV) : LSt := [some (.ref 0), n, some (.str "m"), full, e, none, q, none, none]
theorem m_0 (n full e : Option LV) (L : LH) : retS ((sSeq due_mB (sSeq due_mC (sSeq due_mD due_mE))) (lsM n full e (some (.int 0))) L) = some (.lst [.str "m11", .int 11, .ref L.length, .int 7920], L ++ [.lst [.tup [.int 1, .int 2, .int 3, .int 4, .int 5, .int 6, .int 7, .int 8, .int 9, .int 10, .int 0], .tup [.int 0, .int 1, .int 6, .int 9, .int 5, .int 3, .int 10, .int 2, .int 8, .int 4, .int 7]]]) := by kernel_rfl
def lsM2 (full e : Option LV) (L : LH) : LSt := [some (.ref 0), some (.int 12), some (.str "m"), full, e, none, some (.int 1), some (.ref L.length), none]
theorem m_1a (n full e : Option LV) (L : LH) : due_mB (lsM n full e (some (.int 1))) L = .ok .nx (lsM (some (.int 12)) full e (some (.int 1))) L := by kernel_rfl
theorem m_1b (full e : Option LV) (L : LH) : due_mC (lsM (some (.int 12)) full e (some (.int 1))) L = .ok .nx (lsM2 full e L) (L ++ [.lst [.tup [.int 1, .int 2, .int 3, .int 4, .int 5, .int 6, .int 7, .int 8, .int 9, .int 10, .int 0, .int 11], .tup [.int 0, .int 1, .int 6, .int 9, .int 5, .int 3, .int 10, .int 2, .int 8, .int 4, .int 7, .int 11]]]) := by kernel_rfl
theorem m_1c (full e : Option LV) (L : LH) : due_mD (lsM2 full e L) (L ++ [.lst [.tup [.int 1, .int 2, .int 3, .int 4, .int 5, .int 6, .int 7, .int 8, .int 9, .int 10, .int 0, .int 11], .tup [.int 0, .int 1, .int 6, .int 9, .int 5, .int 3, .int 10, .int 2, .int 8, .int 4, .int 7, .int 11]]]) = .ok .nx (lsM2 full e L) (L ++ [.lst [.tup [.int 1, .int 2, .int 3, .int 4, .int 5, .int 6, .int 7, .int 8, .int 9, .int 10, .int 0, .int 11], .tup [.int 0, .int 1, .int 6, .int 9, .int 5, .int 3, .int 10, .int 2, .int 8, .int 4, .int 7, .int 11], .tup [.int 11, .int 10, .int 5, .int 7, .int 8, .int 2, .int 9, .int 3, .int 4, .int 6, .int 1, .int 0]]]) := by
  simp [due_mD, lsM2, sIf, tOf, e2, eVar, eC, Res.bind, Res.toS, lift, pEq_ii, sExpr, eMeth, tyL, pAppend, aCons, aNil, eTup, G.guard, sizeLine_eq, lsqOf, refL]
theorem m_1d (full e : Option LV) (L L2 : LH) : retS (due_mE (lsM2 full e L) L2) = some (.lst [.str "m12", .int 12, .ref L.length, .int 95040], L2) := by kernel_rfl
theorem m_1 (n full e : Option LV) (L : LH) : retS ((sSeq due_mB (sSeq due_mC (sSeq due_mD due_mE))) (lsM n full e (some (.int 1))) L) = some (.lst [.str "m12", .int 12, .ref L.length, .int 95040], L ++ [.lst [.tup [.int 1, .int 2, .int 3, .int 4, .int 5, .int 6, .int 7, .int 8, .int 9, .int 10, .int 0, .int 11], .tup [.int 0, .int 1, .int 6, .int 9, .int 5, .int 3, .int 10, .int 2, .int 8, .int 4, .int 7, .int 11], .tup [.int 11, .int 10, .int 5, .int 7, .int 8, .int 2, .int 9, .int 3, .int 4, .int 6, .int 1, .int 0]]]) := by
  refine seq_step (m_1a n full e L) ?_
  refine seq_step (m_1b full e L) ?_
  exact seq_step (m_1c full e L) (m_1d full e L _)
theorem k_m (sc : List Int) (i : Nat) (acc seed : Int) (R : LH) (hg : Good sc i acc seed) (r : Int) (h0 : 0 ≤ r) (h1 : r < 16) : ∃ nm n z g i2 a2 s2, LV.lst [nm, n, .lst g, z] ∈ MENU ∧ Good sc i2 a2 s2 ∧ retS (dueR (lsD (1 + r) "m") (D sc i acc seed :: R)) = some (.lst [nm, n, .ref (R.length + 1), z], (D sc i2 a2 s2 :: R) ++ [.lst g]) := by
  obtain ⟨q, i2, a2, s2, ⟨⟨q0, q1⟩, g2⟩, hp⟩ := take_ok sc i acc seed 2 R hg.1 hg.2.1 hg.2.2 (by decide) (by decide)
  have st : ∀ (n full e : Option LV), due_mA (lsM n full e none) (D sc i acc seed :: R) = .ok .nx (lsM n full e (some (.int q))) (D sc i2 a2 s2 :: R) := fun n full e => by
    simp [due_mA, lsM, sAsg, eFn, aCons, aNil, eVar, eC, Res.bind, Res.toS, hp, gN]
  have hq : q = 0 ∨ q = 1 := by omega
  have fin : ∀ (n full e : Option LV), ∃ nm n2 z g, LV.lst [nm, n2, .lst g, z] ∈ MENU ∧ retS (due_mR (lsM n full e none) (D sc i acc seed :: R)) = some (.lst [nm, n2, .ref (R.length + 1), z], (D sc i2 a2 s2 :: R) ++ [.lst g]) := fun n full e => by
    rcases hq with rfl | rfl
    · exact ⟨_, _, _, _, (List.mem_of_getElem? (i := 81) (by kernel_rfl)), seq_step (st n full e) (m_0 n full e _)⟩
    · exact ⟨_, _, _, _, (List.mem_of_getElem? (i := 82) (by kernel_rfl)), seq_step (st n full e) (m_1 n full e _)⟩
  have hr : r = 0 ∨ r = 1 ∨ r = 2 ∨ r = 3 ∨ r = 4 ∨ r = 5 ∨ r = 6 ∨ r = 7 ∨ r = 8 ∨ r = 9 ∨ r = 10 ∨ r = 11 ∨ r = 12 ∨ r = 13 ∨ r = 14 ∨ r = 15 := by omega
  rcases hr with rfl | rfl | rfl | rfl | rfl | rfl | rfl | rfl | rfl | rfl | rfl | rfl | rfl | rfl | rfl | rfl
  · obtain ⟨nm, n2, z, g, h3, h4⟩ := fin (some (.int 1)) (some (.int 1)) (some (.int 0)); exact ⟨nm, n2, z, g, i2, a2, s2, h3, g2, by rw [show (1 + 0 : Int) = 1 from rfl, due_m1_P]; exact h4⟩
  · obtain ⟨nm, n2, z, g, h3, h4⟩ := fin (some (.int 2)) (some (.int 2)) (some (.int 1)); exact ⟨nm, n2, z, g, i2, a2, s2, h3, g2, by rw [show (1 + 1 : Int) = 2 from rfl, due_m2_P]; exact h4⟩
  · obtain ⟨nm, n2, z, g, h3, h4⟩ := fin (some (.int 3)) (some (.int 6)) (some (.int 2)); exact ⟨nm, n2, z, g, i2, a2, s2, h3, g2, by rw [show (1 + 2 : Int) = 3 from rfl, due_m3_P]; exact h4⟩
  · obtain ⟨nm, n2, z, g, h3, h4⟩ := fin (some (.int 4)) (some (.int 24)) (some (.int 3)); exact ⟨nm, n2, z, g, i2, a2, s2, h3, g2, by rw [show (1 + 3 : Int) = 4 from rfl, due_m4_P]; exact h4⟩
  · obtain ⟨nm, n2, z, g, h3, h4⟩ := fin (some (.int 5)) (some (.int 120)) (some (.int 4)); exact ⟨nm, n2, z, g, i2, a2, s2, h3, g2, by rw [show (1 + 4 : Int) = 5 from rfl, due_m5_P]; exact h4⟩
  · obtain ⟨nm, n2, z, g, h3, h4⟩ := fin (some (.int 6)) (some (.int 720)) (some (.int 5)); exact ⟨nm, n2, z, g, i2, a2, s2, h3, g2, by rw [show (1 + 5 : Int) = 6 from rfl, due_m6_P]; exact h4⟩
  · obtain ⟨nm, n2, z, g, h3, h4⟩ := fin (some (.int 7)) (some (.int 5040)) (some (.int 6)); exact ⟨nm, n2, z, g, i2, a2, s2, h3, g2, by rw [show (1 + 6 : Int) = 7 from rfl, due_m7_P]; exact h4⟩
  · obtain ⟨nm, n2, z, g, h3, h4⟩ := fin (some (.int 8)) (some (.int 40320)) (some (.int 7)); exact ⟨nm, n2, z, g, i2, a2, s2, h3, g2, by rw [show (1 + 7 : Int) = 8 from rfl, due_m8_P]; exact h4⟩
  · obtain ⟨nm, n2, z, g, h3, h4⟩ := fin (some (.int 9)) (some (.int 362880)) (some (.int 8)); exact ⟨nm, n2, z, g, i2, a2, s2, h3, g2, by rw [show (1 + 8 : Int) = 9 from rfl, due_m9_P]; exact h4⟩
  · obtain ⟨nm, n2, z, g, h3, h4⟩ := fin (some (.int 10)) (some (.int 3628800)) (some (.int 9)); exact ⟨nm, n2, z, g, i2, a2, s2, h3, g2, by rw [show (1 + 9 : Int) = 10 from rfl, due_m10_P]; exact h4⟩
  · obtain ⟨nm, n2, z, g, h3, h4⟩ := fin (some (.int 11)) (some (.int 39916800)) (some (.int 10)); exact ⟨nm, n2, z, g, i2, a2, s2, h3, g2, by rw [show (1 + 10 : Int) = 11 from rfl, due_m11_P]; exact h4⟩
  · obtain ⟨nm, n2, z, g, h3, h4⟩ := fin (some (.int 12)) (some (.int 479001600)) (some (.int 11)); exact ⟨nm, n2, z, g, i2, a2, s2, h3, g2, by rw [show (1 + 11 : Int) = 12 from rfl, due_m12_P]; exact h4⟩
  · obtain ⟨nm, n2, z, g, h3, h4⟩ := fin (some (.int 13)) (some (.int 6227020800)) (some (.int 12)); exact ⟨nm, n2, z, g, i2, a2, s2, h3, g2, by rw [show (1 + 12 : Int) = 13 from rfl, due_m13_P]; exact h4⟩
  · obtain ⟨nm, n2, z, g, h3, h4⟩ := fin (some (.int 14)) (some (.int 87178291200)) (some (.int 13)); exact ⟨nm, n2, z, g, i2, a2, s2, h3, g2, by rw [show (1 + 13 : Int) = 14 from rfl, due_m14_P]; exact h4⟩
  · obtain ⟨nm, n2, z, g, h3, h4⟩ := fin (some (.int 15)) (some (.int 1307674368000)) (some (.int 14)); exact ⟨nm, n2, z, g, i2, a2, s2, h3, g2, by rw [show (1 + 14 : Int) = 15 from rfl, due_m15_P]; exact h4⟩
  · obtain ⟨nm, n2, z, g, h3, h4⟩ := fin (some (.int 16)) (some (.int 20922789888000)) (some (.int 15)); exact ⟨nm, n2, z, g, i2, a2, s2, h3, g2, by rw [show (1 + 15 : Int) = 16 from rfl, due_m16_P]; exact h4⟩
theorem blws_ints (n : Nat) : ∀ l : List Int, blws n (l.map LV.int) = true
  | [] => rfl
  | _ :: r => by simp only [List.map_cons, blws, blw, Bool.true_and]; exact blws_ints n r
theorem blwO_D (n : Nat) (sc : List Int) (i : Nat) (a s : Int) : blwO n (D sc i a s) = true := by
  simp [blwO, D, blws, blw, blws_ints]
theorem menu_small : MENU.all (fun it => blw 0 it && decide (dv it ≤ 100)) = true := by decide +kernel
theorem menu_fz1 (n : Nat) (L : LH) {it : LV} (h : it ∈ MENU) : fzn n L 200 it = some it := by
  have e := List.all_eq_true.mp menu_small it h
  simp only [Bool.and_eq_true, decide_eq_true_eq] at e
  exact fzn_id it 200 e.1 (by omega)
theorem fz_m {n : Nat} {L : LH} {nm z n2 : LV} {g : List LV} (h : LV.lst [nm, n2, .lst g, z] ∈ MENU) (hk : L[n]? = some (.lst g)) : fzn n L 200 (.lst [nm, n2, .ref n, z]) = some (.lst [nm, n2, .lst g, z]) := by
  have e := List.all_eq_true.mp menu_small _ h
  simp only [Bool.and_eq_true, decide_eq_true_eq, blw, blws] at e
  obtain ⟨⟨b1, b2, b3, b4, _⟩, e⟩ := e
  have e1 : max (dv nm) (max (dv n2) (max (dvs g + 1) (max (dv z) 1 + 1) + 1) + 1) + 1 + 1 ≤ 100 := e
  have h1 : fzn n L 198 nm = some nm := fzn_id nm 198 b1 (by omega)
  have h2 : fzn n L 197 n2 = some n2 := fzn_id n2 197 b2 (by omega)
  have h3 : fzns n L 195 g = some g := fzns_id g 195 b3 (by omega)
  have h4 : fzn n L 195 z = some z := fzn_id z 195 b4 (by omega)
  have h5 : fzn n L 196 (.ref n) = some (.lst g) := by
    show (if n < n then some (LV.ref n) else match L[n]? with | some (.lst xs) => (fzns n L 195 xs).map .lst | _ => none) = _
    rw [if_neg (Nat.lt_irrefl n), hk]
    show (fzns n L 195 g).map LV.lst = _
    rw [h3]; rfl
  have c4 : fzns n L 196 [z] = some [z] := by
    show (match fzn n L 195 z, fzns n L 195 [] with | some v', some r' => some (v' :: r') | _, _ => none) = _
    rw [h4]; rfl
  have c3 : fzns n L 197 [.ref n, z] = some [.lst g, z] := by
    show (match fzn n L 196 (.ref n), fzns n L 196 [z] with | some v', some r' => some (v' :: r') | _, _ => none) = _
    rw [h5, c4]
  have c2 : fzns n L 198 [n2, .ref n, z] = some [n2, .lst g, z] := by
    show (match fzn n L 197 n2, fzns n L 197 [.ref n, z] with | some v', some r' => some (v' :: r') | _, _ => none) = _
    rw [h2, c3]
  have c1 : fzns n L 199 [nm, n2, .ref n, z] = some [nm, n2, .lst g, z] := by
    show (match fzn n L 198 nm, fzns n L 198 [n2, .ref n, z] with | some v', some r' => some (v' :: r') | _, _ => none) = _
    rw [h1, c2]
  show (fzns n L 199 [nm, n2, .ref n, z]).map LV.lst = _
  rw [c1]; rfl
theorem keepA (sc : List Int) (i i2 : Nat) (a s a2 s2 : Int) (R : LH) : ∀ (k : Nat) (lo : LO), (D sc i2 a2 s2 :: R)[k]? = some lo → (D sc i a s :: R)[k]? = some lo ∨ blwO (D sc i a s :: R).length lo = true := fun k lo e => by
  cases k with
  | zero => simp at e; subst e; exact .inr (blwO_D _ _ _ _ _)
  | succ k => exact .inl e
theorem fn_ret {N : Nat} {f : LS} {args : List LV} {L L' : LH} {v : LV} (h : retS (f (args.map some ++ List.replicate (N - args.length) none) L) = some (v, L')) : fnSem N f args L = .ok v L' := by
  unfold fnSem
  unfold retS at h
  split at h
  · rename_i he; cases h; rw [he]
  · cases h
theorem F_due_of {L L1 : LH} {r : Int} {k : Str} {v : LV} {L3 : LH} (h1 : F__law_take [.ref 0, .int 16] L = .ok (.int r) L1) {L2 : LH} (h2 : F__law_pick [.ref 0, .lst [.str "s", .str "a", .str "c", .str "d", .str "f", .str "l", .str "b", .str "q", .str "m"]] L1 = .ok (.str k) L2)
    (h3 : retS (dueR (lsD (1 + r) k) L2) = some (v, L3)) : F__law_due [.ref 0] L = .ok v L3 := by
  have a1 : due_S1 [some (.ref 0), none, none, none, none, none, none, none, none] L = .ok .nx [some (.ref 0), some (.int (1 + r)), none, none, none, none, none, none, none] L1 := by
    simp [due_S1, sAsg, e2, eFn, aCons, aNil, eVar, eC, Res.bind, Res.toS, h1, gN, pAdd, lift]
  have a2 : due_S2 [some (.ref 0), some (.int (1 + r)), none, none, none, none, none, none, none] L1 = .ok .nx (lsD (1 + r) k) L2 := by
    simp [due_S2, sAsg, eFn, aCons, aNil, eVar, eFrz, eC, Res.bind, Res.toS, h2, gN, lsD]
  unfold F__law_due
  rw [f_due_eq]
  refine fn_ret ?_
  show retS ((due_S1 [some (.ref 0), none, none, none, none, none, none, none, none] L).then (sSeq due_S2 dueR)) = _
  exact seq_step a1 (seq_step a2 h3)
theorem due_ok (sc : List Int) (i : Nat) (acc seed : Int) (R : LH) (hg : Good sc i acc seed) : ∃ it i2 a2 s2, it ∈ MENU ∧ Good sc i2 a2 s2 ∧ thawF 200 F__law_due [.ref 0] (D sc i acc seed :: R) = .ok it (D sc i2 a2 s2 :: R) := by
  obtain ⟨r, i1, a1, s1, ⟨⟨r0, r1⟩, g1⟩, ht⟩ := take_ok sc i acc seed 16 R hg.1 hg.2.1 hg.2.2 (by decide) (by decide)
  obtain ⟨v, i2, a2, s2, hv, g2, hp⟩ := pick_ok sc i1 a1 s1 R [.str "s", .str "a", .str "c", .str "d", .str "f", .str "l", .str "b", .str "q", .str "m"] g1.1 g1.2.1 g1.2.2 (by decide) (by decide)
  have plain : ∀ (k : Str) (it : LV) (i3 : Nat) (a3 s3 : Int), v = .str k → it ∈ MENU → Good sc i3 a3 s3 → retS (dueR (lsD (1 + r) k) (D sc i2 a2 s2 :: R)) = some (it, D sc i3 a3 s3 :: R) → ∃ it i2 a2 s2, it ∈ MENU ∧ Good sc i2 a2 s2 ∧ thawF 200 F__law_due [.ref 0] (D sc i acc seed :: R) = .ok it (D sc i2 a2 s2 :: R) := by
    intro k it i3 a3 s3 hk hm g3 h3
    subst hk
    refine ⟨it, i3, a3, s3, hm, g3, thaw_eq (B := []) ?_ rfl (keepA _ _ _ _ _ _ _ _) (menu_fz1 _ _ hm)⟩
    rw [List.append_nil]
    exact F_due_of ht hp h3
  simp only [List.mem_cons, List.mem_nil_iff, or_false] at hv
  rcases hv with rfl | rfl | rfl | rfl | rfl | rfl | rfl | rfl | rfl
  · obtain ⟨it, h1, h2⟩ := k_s r r0 r1 (D sc i2 a2 s2 :: R); exact plain _ it i2 a2 s2 rfl h1 g2 h2
  · obtain ⟨it, h1, h2⟩ := k_a r r0 r1 (D sc i2 a2 s2 :: R); exact plain _ it i2 a2 s2 rfl h1 g2 h2
  · obtain ⟨it, h1, h2⟩ := k_c r r0 r1 (D sc i2 a2 s2 :: R); exact plain _ it i2 a2 s2 rfl h1 g2 h2
  · obtain ⟨it, h1, h2⟩ := k_d r r0 r1 (D sc i2 a2 s2 :: R); exact plain _ it i2 a2 s2 rfl h1 g2 h2
  · obtain ⟨it, i3, a3, s3, h1, g3, h2⟩ := k_f sc i2 a2 s2 R g2 r r0 r1; exact plain _ it i3 a3 s3 rfl h1 g3 h2
  · obtain ⟨it, i3, a3, s3, h1, g3, h2⟩ := k_l sc i2 a2 s2 R g2 r r0 r1; exact plain _ it i3 a3 s3 rfl h1 g3 h2
  · obtain ⟨it, i3, a3, s3, h1, g3, h2⟩ := k_b sc i2 a2 s2 R g2 r r0 r1; exact plain _ it i3 a3 s3 rfl h1 g3 h2
  · obtain ⟨it, h1, h2⟩ := k_q r r0 r1 (D sc i2 a2 s2 :: R); exact plain _ it i2 a2 s2 rfl h1 g2 h2
  · obtain ⟨nm, n, z, g, i3, a3, s3, h1, g3, h2⟩ := k_m sc i2 a2 s2 R g2 r r0 r1
    refine ⟨_, i3, a3, s3, h1, g3, thaw_eq (B := [.lst g]) (F_due_of ht hp h2) rfl (keepA _ _ _ _ _ _ _ _) (fz_m h1 ?_)⟩
    show ((D sc i3 a3 s3 :: R) ++ [LO.lst g])[(D sc i acc seed :: R).length]? = _
    rw [List.getElem?_append_right (by simp)]
    simp
end Lw

section
set_option maxHeartbeats 0
namespace Lw
open PySem PySem.Spec PyProof.Rows L2 G
noncomputable section
def law_S1 : LS := (sAsg (eFn F__law_begin (aCons (eVar 0) aNil)) (gN 1))
def law_B1 : LS := (sAsg (eFn (thawF 200 F__law_due) (aCons (eVar 1) aNil)) (gLs 4 (gCs (gN 3) (gCs (gN 4) (gCs (gN 5) (gCs (gN 6) gNl))))))
def law_T1 : LT := (tOf (e2 pNe (eFn (pureF 200 F__law_asked) (aCons (eVar 3) aNil)) (eTup (aCons (eVar 4) (aCons (eCall pTuple (aCons (eVar 5) aNil)) aNil)))))
def law_T2 : LT := (tOf (e2 pNe (pureE 200 (eFn F__law_size (aCons (eFn F__law_grow (aCons (eVar 4) (aCons (eVar 5) aNil))) aNil))) (eVar 6)))
def law_W : LF := (aCons (e2 pAdd (eVar 3) (eC (.str "0"))) (aCons (e3 pSlice (eVar 3) oNone (oSome (eC (.int 1)))) (aCons (eC (.str "")) (aCons (eC (.str "s17")) (aCons (eC (.str "s0")) (aCons (eC (.str "s01")) (aCons (eC (.str "f4")) (aCons (eC (.str "l1")) (aCons (eC (.str "b5")) (aCons (eC (.str "b0")) (aCons (eC (.str "q9")) (aCons (eC (.str "m10")) (aCons (eC (.str "x3")) (aCons (eMeth "str" (pTxt0 (smallT 5592405) fun a => .str (Txt.upper a)) (eVar 3) aNil) (aCons (e2 pAdd (eC (.str " ")) (eVar 3)) (aCons (eC (.str "d-1")) aNil))))))))))))))))
def law_B4 : LS := (sAsg (eFrz (aCons (eC (.str "s10")) (aCons (eC (.str "a10")) (aCons (eC (.str "c10")) (aCons (eC (.str "d10")) (aCons (eC (.str "d1")) (aCons (eC (.str "f2")) (aCons (eC (.str "s1")) (aCons (eC (.str "a1")) (aCons (eC (.str "c1")) (aCons (eC (.str "l1")) aNil))))))))))) (gN 8))
def law_B5 : LS := (sIf (tAndL (tOf (e2 pNin (eVar 7) (eVar 8))) (tAndL (tOf (e2 pNe (eVar 7) (eVar 3))) (tAndL (tOf (e2 pNe (eFn (pureF 200 F__law_asked) (aCons (eVar 7) aNil)) (eC (.str "name")))) (tNotL (tAndL (tOf (e2 pEq (eCall pLen (aCons (eVar 7) aNil)) (eC (.int 3)))) (tOf (e2 pEq (e3 pSlice (eVar 7) (oSome (eC (.int 1))) oNone) (eC (.str "10"))))))))) (sRet (eC (.bl false))) sNop)
def law_R : LS := (sRet (eAnd (e2 pEq (eFn (pureF 200 F__law_asked) (aCons (eC (.str "s17")) aNil)) (eC (.str "name"))) (eAnd (e2 pEq (eFn (pureF 200 F__law_asked) (aCons (eC (.str "f9")) aNil)) (eC (.str "name"))) (eAnd (e2 pEq (eFn (pureF 200 F__law_asked) (aCons (eC (.str "m13")) aNil)) (eC (.str "name"))) (e2 pEq (eFn (pureF 200 F__law_asked) (aCons (eC (.str "s01")) aNil)) (eC (.str "name")))))))
def law_body : LS := sSeq law_B1 (sSeq (sIf (tOrL law_T1 law_T2) (sRet (eC (.bl false))) sNop) (sSeq (sAsg (eFn F__law_pick (aCons (eVar 1) (aCons (eFrz law_W) aNil))) (gN 7)) (sSeq law_B4 law_B5)))
theorem f_law_eq : f_law = sSeq law_S1 (sSeq (sFor (iRange (aCons (eC (.int 3)) aNil)) (gN 2) law_body) law_R) := by unfold f_law law_S1 law_body law_B1 law_T1 law_T2 law_W law_B4 law_B5 law_R; rfl
def lsI (a t w x : Option LV) : LV → LSt
  | .lst [nm, n, g, z] => [a, some (.ref 0), t, some nm, some n, some g, some z, w, x]
  | _ => []
theorem map_at {α β : Type} {f g : α → β} {l : List α} {x : α} (h : l.map f = l.map g) (hx : x ∈ l) : f x = g x := by
  obtain ⟨j, hj⟩ := List.mem_iff_getElem?.mp hx
  have e := congrArg (fun l => l[j]?) h
  simp only [List.getElem?_map, hj, Option.map_some] at e
  exact Option.some.inj e
theorem A1 (a t w x : Option LV) (L : LH) : MENU.map (fun it => law_T1 (lsI a t w x it) L) = MENU.map (fun _ => Res.ok false L) := by kernel_rfl
def wrongsOf (it : LV) : List LV := match law_W (lsI none none none none it) [] with
  | .ok ws _ => ws
  | _ => []
theorem W1 (a t w x : Option LV) (L : LH) : MENU.map (fun it => law_W (lsI a t w x it) L) = MENU.map (fun it => Res.ok (wrongsOf it) L) := by kernel_rfl
theorem W2 : MENU.all (fun it => decide ((wrongsOf it).length = 16)) = true := by decide +kernel
def known : LV := .lst [.str "s10", .str "a10", .str "c10", .str "d10", .str "d1", .str "f2", .str "s1", .str "a1", .str "c1", .str "l1"]
theorem D1 (a t : Option LV) (L : LH) : MENU.map (fun it => (wrongsOf it).map fun v => law_B5 (lsI a t (some v) (some known) it) L) = MENU.map (fun it => (wrongsOf it).map fun v => SR.ok .nx (lsI a t (some v) (some known) it) L) := by kernel_rfl
theorem B4ok (a t w x : Option LV) (L : LH) : MENU.map (fun it => law_B4 (lsI a t w x it) L) = MENU.map (fun it => SR.ok .nx (lsI a t w (some known) it) L) := by kernel_rfl
theorem R1 (a t x w : Option LV) (b c d e : Option LV) (k : Option LV) (L : LH) : retS (law_R [a, t, x, w, b, c, d, e, k] L) = some (.bl true, L) := by kernel_rfl
end
end Lw

end

namespace Lw
open PySem PySem.Spec PyProof.Rows L2 G
def shapeOk : LV → Bool
  | .lst [.str _, .int _, .lst _, .int _] => true
  | _ => false
theorem menu_shape : MENU.all shapeOk = true := by decide +kernel
theorem shape_of {it : LV} (h : it ∈ MENU) : ∃ (nm : Str) (n : Int) (g : List LV) (z : Int), it = .lst [.str nm, .int n, .lst g, .int z] := by
  have e := List.all_eq_true.mp menu_shape it h
  unfold shapeOk at e
  split at e
  · exact ⟨_, _, _, _, rfl⟩
  · cases e
/-- the size of the grown levels -/
noncomputable def growSize (n : Int) (g : List LV) : Res LV := (F__law_grow [.int n, .lst g] []).bind fun v L1 => F__law_size [v] L1
def SizesOk : Prop := ∀ (nm : Str) (n : Int) (g : List LV) (z : Int), LV.lst [.str nm, .int n, .lst g, .int z] ∈ MENU → ∃ L, growSize n g = .ok (.int z) L
theorem norf_mem {it : LV} (h : it ∈ MENU) : blw 0 it = true := by
  have e := List.all_eq_true.mp menu_small it h
  simp only [Bool.and_eq_true] at e
  exact e.1
theorem T2_ok (H : SizesOk) {nm : Str} {n : Int} {g : List LV} {z : Int} (h : LV.lst [.str nm, .int n, .lst g, .int z] ∈ MENU) (a t w x : Option LV) (L : LH) : law_T2 (lsI a t w x (.lst [.str nm, .int n, .lst g, .int z])) L = .ok false L := by
  obtain ⟨L2, hz⟩ := H nm n g z h
  have hb := norf_mem h
  simp only [blw, blws, Bool.and_eq_true] at hb
  have hg : blw 0 (.lst g) = true := hb.2.2.1
  have hn : norf (some (.lst g)) = some (.lst g) := by show (if blw 0 (.lst g) = true then some (LV.lst g) else none) = _; rw [if_pos hg]
  have e : (eFn F__law_size (aCons (eFn F__law_grow (aCons (eVar 4) (aCons (eVar 5) aNil))) aNil)) ((lsI a t w x (.lst [.str nm, .int n, .lst g, .int z])).map norf) [] = .ok (.int z) L2 := by
    rw [← hz]
    unfold growSize
    simp [lsI, eFn, aCons, aNil, eVar, Res.bind, hn, show norf (some (LV.int n)) = some (.int n) from rfl]
    cases F__law_grow [.int n, .lst g] [] <;> rfl
  have p : pureE 200 (eFn F__law_size (aCons (eFn F__law_grow (aCons (eVar 4) (aCons (eVar 5) aNil))) aNil)) (lsI a t w x (.lst [.str nm, .int n, .lst g, .int z])) L = .ok (.int z) L := by
    unfold pureE
    rw [e]
    rfl
  show tOf (e2 pNe (pureE 200 _) (eVar 6)) _ L = _
  unfold tOf e2
  rw [p]
  simp [Res.bind, lsI, eVar, lift, pNe_ii]
theorem seq_nx {f k : LS} {ls ls1 : LSt} {L L1 : LH} (h : f ls L = .ok .nx ls1 L1) : sSeq f k ls L = k ls1 L1 := by
  unfold sSeq
  rw [h]
  rfl
theorem turn_ok (H : SizesOk) (sc : List Int) (i : Nat) (acc seed : Int) (R : LH) (hg : Good sc i acc seed) (a t : Option LV) (s3 s4 s5 s6 s7 s8 : Option LV) :
    ∃ i2 a2 s2 s3' s4' s5' s6' s7' s8', Good sc i2 a2 s2 ∧ law_body [a, some (.ref 0), t, s3, s4, s5, s6, s7, s8] (D sc i acc seed :: R) = .ok .nx [a, some (.ref 0), t, s3', s4', s5', s6', s7', s8'] (D sc i2 a2 s2 :: R) := by
  obtain ⟨it, i1, a1, s1, hm, g1, hd⟩ := due_ok sc i acc seed R hg
  obtain ⟨nm, n, g, z, rfl⟩ := shape_of hm
  have hw : (wrongsOf (.lst [.str nm, .int n, .lst g, .int z])).length = 16 := of_decide_eq_true (List.all_eq_true.mp W2 _ hm)
  obtain ⟨v, i2, a2, s2, hv, g2, hp⟩ := pick_ok sc i1 a1 s1 R (wrongsOf (.lst [.str nm, .int n, .lst g, .int z])) g1.1 g1.2.1 g1.2.2 (by omega) (by omega)
  refine ⟨i2, a2, s2, some (.str nm), some (.int n), some (.lst g), some (.int z), some v, some known, g2, ?_⟩
  have b1 : law_B1 [a, some (.ref 0), t, s3, s4, s5, s6, s7, s8] (D sc i acc seed :: R) = .ok .nx (lsI a t s7 s8 (.lst [.str nm, .int n, .lst g, .int z])) (D sc i1 a1 s1 :: R) := by
    simp [law_B1, sAsg, eFn, aCons, aNil, eVar, Res.bind, Res.toS, hd, gLs, lsqOf, gCs, gN, gNl, lsI]
  have q1 := map_at (A1 a t s7 s8 (D sc i1 a1 s1 :: R)) hm
  have q2 := T2_ok H hm a t s7 s8 (D sc i1 a1 s1 :: R)
  have b2 : sIf (tOrL law_T1 law_T2) (sRet (eC (.bl false))) sNop (lsI a t s7 s8 (.lst [.str nm, .int n, .lst g, .int z])) (D sc i1 a1 s1 :: R) = .ok .nx (lsI a t s7 s8 (.lst [.str nm, .int n, .lst g, .int z])) (D sc i1 a1 s1 :: R) := by
    unfold sIf tOrL
    rw [q1]
    simp [Res.bind, Res.toS, q2, sNop]
  have q3 := map_at (W1 a t s7 s8 (D sc i1 a1 s1 :: R)) hm
  have b3 : sAsg (eFn F__law_pick (aCons (eVar 1) (aCons (eFrz law_W) aNil))) (gN 7) (lsI a t s7 s8 (.lst [.str nm, .int n, .lst g, .int z])) (D sc i1 a1 s1 :: R) = .ok .nx (lsI a t (some v) s8 (.lst [.str nm, .int n, .lst g, .int z])) (D sc i2 a2 s2 :: R) := by
    have e : aCons (eVar 1) (aCons (eFrz law_W) aNil) (lsI a t s7 s8 (.lst [.str nm, .int n, .lst g, .int z])) (D sc i1 a1 s1 :: R) = .ok [.ref 0, .lst (wrongsOf (.lst [.str nm, .int n, .lst g, .int z]))] (D sc i1 a1 s1 :: R) := by
      have ev : eVar 1 (lsI a t s7 s8 (.lst [.str nm, .int n, .lst g, .int z])) (D sc i1 a1 s1 :: R) = .ok (.ref 0) (D sc i1 a1 s1 :: R) := rfl
      unfold aCons eFrz
      rw [ev]
      simp only [Res.bind]
      rw [q3]
      rfl
    unfold sAsg eFn
    rw [e]
    simp [Res.bind, Res.toS, hp, gN, lsI]
  have q4 := map_at (B4ok a t (some v) s8 (D sc i2 a2 s2 :: R)) hm
  have q5a := map_at (D1 a t (D sc i2 a2 s2 :: R)) hm
  have q5 := map_at q5a hv
  exact (seq_nx b1).trans ((seq_nx b2).trans ((seq_nx b3).trans ((seq_nx q4).trans q5)))
theorem forL_step {g : LG} {f : LS} {chk : LH → Bool} {x : LV} {r : List LV} {ls ls1 ls2 : LSt} {L L2 : LH} (h1 : g x ls L = some ls1) (h2 : f ls1 L = .ok .nx ls2 L2) (h3 : chk L2 = true) : forL g f chk (x :: r) ls L = forL g f chk r ls2 L2 := by
  show (match g x ls L with | none => SR.bad | some ls1 => match f ls1 L with | .ok .nx ls2 L2 => if chk L2 = true then forL g f chk r ls2 L2 else .bad | .ok .ct ls2 L2 => if chk L2 = true then forL g f chk r ls2 L2 else .bad | .ok .bk ls2 L2 => .ok .nx ls2 L2 | r => r) = _
  rw [h1]
  dsimp only
  rw [h2]
  dsimp only
  rw [if_pos h3]
theorem plain_of (H : SizesOk) (ns : List Int) (h : ns.length ≤ 63) : ∃ L, F_law [.frz (ns.map LV.int)] [] = .ok (.bl true) L := by
  obtain ⟨seed, hs, hb⟩ := begin_ok ns h
  obtain ⟨i1, a1, s1, x3, x4, x5, x6, x7, x8, g1, t1⟩ := turn_ok H ns 0 0 seed [] ⟨Nat.zero_le _, Int.le_refl _, hs⟩ (some (.frz (ns.map LV.int))) (some (.int 0)) none none none none none none
  obtain ⟨i2, a2, s2, y3, y4, y5, y6, y7, y8, g2, t2⟩ := turn_ok H ns i1 a1 s1 [] g1 (some (.frz (ns.map LV.int))) (some (.int 1)) x3 x4 x5 x6 x7 x8
  obtain ⟨i3, a3, s3, z3, z4, z5, z6, z7, z8, g3, t3⟩ := turn_ok H ns i2 a2 s2 [] g2 (some (.frz (ns.map LV.int))) (some (.int 2)) y3 y4 y5 y6 y7 y8
  refine ⟨[D ns i3 a3 s3], ?_⟩
  unfold F_law
  rw [f_law_eq]
  refine fn_ret ?_
  have s1' : law_S1 [some (.frz (ns.map LV.int)), none, none, none, none, none, none, none, none] [] = .ok .nx [some (.frz (ns.map LV.int)), some (.ref 0), none, none, none, none, none, none, none] [D ns 0 0 seed] := by
    simp [law_S1, sAsg, eFn, aCons, aNil, eVar, Res.bind, Res.toS, hb, gN]
  have loop : sFor (iRange (aCons (eC (.int 3)) aNil)) (gN 2) law_body [some (.frz (ns.map LV.int)), some (.ref 0), none, none, none, none, none, none, none] [D ns 0 0 seed] = .ok .nx [some (.frz (ns.map LV.int)), some (.ref 0), some (.int 2), z3, z4, z5, z6, z7, z8] [D ns i3 a3 s3] := by
    show forL (gN 2) law_body always [.int 0, .int 1, .int 2] _ _ = _
    rw [forL_step (ls1 := [some (.frz (ns.map LV.int)), some (.ref 0), some (.int 0), none, none, none, none, none, none]) rfl t1 rfl]
    rw [forL_step (ls1 := [some (.frz (ns.map LV.int)), some (.ref 0), some (.int 1), x3, x4, x5, x6, x7, x8]) rfl t2 rfl]
    rw [forL_step (ls1 := [some (.frz (ns.map LV.int)), some (.ref 0), some (.int 2), y3, y4, y5, y6, y7, y8]) rfl t3 rfl]
    rfl
  show retS ((law_S1 [some (.frz (ns.map LV.int)), none, none, none, none, none, none, none, none] []).then _) = _
  refine seq_step s1' ?_
  exact seq_step loop (R1 _ _ _ _ _ _ _ _ _ _)
end Lw

namespace Mir
def dig (p i : Nat) : Nat := p / 16 ^ i % 16
theorem dig_lt (p i : Nat) : dig p i < 16 := Nat.mod_lt _ (by decide)
theorem dig_succ (p i : Nat) : dig (p / 16) i = dig p (i + 1) := by
  unfold dig
  rw [Nat.div_div_eq_div_mul, Nat.pow_succ, Nat.mul_comm]
theorem dig_zero (p : Nat) : dig p 0 = p % 16 := by simp [dig]
/-- Σ f i * 16 ^ i, i < n -/
def sm (f : Nat → Nat) : Nat → Nat
  | 0 => 0
  | n + 1 => f 0 + 16 * sm (fun i => f (i + 1)) n
theorem dig_sm : ∀ (n : Nat) (f : Nat → Nat) (i : Nat), (∀ j, j < n → f j < 16) → dig (sm f n) i = if i < n then f i else 0
  | 0, f, i, h => by simp [sm, dig]
  | n + 1, f, i, h => by
    cases i with
    | zero =>
      rw [dig_zero]
      have := h 0 (Nat.succ_pos n)
      simp only [sm, Nat.zero_lt_succ, if_true]
      omega
    | succ i =>
      rw [← dig_succ]
      have h0 := h 0 (Nat.succ_pos n)
      have e : sm f (n + 1) / 16 = sm (fun i => f (i + 1)) n := by simp only [sm]; omega
      rw [e, dig_sm n _ i (fun j hj => h (j + 1) (Nat.succ_lt_succ hj))]
      simp only [Nat.succ_lt_succ_iff]
theorem sm_lt : ∀ (n : Nat) (f : Nat → Nat), (∀ j, j < n → f j < 16) → sm f n < 16 ^ n
  | 0, f, h => by simp [sm]
  | n + 1, f, h => by
    have h0 := h 0 (Nat.succ_pos n)
    have := sm_lt n (fun i => f (i + 1)) (fun j hj => h (j + 1) (Nat.succ_lt_succ hj))
    simp only [sm, Nat.pow_succ]
    omega
/-- what is below 16 ^ n is told by its digits -/
theorem sm_dig : ∀ (n p : Nat), p < 16 ^ n → sm (dig p) n = p
  | 0, p, h => by simp at h; simp [sm, h]
  | n + 1, p, h => by
    simp only [sm]
    have e : (fun i => dig p (i + 1)) = dig (p / 16) := by funext i; rw [dig_succ]
    rw [e, sm_dig n (p / 16) (by rw [Nat.pow_succ] at h; omega), dig_zero]
    omega
theorem dig_ext (n p q : Nat) (hp : p < 16 ^ n) (hq : q < 16 ^ n) (h : ∀ i, i < n → dig p i = dig q i) : p = q := by
  have aux : ∀ (n : Nat) (f g : Nat → Nat), (∀ i, i < n → f i = g i) → sm f n = sm g n := by
    intro n
    induction n with
    | zero => intros; rfl
    | succ n ih => intro f g h; simp only [sm]; rw [h 0 (Nat.succ_pos n), ih _ _ fun i hi => h (i + 1) (Nat.succ_lt_succ hi)]
  rw [← sm_dig n p hp, ← sm_dig n q hq, aux n _ _ h]
def tmA (q : Nat) : Nat → Nat → Nat
  | 0, _ => 0
  | k + 1, p => q / 16 ^ (p % 16) % 16 + 16 * tmA q k (p / 16)
def tmul (n p q : Nat) : Nat := tmA q n p
theorem tmA_sm (q : Nat) : ∀ (k p : Nat), tmA q k p = sm (fun i => dig q (dig p i)) k
  | 0, p => rfl
  | k + 1, p => by
    simp only [tmA, sm]
    rw [tmA_sm q k (p / 16)]
    have e : (fun i => dig q (dig (p / 16) i)) = fun i => dig q (dig p (i + 1)) := by funext i; rw [dig_succ]
    rw [e, dig_zero]
    rfl
theorem dig_tmul {n p q i : Nat} (h : i < n) : dig (tmul n p q) i = dig q (dig p i) := by
  unfold tmul
  rw [tmA_sm, dig_sm n _ i (fun j _ => dig_lt _ _), if_pos h]
theorem tmul_lt (n p q : Nat) : tmul n p q < 16 ^ n := by
  unfold tmul
  rw [tmA_sm]
  exact sm_lt n _ fun j _ => dig_lt _ _
/-- a permutation of degree n -/
structure POk (n p : Nat) : Prop where
  lt : p < 16 ^ n
  dg : ∀ i, i < n → dig p i < n
  inj : ∀ i j, i < n → j < n → dig p i = dig p j → i = j
theorem POk.mul {n p q : Nat} (hp : POk n p) (hq : POk n q) : POk n (tmul n p q) :=
  ⟨tmul_lt n p q, fun i h => by rw [dig_tmul h]; exact hq.dg _ (hp.dg i h), fun i j hi hj e => by
    rw [dig_tmul hi, dig_tmul hj] at e
    exact hp.inj i j hi hj (hq.inj _ _ (hp.dg i hi) (hp.dg j hj) e)⟩
theorem sm_upd : ∀ (n : Nat) (f : Nat → Nat) (e c : Nat), e < n → f e = 0 → sm (fun i => if i = e then c else f i) n = sm f n + c * 16 ^ e
  | 0, f, e, c, h, _ => absurd h (Nat.not_lt_zero e)
  | n + 1, f, 0, c, h, h0 => by
    simp only [sm, if_true, Nat.pow_zero, Nat.mul_one, h0]
    have e : (fun i => if i + 1 = 0 then c else f (i + 1)) = fun i => f (i + 1) := by funext i; rw [if_neg (Nat.succ_ne_zero i)]
    rw [e]
    omega
  | n + 1, f, e + 1, c, h, h0 => by
    simp only [sm, if_neg (Nat.succ_ne_zero e).symm]
    have e2 : (fun i => if i + 1 = e + 1 then c else f (i + 1)) = fun i => if i = e then c else f (i + 1) := by
      funext i
      by_cases hi : i = e
      · rw [if_pos hi, if_pos (by omega)]
      · rw [if_neg hi, if_neg (by omega)]
    rw [e2, sm_upd n (fun i => f (i + 1)) e c (Nat.lt_of_succ_lt_succ h) h0, Nat.pow_succ]
    have : c * (16 ^ e * 16) = 16 * (c * 16 ^ e) := by rw [← Nat.mul_assoc, Nat.mul_comm]
    omega
theorem add_dig {n V e c : Nat} (hV : V < 16 ^ n) (he : e < n) (hc : c < 16) (h0 : dig V e = 0) : V + c * 16 ^ e < 16 ^ n ∧ ∀ y, y < n → dig (V + c * 16 ^ e) y = if y = e then c else dig V y := by
  have e1 : V + c * 16 ^ e = sm (fun i => if i = e then c else dig V i) n := by rw [sm_upd n (dig V) e c he h0, sm_dig n V hV]
  have b : ∀ j, j < n → (if j = e then c else dig V j) < 16 := fun j _ => by split; exact hc; exact dig_lt _ _
  rw [e1]
  exact ⟨sm_lt n _ b, fun y hy => by rw [dig_sm n _ y b, if_pos hy]⟩
def inB : Nat → Nat → Nat → Nat → Nat
  | 0, _, _, acc => acc
  | k + 1, i, p, acc => inB k (i + 1) (p / 16) (acc + i * 16 ^ (p % 16))
def inv (n p : Nat) : Nat := inB n 0 p 0
theorem dig_at (P i : Nat) : P / 16 ^ i % 16 = dig P i := rfl
theorem inB_ok {n P : Nat} (hn : n ≤ 16) (hP : POk n P) : ∀ (k i V : Nat), i + k = n → V < 16 ^ n → (∀ x, x < i → dig V (dig P x) = x) → (∀ y, y < n → (∀ x, x < i → dig P x ≠ y) → dig V y = 0) →
    inB k i (P / 16 ^ i) V < 16 ^ n ∧ ∀ x, x < n → dig (inB k i (P / 16 ^ i) V) (dig P x) = x
  | 0, i, V, hk, hV, h1, h2 => ⟨hV, fun x hx => h1 x (by omega)⟩
  | k + 1, i, V, hk, hV, h1, h2 => by
    have hi : i < n := by omega
    have h0 : dig V (dig P i) = 0 := h2 _ (hP.dg i hi) fun x hx e => by
      have := hP.inj x i (by omega) hi e
      omega
    obtain ⟨a1, a2⟩ := add_dig hV (hP.dg i hi) (by omega : i < 16) h0
    have e : P / 16 ^ i / 16 = P / 16 ^ (i + 1) := by rw [Nat.div_div_eq_div_mul, Nat.pow_succ]
    simp only [inB]
    rw [e, dig_at]
    refine inB_ok hn hP k (i + 1) _ (by omega) a1 (fun x hx => ?_) (fun y hy h => ?_)
    · by_cases hxi : x = i
      · subst hxi
        rw [a2 _ (hP.dg x hi), if_pos rfl]
      · have hx' : x < i := by omega
        rw [a2 _ (hP.dg x (by omega)), if_neg (fun z => hxi (hP.inj x i (by omega) hi z)), h1 x hx']
    · rw [a2 y hy, if_neg (fun z => h i (Nat.lt_succ_self i) z.symm)]
      exact h2 y hy fun x hx => h x (by omega)
theorem dig_z (y : Nat) : dig 0 y = 0 := by simp [dig]
theorem inv_ok {n P : Nat} (hn : n ≤ 16) (hP : POk n P) : inv n P < 16 ^ n ∧ ∀ x, x < n → dig (inv n P) (dig P x) = x := by
  have := inB_ok hn hP n 0 0 (by omega) (Nat.pow_pos (by decide)) (fun x hx => absurd hx (Nat.not_lt_zero x)) (fun y _ _ => dig_z y)
  simpa [inv] using this
theorem surj : ∀ (n : Nat) (f : Nat → Nat), (∀ i, i < n → f i < n) → (∀ i j, i < n → j < n → f i = f j → i = j) → ∀ y, y < n → ∃ x, x < n ∧ f x = y
  | 0, f, _, _, y, hy => absurd hy (Nat.not_lt_zero y)
  | n + 1, f, hf, hi, y, hy => by
    by_cases h : f n = y
    · exact ⟨n, Nat.lt_succ_self n, h⟩
    · have hg : ∀ i, i < n → (if f i = n then f n else f i) < n := fun i hin => by
        have a := hf i (by omega)
        have b := hf n (Nat.lt_succ_self n)
        split
        · rename_i e
          have : f n ≠ n := fun z => by have := hi i n (by omega) (Nat.lt_succ_self n) (by omega); omega
          omega
        · omega
      have hj : ∀ i j, i < n → j < n → (if f i = n then f n else f i) = (if f j = n then f n else f j) → i = j := fun i j hin hjn e => by
        split at e
        · rename_i e1
          split at e
          · rename_i e2; exact hi i j (by omega) (by omega) (by omega)
          · have := hi n j (by omega) (by omega) e; omega
        · split at e
          · have := hi i n (by omega) (by omega) e; omega
          · exact hi i j (by omega) (by omega) e
      by_cases hyn : y = n
      · subst hyn
        have b := hf y (Nat.lt_succ_self y)
        obtain ⟨x, hx, e⟩ := surj y (fun i => if f i = y then f y else f i) hg hj (f y) (by omega)
        split at e
        · rename_i e1; exact ⟨x, by omega, e1⟩
        · have := hi x y (by omega) (by omega) e; omega
      · obtain ⟨x, hx, e⟩ := surj n (fun i => if f i = n then f n else f i) hg hj y (by omega)
        split at e
        · exact absurd e h
        · exact ⟨x, by omega, e⟩
theorem POk.inv {n P : Nat} (hn : n ≤ 16) (hP : POk n P) : POk n (Mir.inv n P) := by
  obtain ⟨a, b⟩ := inv_ok hn hP
  have s := surj n (dig P) hP.dg hP.inj
  refine ⟨a, fun y hy => ?_, fun y z hy hz e => ?_⟩
  · obtain ⟨x, hx, e⟩ := s y hy
    rw [← e, b x hx]
    exact hx
  · obtain ⟨x, hx, e1⟩ := s y hy
    obtain ⟨x2, hx2, e2⟩ := s z hz
    rw [← e1, ← e2, b x hx, b x2 hx2] at e
    rw [← e1, ← e2, e]
/-- p times the inverse of q is the identity just where p is q -/
def idM (n : Nat) : Nat := sm (fun i => i) n
theorem dig_id {n i : Nat} (hn : n ≤ 16) (h : i < n) : dig (idM n) i = i := by
  unfold idM
  rw [dig_sm n _ i (fun j hj => by omega), if_pos h]
theorem POk.id {n : Nat} (hn : n ≤ 16) : POk n (idM n) := ⟨sm_lt n _ fun j hj => by omega, fun i h => by rw [dig_id hn h]; exact h, fun i j hi hj e => by rw [dig_id hn hi, dig_id hn hj] at e; exact e⟩
theorem mul_inv_id {n p q : Nat} (hn : n ≤ 16) (hp : POk n p) (hq : POk n q) : tmul n p (Mir.inv n q) = idM n ↔ p = q := by
  constructor
  · intro e
    refine dig_ext n p q hp.lt hq.lt fun i hi => ?_
    have h1 : dig (tmul n p (Mir.inv n q)) i = i := by rw [e, dig_id hn hi]
    rw [dig_tmul hi] at h1
    obtain ⟨x, hx, ex⟩ := surj n (dig q) hq.dg hq.inj (dig p i) (hp.dg i hi)
    rw [← ex, (inv_ok hn hq).2 x hx] at h1
    rw [← ex, h1]
  · rintro rfl
    refine dig_ext n _ _ (tmul_lt _ _ _) (POk.id hn).lt fun i hi => ?_
    rw [dig_tmul hi, dig_id hn hi, (inv_ok hn hp).2 i hi]
end Mir

namespace Lw
open PySem PySem.Spec PyProof.Rows L2 G Mir
def dI (d : Nat) : LV := .int (d : Int)
def Ts (n p : Nat) : List LV := (List.range n).map fun i => dI (dig p i)
def T (n p : Nat) : LV := .tup (Ts n p)
theorem Ts_len (n p : Nat) : (Ts n p).length = n := by simp [Ts]
theorem Ts_at {n p i : Nat} (h : i < n) : (Ts n p)[i]? = some (dI (dig p i)) := by
  simp [Ts, List.getElem?_map, List.getElem?_range h]
theorem ix_T {n p i : Nat} (L : LH) (h : i < n) : pIx L (T n p) (dI i) = some (dI (dig p i)) := by
  have e0 : pIx L (T n p) (dI i) = atI (Ts n p) (i : Int) := rfl
  rw [e0]
  unfold atI
  have e : ixN (Ts n p).length (i : Int) = some i := by
    rw [Ts_len]
    unfold ixN
    rw [if_pos (by omega), if_pos (by omega)]
    simp
  rw [e]
  exact Ts_at h
theorem comp_times (n q : Nat) (a z : Option LV) (L : LH) : ∀ (ds : List Nat), (∀ d ∈ ds, d < n) → compL (gN 2) tYesL (e2 pIx (eVar 1) (eVar 2)) always [2] (ds.map dI) [a, some (T n q), z] L = .ok (ds.map fun d => dI (dig q d)) L
  | [], _ => rfl
  | d :: r, h => by
    have hd : d < n := h d (List.mem_cons_self ..)
    have ih := comp_times n q a z L r (fun x hx => h x (List.mem_cons_of_mem _ hx))
    rw [List.map_cons, compL_cons]
    simp only [gN]
    have e : e2 pIx (eVar 1) (eVar 2) (List.set (wipeL [a, some (T n q), z] [2]) 2 (some (dI d))) L = .ok (dI (dig q d)) L := by
      show (lift (pIx L (T n q) (dI d)) L) = _
      rw [ix_T L hd]; rfl
    simp only [tYesL, Res.strip, Res.bind, if_true, e, always]
    rw [ih]
    rfl
theorem times_ok {n p q : Nat} (hn : n ≤ 16) (hp : POk n p) (L : LH) : F__law_times [T n p, T n q] L = .ok (T n (tmul n p q)) L := by
  have c := comp_times n q (some (T n p)) none L ((List.range n).map (dig p)) (fun d hd => by
    obtain ⟨i, hi, rfl⟩ := List.mem_map.mp hd
    exact hp.dg i (List.mem_range.mp hi))
  have e1 : ((List.range n).map (dig p)).map dI = Ts n p := by simp [Ts, List.map_map, Function.comp_def]
  have m2 : ((List.range n).map (dig p)).map (fun d => dI (dig q d)) = Ts n (tmul n p q) := by
    unfold Ts
    rw [List.map_map]
    refine List.map_congr_left fun i hi => ?_
    show dI (dig q (dig p i)) = _
    rw [dig_tmul (List.mem_range.mp hi)]
  rw [e1, m2] at c
  have sz : (Ts n p).length ≤ sizeLine := by rw [Ts_len, sizeLine_eq]; omega
  have f : fComp (iOf (eVar 0)) (gN 2) tYesL (e2 pIx (eVar 1) (eVar 2)) [2] [some (T n p), some (T n q), none] L = .ok (Ts n (tmul n p q)) L := by
    show (if (Ts n p).length ≤ sizeLine then compL (gN 2) tYesL (e2 pIx (eVar 1) (eVar 2)) always [2] (Ts n p) [some (T n p), some (T n q), none] L else .bad) = _
    rw [if_pos sz, c]
  have g : eCall pTuple (aCons (eFrz (fComp (iOf (eVar 0)) (gN 2) tYesL (e2 pIx (eVar 1) (eVar 2)) [2])) aNil) [some (T n p), some (T n q), none] L = .ok (T n (tmul n p q)) L := by
    unfold eCall aCons eFrz
    rw [f]
    rfl
  show fnSem 3 (sRet _) _ _ = _
  unfold fnSem sRet
  show (match ((eCall pTuple _ [some (T n p), some (T n q), none] L).toS _ _) with | .ok (.rt v) _ L' => Res.ok v L' | .ok .nx _ L' => .ok .non L' | .err e _ L' => .err e L' | _ => .bad) = _
  rw [g]
  rfl
end Lw

namespace Lw
open PySem PySem.Spec PyProof.Rows L2 G Mir
def stI : LS := sSet (eVar 1) (e2 pIx (eVar 0) (eVar 2)) (eVar 2)
theorem stI_ok {n p i : Nat} (h : i < n) (hd : dig p i < n) (row : List LV) (hl : row.length = n) : stI [some (T n p), some (.ref 0), some (dI i)] [.lst row] = .ok .nx [some (T n p), some (.ref 0), some (dI i)] [.lst (row.set (dig p i) (dI i))] := by
  have e : e2 pIx (eVar 0) (eVar 2) [some (T n p), some (.ref 0), some (dI i)] [.lst row] = .ok (dI (dig p i)) [.lst row] := by
    show lift (pIx [.lst row] (T n p) (dI i)) [.lst row] = _
    rw [ix_T _ h]; rfl
  have e2 : pSet [.lst row] (.ref 0) (dI (dig p i)) (dI i) = some [.lst (row.set (dig p i) (dI i))] := by
    show (ixN row.length ((dig p i : Nat) : Int)).map (fun j => List.set [LO.lst row] 0 (.lst (row.set j (dI i)))) = _
    have q : ixN row.length ((dig p i : Nat) : Int) = some (dig p i) := by
      unfold ixN
      rw [hl, if_pos (by omega), if_pos (by omega)]
      simp
    rw [q]
    rfl
  unfold stI sSet
  have v2 : eVar 2 [some (T n p), some (.ref 0), some (dI i)] [.lst row] = .ok (dI i) [.lst row] := rfl
  have v1 : eVar 1 [some (T n p), some (.ref 0), some (dI i)] [.lst row] = .ok (.ref 0) [.lst row] := rfl
  rw [v2]
  dsimp only [Res.toS]
  rw [v1]
  dsimp only [Res.toS]
  rw [e]
  dsimp only [Res.toS]
  rw [e2]
theorem inv_loop {n p : Nat} (hp : POk n p) : ∀ (k i : Nat) (row : List LV) (c : Option LV), i + k = n → row.length = n → (∀ x, x < i → row[dig p x]? = some (dI x)) →
    ∃ (row' : List LV) (c' : Option LV), row'.length = n ∧ (∀ x, x < n → row'[dig p x]? = some (dI x)) ∧ forL (gN 2) stI always ((List.range' i k).map dI) [some (T n p), some (.ref 0), c] [.lst row] = .ok .nx [some (T n p), some (.ref 0), c'] [.lst row']
  | 0, i, row, c, hk, hl, h => ⟨row, c, hl, fun x hx => h x (by omega), rfl⟩
  | k + 1, i, row, c, hk, hl, h => by
    have hi : i < n := by omega
    obtain ⟨row', c', h1, h2, h3⟩ := inv_loop hp k (i + 1) (row.set (dig p i) (dI i)) (some (dI i)) (by omega) (by rw [List.length_set]; exact hl) (fun x hx => by
      by_cases e : x = i
      · subst e
        rw [List.getElem?_set_self (by rw [hl]; exact hp.dg x hi)]
      · rw [List.getElem?_set_ne (fun z => e (hp.inj x i (by omega) hi z.symm))]
        exact h x (by omega))
    refine ⟨row', c', h1, h2, ?_⟩
    rw [List.range'_succ, List.map_cons]
    exact l_nx (ls1 := [some (T n p), some (.ref 0), some (dI i)]) rfl (stI_ok hi (hp.dg i hi) row hl) rfl h3
theorem pRep_1 (L : LH) (v : LV) (k : Int) : pRep L (.lst [v]) (.int k) = G.guard (decide (-(2 ^ 63) ≤ k ∧ k < 2 ^ 63 ∧ [v].length * k.toNat ≤ sizeLine)) (some (List.replicate k.toNat [v]).flatten) := rfl
theorem flat_one (v : LV) : ∀ n : Nat, (List.replicate n [v]).flatten = List.replicate n v
  | 0 => rfl
  | n + 1 => by rw [List.replicate_succ, List.flatten_cons, flat_one v n]; rfl
theorem pRep_ok {n : Nat} (hn : n ≤ 16) (L : LH) : pRep L (.lst [.int 0]) (.int (n : Int)) = some (List.replicate n (.int 0)) := by
  have e : (2 : Int) ^ 63 = 9223372036854775808 := by decide
  have c : (-(2 ^ 63) ≤ (n : Int) ∧ (n : Int) < 2 ^ 63 ∧ [LV.int 0].length * (n : Int).toNat ≤ sizeLine) := by
    rw [e]
    refine ⟨by omega, by omega, ?_⟩
    rw [Int.toNat_natCast, List.length_singleton, Nat.one_mul, sizeLine_eq]
    omega
  rw [pRep_1, guard_t (decide_eq_true c), Int.toNat_natCast, flat_one]
theorem inverse_ok {n p : Nat} (hn : n ≤ 16) (hp : POk n p) : ∃ L, F__law_inverse [T n p] [] = .ok (T n (Mir.inv n p)) L := by
  obtain ⟨row, c, h1, h2, h3⟩ := inv_loop hp n 0 (List.replicate n (.int 0)) none (by omega) (by simp) (fun x hx => absurd hx (Nat.not_lt_zero x))
  have er : row = Ts n (Mir.inv n p) := by
    refine List.ext_getElem? fun y => ?_
    by_cases hy : y < n
    · obtain ⟨x, hx, e⟩ := surj n (dig p) hp.dg hp.inj y hy
      rw [← e, h2 x hx, Ts_at (by rw [e]; exact hy), (inv_ok hn hp).2 x hx]
    · rw [List.getElem?_eq_none (by omega), List.getElem?_eq_none (by rw [Ts_len]; omega)]
  subst er
  refine ⟨[.lst (Ts n (Mir.inv n p))], ?_⟩
  have len : ∀ (x y : Option LV) (L : LH), eCall pLen (aCons (eVar 0) aNil) [some (T n p), x, y] L = .ok (.int (n : Int)) L := fun x y L => by
    show Res.ok (LV.int ((Ts n p).length : Int)) L = _
    rw [Ts_len]
  have rep : f2 pRep (eFrz (aCons (eC (.int 0)) aNil)) (eCall pLen (aCons (eVar 0) aNil)) [some (T n p), none, none] [] = .ok (List.replicate n (.int 0)) [] :=
    v_f2 (v_frz (v_1 rfl)) (len none none []) (pRep_ok hn [])
  have b1 : sAsg (eNew (f2 pRep (eFrz (aCons (eC (.int 0)) aNil)) (eCall pLen (aCons (eVar 0) aNil)))) (gN 1) [some (T n p), none, none] [] = .ok .nx [some (T n p), some (.ref 0), none] [.lst (List.replicate n (.int 0))] := by
    unfold sAsg eNew
    rw [rep]
    rfl
  have b2 : sFor (iRange (aCons (eCall pLen (aCons (eVar 0) aNil)) aNil)) (gN 2) stI [some (T n p), some (.ref 0), none] [.lst (List.replicate n (.int 0))] = .ok .nx [some (T n p), some (.ref 0), c] [.lst (Ts n (Mir.inv n p))] := by
    have it := i_range (n := n) (v_1 (len (some (.ref 0)) none [.lst (List.replicate n (.int 0))])) (by omega)
    refine s_for it ?_
    rw [List.range_eq_range']
    exact h3
  unfold stI at b2
  unfold F__law_inverse f__law_inverse
  exact f_ret (s_nx b1 (s_nx b2 (s_ret (v_call (v_1 (v_var rfl)) rfl))))
end Lw

namespace Mir
abbrev Lv := List (Nat × Nat × Nat)
def find : Lv → Nat → Option (Nat × Nat)
  | [], _ => none
  | (k, u, v) :: r, x => match Nat.beq k x with
    | true => some (u, v)
    | false => find r x
def sift (n : Nat) : List Lv → Nat → Nat → Nat × Nat
  | [], i, p => (i, p)
  | lv :: r, i, p => match find lv (dig p i) with
    | none => (i, p)
    | some (_, v) => sift n r (i + 1) (tmul n p v)
def ext (n j : Nat) (st : List Nat) : Nat → Lv → List (Nat × Nat) → Nat → List Nat → Option (Lv × Nat × List Nat)
  | 0, _, _, _, _ => none
  | _ + 1, lv, [], c, work => some (lv, c, work)
  | f + 1, lv, (x, s) :: w, c, work => match find lv x with
    | none => none
    | some (u, _) => match find lv (dig (tmul n u s) j) with
      | none => match Nat.ble (st.length + (w.length + lv.length)) 1000000 with
        | true => ext n j st f (lv ++ [(dig (tmul n u s) j, tmul n u s, inv n (tmul n u s))]) ((st.map (fun t => (dig (tmul n u s) j, t))).reverse ++ w) c work
        | false => none
      | some (u2, v2) => match Nat.beq (tmul n u s) u2 with
        | true => ext n j st f lv w c work
        | false => match Nat.ble c 1000000 with
          | true => ext n j st f lv w (c + 1) (tmul n (tmul n u s) v2 :: work)
          | false => none
/-- the first levels, as many as told -/
def exts (n r : Nat) : Nat → Nat → List Lv → List (List Nat) → Nat → List Nat → Option (List Lv × List (List Nat) × Nat × List Nat)
  | 0, _, lvs, sts, c, work => some (lvs, sts, c, work)
  | k + 1, j, lv :: lvs, st :: sts, c, work => match Nat.ble (st.length + lv.length) 1000000 with
    | true => match ext n j (st ++ [r]) 100000 lv ((lv.map fun e => (e.1, r)).reverse) c work with
      | none => none
      | some (lv2, c2, work2) => match exts n r k (j + 1) lvs sts c2 work2 with
        | none => none
        | some (a, b, c, d) => some (lv2 :: a, (st ++ [r]) :: b, c, d)
    | false => none
  | _, _, _, _, _, _ => none
def grow (n : Nat) : Nat → List Lv → List (List Nat) → Nat → List Nat → Option (List Lv)
  | 0, _, _, _, _ => none
  | _ + 1, lvs, _, _, [] => some lvs
  | f + 1, lvs, sts, c, p :: work => match sift n lvs 0 p with
    | (i, r) => match Nat.blt i n with
      | true => match exts n r (i + 1) 0 lvs sts (c - 1) work with
        | none => none
        | some (a, b, c, d) => grow n f a b c d
      | false => grow n f lvs sts (c - 1) work
def size (n : Nat) (gens : List Nat) : Option Nat := match grow n 100000 ((List.range n).map fun i => [(i, idM n, idM n)]) ((List.range n).map fun _ => []) gens.length gens.reverse with
  | some lvs => match lvs.all (fun l => Nat.ble l.length 1000000) with
    | true => some (lvs.foldl (fun a l => a * l.length) 1)
    | false => none
  | none => none
end Mir

namespace Lw
open PySem PySem.Spec PyProof.Rows L2 G Mir
/-! ### a level is a dict -/
def kv (n : Nat) (e : Nat × Nat × Nat) : LV × LV := (dI e.1, T n e.2.1)
def lvO (n : Nat) (lv : Mir.Lv) : LO := .dic false (lv.map (kv n))
theorem nbeq {k x : Nat} (h : k ≠ x) : Nat.beq k x = false := by
  cases e : Nat.beq k x with
  | false => rfl
  | true => exact absurd (Nat.eq_of_beq_eq_true e) h
theorem look_lv (n x : Nat) : ∀ lv : Mir.Lv, dLook (lv.map (kv n)) (.inl (.inl (x : Int))) = (Mir.find lv x).map fun e => T n e.1
  | [] => rfl
  | (k, u, v) :: r => by
    have ih := look_lv n x r
    unfold dLook at ih ⊢
    rw [List.map_cons, List.find?_cons]
    have kk : kkOf (kv n (k, u, v)).1 = some (.inl (.inl (k : Int))) := rfl
    rw [kk]
    unfold Mir.find
    by_cases h : k = x
    · subst h
      rw [Nat.beq_refl]
      simp [kv]
    · have hb : Nat.beq k x = false := nbeq h
      have hi : ¬ ((k : Int) = (x : Int)) := by omega
      rw [hb]
      simp only [Option.some.injEq, Sum.inl.injEq, hi, decide_false]
      exact ih
theorem any_lv (n x : Nat) : ∀ lv : Mir.Lv, ((lv.map (kv n)).any fun p => decide (kkOf p.1 = kkOf (dI x))) = (Mir.find lv x).isSome
  | [] => rfl
  | (k, u, v) :: r => by
    have ih := any_lv n x r
    rw [List.map_cons, List.any_cons, ih]
    have kk : kkOf (kv n (k, u, v)).1 = some (.inl (.inl (k : Int))) := rfl
    have kx : kkOf (dI x) = some (.inl (.inl (x : Int))) := rfl
    rw [kk, kx]
    conv => rhs; unfold Mir.find
    by_cases h : k = x
    · subst h
      rw [Nat.beq_refl]
      simp
    · have hb : Nat.beq k x = false := nbeq h
      have hi : ¬ ((k : Int) = (x : Int)) := by omega
      rw [hb]
      simp only [Option.some.injEq, Sum.inl.injEq, hi, decide_false, Bool.false_or]
section
variable {L : LH} {a n x : Nat} {lv : Mir.Lv}
theorem nin_lv (h : L[a]? = some (lvO n lv)) : pNin L (dI x) (.ref a) = some (.bl (!(Mir.find lv x).isSome)) := by
  have e : inB L (dI x) (.ref a) = some (Mir.find lv x).isSome := by
    show (match L[a]? with
    | some (.lst xs) => (match toPD L (dI x), toPDs L xs with
      | some d, some ds => G.guard (SeqAt.shaped d && SeqAt.shaped (.list ds)) (some (ds.any fun z => PyData.eqv z d))
      | _, _ => none)
    | some (.dic t kvs) => (dKey t (dI x)).map fun c => (dLook kvs c).isSome
    | _ => none) = _
    rw [h]
    show some (dLook (lv.map (kv n)) (.inl (.inl (x : Int)))).isSome = _
    rw [look_lv]
    cases Mir.find lv x <;> rfl
  unfold pNin
  rw [e]; rfl
theorem ix_lv {u v : Nat} (h : L[a]? = some (lvO n lv)) (hf : Mir.find lv x = some (u, v)) : pIx L (.ref a) (dI x) = some (T n u) := by
  show (match L[a]? with | some (.lst xs) => atI xs (x : Int) | some (.dic t kvs) => (dKey t (.int (x : Int))).bind fun c => dLook kvs c | _ => none) = _
  rw [h]
  show dLook (lv.map (kv n)) (.inl (.inl (x : Int))) = _
  rw [look_lv, hf]; rfl
theorem set_lv {u v : Nat} (h : L[a]? = some (lvO n lv)) (hf : Mir.find lv x = none) (hl : lv.length ≤ 1000000) : pSet L (.ref a) (dI x) (T n u) = some (L.set a (lvO n (lv ++ [(x, u, v)]))) := by
  have e : dSet (lv.map (kv n)) (dI x) (T n u) = (lv ++ [(x, u, v)]).map (kv n) := by
    unfold dSet
    rw [any_lv, hf, List.map_append]
    rfl
  show (match L[a]? with
    | some (.lst xs) => (ixN xs.length (x : Int)).map fun j => L.set a (.lst (xs.set j (T n u)))
    | some (.dic t kvs) => (match dKey t (dI x) with
      | some _ => G.guard (decide (kvs.length < sizeLine)) (some (L.set a (.dic t (dSet kvs (dI x) (T n u)))))
      | none => none)
    | _ => none) = _
  rw [h]
  show G.guard (decide ((lv.map (kv n)).length < sizeLine)) (some (L.set a (.dic false (dSet (lv.map (kv n)) (dI x) (T n u))))) = _
  rw [guard_t (decide_eq_true (by rw [List.length_map, sizeLine_eq]; omega)), e]
  rfl
end
def LvOk (n : Nat) (lv : Mir.Lv) : Prop := ∀ e ∈ lv, POk n e.2.1 ∧ e.2.2 = Mir.inv n e.2.1
theorem find_mem {x : Nat} : ∀ {lv : Mir.Lv} {u v : Nat}, Mir.find lv x = some (u, v) → (x, u, v) ∈ lv
  | [], u, v, h => by cases h
  | (k, u1, v1) :: r, u, v, h => by
    unfold Mir.find at h
    by_cases e : k = x
    · subst e
      rw [Nat.beq_refl] at h
      cases h
      exact List.mem_cons_self ..
    · have hb : Nat.beq k x = false := nbeq e
      rw [hb] at h
      exact List.mem_cons_of_mem _ (find_mem h)
theorem LvOk.at {n x u v : Nat} {lv : Mir.Lv} (H : LvOk n lv) (h : Mir.find lv x = some (u, v)) : POk n u ∧ v = Mir.inv n u := H _ (find_mem h)
/-! ### times and inverse in any heap -/
theorem blws_nats : ∀ ds : List Nat, blws 0 (ds.map dI) = true
  | [] => rfl
  | d :: r => by
    show (blw 0 (dI d) && blws 0 (r.map dI)) = true
    rw [blws_nats r]; rfl
theorem Ts_map (n p : Nat) : Ts n p = ((List.range n).map (dig p)).map dI := by simp [Ts, List.map_map, Function.comp_def]
theorem blw_T (n p : Nat) : blw 0 (T n p) = true := by
  show blws 0 (Ts n p) = true
  rw [Ts_map]; exact blws_nats _
theorem fzs_ints (L : LH) : ∀ (ds : List Nat) (d : Nat), ds.length < d → fzs L d (ds.map dI) = some (ds.map dI)
  | [], d, h => by obtain ⟨e, rfl⟩ : ∃ e, d = e + 1 := ⟨d - 1, by omega⟩; rfl
  | x :: r, d, h => by
    rw [List.length_cons] at h
    obtain ⟨e, rfl⟩ : ∃ e, d = e + 2 := ⟨d - 2, by omega⟩
    show (match fz L (e + 1) (dI x), fzs L (e + 1) (r.map dI) with | some v', some r' => some (v' :: r') | _, _ => none) = _
    rw [fzs_ints L r (e + 1) (by omega)]
    rfl
theorem fz_T {n p : Nat} (hn : n ≤ 16) (L : LH) : fz L 200 (T n p) = some (T n p) := by
  show (fzs L 199 (Ts n p)).map LV.tup = _
  rw [Ts_map, fzs_ints L _ 199 (by simp; omega), ← Ts_map]
  rfl
theorem pure_ok {sem : Sem'} {lvs : List LV} {v : LV} {L L' : LH} (hb : blws 0 lvs = true) (h : sem lvs [] = .ok v L') (hz : fz L' 200 v = some v) : pureF 200 sem lvs L = .ok v L := by
  unfold pureF
  rw [if_pos hb, h]
  simp only [hz]
theorem timesP {n p q : Nat} (hn : n ≤ 16) (hp : POk n p) (L : LH) : pureF 200 F__law_times [T n p, T n q] L = .ok (T n (tmul n p q)) L :=
  pure_ok (by show (blw 0 (T n p) && (blw 0 (T n q) && true)) = true; rw [blw_T, blw_T]; rfl) (times_ok hn hp []) (fz_T hn _)
theorem inverseP {n p : Nat} (hn : n ≤ 16) (hp : POk n p) (L : LH) : pureF 200 F__law_inverse [T n p] L = .ok (T n (Mir.inv n p)) L := by
  obtain ⟨L2, h⟩ := inverse_ok hn hp
  exact pure_ok (by show (blw 0 (T n p) && true) = true; rw [blw_T]; rfl) h (fz_T hn _)
theorem ixT {n p i : Nat} (L : LH) (h : i < n) : pIx L (T n p) (dI i) = some (dI (dig p i)) := ix_T L h
theorem len_T (n p : Nat) (L : LH) : pLen L [T n p] = some (.int (n : Int)) := by
  show some (LV.int ((Ts n p).length : Int)) = _
  rw [Ts_len]
/-! ### sift -/
def sfT : LS := sIf (tOf (e2 pNin (e2 pIx (eVar 1) (eVar 2)) (e2 pIx (eVar 0) (eVar 2)))) (sRet (eTup (aCons (eVar 2) (aCons (eVar 1) aNil)))) sNop
def sfB : LS := sSeq sfT (sAsg (eFn (pureF 200 F__law_times) (aCons (eVar 1) (aCons (eFn (pureF 200 F__law_inverse) (aCons (e2 pIx (e2 pIx (eVar 0) (eVar 2)) (e2 pIx (eVar 1) (eVar 2))) aNil)) aNil))) (gN 1))
structure LevOk (n : Nat) (lvs : List Mir.Lv) (L : LH) : Prop where
  len : lvs.length = n
  z : ∃ Rs : List LV, L[0]? = some (.lst Rs) ∧ ∀ i, i < n → Rs[i]? = some (.ref (1 + i))
  d : ∀ i lv, lvs[i]? = some lv → L[1 + i]? = some (lvO n lv)
  ok : ∀ lv ∈ lvs, LvOk n lv
theorem sift_loop {n : Nat} {lvs : List Mir.Lv} {L : LH} (hn : n ≤ 16) (H : LevOk n lvs L) : ∀ (suf : List Mir.Lv) (i p : Nat) (c : Option LV), i + suf.length = n → (∀ k, suf[k]? = lvs[i + k]?) → POk n p →
    ∃ (i2 r : Nat), Mir.sift n suf i p = (i2, r) ∧ POk n r ∧ ((i2 < n ∧ ∃ ls2, forL (gN 2) sfB always ((List.range' i suf.length).map dI) [some (.ref 0), some (T n p), c] L = .ok (.rt (.tup [dI i2, T n r])) ls2 L) ∨
      (i2 = n ∧ ∃ c', forL (gN 2) sfB always ((List.range' i suf.length).map dI) [some (.ref 0), some (T n p), c] L = .ok .nx [some (.ref 0), some (T n r), c'] L))
  | [], i, p, c, hi, hs, hp => ⟨i, p, rfl, hp, .inr ⟨by simpa using hi, c, rfl⟩⟩
  | lv :: suf, i, p, c, hi, hs, hp => by
    rw [List.length_cons] at hi
    have hin : i < n := by omega
    obtain ⟨Rs, hR, hr⟩ := H.z
    have h0 : lvs[i]? = some lv := by have := hs 0; simpa using this.symm
    have hd := H.d i lv h0
    have hlv := H.ok lv (List.mem_of_getElem? h0)
    have x1 : e2 pIx (eVar 1) (eVar 2) [some (.ref 0), some (T n p), some (dI i)] L = .ok (dI (dig p i)) L := v_2 (v_var rfl) (v_var rfl) (ixT L hin)
    have x0 : e2 pIx (eVar 0) (eVar 2) [some (.ref 0), some (T n p), some (dI i)] L = .ok (.ref (1 + i)) L := v_2 (v_var rfl) (v_var rfl) (ix_ref hR (hr i hin))
    have xt : tOf (e2 pNin (e2 pIx (eVar 1) (eVar 2)) (e2 pIx (eVar 0) (eVar 2))) [some (.ref 0), some (T n p), some (dI i)] L = .ok (!(Mir.find lv (dig p i)).isSome) L := t_of (v_2 x1 x0 (nin_lv hd))
    rw [List.length_cons, List.range'_succ, List.map_cons]
    cases hf : Mir.find lv (dig p i) with
    | none =>
      rw [hf] at xt
      refine ⟨i, p, by simp only [Mir.sift, hf], hp, .inl ⟨hin, [some (.ref 0), some (T n p), some (dI i)], ?_⟩⟩
      refine l_rt (ls1 := [some (.ref 0), some (T n p), some (dI i)]) rfl ?_
      exact s_rt (s_ift xt (s_ret (v_tup (v_cons (v_var rfl) (v_cons (v_var rfl) v_nil)))))
    | some e =>
      obtain ⟨u, v⟩ := e
      rw [hf] at xt
      obtain ⟨hu, hv⟩ := hlv.at hf
      have hv' : POk n v := by rw [hv]; exact hu.inv hn
      obtain ⟨i2, r, e1, e2', e3⟩ := sift_loop hn H suf (i + 1) (tmul n p v) (some (dI i)) (by omega) (fun k => by have := hs (k + 1); rw [List.getElem?_cons_succ] at this; rw [this]; congr 1; omega) (hp.mul hv')
      have st : sfB [some (.ref 0), some (T n p), some (dI i)] L = .ok .nx [some (.ref 0), some (T n (tmul n p v)), some (dI i)] L := by
        refine s_nx (s_iff xt (show sNop _ _ = _ from rfl)) ?_
        refine s_asg (v_fn (v_cons (v_var rfl) (v_1 (v_fn (v_1 (v_2 x0 x1 (ix_lv hd hf))) (inverseP hn hu L)))) (timesP hn hp L)) ?_
        rw [← hv]; rfl
      refine ⟨i2, r, by simp only [Mir.sift, hf]; exact e1, e2', ?_⟩
      rcases e3 with ⟨h1, ls2, h2⟩ | ⟨h1, c', h2⟩
      · exact .inl ⟨h1, ls2, l_nx (ls1 := [some (.ref 0), some (T n p), some (dI i)]) rfl st rfl h2⟩
      · exact .inr ⟨h1, c', l_nx (ls1 := [some (.ref 0), some (T n p), some (dI i)]) rfl st rfl h2⟩
theorem sift_ok {n p : Nat} {lvs : List Mir.Lv} {L : LH} (hn : n ≤ 16) (H : LevOk n lvs L) (hp : POk n p) : ∃ i r, Mir.sift n lvs 0 p = (i, r) ∧ POk n r ∧ i ≤ n ∧ F__law_sift [.ref 0, T n p] L = .ok (.tup [dI i, T n r]) L := by
  obtain ⟨i, r, h1, h2, h3⟩ := sift_loop hn H lvs 0 p none (by simp [H.len]) (fun k => by rw [Nat.zero_add]) hp
  refine ⟨i, r, h1, h2, ?_⟩
  have it : iRange (aCons (eCall pLen (aCons (eVar 1) aNil)) aNil) [some (.ref 0), some (T n p), none] L = .ok ((List.range' 0 lvs.length).map dI, always) L := by
    rw [H.len, ← List.range_eq_range']
    exact i_range (v_1 (v_call (v_1 (v_var rfl)) (len_T n p L))) (by omega)
  unfold F__law_sift f__law_sift
  rcases h3 with ⟨h4, ls2, h5⟩ | ⟨h4, c', h5⟩
  · exact ⟨by omega, f_ret (s_rt (s_for it h5))⟩
  · subst h4
    refine ⟨by omega, f_ret (s_nx (s_for it h5) (s_ret (v_tup (v_cons (v_call (v_1 (v_var rfl)) (len_T _ r L)) (v_1 (v_var rfl))))))⟩
    
end Lw

namespace Lw
open PySem PySem.Spec PyProof.Rows L2 G Mir
/-! ### comparing two permutations -/
def pdI (d : Nat) : PyData := .int (d : Int)
theorem pds_ints (L : LH) : ∀ ds : List Nat, toPDs L (ds.map dI) = some (ds.map pdI)
  | [] => rfl
  | d :: r => by
    show (match toPD L (dI d), toPDs L (r.map dI) with | some d, some ds => some (d :: ds) | _, _ => none) = _
    rw [pds_ints L r]; rfl
theorem lay_ints : ∀ ds : List Nat, PyData.canLayAll0 (ds.map pdI) = true
  | [] => rfl
  | d :: r => by
    rw [List.map_cons]
    unfold PyData.canLayAll0
    rw [lay_ints r]; rfl
theorem dep_ints : ∀ ds : List Nat, PyData.depthAll (ds.map pdI) = 0
  | [] => rfl
  | d :: r => by
    rw [List.map_cons]
    unfold PyData.depthAll
    rw [dep_ints r]; rfl
theorem eqv_ints : ∀ as bs : List Nat, PyData.eqvAll (as.map pdI) (bs.map pdI) = decide (as = bs)
  | [], [] => rfl
  | [], b :: s => rfl
  | a :: r, [] => rfl
  | a :: r, b :: s => by
    rw [List.map_cons, List.map_cons]
    unfold PyData.eqvAll
    rw [eqv_ints r s]
    have e : PyData.eqv (pdI a) (pdI b) = decide (a = b) := by
      show ((a : Int) == (b : Int)) = _
      by_cases h : a = b
      · subst h; simp
      · have h2 : (a : Int) ≠ (b : Int) := by omega
        rw [beq_eq_false_iff_ne.mpr h2, decide_eq_false h]
    rw [e]
    by_cases h : a = b <;> by_cases h2 : r = s <;> simp [h, h2]
theorem ne_ints (L : LH) (as bs : List Nat) : pNe L (.tup (as.map dI)) (.tup (bs.map dI)) = some (.bl (!decide (as = bs))) := by
  have pd : ∀ cs : List Nat, toPD' L (.tup (cs.map dI)) = some (.tuple (cs.map pdI)) := fun cs => by
    show (toPDs L (cs.map dI)).map PyData.tuple = _
    rw [pds_ints]; rfl
  have sh : ∀ cs : List Nat, SeqAt.shaped (.tuple (cs.map pdI)) = true := fun cs => by
    unfold SeqAt.shaped
    have e1 : PyData.canLay0 (.tuple (cs.map pdI)) = true := by unfold PyData.canLay0; exact lay_ints cs
    have e2 : PyData.depth (.tuple (cs.map pdI)) = 1 := by unfold PyData.depth; rw [dep_ints]
    rw [e1, e2]; rfl
  unfold pNe eqB
  rw [pd, pd]
  simp only [sh, Bool.and_self, guard_t]
  have e3 : PyData.eqv (.tuple (as.map pdI)) (.tuple (bs.map pdI)) = decide (as = bs) := by
    unfold PyData.eqv; exact eqv_ints as bs
  rw [e3]; rfl
theorem ne_T {n p q : Nat} (hp : POk n p) (hq : POk n q) (L : LH) : pNe L (T n p) (T n q) = some (.bl (!decide (p = q))) := by
  have e := ne_ints L ((List.range n).map (dig p)) ((List.range n).map (dig q))
  rw [← Ts_map, ← Ts_map] at e
  unfold T
  rw [e]
  have : ((List.range n).map (dig p) = (List.range n).map (dig q)) ↔ p = q := by
    constructor
    · intro h
      refine dig_ext n p q hp.lt hq.lt fun i hi => ?_
      have := congrArg (fun l => l[i]?) h
      simp only [List.getElem?_map, List.getElem?_range hi, Option.map_some] at this
      exact Option.some.inj this
    · intro h; rw [h]
  by_cases h : p = q
  · rw [decide_eq_true h, decide_eq_true (this.mpr h)]
  · rw [decide_eq_false h, decide_eq_false (fun z => h (this.mp z))]
theorem T_id {n : Nat} (hn : n ≤ 16) : (List.range n).map (fun (i : Nat) => LV.int (i : Int)) = Ts n (idM n) := by
  unfold Ts
  refine List.map_congr_left fun i hi => ?_
  rw [dig_id hn (List.mem_range.mp hi)]
  rfl
theorem v_rg1 {f : LE} {ls : LSt} {L L1 : LH} {j : Int} (h : f ls L = .ok (.int j) L1) (h1 : smallI j = true) (h2 : j.toNat ≤ 16777216) : rg1 f ls L = .ok (0, j) L1 := by
  have e : (2 : Nat) ^ 24 = 16777216 := by decide
  unfold rg1
  rw [h]
  simp only [Res.bind]
  rw [if_pos ⟨h1, by rw [e]; exact h2⟩]
theorem rg_id {n : Nat} (hn : n ≤ 16) {f : LE} {ls : LSt} {L L1 : LH} (h : f ls L = .ok (.int (n : Int)) L1) : eTup (fRg (rg1 f)) ls L = .ok (T n (idM n)) L1 := by
  have e : rg1 f ls L = .ok (0, (n : Int)) L1 := v_rg1 h (small_nat (by omega)) (by rw [Int.toNat_natCast]; omega)
  refine v_tup ?_
  unfold fRg
  rw [e]
  simp only [Res.bind]
  rw [Int.sub_zero, rangeL_nat, T_id hn]
/-! ### the heap of a walk of extend -/
def HP (L : LH) (la sa wa : Nat) (a b c w : LO) : LH := (((L.set la a).set sa b).set wa c) ++ [w]
structure Pl (la sa wa N : Nat) : Prop where
  a : la < N
  b : sa < N
  c : wa < N
  ab : la ≠ sa
  ac : la ≠ wa
  bc : sa ≠ wa
  a0 : 0 < la
  b0 : 0 < sa
  c0 : 0 < wa
section
variable {L : LH} {la sa wa : Nat} (P : Pl la sa wa L.length) (a b c w : LO)
include P
theorem hp_a : (HP L la sa wa a b c w)[la]? = some a := by
  have h1 := P.a; have h2 := P.ab; have h3 := P.ac
  unfold HP
  rw [List.getElem?_append_left (by simp; exact h1), List.getElem?_set_ne (Ne.symm h3), List.getElem?_set_ne (Ne.symm h2), List.getElem?_set_self h1]
theorem hp_b : (HP L la sa wa a b c w)[sa]? = some b := by
  have h1 := P.b; have h3 := P.bc
  unfold HP
  rw [List.getElem?_append_left (by simp; exact h1), List.getElem?_set_ne (Ne.symm h3), List.getElem?_set_self (by simp; exact h1)]
theorem hp_c : (HP L la sa wa a b c w)[wa]? = some c := by
  have h1 := P.c
  unfold HP
  rw [List.getElem?_append_left (by simp; exact h1), List.getElem?_set_self (by simp; exact h1)]
theorem hp_w : (HP L la sa wa a b c w)[L.length]? = some w := by
  unfold HP
  rw [List.getElem?_append_right (by simp)]
  simp
theorem hp_0 {o : LO} (h : L[0]? = some o) : (HP L la sa wa a b c w)[0]? = some o := by
  have h0 : 0 < L.length := (List.getElem?_eq_some_iff.mp h).1
  unfold HP
  rw [List.getElem?_append_left (by simp; exact h0), List.getElem?_set_ne (by have := P.c0; omega), List.getElem?_set_ne (by have := P.b0; omega), List.getElem?_set_ne (by have := P.a0; omega), h]
theorem hp_sa (a2 : LO) : (HP L la sa wa a b c w).set la a2 = HP L la sa wa a2 b c w := by
  have h1 := P.a; have h2 := P.ab; have h3 := P.ac
  unfold HP
  rw [List.set_append_left _ _ (by simp; exact h1), List.set_comm _ _ (Ne.symm h3), List.set_comm _ _ (Ne.symm h2), List.set_set]
theorem hp_sc (c2 : LO) : (HP L la sa wa a b c w).set wa c2 = HP L la sa wa a b c2 w := by
  have h1 := P.c
  unfold HP
  rw [List.set_append_left _ _ (by simp; exact h1), List.set_set]
theorem hp_sw (w2 : LO) : (HP L la sa wa a b c w).set L.length w2 = HP L la sa wa a b c w2 := by
  unfold HP
  rw [List.set_append_right _ _ (by simp)]
  simp
theorem hp_len : (HP L la sa wa a b c w).length = L.length + 1 := by simp [HP]
end
def stO (n : Nat) (st : List Nat) : LO := .lst (st.map (T n))
def wkO (n : Nat) (work : List Nat) : LO := .lst (work.reverse.map (T n))
def pr (n : Nat) (e : Nat × Nat) : LV := .tup [dI e.1, T n e.2]
def wtO (n : Nat) (w : List (Nat × Nat)) : LO := .lst (w.reverse.map (pr n))
def xB1 : LS := sAsg (eMeth "list" pPop (eVar 5) aNil) (gTp 2 (gCs (gN 6) (gCs (gN 7) gNl)))
def xB2 : LS := sAsg (eFn (pureF 200 F__law_times) (aCons (e2 pIx (e2 pIx (eVar 0) (eVar 2)) (eVar 6)) (aCons (eVar 7) aNil))) (gN 8)
def xC : LT := tOf (e2 pNin (e2 pIx (eVar 8) (eVar 2)) (e2 pIx (eVar 0) (eVar 2)))
def xT1 : LS := sSet (e2 pIx (eVar 0) (eVar 2)) (e2 pIx (eVar 8) (eVar 2)) (eVar 8)
def xT2 : LS := sExpr (eMeth "list" pExtend (eVar 5) (aCons (eFrz (fComp (iOf (e2 pIx (eVar 1) (eVar 2))) (gN 10) tYesL (eTup (aCons (e2 pIx (eVar 8) (eVar 2)) (aCons (eVar 10) aNil))) [10])) aNil))
def xE1 : LS := sAsg (eFn (pureF 200 F__law_times) (aCons (eVar 8) (aCons (eFn (pureF 200 F__law_inverse) (aCons (e2 pIx (e2 pIx (eVar 0) (eVar 2)) (e2 pIx (eVar 8) (eVar 2))) aNil)) aNil))) (gN 9)
def xE2 : LS := sIf (tOf (e2 pNe (eVar 9) (eTup (fRg (rg1 (eCall pLen (aCons (eVar 3) aNil))))))) (sExpr (eMeth "list" pAppend (eVar 4) (aCons (eVar 9) aNil))) sNop
def xB : LS := sSeq xB1 (sSeq xB2 (sIf xC (sSeq xT1 xT2) (sSeq xE1 xE2)))
def xW : LT := tOf (e2 pGt (eCall pLen (aCons (eVar 5) aNil)) (eC (.int 0)))
section
variable {L : LH} {la sa wa n j r0 : Nat} {Rs Ss : List LV}
def lsE (Ss : List LV) (n j r0 wa q : Nat) (x s m r t : Option LV) : LSt := [some (.ref 0), some (.lst Ss), some (dI j), some (T n r0), some (.ref wa), some (.ref q), x, s, m, r, t]
structure Xok (L : LH) (la sa wa n j r0 : Nat) (Rs Ss : List LV) : Prop where
  hn : n ≤ 16
  hj : j < n
  P : Pl la sa wa L.length
  h0 : L[0]? = some (.lst Rs)
  hR : Rs[j]? = some (.ref la)
  hS : Ss[j]? = some (.ref sa)
  hr : POk n r0
theorem pGt_ii (L : LH) (i j : Int) : pGt L (.int i) (.int j) = some (.bl (decide (j < i))) := rfl
theorem ext_loop (X : Xok L la sa wa n j r0 Rs Ss) {st : List Nat} (hst : ∀ s ∈ st, POk n s) : ∀ (f N : Nat) (lv : Mir.Lv) (w : List (Nat × Nat)) (c : Nat) (work : List Nat) (lv2 : Mir.Lv) (c2 : Nat) (work2 : List Nat),
    Mir.ext n j st f lv w c work = some (lv2, c2, work2) → f ≤ N → work.length ≤ c → LvOk n lv → (∀ e ∈ w, POk n e.2) → (∀ p ∈ work, POk n p) → ∀ x s m r t,
    (work2.length ≤ c2 ∧ LvOk n lv2 ∧ (∀ p ∈ work2, POk n p)) ∧ ∃ ls2, sWhile N xW xB (lsE Ss n j r0 wa L.length x s m r t) (HP L la sa wa (lvO n lv) (stO n st) (wkO n work) (wtO n w)) = .ok .nx ls2 (HP L la sa wa (lvO n lv2) (stO n st) (wkO n work2) (wtO n []))
  | 0, _, _, _, _, _, _, _, _, h, _, _, _, _, _ => by cases h
  | f + 1, N, lv, [], c, work, lv2, c2, work2, h, hN, hc, hlv, hw, hk => fun x s m r t => by
    obtain ⟨N, rfl⟩ : ∃ M, N = M + 1 := ⟨N - 1, by omega⟩
    simp only [Mir.ext, Option.some.injEq, Prod.mk.injEq] at h
    obtain ⟨rfl, rfl, rfl⟩ := h
    refine ⟨⟨hc, hlv, hk⟩, _, s_while_end (t_of (v_2 (v_call (v_1 (v_var rfl)) (len_ref (hp_w X.P ..))) rfl ?_))⟩
    rw [pGt_ii]; rfl
  | f + 1, N, lv, (x0, s0) :: w, c, work, lv2, c2, work2, h, hN, hc, hlv, hw, hk => fun x s m r t => by
    obtain ⟨N, rfl⟩ : ∃ M, N = M + 1 := ⟨N - 1, by omega⟩
    have hs0 : POk n s0 := hw (x0, s0) (List.mem_cons_self ..)
    have hw' : ∀ e ∈ w, POk n e.2 := fun e he => hw e (List.mem_cons_of_mem _ he)
    unfold Mir.ext at h
    cases hf : Mir.find lv x0 with
    | none => rw [hf] at h; cases h
    | some uv =>
      obtain ⟨u, v⟩ := uv
      obtain ⟨hu, hv⟩ := hlv.at hf
      rw [hf] at h
      dsimp only at h
      have hm : POk n (tmul n u s0) := hu.mul hs0
      have hsplit : wtO n ((x0, s0) :: w) = .lst (w.reverse.map (pr n) ++ [pr n (x0, s0)]) := by unfold wtO; rw [List.reverse_cons, List.map_append]; rfl
      -- the test
      have tw : xW (lsE Ss n j r0 wa L.length x s m r t) (HP L la sa wa (lvO n lv) (stO n st) (wkO n work) (wtO n ((x0, s0) :: w))) = .ok true (HP L la sa wa (lvO n lv) (stO n st) (wkO n work) (wtO n ((x0, s0) :: w))) := by
        refine t_of (v_2 (v_call (v_1 (v_var rfl)) (len_ref (hp_w X.P ..))) rfl ?_)
        rw [pGt_ii]
        simp
      -- the pop
      have b1 : xB1 (lsE Ss n j r0 wa L.length x s m r t) (HP L la sa wa (lvO n lv) (stO n st) (wkO n work) (wtO n ((x0, s0) :: w))) = .ok .nx (lsE Ss n j r0 wa L.length (some (dI x0)) (some (T n s0)) m r t) (HP L la sa wa (lvO n lv) (stO n st) (wkO n work) (wtO n w)) := by
        have g := hp_w X.P (lvO n lv) (stO n st) (wkO n work) (wtO n ((x0, s0) :: w))
        rw [hsplit] at g ⊢
        have p := pop_ok g
        rw [hp_sw X.P] at p
        exact s_asg (v_meth (v_var rfl) (ty_ref g) v_nil p) rfl
      have z0 : ∀ (y1 y2 y3 y4 y5 : Option LV) (A B C D : LO), e2 pIx (eVar 0) (eVar 2) (lsE Ss n j r0 wa L.length y1 y2 y3 y4 y5) (HP L la sa wa A B C D) = .ok (.ref la) (HP L la sa wa A B C D) := fun y1 y2 y3 y4 y5 A B C D =>
        v_2 (v_var rfl) (v_var rfl) (ix_ref (hp_0 X.P A B C D X.h0) X.hR)
      have z8 : ∀ (y1 y2 y4 y5 : Option LV) (q : Nat) (L : LH), e2 pIx (eVar 8) (eVar 2) (lsE Ss n j r0 wa q y1 y2 (some (T n (tmul n u s0))) y4 y5) L = .ok (dI (dig (tmul n u s0) j)) L := fun y1 y2 y4 y5 q L =>
        v_2 (v_var rfl) (v_var rfl) (ixT L X.hj)
      have b2 : xB2 (lsE Ss n j r0 wa L.length (some (dI x0)) (some (T n s0)) m r t) (HP L la sa wa (lvO n lv) (stO n st) (wkO n work) (wtO n w)) = .ok .nx (lsE Ss n j r0 wa L.length (some (dI x0)) (some (T n s0)) (some (T n (tmul n u s0))) r t) (HP L la sa wa (lvO n lv) (stO n st) (wkO n work) (wtO n w)) :=
        s_asg (v_fn (v_cons (v_2 (z0 ..) (v_var rfl) (ix_lv (hp_a X.P ..) hf)) (v_1 (v_var rfl))) (timesP X.hn hu _)) rfl
      have tc : xC (lsE Ss n j r0 wa L.length (some (dI x0)) (some (T n s0)) (some (T n (tmul n u s0))) r t) (HP L la sa wa (lvO n lv) (stO n st) (wkO n work) (wtO n w)) = .ok (!(Mir.find lv (dig (tmul n u s0) j)).isSome) (HP L la sa wa (lvO n lv) (stO n st) (wkO n work) (wtO n w)) :=
        t_of (v_2 (z8 ..) (z0 ..) (nin_lv (hp_a X.P ..)))
      cases hf2 : Mir.find lv (dig (tmul n u s0) j) with
      | none =>
        rw [hf2] at h tc
        dsimp only at h
        cases hb : Nat.ble (st.length + (w.length + lv.length)) 1000000 with
        | false => rw [hb] at h; cases h
        | true =>
          rw [hb] at h
          dsimp only at h
          have hle := Nat.le_of_ble_eq_true hb
          have t1 : xT1 (lsE Ss n j r0 wa L.length (some (dI x0)) (some (T n s0)) (some (T n (tmul n u s0))) r t) (HP L la sa wa (lvO n lv) (stO n st) (wkO n work) (wtO n w)) = .ok .nx (lsE Ss n j r0 wa L.length (some (dI x0)) (some (T n s0)) (some (T n (tmul n u s0))) r t) (HP L la sa wa (lvO n (lv ++ [(dig (tmul n u s0) j, tmul n u s0, Mir.inv n (tmul n u s0))])) (stO n st) (wkO n work) (wtO n w)) := by
            have p := set_lv (v := Mir.inv n (tmul n u s0)) (u := tmul n u s0) (hp_a X.P (lvO n lv) (stO n st) (wkO n work) (wtO n w)) hf2 (by omega)
            rw [hp_sa X.P] at p
            exact s_set (v_var rfl) (z0 ..) (z8 ..) p
          have t2 : xT2 (lsE Ss n j r0 wa L.length (some (dI x0)) (some (T n s0)) (some (T n (tmul n u s0))) r t) (HP L la sa wa (lvO n (lv ++ [(dig (tmul n u s0) j, tmul n u s0, Mir.inv n (tmul n u s0))])) (stO n st) (wkO n work) (wtO n w)) = .ok .nx (lsE Ss n j r0 wa L.length (some (dI x0)) (some (T n s0)) (some (T n (tmul n u s0))) r t) (HP L la sa wa (lvO n (lv ++ [(dig (tmul n u s0) j, tmul n u s0, Mir.inv n (tmul n u s0))])) (stO n st) (wkO n work) (wtO n ((st.map fun t => (dig (tmul n u s0) j, t)).reverse ++ w))) := by
            have g := hp_w X.P (lvO n (lv ++ [(dig (tmul n u s0) j, tmul n u s0, Mir.inv n (tmul n u s0))])) (stO n st) (wkO n work) (wtO n w)
            have gb := hp_b X.P (lvO n (lv ++ [(dig (tmul n u s0) j, tmul n u s0, Mir.inv n (tmul n u s0))])) (stO n st) (wkO n work) (wtO n w)
            have p := extend_ok (ys := (st.map (T n)).map fun y => LV.tup [dI (dig (tmul n u s0) j), y]) g (by rw [sizeLine_eq]; simp only [List.length_map, List.length_reverse]; omega)
            rw [hp_sw X.P] at p
            have ew : LO.lst (w.reverse.map (pr n) ++ (st.map (T n)).map fun y => LV.tup [dI (dig (tmul n u s0) j), y]) = wtO n ((st.map fun t => (dig (tmul n u s0) j, t)).reverse ++ w) := by
              unfold wtO
              rw [List.reverse_append, List.reverse_reverse, List.map_append, List.map_map, List.map_map]
              rfl
            rw [ew] at p
            refine s_expr (v_meth (v_var rfl) (ty_ref g) (v_1 (v_frz (v_comp (i_of (v_2 (v_var rfl) (v_var rfl) (ix_lst X.hS)) (it_ref gb)) (by rw [sizeLine_eq]; simp only [List.length_map]; omega) (c_map (isLst_of gb) fun y hy => ⟨lsE Ss n j r0 wa L.length (some (dI x0)) (some (T n s0)) (some (T n (tmul n u s0))) r (some y), rfl, rfl, v_tup (v_cons (z8 ..) (v_1 (v_var rfl)))⟩)))) p)
          obtain ⟨h1, ls2, h2⟩ := ext_loop X hst f N _ _ c work lv2 c2 work2 h (by omega) hc (fun e he => by
            rcases List.mem_append.mp he with z | z
            · exact hlv e z
            · rw [List.mem_singleton] at z; subst z; exact ⟨hm, rfl⟩) (fun e he => by
            rcases List.mem_append.mp he with z | z
            · obtain ⟨t, ht, rfl⟩ := List.mem_map.mp (List.mem_reverse.mp z); exact hst t ht
            · exact hw' e z) hk (some (dI x0)) (some (T n s0)) (some (T n (tmul n u s0))) r t
          exact ⟨h1, ls2, s_while_nx tw (s_nx b1 (s_nx b2 (s_ift tc (s_nx t1 t2)))) h2⟩
      | some uv2 =>
        obtain ⟨u2, v2⟩ := uv2
        obtain ⟨hu2, hv2⟩ := hlv.at hf2
        rw [hf2] at h tc
        dsimp only at h
        have hiv : POk n v2 := by rw [hv2]; exact hu2.inv X.hn
        have e1 : xE1 (lsE Ss n j r0 wa L.length (some (dI x0)) (some (T n s0)) (some (T n (tmul n u s0))) r t) (HP L la sa wa (lvO n lv) (stO n st) (wkO n work) (wtO n w)) = .ok .nx (lsE Ss n j r0 wa L.length (some (dI x0)) (some (T n s0)) (some (T n (tmul n u s0))) (some (T n (tmul n (tmul n u s0) v2))) t) (HP L la sa wa (lvO n lv) (stO n st) (wkO n work) (wtO n w)) := by
          have p := timesP (q := v2) X.hn hm (HP L la sa wa (lvO n lv) (stO n st) (wkO n work) (wtO n w))
          have q := inverseP X.hn hu2 (HP L la sa wa (lvO n lv) (stO n st) (wkO n work) (wtO n w))
          rw [← hv2] at q
          exact s_asg (v_fn (v_cons (v_var rfl) (v_1 (v_fn (v_1 (v_2 (z0 ..) (z8 ..) (ix_lv (hp_a X.P ..) hf2))) q))) p) rfl
        have tn : tOf (e2 pNe (eVar 9) (eTup (fRg (rg1 (eCall pLen (aCons (eVar 3) aNil)))))) (lsE Ss n j r0 wa L.length (some (dI x0)) (some (T n s0)) (some (T n (tmul n u s0))) (some (T n (tmul n (tmul n u s0) v2))) t) (HP L la sa wa (lvO n lv) (stO n st) (wkO n work) (wtO n w)) = .ok (!decide (tmul n (tmul n u s0) v2 = idM n)) (HP L la sa wa (lvO n lv) (stO n st) (wkO n work) (wtO n w)) :=
          t_of (v_2 (v_var rfl) (rg_id X.hn (v_call (v_1 (v_var rfl)) (len_T n r0 _))) (ne_T (hm.mul hiv) (POk.id X.hn) _))
        have iff : tmul n (tmul n u s0) v2 = idM n ↔ tmul n u s0 = u2 := by rw [hv2]; exact mul_inv_id X.hn hm hu2
        cases hq : Nat.beq (tmul n u s0) u2 with
        | true =>
          rw [hq] at h
          dsimp only at h
          rw [decide_eq_true (iff.mpr (Nat.eq_of_beq_eq_true hq))] at tn
          obtain ⟨h1, ls2, h2⟩ := ext_loop X hst f N _ _ c work lv2 c2 work2 h (by omega) hc hlv hw' hk (some (dI x0)) (some (T n s0)) (some (T n (tmul n u s0))) (some (T n (tmul n (tmul n u s0) v2))) t
          exact ⟨h1, ls2, s_while_nx tw (s_nx b1 (s_nx b2 (s_iff tc (s_nx e1 (s_iff tn rfl))))) h2⟩
        | false =>
          rw [hq] at h
          dsimp only at h
          have hne : ¬ tmul n (tmul n u s0) v2 = idM n := fun z => by
            rw [iff.mp z, Nat.beq_refl] at hq; cases hq
          rw [decide_eq_false hne] at tn
          cases hb : Nat.ble c 1000000 with
          | false => rw [hb] at h; cases h
          | true =>
            rw [hb] at h
            dsimp only at h
            have hle := Nat.le_of_ble_eq_true hb
            have e2' : xE2 (lsE Ss n j r0 wa L.length (some (dI x0)) (some (T n s0)) (some (T n (tmul n u s0))) (some (T n (tmul n (tmul n u s0) v2))) t) (HP L la sa wa (lvO n lv) (stO n st) (wkO n work) (wtO n w)) = .ok .nx (lsE Ss n j r0 wa L.length (some (dI x0)) (some (T n s0)) (some (T n (tmul n u s0))) (some (T n (tmul n (tmul n u s0) v2))) t) (HP L la sa wa (lvO n lv) (stO n st) (wkO n (tmul n (tmul n u s0) v2 :: work)) (wtO n w)) := by
              have g := hp_c X.P (lvO n lv) (stO n st) (wkO n work) (wtO n w)
              have p := append_ok (v := T n (tmul n (tmul n u s0) v2)) g (by rw [sizeLine_eq, List.length_map, List.length_reverse]; omega)
              rw [hp_sc X.P] at p
              have ew : LO.lst (work.reverse.map (T n) ++ [T n (tmul n (tmul n u s0) v2)]) = wkO n (tmul n (tmul n u s0) v2 :: work) := by
                unfold wkO; rw [List.reverse_cons, List.map_append]; rfl
              rw [ew] at p
              exact s_ift tn (s_expr (v_meth (v_var rfl) (ty_ref g) (v_1 (v_var rfl)) p))
            obtain ⟨h1, ls2, h2⟩ := ext_loop X hst f N _ _ _ _ lv2 c2 work2 h (by omega) (by rw [List.length_cons]; omega) hlv hw' (fun p hp => by
              rcases List.mem_cons.mp hp with z | z
              · rw [z]; exact hm.mul hiv
              · exact hk p z) (some (dI x0)) (some (T n s0)) (some (T n (tmul n u s0))) (some (T n (tmul n (tmul n u s0) v2))) t
            exact ⟨h1, ls2, s_while_nx tw (s_nx b1 (s_nx b2 (s_iff tc (s_nx e1 e2')))) h2⟩
end
end Lw

namespace Lw
open PySem PySem.Spec PyProof.Rows L2 G Mir
theorem set_id {α : Type} : ∀ {L : List α} {i : Nat} {x : α}, L[i]? = some x → L.set i x = L
  | [], i, x, h => rfl
  | y :: r, 0, x, h => by rw [List.getElem?_cons_zero] at h; cases h; rfl
  | y :: r, i + 1, x, h => by rw [List.getElem?_cons_succ] at h; rw [List.set_cons_succ, set_id h]
def yS1 : LS := sExpr (eMeth "list" pAppend (e2 pIx (eVar 1) (eVar 2)) (aCons (eVar 3) aNil))
def yS2a : LS := sAsg (eNew (fComp (iKeysL (e2 pIx (eVar 0) (eVar 2))) (gN 6) tYesL (eTup (aCons (eVar 6) (aCons (eVar 3) aNil))) [6])) (gN 5)
def yS2 : LS := sLock (selE (e2 pIx (eVar 0) (eVar 2))) yS2a
theorem f_extend_eq : f__law_extend = sSeq yS1 (sSeq yS2 (sWhile 100000 xW xB)) := rfl
theorem blw_lv {n N : Nat} : ∀ lv : Mir.Lv, blwD N (lv.map (kv n)) = true
  | [] => rfl
  | e :: r => by
    show (blw N (T n e.2.1) && blwD N (r.map (kv n))) = true
    rw [blw_lv r]
    have : ∀ ds : List Nat, blws N (ds.map dI) = true := fun ds => by
      induction ds with
      | nil => rfl
      | cons d r ih => show (blw N (dI d) && blws N (r.map dI)) = true; rw [ih]; rfl
    show (blws N (Ts n e.2.1) && true) = true
    rw [Ts_map, this]; rfl
theorem blwN_T (N n p : Nat) : blw N (T n p) = true := by
  have this : ∀ ds : List Nat, blws N (ds.map dI) = true := fun ds => by
    induction ds with
    | nil => rfl
    | cons d r ih => show (blw N (dI d) && blws N (r.map dI)) = true; rw [ih]; rfl
  show blws N (Ts n p) = true
  rw [Ts_map, this]
theorem blws_Ts (N n : Nat) : ∀ ps : List Nat, blws N (ps.map (T n)) = true
  | [] => rfl
  | p :: r => by
    show (blw N (T n p) && blws N (r.map (T n))) = true
    rw [blwN_T, blws_Ts N n r]; rfl
theorem s_lock {sel : LSt → LH → Option Nat} {f : LS} {ls ls2 : LSt} {L L2 : LH} {k : Nat} {t : Bool} {kvs : List (LV × LV)} {fl : Fl} (h1 : sel ls L = some k) (h2 : L[k]? = some (.dic t kvs)) (h3 : f ls (L.set k (.lkd t kvs)) = .ok fl ls2 L2) (h4 : k < L2.length) : sLock sel f ls L = .ok fl ls2 (L2.set k (.dic t kvs)) := by
  have h5 : lockAt L k = some (t, kvs) := by unfold lockAt; rw [h2]
  unfold sLock
  rw [h1]
  simp only [h5]
  rw [h3]
  simp only [if_pos h4]
theorem i_keys {f : LE} {ls : LSt} {L L1 : LH} {k : Nat} {kvs : List (LV × LV)} (h1 : f ls L = .ok (.ref k) L1) (h2 : L1[k]? = some (.lkd false kvs)) : iKeysL f ls L = .ok (kvs.map (·.1), always) L1 := by
  unfold iKeysL
  rw [h1]
  simp only [Res.bind, h2]
theorem sel_ok {f : LE} {ls : LSt} {L L1 : LH} {k : Nat} (h1 : f ls L = .ok (.ref k) L1) : selE f ls L = some k := by unfold selE; rw [h1]
section
variable {L : LH} {la sa wa n j r0 : Nat} {Rs Ss : List LV}
theorem extend_okT (X : Xok L la sa wa n j r0 Rs Ss) {lv lv2 : Mir.Lv} {st work work2 : List Nat} {c c2 : Nat} (ha : L[la]? = some (lvO n lv)) (hb : L[sa]? = some (stO n st)) (hcc : L[wa]? = some (wkO n work))
    (hst : ∀ s ∈ st, POk n s) (hlv : LvOk n lv) (hk : ∀ p ∈ work, POk n p) (hl : st.length + lv.length ≤ 1000000) (hw : work.length ≤ c)
    (h : Mir.ext n j (st ++ [r0]) 100000 lv ((lv.map fun e => (e.1, r0)).reverse) c work = some (lv2, c2, work2)) :
    (work2.length ≤ c2 ∧ LvOk n lv2 ∧ ∀ p ∈ work2, POk n p) ∧ thawF 200 F__law_extend [.ref 0, .lst Ss, dI j, T n r0, .ref wa] L = .ok .non (((L.set la (lvO n lv2)).set sa (stO n (st ++ [r0]))).set wa (wkO n work2)) := by
  have P := X.P
  have p1 := P.a; have p2 := P.b; have p3 := P.c
  obtain ⟨k1, ls9, k2⟩ := ext_loop X (st := st ++ [r0]) (fun s hs => by
    rcases List.mem_append.mp hs with z | z
    · exact hst s z
    · rw [List.mem_singleton] at z; rw [z]; exact X.hr) 100000 100000 lv _ c work lv2 c2 work2 h (Nat.le_refl _) hw hlv (fun e he => by
    obtain ⟨z, _, rfl⟩ := List.mem_map.mp (List.mem_reverse.mp he); exact X.hr) hk none none none none none
  refine ⟨k1, ?_⟩
  -- append
  have s1 : yS1 [some (.ref 0), some (.lst Ss), some (dI j), some (T n r0), some (.ref wa), none, none, none, none, none, none] L = .ok .nx [some (.ref 0), some (.lst Ss), some (dI j), some (T n r0), some (.ref wa), none, none, none, none, none, none] (L.set sa (stO n (st ++ [r0]))) := by
    have p := append_ok (v := T n r0) hb (by rw [sizeLine_eq, List.length_map]; omega)
    have e : LO.lst (st.map (T n) ++ [T n r0]) = stO n (st ++ [r0]) := by unfold stO; rw [List.map_append]; rfl
    rw [e] at p
    exact s_expr (v_meth (v_2 (v_var rfl) (v_var rfl) (ix_lst X.hS)) (ty_ref hb) (v_1 (v_var rfl)) p)
  have h0' : (L.set sa (stO n (st ++ [r0])))[0]? = some (.lst Rs) := by rw [List.getElem?_set_ne (by have := P.b0; omega)]; exact X.h0
  have ha' : (L.set sa (stO n (st ++ [r0])))[la]? = some (.dic false (lv.map (kv n))) := by rw [List.getElem?_set_ne (fun z => P.ab z.symm)]; exact ha
  have hl0 : ((L.set sa (stO n (st ++ [r0]))).set la (.lkd false (lv.map (kv n))))[0]? = some (.lst Rs) := by rw [List.getElem?_set_ne (by have := P.a0; omega)]; exact h0'
  have hla : ((L.set sa (stO n (st ++ [r0]))).set la (.lkd false (lv.map (kv n))))[la]? = some (.lkd false (lv.map (kv n))) := List.getElem?_set_self (by rw [List.length_set]; exact p1)
  have s2a : yS2a [some (.ref 0), some (.lst Ss), some (dI j), some (T n r0), some (.ref wa), none, none, none, none, none, none] ((L.set sa (stO n (st ++ [r0]))).set la (.lkd false (lv.map (kv n)))) = .ok .nx (lsE Ss n j r0 wa L.length none none none none none) (((L.set sa (stO n (st ++ [r0]))).set la (.lkd false (lv.map (kv n)))) ++ [wtO n ((lv.map fun e => (e.1, r0)).reverse)]) := by
    have e : LO.lst (((lv.map (kv n)).map (·.1)).map fun y => LV.tup [y, T n r0]) = wtO n ((lv.map fun e => (e.1, r0)).reverse) := by
      unfold wtO
      rw [List.reverse_reverse, List.map_map, List.map_map, List.map_map]
      rfl
    have c1 : fComp (iKeysL (e2 pIx (eVar 0) (eVar 2))) (gN 6) tYesL (eTup (aCons (eVar 6) (aCons (eVar 3) aNil))) [6] [some (.ref 0), some (.lst Ss), some (dI j), some (T n r0), some (.ref wa), none, none, none, none, none, none] ((L.set sa (stO n (st ++ [r0]))).set la (.lkd false (lv.map (kv n)))) = .ok (((lv.map (kv n)).map (·.1)).map fun y => LV.tup [y, T n r0]) ((L.set sa (stO n (st ++ [r0]))).set la (.lkd false (lv.map (kv n)))) :=
      v_comp (i_keys (v_2 (v_var rfl) (v_var rfl) (ix_ref hl0 X.hR)) hla) (by rw [sizeLine_eq]; simp only [List.length_map]; omega) (c_map rfl fun y hy => ⟨[some (.ref 0), some (.lst Ss), some (dI j), some (T n r0), some (.ref wa), none, some y, none, none, none, none], rfl, rfl, v_tup (v_cons (v_var rfl) (v_1 (v_var rfl)))⟩)
    have c2' := v_new c1
    rw [e] at c2'
    refine s_asg c2' ?_
    rw [List.length_set, List.length_set]
    rfl
  have s2 : yS2 [some (.ref 0), some (.lst Ss), some (dI j), some (T n r0), some (.ref wa), none, none, none, none, none, none] (L.set sa (stO n (st ++ [r0]))) = .ok .nx (lsE Ss n j r0 wa L.length none none none none none) (HP L la sa wa (lvO n lv) (stO n (st ++ [r0])) (wkO n work) (wtO n ((lv.map fun e => (e.1, r0)).reverse))) := by
    have q := s_lock (f := yS2a) (sel := selE (e2 pIx (eVar 0) (eVar 2))) (ls := [some (.ref 0), some (.lst Ss), some (dI j), some (T n r0), some (.ref wa), none, none, none, none, none, none]) (sel_ok (v_2 (v_var rfl) (v_var rfl) (ix_ref h0' X.hR))) ha' s2a (by simp; omega)
    have e : (((L.set sa (stO n (st ++ [r0]))).set la (.lkd false (lv.map (kv n)))) ++ [wtO n ((lv.map fun e => (e.1, r0)).reverse)]).set la (.dic false (lv.map (kv n))) = HP L la sa wa (lvO n lv) (stO n (st ++ [r0])) (wkO n work) (wtO n ((lv.map fun e => (e.1, r0)).reverse)) := by
      unfold HP
      rw [List.set_append_left _ _ (by simp; exact p1), List.set_set, List.set_comm _ _ (fun z => P.ab z.symm)]
      rw [set_id (L := (L.set la (lvO n lv)).set sa (stO n (st ++ [r0]))) (i := wa)]
      · rfl
      · rw [List.getElem?_set_ne P.bc, List.getElem?_set_ne P.ac]; exact hcc
    rw [e] at q
    exact q
  have all : F__law_extend [.ref 0, .lst Ss, dI j, T n r0, .ref wa] L = .ok .non ((((L.set la (lvO n lv2)).set sa (stO n (st ++ [r0]))).set wa (wkO n work2)) ++ [wtO n []]) := by
    unfold F__law_extend
    rw [f_extend_eq]
    exact f_nx (s_nx s1 (s_nx s2 k2))
  refine thaw_eq all (by simp) (fun k lo e => ?_) rfl
  rw [List.getElem?_set] at e
  split at e
  · split at e
    · cases e; exact .inr (blws_Ts _ n _)
    · cases e
  · rw [List.getElem?_set] at e
    split at e
    · split at e
      · cases e; exact .inr (blws_Ts _ n _)
      · cases e
    · rw [List.getElem?_set] at e
      split at e
      · cases e; exact .inr (blw_lv _)
      · exact .inl e
end
end Lw

namespace Lw
open PySem PySem.Spec PyProof.Rows L2 G Mir
theorem mid_get {α : Type} (P Q : List α) (a : α) {i : Nat} (h : i = P.length) : (P ++ a :: Q)[i]? = some a := by
  subst h
  rw [List.getElem?_append_right (Nat.le_refl _), Nat.sub_self]; rfl
theorem mid_set {α : Type} (P Q : List α) (a b : α) {i : Nat} (h : i = P.length) : (P ++ a :: Q).set i b = P ++ b :: Q := by
  subst h
  rw [List.set_append_right _ _ (Nat.le_refl _), Nat.sub_self]; rfl
def RsG (n : Nat) : List LV := (List.range n).map fun i => .ref (1 + i)
def SsG (n : Nat) : List LV := (List.range n).map fun i => .ref (1 + n + i)
def GH (n : Nat) (lvs : List Mir.Lv) (sts : List (List Nat)) (work : List Nat) : LH := .lst (RsG n) :: (lvs.map (lvO n) ++ (sts.map (stO n) ++ [wkO n work]))
theorem GH_len {n : Nat} {lvs : List Mir.Lv} {sts : List (List Nat)} {work : List Nat} (h1 : lvs.length = n) (h2 : sts.length = n) : (GH n lvs sts work).length = 2 + n + n := by
  unfold GH; simp only [List.length_cons, List.length_append, List.length_map, List.length_nil]; omega
theorem GH_a {n j : Nat} (pl ls : List Mir.Lv) (lv : Mir.Lv) (sts : List (List Nat)) (work : List Nat) (h : pl.length = j) : (GH n (pl ++ lv :: ls) sts work)[1 + j]? = some (lvO n lv) := by
  have e : GH n (pl ++ lv :: ls) sts work = (.lst (RsG n) :: pl.map (lvO n)) ++ lvO n lv :: (ls.map (lvO n) ++ (sts.map (stO n) ++ [wkO n work])) := by simp [GH]
  rw [e]
  exact mid_get _ _ _ (by simp; omega)
theorem GH_sa {n j : Nat} (pl ls : List Mir.Lv) (lv lv2 : Mir.Lv) (sts : List (List Nat)) (work : List Nat) (h : pl.length = j) : (GH n (pl ++ lv :: ls) sts work).set (1 + j) (lvO n lv2) = GH n (pl ++ lv2 :: ls) sts work := by
  have e : ∀ lv, GH n (pl ++ lv :: ls) sts work = (.lst (RsG n) :: pl.map (lvO n)) ++ lvO n lv :: (ls.map (lvO n) ++ (sts.map (stO n) ++ [wkO n work])) := fun lv => by simp [GH]
  rw [e, e]
  exact mid_set _ _ _ _ (by simp; omega)
theorem GH_b {n j : Nat} (lvs : List Mir.Lv) (ps ss : List (List Nat)) (st : List Nat) (work : List Nat) (hl : lvs.length = n) (h : ps.length = j) : (GH n lvs (ps ++ st :: ss) work)[1 + n + j]? = some (stO n st) := by
  have e : GH n lvs (ps ++ st :: ss) work = (.lst (RsG n) :: (lvs.map (lvO n) ++ ps.map (stO n))) ++ stO n st :: (ss.map (stO n) ++ [wkO n work]) := by simp [GH]
  rw [e]
  exact mid_get _ _ _ (by simp; omega)
theorem GH_sb {n j : Nat} (lvs : List Mir.Lv) (ps ss : List (List Nat)) (st st2 : List Nat) (work : List Nat) (hl : lvs.length = n) (h : ps.length = j) : (GH n lvs (ps ++ st :: ss) work).set (1 + n + j) (stO n st2) = GH n lvs (ps ++ st2 :: ss) work := by
  have e : ∀ st, GH n lvs (ps ++ st :: ss) work = (.lst (RsG n) :: (lvs.map (lvO n) ++ ps.map (stO n))) ++ stO n st :: (ss.map (stO n) ++ [wkO n work]) := fun st => by simp [GH]
  rw [e, e]
  exact mid_set _ _ _ _ (by simp; omega)
theorem GH_c {n : Nat} (lvs : List Mir.Lv) (sts : List (List Nat)) (work : List Nat) (hl : lvs.length = n) (h : sts.length = n) : (GH n lvs sts work)[1 + n + n]? = some (wkO n work) := by
  have e : GH n lvs sts work = (.lst (RsG n) :: (lvs.map (lvO n) ++ sts.map (stO n))) ++ wkO n work :: [] := by simp [GH]
  rw [e]
  exact mid_get _ _ _ (by simp; omega)
theorem GH_sc {n : Nat} (lvs : List Mir.Lv) (sts : List (List Nat)) (work work2 : List Nat) (hl : lvs.length = n) (h : sts.length = n) : (GH n lvs sts work).set (1 + n + n) (wkO n work2) = GH n lvs sts work2 := by
  have e : ∀ work, GH n lvs sts work = (.lst (RsG n) :: (lvs.map (lvO n) ++ sts.map (stO n))) ++ wkO n work :: [] := fun work => by simp [GH]
  rw [e, e]
  exact mid_set _ _ _ _ (by simp; omega)
theorem RsG_at {n i : Nat} (h : i < n) : (RsG n)[i]? = some (.ref (1 + i)) := by simp [RsG, List.getElem?_map, List.getElem?_range h]
theorem SsG_at {n i : Nat} (h : i < n) : (SsG n)[i]? = some (.ref (1 + n + i)) := by simp [SsG, List.getElem?_map, List.getElem?_range h]
def AllLv (n : Nat) (lvs : List Mir.Lv) : Prop := ∀ lv ∈ lvs, LvOk n lv
def AllSt (n : Nat) (sts : List (List Nat)) : Prop := ∀ st ∈ sts, ∀ s ∈ st, POk n s
theorem GH_lev {n : Nat} {lvs : List Mir.Lv} {sts : List (List Nat)} {work : List Nat} (h1 : lvs.length = n) (h : AllLv n lvs) : LevOk n lvs (GH n lvs sts work) :=
  ⟨h1, ⟨RsG n, rfl, fun i hi => RsG_at hi⟩, fun i lv e => by
    have hi := (List.getElem?_eq_some_iff.mp e).1
    show (GH n lvs sts work)[1 + i]? = _
    unfold GH
    rw [Nat.add_comm, List.getElem?_cons_succ, List.getElem?_append_left (by simp; exact hi), List.getElem?_map, e]; rfl, h⟩
noncomputable def gX : LS := sExpr (eFn (thawF 200 F__law_extend) (aCons (eVar 2) (aCons (eVar 4) (aCons (eVar 7) (aCons (eVar 6) (aCons (eVar 5) aNil))))))
def lsG (n : Nat) (a b i r jv : Option LV) : LSt := [a, b, some (.ref 0), i, some (.lst (SsG n)), some (.ref (1 + n + n)), r, jv]
theorem exts_ok {n r : Nat} (hn : n ≤ 16) (hr : POk n r) {a b iv : Option LV} : ∀ (k j : Nat) (pl ls : List Mir.Lv) (ps ss : List (List Nat)) (c : Nat) (work : List Nat) (A : List Mir.Lv) (B : List (List Nat)) (c2 : Nat) (D : List Nat),
    Mir.exts n r k j ls ss c work = some (A, B, c2, D) → pl.length = j → ps.length = j → j + ls.length = n → j + ss.length = n → AllLv n (pl ++ ls) → AllSt n (ps ++ ss) → (∀ p ∈ work, POk n p) → work.length ≤ c → ∀ jv,
    (A.length = ls.length ∧ B.length = ss.length ∧ AllLv n (pl ++ A) ∧ AllSt n (ps ++ B) ∧ (∀ p ∈ D, POk n p) ∧ D.length ≤ c2) ∧
    ∃ jv2, forL (gN 7) gX always ((List.range' j k).map dI) (lsG n a b iv (some (T n r)) jv) (GH n (pl ++ ls) (ps ++ ss) work) = .ok .nx (lsG n a b iv (some (T n r)) jv2) (GH n (pl ++ A) (ps ++ B) D)
  | 0, j, pl, ls, ps, ss, c, work, A, B, c2, D, h, h1, h2, h3, h4, h5, h6, h7, h8, jv => by
    simp only [Mir.exts, Option.some.injEq, Prod.mk.injEq] at h
    obtain ⟨rfl, rfl, rfl, rfl⟩ := h
    exact ⟨⟨rfl, rfl, h5, h6, h7, h8⟩, jv, rfl⟩
  | k + 1, j, pl, [], ps, ss, c, work, A, B, c2, D, h, h1, h2, h3, h4, h5, h6, h7, h8, jv => by simp [Mir.exts] at h
  | k + 1, j, pl, lv :: ls, ps, [], c, work, A, B, c2, D, h, h1, h2, h3, h4, h5, h6, h7, h8, jv => by simp [Mir.exts] at h
  | k + 1, j, pl, lv :: ls, ps, st :: ss, c, work, A, B, c2, D, h, h1, h2, h3, h4, h5, h6, h7, h8, jv => by
    unfold Mir.exts at h
    rw [List.length_cons] at h3 h4
    have hj : j < n := by omega
    cases hb : Nat.ble (st.length + lv.length) 1000000 with
    | false => rw [hb] at h; cases h
    | true =>
      rw [hb] at h
      dsimp only at h
      cases he : Mir.ext n j (st ++ [r]) 100000 lv ((lv.map fun e => (e.1, r)).reverse) c work with
      | none => rw [he] at h; cases h
      | some z =>
        obtain ⟨lv2, c3, work3⟩ := z
        rw [he] at h
        dsimp only at h
        cases hx : Mir.exts n r k (j + 1) ls ss c3 work3 with
        | none => rw [hx] at h; cases h
        | some y =>
          obtain ⟨A1, B1, c4, D1⟩ := y
          rw [hx] at h
          simp only [Option.some.injEq, Prod.mk.injEq] at h
          obtain ⟨rfl, rfl, rfl, rfl⟩ := h
          have len1 : (pl ++ lv :: ls).length = n := by simp; omega
          have len2 : (ps ++ st :: ss).length = n := by simp; omega
          have glen := GH_len (work := work) len1 len2
          have hst : ∀ s ∈ st, POk n s := h6 st (by simp)
          have X : Xok (GH n (pl ++ lv :: ls) (ps ++ st :: ss) work) (1 + j) (1 + n + j) (1 + n + n) n j r (RsG n) (SsG n) :=
            ⟨hn, hj, ⟨by omega, by omega, by omega, by omega, by omega, by omega, by omega, by omega, by omega⟩, rfl, RsG_at hj, SsG_at hj, hr⟩
          obtain ⟨⟨q1, q2, q3⟩, q4⟩ := extend_okT X (GH_a pl ls lv _ work h1) (GH_b _ ps ss st work len1 h2) (GH_c _ _ work len1 len2) hst (h5 lv (by simp)) h7 (Nat.le_of_ble_eq_true hb) h8 he
          have len1' : (pl ++ lv2 :: ls).length = n := by simp; omega
          have len2' : (ps ++ (st ++ [r]) :: ss).length = n := by simp; omega
          rw [GH_sa _ _ _ _ _ _ h1, GH_sb _ _ _ _ _ _ len1' h2, GH_sc _ _ _ _ len1' len2'] at q4
          obtain ⟨⟨g1, g2, g3, g4, g5, g6⟩, jv2, g7⟩ := exts_ok (a := a) (b := b) (iv := iv) hn hr k (j + 1) (pl ++ [lv2]) ls (ps ++ [st ++ [r]]) ss c3 work3 A1 B1 c4 D1 hx (by simp; omega) (by simp; omega) (by omega) (by omega) (fun l hl => by
            rw [List.append_assoc] at hl
            rcases List.mem_append.mp hl with z | z
            · exact h5 l (List.mem_append_left _ z)
            · rcases List.mem_cons.mp z with y | y
              · rw [y]; exact q2
              · exact h5 l (by simp; exact .inr (.inr y))) (fun l hl => by
            rw [List.append_assoc] at hl
            rcases List.mem_append.mp hl with z | z
            · exact h6 l (List.mem_append_left _ z)
            · rcases List.mem_cons.mp z with y | y
              · rw [y]
                intro s hs
                rcases List.mem_append.mp hs with x | x
                · exact hst s x
                · rw [List.mem_singleton] at x; rw [x]; exact hr
              · exact h6 l (by simp; exact .inr (.inr y))) q3 q1 (some (dI j))
          have ea : ∀ (x : Mir.Lv) (y : List Mir.Lv), pl ++ [x] ++ y = pl ++ x :: y := fun x y => by simp
          have eb : ∀ (x : List Nat) (y : List (List Nat)), ps ++ [x] ++ y = ps ++ x :: y := fun x y => by simp
          rw [ea] at g3
          rw [eb] at g4
          rw [ea, eb, ea, eb] at g7
          refine ⟨⟨by simp; exact g1, by simp; exact g2, g3, g4, g5, g6⟩, jv2, ?_⟩
          rw [List.range'_succ, List.map_cons]
          exact l_nx (ls1 := lsG n a b iv (some (T n r)) (some (dI j))) rfl (s_expr (v_fn (v_cons (v_var rfl) (v_cons (v_var rfl) (v_cons (v_var rfl) (v_cons (v_var rfl) (v_1 (v_var rfl)))))) q4)) rfl g7
def gW : LT := tOf (e2 pGt (eCall pLen (aCons (eVar 5) aNil)) (eC (.int 0)))
def gB1 : LS := sAsg (eFn F__law_sift (aCons (eVar 2) (aCons (eMeth "list" pPop (eVar 5) aNil) aNil))) (gTp 2 (gCs (gN 3) (gCs (gN 6) gNl)))
noncomputable def gB2 : LS := sIf (tOf (e2 pLt (eVar 3) (eVar 0))) (sFor (iRange (aCons (e2 pAdd (eVar 3) (eC (.int 1))) aNil)) (gN 7) gX) sNop
theorem pLt_ii' (L : LH) (i j : Int) : pLt L (.int i) (.int j) = some (.bl (decide (i < j))) := rfl
theorem pAdd_ii' (L : LH) (i j : Int) : pAdd L (.int i) (.int j) = some (.int (i + j)) := rfl
theorem grow_ok {n : Nat} (hn : n ≤ 16) {b : Option LV} : ∀ (f N : Nat) (lvs : List Mir.Lv) (sts : List (List Nat)) (c : Nat) (work : List Nat) (A : List Mir.Lv), Mir.grow n f lvs sts c work = some A → f ≤ N →
    lvs.length = n → sts.length = n → AllLv n lvs → AllSt n sts → (∀ p ∈ work, POk n p) → work.length ≤ c → ∀ iv r jv,
    A.length = n ∧ ∃ ls2 sts2, sWhile N gW (sSeq gB1 gB2) (lsG n (some (dI n)) b iv r jv) (GH n lvs sts work) = .ok .nx ls2 (GH n A sts2 []) ∧ ls2[2]? = some (some (.ref 0))
  | 0, _, _, _, _, _, _, h, _, _, _, _, _, _, _, _, _, _ => by cases h
  | f + 1, N, lvs, sts, c, [], A, h, hN, h1, h2, h3, h4, h5, h6, iv, r, jv => by
    obtain ⟨N, rfl⟩ : ∃ M, N = M + 1 := ⟨N - 1, by omega⟩
    simp only [Mir.grow, Option.some.injEq] at h
    subst h
    refine ⟨h1, _, sts, s_while_end (t_of (v_2 (v_call (v_1 (v_var rfl)) (len_ref (GH_c _ _ _ h1 h2))) rfl ?_)), rfl⟩
    rw [pGt_ii]; rfl
  | f + 1, N, lvs, sts, c, p :: work, A, h, hN, h1, h2, h3, h4, h5, h6, iv, r, jv => by
    obtain ⟨N, rfl⟩ : ∃ M, N = M + 1 := ⟨N - 1, by omega⟩
    have hp : POk n p := h5 p (List.mem_cons_self ..)
    have hw : ∀ q ∈ work, POk n q := fun q hq => h5 q (List.mem_cons_of_mem _ hq)
    rw [List.length_cons] at h6
    have tw : gW (lsG n (some (dI n)) b iv r jv) (GH n lvs sts (p :: work)) = .ok true (GH n lvs sts (p :: work)) := by
      refine t_of (v_2 (v_call (v_1 (v_var rfl)) (len_ref (GH_c _ _ _ h1 h2))) rfl ?_)
      rw [pGt_ii]
      simp
    have pp : eMeth "list" pPop (eVar 5) aNil (lsG n (some (dI n)) b iv r jv) (GH n lvs sts (p :: work)) = .ok (T n p) (GH n lvs sts work) := by
      have g := GH_c lvs sts (p :: work) h1 h2
      have e : wkO n (p :: work) = .lst (work.reverse.map (T n) ++ [T n p]) := by unfold wkO; rw [List.reverse_cons, List.map_append]; rfl
      rw [e] at g
      have q := pop_ok g
      rw [show LO.lst (work.reverse.map (T n)) = wkO n work from rfl, GH_sc _ _ _ _ h1 h2] at q
      exact v_meth (v_var rfl) (ty_ref g) v_nil q
    obtain ⟨i, s, k1, k2, k3, k4⟩ := sift_ok hn (GH_lev (sts := sts) (work := work) h1 h3) hp
    unfold Mir.grow at h
    rw [k1] at h
    dsimp only at h
    have b1 : gB1 (lsG n (some (dI n)) b iv r jv) (GH n lvs sts (p :: work)) = .ok .nx (lsG n (some (dI n)) b (some (dI i)) (some (T n s)) jv) (GH n lvs sts work) :=
      s_asg (v_fn (v_cons (v_var rfl) (v_1 pp)) k4) rfl
    have tl : tOf (e2 pLt (eVar 3) (eVar 0)) (lsG n (some (dI n)) b (some (dI i)) (some (T n s)) jv) (GH n lvs sts work) = .ok (Nat.blt i n) (GH n lvs sts work) := by
      refine t_of (v_2 (v_var rfl) (v_var rfl) ?_)
      unfold dI
      rw [pLt_ii']
      by_cases z : i < n
      · have z2 : Nat.blt i n = true := Nat.ble_eq_true_of_le z
        rw [z2, decide_eq_true (by omega)]
      · have z2 : Nat.blt i n = false := by
          cases y : Nat.blt i n with
          | false => rfl
          | true => exact absurd (Nat.le_of_ble_eq_true y) z
        rw [z2, decide_eq_false (by omega)]
    cases hb : Nat.blt i n with
    | false =>
      rw [hb] at h tl
      dsimp only at h
      obtain ⟨q1, ls2, sts2, q2, q3⟩ := grow_ok hn f N lvs sts (c - 1) work A h (by omega) h1 h2 h3 h4 hw (by omega) (some (dI i)) (some (T n s)) jv
      exact ⟨q1, ls2, sts2, s_while_nx tw (s_nx b1 (s_iff tl rfl)) q2, q3⟩
    | true =>
      rw [hb] at h tl
      dsimp only at h
      cases hx : Mir.exts n s (i + 1) 0 lvs sts (c - 1) work with
      | none => rw [hx] at h; cases h
      | some z =>
        obtain ⟨A1, B1, c1, D1⟩ := z
        rw [hx] at h
        dsimp only at h
        obtain ⟨⟨g1, g2, g3, g4, g5, g6⟩, jv2, g7⟩ := exts_ok (a := some (dI n)) (b := b) (iv := some (dI i)) hn k2 (i + 1) 0 [] lvs [] sts (c - 1) work A1 B1 c1 D1 hx rfl rfl (by omega) (by omega) h3 h4 hw (by omega) jv
        obtain ⟨q1, ls2, sts2, q2, q3⟩ := grow_ok hn f N A1 B1 c1 D1 A h (by omega) (by omega) (by omega) g3 g4 g5 g6 (some (dI i)) (some (T n s)) jv2
        refine ⟨q1, ls2, sts2, s_while_nx tw (s_nx b1 (s_ift tl (s_for (p := ((List.range' 0 (i + 1)).map dI, always)) ?_ g7))) q2, q3⟩
        rw [← List.range_eq_range']
        refine i_range (v_1 (v_2 (v_var rfl) rfl ?_)) (by omega)
        unfold dI
        rw [pAdd_ii']
        rfl
end Lw

namespace Lw
open PySem PySem.Spec PyProof.Rows L2 G Mir
/-! ### the beginning of grow -/
theorem s_assoc (a b c : LS) : sSeq a (sSeq b c) = sSeq (sSeq a b) c := by
  funext ls L
  unfold sSeq
  cases a ls L with
  | ok fl ls1 L1 => cases fl <;> rfl
  | err e ls1 L1 => rfl
  | bad => rfl
def gI1 : LS := sAsg (eNew aNil) (gN 2)
def gI2 : LS := sFor (iRange (aCons (eVar 0) aNil)) (gN 3) (sExpr (eMeth "list" pAppend (eVar 2) (aCons (eDic1K (eVar 3) (eTup (fRg (rg1 (eVar 0))))) aNil)))
def gI3 : LS := sAsg (eFrz (fComp (iRange (aCons (eVar 0) aNil)) (gN 3) tYesL (eNew aNil) [3])) (gN 4)
def gI4 : LS := sAsg (eNew (fCall pList (aCons (eVar 1) aNil))) (gN 5)
theorem f_grow_eq : f__law_grow = sSeq gI1 (sSeq gI2 (sSeq gI3 (sSeq gI4 (sSeq (sWhile 100000 gW (sSeq gB1 gB2)) (sRet (eVar 2)))))) := rfl
def lv0 (n : Nat) : List Mir.Lv := (List.range n).map fun i => [(i, idM n, idM n)]
def st0 (n : Nat) : List (List Nat) := (List.range n).map fun _ => []
def GI (n : Nat) : LH := .lst (RsG n) :: ((lv0 n).map (lvO n) ++ (st0 n).map (stO n))
def InitOk (n : Nat) : Prop := ∀ g : LV, sSeq gI1 (sSeq gI2 gI3) [some (dI n), some g, none, none, none, none, none, none] [] = .ok .nx [some (dI n), some g, some (.ref 0), some (dI (n - 1)), some (.lst (SsG n)), none, none, none] (GI n)
theorem in1 : InitOk 1 := fun g => by kernel_rfl
theorem in2 : InitOk 2 := fun g => by kernel_rfl
theorem in3 : InitOk 3 := fun g => by kernel_rfl
theorem in4 : InitOk 4 := fun g => by kernel_rfl
theorem in5 : InitOk 5 := fun g => by kernel_rfl
theorem in6 : InitOk 6 := fun g => by kernel_rfl
theorem in7 : InitOk 7 := fun g => by kernel_rfl
theorem in8 : InitOk 8 := fun g => by kernel_rfl
theorem in9 : InitOk 9 := fun g => by kernel_rfl
theorem in10 : InitOk 10 := fun g => by kernel_rfl
theorem in11 : InitOk 11 := fun g => by kernel_rfl
theorem in12 : InitOk 12 := fun g => by kernel_rfl
theorem in13 : InitOk 13 := fun g => by kernel_rfl
theorem in14 : InitOk 14 := fun g => by kernel_rfl
theorem in15 : InitOk 15 := fun g => by kernel_rfl
theorem in16 : InitOk 16 := fun g => by kernel_rfl
theorem init_ok {n : Nat} (h1 : 1 ≤ n) (h2 : n ≤ 16) : InitOk n := by
  have : n = 1 ∨ n = 2 ∨ n = 3 ∨ n = 4 ∨ n = 5 ∨ n = 6 ∨ n = 7 ∨ n = 8 ∨ n = 9 ∨ n = 10 ∨ n = 11 ∨ n = 12 ∨ n = 13 ∨ n = 14 ∨ n = 15 ∨ n = 16 := by omega
  rcases this with rfl | rfl | rfl | rfl | rfl | rfl | rfl | rfl | rfl | rfl | rfl | rfl | rfl | rfl | rfl | rfl
  · exact in1
  · exact in2
  · exact in3
  · exact in4
  · exact in5
  · exact in6
  · exact in7
  · exact in8
  · exact in9
  · exact in10
  · exact in11
  · exact in12
  · exact in13
  · exact in14
  · exact in15
  · exact in16
/-! ### the size -/
def szB : LS := sAsg (e2 pMul (eVar 1) (eCall pLen (aCons (eVar 2) aNil))) (gN 1)
theorem f_size_eq : f__law_size = sSeq (sAsg (eC (.int 1)) (gN 1)) (sSeq (sFor (iOf (eVar 0)) (gN 2) szB) (sRet (eVar 1))) := rfl
theorem len_dic {L : LH} {a : Nat} {t : Bool} {kvs : List (LV × LV)} (h : L[a]? = some (.dic t kvs)) : pLen L [.ref a] = some (.int kvs.length) := by
  show (match L[a]? with
    | some (.lst xs) => some (LV.int xs.length)
    | some (.dic _ kvs) => some (.int kvs.length)
    | _ => none) = _
  rw [h]
theorem pMul_ii' (L : LH) (i : Int) (j : Nat) (h : j ≤ 1000000) : pMul L (.int i) (.int (j : Int)) = some (.int (i * j)) := by
  have e : (2 : Int) ^ 64 = 18446744073709551616 := by decide
  show G.guard (decide ((-(2 ^ 64) < i ∧ i < 2 ^ 64) ∨ (-(2 ^ 64) < (j : Int) ∧ (j : Int) < 2 ^ 64))) (some (LV.int (i * j))) = _
  exact guard_t (decide_eq_true (.inr (by rw [e]; exact ⟨by omega, by omega⟩)))
theorem size_loop {n : Nat} {L : LH} {Rs : List LV} (hR : L[0]? = some (.lst Rs)) (a : Option LV) : ∀ (A : List Mir.Lv) (i acc : Nat) (c : Option LV), (∀ k lv, A[k]? = some lv → L[1 + (i + k)]? = some (lvO n lv)) → (∀ lv ∈ A, lv.length ≤ 1000000) →
    ∃ c2, forL (gN 2) szB (isLst 0 Rs) ((List.range' i A.length).map fun i => LV.ref (1 + i)) [a, some (dI acc), c] L = .ok .nx [a, some (dI (A.foldl (fun a l => a * l.length) acc)), c2] L
  | [], i, acc, c, h, hl => ⟨c, rfl⟩
  | lv :: A, i, acc, c, h, hl => by
    obtain ⟨c2, q⟩ := size_loop hR a A (i + 1) (acc * lv.length) (some (.ref (1 + i))) (fun k l e => by
      have := h (k + 1) l (by rw [List.getElem?_cons_succ]; exact e)
      rw [← this]; congr 1; omega) (fun l z => hl l (List.mem_cons_of_mem _ z))
    refine ⟨c2, ?_⟩
    rw [List.length_cons, List.range'_succ, List.map_cons]
    have hd := h 0 lv rfl
    have st : szB [a, some (dI acc), some (.ref (1 + i))] L = .ok .nx [a, some (dI (acc * lv.length)), some (.ref (1 + i))] L := by
      refine s_asg (v_2 (v_var rfl) (v_call (v_1 (v_var rfl)) (len_dic hd)) (pMul_ii' _ _ _ (by rw [List.length_map]; exact hl lv (List.mem_cons_self ..)))) ?_
      rw [List.length_map]
      have : dI (acc * lv.length) = LV.int ((acc : Int) * (lv.length : Int)) := by unfold dI; rw [Int.natCast_mul]
      rw [this]; rfl
    exact l_nx (ls1 := [a, some (dI acc), some (.ref (1 + i))]) rfl st (isLst_of hR) q
def okB (n p : Nat) : Bool := decide (p < 16 ^ n) && (List.range n).all fun i => decide (dig p i < n) && (List.range i).all fun j => decide (dig p j ≠ dig p i)
theorem okB_ok {n p : Nat} (h : okB n p = true) : POk n p := by
  unfold okB at h
  rw [Bool.and_eq_true] at h
  have h2 := List.all_eq_true.mp h.2
  have key : ∀ i j, i < n → j < i → dig p j ≠ dig p i := fun i j hi hj => by
    have := h2 i (List.mem_range.mpr hi)
    rw [Bool.and_eq_true] at this
    exact of_decide_eq_true (List.all_eq_true.mp this.2 j (List.mem_range.mpr hj))
  refine ⟨of_decide_eq_true h.1, fun i hi => ?_, fun i j hi hj e => ?_⟩
  · have := h2 i (List.mem_range.mpr hi)
    rw [Bool.and_eq_true] at this
    exact of_decide_eq_true this.1
  · rcases Nat.lt_trichotomy i j with z | z | z
    · exact absurd e (key j i hj z)
    · exact z
    · exact absurd e.symm (key i j hi z)
theorem size_ok {n z : Nat} {gs : List Nat} (h1 : 1 ≤ n) (hn : n ≤ 16) (hg : gs.all (okB n) = true) (hz : Mir.size n gs = some z) : ∃ L, growSize (n : Int) (gs.map (T n)) = .ok (dI z) L := by
  have hP : ∀ p ∈ gs, POk n p := fun p hp => okB_ok (List.all_eq_true.mp hg p hp)
  unfold Mir.size at hz
  cases hG : Mir.grow n 100000 ((List.range n).map fun i => [(i, idM n, idM n)]) ((List.range n).map fun _ => []) gs.length gs.reverse with
  | none => rw [hG] at hz; cases hz
  | some A =>
    rw [hG] at hz
    dsimp only at hz
    cases hA : A.all (fun l => Nat.ble l.length 1000000) with
    | false => rw [hA] at hz; cases hz
    | true =>
    rw [hA] at hz
    simp only [Option.some.injEq] at hz
    have hAl : ∀ lv ∈ A, lv.length ≤ 1000000 := fun lv z => Nat.le_of_ble_eq_true (List.all_eq_true.mp hA lv z)
    have l1 : (lv0 n).length = n := by simp [lv0]
    have l2 : (st0 n).length = n := by simp [st0]
    have idinv : idM n = Mir.inv n (idM n) := by
      have a := (mul_inv_id hn (POk.id hn) (POk.id hn)).mpr rfl
      have b : tmul n (idM n) (Mir.inv n (idM n)) = Mir.inv n (idM n) := by
        refine dig_ext n _ _ (tmul_lt _ _ _) ((POk.id hn).inv hn).lt fun i hi => ?_
        rw [dig_tmul hi, dig_id hn hi]
      exact a.symm.trans b
    obtain ⟨q1, ls2, sts2, q2, q3⟩ := grow_ok hn (b := some (.lst (gs.map (T n)))) 100000 100000 (lv0 n) (st0 n) gs.length gs.reverse A hG (Nat.le_refl _) l1 l2 (fun lv hlv => by
        obtain ⟨i, _, rfl⟩ := List.mem_map.mp hlv
        intro e he
        rw [List.mem_singleton] at he
        subst he
        exact ⟨POk.id hn, idinv⟩) (fun st hst => by
        obtain ⟨i, _, rfl⟩ := List.mem_map.mp hst
        intro s hs; cases hs) (fun p hp => hP p (List.mem_reverse.mp hp)) (by rw [List.length_reverse]; exact Nat.le_refl _) (some (dI (n - 1))) none none
    have b4 : gI4 [some (dI n), some (.lst (gs.map (T n))), some (.ref 0), some (dI (n - 1)), some (.lst (SsG n)), none, none, none] (GI n) = .ok .nx (lsG n (some (dI n)) (some (.lst (gs.map (T n)))) (some (dI (n - 1))) none none) (GH n (lv0 n) (st0 n) gs.reverse) := by
      have c1 := v_new (v_fcall (p := pList) (f := aCons (eVar 1) aNil) (ls := [some (dI n), some (.lst (gs.map (T n))), some (.ref 0), some (dI (n - 1)), some (.lst (SsG n)), none, none, none]) (L := GI n) (v_1 (v_var rfl)) (show pList _ [.lst (gs.map (T n))] = some (gs.map (T n)) from rfl))
      have e1 : GI n ++ [.lst (gs.map (T n))] = GH n (lv0 n) (st0 n) gs.reverse := by
        unfold GI GH wkO
        rw [List.reverse_reverse, List.cons_append, List.append_assoc]
      have e2 : (GI n).length = 1 + n + n := by
        unfold GI; simp only [List.length_cons, List.length_append, List.length_map, l1, l2]; omega
      rw [e1, e2] at c1
      exact s_asg c1 rfl
    have gr : F__law_grow [.int (n : Int), .lst (gs.map (T n))] [] = .ok (.ref 0) (GH n A sts2 []) := by
      unfold F__law_grow
      have e3 : ∀ R : LS, sSeq gI1 (sSeq gI2 (sSeq gI3 R)) = sSeq (sSeq gI1 (sSeq gI2 gI3)) R := fun R => by rw [s_assoc gI2 gI3 R, s_assoc gI1 (sSeq gI2 gI3) R]
      rw [f_grow_eq, e3]
      exact f_ret (s_nx (init_ok h1 hn _) (s_nx b4 (s_nx q2 (s_ret (v_var q3)))))
    obtain ⟨c2, q4⟩ := size_loop (n := n) (L := GH n A sts2 []) (Rs := RsG n) rfl (some (.ref 0)) A 0 1 none (fun k lv e => by
      have hk := (List.getElem?_eq_some_iff.mp e).1
      unfold GH
      rw [Nat.zero_add, Nat.add_comm, List.getElem?_cons_succ, List.getElem?_append_left (by simp; exact hk), List.getElem?_map, e]; rfl) hAl
    have e4 : (List.range' 0 A.length).map (fun i => LV.ref (1 + i)) = RsG n := by rw [q1, ← List.range_eq_range']; rfl
    rw [e4, hz] at q4
    refine ⟨GH n A sts2 [], ?_⟩
    unfold growSize
    rw [gr]
    show F__law_size [.ref 0] (GH n A sts2 []) = _
    unfold F__law_size
    rw [f_size_eq]
    exact f_ret (s_nx (s_asg (v := .int 1) rfl rfl) (s_nx (s_for (i_of (v_var rfl) (it_ref (xs := RsG n) rfl)) q4) (s_ret (v_var rfl))))
end Lw

section
set_option maxHeartbeats 0
namespace Lw
open PySem PySem.Spec PyProof.Rows L2 G Mir
def itemOk : LV → Prop
  | .lst [.str _, .int n, .lst g, .int z] => ∃ L, growSize n g = .ok (.int z) L
  | _ => True
end Lw

end

section
set_option maxHeartbeats 0
namespace Lw
open PySem PySem.Spec PyProof.Rows L2 G Mir
theorem sz_0 : Mir.size 1 [0, 0] = some 1 := by decide +kernel
theorem ip_0 : itemOk (.lst [.str "s1", .int 1, .lst [.tup [.int 0], .tup [.int 0]], .int 1]) := by
  have h := size_ok (n := 1) (z := 1) (gs := [0, 0]) (by decide) (by decide) (by decide +kernel) sz_0
  have e : List.map (T 1) [0, 0] = [.tup [.int 0], .tup [.int 0]] := by kernel_rfl
  rw [e] at h
  exact h
theorem sz_1 : Mir.size 1 [] = some 1 := by decide +kernel
theorem ip_1 : itemOk (.lst [.str "a1", .int 1, .lst [], .int 1]) := by
  have h := size_ok (n := 1) (z := 1) (gs := []) (by decide) (by decide) (by decide +kernel) sz_1
  have e : List.map (T 1) [] = [] := by kernel_rfl
  rw [e] at h
  exact h
theorem sz_2 : Mir.size 1 [0] = some 1 := by decide +kernel
theorem ip_2 : itemOk (.lst [.str "c1", .int 1, .lst [.tup [.int 0]], .int 1]) := by
  have h := size_ok (n := 1) (z := 1) (gs := [0]) (by decide) (by decide) (by decide +kernel) sz_2
  have e : List.map (T 1) [0] = [.tup [.int 0]] := by kernel_rfl
  rw [e] at h
  exact h
theorem sz_3 : Mir.size 1 [0, 0] = some 1 := by decide +kernel
theorem ip_3 : itemOk (.lst [.str "d1", .int 1, .lst [.tup [.int 0], .tup [.int 0]], .int 1]) := by
  have h := size_ok (n := 1) (z := 1) (gs := [0, 0]) (by decide) (by decide) (by decide +kernel) sz_3
  have e : List.map (T 1) [0, 0] = [.tup [.int 0], .tup [.int 0]] := by kernel_rfl
  rw [e] at h
  exact h
theorem sz_4 : Mir.size 2 [1, 1] = some 2 := by decide +kernel
theorem ip_4 : itemOk (.lst [.str "s2", .int 2, .lst [.tup [.int 1, .int 0], .tup [.int 1, .int 0]], .int 2]) := by
  have h := size_ok (n := 2) (z := 2) (gs := [1, 1]) (by decide) (by decide) (by decide +kernel) sz_4
  have e : List.map (T 2) [1, 1] = [.tup [.int 1, .int 0], .tup [.int 1, .int 0]] := by kernel_rfl
  rw [e] at h
  exact h
theorem sz_5 : Mir.size 2 [] = some 1 := by decide +kernel
theorem ip_5 : itemOk (.lst [.str "a2", .int 2, .lst [], .int 1]) := by
  have h := size_ok (n := 2) (z := 1) (gs := []) (by decide) (by decide) (by decide +kernel) sz_5
  have e : List.map (T 2) [] = [] := by kernel_rfl
  rw [e] at h
  exact h
theorem sz_6 : Mir.size 2 [1] = some 2 := by decide +kernel
theorem ip_6 : itemOk (.lst [.str "c2", .int 2, .lst [.tup [.int 1, .int 0]], .int 2]) := by
  have h := size_ok (n := 2) (z := 2) (gs := [1]) (by decide) (by decide) (by decide +kernel) sz_6
  have e : List.map (T 2) [1] = [.tup [.int 1, .int 0]] := by kernel_rfl
  rw [e] at h
  exact h
theorem sz_7 : Mir.size 2 [1, 16] = some 2 := by decide +kernel
theorem ip_7 : itemOk (.lst [.str "d2", .int 2, .lst [.tup [.int 1, .int 0], .tup [.int 0, .int 1]], .int 2]) := by
  have h := size_ok (n := 2) (z := 2) (gs := [1, 16]) (by decide) (by decide) (by decide +kernel) sz_7
  have e : List.map (T 2) [1, 16] = [.tup [.int 1, .int 0], .tup [.int 0, .int 1]] := by kernel_rfl
  rw [e] at h
  exact h
theorem sz_8 : Mir.size 3 [33, 513] = some 6 := by decide +kernel
theorem ip_8 : itemOk (.lst [.str "s3", .int 3, .lst [.tup [.int 1, .int 2, .int 0], .tup [.int 1, .int 0, .int 2]], .int 6]) := by
  have h := size_ok (n := 3) (z := 6) (gs := [33, 513]) (by decide) (by decide) (by decide +kernel) sz_8
  have e : List.map (T 3) [33, 513] = [.tup [.int 1, .int 2, .int 0], .tup [.int 1, .int 0, .int 2]] := by kernel_rfl
  rw [e] at h
  exact h
theorem sz_9 : Mir.size 3 [33] = some 3 := by decide +kernel
theorem ip_9 : itemOk (.lst [.str "a3", .int 3, .lst [.tup [.int 1, .int 2, .int 0]], .int 3]) := by
  have h := size_ok (n := 3) (z := 3) (gs := [33]) (by decide) (by decide) (by decide +kernel) sz_9
  have e : List.map (T 3) [33] = [.tup [.int 1, .int 2, .int 0]] := by kernel_rfl
  rw [e] at h
  exact h
theorem sz_10 : Mir.size 3 [33] = some 3 := by decide +kernel
theorem ip_10 : itemOk (.lst [.str "c3", .int 3, .lst [.tup [.int 1, .int 2, .int 0]], .int 3]) := by
  have h := size_ok (n := 3) (z := 3) (gs := [33]) (by decide) (by decide) (by decide +kernel) sz_10
  have e : List.map (T 3) [33] = [.tup [.int 1, .int 2, .int 0]] := by kernel_rfl
  rw [e] at h
  exact h
theorem sz_11 : Mir.size 3 [33, 288] = some 6 := by decide +kernel
theorem ip_11 : itemOk (.lst [.str "d3", .int 3, .lst [.tup [.int 1, .int 2, .int 0], .tup [.int 0, .int 2, .int 1]], .int 6]) := by
  have h := size_ok (n := 3) (z := 6) (gs := [33, 288]) (by decide) (by decide) (by decide +kernel) sz_11
  have e : List.map (T 3) [33, 288] = [.tup [.int 1, .int 2, .int 0], .tup [.int 0, .int 2, .int 1]] := by kernel_rfl
  rw [e] at h
  exact h
theorem sz_12 : Mir.size 4 [801, 12801] = some 24 := by decide +kernel
theorem ip_12 : itemOk (.lst [.str "s4", .int 4, .lst [.tup [.int 1, .int 2, .int 3, .int 0], .tup [.int 1, .int 0, .int 2, .int 3]], .int 24]) := by
  have h := size_ok (n := 4) (z := 24) (gs := [801, 12801]) (by decide) (by decide) (by decide +kernel) sz_12
  have e : List.map (T 4) [801, 12801] = [.tup [.int 1, .int 2, .int 3, .int 0], .tup [.int 1, .int 0, .int 2, .int 3]] := by kernel_rfl
  rw [e] at h
  exact h
theorem sz_13 : Mir.size 4 [12321, 4896] = some 12 := by decide +kernel
theorem ip_13 : itemOk (.lst [.str "a4", .int 4, .lst [.tup [.int 1, .int 2, .int 0, .int 3], .tup [.int 0, .int 2, .int 3, .int 1]], .int 12]) := by
  have h := size_ok (n := 4) (z := 12) (gs := [12321, 4896]) (by decide) (by decide) (by decide +kernel) sz_13
  have e : List.map (T 4) [12321, 4896] = [.tup [.int 1, .int 2, .int 0, .int 3], .tup [.int 0, .int 2, .int 3, .int 1]] := by kernel_rfl
  rw [e] at h
  exact h
theorem sz_14 : Mir.size 4 [801] = some 4 := by decide +kernel
theorem ip_14 : itemOk (.lst [.str "c4", .int 4, .lst [.tup [.int 1, .int 2, .int 3, .int 0]], .int 4]) := by
  have h := size_ok (n := 4) (z := 4) (gs := [801]) (by decide) (by decide) (by decide +kernel) sz_14
  have e : List.map (T 4) [801] = [.tup [.int 1, .int 2, .int 3, .int 0]] := by kernel_rfl
  rw [e] at h
  exact h
theorem sz_15 : Mir.size 4 [801, 4656] = some 8 := by decide +kernel
theorem ip_15 : itemOk (.lst [.str "d4", .int 4, .lst [.tup [.int 1, .int 2, .int 3, .int 0], .tup [.int 0, .int 3, .int 2, .int 1]], .int 8]) := by
  have h := size_ok (n := 4) (z := 8) (gs := [801, 4656]) (by decide) (by decide) (by decide +kernel) sz_15
  have e : List.map (T 4) [801, 4656] = [.tup [.int 1, .int 2, .int 3, .int 0], .tup [.int 0, .int 3, .int 2, .int 1]] := by kernel_rfl
  rw [e] at h
  exact h
theorem sz_16 : Mir.size 5 [17185, 274945] = some 120 := by decide +kernel
theorem ip_16 : itemOk (.lst [.str "s5", .int 5, .lst [.tup [.int 1, .int 2, .int 3, .int 4, .int 0], .tup [.int 1, .int 0, .int 2, .int 3, .int 4]], .int 120]) := by
  have h := size_ok (n := 5) (z := 120) (gs := [17185, 274945]) (by decide) (by decide) (by decide +kernel) sz_16
  have e : List.map (T 5) [17185, 274945] = [.tup [.int 1, .int 2, .int 3, .int 4, .int 0], .tup [.int 1, .int 0, .int 2, .int 3, .int 4]] := by kernel_rfl
  rw [e] at h
  exact h
theorem sz_17 : Mir.size 5 [274465, 267040, 148240] = some 60 := by decide +kernel
theorem ip_17 : itemOk (.lst [.str "a5", .int 5, .lst [.tup [.int 1, .int 2, .int 0, .int 3, .int 4], .tup [.int 0, .int 2, .int 3, .int 1, .int 4], .tup [.int 0, .int 1, .int 3, .int 4, .int 2]], .int 60]) := by
  have h := size_ok (n := 5) (z := 60) (gs := [274465, 267040, 148240]) (by decide) (by decide) (by decide +kernel) sz_17
  have e : List.map (T 5) [274465, 267040, 148240] = [.tup [.int 1, .int 2, .int 0, .int 3, .int 4], .tup [.int 0, .int 2, .int 3, .int 1, .int 4], .tup [.int 0, .int 1, .int 3, .int 4, .int 2]] := by kernel_rfl
  rw [e] at h
  exact h
theorem sz_18 : Mir.size 5 [17185] = some 5 := by decide +kernel
theorem ip_18 : itemOk (.lst [.str "c5", .int 5, .lst [.tup [.int 1, .int 2, .int 3, .int 4, .int 0]], .int 5]) := by
  have h := size_ok (n := 5) (z := 5) (gs := [17185]) (by decide) (by decide) (by decide +kernel) sz_18
  have e : List.map (T 5) [17185] = [.tup [.int 1, .int 2, .int 3, .int 4, .int 0]] := by kernel_rfl
  rw [e] at h
  exact h
theorem sz_19 : Mir.size 5 [17185, 74560] = some 10 := by decide +kernel
theorem ip_19 : itemOk (.lst [.str "d5", .int 5, .lst [.tup [.int 1, .int 2, .int 3, .int 4, .int 0], .tup [.int 0, .int 4, .int 3, .int 2, .int 1]], .int 10]) := by
  have h := size_ok (n := 5) (z := 10) (gs := [17185, 74560]) (by decide) (by decide) (by decide +kernel) sz_19
  have e : List.map (T 5) [17185, 74560] = [.tup [.int 1, .int 2, .int 3, .int 4, .int 0], .tup [.int 0, .int 4, .int 3, .int 2, .int 1]] := by kernel_rfl
  rw [e] at h
  exact h
theorem sz_20 : Mir.size 6 [344865, 5517825] = some 720 := by decide +kernel
theorem ip_20 : itemOk (.lst [.str "s6", .int 6, .lst [.tup [.int 1, .int 2, .int 3, .int 4, .int 5, .int 0], .tup [.int 1, .int 0, .int 2, .int 3, .int 4, .int 5]], .int 720]) := by
  have h := size_ok (n := 6) (z := 720) (gs := [344865, 5517825]) (by decide) (by decide) (by decide +kernel) sz_20
  have e : List.map (T 6) [344865, 5517825] = [.tup [.int 1, .int 2, .int 3, .int 4, .int 5, .int 0], .tup [.int 1, .int 0, .int 2, .int 3, .int 4, .int 5]] := by kernel_rfl
  rw [e] at h
  exact h
theorem sz_21 : Mir.size 6 [5517345, 5509920, 5391120, 3490320] = some 360 := by decide +kernel
theorem ip_21 : itemOk (.lst [.str "a6", .int 6, .lst [.tup [.int 1, .int 2, .int 0, .int 3, .int 4, .int 5], .tup [.int 0, .int 2, .int 3, .int 1, .int 4, .int 5], .tup [.int 0, .int 1, .int 3, .int 4, .int 2, .int 5], .tup [.int 0, .int 1, .int 2, .int 4, .int 5, .int 3]], .int 360]) := by
  have h := size_ok (n := 6) (z := 360) (gs := [5517345, 5509920, 5391120, 3490320]) (by decide) (by decide) (by decide +kernel) sz_21
  have e : List.map (T 6) [5517345, 5509920, 5391120, 3490320] = [.tup [.int 1, .int 2, .int 0, .int 3, .int 4, .int 5], .tup [.int 0, .int 2, .int 3, .int 1, .int 4, .int 5], .tup [.int 0, .int 1, .int 3, .int 4, .int 2, .int 5], .tup [.int 0, .int 1, .int 2, .int 4, .int 5, .int 3]] := by kernel_rfl
  rw [e] at h
  exact h
theorem sz_22 : Mir.size 6 [344865] = some 6 := by decide +kernel
theorem ip_22 : itemOk (.lst [.str "c6", .int 6, .lst [.tup [.int 1, .int 2, .int 3, .int 4, .int 5, .int 0]], .int 6]) := by
  have h := size_ok (n := 6) (z := 6) (gs := [344865]) (by decide) (by decide) (by decide +kernel) sz_22
  have e : List.map (T 6) [344865] = [.tup [.int 1, .int 2, .int 3, .int 4, .int 5, .int 0]] := by kernel_rfl
  rw [e] at h
  exact h
theorem sz_23 : Mir.size 6 [344865, 1193040] = some 12 := by decide +kernel
theorem ip_23 : itemOk (.lst [.str "d6", .int 6, .lst [.tup [.int 1, .int 2, .int 3, .int 4, .int 5, .int 0], .tup [.int 0, .int 5, .int 4, .int 3, .int 2, .int 1]], .int 12]) := by
  have h := size_ok (n := 6) (z := 12) (gs := [344865, 1193040]) (by decide) (by decide) (by decide +kernel) sz_23
  have e : List.map (T 6) [344865, 1193040] = [.tup [.int 1, .int 2, .int 3, .int 4, .int 5, .int 0], .tup [.int 0, .int 5, .int 4, .int 3, .int 2, .int 1]] := by kernel_rfl
  rw [e] at h
  exact h
theorem sz_24 : Mir.size 7 [6636321, 106181121] = some 5040 := by decide +kernel
theorem ip_24 : itemOk (.lst [.str "s7", .int 7, .lst [.tup [.int 1, .int 2, .int 3, .int 4, .int 5, .int 6, .int 0], .tup [.int 1, .int 0, .int 2, .int 3, .int 4, .int 5, .int 6]], .int 5040]) := by
  have h := size_ok (n := 7) (z := 5040) (gs := [6636321, 106181121]) (by decide) (by decide) (by decide +kernel) sz_24
  have e : List.map (T 7) [6636321, 106181121] = [.tup [.int 1, .int 2, .int 3, .int 4, .int 5, .int 6, .int 0], .tup [.int 1, .int 0, .int 2, .int 3, .int 4, .int 5, .int 6]] := by kernel_rfl
  rw [e] at h
  exact h
theorem sz_25 : Mir.size 7 [106180641, 106173216, 106054416, 104153616, 73740816] = some 2520 := by decide +kernel
theorem ip_25 : itemOk (.lst [.str "a7", .int 7, .lst [.tup [.int 1, .int 2, .int 0, .int 3, .int 4, .int 5, .int 6], .tup [.int 0, .int 2, .int 3, .int 1, .int 4, .int 5, .int 6], .tup [.int 0, .int 1, .int 3, .int 4, .int 2, .int 5, .int 6], .tup [.int 0, .int 1, .int 2, .int 4, .int 5, .int 3, .int 6], .tup [.int 0, .int 1, .int 2, .int 3, .int 5, .int 6, .int 4]], .int 2520]) := by
  have h := size_ok (n := 7) (z := 2520) (gs := [106180641, 106173216, 106054416, 104153616, 73740816]) (by decide) (by decide) (by decide +kernel) sz_25
  have e : List.map (T 7) [106180641, 106173216, 106054416, 104153616, 73740816] = [.tup [.int 1, .int 2, .int 0, .int 3, .int 4, .int 5, .int 6], .tup [.int 0, .int 2, .int 3, .int 1, .int 4, .int 5, .int 6], .tup [.int 0, .int 1, .int 3, .int 4, .int 2, .int 5, .int 6], .tup [.int 0, .int 1, .int 2, .int 4, .int 5, .int 3, .int 6], .tup [.int 0, .int 1, .int 2, .int 3, .int 5, .int 6, .int 4]] := by kernel_rfl
  rw [e] at h
  exact h
theorem sz_26 : Mir.size 7 [6636321] = some 7 := by decide +kernel
theorem ip_26 : itemOk (.lst [.str "c7", .int 7, .lst [.tup [.int 1, .int 2, .int 3, .int 4, .int 5, .int 6, .int 0]], .int 7]) := by
  have h := size_ok (n := 7) (z := 7) (gs := [6636321]) (by decide) (by decide) (by decide +kernel) sz_26
  have e : List.map (T 7) [6636321] = [.tup [.int 1, .int 2, .int 3, .int 4, .int 5, .int 6, .int 0]] := by kernel_rfl
  rw [e] at h
  exact h
theorem sz_27 : Mir.size 7 [6636321, 19088736] = some 14 := by decide +kernel
theorem ip_27 : itemOk (.lst [.str "d7", .int 7, .lst [.tup [.int 1, .int 2, .int 3, .int 4, .int 5, .int 6, .int 0], .tup [.int 0, .int 6, .int 5, .int 4, .int 3, .int 2, .int 1]], .int 14]) := by
  have h := size_ok (n := 7) (z := 14) (gs := [6636321, 19088736]) (by decide) (by decide) (by decide +kernel) sz_27
  have e : List.map (T 7) [6636321, 19088736] = [.tup [.int 1, .int 2, .int 3, .int 4, .int 5, .int 6, .int 0], .tup [.int 0, .int 6, .int 5, .int 4, .int 3, .int 2, .int 1]] := by kernel_rfl
  rw [e] at h
  exact h
theorem sz_28 : Mir.size 8 [124076833, 1985229313] = some 40320 := by decide +kernel
theorem ip_28 : itemOk (.lst [.str "s8", .int 8, .lst [.tup [.int 1, .int 2, .int 3, .int 4, .int 5, .int 6, .int 7, .int 0], .tup [.int 1, .int 0, .int 2, .int 3, .int 4, .int 5, .int 6, .int 7]], .int 40320]) := by
  have h := size_ok (n := 8) (z := 40320) (gs := [124076833, 1985229313]) (by decide) (by decide) (by decide +kernel) sz_28
  have e : List.map (T 8) [124076833, 1985229313] = [.tup [.int 1, .int 2, .int 3, .int 4, .int 5, .int 6, .int 7, .int 0], .tup [.int 1, .int 0, .int 2, .int 3, .int 4, .int 5, .int 6, .int 7]] := by kernel_rfl
  rw [e] at h
  exact h
theorem sz_29 : Mir.size 8 [1985228833, 1985221408, 1985102608, 1983201808, 1952789008, 1466184208] = some 20160 := by decide +kernel
theorem ip_29 : itemOk (.lst [.str "a8", .int 8, .lst [.tup [.int 1, .int 2, .int 0, .int 3, .int 4, .int 5, .int 6, .int 7], .tup [.int 0, .int 2, .int 3, .int 1, .int 4, .int 5, .int 6, .int 7], .tup [.int 0, .int 1, .int 3, .int 4, .int 2, .int 5, .int 6, .int 7], .tup [.int 0, .int 1, .int 2, .int 4, .int 5, .int 3, .int 6, .int 7], .tup [.int 0, .int 1, .int 2, .int 3, .int 5, .int 6, .int 4, .int 7], .tup [.int 0, .int 1, .int 2, .int 3, .int 4, .int 6, .int 7, .int 5]], .int 20160]) := by
  have h := size_ok (n := 8) (z := 20160) (gs := [1985228833, 1985221408, 1985102608, 1983201808, 1952789008, 1466184208]) (by decide) (by decide) (by decide +kernel) sz_29
  have e : List.map (T 8) [1985228833, 1985221408, 1985102608, 1983201808, 1952789008, 1466184208] = [.tup [.int 1, .int 2, .int 0, .int 3, .int 4, .int 5, .int 6, .int 7], .tup [.int 0, .int 2, .int 3, .int 1, .int 4, .int 5, .int 6, .int 7], .tup [.int 0, .int 1, .int 3, .int 4, .int 2, .int 5, .int 6, .int 7], .tup [.int 0, .int 1, .int 2, .int 4, .int 5, .int 3, .int 6, .int 7], .tup [.int 0, .int 1, .int 2, .int 3, .int 5, .int 6, .int 4, .int 7], .tup [.int 0, .int 1, .int 2, .int 3, .int 4, .int 6, .int 7, .int 5]] := by kernel_rfl
  rw [e] at h
  exact h
theorem sz_30 : Mir.size 8 [124076833] = some 8 := by decide +kernel
theorem ip_30 : itemOk (.lst [.str "c8", .int 8, .lst [.tup [.int 1, .int 2, .int 3, .int 4, .int 5, .int 6, .int 7, .int 0]], .int 8]) := by
  have h := size_ok (n := 8) (z := 8) (gs := [124076833]) (by decide) (by decide) (by decide +kernel) sz_30
  have e : List.map (T 8) [124076833] = [.tup [.int 1, .int 2, .int 3, .int 4, .int 5, .int 6, .int 7, .int 0]] := by kernel_rfl
  rw [e] at h
  exact h
theorem sz_31 : Mir.size 8 [124076833, 305419888] = some 16 := by decide +kernel
theorem ip_31 : itemOk (.lst [.str "d8", .int 8, .lst [.tup [.int 1, .int 2, .int 3, .int 4, .int 5, .int 6, .int 7, .int 0], .tup [.int 0, .int 7, .int 6, .int 5, .int 4, .int 3, .int 2, .int 1]], .int 16]) := by
  have h := size_ok (n := 8) (z := 16) (gs := [124076833, 305419888]) (by decide) (by decide) (by decide +kernel) sz_31
  have e : List.map (T 8) [124076833, 305419888] = [.tup [.int 1, .int 2, .int 3, .int 4, .int 5, .int 6, .int 7, .int 0], .tup [.int 0, .int 7, .int 6, .int 5, .int 4, .int 3, .int 2, .int 1]] := by kernel_rfl
  rw [e] at h
  exact h
theorem sz_32 : Mir.size 9 [2271560481, 36344967681] = some 362880 := by decide +kernel
theorem ip_32 : itemOk (.lst [.str "s9", .int 9, .lst [.tup [.int 1, .int 2, .int 3, .int 4, .int 5, .int 6, .int 7, .int 8, .int 0], .tup [.int 1, .int 0, .int 2, .int 3, .int 4, .int 5, .int 6, .int 7, .int 8]], .int 362880]) := by
  have h := size_ok (n := 9) (z := 362880) (gs := [2271560481, 36344967681]) (by decide) (by decide) (by decide +kernel) sz_32
  have e : List.map (T 9) [2271560481, 36344967681] = [.tup [.int 1, .int 2, .int 3, .int 4, .int 5, .int 6, .int 7, .int 8, .int 0], .tup [.int 1, .int 0, .int 2, .int 3, .int 4, .int 5, .int 6, .int 7, .int 8]] := by kernel_rfl
  rw [e] at h
  exact h
theorem sz_33 : Mir.size 9 [36344967201, 36344959776, 36344840976, 36342940176, 36312527376, 35825922576, 28040245776] = some 181440 := by decide +kernel
theorem ip_33 : itemOk (.lst [.str "a9", .int 9, .lst [.tup [.int 1, .int 2, .int 0, .int 3, .int 4, .int 5, .int 6, .int 7, .int 8], .tup [.int 0, .int 2, .int 3, .int 1, .int 4, .int 5, .int 6, .int 7, .int 8], .tup [.int 0, .int 1, .int 3, .int 4, .int 2, .int 5, .int 6, .int 7, .int 8], .tup [.int 0, .int 1, .int 2, .int 4, .int 5, .int 3, .int 6, .int 7, .int 8], .tup [.int 0, .int 1, .int 2, .int 3, .int 5, .int 6, .int 4, .int 7, .int 8], .tup [.int 0, .int 1, .int 2, .int 3, .int 4, .int 6, .int 7, .int 5, .int 8], .tup [.int 0, .int 1, .int 2, .int 3, .int 4, .int 5, .int 7, .int 8, .int 6]], .int 181440]) := by
  have h := size_ok (n := 9) (z := 181440) (gs := [36344967201, 36344959776, 36344840976, 36342940176, 36312527376, 35825922576, 28040245776]) (by decide) (by decide) (by decide +kernel) sz_33
  have e : List.map (T 9) [36344967201, 36344959776, 36344840976, 36342940176, 36312527376, 35825922576, 28040245776] = [.tup [.int 1, .int 2, .int 0, .int 3, .int 4, .int 5, .int 6, .int 7, .int 8], .tup [.int 0, .int 2, .int 3, .int 1, .int 4, .int 5, .int 6, .int 7, .int 8], .tup [.int 0, .int 1, .int 3, .int 4, .int 2, .int 5, .int 6, .int 7, .int 8], .tup [.int 0, .int 1, .int 2, .int 4, .int 5, .int 3, .int 6, .int 7, .int 8], .tup [.int 0, .int 1, .int 2, .int 3, .int 5, .int 6, .int 4, .int 7, .int 8], .tup [.int 0, .int 1, .int 2, .int 3, .int 4, .int 6, .int 7, .int 5, .int 8], .tup [.int 0, .int 1, .int 2, .int 3, .int 4, .int 5, .int 7, .int 8, .int 6]] := by kernel_rfl
  rw [e] at h
  exact h
theorem sz_34 : Mir.size 9 [2271560481] = some 9 := by decide +kernel
theorem ip_34 : itemOk (.lst [.str "c9", .int 9, .lst [.tup [.int 1, .int 2, .int 3, .int 4, .int 5, .int 6, .int 7, .int 8, .int 0]], .int 9]) := by
  have h := size_ok (n := 9) (z := 9) (gs := [2271560481]) (by decide) (by decide) (by decide +kernel) sz_34
  have e : List.map (T 9) [2271560481] = [.tup [.int 1, .int 2, .int 3, .int 4, .int 5, .int 6, .int 7, .int 8, .int 0]] := by kernel_rfl
  rw [e] at h
  exact h
theorem sz_35 : Mir.size 9 [2271560481, 4886718336] = some 18 := by decide +kernel
theorem ip_35 : itemOk (.lst [.str "d9", .int 9, .lst [.tup [.int 1, .int 2, .int 3, .int 4, .int 5, .int 6, .int 7, .int 8, .int 0], .tup [.int 0, .int 8, .int 7, .int 6, .int 5, .int 4, .int 3, .int 2, .int 1]], .int 18]) := by
  have h := size_ok (n := 9) (z := 18) (gs := [2271560481, 4886718336]) (by decide) (by decide) (by decide +kernel) sz_35
  have e : List.map (T 9) [2271560481, 4886718336] = [.tup [.int 1, .int 2, .int 3, .int 4, .int 5, .int 6, .int 7, .int 8, .int 0], .tup [.int 0, .int 8, .int 7, .int 6, .int 5, .int 4, .int 3, .int 2, .int 1]] := by kernel_rfl
  rw [e] at h
  exact h
theorem sz_64 : Mir.size 2 [1, 16] = some 2 := by decide +kernel
theorem ip_64 : itemOk (.lst [.str "f2", .int 2, .lst [.tup [.int 1, .int 0], .tup [.int 0, .int 1]], .int 2]) := by
  have h := size_ok (n := 2) (z := 2) (gs := [1, 16]) (by decide) (by decide) (by decide +kernel) sz_64
  have e : List.map (T 2) [1, 16] = [.tup [.int 1, .int 0], .tup [.int 0, .int 1]] := by kernel_rfl
  rw [e] at h
  exact h
theorem sz_65 : Mir.size 3 [513, 18] = some 6 := by decide +kernel
theorem ip_65 : itemOk (.lst [.str "l2", .int 3, .lst [.tup [.int 1, .int 0, .int 2], .tup [.int 2, .int 1, .int 0]], .int 6]) := by
  have h := size_ok (n := 3) (z := 6) (gs := [513, 18]) (by decide) (by decide) (by decide +kernel) sz_65
  have e : List.map (T 3) [513, 18] = [.tup [.int 1, .int 0, .int 2], .tup [.int 2, .int 1, .int 0]] := by kernel_rfl
  rw [e] at h
  exact h
theorem sz_66 : Mir.size 3 [33, 288] = some 6 := by decide +kernel
theorem ip_66 : itemOk (.lst [.str "f3", .int 3, .lst [.tup [.int 1, .int 2, .int 0], .tup [.int 0, .int 2, .int 1]], .int 6]) := by
  have h := size_ok (n := 3) (z := 6) (gs := [33, 288]) (by decide) (by decide) (by decide +kernel) sz_66
  have e : List.map (T 3) [33, 288] = [.tup [.int 1, .int 2, .int 0], .tup [.int 0, .int 2, .int 1]] := by kernel_rfl
  rw [e] at h
  exact h
theorem sz_67 : Mir.size 4 [12321, 291] = some 12 := by decide +kernel
theorem ip_67 : itemOk (.lst [.str "l3", .int 4, .lst [.tup [.int 1, .int 2, .int 0, .int 3], .tup [.int 3, .int 2, .int 1, .int 0]], .int 12]) := by
  have h := size_ok (n := 4) (z := 12) (gs := [12321, 291]) (by decide) (by decide) (by decide +kernel) sz_67
  have e : List.map (T 4) [12321, 291] = [.tup [.int 1, .int 2, .int 0, .int 3], .tup [.int 3, .int 2, .int 1, .int 0]] := by kernel_rfl
  rw [e] at h
  exact h
theorem sz_68 : Mir.size 5 [17185, 201760] = some 20 := by decide +kernel
theorem ip_68 : itemOk (.lst [.str "f5", .int 5, .lst [.tup [.int 1, .int 2, .int 3, .int 4, .int 0], .tup [.int 0, .int 2, .int 4, .int 1, .int 3]], .int 20]) := by
  have h := size_ok (n := 5) (z := 20) (gs := [17185, 201760]) (by decide) (by decide) (by decide +kernel) sz_68
  have e : List.map (T 5) [17185, 201760] = [.tup [.int 1, .int 2, .int 3, .int 4, .int 0], .tup [.int 0, .int 2, .int 4, .int 1, .int 3]] := by kernel_rfl
  rw [e] at h
  exact h
theorem sz_69 : Mir.size 6 [5260065, 78405] = some 60 := by decide +kernel
theorem ip_69 : itemOk (.lst [.str "l5", .int 6, .lst [.tup [.int 1, .int 2, .int 3, .int 4, .int 0, .int 5], .tup [.int 5, .int 4, .int 2, .int 3, .int 1, .int 0]], .int 60]) := by
  have h := size_ok (n := 6) (z := 60) (gs := [5260065, 78405]) (by decide) (by decide) (by decide +kernel) sz_69
  have e : List.map (T 6) [5260065, 78405] = [.tup [.int 1, .int 2, .int 3, .int 4, .int 0, .int 5], .tup [.int 5, .int 4, .int 2, .int 3, .int 1, .int 0]] := by kernel_rfl
  rw [e] at h
  exact h
theorem sz_70 : Mir.size 7 [6636321, 68494896] = some 42 := by decide +kernel
theorem ip_70 : itemOk (.lst [.str "f7", .int 7, .lst [.tup [.int 1, .int 2, .int 3, .int 4, .int 5, .int 6, .int 0], .tup [.int 0, .int 3, .int 6, .int 2, .int 5, .int 1, .int 4]], .int 42]) := by
  have h := size_ok (n := 7) (z := 42) (gs := [6636321, 68494896]) (by decide) (by decide) (by decide +kernel) sz_70
  have e : List.map (T 7) [6636321, 68494896] = [.tup [.int 1, .int 2, .int 3, .int 4, .int 5, .int 6, .int 0], .tup [.int 0, .int 3, .int 6, .int 2, .int 5, .int 1, .int 4]] := by kernel_rfl
  rw [e] at h
  exact h
theorem sz_71 : Mir.size 8 [1885684513, 21308263] = some 168 := by decide +kernel
theorem ip_71 : itemOk (.lst [.str "l7", .int 8, .lst [.tup [.int 1, .int 2, .int 3, .int 4, .int 5, .int 6, .int 0, .int 7], .tup [.int 7, .int 6, .int 3, .int 2, .int 5, .int 4, .int 1, .int 0]], .int 168]) := by
  have h := size_ok (n := 8) (z := 168) (gs := [1885684513, 21308263]) (by decide) (by decide) (by decide +kernel) sz_71
  have e : List.map (T 8) [1885684513, 21308263] = [.tup [.int 1, .int 2, .int 3, .int 4, .int 5, .int 6, .int 0, .int 7], .tup [.int 7, .int 6, .int 3, .int 2, .int 5, .int 4, .int 1, .int 0]] := by kernel_rfl
  rw [e] at h
  exact h
theorem sz_76 : Mir.size 2 [1, 16, 16] = some 2 := by decide +kernel
theorem ip_76 : itemOk (.lst [.str "b1", .int 2, .lst [.tup [.int 1, .int 0], .tup [.int 0, .int 1], .tup [.int 0, .int 1]], .int 2]) := by
  have h := size_ok (n := 2) (z := 2) (gs := [1, 16, 16]) (by decide) (by decide) (by decide +kernel) sz_76
  have e : List.map (T 2) [1, 16, 16] = [.tup [.int 1, .int 0], .tup [.int 0, .int 1], .tup [.int 0, .int 1]] := by kernel_rfl
  rw [e] at h
  exact h
theorem sz_77 : Mir.size 4 [8961, 12576, 8976] = some 24 := by decide +kernel
theorem ip_77 : itemOk (.lst [.str "b2", .int 4, .lst [.tup [.int 1, .int 0, .int 3, .int 2], .tup [.int 0, .int 2, .int 1, .int 3], .tup [.int 0, .int 1, .int 3, .int 2]], .int 24]) := by
  have h := size_ok (n := 4) (z := 24) (gs := [8961, 12576, 8976]) (by decide) (by decide) (by decide +kernel) sz_77
  have e : List.map (T 4) [8961, 12576, 8976] = [.tup [.int 1, .int 0, .int 3, .int 2], .tup [.int 0, .int 2, .int 1, .int 3], .tup [.int 0, .int 1, .int 3, .int 2]] := by kernel_rfl
  rw [e] at h
  exact h
theorem sz_78 : Mir.size 8 [1732584193, 1966171168, 1733567248] = some 1344 := by decide +kernel
theorem ip_78 : itemOk (.lst [.str "b3", .int 8, .lst [.tup [.int 1, .int 0, .int 3, .int 2, .int 5, .int 4, .int 7, .int 6], .tup [.int 0, .int 2, .int 4, .int 6, .int 1, .int 3, .int 5, .int 7], .tup [.int 0, .int 1, .int 3, .int 2, .int 4, .int 5, .int 7, .int 6]], .int 1344]) := by
  have h := size_ok (n := 8) (z := 1344) (gs := [1732584193, 1966171168, 1733567248]) (by decide) (by decide) (by decide +kernel) sz_78
  have e : List.map (T 8) [1732584193, 1966171168, 1733567248] = [.tup [.int 1, .int 0, .int 3, .int 2, .int 5, .int 4, .int 7, .int 6], .tup [.int 0, .int 2, .int 4, .int 6, .int 1, .int 3, .int 5, .int 7], .tup [.int 0, .int 1, .int 3, .int 2, .int 4, .int 5, .int 7, .int 6]] := by kernel_rfl
  rw [e] at h
  exact h
theorem sz_80 : Mir.size 8 [1165361458, 838952788] = some 8 := by decide +kernel
theorem ip_80 : itemOk (.lst [.str "q8", .int 8, .lst [.tup [.int 2, .int 3, .int 1, .int 0, .int 6, .int 7, .int 5, .int 4], .tup [.int 4, .int 5, .int 7, .int 6, .int 1, .int 0, .int 2, .int 3]], .int 8]) := by
  have h := size_ok (n := 8) (z := 8) (gs := [1165361458, 838952788]) (by decide) (by decide) (by decide +kernel) sz_80
  have e : List.map (T 8) [1165361458, 838952788] = [.tup [.int 2, .int 3, .int 1, .int 0, .int 6, .int 7, .int 5, .int 4], .tup [.int 4, .int 5, .int 7, .int 6, .int 1, .int 0, .int 2, .int 3]] := by kernel_rfl
  rw [e] at h
  exact h
end Lw

end

section
set_option maxHeartbeats 0
namespace Lw
open PySem PySem.Spec PyProof.Rows L2 G Mir
theorem sz_36 : Mir.size 10 [40926266145, 654820258305] = some 3628800 := by decide +kernel
theorem ip_36 : itemOk (.lst [.str "s10", .int 10, .lst [.tup [.int 1, .int 2, .int 3, .int 4, .int 5, .int 6, .int 7, .int 8, .int 9, .int 0], .tup [.int 1, .int 0, .int 2, .int 3, .int 4, .int 5, .int 6, .int 7, .int 8, .int 9]], .int 3628800]) := by
  have h := size_ok (n := 10) (z := 3628800) (gs := [40926266145, 654820258305]) (by decide) (by decide) (by decide +kernel) sz_36
  have e : List.map (T 10) [40926266145, 654820258305] = [.tup [.int 1, .int 2, .int 3, .int 4, .int 5, .int 6, .int 7, .int 8, .int 9, .int 0], .tup [.int 1, .int 0, .int 2, .int 3, .int 4, .int 5, .int 6, .int 7, .int 8, .int 9]] := by kernel_rfl
  rw [e] at h
  exact h
theorem sz_37 : Mir.size 10 [654820257825, 654820250400, 654820131600, 654818230800, 654787818000, 654301213200, 646515536400, 521944707600] = some 1814400 := by decide +kernel
theorem ip_37 : itemOk (.lst [.str "a10", .int 10, .lst [.tup [.int 1, .int 2, .int 0, .int 3, .int 4, .int 5, .int 6, .int 7, .int 8, .int 9], .tup [.int 0, .int 2, .int 3, .int 1, .int 4, .int 5, .int 6, .int 7, .int 8, .int 9], .tup [.int 0, .int 1, .int 3, .int 4, .int 2, .int 5, .int 6, .int 7, .int 8, .int 9], .tup [.int 0, .int 1, .int 2, .int 4, .int 5, .int 3, .int 6, .int 7, .int 8, .int 9], .tup [.int 0, .int 1, .int 2, .int 3, .int 5, .int 6, .int 4, .int 7, .int 8, .int 9], .tup [.int 0, .int 1, .int 2, .int 3, .int 4, .int 6, .int 7, .int 5, .int 8, .int 9], .tup [.int 0, .int 1, .int 2, .int 3, .int 4, .int 5, .int 7, .int 8, .int 6, .int 9], .tup [.int 0, .int 1, .int 2, .int 3, .int 4, .int 5, .int 6, .int 8, .int 9, .int 7]], .int 1814400]) := by
  have h := size_ok (n := 10) (z := 1814400) (gs := [654820257825, 654820250400, 654820131600, 654818230800, 654787818000, 654301213200, 646515536400, 521944707600]) (by decide) (by decide) (by decide +kernel) sz_37
  have e : List.map (T 10) [654820257825, 654820250400, 654820131600, 654818230800, 654787818000, 654301213200, 646515536400, 521944707600] = [.tup [.int 1, .int 2, .int 0, .int 3, .int 4, .int 5, .int 6, .int 7, .int 8, .int 9], .tup [.int 0, .int 2, .int 3, .int 1, .int 4, .int 5, .int 6, .int 7, .int 8, .int 9], .tup [.int 0, .int 1, .int 3, .int 4, .int 2, .int 5, .int 6, .int 7, .int 8, .int 9], .tup [.int 0, .int 1, .int 2, .int 4, .int 5, .int 3, .int 6, .int 7, .int 8, .int 9], .tup [.int 0, .int 1, .int 2, .int 3, .int 5, .int 6, .int 4, .int 7, .int 8, .int 9], .tup [.int 0, .int 1, .int 2, .int 3, .int 4, .int 6, .int 7, .int 5, .int 8, .int 9], .tup [.int 0, .int 1, .int 2, .int 3, .int 4, .int 5, .int 7, .int 8, .int 6, .int 9], .tup [.int 0, .int 1, .int 2, .int 3, .int 4, .int 5, .int 6, .int 8, .int 9, .int 7]] := by kernel_rfl
  rw [e] at h
  exact h
theorem sz_38 : Mir.size 10 [40926266145] = some 10 := by decide +kernel
theorem ip_38 : itemOk (.lst [.str "c10", .int 10, .lst [.tup [.int 1, .int 2, .int 3, .int 4, .int 5, .int 6, .int 7, .int 8, .int 9, .int 0]], .int 10]) := by
  have h := size_ok (n := 10) (z := 10) (gs := [40926266145]) (by decide) (by decide) (by decide +kernel) sz_38
  have e : List.map (T 10) [40926266145] = [.tup [.int 1, .int 2, .int 3, .int 4, .int 5, .int 6, .int 7, .int 8, .int 9, .int 0]] := by kernel_rfl
  rw [e] at h
  exact h
theorem sz_39 : Mir.size 10 [40926266145, 78187493520] = some 20 := by decide +kernel
theorem ip_39 : itemOk (.lst [.str "d10", .int 10, .lst [.tup [.int 1, .int 2, .int 3, .int 4, .int 5, .int 6, .int 7, .int 8, .int 9, .int 0], .tup [.int 0, .int 9, .int 8, .int 7, .int 6, .int 5, .int 4, .int 3, .int 2, .int 1]], .int 20]) := by
  have h := size_ok (n := 10) (z := 20) (gs := [40926266145, 78187493520]) (by decide) (by decide) (by decide +kernel) sz_39
  have e : List.map (T 10) [40926266145, 78187493520] = [.tup [.int 1, .int 2, .int 3, .int 4, .int 5, .int 6, .int 7, .int 8, .int 9, .int 0], .tup [.int 0, .int 9, .int 8, .int 7, .int 6, .int 5, .int 4, .int 3, .int 2, .int 1]] := by kernel_rfl
  rw [e] at h
  exact h
theorem sz_40 : Mir.size 11 [728121033505, 11649936536065] = some 39916800 := by decide +kernel
theorem ip_40 : itemOk (.lst [.str "s11", .int 11, .lst [.tup [.int 1, .int 2, .int 3, .int 4, .int 5, .int 6, .int 7, .int 8, .int 9, .int 10, .int 0], .tup [.int 1, .int 0, .int 2, .int 3, .int 4, .int 5, .int 6, .int 7, .int 8, .int 9, .int 10]], .int 39916800]) := by
  have h := size_ok (n := 11) (z := 39916800) (gs := [728121033505, 11649936536065]) (by decide) (by decide) (by decide +kernel) sz_40
  have e : List.map (T 11) [728121033505, 11649936536065] = [.tup [.int 1, .int 2, .int 3, .int 4, .int 5, .int 6, .int 7, .int 8, .int 9, .int 10, .int 0], .tup [.int 1, .int 0, .int 2, .int 3, .int 4, .int 5, .int 6, .int 7, .int 8, .int 9, .int 10]] := by kernel_rfl
  rw [e] at h
  exact h
theorem sz_41 : Mir.size 11 [11649936535585, 11649936528160, 11649936409360, 11649934508560, 11649904095760, 11649417490960, 11641631814160, 11517060985360, 9523927724560] = some 19958400 := by decide +kernel
theorem ip_41 : itemOk (.lst [.str "a11", .int 11, .lst [.tup [.int 1, .int 2, .int 0, .int 3, .int 4, .int 5, .int 6, .int 7, .int 8, .int 9, .int 10], .tup [.int 0, .int 2, .int 3, .int 1, .int 4, .int 5, .int 6, .int 7, .int 8, .int 9, .int 10], .tup [.int 0, .int 1, .int 3, .int 4, .int 2, .int 5, .int 6, .int 7, .int 8, .int 9, .int 10], .tup [.int 0, .int 1, .int 2, .int 4, .int 5, .int 3, .int 6, .int 7, .int 8, .int 9, .int 10], .tup [.int 0, .int 1, .int 2, .int 3, .int 5, .int 6, .int 4, .int 7, .int 8, .int 9, .int 10], .tup [.int 0, .int 1, .int 2, .int 3, .int 4, .int 6, .int 7, .int 5, .int 8, .int 9, .int 10], .tup [.int 0, .int 1, .int 2, .int 3, .int 4, .int 5, .int 7, .int 8, .int 6, .int 9, .int 10], .tup [.int 0, .int 1, .int 2, .int 3, .int 4, .int 5, .int 6, .int 8, .int 9, .int 7, .int 10], .tup [.int 0, .int 1, .int 2, .int 3, .int 4, .int 5, .int 6, .int 7, .int 9, .int 10, .int 8]], .int 19958400]) := by
  have h := size_ok (n := 11) (z := 19958400) (gs := [11649936535585, 11649936528160, 11649936409360, 11649934508560, 11649904095760, 11649417490960, 11641631814160, 11517060985360, 9523927724560]) (by decide) (by decide) (by decide +kernel) sz_41
  have e : List.map (T 11) [11649936535585, 11649936528160, 11649936409360, 11649934508560, 11649904095760, 11649417490960, 11641631814160, 11517060985360, 9523927724560] = [.tup [.int 1, .int 2, .int 0, .int 3, .int 4, .int 5, .int 6, .int 7, .int 8, .int 9, .int 10], .tup [.int 0, .int 2, .int 3, .int 1, .int 4, .int 5, .int 6, .int 7, .int 8, .int 9, .int 10], .tup [.int 0, .int 1, .int 3, .int 4, .int 2, .int 5, .int 6, .int 7, .int 8, .int 9, .int 10], .tup [.int 0, .int 1, .int 2, .int 4, .int 5, .int 3, .int 6, .int 7, .int 8, .int 9, .int 10], .tup [.int 0, .int 1, .int 2, .int 3, .int 5, .int 6, .int 4, .int 7, .int 8, .int 9, .int 10], .tup [.int 0, .int 1, .int 2, .int 3, .int 4, .int 6, .int 7, .int 5, .int 8, .int 9, .int 10], .tup [.int 0, .int 1, .int 2, .int 3, .int 4, .int 5, .int 7, .int 8, .int 6, .int 9, .int 10], .tup [.int 0, .int 1, .int 2, .int 3, .int 4, .int 5, .int 6, .int 8, .int 9, .int 7, .int 10], .tup [.int 0, .int 1, .int 2, .int 3, .int 4, .int 5, .int 6, .int 7, .int 9, .int 10, .int 8]] := by kernel_rfl
  rw [e] at h
  exact h
theorem sz_42 : Mir.size 11 [728121033505] = some 11 := by decide +kernel
theorem ip_42 : itemOk (.lst [.str "c11", .int 11, .lst [.tup [.int 1, .int 2, .int 3, .int 4, .int 5, .int 6, .int 7, .int 8, .int 9, .int 10, .int 0]], .int 11]) := by
  have h := size_ok (n := 11) (z := 11) (gs := [728121033505]) (by decide) (by decide) (by decide +kernel) sz_42
  have e : List.map (T 11) [728121033505] = [.tup [.int 1, .int 2, .int 3, .int 4, .int 5, .int 6, .int 7, .int 8, .int 9, .int 10, .int 0]] := by kernel_rfl
  rw [e] at h
  exact h
theorem sz_43 : Mir.size 11 [728121033505, 1250999896480] = some 22 := by decide +kernel
theorem ip_43 : itemOk (.lst [.str "d11", .int 11, .lst [.tup [.int 1, .int 2, .int 3, .int 4, .int 5, .int 6, .int 7, .int 8, .int 9, .int 10, .int 0], .tup [.int 0, .int 10, .int 9, .int 8, .int 7, .int 6, .int 5, .int 4, .int 3, .int 2, .int 1]], .int 22]) := by
  have h := size_ok (n := 11) (z := 22) (gs := [728121033505, 1250999896480]) (by decide) (by decide) (by decide +kernel) sz_43
  have e : List.map (T 11) [728121033505, 1250999896480] = [.tup [.int 1, .int 2, .int 3, .int 4, .int 5, .int 6, .int 7, .int 8, .int 9, .int 10, .int 0], .tup [.int 0, .int 10, .int 9, .int 8, .int 7, .int 6, .int 5, .int 4, .int 3, .int 2, .int 1]] := by kernel_rfl
  rw [e] at h
  exact h
theorem sz_44 : Mir.size 12 [12822748939041, 205163983024641] = some 479001600 := by decide +kernel
theorem ip_44 : itemOk (.lst [.str "s12", .int 12, .lst [.tup [.int 1, .int 2, .int 3, .int 4, .int 5, .int 6, .int 7, .int 8, .int 9, .int 10, .int 11, .int 0], .tup [.int 1, .int 0, .int 2, .int 3, .int 4, .int 5, .int 6, .int 7, .int 8, .int 9, .int 10, .int 11]], .int 479001600]) := by
  have h := size_ok (n := 12) (z := 479001600) (gs := [12822748939041, 205163983024641]) (by decide) (by decide) (by decide +kernel) sz_44
  have e : List.map (T 12) [12822748939041, 205163983024641] = [.tup [.int 1, .int 2, .int 3, .int 4, .int 5, .int 6, .int 7, .int 8, .int 9, .int 10, .int 11, .int 0], .tup [.int 1, .int 0, .int 2, .int 3, .int 4, .int 5, .int 6, .int 7, .int 8, .int 9, .int 10, .int 11]] := by kernel_rfl
  rw [e] at h
  exact h
theorem sz_45 : Mir.size 12 [205163983024161, 205163983016736, 205163982897936, 205163980997136, 205163950584336, 205163463979536, 205155678302736, 205031107473936, 203037974213136, 171147842040336] = some 239500800 := by decide +kernel
theorem ip_45 : itemOk (.lst [.str "a12", .int 12, .lst [.tup [.int 1, .int 2, .int 0, .int 3, .int 4, .int 5, .int 6, .int 7, .int 8, .int 9, .int 10, .int 11], .tup [.int 0, .int 2, .int 3, .int 1, .int 4, .int 5, .int 6, .int 7, .int 8, .int 9, .int 10, .int 11], .tup [.int 0, .int 1, .int 3, .int 4, .int 2, .int 5, .int 6, .int 7, .int 8, .int 9, .int 10, .int 11], .tup [.int 0, .int 1, .int 2, .int 4, .int 5, .int 3, .int 6, .int 7, .int 8, .int 9, .int 10, .int 11], .tup [.int 0, .int 1, .int 2, .int 3, .int 5, .int 6, .int 4, .int 7, .int 8, .int 9, .int 10, .int 11], .tup [.int 0, .int 1, .int 2, .int 3, .int 4, .int 6, .int 7, .int 5, .int 8, .int 9, .int 10, .int 11], .tup [.int 0, .int 1, .int 2, .int 3, .int 4, .int 5, .int 7, .int 8, .int 6, .int 9, .int 10, .int 11], .tup [.int 0, .int 1, .int 2, .int 3, .int 4, .int 5, .int 6, .int 8, .int 9, .int 7, .int 10, .int 11], .tup [.int 0, .int 1, .int 2, .int 3, .int 4, .int 5, .int 6, .int 7, .int 9, .int 10, .int 8, .int 11], .tup [.int 0, .int 1, .int 2, .int 3, .int 4, .int 5, .int 6, .int 7, .int 8, .int 10, .int 11, .int 9]], .int 239500800]) := by
  have h := size_ok (n := 12) (z := 239500800) (gs := [205163983024161, 205163983016736, 205163982897936, 205163980997136, 205163950584336, 205163463979536, 205155678302736, 205031107473936, 203037974213136, 171147842040336]) (by decide) (by decide) (by decide +kernel) sz_45
  have e : List.map (T 12) [205163983024161, 205163983016736, 205163982897936, 205163980997136, 205163950584336, 205163463979536, 205155678302736, 205031107473936, 203037974213136, 171147842040336] = [.tup [.int 1, .int 2, .int 0, .int 3, .int 4, .int 5, .int 6, .int 7, .int 8, .int 9, .int 10, .int 11], .tup [.int 0, .int 2, .int 3, .int 1, .int 4, .int 5, .int 6, .int 7, .int 8, .int 9, .int 10, .int 11], .tup [.int 0, .int 1, .int 3, .int 4, .int 2, .int 5, .int 6, .int 7, .int 8, .int 9, .int 10, .int 11], .tup [.int 0, .int 1, .int 2, .int 4, .int 5, .int 3, .int 6, .int 7, .int 8, .int 9, .int 10, .int 11], .tup [.int 0, .int 1, .int 2, .int 3, .int 5, .int 6, .int 4, .int 7, .int 8, .int 9, .int 10, .int 11], .tup [.int 0, .int 1, .int 2, .int 3, .int 4, .int 6, .int 7, .int 5, .int 8, .int 9, .int 10, .int 11], .tup [.int 0, .int 1, .int 2, .int 3, .int 4, .int 5, .int 7, .int 8, .int 6, .int 9, .int 10, .int 11], .tup [.int 0, .int 1, .int 2, .int 3, .int 4, .int 5, .int 6, .int 8, .int 9, .int 7, .int 10, .int 11], .tup [.int 0, .int 1, .int 2, .int 3, .int 4, .int 5, .int 6, .int 7, .int 9, .int 10, .int 8, .int 11], .tup [.int 0, .int 1, .int 2, .int 3, .int 4, .int 5, .int 6, .int 7, .int 8, .int 10, .int 11, .int 9]] := by kernel_rfl
  rw [e] at h
  exact h
theorem sz_46 : Mir.size 12 [12822748939041] = some 12 := by decide +kernel
theorem ip_46 : itemOk (.lst [.str "c12", .int 12, .lst [.tup [.int 1, .int 2, .int 3, .int 4, .int 5, .int 6, .int 7, .int 8, .int 9, .int 10, .int 11, .int 0]], .int 12]) := by
  have h := size_ok (n := 12) (z := 12) (gs := [12822748939041]) (by decide) (by decide) (by decide +kernel) sz_46
  have e : List.map (T 12) [12822748939041] = [.tup [.int 1, .int 2, .int 3, .int 4, .int 5, .int 6, .int 7, .int 8, .int 9, .int 10, .int 11, .int 0]] := by kernel_rfl
  rw [e] at h
  exact h
theorem sz_47 : Mir.size 12 [12822748939041, 20015998343856] = some 24 := by decide +kernel
theorem ip_47 : itemOk (.lst [.str "d12", .int 12, .lst [.tup [.int 1, .int 2, .int 3, .int 4, .int 5, .int 6, .int 7, .int 8, .int 9, .int 10, .int 11, .int 0], .tup [.int 0, .int 11, .int 10, .int 9, .int 8, .int 7, .int 6, .int 5, .int 4, .int 3, .int 2, .int 1]], .int 24]) := by
  have h := size_ok (n := 12) (z := 24) (gs := [12822748939041, 20015998343856]) (by decide) (by decide) (by decide +kernel) sz_47
  have e : List.map (T 12) [12822748939041, 20015998343856] = [.tup [.int 1, .int 2, .int 3, .int 4, .int 5, .int 6, .int 7, .int 8, .int 9, .int 10, .int 11, .int 0], .tup [.int 0, .int 11, .int 10, .int 9, .int 8, .int 7, .int 6, .int 5, .int 4, .int 3, .int 2, .int 1]] := by kernel_rfl
  rw [e] at h
  exact h
theorem sz_48 : Mir.size 13 [223928981472033, 3582863703552513] = some 6227020800 := by decide +kernel
theorem ip_48 : itemOk (.lst [.str "s13", .int 13, .lst [.tup [.int 1, .int 2, .int 3, .int 4, .int 5, .int 6, .int 7, .int 8, .int 9, .int 10, .int 11, .int 12, .int 0], .tup [.int 1, .int 0, .int 2, .int 3, .int 4, .int 5, .int 6, .int 7, .int 8, .int 9, .int 10, .int 11, .int 12]], .int 6227020800]) := by
  have h := size_ok (n := 13) (z := 6227020800) (gs := [223928981472033, 3582863703552513]) (by decide) (by decide) (by decide +kernel) sz_48
  have e : List.map (T 13) [223928981472033, 3582863703552513] = [.tup [.int 1, .int 2, .int 3, .int 4, .int 5, .int 6, .int 7, .int 8, .int 9, .int 10, .int 11, .int 12, .int 0], .tup [.int 1, .int 0, .int 2, .int 3, .int 4, .int 5, .int 6, .int 7, .int 8, .int 9, .int 10, .int 11, .int 12]] := by kernel_rfl
  rw [e] at h
  exact h
theorem sz_49 : Mir.size 13 [3582863703552033, 3582863703544608, 3582863703425808, 3582863701525008, 3582863671112208, 3582863184507408, 3582855398830608, 3582730828001808, 3580737694741008, 3548847562568208, 3038605447803408] = some 3113510400 := by decide +kernel
theorem ip_49 : itemOk (.lst [.str "a13", .int 13, .lst [.tup [.int 1, .int 2, .int 0, .int 3, .int 4, .int 5, .int 6, .int 7, .int 8, .int 9, .int 10, .int 11, .int 12], .tup [.int 0, .int 2, .int 3, .int 1, .int 4, .int 5, .int 6, .int 7, .int 8, .int 9, .int 10, .int 11, .int 12], .tup [.int 0, .int 1, .int 3, .int 4, .int 2, .int 5, .int 6, .int 7, .int 8, .int 9, .int 10, .int 11, .int 12], .tup [.int 0, .int 1, .int 2, .int 4, .int 5, .int 3, .int 6, .int 7, .int 8, .int 9, .int 10, .int 11, .int 12], .tup [.int 0, .int 1, .int 2, .int 3, .int 5, .int 6, .int 4, .int 7, .int 8, .int 9, .int 10, .int 11, .int 12], .tup [.int 0, .int 1, .int 2, .int 3, .int 4, .int 6, .int 7, .int 5, .int 8, .int 9, .int 10, .int 11, .int 12], .tup [.int 0, .int 1, .int 2, .int 3, .int 4, .int 5, .int 7, .int 8, .int 6, .int 9, .int 10, .int 11, .int 12], .tup [.int 0, .int 1, .int 2, .int 3, .int 4, .int 5, .int 6, .int 8, .int 9, .int 7, .int 10, .int 11, .int 12], .tup [.int 0, .int 1, .int 2, .int 3, .int 4, .int 5, .int 6, .int 7, .int 9, .int 10, .int 8, .int 11, .int 12], .tup [.int 0, .int 1, .int 2, .int 3, .int 4, .int 5, .int 6, .int 7, .int 8, .int 10, .int 11, .int 9, .int 12], .tup [.int 0, .int 1, .int 2, .int 3, .int 4, .int 5, .int 6, .int 7, .int 8, .int 9, .int 11, .int 12, .int 10]], .int 3113510400]) := by
  have h := size_ok (n := 13) (z := 3113510400) (gs := [3582863703552033, 3582863703544608, 3582863703425808, 3582863701525008, 3582863671112208, 3582863184507408, 3582855398830608, 3582730828001808, 3580737694741008, 3548847562568208, 3038605447803408]) (by decide) (by decide) (by decide +kernel) sz_49
  have e : List.map (T 13) [3582863703552033, 3582863703544608, 3582863703425808, 3582863701525008, 3582863671112208, 3582863184507408, 3582855398830608, 3582730828001808, 3580737694741008, 3548847562568208, 3038605447803408] = [.tup [.int 1, .int 2, .int 0, .int 3, .int 4, .int 5, .int 6, .int 7, .int 8, .int 9, .int 10, .int 11, .int 12], .tup [.int 0, .int 2, .int 3, .int 1, .int 4, .int 5, .int 6, .int 7, .int 8, .int 9, .int 10, .int 11, .int 12], .tup [.int 0, .int 1, .int 3, .int 4, .int 2, .int 5, .int 6, .int 7, .int 8, .int 9, .int 10, .int 11, .int 12], .tup [.int 0, .int 1, .int 2, .int 4, .int 5, .int 3, .int 6, .int 7, .int 8, .int 9, .int 10, .int 11, .int 12], .tup [.int 0, .int 1, .int 2, .int 3, .int 5, .int 6, .int 4, .int 7, .int 8, .int 9, .int 10, .int 11, .int 12], .tup [.int 0, .int 1, .int 2, .int 3, .int 4, .int 6, .int 7, .int 5, .int 8, .int 9, .int 10, .int 11, .int 12], .tup [.int 0, .int 1, .int 2, .int 3, .int 4, .int 5, .int 7, .int 8, .int 6, .int 9, .int 10, .int 11, .int 12], .tup [.int 0, .int 1, .int 2, .int 3, .int 4, .int 5, .int 6, .int 8, .int 9, .int 7, .int 10, .int 11, .int 12], .tup [.int 0, .int 1, .int 2, .int 3, .int 4, .int 5, .int 6, .int 7, .int 9, .int 10, .int 8, .int 11, .int 12], .tup [.int 0, .int 1, .int 2, .int 3, .int 4, .int 5, .int 6, .int 7, .int 8, .int 10, .int 11, .int 9, .int 12], .tup [.int 0, .int 1, .int 2, .int 3, .int 4, .int 5, .int 6, .int 7, .int 8, .int 9, .int 11, .int 12, .int 10]] := by kernel_rfl
  rw [e] at h
  exact h
theorem sz_50 : Mir.size 13 [223928981472033] = some 13 := by decide +kernel
theorem ip_50 : itemOk (.lst [.str "c13", .int 13, .lst [.tup [.int 1, .int 2, .int 3, .int 4, .int 5, .int 6, .int 7, .int 8, .int 9, .int 10, .int 11, .int 12, .int 0]], .int 13]) := by
  have h := size_ok (n := 13) (z := 13) (gs := [223928981472033]) (by decide) (by decide) (by decide +kernel) sz_50
  have e : List.map (T 13) [223928981472033] = [.tup [.int 1, .int 2, .int 3, .int 4, .int 5, .int 6, .int 7, .int 8, .int 9, .int 10, .int 11, .int 12, .int 0]] := by kernel_rfl
  rw [e] at h
  exact h
theorem sz_51 : Mir.size 13 [223928981472033, 320255973501888] = some 26 := by decide +kernel
theorem ip_51 : itemOk (.lst [.str "d13", .int 13, .lst [.tup [.int 1, .int 2, .int 3, .int 4, .int 5, .int 6, .int 7, .int 8, .int 9, .int 10, .int 11, .int 12, .int 0], .tup [.int 0, .int 12, .int 11, .int 10, .int 9, .int 8, .int 7, .int 6, .int 5, .int 4, .int 3, .int 2, .int 1]], .int 26]) := by
  have h := size_ok (n := 13) (z := 26) (gs := [223928981472033, 320255973501888]) (by decide) (by decide) (by decide +kernel) sz_51
  have e : List.map (T 13) [223928981472033, 320255973501888] = [.tup [.int 1, .int 2, .int 3, .int 4, .int 5, .int 6, .int 7, .int 8, .int 9, .int 10, .int 11, .int 12, .int 0], .tup [.int 0, .int 12, .int 11, .int 10, .int 9, .int 8, .int 7, .int 6, .int 5, .int 4, .int 3, .int 2, .int 1]] := by kernel_rfl
  rw [e] at h
  exact h
theorem sz_72 : Mir.size 11 [728121033505, 10398948942880] = some 110 := by decide +kernel
theorem ip_72 : itemOk (.lst [.str "f11", .int 11, .lst [.tup [.int 1, .int 2, .int 3, .int 4, .int 5, .int 6, .int 7, .int 8, .int 9, .int 10, .int 0], .tup [.int 0, .int 2, .int 4, .int 6, .int 8, .int 10, .int 1, .int 3, .int 5, .int 7, .int 9]], .int 110]) := by
  have h := size_ok (n := 11) (z := 110) (gs := [728121033505, 10398948942880]) (by decide) (by decide) (by decide +kernel) sz_72
  have e : List.map (T 11) [728121033505, 10398948942880] = [.tup [.int 1, .int 2, .int 3, .int 4, .int 5, .int 6, .int 7, .int 8, .int 9, .int 10, .int 0], .tup [.int 0, .int 2, .int 4, .int 6, .int 8, .int 10, .int 1, .int 3, .int 5, .int 7, .int 9]] := by kernel_rfl
  rw [e] at h
  exact h
theorem sz_73 : Mir.size 12 [194242167522081, 1529967310251] = some 660 := by decide +kernel
theorem ip_73 : itemOk (.lst [.str "l11", .int 12, .lst [.tup [.int 1, .int 2, .int 3, .int 4, .int 5, .int 6, .int 7, .int 8, .int 9, .int 10, .int 0, .int 11], .tup [.int 11, .int 10, .int 5, .int 7, .int 8, .int 2, .int 9, .int 3, .int 4, .int 6, .int 1, .int 0]], .int 660]) := by
  have h := size_ok (n := 12) (z := 660) (gs := [194242167522081, 1529967310251]) (by decide) (by decide) (by decide +kernel) sz_73
  have e : List.map (T 12) [194242167522081, 1529967310251] = [.tup [.int 1, .int 2, .int 3, .int 4, .int 5, .int 6, .int 7, .int 8, .int 9, .int 10, .int 0, .int 11], .tup [.int 11, .int 10, .int 5, .int 7, .int 8, .int 2, .int 9, .int 3, .int 4, .int 6, .int 1, .int 0]] := by kernel_rfl
  rw [e] at h
  exact h
theorem sz_74 : Mir.size 13 [223928981472033, 3262607962694688] = some 156 := by decide +kernel
theorem ip_74 : itemOk (.lst [.str "f13", .int 13, .lst [.tup [.int 1, .int 2, .int 3, .int 4, .int 5, .int 6, .int 7, .int 8, .int 9, .int 10, .int 11, .int 12, .int 0], .tup [.int 0, .int 2, .int 4, .int 6, .int 8, .int 10, .int 12, .int 1, .int 3, .int 5, .int 7, .int 9, .int 11]], .int 156]) := by
  have h := size_ok (n := 13) (z := 156) (gs := [223928981472033, 3262607962694688]) (by decide) (by decide) (by decide +kernel) sz_74
  have e : List.map (T 13) [223928981472033, 3262607962694688] = [.tup [.int 1, .int 2, .int 3, .int 4, .int 5, .int 6, .int 7, .int 8, .int 9, .int 10, .int 11, .int 12, .int 0], .tup [.int 0, .int 2, .int 4, .int 6, .int 8, .int 10, .int 12, .int 1, .int 3, .int 5, .int 7, .int 9, .int 11]] := by kernel_rfl
  rw [e] at h
  exact h
theorem sz_81 : Mir.size 11 [728121033505, 8006527194640] = some 7920 := by decide +kernel
theorem ip_81 : itemOk (.lst [.str "m11", .int 11, .lst [.tup [.int 1, .int 2, .int 3, .int 4, .int 5, .int 6, .int 7, .int 8, .int 9, .int 10, .int 0], .tup [.int 0, .int 1, .int 6, .int 9, .int 5, .int 3, .int 10, .int 2, .int 8, .int 4, .int 7]], .int 7920]) := by
  have h := size_ok (n := 11) (z := 7920) (gs := [728121033505, 8006527194640]) (by decide) (by decide) (by decide +kernel) sz_81
  have e : List.map (T 11) [728121033505, 8006527194640] = [.tup [.int 1, .int 2, .int 3, .int 4, .int 5, .int 6, .int 7, .int 8, .int 9, .int 10, .int 0], .tup [.int 0, .int 1, .int 6, .int 9, .int 5, .int 3, .int 10, .int 2, .int 8, .int 4, .int 7]] := by kernel_rfl
  rw [e] at h
  exact h
theorem sz_82 : Mir.size 12 [194242167522081, 201520573683216, 1529967310251] = some 95040 := by decide +kernel
theorem ip_82 : itemOk (.lst [.str "m12", .int 12, .lst [.tup [.int 1, .int 2, .int 3, .int 4, .int 5, .int 6, .int 7, .int 8, .int 9, .int 10, .int 0, .int 11], .tup [.int 0, .int 1, .int 6, .int 9, .int 5, .int 3, .int 10, .int 2, .int 8, .int 4, .int 7, .int 11], .tup [.int 11, .int 10, .int 5, .int 7, .int 8, .int 2, .int 9, .int 3, .int 4, .int 6, .int 1, .int 0]], .int 95040]) := by
  have h := size_ok (n := 12) (z := 95040) (gs := [194242167522081, 201520573683216, 1529967310251]) (by decide) (by decide) (by decide +kernel) sz_82
  have e : List.map (T 12) [194242167522081, 201520573683216, 1529967310251] = [.tup [.int 1, .int 2, .int 3, .int 4, .int 5, .int 6, .int 7, .int 8, .int 9, .int 10, .int 0, .int 11], .tup [.int 0, .int 1, .int 6, .int 9, .int 5, .int 3, .int 10, .int 2, .int 8, .int 4, .int 7, .int 11], .tup [.int 11, .int 10, .int 5, .int 7, .int 8, .int 2, .int 9, .int 3, .int 4, .int 6, .int 1, .int 0]] := by kernel_rfl
  rw [e] at h
  exact h
end Lw

end

section
set_option maxHeartbeats 0
namespace Lw
open PySem PySem.Spec PyProof.Rows L2 G Mir
theorem sz_52 : Mir.size 14 [3883103678710561, 62129658859368961] = some 87178291200 := by decide +kernel
theorem ip_52 : itemOk (.lst [.str "s14", .int 14, .lst [.tup [.int 1, .int 2, .int 3, .int 4, .int 5, .int 6, .int 7, .int 8, .int 9, .int 10, .int 11, .int 12, .int 13, .int 0], .tup [.int 1, .int 0, .int 2, .int 3, .int 4, .int 5, .int 6, .int 7, .int 8, .int 9, .int 10, .int 11, .int 12, .int 13]], .int 87178291200]) := by
  have h := size_ok (n := 14) (z := 87178291200) (gs := [3883103678710561, 62129658859368961]) (by decide) (by decide) (by decide +kernel) sz_52
  have e : List.map (T 14) [3883103678710561, 62129658859368961] = [.tup [.int 1, .int 2, .int 3, .int 4, .int 5, .int 6, .int 7, .int 8, .int 9, .int 10, .int 11, .int 12, .int 13, .int 0], .tup [.int 1, .int 0, .int 2, .int 3, .int 4, .int 5, .int 6, .int 7, .int 8, .int 9, .int 10, .int 11, .int 12, .int 13]] := by kernel_rfl
  rw [e] at h
  exact h
theorem sz_53 : Mir.size 14 [62129658859368481, 62129658859361056, 62129658859242256, 62129658857341456, 62129658826928656, 62129658340323856, 62129650554647056, 62129525983818256, 62127532850557456, 62095642718384656, 61585400603619856, 53421526767383056] = some 43589145600 := by decide +kernel
theorem ip_53 : itemOk (.lst [.str "a14", .int 14, .lst [.tup [.int 1, .int 2, .int 0, .int 3, .int 4, .int 5, .int 6, .int 7, .int 8, .int 9, .int 10, .int 11, .int 12, .int 13], .tup [.int 0, .int 2, .int 3, .int 1, .int 4, .int 5, .int 6, .int 7, .int 8, .int 9, .int 10, .int 11, .int 12, .int 13], .tup [.int 0, .int 1, .int 3, .int 4, .int 2, .int 5, .int 6, .int 7, .int 8, .int 9, .int 10, .int 11, .int 12, .int 13], .tup [.int 0, .int 1, .int 2, .int 4, .int 5, .int 3, .int 6, .int 7, .int 8, .int 9, .int 10, .int 11, .int 12, .int 13], .tup [.int 0, .int 1, .int 2, .int 3, .int 5, .int 6, .int 4, .int 7, .int 8, .int 9, .int 10, .int 11, .int 12, .int 13], .tup [.int 0, .int 1, .int 2, .int 3, .int 4, .int 6, .int 7, .int 5, .int 8, .int 9, .int 10, .int 11, .int 12, .int 13], .tup [.int 0, .int 1, .int 2, .int 3, .int 4, .int 5, .int 7, .int 8, .int 6, .int 9, .int 10, .int 11, .int 12, .int 13], .tup [.int 0, .int 1, .int 2, .int 3, .int 4, .int 5, .int 6, .int 8, .int 9, .int 7, .int 10, .int 11, .int 12, .int 13], .tup [.int 0, .int 1, .int 2, .int 3, .int 4, .int 5, .int 6, .int 7, .int 9, .int 10, .int 8, .int 11, .int 12, .int 13], .tup [.int 0, .int 1, .int 2, .int 3, .int 4, .int 5, .int 6, .int 7, .int 8, .int 10, .int 11, .int 9, .int 12, .int 13], .tup [.int 0, .int 1, .int 2, .int 3, .int 4, .int 5, .int 6, .int 7, .int 8, .int 9, .int 11, .int 12, .int 10, .int 13], .tup [.int 0, .int 1, .int 2, .int 3, .int 4, .int 5, .int 6, .int 7, .int 8, .int 9, .int 10, .int 12, .int 13, .int 11]], .int 43589145600]) := by
  have h := size_ok (n := 14) (z := 43589145600) (gs := [62129658859368481, 62129658859361056, 62129658859242256, 62129658857341456, 62129658826928656, 62129658340323856, 62129650554647056, 62129525983818256, 62127532850557456, 62095642718384656, 61585400603619856, 53421526767383056]) (by decide) (by decide) (by decide +kernel) sz_53
  have e : List.map (T 14) [62129658859368481, 62129658859361056, 62129658859242256, 62129658857341456, 62129658826928656, 62129658340323856, 62129650554647056, 62129525983818256, 62127532850557456, 62095642718384656, 61585400603619856, 53421526767383056] = [.tup [.int 1, .int 2, .int 0, .int 3, .int 4, .int 5, .int 6, .int 7, .int 8, .int 9, .int 10, .int 11, .int 12, .int 13], .tup [.int 0, .int 2, .int 3, .int 1, .int 4, .int 5, .int 6, .int 7, .int 8, .int 9, .int 10, .int 11, .int 12, .int 13], .tup [.int 0, .int 1, .int 3, .int 4, .int 2, .int 5, .int 6, .int 7, .int 8, .int 9, .int 10, .int 11, .int 12, .int 13], .tup [.int 0, .int 1, .int 2, .int 4, .int 5, .int 3, .int 6, .int 7, .int 8, .int 9, .int 10, .int 11, .int 12, .int 13], .tup [.int 0, .int 1, .int 2, .int 3, .int 5, .int 6, .int 4, .int 7, .int 8, .int 9, .int 10, .int 11, .int 12, .int 13], .tup [.int 0, .int 1, .int 2, .int 3, .int 4, .int 6, .int 7, .int 5, .int 8, .int 9, .int 10, .int 11, .int 12, .int 13], .tup [.int 0, .int 1, .int 2, .int 3, .int 4, .int 5, .int 7, .int 8, .int 6, .int 9, .int 10, .int 11, .int 12, .int 13], .tup [.int 0, .int 1, .int 2, .int 3, .int 4, .int 5, .int 6, .int 8, .int 9, .int 7, .int 10, .int 11, .int 12, .int 13], .tup [.int 0, .int 1, .int 2, .int 3, .int 4, .int 5, .int 6, .int 7, .int 9, .int 10, .int 8, .int 11, .int 12, .int 13], .tup [.int 0, .int 1, .int 2, .int 3, .int 4, .int 5, .int 6, .int 7, .int 8, .int 10, .int 11, .int 9, .int 12, .int 13], .tup [.int 0, .int 1, .int 2, .int 3, .int 4, .int 5, .int 6, .int 7, .int 8, .int 9, .int 11, .int 12, .int 10, .int 13], .tup [.int 0, .int 1, .int 2, .int 3, .int 4, .int 5, .int 6, .int 7, .int 8, .int 9, .int 10, .int 12, .int 13, .int 11]] := by kernel_rfl
  rw [e] at h
  exact h
theorem sz_54 : Mir.size 14 [3883103678710561] = some 14 := by decide +kernel
theorem ip_54 : itemOk (.lst [.str "c14", .int 14, .lst [.tup [.int 1, .int 2, .int 3, .int 4, .int 5, .int 6, .int 7, .int 8, .int 9, .int 10, .int 11, .int 12, .int 13, .int 0]], .int 14]) := by
  have h := size_ok (n := 14) (z := 14) (gs := [3883103678710561]) (by decide) (by decide) (by decide +kernel) sz_54
  have e : List.map (T 14) [3883103678710561] = [.tup [.int 1, .int 2, .int 3, .int 4, .int 5, .int 6, .int 7, .int 8, .int 9, .int 10, .int 11, .int 12, .int 13, .int 0]] := by kernel_rfl
  rw [e] at h
  exact h
theorem sz_55 : Mir.size 14 [3883103678710561, 5124095576030416] = some 28 := by decide +kernel
theorem ip_55 : itemOk (.lst [.str "d14", .int 14, .lst [.tup [.int 1, .int 2, .int 3, .int 4, .int 5, .int 6, .int 7, .int 8, .int 9, .int 10, .int 11, .int 12, .int 13, .int 0], .tup [.int 0, .int 13, .int 12, .int 11, .int 10, .int 9, .int 8, .int 7, .int 6, .int 5, .int 4, .int 3, .int 2, .int 1]], .int 28]) := by
  have h := size_ok (n := 14) (z := 28) (gs := [3883103678710561, 5124095576030416]) (by decide) (by decide) (by decide +kernel) sz_55
  have e : List.map (T 14) [3883103678710561, 5124095576030416] = [.tup [.int 1, .int 2, .int 3, .int 4, .int 5, .int 6, .int 7, .int 8, .int 9, .int 10, .int 11, .int 12, .int 13, .int 0], .tup [.int 0, .int 13, .int 12, .int 11, .int 10, .int 9, .int 8, .int 7, .int 6, .int 5, .int 4, .int 3, .int 2, .int 1]] := by kernel_rfl
  rw [e] at h
  exact h
theorem sz_75 : Mir.size 14 [58770724137288481, 415240429979341] = some 1092 := by decide +kernel
theorem ip_75 : itemOk (.lst [.str "l13", .int 14, .lst [.tup [.int 1, .int 2, .int 3, .int 4, .int 5, .int 6, .int 7, .int 8, .int 9, .int 10, .int 11, .int 12, .int 0, .int 13], .tup [.int 13, .int 12, .int 6, .int 4, .int 3, .int 5, .int 2, .int 11, .int 8, .int 10, .int 9, .int 7, .int 1, .int 0]], .int 1092]) := by
  have h := size_ok (n := 14) (z := 1092) (gs := [58770724137288481, 415240429979341]) (by decide) (by decide) (by decide +kernel) sz_75
  have e : List.map (T 14) [58770724137288481, 415240429979341] = [.tup [.int 1, .int 2, .int 3, .int 4, .int 5, .int 6, .int 7, .int 8, .int 9, .int 10, .int 11, .int 12, .int 0, .int 13], .tup [.int 13, .int 12, .int 6, .int 4, .int 3, .int 5, .int 2, .int 11, .int 8, .int 10, .int 9, .int 7, .int 1, .int 0]] := by kernel_rfl
  rw [e] at h
  exact h
end Lw

end

section
set_option maxHeartbeats 0
namespace Lw
open PySem PySem.Spec PyProof.Rows L2 G Mir
theorem sz_56 : Mir.size 15 [66933498461897505, 1070935975390360065] = some 1307674368000 := by decide +kernel
theorem ip_56 : itemOk (.lst [.str "s15", .int 15, .lst [.tup [.int 1, .int 2, .int 3, .int 4, .int 5, .int 6, .int 7, .int 8, .int 9, .int 10, .int 11, .int 12, .int 13, .int 14, .int 0], .tup [.int 1, .int 0, .int 2, .int 3, .int 4, .int 5, .int 6, .int 7, .int 8, .int 9, .int 10, .int 11, .int 12, .int 13, .int 14]], .int 1307674368000]) := by
  have h := size_ok (n := 15) (z := 1307674368000) (gs := [66933498461897505, 1070935975390360065]) (by decide) (by decide) (by decide +kernel) sz_56
  have e : List.map (T 15) [66933498461897505, 1070935975390360065] = [.tup [.int 1, .int 2, .int 3, .int 4, .int 5, .int 6, .int 7, .int 8, .int 9, .int 10, .int 11, .int 12, .int 13, .int 14, .int 0], .tup [.int 1, .int 0, .int 2, .int 3, .int 4, .int 5, .int 6, .int 7, .int 8, .int 9, .int 10, .int 11, .int 12, .int 13, .int 14]] := by kernel_rfl
  rw [e] at h
  exact h
theorem sz_57 : Mir.size 15 [1070935975390359585, 1070935975390352160, 1070935975390233360, 1070935975388332560, 1070935975357919760, 1070935974871314960, 1070935967085638160, 1070935842514809360, 1070933849381548560, 1070901959249375760, 1070391717134610960, 1062227843298374160, 931605861918585360] = some 653837184000 := by decide +kernel
theorem ip_57 : itemOk (.lst [.str "a15", .int 15, .lst [.tup [.int 1, .int 2, .int 0, .int 3, .int 4, .int 5, .int 6, .int 7, .int 8, .int 9, .int 10, .int 11, .int 12, .int 13, .int 14], .tup [.int 0, .int 2, .int 3, .int 1, .int 4, .int 5, .int 6, .int 7, .int 8, .int 9, .int 10, .int 11, .int 12, .int 13, .int 14], .tup [.int 0, .int 1, .int 3, .int 4, .int 2, .int 5, .int 6, .int 7, .int 8, .int 9, .int 10, .int 11, .int 12, .int 13, .int 14], .tup [.int 0, .int 1, .int 2, .int 4, .int 5, .int 3, .int 6, .int 7, .int 8, .int 9, .int 10, .int 11, .int 12, .int 13, .int 14], .tup [.int 0, .int 1, .int 2, .int 3, .int 5, .int 6, .int 4, .int 7, .int 8, .int 9, .int 10, .int 11, .int 12, .int 13, .int 14], .tup [.int 0, .int 1, .int 2, .int 3, .int 4, .int 6, .int 7, .int 5, .int 8, .int 9, .int 10, .int 11, .int 12, .int 13, .int 14], .tup [.int 0, .int 1, .int 2, .int 3, .int 4, .int 5, .int 7, .int 8, .int 6, .int 9, .int 10, .int 11, .int 12, .int 13, .int 14], .tup [.int 0, .int 1, .int 2, .int 3, .int 4, .int 5, .int 6, .int 8, .int 9, .int 7, .int 10, .int 11, .int 12, .int 13, .int 14], .tup [.int 0, .int 1, .int 2, .int 3, .int 4, .int 5, .int 6, .int 7, .int 9, .int 10, .int 8, .int 11, .int 12, .int 13, .int 14], .tup [.int 0, .int 1, .int 2, .int 3, .int 4, .int 5, .int 6, .int 7, .int 8, .int 10, .int 11, .int 9, .int 12, .int 13, .int 14], .tup [.int 0, .int 1, .int 2, .int 3, .int 4, .int 5, .int 6, .int 7, .int 8, .int 9, .int 11, .int 12, .int 10, .int 13, .int 14], .tup [.int 0, .int 1, .int 2, .int 3, .int 4, .int 5, .int 6, .int 7, .int 8, .int 9, .int 10, .int 12, .int 13, .int 11, .int 14], .tup [.int 0, .int 1, .int 2, .int 3, .int 4, .int 5, .int 6, .int 7, .int 8, .int 9, .int 10, .int 11, .int 13, .int 14, .int 12]], .int 653837184000]) := by
  have h := size_ok (n := 15) (z := 653837184000) (gs := [1070935975390359585, 1070935975390352160, 1070935975390233360, 1070935975388332560, 1070935975357919760, 1070935974871314960, 1070935967085638160, 1070935842514809360, 1070933849381548560, 1070901959249375760, 1070391717134610960, 1062227843298374160, 931605861918585360]) (by decide) (by decide) (by decide +kernel) sz_57
  have e : List.map (T 15) [1070935975390359585, 1070935975390352160, 1070935975390233360, 1070935975388332560, 1070935975357919760, 1070935974871314960, 1070935967085638160, 1070935842514809360, 1070933849381548560, 1070901959249375760, 1070391717134610960, 1062227843298374160, 931605861918585360] = [.tup [.int 1, .int 2, .int 0, .int 3, .int 4, .int 5, .int 6, .int 7, .int 8, .int 9, .int 10, .int 11, .int 12, .int 13, .int 14], .tup [.int 0, .int 2, .int 3, .int 1, .int 4, .int 5, .int 6, .int 7, .int 8, .int 9, .int 10, .int 11, .int 12, .int 13, .int 14], .tup [.int 0, .int 1, .int 3, .int 4, .int 2, .int 5, .int 6, .int 7, .int 8, .int 9, .int 10, .int 11, .int 12, .int 13, .int 14], .tup [.int 0, .int 1, .int 2, .int 4, .int 5, .int 3, .int 6, .int 7, .int 8, .int 9, .int 10, .int 11, .int 12, .int 13, .int 14], .tup [.int 0, .int 1, .int 2, .int 3, .int 5, .int 6, .int 4, .int 7, .int 8, .int 9, .int 10, .int 11, .int 12, .int 13, .int 14], .tup [.int 0, .int 1, .int 2, .int 3, .int 4, .int 6, .int 7, .int 5, .int 8, .int 9, .int 10, .int 11, .int 12, .int 13, .int 14], .tup [.int 0, .int 1, .int 2, .int 3, .int 4, .int 5, .int 7, .int 8, .int 6, .int 9, .int 10, .int 11, .int 12, .int 13, .int 14], .tup [.int 0, .int 1, .int 2, .int 3, .int 4, .int 5, .int 6, .int 8, .int 9, .int 7, .int 10, .int 11, .int 12, .int 13, .int 14], .tup [.int 0, .int 1, .int 2, .int 3, .int 4, .int 5, .int 6, .int 7, .int 9, .int 10, .int 8, .int 11, .int 12, .int 13, .int 14], .tup [.int 0, .int 1, .int 2, .int 3, .int 4, .int 5, .int 6, .int 7, .int 8, .int 10, .int 11, .int 9, .int 12, .int 13, .int 14], .tup [.int 0, .int 1, .int 2, .int 3, .int 4, .int 5, .int 6, .int 7, .int 8, .int 9, .int 11, .int 12, .int 10, .int 13, .int 14], .tup [.int 0, .int 1, .int 2, .int 3, .int 4, .int 5, .int 6, .int 7, .int 8, .int 9, .int 10, .int 12, .int 13, .int 11, .int 14], .tup [.int 0, .int 1, .int 2, .int 3, .int 4, .int 5, .int 6, .int 7, .int 8, .int 9, .int 10, .int 11, .int 13, .int 14, .int 12]] := by kernel_rfl
  rw [e] at h
  exact h
theorem sz_58 : Mir.size 15 [66933498461897505] = some 15 := by decide +kernel
theorem ip_58 : itemOk (.lst [.str "c15", .int 15, .lst [.tup [.int 1, .int 2, .int 3, .int 4, .int 5, .int 6, .int 7, .int 8, .int 9, .int 10, .int 11, .int 12, .int 13, .int 14, .int 0]], .int 15]) := by
  have h := size_ok (n := 15) (z := 15) (gs := [66933498461897505]) (by decide) (by decide) (by decide +kernel) sz_58
  have e : List.map (T 15) [66933498461897505] = [.tup [.int 1, .int 2, .int 3, .int 4, .int 5, .int 6, .int 7, .int 8, .int 9, .int 10, .int 11, .int 12, .int 13, .int 14, .int 0]] := by kernel_rfl
  rw [e] at h
  exact h
theorem sz_59 : Mir.size 15 [66933498461897505, 81985529216486880] = some 30 := by decide +kernel
theorem ip_59 : itemOk (.lst [.str "d15", .int 15, .lst [.tup [.int 1, .int 2, .int 3, .int 4, .int 5, .int 6, .int 7, .int 8, .int 9, .int 10, .int 11, .int 12, .int 13, .int 14, .int 0], .tup [.int 0, .int 14, .int 13, .int 12, .int 11, .int 10, .int 9, .int 8, .int 7, .int 6, .int 5, .int 4, .int 3, .int 2, .int 1]], .int 30]) := by
  have h := size_ok (n := 15) (z := 30) (gs := [66933498461897505, 81985529216486880]) (by decide) (by decide) (by decide +kernel) sz_59
  have e : List.map (T 15) [66933498461897505, 81985529216486880] = [.tup [.int 1, .int 2, .int 3, .int 4, .int 5, .int 6, .int 7, .int 8, .int 9, .int 10, .int 11, .int 12, .int 13, .int 14, .int 0], .tup [.int 0, .int 14, .int 13, .int 12, .int 11, .int 10, .int 9, .int 8, .int 7, .int 6, .int 5, .int 4, .int 3, .int 2, .int 1]] := by kernel_rfl
  rw [e] at h
  exact h
end Lw

end

section
set_option maxHeartbeats 0
namespace Lw
open PySem PySem.Spec PyProof.Rows L2 G Mir
theorem sz_60 : Mir.size 16 [1147797409030816545, 18364758544493064705] = some 20922789888000 := by decide +kernel
theorem ip_60 : itemOk (.lst [.str "s16", .int 16, .lst [.tup [.int 1, .int 2, .int 3, .int 4, .int 5, .int 6, .int 7, .int 8, .int 9, .int 10, .int 11, .int 12, .int 13, .int 14, .int 15, .int 0], .tup [.int 1, .int 0, .int 2, .int 3, .int 4, .int 5, .int 6, .int 7, .int 8, .int 9, .int 10, .int 11, .int 12, .int 13, .int 14, .int 15]], .int 20922789888000]) := by
  have h := size_ok (n := 16) (z := 20922789888000) (gs := [1147797409030816545, 18364758544493064705]) (by decide) (by decide) (by decide +kernel) sz_60
  have e : List.map (T 16) [1147797409030816545, 18364758544493064705] = [.tup [.int 1, .int 2, .int 3, .int 4, .int 5, .int 6, .int 7, .int 8, .int 9, .int 10, .int 11, .int 12, .int 13, .int 14, .int 15, .int 0], .tup [.int 1, .int 0, .int 2, .int 3, .int 4, .int 5, .int 6, .int 7, .int 8, .int 9, .int 10, .int 11, .int 12, .int 13, .int 14, .int 15]] := by kernel_rfl
  rw [e] at h
  exact h
theorem sz_61 : Mir.size 16 [18364758544493064225, 18364758544493056800, 18364758544492938000, 18364758544491037200, 18364758544460624400, 18364758543974019600, 18364758536188342800, 18364758411617514000, 18364756418484253200, 18364724528352080400, 18364214286237315600, 18356050412401078800, 18225428431021290000, 16135476728944669200] = some 10461394944000 := by decide +kernel
theorem ip_61 : itemOk (.lst [.str "a16", .int 16, .lst [.tup [.int 1, .int 2, .int 0, .int 3, .int 4, .int 5, .int 6, .int 7, .int 8, .int 9, .int 10, .int 11, .int 12, .int 13, .int 14, .int 15], .tup [.int 0, .int 2, .int 3, .int 1, .int 4, .int 5, .int 6, .int 7, .int 8, .int 9, .int 10, .int 11, .int 12, .int 13, .int 14, .int 15], .tup [.int 0, .int 1, .int 3, .int 4, .int 2, .int 5, .int 6, .int 7, .int 8, .int 9, .int 10, .int 11, .int 12, .int 13, .int 14, .int 15], .tup [.int 0, .int 1, .int 2, .int 4, .int 5, .int 3, .int 6, .int 7, .int 8, .int 9, .int 10, .int 11, .int 12, .int 13, .int 14, .int 15], .tup [.int 0, .int 1, .int 2, .int 3, .int 5, .int 6, .int 4, .int 7, .int 8, .int 9, .int 10, .int 11, .int 12, .int 13, .int 14, .int 15], .tup [.int 0, .int 1, .int 2, .int 3, .int 4, .int 6, .int 7, .int 5, .int 8, .int 9, .int 10, .int 11, .int 12, .int 13, .int 14, .int 15], .tup [.int 0, .int 1, .int 2, .int 3, .int 4, .int 5, .int 7, .int 8, .int 6, .int 9, .int 10, .int 11, .int 12, .int 13, .int 14, .int 15], .tup [.int 0, .int 1, .int 2, .int 3, .int 4, .int 5, .int 6, .int 8, .int 9, .int 7, .int 10, .int 11, .int 12, .int 13, .int 14, .int 15], .tup [.int 0, .int 1, .int 2, .int 3, .int 4, .int 5, .int 6, .int 7, .int 9, .int 10, .int 8, .int 11, .int 12, .int 13, .int 14, .int 15], .tup [.int 0, .int 1, .int 2, .int 3, .int 4, .int 5, .int 6, .int 7, .int 8, .int 10, .int 11, .int 9, .int 12, .int 13, .int 14, .int 15], .tup [.int 0, .int 1, .int 2, .int 3, .int 4, .int 5, .int 6, .int 7, .int 8, .int 9, .int 11, .int 12, .int 10, .int 13, .int 14, .int 15], .tup [.int 0, .int 1, .int 2, .int 3, .int 4, .int 5, .int 6, .int 7, .int 8, .int 9, .int 10, .int 12, .int 13, .int 11, .int 14, .int 15], .tup [.int 0, .int 1, .int 2, .int 3, .int 4, .int 5, .int 6, .int 7, .int 8, .int 9, .int 10, .int 11, .int 13, .int 14, .int 12, .int 15], .tup [.int 0, .int 1, .int 2, .int 3, .int 4, .int 5, .int 6, .int 7, .int 8, .int 9, .int 10, .int 11, .int 12, .int 14, .int 15, .int 13]], .int 10461394944000]) := by
  have h := size_ok (n := 16) (z := 10461394944000) (gs := [18364758544493064225, 18364758544493056800, 18364758544492938000, 18364758544491037200, 18364758544460624400, 18364758543974019600, 18364758536188342800, 18364758411617514000, 18364756418484253200, 18364724528352080400, 18364214286237315600, 18356050412401078800, 18225428431021290000, 16135476728944669200]) (by decide) (by decide) (by decide +kernel) sz_61
  have e : List.map (T 16) [18364758544493064225, 18364758544493056800, 18364758544492938000, 18364758544491037200, 18364758544460624400, 18364758543974019600, 18364758536188342800, 18364758411617514000, 18364756418484253200, 18364724528352080400, 18364214286237315600, 18356050412401078800, 18225428431021290000, 16135476728944669200] = [.tup [.int 1, .int 2, .int 0, .int 3, .int 4, .int 5, .int 6, .int 7, .int 8, .int 9, .int 10, .int 11, .int 12, .int 13, .int 14, .int 15], .tup [.int 0, .int 2, .int 3, .int 1, .int 4, .int 5, .int 6, .int 7, .int 8, .int 9, .int 10, .int 11, .int 12, .int 13, .int 14, .int 15], .tup [.int 0, .int 1, .int 3, .int 4, .int 2, .int 5, .int 6, .int 7, .int 8, .int 9, .int 10, .int 11, .int 12, .int 13, .int 14, .int 15], .tup [.int 0, .int 1, .int 2, .int 4, .int 5, .int 3, .int 6, .int 7, .int 8, .int 9, .int 10, .int 11, .int 12, .int 13, .int 14, .int 15], .tup [.int 0, .int 1, .int 2, .int 3, .int 5, .int 6, .int 4, .int 7, .int 8, .int 9, .int 10, .int 11, .int 12, .int 13, .int 14, .int 15], .tup [.int 0, .int 1, .int 2, .int 3, .int 4, .int 6, .int 7, .int 5, .int 8, .int 9, .int 10, .int 11, .int 12, .int 13, .int 14, .int 15], .tup [.int 0, .int 1, .int 2, .int 3, .int 4, .int 5, .int 7, .int 8, .int 6, .int 9, .int 10, .int 11, .int 12, .int 13, .int 14, .int 15], .tup [.int 0, .int 1, .int 2, .int 3, .int 4, .int 5, .int 6, .int 8, .int 9, .int 7, .int 10, .int 11, .int 12, .int 13, .int 14, .int 15], .tup [.int 0, .int 1, .int 2, .int 3, .int 4, .int 5, .int 6, .int 7, .int 9, .int 10, .int 8, .int 11, .int 12, .int 13, .int 14, .int 15], .tup [.int 0, .int 1, .int 2, .int 3, .int 4, .int 5, .int 6, .int 7, .int 8, .int 10, .int 11, .int 9, .int 12, .int 13, .int 14, .int 15], .tup [.int 0, .int 1, .int 2, .int 3, .int 4, .int 5, .int 6, .int 7, .int 8, .int 9, .int 11, .int 12, .int 10, .int 13, .int 14, .int 15], .tup [.int 0, .int 1, .int 2, .int 3, .int 4, .int 5, .int 6, .int 7, .int 8, .int 9, .int 10, .int 12, .int 13, .int 11, .int 14, .int 15], .tup [.int 0, .int 1, .int 2, .int 3, .int 4, .int 5, .int 6, .int 7, .int 8, .int 9, .int 10, .int 11, .int 13, .int 14, .int 12, .int 15], .tup [.int 0, .int 1, .int 2, .int 3, .int 4, .int 5, .int 6, .int 7, .int 8, .int 9, .int 10, .int 11, .int 12, .int 14, .int 15, .int 13]] := by kernel_rfl
  rw [e] at h
  exact h
theorem sz_62 : Mir.size 16 [1147797409030816545] = some 16 := by decide +kernel
theorem ip_62 : itemOk (.lst [.str "c16", .int 16, .lst [.tup [.int 1, .int 2, .int 3, .int 4, .int 5, .int 6, .int 7, .int 8, .int 9, .int 10, .int 11, .int 12, .int 13, .int 14, .int 15, .int 0]], .int 16]) := by
  have h := size_ok (n := 16) (z := 16) (gs := [1147797409030816545]) (by decide) (by decide) (by decide +kernel) sz_62
  have e : List.map (T 16) [1147797409030816545] = [.tup [.int 1, .int 2, .int 3, .int 4, .int 5, .int 6, .int 7, .int 8, .int 9, .int 10, .int 11, .int 12, .int 13, .int 14, .int 15, .int 0]] := by kernel_rfl
  rw [e] at h
  exact h
theorem sz_63 : Mir.size 16 [1147797409030816545, 1311768467463790320] = some 32 := by decide +kernel
theorem ip_63 : itemOk (.lst [.str "d16", .int 16, .lst [.tup [.int 1, .int 2, .int 3, .int 4, .int 5, .int 6, .int 7, .int 8, .int 9, .int 10, .int 11, .int 12, .int 13, .int 14, .int 15, .int 0], .tup [.int 0, .int 15, .int 14, .int 13, .int 12, .int 11, .int 10, .int 9, .int 8, .int 7, .int 6, .int 5, .int 4, .int 3, .int 2, .int 1]], .int 32]) := by
  have h := size_ok (n := 16) (z := 32) (gs := [1147797409030816545, 1311768467463790320]) (by decide) (by decide) (by decide +kernel) sz_63
  have e : List.map (T 16) [1147797409030816545, 1311768467463790320] = [.tup [.int 1, .int 2, .int 3, .int 4, .int 5, .int 6, .int 7, .int 8, .int 9, .int 10, .int 11, .int 12, .int 13, .int 14, .int 15, .int 0], .tup [.int 0, .int 15, .int 14, .int 13, .int 12, .int 11, .int 10, .int 9, .int 8, .int 7, .int 6, .int 5, .int 4, .int 3, .int 2, .int 1]] := by kernel_rfl
  rw [e] at h
  exact h
theorem sz_79 : Mir.size 16 [17279655951921914625, 18282773019571545120, 17283878140998066960] = some 322560 := by decide +kernel
theorem ip_79 : itemOk (.lst [.str "b4", .int 16, .lst [.tup [.int 1, .int 0, .int 3, .int 2, .int 5, .int 4, .int 7, .int 6, .int 9, .int 8, .int 11, .int 10, .int 13, .int 12, .int 15, .int 14], .tup [.int 0, .int 2, .int 4, .int 6, .int 8, .int 10, .int 12, .int 14, .int 1, .int 3, .int 5, .int 7, .int 9, .int 11, .int 13, .int 15], .tup [.int 0, .int 1, .int 3, .int 2, .int 4, .int 5, .int 7, .int 6, .int 8, .int 9, .int 11, .int 10, .int 12, .int 13, .int 15, .int 14]], .int 322560]) := by
  have h := size_ok (n := 16) (z := 322560) (gs := [17279655951921914625, 18282773019571545120, 17283878140998066960]) (by decide) (by decide) (by decide +kernel) sz_79
  have e : List.map (T 16) [17279655951921914625, 18282773019571545120, 17283878140998066960] = [.tup [.int 1, .int 0, .int 3, .int 2, .int 5, .int 4, .int 7, .int 6, .int 9, .int 8, .int 11, .int 10, .int 13, .int 12, .int 15, .int 14], .tup [.int 0, .int 2, .int 4, .int 6, .int 8, .int 10, .int 12, .int 14, .int 1, .int 3, .int 5, .int 7, .int 9, .int 11, .int 13, .int 15], .tup [.int 0, .int 1, .int 3, .int 2, .int 4, .int 5, .int 7, .int 6, .int 8, .int 9, .int 11, .int 10, .int 12, .int 13, .int 15, .int 14]] := by kernel_rfl
  rw [e] at h
  exact h
end Lw

end

section
set_option maxHeartbeats 0
namespace Lw
open PySem PySem.Spec PyProof.Rows L2 G Mir
theorem menu_ok : ∀ it ∈ MENU, itemOk it := by
  unfold MENU
  exact List.forall_mem_cons.mpr ⟨ip_0, List.forall_mem_cons.mpr ⟨ip_1, List.forall_mem_cons.mpr ⟨ip_2, List.forall_mem_cons.mpr ⟨ip_3, List.forall_mem_cons.mpr ⟨ip_4, List.forall_mem_cons.mpr ⟨ip_5, List.forall_mem_cons.mpr ⟨ip_6, List.forall_mem_cons.mpr ⟨ip_7, List.forall_mem_cons.mpr ⟨ip_8, List.forall_mem_cons.mpr ⟨ip_9, List.forall_mem_cons.mpr ⟨ip_10, List.forall_mem_cons.mpr ⟨ip_11, List.forall_mem_cons.mpr ⟨ip_12, List.forall_mem_cons.mpr ⟨ip_13, List.forall_mem_cons.mpr ⟨ip_14, List.forall_mem_cons.mpr ⟨ip_15, List.forall_mem_cons.mpr ⟨ip_16, List.forall_mem_cons.mpr ⟨ip_17, List.forall_mem_cons.mpr ⟨ip_18, List.forall_mem_cons.mpr ⟨ip_19, List.forall_mem_cons.mpr ⟨ip_20, List.forall_mem_cons.mpr ⟨ip_21, List.forall_mem_cons.mpr ⟨ip_22, List.forall_mem_cons.mpr ⟨ip_23, List.forall_mem_cons.mpr ⟨ip_24, List.forall_mem_cons.mpr ⟨ip_25, List.forall_mem_cons.mpr ⟨ip_26, List.forall_mem_cons.mpr ⟨ip_27, List.forall_mem_cons.mpr ⟨ip_28, List.forall_mem_cons.mpr ⟨ip_29, List.forall_mem_cons.mpr ⟨ip_30, List.forall_mem_cons.mpr ⟨ip_31, List.forall_mem_cons.mpr ⟨ip_32, List.forall_mem_cons.mpr ⟨ip_33, List.forall_mem_cons.mpr ⟨ip_34, List.forall_mem_cons.mpr ⟨ip_35, List.forall_mem_cons.mpr ⟨ip_36, List.forall_mem_cons.mpr ⟨ip_37, List.forall_mem_cons.mpr ⟨ip_38, List.forall_mem_cons.mpr ⟨ip_39, List.forall_mem_cons.mpr ⟨ip_40, List.forall_mem_cons.mpr ⟨ip_41, List.forall_mem_cons.mpr ⟨ip_42, List.forall_mem_cons.mpr ⟨ip_43, List.forall_mem_cons.mpr ⟨ip_44, List.forall_mem_cons.mpr ⟨ip_45, List.forall_mem_cons.mpr ⟨ip_46, List.forall_mem_cons.mpr ⟨ip_47, List.forall_mem_cons.mpr ⟨ip_48, List.forall_mem_cons.mpr ⟨ip_49, List.forall_mem_cons.mpr ⟨ip_50, List.forall_mem_cons.mpr ⟨ip_51, List.forall_mem_cons.mpr ⟨ip_52, List.forall_mem_cons.mpr ⟨ip_53, List.forall_mem_cons.mpr ⟨ip_54, List.forall_mem_cons.mpr ⟨ip_55, List.forall_mem_cons.mpr ⟨ip_56, List.forall_mem_cons.mpr ⟨ip_57, List.forall_mem_cons.mpr ⟨ip_58, List.forall_mem_cons.mpr ⟨ip_59, List.forall_mem_cons.mpr ⟨ip_60, List.forall_mem_cons.mpr ⟨ip_61, List.forall_mem_cons.mpr ⟨ip_62, List.forall_mem_cons.mpr ⟨ip_63, List.forall_mem_cons.mpr ⟨ip_64, List.forall_mem_cons.mpr ⟨ip_65, List.forall_mem_cons.mpr ⟨ip_66, List.forall_mem_cons.mpr ⟨ip_67, List.forall_mem_cons.mpr ⟨ip_68, List.forall_mem_cons.mpr ⟨ip_69, List.forall_mem_cons.mpr ⟨ip_70, List.forall_mem_cons.mpr ⟨ip_71, List.forall_mem_cons.mpr ⟨ip_72, List.forall_mem_cons.mpr ⟨ip_73, List.forall_mem_cons.mpr ⟨ip_74, List.forall_mem_cons.mpr ⟨ip_75, List.forall_mem_cons.mpr ⟨ip_76, List.forall_mem_cons.mpr ⟨ip_77, List.forall_mem_cons.mpr ⟨ip_78, List.forall_mem_cons.mpr ⟨ip_79, List.forall_mem_cons.mpr ⟨ip_80, List.forall_mem_cons.mpr ⟨ip_81, List.forall_mem_cons.mpr ⟨ip_82, fun _ h => by cases h⟩⟩⟩⟩⟩⟩⟩⟩⟩⟩⟩⟩⟩⟩⟩⟩⟩⟩⟩⟩⟩⟩⟩⟩⟩⟩⟩⟩⟩⟩⟩⟩⟩⟩⟩⟩⟩⟩⟩⟩⟩⟩⟩⟩⟩⟩⟩⟩⟩⟩⟩⟩⟩⟩⟩⟩⟩⟩⟩⟩⟩⟩⟩⟩⟩⟩⟩⟩⟩⟩⟩⟩⟩⟩⟩⟩⟩⟩⟩⟩⟩⟩⟩
theorem sizes : SizesOk := fun nm n g z h => menu_ok _ h
end Lw

end

namespace Lw
open PySem PySem.Spec PyProof.Rows L2 G
structure Tx (P : Program) (w : World) (K : PySem.W.Frag) (mg : Str → Option Value) (base : Heap) : Prop where
  n_abs : mg "abs" = none
  n_any : mg "any" = none
  n_enumerate : mg "enumerate" = none
  n_int : mg "int" = none
  n_len : mg "len" = none
  n_list : mg "list" = none
  n_min : mg "min" = none
  n_range : mg "range" = none
  n_str : mg "str" = none
  n_tuple : mg "tuple" = none
  x_PermError : XMk P w K mg base "PermError" 1 fs_PermError (fs1 "code")
  x_BuildError : XMk P w K mg base "BuildError" 1 fs_BuildError (fs1 "code")
  tr_BuildError : TryOk K mg "BuildError" tt_BuildError
  cs_code : CsK K mg cs_code "code"
  g_TEXT_LENGTH : GlobOk K mg "TEXT_LENGTH" (.int 200)
  kd_MATHIEU : KdOk K w mg "MATHIEU" tb_MATHIEU
  kd_MAKERS : KdOk K w mg "MAKERS" tb_MAKERS
  kd_NUMBERS : KdOk K w mg "NUMBERS" tb_NUMBERS
theorem held_ok {P : Program} {w : World} {K : PySem.W.Frag} {mg : Str → Option Value} {base : Heap} {k : Nat} (c_symmetric : Cal P w K mg base k "symmetric" 1 (pureF 200 F_symmetric)) (c_alternating : Cal P w K mg base k "alternating" 1 (pureF 200 F_alternating)) (c_cyclic : Cal P w K mg base k "cyclic" 1 (pureF 200 F_cyclic)) (c_dihedral : Cal P w K mg base k "dihedral" 1 (pureF 200 F_dihedral)) (c_affine : Cal P w K mg base k "affine" 1 (pureF 200 F_affine)) (c_projective : Cal P w K mg base k "projective" 1 (pureF 200 F_projective)) (c_linear : Cal P w K mg base k "linear" 1 (pureF 200 F_linear)) : HeldOk P w K mg base k 1 held := by
  intro x sem h
  unfold held at h
  simp only [List.lookup] at h
  split at h
  · rename_i e; cases h; have e2 : x = "symmetric" := by simpa using e
    subst e2; exact c_symmetric
  split at h
  · rename_i e; cases h; have e2 : x = "alternating" := by simpa using e
    subst e2; exact c_alternating
  split at h
  · rename_i e; cases h; have e2 : x = "cyclic" := by simpa using e
    subst e2; exact c_cyclic
  split at h
  · rename_i e; cases h; have e2 : x = "dihedral" := by simpa using e
    subst e2; exact c_dihedral
  split at h
  · rename_i e; cases h; have e2 : x = "affine" := by simpa using e
    subst e2; exact c_affine
  split at h
  · rename_i e; cases h; have e2 : x = "projective" := by simpa using e
    subst e2; exact c_projective
  split at h
  · rename_i e; cases h; have e2 : x = "linear" := by simpa using e
    subst e2; exact c_linear
  cases h
section
variable {P : Program} {w : World} {K : PySem.W.Frag} {mg : Str → Option Value} {base : Heap}
theorem m_is_number {f : Addr} {fd : FuncData} (T : Tx P w K mg base)  (F : Fun K "is_number" "is_number" s_is_number f fd) (gx : mg "is_number" = some (.ref f)) (b : Binds K fd ["word"] []) : Cal P w K mg base 1 "is_number" 1 F_is_number := by
  refine cal_of (N := ["word", "sign"]) F gx sc_is_number rfl b fun cdv A outer s H E hr => ?_
  have hN := sc_is_number.nd
  have hu := hu_room hr
  have tk := tk_cx (P := P) (w := w) (K := K) (mg := mg) (base := base) (N := ["word", "sign"]) (x := "is_number") (sc := defScope s_is_number) (f := f) (cd := cdv) (A := A) (outer := outer) (s := s) (H := H) (E := E)
  have hp := hp_cx (P := P) (w := w) (K := K) (mg := mg) (base := base) (N := ["word", "sign"]) (x := "is_number") (sc := defScope s_is_number) (f := f) (cd := cdv) (A := A) (outer := outer) (s := s) (H := H) (E := E)
  have hc := hc_cx (P := P) (w := w) (K := K) (mg := mg) (base := base) (N := ["word", "sign"]) (x := "is_number") (sc := defScope s_is_number) (f := f) (cd := cdv) (A := A) (outer := outer) (s := s) (H := H) (E := E)
  exact (mb_cons (ms_if (mt_w (mw_or (mt_eq hu (me_var 0) me_str) (mw_or (mt_gt (me_callB call_lenAny p_len (by rfl) T.n_len boot_len (ma_cons (me_var 0) ma_nil)) me_int) (mw_or1 (mt_tru (me_callB (cr_any hc) p_any (by rfl) T.n_any boot_any (ma_cons (me_frz (mf_comp hc hN (mi_any (me_var 0)) iOf_chk ok_b_is_number_14_42 (by rfl) (fun s0 H0 C0 cl0 fp0 => have hc := hc_blk hc s0 H0 sc_b_is_number_14_42 C0 cl0 fp0; (mg_name 1 hN)) (fun s0 H0 C0 cl0 fp0 => have tk := @takes_wf; have hc := hc_blk hc s0 H0 sc_b_is_number_14_42 C0 cl0 fp0; mts_nil) (fun s0 H0 C0 cl0 fp0 => have tk := @takes_wf; have hc := hc_blk hc s0 H0 sc_b_is_number_14_42 C0 cl0 fp0; (me_nin hu (by rfl) (me_var 1) me_str)))) ma_nil))))))) (mb_one (ms_ret me_bl)) mb_nil)
    (mb_one (ms_ret (me_or (me_eq hu (me_var 0) me_str) (me_one (me_ne hu (me_ix hu (fun _ _ => rfl) (me_var 0) me_int) me_str))))))
theorem m_cycle_texts {f : Addr} {fd : FuncData} (T : Tx P w K mg base)  (F : Fun K "cycle_texts" "cycle_texts" s_cycle_texts f fd) (gx : mg "cycle_texts" = some (.ref f)) (b : Binds K fd ["text"] []) : Cal P w K mg base 1 "cycle_texts" 1 F_cycle_texts := by
  refine cal_of (N := ["text", "found", "rest", "inner", "_", "behind"]) F gx sc_cycle_texts rfl b fun cdv A outer s H E hr => ?_
  have hN := sc_cycle_texts.nd
  have hu := hu_room hr
  have tk := tk_cx (P := P) (w := w) (K := K) (mg := mg) (base := base) (N := ["text", "found", "rest", "inner", "_", "behind"]) (x := "cycle_texts") (sc := defScope s_cycle_texts) (f := f) (cd := cdv) (A := A) (outer := outer) (s := s) (H := H) (E := E)
  have hp := hp_cx (P := P) (w := w) (K := K) (mg := mg) (base := base) (N := ["text", "found", "rest", "inner", "_", "behind"]) (x := "cycle_texts") (sc := defScope s_cycle_texts) (f := f) (cd := cdv) (A := A) (outer := outer) (s := s) (H := H) (E := E)
  have hc := hc_cx (P := P) (w := w) (K := K) (mg := mg) (base := base) (N := ["text", "found", "rest", "inner", "_", "behind"]) (x := "cycle_texts") (sc := defScope s_cycle_texts) (f := f) (cd := cdv) (A := A) (outer := outer) (s := s) (H := H) (E := E)
  exact (mb_cons (ms_set 1 hN (me_new (mf_lst ma_nil)))
    (mb_cons (ms_set 2 hN (me_strip1 (me_var 0) (ma_cons me_str ma_nil)))
    (mb_cons (ms_while 100000 hp (mt_ne hu (me_var 2) me_str) (mb_cons (ms_if (mt_w (mw_or (mt_ne hu (me_ix hu (fun _ _ => rfl) (me_var 2) me_int) me_str) (mw_or1 (mt_nin hu (by rfl) me_str (me_var 2))))) (mb_one (ms_ret me_non)) mb_nil)
    (mb_cons (ms_asg (me_partition (me_slice (me_var 2) (mo_some me_int) mo_none) (ma_cons me_str ma_nil)) (mg_tup hc (mgs_cons (mg_name 3 hN) (mgs_cons (mg_name 4 hN) (mgs_cons (mg_name 5 hN) mgs_nil)))))
    (mb_cons (ms_expr (me_append (me_var 1) (ma_cons (me_var 3) ma_nil)))
    (mb_one (ms_set 2 hN (me_lstrip1 (me_var 5) (ma_cons me_str ma_nil))))))))
    (mb_one (ms_ret (me_if (mt_tru (me_var 1)) (me_var 1) me_non))))))
theorem m_parse_perm {f : Addr} {fd : FuncData} (T : Tx P w K mg base) (c_cycle_texts : Cal P w K mg base 1 "cycle_texts" 1 (pureF 200 F_cycle_texts)) (c_is_number : Cal P w K mg base 1 "is_number" 1 (pureF 200 F_is_number)) (F : Fun K "parse_perm" "parse_perm" s_parse_perm f fd) (gx : mg "parse_perm" = some (.ref f)) (b : Binds K fd ["many", "text"] []) : Cal P w K mg base 4 "parse_perm" 2 F_parse_perm := by
  refine cal_of (N := ["many", "text", "inners", "rows", "images", "seen", "row", "points", "point", "at", "inner", "word"]) F gx sc_parse_perm rfl b fun cdv A outer s H E hr => ?_
  have hN := sc_parse_perm.nd
  have hu := hu_room hr
  have tk := tk_cx (P := P) (w := w) (K := K) (mg := mg) (base := base) (N := ["many", "text", "inners", "rows", "images", "seen", "row", "points", "point", "at", "inner", "word"]) (x := "parse_perm") (sc := defScope s_parse_perm) (f := f) (cd := cdv) (A := A) (outer := outer) (s := s) (H := H) (E := E)
  have hp := hp_cx (P := P) (w := w) (K := K) (mg := mg) (base := base) (N := ["many", "text", "inners", "rows", "images", "seen", "row", "points", "point", "at", "inner", "word"]) (x := "parse_perm") (sc := defScope s_parse_perm) (f := f) (cd := cdv) (A := A) (outer := outer) (s := s) (H := H) (E := E)
  have hc := hc_cx (P := P) (w := w) (K := K) (mg := mg) (base := base) (N := ["many", "text", "inners", "rows", "images", "seen", "row", "points", "point", "at", "inner", "word"]) (x := "parse_perm") (sc := defScope s_parse_perm) (f := f) (cd := cdv) (A := A) (outer := outer) (s := s) (H := H) (E := E)
  exact (mb_cons (ms_if (mt_gt (me_callB call_lenAny p_len (by rfl) T.n_len boot_len (ma_cons (me_var 1) ma_nil)) (me_glob (v := .int 200) (by rfl) T.g_TEXT_LENGTH)) (mb_one (ms_raise T.x_PermError hc hr (by decide) tk (ma_cons me_str ma_nil) (by rfl))) mb_nil)
    (mb_cons (ms_set 2 hN (me_call c_cycle_texts hr (by decide) (by rfl) tk (ma_cons (me_var 1) ma_nil)))
    (mb_cons (ms_if (mt_is (me_var 2) me_non) (mb_one (ms_raise T.x_PermError hc hr (by decide) tk (ma_cons me_str ma_nil) (by rfl))) mb_nil)
    (mb_cons (ms_setFrz (comp_asg 3 hc hN (by rfl) (by rfl) (by rfl) (mi_any (me_var 2)) iOf_chk ok_b_parse_perm_33_11 (by rfl) (fun s0 H0 C0 cl0 fp0 => have hc := hc_blk hc s0 H0 sc_b_parse_perm_33_11 C0 cl0 fp0; (mg_name 10 hN)) (fun s0 H0 C0 cl0 fp0 => have tk := @takes_wf; have hc := hc_blk hc s0 H0 sc_b_parse_perm_33_11 C0 cl0 fp0; mts_nil) (fun s0 H0 C0 cl0 fp0 => have tk := @takes_wf; have hc := hc_blk hc s0 H0 sc_b_parse_perm_33_11 C0 cl0 fp0; (me_frz (mf_comp hc hN (mi_any (me_frz (mf_split (me_var 10) (ma_cons me_str ma_nil)))) iOf_chk ok_b_parse_perm_33_12 (by rfl) (fun s0 H0 C0 cl0 fp0 => have hc := hc_blk hc s0 H0 sc_b_parse_perm_33_12 C0 cl0 fp0; (mg_name 11 hN)) (fun s0 H0 C0 cl0 fp0 => have tk := @takes_wf; have hc := hc_blk hc s0 H0 sc_b_parse_perm_33_12 C0 cl0 fp0; (mts_one (mt_ne hu (me_var 11) me_str))) (fun s0 H0 C0 cl0 fp0 => have tk := @takes_wf; have hc := hc_blk hc s0 H0 sc_b_parse_perm_33_12 C0 cl0 fp0; (me_var 11)))))))
    (mb_cons (ms_if (mt_tru (me_callB (cr_any hc) p_any (by rfl) T.n_any boot_any (ma_cons (me_frz (mf_comp2 hc hN (mi_any (me_var 3)) iOf_chk ok_b_parse_perm_34_11 (by rfl) (vs1 := [11]) (by decide) (by rfl) iOf_chk (fun s0 H0 C0 cl0 fp0 => have hc := hc_blk hc s0 H0 sc_b_parse_perm_34_11 C0 cl0 fp0; (mg_name 6 hN)) (fun s0 H0 C0 cl0 fp0 => have tk := @takes_wf; have hc := hc_blk hc s0 H0 sc_b_parse_perm_34_11 C0 cl0 fp0; mts_nil) (fun s0 H0 C0 cl0 fp0 => have tk := @takes_wf; have hc := hc_blk hc s0 H0 sc_b_parse_perm_34_11 C0 cl0 fp0; (mi_any (me_var 6))) (fun s0 H0 C0 cl0 fp0 => have hc := hc_blk hc s0 H0 sc_b_parse_perm_34_11 C0 cl0 fp0; (mg_name 11 hN)) (fun s0 H0 C0 cl0 fp0 => have tk := @takes_wf; have hc := hc_blk hc s0 H0 sc_b_parse_perm_34_11 C0 cl0 fp0; mts_nil) (fun s0 H0 C0 cl0 fp0 => have tk := @takes_wf; have hc := hc_blk hc s0 H0 sc_b_parse_perm_34_11 C0 cl0 fp0; (me_not (me_call c_is_number hr (by decide) (by rfl) tk (ma_cons (me_var 11) ma_nil)))))) ma_nil))) (mb_one (ms_raise T.x_PermError hc hr (by decide) tk (ma_cons me_str ma_nil) (by rfl))) mb_nil)
    (mb_cons (ms_set 4 hN (me_new (mf_listRg hc (by rfl) T.n_list (mrg_1 (by rfl) T.n_range (me_var 0)))))
    (mb_cons (ms_set 5 hN me_dicK)
    (mb_cons (ms_for hp hc (mi_any (me_var 3)) (mg_name 6 hN) (mb_cons (ms_setFrz (comp_asg 7 hc hN (by rfl) (by rfl) (by rfl) (mi_any (me_var 6)) iOf_chk ok_b_parse_perm_39_17 (by rfl) (fun s0 H0 C0 cl0 fp0 => have hc := hc_blk hc s0 H0 sc_b_parse_perm_39_17 C0 cl0 fp0; (mg_name 11 hN)) (fun s0 H0 C0 cl0 fp0 => have tk := @takes_wf; have hc := hc_blk hc s0 H0 sc_b_parse_perm_39_17 C0 cl0 fp0; mts_nil) (fun s0 H0 C0 cl0 fp0 => have tk := @takes_wf; have hc := hc_blk hc s0 H0 sc_b_parse_perm_39_17 C0 cl0 fp0; (me_callTy (call_int1.or call_int_str) p_int (by rfl) T.n_int boot_int (ma_cons (me_var 11) ma_nil)))))
    (mb_cons (ms_for hp hc (mi_any (me_var 7)) (mg_name 8 hN) (mb_cons (ms_if (mt_ge (me_var 8) (me_var 0)) (mb_one (ms_raise T.x_PermError hc hr (by decide) tk (ma_cons me_str ma_nil) (by rfl))) mb_nil)
    (mb_cons (ms_if (mt_in hu (by rfl) (me_var 8) (me_var 5)) (mb_one (ms_raise T.x_PermError hc hr (by decide) tk (ma_cons me_str ma_nil) (by rfl))) mb_nil)
    (mb_one (ms_sub hu (me_var 5) (me_var 8) me_bl)))) iOf_chk)
    (mb_one (ms_for hp hc (mi_enum (by rfl) T.n_enumerate (ma_cons (me_var 7) ma_nil)) (mg_tup hc (mgs_cons (mg_name 9 hN) (mgs_cons (mg_name 8 hN) mgs_nil))) (mb_one (ms_sub hu (me_var 4) (me_var 8) (me_ix hu (fun _ _ => rfl) (me_var 7) (me_mod (me_add (me_var 9) me_int) (me_callB call_lenAny p_len (by rfl) T.n_len boot_len (ma_cons (me_var 7) ma_nil)))))) iEnum_chk)))) iOf_chk)
    (mb_one (ms_ret (me_callTy call_tuple_of p_tuple (by rfl) T.n_tuple boot_tuple (ma_cons (me_var 4) ma_nil))))))))))))
theorem m_turned {f : Addr} {fd : FuncData} (T : Tx P w K mg base)  (F : Fun K "turned" "turned" s_turned f fd) (gx : mg "turned" = some (.ref f)) (b : Binds K fd ["many", "points"] []) : Cal P w K mg base 1 "turned" 2 F_turned := by
  refine cal_of (N := ["many", "points", "images", "at", "point"]) F gx sc_turned rfl b fun cdv A outer s H E hr => ?_
  have hN := sc_turned.nd
  have hu := hu_room hr
  have tk := tk_cx (P := P) (w := w) (K := K) (mg := mg) (base := base) (N := ["many", "points", "images", "at", "point"]) (x := "turned") (sc := defScope s_turned) (f := f) (cd := cdv) (A := A) (outer := outer) (s := s) (H := H) (E := E)
  have hp := hp_cx (P := P) (w := w) (K := K) (mg := mg) (base := base) (N := ["many", "points", "images", "at", "point"]) (x := "turned") (sc := defScope s_turned) (f := f) (cd := cdv) (A := A) (outer := outer) (s := s) (H := H) (E := E)
  have hc := hc_cx (P := P) (w := w) (K := K) (mg := mg) (base := base) (N := ["many", "points", "images", "at", "point"]) (x := "turned") (sc := defScope s_turned) (f := f) (cd := cdv) (A := A) (outer := outer) (s := s) (H := H) (E := E)
  exact (mb_cons (ms_set 2 hN (me_new (mf_listRg hc (by rfl) T.n_list (mrg_1 (by rfl) T.n_range (me_var 0)))))
    (mb_cons (ms_for hp hc (mi_enum (by rfl) T.n_enumerate (ma_cons (me_var 1) ma_nil)) (mg_tup hc (mgs_cons (mg_name 3 hN) (mgs_cons (mg_name 4 hN) mgs_nil))) (mb_one (ms_sub hu (me_var 2) (me_var 4) (me_ix hu (fun _ _ => rfl) (me_var 1) (me_mod (me_add (me_var 3) me_int) (me_callB call_lenAny p_len (by rfl) T.n_len boot_len (ma_cons (me_var 1) ma_nil)))))) iEnum_chk)
    (mb_one (ms_ret (me_callTy call_tuple_of p_tuple (by rfl) T.n_tuple boot_tuple (ma_cons (me_var 2) ma_nil))))))
theorem m_symmetric {f : Addr} {fd : FuncData} (T : Tx P w K mg base) (c_turned : Cal P w K mg base 1 "turned" 2 (pureF 200 F_turned)) (F : Fun K "symmetric" "symmetric" s_symmetric f fd) (gx : mg "symmetric" = some (.ref f)) (b : Binds K fd ["many"] []) : Cal P w K mg base 2 "symmetric" 1 F_symmetric := by
  refine cal_of (N := ["many"]) F gx sc_symmetric rfl b fun cdv A outer s H E hr => ?_
  have hN := sc_symmetric.nd
  have hu := hu_room hr
  have tk := tk_cx (P := P) (w := w) (K := K) (mg := mg) (base := base) (N := ["many"]) (x := "symmetric") (sc := defScope s_symmetric) (f := f) (cd := cdv) (A := A) (outer := outer) (s := s) (H := H) (E := E)
  have hp := hp_cx (P := P) (w := w) (K := K) (mg := mg) (base := base) (N := ["many"]) (x := "symmetric") (sc := defScope s_symmetric) (f := f) (cd := cdv) (A := A) (outer := outer) (s := s) (H := H) (E := E)
  have hc := hc_cx (P := P) (w := w) (K := K) (mg := mg) (base := base) (N := ["many"]) (x := "symmetric") (sc := defScope s_symmetric) (f := f) (cd := cdv) (A := A) (outer := outer) (s := s) (H := H) (E := E)
  exact (mb_one (ms_ret (me_tup (ma_cons (me_var 0) (ma_cons (me_tup (ma_cons (me_call c_turned hr (by decide) (by rfl) tk (ma_cons (me_var 0) (ma_cons (me_frz (mf_listRg hc (by rfl) T.n_list (mrg_1 (by rfl) T.n_range (me_var 0)))) ma_nil))) (ma_cons (me_call c_turned hr (by decide) (by rfl) tk (ma_cons (me_var 0) (ma_cons (me_frz (mf_listRg hc (by rfl) T.n_list (mrg_1 (by rfl) T.n_range (me_callB (call_min2 hc) p_min2 (by rfl) T.n_min boot_min (ma_cons (me_var 0) (ma_cons me_int ma_nil)))))) ma_nil))) ma_nil))) ma_nil)))))
theorem m_alternating {f : Addr} {fd : FuncData} (T : Tx P w K mg base) (c_turned : Cal P w K mg base 1 "turned" 2 (pureF 200 F_turned)) (F : Fun K "alternating" "alternating" s_alternating f fd) (gx : mg "alternating" = some (.ref f)) (b : Binds K fd ["many"] []) : Cal P w K mg base 2 "alternating" 1 F_alternating := by
  refine cal_of (N := ["many", "at"]) F gx sc_alternating rfl b fun cdv A outer s H E hr => ?_
  have hN := sc_alternating.nd
  have hu := hu_room hr
  have tk := tk_cx (P := P) (w := w) (K := K) (mg := mg) (base := base) (N := ["many", "at"]) (x := "alternating") (sc := defScope s_alternating) (f := f) (cd := cdv) (A := A) (outer := outer) (s := s) (H := H) (E := E)
  have hp := hp_cx (P := P) (w := w) (K := K) (mg := mg) (base := base) (N := ["many", "at"]) (x := "alternating") (sc := defScope s_alternating) (f := f) (cd := cdv) (A := A) (outer := outer) (s := s) (H := H) (E := E)
  have hc := hc_cx (P := P) (w := w) (K := K) (mg := mg) (base := base) (N := ["many", "at"]) (x := "alternating") (sc := defScope s_alternating) (f := f) (cd := cdv) (A := A) (outer := outer) (s := s) (H := H) (E := E)
  exact (mb_one (ms_ret (me_tup (ma_cons (me_var 0) (ma_cons (me_callTy call_tuple_of p_tuple (by rfl) T.n_tuple boot_tuple (ma_cons (me_frz (mf_comp hc hN (mi_range1 (by rfl) T.n_range (ma_cons (me_sub (me_var 0) me_int) ma_nil)) iRange_chk ok_b_alternating_60_24 (by rfl) (fun s0 H0 C0 cl0 fp0 => have hc := hc_blk hc s0 H0 sc_b_alternating_60_24 C0 cl0 fp0; (mg_name 1 hN)) (fun s0 H0 C0 cl0 fp0 => have tk := @takes_wf; have hc := hc_blk hc s0 H0 sc_b_alternating_60_24 C0 cl0 fp0; mts_nil) (fun s0 H0 C0 cl0 fp0 => have tk := @takes_wf; have hc := hc_blk hc s0 H0 sc_b_alternating_60_24 C0 cl0 fp0; (me_call c_turned hr (by decide) (by rfl) tk (ma_cons (me_var 0) (ma_cons (me_frz (mf_lst (ma_cons (me_var 1) (ma_cons (me_add (me_var 1) me_int) (ma_cons (me_add (me_var 1) me_int) ma_nil))))) ma_nil)))))) ma_nil)) ma_nil)))))
theorem m_cyclic {f : Addr} {fd : FuncData} (T : Tx P w K mg base) (c_turned : Cal P w K mg base 1 "turned" 2 (pureF 200 F_turned)) (F : Fun K "cyclic" "cyclic" s_cyclic f fd) (gx : mg "cyclic" = some (.ref f)) (b : Binds K fd ["many"] []) : Cal P w K mg base 2 "cyclic" 1 F_cyclic := by
  refine cal_of (N := ["many"]) F gx sc_cyclic rfl b fun cdv A outer s H E hr => ?_
  have hN := sc_cyclic.nd
  have hu := hu_room hr
  have tk := tk_cx (P := P) (w := w) (K := K) (mg := mg) (base := base) (N := ["many"]) (x := "cyclic") (sc := defScope s_cyclic) (f := f) (cd := cdv) (A := A) (outer := outer) (s := s) (H := H) (E := E)
  have hp := hp_cx (P := P) (w := w) (K := K) (mg := mg) (base := base) (N := ["many"]) (x := "cyclic") (sc := defScope s_cyclic) (f := f) (cd := cdv) (A := A) (outer := outer) (s := s) (H := H) (E := E)
  have hc := hc_cx (P := P) (w := w) (K := K) (mg := mg) (base := base) (N := ["many"]) (x := "cyclic") (sc := defScope s_cyclic) (f := f) (cd := cdv) (A := A) (outer := outer) (s := s) (H := H) (E := E)
  exact (mb_one (ms_ret (me_tup (ma_cons (me_var 0) (ma_cons (me_tup (ma_cons (me_call c_turned hr (by decide) (by rfl) tk (ma_cons (me_var 0) (ma_cons (me_frz (mf_listRg hc (by rfl) T.n_list (mrg_1 (by rfl) T.n_range (me_var 0)))) ma_nil))) ma_nil)) ma_nil)))))
theorem m_dihedral {f : Addr} {fd : FuncData} (T : Tx P w K mg base) (c_turned : Cal P w K mg base 1 "turned" 2 (pureF 200 F_turned)) (F : Fun K "dihedral" "dihedral" s_dihedral f fd) (gx : mg "dihedral" = some (.ref f)) (b : Binds K fd ["many"] []) : Cal P w K mg base 2 "dihedral" 1 F_dihedral := by
  refine cal_of (N := ["many", "point"]) F gx sc_dihedral rfl b fun cdv A outer s H E hr => ?_
  have hN := sc_dihedral.nd
  have hu := hu_room hr
  have tk := tk_cx (P := P) (w := w) (K := K) (mg := mg) (base := base) (N := ["many", "point"]) (x := "dihedral") (sc := defScope s_dihedral) (f := f) (cd := cdv) (A := A) (outer := outer) (s := s) (H := H) (E := E)
  have hp := hp_cx (P := P) (w := w) (K := K) (mg := mg) (base := base) (N := ["many", "point"]) (x := "dihedral") (sc := defScope s_dihedral) (f := f) (cd := cdv) (A := A) (outer := outer) (s := s) (H := H) (E := E)
  have hc := hc_cx (P := P) (w := w) (K := K) (mg := mg) (base := base) (N := ["many", "point"]) (x := "dihedral") (sc := defScope s_dihedral) (f := f) (cd := cdv) (A := A) (outer := outer) (s := s) (H := H) (E := E)
  exact (mb_one (ms_ret (me_tup (ma_cons (me_var 0) (ma_cons (me_tup (ma_cons (me_call c_turned hr (by decide) (by rfl) tk (ma_cons (me_var 0) (ma_cons (me_frz (mf_listRg hc (by rfl) T.n_list (mrg_1 (by rfl) T.n_range (me_var 0)))) ma_nil))) (ma_cons (me_callTy call_tuple_of p_tuple (by rfl) T.n_tuple boot_tuple (ma_cons (me_frz (mf_comp hc hN (mi_range1 (by rfl) T.n_range (ma_cons (me_var 0) ma_nil)) iRange_chk ok_b_dihedral_64_58 (by rfl) (fun s0 H0 C0 cl0 fp0 => have hc := hc_blk hc s0 H0 sc_b_dihedral_64_58 C0 cl0 fp0; (mg_name 1 hN)) (fun s0 H0 C0 cl0 fp0 => have tk := @takes_wf; have hc := hc_blk hc s0 H0 sc_b_dihedral_64_58 C0 cl0 fp0; mts_nil) (fun s0 H0 C0 cl0 fp0 => have tk := @takes_wf; have hc := hc_blk hc s0 H0 sc_b_dihedral_64_58 C0 cl0 fp0; (me_mod (me_sub (me_var 0) (me_var 1)) (me_var 0))))) ma_nil)) ma_nil))) ma_nil)))))
theorem m_root_of_prime {f : Addr} {fd : FuncData} (T : Tx P w K mg base)  (F : Fun K "root_of_prime" "root_of_prime" s_root_of_prime f fd) (gx : mg "root_of_prime" = some (.ref f)) (b : Binds K fd ["prime"] []) : Cal P w K mg base 1 "root_of_prime" 1 F_root_of_prime := by
  refine cal_of (N := ["prime", "number", "power", "size"]) F gx sc_root_of_prime rfl b fun cdv A outer s H E hr => ?_
  have hN := sc_root_of_prime.nd
  have hu := hu_room hr
  have tk := tk_cx (P := P) (w := w) (K := K) (mg := mg) (base := base) (N := ["prime", "number", "power", "size"]) (x := "root_of_prime") (sc := defScope s_root_of_prime) (f := f) (cd := cdv) (A := A) (outer := outer) (s := s) (H := H) (E := E)
  have hp := hp_cx (P := P) (w := w) (K := K) (mg := mg) (base := base) (N := ["prime", "number", "power", "size"]) (x := "root_of_prime") (sc := defScope s_root_of_prime) (f := f) (cd := cdv) (A := A) (outer := outer) (s := s) (H := H) (E := E)
  have hc := hc_cx (P := P) (w := w) (K := K) (mg := mg) (base := base) (N := ["prime", "number", "power", "size"]) (x := "root_of_prime") (sc := defScope s_root_of_prime) (f := f) (cd := cdv) (A := A) (outer := outer) (s := s) (H := H) (E := E)
  exact (mb_cons (ms_for hp hc (mi_range2 (by rfl) T.n_range (ma_cons me_int (ma_cons (me_var 0) ma_nil))) (mg_name 1 hN) (mb_cons (ms_set 2 hN (me_var 1))
    (mb_cons (ms_set 3 hN me_int)
    (mb_cons (ms_while 100000 hp (mt_ne hu (me_var 2) me_int) (mb_cons (ms_set 2 hN (me_mod (me_mul (me_var 2) (me_var 1)) (me_var 0)))
    (mb_one (ms_aug 3 iop_add p_iadd hN me_int))))
    (mb_one (ms_if (mt_eq hu (me_var 3) (me_sub (me_var 0) me_int)) (mb_one (ms_ret (me_var 1))) mb_nil))))) iRange_chk)
    (mb_one (ms_ret me_int)))
theorem m_affine {f : Addr} {fd : FuncData} (T : Tx P w K mg base) (c_root_of_prime : Cal P w K mg base 1 "root_of_prime" 1 (pureF 200 F_root_of_prime)) (F : Fun K "affine" "affine" s_affine f fd) (gx : mg "affine" = some (.ref f)) (b : Binds K fd ["prime"] []) : Cal P w K mg base 2 "affine" 1 F_affine := by
  refine cal_of (N := ["prime", "root", "steps", "point"]) F gx sc_affine rfl b fun cdv A outer s H E hr => ?_
  have hN := sc_affine.nd
  have hu := hu_room hr
  have tk := tk_cx (P := P) (w := w) (K := K) (mg := mg) (base := base) (N := ["prime", "root", "steps", "point"]) (x := "affine") (sc := defScope s_affine) (f := f) (cd := cdv) (A := A) (outer := outer) (s := s) (H := H) (E := E)
  have hp := hp_cx (P := P) (w := w) (K := K) (mg := mg) (base := base) (N := ["prime", "root", "steps", "point"]) (x := "affine") (sc := defScope s_affine) (f := f) (cd := cdv) (A := A) (outer := outer) (s := s) (H := H) (E := E)
  have hc := hc_cx (P := P) (w := w) (K := K) (mg := mg) (base := base) (N := ["prime", "root", "steps", "point"]) (x := "affine") (sc := defScope s_affine) (f := f) (cd := cdv) (A := A) (outer := outer) (s := s) (H := H) (E := E)
  exact (mb_cons (ms_set 1 hN (me_call c_root_of_prime hr (by decide) (by rfl) tk (ma_cons (me_var 0) ma_nil)))
    (mb_cons (ms_set 2 hN (me_callTy call_tuple_of p_tuple (by rfl) T.n_tuple boot_tuple (ma_cons (me_frz (mf_comp hc hN (mi_range1 (by rfl) T.n_range (ma_cons (me_var 0) ma_nil)) iRange_chk ok_b_affine_77_18 (by rfl) (fun s0 H0 C0 cl0 fp0 => have hc := hc_blk hc s0 H0 sc_b_affine_77_18 C0 cl0 fp0; (mg_name 3 hN)) (fun s0 H0 C0 cl0 fp0 => have tk := @takes_wf; have hc := hc_blk hc s0 H0 sc_b_affine_77_18 C0 cl0 fp0; mts_nil) (fun s0 H0 C0 cl0 fp0 => have tk := @takes_wf; have hc := hc_blk hc s0 H0 sc_b_affine_77_18 C0 cl0 fp0; (me_mod (me_add (me_var 3) me_int) (me_var 0))))) ma_nil)))
    (mb_one (ms_ret (me_tup (ma_cons (me_var 0) (ma_cons (me_tup (ma_cons (me_var 2) (ma_cons (me_callTy call_tuple_of p_tuple (by rfl) T.n_tuple boot_tuple (ma_cons (me_frz (mf_comp hc hN (mi_range1 (by rfl) T.n_range (ma_cons (me_var 0) ma_nil)) iRange_chk ok_b_affine_78_33 (by rfl) (fun s0 H0 C0 cl0 fp0 => have hc := hc_blk hc s0 H0 sc_b_affine_78_33 C0 cl0 fp0; (mg_name 3 hN)) (fun s0 H0 C0 cl0 fp0 => have tk := @takes_wf; have hc := hc_blk hc s0 H0 sc_b_affine_78_33 C0 cl0 fp0; mts_nil) (fun s0 H0 C0 cl0 fp0 => have tk := @takes_wf; have hc := hc_blk hc s0 H0 sc_b_affine_78_33 C0 cl0 fp0; (me_mod (me_mul (me_var 3) (me_var 1)) (me_var 0))))) ma_nil)) ma_nil))) ma_nil)))))))
theorem m_inverse_below {f : Addr} {fd : FuncData} (T : Tx P w K mg base)  (F : Fun K "inverse_below" "inverse_below" s_inverse_below f fd) (gx : mg "inverse_below" = some (.ref f)) (b : Binds K fd ["number", "prime"] []) : Cal P w K mg base 1 "inverse_below" 2 F_inverse_below := by
  refine cal_of (N := ["number", "prime", "other"]) F gx sc_inverse_below rfl b fun cdv A outer s H E hr => ?_
  have hN := sc_inverse_below.nd
  have hu := hu_room hr
  have tk := tk_cx (P := P) (w := w) (K := K) (mg := mg) (base := base) (N := ["number", "prime", "other"]) (x := "inverse_below") (sc := defScope s_inverse_below) (f := f) (cd := cdv) (A := A) (outer := outer) (s := s) (H := H) (E := E)
  have hp := hp_cx (P := P) (w := w) (K := K) (mg := mg) (base := base) (N := ["number", "prime", "other"]) (x := "inverse_below") (sc := defScope s_inverse_below) (f := f) (cd := cdv) (A := A) (outer := outer) (s := s) (H := H) (E := E)
  have hc := hc_cx (P := P) (w := w) (K := K) (mg := mg) (base := base) (N := ["number", "prime", "other"]) (x := "inverse_below") (sc := defScope s_inverse_below) (f := f) (cd := cdv) (A := A) (outer := outer) (s := s) (H := H) (E := E)
  exact (mb_one (ms_ret (me_ix hu (fun _ _ => rfl) (me_frz (mf_comp hc hN (mi_range1 (by rfl) T.n_range (ma_cons (me_var 1) ma_nil)) iRange_chk ok_b_inverse_below_80_11 (by rfl) (fun s0 H0 C0 cl0 fp0 => have hc := hc_blk hc s0 H0 sc_b_inverse_below_80_11 C0 cl0 fp0; (mg_name 2 hN)) (fun s0 H0 C0 cl0 fp0 => have tk := @takes_wf; have hc := hc_blk hc s0 H0 sc_b_inverse_below_80_11 C0 cl0 fp0; (mts_one (mt_eq hu (me_mod (me_mul (me_var 0) (me_var 2)) (me_var 1)) me_int))) (fun s0 H0 C0 cl0 fp0 => have tk := @takes_wf; have hc := hc_blk hc s0 H0 sc_b_inverse_below_80_11 C0 cl0 fp0; (me_var 2)))) me_int)))
theorem m_projective {f : Addr} {fd : FuncData} (T : Tx P w K mg base) (c_inverse_below : Cal P w K mg base 1 "inverse_below" 2 (pureF 200 F_inverse_below)) (F : Fun K "projective" "projective" s_projective f fd) (gx : mg "projective" = some (.ref f)) (b : Binds K fd ["prime"] []) : Cal P w K mg base 2 "projective" 1 F_projective := by
  refine cal_of (N := ["prime", "steps", "flip", "point"]) F gx sc_projective rfl b fun cdv A outer s H E hr => ?_
  have hN := sc_projective.nd
  have hu := hu_room hr
  have tk := tk_cx (P := P) (w := w) (K := K) (mg := mg) (base := base) (N := ["prime", "steps", "flip", "point"]) (x := "projective") (sc := defScope s_projective) (f := f) (cd := cdv) (A := A) (outer := outer) (s := s) (H := H) (E := E)
  have hp := hp_cx (P := P) (w := w) (K := K) (mg := mg) (base := base) (N := ["prime", "steps", "flip", "point"]) (x := "projective") (sc := defScope s_projective) (f := f) (cd := cdv) (A := A) (outer := outer) (s := s) (H := H) (E := E)
  have hc := hc_cx (P := P) (w := w) (K := K) (mg := mg) (base := base) (N := ["prime", "steps", "flip", "point"]) (x := "projective") (sc := defScope s_projective) (f := f) (cd := cdv) (A := A) (outer := outer) (s := s) (H := H) (E := E)
  exact (mb_cons (ms_set 1 hN (me_callTy call_tuple_of p_tuple (by rfl) T.n_tuple boot_tuple (ma_cons (me_frz (mf_cat (me_frz (mf_comp hc hN (mi_range1 (by rfl) T.n_range (ma_cons (me_var 0) ma_nil)) iRange_chk ok_b_projective_82_18 (by rfl) (fun s0 H0 C0 cl0 fp0 => have hc := hc_blk hc s0 H0 sc_b_projective_82_18 C0 cl0 fp0; (mg_name 3 hN)) (fun s0 H0 C0 cl0 fp0 => have tk := @takes_wf; have hc := hc_blk hc s0 H0 sc_b_projective_82_18 C0 cl0 fp0; mts_nil) (fun s0 H0 C0 cl0 fp0 => have tk := @takes_wf; have hc := hc_blk hc s0 H0 sc_b_projective_82_18 C0 cl0 fp0; (me_mod (me_add (me_var 3) me_int) (me_var 0))))) (me_frz (mf_lst (ma_cons (me_var 0) ma_nil))))) ma_nil)))
    (mb_cons (ms_set 2 hN (me_frz (mf_cat (me_frz (mf_cat (me_frz (mf_lst (ma_cons (me_var 0) ma_nil))) (me_frz (mf_comp hc hN (mi_range2 (by rfl) T.n_range (ma_cons me_int (ma_cons (me_var 0) ma_nil))) iRange_chk ok_b_projective_83_21 (by rfl) (fun s0 H0 C0 cl0 fp0 => have hc := hc_blk hc s0 H0 sc_b_projective_83_21 C0 cl0 fp0; (mg_name 3 hN)) (fun s0 H0 C0 cl0 fp0 => have tk := @takes_wf; have hc := hc_blk hc s0 H0 sc_b_projective_83_21 C0 cl0 fp0; mts_nil) (fun s0 H0 C0 cl0 fp0 => have tk := @takes_wf; have hc := hc_blk hc s0 H0 sc_b_projective_83_21 C0 cl0 fp0; (me_mod (me_sub (me_var 0) (me_call c_inverse_below hr (by decide) (by rfl) tk (ma_cons (me_var 3) (ma_cons (me_var 0) ma_nil)))) (me_var 0))))))) (me_frz (mf_lst (ma_cons me_int ma_nil))))))
    (mb_one (ms_ret (me_tup (ma_cons (me_add (me_var 0) me_int) (ma_cons (me_tup (ma_cons (me_var 1) (ma_cons (me_callTy call_tuple_of p_tuple (by rfl) T.n_tuple boot_tuple (ma_cons (me_var 2) ma_nil)) ma_nil))) ma_nil)))))))
theorem m_linear {f : Addr} {fd : FuncData} (T : Tx P w K mg base)  (F : Fun K "linear" "linear" s_linear f fd) (gx : mg "linear" = some (.ref f)) (b : Binds K fd ["many"] []) : Cal P w K mg base 1 "linear" 1 F_linear := by
  refine cal_of (N := ["many", "size", "turn", "add", "shift", "shear", "point"]) F gx sc_linear rfl b fun cdv A outer s H E hr => ?_
  have hN := sc_linear.nd
  have hu := hu_room hr
  have tk := tk_cx (P := P) (w := w) (K := K) (mg := mg) (base := base) (N := ["many", "size", "turn", "add", "shift", "shear", "point"]) (x := "linear") (sc := defScope s_linear) (f := f) (cd := cdv) (A := A) (outer := outer) (s := s) (H := H) (E := E)
  have hp := hp_cx (P := P) (w := w) (K := K) (mg := mg) (base := base) (N := ["many", "size", "turn", "add", "shift", "shear", "point"]) (x := "linear") (sc := defScope s_linear) (f := f) (cd := cdv) (A := A) (outer := outer) (s := s) (H := H) (E := E)
  have hc := hc_cx (P := P) (w := w) (K := K) (mg := mg) (base := base) (N := ["many", "size", "turn", "add", "shift", "shear", "point"]) (x := "linear") (sc := defScope s_linear) (f := f) (cd := cdv) (A := A) (outer := outer) (s := s) (H := H) (E := E)
  exact (mb_cons (ms_set 1 hN me_int)
    (mb_cons (ms_for hp hc (mi_range1 (by rfl) T.n_range (ma_cons (me_var 0) ma_nil)) (mg_name 2 hN) (mb_one (ms_set 1 hN (me_mul (me_var 1) me_int))) iRange_chk)
    (mb_cons (ms_set 3 hN (me_callTy call_tuple_of p_tuple (by rfl) T.n_tuple boot_tuple (ma_cons (me_frz (mf_comp hc hN (mi_range1 (by rfl) T.n_range (ma_cons (me_var 1) ma_nil)) iRange_chk ok_b_linear_89_16 (by rfl) (fun s0 H0 C0 cl0 fp0 => have hc := hc_blk hc s0 H0 sc_b_linear_89_16 C0 cl0 fp0; (mg_name 6 hN)) (fun s0 H0 C0 cl0 fp0 => have tk := @takes_wf; have hc := hc_blk hc s0 H0 sc_b_linear_89_16 C0 cl0 fp0; mts_nil) (fun s0 H0 C0 cl0 fp0 => have tk := @takes_wf; have hc := hc_blk hc s0 H0 sc_b_linear_89_16 C0 cl0 fp0; (me_bxor (me_var 6) me_int)))) ma_nil)))
    (mb_cons (ms_set 4 hN (me_callTy call_tuple_of p_tuple (by rfl) T.n_tuple boot_tuple (ma_cons (me_frz (mf_comp hc hN (mi_range1 (by rfl) T.n_range (ma_cons (me_var 1) ma_nil)) iRange_chk ok_b_linear_90_18 (by rfl) (fun s0 H0 C0 cl0 fp0 => have hc := hc_blk hc s0 H0 sc_b_linear_90_18 C0 cl0 fp0; (mg_name 6 hN)) (fun s0 H0 C0 cl0 fp0 => have tk := @takes_wf; have hc := hc_blk hc s0 H0 sc_b_linear_90_18 C0 cl0 fp0; mts_nil) (fun s0 H0 C0 cl0 fp0 => have tk := @takes_wf; have hc := hc_blk hc s0 H0 sc_b_linear_90_18 C0 cl0 fp0; (me_add (me_mod (me_mul (me_var 6) me_int) (me_var 1)) (me_fdiv (me_mul (me_var 6) me_int) (me_var 1)))))) ma_nil)))
    (mb_cons (ms_set 5 hN (me_callTy call_tuple_of p_tuple (by rfl) T.n_tuple boot_tuple (ma_cons (me_frz (mf_comp hc hN (mi_range1 (by rfl) T.n_range (ma_cons (me_var 1) ma_nil)) iRange_chk ok_b_linear_91_18 (by rfl) (fun s0 H0 C0 cl0 fp0 => have hc := hc_blk hc s0 H0 sc_b_linear_91_18 C0 cl0 fp0; (mg_name 6 hN)) (fun s0 H0 C0 cl0 fp0 => have tk := @takes_wf; have hc := hc_blk hc s0 H0 sc_b_linear_91_18 C0 cl0 fp0; mts_nil) (fun s0 H0 C0 cl0 fp0 => have tk := @takes_wf; have hc := hc_blk hc s0 H0 sc_b_linear_91_18 C0 cl0 fp0; (me_if (mt_gt (me_var 0) me_int) (me_bxor (me_var 6) (me_mod (me_fdiv (me_var 6) me_int) me_int)) (me_var 6))))) ma_nil)))
    (mb_one (ms_ret (me_tup (ma_cons (me_var 1) (ma_cons (me_tup (ma_cons (me_var 3) (ma_cons (me_var 4) (ma_cons (me_var 5) ma_nil)))) ma_nil))))))))))
theorem m_quaternion {f : Addr} {fd : FuncData} (T : Tx P w K mg base) (c_parse_perm : Cal P w K mg base 4 "parse_perm" 2 (pureF 200 F_parse_perm)) (F : Fun K "quaternion" "quaternion" s_quaternion f fd) (gx : mg "quaternion" = some (.ref f)) (b : Binds K fd [] []) : Cal P w K mg base 5 "quaternion" 0 F_quaternion := by
  refine cal_of (N := []) F gx sc_quaternion rfl b fun cdv A outer s H E hr => ?_
  have hN := sc_quaternion.nd
  have hu := hu_room hr
  have tk := tk_cx (P := P) (w := w) (K := K) (mg := mg) (base := base) (N := []) (x := "quaternion") (sc := defScope s_quaternion) (f := f) (cd := cdv) (A := A) (outer := outer) (s := s) (H := H) (E := E)
  have hp := hp_cx (P := P) (w := w) (K := K) (mg := mg) (base := base) (N := []) (x := "quaternion") (sc := defScope s_quaternion) (f := f) (cd := cdv) (A := A) (outer := outer) (s := s) (H := H) (E := E)
  have hc := hc_cx (P := P) (w := w) (K := K) (mg := mg) (base := base) (N := []) (x := "quaternion") (sc := defScope s_quaternion) (f := f) (cd := cdv) (A := A) (outer := outer) (s := s) (H := H) (E := E)
  exact (mb_one (ms_ret (me_tup (ma_cons me_int (ma_cons (me_tup (ma_cons (me_call c_parse_perm hr (by decide) (by rfl) tk (ma_cons me_int (ma_cons me_str ma_nil))) (ma_cons (me_call c_parse_perm hr (by decide) (by rfl) tk (ma_cons me_int (ma_cons me_str ma_nil))) ma_nil))) ma_nil)))))
theorem m_named {f : Addr} {fd : FuncData} (T : Tx P w K mg base) (c_affine : Cal P w K mg base 2 "affine" 1 (pureF 200 F_affine)) (c_alternating : Cal P w K mg base 2 "alternating" 1 (pureF 200 F_alternating)) (c_cyclic : Cal P w K mg base 2 "cyclic" 1 (pureF 200 F_cyclic)) (c_dihedral : Cal P w K mg base 2 "dihedral" 1 (pureF 200 F_dihedral)) (c_linear : Cal P w K mg base 1 "linear" 1 (pureF 200 F_linear)) (c_parse_perm : Cal P w K mg base 4 "parse_perm" 2 (pureF 200 F_parse_perm)) (c_projective : Cal P w K mg base 2 "projective" 1 (pureF 200 F_projective)) (c_quaternion : Cal P w K mg base 5 "quaternion" 0 (pureF 200 F_quaternion)) (c_symmetric : Cal P w K mg base 2 "symmetric" 1 (pureF 200 F_symmetric)) (F : Fun K "named" "named" s_named f fd) (gx : mg "named" = some (.ref f)) (b : Binds K fd ["name"] []) : Cal P w K mg base 6 "named" 1 F_named := by
  refine cal_of (N := ["name", "many", "texts", "head", "digits", "maker", "text", "number"]) F gx sc_named rfl b fun cdv A outer s H E hr => ?_
  have hN := sc_named.nd
  have hu := hu_room hr
  have hheld : HeldOk P w K mg base 2 1 held := held_ok (c_symmetric.mono (by decide)) (c_alternating.mono (by decide)) (c_cyclic.mono (by decide)) (c_dihedral.mono (by decide)) (c_affine.mono (by decide)) (c_projective.mono (by decide)) (c_linear.mono (by decide))
  have tk := tk_cx (P := P) (w := w) (K := K) (mg := mg) (base := base) (N := ["name", "many", "texts", "head", "digits", "maker", "text", "number"]) (x := "named") (sc := defScope s_named) (f := f) (cd := cdv) (A := A) (outer := outer) (s := s) (H := H) (E := E)
  have hp := hp_cx (P := P) (w := w) (K := K) (mg := mg) (base := base) (N := ["name", "many", "texts", "head", "digits", "maker", "text", "number"]) (x := "named") (sc := defScope s_named) (f := f) (cd := cdv) (A := A) (outer := outer) (s := s) (H := H) (E := E)
  have hc := hc_cx (P := P) (w := w) (K := K) (mg := mg) (base := base) (N := ["name", "many", "texts", "head", "digits", "maker", "text", "number"]) (x := "named") (sc := defScope s_named) (f := f) (cd := cdv) (A := A) (outer := outer) (s := s) (H := H) (E := E)
  exact (mb_cons (ms_if (mt_kin (by rfl) T.kd_MATHIEU (me_var 0)) (mb_cons (ms_asg (me_kitem (by rfl) T.kd_MATHIEU (fun _ _ => rfl) (me_var 0)) (mg_tup hc (mgs_cons (mg_name 1 hN) (mgs_cons (mg_name 2 hN) mgs_nil))))
    (mb_one (ms_ret (me_tup (ma_cons (me_var 1) (ma_cons (me_callTy call_tuple_of p_tuple (by rfl) T.n_tuple boot_tuple (ma_cons (me_frz (mf_comp hc hN (mi_any (me_var 2)) iOf_chk ok_b_named_101_28 (by rfl) (fun s0 H0 C0 cl0 fp0 => have hc := hc_blk hc s0 H0 sc_b_named_101_28 C0 cl0 fp0; (mg_name 6 hN)) (fun s0 H0 C0 cl0 fp0 => have tk := @takes_wf; have hc := hc_blk hc s0 H0 sc_b_named_101_28 C0 cl0 fp0; mts_nil) (fun s0 H0 C0 cl0 fp0 => have tk := @takes_wf; have hc := hc_blk hc s0 H0 sc_b_named_101_28 C0 cl0 fp0; (me_call c_parse_perm hr (by decide) (by rfl) tk (ma_cons (me_var 1) (ma_cons (me_var 6) ma_nil)))))) ma_nil)) ma_nil)))))) mb_nil)
    (mb_cons (ms_if (mt_eq hu (me_var 0) me_str) (mb_one (ms_ret (me_call0 c_quaternion hr (by decide) (by rfl) tk))) mb_nil)
    (mb_cons (ms_par 3 4 hc hN (by rfl) (by rfl) (by decide) (by rfl) (by rfl) (me_slice (me_var 0) mo_none (mo_some me_int)) (me_slice (me_var 0) (mo_some me_int) mo_none) (by rfl))
    (mb_cons (ms_if (mt_w (mw_or (mt_knin (by rfl) T.kd_MAKERS (me_var 3)) (mw_or1 (mt_nin hu (by rfl) (me_var 4) (me_frz (mf_comp hc hN (mi_any (me_kitem (by rfl) T.kd_NUMBERS (fun _ _ => rfl) (me_var 3))) iOf_chk ok_b_named_105_43 (by rfl) (fun s0 H0 C0 cl0 fp0 => have hc := hc_blk hc s0 H0 sc_b_named_105_43 C0 cl0 fp0; (mg_name 7 hN)) (fun s0 H0 C0 cl0 fp0 => have tk := @takes_wf; have hc := hc_blk hc s0 H0 sc_b_named_105_43 C0 cl0 fp0; mts_nil) (fun s0 H0 C0 cl0 fp0 => have tk := @takes_wf; have hc := hc_blk hc s0 H0 sc_b_named_105_43 C0 cl0 fp0; (me_callTy call_str_int p_str (by rfl) T.n_str boot_str (ma_cons (me_var 7) ma_nil))))))))) (mb_one (ms_raise T.x_BuildError hc hr (by decide) tk (ma_cons me_str ma_nil) (by rfl))) mb_nil)
    (mb_cons (ms_set 5 hN (me_kitem (by rfl) T.kd_MAKERS (fun _ _ => rfl) (me_var 3)))
    (mb_one (ms_ret (me_callL 5 hheld hr (by decide) tk (ma_cons (me_callTy (call_int1.or call_int_str) p_int (by rfl) T.n_int boot_int (ma_cons (me_var 4) ma_nil)) ma_nil)))))))))
theorem m__law_cycle {f : Addr} {fd : FuncData} (T : Tx P w K mg base)  (F : Fun K "_law_cycle" "_law_cycle" s__law_cycle f fd) (gx : mg "_law_cycle" = some (.ref f)) (b : Binds K fd ["n", "row"] []) : Cal P w K mg base 1 "_law_cycle" 2 F__law_cycle := by
  refine cal_of (N := ["n", "row", "images", "k"]) F gx sc__law_cycle rfl b fun cdv A outer s H E hr => ?_
  have hN := sc__law_cycle.nd
  have hu := hu_room hr
  have tk := tk_cx (P := P) (w := w) (K := K) (mg := mg) (base := base) (N := ["n", "row", "images", "k"]) (x := "_law_cycle") (sc := defScope s__law_cycle) (f := f) (cd := cdv) (A := A) (outer := outer) (s := s) (H := H) (E := E)
  have hp := hp_cx (P := P) (w := w) (K := K) (mg := mg) (base := base) (N := ["n", "row", "images", "k"]) (x := "_law_cycle") (sc := defScope s__law_cycle) (f := f) (cd := cdv) (A := A) (outer := outer) (s := s) (H := H) (E := E)
  have hc := hc_cx (P := P) (w := w) (K := K) (mg := mg) (base := base) (N := ["n", "row", "images", "k"]) (x := "_law_cycle") (sc := defScope s__law_cycle) (f := f) (cd := cdv) (A := A) (outer := outer) (s := s) (H := H) (E := E)
  exact (mb_cons (ms_set 2 hN (me_new (mf_listRg hc (by rfl) T.n_list (mrg_1 (by rfl) T.n_range (me_var 0)))))
    (mb_cons (ms_for hp hc (mi_range1 (by rfl) T.n_range (ma_cons (me_callB call_lenAny p_len (by rfl) T.n_len boot_len (ma_cons (me_var 1) ma_nil)) ma_nil)) (mg_name 3 hN) (mb_one (ms_sub hu (me_var 2) (me_ix hu (fun _ _ => rfl) (me_var 1) (me_var 3)) (me_ix hu (fun _ _ => rfl) (me_var 1) (me_mod (me_add (me_var 3) me_int) (me_callB call_lenAny p_len (by rfl) T.n_len boot_len (ma_cons (me_var 1) ma_nil)))))) iRange_chk)
    (mb_one (ms_ret (me_callTy call_tuple_of p_tuple (by rfl) T.n_tuple boot_tuple (ma_cons (me_var 2) ma_nil))))))
theorem m__law_take {f : Addr} {fd : FuncData} (T : Tx P w K mg base)  (F : Fun K "_law_take" "_law_take" s__law_take f fd) (gx : mg "_law_take" = some (.ref f)) (b : Binds K fd ["d", "many"] []) : Cal P w K mg base 1 "_law_take" 2 F__law_take := by
  refine cal_of (N := ["d", "many", "small", "digit"]) F gx sc__law_take rfl b fun cdv A outer s H E hr => ?_
  have hN := sc__law_take.nd
  have hu := hu_room hr
  have tk := tk_cx (P := P) (w := w) (K := K) (mg := mg) (base := base) (N := ["d", "many", "small", "digit"]) (x := "_law_take") (sc := defScope s__law_take) (f := f) (cd := cdv) (A := A) (outer := outer) (s := s) (H := H) (E := E)
  have hp := hp_cx (P := P) (w := w) (K := K) (mg := mg) (base := base) (N := ["d", "many", "small", "digit"]) (x := "_law_take") (sc := defScope s__law_take) (f := f) (cd := cdv) (A := A) (outer := outer) (s := s) (H := H) (E := E)
  have hc := hc_cx (P := P) (w := w) (K := K) (mg := mg) (base := base) (N := ["d", "many", "small", "digit"]) (x := "_law_take") (sc := defScope s__law_take) (f := f) (cd := cdv) (A := A) (outer := outer) (s := s) (H := H) (E := E)
  exact (mb_cons (ms_if (mt_w (mw_and (mt_eq hu (me_ix hu (fun _ _ => rfl) (me_var 0) me_int) me_int) (mw_and1 (mt_lt hu (me_ix hu (fun _ _ => rfl) (me_var 0) me_int) (me_callB call_lenAny p_len (by rfl) T.n_len boot_len (ma_cons (me_ix hu (fun _ _ => rfl) (me_var 0) me_int) ma_nil)))))) (mb_cons (ms_sub hu (me_var 0) me_int (me_callB call_abs p_abs (by rfl) T.n_abs boot_abs (ma_cons (me_callTy (call_int1.or call_int_str) p_int (by rfl) T.n_int boot_int (ma_cons (me_ix hu (fun _ _ => rfl) (me_ix hu (fun _ _ => rfl) (me_var 0) me_int) (me_ix hu (fun _ _ => rfl) (me_var 0) me_int)) ma_nil)) ma_nil)))
    (mb_cons (ms_sub hu (me_var 0) me_int (me_add (me_ix hu (fun _ _ => rfl) (me_var 0) me_int) me_int))
    (mb_one (ms_if (mt_lt hu (me_ix hu (fun _ _ => rfl) (me_var 0) me_int) (me_pow me_int me_int)) (mb_cons (ms_set 2 hN (me_callTy (call_int1.or call_int_str) p_int (by rfl) T.n_int boot_int (ma_cons (me_ix hu (fun _ _ => rfl) (me_var 0) me_int) ma_nil)))
    (mb_cons (ms_sub hu (me_var 0) me_int me_int)
    (mb_one (ms_ret (me_mod (me_var 2) (me_var 1)))))) mb_nil)))) mb_nil)
    (mb_cons (ms_if (mt_gt (me_ix hu (fun _ _ => rfl) (me_var 0) me_int) me_int) (mb_cons (ms_set 3 hN (me_mod (me_callTy (call_int1.or call_int_str) p_int (by rfl) T.n_int boot_int (ma_cons (me_ix hu (fun _ _ => rfl) (me_var 0) me_int) ma_nil)) (me_var 1)))
    (mb_cons (ms_sub hu (me_var 0) me_int (me_fdiv (me_callTy (call_int1.or call_int_str) p_int (by rfl) T.n_int boot_int (ma_cons (me_ix hu (fun _ _ => rfl) (me_var 0) me_int) ma_nil)) (me_var 1)))
    (mb_one (ms_ret (me_var 3))))) mb_nil)
    (mb_cons (ms_sub hu (me_var 0) me_int (me_mod (me_callTy (call_int1.or call_int_str) p_int (by rfl) T.n_int boot_int (ma_cons (me_add (me_mul (me_ix hu (fun _ _ => rfl) (me_var 0) me_int) me_int) me_int) ma_nil)) me_int))
    (mb_one (ms_ret (me_mod (me_callTy (call_int1.or call_int_str) p_int (by rfl) T.n_int boot_int (ma_cons (me_fdiv (me_ix hu (fun _ _ => rfl) (me_var 0) me_int) me_int) ma_nil)) (me_var 1)))))))
theorem m__law_pick {f : Addr} {fd : FuncData} (T : Tx P w K mg base) (c__law_take : Cal P w K mg base 1 "_law_take" 2 F__law_take) (F : Fun K "_law_pick" "_law_pick" s__law_pick f fd) (gx : mg "_law_pick" = some (.ref f)) (b : Binds K fd ["d", "menu"] []) : Cal P w K mg base 2 "_law_pick" 2 F__law_pick := by
  refine cal_of (N := ["d", "menu"]) F gx sc__law_pick rfl b fun cdv A outer s H E hr => ?_
  have hN := sc__law_pick.nd
  have hu := hu_room hr
  have tk := tk_cx (P := P) (w := w) (K := K) (mg := mg) (base := base) (N := ["d", "menu"]) (x := "_law_pick") (sc := defScope s__law_pick) (f := f) (cd := cdv) (A := A) (outer := outer) (s := s) (H := H) (E := E)
  have hp := hp_cx (P := P) (w := w) (K := K) (mg := mg) (base := base) (N := ["d", "menu"]) (x := "_law_pick") (sc := defScope s__law_pick) (f := f) (cd := cdv) (A := A) (outer := outer) (s := s) (H := H) (E := E)
  have hc := hc_cx (P := P) (w := w) (K := K) (mg := mg) (base := base) (N := ["d", "menu"]) (x := "_law_pick") (sc := defScope s__law_pick) (f := f) (cd := cdv) (A := A) (outer := outer) (s := s) (H := H) (E := E)
  exact (mb_one (ms_ret (me_ix hu (fun _ _ => rfl) (me_var 1) (me_call c__law_take hr (by decide) (by rfl) tk (ma_cons (me_var 0) (ma_cons (me_callB call_lenAny p_len (by rfl) T.n_len boot_len (ma_cons (me_var 1) ma_nil)) ma_nil))))))
theorem m__law_times {f : Addr} {fd : FuncData} (T : Tx P w K mg base)  (F : Fun K "_law_times" "_law_times" s__law_times f fd) (gx : mg "_law_times" = some (.ref f)) (b : Binds K fd ["p", "q"] []) : Cal P w K mg base 1 "_law_times" 2 F__law_times := by
  refine cal_of (N := ["p", "q", "x"]) F gx sc__law_times rfl b fun cdv A outer s H E hr => ?_
  have hN := sc__law_times.nd
  have hu := hu_room hr
  have tk := tk_cx (P := P) (w := w) (K := K) (mg := mg) (base := base) (N := ["p", "q", "x"]) (x := "_law_times") (sc := defScope s__law_times) (f := f) (cd := cdv) (A := A) (outer := outer) (s := s) (H := H) (E := E)
  have hp := hp_cx (P := P) (w := w) (K := K) (mg := mg) (base := base) (N := ["p", "q", "x"]) (x := "_law_times") (sc := defScope s__law_times) (f := f) (cd := cdv) (A := A) (outer := outer) (s := s) (H := H) (E := E)
  have hc := hc_cx (P := P) (w := w) (K := K) (mg := mg) (base := base) (N := ["p", "q", "x"]) (x := "_law_times") (sc := defScope s__law_times) (f := f) (cd := cdv) (A := A) (outer := outer) (s := s) (H := H) (E := E)
  exact (mb_one (ms_ret (me_callTy call_tuple_of p_tuple (by rfl) T.n_tuple boot_tuple (ma_cons (me_frz (mf_comp hc hN (mi_any (me_var 0)) iOf_chk ok_b__law_times_132_17 (by rfl) (fun s0 H0 C0 cl0 fp0 => have hc := hc_blk hc s0 H0 sc_b__law_times_132_17 C0 cl0 fp0; (mg_name 2 hN)) (fun s0 H0 C0 cl0 fp0 => have tk := @takes_wf; have hc := hc_blk hc s0 H0 sc_b__law_times_132_17 C0 cl0 fp0; mts_nil) (fun s0 H0 C0 cl0 fp0 => have tk := @takes_wf; have hc := hc_blk hc s0 H0 sc_b__law_times_132_17 C0 cl0 fp0; (me_ix hu (fun _ _ => rfl) (me_var 1) (me_var 2))))) ma_nil))))
theorem m__law_begin {f : Addr} {fd : FuncData} (T : Tx P w K mg base)  (F : Fun K "_law_begin" "_law_begin" s__law_begin f fd) (gx : mg "_law_begin" = some (.ref f)) (b : Binds K fd ["script"] []) : Cal P w K mg base 1 "_law_begin" 1 F__law_begin := by
  refine cal_of (N := ["script", "seed", "cell"]) F gx sc__law_begin rfl b fun cdv A outer s H E hr => ?_
  have hN := sc__law_begin.nd
  have hu := hu_room hr
  have tk := tk_cx (P := P) (w := w) (K := K) (mg := mg) (base := base) (N := ["script", "seed", "cell"]) (x := "_law_begin") (sc := defScope s__law_begin) (f := f) (cd := cdv) (A := A) (outer := outer) (s := s) (H := H) (E := E)
  have hp := hp_cx (P := P) (w := w) (K := K) (mg := mg) (base := base) (N := ["script", "seed", "cell"]) (x := "_law_begin") (sc := defScope s__law_begin) (f := f) (cd := cdv) (A := A) (outer := outer) (s := s) (H := H) (E := E)
  have hc := hc_cx (P := P) (w := w) (K := K) (mg := mg) (base := base) (N := ["script", "seed", "cell"]) (x := "_law_begin") (sc := defScope s__law_begin) (f := f) (cd := cdv) (A := A) (outer := outer) (s := s) (H := H) (E := E)
  exact (mb_cons (ms_set 1 hN me_int)
    (mb_cons (ms_for hp hc (mi_any (me_var 0)) (mg_name 2 hN) (mb_one (ms_set 1 hN (me_mod (me_add (me_add (me_mul (me_var 1) me_int) (me_mod (me_callTy (call_int1.or call_int_str) p_int (by rfl) T.n_int boot_int (ma_cons (me_var 2) ma_nil)) me_int)) me_int) me_int))) iOf_chk)
    (mb_one (ms_ret (me_new (mf_lst (ma_cons (me_frz (mf_callTy call_list_of p_list (by rfl) T.n_list boot_list (ma_cons (me_var 0) ma_nil))) (ma_cons me_int (ma_cons me_int (ma_cons (me_var 1) ma_nil))))))))))
theorem m__law_size {f : Addr} {fd : FuncData} (T : Tx P w K mg base)  (F : Fun K "_law_size" "_law_size" s__law_size f fd) (gx : mg "_law_size" = some (.ref f)) (b : Binds K fd ["levels"] []) : Cal P w K mg base 1 "_law_size" 1 F__law_size := by
  refine cal_of (N := ["levels", "size", "row"]) F gx sc__law_size rfl b fun cdv A outer s H E hr => ?_
  have hN := sc__law_size.nd
  have hu := hu_room hr
  have tk := tk_cx (P := P) (w := w) (K := K) (mg := mg) (base := base) (N := ["levels", "size", "row"]) (x := "_law_size") (sc := defScope s__law_size) (f := f) (cd := cdv) (A := A) (outer := outer) (s := s) (H := H) (E := E)
  have hp := hp_cx (P := P) (w := w) (K := K) (mg := mg) (base := base) (N := ["levels", "size", "row"]) (x := "_law_size") (sc := defScope s__law_size) (f := f) (cd := cdv) (A := A) (outer := outer) (s := s) (H := H) (E := E)
  have hc := hc_cx (P := P) (w := w) (K := K) (mg := mg) (base := base) (N := ["levels", "size", "row"]) (x := "_law_size") (sc := defScope s__law_size) (f := f) (cd := cdv) (A := A) (outer := outer) (s := s) (H := H) (E := E)
  exact (mb_cons (ms_set 1 hN me_int)
    (mb_cons (ms_for hp hc (mi_any (me_var 0)) (mg_name 2 hN) (mb_one (ms_set 1 hN (me_mul (me_var 1) (me_callB call_lenAny p_len (by rfl) T.n_len boot_len (ma_cons (me_var 2) ma_nil))))) iOf_chk)
    (mb_one (ms_ret (me_var 1)))))
theorem m__law_inverse {f : Addr} {fd : FuncData} (T : Tx P w K mg base)  (F : Fun K "_law_inverse" "_law_inverse" s__law_inverse f fd) (gx : mg "_law_inverse" = some (.ref f)) (b : Binds K fd ["p"] []) : Cal P w K mg base 1 "_law_inverse" 1 F__law_inverse := by
  refine cal_of (N := ["p", "row", "x"]) F gx sc__law_inverse rfl b fun cdv A outer s H E hr => ?_
  have hN := sc__law_inverse.nd
  have hu := hu_room hr
  have tk := tk_cx (P := P) (w := w) (K := K) (mg := mg) (base := base) (N := ["p", "row", "x"]) (x := "_law_inverse") (sc := defScope s__law_inverse) (f := f) (cd := cdv) (A := A) (outer := outer) (s := s) (H := H) (E := E)
  have hp := hp_cx (P := P) (w := w) (K := K) (mg := mg) (base := base) (N := ["p", "row", "x"]) (x := "_law_inverse") (sc := defScope s__law_inverse) (f := f) (cd := cdv) (A := A) (outer := outer) (s := s) (H := H) (E := E)
  have hc := hc_cx (P := P) (w := w) (K := K) (mg := mg) (base := base) (N := ["p", "row", "x"]) (x := "_law_inverse") (sc := defScope s__law_inverse) (f := f) (cd := cdv) (A := A) (outer := outer) (s := s) (H := H) (E := E)
  exact (mb_cons (ms_set 1 hN (me_new (mf_rep (me_frz (mf_lst (ma_cons me_int ma_nil))) (me_callB call_lenAny p_len (by rfl) T.n_len boot_len (ma_cons (me_var 0) ma_nil)))))
    (mb_cons (ms_for hp hc (mi_range1 (by rfl) T.n_range (ma_cons (me_callB call_lenAny p_len (by rfl) T.n_len boot_len (ma_cons (me_var 0) ma_nil)) ma_nil)) (mg_name 2 hN) (mb_one (ms_sub hu (me_var 1) (me_ix hu (fun _ _ => rfl) (me_var 0) (me_var 2)) (me_var 2))) iRange_chk)
    (mb_one (ms_ret (me_callTy call_tuple_of p_tuple (by rfl) T.n_tuple boot_tuple (ma_cons (me_var 1) ma_nil))))))
theorem m__law_sift {f : Addr} {fd : FuncData} (T : Tx P w K mg base) (c__law_inverse : Cal P w K mg base 1 "_law_inverse" 1 (pureF 200 F__law_inverse)) (c__law_times : Cal P w K mg base 1 "_law_times" 2 (pureF 200 F__law_times)) (F : Fun K "_law_sift" "_law_sift" s__law_sift f fd) (gx : mg "_law_sift" = some (.ref f)) (b : Binds K fd ["levels", "p"] []) : Cal P w K mg base 2 "_law_sift" 2 F__law_sift := by
  refine cal_of (N := ["levels", "p", "i"]) F gx sc__law_sift rfl b fun cdv A outer s H E hr => ?_
  have hN := sc__law_sift.nd
  have hu := hu_room hr
  have tk := tk_cx (P := P) (w := w) (K := K) (mg := mg) (base := base) (N := ["levels", "p", "i"]) (x := "_law_sift") (sc := defScope s__law_sift) (f := f) (cd := cdv) (A := A) (outer := outer) (s := s) (H := H) (E := E)
  have hp := hp_cx (P := P) (w := w) (K := K) (mg := mg) (base := base) (N := ["levels", "p", "i"]) (x := "_law_sift") (sc := defScope s__law_sift) (f := f) (cd := cdv) (A := A) (outer := outer) (s := s) (H := H) (E := E)
  have hc := hc_cx (P := P) (w := w) (K := K) (mg := mg) (base := base) (N := ["levels", "p", "i"]) (x := "_law_sift") (sc := defScope s__law_sift) (f := f) (cd := cdv) (A := A) (outer := outer) (s := s) (H := H) (E := E)
  exact (mb_cons (ms_for hp hc (mi_range1 (by rfl) T.n_range (ma_cons (me_callB call_lenAny p_len (by rfl) T.n_len boot_len (ma_cons (me_var 1) ma_nil)) ma_nil)) (mg_name 2 hN) (mb_cons (ms_if (mt_nin hu (by rfl) (me_ix hu (fun _ _ => rfl) (me_var 1) (me_var 2)) (me_ix hu (fun _ _ => rfl) (me_var 0) (me_var 2))) (mb_one (ms_ret (me_tup (ma_cons (me_var 2) (ma_cons (me_var 1) ma_nil))))) mb_nil)
    (mb_one (ms_set 1 hN (me_call c__law_times hr (by decide) (by rfl) tk (ma_cons (me_var 1) (ma_cons (me_call c__law_inverse hr (by decide) (by rfl) tk (ma_cons (me_ix hu (fun _ _ => rfl) (me_ix hu (fun _ _ => rfl) (me_var 0) (me_var 2)) (me_ix hu (fun _ _ => rfl) (me_var 1) (me_var 2))) ma_nil)) ma_nil)))))) iRange_chk)
    (mb_one (ms_ret (me_tup (ma_cons (me_callB call_lenAny p_len (by rfl) T.n_len boot_len (ma_cons (me_var 1) ma_nil)) (ma_cons (me_var 1) ma_nil))))))
theorem m__law_extend {f : Addr} {fd : FuncData} (T : Tx P w K mg base) (c__law_inverse : Cal P w K mg base 1 "_law_inverse" 1 (pureF 200 F__law_inverse)) (c__law_times : Cal P w K mg base 1 "_law_times" 2 (pureF 200 F__law_times)) (F : Fun K "_law_extend" "_law_extend" s__law_extend f fd) (gx : mg "_law_extend" = some (.ref f)) (b : Binds K fd ["levels", "strong", "j", "r", "work"] []) : Cal P w K mg base 2 "_law_extend" 5 F__law_extend := by
  refine cal_of (N := ["levels", "strong", "j", "r", "work", "waiting", "x", "s", "made", "rest", "t"]) F gx sc__law_extend rfl b fun cdv A outer s H E hr => ?_
  have hN := sc__law_extend.nd
  have hu := hu_room hr
  have tk := tk_cx (P := P) (w := w) (K := K) (mg := mg) (base := base) (N := ["levels", "strong", "j", "r", "work", "waiting", "x", "s", "made", "rest", "t"]) (x := "_law_extend") (sc := defScope s__law_extend) (f := f) (cd := cdv) (A := A) (outer := outer) (s := s) (H := H) (E := E)
  have hp := hp_cx (P := P) (w := w) (K := K) (mg := mg) (base := base) (N := ["levels", "strong", "j", "r", "work", "waiting", "x", "s", "made", "rest", "t"]) (x := "_law_extend") (sc := defScope s__law_extend) (f := f) (cd := cdv) (A := A) (outer := outer) (s := s) (H := H) (E := E)
  have hc := hc_cx (P := P) (w := w) (K := K) (mg := mg) (base := base) (N := ["levels", "strong", "j", "r", "work", "waiting", "x", "s", "made", "rest", "t"]) (x := "_law_extend") (sc := defScope s__law_extend) (f := f) (cd := cdv) (A := A) (outer := outer) (s := s) (H := H) (E := E)
  exact (mb_cons (ms_expr (me_append (me_ix hu (fun _ _ => rfl) (me_var 1) (me_var 2)) (ma_cons (me_var 3) ma_nil)))
    (mb_cons (ms_lock (selE (e2 pIx (eVar 0) (eVar 2))) (ms_setNew (comp_asg 5 hc hN (by rfl) (by rfl) (by rfl) (mi_keys (me_ix hu (fun _ _ => rfl) (me_var 0) (me_var 2))) iKeysL_chk ok_b__law_extend_156_14 (by rfl) (fun s0 H0 C0 cl0 fp0 => have hc := hc_blk hc s0 H0 sc_b__law_extend_156_14 C0 cl0 fp0; (mg_name 6 hN)) (fun s0 H0 C0 cl0 fp0 => have tk := @takes_wf; have hc := hc_blk hc s0 H0 sc_b__law_extend_156_14 C0 cl0 fp0; mts_nil) (fun s0 H0 C0 cl0 fp0 => have tk := @takes_wf; have hc := hc_blk hc s0 H0 sc_b__law_extend_156_14 C0 cl0 fp0; (me_tup (ma_cons (me_var 6) (ma_cons (me_var 3) ma_nil)))))))
    (mb_one (ms_while 100000 hp (mt_gt (me_callB call_lenAny p_len (by rfl) T.n_len boot_len (ma_cons (me_var 5) ma_nil)) me_int) (mb_cons (ms_asg (me_pop (me_var 5)) (mg_tup hc (mgs_cons (mg_name 6 hN) (mgs_cons (mg_name 7 hN) mgs_nil))))
    (mb_cons (ms_set 8 hN (me_call c__law_times hr (by decide) (by rfl) tk (ma_cons (me_ix hu (fun _ _ => rfl) (me_ix hu (fun _ _ => rfl) (me_var 0) (me_var 2)) (me_var 6)) (ma_cons (me_var 7) ma_nil))))
    (mb_one (ms_if (mt_nin hu (by rfl) (me_ix hu (fun _ _ => rfl) (me_var 8) (me_var 2)) (me_ix hu (fun _ _ => rfl) (me_var 0) (me_var 2))) (mb_cons (ms_sub hu (me_ix hu (fun _ _ => rfl) (me_var 0) (me_var 2)) (me_ix hu (fun _ _ => rfl) (me_var 8) (me_var 2)) (me_var 8))
    (mb_one (ms_expr (me_extend (me_var 5) (ma_cons (me_frz (mf_comp hc hN (mi_any (me_ix hu (fun _ _ => rfl) (me_var 1) (me_var 2))) iOf_chk ok_b__law_extend_162_27 (by rfl) (fun s0 H0 C0 cl0 fp0 => have hc := hc_blk hc s0 H0 sc_b__law_extend_162_27 C0 cl0 fp0; (mg_name 10 hN)) (fun s0 H0 C0 cl0 fp0 => have tk := @takes_wf; have hc := hc_blk hc s0 H0 sc_b__law_extend_162_27 C0 cl0 fp0; mts_nil) (fun s0 H0 C0 cl0 fp0 => have tk := @takes_wf; have hc := hc_blk hc s0 H0 sc_b__law_extend_162_27 C0 cl0 fp0; (me_tup (ma_cons (me_ix hu (fun _ _ => rfl) (me_var 8) (me_var 2)) (ma_cons (me_var 10) ma_nil)))))) ma_nil))))) (mb_cons (ms_set 9 hN (me_call c__law_times hr (by decide) (by rfl) tk (ma_cons (me_var 8) (ma_cons (me_call c__law_inverse hr (by decide) (by rfl) tk (ma_cons (me_ix hu (fun _ _ => rfl) (me_ix hu (fun _ _ => rfl) (me_var 0) (me_var 2)) (me_ix hu (fun _ _ => rfl) (me_var 8) (me_var 2))) ma_nil)) ma_nil))))
    (mb_one (ms_if (mt_ne hu (me_var 9) (me_tupRg hc (by rfl) T.n_tuple (mrg_1 (by rfl) T.n_range (me_callB call_lenAny p_len (by rfl) T.n_len boot_len (ma_cons (me_var 3) ma_nil))))) (mb_one (ms_expr (me_append (me_var 4) (ma_cons (me_var 9) ma_nil)))) mb_nil)))))))))))
theorem m__law_grow {f : Addr} {fd : FuncData} (T : Tx P w K mg base) (c__law_extend : Cal P w K mg base 2 "_law_extend" 5 (thawF 200 F__law_extend)) (c__law_sift : Cal P w K mg base 2 "_law_sift" 2 F__law_sift) (F : Fun K "_law_grow" "_law_grow" s__law_grow f fd) (gx : mg "_law_grow" = some (.ref f)) (b : Binds K fd ["n", "gens"] []) : Cal P w K mg base 3 "_law_grow" 2 F__law_grow := by
  refine cal_of (N := ["n", "gens", "levels", "i", "strong", "work", "r", "j"]) F gx sc__law_grow rfl b fun cdv A outer s H E hr => ?_
  have hN := sc__law_grow.nd
  have hu := hu_room hr
  have tk := tk_cx (P := P) (w := w) (K := K) (mg := mg) (base := base) (N := ["n", "gens", "levels", "i", "strong", "work", "r", "j"]) (x := "_law_grow") (sc := defScope s__law_grow) (f := f) (cd := cdv) (A := A) (outer := outer) (s := s) (H := H) (E := E)
  have hp := hp_cx (P := P) (w := w) (K := K) (mg := mg) (base := base) (N := ["n", "gens", "levels", "i", "strong", "work", "r", "j"]) (x := "_law_grow") (sc := defScope s__law_grow) (f := f) (cd := cdv) (A := A) (outer := outer) (s := s) (H := H) (E := E)
  have hc := hc_cx (P := P) (w := w) (K := K) (mg := mg) (base := base) (N := ["n", "gens", "levels", "i", "strong", "work", "r", "j"]) (x := "_law_grow") (sc := defScope s__law_grow) (f := f) (cd := cdv) (A := A) (outer := outer) (s := s) (H := H) (E := E)
  exact (mb_cons (ms_set 2 hN (me_new (mf_lst ma_nil)))
    (mb_cons (ms_for hp hc (mi_range1 (by rfl) T.n_range (ma_cons (me_var 0) ma_nil)) (mg_name 3 hN) (mb_one (ms_expr (me_append (me_var 2) (ma_cons (me_dic1K (me_var 3) (me_tupRg hc (by rfl) T.n_tuple (mrg_1 (by rfl) T.n_range (me_var 0)))) ma_nil)))) iRange_chk)
    (mb_cons (ms_setFrz (comp_asg 4 hc hN (by rfl) (by rfl) (by rfl) (mi_range1 (by rfl) T.n_range (ma_cons (me_var 0) ma_nil)) iRange_chk ok_b__law_grow_171_13 (by rfl) (fun s0 H0 C0 cl0 fp0 => have hc := hc_blk hc s0 H0 sc_b__law_grow_171_13 C0 cl0 fp0; (mg_name 3 hN)) (fun s0 H0 C0 cl0 fp0 => have tk := @takes_wf; have hc := hc_blk hc s0 H0 sc_b__law_grow_171_13 C0 cl0 fp0; mts_nil) (fun s0 H0 C0 cl0 fp0 => have tk := @takes_wf; have hc := hc_blk hc s0 H0 sc_b__law_grow_171_13 C0 cl0 fp0; (me_new (mf_lst ma_nil)))))
    (mb_cons (ms_set 5 hN (me_new (mf_callTy call_list_of p_list (by rfl) T.n_list boot_list (ma_cons (me_var 1) ma_nil))))
    (mb_cons (ms_while 100000 hp (mt_gt (me_callB call_lenAny p_len (by rfl) T.n_len boot_len (ma_cons (me_var 5) ma_nil)) me_int) (mb_cons (ms_asg (me_call c__law_sift hr (by decide) (by rfl) tk (ma_cons (me_var 2) (ma_cons (me_pop (me_var 5)) ma_nil))) (mg_tup hc (mgs_cons (mg_name 3 hN) (mgs_cons (mg_name 6 hN) mgs_nil))))
    (mb_one (ms_if (mt_lt hu (me_var 3) (me_var 0)) (mb_one (ms_for hp hc (mi_range1 (by rfl) T.n_range (ma_cons (me_add (me_var 3) me_int) ma_nil)) (mg_name 7 hN) (mb_one (ms_expr (me_call c__law_extend hr (by decide) (by rfl) tk (ma_cons (me_var 2) (ma_cons (me_var 4) (ma_cons (me_var 7) (ma_cons (me_var 6) (ma_cons (me_var 5) ma_nil)))))))) iRange_chk)) mb_nil))))
    (mb_one (ms_ret (me_var 2))))))))
theorem m__law_asked {f : Addr} {fd : FuncData} (T : Tx P w K mg base) (c_named : Cal P w K mg base 6 "named" 1 (pureF 200 F_named)) (F : Fun K "_law_asked" "_law_asked" s__law_asked f fd) (gx : mg "_law_asked" = some (.ref f)) (b : Binds K fd ["name"] []) : Cal P w K mg base 7 "_law_asked" 1 F__law_asked := by
  refine cal_of (N := ["name", "e"]) F gx sc__law_asked rfl b fun cdv A outer s H E hr => ?_
  have hN := sc__law_asked.nd
  have hu := hu_room hr
  have tk := tk_cx (P := P) (w := w) (K := K) (mg := mg) (base := base) (N := ["name", "e"]) (x := "_law_asked") (sc := defScope s__law_asked) (f := f) (cd := cdv) (A := A) (outer := outer) (s := s) (H := H) (E := E)
  have hp := hp_cx (P := P) (w := w) (K := K) (mg := mg) (base := base) (N := ["name", "e"]) (x := "_law_asked") (sc := defScope s__law_asked) (f := f) (cd := cdv) (A := A) (outer := outer) (s := s) (H := H) (E := E)
  have hc := hc_cx (P := P) (w := w) (K := K) (mg := mg) (base := base) (N := ["name", "e"]) (x := "_law_asked") (sc := defScope s__law_asked) (f := f) (cd := cdv) (A := A) (outer := outer) (s := s) (H := H) (E := E)
  exact (mb_one (ms_tryT rfl rfl hN (by rfl) (by rfl) (by rfl) T.tr_BuildError tk (fun W2 pn2 xe2 tk hp => have hc := hc_tr hc pn2 xe2; (mb_one (ms_ret (me_call c_named hr (by decide) (by rfl) tk (ma_cons (me_var 0) ma_nil))))) (mx_fld (by rfl) (by first | exact Or.inl rfl | exact Or.inr (Or.inl rfl) | exact Or.inr (Or.inr rfl)) T.cs_code)))
theorem m__law_turn {f : Addr} {fd : FuncData} (T : Tx P w K mg base) (c__law_cycle : Cal P w K mg base 1 "_law_cycle" 2 (pureF 200 F__law_cycle)) (F : Fun K "_law_turn" "_law_turn" s__law_turn f fd) (gx : mg "_law_turn" = some (.ref f)) (b : Binds K fd ["n"] []) : Cal P w K mg base 2 "_law_turn" 1 F__law_turn := by
  refine cal_of (N := ["n"]) F gx sc__law_turn rfl b fun cdv A outer s H E hr => ?_
  have hN := sc__law_turn.nd
  have hu := hu_room hr
  have tk := tk_cx (P := P) (w := w) (K := K) (mg := mg) (base := base) (N := ["n"]) (x := "_law_turn") (sc := defScope s__law_turn) (f := f) (cd := cdv) (A := A) (outer := outer) (s := s) (H := H) (E := E)
  have hp := hp_cx (P := P) (w := w) (K := K) (mg := mg) (base := base) (N := ["n"]) (x := "_law_turn") (sc := defScope s__law_turn) (f := f) (cd := cdv) (A := A) (outer := outer) (s := s) (H := H) (E := E)
  have hc := hc_cx (P := P) (w := w) (K := K) (mg := mg) (base := base) (N := ["n"]) (x := "_law_turn") (sc := defScope s__law_turn) (f := f) (cd := cdv) (A := A) (outer := outer) (s := s) (H := H) (E := E)
  exact (mb_one (ms_ret (me_call c__law_cycle hr (by decide) (by rfl) tk (ma_cons (me_var 0) (ma_cons (me_frz (mf_listRg hc (by rfl) T.n_list (mrg_1 (by rfl) T.n_range (me_var 0)))) ma_nil)))))
theorem m__law_root {f : Addr} {fd : FuncData} (T : Tx P w K mg base)  (F : Fun K "_law_root" "_law_root" s__law_root f fd) (gx : mg "_law_root" = some (.ref f)) (b : Binds K fd ["p"] []) : Cal P w K mg base 1 "_law_root" 1 F__law_root := by
  refine cal_of (N := ["p", "r", "rows"]) F gx sc__law_root rfl b fun cdv A outer s H E hr => ?_
  have hN := sc__law_root.nd
  have hu := hu_room hr
  have tk := tk_cx (P := P) (w := w) (K := K) (mg := mg) (base := base) (N := ["p", "r", "rows"]) (x := "_law_root") (sc := defScope s__law_root) (f := f) (cd := cdv) (A := A) (outer := outer) (s := s) (H := H) (E := E)
  have hp := hp_cx (P := P) (w := w) (K := K) (mg := mg) (base := base) (N := ["p", "r", "rows"]) (x := "_law_root") (sc := defScope s__law_root) (f := f) (cd := cdv) (A := A) (outer := outer) (s := s) (H := H) (E := E)
  have hc := hc_cx (P := P) (w := w) (K := K) (mg := mg) (base := base) (N := ["p", "r", "rows"]) (x := "_law_root") (sc := defScope s__law_root) (f := f) (cd := cdv) (A := A) (outer := outer) (s := s) (H := H) (E := E)
  exact (mb_cons (ms_for hp hc (mi_range2 (by rfl) T.n_range (ma_cons me_int (ma_cons (me_var 0) ma_nil))) (mg_name 1 hN) (mb_cons (ms_set 2 hN (me_new (mf_lst (ma_cons me_int ma_nil))))
    (mb_cons (ms_while 100000 hp (mt_nin hu (by rfl) (me_mod (me_mul (me_ix hu (fun _ _ => rfl) (me_var 2) (me_neg me_int)) (me_var 1)) (me_var 0)) (me_var 2)) (mb_one (ms_expr (me_append (me_var 2) (ma_cons (me_mod (me_mul (me_ix hu (fun _ _ => rfl) (me_var 2) (me_neg me_int)) (me_var 1)) (me_var 0)) ma_nil)))))
    (mb_one (ms_if (mt_eq hu (me_callB call_lenAny p_len (by rfl) T.n_len boot_len (ma_cons (me_var 2) ma_nil)) (me_sub (me_var 0) me_int)) (mb_one (ms_ret (me_var 1))) mb_nil)))) iRange_chk)
    (mb_one (ms_ret me_int)))
theorem m__law_prime_group {f : Addr} {fd : FuncData} (T : Tx P w K mg base) (c__law_root : Cal P w K mg base 1 "_law_root" 1 (pureF 200 F__law_root)) (F : Fun K "_law_prime_group" "_law_prime_group" s__law_prime_group f fd) (gx : mg "_law_prime_group" = some (.ref f)) (b : Binds K fd ["kind", "p"] []) : Cal P w K mg base 2 "_law_prime_group" 2 F__law_prime_group := by
  refine cal_of (N := ["kind", "p", "step", "turn", "x", "y"]) F gx sc__law_prime_group rfl b fun cdv A outer s H E hr => ?_
  have hN := sc__law_prime_group.nd
  have hu := hu_room hr
  have tk := tk_cx (P := P) (w := w) (K := K) (mg := mg) (base := base) (N := ["kind", "p", "step", "turn", "x", "y"]) (x := "_law_prime_group") (sc := defScope s__law_prime_group) (f := f) (cd := cdv) (A := A) (outer := outer) (s := s) (H := H) (E := E)
  have hp := hp_cx (P := P) (w := w) (K := K) (mg := mg) (base := base) (N := ["kind", "p", "step", "turn", "x", "y"]) (x := "_law_prime_group") (sc := defScope s__law_prime_group) (f := f) (cd := cdv) (A := A) (outer := outer) (s := s) (H := H) (E := E)
  have hc := hc_cx (P := P) (w := w) (K := K) (mg := mg) (base := base) (N := ["kind", "p", "step", "turn", "x", "y"]) (x := "_law_prime_group") (sc := defScope s__law_prime_group) (f := f) (cd := cdv) (A := A) (outer := outer) (s := s) (H := H) (E := E)
  exact (mb_cons (ms_set 2 hN (me_callTy call_tuple_of p_tuple (by rfl) T.n_tuple boot_tuple (ma_cons (me_frz (mf_comp hc hN (mi_range1 (by rfl) T.n_range (ma_cons (me_var 1) ma_nil)) iRange_chk ok_b__law_prime_group_195_17 (by rfl) (fun s0 H0 C0 cl0 fp0 => have hc := hc_blk hc s0 H0 sc_b__law_prime_group_195_17 C0 cl0 fp0; (mg_name 4 hN)) (fun s0 H0 C0 cl0 fp0 => have tk := @takes_wf; have hc := hc_blk hc s0 H0 sc_b__law_prime_group_195_17 C0 cl0 fp0; mts_nil) (fun s0 H0 C0 cl0 fp0 => have tk := @takes_wf; have hc := hc_blk hc s0 H0 sc_b__law_prime_group_195_17 C0 cl0 fp0; (me_mod (me_add (me_var 4) me_int) (me_var 1))))) ma_nil)))
    (mb_cons (ms_if (mt_eq hu (me_var 0) me_str) (mb_one (ms_ret (me_frz (mf_lst (ma_cons (me_var 1) (ma_cons (me_frz (mf_lst (ma_cons (me_var 2) (ma_cons (me_callTy call_tuple_of p_tuple (by rfl) T.n_tuple boot_tuple (ma_cons (me_frz (mf_comp hc hN (mi_range1 (by rfl) T.n_range (ma_cons (me_var 1) ma_nil)) iRange_chk ok_b__law_prime_group_197_32 (by rfl) (fun s0 H0 C0 cl0 fp0 => have hc := hc_blk hc s0 H0 sc_b__law_prime_group_197_32 C0 cl0 fp0; (mg_name 4 hN)) (fun s0 H0 C0 cl0 fp0 => have tk := @takes_wf; have hc := hc_blk hc s0 H0 sc_b__law_prime_group_197_32 C0 cl0 fp0; mts_nil) (fun s0 H0 C0 cl0 fp0 => have tk := @takes_wf; have hc := hc_blk hc s0 H0 sc_b__law_prime_group_197_32 C0 cl0 fp0; (me_mod (me_mul (me_call c__law_root hr (by decide) (by rfl) tk (ma_cons (me_var 1) ma_nil)) (me_var 4)) (me_var 1))))) ma_nil)) ma_nil)))) (ma_cons (me_mul (me_var 1) (me_sub (me_var 1) me_int)) ma_nil))))))) mb_nil)
    (mb_cons (ms_set 3 hN (me_new (mf_cat (me_frz (mf_lst (ma_cons (me_var 1) ma_nil))) (me_frz (mf_rep (me_frz (mf_lst (ma_cons me_int ma_nil))) (me_var 1))))))
    (mb_cons (ms_for hp hc (mi_range2 (by rfl) T.n_range (ma_cons me_int (ma_cons (me_var 1) ma_nil))) (mg_name 4 hN) (mb_one (ms_sub hu (me_var 3) (me_var 4) (me_ix hu (fun _ _ => rfl) (me_frz (mf_comp hc hN (mi_range1 (by rfl) T.n_range (ma_cons (me_var 1) ma_nil)) iRange_chk ok_b__law_prime_group_200_18 (by rfl) (fun s0 H0 C0 cl0 fp0 => have hc := hc_blk hc s0 H0 sc_b__law_prime_group_200_18 C0 cl0 fp0; (mg_name 5 hN)) (fun s0 H0 C0 cl0 fp0 => have tk := @takes_wf; have hc := hc_blk hc s0 H0 sc_b__law_prime_group_200_18 C0 cl0 fp0; (mts_one (mt_eq hu (me_mod (me_add (me_mul (me_var 4) (me_var 5)) me_int) (me_var 1)) me_int))) (fun s0 H0 C0 cl0 fp0 => have tk := @takes_wf; have hc := hc_blk hc s0 H0 sc_b__law_prime_group_200_18 C0 cl0 fp0; (me_var 5)))) me_int))) iRange_chk)
    (mb_one (ms_ret (me_frz (mf_lst (ma_cons (me_add (me_var 1) me_int) (ma_cons (me_frz (mf_lst (ma_cons (me_add (me_var 2) (me_tup (ma_cons (me_var 1) ma_nil))) (ma_cons (me_callTy call_tuple_of p_tuple (by rfl) T.n_tuple boot_tuple (ma_cons (me_var 3) ma_nil)) ma_nil)))) (ma_cons (me_fdiv (me_mul (me_var 1) (me_sub (me_mul (me_var 1) (me_var 1)) me_int)) (me_if (mt_eq hu (me_var 1) me_int) me_int me_int)) ma_nil)))))))))))
theorem m__law_bits {f : Addr} {fd : FuncData} (T : Tx P w K mg base)  (F : Fun K "_law_bits" "_law_bits" s__law_bits f fd) (gx : mg "_law_bits" = some (.ref f)) (b : Binds K fd ["k"] []) : Cal P w K mg base 1 "_law_bits" 1 F__law_bits := by
  refine cal_of (N := ["k", "n", "last", "shift", "shear", "x"]) F gx sc__law_bits rfl b fun cdv A outer s H E hr => ?_
  have hN := sc__law_bits.nd
  have hu := hu_room hr
  have tk := tk_cx (P := P) (w := w) (K := K) (mg := mg) (base := base) (N := ["k", "n", "last", "shift", "shear", "x"]) (x := "_law_bits") (sc := defScope s__law_bits) (f := f) (cd := cdv) (A := A) (outer := outer) (s := s) (H := H) (E := E)
  have hp := hp_cx (P := P) (w := w) (K := K) (mg := mg) (base := base) (N := ["k", "n", "last", "shift", "shear", "x"]) (x := "_law_bits") (sc := defScope s__law_bits) (f := f) (cd := cdv) (A := A) (outer := outer) (s := s) (H := H) (E := E)
  have hc := hc_cx (P := P) (w := w) (K := K) (mg := mg) (base := base) (N := ["k", "n", "last", "shift", "shear", "x"]) (x := "_law_bits") (sc := defScope s__law_bits) (f := f) (cd := cdv) (A := A) (outer := outer) (s := s) (H := H) (E := E)
  exact (mb_cons (ms_set 1 hN (me_ix hu (fun _ _ => rfl) (me_frz (mf_lst (ma_cons me_int (ma_cons me_int (ma_cons me_int (ma_cons me_int (ma_cons me_int ma_nil))))))) (me_var 0)))
    (mb_cons (ms_set 2 hN (me_callTy call_tuple_of p_tuple (by rfl) T.n_tuple boot_tuple (ma_cons (me_frz (mf_comp hc hN (mi_range1 (by rfl) T.n_range (ma_cons (me_var 1) ma_nil)) iRange_chk ok_b__law_bits_204_17 (by rfl) (fun s0 H0 C0 cl0 fp0 => have hc := hc_blk hc s0 H0 sc_b__law_bits_204_17 C0 cl0 fp0; (mg_name 5 hN)) (fun s0 H0 C0 cl0 fp0 => have tk := @takes_wf; have hc := hc_blk hc s0 H0 sc_b__law_bits_204_17 C0 cl0 fp0; mts_nil) (fun s0 H0 C0 cl0 fp0 => have tk := @takes_wf; have hc := hc_blk hc s0 H0 sc_b__law_bits_204_17 C0 cl0 fp0; (me_sub (me_add (me_var 5) me_int) (me_mul me_int (me_mod (me_callTy (call_int1.or call_int_str) p_int (by rfl) T.n_int boot_int (ma_cons (me_var 5) ma_nil)) me_int)))))) ma_nil)))
    (mb_cons (ms_set 3 hN (me_callTy call_tuple_of p_tuple (by rfl) T.n_tuple boot_tuple (ma_cons (me_frz (mf_comp hc hN (mi_range1 (by rfl) T.n_range (ma_cons (me_var 1) ma_nil)) iRange_chk ok_b__law_bits_205_18 (by rfl) (fun s0 H0 C0 cl0 fp0 => have hc := hc_blk hc s0 H0 sc_b__law_bits_205_18 C0 cl0 fp0; (mg_name 5 hN)) (fun s0 H0 C0 cl0 fp0 => have tk := @takes_wf; have hc := hc_blk hc s0 H0 sc_b__law_bits_205_18 C0 cl0 fp0; mts_nil) (fun s0 H0 C0 cl0 fp0 => have tk := @takes_wf; have hc := hc_blk hc s0 H0 sc_b__law_bits_205_18 C0 cl0 fp0; (me_if (mt_lt hu (me_mul me_int (me_var 5)) (me_var 1)) (me_mul me_int (me_var 5)) (me_add (me_sub (me_mul me_int (me_var 5)) (me_var 1)) me_int))))) ma_nil)))
    (mb_cons (ms_set 4 hN (me_callTy call_tuple_of p_tuple (by rfl) T.n_tuple boot_tuple (ma_cons (me_frz (mf_comp hc hN (mi_range1 (by rfl) T.n_range (ma_cons (me_var 1) ma_nil)) iRange_chk ok_b__law_bits_206_18 (by rfl) (fun s0 H0 C0 cl0 fp0 => have hc := hc_blk hc s0 H0 sc_b__law_bits_206_18 C0 cl0 fp0; (mg_name 5 hN)) (fun s0 H0 C0 cl0 fp0 => have tk := @takes_wf; have hc := hc_blk hc s0 H0 sc_b__law_bits_206_18 C0 cl0 fp0; mts_nil) (fun s0 H0 C0 cl0 fp0 => have tk := @takes_wf; have hc := hc_blk hc s0 H0 sc_b__law_bits_206_18 C0 cl0 fp0; (me_if (mt_w (mw_and (mt_gt (me_var 0) me_int) (mw_and1 (mt_eq hu (me_mod (me_callTy (call_int1.or call_int_str) p_int (by rfl) T.n_int boot_int (ma_cons (me_fdiv (me_var 5) me_int) ma_nil)) me_int) me_int)))) (me_ix hu (fun _ _ => rfl) (me_var 2) (me_var 5)) (me_var 5))))) ma_nil)))
    (mb_one (ms_ret (me_frz (mf_lst (ma_cons (me_var 1) (ma_cons (me_frz (mf_lst (ma_cons (me_var 2) (ma_cons (me_var 3) (ma_cons (me_var 4) ma_nil))))) (ma_cons (me_ix hu (fun _ _ => rfl) (me_frz (mf_lst (ma_cons me_int (ma_cons me_int (ma_cons me_int (ma_cons me_int (ma_cons me_int ma_nil))))))) (me_var 0)) ma_nil)))))))))))
theorem m__law_due {f : Addr} {fd : FuncData} (T : Tx P w K mg base) (c__law_bits : Cal P w K mg base 1 "_law_bits" 1 (pureF 200 F__law_bits)) (c__law_cycle : Cal P w K mg base 1 "_law_cycle" 2 (pureF 200 F__law_cycle)) (c__law_pick : Cal P w K mg base 2 "_law_pick" 2 F__law_pick) (c__law_prime_group : Cal P w K mg base 2 "_law_prime_group" 2 (pureF 200 F__law_prime_group)) (c__law_take : Cal P w K mg base 1 "_law_take" 2 F__law_take) (c__law_times : Cal P w K mg base 1 "_law_times" 2 (pureF 200 F__law_times)) (c__law_turn : Cal P w K mg base 2 "_law_turn" 1 (pureF 200 F__law_turn)) (F : Fun K "_law_due" "_law_due" s__law_due f fd) (gx : mg "_law_due" = some (.ref f)) (b : Binds K fd ["d"] []) : Cal P w K mg base 3 "_law_due" 1 F__law_due := by
  refine cal_of (N := ["d", "n", "kind", "full", "k", "p", "twelve", "gens", "x"]) F gx sc__law_due rfl b fun cdv A outer s H E hr => ?_
  have hN := sc__law_due.nd
  have hu := hu_room hr
  have tk := tk_cx (P := P) (w := w) (K := K) (mg := mg) (base := base) (N := ["d", "n", "kind", "full", "k", "p", "twelve", "gens", "x"]) (x := "_law_due") (sc := defScope s__law_due) (f := f) (cd := cdv) (A := A) (outer := outer) (s := s) (H := H) (E := E)
  have hp := hp_cx (P := P) (w := w) (K := K) (mg := mg) (base := base) (N := ["d", "n", "kind", "full", "k", "p", "twelve", "gens", "x"]) (x := "_law_due") (sc := defScope s__law_due) (f := f) (cd := cdv) (A := A) (outer := outer) (s := s) (H := H) (E := E)
  have hc := hc_cx (P := P) (w := w) (K := K) (mg := mg) (base := base) (N := ["d", "n", "kind", "full", "k", "p", "twelve", "gens", "x"]) (x := "_law_due") (sc := defScope s__law_due) (f := f) (cd := cdv) (A := A) (outer := outer) (s := s) (H := H) (E := E)
  exact (mb_cons (ms_set 1 hN (me_add me_int (me_call c__law_take hr (by decide) (by rfl) tk (ma_cons (me_var 0) (ma_cons me_int ma_nil)))))
    (mb_cons (ms_set 2 hN (me_call c__law_pick hr (by decide) (by rfl) tk (ma_cons (me_var 0) (ma_cons (me_frz (mf_lst (ma_cons me_str (ma_cons me_str (ma_cons me_str (ma_cons me_str (ma_cons me_str (ma_cons me_str (ma_cons me_str (ma_cons me_str (ma_cons me_str ma_nil))))))))))) ma_nil))))
    (mb_cons (ms_set 3 hN me_int)
    (mb_cons (ms_for hp hc (mi_range1 (by rfl) T.n_range (ma_cons (me_var 1) ma_nil)) (mg_name 4 hN) (mb_one (ms_set 3 hN (me_mul (me_var 3) (me_add (me_var 4) me_int)))) iRange_chk)
    (mb_cons (ms_if (mt_eq hu (me_var 2) me_str) (mb_one (ms_ret (me_frz (mf_lst (ma_cons (me_add (me_var 2) (me_callTy call_str_int p_str (by rfl) T.n_str boot_str (ma_cons (me_var 1) ma_nil))) (ma_cons (me_var 1) (ma_cons (me_frz (mf_lst (ma_cons (me_call c__law_turn hr (by decide) (by rfl) tk (ma_cons (me_var 1) ma_nil)) (ma_cons (me_call c__law_cycle hr (by decide) (by rfl) tk (ma_cons (me_var 1) (ma_cons (me_frz (mf_listRg hc (by rfl) T.n_list (mrg_1 (by rfl) T.n_range (me_callB (call_min2 hc) p_min2 (by rfl) T.n_min boot_min (ma_cons me_int (ma_cons (me_var 1) ma_nil)))))) ma_nil))) ma_nil)))) (ma_cons (me_var 3) ma_nil)))))))) mb_nil)
    (mb_cons (ms_if (mt_eq hu (me_var 2) me_str) (mb_one (ms_ret (me_frz (mf_lst (ma_cons (me_add (me_var 2) (me_callTy call_str_int p_str (by rfl) T.n_str boot_str (ma_cons (me_var 1) ma_nil))) (ma_cons (me_var 1) (ma_cons (me_frz (mf_comp hc hN (mi_range1 (by rfl) T.n_range (ma_cons (me_sub (me_var 1) me_int) ma_nil)) iRange_chk ok_b__law_due_217_34 (by rfl) (fun s0 H0 C0 cl0 fp0 => have hc := hc_blk hc s0 H0 sc_b__law_due_217_34 C0 cl0 fp0; (mg_name 4 hN)) (fun s0 H0 C0 cl0 fp0 => have tk := @takes_wf; have hc := hc_blk hc s0 H0 sc_b__law_due_217_34 C0 cl0 fp0; mts_nil) (fun s0 H0 C0 cl0 fp0 => have tk := @takes_wf; have hc := hc_blk hc s0 H0 sc_b__law_due_217_34 C0 cl0 fp0; (me_call c__law_cycle hr (by decide) (by rfl) tk (ma_cons (me_var 1) (ma_cons (me_frz (mf_lst (ma_cons (me_var 4) (ma_cons (me_add (me_var 4) me_int) (ma_cons (me_add (me_var 4) me_int) ma_nil))))) ma_nil)))))) (ma_cons (me_if (mt_gt (me_var 1) me_int) (me_fdiv (me_var 3) me_int) me_int) ma_nil)))))))) mb_nil)
    (mb_cons (ms_if (mt_eq hu (me_var 2) me_str) (mb_one (ms_ret (me_frz (mf_lst (ma_cons (me_add (me_var 2) (me_callTy call_str_int p_str (by rfl) T.n_str boot_str (ma_cons (me_var 1) ma_nil))) (ma_cons (me_var 1) (ma_cons (me_frz (mf_lst (ma_cons (me_call c__law_turn hr (by decide) (by rfl) tk (ma_cons (me_var 1) ma_nil)) ma_nil))) (ma_cons (me_var 1) ma_nil)))))))) mb_nil)
    (mb_cons (ms_if (mt_eq hu (me_var 2) me_str) (mb_one (ms_ret (me_frz (mf_lst (ma_cons (me_add (me_var 2) (me_callTy call_str_int p_str (by rfl) T.n_str boot_str (ma_cons (me_var 1) ma_nil))) (ma_cons (me_var 1) (ma_cons (me_frz (mf_lst (ma_cons (me_call c__law_turn hr (by decide) (by rfl) tk (ma_cons (me_var 1) ma_nil)) (ma_cons (me_callTy call_tuple_of p_tuple (by rfl) T.n_tuple boot_tuple (ma_cons (me_frz (mf_comp hc hN (mi_range1 (by rfl) T.n_range (ma_cons (me_var 1) ma_nil)) iRange_chk ok_b__law_due_221_55 (by rfl) (fun s0 H0 C0 cl0 fp0 => have hc := hc_blk hc s0 H0 sc_b__law_due_221_55 C0 cl0 fp0; (mg_name 8 hN)) (fun s0 H0 C0 cl0 fp0 => have tk := @takes_wf; have hc := hc_blk hc s0 H0 sc_b__law_due_221_55 C0 cl0 fp0; mts_nil) (fun s0 H0 C0 cl0 fp0 => have tk := @takes_wf; have hc := hc_blk hc s0 H0 sc_b__law_due_221_55 C0 cl0 fp0; (me_mod (me_sub (me_var 1) (me_var 8)) (me_var 1))))) ma_nil)) ma_nil)))) (ma_cons (me_if (mt_gt (me_var 1) me_int) (me_mul me_int (me_var 1)) (me_var 1)) ma_nil)))))))) mb_nil)
    (mb_cons (ms_if (mt_in hu (by rfl) (me_var 2) (me_frz (mf_lst (ma_cons me_str (ma_cons me_str ma_nil))))) (mb_cons (ms_set 5 hN (me_call c__law_pick hr (by decide) (by rfl) tk (ma_cons (me_var 0) (ma_cons (me_frz (mf_lst (ma_cons me_int (ma_cons me_int (ma_cons me_int (ma_cons me_int (ma_cons me_int (ma_cons me_int ma_nil)))))))) ma_nil))))
    (mb_one (ms_ret (me_frz (mf_cat (me_frz (mf_lst (ma_cons (me_add (me_var 2) (me_callTy call_str_int p_str (by rfl) T.n_str boot_str (ma_cons (me_var 5) ma_nil))) ma_nil))) (me_call c__law_prime_group hr (by decide) (by rfl) tk (ma_cons (me_var 2) (ma_cons (me_var 5) ma_nil)))))))) mb_nil)
    (mb_cons (ms_if (mt_eq hu (me_var 2) me_str) (mb_cons (ms_set 4 hN (me_add me_int (me_call c__law_take hr (by decide) (by rfl) tk (ma_cons (me_var 0) (ma_cons me_int ma_nil)))))
    (mb_one (ms_ret (me_frz (mf_cat (me_frz (mf_lst (ma_cons (me_add me_str (me_callTy call_str_int p_str (by rfl) T.n_str boot_str (ma_cons (me_var 4) ma_nil))) ma_nil))) (me_call c__law_bits hr (by decide) (by rfl) tk (ma_cons (me_var 4) ma_nil))))))) mb_nil)
    (mb_cons (ms_if (mt_eq hu (me_var 2) me_str) (mb_one (ms_ret (me_frz (mf_lst (ma_cons me_str (ma_cons me_int (ma_cons (me_frz (mf_lst (ma_cons (me_tup (ma_cons me_int (ma_cons me_int (ma_cons me_int (ma_cons me_int (ma_cons me_int (ma_cons me_int (ma_cons me_int (ma_cons me_int ma_nil))))))))) (ma_cons (me_tup (ma_cons me_int (ma_cons me_int (ma_cons me_int (ma_cons me_int (ma_cons me_int (ma_cons me_int (ma_cons me_int (ma_cons me_int ma_nil))))))))) ma_nil)))) (ma_cons me_int ma_nil)))))))) mb_nil)
    (mb_cons (ms_set 6 hN (me_call c__law_take hr (by decide) (by rfl) tk (ma_cons (me_var 0) (ma_cons me_int ma_nil))))
    (mb_cons (ms_set 1 hN (me_add me_int (me_var 6)))
    (mb_cons (ms_set 7 hN (me_new (mf_lst (ma_cons (me_call c__law_cycle hr (by decide) (by rfl) tk (ma_cons (me_var 1) (ma_cons (me_frz (mf_listRg hc (by rfl) T.n_list (mrg_1 (by rfl) T.n_range me_int))) ma_nil))) (ma_cons (me_call c__law_times hr (by decide) (by rfl) tk (ma_cons (me_call c__law_cycle hr (by decide) (by rfl) tk (ma_cons (me_var 1) (ma_cons (me_frz (mf_lst (ma_cons me_int (ma_cons me_int (ma_cons me_int (ma_cons me_int ma_nil)))))) ma_nil))) (ma_cons (me_call c__law_cycle hr (by decide) (by rfl) tk (ma_cons (me_var 1) (ma_cons (me_frz (mf_lst (ma_cons me_int (ma_cons me_int (ma_cons me_int (ma_cons me_int ma_nil)))))) ma_nil))) ma_nil))) ma_nil)))))
    (mb_cons (ms_if (mt_eq hu (me_var 6) me_int) (mb_one (ms_expr (me_append (me_var 7) (ma_cons (me_tup (ma_cons me_int (ma_cons me_int (ma_cons me_int (ma_cons me_int (ma_cons me_int (ma_cons me_int (ma_cons me_int (ma_cons me_int (ma_cons me_int (ma_cons me_int (ma_cons me_int (ma_cons me_int ma_nil))))))))))))) ma_nil)))) mb_nil)
    (mb_one (ms_ret (me_frz (mf_lst (ma_cons (me_add me_str (me_callTy call_str_int p_str (by rfl) T.n_str boot_str (ma_cons (me_var 1) ma_nil))) (ma_cons (me_var 1) (ma_cons (me_var 7) (ma_cons (me_ix hu (fun _ _ => rfl) (me_frz (mf_lst (ma_cons me_int (ma_cons me_int ma_nil)))) (me_var 6)) ma_nil)))))))))))))))))))))))
theorem m_law {f : Addr} {fd : FuncData} (T : Tx P w K mg base) (c__law_asked : Cal P w K mg base 7 "_law_asked" 1 (pureF 200 F__law_asked)) (c__law_begin : Cal P w K mg base 1 "_law_begin" 1 F__law_begin) (c__law_due : Cal P w K mg base 3 "_law_due" 1 (thawF 200 F__law_due)) (c__law_grow : Cal P w K mg base 3 "_law_grow" 2 F__law_grow) (c__law_pick : Cal P w K mg base 2 "_law_pick" 2 F__law_pick) (c__law_size : Cal P w K mg base 1 "_law_size" 1 F__law_size) (F : Fun K "law" "law" s_law f fd) (gx : mg "law" = some (.ref f)) (b : Binds K fd ["script"] []) : FnOk P w K mg base (L2.CX P w) 8 f fd ["script"] (spG K mg 1 F_law) := by
  refine fn_of (N := ["script", "d", "turn", "name", "n", "gens", "size", "wrong", "known"]) F gx sc_law rfl b fun cdv A outer s H E hr => ?_
  have hN := sc_law.nd
  have hu := hu_room hr
  have tk := tk_cx (P := P) (w := w) (K := K) (mg := mg) (base := base) (N := ["script", "d", "turn", "name", "n", "gens", "size", "wrong", "known"]) (x := "law") (sc := defScope s_law) (f := f) (cd := cdv) (A := A) (outer := outer) (s := s) (H := H) (E := E)
  have hp := hp_cx (P := P) (w := w) (K := K) (mg := mg) (base := base) (N := ["script", "d", "turn", "name", "n", "gens", "size", "wrong", "known"]) (x := "law") (sc := defScope s_law) (f := f) (cd := cdv) (A := A) (outer := outer) (s := s) (H := H) (E := E)
  have hc := hc_cx (P := P) (w := w) (K := K) (mg := mg) (base := base) (N := ["script", "d", "turn", "name", "n", "gens", "size", "wrong", "known"]) (x := "law") (sc := defScope s_law) (f := f) (cd := cdv) (A := A) (outer := outer) (s := s) (H := H) (E := E)
  exact (mb_cons (ms_set 1 hN (me_call c__law_begin hr (by decide) (by rfl) tk (ma_cons (me_var 0) ma_nil)))
    (mb_cons (ms_for hp hc (mi_range1 (by rfl) T.n_range (ma_cons me_int ma_nil)) (mg_name 2 hN) (mb_cons (ms_asg (me_call c__law_due hr (by decide) (by rfl) tk (ma_cons (me_var 1) ma_nil)) (mg_lst hc (mgs_cons (mg_name 3 hN) (mgs_cons (mg_name 4 hN) (mgs_cons (mg_name 5 hN) (mgs_cons (mg_name 6 hN) mgs_nil))))))
    (mb_cons (ms_if (mt_w (mw_or (mt_ne hu (me_call c__law_asked hr (by decide) (by rfl) tk (ma_cons (me_var 3) ma_nil)) (me_tup (ma_cons (me_var 4) (ma_cons (me_callTy call_tuple_of p_tuple (by rfl) T.n_tuple boot_tuple (ma_cons (me_var 5) ma_nil)) ma_nil)))) (mw_or1 (mt_ne hu (me_pure 200 (me_call c__law_size hr (by decide) (by rfl) tk (ma_cons (me_call c__law_grow hr (by decide) (by rfl) tk (ma_cons (me_var 4) (ma_cons (me_var 5) ma_nil))) ma_nil))) (me_var 6))))) (mb_one (ms_ret me_bl)) mb_nil)
    (mb_cons (ms_set 7 hN (me_call c__law_pick hr (by decide) (by rfl) tk (ma_cons (me_var 1) (ma_cons (me_frz (mf_lst (ma_cons (me_add (me_var 3) me_str) (ma_cons (me_slice (me_var 3) mo_none (mo_some me_int)) (ma_cons me_str (ma_cons me_str (ma_cons me_str (ma_cons me_str (ma_cons me_str (ma_cons me_str (ma_cons me_str (ma_cons me_str (ma_cons me_str (ma_cons me_str (ma_cons me_str (ma_cons (me_upper (me_var 3)) (ma_cons (me_add me_str (me_var 3)) (ma_cons me_str ma_nil)))))))))))))))))) ma_nil))))
    (mb_cons (ms_set 8 hN (me_frz (mf_lst (ma_cons me_str (ma_cons me_str (ma_cons me_str (ma_cons me_str (ma_cons me_str (ma_cons me_str (ma_cons me_str (ma_cons me_str (ma_cons me_str (ma_cons me_str ma_nil)))))))))))))
    (mb_one (ms_if (mt_w (mw_and (mt_nin hu (by rfl) (me_var 7) (me_var 8)) (mw_and (mt_ne hu (me_var 7) (me_var 3)) (mw_and (mt_ne hu (me_call c__law_asked hr (by decide) (by rfl) tk (ma_cons (me_var 7) ma_nil)) me_str) (mw_and1 (mt_not (mt_w (mw_and (mt_eq hu (me_callB call_lenAny p_len (by rfl) T.n_len boot_len (ma_cons (me_var 7) ma_nil)) me_int) (mw_and1 (mt_eq hu (me_slice (me_var 7) (mo_some me_int) mo_none) me_str)))))))))) (mb_one (ms_ret me_bl)) mb_nil)))))) iRange_chk)
    (mb_one (ms_ret (me_and (me_eq hu (me_call c__law_asked hr (by decide) (by rfl) tk (ma_cons me_str ma_nil)) me_str) (me_and (me_eq hu (me_call c__law_asked hr (by decide) (by rfl) tk (ma_cons me_str ma_nil)) me_str) (me_and (me_eq hu (me_call c__law_asked hr (by decide) (by rfl) tk (ma_cons me_str ma_nil)) me_str) (me_one (me_eq hu (me_call c__law_asked hr (by decide) (by rfl) tk (ma_cons me_str ma_nil)) me_str)))))))))
end
end Lw

namespace Lw
open PySem PySem.Spec PyProof.Rows PySem.W L2 G
abbrev Pq : Program := PySem.Challenge.rw_symhouse_k60_named_groups.prog
theorem plain (ns : List Int) (h : ns.length ≤ 63) : ∃ L, F_law [.frz (ns.map LV.int)] [] = .ok (.bl true) L := plain_of sizes ns h
theorem all_mk {w : World} {K : PySem.W.Frag} {h : Heap} {mg : Str → Option Value} {fa : Addr} {f_is_number : Addr} {od_is_number an_is_number : Option Addr} {sl_is_number : Array (Option Value)} {oc_is_number kV_is_number dc_is_number pm_is_number cd_is_number ct_is_number : Value} {f_cycle_texts : Addr} {od_cycle_texts an_cycle_texts : Option Addr} {sl_cycle_texts : Array (Option Value)} {oc_cycle_texts kV_cycle_texts dc_cycle_texts pm_cycle_texts cd_cycle_texts ct_cycle_texts : Value} {f_parse_perm : Addr} {od_parse_perm an_parse_perm : Option Addr} {sl_parse_perm : Array (Option Value)} {oc_parse_perm kV_parse_perm dc_parse_perm pm_parse_perm cd_parse_perm ct_parse_perm : Value} {f_turned : Addr} {od_turned an_turned : Option Addr} {sl_turned : Array (Option Value)} {oc_turned kV_turned dc_turned pm_turned cd_turned ct_turned : Value} {f_symmetric : Addr} {od_symmetric an_symmetric : Option Addr} {sl_symmetric : Array (Option Value)} {oc_symmetric kV_symmetric dc_symmetric pm_symmetric cd_symmetric ct_symmetric : Value} {f_alternating : Addr} {od_alternating an_alternating : Option Addr} {sl_alternating : Array (Option Value)} {oc_alternating kV_alternating dc_alternating pm_alternating cd_alternating ct_alternating : Value} {f_cyclic : Addr} {od_cyclic an_cyclic : Option Addr} {sl_cyclic : Array (Option Value)} {oc_cyclic kV_cyclic dc_cyclic pm_cyclic cd_cyclic ct_cyclic : Value} {f_dihedral : Addr} {od_dihedral an_dihedral : Option Addr} {sl_dihedral : Array (Option Value)} {oc_dihedral kV_dihedral dc_dihedral pm_dihedral cd_dihedral ct_dihedral : Value} {f_root_of_prime : Addr} {od_root_of_prime an_root_of_prime : Option Addr} {sl_root_of_prime : Array (Option Value)} {oc_root_of_prime kV_root_of_prime dc_root_of_prime pm_root_of_prime cd_root_of_prime ct_root_of_prime : Value} {f_affine : Addr} {od_affine an_affine : Option Addr} {sl_affine : Array (Option Value)} {oc_affine kV_affine dc_affine pm_affine cd_affine ct_affine : Value} {f_inverse_below : Addr} {od_inverse_below an_inverse_below : Option Addr} {sl_inverse_below : Array (Option Value)} {oc_inverse_below kV_inverse_below dc_inverse_below pm_inverse_below cd_inverse_below ct_inverse_below : Value} {f_projective : Addr} {od_projective an_projective : Option Addr} {sl_projective : Array (Option Value)} {oc_projective kV_projective dc_projective pm_projective cd_projective ct_projective : Value} {f_linear : Addr} {od_linear an_linear : Option Addr} {sl_linear : Array (Option Value)} {oc_linear kV_linear dc_linear pm_linear cd_linear ct_linear : Value} {f_quaternion : Addr} {od_quaternion an_quaternion : Option Addr} {sl_quaternion : Array (Option Value)} {oc_quaternion kV_quaternion dc_quaternion pm_quaternion cd_quaternion ct_quaternion : Value} {f_named : Addr} {od_named an_named : Option Addr} {sl_named : Array (Option Value)} {oc_named kV_named dc_named pm_named cd_named ct_named : Value} {f__law_cycle : Addr} {od__law_cycle an__law_cycle : Option Addr} {sl__law_cycle : Array (Option Value)} {oc__law_cycle kV__law_cycle dc__law_cycle pm__law_cycle cd__law_cycle ct__law_cycle : Value} {f__law_take : Addr} {od__law_take an__law_take : Option Addr} {sl__law_take : Array (Option Value)} {oc__law_take kV__law_take dc__law_take pm__law_take cd__law_take ct__law_take : Value} {f__law_pick : Addr} {od__law_pick an__law_pick : Option Addr} {sl__law_pick : Array (Option Value)} {oc__law_pick kV__law_pick dc__law_pick pm__law_pick cd__law_pick ct__law_pick : Value} {f__law_times : Addr} {od__law_times an__law_times : Option Addr} {sl__law_times : Array (Option Value)} {oc__law_times kV__law_times dc__law_times pm__law_times cd__law_times ct__law_times : Value} {f__law_begin : Addr} {od__law_begin an__law_begin : Option Addr} {sl__law_begin : Array (Option Value)} {oc__law_begin kV__law_begin dc__law_begin pm__law_begin cd__law_begin ct__law_begin : Value} {f__law_size : Addr} {od__law_size an__law_size : Option Addr} {sl__law_size : Array (Option Value)} {oc__law_size kV__law_size dc__law_size pm__law_size cd__law_size ct__law_size : Value} {f__law_inverse : Addr} {od__law_inverse an__law_inverse : Option Addr} {sl__law_inverse : Array (Option Value)} {oc__law_inverse kV__law_inverse dc__law_inverse pm__law_inverse cd__law_inverse ct__law_inverse : Value} {f__law_sift : Addr} {od__law_sift an__law_sift : Option Addr} {sl__law_sift : Array (Option Value)} {oc__law_sift kV__law_sift dc__law_sift pm__law_sift cd__law_sift ct__law_sift : Value} {f__law_extend : Addr} {od__law_extend an__law_extend : Option Addr} {sl__law_extend : Array (Option Value)} {oc__law_extend kV__law_extend dc__law_extend pm__law_extend cd__law_extend ct__law_extend : Value} {f__law_grow : Addr} {od__law_grow an__law_grow : Option Addr} {sl__law_grow : Array (Option Value)} {oc__law_grow kV__law_grow dc__law_grow pm__law_grow cd__law_grow ct__law_grow : Value} {f__law_asked : Addr} {od__law_asked an__law_asked : Option Addr} {sl__law_asked : Array (Option Value)} {oc__law_asked kV__law_asked dc__law_asked pm__law_asked cd__law_asked ct__law_asked : Value} {f__law_turn : Addr} {od__law_turn an__law_turn : Option Addr} {sl__law_turn : Array (Option Value)} {oc__law_turn kV__law_turn dc__law_turn pm__law_turn cd__law_turn ct__law_turn : Value} {f__law_root : Addr} {od__law_root an__law_root : Option Addr} {sl__law_root : Array (Option Value)} {oc__law_root kV__law_root dc__law_root pm__law_root cd__law_root ct__law_root : Value} {f__law_prime_group : Addr} {od__law_prime_group an__law_prime_group : Option Addr} {sl__law_prime_group : Array (Option Value)} {oc__law_prime_group kV__law_prime_group dc__law_prime_group pm__law_prime_group cd__law_prime_group ct__law_prime_group : Value} {f__law_bits : Addr} {od__law_bits an__law_bits : Option Addr} {sl__law_bits : Array (Option Value)} {oc__law_bits kV__law_bits dc__law_bits pm__law_bits cd__law_bits ct__law_bits : Value} {f__law_due : Addr} {od__law_due an__law_due : Option Addr} {sl__law_due : Array (Option Value)} {oc__law_due kV__law_due dc__law_due pm__law_due cd__law_due ct__law_due : Value} {f_law : Addr} {od_law an_law : Option Addr} {sl_law : Array (Option Value)} {oc_law kV_law dc_law pm_law cd_law ct_law : Value} {SS fS : Addr} {oc_S : Value} {od_S an_S : Option Addr} {dc_S pm_S ct_S : Value} {cda_S cc_S : Addr} {sl_S : Array (Option Value)} {ccl_S : Value} {cdd_S : Option Addr} {vs_S : Array Value} {ccs_S : Array (Option Value)} {file_S : Str} {tf_S : Tok} {cl_S : Value} {cld_S : Option Addr} {csl_S : Array (Option Value)} {cdD_S : ClassData} {C_BuildError : Addr} {nm_BuildError q_BuildError : Str} {N_BuildError : Addr} {bs_BuildError bm_BuildError : List Value} {sn_BuildError : List Str} {sub_BuildError : List Value} {ab_BuildError : Bool} {col_BuildError : Option Bool} {dd_BuildError : Option Addr} {m0_BuildError m1_BuildError m2_BuildError m3_BuildError m5_BuildError : Option Value} {C_PermError : Addr} {nm_PermError q_PermError : Str} {N_PermError : Addr} {bs_PermError bm_PermError : List Value} {sn_PermError : List Str} {sub_PermError : List Value} {ab_PermError : Bool} {col_PermError : Option Bool} {dd_PermError : Option Addr} {m0_PermError m1_PermError m2_PermError m3_PermError m5_PermError : Option Value} {d_MATHIEU : Addr} {es_MATHIEU : Array DictEntry} {nn_MATHIEU : Nat} {tt_MATHIEU : List (Str × Value)} {tk1 : Tok} {tk2 : Tok} {tk3 : Tok} {ad4 : Addr} {od4 : Option Addr} {it4 : Array Value} {sz4 : Nat} {sl4 : Array (Option Value)} {ad5 : Addr} {od5 : Option Addr} {it5 : Array Value} {sz5 : Nat} {sl5 : Array (Option Value)} {tk6 : Tok} {tk7 : Tok} {tk8 : Tok} {tk9 : Tok} {ad10 : Addr} {od10 : Option Addr} {it10 : Array Value} {sz10 : Nat} {sl10 : Array (Option Value)} {ad11 : Addr} {od11 : Option Addr} {it11 : Array Value} {sz11 : Nat} {sl11 : Array (Option Value)} {d_MAKERS : Addr} {es_MAKERS : Array DictEntry} {nn_MAKERS : Nat} {tt_MAKERS : List (Str × Value)} {d_NUMBERS : Addr} {es_NUMBERS : Array DictEntry} {nn_NUMBERS : Nat} {tt_NUMBERS : List (Str × Value)} {tk12 : Tok} {tk13 : Tok} {tk14 : Tok} {tk15 : Tok} {tk16 : Tok} {tk17 : Tok} {tk18 : Tok} {tk19 : Tok} {tk20 : Tok} {tk21 : Tok} {tk22 : Tok} {tk23 : Tok} {tk24 : Tok} {tk25 : Tok} {tk26 : Tok} {tk27 : Tok} {ad28 : Addr} {od28 : Option Addr} {it28 : Array Value} {sz28 : Nat} {sl28 : Array (Option Value)} {tk29 : Tok} {tk30 : Tok} {tk31 : Tok} {tk32 : Tok} {tk33 : Tok} {tk34 : Tok} {tk35 : Tok} {tk36 : Tok} {tk37 : Tok} {tk38 : Tok} {tk39 : Tok} {tk40 : Tok} {tk41 : Tok} {tk42 : Tok} {tk43 : Tok} {tk44 : Tok} {ad45 : Addr} {od45 : Option Addr} {it45 : Array Value} {sz45 : Nat} {sl45 : Array (Option Value)} {tk46 : Tok} {tk47 : Tok} {tk48 : Tok} {tk49 : Tok} {tk50 : Tok} {tk51 : Tok} {tk52 : Tok} {tk53 : Tok} {tk54 : Tok} {tk55 : Tok} {tk56 : Tok} {tk57 : Tok} {tk58 : Tok} {tk59 : Tok} {tk60 : Tok} {tk61 : Tok} {ad62 : Addr} {od62 : Option Addr} {it62 : Array Value} {sz62 : Nat} {sl62 : Array (Option Value)} {tk63 : Tok} {tk64 : Tok} {tk65 : Tok} {tk66 : Tok} {tk67 : Tok} {tk68 : Tok} {tk69 : Tok} {tk70 : Tok} {tk71 : Tok} {tk72 : Tok} {tk73 : Tok} {tk74 : Tok} {tk75 : Tok} {tk76 : Tok} {tk77 : Tok} {tk78 : Tok} {ad79 : Addr} {od79 : Option Addr} {it79 : Array Value} {sz79 : Nat} {sl79 : Array (Option Value)} {tk80 : Tok} {tk81 : Tok} {tk82 : Tok} {tk83 : Tok} {tk84 : Tok} {tk85 : Tok} {ad86 : Addr} {od86 : Option Addr} {it86 : Array Value} {sz86 : Nat} {sl86 : Array (Option Value)} {tk87 : Tok} {tk88 : Tok} {tk89 : Tok} {tk90 : Tok} {tk91 : Tok} {tk92 : Tok} {ad93 : Addr} {od93 : Option Addr} {it93 : Array Value} {sz93 : Nat} {sl93 : Array (Option Value)} {tk94 : Tok} {tk95 : Tok} {tk96 : Tok} {tk97 : Tok} {ad98 : Addr} {od98 : Option Addr} {it98 : Array Value} {sz98 : Nat} {sl98 : Array (Option Value)} {tk99 : Tok} (X : K.In h) (G : h.Ns mainGlobals mg) (hfa : mg "law" = some (.ref fa))
    (z_abs : PySem.W.nsIn K mainGlobals "abs" = some none)
    (z_any : PySem.W.nsIn K mainGlobals "any" = some none)
    (z_enumerate : PySem.W.nsIn K mainGlobals "enumerate" = some none)
    (z_int : PySem.W.nsIn K mainGlobals "int" = some none)
    (z_len : PySem.W.nsIn K mainGlobals "len" = some none)
    (z_list : PySem.W.nsIn K mainGlobals "list" = some none)
    (z_min : PySem.W.nsIn K mainGlobals "min" = some none)
    (z_range : PySem.W.nsIn K mainGlobals "range" = some none)
    (z_str : PySem.W.nsIn K mainGlobals "str" = some none)
    (z_tuple : PySem.W.nsIn K mainGlobals "tuple" = some none)
    (a_is_number : PySem.W.nsIn K mainGlobals "is_number" = some (some (.ref f_is_number)))
    (l_is_number : K.lookup f_is_number = some ⟨oc_is_number, od_is_number, .func (PySem.W.fnOf "is_number" "is_number" (defArgs s_is_number) (defBody s_is_number) (defScope s_is_number) .none kV_is_number dc_is_number pm_is_number an_is_number cd_is_number ct_is_number), sl_is_number⟩)
    (c_is_number : PySem.W.codeIn K cd_is_number "is_number" = true)
    (k_is_number : PySem.W.keepIn K (.ref f_is_number) = true)
    (a_cycle_texts : PySem.W.nsIn K mainGlobals "cycle_texts" = some (some (.ref f_cycle_texts)))
    (l_cycle_texts : K.lookup f_cycle_texts = some ⟨oc_cycle_texts, od_cycle_texts, .func (PySem.W.fnOf "cycle_texts" "cycle_texts" (defArgs s_cycle_texts) (defBody s_cycle_texts) (defScope s_cycle_texts) .none kV_cycle_texts dc_cycle_texts pm_cycle_texts an_cycle_texts cd_cycle_texts ct_cycle_texts), sl_cycle_texts⟩)
    (c_cycle_texts : PySem.W.codeIn K cd_cycle_texts "cycle_texts" = true)
    (k_cycle_texts : PySem.W.keepIn K (.ref f_cycle_texts) = true)
    (a_parse_perm : PySem.W.nsIn K mainGlobals "parse_perm" = some (some (.ref f_parse_perm)))
    (l_parse_perm : K.lookup f_parse_perm = some ⟨oc_parse_perm, od_parse_perm, .func (PySem.W.fnOf "parse_perm" "parse_perm" (defArgs s_parse_perm) (defBody s_parse_perm) (defScope s_parse_perm) .none kV_parse_perm dc_parse_perm pm_parse_perm an_parse_perm cd_parse_perm ct_parse_perm), sl_parse_perm⟩)
    (c_parse_perm : PySem.W.codeIn K cd_parse_perm "parse_perm" = true)
    (k_parse_perm : PySem.W.keepIn K (.ref f_parse_perm) = true)
    (a_turned : PySem.W.nsIn K mainGlobals "turned" = some (some (.ref f_turned)))
    (l_turned : K.lookup f_turned = some ⟨oc_turned, od_turned, .func (PySem.W.fnOf "turned" "turned" (defArgs s_turned) (defBody s_turned) (defScope s_turned) .none kV_turned dc_turned pm_turned an_turned cd_turned ct_turned), sl_turned⟩)
    (c_turned : PySem.W.codeIn K cd_turned "turned" = true)
    (k_turned : PySem.W.keepIn K (.ref f_turned) = true)
    (a_symmetric : PySem.W.nsIn K mainGlobals "symmetric" = some (some (.ref f_symmetric)))
    (l_symmetric : K.lookup f_symmetric = some ⟨oc_symmetric, od_symmetric, .func (PySem.W.fnOf "symmetric" "symmetric" (defArgs s_symmetric) (defBody s_symmetric) (defScope s_symmetric) .none kV_symmetric dc_symmetric pm_symmetric an_symmetric cd_symmetric ct_symmetric), sl_symmetric⟩)
    (c_symmetric : PySem.W.codeIn K cd_symmetric "symmetric" = true)
    (k_symmetric : PySem.W.keepIn K (.ref f_symmetric) = true)
    (a_alternating : PySem.W.nsIn K mainGlobals "alternating" = some (some (.ref f_alternating)))
    (l_alternating : K.lookup f_alternating = some ⟨oc_alternating, od_alternating, .func (PySem.W.fnOf "alternating" "alternating" (defArgs s_alternating) (defBody s_alternating) (defScope s_alternating) .none kV_alternating dc_alternating pm_alternating an_alternating cd_alternating ct_alternating), sl_alternating⟩)
    (c_alternating : PySem.W.codeIn K cd_alternating "alternating" = true)
    (k_alternating : PySem.W.keepIn K (.ref f_alternating) = true)
    (a_cyclic : PySem.W.nsIn K mainGlobals "cyclic" = some (some (.ref f_cyclic)))
    (l_cyclic : K.lookup f_cyclic = some ⟨oc_cyclic, od_cyclic, .func (PySem.W.fnOf "cyclic" "cyclic" (defArgs s_cyclic) (defBody s_cyclic) (defScope s_cyclic) .none kV_cyclic dc_cyclic pm_cyclic an_cyclic cd_cyclic ct_cyclic), sl_cyclic⟩)
    (c_cyclic : PySem.W.codeIn K cd_cyclic "cyclic" = true)
    (k_cyclic : PySem.W.keepIn K (.ref f_cyclic) = true)
    (a_dihedral : PySem.W.nsIn K mainGlobals "dihedral" = some (some (.ref f_dihedral)))
    (l_dihedral : K.lookup f_dihedral = some ⟨oc_dihedral, od_dihedral, .func (PySem.W.fnOf "dihedral" "dihedral" (defArgs s_dihedral) (defBody s_dihedral) (defScope s_dihedral) .none kV_dihedral dc_dihedral pm_dihedral an_dihedral cd_dihedral ct_dihedral), sl_dihedral⟩)
    (c_dihedral : PySem.W.codeIn K cd_dihedral "dihedral" = true)
    (k_dihedral : PySem.W.keepIn K (.ref f_dihedral) = true)
    (a_root_of_prime : PySem.W.nsIn K mainGlobals "root_of_prime" = some (some (.ref f_root_of_prime)))
    (l_root_of_prime : K.lookup f_root_of_prime = some ⟨oc_root_of_prime, od_root_of_prime, .func (PySem.W.fnOf "root_of_prime" "root_of_prime" (defArgs s_root_of_prime) (defBody s_root_of_prime) (defScope s_root_of_prime) .none kV_root_of_prime dc_root_of_prime pm_root_of_prime an_root_of_prime cd_root_of_prime ct_root_of_prime), sl_root_of_prime⟩)
    (c_root_of_prime : PySem.W.codeIn K cd_root_of_prime "root_of_prime" = true)
    (k_root_of_prime : PySem.W.keepIn K (.ref f_root_of_prime) = true)
    (a_affine : PySem.W.nsIn K mainGlobals "affine" = some (some (.ref f_affine)))
    (l_affine : K.lookup f_affine = some ⟨oc_affine, od_affine, .func (PySem.W.fnOf "affine" "affine" (defArgs s_affine) (defBody s_affine) (defScope s_affine) .none kV_affine dc_affine pm_affine an_affine cd_affine ct_affine), sl_affine⟩)
    (c_affine : PySem.W.codeIn K cd_affine "affine" = true)
    (k_affine : PySem.W.keepIn K (.ref f_affine) = true)
    (a_inverse_below : PySem.W.nsIn K mainGlobals "inverse_below" = some (some (.ref f_inverse_below)))
    (l_inverse_below : K.lookup f_inverse_below = some ⟨oc_inverse_below, od_inverse_below, .func (PySem.W.fnOf "inverse_below" "inverse_below" (defArgs s_inverse_below) (defBody s_inverse_below) (defScope s_inverse_below) .none kV_inverse_below dc_inverse_below pm_inverse_below an_inverse_below cd_inverse_below ct_inverse_below), sl_inverse_below⟩)
    (c_inverse_below : PySem.W.codeIn K cd_inverse_below "inverse_below" = true)
    (k_inverse_below : PySem.W.keepIn K (.ref f_inverse_below) = true)
    (a_projective : PySem.W.nsIn K mainGlobals "projective" = some (some (.ref f_projective)))
    (l_projective : K.lookup f_projective = some ⟨oc_projective, od_projective, .func (PySem.W.fnOf "projective" "projective" (defArgs s_projective) (defBody s_projective) (defScope s_projective) .none kV_projective dc_projective pm_projective an_projective cd_projective ct_projective), sl_projective⟩)
    (c_projective : PySem.W.codeIn K cd_projective "projective" = true)
    (k_projective : PySem.W.keepIn K (.ref f_projective) = true)
    (a_linear : PySem.W.nsIn K mainGlobals "linear" = some (some (.ref f_linear)))
    (l_linear : K.lookup f_linear = some ⟨oc_linear, od_linear, .func (PySem.W.fnOf "linear" "linear" (defArgs s_linear) (defBody s_linear) (defScope s_linear) .none kV_linear dc_linear pm_linear an_linear cd_linear ct_linear), sl_linear⟩)
    (c_linear : PySem.W.codeIn K cd_linear "linear" = true)
    (k_linear : PySem.W.keepIn K (.ref f_linear) = true)
    (a_quaternion : PySem.W.nsIn K mainGlobals "quaternion" = some (some (.ref f_quaternion)))
    (l_quaternion : K.lookup f_quaternion = some ⟨oc_quaternion, od_quaternion, .func (PySem.W.fnOf "quaternion" "quaternion" (defArgs s_quaternion) (defBody s_quaternion) (defScope s_quaternion) .none kV_quaternion dc_quaternion pm_quaternion an_quaternion cd_quaternion ct_quaternion), sl_quaternion⟩)
    (c_quaternion : PySem.W.codeIn K cd_quaternion "quaternion" = true)
    (k_quaternion : PySem.W.keepIn K (.ref f_quaternion) = true)
    (a_named : PySem.W.nsIn K mainGlobals "named" = some (some (.ref f_named)))
    (l_named : K.lookup f_named = some ⟨oc_named, od_named, .func (PySem.W.fnOf "named" "named" (defArgs s_named) (defBody s_named) (defScope s_named) .none kV_named dc_named pm_named an_named cd_named ct_named), sl_named⟩)
    (c_named : PySem.W.codeIn K cd_named "named" = true)
    (k_named : PySem.W.keepIn K (.ref f_named) = true)
    (a__law_cycle : PySem.W.nsIn K mainGlobals "_law_cycle" = some (some (.ref f__law_cycle)))
    (l__law_cycle : K.lookup f__law_cycle = some ⟨oc__law_cycle, od__law_cycle, .func (PySem.W.fnOf "_law_cycle" "_law_cycle" (defArgs s__law_cycle) (defBody s__law_cycle) (defScope s__law_cycle) .none kV__law_cycle dc__law_cycle pm__law_cycle an__law_cycle cd__law_cycle ct__law_cycle), sl__law_cycle⟩)
    (c__law_cycle : PySem.W.codeIn K cd__law_cycle "_law_cycle" = true)
    (k__law_cycle : PySem.W.keepIn K (.ref f__law_cycle) = true)
    (a__law_take : PySem.W.nsIn K mainGlobals "_law_take" = some (some (.ref f__law_take)))
    (l__law_take : K.lookup f__law_take = some ⟨oc__law_take, od__law_take, .func (PySem.W.fnOf "_law_take" "_law_take" (defArgs s__law_take) (defBody s__law_take) (defScope s__law_take) .none kV__law_take dc__law_take pm__law_take an__law_take cd__law_take ct__law_take), sl__law_take⟩)
    (c__law_take : PySem.W.codeIn K cd__law_take "_law_take" = true)
    (k__law_take : PySem.W.keepIn K (.ref f__law_take) = true)
    (a__law_pick : PySem.W.nsIn K mainGlobals "_law_pick" = some (some (.ref f__law_pick)))
    (l__law_pick : K.lookup f__law_pick = some ⟨oc__law_pick, od__law_pick, .func (PySem.W.fnOf "_law_pick" "_law_pick" (defArgs s__law_pick) (defBody s__law_pick) (defScope s__law_pick) .none kV__law_pick dc__law_pick pm__law_pick an__law_pick cd__law_pick ct__law_pick), sl__law_pick⟩)
    (c__law_pick : PySem.W.codeIn K cd__law_pick "_law_pick" = true)
    (k__law_pick : PySem.W.keepIn K (.ref f__law_pick) = true)
    (a__law_times : PySem.W.nsIn K mainGlobals "_law_times" = some (some (.ref f__law_times)))
    (l__law_times : K.lookup f__law_times = some ⟨oc__law_times, od__law_times, .func (PySem.W.fnOf "_law_times" "_law_times" (defArgs s__law_times) (defBody s__law_times) (defScope s__law_times) .none kV__law_times dc__law_times pm__law_times an__law_times cd__law_times ct__law_times), sl__law_times⟩)
    (c__law_times : PySem.W.codeIn K cd__law_times "_law_times" = true)
    (k__law_times : PySem.W.keepIn K (.ref f__law_times) = true)
    (a__law_begin : PySem.W.nsIn K mainGlobals "_law_begin" = some (some (.ref f__law_begin)))
    (l__law_begin : K.lookup f__law_begin = some ⟨oc__law_begin, od__law_begin, .func (PySem.W.fnOf "_law_begin" "_law_begin" (defArgs s__law_begin) (defBody s__law_begin) (defScope s__law_begin) .none kV__law_begin dc__law_begin pm__law_begin an__law_begin cd__law_begin ct__law_begin), sl__law_begin⟩)
    (c__law_begin : PySem.W.codeIn K cd__law_begin "_law_begin" = true)
    (k__law_begin : PySem.W.keepIn K (.ref f__law_begin) = true)
    (a__law_size : PySem.W.nsIn K mainGlobals "_law_size" = some (some (.ref f__law_size)))
    (l__law_size : K.lookup f__law_size = some ⟨oc__law_size, od__law_size, .func (PySem.W.fnOf "_law_size" "_law_size" (defArgs s__law_size) (defBody s__law_size) (defScope s__law_size) .none kV__law_size dc__law_size pm__law_size an__law_size cd__law_size ct__law_size), sl__law_size⟩)
    (c__law_size : PySem.W.codeIn K cd__law_size "_law_size" = true)
    (k__law_size : PySem.W.keepIn K (.ref f__law_size) = true)
    (a__law_inverse : PySem.W.nsIn K mainGlobals "_law_inverse" = some (some (.ref f__law_inverse)))
    (l__law_inverse : K.lookup f__law_inverse = some ⟨oc__law_inverse, od__law_inverse, .func (PySem.W.fnOf "_law_inverse" "_law_inverse" (defArgs s__law_inverse) (defBody s__law_inverse) (defScope s__law_inverse) .none kV__law_inverse dc__law_inverse pm__law_inverse an__law_inverse cd__law_inverse ct__law_inverse), sl__law_inverse⟩)
    (c__law_inverse : PySem.W.codeIn K cd__law_inverse "_law_inverse" = true)
    (k__law_inverse : PySem.W.keepIn K (.ref f__law_inverse) = true)
    (a__law_sift : PySem.W.nsIn K mainGlobals "_law_sift" = some (some (.ref f__law_sift)))
    (l__law_sift : K.lookup f__law_sift = some ⟨oc__law_sift, od__law_sift, .func (PySem.W.fnOf "_law_sift" "_law_sift" (defArgs s__law_sift) (defBody s__law_sift) (defScope s__law_sift) .none kV__law_sift dc__law_sift pm__law_sift an__law_sift cd__law_sift ct__law_sift), sl__law_sift⟩)
    (c__law_sift : PySem.W.codeIn K cd__law_sift "_law_sift" = true)
    (k__law_sift : PySem.W.keepIn K (.ref f__law_sift) = true)
    (a__law_extend : PySem.W.nsIn K mainGlobals "_law_extend" = some (some (.ref f__law_extend)))
    (l__law_extend : K.lookup f__law_extend = some ⟨oc__law_extend, od__law_extend, .func (PySem.W.fnOf "_law_extend" "_law_extend" (defArgs s__law_extend) (defBody s__law_extend) (defScope s__law_extend) .none kV__law_extend dc__law_extend pm__law_extend an__law_extend cd__law_extend ct__law_extend), sl__law_extend⟩)
    (c__law_extend : PySem.W.codeIn K cd__law_extend "_law_extend" = true)
    (k__law_extend : PySem.W.keepIn K (.ref f__law_extend) = true)
    (a__law_grow : PySem.W.nsIn K mainGlobals "_law_grow" = some (some (.ref f__law_grow)))
    (l__law_grow : K.lookup f__law_grow = some ⟨oc__law_grow, od__law_grow, .func (PySem.W.fnOf "_law_grow" "_law_grow" (defArgs s__law_grow) (defBody s__law_grow) (defScope s__law_grow) .none kV__law_grow dc__law_grow pm__law_grow an__law_grow cd__law_grow ct__law_grow), sl__law_grow⟩)
    (c__law_grow : PySem.W.codeIn K cd__law_grow "_law_grow" = true)
    (k__law_grow : PySem.W.keepIn K (.ref f__law_grow) = true)
    (a__law_asked : PySem.W.nsIn K mainGlobals "_law_asked" = some (some (.ref f__law_asked)))
    (l__law_asked : K.lookup f__law_asked = some ⟨oc__law_asked, od__law_asked, .func (PySem.W.fnOf "_law_asked" "_law_asked" (defArgs s__law_asked) (defBody s__law_asked) (defScope s__law_asked) .none kV__law_asked dc__law_asked pm__law_asked an__law_asked cd__law_asked ct__law_asked), sl__law_asked⟩)
    (c__law_asked : PySem.W.codeIn K cd__law_asked "_law_asked" = true)
    (k__law_asked : PySem.W.keepIn K (.ref f__law_asked) = true)
    (a__law_turn : PySem.W.nsIn K mainGlobals "_law_turn" = some (some (.ref f__law_turn)))
    (l__law_turn : K.lookup f__law_turn = some ⟨oc__law_turn, od__law_turn, .func (PySem.W.fnOf "_law_turn" "_law_turn" (defArgs s__law_turn) (defBody s__law_turn) (defScope s__law_turn) .none kV__law_turn dc__law_turn pm__law_turn an__law_turn cd__law_turn ct__law_turn), sl__law_turn⟩)
    (c__law_turn : PySem.W.codeIn K cd__law_turn "_law_turn" = true)
    (k__law_turn : PySem.W.keepIn K (.ref f__law_turn) = true)
    (a__law_root : PySem.W.nsIn K mainGlobals "_law_root" = some (some (.ref f__law_root)))
    (l__law_root : K.lookup f__law_root = some ⟨oc__law_root, od__law_root, .func (PySem.W.fnOf "_law_root" "_law_root" (defArgs s__law_root) (defBody s__law_root) (defScope s__law_root) .none kV__law_root dc__law_root pm__law_root an__law_root cd__law_root ct__law_root), sl__law_root⟩)
    (c__law_root : PySem.W.codeIn K cd__law_root "_law_root" = true)
    (k__law_root : PySem.W.keepIn K (.ref f__law_root) = true)
    (a__law_prime_group : PySem.W.nsIn K mainGlobals "_law_prime_group" = some (some (.ref f__law_prime_group)))
    (l__law_prime_group : K.lookup f__law_prime_group = some ⟨oc__law_prime_group, od__law_prime_group, .func (PySem.W.fnOf "_law_prime_group" "_law_prime_group" (defArgs s__law_prime_group) (defBody s__law_prime_group) (defScope s__law_prime_group) .none kV__law_prime_group dc__law_prime_group pm__law_prime_group an__law_prime_group cd__law_prime_group ct__law_prime_group), sl__law_prime_group⟩)
    (c__law_prime_group : PySem.W.codeIn K cd__law_prime_group "_law_prime_group" = true)
    (k__law_prime_group : PySem.W.keepIn K (.ref f__law_prime_group) = true)
    (a__law_bits : PySem.W.nsIn K mainGlobals "_law_bits" = some (some (.ref f__law_bits)))
    (l__law_bits : K.lookup f__law_bits = some ⟨oc__law_bits, od__law_bits, .func (PySem.W.fnOf "_law_bits" "_law_bits" (defArgs s__law_bits) (defBody s__law_bits) (defScope s__law_bits) .none kV__law_bits dc__law_bits pm__law_bits an__law_bits cd__law_bits ct__law_bits), sl__law_bits⟩)
    (c__law_bits : PySem.W.codeIn K cd__law_bits "_law_bits" = true)
    (k__law_bits : PySem.W.keepIn K (.ref f__law_bits) = true)
    (a__law_due : PySem.W.nsIn K mainGlobals "_law_due" = some (some (.ref f__law_due)))
    (l__law_due : K.lookup f__law_due = some ⟨oc__law_due, od__law_due, .func (PySem.W.fnOf "_law_due" "_law_due" (defArgs s__law_due) (defBody s__law_due) (defScope s__law_due) .none kV__law_due dc__law_due pm__law_due an__law_due cd__law_due ct__law_due), sl__law_due⟩)
    (c__law_due : PySem.W.codeIn K cd__law_due "_law_due" = true)
    (k__law_due : PySem.W.keepIn K (.ref f__law_due) = true)
    (a_law : PySem.W.nsIn K mainGlobals "law" = some (some (.ref f_law)))
    (l_law : K.lookup f_law = some ⟨oc_law, od_law, .func (PySem.W.fnOf "law" "law" (defArgs s_law) (defBody s_law) (defScope s_law) .none kV_law dc_law pm_law an_law cd_law ct_law), sl_law⟩)
    (c_law : PySem.W.codeIn K cd_law "law" = true)
    (k_law : PySem.W.keepIn K (.ref f_law) = true)
    (a_S : PySem.W.nsIn K mainGlobals "SymError" = some (some (.ref SS)))
    (i_S : PySem.W.findIn K (.ref SS) "__init__" = some (some (.ref fS)))
    (l_S : K.lookup fS = some ⟨oc_S, od_S, .func (ksFn "__init__" "SymError.__init__" (symA ⟨4, 17, 4, 21⟩ ⟨4, 23, 4, 27⟩) (symB ⟨5, 8, 5, 13⟩ ⟨5, 8, 5, 15⟩ ⟨5, 8, 5, 24⟩ ⟨5, 25, 5, 29⟩ ⟨5, 8, 5, 30⟩ ⟨5, 8, 5, 30⟩ ⟨6, 8, 6, 12⟩ ⟨6, 8, 6, 17⟩ ⟨6, 20, 6, 24⟩ ⟨6, 8, 6, 24⟩) symS .none .none dc_S pm_S an_S (.ref cda_S) ct_S cc_S), sl_S⟩)
    (c_S : PySem.W.codeIn K (.ref cda_S) "SymError.__init__" = true)
    (d_S : K.lookup cda_S = some ⟨ccl_S, cdd_S, .fields vs_S, ccs_S⟩)
    (e_S : vs_S[2]? = some (.str file_S tf_S))
    (f_S : ((Pq.main.file : Str) == file_S) = true)
    (g_S : K.lookup cc_S = some ⟨cl_S, cld_S, .cell (some (.ref SS)), csl_S⟩)
    (h_S : PySem.W.clsIn K SS = some cdD_S)
    (z_super : PySem.W.nsIn K mainGlobals "super" = some none)
    (z_tpa : PySem.W.nsIn K cStatics "thirdparty.any" = some none)
    (t_top : (Pq.main.scope.names.lookup ("super" : Str)).isSome = false)
    (a_BuildError : PySem.W.nsIn K mainGlobals "BuildError" = some (some (.ref C_BuildError)))
    (x_BuildError : K.lookup C_BuildError = some (excClassObj nm_BuildError q_BuildError C_BuildError N_BuildError bs_BuildError bm_BuildError true sn_BuildError sub_BuildError ab_BuildError col_BuildError dd_BuildError m0_BuildError m1_BuildError m2_BuildError m3_BuildError m5_BuildError "ValueError.__new__"))
    (v_BuildError : PySem.HandSPX.refsVE bm_BuildError = true)
    (sa_BuildError : PySem.W.findIn K (.ref C_BuildError) "__setattr__" = some (some (.builtin "object.__setattr__")))
    (no_BuildError : PySem.W.findIn K (.ref C_BuildError) "code" = some none)
    (mr_BuildError : PySem.W.mroIn K C_BuildError (.ref SS) = some true)
    (su_BuildError : PySem.W.ks_superIn K C_BuildError SS "__init__" = some (some (.builtin "ValueError.__init__")))
    (be_BuildError : PySem.W.subIn K (.ref C_BuildError) (.type "ValueError") = some true)
    (in_BuildError : PySem.W.excInitIn K C_BuildError [.type "ValueError", .type "Exception", .type "BaseException", .type "object"] "ValueError.__new__" = true)
    (ii_BuildError : PySem.W.findIn K (.ref C_BuildError) "__init__" = some (some (.ref fS)))
    (ti_BuildError : PySem.W.typeIn K (.ref fS) = some (.type "function"))
    (ke_BuildError : PySem.W.keepIn K (.ref C_BuildError) = true)
    (eb_BuildError : PySem.W.subIn K (.ref C_BuildError) (.type "BaseException") = some true)
    (ty_BuildError : PySem.W.typeIn K (.ref C_BuildError) = some (.type "type"))
    (a_PermError : PySem.W.nsIn K mainGlobals "PermError" = some (some (.ref C_PermError)))
    (x_PermError : K.lookup C_PermError = some (excClassObj nm_PermError q_PermError C_PermError N_PermError bs_PermError bm_PermError true sn_PermError sub_PermError ab_PermError col_PermError dd_PermError m0_PermError m1_PermError m2_PermError m3_PermError m5_PermError "ValueError.__new__"))
    (v_PermError : PySem.HandSPX.refsVE bm_PermError = true)
    (sa_PermError : PySem.W.findIn K (.ref C_PermError) "__setattr__" = some (some (.builtin "object.__setattr__")))
    (no_PermError : PySem.W.findIn K (.ref C_PermError) "code" = some none)
    (mr_PermError : PySem.W.mroIn K C_PermError (.ref SS) = some true)
    (su_PermError : PySem.W.ks_superIn K C_PermError SS "__init__" = some (some (.builtin "ValueError.__init__")))
    (be_PermError : PySem.W.subIn K (.ref C_PermError) (.type "ValueError") = some true)
    (in_PermError : PySem.W.excInitIn K C_PermError [.type "ValueError", .type "Exception", .type "BaseException", .type "object"] "ValueError.__new__" = true)
    (ii_PermError : PySem.W.findIn K (.ref C_PermError) "__init__" = some (some (.ref fS)))
    (ti_PermError : PySem.W.typeIn K (.ref fS) = some (.type "function"))
    (ke_PermError : PySem.W.keepIn K (.ref C_PermError) = true)
    (eb_PermError : PySem.W.subIn K (.ref C_PermError) (.type "BaseException") = some true)
    (ty_PermError : PySem.W.typeIn K (.ref C_PermError) = some (.type "type"))
    (a_MATHIEU : PySem.W.nsIn K mainGlobals "MATHIEU" = some (some (.ref d_MATHIEU)))
    (l_MATHIEU : K.lookup d_MATHIEU = some ⟨.type "dict", none, .dict es_MATHIEU nn_MATHIEU, #[]⟩)
    (kl_MATHIEU : PySem.W.KeysLit w.params es_MATHIEU.toList)
    (lo_MATHIEU : (d_MATHIEU == sysModules) = false)
    (kt_MATHIEU : ktab es_MATHIEU.toList = some tt_MATHIEU)
    (te_MATHIEU : tt_MATHIEU = [(("m11" : Str), Value.ref ad5), (("m12" : Str), Value.ref ad11)])
    (tl5 : K.lookup ad5 = some ⟨.type "tuple", od5, .seq it5 sz5, sl5⟩)
    (ti5 : it5.toList = [Value.int 11 tk1, Value.ref ad4])
    (tl4 : K.lookup ad4 = some ⟨.type "tuple", od4, .seq it4 sz4, sl4⟩)
    (ti4 : it4.toList = [Value.str "(0 1 2 3 4 5 6 7 8 9 10)" tk2, Value.str "(2 6 10 7)(3 9 4 5)" tk3])
    (tl11 : K.lookup ad11 = some ⟨.type "tuple", od11, .seq it11 sz11, sl11⟩)
    (ti11 : it11.toList = [Value.int 12 tk6, Value.ref ad10])
    (tl10 : K.lookup ad10 = some ⟨.type "tuple", od10, .seq it10 sz10, sl10⟩)
    (ti10 : it10.toList = [Value.str "(0 1 2 3 4 5 6 7 8 9 10)" tk7, Value.str "(2 6 10 7)(3 9 4 5)" tk8, Value.str "(0 11)(1 10)(2 5)(3 7)(4 8)(6 9)" tk9])
    (a_MAKERS : PySem.W.nsIn K mainGlobals "MAKERS" = some (some (.ref d_MAKERS)))
    (l_MAKERS : K.lookup d_MAKERS = some ⟨.type "dict", none, .dict es_MAKERS nn_MAKERS, #[]⟩)
    (kl_MAKERS : PySem.W.KeysLit w.params es_MAKERS.toList)
    (lo_MAKERS : (d_MAKERS == sysModules) = false)
    (kt_MAKERS : ktab es_MAKERS.toList = some tt_MAKERS)
    (te_MAKERS : tt_MAKERS = [(("s" : Str), Value.ref f_symmetric), (("a" : Str), Value.ref f_alternating), (("c" : Str), Value.ref f_cyclic), (("d" : Str), Value.ref f_dihedral), (("f" : Str), Value.ref f_affine), (("l" : Str), Value.ref f_projective), (("b" : Str), Value.ref f_linear)])
    (a_NUMBERS : PySem.W.nsIn K mainGlobals "NUMBERS" = some (some (.ref d_NUMBERS)))
    (l_NUMBERS : K.lookup d_NUMBERS = some ⟨.type "dict", none, .dict es_NUMBERS nn_NUMBERS, #[]⟩)
    (kl_NUMBERS : PySem.W.KeysLit w.params es_NUMBERS.toList)
    (lo_NUMBERS : (d_NUMBERS == sysModules) = false)
    (kt_NUMBERS : ktab es_NUMBERS.toList = some tt_NUMBERS)
    (te_NUMBERS : tt_NUMBERS = [(("s" : Str), Value.ref ad28), (("a" : Str), Value.ref ad45), (("c" : Str), Value.ref ad62), (("d" : Str), Value.ref ad79), (("f" : Str), Value.ref ad86), (("l" : Str), Value.ref ad93), (("b" : Str), Value.ref ad98)])
    (tl28 : K.lookup ad28 = some ⟨.type "tuple", od28, .seq it28 sz28, sl28⟩)
    (ti28 : it28.toList = [Value.int 1 tk12, Value.int 2 tk13, Value.int 3 tk14, Value.int 4 tk15, Value.int 5 tk16, Value.int 6 tk17, Value.int 7 tk18, Value.int 8 tk19, Value.int 9 tk20, Value.int 10 tk21, Value.int 11 tk22, Value.int 12 tk23, Value.int 13 tk24, Value.int 14 tk25, Value.int 15 tk26, Value.int 16 tk27])
    (tl45 : K.lookup ad45 = some ⟨.type "tuple", od45, .seq it45 sz45, sl45⟩)
    (ti45 : it45.toList = [Value.int 1 tk29, Value.int 2 tk30, Value.int 3 tk31, Value.int 4 tk32, Value.int 5 tk33, Value.int 6 tk34, Value.int 7 tk35, Value.int 8 tk36, Value.int 9 tk37, Value.int 10 tk38, Value.int 11 tk39, Value.int 12 tk40, Value.int 13 tk41, Value.int 14 tk42, Value.int 15 tk43, Value.int 16 tk44])
    (tl62 : K.lookup ad62 = some ⟨.type "tuple", od62, .seq it62 sz62, sl62⟩)
    (ti62 : it62.toList = [Value.int 1 tk46, Value.int 2 tk47, Value.int 3 tk48, Value.int 4 tk49, Value.int 5 tk50, Value.int 6 tk51, Value.int 7 tk52, Value.int 8 tk53, Value.int 9 tk54, Value.int 10 tk55, Value.int 11 tk56, Value.int 12 tk57, Value.int 13 tk58, Value.int 14 tk59, Value.int 15 tk60, Value.int 16 tk61])
    (tl79 : K.lookup ad79 = some ⟨.type "tuple", od79, .seq it79 sz79, sl79⟩)
    (ti79 : it79.toList = [Value.int 1 tk63, Value.int 2 tk64, Value.int 3 tk65, Value.int 4 tk66, Value.int 5 tk67, Value.int 6 tk68, Value.int 7 tk69, Value.int 8 tk70, Value.int 9 tk71, Value.int 10 tk72, Value.int 11 tk73, Value.int 12 tk74, Value.int 13 tk75, Value.int 14 tk76, Value.int 15 tk77, Value.int 16 tk78])
    (tl86 : K.lookup ad86 = some ⟨.type "tuple", od86, .seq it86 sz86, sl86⟩)
    (ti86 : it86.toList = [Value.int 2 tk80, Value.int 3 tk81, Value.int 5 tk82, Value.int 7 tk83, Value.int 11 tk84, Value.int 13 tk85])
    (tl93 : K.lookup ad93 = some ⟨.type "tuple", od93, .seq it93 sz93, sl93⟩)
    (ti93 : it93.toList = [Value.int 2 tk87, Value.int 3 tk88, Value.int 5 tk89, Value.int 7 tk90, Value.int 11 tk91, Value.int 13 tk92])
    (tl98 : K.lookup ad98 = some ⟨.type "tuple", od98, .seq it98 sz98, sl98⟩)
    (ti98 : it98.toList = [Value.int 1 tk94, Value.int 2 tk95, Value.int 3 tk96, Value.int 4 tk97])
    (a_TEXT_LENGTH : PySem.W.nsIn K mainGlobals "TEXT_LENGTH" = some (some (Value.int 200 tk99)))
    (ex_BuildError_BuildError : PySem.W.exmOne K (.ref C_BuildError) (.ref C_BuildError) = some true)
    (ex_PermError_BuildError : PySem.W.exmOne K (.ref C_PermError) (.ref C_BuildError) = some false)
    (ga_BuildError : PySem.W.findIn K (.ref C_BuildError) "__getattribute__" = some (some (.builtin "BaseException.__getattribute__")))
    (gg_BuildError : PySem.W.findIn K (.ref C_BuildError) "__getattr__" = some none)
    (hd_BuildError : PySem.W.hasDictIn K C_BuildError = true)
    (nf_code_BuildError : PySem.W.findIn K (.ref C_BuildError) "code" = some none)
    : ∃ fd : FuncData, (∀ (s : Shared) (v : Value), BindsTo s fd ⟨[v], []⟩ [("script", v)]) ∧ ∀ base : Heap, K.In base → base.Ns mainGlobals mg → FnOk Pq w K mg base (L2.CX Pq w) 8 fa fd ["script"] (spLaw K) := by
  have e := hfa.symm.trans (PySem.W.mg_of X G a_law)
  cases e
  have F_is_number := fun_mk (st := s_is_number) l_is_number c_is_number k_is_number
  have b_is_number := F_is_number.binds (ps := ["word"]) fun _ _ _ _ _ _ us hl => match us, hl with | [_], _ => rfl
  have F_cycle_texts := fun_mk (st := s_cycle_texts) l_cycle_texts c_cycle_texts k_cycle_texts
  have b_cycle_texts := F_cycle_texts.binds (ps := ["text"]) fun _ _ _ _ _ _ us hl => match us, hl with | [_], _ => rfl
  have F_parse_perm := fun_mk (st := s_parse_perm) l_parse_perm c_parse_perm k_parse_perm
  have b_parse_perm := F_parse_perm.binds (ps := ["many", "text"]) fun _ _ _ _ _ _ us hl => match us, hl with | [_, _], _ => rfl
  have F_turned := fun_mk (st := s_turned) l_turned c_turned k_turned
  have b_turned := F_turned.binds (ps := ["many", "points"]) fun _ _ _ _ _ _ us hl => match us, hl with | [_, _], _ => rfl
  have F_symmetric := fun_mk (st := s_symmetric) l_symmetric c_symmetric k_symmetric
  have b_symmetric := F_symmetric.binds (ps := ["many"]) fun _ _ _ _ _ _ us hl => match us, hl with | [_], _ => rfl
  have F_alternating := fun_mk (st := s_alternating) l_alternating c_alternating k_alternating
  have b_alternating := F_alternating.binds (ps := ["many"]) fun _ _ _ _ _ _ us hl => match us, hl with | [_], _ => rfl
  have F_cyclic := fun_mk (st := s_cyclic) l_cyclic c_cyclic k_cyclic
  have b_cyclic := F_cyclic.binds (ps := ["many"]) fun _ _ _ _ _ _ us hl => match us, hl with | [_], _ => rfl
  have F_dihedral := fun_mk (st := s_dihedral) l_dihedral c_dihedral k_dihedral
  have b_dihedral := F_dihedral.binds (ps := ["many"]) fun _ _ _ _ _ _ us hl => match us, hl with | [_], _ => rfl
  have F_root_of_prime := fun_mk (st := s_root_of_prime) l_root_of_prime c_root_of_prime k_root_of_prime
  have b_root_of_prime := F_root_of_prime.binds (ps := ["prime"]) fun _ _ _ _ _ _ us hl => match us, hl with | [_], _ => rfl
  have F_affine := fun_mk (st := s_affine) l_affine c_affine k_affine
  have b_affine := F_affine.binds (ps := ["prime"]) fun _ _ _ _ _ _ us hl => match us, hl with | [_], _ => rfl
  have F_inverse_below := fun_mk (st := s_inverse_below) l_inverse_below c_inverse_below k_inverse_below
  have b_inverse_below := F_inverse_below.binds (ps := ["number", "prime"]) fun _ _ _ _ _ _ us hl => match us, hl with | [_, _], _ => rfl
  have F_projective := fun_mk (st := s_projective) l_projective c_projective k_projective
  have b_projective := F_projective.binds (ps := ["prime"]) fun _ _ _ _ _ _ us hl => match us, hl with | [_], _ => rfl
  have F_linear := fun_mk (st := s_linear) l_linear c_linear k_linear
  have b_linear := F_linear.binds (ps := ["many"]) fun _ _ _ _ _ _ us hl => match us, hl with | [_], _ => rfl
  have F_quaternion := fun_mk (st := s_quaternion) l_quaternion c_quaternion k_quaternion
  have b_quaternion := F_quaternion.binds (ps := []) fun _ _ _ _ _ _ us hl => match us, hl with | [], _ => rfl
  have F_named := fun_mk (st := s_named) l_named c_named k_named
  have b_named := F_named.binds (ps := ["name"]) fun _ _ _ _ _ _ us hl => match us, hl with | [_], _ => rfl
  have F__law_cycle := fun_mk (st := s__law_cycle) l__law_cycle c__law_cycle k__law_cycle
  have b__law_cycle := F__law_cycle.binds (ps := ["n", "row"]) fun _ _ _ _ _ _ us hl => match us, hl with | [_, _], _ => rfl
  have F__law_take := fun_mk (st := s__law_take) l__law_take c__law_take k__law_take
  have b__law_take := F__law_take.binds (ps := ["d", "many"]) fun _ _ _ _ _ _ us hl => match us, hl with | [_, _], _ => rfl
  have F__law_pick := fun_mk (st := s__law_pick) l__law_pick c__law_pick k__law_pick
  have b__law_pick := F__law_pick.binds (ps := ["d", "menu"]) fun _ _ _ _ _ _ us hl => match us, hl with | [_, _], _ => rfl
  have F__law_times := fun_mk (st := s__law_times) l__law_times c__law_times k__law_times
  have b__law_times := F__law_times.binds (ps := ["p", "q"]) fun _ _ _ _ _ _ us hl => match us, hl with | [_, _], _ => rfl
  have F__law_begin := fun_mk (st := s__law_begin) l__law_begin c__law_begin k__law_begin
  have b__law_begin := F__law_begin.binds (ps := ["script"]) fun _ _ _ _ _ _ us hl => match us, hl with | [_], _ => rfl
  have F__law_size := fun_mk (st := s__law_size) l__law_size c__law_size k__law_size
  have b__law_size := F__law_size.binds (ps := ["levels"]) fun _ _ _ _ _ _ us hl => match us, hl with | [_], _ => rfl
  have F__law_inverse := fun_mk (st := s__law_inverse) l__law_inverse c__law_inverse k__law_inverse
  have b__law_inverse := F__law_inverse.binds (ps := ["p"]) fun _ _ _ _ _ _ us hl => match us, hl with | [_], _ => rfl
  have F__law_sift := fun_mk (st := s__law_sift) l__law_sift c__law_sift k__law_sift
  have b__law_sift := F__law_sift.binds (ps := ["levels", "p"]) fun _ _ _ _ _ _ us hl => match us, hl with | [_, _], _ => rfl
  have F__law_extend := fun_mk (st := s__law_extend) l__law_extend c__law_extend k__law_extend
  have b__law_extend := F__law_extend.binds (ps := ["levels", "strong", "j", "r", "work"]) fun _ _ _ _ _ _ us hl => match us, hl with | [_, _, _, _, _], _ => rfl
  have F__law_grow := fun_mk (st := s__law_grow) l__law_grow c__law_grow k__law_grow
  have b__law_grow := F__law_grow.binds (ps := ["n", "gens"]) fun _ _ _ _ _ _ us hl => match us, hl with | [_, _], _ => rfl
  have F__law_asked := fun_mk (st := s__law_asked) l__law_asked c__law_asked k__law_asked
  have b__law_asked := F__law_asked.binds (ps := ["name"]) fun _ _ _ _ _ _ us hl => match us, hl with | [_], _ => rfl
  have F__law_turn := fun_mk (st := s__law_turn) l__law_turn c__law_turn k__law_turn
  have b__law_turn := F__law_turn.binds (ps := ["n"]) fun _ _ _ _ _ _ us hl => match us, hl with | [_], _ => rfl
  have F__law_root := fun_mk (st := s__law_root) l__law_root c__law_root k__law_root
  have b__law_root := F__law_root.binds (ps := ["p"]) fun _ _ _ _ _ _ us hl => match us, hl with | [_], _ => rfl
  have F__law_prime_group := fun_mk (st := s__law_prime_group) l__law_prime_group c__law_prime_group k__law_prime_group
  have b__law_prime_group := F__law_prime_group.binds (ps := ["kind", "p"]) fun _ _ _ _ _ _ us hl => match us, hl with | [_, _], _ => rfl
  have F__law_bits := fun_mk (st := s__law_bits) l__law_bits c__law_bits k__law_bits
  have b__law_bits := F__law_bits.binds (ps := ["k"]) fun _ _ _ _ _ _ us hl => match us, hl with | [_], _ => rfl
  have F__law_due := fun_mk (st := s__law_due) l__law_due c__law_due k__law_due
  have b__law_due := F__law_due.binds (ps := ["d"]) fun _ _ _ _ _ _ us hl => match us, hl with | [_], _ => rfl
  have F_law := fun_mk (st := s_law) l_law c_law k_law
  have b_law := F_law.binds (ps := ["script"]) fun _ _ _ _ _ _ us hl => match us, hl with | [_], _ => rfl
  have SF : SymFn Pq K SS fS := ⟨⟨oc_S, od_S, dc_S, pm_S, an_S, cda_S, ct_S, cc_S, sl_S, ⟨4, 17, 4, 21⟩, ⟨4, 23, 4, 27⟩, ⟨5, 8, 5, 13⟩, ⟨5, 8, 5, 15⟩, ⟨5, 8, 5, 24⟩, ⟨5, 25, 5, 29⟩, ⟨5, 8, 5, 30⟩, ⟨5, 8, 5, 30⟩, ⟨6, 8, 6, 12⟩, ⟨6, 8, 6, 17⟩, ⟨6, 20, 6, 24⟩, ⟨6, 8, 6, 24⟩, ccl_S, cdd_S, vs_S, ccs_S, file_S, tf_S, cl_S, cld_S, csl_S, rfl, l_S, c_S, d_S, e_S, f_S, g_S⟩, ⟨cdD_S, h_S⟩, z_super, z_tpa, t_top⟩
  have XC_BuildError : XCls K SS C_BuildError := ⟨⟨_, _, _, _, _, _, _, _, _, _, _, _, _, _, _, x_BuildError, v_BuildError⟩, sa_BuildError, no_BuildError, mr_BuildError, su_BuildError, be_BuildError, in_BuildError⟩
  have XT_BuildError : XTxt K mg "BuildError" C_BuildError fS := ⟨PySem.W.mg_of X G a_BuildError, ke_BuildError, eb_BuildError, ty_BuildError, ii_BuildError, ti_BuildError⟩
  have XC_PermError : XCls K SS C_PermError := ⟨⟨_, _, _, _, _, _, _, _, _, _, _, _, _, _, _, x_PermError, v_PermError⟩, sa_PermError, no_PermError, mr_PermError, su_PermError, be_PermError, in_PermError⟩
  have XT_PermError : XTxt K mg "PermError" C_PermError fS := ⟨PySem.W.mg_of X G a_PermError, ke_PermError, eb_PermError, ty_PermError, ii_PermError, ti_PermError⟩
  have TR_BuildError : TryOk K mg "BuildError" tt_BuildError := ⟨.ref C_BuildError, PySem.W.mg_of X G a_BuildError, fun cls b C hl hm => by
      unfold tt_BuildError at hl
      simp only [List.lookup] at hl
      split at hl
      · rename_i e; cases hl; have e2 : cls = "BuildError" := by simpa using e
        subst e2; rw [PySem.W.mg_of X G a_BuildError] at hm; cases hm; exact ex_BuildError_BuildError
      split at hl
      · rename_i e; cases hl; have e2 : cls = "PermError" := by simpa using e
        subst e2; rw [PySem.W.mg_of X G a_PermError] at hm; cases hm; exact ex_PermError_BuildError
      cases hl⟩
  have CS_code : CsK K mg cs_code "code" := fun x C hx hm => by
    have e : x = "BuildError" := by simpa [cs_code] using hx
    subst e; rw [PySem.W.mg_of X G a_BuildError] at hm; cases hm; exact ⟨⟨ga_BuildError, gg_BuildError, eb_BuildError, hd_BuildError⟩, nf_code_BuildError⟩
  refine ⟨PySem.W.fnOf "law" "law" (defArgs s_law) (defBody s_law) (defScope s_law) .none kV_law dc_law pm_law an_law cd_law ct_law, fun s v => .of_eq rfl, fun base _ _ => ?_⟩
  have T : Tx Pq w K mg base := { n_abs := PySem.W.mg_none_of X G z_abs, n_any := PySem.W.mg_none_of X G z_any, n_enumerate := PySem.W.mg_none_of X G z_enumerate, n_int := PySem.W.mg_none_of X G z_int, n_len := PySem.W.mg_none_of X G z_len, n_list := PySem.W.mg_none_of X G z_list, n_min := PySem.W.mg_none_of X G z_min, n_range := PySem.W.mg_none_of X G z_range, n_str := PySem.W.mg_none_of X G z_str, n_tuple := PySem.W.mg_none_of X G z_tuple, kd_MATHIEU := ⟨d_MATHIEU, es_MATHIEU, nn_MATHIEU, tt_MATHIEU, PySem.W.mg_of X G a_MATHIEU, ⟨l_MATHIEU, kl_MATHIEU, lo_MATHIEU⟩, kt_MATHIEU, by rw [te_MATHIEU]; exact ⟨⟨rfl, V.ref ad5, rfl, fun m H => ⟨ad5, [V.int 11, V.ref ad4], rfl, ktp_of tl5 ti5 (Paired.cons ⟨_, rfl⟩ (Paired.cons rfl Paired.nil)) (Nat.le_of_ble_eq_true rfl), ⟨_, _, rfl, rfl, ⟨_, _, rfl, ⟨ad4, [V.str "(0 1 2 3 4 5 6 7 8 9 10)", V.str "(2 6 10 7)(3 9 4 5)"], rfl, ktp_of tl4 ti4 (Paired.cons ⟨_, rfl⟩ (Paired.cons ⟨_, rfl⟩ Paired.nil)) (Nat.le_of_ble_eq_true rfl), ⟨_, _, rfl, rfl, ⟨_, _, rfl, rfl, rfl⟩⟩⟩, rfl⟩⟩⟩⟩, ⟨⟨rfl, V.ref ad11, rfl, fun m H => ⟨ad11, [V.int 12, V.ref ad10], rfl, ktp_of tl11 ti11 (Paired.cons ⟨_, rfl⟩ (Paired.cons rfl Paired.nil)) (Nat.le_of_ble_eq_true rfl), ⟨_, _, rfl, rfl, ⟨_, _, rfl, ⟨ad10, [V.str "(0 1 2 3 4 5 6 7 8 9 10)", V.str "(2 6 10 7)(3 9 4 5)", V.str "(0 11)(1 10)(2 5)(3 7)(4 8)(6 9)"], rfl, ktp_of tl10 ti10 (Paired.cons ⟨_, rfl⟩ (Paired.cons ⟨_, rfl⟩ (Paired.cons ⟨_, rfl⟩ Paired.nil))) (Nat.le_of_ble_eq_true rfl), ⟨_, _, rfl, rfl, ⟨_, _, rfl, rfl, ⟨_, _, rfl, rfl, rfl⟩⟩⟩⟩, rfl⟩⟩⟩⟩, trivial⟩⟩⟩, kd_MAKERS := ⟨d_MAKERS, es_MAKERS, nn_MAKERS, tt_MAKERS, PySem.W.mg_of X G a_MAKERS, ⟨l_MAKERS, kl_MAKERS, lo_MAKERS⟩, kt_MAKERS, by rw [te_MAKERS]; exact ⟨⟨rfl, V.ref f_symmetric, rfl, fun m H => ⟨_, PySem.W.mg_of X G a_symmetric, rfl⟩⟩, ⟨⟨rfl, V.ref f_alternating, rfl, fun m H => ⟨_, PySem.W.mg_of X G a_alternating, rfl⟩⟩, ⟨⟨rfl, V.ref f_cyclic, rfl, fun m H => ⟨_, PySem.W.mg_of X G a_cyclic, rfl⟩⟩, ⟨⟨rfl, V.ref f_dihedral, rfl, fun m H => ⟨_, PySem.W.mg_of X G a_dihedral, rfl⟩⟩, ⟨⟨rfl, V.ref f_affine, rfl, fun m H => ⟨_, PySem.W.mg_of X G a_affine, rfl⟩⟩, ⟨⟨rfl, V.ref f_projective, rfl, fun m H => ⟨_, PySem.W.mg_of X G a_projective, rfl⟩⟩, ⟨⟨rfl, V.ref f_linear, rfl, fun m H => ⟨_, PySem.W.mg_of X G a_linear, rfl⟩⟩, trivial⟩⟩⟩⟩⟩⟩⟩⟩, kd_NUMBERS := ⟨d_NUMBERS, es_NUMBERS, nn_NUMBERS, tt_NUMBERS, PySem.W.mg_of X G a_NUMBERS, ⟨l_NUMBERS, kl_NUMBERS, lo_NUMBERS⟩, kt_NUMBERS, by rw [te_NUMBERS]; exact ⟨⟨rfl, V.ref ad28, rfl, fun m H => ⟨ad28, [V.int 1, V.int 2, V.int 3, V.int 4, V.int 5, V.int 6, V.int 7, V.int 8, V.int 9, V.int 10, V.int 11, V.int 12, V.int 13, V.int 14, V.int 15, V.int 16], rfl, ktp_of tl28 ti28 (Paired.cons ⟨_, rfl⟩ (Paired.cons ⟨_, rfl⟩ (Paired.cons ⟨_, rfl⟩ (Paired.cons ⟨_, rfl⟩ (Paired.cons ⟨_, rfl⟩ (Paired.cons ⟨_, rfl⟩ (Paired.cons ⟨_, rfl⟩ (Paired.cons ⟨_, rfl⟩ (Paired.cons ⟨_, rfl⟩ (Paired.cons ⟨_, rfl⟩ (Paired.cons ⟨_, rfl⟩ (Paired.cons ⟨_, rfl⟩ (Paired.cons ⟨_, rfl⟩ (Paired.cons ⟨_, rfl⟩ (Paired.cons ⟨_, rfl⟩ (Paired.cons ⟨_, rfl⟩ Paired.nil)))))))))))))))) (Nat.le_of_ble_eq_true rfl), ⟨_, _, rfl, rfl, ⟨_, _, rfl, rfl, ⟨_, _, rfl, rfl, ⟨_, _, rfl, rfl, ⟨_, _, rfl, rfl, ⟨_, _, rfl, rfl, ⟨_, _, rfl, rfl, ⟨_, _, rfl, rfl, ⟨_, _, rfl, rfl, ⟨_, _, rfl, rfl, ⟨_, _, rfl, rfl, ⟨_, _, rfl, rfl, ⟨_, _, rfl, rfl, ⟨_, _, rfl, rfl, ⟨_, _, rfl, rfl, ⟨_, _, rfl, rfl, rfl⟩⟩⟩⟩⟩⟩⟩⟩⟩⟩⟩⟩⟩⟩⟩⟩⟩⟩, ⟨⟨rfl, V.ref ad45, rfl, fun m H => ⟨ad45, [V.int 1, V.int 2, V.int 3, V.int 4, V.int 5, V.int 6, V.int 7, V.int 8, V.int 9, V.int 10, V.int 11, V.int 12, V.int 13, V.int 14, V.int 15, V.int 16], rfl, ktp_of tl45 ti45 (Paired.cons ⟨_, rfl⟩ (Paired.cons ⟨_, rfl⟩ (Paired.cons ⟨_, rfl⟩ (Paired.cons ⟨_, rfl⟩ (Paired.cons ⟨_, rfl⟩ (Paired.cons ⟨_, rfl⟩ (Paired.cons ⟨_, rfl⟩ (Paired.cons ⟨_, rfl⟩ (Paired.cons ⟨_, rfl⟩ (Paired.cons ⟨_, rfl⟩ (Paired.cons ⟨_, rfl⟩ (Paired.cons ⟨_, rfl⟩ (Paired.cons ⟨_, rfl⟩ (Paired.cons ⟨_, rfl⟩ (Paired.cons ⟨_, rfl⟩ (Paired.cons ⟨_, rfl⟩ Paired.nil)))))))))))))))) (Nat.le_of_ble_eq_true rfl), ⟨_, _, rfl, rfl, ⟨_, _, rfl, rfl, ⟨_, _, rfl, rfl, ⟨_, _, rfl, rfl, ⟨_, _, rfl, rfl, ⟨_, _, rfl, rfl, ⟨_, _, rfl, rfl, ⟨_, _, rfl, rfl, ⟨_, _, rfl, rfl, ⟨_, _, rfl, rfl, ⟨_, _, rfl, rfl, ⟨_, _, rfl, rfl, ⟨_, _, rfl, rfl, ⟨_, _, rfl, rfl, ⟨_, _, rfl, rfl, ⟨_, _, rfl, rfl, rfl⟩⟩⟩⟩⟩⟩⟩⟩⟩⟩⟩⟩⟩⟩⟩⟩⟩⟩, ⟨⟨rfl, V.ref ad62, rfl, fun m H => ⟨ad62, [V.int 1, V.int 2, V.int 3, V.int 4, V.int 5, V.int 6, V.int 7, V.int 8, V.int 9, V.int 10, V.int 11, V.int 12, V.int 13, V.int 14, V.int 15, V.int 16], rfl, ktp_of tl62 ti62 (Paired.cons ⟨_, rfl⟩ (Paired.cons ⟨_, rfl⟩ (Paired.cons ⟨_, rfl⟩ (Paired.cons ⟨_, rfl⟩ (Paired.cons ⟨_, rfl⟩ (Paired.cons ⟨_, rfl⟩ (Paired.cons ⟨_, rfl⟩ (Paired.cons ⟨_, rfl⟩ (Paired.cons ⟨_, rfl⟩ (Paired.cons ⟨_, rfl⟩ (Paired.cons ⟨_, rfl⟩ (Paired.cons ⟨_, rfl⟩ (Paired.cons ⟨_, rfl⟩ (Paired.cons ⟨_, rfl⟩ (Paired.cons ⟨_, rfl⟩ (Paired.cons ⟨_, rfl⟩ Paired.nil)))))))))))))))) (Nat.le_of_ble_eq_true rfl), ⟨_, _, rfl, rfl, ⟨_, _, rfl, rfl, ⟨_, _, rfl, rfl, ⟨_, _, rfl, rfl, ⟨_, _, rfl, rfl, ⟨_, _, rfl, rfl, ⟨_, _, rfl, rfl, ⟨_, _, rfl, rfl, ⟨_, _, rfl, rfl, ⟨_, _, rfl, rfl, ⟨_, _, rfl, rfl, ⟨_, _, rfl, rfl, ⟨_, _, rfl, rfl, ⟨_, _, rfl, rfl, ⟨_, _, rfl, rfl, ⟨_, _, rfl, rfl, rfl⟩⟩⟩⟩⟩⟩⟩⟩⟩⟩⟩⟩⟩⟩⟩⟩⟩⟩, ⟨⟨rfl, V.ref ad79, rfl, fun m H => ⟨ad79, [V.int 1, V.int 2, V.int 3, V.int 4, V.int 5, V.int 6, V.int 7, V.int 8, V.int 9, V.int 10, V.int 11, V.int 12, V.int 13, V.int 14, V.int 15, V.int 16], rfl, ktp_of tl79 ti79 (Paired.cons ⟨_, rfl⟩ (Paired.cons ⟨_, rfl⟩ (Paired.cons ⟨_, rfl⟩ (Paired.cons ⟨_, rfl⟩ (Paired.cons ⟨_, rfl⟩ (Paired.cons ⟨_, rfl⟩ (Paired.cons ⟨_, rfl⟩ (Paired.cons ⟨_, rfl⟩ (Paired.cons ⟨_, rfl⟩ (Paired.cons ⟨_, rfl⟩ (Paired.cons ⟨_, rfl⟩ (Paired.cons ⟨_, rfl⟩ (Paired.cons ⟨_, rfl⟩ (Paired.cons ⟨_, rfl⟩ (Paired.cons ⟨_, rfl⟩ (Paired.cons ⟨_, rfl⟩ Paired.nil)))))))))))))))) (Nat.le_of_ble_eq_true rfl), ⟨_, _, rfl, rfl, ⟨_, _, rfl, rfl, ⟨_, _, rfl, rfl, ⟨_, _, rfl, rfl, ⟨_, _, rfl, rfl, ⟨_, _, rfl, rfl, ⟨_, _, rfl, rfl, ⟨_, _, rfl, rfl, ⟨_, _, rfl, rfl, ⟨_, _, rfl, rfl, ⟨_, _, rfl, rfl, ⟨_, _, rfl, rfl, ⟨_, _, rfl, rfl, ⟨_, _, rfl, rfl, ⟨_, _, rfl, rfl, ⟨_, _, rfl, rfl, rfl⟩⟩⟩⟩⟩⟩⟩⟩⟩⟩⟩⟩⟩⟩⟩⟩⟩⟩, ⟨⟨rfl, V.ref ad86, rfl, fun m H => ⟨ad86, [V.int 2, V.int 3, V.int 5, V.int 7, V.int 11, V.int 13], rfl, ktp_of tl86 ti86 (Paired.cons ⟨_, rfl⟩ (Paired.cons ⟨_, rfl⟩ (Paired.cons ⟨_, rfl⟩ (Paired.cons ⟨_, rfl⟩ (Paired.cons ⟨_, rfl⟩ (Paired.cons ⟨_, rfl⟩ Paired.nil)))))) (Nat.le_of_ble_eq_true rfl), ⟨_, _, rfl, rfl, ⟨_, _, rfl, rfl, ⟨_, _, rfl, rfl, ⟨_, _, rfl, rfl, ⟨_, _, rfl, rfl, ⟨_, _, rfl, rfl, rfl⟩⟩⟩⟩⟩⟩⟩⟩, ⟨⟨rfl, V.ref ad93, rfl, fun m H => ⟨ad93, [V.int 2, V.int 3, V.int 5, V.int 7, V.int 11, V.int 13], rfl, ktp_of tl93 ti93 (Paired.cons ⟨_, rfl⟩ (Paired.cons ⟨_, rfl⟩ (Paired.cons ⟨_, rfl⟩ (Paired.cons ⟨_, rfl⟩ (Paired.cons ⟨_, rfl⟩ (Paired.cons ⟨_, rfl⟩ Paired.nil)))))) (Nat.le_of_ble_eq_true rfl), ⟨_, _, rfl, rfl, ⟨_, _, rfl, rfl, ⟨_, _, rfl, rfl, ⟨_, _, rfl, rfl, ⟨_, _, rfl, rfl, ⟨_, _, rfl, rfl, rfl⟩⟩⟩⟩⟩⟩⟩⟩, ⟨⟨rfl, V.ref ad98, rfl, fun m H => ⟨ad98, [V.int 1, V.int 2, V.int 3, V.int 4], rfl, ktp_of tl98 ti98 (Paired.cons ⟨_, rfl⟩ (Paired.cons ⟨_, rfl⟩ (Paired.cons ⟨_, rfl⟩ (Paired.cons ⟨_, rfl⟩ Paired.nil)))) (Nat.le_of_ble_eq_true rfl), ⟨_, _, rfl, rfl, ⟨_, _, rfl, rfl, ⟨_, _, rfl, rfl, ⟨_, _, rfl, rfl, rfl⟩⟩⟩⟩⟩⟩, trivial⟩⟩⟩⟩⟩⟩⟩⟩, g_TEXT_LENGTH := ⟨_, V.int 200, PySem.W.mg_of X G a_TEXT_LENGTH, ⟨_, rfl⟩, fun m H L _ => rfl⟩, x_PermError := xmk_sym SF XC_PermError XT_PermError, x_BuildError := xmk_sym SF XC_BuildError XT_BuildError, tr_BuildError := TR_BuildError, cs_code := CS_code }
  have c1_is_number := (m_is_number T  F_is_number (PySem.W.mg_of X G a_is_number) b_is_number).pure 200
  have c1_cycle_texts := (m_cycle_texts T  F_cycle_texts (PySem.W.mg_of X G a_cycle_texts) b_cycle_texts).pure 200
  have c1_parse_perm := (m_parse_perm T c1_cycle_texts c1_is_number F_parse_perm (PySem.W.mg_of X G a_parse_perm) b_parse_perm).pure 200
  have c1_turned := (m_turned T  F_turned (PySem.W.mg_of X G a_turned) b_turned).pure 200
  have c1_symmetric := (m_symmetric T c1_turned F_symmetric (PySem.W.mg_of X G a_symmetric) b_symmetric).pure 200
  have c1_alternating := (m_alternating T c1_turned F_alternating (PySem.W.mg_of X G a_alternating) b_alternating).pure 200
  have c1_cyclic := (m_cyclic T c1_turned F_cyclic (PySem.W.mg_of X G a_cyclic) b_cyclic).pure 200
  have c1_dihedral := (m_dihedral T c1_turned F_dihedral (PySem.W.mg_of X G a_dihedral) b_dihedral).pure 200
  have c1_root_of_prime := (m_root_of_prime T  F_root_of_prime (PySem.W.mg_of X G a_root_of_prime) b_root_of_prime).pure 200
  have c1_affine := (m_affine T c1_root_of_prime F_affine (PySem.W.mg_of X G a_affine) b_affine).pure 200
  have c1_inverse_below := (m_inverse_below T  F_inverse_below (PySem.W.mg_of X G a_inverse_below) b_inverse_below).pure 200
  have c1_projective := (m_projective T c1_inverse_below F_projective (PySem.W.mg_of X G a_projective) b_projective).pure 200
  have c1_linear := (m_linear T  F_linear (PySem.W.mg_of X G a_linear) b_linear).pure 200
  have c1_quaternion := (m_quaternion T c1_parse_perm F_quaternion (PySem.W.mg_of X G a_quaternion) b_quaternion).pure 200
  have c1_named := (m_named T c1_affine c1_alternating c1_cyclic c1_dihedral c1_linear c1_parse_perm c1_projective c1_quaternion c1_symmetric F_named (PySem.W.mg_of X G a_named) b_named).pure 200
  have c1__law_cycle := (m__law_cycle T  F__law_cycle (PySem.W.mg_of X G a__law_cycle) b__law_cycle).pure 200
  have c1__law_take := m__law_take T  F__law_take (PySem.W.mg_of X G a__law_take) b__law_take
  have c1__law_pick := m__law_pick T c1__law_take F__law_pick (PySem.W.mg_of X G a__law_pick) b__law_pick
  have c1__law_times := (m__law_times T  F__law_times (PySem.W.mg_of X G a__law_times) b__law_times).pure 200
  have c1__law_begin := m__law_begin T  F__law_begin (PySem.W.mg_of X G a__law_begin) b__law_begin
  have c1__law_size := m__law_size T  F__law_size (PySem.W.mg_of X G a__law_size) b__law_size
  have c1__law_inverse := (m__law_inverse T  F__law_inverse (PySem.W.mg_of X G a__law_inverse) b__law_inverse).pure 200
  have c1__law_sift := m__law_sift T c1__law_inverse c1__law_times F__law_sift (PySem.W.mg_of X G a__law_sift) b__law_sift
  have c1__law_extend := (m__law_extend T c1__law_inverse c1__law_times F__law_extend (PySem.W.mg_of X G a__law_extend) b__law_extend).thaw 200
  have c1__law_grow := m__law_grow T c1__law_extend c1__law_sift F__law_grow (PySem.W.mg_of X G a__law_grow) b__law_grow
  have c1__law_asked := (m__law_asked T c1_named F__law_asked (PySem.W.mg_of X G a__law_asked) b__law_asked).pure 200
  have c1__law_turn := (m__law_turn T c1__law_cycle F__law_turn (PySem.W.mg_of X G a__law_turn) b__law_turn).pure 200
  have c1__law_root := (m__law_root T  F__law_root (PySem.W.mg_of X G a__law_root) b__law_root).pure 200
  have c1__law_prime_group := (m__law_prime_group T c1__law_root F__law_prime_group (PySem.W.mg_of X G a__law_prime_group) b__law_prime_group).pure 200
  have c1__law_bits := (m__law_bits T  F__law_bits (PySem.W.mg_of X G a__law_bits) b__law_bits).pure 200
  have c1__law_due := (m__law_due T c1__law_bits c1__law_cycle c1__law_pick c1__law_prime_group c1__law_take c1__law_times c1__law_turn F__law_due (PySem.W.mg_of X G a__law_due) b__law_due).thaw 200
  have c1_law := m_law T c1__law_asked c1__law_begin c1__law_due c1__law_grow c1__law_pick c1__law_size F_law (PySem.W.mg_of X G a_law) b_law
  exact law_end c1_law plain
end Lw

namespace Lw
open PySem PySem.Spec PyProof.Rows PySem.W L2 G
theorem walk {l : PySem.W.OpenLaw} {q : Program} {loose : List Str} {XP : (Str → Option Value) → Heap → Prop} {YP : World → Heap → Prop} {d : DefRec} {K : Params → PySem.W.Frag} (hn : l.most = some 63) (hdf : d.params.defaults = [])
    (hY : ∀ (w : World) (h : Heap), YP w h → (K w.params).In h)
    (F : ∀ (w : World) (mg : Str → Option Value) (fa : Addr) (h : Heap), (K w.params).In h → h.Ns mainGlobals mg → mg d.name = some (.ref fa) →
      ∃ fd : FuncData, (∀ (s : Shared) (u : Value), BindsTo s fd ⟨[u], []⟩ [("script", u)]) ∧ ∀ base : Heap, (K w.params).In base → base.Ns mainGlobals mg → FnOk l.prog w (K w.params) mg base (L2.CX l.prog w) 8 fa fd ["script"] (spLaw (K w.params))) :
    PySem.W.WalkO q loose XP YP l.row.toRowW d [] (fun f vs => PySem.call f vs) :=
  L2.walk_of (n := 63) (k := 8) (x := "script") (CX := fun w => L2.CX l.prog w) (sp := fun w => spLaw (K w.params)) hn (by decide) hdf ⟨rfl, by decide, by decide⟩ hY F (fun _ _ a ns hl _ hS => ⟨a, ns, rfl, hS, hl, fun _ => rfl⟩) fun _ _ _ _ _ z => by obtain ⟨a, B, H', cls, d, e, h1, h2, h3, h4, h5, h6, h7⟩ := z; exact h7
end Lw
open PySem PySem.W PyProof.Rows in
set_option maxRecDepth 100000 in
set_option maxHeartbeats 0 in
theorem PySem.Challenge.cw_symhouse_k60_named_groups_holds : PySem.Challenge.rw_symhouse_k60_named_groups.Holds := by
  w_on; o_law; k_head; (case hw => w_witness2)
  k_fill
  refine Lw.walk (l := PySem.Challenge.rw_symhouse_k60_named_groups) rfl rfl (fun w h Y => PySem.W.kIn_of Y) ?F
  case F =>
    intro w mg fa h KX G hmg
    refine' Lw.all_mk KX G hmg ?z_abs ?z_any ?z_enumerate ?z_int ?z_len ?z_list ?z_min ?z_range ?z_str ?z_tuple ?a_is_number ?l_is_number ?c_is_number ?k_is_number ?a_cycle_texts ?l_cycle_texts ?c_cycle_texts ?k_cycle_texts ?a_parse_perm ?l_parse_perm ?c_parse_perm ?k_parse_perm ?a_turned ?l_turned ?c_turned ?k_turned ?a_symmetric ?l_symmetric ?c_symmetric ?k_symmetric ?a_alternating ?l_alternating ?c_alternating ?k_alternating ?a_cyclic ?l_cyclic ?c_cyclic ?k_cyclic ?a_dihedral ?l_dihedral ?c_dihedral ?k_dihedral ?a_root_of_prime ?l_root_of_prime ?c_root_of_prime ?k_root_of_prime ?a_affine ?l_affine ?c_affine ?k_affine ?a_inverse_below ?l_inverse_below ?c_inverse_below ?k_inverse_below ?a_projective ?l_projective ?c_projective ?k_projective ?a_linear ?l_linear ?c_linear ?k_linear ?a_quaternion ?l_quaternion ?c_quaternion ?k_quaternion ?a_named ?l_named ?c_named ?k_named ?a__law_cycle ?l__law_cycle ?c__law_cycle ?k__law_cycle ?a__law_take ?l__law_take ?c__law_take ?k__law_take ?a__law_pick ?l__law_pick ?c__law_pick ?k__law_pick ?a__law_times ?l__law_times ?c__law_times ?k__law_times ?a__law_begin ?l__law_begin ?c__law_begin ?k__law_begin ?a__law_size ?l__law_size ?c__law_size ?k__law_size ?a__law_inverse ?l__law_inverse ?c__law_inverse ?k__law_inverse ?a__law_sift ?l__law_sift ?c__law_sift ?k__law_sift ?a__law_extend ?l__law_extend ?c__law_extend ?k__law_extend ?a__law_grow ?l__law_grow ?c__law_grow ?k__law_grow ?a__law_asked ?l__law_asked ?c__law_asked ?k__law_asked ?a__law_turn ?l__law_turn ?c__law_turn ?k__law_turn ?a__law_root ?l__law_root ?c__law_root ?k__law_root ?a__law_prime_group ?l__law_prime_group ?c__law_prime_group ?k__law_prime_group ?a__law_bits ?l__law_bits ?c__law_bits ?k__law_bits ?a__law_due ?l__law_due ?c__law_due ?k__law_due ?a_law ?l_law ?c_law ?k_law ?a_S ?i_S ?l_S ?c_S ?d_S ?e_S ?f_S ?g_S ?h_S ?z_super ?z_tpa ?t_top ?a_BuildError ?x_BuildError ?v_BuildError ?sa_BuildError ?no_BuildError ?mr_BuildError ?su_BuildError ?be_BuildError ?in_BuildError ?ii_BuildError ?ti_BuildError ?ke_BuildError ?eb_BuildError ?ty_BuildError ?a_PermError ?x_PermError ?v_PermError ?sa_PermError ?no_PermError ?mr_PermError ?su_PermError ?be_PermError ?in_PermError ?ii_PermError ?ti_PermError ?ke_PermError ?eb_PermError ?ty_PermError ?a_MATHIEU ?l_MATHIEU ?kl_MATHIEU ?lo_MATHIEU ?kt_MATHIEU ?te_MATHIEU ?tl5 ?ti5 ?tl4 ?ti4 ?tl11 ?ti11 ?tl10 ?ti10 ?a_MAKERS ?l_MAKERS ?kl_MAKERS ?lo_MAKERS ?kt_MAKERS ?te_MAKERS ?a_NUMBERS ?l_NUMBERS ?kl_NUMBERS ?lo_NUMBERS ?kt_NUMBERS ?te_NUMBERS ?tl28 ?ti28 ?tl45 ?ti45 ?tl62 ?ti62 ?tl79 ?ti79 ?tl86 ?ti86 ?tl93 ?ti93 ?tl98 ?ti98 ?a_TEXT_LENGTH ?ex_BuildError_BuildError ?ex_PermError_BuildError ?ga_BuildError ?gg_BuildError ?hd_BuildError ?nf_code_BuildError
    (case z_abs => k_is)
    (case z_any => k_is)
    (case z_enumerate => k_is)
    (case z_int => k_is)
    (case z_len => k_is)
    (case z_list => k_is)
    (case z_min => k_is)
    (case z_range => k_is)
    (case z_str => k_is)
    (case z_tuple => k_is)
    (case a_is_number => k_is)
    (case l_is_number => k_is)
    (case c_is_number => k_is)
    (case k_is_number => k_is)
    (case a_cycle_texts => k_is)
    (case l_cycle_texts => k_is)
    (case c_cycle_texts => k_is)
    (case k_cycle_texts => k_is)
    (case a_parse_perm => k_is)
    (case l_parse_perm => k_is)
    (case c_parse_perm => k_is)
    (case k_parse_perm => k_is)
    (case a_turned => k_is)
    (case l_turned => k_is)
    (case c_turned => k_is)
    (case k_turned => k_is)
    (case a_symmetric => k_is)
    (case l_symmetric => k_is)
    (case c_symmetric => k_is)
    (case k_symmetric => k_is)
    (case a_alternating => k_is)
    (case l_alternating => k_is)
    (case c_alternating => k_is)
    (case k_alternating => k_is)
    (case a_cyclic => k_is)
    (case l_cyclic => k_is)
    (case c_cyclic => k_is)
    (case k_cyclic => k_is)
    (case a_dihedral => k_is)
    (case l_dihedral => k_is)
    (case c_dihedral => k_is)
    (case k_dihedral => k_is)
    (case a_root_of_prime => k_is)
    (case l_root_of_prime => k_is)
    (case c_root_of_prime => k_is)
    (case k_root_of_prime => k_is)
    (case a_affine => k_is)
    (case l_affine => k_is)
    (case c_affine => k_is)
    (case k_affine => k_is)
    (case a_inverse_below => k_is)
    (case l_inverse_below => k_is)
    (case c_inverse_below => k_is)
    (case k_inverse_below => k_is)
    (case a_projective => k_is)
    (case l_projective => k_is)
    (case c_projective => k_is)
    (case k_projective => k_is)
    (case a_linear => k_is)
    (case l_linear => k_is)
    (case c_linear => k_is)
    (case k_linear => k_is)
    (case a_quaternion => k_is)
    (case l_quaternion => k_is)
    (case c_quaternion => k_is)
    (case k_quaternion => k_is)
    (case a_named => k_is)
    (case l_named => k_is)
    (case c_named => k_is)
    (case k_named => k_is)
    (case a__law_cycle => k_is)
    (case l__law_cycle => k_is)
    (case c__law_cycle => k_is)
    (case k__law_cycle => k_is)
    (case a__law_take => k_is)
    (case l__law_take => k_is)
    (case c__law_take => k_is)
    (case k__law_take => k_is)
    (case a__law_pick => k_is)
    (case l__law_pick => k_is)
    (case c__law_pick => k_is)
    (case k__law_pick => k_is)
    (case a__law_times => k_is)
    (case l__law_times => k_is)
    (case c__law_times => k_is)
    (case k__law_times => k_is)
    (case a__law_begin => k_is)
    (case l__law_begin => k_is)
    (case c__law_begin => k_is)
    (case k__law_begin => k_is)
    (case a__law_size => k_is)
    (case l__law_size => k_is)
    (case c__law_size => k_is)
    (case k__law_size => k_is)
    (case a__law_inverse => k_is)
    (case l__law_inverse => k_is)
    (case c__law_inverse => k_is)
    (case k__law_inverse => k_is)
    (case a__law_sift => k_is)
    (case l__law_sift => k_is)
    (case c__law_sift => k_is)
    (case k__law_sift => k_is)
    (case a__law_extend => k_is)
    (case l__law_extend => k_is)
    (case c__law_extend => k_is)
    (case k__law_extend => k_is)
    (case a__law_grow => k_is)
    (case l__law_grow => k_is)
    (case c__law_grow => k_is)
    (case k__law_grow => k_is)
    (case a__law_asked => k_is)
    (case l__law_asked => k_is)
    (case c__law_asked => k_is)
    (case k__law_asked => k_is)
    (case a__law_turn => k_is)
    (case l__law_turn => k_is)
    (case c__law_turn => k_is)
    (case k__law_turn => k_is)
    (case a__law_root => k_is)
    (case l__law_root => k_is)
    (case c__law_root => k_is)
    (case k__law_root => k_is)
    (case a__law_prime_group => k_is)
    (case l__law_prime_group => k_is)
    (case c__law_prime_group => k_is)
    (case k__law_prime_group => k_is)
    (case a__law_bits => k_is)
    (case l__law_bits => k_is)
    (case c__law_bits => k_is)
    (case k__law_bits => k_is)
    (case a__law_due => k_is)
    (case l__law_due => k_is)
    (case c__law_due => k_is)
    (case k__law_due => k_is)
    (case a_law => k_is)
    (case l_law => k_is)
    (case c_law => k_is)
    (case k_law => k_is)
    (case a_S => k_is)
    (case i_S => k_is)
    (case l_S => k_is)
    (case c_S => k_is)
    (case d_S => k_is)
    (case e_S => rfl)
    (case f_S => (first | rfl | decide +kernel))
    (case g_S => k_is)
    (case h_S => k_is)
    (case z_super => k_is)
    (case z_tpa => k_is)
    (case t_top => (first | rfl | decide +kernel))
    (case a_BuildError => k_is)
    (case x_BuildError => k_is)
    (case v_BuildError => (first | rfl | decide +kernel))
    (case sa_BuildError => k_is)
    (case no_BuildError => k_is)
    (case mr_BuildError => (first | k_is | rfl))
    (case su_BuildError => (first | k_is | rfl | decide +kernel))
    (case be_BuildError => k_is)
    (case in_BuildError => (first | k_is | rfl | decide +kernel))
    (case ii_BuildError => k_is)
    (case ti_BuildError => k_is)
    (case ke_BuildError => k_is)
    (case eb_BuildError => k_is)
    (case ty_BuildError => k_is)
    (case a_PermError => k_is)
    (case x_PermError => k_is)
    (case v_PermError => (first | rfl | decide +kernel))
    (case sa_PermError => k_is)
    (case no_PermError => k_is)
    (case mr_PermError => (first | k_is | rfl))
    (case su_PermError => (first | k_is | rfl | decide +kernel))
    (case be_PermError => k_is)
    (case in_PermError => (first | k_is | rfl | decide +kernel))
    (case ii_PermError => k_is)
    (case ti_PermError => k_is)
    (case ke_PermError => k_is)
    (case eb_PermError => k_is)
    (case ty_PermError => k_is)
    (case a_MATHIEU => k_is)
    (case l_MATHIEU => k_is)
    (case kl_MATHIEU => exact ⟨⟨_, _, rfl, rfl⟩, ⟨⟨_, _, rfl, rfl⟩, trivial⟩⟩)
    (case lo_MATHIEU => (first | rfl | decide +kernel))
    (case kt_MATHIEU => rfl)
    (case te_MATHIEU => rfl)
    (case tl5 => k_is)
    (case ti5 => rfl)
    (case tl4 => k_is)
    (case ti4 => rfl)
    (case tl11 => k_is)
    (case ti11 => rfl)
    (case tl10 => k_is)
    (case ti10 => rfl)
    (case a_MAKERS => k_is)
    (case l_MAKERS => k_is)
    (case kl_MAKERS => exact ⟨⟨_, _, rfl, rfl⟩, ⟨⟨_, _, rfl, rfl⟩, ⟨⟨_, _, rfl, rfl⟩, ⟨⟨_, _, rfl, rfl⟩, ⟨⟨_, _, rfl, rfl⟩, ⟨⟨_, _, rfl, rfl⟩, ⟨⟨_, _, rfl, rfl⟩, trivial⟩⟩⟩⟩⟩⟩⟩)
    (case lo_MAKERS => (first | rfl | decide +kernel))
    (case kt_MAKERS => rfl)
    (case te_MAKERS => rfl)
    (case a_NUMBERS => k_is)
    (case l_NUMBERS => k_is)
    (case kl_NUMBERS => exact ⟨⟨_, _, rfl, rfl⟩, ⟨⟨_, _, rfl, rfl⟩, ⟨⟨_, _, rfl, rfl⟩, ⟨⟨_, _, rfl, rfl⟩, ⟨⟨_, _, rfl, rfl⟩, ⟨⟨_, _, rfl, rfl⟩, ⟨⟨_, _, rfl, rfl⟩, trivial⟩⟩⟩⟩⟩⟩⟩)
    (case lo_NUMBERS => (first | rfl | decide +kernel))
    (case kt_NUMBERS => rfl)
    (case te_NUMBERS => rfl)
    (case tl28 => k_is)
    (case ti28 => rfl)
    (case tl45 => k_is)
    (case ti45 => rfl)
    (case tl62 => k_is)
    (case ti62 => rfl)
    (case tl79 => k_is)
    (case ti79 => rfl)
    (case tl86 => k_is)
    (case ti86 => rfl)
    (case tl93 => k_is)
    (case ti93 => rfl)
    (case tl98 => k_is)
    (case ti98 => rfl)
    (case a_TEXT_LENGTH => k_is)
    (case ex_BuildError_BuildError => (first | rfl | k_is))
    (case ex_PermError_BuildError => (first | rfl | k_is))
    (case ga_BuildError => k_is)
    (case gg_BuildError => k_is)
    (case hd_BuildError => k_is)
    (case nf_code_BuildError => k_is)

