import PyProof.Rows.All
import Wide.All
import OpenK.AllK
import Wide.FinOn
import HandS.ForMost
import HandS.Zip
import HandS.TupAny
import HandS.IsInst
import HandS.WideBits
import HandS.More
import PyProof.StrBlock2
import PyProof.ListStr
import PyProof.SumAnyB
import HandS.Conv
import KE.GoesEnum
import KE.GoesMore
import KE.GoesZip
import HandS.Star
import HandS.Ends
import PyProof.Rows.SortShellAny
import PyProof.ReprRoads
import HandS.Text
import PyProof.Rows.BitMore
import PySem.Challenge.RW_guardedwires_k61_whole_two_spans_and_wha
set_option Elab.async false
set_option linter.all false
set_option maxRecDepth 100000
set_option maxHeartbeats 1000000
set_option autoImplicit false
namespace VL
open PySem PySem.Spec L2

/-! ## deep data -/
inductive D where
  | non
  | bl (b : Bool)
  | int (i : Int)
  | str (s : Str)
  | tup (ds : List D)
  | lst (ds : List D)
  /-- a list that nobody may change: the script, one of the top's -/
  | frl (ds : List D)
  | dic (ks : List Key) (ds : List D)
  | obj (c : Nat) (ds : List D)
  deriving Inhabited

/-- the frozen part, the classes by number: their address, the names of their fields -/
structure KX where
  K : PySem.W.Frag
  cls : Nat → Addr
  fld : Nat → List Str

abbrev APred := Addr → Prop
def H00 : Hp := fun _ => none

def VwT (k : KX) (B : APred) (H : Hp) (a : Addr) (xs : List V) : Prop := (¬ B a ∧ Rd H a (.tup xs)) ∨ SqT k.K H00 a xs
def VwL (k : KX) (B : APred) (H : Hp) (a : Addr) (xs : List V) : Prop := (¬ B a ∧ Rd H a (.lst xs)) ∨ SqL k.K H00 a xs

mutual
def Rep (k : KX) (B : APred) (H : Hp) : D → V → Prop
  | .non, v => v = .non
  | .bl b, v => v = .bl b
  | .int i, v => v = .int i
  | .str s, v => v = .str s
  | .tup ds, v => ∃ a xs, v = .ref a ∧ VwT k B H a xs ∧ RepL k B H ds xs
  | .lst ds, v => ∃ a xs, v = .ref a ∧ ¬ B a ∧ H a = some (.lst xs) ∧ RepL k B H ds xs
  | .frl ds, v => ∃ a xs, v = .ref a ∧ VwL k B H a xs ∧ RepL k B H ds xs
  | .dic ks ds, v => ∃ a xs, v = .ref a ∧ ¬ B a ∧ H a = some (.dK (ks.zip xs)) ∧ ks.length = xs.length ∧ RepL k B H ds xs
  | .obj c ds, v => ∃ a dx xs, v = .ref a ∧ ¬ B a ∧ H a = some (.ins (k.cls c) dx ((k.fld c).zip xs)) ∧ (k.fld c).length = xs.length ∧ RepL k B H ds xs
def RepL (k : KX) (B : APred) (H : Hp) : List D → List V → Prop
  | [], vs => vs = []
  | d :: ds, vs => ∃ y ys, vs = y :: ys ∧ Rep k B H d y ∧ RepL k B H ds ys
end

section
variable {k : KX} {B B' : APred} {H H' : Hp} {a : Addr} {xs : List V}
theorem rd_none {u : HO} (h : Rd H00 a u) : False := by
  rcases h with h | ⟨o, h⟩ <;> cases h
theorem sqT_of0 (h : SqT k.K H00 a xs) : SqT k.K H a xs := by
  rcases h with h | h
  · exact (rd_none h).elim
  · exact .inr h
theorem sqL_of0 (h : SqL k.K H00 a xs) : SqL k.K H a xs := by
  rcases h with h | h
  · exact (rd_none h).elim
  · exact .inr h
theorem VwT.sq (h : VwT k B H a xs) : SqT k.K H a xs := by
  rcases h with ⟨_, h⟩ | h
  · exact .inl h
  · exact sqT_of0 h
theorem VwL.sq (h : VwL k B H a xs) : SqL k.K H a xs := by
  rcases h with ⟨_, h⟩ | h
  · exact .inl h
  · exact sqL_of0 h
theorem rd_some {u : HO} (h : Rd H a u) : ∃ o, H a = some o := by
  rcases h with h | ⟨o, h⟩
  · exact ⟨_, h⟩
  · exact ⟨_, h⟩
/-- what a step may do to what is seen -/
structure Grow (B B' : APred) (H H' : Hp) : Prop where
  kp : ∀ a o, ¬ B a → H a = some o → H' a = some o
  nb : ∀ a, B' a → B a ∨ H a = none
theorem Grow.not (g : Grow B B' H H') {a : Addr} {o : HO} (hb : ¬ B a) (h : H a = some o) : ¬ B' a := fun z => by
  rcases g.nb a z with z | z
  · exact hb z
  · rw [h] at z; cases z
theorem Grow.rd (g : Grow B B' H H') {u : HO} (hb : ¬ B a) (h : Rd H a u) : Rd H' a u := by
  rcases h with h | ⟨o, h⟩
  · exact .inl (g.kp a _ hb h)
  · exact .inr ⟨o, g.kp a _ hb h⟩
theorem VwT.grow (g : Grow B B' H H') (h : VwT k B H a xs) : VwT k B' H' a xs := by
  rcases h with ⟨hb, h⟩ | h
  · obtain ⟨o, ho⟩ := rd_some h
    exact .inl ⟨g.not hb ho, g.rd hb h⟩
  · exact .inr h
theorem VwL.grow (g : Grow B B' H H') (h : VwL k B H a xs) : VwL k B' H' a xs := by
  rcases h with ⟨hb, h⟩ | h
  · obtain ⟨o, ho⟩ := rd_some h
    exact .inl ⟨g.not hb ho, g.rd hb h⟩
  · exact .inr h
mutual
theorem Rep.grow (g : Grow B B' H H') : ∀ (d : D) (v : V), Rep k B H d v → Rep k B' H' d v
  | .non, _, h => h
  | .bl _, _, h => h
  | .int _, _, h => h
  | .str _, _, h => h
  | .tup ds, _, h => by
    obtain ⟨a, xs, e, h1, h2⟩ := h
    exact ⟨a, xs, e, h1.grow g, RepL.grow g ds xs h2⟩
  | .lst ds, _, h => by
    obtain ⟨a, xs, e, hb, h1, h2⟩ := h
    exact ⟨a, xs, e, g.not hb h1, g.kp a _ hb h1, RepL.grow g ds xs h2⟩
  | .frl ds, _, h => by
    obtain ⟨a, xs, e, h1, h2⟩ := h
    exact ⟨a, xs, e, h1.grow g, RepL.grow g ds xs h2⟩
  | .dic ks ds, _, h => by
    obtain ⟨a, xs, e, hb, h1, hl, h2⟩ := h
    exact ⟨a, xs, e, g.not hb h1, g.kp a _ hb h1, hl, RepL.grow g ds xs h2⟩
  | .obj c ds, _, h => by
    obtain ⟨a, dx, xs, e, hb, h1, hl, h2⟩ := h
    exact ⟨a, dx, xs, e, g.not hb h1, g.kp a _ hb h1, hl, RepL.grow g ds xs h2⟩
theorem RepL.grow (g : Grow B B' H H') : ∀ (ds : List D) (vs : List V), RepL k B H ds vs → RepL k B' H' ds vs
  | [], _, h => h
  | d :: ds, _, h => by
    obtain ⟨y, ys, e, h1, h2⟩ := h
    exact ⟨y, ys, e, Rep.grow g d y h1, RepL.grow g ds ys h2⟩
end
theorem RepL.len : ∀ {ds : List D} {vs : List V}, RepL k B H ds vs → ds.length = vs.length
  | [], _, h => by
    rw [show _ = [] from h]
    rfl
  | d :: ds, _, h => by
    obtain ⟨y, ys, e, _, h2⟩ := h
    rw [e, List.length_cons, List.length_cons, RepL.len h2]
theorem RepL.get : ∀ {ds : List D} {vs : List V} {i : Nat} {d : D}, RepL k B H ds vs → ds[i]? = some d → ∃ v, vs[i]? = some v ∧ Rep k B H d v
  | [], _, _, _, _, e => by simp at e
  | d :: ds, _, 0, _, h, e => by
    obtain ⟨y, ys, rfl, h1, _⟩ := h
    cases e
    exact ⟨y, rfl, h1⟩
  | d :: ds, _, i + 1, _, h, e => by
    obtain ⟨y, ys, rfl, _, h2⟩ := h
    exact RepL.get (i := i) h2 (by simpa using e)
theorem RepL.getV : ∀ {ds : List D} {vs : List V} {i : Nat} {v : V}, RepL k B H ds vs → vs[i]? = some v → ∃ d, ds[i]? = some d ∧ Rep k B H d v := fun {ds vs i v} h e => by
  have hl := h.len
  have hi : i < ds.length := by
    rw [hl]
    exact (List.getElem?_eq_some_iff.mp e).1
  obtain ⟨v', e', r⟩ := h.get (List.getElem?_eq_getElem hi)
  rw [e] at e'
  cases e'
  exact ⟨_, List.getElem?_eq_getElem hi, r⟩
theorem RepL.append : ∀ {ds es : List D} {vs us : List V}, RepL k B H ds vs → RepL k B H es us → RepL k B H (ds ++ es) (vs ++ us)
  | [], _, _, _, h, q => by
    rw [show _ = [] from h]
    exact q
  | d :: ds, _, _, _, h, q => by
    obtain ⟨y, ys, rfl, h1, h2⟩ := h
    exact ⟨y, _, rfl, h1, RepL.append h2 q⟩
theorem RepL.drop : ∀ {ds : List D} {vs : List V} (n : Nat), RepL k B H ds vs → RepL k B H (ds.drop n) (vs.drop n)
  | _, _, 0, h => h
  | [], _, n + 1, h => by
    rw [show _ = [] from h]
    exact rfl
  | d :: ds, _, n + 1, h => by
    obtain ⟨y, ys, rfl, _, h2⟩ := h
    exact RepL.drop n h2
theorem RepL.take : ∀ {ds : List D} {vs : List V} (n : Nat), RepL k B H ds vs → RepL k B H (ds.take n) (vs.take n)
  | _, _, 0, _ => rfl
  | [], _, n + 1, h => by
    rw [show _ = [] from h]
    exact rfl
  | d :: ds, _, n + 1, h => by
    obtain ⟨y, ys, rfl, h1, h2⟩ := h
    exact ⟨y, _, rfl, h1, RepL.take n h2⟩
theorem RepL.set : ∀ {ds : List D} {vs : List V} (i : Nat) {d : D} {v : V}, RepL k B H ds vs → Rep k B H d v → RepL k B H (ds.set i d) (vs.set i v)
  | [], _, _, _, _, h, _ => by
    rw [show _ = [] from h]
    exact rfl
  | d :: ds, _, 0, _, _, h, r => by
    obtain ⟨y, ys, rfl, _, h2⟩ := h
    exact ⟨_, _, rfl, r, h2⟩
  | d :: ds, _, i + 1, _, _, h, r => by
    obtain ⟨y, ys, rfl, h1, h2⟩ := h
    exact ⟨y, _, rfl, h1, RepL.set i h2 r⟩
theorem RepL.erase : ∀ {ds : List D} {vs : List V} (i : Nat), RepL k B H ds vs → RepL k B H (ds.eraseIdx i) (vs.eraseIdx i)
  | [], _, _, h => by
    rw [show _ = [] from h]
    exact rfl
  | d :: ds, _, 0, h => by
    obtain ⟨y, ys, rfl, _, h2⟩ := h
    exact h2
  | d :: ds, _, i + 1, h => by
    obtain ⟨y, ys, rfl, h1, h2⟩ := h
    exact ⟨y, _, rfl, h1, RepL.erase i h2⟩
theorem RepL.one {d : D} {v : V} (h : Rep k B H d v) : RepL k B H [d] [v] := ⟨v, [], rfl, h, rfl⟩
theorem RepL.dropLast {ds : List D} {vs : List V} (h : RepL k B H ds vs) : RepL k B H ds.dropLast vs.dropLast := by
  rw [List.dropLast_eq_take, List.dropLast_eq_take, h.len]
  exact h.take _
theorem RepL.perm {ds : List D} {vs us : List V} (h : RepL k B H ds vs) (p : vs.Perm us) : ∃ es, ds.Perm es ∧ RepL k B H es us := by
  induction p generalizing ds with
  | nil =>
    cases ds with
    | nil => exact ⟨[], .refl _, rfl⟩
    | cons d ds =>
      obtain ⟨y, ys, e, _, _⟩ := h
      cases e
  | cons x p ih =>
    cases ds with
    | nil => cases h
    | cons d ds =>
      obtain ⟨y, ys, e, h1, h2⟩ := h
      cases e
      obtain ⟨es, q, r⟩ := ih h2
      exact ⟨d :: es, q.cons _, _, _, rfl, h1, r⟩
  | swap x y l =>
    cases ds with
    | nil => cases h
    | cons d ds =>
      obtain ⟨_, _, e, h1, h2⟩ := h
      cases e
      cases ds with
      | nil => cases h2
      | cons d2 ds =>
        obtain ⟨_, _, e, h3, h4⟩ := h2
        cases e
        exact ⟨d2 :: d :: ds, .swap _ _ _, _, _, rfl, h3, _, _, rfl, h1, h4⟩
  | trans _ _ ih1 ih2 =>
    obtain ⟨es, q1, r1⟩ := ih1 h
    obtain ⟨fs, q2, r2⟩ := ih2 r1
    exact ⟨fs, q1.trans q2, r2⟩

end

/-! ## a def's slots -/
inductive Slot where
  | un
  | val (d : D)
  | own (ds : List D)
  | ownd (ks : List Key) (ds : List D)
  | lnt (ds : List D)
  | bor (ds : List D)
  deriving Inhabited
abbrev Ev := List Slot
def Slot.isOwn : Slot → Prop
  | .own _ => True
  | .ownd _ _ => True
  | _ => False
def Slot.isLnt : Slot → Prop
  | .lnt _ => True
  | _ => False
def Slot.isBor : Slot → Prop
  | .bor _ => True
  | _ => False
def HasA (p : Slot → Prop) (env : Ev) (σ : St) (i : Nat) (a : Addr) : Prop := ∃ s, env[i]? = some s ∧ p s ∧ σ[i]? = some (some (.ref a))
def OwnA (env : Ev) (σ : St) (a : Addr) : Prop := ∃ i, HasA Slot.isOwn env σ i a
def Bd (M : APred) (env : Ev) (σ : St) : APred := fun a => M a ∨ OwnA env σ a
/-- a frame's lent addresses, its borrowed ones -/
structure LN where
  l : APred
  n : APred
def SlotOk (k : KX) (B : APred) (L : LN) (H : Hp) : Slot → Option (Option V) → Prop
  | .un, _ => True
  | .val d, v => ∃ x, v = some (some x) ∧ Rep k B H d x
  | .own ds, v => ∃ a xs, v = some (some (.ref a)) ∧ H a = some (.lst xs) ∧ RepL k B H ds xs
  | .ownd ks ds, v => ∃ a xs, v = some (some (.ref a)) ∧ H a = some (.dK (ks.zip xs)) ∧ ks.length = xs.length ∧ RepL k B H ds xs
  | .lnt ds, v => ∃ a xs, v = some (some (.ref a)) ∧ L.l a ∧ H a = some (.lst xs) ∧ RepL k B H ds xs
  | .bor ds, v => ∃ a xs, v = some (some (.ref a)) ∧ L.n a ∧ H a = some (.lst xs) ∧ RepL k B H ds xs
structure Fr (k : KX) (M : APred) (L : LN) (H0 : Hp) (env : Ev) (σ : St) (H : Hp) : Prop where
  len : env.length = σ.length
  slot : ∀ (i : Nat) (s : Slot), env[i]? = some s → SlotOk k (Bd M env σ) L H s σ[i]?
  inj : ∀ i j a, HasA Slot.isOwn env σ i a → HasA Slot.isOwn env σ j a → i = j
  linj : ∀ i j a, HasA Slot.isLnt env σ i a → HasA Slot.isLnt env σ j a → i = j
  fresh : ∀ a, OwnA env σ a → H0 a = none ∧ ¬ M a ∧ ¬ L.n a
  lm : ∀ a, L.l a → M a
  ln : ∀ a, L.n a → ¬ L.l a
  mt : ∀ a, M a → ∃ o, H a = some o
  nt : ∀ a, L.n a → ∃ o, H a = some o
  keep : ∀ a o, H0 a = some o → ¬ L.l a → H a = some o

/-- what an expression comes to: a frozen value, a new list, a new dict (nobody else has it), what stands in a slot -/
inductive ER where
  | val (d : D)
  | own (ds : List D)
  | ownd (ks : List Key) (ds : List D)
  | ref (i : Nat)
  deriving Inhabited
def OpdOk (k : KX) (B T : APred) (σ : St) (H : Hp) : ER → V → Prop
  | .val d, v => Rep k B H d v
  | .own ds, v => ∃ p xs, v = .ref p ∧ T p ∧ H p = some (.lst xs) ∧ RepL k B H ds xs
  | .ownd ks ds, v => ∃ p xs, v = .ref p ∧ T p ∧ H p = some (.dK (ks.zip xs)) ∧ ks.length = xs.length ∧ RepL k B H ds xs
  | .ref i, v => σ[i]? = some (some v)
def OpdL (k : KX) (B T : APred) (σ : St) (H : Hp) : List ER → List V → Prop
  | [], vs => vs = []
  | r :: rs, vs => ∃ y ys, vs = y :: ys ∧ OpdOk k B T σ H r y ∧ OpdL k B T σ H rs ys
abbrev Or2 (M T : APred) : APred := fun a => M a ∨ T a
/-- the state behind an expression; T: what was made on the way and has no slot -/
structure Post (k : KX) (M : APred) (L : LN) (H0 : Hp) (env : Ev) (σ : St) (T : APred) (H : Hp) : Prop where
  tf : ∀ a, T a → H0 a = none ∧ ¬ M a ∧ ¬ L.n a
  lm : ∀ a, L.l a → M a
  fr : Fr k (Or2 M T) L H0 env σ H
def EPost (k : KX) (M : APred) (L : LN) (H0 : Hp) (env : Ev) (σ : St) (r : ER) (v : V) (H : Hp) : Prop :=
  ∃ T, Post k M L H0 env σ T H ∧ OpdOk k (Bd (Or2 M T) env σ) T σ H r v
def APost (k : KX) (M : APred) (L : LN) (H0 : Hp) (env : Ev) (σ : St) (rs : List ER) (vs : List V) (H : Hp) : Prop :=
  ∃ T, Post k M L H0 env σ T H ∧ OpdL k (Bd (Or2 M T) env σ) T σ H rs vs

open Classical in
noncomputable def maskH (P : APred) (H : Hp) : Hp := fun a => if P a then none else H a
theorem maskH_some {P : APred} {H : Hp} {a : Addr} {o : HO} (h : maskH P H a = some o) : ¬ P a ∧ H a = some o := by
  unfold maskH at h
  split at h
  · cases h
  · exact ⟨by assumption, h⟩
theorem maskH_of {P : APred} {H : Hp} {a : Addr} (h : ¬ P a) : maskH P H a = H a := by
  unfold maskH
  rw [if_neg h]
theorem maskH_at {P : APred} {H : Hp} {a : Addr} (h : P a) : maskH P H a = none := by
  unfold maskH
  rw [if_pos h]
theorem maskH_none {P : APred} {H : Hp} {a : Addr} (h : maskH P H a = none) : P a ∨ H a = none := by
  by_cases z : P a
  · exact .inl z
  · rw [maskH_of z] at h
    exact .inr h

section
variable {k : KX} {M M1 M2 T T2 : APred} {L : LN} {H0 H H1 H2 : Hp} {env env1 env2 : Ev} {σ : St}
theorem Fr.own_tracked (F : Fr k M L H0 env σ H) {a : Addr} (h : OwnA env σ a) : ∃ o, H a = some o := by
  obtain ⟨i, s, e, hp, hv⟩ := h
  have q := F.slot i s e
  rw [hv] at q
  cases s with
  | own ds =>
    obtain ⟨b, xs, e1, e2, _⟩ := q
    cases e1
    exact ⟨_, e2⟩
  | ownd ks ds =>
    obtain ⟨b, xs, e1, e2, _⟩ := q
    cases e1
    exact ⟨_, e2⟩
  | _ => cases hp
theorem Fr.bd_tracked (F : Fr k M L H0 env σ H) {a : Addr} (h : Bd M env σ a) : ∃ o, H a = some o := by
  rcases h with h | h
  · exact F.mt a h
  · exact F.own_tracked h
theorem SlotOk.grow {k : KX} {B B' : APred} {L : LN} {H H' : Hp} (g : Grow B B' H H') (s : Slot) (v : Option (Option V)) (h : SlotOk k B L H s v)
    (hk : ∀ a o, (s.isOwn ∨ s.isLnt ∨ s.isBor) → v = some (some (.ref a)) → H a = some o → H' a = some o) : SlotOk k B' L H' s v := by
  cases s with
  | un => trivial
  | val d =>
    obtain ⟨x, e, r⟩ := h
    exact ⟨x, e, Rep.grow g _ _ r⟩
  | own ds =>
    obtain ⟨a, xs, e, e1, r⟩ := h
    exact ⟨a, xs, e, hk a _ (.inl trivial) e e1, RepL.grow g _ _ r⟩
  | ownd ks ds =>
    obtain ⟨a, xs, e, e1, hl, r⟩ := h
    exact ⟨a, xs, e, hk a _ (.inl trivial) e e1, hl, RepL.grow g _ _ r⟩
  | lnt ds =>
    obtain ⟨a, xs, e, la, e1, r⟩ := h
    exact ⟨a, xs, e, la, hk a _ (.inr (.inl trivial)) e e1, RepL.grow g _ _ r⟩
  | bor ds =>
    obtain ⟨a, xs, e, la, e1, r⟩ := h
    exact ⟨a, xs, e, la, hk a _ (.inr (.inr trivial)) e e1, RepL.grow g _ _ r⟩
/-- the heap grows, nothing that is tracked changes; fewer or more are hidden (those new) -/
theorem Fr.same (F : Fr k M L H0 env σ H) (s : Same H H2) (hm : ∀ a, M2 a → M a ∨ H a = none) (hl : ∀ a, L.l a → M2 a) (ht : ∀ a, M2 a → ∃ o, H2 a = some o)
    (hf : ∀ a, M2 a → ¬ M a → ¬ OwnA env σ a) : Fr k M2 L H0 env σ H2 where
  len := F.len
  slot := fun i sl e => (F.slot i sl e).grow
    ⟨fun a o _ h => s a o h, fun a h => by
      rcases h with h | h
      · rcases hm a h with z | z
        · exact .inl (.inl z)
        · exact .inr z
      · exact .inl (.inr h)⟩ _ _ (fun a o _ _ h => s a o h)
  inj := F.inj
  linj := F.linj
  fresh := fun a h => ⟨(F.fresh a h).1, fun z => by
    by_cases q : M a
    · exact (F.fresh a h).2.1 q
    · exact hf a z q h, (F.fresh a h).2.2⟩
  lm := hl
  ln := F.ln
  mt := ht
  nt := fun a h => let ⟨o, e⟩ := F.nt a h; ⟨o, s a o e⟩
  keep := fun a o h nl => s a o (F.keep a o h nl)
/-- the entry heap is told anew: all but the own slots' -/
theorem Fr.pin (F : Fr k M L H0 env σ H) : Fr k M L (maskH (OwnA env σ) H) env σ H :=
  ⟨F.len, F.slot, F.inj, F.linj, fun a h => ⟨maskH_at h, (F.fresh a h).2⟩, F.lm, F.ln, F.mt, F.nt, fun a o h _ => (maskH_some h).2⟩
theorem Fr.base_none (F1 : Fr k M L H0 env σ H) {a : Addr} (h : maskH (OwnA env σ) H a = none) (nm : ¬ M a) : H0 a = none := by
  cases q : H0 a with
  | none => rfl
  | some o =>
    have nl : ¬ L.l a := fun z => nm (F1.lm a z)
    have e := F1.keep a o q nl
    rcases maskH_none h with z | z
    · rw [(F1.fresh a z).1] at q
      cases q
    · rw [e] at z
      cases z
theorem Fr.rebase (F1 : Fr k M1 L H0 env1 σ H1) (F2 : Fr k M2 L (maskH (OwnA env1 σ) H1) env2 σ H2) (hm : ∀ a, M1 a → M2 a) : Fr k M2 L H0 env2 σ H2 :=
  ⟨F2.len, F2.slot, F2.inj, F2.linj, fun a h => ⟨F1.base_none (F2.fresh a h).1 fun z => (F2.fresh a h).2.1 (hm a z), (F2.fresh a h).2⟩, F2.lm, F2.ln, F2.mt, F2.nt, fun a o h nl => by
    have e := F1.keep a o h nl
    refine F2.keep a o ?_ nl
    rw [maskH_of fun z => by rw [(F1.fresh a z).1] at h; cases h]
    exact e⟩
theorem Post.grow (P1 : Post k M L H0 env1 σ T H1) (P2 : Post k (Or2 M T) L (maskH (OwnA env1 σ) H1) env2 σ T2 H2) : Grow (Bd (Or2 M T) env1 σ) (Bd (Or2 (Or2 M T) T2) env2 σ) H1 H2 where
  kp := fun a o nb h => by
    refine P2.fr.keep a o ?_ fun z => nb (.inl (P1.fr.lm a z))
    rw [maskH_of fun z => nb (.inr z)]
    exact h
  nb := fun a h => by
    rcases h with (h | h) | h
    · exact .inl (.inl h)
    · rcases maskH_none (P2.tf a h).1 with z | z
      · exact .inl (.inr z)
      · exact .inr z
    · rcases maskH_none (P2.fr.fresh a h).1 with z | z
      · exact .inl (.inr z)
      · exact .inr z
theorem Post.trans (P1 : Post k M L H0 env1 σ T H1) (P2 : Post k (Or2 M T) L (maskH (OwnA env1 σ) H1) env2 σ T2 H2) : Post k M L H0 env2 σ (Or2 T T2) H2 where
  tf := fun a h => by
    rcases h with h | h
    · exact P1.tf a h
    · exact ⟨P1.fr.base_none (P2.tf a h).1 (P2.tf a h).2.1, fun z => (P2.tf a h).2.1 (.inl z), (P2.tf a h).2.2⟩
  lm := P1.lm
  fr := by
    have F := P1.fr.rebase P2.fr fun a h => .inl h
    have e : Or2 (Or2 M T) T2 = Or2 M (Or2 T T2) := by
      funext a
      exact propext or_assoc
    rw [← e]
    exact F
theorem bd_assoc : Bd (Or2 (Or2 M T) T2) env σ = Bd (Or2 M (Or2 T T2)) env σ := by
  funext a
  exact propext (or_congr or_assoc Iff.rfl)
theorem OpdOk.grow (P1 : Post k M L H0 env1 σ T H1) (P2 : Post k (Or2 M T) L (maskH (OwnA env1 σ) H1) env2 σ T2 H2) {r : ER} {v : V} (h : OpdOk k (Bd (Or2 M T) env1 σ) T σ H1 r v) :
    OpdOk k (Bd (Or2 M (Or2 T T2)) env2 σ) (Or2 T T2) σ H2 r v := by
  have g := P1.grow P2
  rw [bd_assoc] at g
  have kt : ∀ p o, T p → H1 p = some o → H2 p = some o := fun p o tp h => by
    refine P2.fr.keep p o ?_ fun z => (P1.tf p tp).2.1 (P1.lm p z)
    rw [maskH_of fun z => (P1.fr.fresh p z).2.1 (.inr tp)]
    exact h
  cases r with
  | val d => exact Rep.grow g _ _ h
  | own ds =>
    obtain ⟨p, xs, e, tp, e1, r⟩ := h
    exact ⟨p, xs, e, .inl tp, kt p _ tp e1, RepL.grow g _ _ r⟩
  | ownd ks ds =>
    obtain ⟨p, xs, e, tp, e1, hl, r⟩ := h
    exact ⟨p, xs, e, .inl tp, kt p _ tp e1, hl, RepL.grow g _ _ r⟩
  | ref i => exact h
theorem OpdL.grow (P1 : Post k M L H0 env1 σ T H1) (P2 : Post k (Or2 M T) L (maskH (OwnA env1 σ) H1) env2 σ T2 H2) : ∀ {rs : List ER} {vs : List V}, OpdL k (Bd (Or2 M T) env1 σ) T σ H1 rs vs →
    OpdL k (Bd (Or2 M (Or2 T T2)) env2 σ) (Or2 T T2) σ H2 rs vs
  | [], _, h => h
  | r :: rs, _, h => by
    obtain ⟨y, ys, e, h1, h2⟩ := h
    exact ⟨y, ys, e, OpdOk.grow P1 P2 h1, OpdL.grow P1 P2 h2⟩
end
end VL
namespace VL
open PySem PySem.Spec L2

/-! ## primitives by value -/
abbrev PW := List D → (ER → Prop) → Prop
def RepP (k : KX) (B : APred) (H : Hp) : D → V → Prop
  | .lst ds, v => ∃ a xs, v = .ref a ∧ H a = some (.lst xs) ∧ RepL k B H ds xs
  | .dic ks ds, v => ∃ a xs, v = .ref a ∧ H a = some (.dK (ks.zip xs)) ∧ ks.length = xs.length ∧ RepL k B H ds xs
  | d, v => Rep k B H d v
def RepPL (k : KX) (B : APred) (H : Hp) : List D → List V → Prop
  | [], vs => vs = []
  | d :: ds, vs => ∃ y ys, vs = y :: ys ∧ RepP k B H d y ∧ RepPL k B H ds ys
def PrimPost (k : KX) (B : APred) (H : Hp) : ER → V → Hp → Prop
  | .val d, v, H' => Same H H' ∧ Rep k B H' d v
  | .own ds, v, H' => ∃ p xs, v = .ref p ∧ H p = none ∧ H' p = some (.lst xs) ∧ Same H H' ∧ RepL k (fun a => B a ∨ a = p) H' ds xs
  | .ownd ks ds, v, H' => ∃ p xs, v = .ref p ∧ H p = none ∧ H' p = some (.dK (ks.zip xs)) ∧ ks.length = xs.length ∧ Same H H' ∧ RepL k (fun a => B a ∨ a = p) H' ds xs
  | .ref _, _, _ => False
def rP (k : KX) (p : PW) : List V → Hp → VK → Prop := fun vs H Q =>
  ∃ (B : APred) (ds : List D) (W : ER → Prop), (∀ a, B a → ∃ o, H a = some o) ∧ RepPL k B H ds vs ∧ p ds W ∧ ∀ r v H', W r → PrimPost k B H r v H' → Q v H'

section
variable {k : KX} {B : APred} {H H' : Hp} {x y z : V} {d e f : D}
theorem Rep.p (h : Rep k B H d x) : RepP k B H d x := by
  cases d with
  | lst ds =>
    obtain ⟨a, xs, e, _, h1, h2⟩ := h
    exact ⟨a, xs, e, h1, h2⟩
  | dic ks ds =>
    obtain ⟨a, xs, e, _, h1, h2⟩ := h
    exact ⟨a, xs, e, h1, h2⟩
  | _ => exact h
theorem RepL.p : ∀ {ds : List D} {vs : List V}, RepL k B H ds vs → RepPL k B H ds vs
  | [], _, h => h
  | d :: ds, _, h => by
    obtain ⟨y, ys, e, h1, h2⟩ := h
    exact ⟨y, ys, e, h1.p, RepL.p h2⟩
theorem rp1 (h : RepPL k B H [d] [x]) : RepP k B H d x := by
  obtain ⟨_, _, e, h1, _⟩ := h
  cases e
  exact h1
theorem rp2 (h : RepPL k B H [d, e] [x, y]) : RepP k B H d x ∧ RepP k B H e y := by
  obtain ⟨_, _, e, h1, h2⟩ := h
  cases e
  exact ⟨h1, rp1 h2⟩
theorem rp3 (h : RepPL k B H [d, e, f] [x, y, z]) : RepP k B H d x ∧ RepP k B H e y ∧ RepP k B H f z := by
  obtain ⟨_, _, e, h1, h2⟩ := h
  cases e
  exact ⟨h1, rp2 h2⟩
theorem RepPL.len : ∀ {ds : List D} {vs : List V}, RepPL k B H ds vs → ds.length = vs.length
  | [], _, h => by
    rw [show _ = [] from h]
    rfl
  | d :: ds, _, h => by
    obtain ⟨y, ys, e, _, h2⟩ := h
    rw [e, List.length_cons, List.length_cons, RepPL.len h2]
theorem same_new {p : Addr} {o : HO} (h : H p = none) : Same H (upd H p o) := fun b u e => by
  rw [upd_ne (ne_of_none e h)]
  exact e
theorem grow_same (s : Same H H') : Grow B B H H' := ⟨fun a o _ h => s a o h, fun a h => .inl h⟩
theorem grow_new {p : Addr} {o : HO} (h : H p = none) : Grow B B H (upd H p o) := grow_same (same_new h)
theorem pp_own {p : Addr} {xs : List V} {ds : List D} (h : H p = none) (r : RepL k B H ds xs) : PrimPost k B H (.own ds) (.ref p) (upd H p (.lst xs)) :=
  ⟨p, xs, rfl, h, upd_same, same_new h, RepL.grow ⟨fun a o _ e => same_new h a o e, fun a e => e.elim .inl fun z => .inr (by rw [z]; exact h)⟩ _ _ r⟩
theorem pp_tup {p : Addr} {xs : List V} {ds : List D} (ht : ∀ a, B a → ∃ o, H a = some o) (h : H p = none) (r : RepL k B H ds xs) : PrimPost k B H (.val (.tup ds)) (.ref p) (upd H p (.tup xs)) :=
  have nb : ¬ B p := fun z => by
    obtain ⟨o, e⟩ := ht p z
    rw [h] at e
    cases e
  ⟨same_new h, p, xs, rfl, Or.inl ⟨nb, Or.inl upd_same⟩, RepL.grow (grow_new h) _ _ r⟩
theorem repl_ints : ∀ {ds : List D} {vs : List V} {ns : List Int}, RepL k B H ds vs → ds = ns.map D.int → vs = ns.map V.int
  | _, _, [], h, e => by
    subst e
    exact h
  | _, _, n :: ns, h, e => by
    subst e
    obtain ⟨y, ys, rfl, h1, h2⟩ := h
    rw [List.map_cons, repl_ints h2 rfl]
    congr 1
theorem repl_strs : ∀ {ds : List D} {vs : List V} {ns : List Str}, RepL k B H ds vs → ds = ns.map D.str → vs = ns.map V.str
  | _, _, [], h, e => by
    subst e
    exact h
  | _, _, n :: ns, h, e => by
    subst e
    obtain ⟨y, ys, rfl, h1, h2⟩ := h
    rw [List.map_cons, repl_strs h2 rfl]
    congr 1
theorem repl_bls : ∀ {ds : List D} {vs : List V} {ns : List Bool}, RepL k B H ds vs → ds = ns.map D.bl → vs = ns.map V.bl
  | _, _, [], h, e => by
    subst e
    exact h
  | _, _, n :: ns, h, e => by
    subst e
    obtain ⟨y, ys, rfl, h1, h2⟩ := h
    rw [List.map_cons, repl_bls h2 rfl]
    congr 1
theorem repl_map {α : Type} {f : α → D} {g : α → V} (hf : ∀ a, Rep k B H (f a) (g a)) : ∀ l : List α, RepL k B H (l.map f) (l.map g)
  | [] => rfl
  | a :: l => ⟨_, _, rfl, hf a, repl_map hf l⟩
theorem repl_rep {ds : List D} {vs : List V} (h : RepL k B H ds vs) : ∀ n : Nat, RepL k B H (List.replicate n ds).flatten (List.replicate n vs).flatten
  | 0 => rfl
  | n + 1 => by
    rw [List.replicate_succ, List.replicate_succ, List.flatten_cons, List.flatten_cons]
    exact h.append (repl_rep h n)
end

/-! ### operators -/
def pwAdd : PW := fun ds Q => match ds with
  | [.int a, .int b] => Q (.val (.int (a + b)))
  | [.str a, .str b] => a.length + b.length ≤ 100000 ∧ Q (.val (.str (a ++ b)))
  | [.lst a, .lst b] => a.length + b.length ≤ 100000 ∧ Q (.own (a ++ b))
  | [.tup a, .tup b] => a.length + b.length ≤ 100000 ∧ Q (.val (.tup (a ++ b)))
  | _ => False
def pwSub : PW := fun ds Q => match ds with
  | [.int a, .int b] => Q (.val (.int (a - b)))
  | _ => False
def pwMul : PW := fun ds Q => match ds with
  | [.int a, .int b] => ((-(2 ^ 64) < a ∧ a < 2 ^ 64) ∨ (-(2 ^ 64) < b ∧ b < 2 ^ 64)) ∧ Q (.val (.int (a * b)))
  | [.lst a, .int b] => 0 ≤ b ∧ b ≤ 1000 ∧ a.length ≤ 100 ∧ Q (.own (List.replicate b.toNat a).flatten)
  | [.str a, .int b] => 0 ≤ b ∧ b ≤ 1000 ∧ a.length ≤ 100 ∧ Q (.val (.str (Txt.mul a b)))
  | _ => False
def pwDiv : PW := fun ds Q => match ds with
  | [.int a, .int b] => 0 < b ∧ b < 1073741824 ∧ Q (.val (.int (a / b)))
  | _ => False
def pwMod : PW := fun ds Q => match ds with
  | [.int a, .int b] => 0 < b ∧ Q (.val (.int (a % b)))
  | _ => False
def pwPow : PW := fun ds Q => match ds with
  | [.int a, .int b] => 0 ≤ b ∧ b ≤ 1000 ∧ a.natAbs < 2 ^ 256 ∧ Q (.val (.int (a ^ b.toNat)))
  | _ => False
def pwShl : PW := fun ds Q => match ds with
  | [.int a, .int b] => 0 ≤ b ∧ b ≤ 1000 ∧ a.natAbs < 2 ^ 64 ∧ Q (.val (.int (a * 2 ^ b.toNat)))
  | _ => False
def pwShr : PW := fun ds Q => match ds with
  | [.int a, .int b] => 0 ≤ b ∧ Q (.val (.int (a / 2 ^ b.toNat)))
  | _ => False
def pwAnd : PW := fun ds Q => match ds with
  | [.int a, .int b] => Q (.val (.int (Builtin.bitAnd a b)))
  | _ => False
def pwOr : PW := fun ds Q => match ds with
  | [.int a, .int b] => Q (.val (.int (Builtin.bitOr a b)))
  | _ => False
def pwXor : PW := fun ds Q => match ds with
  | [.int a, .int b] => Q (.val (.int (Builtin.bitXor a b)))
  | _ => False
def pwNever : PW := fun _ _ => False
def pwBin : Operator → PW
  | .Add => pwAdd
  | .Sub => pwSub
  | .Mult => pwMul
  | .FloorDiv => pwDiv
  | .Mod => pwMod
  | .Pow => pwPow
  | .LShift => pwShl
  | .RShift => pwShr
  | .BitAnd => pwAnd
  | .BitOr => pwOr
  | .BitXor => pwXor
  | _ => pwNever

section
variable {X : Cx} {k : KX} {f : Value → Value → Sem Value} {p : PW}
abbrev rP2 (k : KX) (p : PW) : R2 := fun x y H Q => rP k p [x, y] H Q
/-- a two-place operation, its case told when the data are seen -/
theorem or_mk (h : ∀ (d e : D) (x y : V) (B : APred) (H : Hp) (W : ER → Prop) (Q : VK), (∀ a, B a → ∃ o, H a = some o) → RepP k B H d x → RepP k B H e y → p [d, e] W →
    (∀ r v H', W r → PrimPost k B H r v H' → Q v H') → ∃ r2 : R2, OpR X f r2 ∧ r2 x y H Q) : OpR X f (rP2 k p) := by
  intro pins s σ H x y v u Q I rx ry hp
  obtain ⟨B, ds, W, ht, hr, hw, hq⟩ := hp
  have hl := hr.len
  match ds, hl, hr, hw with
  | [d, e], _, hr, hw =>
    obtain ⟨h1, h2⟩ := rp2 hr
    obtain ⟨r2, o, q⟩ := h d e x y B H W Q ht h1 h2 hw hq
    exact o pins s σ H x y v u Q I rx ry q
theorem sz5 {n : Nat} (h : n ≤ 100000) : n ≤ sizeLine := Nat.le_trans h (by decide)
theorem szl5 {n : Nat} (h : n < 100000) : n < sizeLine := Nat.lt_of_lt_of_le h (by decide)
theorem or_add (hk : k.K = X.K) : OpR X (binaryOp .Add) (rP2 k pwAdd) := or_mk fun d e x y B H W Q ht h1 h2 hp hq => by
  unfold pwAdd at hp
  split at hp
  · rename_i a b e
    cases e
    exact ⟨_, op_add, a, b, h1, h2, hq _ _ _ hp ⟨Same.refl _, rfl⟩⟩
  · rename_i a b e
    cases e
    exact ⟨_, op_add_str, a, b, h1, h2, sz5 hp.1, hq _ _ _ hp.2 ⟨Same.refl _, rfl⟩⟩
  · rename_i a b e
    cases e
    obtain ⟨l, xs, e1, h1, r1⟩ := h1
    obtain ⟨m, ys, e2, h2, r2⟩ := h2
    have hl : xs.length + ys.length ≤ 100000 := by
      rw [← r1.len, ← r2.len]
      exact hp.1
    exact ⟨_, op_cat, l, m, xs, ys, e1, e2, h1, h2, sz5 hl, fun p hn => hq _ _ _ hp.2 (pp_own hn (r1.append r2))⟩
  · rename_i a b e
    cases e
    obtain ⟨l, xs, e1, h1, r1⟩ := h1
    obtain ⟨m, ys, e2, h2, r2⟩ := h2
    have hl : xs.length + ys.length ≤ 100000 := by
      rw [← r1.len, ← r2.len]
      exact hp.1
    refine ⟨_, op_catA, l, m, xs, ys, e1, e2, ?_, ?_, sz5 hl, fun z => ?_, fun _ z => ?_, fun _ _ p hn => hq _ _ _ hp.2 (pp_tup ht hn (r1.append r2))⟩
    · rw [← hk]
      exact h1.sq
    · rw [← hk]
      exact h2.sq
    · subst z
      have z0 : a = [] := List.length_eq_zero_iff.mp (by rw [r1.len]; rfl)
      subst z0
      exact hq _ _ _ hp.2 ⟨Same.refl _, m, ys, rfl, h2, r2⟩
    · subst z
      have z0 : b = [] := List.length_eq_zero_iff.mp (by rw [r2.len]; rfl)
      subst z0
      have hq2 := hp.2
      rw [List.append_nil] at hq2
      exact hq _ _ _ hq2 ⟨Same.refl _, l, xs, rfl, h1, r1⟩
  · exact hp.elim
theorem or_int {g : Int → Int → ER → Prop} {C : Int → Int → Prop} {gv : Int → Int → Int} {p : PW} (o : OpR X f (rI C fun i j => .int (gv i j)))
    (hp : ∀ d e W, p [d, e] W → ∃ a b, d = .int a ∧ e = .int b ∧ C a b ∧ W (.val (.int (gv a b)))) : OpR X f (rP2 k p) := or_mk fun d e x y B H W Q ht h1 h2 hw hq => by
  obtain ⟨a, b, rfl, rfl, c, w⟩ := hp d e W hw
  exact ⟨_, o, a, b, h1, h2, c, hq _ _ _ w ⟨Same.refl _, rfl⟩⟩
theorem or_int0 {gv : Int → Int → Int} {p : PW} (o : OpR X f (rI0 fun i j => .int (gv i j)))
    (hp : ∀ d e W, p [d, e] W → ∃ a b, d = .int a ∧ e = .int b ∧ W (.val (.int (gv a b)))) : OpR X f (rP2 k p) := or_mk fun d e x y B H W Q ht h1 h2 hw hq => by
  obtain ⟨a, b, rfl, rfl, w⟩ := hp d e W hw
  exact ⟨_, o, a, b, h1, h2, hq _ _ _ w ⟨Same.refl _, rfl⟩⟩
theorem or_sub : OpR X (binaryOp .Sub) (rP2 k pwSub) := or_int0 op_sub fun d e W h => by
  unfold pwSub at h
  split at h
  · rename_i z
    cases z
    exact ⟨_, _, rfl, rfl, h⟩
  · exact h.elim
theorem or_div : OpR X (binaryOp .FloorDiv) (rP2 k pwDiv) := or_int (g := fun _ _ _ => True) op_fdiv fun d e W h => by
  unfold pwDiv at h
  split at h
  · rename_i z
    cases z
    exact ⟨_, _, rfl, rfl, ⟨h.1, h.2.1⟩, h.2.2⟩
  · exact h.elim
theorem or_mod : OpR X (binaryOp .Mod) (rP2 k pwMod) := or_int (g := fun _ _ _ => True) op_mod fun d e W h => by
  unfold pwMod at h
  split at h
  · rename_i z
    cases z
    exact ⟨_, _, rfl, rfl, h.1, h.2⟩
  · exact h.elim
theorem bits_le {a : Int} (h : a.natAbs < 2 ^ 256) : Builtin.Int.intBits a ≤ 256 := by
  unfold Builtin.Int.intBits
  split
  · omega
  · rename_i z
    have h0 : a.natAbs ≠ 0 := fun q => by
      apply z
      first
        | (simp only [q]; done)
        | (have q2 : a = 0 := Int.natAbs_eq_zero.mp q; subst q2; rfl)
        | exact q
    have h1 := (Nat.log2_lt h0).mpr h
    omega
def CPow2 (i j : Int) : Prop := 0 ≤ j ∧ j ≤ 1000 ∧ i.natAbs < 2 ^ 256
theorem op_pow2 : OpR X (binaryOp .Pow) (rI CPow2 fun i j => .int (i ^ j.toNat)) := opI fun i j _ _ _ _ _ hc q => PyProof.Rows.pow_int hc.1 (by
  have h := bits_le hc.2.2
  have h2 := hc.2.1
  have h3 := hc.1
  have h4 : (Builtin.Int.intBits i : Int) * j ≤ 256 * 1000 := Int.mul_le_mul (by omega) h2 h3 (by omega)
  omega) q
theorem or_pow : OpR X (binaryOp .Pow) (rP2 k pwPow) := or_int (g := fun _ _ _ => True) op_pow2 fun d e W h => by
  unfold pwPow at h
  split at h
  · rename_i z
    cases z
    exact ⟨_, _, rfl, rfl, ⟨h.1, h.2.1, h.2.2.1⟩, h.2.2.2⟩
  · exact h.elim
theorem or_shl : OpR X (binaryOp .LShift) (rP2 k pwShl) := or_int (g := fun _ _ _ => True) op_shl fun d e W h => by
  unfold pwShl at h
  split at h
  · rename_i z
    cases z
    exact ⟨_, _, rfl, rfl, ⟨h.1, by omega, h.2.2.1⟩, h.2.2.2⟩
  · exact h.elim
theorem or_shr : OpR X (binaryOp .RShift) (rP2 k pwShr) := or_int (g := fun _ _ _ => True) op_shr fun d e W h => by
  unfold pwShr at h
  split at h
  · rename_i z
    cases z
    exact ⟨_, _, rfl, rfl, h.1, h.2⟩
  · exact h.elim
theorem or_and : OpR X (binaryOp .BitAnd) (rP2 k pwAnd) := or_int0 op_and fun d e W h => by
  unfold pwAnd at h
  split at h
  · rename_i z
    cases z
    exact ⟨_, _, rfl, rfl, h⟩
  · exact h.elim
theorem or_or : OpR X (binaryOp .BitOr) (rP2 k pwOr) := or_int0 op_or fun d e W h => by
  unfold pwOr at h
  split at h
  · rename_i z
    cases z
    exact ⟨_, _, rfl, rfl, h⟩
  · exact h.elim
theorem or_xor : OpR X (binaryOp .BitXor) (rP2 k pwXor) := or_int0 op_xor fun d e W h => by
  unfold pwXor at h
  split at h
  · rename_i z
    cases z
    exact ⟨_, _, rfl, rfl, h⟩
  · exact h.elim
theorem op_strMul : OpR X (binaryOp .Mult) (fun x y H Q => ∃ z n, x = .str z ∧ y = .int n ∧ 0 ≤ n ∧ n ≤ 1000 ∧ z.length ≤ 100 ∧ Q (.str (Txt.mul z n)) H) := by
  intro pins s σ H x y v u Q I rx ry h
  obtain ⟨z, n, rfl, rfl, h0, h1, h2, q⟩ := h
  obtain ⟨t, rfl⟩ := rx
  obtain ⟨t', rfl⟩ := ry
  have hz : z.length * n.toNat ≤ 100000 := Nat.le_trans (Nat.mul_le_mul h2 (show n.toNat ≤ 1000 by omega)) (by decide)
  refine PySem.SB.mul ⟨?_, fun h3 _ => ?_, fun _ _ => ?_⟩ fun t' k => ⟨.str _, H, I.tok k, ⟨t', rfl⟩, q⟩
  · rw [Bool.or_eq_false_iff]
    exact ⟨decide_eq_false (by omega), decide_eq_false (by omega)⟩
  · have h4 : (2 ^ 63 - 1 : Int) / 1000 ≤ (2 ^ 63 - 1) / n := by
      apply Int.le_ediv_of_mul_le (by omega)
      have : (2 ^ 63 - 1 : Int) / 1000 * n ≤ (2 ^ 63 - 1 : Int) / 1000 * 1000 := Int.mul_le_mul_of_nonneg_left (by omega) (by decide)
      exact Int.le_trans this (by decide)
    have h5 : (2 ^ 63 - 1 : Int) / 1000 = 9223372036854775 := by decide
    omega
  · unfold Builtin.Str.tooLong
    exact decide_eq_false (by have := sz5 hz; omega)
theorem or_mul : OpR X (binaryOp .Mult) (rP2 k pwMul) := or_mk fun d e x y B H W Q ht h1 h2 hp hq => by
  unfold pwMul at hp
  split at hp
  · rename_i a b e
    cases e
    exact ⟨_, op_mul, a, b, h1, h2, hp.1, hq _ _ _ hp.2 ⟨Same.refl _, rfl⟩⟩
  · rename_i a b e
    cases e
    obtain ⟨l, xs, e1, h1, r1⟩ := h1
    have hl : xs.length * b.toNat ≤ 100000 := by
      rw [← r1.len]
      exact Nat.le_trans (Nat.mul_le_mul hp.2.2.1 (show b.toNat ≤ 1000 by omega)) (by decide)
    exact ⟨_, op_rep, l, b, xs, e1, h2, h1, by omega, by omega, sz5 hl, fun p hn => hq _ _ _ hp.2.2.2 (pp_own hn (repl_rep r1 _))⟩
  · rename_i a b e
    cases e
    exact ⟨_, op_strMul, a, b, h1, h2, hp.1, hp.2.1, hp.2.2.1, hq _ _ _ hp.2.2.2 ⟨Same.refl _, rfl⟩⟩
  · exact hp.elim
theorem or_never {op : Operator} : OpR X (binaryOp op) (rP2 k pwNever) := or_mk fun d e x y B H W Q ht h1 h2 hp hq => hp.elim
theorem or_bin (hk : k.K = X.K) : ∀ op : Operator, OpR X (binaryOp op) (rP2 k (pwBin op))
  | .Add => or_add hk
  | .Sub => or_sub
  | .Mult => or_mul
  | .FloorDiv => or_div
  | .Mod => or_mod
  | .Pow => or_pow
  | .LShift => or_shl
  | .RShift => or_shr
  | .BitAnd => or_and
  | .BitOr => or_or
  | .BitXor => or_xor
  | .MatMult => or_never
  | .Div => or_never
end
end VL
namespace VL
open PySem PySem.Spec L2

/-! ### data as the library's data, for == at any depth -/
mutual
def D.py : D → PyData
  | .non => .none
  | .bl b => .bool b
  | .int i => .int i
  | .str s => .str s
  | .tup ds => .tuple (D.pyL ds)
  | .lst ds => .list (D.pyL ds)
  | .frl ds => .list (D.pyL ds)
  | .dic _ _ => .none
  | .obj _ _ => .none
def D.pyL : List D → List PyData
  | [] => []
  | d :: ds => D.py d :: D.pyL ds
end
mutual
def D.plain : D → Bool
  | .tup ds => D.plainL ds
  | .lst ds => D.plainL ds
  | .frl ds => D.plainL ds
  | .dic _ _ => false
  | .obj _ _ => false
  | _ => true
def D.plainL : List D → Bool
  | [] => true
  | d :: ds => D.plain d && D.plainL ds
end
/-- data that == may be asked of -/
def D.ok (d : D) : Prop := d.plain = true ∧ SeqAt.shaped d.py = true
def D.isNon : D → Bool
  | .non => true
  | _ => false
section
variable {k : KX} {B : APred} {H : Hp}
mutual
theorem dp_of : ∀ (d : D) (v : V), d.plain = true → Rep k B H d v → Dp k.K H v d.py
  | .non, _, _, h => by
    rw [show _ = V.non from h]
    exact .non
  | .bl b, _, _, h => by
    rw [show _ = V.bl b from h]
    exact .bl b
  | .int i, _, _, h => by
    rw [show _ = V.int i from h]
    exact .int i
  | .str s, _, _, h => by
    rw [show _ = V.str s from h]
    exact .str s
  | .tup ds, _, hp, h => by
    obtain ⟨a, xs, e, h1, h2⟩ := h
    rw [e]
    exact .tup h1.sq (dp_all ds xs hp h2)
  | .lst ds, _, hp, h => by
    obtain ⟨a, xs, e, _, h1, h2⟩ := h
    rw [e]
    exact .lst (.inl (.inl h1)) (dp_all ds xs hp h2)
  | .frl ds, _, hp, h => by
    obtain ⟨a, xs, e, h1, h2⟩ := h
    rw [e]
    exact .lst h1.sq (dp_all ds xs hp h2)
  | .dic _ _, _, hp, _ => nomatch hp
  | .obj _ _, _, hp, _ => nomatch hp
theorem dp_all : ∀ (ds : List D) (vs : List V), D.plainL ds = true → RepL k B H ds vs → DpAll k.K H vs (D.pyL ds)
  | [], _, _, h => by
    rw [show _ = [] from h]
    exact .nil
  | d :: ds, _, hp, h => by
    obtain ⟨y, ys, e, h1, h2⟩ := h
    have q := Bool.and_eq_true_iff.mp (show (d.plain && D.plainL ds) = true from hp)
    rw [e]
    exact .cons (dp_of d y q.1 h1) (dp_all ds ys q.2 h2)
end
theorem dpP_of {d : D} {v : V} (hp : d.plain = true) (h : RepP k B H d v) : Dp k.K H v d.py := by
  cases d with
  | lst ds =>
    obtain ⟨a, xs, e, h1, h2⟩ := h
    rw [e]
    exact .lst (.inl (.inl h1)) (dp_all ds xs hp h2)
  | dic ks ds => exact nomatch hp
  | _ => exact dp_of (B := B) _ _ hp h
theorem isNon_of {d : D} {v : V} (h : RepP k B H d v) : decide (v = .non) = d.isNon := by
  cases d with
  | non => rw [show v = V.non from h]; rfl
  | bl b => rw [show v = V.bl b from h]; rfl
  | int i => rw [show v = V.int i from h]; rfl
  | str s => rw [show v = V.str s from h]; rfl
  | tup ds =>
    obtain ⟨a, xs, e, _⟩ := h
    rw [e]; rfl
  | lst ds =>
    obtain ⟨a, xs, e, _⟩ := h
    rw [e]; rfl
  | frl ds =>
    obtain ⟨a, xs, e, _⟩ := h
    rw [e]; rfl
  | dic ks ds =>
    obtain ⟨a, xs, e, _⟩ := h
    rw [e]; rfl
  | obj ks ds =>
    obtain ⟨a, dx, xs, e, _⟩ := h
    rw [e]; rfl
end

/-! ### comparisons -/
def pwEq : PW := fun ds Q => match ds with
  | [.int a, .int b] => Q (.val (.bl (decide (a = b))))
  | [.str a, .str b] => Q (.val (.bl (decide (a = b))))
  | [.bl a, .bl b] => Q (.val (.bl (decide (a = b))))
  | [d, e] => d.ok ∧ e.ok ∧ Q (.val (.bl (PyData.eqv d.py e.py)))
  | _ => False
def pwNe : PW := fun ds Q => match ds with
  | [.int a, .int b] => Q (.val (.bl (!decide (a = b))))
  | [.str a, .str b] => Q (.val (.bl (!decide (a = b))))
  | [.bl a, .bl b] => Q (.val (.bl (!decide (a = b))))
  | [d, e] => d.ok ∧ e.ok ∧ Q (.val (.bl (!PyData.eqv d.py e.py)))
  | _ => False
def pwLt : PW := fun ds Q => match ds with
  | [.int a, .int b] => Q (.val (.bl (decide (a < b))))
  | _ => False
def pwLe : PW := fun ds Q => match ds with
  | [.int a, .int b] => Q (.val (.bl (decide (a ≤ b))))
  | _ => False
def pwGt : PW := fun ds Q => match ds with
  | [.int a, .int b] => Q (.val (.bl (decide (b < a))))
  | _ => False
def pwGe : PW := fun ds Q => match ds with
  | [.int a, .int b] => Q (.val (.bl (decide (b ≤ a))))
  | _ => False
def pwIs : PW := fun ds Q => match ds with
  | [d, .non] => Q (.val (.bl d.isNon))
  | _ => False
def pwIsNot : PW := fun ds Q => match ds with
  | [d, .non] => Q (.val (.bl (!d.isNon)))
  | _ => False
def D.flat : D → Bool
  | .non => true
  | .bl _ => true
  | .int _ => true
  | .str _ => true
  | _ => false
def eqF : D → D → Bool
  | .non, .non => true
  | .bl a, .bl b => a == b
  | .bl a, .int b => (if a then 1 else 0) == b
  | .int a, .bl b => a == (if b then 1 else 0)
  | .int a, .int b => a == b
  | .str a, .str b => a == b
  | _, _ => false
def D.key : D → Option Key
  | .int i => some (.inl i)
  | .str s => some (.inr s)
  | _ => none
/-- x in c: the answer -/
def inD : D → D → Option Bool
  | d, .dic ks _ => match d.key with
    | some q => some (ks.any fun c => decide (c = q))
    | none => none
  | d, .tup es => if d.flat && es.all D.flat then some (es.any fun e => eqF e d) else none
  | d, .lst es => if d.flat && es.all D.flat then some (es.any fun e => eqF e d) else none
  | .str x, .str z => match x.cps.toList with
    | [c] => some (decide (c ∈ z.cps.toList))
    | _ => none
  | _, _ => none
def pwIn : PW := fun ds Q => match ds with
  | [d, e] => ∃ b, inD d e = some b ∧ Q (.val (.bl b))
  | _ => False
def pwNotIn : PW := fun ds Q => match ds with
  | [d, e] => ∃ b, inD d e = some b ∧ Q (.val (.bl (!b)))
  | _ => False
def pwCmp : CmpOp → PW
  | .Eq => pwEq
  | .NotEq => pwNe
  | .Lt => pwLt
  | .LtE => pwLe
  | .Gt => pwGt
  | .GtE => pwGe
  | .Is => pwIs
  | .IsNot => pwIsNot
  | .In => pwIn
  | .NotIn => pwNotIn

section
variable {X : Cx} {k : KX} {f : Value → Value → Sem Value} {p : PW}
theorem or_eq (hk : k.K = X.K) (hu : X.A.units + 64 < cLine) : OpR X (compareOp .Eq) (rP2 k pwEq) := or_mk fun d e x y B H W Q ht h1 h2 hp hq => by
  unfold pwEq at hp
  split at hp
  · rename_i a b z
    cases z
    cases (show x = V.int a from h1)
    cases (show y = V.int b from h2)
    refine ⟨_, op_eq, rfl, ?_⟩
    have e0 : decide (V.int a = V.int b) = decide (a = b) := decide_eq_decide.mpr ⟨fun q => V.int.inj q, fun q => by rw [q]⟩
    rw [e0]
    exact hq _ _ _ hp ⟨Same.refl _, rfl⟩
  · rename_i a b z
    cases z
    cases (show x = V.str a from h1)
    cases (show y = V.str b from h2)
    refine ⟨_, op_eq, rfl, ?_⟩
    have e0 : decide (V.str a = V.str b) = decide (a = b) := decide_eq_decide.mpr ⟨fun q => V.str.inj q, fun q => by rw [q]⟩
    rw [e0]
    exact hq _ _ _ hp ⟨Same.refl _, rfl⟩
  · rename_i a b z
    cases z
    cases (show x = V.bl a from h1)
    cases (show y = V.bl b from h2)
    refine ⟨_, op_eq, rfl, ?_⟩
    have e0 : decide (V.bl a = V.bl b) = decide (a = b) := decide_eq_decide.mpr ⟨fun q => V.bl.inj q, fun q => by rw [q]⟩
    rw [e0]
    exact hq _ _ _ hp ⟨Same.refl _, rfl⟩
  · rename_i z
    cases z
    refine ⟨_, op_eqD hu, _, _, ?_, ?_, hp.1.2, hp.2.1.2, hq _ _ _ hp.2.2 ⟨Same.refl _, rfl⟩⟩
    · rw [← hk]
      exact dpP_of hp.1.1 h1
    · rw [← hk]
      exact dpP_of hp.2.1.1 h2
  · exact hp.elim
theorem or_ne (hk : k.K = X.K) (hu : X.A.units + 64 < cLine) : OpR X (compareOp .NotEq) (rP2 k pwNe) := or_mk fun d e x y B H W Q ht h1 h2 hp hq => by
  unfold pwNe at hp
  split at hp
  · rename_i a b z
    cases z
    cases (show x = V.int a from h1)
    cases (show y = V.int b from h2)
    refine ⟨_, op_ne, rfl, ?_⟩
    have e0 : decide (V.int a = V.int b) = decide (a = b) := decide_eq_decide.mpr ⟨fun q => V.int.inj q, fun q => by rw [q]⟩
    rw [e0]
    exact hq _ _ _ hp ⟨Same.refl _, rfl⟩
  · rename_i a b z
    cases z
    cases (show x = V.str a from h1)
    cases (show y = V.str b from h2)
    refine ⟨_, op_ne, rfl, ?_⟩
    have e0 : decide (V.str a = V.str b) = decide (a = b) := decide_eq_decide.mpr ⟨fun q => V.str.inj q, fun q => by rw [q]⟩
    rw [e0]
    exact hq _ _ _ hp ⟨Same.refl _, rfl⟩
  · rename_i a b z
    cases z
    cases (show x = V.bl a from h1)
    cases (show y = V.bl b from h2)
    refine ⟨_, op_ne, rfl, ?_⟩
    have e0 : decide (V.bl a = V.bl b) = decide (a = b) := decide_eq_decide.mpr ⟨fun q => V.bl.inj q, fun q => by rw [q]⟩
    rw [e0]
    exact hq _ _ _ hp ⟨Same.refl _, rfl⟩
  · rename_i z
    cases z
    refine ⟨_, op_neD hu, _, _, ?_, ?_, hp.1.2, hp.2.1.2, hq _ _ _ hp.2.2 ⟨Same.refl _, rfl⟩⟩
    · rw [← hk]
      exact dpP_of hp.1.1 h1
    · rw [← hk]
      exact dpP_of hp.2.1.1 h2
  · exact hp.elim
theorem or_bool {gv : Int → Int → Bool} {p : PW} (o : OpR X f (rI0 fun i j => .bl (gv i j)))
    (hp : ∀ d e W, p [d, e] W → ∃ a b, d = .int a ∧ e = .int b ∧ W (.val (.bl (gv a b)))) : OpR X f (rP2 k p) := or_mk fun d e x y B H W Q ht h1 h2 hw hq => by
  obtain ⟨a, b, rfl, rfl, w⟩ := hp d e W hw
  exact ⟨_, o, a, b, h1, h2, hq _ _ _ w ⟨Same.refl _, rfl⟩⟩
theorem or_lt : OpR X (compareOp .Lt) (rP2 k pwLt) := or_bool op_lt fun d e W h => by
  unfold pwLt at h
  split at h
  · rename_i z
    cases z
    exact ⟨_, _, rfl, rfl, h⟩
  · exact h.elim
theorem or_le : OpR X (compareOp .LtE) (rP2 k pwLe) := or_bool op_le fun d e W h => by
  unfold pwLe at h
  split at h
  · rename_i z
    cases z
    exact ⟨_, _, rfl, rfl, h⟩
  · exact h.elim
theorem or_gt : OpR X (compareOp .Gt) (rP2 k pwGt) := or_bool op_gt fun d e W h => by
  unfold pwGt at h
  split at h
  · rename_i z
    cases z
    exact ⟨_, _, rfl, rfl, h⟩
  · exact h.elim
theorem or_ge : OpR X (compareOp .GtE) (rP2 k pwGe) := or_bool op_ge fun d e W h => by
  unfold pwGe at h
  split at h
  · rename_i z
    cases z
    exact ⟨_, _, rfl, rfl, h⟩
  · exact h.elim
theorem or_is : OpR X (compareOp .Is) (rP2 k pwIs) := or_mk fun d e x y B H W Q ht h1 h2 hp hq => by
  unfold pwIs at hp
  split at hp
  · rename_i z
    cases z
    refine ⟨_, op_isN, h2, ?_⟩
    rw [isNon_of h1]
    exact hq _ _ _ hp ⟨Same.refl _, rfl⟩
  · exact hp.elim
theorem or_isNot : OpR X (compareOp .IsNot) (rP2 k pwIsNot) := or_mk fun d e x y B H W Q ht h1 h2 hp hq => by
  unfold pwIsNot at hp
  split at hp
  · rename_i z
    cases z
    refine ⟨_, op_notN, h2, ?_⟩
    rw [isNon_of h1]
    exact hq _ _ _ hp ⟨Same.refl _, rfl⟩
  · exact hp.elim
theorem flatV_of {B : APred} {H : Hp} {d : D} {v : V} (hf : d.flat = true) (h : Rep k B H d v) : flatV v = true := by
  cases d with
  | non => rw [show v = V.non from h]; rfl
  | bl b => rw [show v = V.bl b from h]; rfl
  | int i => rw [show v = V.int i from h]; rfl
  | str s => rw [show v = V.str s from h]; rfl
  | _ => exact nomatch hf
theorem flatP_of {B : APred} {H : Hp} {d : D} {v : V} (hf : d.flat = true) (h : RepP k B H d v) : Rep k B H d v := by
  cases d with
  | lst ds => exact nomatch hf
  | dic ks ds => exact nomatch hf
  | _ => exact h
theorem eqV_of {B : APred} {H : Hp} {d e : D} {v u : V} (hf : d.flat = true) (hg : e.flat = true) (h : Rep k B H d v) (q : Rep k B H e u) : eqV v u = eqF d e := by
  cases d with
  | non =>
    rw [show v = V.non from h]
    cases e with
    | non => rw [show u = V.non from q]; rfl
    | bl b => rw [show u = V.bl b from q]; rfl
    | int i => rw [show u = V.int i from q]; rfl
    | str s => rw [show u = V.str s from q]; rfl
    | _ => exact nomatch hg
  | bl a =>
    rw [show v = V.bl a from h]
    cases e with
    | non => rw [show u = V.non from q]; rfl
    | bl b => rw [show u = V.bl b from q]; rfl
    | int i => rw [show u = V.int i from q]; rfl
    | str s => rw [show u = V.str s from q]; rfl
    | _ => exact nomatch hg
  | int a =>
    rw [show v = V.int a from h]
    cases e with
    | non => rw [show u = V.non from q]; rfl
    | bl b => rw [show u = V.bl b from q]; rfl
    | int i => rw [show u = V.int i from q]; rfl
    | str s => rw [show u = V.str s from q]; rfl
    | _ => exact nomatch hg
  | str a =>
    rw [show v = V.str a from h]
    cases e with
    | non => rw [show u = V.non from q]; rfl
    | bl b => rw [show u = V.bl b from q]; rfl
    | int i => rw [show u = V.int i from q]; rfl
    | str s => rw [show u = V.str s from q]; rfl
    | _ => exact nomatch hg
  | _ => exact nomatch hf
theorem flatL_of {B : APred} {H : Hp} : ∀ {ds : List D} {vs : List V}, ds.all D.flat = true → RepL k B H ds vs → vs.all flatV = true
  | [], _, _, h => by rw [show _ = [] from h]; rfl
  | d :: ds, _, hf, h => by
    obtain ⟨y, ys, e, h1, h2⟩ := h
    rw [List.all_cons, Bool.and_eq_true] at hf
    rw [e, List.all_cons, flatV_of hf.1 h1, flatL_of hf.2 h2]
    rfl
theorem inV_of {B : APred} {H : Hp} {d : D} {v : V} (hd : d.flat = true) (r : Rep k B H d v) : ∀ {ds : List D} {vs : List V}, ds.all D.flat = true → RepL k B H ds vs → inV v vs = ds.any fun e => eqF e d
  | [], _, _, h => by rw [show _ = [] from h]; rfl
  | e :: ds, _, hf, h => by
    obtain ⟨y, ys, z, h1, h2⟩ := h
    rw [List.all_cons, Bool.and_eq_true] at hf
    have ih := inV_of hd r hf.2 h2
    unfold inV at ih ⊢
    rw [z, List.any_cons, List.any_cons, eqV_of hf.1 hd h1 r, ih]
theorem valV_zip {ks : List Key} {xs : List V} {q : Key} (hl : ks.length = xs.length) : (valV (ks.zip xs) q).isSome = ks.any fun c => decide (c = q) := by
  induction ks generalizing xs with
  | nil => rfl
  | cons c ks ih =>
    cases xs with
    | nil => cases hl
    | cons x xs =>
      rw [List.zip_cons_cons, List.any_cons]
      by_cases e : c = q
      · rw [valV_pos (p := (c, x)) e, decide_eq_true e]
        rfl
      · rw [valV_neg (p := (c, x)) e, ih (by simpa using hl), decide_eq_false e]
        rfl
theorem key_of_rep {B : APred} {H : Hp} {d : D} {v : V} {q : Key} (hd : d.key = some q) (r : RepP k B H d v) : v = kV q := by
  cases d with
  | int i =>
    cases hd
    exact r
  | str s =>
    cases hd
    exact r
  | _ => cases hd
/-- x in d, d a dict -/
theorem op_inDict (hu : X.A.units + 1 < cLine) : OpR X (compareOp .In) (fun x y H Q => ∃ a o, y = .ref a ∧ DGet H a x o ∧ Q (.bl o.isSome) H) := by
  intro pins s σ H x y v u Q I rx ry h
  obtain ⟨a, o, rfl, g, q⟩ := h
  cases ry
  exact d_in hu I g rx fun s' I' => ⟨.bl o.isSome, H, I', rfl, q⟩
theorem op_notInDict (hu : X.A.units + 1 < cLine) : OpR X (compareOp .NotIn) (fun x y H Q => ∃ a o, y = .ref a ∧ DGet H a x o ∧ Q (.bl (!o.isSome)) H) := by
  intro pins s σ H x y v u Q I rx ry h
  obtain ⟨a, o, rfl, g, q⟩ := h
  cases ry
  exact d_notIn hu I g rx fun s' I' => ⟨.bl (!o.isSome), H, I', rfl, q⟩
theorem one_sign {x : Str} {c : Nat} (h : x.cps.toList = [c]) : x = ⟨#[c]⟩ := by
  cases x with
  | mk a => rw [← Array.toArray_toList (xs := a), h]
theorem in_case (hk : k.K = X.K) (hu : X.A.units + 64 < cLine) {d e : D} {x y : V} {B : APred} {H : Hp} {b : Bool} (h1 : RepP k B H d x) (h2 : RepP k B H e y) (hb : inD d e = some b) :
    (∃ r2 : R2, OpR X (compareOp .In) r2 ∧ ∀ Q : VK, Q (.bl b) H → r2 x y H Q) ∧ ∃ r2 : R2, OpR X (compareOp .NotIn) r2 ∧ ∀ Q : VK, Q (.bl (!b)) H → r2 x y H Q := by
  unfold inD at hb
  split at hb
  · rename_i ks ds
    cases hq : d.key with
    | none => rw [hq] at hb; cases hb
    | some q =>
      rw [hq] at hb
      cases hb
      obtain ⟨a, xs, e, h3, hl, _⟩ := h2
      rw [key_of_rep hq h1, ← valV_zip hl]
      exact ⟨⟨_, op_inDict (by omega), fun Q w => ⟨a, _, e, DGet.k h3, w⟩⟩, ⟨_, op_notInDict (by omega), fun Q w => ⟨a, _, e, DGet.k h3, w⟩⟩⟩
  · rename_i es
    split at hb
    · rename_i hf
      cases hb
      rw [Bool.and_eq_true] at hf
      obtain ⟨a, xs, e, h3, h4⟩ := h2
      have r1 := flatP_of hf.1 h1
      rw [← inV_of hf.1 r1 hf.2 h4]
      have hs : SqT X.K H a xs := by
        rw [← hk]
        exact h3.sq
      exact ⟨⟨_, op_in_seq, fun Q w => ⟨a, xs, e, .inr hs, flatV_of hf.1 r1, flatL_of hf.2 h4, w⟩⟩, ⟨_, op_notIn_seq, fun Q w => ⟨a, xs, e, .inr hs, flatV_of hf.1 r1, flatL_of hf.2 h4, w⟩⟩⟩
    · cases hb
  · rename_i es
    split at hb
    · rename_i hf
      cases hb
      rw [Bool.and_eq_true] at hf
      obtain ⟨a, xs, e, h3, h4⟩ := h2
      have r1 := flatP_of hf.1 h1
      rw [← inV_of hf.1 r1 hf.2 h4]
      exact ⟨⟨_, op_in_seq, fun Q w => ⟨a, xs, e, .inl (SqL.of h3), flatV_of hf.1 r1, flatL_of hf.2 h4, w⟩⟩, ⟨_, op_notIn_seq, fun Q w => ⟨a, xs, e, .inl (SqL.of h3), flatV_of hf.1 r1, flatL_of hf.2 h4, w⟩⟩⟩
    · cases hb
  · rename_i s z
    split at hb
    · rename_i c hc
      cases hb
      have e1 : x = V.str ⟨#[c]⟩ := by rw [← one_sign hc]; exact h1
      exact ⟨⟨_, op_in_sign, fun Q w => ⟨c, z, e1, h2, w⟩⟩, ⟨_, op_notIn_sign, fun Q w => ⟨c, z, e1, h2, w⟩⟩⟩
    · cases hb
  · cases hb
theorem or_in (hk : k.K = X.K) (hu : X.A.units + 64 < cLine) : OpR X (compareOp .In) (rP2 k pwIn) := or_mk fun d e x y B H W Q ht h1 h2 hp hq => by
  obtain ⟨b, hb, w⟩ := hp
  obtain ⟨r2, o, q⟩ := (in_case hk hu h1 h2 hb).1
  exact ⟨r2, o, q Q (hq _ _ _ w ⟨Same.refl _, rfl⟩)⟩
theorem or_notIn (hk : k.K = X.K) (hu : X.A.units + 64 < cLine) : OpR X (compareOp .NotIn) (rP2 k pwNotIn) := or_mk fun d e x y B H W Q ht h1 h2 hp hq => by
  obtain ⟨b, hb, w⟩ := hp
  obtain ⟨r2, o, q⟩ := (in_case hk hu h1 h2 hb).2
  exact ⟨r2, o, q Q (hq _ _ _ w ⟨Same.refl _, rfl⟩)⟩
theorem or_cmp (hk : k.K = X.K) (hu : X.A.units + 64 < cLine) : ∀ op : CmpOp, OpR X (compareOp op) (rP2 k (pwCmp op))
  | .Eq => or_eq hk hu
  | .NotEq => or_ne hk hu
  | .Lt => or_lt
  | .LtE => or_le
  | .Gt => or_gt
  | .GtE => or_ge
  | .Is => or_is
  | .IsNot => or_isNot
  | .In => or_in hk hu
  | .NotIn => or_notIn hk hu
end

/-! ### items and slices -/
def pwIx : PW := fun ds Q => match ds with
  | [.lst es, .int i] => ∃ d, atI es i = some d ∧ Q (.val d)
  | [.frl es, .int i] => ∃ d, atI es i = some d ∧ Q (.val d)
  | [.tup es, .int i] => ∃ d, atI es i = some d ∧ Q (.val d)
  | [.str z, .int i] => ∃ c, z.length ≤ 100000 ∧ atI z.cps.toList i = some c ∧ Q (.val (.str ⟨#[c]⟩))
  | _ => False
def cutD {α : Type} (xs : List α) (lo hi : Option Int) : List α := (xs.drop (HT.sIx xs.length 0 lo)).take (HT.sIx xs.length xs.length hi - HT.sIx xs.length 0 lo)
def slD (lo hi : Option Int) (d : D) (Q : ER → Prop) : Prop := match d with
  | .lst es => Q (.own (cutD es lo hi))
  | .frl es => Q (.own (cutD es lo hi))
  | .tup es => Q (.val (.tup (cutD es lo hi)))
  | .str z => z.length ≤ 100000 ∧ Q (.val (.str (cutS z lo hi)))
  | _ => False
section
variable {X : Cx} {k : KX} {B : APred} {H : Hp}
theorem atI_rep {ds : List D} {vs : List V} {i : Int} {d : D} (r : RepL k B H ds vs) (h : atI ds i = some d) : ∃ v, atI vs i = some v ∧ Rep k B H d v := by
  unfold atI at h ⊢
  rw [← r.len]
  cases q : ixN ds.length i with
  | none => rw [q] at h; cases h
  | some j =>
    rw [q] at h
    exact r.get h
theorem ixr_ix (hk : k.K = X.K) : IxR X (rP2 k pwIx) := by
  intro value slice pins s σ H x y v u Q I rx ry hp hs
  obtain ⟨B, ds, W, ht, hr, hw, hq⟩ := hp
  unfold pwIx at hw
  split at hw
  · obtain ⟨h1, h2⟩ := rp2 hr
    obtain ⟨d, hd, w⟩ := hw
    obtain ⟨a, xs, e, h3, r⟩ := h1
    obtain ⟨z, hz, rz⟩ := atI_rep r hd
    exact ix_list value slice pins s σ H x y v u Q I rx ry ⟨a, xs, _, z, e, h2, .inl (.inl h3), hz, hq _ _ _ w ⟨Same.refl _, rz⟩⟩ hs
  · obtain ⟨h1, h2⟩ := rp2 hr
    obtain ⟨d, hd, w⟩ := hw
    obtain ⟨a, xs, e, h3, r⟩ := h1
    obtain ⟨z, hz, rz⟩ := atI_rep r hd
    exact ix_list value slice pins s σ H x y v u Q I rx ry ⟨a, xs, _, z, e, h2, by rw [← hk]; exact h3.sq, hz, hq _ _ _ w ⟨Same.refl _, rz⟩⟩ hs
  · obtain ⟨h1, h2⟩ := rp2 hr
    obtain ⟨d, hd, w⟩ := hw
    obtain ⟨a, xs, e, h3, r⟩ := h1
    obtain ⟨z, hz, rz⟩ := atI_rep r hd
    exact ix_tup value slice pins s σ H x y v u Q I rx ry ⟨a, xs, _, z, e, h2, by rw [← hk]; exact h3.sq, hz, hq _ _ _ w ⟨Same.refl _, rz⟩⟩ hs
  · obtain ⟨h1, h2⟩ := rp2 hr
    obtain ⟨c, hl, hd, w⟩ := hw
    exact ix_str value slice pins s σ H x y v u Q I rx ry ⟨_, _, c, h1, h2, sz5 hl, hd, hq _ _ _ w ⟨Same.refl _, rfl⟩⟩ hs
  · exact hw.elim
theorem RepL.cut {ds : List D} {vs : List V} (r : RepL k B H ds vs) (lo hi : Option Int) : RepL k B H (cutD ds lo hi) (cutV vs lo hi) := by
  unfold cutD cutV
  rw [r.len]
  exact (r.drop _).take _
theorem cutD_all {α : Type} {xs : List α} {lo hi : Option Int} (h : HT.sIx xs.length 0 lo = 0 ∧ HT.sIx xs.length xs.length hi = xs.length) : cutD xs lo hi = xs := by
  unfold cutD
  rw [h.1, h.2]
  simp
def rSl (k : KX) : V → Option Int → Option Int → Hp → VK → Prop := fun x lo hi H Q =>
  ∃ (B : APred) (d : D) (W : ER → Prop), (∀ a, B a → ∃ o, H a = some o) ∧ RepP k B H d x ∧ slD lo hi d W ∧ ∀ r v H', W r → PrimPost k B H r v H' → Q v H'
theorem slr_sl (hk : k.K = X.K) : SlR X (rSl k) := by
  intro pins s σ H x v vl vu lo hi sl Q I rx hs pl pu hp
  obtain ⟨B, d, W, ht, h1, hw, hq⟩ := hp
  unfold slD at hw
  split at hw
  · obtain ⟨a, xs, e, h3, r⟩ := h1
    exact sl_list pins s σ H x v vl vu lo hi sl Q I rx hs pl pu ⟨a, xs, e, .inl (.inl h3), fun p hn => hq _ _ _ hw (pp_own hn (r.cut lo hi))⟩
  · obtain ⟨a, xs, e, h3, r⟩ := h1
    exact sl_list pins s σ H x v vl vu lo hi sl Q I rx hs pl pu ⟨a, xs, e, by rw [← hk]; exact h3.sq, fun p hn => hq _ _ _ hw (pp_own hn (r.cut lo hi))⟩
  · obtain ⟨a, xs, e, h3, r⟩ := h1
    refine sl_tupA pins s σ H x v vl vu lo hi sl Q I rx hs pl pu ⟨a, xs, e, by rw [← hk]; exact h3.sq, fun z => ?_, fun _ p hn => hq _ _ _ hw (pp_tup ht hn (r.cut lo hi))⟩
    rw [← r.len] at z
    rw [cutD_all z] at hw
    exact hq _ _ _ hw ⟨Same.refl _, a, xs, rfl, h3, r⟩
  · exact sl_str pins s σ H x v vl vu lo hi sl Q I rx hs pl pu ⟨_, h1, sz5 hw.1, hq _ _ _ hw.2 ⟨Same.refl _, rfl⟩⟩
  · exact hw.elim
end
end VL
namespace VL
open PySem PySem.Spec L2

/-! ### built-in functions -/
def pwLen : PW := fun ds Q => match ds with
  | [.str s] => s.length ≤ 100000 ∧ Q (.val (.int s.length))
  | [.lst es] => Q (.val (.int es.length))
  | [.frl es] => Q (.val (.int es.length))
  | [.tup es] => Q (.val (.int es.length))
  | [.dic ks _] => Q (.val (.int ks.length))
  | _ => False
def pwInt : PW := fun ds Q => match ds with
  | [.int i] => Q (.val (.int i))
  | [.bl b] => Q (.val (.int (if b then 1 else 0)))
  | _ => False
def pwAbs : PW := fun ds Q => match ds with
  | [.int i] => Q (.val (.int (if i < 0 then -i else i)))
  | _ => False
def pwMin : PW := fun ds Q => match ds with
  | [.int a, .int b] => Q (.val (.int (if b < a then b else a)))
  | [.lst es] => ∃ ns : List Int, es = ns.map D.int ∧ 0 < ns.length ∧ ∀ m, m ∈ ns → (∀ y, y ∈ ns → m ≤ y) → Q (.val (.int m))
  | _ => False
def pwMax : PW := fun ds Q => match ds with
  | [.int a, .int b] => Q (.val (.int (if b > a then b else a)))
  | [.lst es] => ∃ ns : List Int, es = ns.map D.int ∧ 0 < ns.length ∧ ∀ m, m ∈ ns → (∀ y, y ∈ ns → y ≤ m) → Q (.val (.int m))
  | _ => False
def D.num : D → Option Int
  | .int i => some i
  | .bl b => some (if b then 1 else 0)
  | _ => none
def sumD : List D → Option Int
  | [] => some 0
  | d :: ds => match d.num, sumD ds with
    | some a, some b => some (a + b)
    | _, _ => none
def pwSum : PW := fun ds Q => match ds with
  | [.lst es] => ∃ n, sumD es = some n ∧ Q (.val (.int n))
  | [.frl es] => ∃ n, sumD es = some n ∧ Q (.val (.int n))
  | _ => False
def pwAll : PW := fun ds Q => match ds with
  | [.lst es] => ∃ bs : List Bool, es = bs.map D.bl ∧ Q (.val (.bl (bs.all id)))
  | _ => False
def pwAny : PW := fun ds Q => match ds with
  | [.lst es] => ∃ bs : List Bool, es = bs.map D.bl ∧ Q (.val (.bl (bs.any id)))
  | _ => False
def pwTuple : PW := fun ds Q => match ds with
  | [.lst es] => Q (.val (.tup es))
  | [.frl es] => Q (.val (.tup es))
  | [.tup es] => Q (.val (.tup es))
  | _ => False
def D.ofKey : Key → D
  | .inl i => .int i
  | .inr s => .str s
def sgn (c : Nat) : Str := ⟨#[c]⟩
def pwList : PW := fun ds Q => match ds with
  | [.lst es] => Q (.own es)
  | [.frl es] => Q (.own es)
  | [.tup es] => Q (.own es)
  | [.dic ks _] => Q (.own (ks.map D.ofKey))
  | [.str s] => s.length ≤ 100000 ∧ Q (.own (s.cps.toList.map fun c => .str (sgn c)))
  | _ => False
def D.tyN : D → String
  | .non => "NoneType"
  | .bl _ => "bool"
  | .int _ => "int"
  | .str _ => "str"
  | .tup _ => "tuple"
  | .lst _ => "list"
  | .frl _ => "list"
  | .dic _ _ => "dict"
  | .obj _ _ => "object"
def pwIsi (T : String) : PW := fun ds Q => match ds with
  | [.obj _ _] => False
  | [d] => ∃ b, kitB d.tyN T = some b ∧ Q (.val (.bl b))
  | _ => False
def pwJoin : PW := fun ds Q => match ds with
  | [.str a, .lst es] => ∃ ys : List Str, es = ys.map D.str ∧ (ys.map (·.length)).sum + ys.length * a.length ≤ 100000 ∧ Q (.val (.str (Txt.join a ys)))
  | _ => False
def pwBits : PW := fun ds Q => match ds with
  | [.int i] => Q (.val (.int (Builtin.Int.intBits i : Nat)))
  | _ => False
/-- d.get(k, x) -/
def findD : List Key → List D → Key → Option D
  | k :: ks, d :: ds, q => if k = q then some d else findD ks ds q
  | _, _, _ => none
def pwGet2 : PW := fun ds Q => match ds with
  | [.dic ks es, q, e] => ∃ c, q.key = some c ∧ Q (.val ((findD ks es c).getD e))
  | _ => False

section
variable {X : Cx} {k : KX} {fv : Value} {p : PW}
theorem cr_mk (h : ∀ (ds : List D) (vs : List V) (B : APred) (H : Hp) (W : ER → Prop) (Q : VK), (∀ a, B a → ∃ o, H a = some o) → RepPL k B H ds vs → p ds W →
    (∀ r v H', W r → PrimPost k B H r v H' → Q v H') → ∃ r2 : List V → Hp → VK → Prop, CallR X fv r2 ∧ r2 vs H Q) : CallR X fv (rP k p) := by
  intro pins s σ H xs us Q I r hp
  obtain ⟨B, ds, W, ht, hr, hw, hq⟩ := hp
  obtain ⟨r2, c, q⟩ := h ds xs B H W Q ht hr hw hq
  exact c pins s σ H xs us Q I r q
theorem rl1 {B : APred} {H : Hp} {d : D} {vs : List V} (h : RepPL k B H [d] vs) : ∃ x, vs = [x] ∧ RepP k B H d x := by
  obtain ⟨y, ys, e, h1, h2⟩ := h
  rw [show ys = [] from h2] at e
  exact ⟨y, e, h1⟩
theorem rl2 {B : APred} {H : Hp} {d e : D} {vs : List V} (h : RepPL k B H [d, e] vs) : ∃ x y, vs = [x, y] ∧ RepP k B H d x ∧ RepP k B H e y := by
  obtain ⟨y, ys, z, h1, h2⟩ := h
  obtain ⟨x2, z2, h3⟩ := rl1 h2
  rw [z2] at z
  exact ⟨y, x2, z, h1, h3⟩
theorem cr_len (hk : k.K = X.K) : CallR X (.builtin "len") (rP k pwLen) := cr_mk fun ds vs B H W Q ht hr hw hq => by
  unfold pwLen at hw
  split at hw
  · obtain ⟨x, e, h⟩ := rl1 hr
    exact ⟨_, call_len_str, _, by rw [e, show x = V.str _ from h], sz5 hw.1, hq _ _ _ hw.2 ⟨Same.refl _, rfl⟩⟩
  · obtain ⟨x, e, a, xs, e2, h3, r⟩ := rl1 hr
    exact ⟨_, call_len_seq, a, xs, by rw [e, e2], .inl (SqL.of h3), by rw [← r.len]; exact hq _ _ _ hw ⟨Same.refl _, rfl⟩⟩
  · obtain ⟨x, e, a, xs, e2, h3, r⟩ := rl1 hr
    exact ⟨_, call_len_seq, a, xs, by rw [e, e2], .inl (by rw [← hk]; exact h3.sq), by rw [← r.len]; exact hq _ _ _ hw ⟨Same.refl _, rfl⟩⟩
  · obtain ⟨x, e, a, xs, e2, h3, r⟩ := rl1 hr
    exact ⟨_, call_len_seq, a, xs, by rw [e, e2], .inr (by rw [← hk]; exact h3.sq), by rw [← r.len]; exact hq _ _ _ hw ⟨Same.refl _, rfl⟩⟩
  · rename_i ks es
    obtain ⟨x, e, a, xs, e2, h3, hl, r⟩ := rl1 hr
    refine ⟨_, call_lenD, a, ks.zip xs, by rw [e, e2], h3, ?_⟩
    have e3 : (ks.zip xs).length = ks.length := by
      rw [List.length_zip, ← hl, Nat.min_self]
    rw [e3]
    exact hq _ _ _ hw ⟨Same.refl _, rfl⟩
  · exact hw.elim
theorem cr_int : CallR X (.type "int") (rP k pwInt) := cr_mk fun ds vs B H W Q ht hr hw hq => by
  unfold pwInt at hw
  split at hw
  · obtain ⟨x, e, h⟩ := rl1 hr
    exact ⟨_, call_int1, .inl ⟨_, by rw [e, show x = V.int _ from h], hq _ _ _ hw ⟨Same.refl _, rfl⟩⟩⟩
  · obtain ⟨x, e, h⟩ := rl1 hr
    exact ⟨_, call_int1, .inr ⟨_, by rw [e, show x = V.bl _ from h], hq _ _ _ hw ⟨Same.refl _, rfl⟩⟩⟩
  · exact hw.elim
theorem cr_abs : CallR X (.builtin "abs") (rP k pwAbs) := cr_mk fun ds vs B H W Q ht hr hw hq => by
  unfold pwAbs at hw
  split at hw
  · obtain ⟨x, e, h⟩ := rl1 hr
    exact ⟨_, call_abs, _, by rw [e, show x = V.int _ from h], hq _ _ _ hw ⟨Same.refl _, rfl⟩⟩
  · exact hw.elim
theorem cr_minP (hc : X.calm = true) (hk : k.K = X.K) : CallR X (.builtin "min") (rP k pwMin) := cr_mk fun ds vs B H W Q ht hr hw hq => by
  unfold pwMin at hw
  split at hw
  · obtain ⟨x, y, e, h1, h2⟩ := rl2 hr
    exact ⟨_, call_min2 hc, _, _, by rw [e, show x = V.int _ from h1, show y = V.int _ from h2], hq _ _ _ hw ⟨Same.refl _, rfl⟩⟩
  · obtain ⟨x, e, a, xs, e2, h3, r⟩ := rl1 hr
    obtain ⟨ns, e3, h0, w⟩ := hw
    refine ⟨_, cr_min hc, a, ns, by rw [e, e2], ?_, h0, fun m h1 h2 => hq _ _ _ (w m h1 h2) ⟨Same.refl _, rfl⟩⟩
    rw [← repl_ints r e3]
    exact SqL.of h3
  · exact hw.elim
theorem cr_maxP (hc : X.calm = true) (hk : k.K = X.K) : CallR X (.builtin "max") (rP k pwMax) := cr_mk fun ds vs B H W Q ht hr hw hq => by
  unfold pwMax at hw
  split at hw
  · obtain ⟨x, y, e, h1, h2⟩ := rl2 hr
    exact ⟨_, call_max2 hc, _, _, by rw [e, show x = V.int _ from h1, show y = V.int _ from h2], hq _ _ _ hw ⟨Same.refl _, rfl⟩⟩
  · obtain ⟨x, e, a, xs, e2, h3, r⟩ := rl1 hr
    obtain ⟨ns, e3, h0, w⟩ := hw
    refine ⟨_, cr_max hc, a, ns, by rw [e, e2], ?_, h0, fun m h1 h2 => hq _ _ _ (w m h1 h2) ⟨Same.refl _, rfl⟩⟩
    rw [← repl_ints r e3]
    exact SqL.of h3
  · exact hw.elim
theorem cr_allP (hc : X.calm = true) : CallR X (.builtin "all") (rP k pwAll) := cr_mk fun ds vs B H W Q ht hr hw hq => by
  unfold pwAll at hw
  split at hw
  · obtain ⟨x, e, a, xs, e2, h3, r⟩ := rl1 hr
    obtain ⟨bs, e3, w⟩ := hw
    refine ⟨_, cr_all hc, a, bs, by rw [e, e2], ?_, hq _ _ _ w ⟨Same.refl _, rfl⟩⟩
    rw [← repl_bls r e3]
    exact SqL.of h3
  · exact hw.elim
theorem cr_anyP (hc : X.calm = true) : CallR X (.builtin "any") (rP k pwAny) := cr_mk fun ds vs B H W Q ht hr hw hq => by
  unfold pwAny at hw
  split at hw
  · obtain ⟨x, e, a, xs, e2, h3, r⟩ := rl1 hr
    obtain ⟨bs, e3, w⟩ := hw
    refine ⟨_, cr_any hc, a, bs, by rw [e, e2], ?_, hq _ _ _ w ⟨Same.refl _, rfl⟩⟩
    rw [← repl_bls r e3]
    exact SqL.of h3
  · exact hw.elim
theorem cr_tupleP (hk : k.K = X.K) : CallR X (.type "tuple") (rP k pwTuple) := cr_mk fun ds vs B H W Q ht hr hw hq => by
  unfold pwTuple at hw
  split at hw
  · obtain ⟨x, e, a, xs, e2, h3, r⟩ := rl1 hr
    exact ⟨_, call_tuple_of, a, xs, by rw [e, e2], .inl ⟨SqL.of h3, fun l hl => hq _ _ _ hw (pp_tup ht hl r)⟩⟩
  · obtain ⟨x, e, a, xs, e2, h3, r⟩ := rl1 hr
    exact ⟨_, call_tuple_of, a, xs, by rw [e, e2], .inl ⟨by rw [← hk]; exact h3.sq, fun l hl => hq _ _ _ hw (pp_tup ht hl r)⟩⟩
  · obtain ⟨x, e, a, xs, e2, h3, r⟩ := rl1 hr
    exact ⟨_, call_tuple_of, a, xs, by rw [e, e2], .inr ⟨by rw [← hk]; exact h3.sq, hq _ _ _ hw ⟨Same.refl _, a, xs, rfl, h3, r⟩⟩⟩
  · exact hw.elim
theorem repl_keys {B : APred} {H : Hp} (ks : List Key) : RepL k B H (ks.map D.ofKey) (ks.map kV) := repl_map (fun q => by cases q <;> rfl) ks
/-- list(text) -/
theorem call_list_txt (hc : X.calm = true) : CallR X (.type "list") (fun xs H Q => ∃ z : Str, xs = [.str z] ∧ z.length ≤ sizeLine ∧ ∀ p, H p = none → Q (.ref p) (upd H p (.lst (z.cps.toList.map fun c => .str (sgn c))))) := by
  intro pins s σ H xs us Q I r h
  obtain ⟨z, e, hz, q⟩ := h
  subst e
  obtain ⟨u, eu, rx⟩ := vals1 r
  subst eu
  obtain ⟨t, rfl⟩ := rx
  refine PySem.call_list_str (hn := hz) (I.ok.hd hc) z t fun h' tk acc c' hk hD hacc => ?_
  have hlen : (z.cps.toList.map fun c => V.str (sgn c)).length = acc.toList.length := by
    rw [List.length_map, Array.length_toList, Array.length_toList]
    exact hacc.1.symm
  have hv : Vals (z.cps.toList.map fun c => V.str (sgn c)) acc.toList := vals_of_at hlen fun j x u h1 h2 => by
    rw [List.getElem?_map] at h1
    rw [Array.getElem?_toList] at h2
    obtain ⟨c, t', hc', eu⟩ := hacc.2 j u h2
    rw [← Array.getElem?_toList] at hc'
    rw [hc'] at h1
    cases h1
    exact ⟨t', eu⟩
  refine ⟨.ref s.heap.objs.size, _, I.laid (t' := tk) hk (Nat.le_refl _) (show ObjOk X.prog X.w _ _ _ (.lst _) from ⟨?_, acc.toList, c', hv, by rw [Array.toArray_toList]; exact hD⟩), rfl, q _ (I.hok.fresh (Nat.le_refl _))⟩
  rw [List.length_map, Array.length_toList]
  exact hz
theorem cr_listP (hc : X.calm = true) (hk : k.K = X.K) : CallR X (.type "list") (rP k pwList) := cr_mk fun ds vs B H W Q ht hr hw hq => by
  unfold pwList at hw
  split at hw
  · obtain ⟨x, e, a, xs, e2, h3, r⟩ := rl1 hr
    exact ⟨_, call_list_of, a, xs, by rw [e, e2], .inl (SqL.of h3), fun l hl => hq _ _ _ hw (pp_own hl r)⟩
  · obtain ⟨x, e, a, xs, e2, h3, r⟩ := rl1 hr
    exact ⟨_, call_list_of, a, xs, by rw [e, e2], .inl (by rw [← hk]; exact h3.sq), fun l hl => hq _ _ _ hw (pp_own hl r)⟩
  · obtain ⟨x, e, a, xs, e2, h3, r⟩ := rl1 hr
    exact ⟨_, call_list_of, a, xs, by rw [e, e2], .inr (by rw [← hk]; exact h3.sq), fun l hl => hq _ _ _ hw (pp_own hl r)⟩
  · rename_i ks es
    obtain ⟨x, e, a, xs, e2, h3, hl, r⟩ := rl1 hr
    refine ⟨_, call_listD hc, a, ks.zip xs, by rw [e, e2], .inl h3, fun p hn => ?_⟩
    have e3 : ((ks.zip xs).map fun kv => kV kv.1) = ks.map kV := by
      have e4 : ((ks.zip xs).map Prod.fst) = ks := List.map_fst_zip (by omega)
      rw [show (fun kv : Key × V => kV kv.1) = kV ∘ Prod.fst from rfl, ← List.map_map, e4]
    rw [e3]
    exact hq _ _ _ hw (pp_own hn (repl_keys ks))
  · rename_i z
    obtain ⟨x, e, h⟩ := rl1 hr
    exact ⟨_, call_list_txt hc, z, by rw [e, show x = V.str _ from h], sz5 hw.1, fun p hn => hq _ _ _ hw.2 (pp_own hn (repl_map (f := fun c => D.str (sgn c)) (g := fun c => V.str (sgn c)) (fun c => rfl) _))⟩
  · exact hw.elim
theorem sumD_num : ∀ {es : List D} {n : Int}, sumD es = some n → ∃ ns : List Int, ns.length = es.length ∧ n = ns.sum ∧ ∀ (j : Nat) (d : D), es[j]? = some d → d.num = ns[j]?
  | [], n, h => ⟨[], rfl, (Option.some.inj h).symm, fun j d e => by simp at e⟩
  | d :: es, n, h => by
    unfold sumD at h
    split at h
    · rename_i a b h1 h2
      obtain ⟨ns, hl, hs, hg⟩ := sumD_num h2
      refine ⟨a :: ns, by rw [List.length_cons, List.length_cons, hl], ?_, fun j e he => ?_⟩
      · rw [List.sum_cons, ← hs]
        exact (Option.some.inj h).symm
      · cases j with
        | zero =>
          cases he
          exact h1
        | succ j => exact hg j e (by simpa using he)
    · cases h
theorem preSum_take (ns : List Int) : ∀ j, PySem.preSum (fun i => ns.getD i 0) j = (ns.take j).sum
  | 0 => by simp [PySem.preSum]
  | j + 1 => by
    rw [PySem.preSum, preSum_take ns j]
    by_cases h : j < ns.length
    · rw [List.take_add_one, List.getElem?_eq_getElem h, List.sum_append, List.getD_eq_getElem?_getD, List.getElem?_eq_getElem h]
      simp
    · rw [List.take_of_length_le (by omega), List.take_of_length_le (by omega), List.getD_eq_getElem?_getD, List.getElem?_eq_none (by omega)]
      simp
/-- sum of ints and truth values -/
theorem call_sum_nums (hc : X.calm = true) : CallR X (.builtin "sum") (fun vs H Q => ∃ (a : Addr) (xs : List V) (ns : List Int), vs = [V.ref a] ∧ SqL X.K H a xs ∧ ns.length = xs.length ∧
    (∀ (j : Nat) (x : V), xs[j]? = some x → x = .int (ns.getD j 0) ∨ ∃ b : Bool, x = .bl b ∧ ns.getD j 0 = if b then 1 else 0) ∧ Q (.int ns.sum) H) := by
  intro pins s σ H vs us Q I r h
  obtain ⟨a, xs, ns, e, hs, hl, hn, q⟩ := h
  subst e
  obtain ⟨its, rv, pl, hz⟩ := I.list hs
  rw [Vals.ref1 r]
  have hL := pl.isList
  obtain ⟨o, ho, hc', n, hd⟩ := id hL
  have hne : a ≠ s.heap.objs.size := Nat.ne_of_lt (Heap.lt_size ho)
  have W := (Walks.list (prog := X.prog) (w := X.w) (A := X.A.in1) (I.ok.hd hc) s.heap.objs.size a hne its.toArray).toS
  refine PySem.call_sum_walkAnyB (wpAny_pyIter_list hL ?_)
  refine ⟨s.heap.objs.size, _, _, _, _, _, _, fun i => ns.getD i 0, rfl, W, ⟨⟨_, Heap.get?_push_size _ rfl, rfl, rfl⟩, hL.at fun o e => Heap.get?_push_of_some _ e⟩, fun b hb => ?_, fun i v hP => ?_, fun s' t' hm => ?_⟩
  · rcases List.mem_cons.mp hb with rfl | hb
    · exact Heap.lt_size (Heap.get?_push_size _ rfl)
    · obtain rfl := List.mem_singleton.mp hb
      exact Heap.lt_size (Heap.get?_push_of_some _ ho)
  · have hP' : its[i]? = some v := by simpa using hP
    have hi : i < xs.length := by
      rw [rv.length]
      exact (List.getElem?_eq_some_iff.mp hP').1
    obtain ⟨u, hu, ru⟩ := rv.get (List.getElem?_eq_getElem hi)
    rw [hP'] at hu
    cases hu
    rcases hn i _ (List.getElem?_eq_getElem hi) with z | ⟨b, z, z2⟩
    · rw [z] at ru
      exact .inl ru
    · rw [z] at ru
      exact .inr ⟨b, ru, z2⟩
  · obtain ⟨h', g', d', tk', os'⟩ := s'
    have e1 : g' = s.gens := hm.gens
    have e2 : d' = s.drawn := hm.drawn
    have e3 : os' = s.os := hm.os
    subst e1 e2 e3
    have e4 : PySem.preSum (fun i => ns.getD i 0) its.toArray.size = ns.sum := by
      rw [preSum_take, List.take_of_length_le]
      rw [hl, rv.length, List.size_toArray]
      exact Nat.le_refl _
    rw [e4]
    refine ⟨.int ns.sum, H, I.kept (t' := tk') fun b o eo => hm.heap b o (fun hb => ?_) (Heap.get?_push_of_some _ eo), ⟨t', rfl⟩, q⟩
    have e5 := List.mem_singleton.mp hb
    subst e5
    exact absurd (Heap.lt_size eo) (Nat.lt_irrefl _)
theorem num_rep {B : APred} {H : Hp} {d : D} {x : V} {n : Int} (h : Rep k B H d x) (e : d.num = some n) : x = .int n ∨ ∃ b : Bool, x = .bl b ∧ n = if b then 1 else 0 := by
  cases d with
  | int i =>
    cases e
    exact .inl h
  | bl b =>
    cases e
    exact .inr ⟨b, h, rfl⟩
  | _ => cases e
theorem sum_case {B : APred} {H : Hp} {es : List D} {xs : List V} {n : Int} (r : RepL k B H es xs) (h : sumD es = some n) :
    ∃ ns : List Int, n = ns.sum ∧ ns.length = xs.length ∧ ∀ (j : Nat) (x : V), xs[j]? = some x → x = .int (ns.getD j 0) ∨ ∃ b : Bool, x = .bl b ∧ ns.getD j 0 = if b then 1 else 0 := by
  obtain ⟨ns, hl, hs, hg⟩ := sumD_num h
  refine ⟨ns, hs, by rw [hl, r.len], fun j x hx => ?_⟩
  obtain ⟨d, hd, rx⟩ := r.getV hx
  have e := hg j d hd
  have hj : j < ns.length := by
    rw [hl]
    exact (List.getElem?_eq_some_iff.mp hd).1
  rw [List.getElem?_eq_getElem hj] at e
  rw [List.getD_eq_getElem?_getD, List.getElem?_eq_getElem hj]
  exact num_rep rx e
theorem cr_sumP (hc : X.calm = true) (hk : k.K = X.K) : CallR X (.builtin "sum") (rP k pwSum) := cr_mk fun ds vs B H W Q ht hr hw hq => by
  unfold pwSum at hw
  split at hw
  · obtain ⟨x, e, a, xs, e2, h3, r⟩ := rl1 hr
    obtain ⟨n, hn, w⟩ := hw
    obtain ⟨ns, e4, hl, hg⟩ := sum_case r hn
    subst e4
    exact ⟨_, call_sum_nums hc, a, xs, ns, by rw [e, e2], SqL.of h3, hl, hg, hq _ _ _ w ⟨Same.refl _, rfl⟩⟩
  · obtain ⟨x, e, a, xs, e2, h3, r⟩ := rl1 hr
    obtain ⟨n, hn, w⟩ := hw
    obtain ⟨ns, e4, hl, hg⟩ := sum_case r hn
    subst e4
    exact ⟨_, call_sum_nums hc, a, xs, ns, by rw [e, e2], by rw [← hk]; exact h3.sq, hl, hg, hq _ _ _ w ⟨Same.refl _, rfl⟩⟩
  · exact hw.elim
theorem tyX_of {B : APred} {H : Hp} {d : D} {x : V} (hd : ∀ c ds, d ≠ .obj c ds) (h : RepP k B H d x) : TyX k.K H x (.type d.tyN) := by
  cases d with
  | non => rw [show x = V.non from h]; exact .base .non
  | bl b => rw [show x = V.bl b from h]; exact .base (.bl b)
  | int i => rw [show x = V.int i from h]; exact .base (.int i)
  | str s => rw [show x = V.str s from h]; exact .base (.str s)
  | tup ds =>
    obtain ⟨a, xs, e, h1, _⟩ := h
    rw [e]
    rcases h1.sq with (h1 | ⟨o, h1⟩) | ⟨o, its, n, h1, h2, _⟩
    · exact .base (.tup h1)
    · exact .fTuple h1
    · exact .kTuple h1 h2
  | lst ds =>
    obtain ⟨a, xs, e, h1, _⟩ := h
    rw [e]
    exact .base (.lst h1)
  | frl ds =>
    obtain ⟨a, xs, e, h1, _⟩ := h
    rw [e]
    rcases h1.sq with (h1 | ⟨o, h1⟩) | ⟨o, its, n, h1, h2, _⟩
    · exact .base (.lst h1)
    · exact .base (.frz h1)
    · exact .kList h1 h2
  | dic ks ds =>
    obtain ⟨a, xs, e, h1, _⟩ := h
    rw [e]
    exact .base (.dK h1)
  | obj c ds => exact absurd rfl (hd c ds)
/-- isinstance(e, T) by its first argument -/
theorem isi_case (hk : k.K = X.K) {T : String} {x : V} {H : Hp} {Q : VK} (h : rP k (pwIsi T) [x] H Q) : rIsi X.K [x, .ty T] H Q := by
  obtain ⟨B, ds, W, ht, hr, hw, hq⟩ := h
  unfold pwIsi at hw
  split at hw
  · exact hw.elim
  · rename_i d hd
    obtain ⟨b, hb, w⟩ := hw
    refine ⟨x, .ty T, .type d.tyN, .type T, b, rfl, .ty T, ?_, kit_ty hb, hq _ _ _ w ⟨Same.refl _, rfl⟩⟩
    rw [← hk]
    exact tyX_of (fun c es z => hd c es (by rw [z])) (rp1 hr)
  · exact hw.elim
/-- a method by values: the receiver, the arguments (frozen) -/
def rM (k : KX) (p : PW) (x : V) (vs : List V) : Hp → VK → Prop := fun H Q =>
  ∃ (B : APred) (d : D) (ds : List D) (W : ER → Prop), (∀ a, B a → ∃ o, H a = some o) ∧ RepP k B H d x ∧ RepL k B H ds vs ∧ p (d :: ds) W ∧ ∀ r v H', W r → PrimPost k B H r v H' → Q v H'
theorem rl_one {B : APred} {H : Hp} {d : D} {vs : List V} (h : RepL k B H [d] vs) : ∃ x, vs = [x] ∧ Rep k B H d x := by
  obtain ⟨y, ys, e, h1, h2⟩ := h
  rw [show ys = [] from h2] at e
  exact ⟨y, e, h1⟩
theorem rl_two {B : APred} {H : Hp} {d e : D} {vs : List V} (h : RepL k B H [d, e] vs) : ∃ x y, vs = [x, y] ∧ Rep k B H d x ∧ Rep k B H e y := by
  obtain ⟨y, ys, z, h1, h2⟩ := h
  obtain ⟨x2, z2, h3⟩ := rl_one h2
  rw [z2] at z
  exact ⟨y, x2, z, h1, h3⟩
theorem join_case {x : V} {vs : List V} {H : Hp} {Q : VK} (h : rM k pwJoin x vs H Q) : ∃ a p, ∃ ys : List Str, x = .str a ∧ vs = [.ref p] ∧ (SqL X.K H p (ys.map V.str) ∨ SqT X.K H p (ys.map V.str)) ∧
    (ys.map (·.length)).sum + ys.length * a.length ≤ 16777216 ∧ Q (.str (Txt.join a ys)) H := by
  obtain ⟨B, d, ds, W, ht, h1, hr, hw, hq⟩ := h
  unfold pwJoin at hw
  split at hw
  · rename_i z
    cases z
    obtain ⟨y, ey, a, xs, e2, _, h3, r⟩ := rl_one hr
    obtain ⟨ys, e3, hz, w⟩ := hw
    refine ⟨_, a, ys, h1, by rw [ey, e2], .inl ?_, Nat.le_trans hz (by decide), hq _ _ _ w ⟨Same.refl _, rfl⟩⟩
    rw [← repl_strs r e3]
    exact SqL.of h3
  · exact hw.elim
theorem bits_case {x : V} {H : Hp} {Q : VK} (h : rM k pwBits x [] H Q) : ∃ i, x = .int i ∧ Q (.int (Builtin.Int.intBits i : Nat)) H := by
  obtain ⟨B, d, ds, W, ht, h1, hr, hw, hq⟩ := h
  unfold pwBits at hw
  split at hw
  · rename_i z
    cases z
    exact ⟨_, h1, hq _ _ _ hw ⟨Same.refl _, rfl⟩⟩
  · exact hw.elim
theorem findD_rep {B : APred} {H : Hp} {q : Key} : ∀ {ks : List Key} {es : List D} {xs : List V}, ks.length = xs.length → RepL k B H es xs →
    match findD ks es q with
    | some d => ∃ v, valV (ks.zip xs) q = some v ∧ Rep k B H d v
    | none => valV (ks.zip xs) q = none
  | [], es, xs, hl, r => by cases es <;> rfl
  | c :: ks, [], xs, hl, r => by
    rw [show xs = [] from r] at hl
    cases hl
  | c :: ks, e :: es, xs, hl, r => by
    obtain ⟨y, ys, rfl, h1, h2⟩ := r
    rw [List.zip_cons_cons]
    unfold findD
    by_cases z : c = q
    · rw [if_pos z, valV_pos (p := (c, y)) z]
      exact ⟨y, rfl, h1⟩
    · rw [if_neg z, valV_neg (p := (c, y)) z]
      exact findD_rep (by simpa using hl) h2
theorem get2_case {x y z : V} {H : Hp} {Q : VK} (h : rM k pwGet2 x [y, z] H Q) : ∃ a o, x = .ref a ∧ DGet H a y o ∧ Q (o.getD z) H := by
  obtain ⟨B, d, ds, W, ht, h1, hr, hw, hq⟩ := h
  unfold pwGet2 at hw
  split at hw
  · rename_i ks es q e z2
    cases z2
    obtain ⟨y', z', ez, h2, h4⟩ := rl_two hr
    cases ez
    obtain ⟨a, xs, e2, h3, hl, r⟩ := h1
    obtain ⟨c, hc, w⟩ := hw
    refine ⟨a, valV (ks.zip xs) c, e2, ?_, ?_⟩
    · rw [key_of_rep hc h2.p]
      exact DGet.k h3
    · have f := findD_rep (q := c) hl r
      cases hf : findD ks es c with
      | some d =>
        rw [hf] at f w
        obtain ⟨v, ev, rv⟩ := f
        rw [ev]
        exact hq _ _ _ w ⟨Same.refl _, rv⟩
      | none =>
        rw [hf] at f w
        rw [show valV (ks.zip xs) c = none from f]
        exact hq _ _ _ w ⟨Same.refl _, h4⟩
  · exact hw.elim
end
end VL
namespace VL
open PySem PySem.Spec L2

/-! ## what loops walk: lists, tuples, texts; numbered; two at a time -/
set_option maxHeartbeats 2000000 in
theorem enum_new1 {v : Value} {o : Obj} {H : Heap → Prop} (B : Begins v o H) :
    Meets (Builtin.«enumerate.__new__» ⟨[.type "enumerate", v], []⟩) (fun _ R s => H s.heap ∧
      R (.ok (.ret (.ref (s.heap.push o).objs.size))) { s with heap := (s.heap.push o).push { cls := .type "enumerate", data := .fields #[.none, .bool false, .ref s.heap.objs.size, rawInt 0, .none, .none] } }) :=
  .of_wp fun prog w A R s h => by
    obtain ⟨hp, g, d, tk, os⟩ := s
    obtain ⟨hb, h⟩ := h
    have hsub := sub_enumerate
    have go : ∀ {A' : Around} {E Q : Value → Shared → Prop}, Q (.ref hp.objs.size) ⟨hp.push o, g, d, tk, os⟩ → wpAny (model prog w) A' (pyIter v) Q E ⟨hp, g, d, tk, os⟩ :=
      fun q => B.iter prog w _ _ ⟨hp, g, d, tk, os⟩ _ hb q
    wp_walk using go
    refine wpAny_stack_any fun st => wpAny_pure ?_
    split
    · rename_i c _ _ _ _ _
      cases (c == Value.type "enumerate")
      · wp_walk using go
        exact ⟨_, rfl, h⟩
      · wp_walk using go
        exact ⟨_, rfl, h⟩
    · wp_walk using go
      exact ⟨_, rfl, h⟩
theorem enum_made {prog : Program} {w : World} {A : Around} {E Q : Value → Shared → Prop} {s : Shared} {v : Value} {o : Obj} {H : Heap → Prop} (B : Begins v o H) (hb : H s.heap)
    (h : ∀ h', IsEnum h' (s.heap.objs.size + 1) s.heap.objs.size 0 .none → h'.get? s.heap.objs.size = some o → h'.objs.size = s.heap.objs.size + 2 →
      (∀ b u, s.heap.get? b = some u → h'.get? b = some u) → Q (.ref (s.heap.objs.size + 1)) { s with heap := h' }) :
    wpAny (model prog w) A (call (.type "enumerate") [v]) Q E s := by
  refine callType_new F.called_enumerate (by decide) (F.typeCall_enumerate_1 _) (F.newCall_enumerate_1 _) (fun obj => F.args_object_init_2 obj _) F.entry_enumerate_new (enum_new1 B) ⟨hb, ?_⟩
  have hz : (s.heap.push o).objs.size = s.heap.objs.size + 1 := Heap.size_push ..
  have he := Heap.get?_push_size (s.heap.push o) (o := { cls := .type "enumerate", data := .fields #[.none, .bool false, .ref s.heap.objs.size, rawInt 0, .none, .none] }) rfl
  show _ ∧ _
  rw [hz] at he ⊢
  exact ⟨⟨_, he, rfl⟩, h _ he (Heap.get?_push_of_some _ (Heap.get?_push_size _ B.free)) (by rw [Heap.size_push, hz]) fun b u x => Heap.get?_push_of_some _ (Heap.get?_push_of_some _ x)⟩

theorem ty_no {a : String} {P : Prop} (h : Value.type a = .type "list" ∨ Value.type a = .type "tuple") (h1 : ¬ Value.type a = .type "list") (h2 : ¬ Value.type a = .type "tuple") : P :=
  (h.elim h1 h2).elim
/-- what is walked -/
inductive Sc where
  | l (a : Addr)
  | t (a : Addr)
  | s (x : Str) (tk : Tok)
def Sc.val : Sc → Value
  | .l a => .ref a
  | .t a => .ref a
  | .s x tk => .str x tk
def Sc.ob : Sc → Obj
  | .l a => { cls := .type "list_iterator", data := .fields #[.ref a, .int 0 0] }
  | .t a => { cls := .type "tuple_iterator", data := .fields #[.ref a, .int 0 0] }
  | .s x tk => { cls := .type (strIterType x), data := .fields #[.str x tk, .int 0 0] }
/-- its iterator at `it`, at turn i -/
def Sc.at (it : Addr) (i : Nat) (h : Heap) : Sc → Prop
  | .l a => h.IsListIter it a i
  | .t a => h.IsTupleIter it a i
  | .s x tk => h.IsStrIter it (strIterType x) x tk i
def txtV (x : Str) : List V := x.cps.toList.map fun c => V.str (sgn c)
def Sc.items (K : PySem.W.Frag) (H : Hp) : Sc → List V → Prop
  | .l a, xs => SqL K H a xs
  | .t a, xs => SqT K H a xs
  | .s x _, xs => xs = txtV x
theorem txtV_get {x : Str} {i c : Nat} (h : x.cps[i]? = some c) : (txtV x)[i]? = some (.str (sgn c)) := by
  unfold txtV
  rw [List.getElem?_map, Array.getElem?_toList, h]
  rfl
theorem txtV_len (x : Str) : (txtV x).length = x.cps.size := by
  unfold txtV
  rw [List.length_map, Array.length_toList]
theorem iter_ty (x : Str) : strIterType x = "str_ascii_iterator" ∨ strIterType x = "str_iterator" := by
  unfold strIterType
  split
  · exact .inl rfl
  · exact .inr rfl
/-- iterators are neither lists nor tuples, nor enumerates, nor zips -/
theorem Sc.at_cls {it : Addr} {i : Nat} {h : Heap} {sc : Sc} (a : sc.at it i h) : ∃ o, h.get? it = some o ∧ o.cls ≠ .type "list" ∧ o.cls ≠ .type "tuple" ∧ o.cls ≠ .type "enumerate" ∧ o.cls ≠ .type "zip" ∧ ∀ v, o.data ≠ .cell v := by
  cases sc with
  | l b =>
    obtain ⟨o, e, c, d⟩ := a
    exact ⟨o, e, by rw [c]; decide, by rw [c]; decide, by rw [c]; decide, by rw [c]; decide, fun v z => by rw [d] at z; cases z⟩
  | t b =>
    obtain ⟨o, e, c, d⟩ := a
    exact ⟨o, e, by rw [c]; decide, by rw [c]; decide, by rw [c]; decide, by rw [c]; decide, fun v z => by rw [d] at z; cases z⟩
  | s x tk =>
    obtain ⟨o, e, c, d⟩ := a
    rcases iter_ty x with z | z
    · rw [z] at c
      exact ⟨o, e, by rw [c]; decide, by rw [c]; decide, by rw [c]; decide, by rw [c]; decide, fun v z => by rw [d] at z; cases z⟩
    · rw [z] at c
      exact ⟨o, e, by rw [c]; decide, by rw [c]; decide, by rw [c]; decide, by rw [c]; decide, fun v z => by rw [d] at z; cases z⟩
theorem Sc.at_keep {it : Addr} {i : Nat} {h h' : Heap} {sc : Sc} (a : sc.at it i h) (k : ∀ o, h.get? it = some o → h'.get? it = some o) : sc.at it i h' := by
  cases sc with
  | l b =>
    obtain ⟨o, e, r⟩ := a
    exact ⟨o, k o e, r⟩
  | t b =>
    obtain ⟨o, e, r⟩ := a
    exact ⟨o, k o e, r⟩
  | s x tk =>
    obtain ⟨o, e, r⟩ := a
    exact ⟨o, k o e, r⟩
/-- what a source's iterator draws, as the heap stands -/
structure Drawn (X : Cx) (s : Shared) (H : Hp) (sc : Sc) (xs : List V) (it : Addr) (i : Nat) (fp : List Addr) (P : Nat → Value → Prop) (S : Nat → Heap → Prop) : Prop where
  draws : Draws X.prog X.w X.A.in1 it fp xs.length P S
  mem : it ∈ fp
  now : S i s.heap
  at_ : ∀ j h', S j h' → sc.at it j h'
  rel : ∀ j v, P j v → ∃ x, xs[j]? = some x ∧ RelV x v
  oth : ∀ b ∈ fp, b ≠ it → ∃ o, s.heap.get? b = some o ∧ (o.cls = .type "list" ∨ o.cls = .type "tuple") ∧ ((∃ u, H b = some u) ∨ ∃ o', X.base.get? b = some o')
theorem Sc.drawn {X : Cx} {pins : List (Addr × Obj)} {s : Shared} {σ : St} {H : Hp} {sc : Sc} {xs : List V} {it : Addr} {i : Nat} (I : Inv X pins σ H s) (hc : X.calm = true) (hq : sc.items X.K H xs) (ha : sc.at it i s.heap) :
    ∃ fp P S, Drawn X s H sc xs it i fp P S := by
  obtain ⟨oi, ei, c1, c2, _⟩ := Sc.at_cls ha
  cases sc with
  | l a =>
    obtain ⟨its, rv, pl, hz⟩ := I.list hq
    have hL := pl.isList
    obtain ⟨o, ho, hcl, _⟩ := id hL
    have hne : a ≠ it := fun e => by
      rw [e, ei] at ho
      cases ho
      exact c1 hcl
    have hsz : its.toArray.size = xs.length := by
      rw [List.size_toArray]
      exact rv.length.symm
    have D := Draws.list (prog := X.prog) (w := X.w) (A := X.A.in1) (I.ok.hd hc) it a hne its.toArray
    rw [hsz] at D
    refine ⟨_, _, _, D, by simp, ⟨ha, hL⟩, fun j h' st => st.1, fun j v hv => ?_, fun b hb hn => ⟨o, ?_, .inl hcl, ?_⟩⟩
    · have hv' : its[j]? = some v := by simpa using hv
      cases q : xs[j]? with
      | none =>
        rw [rv.none_of q] at hv'
        cases hv'
      | some x =>
        obtain ⟨u, hu, ru⟩ := rv.get q
        rw [hv'] at hu
        cases hu
        exact ⟨x, rfl, ru⟩
    · have e' : b = it ∨ b = a := by simpa using hb
      rcases e' with z | z
      · exact absurd z hn
      · rw [z]
        exact ho
    · have e' : b = it ∨ b = a := by simpa using hb
      rcases e' with z | z
      · exact absurd z hn
      · rw [z]
        rcases hq with h | ⟨o', its', n', hk', _⟩
        · exact .inl (rd_some h)
        · exact .inr ⟨_, I.ok.mod.kin a o' hk'⟩
  | t a =>
    obtain ⟨its, rv, pt, hz⟩ := I.tuple hq
    obtain ⟨o, ho, hcl, n, hd⟩ := id pt
    have hne : a ≠ it := fun e => by
      rw [e, ei] at ho
      cases ho
      exact c2 hcl
    have hsz : its.toArray.size = xs.length := by
      rw [List.size_toArray]
      exact rv.length.symm
    have D := Draws.tuple (prog := X.prog) (w := X.w) (A := X.A.in1) (I.ok.hd hc) it a hne its.toArray
    rw [hsz] at D
    refine ⟨_, _, _, D, by simp, ⟨ha, pt⟩, fun j h' st => st.1, fun j v hv => ?_, fun b hb hn => ⟨o, ?_, .inr hcl, ?_⟩⟩
    · have hv' : its[j]? = some v := by simpa using hv
      cases q : xs[j]? with
      | none =>
        rw [rv.none_of q] at hv'
        cases hv'
      | some x =>
        obtain ⟨u, hu, ru⟩ := rv.get q
        rw [hv'] at hu
        cases hu
        exact ⟨x, rfl, ru⟩
    · have e' : b = it ∨ b = a := by simpa using hb
      rcases e' with z | z
      · exact absurd z hn
      · rw [z]
        exact ho
    · have e' : b = it ∨ b = a := by simpa using hb
      rcases e' with z | z
      · exact absurd z hn
      · rw [z]
        rcases hq with h | ⟨o', its', n', hk', _⟩
        · exact .inl (rd_some h)
        · exact .inr ⟨_, I.ok.mod.kin a o' hk'⟩
  | s x tk =>
    have e0 : xs = txtV x := hq
    have D := Draws.text (prog := X.prog) (w := X.w) (A := X.A.in1) (I.ok.hd hc) it x tk
    rw [← txtV_len x, ← e0] at D
    refine ⟨_, _, _, D, by simp, ha, fun j h' st => st, fun j v hv => ?_, fun b hb hn => absurd (by simpa using hb) hn⟩
    obtain ⟨c, u, hcx, rfl⟩ := hv
    rw [e0]
    exact ⟨_, txtV_get hcx, u, rfl⟩

/-- the value that is walked -/
def ScV (K : PySem.W.Frag) (H : Hp) (x : V) (v : Value) (sc : Sc) (xs : List V) : Prop := sc.val = v ∧ sc.items K H xs ∧ RelV x v
/-- by value -/
def Sq (K : PySem.W.Frag) (H : Hp) (x : V) (f : (Tok → Sc) → Prop) : Prop :=
  (∃ a xs, x = .ref a ∧ SqL K H a xs ∧ f fun _ => .l a) ∨ (∃ a xs, x = .ref a ∧ SqT K H a xs ∧ f fun _ => .t a) ∨ ∃ z, x = .str z ∧ f fun tk => .s z tk
theorem Sc.begins {X : Cx} {pins : List (Addr × Obj)} {s : Shared} {σ : St} {H : Hp} {sc : Sc} {xs : List V} (I : Inv X pins σ H s) (hq : sc.items X.K H xs) : ∃ P : Heap → Prop, Begins sc.val sc.ob P ∧ P s.heap := by
  cases sc with
  | l a =>
    obtain ⟨its, rv, pl, hz⟩ := I.list hq
    exact ⟨_, begins_list a its.toArray, pl.isList⟩
  | t a =>
    obtain ⟨its, rv, pt, hz⟩ := I.tuple hq
    exact ⟨_, begins_tuple a its.toArray, pt⟩
  | s x tk => exact ⟨_, begins_text x tk, trivial⟩
theorem Sc.at0 {it : Addr} {h : Heap} {sc : Sc} (e : h.get? it = some sc.ob) : sc.at it 0 h := by
  cases sc with
  | l a => exact ⟨_, e, rfl, rfl⟩
  | t a => exact ⟨_, e, rfl, rfl⟩
  | s x tk => exact ⟨_, e, rfl, rfl⟩

/-! ### numbered -/
def ItE (K : PySem.W.Frag) (sc : Sc) : It :=
  ⟨fun i H => ∃ xs, sc.items K H xs ∧ i < xs.length,
    fun i H v H' => ∃ T x, v = .ref T ∧ H T = none ∧ H' = upd H T (.tup [.int (i : Nat), x]) ∧ ∀ xs, sc.items K H xs → xs[i]? = some x,
    fun i H => ∃ xs, sc.items K H xs ∧ xs.length = i⟩
theorem Sc.items_inj {X : Cx} {pins : List (Addr × Obj)} {s : Shared} {σ : St} {H : Hp} {sc : Sc} {xs ys : List V} (I : Inv X pins σ H s) (h1 : sc.items X.K H xs) (h2 : sc.items X.K H ys) : xs = ys := by
  cases sc with
  | l a => exact I.list_inj h1 h2
  | t a => exact I.tuple_inj h1 h2
  | s x tk => exact (show xs = _ from h1).trans (show ys = _ from h2).symm
theorem turn_E {P : Program} {w : World} {K : PySem.W.Frag} {elts : List Expr} {kk : Nat} {tpos : Pos} (sc : Sc) (e it : Addr) :
    Turn P w K (.Tuple elts kk tpos) (ItE K sc) [e, it] e (fun i h => (∃ old, IsEnum h e it ((i : Nat) : Int) old) ∧ sc.at it i h) where
  mem := by simp
  obj := fun i h st b hb => by
    obtain ⟨⟨old, he⟩, ha⟩ := st
    have e' : b = e ∨ b = it := by simpa using hb
    rcases e' with z | z
    · rw [z]
      exact ⟨_, he, fun v q => nomatch q⟩
    · rw [z]
      obtain ⟨o, e1, _, _, _, _, d⟩ := Sc.at_cls ha
      exact ⟨o, e1, d⟩
  keep := fun i h h' st k => ⟨let ⟨old, he⟩ := st.1; ⟨old, k e (by simp) _ he⟩, Sc.at_keep st.2 fun o q => k it (by simp) o q⟩
  item := by
    intro X hP hw hK hc i pins s σ H E I hf st hg
    subst hP hw hK
    obtain ⟨xs, hq, hi⟩ := hg
    obtain ⟨⟨old, he⟩, ha⟩ := st
    obtain ⟨fp, P, S, D⟩ := Sc.drawn I hc hq ha
    obtain ⟨oi, ei, c1, c2, c3, c4, _⟩ := Sc.at_cls ha
    have hei : e ≠ it := fun z => by
      have he' := he
      rw [z] at he'
      rw [show s.heap.get? it = some _ from he'] at ei
      cases ei
      exact c3 rfl
    have hef : e ∉ fp := fun z => by
      obtain ⟨o, eo, cl, _⟩ := D.oth e z hei
      rw [show s.heap.get? e = some _ from he] at eo
      cases eo
      exact ty_no cl (by decide) (by decide)
    have W := WalksT.enumerateD D.draws e hei hef D.mem
    refine W.item i s _ _ hi ⟨⟨old, he⟩, D.now⟩ fun T vals h' tk hp hT ht hm hk => ?_
    obtain ⟨t, u, hPu, ev⟩ := hp
    subst ev
    obtain ⟨x, hx, rx⟩ := D.rel i u hPu
    refine ⟨_, rfl, W.go _ _ _ i T { s with heap := h', toks := tk } _ _ hm fun h'' hst hk2 => ?_⟩
    have hTw := W.apart i T h' hm
    obtain ⟨oT, eT, cT, nT, dT⟩ := ht
    have eT2 : h''.get? T = some oT := hk2 T oT hTw eT
    have new : ObjOk X.prog X.w (upd H T (.tup [.int (i : Nat), x])) h'' T (.tup [.int (i : Nat), x]) :=
      ⟨by show 2 ≤ sizeLine; decide, [.int i t, u], .cons ⟨_, rfl⟩ (.cons rx .nil), ⟨oT, eT2, cT, nT, dT⟩⟩
    have I1 : Inv X pins σ (upd H T (.tup [.int (i : Nat), x])) { s with heap := h'', toks := tk } :=
      I.turnedNew (ch := [e, it]) (fun b o hb q => hk2 b o hb (hk b o hb q)) hf hT new
    refine ⟨.ref T, _, I1, rfl, ⟨T, x, rfl, I.hok.fresh hT, rfl, fun ys hy => by rw [Sc.items_inj I hy hq]; exact hx⟩, ⟨?_, D.at_ _ _ hst.2⟩, fun b hb => ?_⟩
    · obtain ⟨old', he'⟩ := hst.1
      exact ⟨old', by rw [show ((i + 1 : Nat) : Int) = (i : Int) + 1 by omega] at he' ⊢; exact he'⟩
    · rw [upd_ne (fun z => hTw (by rw [← z]; exact hb))]
      exact (hf b hb).1
  done := by
    intro X hP hw hK hc i pins s σ H E I hf st hg
    subst hP hw hK
    obtain ⟨xs, hq, hi⟩ := hg
    obtain ⟨⟨old, he⟩, ha⟩ := st
    obtain ⟨fp, P, S, D⟩ := Sc.drawn I hc hq ha
    obtain ⟨oi, ei, c1, c2, c3, c4, _⟩ := Sc.at_cls ha
    have hei : e ≠ it := fun z => by
      have he' := he
      rw [z] at he'
      rw [show s.heap.get? it = some _ from he'] at ei
      cases ei
      exact c3 rfl
    have hef : e ∉ fp := fun z => by
      obtain ⟨o, eo, cl, _⟩ := D.oth e z hei
      rw [show s.heap.get? e = some _ from he] at eo
      cases eo
      exact ty_no cl (by decide) (by decide)
    have W := WalksT.enumerateD D.draws e hei hef D.mem
    subst hi
    exact W.done s _ _ ⟨⟨old, he⟩, D.now⟩ fun h' tk hk => ⟨rfl, I.turnedL (ch := [e, it]) hk hf⟩
  self := fun A i s Q E st h => let ⟨⟨_, he⟩, _⟩ := st; wpAny_pyIter_enum he h

/-! ### two at a time -/
def ItZ (K : PySem.W.Frag) (sc sd : Sc) : It :=
  ⟨fun i H => ∃ xs ys, sc.items K H xs ∧ sd.items K H ys ∧ i < min xs.length ys.length,
    fun i H v H' => ∃ T x y, v = .ref T ∧ H T = none ∧ H' = upd H T (.tup [x, y]) ∧ (∀ xs, sc.items K H xs → xs[i]? = some x) ∧ ∀ ys, sd.items K H ys → ys[i]? = some y,
    fun i H => ∃ xs ys, sc.items K H xs ∧ sd.items K H ys ∧ min xs.length ys.length = i⟩
structure ZAp (z TI TO i1 i2 : Addr) : Prop where
  a1 : TI ≠ z
  a2 : TO ≠ z
  a3 : TI ≠ TO
  a4 : i1 ≠ i2
theorem zip_sep {X : Cx} {s : Shared} {sc sd : Sc} {xs ys : List V} {z TI TO i1 i2 : Addr} {i : Nat} {fp fp2 : List Addr} {P P2 : Nat → Value → Prop} {S S2 : Nat → Heap → Prop} {H : Hp} (A : ZAp z TI TO i1 i2)
    (hz : IsZip s.heap z TI TO .none) (hTI : IsTupOf2 s.heap TI (.ref i1) (.ref i2)) {a1 a2 : Value} (hTO : IsTupOf2 s.heap TO a1 a2) (h1 : sc.at i1 i s.heap) (h2 : sd.at i2 i s.heap)
    (D : Drawn X s H sc xs i1 i fp P S) (D2 : Drawn X s H sd ys i2 i fp2 P2 S2) (hTOu : TO ∉ fp) (hTOu2 : TO ∉ fp2) : ZipSep2 z TI TO i1 i2 fp fp2 := by
  obtain ⟨o1, e1, p1, p2, p3, p4, _⟩ := Sc.at_cls h1
  obtain ⟨o2, e2, q1, q2, q3, q4, _⟩ := Sc.at_cls h2
  have zi1 : z ≠ i1 := fun e => by
    have hz' := hz
    rw [e] at hz'
    rw [show s.heap.get? i1 = some _ from hz'] at e1
    cases e1
    exact p4 rfl
  have zi2 : z ≠ i2 := fun e => by
    have hz' := hz
    rw [e] at hz'
    rw [show s.heap.get? i2 = some _ from hz'] at e2
    cases e2
    exact q4 rfl
  have t1 : TI ≠ i1 := fun e => by
    have h' := hTI
    rw [e] at h'
    rw [show s.heap.get? i1 = some _ from h'] at e1
    cases e1
    exact p2 rfl
  have t2 : TI ≠ i2 := fun e => by
    have h' := hTI
    rw [e] at h'
    rw [show s.heap.get? i2 = some _ from h'] at e2
    cases e2
    exact q2 rfl
  have no : ∀ {b : Addr} {o : Obj}, (o.cls = .type "list" ∨ o.cls = .type "tuple") → s.heap.get? b = some o → b ≠ z ∧ b ≠ i1 ∧ b ≠ i2 := fun {b o} cl eo => by
    refine ⟨fun e => ?_, fun e => ?_, fun e => ?_⟩
    · rw [e, show s.heap.get? z = some _ from hz] at eo
      cases eo
      exact ty_no cl (by decide) (by decide)
    · rw [e, e1] at eo
      cases eo
      rcases cl with cl | cl
      · exact p1 cl
      · exact p2 cl
    · rw [e, e2] at eo
      cases eo
      rcases cl with cl | cl
      · exact q1 cl
      · exact q2 cl
  refine ⟨A.a1, A.a2, A.a3, t1, D.mem, fun m => ?_, hTOu, t2, D2.mem, fun m => ?_, hTOu2, fun m => ?_, fun m => ?_⟩
  · obtain ⟨o, eo, cl, _⟩ := D.oth z m zi1
    exact (no cl eo).1 rfl
  · obtain ⟨o, eo, cl, _⟩ := D2.oth z m zi2
    exact (no cl eo).1 rfl
  · obtain ⟨o, eo, cl, _⟩ := D2.oth i1 m A.a4
    exact (no cl eo).2.1 rfl
  · obtain ⟨o, eo, cl, _⟩ := D.oth i2 m (Ne.symm A.a4)
    exact (no cl eo).2.2 rfl
theorem untracked {X : Cx} {pins : List (Addr × Obj)} {s : Shared} {σ : St} {H : Hp} (I : Inv X pins σ H s) {b : Addr} (f : FpOk X pins H b) : ¬ ((∃ u, H b = some u) ∨ ∃ o', X.base.get? b = some o') := fun h => by
  obtain ⟨f0, _, _, f3, _⟩ := f
  rcases h with ⟨u, h⟩ | ⟨o, h⟩
  · rw [f0] at h
    cases h
  · rcases f3 with z | z
    · exact I.ok.noex b o h z
    · exact absurd (Nat.lt_of_lt_of_le (Heap.lt_size h) (Nat.le_trans I.ok.bsz z)) (Nat.lt_irrefl _)
theorem turn_Z {P : Program} {w : World} {K : PySem.W.Frag} {elts : List Expr} {kk : Nat} {tpos : Pos} (sc sd : Sc) {z TI TO i1 i2 : Addr} (A : ZAp z TI TO i1 i2) :
    Turn P w K (.Tuple elts kk tpos) (ItZ K sc sd) [z, TI, TO, i1, i2] z (fun i h => IsZip h z TI TO .none ∧ IsTupOf2 h TI (.ref i1) (.ref i2) ∧ (∃ a1 a2, IsTupOf2 h TO a1 a2) ∧ sc.at i1 i h ∧ sd.at i2 i h) where
  mem := by simp
  obj := fun i h st b hb => by
    obtain ⟨hz, hTI, ⟨a1, a2, hTO⟩, h1, h2⟩ := st
    have e' : b = z ∨ b = TI ∨ b = TO ∨ b = i1 ∨ b = i2 := by simpa using hb
    rcases e' with q | q | q | q | q
    · rw [q]
      exact ⟨_, hz, fun v y => nomatch y⟩
    · rw [q]
      exact ⟨_, hTI, fun v y => nomatch y⟩
    · rw [q]
      exact ⟨_, hTO, fun v y => nomatch y⟩
    · rw [q]
      obtain ⟨o, e1, _, _, _, _, d⟩ := Sc.at_cls h1
      exact ⟨o, e1, d⟩
    · rw [q]
      obtain ⟨o, e1, _, _, _, _, d⟩ := Sc.at_cls h2
      exact ⟨o, e1, d⟩
  keep := fun i h h' st k => by
    obtain ⟨hz, hTI, ⟨a1, a2, hTO⟩, h1, h2⟩ := st
    exact ⟨k z (by simp) _ hz, k TI (by simp) _ hTI, ⟨a1, a2, k TO (by simp) _ hTO⟩, Sc.at_keep h1 fun o q => k i1 (by simp) o q, Sc.at_keep h2 fun o q => k i2 (by simp) o q⟩
  item := by
    intro X hP hw hK hc i pins s σ H E I hf st hg
    subst hP hw hK
    obtain ⟨xs, ys, hq1, hq2, hi⟩ := hg
    obtain ⟨hz, hTI, ⟨a1, a2, hTO⟩, h1, h2⟩ := st
    obtain ⟨fp, P, S, D⟩ := Sc.drawn I hc hq1 h1
    obtain ⟨fp2, P2, S2, D2⟩ := Sc.drawn I hc hq2 h2
    have hTc : ∀ {sc : Sc} {it : Addr}, sc.at it i s.heap → TO ≠ it := fun {sc it} a e => by
      obtain ⟨o, eo, c1, c2, _⟩ := Sc.at_cls a
      rw [← e, show s.heap.get? TO = some _ from hTO] at eo
      cases eo
      exact c2 rfl
    have hu := untracked I (hf TO (by simp))
    have t1 : TO ∉ fp := fun m => by
      obtain ⟨o, _, _, q⟩ := D.oth TO m (hTc h1)
      exact hu q
    have t2 : TO ∉ fp2 := fun m => by
      obtain ⟨o, _, _, q⟩ := D2.oth TO m (hTc h2)
      exact hu q
    have W := WalksT.zipD2 (zip_sep A hz hTI hTO h1 h2 D D2 t1 t2) D.draws D2.draws
    refine W.item i s _ _ hi ⟨hz, hTI, ⟨a1, a2, hTO⟩, D.now, D2.now⟩ fun T vals h' tk hp hT ht hm hk => ?_
    obtain ⟨u1, u2, hP1, hP2, ev⟩ := hp
    subst ev
    obtain ⟨x, hx, rx⟩ := D.rel i u1 hP1
    obtain ⟨y, hy, ry⟩ := D2.rel i u2 hP2
    refine ⟨_, rfl, W.go _ _ _ i T { s with heap := h', toks := tk } _ _ hm fun h'' hst hk2 => ?_⟩
    have hTw := W.apart i T h' hm
    obtain ⟨oT, eT, cT, nT, dT⟩ := ht
    have eT2 : h''.get? T = some oT := hk2 T oT hTw eT
    have sub : ∀ b : Addr, b ∉ [z, TI, TO, i1, i2] → b ∉ [z, TO, i1, i2] := fun b hb q => hb (by
      have e' : b = z ∨ b = TO ∨ b = i1 ∨ b = i2 := by simpa using q
      rcases e' with e' | e' | e' | e' <;> simp [e'])
    have new : ObjOk X.prog X.w (upd H T (.tup [x, y])) h'' T (.tup [x, y]) :=
      ⟨by show 2 ≤ sizeLine; decide, [u1, u2], .cons rx (.cons ry .nil), ⟨oT, eT2, cT, nT, dT⟩⟩
    have I1 : Inv X pins σ (upd H T (.tup [x, y])) { s with heap := h'', toks := tk } :=
      I.turnedNew (ch := [z, TI, TO, i1, i2]) (fun b o hb q => hk2 b o (sub b hb) (hk b o (sub b hb) q)) hf hT new
    have sz : ∀ b ∈ [z, TI, TO, i1, i2], b ≠ T := fun b hb e => by
      have hl : b < s.heap.objs.size := by
        have e' : b = z ∨ b = TI ∨ b = TO ∨ b = i1 ∨ b = i2 := by simpa using hb
        obtain ⟨o1, q1, _⟩ := Sc.at_cls h1
        obtain ⟨o2, q2, _⟩ := Sc.at_cls h2
        rcases e' with q | q | q | q | q
        · rw [q]; exact Heap.lt_size hz
        · rw [q]; exact Heap.lt_size hTI
        · rw [q]; exact Heap.lt_size hTO
        · rw [q]; exact Heap.lt_size q1
        · rw [q]; exact Heap.lt_size q2
      rw [e] at hl
      exact absurd (Nat.lt_of_lt_of_le hl hT) (Nat.lt_irrefl _)
    obtain ⟨z', TI', TO', s1, s2⟩ := hst
    refine ⟨.ref T, _, I1, rfl, ⟨T, x, y, rfl, I.hok.fresh hT, rfl, fun l hl => by rw [Sc.items_inj I hl hq1]; exact hx, fun l hl => by rw [Sc.items_inj I hl hq2]; exact hy⟩, ⟨z', TI', TO', D.at_ _ _ s1, D2.at_ _ _ s2⟩, fun b hb => ?_⟩
    rw [upd_ne (sz b hb)]
    exact (hf b hb).1
  done := by
    intro X hP hw hK hc i pins s σ H E I hf st hg
    subst hP hw hK
    obtain ⟨xs, ys, hq1, hq2, hi⟩ := hg
    obtain ⟨hz, hTI, ⟨a1, a2, hTO⟩, h1, h2⟩ := st
    obtain ⟨fp, P, S, D⟩ := Sc.drawn I hc hq1 h1
    obtain ⟨fp2, P2, S2, D2⟩ := Sc.drawn I hc hq2 h2
    have hTc : ∀ {sc : Sc} {it : Addr}, sc.at it i s.heap → TO ≠ it := fun {sc it} a e => by
      obtain ⟨o, eo, c1, c2, _⟩ := Sc.at_cls a
      rw [← e, show s.heap.get? TO = some _ from hTO] at eo
      cases eo
      exact c2 rfl
    have hu := untracked I (hf TO (by simp))
    have t1 : TO ∉ fp := fun m => by
      obtain ⟨o, _, _, q⟩ := D.oth TO m (hTc h1)
      exact hu q
    have t2 : TO ∉ fp2 := fun m => by
      obtain ⟨o, _, _, q⟩ := D2.oth TO m (hTc h2)
      exact hu q
    have W := WalksT.zipD2 (zip_sep A hz hTI hTO h1 h2 D D2 t1 t2) D.draws D2.draws
    have sub : ∀ b : Addr, b ∉ [z, TI, TO, i1, i2] → b ∉ [z, TO, i1, i2] := fun b hb q => hb (by
      have e' : b = z ∨ b = TO ∨ b = i1 ∨ b = i2 := by simpa using q
      rcases e' with e' | e' | e' | e' <;> simp [e'])
    subst hi
    exact W.done s _ _ ⟨hz, hTI, ⟨a1, a2, hTO⟩, D.now, D2.now⟩ fun h' tk hk => ⟨rfl, I.turnedL (ch := [z, TI, TO, i1, i2]) (fun b o hb q => hk b o (sub b hb) q) hf⟩
  self := fun A i s Q E st h => wpAny_pyIter_zip st.1 h

/-! ### the rules: what a for or a comprehension walks -/
/-- the value x is walked as sc tells, whatever its token -/
def ScOf (K : PySem.W.Frag) (H : Hp) (x : V) (f : (Tok → Sc) → Prop) : Prop := ∃ g : Tok → Sc, (∃ xs, ∀ t, (g t).items K H xs) ∧ (∀ u, RelV x u → ∃ t, (g t).val = u) ∧ f g
def iSeq (K : PySem.W.Frag) (tl : TE) : TI := fun σ H R => tl σ H fun x H1 => (∃ a, x = .ref a ∧ (∃ xs, SqL K H1 a xs) ∧ R (Itl K a) H1) ∨ (∃ a, x = .ref a ∧ (∃ xs, SqT K H1 a xs) ∧ R (Itt K a) H1) ∨ ∃ z, x = .str z ∧ R (Its z) H1
def iE (K : PySem.W.Frag) (ta : TA) : TI := fun σ H R => ta σ H fun vs H1 => ∃ x, vs = [x] ∧ ScOf K H1 x fun g => ∀ t, R (ItE K (g t)) H1
def iZ (K : PySem.W.Frag) (ta : TA) : TI := fun σ H R => ta σ H fun vs H1 => ∃ x y, vs = [x, y] ∧ ScOf K H1 x fun g => ScOf K H1 y fun g2 => ∀ t t2, R (ItZ K (g t) (g2 t2)) H1
section
variable {X : Cx} {tg l : Expr} {tl : TE}
theorem pi_seq (hl : PE X l tl) : PI X tg l (iSeq X.K tl) := by
  constructor
  intro pins s σ H R I h
  refine thn (hl.run pins s σ H _ I h) fun v s1 h1 => ?_
  obtain ⟨x, H1, I1, r1, q1⟩ := h1
  rcases q1 with ⟨a, e, ⟨xs, hq⟩, q⟩ | ⟨a, e, ⟨xs, hq⟩, q⟩ | ⟨z, e, q⟩
  · subst e
    cases r1
    obtain ⟨its, rv, p, _⟩ := I1.list hq
    have fr : s1.heap.objs.size ≤ s1.heap.objs.size := Nat.le_refl _
    refine wpAny_pyIter_list p.isList ⟨s1.heap.objs.size, [s1.heap.objs.size], _, _, H1, rfl, ?_, turn_list a _, ?_, ?_, q⟩
    · exact I1.kept (t' := s1.toks) fun b o e => Heap.get?_push_of_some _ e
    · exact ⟨_, Heap.get?_push_size _ rfl, rfl, rfl⟩
    · intro b hb
      rw [List.mem_singleton.mp hb]
      exact I1.fpOk fr (I1.hok.fresh fr)
  · subst e
    cases r1
    obtain ⟨its, rv, p, _⟩ := I1.tuple hq
    have fr : s1.heap.objs.size ≤ s1.heap.objs.size := Nat.le_refl _
    refine wpAny_pyIter_tuple p ⟨s1.heap.objs.size, [s1.heap.objs.size], _, _, H1, rfl, ?_, turn_tuple a _, ?_, ?_, q⟩
    · exact I1.kept (t' := s1.toks) fun b o e => Heap.get?_push_of_some _ e
    · exact ⟨_, Heap.get?_push_size _ rfl, rfl, rfl⟩
    · intro b hb
      rw [List.mem_singleton.mp hb]
      exact I1.fpOk fr (I1.hok.fresh fr)
  · subst e
    obtain ⟨t, rfl⟩ := r1
    have fr : s1.heap.objs.size ≤ s1.heap.objs.size := Nat.le_refl _
    refine wpAny_pyIter_strU ⟨s1.heap.objs.size, [s1.heap.objs.size], _, _, H1, rfl, ?_, turn_str _ z t (strIterType z) (iter_ty z), ?_, ?_, q⟩
    · exact I1.kept (t' := s1.toks) fun b o e => Heap.get?_push_of_some _ e
    · exact ⟨_, Heap.get?_push_size _ rfl, rfl, rfl⟩
    · intro b hb
      rw [List.mem_singleton.mp hb]
      exact I1.fpOk fr (I1.hok.fresh fr)
theorem pi_E {e : Expr} {ta : TA} {p pos tpos : Pos} {elts : List Expr} {kk : Nat} (hg : Gl X "enumerate") (hm : X.mg "enumerate" = none) (ha : PA X [e] ta) (hs : starEach [e] X.env = [(false, eval e X.env)]) :
    PI X (.Tuple elts kk tpos) (.Call (.Name "enumerate" p) [e] [] pos) (iE X.K ta) := by
  constructor
  intro pins s σ H R I h
  refine PyProof.Rows.Call_ (ld_blt I hg hm PyProof.Rows.boot_enumerate (PyProof.Rows.callWith_type1 (thn (ha.run pos pins s σ H _ I h) fun us s1 h1 => ?_) hs rfl))
  obtain ⟨vs, H1, I1, r1, x, e1, g, ⟨xs, hit⟩, hval, q⟩ := h1
  subst e1
  obtain ⟨u, eu, ru⟩ := vals1 r1
  subst eu
  obtain ⟨t, hv⟩ := hval u ru
  obtain ⟨P, B, hP⟩ := Sc.begins I1 (hit t)
  rw [← hv]
  refine enum_made B hP fun h' he hi hsz hk => wpAny_pyIter_enum he ?_
  refine ⟨s1.heap.objs.size + 1, [s1.heap.objs.size + 1, s1.heap.objs.size], _, _, H1, rfl, I1.kept (t' := s1.toks) hk, turn_E (g t) _ _, ⟨⟨_, he⟩, Sc.at0 hi⟩, fun b hb => ?_, q t⟩
  have hle : s1.heap.objs.size ≤ b := by
    have e' : b = s1.heap.objs.size + 1 ∨ b = s1.heap.objs.size := by simpa using hb
    rcases e' with z | z
    · rw [z]
      exact Nat.le_succ _
    · rw [z]
      exact Nat.le_refl _
  exact I1.fpOk hle (I1.hok.fresh hle)
theorem pi_Z {e e2 : Expr} {ta : TA} {p pos tpos : Pos} {elts : List Expr} {kk : Nat} (hg : Gl X "zip") (hm : X.mg "zip" = none) (ha : PA X [e, e2] ta)
    (hs : starEach [e, e2] X.env = (false, eval e X.env) :: starEach [e2] X.env) (hpl : (backTo pos (starEach [e2] X.env)).any (·.1) = false) :
    PI X (.Tuple elts kk tpos) (.Call (.Name "zip" p) [e, e2] [] pos) (iZ X.K ta) := by
  constructor
  intro pins s σ H R I h
  refine PyProof.Rows.Call_ (ld_blt I hg hm PyProof.Rows.boot_zip (PyProof.Rows.callWith_type1 (thn (ha.run pos pins s σ H _ I h) fun us s1 h1 => ?_) hs hpl))
  obtain ⟨vs, H1, I1, r1, x, y, e1, g, ⟨xs, hit⟩, hval, g2, ⟨ys, hit2⟩, hval2, q⟩ := h1
  subst e1
  obtain ⟨u, u2, eu, ru, ru2⟩ := vals2 r1
  subst eu
  obtain ⟨t, hv⟩ := hval u ru
  obtain ⟨t2, hv2⟩ := hval2 u2 ru2
  obtain ⟨P, B, hP⟩ := Sc.begins I1 (hit t)
  obtain ⟨P2, B2, hP2⟩ := Sc.begins I1 (hit2 t2)
  rw [← hv, ← hv2]
  refine zip_begins2 B B2 hP hP2 fun h' hz hTI hTO hi1 hi2 hsz hk => wpAny_pyIter_zip hz ?_
  have A : ZAp (s1.heap.objs.size + 4) (s1.heap.objs.size + 2) (s1.heap.objs.size + 3) s1.heap.objs.size (s1.heap.objs.size + 1) :=
    ⟨show (s1.heap.objs.size + 2 : Nat) ≠ s1.heap.objs.size + 4 by omega, show (s1.heap.objs.size + 3 : Nat) ≠ s1.heap.objs.size + 4 by omega, show (s1.heap.objs.size + 2 : Nat) ≠ s1.heap.objs.size + 3 by omega, show (s1.heap.objs.size : Nat) ≠ s1.heap.objs.size + 1 by omega⟩
  refine ⟨s1.heap.objs.size + 4, [s1.heap.objs.size + 4, s1.heap.objs.size + 2, s1.heap.objs.size + 3, s1.heap.objs.size, s1.heap.objs.size + 1], _, _, H1, rfl, I1.kept (t' := s1.toks) hk, turn_Z (g t) (g2 t2) A, ⟨hz, hTI, ⟨_, _, hTO⟩, Sc.at0 hi1, Sc.at0 hi2⟩, fun b hb => ?_, q t t2⟩
  have hle : s1.heap.objs.size ≤ b := by
    have e' : b = s1.heap.objs.size + 4 ∨ b = s1.heap.objs.size + 2 ∨ b = s1.heap.objs.size + 3 ∨ b = s1.heap.objs.size ∨ b = s1.heap.objs.size + 1 := by simpa using hb
    rcases e' with z | z | z | z | z <;> rw [z]
    · exact Nat.le_add_right _ _
    · exact Nat.le_add_right _ _
    · exact Nat.le_add_right _ _
    · exact Nat.le_refl _
    · exact Nat.le_add_right _ _
  exact I1.fpOk hle (I1.hok.fresh hle)
end
end VL
namespace VL
open PySem PySem.Spec L2

/-! ## the form of a def's body, and what it comes to, by values -/
inductive Md where
  | mv
  | bor
  | lnt
  deriving DecidableEq
structure FSpec where
  md : List Md
  wp : List D → (ER → List (List D) → Prop) → Prop
/-- a method that changes what stands in a slot: what stood there, the arguments; what stands there then, the answer -/
abbrev MW := List D → List D → (List D → ER → Prop) → Prop
inductive Tg where
  | nm (i : Nat)
  | tp (ts : List Tg)
mutual
inductive IE where
  | var (i : Nat)
  | cst (d : D)
  | prim (p : PW) (es : List IE)
  | and (a b : IE)
  | or (a b : IE)
  | not (a : IE)
  | chain (p q : PW) (a b c : IE)
  | ite (c : IT) (a b : IE)
  | tup (es : List IE)
  | lst (es : List IE)
  | star (e : IE)
  | slc0 (e : IE)
  | slcL (e lo : IE)
  | slcH (e hi : IE)
  | slcB (e lo hi : IE)
  | get2 (o a b : IE)
  | mth (ok : D → Bool) (p : PW) (o : IE) (es : List IE)
  | mut (m : MW) (i : Nat) (es : List IE)
  | call (f : FSpec) (es : List IE)
  | callT (f : FSpec) (e : IE)
  | lc (vs : List Nat) (t : Tg) (it : II) (c : List IT) (elt : IE)
  | lcK (vs : List Nat) (t : Tg) (i : Nat) (c : List IT) (elt : IE)
  | dsp (es : List IE)
inductive IT where
  | tv (e : IE)
  | bv (e : IE)
  | not (a : IT)
  | and (a b : IT)
  | or (a b : IT)
inductive II where
  | seq (e : IE)
  | rng1 (a : IE)
  | rng2 (a b : IE)
  | enm (e : IE)
  | zip (a b : IE)
end
inductive IS where
  | set (i : Nat) (e : IE)
  | par (is : List Nat) (es : List IE)
  | asg (t : Tg) (e : IE)
  | setL (i : Nat) (e ix : IE)
  | setD (i : Nat) (e ix : IE)
  | aug (p : PW) (i : Nat) (e : IE)
  | drop (e : IE)
  | ret (e : IE)
  | retN
  | ite (c : IT) (a b : List IS)
  | for_ (t : Tg) (it : II) (b : List IS)
  | while_ (c : IT) (b : List IS)
  | pass
  | brk
  | cont
  | never

/-! ### slots -/
def conOf : Slot → Option D
  | .val d => some d
  | .own ds => some (.lst ds)
  | .ownd ks ds => some (.dic ks ds)
  | .lnt ds => some (.lst ds)
  | .bor ds => some (.lst ds)
  | .un => none
def deref (env : Ev) : ER → Option D
  | .val d => some d
  | .own ds => some (.lst ds)
  | .ownd ks ds => some (.dic ks ds)
  | .ref i => match env[i]? with
    | some s => conOf s
    | none => none
def derefL (env : Ev) : List ER → Option (List D)
  | [] => some []
  | r :: rs => match deref env r, derefL env rs with
    | some d, some ds => some (d :: ds)
    | _, _ => none
/-- frozen: nobody may change it from now on -/
def frz (env : Ev) : ER → Option (D × Ev)
  | .val d => some (d, env)
  | .own ds => some (.lst ds, env)
  | .ownd ks ds => some (.dic ks ds, env)
  | .ref i => match env[i]? with
    | some (.val d) => some (d, env)
    | some (.own ds) => some (.lst ds, env.set i (.val (.lst ds)))
    | some (.ownd ks ds) => some (.dic ks ds, env.set i (.val (.dic ks ds)))
    | _ => none
def frzL (env : Ev) : List ER → Option (List D × Ev)
  | [] => some ([], env)
  | r :: rs => match frz env r with
    | some (d, e1) => match frzL e1 rs with
      | some (ds, e2) => some (d :: ds, e2)
      | none => none
    | none => none
def notRef : ER → Prop
  | .ref _ => False
  | _ => True
def setS (env : Ev) (i : Nat) (s : Slot) : Option Ev := match env[i]? with
  | some (.lnt _) => none
  | some _ => some (env.set i s)
  | none => none
/-- the value goes to a slot -/
def store (env : Ev) (i : Nat) : ER → Option Ev
  | .val d => setS env i (.val d)
  | .own ds => setS env i (.own ds)
  | .ownd ks ds => setS env i (.ownd ks ds)
  | .ref j => match frz env (.ref j) with
    | some (d, e1) => setS e1 i (.val d)
    | none => none
mutual
def bindT : Tg → D → Ev → Option Ev
  | .nm i, d, env => setS env i (.val d)
  | .tp ts, .tup ds, env => if ds.length = ts.length then bindL ts ds env else none
  | .tp _, _, _ => none
def bindL : List Tg → List D → Ev → Option Ev
  | [], [], env => some env
  | [], _ :: _, _ => none
  | t :: ts, d :: ds, env => match bindT t d env with
    | some e => bindL ts ds e
    | none => none
  | _ :: _, [], _ => none
end
def wipeE (env : Ev) : List Nat → Ev
  | [] => env
  | v :: vs => (wipeE env vs).set v .un
/-- behind a comprehension its own names' slots hold what they held -/
def back (env env' : Ev) : List Nat → Ev
  | [] => env'
  | v :: vs => match env[v]? with
    | some (.val d) => (back env env' vs).set v (.val d)
    | _ => back env env' vs
def truD : D → Option Bool
  | .non => some false
  | .bl b => some b
  | .int i => some (i != 0)
  | .str s => if s.length ≤ 100000 then some ((s.length : Int) != 0) else none
  | .lst es => some (!es.isEmpty)
  | .frl es => some (!es.isEmpty)
  | .tup es => some (!es.isEmpty)
  | _ => none
def seqD : D → Option (List D)
  | .lst es => some es
  | .frl es => some es
  | .tup es => some es
  | .str s => some (s.cps.toList.map fun c => .str (sgn c))
  | _ => none
/-- the items a range gives -/
def rngD (lo : Int) (n : Nat) : List D := (List.range n).map fun i : Nat => .int (lo + (i : Int))
def enmD : Nat → List D → List D
  | _, [] => []
  | n, d :: ds => .tup [.int (n : Nat), d] :: enmD (n + 1) ds
def zipD : List D → List D → List D
  | a :: as, b :: bs => .tup [a, b] :: zipD as bs
  | _, _ => []

/-! ### loops -/
def lcLoop (hold : Ev → Prop) (step : D → Ev → (Option D → Ev → Prop) → Prop) : List D → Ev → List D → (List D → Ev → Prop) → Prop
  | [], env, acc, Q => hold env ∧ Q acc env
  | d :: ds, env, acc, Q => hold env ∧ acc.length < 100000 ∧ step d env fun o e => lcLoop hold step ds e (match o with
    | some x => acc ++ [x]
    | none => acc) Q
def forLoop (body : D → Ev → (Ev → Prop) → Prop) : List D → Ev → (Ev → Prop) → Prop
  | [], env, Q => Q env
  | d :: ds, env, Q => body d env fun e => forLoop body ds e Q
structure WE where
  nx : Ev → Prop
  rt : ER → Ev → Prop
  bk : Ev → Prop := fun _ => False
  ct : Ev → Prop := fun _ => False
/-- what a walked operand holds; what must not change while it is walked (fz: it is frozen) -/
def src (fz : Bool) (env : Ev) : ER → Option (D × Ev × List (Nat × D))
  | .val d => some (d, env, [])
  | .own ds => some (.lst ds, env, [])
  | .ownd _ _ => none
  | .ref i => match env[i]? with
    | some (.val d) => some (d, env, [])
    | some (.bor ds) => some (.lst ds, env, [])
    | some (.own ds) => if fz = true then some (.lst ds, env.set i (.val (.lst ds)), []) else some (.lst ds, env, [(i, .lst ds)])
    | some (.lnt ds) => if fz = true then none else some (.lst ds, env, [(i, .lst ds)])
    | _ => none
def held (hs : List (Nat × D)) (env : Ev) : Prop := ∀ p ∈ hs, (env[p.1]?).bind conOf = some p.2
def pairsD : List D → Option (List Key × List D)
  | [] => some ([], [])
  | q :: v :: r => match q.key, pairsD r with
    | some c, some (qs, vs) => some (c :: qs, v :: vs)
    | _, _ => none
  | _ => none
/-- a dict's keys and values behind d[c] = x -/
def putD (ks : List Key) (ds : List D) (c : Key) (x : D) : List Key × List D :=
  if ks.any (fun z => decide (z = c)) = true then (ks, List.zipWith (fun z d => if z = c then x else d) ks ds) else (ks ++ [c], ds ++ [x])
abbrev keyD : Key → D := D.ofKey
/-- arguments by their modes -/
def argsM : List Md → List ER → Ev → Option (List D × Ev)
  | [], [], env => some ([], env)
  | .mv :: ms, r :: rs, env => match frz env r with
    | some (d, e1) => match argsM ms rs e1 with
      | some (ds, e2) => some (d :: ds, e2)
      | none => none
    | none => none
  | .bor :: ms, r :: rs, env => match deref env r with
    | some (.lst es) => match argsM ms rs env with
      | some (ds, e2) => some (.lst es :: ds, e2)
      | none => none
    | _ => none
  | .lnt :: ms, .ref i :: rs, env => match env[i]? with
    | some (.own es) => match argsM ms rs env with
      | some (ds, e2) => some (.lst es :: ds, e2)
      | none => none
    | some (.lnt es) => match argsM ms rs env with
      | some (ds, e2) => some (.lst es :: ds, e2)
      | none => none
    | _ => none
  | _, _, _ => none
/-- the slots that are lent, in sequence; no slot twice and none that is told otherwise -/
def lentI : List Md → List ER → List Nat
  | .lnt :: ms, .ref i :: rs => i :: lentI ms rs
  | _ :: ms, _ :: rs => lentI ms rs
  | _, _ => []
def othI : List Md → List ER → List Nat
  | .lnt :: ms, .ref _ :: rs => othI ms rs
  | _ :: ms, .ref i :: rs => i :: othI ms rs
  | _ :: ms, _ :: rs => othI ms rs
  | _, _ => []
def putCon (env : Ev) (i : Nat) (es : List D) : Ev := match env[i]? with
  | some (.own _) => env.set i (.own es)
  | some (.lnt _) => env.set i (.lnt es)
  | _ => env
def mutCon (env : Ev) (i : Nat) : Option (List D) := match env[i]? with
  | some (.own ds) => some ds
  | some (.lnt ds) => some ds
  | _ => none

mutual
def wE : IE → Ev → (ER → Ev → Prop) → Prop
  | .var i, env, Q => match env[i]? with
    | some (.val d) => Q (.val d) env
    | some (.own _) => Q (.ref i) env
    | some (.ownd _ _) => Q (.ref i) env
    | some (.lnt _) => Q (.ref i) env
    | some (.bor _) => Q (.ref i) env
    | _ => False
  | .cst d, env, Q => Q (.val d) env
  | .prim p es, env, Q => wA es env fun rs e1 => ∃ ds, derefL e1 rs = some ds ∧ p ds fun r => Q r e1
  | .and a b, env, Q => wE a env fun r e1 => ∃ c, r = .val (.bl c) ∧ if c = true then wE b e1 Q else Q (.val (.bl false)) e1
  | .or a b, env, Q => wE a env fun r e1 => ∃ c, r = .val (.bl c) ∧ if c = true then Q (.val (.bl true)) e1 else wE b e1 Q
  | .not a, env, Q => wE a env fun r e1 => ∃ c, r = .val (.bl c) ∧ Q (.val (.bl (!c))) e1
  | .chain p q a b c, env, Q => wE a env fun r e1 => wE b e1 fun s e2 => ∃ d1 d2, deref e2 r = some d1 ∧ deref e2 s = some d2 ∧ p [d1, d2] fun t => ∃ z, t = .val (.bl z) ∧
      if z = true then wE c e2 fun u e3 => ∃ d4 d3, deref e3 s = some d4 ∧ deref e3 u = some d3 ∧ q [d4, d3] fun t => Q t e3 else Q (.val (.bl false)) e2
  | .ite c a b, env, Q => wT c env fun z e1 => if z = true then wE a e1 Q else wE b e1 Q
  | .tup es, env, Q => wA es env fun rs e1 => ∃ ds e2, frzL e1 rs = some (ds, e2) ∧ ds.length ≤ 100000 ∧ Q (.val (.tup ds)) e2
  | .lst es, env, Q => wA es env fun rs e1 => ∃ ds e2, frzL e1 rs = some (ds, e2) ∧ ds.length ≤ 100000 ∧ Q (.own ds) e2
  | .star _, _, _ => False
  | .slc0 e, env, Q => wE e env fun r e1 => ∃ d, deref e1 r = some d ∧ slD none none d fun t => Q t e1
  | .slcL e lo, env, Q => wE e env fun r e1 => wE lo e1 fun s e2 => ∃ d i, deref e2 r = some d ∧ s = .val (.int i) ∧ slD (some i) none d fun t => Q t e2
  | .slcH e hi, env, Q => wE e env fun r e1 => wE hi e1 fun s e2 => ∃ d i, deref e2 r = some d ∧ s = .val (.int i) ∧ slD none (some i) d fun t => Q t e2
  | .slcB e lo hi, env, Q => wE e env fun r e1 => wE lo e1 fun s e2 => ∃ i, s = .val (.int i) ∧ wE hi e2 fun u e3 => ∃ d j, deref e3 r = some d ∧ u = .val (.int j) ∧ slD (some i) (some j) d fun t => Q t e3
  | .get2 o a b, env, Q => wE o env fun r e1 => (∃ ks ds, deref e1 r = some (.dic ks ds)) ∧ wE a e1 fun s e2 => wE b e2 fun u e3 => ∃ d q x e4, deref e3 r = some d ∧ s = .val q ∧ frz e3 u = some (x, e4) ∧ (∃ dd, deref e4 r = some dd ∧ pwGet2 [dd, q, x] fun t => Q t e4)
  | .mth ok p o es, env, Q => wE o env fun r e1 => (∃ d, deref e1 r = some d ∧ ok d = true) ∧ wA es e1 fun rs e2 => ∃ ds e3, frzL e2 rs = some (ds, e3) ∧ ∃ d, deref e3 r = some d ∧ p (d :: ds) fun s => Q s e3
  | .mut m i es, env, Q => (mutCon env i).isSome = true ∧ wA es env fun rs e1 => ∃ ds e2, frzL e1 rs = some (ds, e2) ∧ ∃ cs, mutCon e2 i = some cs ∧ m cs ds fun cs' r => Q r (putCon e2 i cs')
  | .call f es, env, Q => wA es env fun rs e1 => ∃ ds e2, argsM f.md rs e1 = some (ds, e2) ∧ match lentI f.md rs with
    | [] => f.wp ds fun r ls => ls = [] ∧ Q r e2
    | [i] => i ∉ othI f.md rs ∧ (mutCon e2 i).isSome = true ∧ f.wp ds fun r ls => ∃ es, ls = [es] ∧ Q r (putCon e2 i es)
    | _ => False
  | .callT f e, env, Q => wE e env fun r e1 => f.md = [.lnt] ∧ ∃ es, r = .own es ∧ f.wp [.lst es] fun s ls => (∃ x, ls = [x]) ∧ Q s e1
  | .lc vs t it cs elt, env, Q => wI false it env fun its hs e1 => lcLoop (held hs) (fun d e K => ∃ e2, bindT t d e = some e2 ∧ wTs cs e2 fun z e3 =>
      if z = true then wE elt e3 fun r e4 => ∃ x e5, frz e4 r = some (x, e5) ∧ K (some x) (wipeE e5 vs) else K none (wipeE e3 vs)) its (wipeE e1 vs) [] fun acc e' => Q (.own acc) (back e1 e' vs)
  | .lcK vs t i cs elt, env, Q => ∃ ks vals, env[i]? = some (.ownd ks vals) ∧ i ∉ vs ∧ lcLoop (fun e => e[i]? = some .un) (fun d e K => ∃ e2, bindT t d e = some e2 ∧ wTs cs e2 fun z e3 =>
      if z = true then wE elt e3 fun r e4 => ∃ x e5, frz e4 r = some (x, e5) ∧ K (some x) (wipeE e5 vs) else K none (wipeE e3 vs)) (ks.map keyD) (wipeE (env.set i .un) vs) [] fun acc e' => Q (.own acc) ((back (env.set i .un) e' vs).set i (.ownd ks vals))
  | .dsp es, env, Q => wA es env fun rs e1 => ∃ ds e2, frzL e1 rs = some (ds, e2) ∧ ∃ qs vs, pairsD ds = some (qs, vs) ∧ qs.Nodup ∧ qs.length ≤ 15 ∧ Q (.ownd qs vs) e2
def wA : List IE → Ev → (List ER → Ev → Prop) → Prop
  | [], env, Q => Q [] env
  | .star e :: es, env, Q => wE e env fun r e1 => ∃ d ds, deref e1 r = some d ∧ seqD d = some ds ∧ (∀ s, d ≠ .str s) ∧ wA es e1 fun rs e2 => Q (ds.map ER.val ++ rs) e2
  | e :: es, env, Q => wE e env fun r e1 => wA es e1 fun rs e2 => Q (r :: rs) e2
def wT : IT → Ev → (Bool → Ev → Prop) → Prop
  | .tv e, env, Q => wE e env fun r e1 => ∃ d z, deref e1 r = some d ∧ truD d = some z ∧ Q z e1
  | .bv e, env, Q => wE e env fun r e1 => ∃ z, r = .val (.bl z) ∧ Q z e1
  | .not a, env, Q => wT a env fun z e1 => Q (!z) e1
  | .and a b, env, Q => wT a env fun z e1 => if z = true then wT b e1 Q else Q false e1
  | .or a b, env, Q => wT a env fun z e1 => if z = true then Q true e1 else wT b e1 Q
def wTs : List IT → Ev → (Bool → Ev → Prop) → Prop
  | [], env, Q => Q true env
  | c :: _, env, Q => wT c env Q
def wI (fz : Bool) : II → Ev → (List D → List (Nat × D) → Ev → Prop) → Prop
  | .seq e, env, Q => wE e env fun r e1 => ∃ d e2 hs ds, src fz e1 r = some (d, e2, hs) ∧ seqD d = some ds ∧ Q ds hs e2
  | .rng1 a, env, Q => wE a env fun r e1 => ∃ j, r = .val (.int j) ∧ (-(2 ^ 62) ≤ j ∧ j < 2 ^ 62) ∧ Q (rngD 0 j.toNat) [] e1
  | .rng2 a b, env, Q => wE a env fun r e1 => wE b e1 fun s e2 => ∃ i j, r = .val (.int i) ∧ s = .val (.int j) ∧ (-(2 ^ 62) ≤ i ∧ i < 2 ^ 62 ∧ -(2 ^ 62) ≤ j ∧ j < 2 ^ 62) ∧ Q (rngD i (j - i).toNat) [] e2
  | .enm e, env, Q => wE e env fun r e1 => ∃ d e2 hs ds, src fz e1 r = some (d, e2, hs) ∧ seqD d = some ds ∧ Q (enmD 0 ds) hs e2
  | .zip a b, env, Q => wE a env fun r e1 => wE b e1 fun s e2 => ∃ d1 e3 h1 ds1 d2 e4 h2 ds2, src fz e2 r = some (d1, e3, h1) ∧ seqD d1 = some ds1 ∧ src fz e3 s = some (d2, e4, h2) ∧ seqD d2 = some ds2 ∧
      Q (zipD ds1 ds2) (h1 ++ h2) e4
end
mutual
def wS : IS → Ev → WE → Prop
  | .set i e, env, K => wE e env fun r e1 => ∃ e2, store e1 i r = some e2 ∧ K.nx e2
  | .par is es, env, K => wA es env fun rs e1 => match is, rs with
    | [i, j], [r, s] => notRef s ∧ ∃ e2 e3, store e1 i r = some e2 ∧ store e2 j s = some e3 ∧ K.nx e3
    | _, _ => False
  | .asg t e, env, K => wE e env fun r e1 => ∃ d e2, deref e1 r = some d ∧ (∃ d', r = .val d') ∧ bindT t d e1 = some e2 ∧ K.nx e2
  | .setL i e ix, env, K => wE e env fun r e1 => (mutCon e1 i).isSome = true ∧ wE ix e1 fun s e2 => ∃ x e3, frz e2 r = some (x, e3) ∧ ∃ n cs j, s = .val (.int n) ∧ mutCon e3 i = some cs ∧ ixN cs.length n = some j ∧ K.nx (putCon e3 i (cs.set j x))
  | .setD i e ix, env, K => wE e env fun r e1 => (∃ ks ds, e1[i]? = some (.ownd ks ds)) ∧ wE ix e1 fun s e2 => ∃ x e3, frz e2 r = some (x, e3) ∧ ∃ q ks ds c, s = .val q ∧ e3[i]? = some (.ownd ks ds) ∧ q.key = some c ∧ ks.length < 100000 ∧
      K.nx (e3.set i (.ownd (putD ks ds c x).1 (putD ks ds c x).2))
  | .aug p i e, env, K => wE e env fun r e1 => ∃ d d2, e1[i]? = some (.val d) ∧ deref e1 r = some d2 ∧ p [d, d2] fun t => ∃ x, t = .val x ∧ K.nx (e1.set i (.val x))
  | .drop e, env, K => wE e env fun _ e1 => K.nx e1
  | .ret e, env, K => wE e env fun r e1 => K.rt r e1
  | .retN, env, K => K.rt (.val .non) env
  | .ite c a b, env, K => wT c env fun z e1 => if z = true then wSs a e1 K else wSs b e1 K
  | .for_ t it b, env, K => wI true it env fun its hs e1 => hs = [] ∧ forLoop (fun d e N => ∃ e2, bindT t d e = some e2 ∧ wSs b e2 { K with nx := N, ct := N, bk := K.nx }) its e1 K.nx
  | .while_ c b, env, K => ∃ W : Nat → Ev → Prop, (∃ m, W m env) ∧ ∀ m e, W m e → wT c e fun z e1 =>
      if z = true then wSs b e1 { K with nx := fun e2 => ∃ m', m' < m ∧ W m' e2, ct := fun e2 => ∃ m', m' < m ∧ W m' e2, bk := K.nx } else K.nx e1
  | .pass, env, K => K.nx env
  | .brk, env, K => K.bk env
  | .cont, env, K => K.ct env
  | .never, _, _ => False
def wSs : List IS → Ev → WE → Prop
  | [], env, K => K.nx env
  | s :: ss, env, K => wS s env { K with nx := fun e => wSs ss e K }
end
end VL
namespace VL
open PySem PySem.Spec L2

/-! ## soundness: the values' account gives the layer's reading -/
abbrev NoA : APred := fun _ => False
theorem or2_no (M : APred) : Or2 M NoA = M := by
  funext a
  exact propext ⟨fun h => h.elim id False.elim, .inl⟩
section
variable {k : KX} {M : APred} {L : LN} {H0 H H1 H2 : Hp} {env env' : Ev} {σ : St} {T : APred}
theorem Post.start (F : Fr k M L H0 env σ H) : Post k M L H0 env σ NoA H := ⟨fun _ h => h.elim, F.lm, by rw [or2_no]; exact F⟩
theorem Fr.less {M2 : APred} (F : Fr k M L H0 env σ H) (h : ∀ a, M2 a → M a) (hl : ∀ a, L.l a → M2 a) : Fr k M2 L H0 env σ H :=
  ⟨F.len, fun i s e => (F.slot i s e).grow ⟨fun a o _ q => q, fun a q => .inl (q.elim (fun z => .inl (h a z)) .inr)⟩ _ _ (fun a o _ _ q => q),
    F.inj, F.linj, fun a q => ⟨(F.fresh a q).1, fun z => (F.fresh a q).2.1 (h a z), (F.fresh a q).2.2⟩, hl, F.ln, fun a q => F.mt a (h a q), F.nt, F.keep⟩
/-- what was made on the way and has no slot is forgotten -/
theorem Post.drop (P : Post k M L H0 env σ T H) : Fr k M L H0 env σ H := P.fr.less (fun a h => .inl h) P.lm
theorem Post.tracked (P : Post k M L H0 env σ T H) : ∀ a, Bd (Or2 M T) env σ a → ∃ o, H a = some o := fun a h => P.fr.bd_tracked h
theorem Post.same {s : Same H H2} (P : Post k M L H0 env σ T H) : Post k M L H0 env σ T H2 :=
  ⟨P.tf, P.lm, P.fr.same s (fun a h => .inl h) P.fr.lm (fun a h => let ⟨o, e⟩ := P.fr.mt a h; ⟨o, s a o e⟩) fun a h n => (n h).elim⟩
/-- a new object, hidden -/
theorem Post.new {p : Addr} (P : Post k M L H0 env σ T H) (s : Same H H2) (hn : H p = none) (h2 : ∃ o, H2 p = some o) : Post k M L H0 env σ (fun a => T a ∨ a = p) H2 := by
  have np : ∀ a, Or2 M T a → a ≠ p := fun a h e => by
    obtain ⟨o, q⟩ := P.fr.mt a h
    rw [e, hn] at q
    cases q
  have nL : ¬ L.l p := fun z => np p (P.fr.lm p z) rfl
  refine ⟨fun a h => ?_, P.lm, P.fr.same s (fun a h => ?_) (fun a h => ?_) (fun a h => ?_) fun a h n o => ?_⟩
  · rcases h with h | h
    · exact P.tf a h
    · rw [h]
      refine ⟨?_, fun z => np p (.inl z) rfl, fun z => ?_⟩
      · cases q : H0 p with
        | none => rfl
        | some o =>
          rw [P.fr.keep p o q nL] at hn
          cases hn
      obtain ⟨o, q⟩ := P.fr.nt p z
      rw [hn] at q
      cases q
  · rcases h with h | h | h
    · exact .inl (.inl h)
    · exact .inl (.inr h)
    · rw [h]
      exact .inr hn
  · rcases P.fr.lm a h with z | z
    · exact .inl z
    · exact .inr (.inl z)
  · rcases h with h | h | h
    · obtain ⟨o, e⟩ := P.fr.mt a (.inl h)
      exact ⟨o, s a o e⟩
    · obtain ⟨o, e⟩ := P.fr.mt a (.inr h)
      exact ⟨o, s a o e⟩
    · rw [h]
      exact h2
  · rcases h with h | h | h
    · exact n (.inl h)
    · exact n (.inr h)
    · rw [h] at o
      obtain ⟨u, e⟩ := P.fr.own_tracked o
      rw [hn] at e
      cases e
theorem Rep.same {B : APred} {d : D} {v : V} (s : Same H H2) (r : Rep k B H d v) : Rep k B H2 d v := Rep.grow (grow_same s) _ _ r
theorem bd_new {B : APred} {p : Addr} (hn : H p = none) (s : Same H H2) : Grow B (fun a => B a ∨ a = p) H H2 := ⟨fun a o _ h => s a o h, fun a h => h.elim .inl fun e => .inr (by rw [e]; exact hn)⟩
theorem bd_split (M T : APred) (p : Addr) (env : Ev) (σ : St) : Bd (Or2 M fun a => T a ∨ a = p) env σ = fun a => Bd (Or2 M T) env σ a ∨ a = p := by
  funext a
  apply propext
  constructor
  · rintro ((h | h | h) | h)
    · exact .inl (.inl (.inl h))
    · exact .inl (.inl (.inr h))
    · exact .inr h
    · exact .inl (.inr h)
  · rintro (((h | h) | h) | h)
    · exact .inl (.inl h)
    · exact .inl (.inr (.inl h))
    · exact .inr h
    · exact .inl (.inr (.inr h))
/-- behind a primitive -/
theorem prim_post {r : ER} {v : V} (P : Post k M L H0 env σ T H) (h : PrimPost k (Bd (Or2 M T) env σ) H r v H2) : EPost k M L H0 env σ r v H2 := by
  cases r with
  | val d =>
    obtain ⟨s, r⟩ := h
    exact ⟨T, P.same (s := s), r⟩
  | own ds =>
    obtain ⟨p, xs, e, hn, h2, s, r⟩ := h
    refine ⟨fun a => T a ∨ a = p, P.new s hn ⟨_, h2⟩, p, xs, e, .inr rfl, h2, ?_⟩
    rw [bd_split]
    exact r
  | ownd ks ds =>
    obtain ⟨p, xs, e, hn, h2, hl, s, r⟩ := h
    refine ⟨fun a => T a ∨ a = p, P.new s hn ⟨_, h2⟩, p, xs, e, .inr rfl, h2, hl, ?_⟩
    rw [bd_split]
    exact r
  | ref i => exact h.elim
end
end VL
namespace VL
open PySem PySem.Spec L2

section
variable {k : KX} {M : APred} {L : LN} {H0 H H1 H2 : Hp} {env env' e1 e2 : Ev} {σ : St} {T : APred}
theorem RepL.less {B B' : APred} {ds : List D} {vs : List V} (h : ∀ a, B' a → B a) (r : RepL k B H ds vs) : RepL k B' H ds vs := RepL.grow ⟨fun _ _ _ q => q, fun a q => .inl (h a q)⟩ _ _ r
theorem Rep.less {B B' : APred} {d : D} {v : V} (h : ∀ a, B' a → B a) (r : Rep k B H d v) : Rep k B' H d v := Rep.grow ⟨fun _ _ _ q => q, fun a q => .inl (h a q)⟩ _ _ r
theorem conOf_ok {B : APred} {s : Slot} {v : V} {d : D} (h : SlotOk k B L H s (some (some v))) (e : conOf s = some d) : RepP k B H d v := by
  cases s with
  | un => cases e
  | val c =>
    cases e
    obtain ⟨x, e1, r⟩ := h
    cases e1
    exact r.p
  | own ds =>
    cases e
    obtain ⟨a, xs, e1, e2, r⟩ := h
    cases e1
    exact ⟨a, xs, rfl, e2, r⟩
  | ownd ks ds =>
    cases e
    obtain ⟨a, xs, e1, e2, hl, r⟩ := h
    cases e1
    exact ⟨a, xs, rfl, e2, hl, r⟩
  | lnt ds =>
    cases e
    obtain ⟨a, xs, e1, _, e2, r⟩ := h
    cases e1
    exact ⟨a, xs, rfl, e2, r⟩
  | bor ds =>
    cases e
    obtain ⟨a, xs, e1, _, e2, r⟩ := h
    cases e1
    exact ⟨a, xs, rfl, e2, r⟩
theorem deref_ok (F : Fr k M L H0 env σ H) {r : ER} {v : V} {d : D} (h : OpdOk k (Bd M env σ) T σ H r v) (e : deref env r = some d) : RepP k (Bd M env σ) H d v := by
  cases r with
  | val c =>
    cases e
    exact Rep.p h
  | own ds =>
    cases e
    obtain ⟨p, xs, e1, _, e2, r⟩ := h
    exact ⟨p, xs, e1, e2, r⟩
  | ownd ks ds =>
    cases e
    obtain ⟨p, xs, e1, _, e2, hl, r⟩ := h
    exact ⟨p, xs, e1, e2, hl, r⟩
  | ref i =>
    unfold deref at e
    cases hs : env[i]? with
    | none =>
      simp only [hs] at e
      cases e
    | some s =>
      simp only [hs] at e
      have q := F.slot i s hs
      rw [show σ[i]? = some (some v) from h] at q
      exact conOf_ok q e
theorem derefL_ok (F : Fr k M L H0 env σ H) : ∀ {rs : List ER} {vs : List V} {ds : List D}, OpdL k (Bd M env σ) T σ H rs vs → derefL env rs = some ds → RepPL k (Bd M env σ) H ds vs
  | [], _, _, h, e => by
    cases e
    exact h
  | r :: rs, _, ds, h, e => by
    obtain ⟨y, ys, rfl, h1, h2⟩ := h
    unfold derefL at e
    split at e
    · rename_i d es q1 q2
      cases e
      exact ⟨y, ys, rfl, deref_ok F h1 q1, derefL_ok F h2 q2⟩
    · cases e
theorem has_set {p : Slot → Prop} {i j : Nat} {s : Slot} {a : Addr} (hp : ¬ p s) (h : HasA p (env.set i s) σ j a) : HasA p env σ j a ∧ j ≠ i := by
  obtain ⟨t, e, pt, ev⟩ := h
  by_cases z : i = j
  · subst z
    by_cases hl : i < env.length
    · rw [List.getElem?_set_self hl] at e
      cases e
      exact absurd pt hp
    · rw [List.getElem?_eq_none (by simpa using hl)] at e
      cases e
  · rw [List.getElem?_set_ne z] at e
    exact ⟨⟨t, e, pt, ev⟩, fun q => z q.symm⟩
theorem own_set {i : Nat} {s : Slot} {a : Addr} (hp : ¬ s.isOwn) (h : OwnA (env.set i s) σ a) : OwnA env σ a := by
  obtain ⟨j, h⟩ := h
  exact ⟨j, (has_set hp h).1⟩
/-- a slot that is neither lent nor borrowed holds a frozen value from now on -/
theorem Fr.freeze (F : Fr k M L H0 env σ H) {i : Nat} {d : D} {v : V} (hv : σ[i]? = some (some v)) (hr : Rep k (Bd M (env.set i (.val d)) σ) H d v) : Fr k M L H0 (env.set i (.val d)) σ H := by
  have no : ¬ (Slot.val d).isOwn := fun h => h
  have sub : ∀ a, Bd M (env.set i (.val d)) σ a → Bd M env σ a := fun a h => h.elim .inl fun h => .inr (own_set no h)
  refine ⟨by rw [List.length_set]; exact F.len, fun j s e => ?_, fun j l a h1 h2 => F.inj j l a (has_set no h1).1 (has_set no h2).1, fun j l a h1 h2 => F.linj j l a (has_set (fun h => h) h1).1 (has_set (fun h => h) h2).1,
    fun a h => F.fresh a (own_set no h), F.lm, F.ln, F.mt, F.nt, F.keep⟩
  by_cases z : i = j
  · subst z
    by_cases hl : i < env.length
    · rw [List.getElem?_set_self hl] at e
      cases e
      exact ⟨v, hv, hr⟩
    · rw [List.getElem?_eq_none (by simpa using hl)] at e
      cases e
  · rw [List.getElem?_set_ne z] at e
    exact (F.slot j s e).grow ⟨fun _ _ _ q => q, fun a q => .inl (sub a q)⟩ _ _ (fun _ _ _ _ q => q)
theorem frz_ok (F : Fr k (Or2 M T) L H0 env σ H) (tm : ∀ a, T a → ¬ M a) {r : ER} {v : V} {d : D} (h : OpdOk k (Bd (Or2 M T) env σ) T σ H r v) (e : frz env r = some (d, e1)) :
    Fr k (Or2 M T) L H0 e1 σ H ∧ (∀ a, OwnA e1 σ a → OwnA env σ a) ∧ Rep k (Bd M e1 σ) H d v := by
  have sub : ∀ a, Bd M env σ a → Bd (Or2 M T) env σ a := fun a h => h.elim (fun z => .inl (.inl z)) .inr
  have nT : ∀ {p}, T p → ¬ Bd M env σ p := fun {p} tp h => h.elim (tm p tp) fun z => (F.fresh p z).2.1 (.inr tp)
  cases r with
  | val c =>
    cases e
    exact ⟨F, fun _ h => h, Rep.less sub h⟩
  | own ds =>
    cases e
    obtain ⟨p, xs, e1, tp, e2, r⟩ := h
    exact ⟨F, fun _ h => h, p, xs, e1, nT tp, e2, RepL.less sub r⟩
  | ownd ks ds =>
    cases e
    obtain ⟨p, xs, e1, tp, e2, hl, r⟩ := h
    exact ⟨F, fun _ h => h, p, xs, e1, nT tp, e2, hl, RepL.less sub r⟩
  | ref i =>
    have hv : σ[i]? = some (some v) := h
    dsimp only [frz] at e
    have hnew : ∀ {a : Addr} {s : Slot} {d : D}, env[i]? = some s → s.isOwn → v = .ref a → ¬ Bd (Or2 M T) (env.set i (.val d)) σ a := fun {a s d} es os ev hb => by
      have hi : HasA Slot.isOwn env σ i a := ⟨s, es, os, by rw [hv, ev]⟩
      rcases hb with z | ⟨j, hj⟩
      · exact (F.fresh a ⟨i, hi⟩).2.1 z
      · obtain ⟨h1, h2⟩ := has_set (s := .val d) (fun h => h) hj
        exact h2 (F.inj j i a h1 hi)
    have so : ∀ {d : D} {a}, Bd (Or2 M T) (env.set i (.val d)) σ a → Bd (Or2 M T) env σ a := fun {d a} hb => hb.elim .inl fun z => .inr (own_set (s := .val d) (fun h => h) z)
    split at e
    · rename_i c hs
      cases e
      have q := F.slot i _ hs
      obtain ⟨x, e2, r⟩ := q
      rw [hv] at e2
      cases e2
      exact ⟨F, fun _ h => h, Rep.less sub r⟩
    · rename_i ds hs
      cases e
      obtain ⟨a, xs, e2, e3, r⟩ := F.slot i _ hs
      rw [hv] at e2
      cases e2
      have rr : Rep k (Bd (Or2 M T) (env.set i (.val (.lst ds))) σ) H (.lst ds) (.ref a) := ⟨a, xs, rfl, hnew hs trivial rfl, e3, RepL.less (fun _ h => so h) r⟩
      exact ⟨F.freeze hv rr, fun _ h => own_set (s := .val _) (fun h => h) h, Rep.less (fun a h => h.elim (fun z => .inl (.inl z)) .inr) rr⟩
    · rename_i ks ds hs
      cases e
      obtain ⟨a, xs, e2, e3, hl, r⟩ := F.slot i _ hs
      rw [hv] at e2
      cases e2
      have rr : Rep k (Bd (Or2 M T) (env.set i (.val (.dic ks ds))) σ) H (.dic ks ds) (.ref a) := ⟨a, xs, rfl, hnew hs trivial rfl, e3, hl, RepL.less (fun _ h => so h) r⟩
      exact ⟨F.freeze hv rr, fun _ h => own_set (s := .val _) (fun h => h) h, Rep.less (fun a h => h.elim (fun z => .inl (.inl z)) .inr) rr⟩
    · cases e
/-- an operand under fewer own slots -/
theorem OpdOk.less {B B' : APred} {r : ER} {v : V} (h : ∀ a, B' a → B a) (o : OpdOk k B T σ H r v) : OpdOk k B' T σ H r v := by
  cases r with
  | val d => exact Rep.less h o
  | own ds =>
    obtain ⟨p, xs, e1, tp, e2, r⟩ := o
    exact ⟨p, xs, e1, tp, e2, RepL.less h r⟩
  | ownd ks ds =>
    obtain ⟨p, xs, e1, tp, e2, hl, r⟩ := o
    exact ⟨p, xs, e1, tp, e2, hl, RepL.less h r⟩
  | ref i => exact o
theorem OpdL.less {B B' : APred} (h : ∀ a, B' a → B a) : ∀ {rs : List ER} {vs : List V}, OpdL k B T σ H rs vs → OpdL k B' T σ H rs vs
  | [], _, o => o
  | r :: rs, _, o => by
    obtain ⟨y, ys, e, h1, h2⟩ := o
    exact ⟨y, ys, e, h1.less h, OpdL.less h h2⟩
theorem frzL_ok (tm : ∀ a, T a → ¬ M a) : ∀ {rs : List ER} {vs : List V} {ds : List D} {env e2 : Ev}, Fr k (Or2 M T) L H0 env σ H → OpdL k (Bd (Or2 M T) env σ) T σ H rs vs → frzL env rs = some (ds, e2) →
    Fr k (Or2 M T) L H0 e2 σ H ∧ (∀ a, OwnA e2 σ a → OwnA env σ a) ∧ RepL k (Bd M e2 σ) H ds vs
  | [], _, _, env, e2, F, h, e => by
    cases e
    exact ⟨F, fun _ h => h, h⟩
  | r :: rs, _, ds, env, e2, F, h, e => by
    obtain ⟨y, ys, rfl, h1, h2⟩ := h
    unfold frzL at e
    split at e
    · rename_i d e1 q1
      split at e
      · rename_i es e3 q2
        cases e
        obtain ⟨F1, s1, r1⟩ := frz_ok F tm h1 q1
        have sb : ∀ a, Bd (Or2 M T) e1 σ a → Bd (Or2 M T) env σ a := fun a h => h.elim .inl fun z => .inr (s1 a z)
        obtain ⟨F2, s2, r2⟩ := frzL_ok tm F1 (h2.less sb) q2
        exact ⟨F2, fun a h => s1 a (s2 a h), y, ys, rfl, Rep.less (fun a h => h.elim .inl fun z => .inr (s2 a z)) r1, r2⟩
      · cases e
    · cases e
/-- behind freezing: nothing is left that is hidden and has no slot -/
theorem APost.freeze {rs : List ER} {vs : List V} {ds : List D} (P : APost k M L H0 env σ rs vs H) (e : frzL env rs = some (ds, e2)) : Fr k M L H0 e2 σ H ∧ RepL k (Bd M e2 σ) H ds vs := by
  obtain ⟨T, P, o⟩ := P
  obtain ⟨F, s, r⟩ := frzL_ok (fun a h => (P.tf a h).2.1) P.fr o e
  exact ⟨F.less (fun a h => .inl h) P.lm, r⟩
theorem EPost.freeze {r : ER} {v : V} {d : D} (P : EPost k M L H0 env σ r v H) (e : frz env r = some (d, e2)) : Fr k M L H0 e2 σ H ∧ Rep k (Bd M e2 σ) H d v := by
  obtain ⟨T, P, o⟩ := P
  obtain ⟨F, s, r⟩ := frz_ok P.fr (fun a h => (P.tf a h).2.1) o e
  exact ⟨F.less (fun a h => .inl h) P.lm, r⟩
theorem EPost.val {d : D} {v : V} (F : Fr k M L H0 env σ H) (r : Rep k (Bd M env σ) H d v) : EPost k M L H0 env σ (.val d) v H := ⟨NoA, Post.start F, by rw [or2_no]; exact r⟩
theorem EPost.ref {i : Nat} {v : V} (F : Fr k M L H0 env σ H) (r : σ[i]? = some (some v)) : EPost k M L H0 env σ (.ref i) v H := ⟨NoA, Post.start F, r⟩
theorem EPost.fr {r : ER} {v : V} (P : EPost k M L H0 env σ r v H) : Fr k M L H0 env σ H := let ⟨T, P, _⟩ := P; P.drop
end

/-! ### expressions -/
section
variable (k : KX) (C : Cx → Prop)
def SE (e : Expr) (ie : IE) : Prop := ∃ te : TE, (∀ X, C X → PE X e te) ∧ ∀ (M : APred) (L : LN) (H0 : Hp) (env : Ev) (σ : St) (H : Hp) (Q : VK) (W : ER → Ev → Prop),
  Fr k M L H0 env σ H → wE ie env W → (∀ r env' v H', W r env' → EPost k M L H0 env' σ r v H' → Q v H') → te σ H Q
def SA (es : List Expr) (ies : List IE) : Prop := ∃ ta : TA, (∀ X, C X → PA X es ta) ∧ ∀ (M : APred) (L : LN) (H0 : Hp) (env : Ev) (σ : St) (H : Hp) (Q : List V → Hp → Prop) (W : List ER → Ev → Prop),
  Fr k M L H0 env σ H → wA ies env W → (∀ rs env' vs H', W rs env' → APost k M L H0 env' σ rs vs H' → Q vs H') → ta σ H Q
def ST (e : Expr) (t : IT) : Prop := ∃ tt : TT, (∀ X, C X → PT X e tt) ∧ ∀ (M : APred) (L : LN) (H0 : Hp) (env : Ev) (σ : St) (H : Hp) (Q : Bool → Hp → Prop) (W : Bool → Ev → Prop),
  Fr k M L H0 env σ H → wT t env W → (∀ b env' H', W b env' → Fr k M L H0 env' σ H' → Q b H') → tt σ H Q
/-- .. whatever its whole is -/
def SW (e : Expr) (t : IT) : Prop := ∃ tt : TT, (∀ X, C X → L2.PW X e tt) ∧ ∀ (M : APred) (L : LN) (H0 : Hp) (env : Ev) (σ : St) (H : Hp) (Q : Bool → Hp → Prop) (W : Bool → Ev → Prop),
  Fr k M L H0 env σ H → wT t env W → (∀ b env' H', W b env' → Fr k M L H0 env' σ H' → Q b H') → tt σ H Q
end
def IE.isStar : IE → Bool
  | .star _ => true
  | _ => false
section
variable {k : KX} {C : Cx → Prop} {e a b c : Expr} {es : List Expr} {ie ia ib ic : IE} {ies : List IE} {pos : Pos} {t u : IT}
theorem SW.st (h : SW k C e t) : ST k C e t := let ⟨tt, h1, h2⟩ := h; ⟨tt, fun X c => (h1 X c).pt, h2⟩
theorem wA_cons (h : ie.isStar = false) (env : Ev) (Q : List ER → Ev → Prop) : wA (ie :: ies) env Q = wE ie env fun r e1 => wA ies e1 fun rs e2 => Q (r :: rs) e2 := by
  cases ie <;> first | rfl | cases h
theorem sa_nil : SA k C [] [] := ⟨tNil, fun X _ => pa_nil, fun M L H0 env σ H Q W F w q => q [] env [] H w ⟨NoA, Post.start F, rfl⟩⟩
theorem sa_cons (h1 : SE k C e ie) (h2 : SA k C es ies) (hn : ie.isStar = false) (hs : ∀ X, C X → starEach (e :: es) X.env = (false, eval e X.env) :: starEach es X.env) : SA k C (e :: es) (ie :: ies) := by
  obtain ⟨te, p1, r1⟩ := h1
  obtain ⟨ta, p2, r2⟩ := h2
  refine ⟨tCons te ta, fun X c => pa_cons (p1 X c) (p2 X c) (hs X c), fun M L H0 env σ H Q W F w q => ?_⟩
  rw [wA_cons hn] at w
  refine r1 M L H0 env σ H _ _ F w fun r env1 v H1 w1 P1 => ?_
  obtain ⟨T, P1, o1⟩ := P1
  refine r2 (Or2 M T) L (maskH (OwnA env1 σ) H1) env1 σ H1 _ _ P1.fr.pin w1 fun rs env2 vs H2 w2 P2 => ?_
  obtain ⟨T2, P2, o2⟩ := P2
  refine q (r :: rs) env2 (v :: vs) H2 w2 ⟨Or2 T T2, P1.trans P2, v, vs, rfl, OpdOk.grow P1 P2 o1, ?_⟩
  rw [← bd_assoc]
  have up : ∀ {rs : List ER} {vs : List V}, OpdL k (Bd (Or2 (Or2 M T) T2) env2 σ) T2 σ H2 rs vs → OpdL k (Bd (Or2 (Or2 M T) T2) env2 σ) (Or2 T T2) σ H2 rs vs := by
    intro rs
    induction rs with
    | nil => exact fun h => h
    | cons r rs ih =>
      rintro vs ⟨y, ys, e, h1, h2⟩
      refine ⟨y, ys, e, ?_, ih h2⟩
      cases r with
      | val d => exact h1
      | own ds =>
        obtain ⟨p, xs, e1, tp, r⟩ := h1
        exact ⟨p, xs, e1, .inr tp, r⟩
      | ownd ks ds =>
        obtain ⟨p, xs, e1, tp, r⟩ := h1
        exact ⟨p, xs, e1, .inr tp, r⟩
      | ref i => exact h1
  exact up o2
theorem seq_rep {B : APred} {H : Hp} {d : D} {ds : List D} {v : V} (hn : ∀ s, d ≠ .str s) (h : RepP k B H d v) (e : seqD d = some ds) : ∃ p xs, v = V.ref p ∧ (SqT k.K H p xs ∨ SqL k.K H p xs) ∧ RepL k B H ds xs := by
  cases d with
  | lst es =>
    cases e
    obtain ⟨a, xs, e1, e2, r⟩ := h
    exact ⟨a, xs, e1, .inr (SqL.of e2), r⟩
  | frl es =>
    cases e
    obtain ⟨a, xs, e1, e2, r⟩ := h
    exact ⟨a, xs, e1, .inr e2.sq, r⟩
  | tup es =>
    cases e
    obtain ⟨a, xs, e1, e2, r⟩ := h
    exact ⟨a, xs, e1, .inl e2.sq, r⟩
  | str s => exact absurd rfl (hn s)
  | _ => cases e
theorem opdL_vals {B T : APred} {σ : St} {H : Hp} : ∀ {ds : List D} {xs : List V} {rs : List ER} {vs : List V}, RepL k B H ds xs → OpdL k B T σ H rs vs → OpdL k B T σ H (ds.map ER.val ++ rs) (xs ++ vs)
  | [], _, _, _, h, q => by
    rw [show _ = [] from h]
    exact q
  | d :: ds, _, _, _, h, q => by
    obtain ⟨y, ys, rfl, h1, h2⟩ := h
    exact ⟨y, _, rfl, h1, opdL_vals h2 q⟩
theorem sa_star {sp : Pos} (hk : ∀ X, C X → X.K = k.K) (h1 : SE k C e ie) (h2 : SA k C es ies) : SA k C (.Starred e sp :: es) (.star ie :: ies) := by
  obtain ⟨te, p1, r1⟩ := h1
  obtain ⟨ta, p2, r2⟩ := h2
  refine ⟨StX.tStar k.K te ta, fun X c => by rw [← hk X c]; exact StX.pa_star (p1 X c) (p2 X c) rfl, fun M L H0 env σ H Q W F w q => ?_⟩
  refine r1 M L H0 env σ H _ _ F w fun r env1 v H1 w1 P1 => ?_
  obtain ⟨T, P1, o1⟩ := P1
  obtain ⟨d, ds, hd, hs, hn, w1⟩ := w1
  have rp := deref_ok P1.fr o1 hd
  obtain ⟨p, xs, e1, hq, rl⟩ := seq_rep hn rp hs
  refine ⟨p, xs, e1, hq, ?_⟩
  refine r2 (Or2 M T) L (maskH (OwnA env1 σ) H1) env1 σ H1 _ _ P1.fr.pin w1 fun rs env2 vs H2 w2 P2 => ?_
  obtain ⟨T2, P2, o2⟩ := P2
  have g := P1.grow P2
  rw [bd_assoc] at g
  refine q _ env2 _ H2 w2 ⟨Or2 T T2, P1.trans P2, opdL_vals (RepL.grow g _ _ rl) ?_⟩
  rw [← bd_assoc]
  have up : ∀ {rs : List ER} {vs : List V}, OpdL k (Bd (Or2 (Or2 M T) T2) env2 σ) T2 σ H2 rs vs → OpdL k (Bd (Or2 (Or2 M T) T2) env2 σ) (Or2 T T2) σ H2 rs vs := by
    intro rs
    induction rs with
    | nil => exact fun h => h
    | cons r rs ih =>
      rintro vs ⟨y, ys, e, h1, h2⟩
      refine ⟨y, ys, e, ?_, ih h2⟩
      cases r with
      | val d => exact h1
      | own ds =>
        obtain ⟨p, xs, e1, tp, r⟩ := h1
        exact ⟨p, xs, e1, .inr tp, r⟩
      | ownd ks ds =>
        obtain ⟨p, xs, e1, tp, r⟩ := h1
        exact ⟨p, xs, e1, .inr tp, r⟩
      | ref i => exact h1
  exact up o2
theorem se_var {i : Nat} {x : Str} (h : ∀ X, C X → PE X (.Name x pos) (tVar i)) : SE k C (.Name x pos) (.var i) := by
  refine ⟨tVar i, h, fun M L H0 env σ H Q W F w q => ?_⟩
  unfold wE at w
  have val : ∀ {s : Slot}, env[i]? = some s → s ≠ .un → ∃ v, σ[i]? = some (some v) := fun {s} hs hn => by
    have f := F.slot i s hs
    cases s with
    | un => exact absurd rfl hn
    | val d =>
      obtain ⟨v, e, _⟩ := f
      exact ⟨v, e⟩
    | own ds =>
      obtain ⟨a, xs, e, _⟩ := f
      exact ⟨_, e⟩
    | ownd ks ds =>
      obtain ⟨a, xs, e, _⟩ := f
      exact ⟨_, e⟩
    | lnt ds =>
      obtain ⟨a, xs, e, _⟩ := f
      exact ⟨_, e⟩
    | bor ds =>
      obtain ⟨a, xs, e, _⟩ := f
      exact ⟨_, e⟩
  split at w
  · rename_i d hs
    obtain ⟨v, e, r⟩ := F.slot i _ hs
    exact ⟨v, e, q _ _ _ _ w (EPost.val F r)⟩
  · rename_i hs
    obtain ⟨v, e⟩ := val hs (fun z => by cases z)
    exact ⟨v, e, q _ _ _ _ w (EPost.ref F e)⟩
  · rename_i hs
    obtain ⟨v, e⟩ := val hs (fun z => by cases z)
    exact ⟨v, e, q _ _ _ _ w (EPost.ref F e)⟩
  · rename_i hs
    obtain ⟨v, e⟩ := val hs (fun z => by cases z)
    exact ⟨v, e, q _ _ _ _ w (EPost.ref F e)⟩
  · rename_i hs
    obtain ⟨v, e⟩ := val hs (fun z => by cases z)
    exact ⟨v, e, q _ _ _ _ w (EPost.ref F e)⟩
  · exact w.elim
/-- a constant, a thing of the module -/
theorem se_cst {d : D} {v : V} (h : ∀ X, C X → PE X e (tC v)) (hr : ∀ B H, Rep k B H d v) : SE k C e (.cst d) :=
  ⟨tC v, h, fun M L H0 env σ H Q W F w q => q _ _ _ _ w (EPost.val F (hr _ _))⟩
/-- by a primitive -/
def tPr (k : KX) (p : PW) (ta : TA) : TE := fun σ H Q => ta σ H fun vs H1 => rP k p vs H1 Q
theorem se_prim {p : PW} {te : TE} (h : SA k C es ies) (pe : ∀ ta, (∀ X, C X → PA X es ta) → ∃ te : TE, (∀ X, C X → PE X e te) ∧ ∀ σ H Q, tPr k p ta σ H Q → te σ H Q) : SE k C e (.prim p ies) := by
  obtain ⟨ta, h1, h2⟩ := h
  obtain ⟨te, p1, p2⟩ := pe ta h1
  refine ⟨te, p1, fun M L H0 env σ H Q W F w q => p2 σ H Q (h2 M L H0 env σ H _ _ F w fun rs env1 vs H1 w1 P => ?_)⟩
  obtain ⟨T, P, o⟩ := P
  obtain ⟨ds, hd, w1⟩ := w1
  exact ⟨Bd (Or2 M T) env1 σ, ds, fun r => W r env1, P.tracked, derefL_ok P.fr o hd, w1, fun r v H' wr pp => q r env1 v H' wr (prim_post P pp)⟩
/-- two operands in a row, as arguments -/
theorem sa_two (h1 : SE k C a ia) (h2 : SE k C b ib) (n1 : ia.isStar = false) (n2 : ib.isStar = false) : ∃ ta tb : TE, (∀ X, C X → PE X a ta) ∧ (∀ X, C X → PE X b tb) ∧
    ∀ (M : APred) (L : LN) (H0 : Hp) (env : Ev) (σ : St) (H : Hp) (Q : List V → Hp → Prop) (W : List ER → Ev → Prop), Fr k M L H0 env σ H → wA [ia, ib] env W →
      (∀ rs env' vs H', W rs env' → APost k M L H0 env' σ rs vs H' → Q vs H') → tCons ta (tCons tb tNil) σ H Q := by
  obtain ⟨ta, p1, r1⟩ := h1
  obtain ⟨tb, p2, r2⟩ := h2
  refine ⟨ta, tb, p1, p2, fun M L H0 env σ H Q W F w q => ?_⟩
  rw [wA_cons n1] at w
  refine r1 M L H0 env σ H _ _ F w fun r env1 v H1 w1 P1 => ?_
  obtain ⟨T, P1, o1⟩ := P1
  rw [wA_cons n2] at w1
  refine r2 (Or2 M T) L (maskH (OwnA env1 σ) H1) env1 σ H1 _ _ P1.fr.pin w1 fun s env2 u H2 w2 P2 => ?_
  obtain ⟨T2, P2, o2⟩ := P2
  refine q _ env2 _ H2 w2 ⟨Or2 T T2, P1.trans P2, v, [u], rfl, OpdOk.grow P1 P2 o1, u, [], rfl, ?_, rfl⟩
  rw [← bd_assoc]
  cases s with
  | val d => exact o2
  | own ds =>
    obtain ⟨p, xs, e1, tp, r⟩ := o2
    exact ⟨p, xs, e1, .inr tp, r⟩
  | ownd ks ds =>
    obtain ⟨p, xs, e1, tp, r⟩ := o2
    exact ⟨p, xs, e1, .inr tp, r⟩
  | ref i => exact o2
theorem se_op2 {p : PW} (h1 : SE k C a ia) (h2 : SE k C b ib) (n1 : ia.isStar = false) (n2 : ib.isStar = false) (pe : ∀ X, C X → ∀ ta tb, PE X a ta → PE X b tb → PE X e (tOp (rP2 k p) ta tb)) : SE k C e (.prim p [ia, ib]) := by
  obtain ⟨ta, tb, p1, p2, r⟩ := sa_two h1 h2 n1 n2
  refine ⟨tOp (rP2 k p) ta tb, fun X c => pe X c ta tb (p1 X c) (p2 X c), fun M L H0 env σ H Q W F w q => ?_⟩
  show tCons ta (tCons tb tNil) σ H (fun vs H1 => rP k p vs H1 Q)
  refine r M L H0 env σ H _ _ F w fun rs env1 vs H1 w1 P => ?_
  obtain ⟨T, P, o⟩ := P
  obtain ⟨ds, hd, w1⟩ := w1
  exact ⟨Bd (Or2 M T) env1 σ, ds, fun r => W r env1, P.tracked, derefL_ok P.fr o hd, w1, fun r v H' wr pp => q r env1 v H' wr (prim_post P pp)⟩
theorem se_op1 {p : PW} (h1 : SE k C a ia) (n1 : ia.isStar = false) (pe : ∀ X, C X → ∀ ta, PE X a ta → PE X e (fun σ H Q => ta σ H fun x H1 => rP k p [x] H1 Q)) : SE k C e (.prim p [ia]) := by
  obtain ⟨ta, p1, r1⟩ := h1
  refine ⟨_, fun X c => pe X c ta (p1 X c), fun M L H0 env σ H Q W F w q => ?_⟩
  unfold wE at w
  rw [wA_cons n1] at w
  refine r1 M L H0 env σ H _ _ F w fun r env1 v H1 w1 P => ?_
  obtain ⟨T, P, o⟩ := P
  obtain ⟨ds, hd, w1⟩ := w1
  exact ⟨Bd (Or2 M T) env1 σ, ds, fun r => W r env1, P.tracked, derefL_ok P.fr (rs := [r]) (vs := [v]) ⟨v, [], rfl, o, rfl⟩ hd, w1, fun r v H' wr pp => q r env1 v H' wr (prim_post P pp)⟩
theorem bl_rep {M T : APred} {L : LN} {H0 H : Hp} {env : Ev} {σ : St} {c : Bool} {v : V} (P : EPost k M L H0 env σ (.val (.bl c)) v H) : v = .bl c := let ⟨_, _, o⟩ := P; o
theorem se_and {rest : List Expr} (h1 : SE k C a ia) (h2 : SE k C (.BoolOp .And (b :: rest) pos) ib) : SE k C (.BoolOp .And (a :: b :: rest) pos) (.and ia ib) := by
  obtain ⟨ta, p1, r1⟩ := h1
  obtain ⟨tb, p2, r2⟩ := h2
  refine ⟨tAndV ta tb, fun X c => pe_and (p1 X c) (p2 X c), fun M L H0 env σ H Q W F w q => ?_⟩
  refine r1 M L H0 env σ H _ _ F w fun r env1 v H1 w1 P => ?_
  obtain ⟨c, e, w1⟩ := w1
  subst e
  refine ⟨c, bl_rep (T := NoA) P, ?_⟩
  cases c with
  | true => exact r2 M L H0 env1 σ H1 _ _ P.fr w1 q
  | false => exact q _ _ _ _ w1 (EPost.val P.fr rfl)
theorem se_or {rest : List Expr} (h1 : SE k C a ia) (h2 : SE k C (.BoolOp .Or (b :: rest) pos) ib) : SE k C (.BoolOp .Or (a :: b :: rest) pos) (.or ia ib) := by
  obtain ⟨ta, p1, r1⟩ := h1
  obtain ⟨tb, p2, r2⟩ := h2
  refine ⟨tOrV ta tb, fun X c => pe_or (p1 X c) (p2 X c), fun M L H0 env σ H Q W F w q => ?_⟩
  refine r1 M L H0 env σ H _ _ F w fun r env1 v H1 w1 P => ?_
  obtain ⟨c, e, w1⟩ := w1
  subst e
  refine ⟨c, bl_rep (T := NoA) P, ?_⟩
  cases c with
  | true => exact q _ _ _ _ w1 (EPost.val P.fr rfl)
  | false => exact r2 M L H0 env1 σ H1 _ _ P.fr w1 q
theorem se_one {op : BoolOp} (h1 : SE k C a ia) : SE k C (.BoolOp op [a] pos) ia := by
  obtain ⟨ta, p1, r1⟩ := h1
  exact ⟨ta, fun X c => pe_one (p1 X c), r1⟩
theorem se_not (h1 : SE k C a ia) : SE k C (.UnaryOp .Not a pos) (.not ia) := by
  obtain ⟨ta, p1, r1⟩ := h1
  refine ⟨tNotV ta, fun X c => pe_not (p1 X c), fun M L H0 env σ H Q W F w q => ?_⟩
  refine r1 M L H0 env σ H _ _ F w fun r env1 v H1 w1 P => ?_
  obtain ⟨c, e, w1⟩ := w1
  subst e
  exact ⟨c, bl_rep (T := NoA) P, q _ _ _ _ w1 (EPost.val P.fr rfl)⟩
theorem se_ite (h : ST k C c t) (h1 : SE k C a ia) (h2 : SE k C b ib) : SE k C (.IfExp c a b pos) (.ite t ia ib) := by
  obtain ⟨tc, p0, r0⟩ := h
  obtain ⟨ta, p1, r1⟩ := h1
  obtain ⟨tb, p2, r2⟩ := h2
  refine ⟨tIf tc ta tb, fun X c => pe_ifExp (p0 X c) (p1 X c) (p2 X c), fun M L H0 env σ H Q W F w q => ?_⟩
  refine r0 M L H0 env σ H _ _ F w fun z env1 H1 w1 F1 => ?_
  cases z with
  | true => exact r1 M L H0 env1 σ H1 _ _ F1 w1 q
  | false => exact r2 M L H0 env1 σ H1 _ _ F1 w1 q
theorem tup_post {M : APred} {L : LN} {H0 H : Hp} {env : Ev} {σ : St} {ds : List D} {vs : List V} {p : Addr} (F : Fr k M L H0 env σ H) (r : RepL k (Bd M env σ) H ds vs) (hn : H p = none) : EPost k M L H0 env σ (.val (.tup ds)) (.ref p) (upd H p (.tup vs)) := by
  have P := Post.start F
  refine prim_post P ?_
  rw [or2_no]
  exact pp_tup (fun a h => F.bd_tracked h) hn r
theorem se_tup {x1 : Nat} (h : SA k C es ies) : SE k C (.Tuple es x1 pos) (.tup ies) := by
  obtain ⟨ta, h1, h2⟩ := h
  refine ⟨tTup ta, fun X c => pe_tup (h1 X c), fun M L H0 env σ H Q W F w q => h2 M L H0 env σ H _ _ F w fun rs env1 vs H1 w1 P => ?_⟩
  obtain ⟨ds, e2, hf, hl, w1⟩ := w1
  obtain ⟨F2, r⟩ := P.freeze hf
  refine ⟨sz5 (by rw [← r.len]; exact hl), fun p hn => q _ _ _ _ w1 (tup_post F2 r hn)⟩
theorem se_lst (h : SA k C es ies) : SE k C (.List es pos) (.lst ies) := by
  obtain ⟨ta, h1, h2⟩ := h
  refine ⟨tLst ta, fun X c => pe_lst (h1 X c), fun M L H0 env σ H Q W F w q => h2 M L H0 env σ H _ _ F w fun rs env1 vs H1 w1 P => ?_⟩
  obtain ⟨ds, e2, hf, hl, w1⟩ := w1
  obtain ⟨F2, r⟩ := P.freeze hf
  refine ⟨sz5 (by rw [← r.len]; exact hl), fun p hn => q _ _ _ _ w1 (prim_post (Post.start F2) ?_)⟩
  rw [or2_no]
  exact pp_own hn r
/-- a one-place expression whose value goes on -/
theorem st_not (h : ST k C a t) : ST k C (.UnaryOp .Not a pos) (.not t) := by
  obtain ⟨tt, p, r⟩ := h
  exact ⟨tNot tt, fun X c => pt_not (p X c), fun M L H0 env σ H Q W F w q => r M L H0 env σ H _ _ F w fun z env1 H1 w1 F1 => q _ _ _ w1 F1⟩
theorem sw_and {rest : List Expr} (h1 : ST k C a t) (h2 : SW k C (.BoolOp .And (b :: rest) pos) u) : SW k C (.BoolOp .And (a :: b :: rest) pos) (.and t u) := by
  obtain ⟨ta, p1, r1⟩ := h1
  obtain ⟨tb, p2, r2⟩ := h2
  refine ⟨tAnd ta tb, fun X c => pw_and (p1 X c) (p2 X c), fun M L H0 env σ H Q W F w q => r1 M L H0 env σ H _ _ F w fun z env1 H1 w1 F1 => ?_⟩
  cases z with
  | true => exact r2 M L H0 env1 σ H1 _ _ F1 w1 q
  | false => exact q _ _ _ w1 F1
theorem sw_or {rest : List Expr} (h1 : ST k C a t) (h2 : SW k C (.BoolOp .Or (b :: rest) pos) u) : SW k C (.BoolOp .Or (a :: b :: rest) pos) (.or t u) := by
  obtain ⟨ta, p1, r1⟩ := h1
  obtain ⟨tb, p2, r2⟩ := h2
  refine ⟨tOr ta tb, fun X c => pw_or (p1 X c) (p2 X c), fun M L H0 env σ H Q W F w q => r1 M L H0 env σ H _ _ F w fun z env1 H1 w1 F1 => ?_⟩
  cases z with
  | true => exact q _ _ _ w1 F1
  | false => exact r2 M L H0 env1 σ H1 _ _ F1 w1 q
theorem sw_one_and (h1 : ST k C a t) : SW k C (.BoolOp .And [a] pos) t := let ⟨tt, p, r⟩ := h1; ⟨tt, fun X c => pw_and1 (p X c), r⟩
theorem sw_one_or (h1 : ST k C a t) : SW k C (.BoolOp .Or [a] pos) t := let ⟨tt, p, r⟩ := h1; ⟨tt, fun X c => pw_or1 (p X c), r⟩
/-- the value's truth -/
theorem truD_ok {B : APred} {H : Hp} {d : D} {v : V} {z : Bool} (h : RepP k B H d v) (e : truD d = some z) : TruV k.K v H z := by
  have emp : ∀ {es : List D} {xs : List V}, RepL k B H es xs → (!es.isEmpty) = !xs.isEmpty := fun {es xs} r => by
    cases es with
    | nil => rw [show xs = [] from r]; rfl
    | cons d es =>
      obtain ⟨y, ys, e, _⟩ := r
      rw [e]
      rfl
  cases d with
  | non =>
    cases e
    rw [show v = V.non from h]
    rfl
  | bl b =>
    cases e
    rw [show v = V.bl z from h]
    rfl
  | int i =>
    cases e
    rw [show v = V.int i from h]
    rfl
  | str s =>
    rw [show v = V.str s from h]
    dsimp only [truD] at e
    split at e
    · rename_i hl
      cases e
      exact ⟨sz5 hl, rfl⟩
    · cases e
  | tup es =>
    cases e
    obtain ⟨a, xs, e1, e2, r⟩ := h
    rw [e1, emp r]
    exact .inr (.inl ⟨xs, e2.sq, rfl⟩)
  | lst es =>
    cases e
    obtain ⟨a, xs, e1, e2, r⟩ := h
    rw [e1, emp r]
    exact .inl ⟨xs, SqL.of e2, rfl⟩
  | frl es =>
    cases e
    obtain ⟨a, xs, e1, e2, r⟩ := h
    rw [e1, emp r]
    exact .inl ⟨xs, e2.sq, rfl⟩
  | dic _ _ => cases e
  | obj _ _ => cases e
/-- a value whose truth is asked -/
theorem st_tv (h : SE k C a ia) (hk : ∀ X, C X → X.K = k.K) (he : ∀ X, C X → ∀ whole, isTrue a X.env whole = (do let v ← whole; standAt a.pos; holding [v] (truthy v))) : ST k C a (.tv ia) := by
  obtain ⟨ta, p, r⟩ := h
  refine ⟨fun σ H Q => ta σ H fun x H' => ∃ z, TruV k.K x H' z ∧ Q z H', fun X c => by rw [← hk X c]; exact pt_truth (p X c) (he X c), fun M L H0 env σ H Q W F w q => ?_⟩
  refine r M L H0 env σ H _ _ F w fun r env1 v H1 w1 P => ?_
  obtain ⟨d, z, hd, hz, w1⟩ := w1
  obtain ⟨T, P, o⟩ := P
  exact ⟨z, truD_ok (deref_ok P.fr o hd) hz, q z env1 H1 w1 P.drop⟩
/-- a comparison as a test -/
theorem st_cmp {op : CmpOp} {p : PW} (h1 : SE k C a ia) (h2 : SE k C b ib) (n1 : ia.isStar = false) (n2 : ib.isStar = false) (ho : ∀ X, C X → OpR X (compareOp op) (rP2 k p)) (hb : behindInMarks op b = false) :
    ST k C (.Compare a [op] [b] pos) (.bv (.prim p [ia, ib])) := by
  obtain ⟨ta, tb, p1, p2, r⟩ := sa_two h1 h2 n1 n2
  refine ⟨tTest (tOp (rP2 k p) ta tb), fun X c => pt_cmpR (ho X c) (p1 X c) (p2 X c) hb, fun M L H0 env σ H Q W F w q => ?_⟩
  show tCons ta (tCons tb tNil) σ H (fun vs H1 => rP k p vs H1 fun x H2 => ∃ z, x = .bl z ∧ Q z H2)
  refine r M L H0 env σ H _ _ F w fun rs env1 vs H1 w1 P => ?_
  obtain ⟨T, P, o⟩ := P
  obtain ⟨ds, hd, w1⟩ := w1
  refine ⟨Bd (Or2 M T) env1 σ, ds, _, P.tracked, derefL_ok P.fr o hd, w1, fun r v H' wr pp => ?_⟩
  obtain ⟨z, e, w2⟩ := wr
  subst e
  have P2 := prim_post P pp
  exact ⟨z, bl_rep (T := NoA) P2, q z env1 H' w2 P2.fr⟩
/-- a bool -/
theorem st_bool (h : SE k C a ia) (he : ∀ X, C X → ∀ whole, isTrue a X.env whole = (do let v ← whole; standAt a.pos; holding [v] (truthy v))) : ST k C a (.bv ia) := by
  obtain ⟨ta, p, r⟩ := h
  refine ⟨tB ta, fun X c => pt_val (p X c) (he X c), fun M L H0 env σ H Q W F w q => ?_⟩
  refine r M L H0 env σ H _ _ F w fun r env1 v H1 w1 P => ?_
  obtain ⟨z, e, w1⟩ := w1
  subst e
  exact ⟨z, bl_rep (T := NoA) P, q z env1 H1 w1 P.fr⟩
end
end VL
namespace VL
open PySem PySem.Spec L2

/-! ## frames: stores, changes, walks -/
section
variable {k : KX} {M M1 M2 T : APred} {L : LN} {H0 H H1 H2 H' : Hp} {env env' e1 e2 : Ev} {σ σ1 σ2 : St}
theorem Fr.growS (F1 : Fr k M1 L H0 e1 σ1 H1) (F2 : Fr k M2 L (maskH (OwnA e1 σ1) H1) e2 σ2 H2) (hm : ∀ a, M2 a → M1 a ∨ H1 a = none) : Grow (Bd M1 e1 σ1) (Bd M2 e2 σ2) H1 H2 where
  kp := fun a o nb h => by
    refine F2.keep a o ?_ fun z => nb (.inl (F1.lm a z))
    rw [maskH_of fun z => nb (.inr z)]
    exact h
  nb := fun a h => by
    rcases h with h | h
    · exact (hm a h).elim (fun z => .inl (.inl z)) .inr
    · rcases maskH_none (F2.fresh a h).1 with z | z
      · exact .inl (.inr z)
      · exact .inr z
theorem Fr.rebaseS (F1 : Fr k M1 L H0 e1 σ1 H1) (F2 : Fr k M2 L (maskH (OwnA e1 σ1) H1) e2 σ2 H2) (hm : ∀ a, M1 a → M2 a) : Fr k M2 L H0 e2 σ2 H2 :=
  ⟨F2.len, F2.slot, F2.inj, F2.linj, fun a h => ⟨F1.base_none (F2.fresh a h).1 fun z => (F2.fresh a h).2.1 (hm a z), (F2.fresh a h).2⟩, F2.lm, F2.ln, F2.mt, F2.nt, fun a o h nl => by
    have e := F1.keep a o h nl
    refine F2.keep a o ?_ nl
    rw [maskH_of fun z => by rw [(F1.fresh a z).1] at h; cases h]
    exact e⟩
/-- a slot's value is written anew -/
theorem has_put {p : Slot → Prop} {i j : Nat} {s : Slot} {v : V} {a : Addr} (h : HasA p (env.set i s) (σ.set i (some v)) j a) : (j ≠ i ∧ HasA p env σ j a) ∨ (j = i ∧ p s ∧ v = .ref a) := by
  obtain ⟨t, e, pt, ev⟩ := h
  by_cases z : i = j
  · subst z
    have hl : i < env.length := by
      rcases Nat.lt_or_ge i env.length with h | h
      · exact h
      · rw [List.getElem?_eq_none (by simpa using h)] at e
        cases e
    have hl2 : i < σ.length := by
      rcases Nat.lt_or_ge i σ.length with h | h
      · exact h
      · rw [List.getElem?_eq_none (by simpa using h)] at ev
        cases ev
    rw [List.getElem?_set_self hl] at e
    rw [List.getElem?_set_self hl2] at ev
    cases e
    cases ev
    exact .inr ⟨rfl, pt, rfl⟩
  · rw [List.getElem?_set_ne z] at e ev
    exact .inl ⟨fun q => z q.symm, t, e, pt, ev⟩
theorem Fr.put (F : Fr k (Or2 M T) L H0 env σ H) (lm : ∀ a, L.l a → M a) (tf : ∀ a, T a → H0 a = none ∧ ¬ M a ∧ ¬ L.n a) {i : Nat} {s : Slot} {v : V} (nl : ¬ s.isLnt)
    (ho : s.isOwn → ∃ p, v = .ref p ∧ T p) (hs : ∀ B : APred, (∀ a, B a → Bd (Or2 M T) env σ a) → (∀ p, T p → v ≠ .ref p → True) → (s.isOwn ∨ ∀ a, B a → Bd M env σ a) → SlotOk k B L H s (some (some v))) :
    Fr k M L H0 (env.set i s) (σ.set i (some v)) H := by
  have sub : ∀ a, Bd M (env.set i s) (σ.set i (some v)) a → Bd (Or2 M T) env σ a := fun a h => by
    rcases h with h | ⟨j, h⟩
    · exact .inl (.inl h)
    · rcases has_put h with ⟨_, h⟩ | ⟨_, os, e⟩
      · exact .inr ⟨j, h⟩
      · obtain ⟨p, e2, tp⟩ := ho os
        rw [e] at e2
        cases e2
        exact .inl (.inr tp)
  refine ⟨by rw [List.length_set, List.length_set]; exact F.len, fun j t e => ?_, fun j l a h1 h2 => ?_, fun j l a h1 h2 => ?_, fun a h => ?_, lm, F.ln, fun a h => F.mt a (.inl h), F.nt, F.keep⟩
  · by_cases z : i = j
    · subst z
      have hl : i < env.length := by
        rcases Nat.lt_or_ge i env.length with h | h
        · exact h
        · rw [List.getElem?_eq_none (by simpa using h)] at e
          cases e
      rw [List.getElem?_set_self hl] at e
      cases e
      rw [List.getElem?_set_self (by rw [← F.len]; exact hl)]
      refine hs _ sub (fun _ _ _ => trivial) ?_
      by_cases os : s.isOwn
      · exact .inl os
      · refine .inr fun a h => ?_
        rcases h with h | ⟨j, h⟩
        · exact .inl h
        · rcases has_put h with ⟨_, h⟩ | ⟨_, os2, e⟩
          · exact .inr ⟨j, h⟩
          · exact absurd os2 os
    · rw [List.getElem?_set_ne z] at e ⊢
      exact (F.slot j t e).grow ⟨fun _ _ _ q => q, fun a q => .inl (sub a q)⟩ _ _ (fun _ _ _ _ q => q)
  · rcases has_put h1 with ⟨n1, h1⟩ | ⟨e1, os, ev⟩
    · rcases has_put h2 with ⟨n2, h2⟩ | ⟨e2, os, ev⟩
      · exact F.inj j l a h1 h2
      · obtain ⟨p, e3, tp⟩ := ho os
        rw [ev] at e3
        cases e3
        exact absurd (.inr tp) (F.fresh a ⟨j, h1⟩).2.1
    · rcases has_put h2 with ⟨n2, h2⟩ | ⟨e2, os, ev⟩
      · obtain ⟨p, e3, tp⟩ := ho os
        rw [ev] at e3
        cases e3
        exact absurd (.inr tp) (F.fresh a ⟨l, h2⟩).2.1
      · rw [e1, e2]
  · rcases has_put h1 with ⟨n1, h1⟩ | ⟨e1, os, ev⟩
    · rcases has_put h2 with ⟨n2, h2⟩ | ⟨e2, os, ev⟩
      · exact F.linj j l a h1 h2
      · exact absurd os nl
    · exact absurd os nl
  · obtain ⟨j, h⟩ := h
    rcases has_put h with ⟨n1, h1⟩ | ⟨e1, os, ev⟩
    · have f := F.fresh a ⟨j, h1⟩
      exact ⟨f.1, fun z => f.2.1 (.inl z), f.2.2⟩
    · obtain ⟨p, e3, tp⟩ := ho os
      rw [ev] at e3
      cases e3
      exact tf a tp
theorem Fr.put_val (F : Fr k M L H0 env σ H) {i : Nat} {d : D} {v : V} (r : Rep k (Bd M env σ) H d v) : Fr k M L H0 (env.set i (.val d)) (σ.set i (some v)) H := by
  have P := Post.start F
  refine P.fr.put P.lm P.tf (fun h => h) (fun h => h.elim) fun B h1 _ h2 => ⟨v, rfl, Rep.less (fun a h => ?_) r⟩
  rcases h2 with z | z
  · exact z.elim
  · exact z a h
theorem setS_eq {i : Nat} {s : Slot} (e : setS env i s = some e2) : e2 = env.set i s := by
  unfold setS at e
  split at e
  · cases e
  · cases e
    rfl
  · cases e
theorem store_ok' {i : Nat} {r : ER} {v : V} (P : EPost k M L H0 env σ r v H) (e : store env i r = some e2) : Fr k M L H0 e2 (σ.set i (some v)) H := by
  obtain ⟨T, P, o⟩ := P
  cases r with
  | val d =>
    rw [setS_eq e]
    refine P.fr.put P.lm P.tf (fun h => h) (fun h => h.elim) fun B h1 _ h2 => ⟨v, rfl, Rep.less h1 o⟩
  | own ds =>
    obtain ⟨p, xs, e1, tp, e2', r⟩ := o
    rw [setS_eq e]
    exact P.fr.put P.lm P.tf (fun h => h) (fun h => ⟨p, e1, tp⟩) fun B h1 _ h2 => ⟨p, xs, by rw [e1], e2', RepL.less h1 r⟩
  | ownd ks ds =>
    obtain ⟨p, xs, e1, tp, e2', hl, r⟩ := o
    rw [setS_eq e]
    exact P.fr.put P.lm P.tf (fun h => h) (fun h => ⟨p, e1, tp⟩) fun B h1 _ h2 => ⟨p, xs, by rw [e1], e2', hl, RepL.less h1 r⟩
  | ref j =>
    have e : (match frz env (.ref j) with | some (d, e1) => setS e1 i (.val d) | none => none) = some e2 := e
    split at e
    · rename_i d e1 q
      obtain ⟨F, r⟩ := EPost.freeze ⟨T, P, o⟩ q
      rw [setS_eq e]
      exact F.put_val r
    · cases e

/-! ### a change of what a slot holds -/
def MutA (env : Ev) (σ : St) (L : LN) (i : Nat) (a : Addr) : Prop := ∃ cs, mutCon env i = some cs ∧ σ[i]? = some (some (.ref a))
theorem mut_slot {i : Nat} {cs : List D} (e : mutCon env i = some cs) : env[i]? = some (.own cs) ∨ env[i]? = some (.lnt cs) := by
  unfold mutCon at e
  split at e
  · rename_i h
    cases e
    exact .inl h
  · rename_i h
    cases e
    exact .inr h
  · cases e
theorem mut_at (F : Fr k M L H0 env σ H) {i : Nat} {cs : List D} (e : mutCon env i = some cs) : ∃ a xs, σ[i]? = some (some (.ref a)) ∧ H a = some (.lst xs) ∧ RepL k (Bd M env σ) H cs xs ∧ Bd M env σ a := by
  rcases mut_slot e with h | h
  · obtain ⟨a, xs, e1, e2, r⟩ := F.slot i _ h
    exact ⟨a, xs, e1, e2, r, .inr ⟨i, _, h, trivial, e1⟩⟩
  · obtain ⟨a, xs, e1, la, e2, r⟩ := F.slot i _ h
    exact ⟨a, xs, e1, e2, r, .inl (F.lm a la)⟩
/-- the slots' kinds and values stay: whoever holds an address holds it -/
theorem put_has {p : Slot → Prop} {i j : Nat} {s t : Slot} {a : Addr} (hs : env[i]? = some s) (hp : p t → p s) (h : HasA p (env.set i t) σ j a) : HasA p env σ j a := by
  obtain ⟨u, e, pt, ev⟩ := h
  by_cases z : i = j
  · subst z
    have hl : i < env.length := (List.getElem?_eq_some_iff.mp hs).1
    rw [List.getElem?_set_self hl] at e
    cases e
    exact ⟨s, hs, hp pt, ev⟩
  · rw [List.getElem?_set_ne z] at e
    exact ⟨u, e, pt, ev⟩
/-- a slot that owns or is lent is written: the others' things are not touched -/
theorem Fr.mut (F : Fr k M L H0 env σ H) {i : Nat} {s t : Slot} {a : Addr} (hs : env[i]? = some s) (hv : σ[i]? = some (some (.ref a)))
    (kind : (s.isOwn ∧ t.isOwn ∧ ¬ s.isLnt ∧ ¬ t.isLnt) ∨ (s.isLnt ∧ t.isLnt ∧ ¬ s.isOwn ∧ ¬ t.isOwn ∧ L.l a)) (ho : ∀ b o, b ≠ a → H b = some o → H' b = some o) (ht : ∃ o, H' a = some o)
    (hn : SlotOk k (Bd M env σ) L H' t (some (some (.ref a)))) : Fr k M L H0 (env.set i t) σ H' := by
  have hl : i < env.length := (List.getElem?_eq_some_iff.mp hs).1
  have o1 : t.isOwn → s.isOwn := fun h => kind.elim (fun z => z.1) fun z => absurd h z.2.2.2.1
  have l1 : t.isLnt → s.isLnt := fun h => kind.elim (fun z => absurd h z.2.2.2) fun z => z.1
  have sub : ∀ b, Bd M (env.set i t) σ b → Bd M env σ b := fun b h => h.elim .inl fun ⟨j, h⟩ => .inr ⟨j, put_has hs o1 h⟩
  have ba : Bd M env σ a := kind.elim (fun z => .inr ⟨i, s, hs, z.1, hv⟩) fun z => .inl (F.lm a z.2.2.2.2)
  have na : ¬ L.n a := fun z => kind.elim (fun q => (F.fresh a ⟨i, s, hs, q.1, hv⟩).2.2 z) fun q => F.ln a z q.2.2.2.2
  have kp : ∀ b o, ¬ Bd M env σ b → H b = some o → H' b = some o := fun b o nb h => ho b o (fun z => nb (by rw [z]; exact ba)) h
  refine ⟨by rw [List.length_set]; exact F.len, fun j u e => ?_, fun j l b h1 h2 => F.inj j l b (put_has hs o1 h1) (put_has hs o1 h2), fun j l b h1 h2 => F.linj j l b (put_has hs l1 h1) (put_has hs l1 h2),
    fun b ⟨j, h⟩ => F.fresh b ⟨j, put_has hs o1 h⟩, F.lm, F.ln, fun b h => ?_, fun b h => ?_, fun b o h nl => ?_⟩
  · by_cases z : i = j
    · subst z
      rw [List.getElem?_set_self hl] at e
      cases e
      rw [hv]
      exact hn.grow ⟨fun _ _ _ q => q, fun b q => .inl (sub b q)⟩ _ _ (fun _ _ _ _ q => q)
    · rw [List.getElem?_set_ne z] at e
      refine (F.slot j u e).grow ⟨kp, fun b q => .inl (sub b q)⟩ _ _ (fun b o hk hb h => ho b o (fun q => ?_) h)
      subst q
      rcases hk with hk | hk | hk
      · rcases kind with q | q
        · exact z (F.inj i j b ⟨s, hs, q.1, hv⟩ ⟨u, e, hk, hb⟩)
        · exact (F.fresh b ⟨j, u, e, hk, hb⟩).2.1 (F.lm b q.2.2.2.2)
      · rcases kind with q | q
        · have f := F.slot j u e
          rw [hb] at f
          cases u with
          | lnt ds =>
            obtain ⟨c, xs, e1, la, _⟩ := f
            cases e1
            exact (F.fresh b ⟨i, s, hs, q.1, hv⟩).2.1 (F.lm b la)
          | _ => cases hk
        · exact z (F.linj i j b ⟨s, hs, q.1, hv⟩ ⟨u, e, hk, hb⟩)
      · have f := F.slot j u e
        rw [hb] at f
        cases u with
        | bor ds =>
          obtain ⟨c, xs, e1, la, _⟩ := f
          cases e1
          exact na la
        | _ => cases hk
  · by_cases z : b = a
    · rw [z]
      exact ht
    · obtain ⟨o, e⟩ := F.mt b h
      exact ⟨o, ho b o z e⟩
  · obtain ⟨o, e⟩ := F.nt b h
    exact ⟨o, ho b o (fun z => na (by rw [← z]; exact h)) e⟩
  · refine ho b o (fun z => ?_) (F.keep b o h nl)
    subst z
    rcases kind with q | q
    · have f := (F.fresh b ⟨i, s, hs, q.1, hv⟩).1
      rw [f] at h
      cases h
    · exact nl q.2.2.2.2
theorem Fr.putCon (F : Fr k M L H0 env σ H) {i : Nat} {cs ds : List D} {a : Addr} {xs : List V} (e : mutCon env i = some cs) (hv : σ[i]? = some (some (.ref a))) (ho : ∀ b o, b ≠ a → H b = some o → H' b = some o) (ha : H' a = some (.lst xs))
    (r : RepL k (Bd M env σ) H' ds xs) : Fr k M L H0 (putCon env i ds) σ H' := by
  rcases mut_slot e with h | h
  · have e3 : VL.putCon env i ds = env.set i (.own ds) := by
      unfold VL.putCon
      rw [h]
    rw [e3]
    exact F.mut h hv (.inl ⟨trivial, trivial, fun h => h, fun h => h⟩) ho ⟨_, ha⟩ ⟨a, xs, rfl, ha, r⟩
  · have e3 : VL.putCon env i ds = env.set i (.lnt ds) := by
      unfold VL.putCon
      rw [h]
    obtain ⟨b, _, e1, la, _⟩ := F.slot i _ h
    rw [hv] at e1
    cases e1
    rw [e3]
    exact F.mut h hv (.inr ⟨trivial, trivial, fun h => h, fun h => h, la⟩) ho ⟨_, ha⟩ ⟨a, xs, rfl, la, ha, r⟩
theorem bd_putCon {i : Nat} {ds : List D} : ∀ a, Bd M (putCon env i ds) σ a → Bd M env σ a := fun a h => by
  unfold VL.putCon at h
  split at h
  · rename_i cs e
    exact h.elim .inl fun ⟨j, h⟩ => .inr ⟨j, put_has e (fun _ => trivial) h⟩
  · rename_i cs e
    exact h.elim .inl fun ⟨j, h⟩ => .inr ⟨j, put_has (t := .lnt ds) e (fun q => q) h⟩
  · exact h
/-- things made elsewhere come in, hidden -/
theorem Fr.more (F : Fr k M L H0 env σ H) (s : Same H H2) (hT : ∀ a, T a → H a = none) (ht : ∀ a, T a → ∃ o, H2 a = some o) : Post k M L H0 env σ T H2 := by
  have no : ∀ a, T a → ¬ M a := fun a h z => by
    obtain ⟨o, q⟩ := F.mt a z
    rw [hT a h] at q
    cases q
  refine ⟨fun a h => ⟨?_, no a h, fun z => ?_⟩, F.lm, F.same s (fun a h => h.elim .inl fun z => .inr (hT a z)) (fun a h => .inl (F.lm a h)) (fun a h => ?_) fun a h n o => ?_⟩
  · cases q : H0 a with
    | none => rfl
    | some o =>
      have := F.keep a o q fun z => no a h (F.lm a z)
      rw [hT a h] at this
      cases this
  · obtain ⟨o, q⟩ := F.nt a z
    rw [hT a h] at q
    cases q
  · rcases h with h | h
    · obtain ⟨o, q⟩ := F.mt a h
      exact ⟨o, s a o q⟩
    · exact ht a h
  · rcases h with h | h
    · exact n h
    · obtain ⟨u, e⟩ := F.own_tracked o
      rw [hT a h] at e
      cases e

/-! ### sources that are walked -/
def HeldOk (hs : List (Nat × D)) (σ1 : St) (env' : Ev) (σ' : St) : Prop := ∀ p ∈ hs, (env'[p.1]?).bind conOf = some p.2 ∧ σ'[p.1]? = σ1[p.1]?
/-- what stays true of a walked source -/
def Stay (k : KX) (M : APred) (L : LN) (H1 : Hp) (e1 : Ev) (σ1 : St) (hs : List (Nat × D)) (P : APred → Hp → Prop) : Prop :=
  ∀ (M2 : APred) (env' : Ev) (σ' : St) (H' : Hp), (∀ a, M a → M2 a) → (∀ a, M2 a → M a ∨ H1 a = none) → Fr k M2 L (maskH (OwnA e1 σ1) H1) env' σ' H' → HeldOk hs σ1 env' σ' → P (Bd M2 env' σ') H'
theorem src_ok (F : Fr k (Or2 M T) L H0 env σ H) (tf : ∀ a, T a → ¬ M a) (lm : ∀ a, L.l a → M a) {fz : Bool} {r : ER} {v : V} {d : D} {hs : List (Nat × D)} (o : OpdOk k (Bd (Or2 M T) env σ) T σ H r v) (e : src fz env r = some (d, e1, hs)) :
    Fr k (Or2 M T) L H0 e1 σ H ∧ (∀ a, OwnA e1 σ a → OwnA env σ a) ∧ HeldOk hs σ e1 σ ∧ Stay k (Or2 M T) L H e1 σ hs fun B H' => RepP k B H' d v := by
  have nil : ∀ (e : Ev), HeldOk [] σ e σ := fun e p hp => nomatch hp
  have tmp : ∀ {p : Addr} {o : HO} {M2 : APred} {env' : Ev} {σ' : St} {H' : Hp}, T p → H p = some o → Fr k M2 L (maskH (OwnA env σ) H) env' σ' H' → H' p = some o := fun {p o M2 env' σ' H'} tp hp F2 => by
    refine F2.keep p o ?_ fun z => tf p tp (lm p z)
    rw [maskH_of fun z => (F.fresh p z).2.1 (.inr tp)]
    exact hp
  cases r with
  | val c =>
    cases e
    exact ⟨F, fun _ h => h, nil _, fun M2 env' σ' H' _ h2 F2 _ => (Rep.grow (F.growS F2 h2) _ _ o).p⟩
  | own ds =>
    cases e
    obtain ⟨p, xs, e1, tp, e2, r⟩ := o
    exact ⟨F, fun _ h => h, nil _, fun M2 env' σ' H' _ h2 F2 _ => ⟨p, xs, e1, tmp tp e2 F2, RepL.grow (F.growS F2 h2) _ _ r⟩⟩
  | ownd ks ds => cases e
  | ref i =>
    have hv : σ[i]? = some (some v) := o
    unfold src at e
    dsimp only at e
    have one : ∀ {s : Slot} {c : D}, env[i]? = some s → conOf s = some c → HeldOk [(i, c)] σ env σ := fun {s c} h1 h2 p hp => by
      rw [List.mem_singleton.mp hp]
      refine ⟨?_, rfl⟩
      show (env[i]?).bind conOf = some c
      rw [h1]
      exact h2
    have keeps : ∀ {c : D}, (∀ (M2 : APred) (env' : Ev) (σ' : St) (H' : Hp), Fr k M2 L (maskH (OwnA env σ) H) env' σ' H' → HeldOk [(i, c)] σ env' σ' → RepP k (Bd M2 env' σ') H' c v) := fun {c} M2 env' σ' H' F2 hk => by
      obtain ⟨h1, h2⟩ := hk (i, c) (by simp)
      cases hs : env'[i]? with
      | none =>
        simp only [hs] at h1
        cases h1
      | some s =>
        simp only [hs] at h1
        have f := F2.slot i s hs
        rw [h2, hv] at f
        exact conOf_ok f h1
    split at e
    · rename_i c hs2
      cases e
      obtain ⟨x, ex, rx⟩ := F.slot i _ hs2
      rw [hv] at ex
      cases ex
      exact ⟨F, fun _ h => h, nil _, fun M2 env' σ' H' _ h2 F2 _ => (Rep.grow (F.growS F2 h2) _ _ rx).p⟩
    · rename_i ds hs2
      cases e
      obtain ⟨a, xs, ex, na, e2, r⟩ := F.slot i _ hs2
      rw [hv] at ex
      cases ex
      refine ⟨F, fun _ h => h, nil _, fun M2 env' σ' H' _ h2 F2 _ => ⟨a, xs, rfl, ?_, RepL.grow (F.growS F2 h2) _ _ r⟩⟩
      refine F2.keep a _ ?_ (F.ln a na)
      rw [maskH_of fun z => (F.fresh a z).2.2 na]
      exact e2
    · rename_i ds hs2
      split at e
      · cases e
        obtain ⟨F3, s3, r3⟩ := frz_ok (e1 := env.set i (.val (.lst ds))) F tf (r := .ref i) (v := v) (d := .lst ds) hv (by
          dsimp only [frz]
          rw [hs2])
        refine ⟨F3, s3, nil _, fun M2 env' σ' H' _ h2 F2 _ => ?_⟩
        have hi : i < env.length := (List.getElem?_eq_some_iff.mp hs2).1
        obtain ⟨x, ex, rx⟩ := F3.slot i (.val (.lst ds)) (List.getElem?_set_self hi)
        rw [hv] at ex
        cases ex
        exact (Rep.grow (F3.growS F2 h2) _ _ rx).p
      · cases e
        exact ⟨F, fun _ h => h, one hs2 rfl, fun M2 env' σ' H' _ _ F2 hk => keeps M2 env' σ' H' F2 hk⟩
    · rename_i ds hs2
      split at e
      · cases e
      · cases e
        exact ⟨F, fun _ h => h, one hs2 rfl, fun M2 env' σ' H' _ _ F2 hk => keeps M2 env' σ' H' F2 hk⟩
    · cases e
end
end VL
namespace VL
open PySem PySem.Spec L2

/-! ## what is walked: soundness -/
structure ItOk (k : KX) (M : APred) (L : LN) (H1 : Hp) (e1 : Ev) (σ1 : St) (its : List D) (hs : List (Nat × D)) (J : It) : Prop where
  go : ∀ i, i < its.length → Stay k M L H1 e1 σ1 hs fun _ H' => J.go i H'
  yld : ∀ i x H'', Stay k M L H1 e1 σ1 hs fun B H' => (∀ a, B a → ∃ o, H' a = some o) → i < its.length → J.yld i H' x H'' → ∃ d, its[i]? = some d ∧ Same H' H'' ∧ Rep k B H'' d x
  stop : Stay k M L H1 e1 σ1 hs fun _ H' => J.stop its.length H'
def SI (k : KX) (C : Cx → Prop) (tg iter : Expr) (fz : Bool) (ii : II) : Prop := ∃ wi : TI, (∀ X, C X → PI X tg iter wi) ∧
  ∀ (M : APred) (L : LN) (H0 : Hp) (env : Ev) (σ : St) (H : Hp) (R : It → Hp → Prop) (W : List D → List (Nat × D) → Ev → Prop), Fr k M L H0 env σ H → wI fz ii env W →
    (∀ its hs e1 T H1 J, W its hs e1 → Post k M L H0 e1 σ T H1 → HeldOk hs σ e1 σ → ItOk k (Or2 M T) L H1 e1 σ its hs J → R J H1) → wi σ H R
section
variable {k : KX} {M M1 M2 T : APred} {L : LN} {H0 H H1 H2 H' : Hp} {env env' e1 e2 : Ev} {σ σ1 σ2 : St} {hs : List (Nat × D)}
theorem Stay.base {P : APred → Hp → Prop} (S : Stay k M L H1 e1 σ hs P) (F : Fr k M L H0 e1 σ H1) (h : HeldOk hs σ e1 σ) : P (Bd M e1 σ) H1 := S M e1 σ H1 (fun _ h => h) (fun _ h => .inl h) F.pin h
theorem Stay.imp {P Q : APred → Hp → Prop} (S : Stay k M L H1 e1 σ hs P) (h : ∀ B H', P B H' → Q B H') : Stay k M L H1 e1 σ hs Q := fun M2 env' σ' H' a b c d => h _ _ (S M2 env' σ' H' a b c d)
theorem txt_rep {B : APred} (z : Str) : RepL k B H (z.cps.toList.map fun c => D.str (sgn c)) (txtV z) := by
  unfold txtV
  generalize z.cps.toList = l
  induction l with
  | nil => rfl
  | cons c l ih => exact ⟨_, _, rfl, rfl, ih⟩
theorem same_refl (H : Hp) : Same H H := fun _ _ h => h
/-- a list, a tuple, a text -/
theorem it_seq {d : D} {v : V} {its : List D} (F : Fr k M L H0 e1 σ H1) (hh : HeldOk hs σ e1 σ) (S : Stay k M L H1 e1 σ hs fun B H' => RepP k B H' d v) (e : seqD d = some its) {R : It → Hp → Prop}
    (h : ∀ J, ItOk k M L H1 e1 σ its hs J → R J H1) :
    (∃ a, v = .ref a ∧ (∃ xs, SqL k.K H1 a xs) ∧ R (Itl k.K a) H1) ∨ (∃ a, v = .ref a ∧ (∃ xs, SqT k.K H1 a xs) ∧ R (Itt k.K a) H1) ∨ ∃ z, v = .str z ∧ R (Its z) H1 := by
  have onL : ∀ {a : Addr}, v = .ref a → (Stay k M L H1 e1 σ hs fun B H' => ∃ xs, SqL k.K H' a xs ∧ RepL k B H' its xs) → (∃ a, v = .ref a ∧ (∃ xs, SqL k.K H1 a xs) ∧ R (Itl k.K a) H1) := fun {a} ev S => by
    obtain ⟨xs, hq, _⟩ := S.base F hh
    refine ⟨a, ev, ⟨xs, hq⟩, h _ ⟨fun i hi => S.imp fun B H' q => ?_, fun i x H'' => S.imp fun B H' q ht hi hy => ?_, S.imp fun B H' q => ?_⟩⟩
    · obtain ⟨xs, hq, r⟩ := q
      obtain ⟨x, ex, _⟩ := r.get (List.getElem?_eq_getElem hi)
      exact ⟨xs, x, hq, ex⟩
    · obtain ⟨xs, hq, r⟩ := q
      obtain ⟨rfl, hx⟩ := hy
      obtain ⟨d, ed, rd⟩ := r.getV (hx xs hq)
      exact ⟨d, ed, same_refl _, rd⟩
    · obtain ⟨xs, hq, r⟩ := q
      exact ⟨xs, hq, Nat.le_of_eq r.len.symm⟩
  have onT : ∀ {a : Addr}, v = .ref a → (Stay k M L H1 e1 σ hs fun B H' => ∃ xs, SqT k.K H' a xs ∧ RepL k B H' its xs) → (∃ a, v = .ref a ∧ (∃ xs, SqT k.K H1 a xs) ∧ R (Itt k.K a) H1) := fun {a} ev S => by
    obtain ⟨xs, hq, _⟩ := S.base F hh
    refine ⟨a, ev, ⟨xs, hq⟩, h _ ⟨fun i hi => S.imp fun B H' q => ?_, fun i x H'' => S.imp fun B H' q ht hi hy => ?_, S.imp fun B H' q => ?_⟩⟩
    · obtain ⟨xs, hq, r⟩ := q
      obtain ⟨x, ex, _⟩ := r.get (List.getElem?_eq_getElem hi)
      exact ⟨xs, x, hq, ex⟩
    · obtain ⟨xs, hq, r⟩ := q
      obtain ⟨rfl, hx⟩ := hy
      obtain ⟨d, ed, rd⟩ := r.getV (hx xs hq)
      exact ⟨d, ed, same_refl _, rd⟩
    · obtain ⟨xs, hq, r⟩ := q
      exact ⟨xs, hq, Nat.le_of_eq r.len.symm⟩
  cases d with
  | lst es =>
    cases e
    obtain ⟨a, xs, ev, _, _⟩ := S.base F hh
    refine .inl (onL ev (S.imp fun B H' q => ?_))
    obtain ⟨b, xs, e2, e3, r⟩ := q
    rw [ev] at e2
    cases e2
    exact ⟨xs, SqL.of e3, r⟩
  | frl es =>
    cases e
    obtain ⟨a, xs, ev, _, _⟩ := S.base F hh
    refine .inl (onL ev (S.imp fun B H' q => ?_))
    obtain ⟨b, xs, e2, e3, r⟩ := q
    rw [ev] at e2
    cases e2
    exact ⟨xs, e3.sq, r⟩
  | tup es =>
    cases e
    obtain ⟨a, xs, ev, _, _⟩ := S.base F hh
    refine .inr (.inl (onT ev (S.imp fun B H' q => ?_)))
    obtain ⟨b, xs, e2, e3, r⟩ := q
    rw [ev] at e2
    cases e2
    exact ⟨xs, e3.sq, r⟩
  | str z =>
    cases e
    have ev : v = .str z := S.base F hh
    refine .inr (.inr ⟨z, ev, h _ ⟨fun i hi M2 env' σ' H' _ _ _ _ => ?_, fun i x H'' M2 env' σ' H' _ _ _ _ ht hi hy => ?_, fun M2 env' σ' H' _ _ _ _ => ?_⟩⟩)
    · show i < z.cps.size
      rw [List.length_map, Array.length_toList] at hi
      exact hi
    · obtain ⟨rfl, c, ec, rfl⟩ := hy
      refine ⟨.str (sgn c), ?_, same_refl _, rfl⟩
      rw [List.getElem?_map, Array.getElem?_toList, ec]
      rfl
    · show z.cps.size ≤ _
      rw [List.length_map, Array.length_toList]
      exact Nat.le_refl _
  | _ => cases e
/-- as a source of a numbering, of a zip -/
theorem it_sc {d : D} {v : V} {its : List D} (F : Fr k M L H0 e1 σ H1) (hh : HeldOk hs σ e1 σ) (S : Stay k M L H1 e1 σ hs fun B H' => RepP k B H' d v) (e : seqD d = some its) :
    ∃ g : Tok → Sc, (∀ u, RelV v u → ∃ t, (g t).val = u) ∧ Stay k M L H1 e1 σ hs fun B H' => ∃ xs, (∀ t, (g t).items k.K H' xs) ∧ RepL k B H' its xs := by
  cases d with
  | lst es =>
    cases e
    obtain ⟨a, xs, ev, _, _⟩ := S.base F hh
    refine ⟨fun _ => .l a, fun u r => ?_, S.imp fun B H' q => ?_⟩
    · rw [ev] at r
      exact ⟨Classical.choice ⟨default⟩, (show u = Value.ref a from r).symm⟩
    · obtain ⟨b, xs, e2, e3, r⟩ := q
      rw [ev] at e2
      cases e2
      exact ⟨xs, fun _ => SqL.of e3, r⟩
  | frl es =>
    cases e
    obtain ⟨a, xs, ev, _, _⟩ := S.base F hh
    refine ⟨fun _ => .l a, fun u r => ?_, S.imp fun B H' q => ?_⟩
    · rw [ev] at r
      exact ⟨Classical.choice ⟨default⟩, (show u = Value.ref a from r).symm⟩
    · obtain ⟨b, xs, e2, e3, r⟩ := q
      rw [ev] at e2
      cases e2
      exact ⟨xs, fun _ => e3.sq, r⟩
  | tup es =>
    cases e
    obtain ⟨a, xs, ev, _, _⟩ := S.base F hh
    refine ⟨fun _ => .t a, fun u r => ?_, S.imp fun B H' q => ?_⟩
    · rw [ev] at r
      exact ⟨Classical.choice ⟨default⟩, (show u = Value.ref a from r).symm⟩
    · obtain ⟨b, xs, e2, e3, r⟩ := q
      rw [ev] at e2
      cases e2
      exact ⟨xs, fun _ => e3.sq, r⟩
  | str z =>
    cases e
    have ev : v = .str z := S.base F hh
    refine ⟨fun t => .s z t, fun u r => ?_, fun M2 env' σ' H' _ _ _ _ => ⟨txtV z, fun _ => rfl, txt_rep z⟩⟩
    rw [ev] at r
    obtain ⟨t, e⟩ := r
    exact ⟨t, e.symm⟩
  | _ => cases e
theorem enmD_len : ∀ (n : Nat) (ds : List D), (enmD n ds).length = ds.length
  | _, [] => rfl
  | n, d :: ds => by
    show (enmD (n + 1) ds).length + 1 = _
    rw [enmD_len]
    rfl
theorem enmD_get : ∀ (n i : Nat) (ds : List D) {d : D}, ds[i]? = some d → (enmD n ds)[i]? = some (.tup [.int ((n + i : Nat) : Int), d])
  | n, i, [], d, h => by simp at h
  | n, 0, c :: ds, d, h => by
    cases h
    rfl
  | n, i + 1, c :: ds, d, h => by
    have := enmD_get (n + 1) i ds (by simpa using h)
    rw [show n + (i + 1) = n + 1 + i by omega]
    exact this
theorem zipD_len : ∀ (as bs : List D), (zipD as bs).length = min as.length bs.length
  | a :: as, b :: bs => by
    show (zipD as bs).length + 1 = _
    rw [zipD_len, List.length_cons, List.length_cons]
    omega
  | [], _ => by simp [zipD]
  | _ :: _, [] => by simp [zipD]
theorem zipD_get : ∀ (i : Nat) (as bs : List D) {a b : D}, as[i]? = some a → bs[i]? = some b → (zipD as bs)[i]? = some (.tup [a, b])
  | 0, _ :: _, _ :: _, _, _, h1, h2 => by
    cases h1
    cases h2
    rfl
  | i + 1, _ :: as, _ :: bs, _, _, h1, h2 => zipD_get i as bs (by simpa using h1) (by simpa using h2)
  | _, [], _, _, _, h1, _ => by simp at h1
  | _, _ :: _, [], _, _, _, h2 => by simp at h2
theorem tup_new {B : APred} {T : Addr} {xs : List V} {ds : List D} (ht : ∀ a, B a → ∃ o, H a = some o) (hn : H T = none) (r : RepL k B H ds xs) : Same H (upd H T (.tup xs)) ∧ Rep k B (upd H T (.tup xs)) (.tup ds) (.ref T) := by
  obtain ⟨s, r⟩ := pp_tup ht hn r
  exact ⟨s, r⟩
theorem it_enm {its : List D} {g : Tok → Sc} (S : Stay k M L H1 e1 σ hs fun B H' => ∃ xs, (∀ t, (g t).items k.K H' xs) ∧ RepL k B H' its xs) (t : Tok) : ItOk k M L H1 e1 σ (enmD 0 its) hs (ItE k.K (g t)) := by
  refine ⟨fun i hi => S.imp fun B H' q => ?_, fun i x H'' => S.imp fun B H' q ht hi hy => ?_, S.imp fun B H' q => ?_⟩
  · obtain ⟨xs, hq, r⟩ := q
    rw [enmD_len, r.len] at hi
    exact ⟨xs, hq t, hi⟩
  · obtain ⟨xs, hq, r⟩ := q
    obtain ⟨T, x, rfl, hT, rfl, hx⟩ := hy
    obtain ⟨d, ed, rd⟩ := r.getV (hx xs (hq t))
    obtain ⟨s, r2⟩ := tup_new (k := k) (ds := [.int ((i : Nat) : Int), d]) ht hT ⟨_, _, rfl, rfl, _, _, rfl, rd, rfl⟩
    refine ⟨_, ?_, s, r2⟩
    have := enmD_get 0 i its ed
    rw [Nat.zero_add] at this
    exact this
  · obtain ⟨xs, hq, r⟩ := q
    exact ⟨xs, hq t, by rw [enmD_len, r.len]⟩
theorem it_zip {h1 h2 : List (Nat × D)} {as bs : List D} {g g2 : Tok → Sc} (S : Stay k M L H1 e1 σ (h1 ++ h2) fun B H' => ∃ xs, (∀ t, (g t).items k.K H' xs) ∧ RepL k B H' as xs)
    (S2 : Stay k M L H1 e1 σ (h1 ++ h2) fun B H' => ∃ xs, (∀ t, (g2 t).items k.K H' xs) ∧ RepL k B H' bs xs) (t t2 : Tok) : ItOk k M L H1 e1 σ (zipD as bs) (h1 ++ h2) (ItZ k.K (g t) (g2 t2)) := by
  have S3 : Stay k M L H1 e1 σ (h1 ++ h2) fun B H' => (∃ xs, (∀ t, (g t).items k.K H' xs) ∧ RepL k B H' as xs) ∧ ∃ ys, (∀ t, (g2 t).items k.K H' ys) ∧ RepL k B H' bs ys := fun M2 env' σ' H' a b c d => ⟨S M2 env' σ' H' a b c d, S2 M2 env' σ' H' a b c d⟩
  refine ⟨fun i hi => S3.imp fun B H' q => ?_, fun i x H'' => S3.imp fun B H' q ht hi hy => ?_, S3.imp fun B H' q => ?_⟩
  · obtain ⟨⟨xs, hq, r⟩, ys, hq2, r2⟩ := q
    rw [zipD_len, r.len, r2.len] at hi
    exact ⟨xs, ys, hq t, hq2 t2, hi⟩
  · obtain ⟨⟨xs, hq, r⟩, ys, hq2, r2⟩ := q
    obtain ⟨T, x, y, rfl, hT, rfl, hx, hy⟩ := hy
    obtain ⟨d, ed, rd⟩ := r.getV (hx xs (hq t))
    obtain ⟨d2, ed2, rd2⟩ := r2.getV (hy ys (hq2 t2))
    obtain ⟨s, r3⟩ := tup_new (k := k) (ds := [d, d2]) ht hT ⟨_, _, rfl, rd, _, _, rfl, rd2, rfl⟩
    exact ⟨_, zipD_get i as bs ed ed2, s, r3⟩
  · obtain ⟨⟨xs, hq, r⟩, ys, hq2, r2⟩ := q
    exact ⟨xs, ys, hq t, hq2 t2, by rw [zipD_len, r.len, r2.len]⟩
theorem it_rng (lo : Int) (n : Nat) : ItOk k M L H1 e1 σ (rngD lo n) [] (Itr lo n) := by
  have hl : (rngD lo n).length = n := by
    unfold rngD
    rw [List.length_map, List.length_range]
  refine ⟨fun i hi M2 env' σ' H' _ _ _ _ => ?_, fun i x H'' M2 env' σ' H' _ _ _ _ ht hi hy => ?_, fun M2 env' σ' H' _ _ _ _ => ?_⟩
  · rw [hl] at hi
    exact hi
  · obtain ⟨rfl, rfl⟩ := hy
    rw [hl] at hi
    refine ⟨.int (lo + (i : Nat)), ?_, same_refl _, rfl⟩
    unfold rngD
    rw [List.getElem?_map, List.getElem?_range hi]
    rfl
  · show n ≤ _
    rw [hl]
    exact Nat.le_refl _
end
section
variable {k : KX} {C : Cx → Prop} {tg e a b : Expr} {ie ia ib : IE} {fz : Bool} {es : List Expr} {ies : List IE} {p pos tpos : Pos} {elts : List Expr} {kk : Nat}
theorem Fr.own_less {M M2 : APred} {L : LN} {H0 H1 : Hp} {env e1 e2 : Ev} {σ : St} (F : Fr k M L H0 e1 σ H1) (h : ∀ a, OwnA e2 σ a → OwnA e1 σ a) : ∀ a, Bd M e2 σ a → Bd M e1 σ a := fun a q => q.elim .inl fun z => .inr (h a z)
theorem si_seq (hk : ∀ X, C X → X.K = k.K) (h : SE k C e ie) : SI k C tg e fz (.seq ie) := by
  obtain ⟨te, p, r⟩ := h
  refine ⟨iSeq k.K te, fun X c => by rw [← hk X c]; exact pi_seq (p X c), fun M L H0 env σ H R W F w q => ?_⟩
  refine r M L H0 env σ H _ _ F w fun r env1 v H1 w1 P => ?_
  obtain ⟨T, P, o⟩ := P
  obtain ⟨d, e2, hs, ds, hsrc, hd, w1⟩ := w1
  obtain ⟨F2, sub, hh, S⟩ := src_ok P.fr (fun a h => (P.tf a h).2.1) P.lm o hsrc
  exact it_seq F2 hh S hd fun J ok => q ds hs e2 T H1 J w1 ⟨P.tf, P.lm, F2⟩ hh ok
theorem si_enm (hk : ∀ X, C X → X.K = k.K) (hg : ∀ X, C X → Gl X "enumerate" ∧ X.mg "enumerate" = none) (h : SE k C e ie) (hn : ie.isStar = false) (hs : ∀ X, C X → starEach [e] X.env = [(false, eval e X.env)]) :
    SI k C (.Tuple elts kk tpos) (.Call (.Name "enumerate" p) [e] [] pos) fz (.enm ie) := by
  obtain ⟨te, pe, r⟩ := h
  refine ⟨iE k.K (tCons te tNil), fun X c => by rw [← hk X c]; exact pi_E (hg X c).1 (hg X c).2 (pa_cons (pe X c) pa_nil (hs X c)) (hs X c), fun M L H0 env σ H R W F w q => ?_⟩
  refine r M L H0 env σ H _ _ F w fun r env1 v H1 w1 P => ?_
  obtain ⟨T, P, o⟩ := P
  obtain ⟨d, e2, hs, ds, hsrc, hd, w1⟩ := w1
  obtain ⟨F2, sub, hh, S⟩ := src_ok P.fr (fun a h => (P.tf a h).2.1) P.lm o hsrc
  obtain ⟨g, gv, S2⟩ := it_sc F2 hh S hd
  obtain ⟨xs, hx, _⟩ := S2.base F2 hh
  exact ⟨v, rfl, g, ⟨xs, hx⟩, gv, fun t => q _ hs e2 T H1 _ w1 ⟨P.tf, P.lm, F2⟩ hh (it_enm S2 t)⟩
theorem sa_two' (h1 : SE k C a ia) (h2 : SE k C b ib) (n1 : ia.isStar = false) (n2 : ib.isStar = false) : ∃ ta tb : TE, (∀ X, C X → PE X a ta) ∧ (∀ X, C X → PE X b tb) ∧
    ∀ (M : APred) (L : LN) (H0 : Hp) (env : Ev) (σ : St) (H : Hp) (Q : List V → Hp → Prop) (W : ER → ER → Ev → Prop), Fr k M L H0 env σ H → (wE ia env fun r e1 => wE ib e1 fun s e2 => W r s e2) →
      (∀ r s env' x y T H', W r s env' → Post k M L H0 env' σ T H' → OpdOk k (Bd (Or2 M T) env' σ) T σ H' r x → OpdOk k (Bd (Or2 M T) env' σ) T σ H' s y → Q [x, y] H') → tCons ta (tCons tb tNil) σ H Q := by
  obtain ⟨ta, tb, p1, p2, r⟩ := sa_two h1 h2 n1 n2
  refine ⟨ta, tb, p1, p2, fun M L H0 env σ H Q W F w q => ?_⟩
  refine r M L H0 env σ H Q (fun rs e => match rs with | [r, s] => W r s e | _ => False) F ?_ fun rs env' vs H' w' P => ?_
  · rw [wA_cons n1]
    simp only [wA_cons n2]
    exact w
  · obtain ⟨T, P, o⟩ := P
    split at w'
    · obtain ⟨x, _, rfl, o1, y, _, rfl, o2, e⟩ := o
      cases e
      exact q _ _ _ _ _ T _ w' P o1 o2
    · exact w'.elim
theorem si_rng1 (hg : ∀ X, C X → Gl X "range" ∧ X.mg "range" = none) (h : SE k C e ie) (hs : ∀ X, C X → starEach [e] X.env = [(false, eval e X.env)]) :
    SI k C tg (.Call (.Name "range" p) [e] [] pos) fz (.rng1 ie) := by
  obtain ⟨te, pe, r⟩ := h
  refine ⟨iRng1 (tCons te tNil), fun X c => pi_range1 (hg X c).1 (hg X c).2 (pa_cons (pe X c) pa_nil (hs X c)) (hs X c), fun M L H0 env σ H R W F w q => ?_⟩
  refine r M L H0 env σ H _ _ F w fun r env1 v H1 w1 P => ?_
  obtain ⟨T, P, o⟩ := P
  obtain ⟨j, rfl, ⟨h1, h2⟩, w1⟩ := w1
  have ev : v = .int j := o
  exact ⟨j, by rw [ev], h1, h2, q _ [] env1 T H1 _ w1 P (fun p hp => nomatch hp) (it_rng 0 _)⟩
theorem si_rng2 (hg : ∀ X, C X → Gl X "range" ∧ X.mg "range" = none) (h1 : SE k C a ia) (h2 : SE k C b ib) (n1 : ia.isStar = false) (n2 : ib.isStar = false)
    (hs : ∀ X, C X → starEach [a, b] X.env = [(false, eval a X.env), (false, eval b X.env)]) (hs2 : ∀ X, C X → starEach [b] X.env = [(false, eval b X.env)]) :
    SI k C tg (.Call (.Name "range" p) [a, b] [] pos) fz (.rng2 ia ib) := by
  obtain ⟨ta, tb, p1, p2, r⟩ := sa_two' h1 h2 n1 n2
  refine ⟨iRng2 (tCons ta (tCons tb tNil)), fun X c => pi_range2 (hg X c).1 (hg X c).2 (pa_cons (p1 X c) (pa_cons (p2 X c) pa_nil (hs2 X c)) (by rw [hs X c, hs2 X c])) (hs X c) (hs2 X c), fun M L H0 env σ H R W F w q => ?_⟩
  refine r M L H0 env σ H _ _ F w fun r s env1 x y T H1 w1 P o1 o2 => ?_
  obtain ⟨i, j, rfl, rfl, hb, w1⟩ := w1
  have ex : x = .int i := o1
  have ey : y = .int j := o2
  exact ⟨i, j, by rw [ex, ey], hb, q _ [] env1 T H1 _ w1 P (fun p hp => nomatch hp) (it_rng i _)⟩
theorem src_fz {env e1 : Ev} {r : ER} {d : D} {hs : List (Nat × D)} (e : src fz env r = some (d, e1, hs)) : (fz = true → hs = []) ∧ (fz = false → e1 = env) := by
  cases r with
  | val _ => cases e; exact ⟨fun _ => rfl, fun _ => rfl⟩
  | own _ => cases e; exact ⟨fun _ => rfl, fun _ => rfl⟩
  | ownd _ _ => cases e
  | ref i =>
    unfold src at e
    dsimp only at e
    split at e
    · cases e; exact ⟨fun _ => rfl, fun _ => rfl⟩
    · cases e; exact ⟨fun _ => rfl, fun _ => rfl⟩
    · split at e
      · cases e; exact ⟨fun _ => rfl, fun h => by rename_i q; rw [h] at q; cases q⟩
      · cases e; exact ⟨fun h => absurd h (by assumption), fun _ => rfl⟩
    · split at e
      · cases e
      · cases e; exact ⟨fun h => absurd h (by assumption), fun _ => rfl⟩
    · cases e
theorem Stay.sub {M : APred} {L : LN} {H1 : Hp} {e1 e2 : Ev} {σ : St} {hs hs' : List (Nat × D)} {P : APred → Hp → Prop} (S : Stay k M L H1 e1 σ hs P) (h : ∀ a, OwnA e2 σ a → OwnA e1 σ a) (hh : ∀ p ∈ hs, p ∈ hs') : Stay k M L H1 e2 σ hs' P := fun M2 env' σ' H' a b F2 hk => by
  refine S M2 env' σ' H' a b ⟨F2.len, F2.slot, F2.inj, F2.linj, fun a q => ⟨?_, (F2.fresh a q).2⟩, F2.lm, F2.ln, F2.mt, F2.nt, fun a o q nl => F2.keep a o ?_ nl⟩ fun p hp => hk p (hh p hp)
  · cases z : maskH (OwnA e1 σ) H1 a with
    | none => rfl
    | some o =>
      obtain ⟨z1, z2⟩ := maskH_some z
      have := (F2.fresh a q).1
      rw [maskH_of fun y => z1 (h a y), z2] at this
      cases this
  · obtain ⟨z1, z2⟩ := maskH_some q
    rw [maskH_of fun y => z1 (h a y)]
    exact z2
theorem si_zip (hk : ∀ X, C X → X.K = k.K) (hg : ∀ X, C X → Gl X "zip" ∧ X.mg "zip" = none) (h1 : SE k C a ia) (h2 : SE k C b ib) (n1 : ia.isStar = false) (n2 : ib.isStar = false)
    (hs : ∀ X, C X → starEach [a, b] X.env = (false, eval a X.env) :: starEach [b] X.env) (hs2 : ∀ X, C X → starEach [b] X.env = [(false, eval b X.env)]) :
    SI k C (.Tuple elts kk tpos) (.Call (.Name "zip" p) [a, b] [] pos) fz (.zip ia ib) := by
  obtain ⟨ta, tb, p1, p2, r⟩ := sa_two' h1 h2 n1 n2
  refine ⟨iZ k.K (tCons ta (tCons tb tNil)), fun X c => by rw [← hk X c]; exact pi_Z (hg X c).1 (hg X c).2 (pa_cons (p1 X c) (pa_cons (p2 X c) pa_nil (hs2 X c)) (hs X c)) (hs X c) (by rw [hs2 X c]; rfl), fun M L H0 env σ H R W F w q => ?_⟩
  refine r M L H0 env σ H _ _ F w fun r s e2 x y T H1 w1 P o1 o2 => ?_
  obtain ⟨d1, e3, h1, ds1, d2, e4, h2, ds2, q1, q2, q3, q4, w1⟩ := w1
  obtain ⟨F2, sub, hh, S⟩ := src_ok P.fr (fun a h => (P.tf a h).2.1) P.lm o1 q1
  obtain ⟨F3, sub3, hh3, S3⟩ := src_ok F2 (fun a h => (P.tf a h).2.1) P.lm (o2.less fun a h => h.elim .inl fun z => .inr (sub a z)) q3
  have hA : HeldOk (h1 ++ h2) σ e4 σ := fun p hp => by
    rcases List.mem_append.mp hp with z | z
    · cases fz with
      | true =>
        rw [(src_fz q1).1 rfl] at z
        cases z
      | false =>
        rw [(src_fz q3).2 rfl]
        exact hh p z
    · exact hh3 p z
  have S' := S.sub (hs' := h1 ++ h2) sub3 fun p hp => List.mem_append_left _ hp
  have S3' := S3.sub (hs' := h1 ++ h2) (fun _ h => h) fun p hp => List.mem_append_right _ hp
  obtain ⟨g, gv, S4⟩ := it_sc F3 hA S' q2
  obtain ⟨g2, gv2, S5⟩ := it_sc F3 hA S3' q4
  obtain ⟨xs, hx, _⟩ := S4.base F3 hA
  obtain ⟨ys, hy, _⟩ := S5.base F3 hA
  exact ⟨x, y, rfl, g, ⟨xs, hx⟩, gv, g2, ⟨ys, hy⟩, gv2, fun t t2 => q _ _ e4 T H1 _ w1 ⟨P.tf, P.lm, F3⟩ hA (it_zip S4 S5 t t2)⟩
end
end VL
namespace VL
open PySem PySem.Spec L2

/-! ## more expressions -/
section
variable {k : KX} {C : Cx → Prop} {e a b c o : Expr} {ie ia ib ic io : IE} {es : List Expr} {ies : List IE} {p pos tpos apos p2 : Pos}
theorem OpdOk.same {B T : APred} {σ : St} {H H2 : Hp} {r : ER} {v : V} (s : Same H H2) (o : OpdOk k B T σ H r v) : OpdOk k B T σ H2 r v := by
  cases r with
  | val d => exact Rep.same s o
  | own ds =>
    obtain ⟨p, xs, e1, tp, e2, r⟩ := o
    exact ⟨p, xs, e1, tp, s p _ e2, RepL.grow (grow_same s) _ _ r⟩
  | ownd ks ds =>
    obtain ⟨p, xs, e1, tp, e2, hl, r⟩ := o
    exact ⟨p, xs, e1, tp, s p _ e2, hl, RepL.grow (grow_same s) _ _ r⟩
  | ref i => exact o
theorem OpdOk.upT {M T T2 : APred} {env : Ev} {σ : St} {H : Hp} {r : ER} {v : V} (o : OpdOk k (Bd (Or2 (Or2 M T) T2) env σ) T2 σ H r v) : OpdOk k (Bd (Or2 M (Or2 T T2)) env σ) (Or2 T T2) σ H r v := by
  rw [← bd_assoc]
  cases r with
  | val d => exact o
  | own ds =>
    obtain ⟨p, xs, e1, tp, r⟩ := o
    exact ⟨p, xs, e1, .inr tp, r⟩
  | ownd ks ds =>
    obtain ⟨p, xs, e1, tp, r⟩ := o
    exact ⟨p, xs, e1, .inr tp, r⟩
  | ref i => exact o
theorem se_chain {q : PW} {pp : PW} {op op' : CmpOp} (ho : ∀ X, C X → OpR X (compareOp op) (rP2 k pp)) (ho' : ∀ X, C X → OpR X (compareOp op') (rP2 k q)) (h1 : SE k C a ia) (h2 : SE k C b ib) (h3 : SE k C c ic)
    (n1 : ia.isStar = false) (n2 : ib.isStar = false) (hm : lastMarks [op, op'] [b, c] = false) : SE k C (.Compare a [op, op'] [b, c] pos) (.chain pp q ia ib ic) ∧ ST k C (.Compare a [op, op'] [b, c] pos) (.bv (.chain pp q ia ib ic)) := by
  obtain ⟨ta, tb, p1, p2, r⟩ := sa_two' h1 h2 n1 n2
  obtain ⟨tc, p3, r3⟩ := h3
  have main : ∀ (M : APred) (L : LN) (H0 : Hp) (env : Ev) (σ : St) (H : Hp) (Q : VK) (W : ER → Ev → Prop), Fr k M L H0 env σ H → wE (.chain pp q ia ib ic) env W → (∀ r env' v H', W r env' → EPost k M L H0 env' σ r v H' → Q v H') →
      tChain (rP2 k pp) (rP2 k q) ta tb tc σ H Q := fun M L H0 env σ H Q W F w qq => by
    show tCons ta (tCons tb tNil) σ H (fun vs H1 => rP k pp vs H1 fun z H3 => ∃ kk, z = .bl kk ∧ if kk = true then tc σ H3 fun w' H4 => rP2 k q (vs.getD 1 .non) w' H4 Q else Q (.bl false) H3)
    refine r M L H0 env σ H _ _ F w fun r s e2 x y T H1 w1 P o1 o2 => ?_
    obtain ⟨d1, d2, hd1, hd2, w1⟩ := w1
    refine ⟨Bd (Or2 M T) e2 σ, [d1, d2], _, P.tracked, ⟨x, [y], rfl, deref_ok P.fr o1 hd1, y, [], rfl, deref_ok P.fr o2 hd2, rfl⟩, w1, fun t v H' wr hp => ?_⟩
    obtain ⟨z, rfl, wr⟩ := wr
    obtain ⟨sm, ev⟩ := hp
    refine ⟨z, ev, ?_⟩
    have P' : Post k M L H0 e2 σ T H' := P.same (s := sm)
    cases z with
    | false =>
      have wr : W (.val (.bl false)) e2 := wr
      exact qq _ _ _ _ wr ⟨T, P', rfl⟩
    | true =>
      have wr : wE ic e2 _ := wr
      show tc σ H' fun w' H4 => rP2 k q y w' H4 Q
      refine r3 (Or2 M T) L (maskH (OwnA e2 σ) H') e2 σ H' _ _ P'.fr.pin wr fun u e3 v3 H3 w3 P3 => ?_
      obtain ⟨T3, P3, o3⟩ := P3
      obtain ⟨d4, d3, h4, h3, w3⟩ := w3
      have PP := P'.trans P3
      have o2' : OpdOk k (Bd (Or2 M (Or2 T T3)) e3 σ) (Or2 T T3) σ H3 s y := OpdOk.grow P' P3 (o2.same sm)
      exact ⟨Bd (Or2 M (Or2 T T3)) e3 σ, [d4, d3], _, PP.tracked, ⟨y, [v3], rfl, deref_ok PP.fr o2' h4, v3, [], rfl, deref_ok PP.fr o3.upT h3, rfl⟩, w3, fun t v H5 wr hp => qq t e3 v H5 wr (prim_post PP hp)⟩
  refine ⟨⟨_, fun X cx => pe_chain (ho X cx) (ho' X cx) (p1 X cx) (p2 X cx) (p3 X cx) hm, main⟩, ⟨_, fun X cx => pt_chain (ho X cx) (ho' X cx) (p1 X cx) (p2 X cx) (p3 X cx) hm, fun M L H0 env σ H Q W F w qq => ?_⟩⟩
  refine main M L H0 env σ H (fun x H' => ∃ z, x = .bl z ∧ Q z H') _ F w fun r env' v H' wr P => ?_
  obtain ⟨z, rfl, wr⟩ := wr
  exact ⟨z, bl_rep (T := NoA) P, qq _ _ _ wr P.fr⟩
/-- slices -/
theorem se_slc0 (hk : ∀ X, C X → k.K = X.K) (h1 : SE k C a ia) : SE k C (.Subscript a (.Slice none none none p2) pos) (.slc0 ia) := by
  obtain ⟨ta, p1, r1⟩ := h1
  refine ⟨_, fun X c => pe_slice (slr_sl (hk X c)) (p1 X c) po_none po_none, fun M L H0 env σ H Q W F w q => ?_⟩
  refine r1 M L H0 env σ H _ _ F w fun r env1 v H1 w1 P1 => ?_
  obtain ⟨T, P, o⟩ := P1
  obtain ⟨d, hd, w1⟩ := w1
  exact ⟨Bd (Or2 M T) env1 σ, d, _, P.tracked, deref_ok P.fr o hd, w1, fun t v H' wr hp => q t env1 v H' wr (prim_post P hp)⟩
theorem se_slcL (hk : ∀ X, C X → k.K = X.K) (h1 : SE k C a ia) (h2 : SE k C b ib) (n1 : ia.isStar = false) (n2 : ib.isStar = false) : SE k C (.Subscript a (.Slice (some b) none none p2) pos) (.slcL ia ib) := by
  obtain ⟨ta, tb, p1, q2, r⟩ := sa_two' h1 h2 n1 n2
  refine ⟨_, fun X c => pe_slice (slr_sl (hk X c)) (p1 X c) (po_some (q2 X c)) po_none, fun M L H0 env σ H Q W F w q => ?_⟩
  show tCons ta (tCons tb tNil) σ H (fun vs H1 => ∃ i, vs.getD 1 .non = .int i ∧ rSl k (vs.getD 0 .non) (some i) none H1 Q)
  refine r M L H0 env σ H _ _ F w fun r s e2 x y T H1 w1 P o1 o2 => ?_
  obtain ⟨d, i, hd, rfl, w1⟩ := w1
  exact ⟨i, o2, Bd (Or2 M T) e2 σ, d, _, P.tracked, deref_ok P.fr o1 hd, w1, fun t v H' wr hp => q t e2 v H' wr (prim_post P hp)⟩
theorem se_slcH (hk : ∀ X, C X → k.K = X.K) (h1 : SE k C a ia) (h2 : SE k C b ib) (n1 : ia.isStar = false) (n2 : ib.isStar = false) : SE k C (.Subscript a (.Slice none (some b) none p2) pos) (.slcH ia ib) := by
  obtain ⟨ta, tb, p1, q2, r⟩ := sa_two' h1 h2 n1 n2
  refine ⟨_, fun X c => pe_slice (slr_sl (hk X c)) (p1 X c) po_none (po_some (q2 X c)), fun M L H0 env σ H Q W F w q => ?_⟩
  show tCons ta (tCons tb tNil) σ H (fun vs H1 => ∃ i, vs.getD 1 .non = .int i ∧ rSl k (vs.getD 0 .non) none (some i) H1 Q)
  refine r M L H0 env σ H _ _ F w fun r s e2 x y T H1 w1 P o1 o2 => ?_
  obtain ⟨d, i, hd, rfl, w1⟩ := w1
  exact ⟨i, o2, Bd (Or2 M T) e2 σ, d, _, P.tracked, deref_ok P.fr o1 hd, w1, fun t v H' wr hp => q t e2 v H' wr (prim_post P hp)⟩
theorem se_slcB (hk : ∀ X, C X → k.K = X.K) (h1 : SE k C a ia) (h2 : SE k C b ib) (h3 : SE k C c ic) (n1 : ia.isStar = false) (n2 : ib.isStar = false) : SE k C (.Subscript a (.Slice (some b) (some c) none p2) pos) (.slcB ia ib ic) := by
  obtain ⟨ta, tb, p1, q2, r⟩ := sa_two' h1 h2 n1 n2
  obtain ⟨tc, p3, r3⟩ := h3
  refine ⟨_, fun X c => pe_slice (slr_sl (hk X c)) (p1 X c) (po_some (q2 X c)) (po_some (p3 X c)), fun M L H0 env σ H Q W F w q => ?_⟩
  show tCons ta (tCons tb tNil) σ H (fun vs H1 => ∃ i, vs.getD 1 .non = .int i ∧ tc σ H1 fun z H2 => ∃ j, z = .int j ∧ rSl k (vs.getD 0 .non) (some i) (some j) H2 Q)
  refine r M L H0 env σ H _ _ F w fun r s e2 x y T H1 w1 P o1 o2 => ?_
  obtain ⟨i, rfl, w1⟩ := w1
  refine ⟨i, o2, ?_⟩
  refine r3 (Or2 M T) L (maskH (OwnA e2 σ) H1) e2 σ H1 _ _ P.fr.pin w1 fun u e3 z H3 w3 P3 => ?_
  obtain ⟨T3, P3, o3⟩ := P3
  obtain ⟨d, j, hd, rfl, w3⟩ := w3
  have PP := P.trans P3
  have o1' := OpdOk.grow P P3 o1
  exact ⟨j, o3, _, d, _, PP.tracked, deref_ok PP.fr o1' hd, w3, fun t v H' wr hp => q t e3 v H' wr (prim_post PP hp)⟩
/-- a method of a text, an int -/
def tMth (ty : V → Hp → Prop) (r : V → List V → Hp → VK → Prop) (to : TE) (t : TA) : TE := fun σ H Q => to σ H fun x H1 => ty x H1 ∧ t σ H1 fun xs H2 => r x xs H2 Q
theorem se_mth {ok : D → Bool} {q : PW} {ty : V → Hp → Prop} {x : Expr} (h1 : SE k C o io) (h2 : SA k C es ies) (hty : ∀ B H d v, RepP k B H d v → ok d = true → ty v H)
    (pe : ∀ X, C X → ∀ to t, PE X o to → PA X es t → PE X x (tMth ty (fun x xs H Q => rM k q x xs H Q) to t)) : SE k C x (.mth ok q io ies) := by
  obtain ⟨to, p1, r1⟩ := h1
  obtain ⟨ta, p2, r2⟩ := h2
  refine ⟨_, fun X c => pe X c to ta (p1 X c) (p2 X c), fun M L H0 env σ H Q W F w qq => ?_⟩
  refine r1 M L H0 env σ H _ _ F w fun r env1 v H1 w1 P1 => ?_
  obtain ⟨T, P, o1⟩ := P1
  obtain ⟨⟨d, hd, hok⟩, w1⟩ := w1
  refine ⟨hty _ _ _ _ (deref_ok P.fr o1 hd) hok, ?_⟩
  refine r2 (Or2 M T) L (maskH (OwnA env1 σ) H1) env1 σ H1 _ _ P.fr.pin w1 fun rs env2 vs H2 w2 P2 => ?_
  obtain ⟨T2, P2, o2⟩ := P2
  obtain ⟨ds, e3, hf, d2, hd2, w2⟩ := w2
  obtain ⟨F3, s3, r3⟩ := frzL_ok (fun a h => (P2.tf a h).2.1) P2.fr o2 hf
  have F4 : Fr k (Or2 M T) L (maskH (OwnA env1 σ) H1) e3 σ H2 := F3.less (fun a h => .inl h) P2.lm
  have P3 : Post k (Or2 M T) L (maskH (OwnA env1 σ) H1) e3 σ NoA H2 := Post.start F4
  have PP : Post k M L H0 e3 σ T H2 := by
    have z := P.trans P3
    have e : Or2 T NoA = T := or2_no T
    rw [e] at z
    exact z
  have o1' : OpdOk k (Bd (Or2 M T) e3 σ) T σ H2 r v := by
    have z := OpdOk.grow P P3 o1
    have e : Or2 T NoA = T := or2_no T
    rw [e] at z
    exact z
  exact ⟨Bd (Or2 M T) e3 σ, d2, ds, _, PP.tracked, deref_ok PP.fr o1' hd2, r3, w2, fun t v H' wr hp => qq t e3 v H' wr (prim_post PP hp)⟩
/-- d.get(q, e) -/
theorem se_get2 {x : Expr} (h1 : SE k C o io) (h2 : SE k C a ia) (h3 : SE k C b ib) (n : True)
    (pe : ∀ X, C X → ∀ to ta tb, PE X o to → PE X a ta → PE X b tb → PE X x (tDGet2 to ta tb)) : SE k C x (.get2 io ia ib) := by
  obtain ⟨to, p1, r1⟩ := h1
  obtain ⟨ta, p2, r2⟩ := h2
  obtain ⟨tb, p3, r3⟩ := h3
  refine ⟨_, fun X c => pe X c to ta tb (p1 X c) (p2 X c) (p3 X c), fun M L H0 env σ H Q W F w qq => ?_⟩
  refine r1 M L H0 env σ H _ _ F w fun r env1 v H1 w1 P1 => ?_
  obtain ⟨T, P, o1⟩ := P1
  obtain ⟨⟨ks, ds, hd⟩, w1⟩ := w1
  obtain ⟨ad, xs, ev, had, _⟩ := deref_ok P.fr o1 hd
  refine ⟨ad, ev, .inl ⟨_, .inl had⟩, ?_⟩
  refine r2 (Or2 M T) L (maskH (OwnA env1 σ) H1) env1 σ H1 _ _ P.fr.pin w1 fun s env2 y H2 w2 P2 => ?_
  obtain ⟨T2, P2, o2⟩ := P2
  have PP := P.trans P2
  refine r3 (Or2 M (Or2 T T2)) L (maskH (OwnA env2 σ) H2) env2 σ H2 _ _ PP.fr.pin w2 fun u env3 z H3 w3 P3 => ?_
  obtain ⟨T3, P3, o3⟩ := P3
  obtain ⟨d, qd, xd, e4, hd3, rfl, hf, dd, hdd, w3⟩ := w3
  obtain ⟨F4, s4, r4⟩ := frz_ok P3.fr (fun a h => (P3.tf a h).2.1) o3 hf
  have P4 : Post k (Or2 M (Or2 T T2)) L (maskH (OwnA env2 σ) H2) e4 σ NoA H3 := Post.start (F4.less (fun a h => .inl h) P3.lm)
  have P5 : Post k M L H0 e4 σ (Or2 T T2) H3 := by
    have z := PP.trans P4
    rw [or2_no] at z
    exact z
  have o1' : OpdOk k (Bd (Or2 M (Or2 T T2)) e4 σ) (Or2 T T2) σ H3 r v := by
    have z := OpdOk.grow PP P4 (OpdOk.grow P P2 o1)
    rw [or2_no] at z
    exact z
  have o2' : Rep k (Bd (Or2 M (Or2 T T2)) e4 σ) H3 qd y := by
    have z : OpdOk k _ _ σ H3 (.val qd) y := OpdOk.grow PP P4 (OpdOk.upT o2)
    rw [or2_no] at z
    exact z
  have hm : rM k pwGet2 v [y, z] H3 Q := ⟨_, dd, [qd, xd], _, P5.tracked, deref_ok P5.fr o1' hdd, ⟨y, _, rfl, o2', z, _, rfl, r4, rfl⟩, w3, fun t v H' wr hp => qq t e4 v H' wr (prim_post P5 hp)⟩
  obtain ⟨a2, oo, e1, e2, e3⟩ := get2_case hm
  rw [ev] at e1
  cases e1
  exact ⟨oo, e2, e3⟩
end
end VL
namespace VL
open PySem PySem.Spec L2

/-! ## what changes a list; calls; dict displays -/
/-- a method that changes its list, by values -/
def rMut (k : KX) (m : MW) : V → List V → Hp → VK → Prop := fun x vs H Q =>
  ∃ (B : APred) (a : Addr) (xs : List V) (cs ds : List D) (W : List D → ER → Prop), (∀ a, B a → ∃ o, H a = some o) ∧ x = .ref a ∧ H a = some (.lst xs) ∧ B a ∧ RepL k B H cs xs ∧ RepL k B H ds vs ∧ m cs ds W ∧
    ∀ cs' d v xs', W cs' (.val d) → Rep k B (upd H a (.lst xs')) d v → RepL k B (upd H a (.lst xs')) cs' xs' → Q v (upd H a (.lst xs'))
def mwAppend : MW := fun cs ds W => match ds with
  | [d] => cs.length < 100000 ∧ W (cs ++ [d]) (.val .non)
  | _ => False
def mwExtend : MW := fun cs ds W => match ds with
  | [.lst es] => cs.length + es.length ≤ 100000 ∧ W (cs ++ es) (.val .non)
  | _ => False
def mwPop : MW := fun cs ds W => match ds with
  | [] => ∃ c, cs[cs.length - 1]? = some c ∧ W cs.dropLast (.val c)
  | [.int i] => ∃ j c, (-(2 ^ 63) ≤ i ∧ i < 2 ^ 63) ∧ seqIndex? i cs.length = some j ∧ cs[j]? = some c ∧ W (cs.eraseIdx j) (.val c)
  | _ => False
section
variable {k : KX} {B : APred} {H : Hp}
theorem grow_upd {a : Addr} {o : HO} (h : B a) : Grow B B H (upd H a o) := ⟨fun b u nb e => by rw [upd_ne (fun z => nb (by rw [z]; exact h))]; exact e, fun _ h => .inl h⟩
theorem rl1v {d : D} {vs : List V} (h : RepL k B H [d] vs) : ∃ x, vs = [x] ∧ Rep k B H d x := by
  obtain ⟨y, ys, e, h1, h2⟩ := h
  rw [show ys = [] from h2] at e
  exact ⟨y, e, h1⟩
theorem append_case {x : V} {vs : List V} {Q : VK} (h : rMut k mwAppend x vs H Q) : rAppend x vs H Q := by
  obtain ⟨B, a, xs, cs, ds, W, ht, rfl, ha, hb, rc, rd, hm, hq⟩ := h
  unfold mwAppend at hm
  split at hm
  · rename_i d
    obtain ⟨hl, w⟩ := hm
    obtain ⟨y, rfl, ry⟩ := rl1v rd
    have hz : xs.length < 100000 := by
      rw [← rc.len]
      exact hl
    exact ⟨a, xs, y, rfl, rfl, ha, Nat.lt_of_lt_of_le hz (by decide), hq _ _ _ _ w rfl ((RepL.grow (grow_upd hb) _ _ rc).append (RepL.one (Rep.grow (grow_upd hb) _ _ ry)))⟩
  · exact hm.elim
theorem extend_case {x : V} {vs : List V} {Q : VK} (h : rMut k mwExtend x vs H Q) : rExtend x vs H Q := by
  obtain ⟨B, a, xs, cs, ds, W, ht, rfl, ha, hb, rc, rd, hm, hq⟩ := h
  unfold mwExtend at hm
  split at hm
  · rename_i es
    obtain ⟨hl, w⟩ := hm
    obtain ⟨y, rfl, b, zs, rfl, nb, hbz, rz⟩ := rl1v rd
    exact ⟨a, b, xs, zs, rfl, rfl, ha, hbz, sz5 (by rw [← rc.len, ← rz.len]; exact hl), hq _ _ _ _ w rfl ((RepL.grow (grow_upd hb) _ _ rc).append (RepL.grow (grow_upd hb) _ _ rz))⟩
  · exact hm.elim
theorem pop0_case {x : V} {Q : VK} (h : rMut k mwPop x [] H Q) : rPop x [] H Q := by
  obtain ⟨B, a, xs, cs, ds, W, ht, rfl, ha, hb, rc, rd, hm, hq⟩ := h
  unfold mwPop at hm
  split at hm
  · obtain ⟨c, hc, w⟩ := hm
    obtain ⟨y, hy, ry⟩ := rc.get hc
    rw [rc.len] at hy
    exact ⟨a, xs, y, rfl, rfl, ha, hy, hq _ _ _ _ w (Rep.grow (grow_upd hb) _ _ ry) (RepL.grow (grow_upd hb) _ _ rc).dropLast⟩
  · obtain ⟨_, e, _⟩ := rl1v rd
    cases e
  · exact hm.elim
theorem pop1_case {x y : V} {Q : VK} (h : rMut k mwPop x [y] H Q) : rPopAt x [y] H Q := by
  obtain ⟨B, a, xs, cs, ds, W, ht, rfl, ha, hb, rc, rd, hm, hq⟩ := h
  unfold mwPop at hm
  split at hm
  · cases rd
  · rename_i i
    obtain ⟨j, c, ⟨h1, h2⟩, hj, hc, w⟩ := hm
    obtain ⟨y, e, ry⟩ := rl1v rd
    cases e
    obtain ⟨z, hz, rz⟩ := rc.get hc
    rw [rc.len] at hj
    exact ⟨a, xs, i, j, z, rfl, by rw [show _ = V.int i from ry], ha, h1, h2, hj, hz, hq _ _ _ _ w (Rep.grow (grow_upd hb) _ _ rz) ((RepL.grow (grow_upd hb) _ _ rc).erase j)⟩
  · exact hm.elim
end
section
variable {k : KX} {C : Cx → Prop} {e a b c o : Expr} {ie ia ib ic io : IE} {es : List Expr} {ies : List IE} {p pos tpos apos p2 : Pos}
theorem se_mut {m : MW} {i : Nat} {x : Expr} (h2 : SA k C es ies) (pe : ∀ X, C X → ∀ t, PA X es t → PE X x (tBM k.K "list" (fun x xs H Q => rMut k m x xs H Q) (tVar i) t)) : SE k C x (.mut m i ies) := by
  obtain ⟨ta, p2, r2⟩ := h2
  refine ⟨_, fun X c => pe X c ta (p2 X c), fun M L H0 env σ H Q W F w qq => ?_⟩
  obtain ⟨hc, w⟩ := w
  cases hcs : mutCon env i with
  | none =>
    rw [hcs] at hc
    cases hc
  | some cs0 =>
    obtain ⟨a, xs0, hv, ha0, _, _⟩ := mut_at F hcs
    refine ⟨_, hv, .inl ⟨rfl, xs0, SqL.of ha0⟩, ?_⟩
    refine r2 M L H0 env σ H _ _ F w fun rs env1 vs H1 w1 P1 => ?_
    obtain ⟨ds, e2, hf, cs, hcs2, w1⟩ := w1
    obtain ⟨F2, rd⟩ := P1.freeze hf
    obtain ⟨a', xs, hv', ha, rc, hb⟩ := mut_at F2 hcs2
    rw [hv] at hv'
    cases hv'
    refine ⟨Bd M e2 σ, a, xs, cs, ds, _, fun b h => F2.bd_tracked h, rfl, ha, hb, rc, rd, w1, fun cs' d v xs' wr rv rc' => qq _ _ _ _ wr ?_⟩
    have F3 : Fr k M L H0 (putCon e2 i cs') σ (upd H1 a (.lst xs')) := F2.putCon hcs2 hv (fun b o nb h => by rw [upd_ne nb]; exact h) upd_same rc'
    exact EPost.val F3 (Rep.less bd_putCon rv)

/-! ### calls -/
def ArgOk (k : KX) (Mc : APred) (l : Option Addr) (n : APred) (H : Hp) : List Md → List D → List V → Prop
  | [], [], [] => True
  | .mv :: ms, d :: ds, v :: vs => Rep k Mc H d v ∧ ArgOk k Mc l n H ms ds vs
  | .bor :: ms, d :: ds, v :: vs => (∃ a xs es, d = .lst es ∧ v = .ref a ∧ n a ∧ H a = some (.lst xs) ∧ RepL k Mc H es xs) ∧ ArgOk k Mc l n H ms ds vs
  | .lnt :: ms, d :: ds, v :: vs => (∃ a xs es, d = .lst es ∧ v = .ref a ∧ l = some a ∧ H a = some (.lst xs) ∧ RepL k Mc H es xs) ∧ ArgOk k Mc l n H ms ds vs
  | _, _, _ => False
def CPost (k : KX) (Mc : APred) (l : Option Addr) (H : Hp) (r : ER) (ls : List (List D)) (v : V) (H' : Hp) : Prop :=
  ∃ T : APred, (∀ a, T a → H a = none) ∧ (∀ a, T a → ∃ o, H' a = some o) ∧ (∀ a o, H a = some o → l ≠ some a → H' a = some o) ∧
    (match l, ls with
      | none, [] => True
      | some a, [es] => ∃ xs, H' a = some (.lst xs) ∧ RepL k (Or2 Mc T) H' es xs
      | _, _ => False) ∧ OpdOk k (Or2 Mc T) T [] H' r v
/-- what a def promises -/
def spOf (k : KX) (f : FSpec) : Sp := fun vs H Q _ => ∃ (Mc : APred) (l : Option Addr) (n : APred) (ds : List D) (W : ER → List (List D) → Prop), ArgOk k Mc l n H f.md ds vs ∧ (∀ a, l = some a → Mc a ∧ ¬ n a) ∧ (l = none ∨ .lnt ∈ f.md) ∧
  (∀ a, Mc a → ∃ o, H a = some o) ∧ (∀ a, n a → ∃ o, H a = some o) ∧ f.wp ds W ∧ ∀ r ls v H', W r ls → CPost k Mc l H r ls v H' → Q v H'
def borA : List Md → List V → APred
  | .bor :: ms, v :: vs => fun a => v = .ref a ∨ borA ms vs a
  | _ :: ms, _ :: vs => borA ms vs
  | _, _ => NoA
theorem frz_mut {env e1 : Ev} {r : ER} {d : D} {i : Nat} {cs : List D} (e : frz env r = some (d, e1)) (h : mutCon e1 i = some cs) : mutCon env i = some cs := by
  have put : ∀ {j : Nat} {d : D}, mutCon (env.set j (.val d)) i = some cs → mutCon env i = some cs := fun {j d} h => by
    rcases mut_slot h with q | q
    · by_cases z : j = i
      · subst z
        have hl := (List.getElem?_eq_some_iff.mp q).1
        rw [List.getElem?_set_self (by simpa using hl)] at q
        cases q
      · rw [List.getElem?_set_ne z] at q
        unfold mutCon
        rw [q]
    · by_cases z : j = i
      · subst z
        have hl := (List.getElem?_eq_some_iff.mp q).1
        rw [List.getElem?_set_self (by simpa using hl)] at q
        cases q
      · rw [List.getElem?_set_ne z] at q
        unfold mutCon
        rw [q]
  cases r with
  | val _ => cases e; exact h
  | own _ => cases e; exact h
  | ownd _ _ => cases e; exact h
  | ref j =>
    dsimp only [frz] at e
    split at e
    · cases e; exact h
    · cases e; exact put h
    · cases e; exact put h
    · cases e
theorem args_ok {M T : APred} {L : LN} {H0 H : Hp} {σ : St} (tm : ∀ a, T a → ¬ M a) (lm : ∀ a, L.l a → M a) {l : Option Addr} : ∀ {md : List Md} {rs : List ER} {vs : List V} {ds : List D} {env e2 : Ev}, Fr k (Or2 M T) L H0 env σ H →
    OpdL k (Bd (Or2 M T) env σ) T σ H rs vs → argsM md rs env = some (ds, e2) → (∀ i ∈ lentI md rs, ∀ a, σ[i]? = some (some (.ref a)) → l = some a) →
    Fr k (Or2 M T) L H0 e2 σ H ∧ (∀ a, OwnA e2 σ a → OwnA env σ a) ∧ ArgOk k (Bd M e2 σ) l (borA md vs) H md ds vs ∧ (∀ a, borA md vs a → ∃ o, H a = some o) ∧ (∀ i cs, mutCon e2 i = some cs → mutCon env i = some cs) ∧
      ∀ i cs a, mutCon e2 i = some cs → σ[i]? = some (some (.ref a)) → i ∉ othI md rs → ¬ borA md vs a
  | [], [], _, _, env, e2, F, o, e, hl => by
    cases e
    rw [show _ = [] from o]
    exact ⟨F, fun _ h => h, trivial, fun _ h => h.elim, fun _ _ h => h, fun _ _ _ _ _ _ h => h⟩
  | .mv :: md, r :: rs, _, ds, env, e2, F, o, e, hl => by
    obtain ⟨y, ys, rfl, o1, o2⟩ := o
    unfold argsM at e
    split at e
    · rename_i d e1 q1
      split at e
      · rename_i es e3 q2
        cases e
        obtain ⟨F1, s1, r1⟩ := frz_ok F tm o1 q1
        have sb : ∀ a, Bd (Or2 M T) e1 σ a → Bd (Or2 M T) env σ a := fun a h => h.elim .inl fun z => .inr (s1 a z)
        obtain ⟨F2, s2, A, bt, mm, nb⟩ := args_ok tm lm (md := md) F1 (o2.less sb) q2 fun i hi => hl i (by cases r <;> exact hi)
        refine ⟨F2, fun a h => s1 a (s2 a h), ⟨Rep.less (fun a h => h.elim .inl fun z => .inr (s2 a z)) r1, A⟩, bt, fun i cs h => frz_mut q1 (mm i cs h), fun i cs a h1 h2 h3 => nb i cs a h1 h2 fun z => h3 ?_⟩
        cases r with
        | ref j => exact List.mem_cons_of_mem _ z
        | _ => exact z
      · cases e
    · cases e
  | .bor :: md, r :: rs, _, ds, env, e2, F, o, e, hl => by
    obtain ⟨y, ys, rfl, o1, o2⟩ := o
    unfold argsM at e
    split at e
    · rename_i es q1
      split at e
      · rename_i es2 e3 q2
        cases e
        obtain ⟨a, xs, ev, ha, ra⟩ := deref_ok F o1 q1
        obtain ⟨F2, s2, A, bt, mm, nb⟩ := args_ok tm lm (md := md) F o2 q2 fun i hi => hl i (by cases r <;> exact hi)
        have am : ∀ {md2 : List Md} {ds : List D} {vs : List V} {n n' : APred}, (∀ a, n a → n' a) → ArgOk k (Bd M e2 σ) l n H md2 ds vs → ArgOk k (Bd M e2 σ) l n' H md2 ds vs := by
          intro md2
          induction md2 with
          | nil =>
            intro ds vs n n' h q
            cases ds <;> cases vs <;> exact q
          | cons m md2 ih =>
            intro ds vs n n' h q
            cases ds with
            | nil => cases m <;> cases vs <;> exact q
            | cons d ds =>
              cases vs with
              | nil => cases m <;> exact q
              | cons v vs =>
                cases m with
                | mv => exact ⟨q.1, ih h q.2⟩
                | bor =>
                  obtain ⟨⟨a, xs, es, e1, e2, na, q1⟩, q2⟩ := q
                  exact ⟨⟨a, xs, es, e1, e2, h a na, q1⟩, ih h q2⟩
                | lnt => exact ⟨q.1, ih h q.2⟩
        refine ⟨F2, s2, ⟨⟨a, xs, es, rfl, ev, .inl ev, ha, RepL.less (fun b h => h.elim (fun z => .inl (.inl z)) fun z => .inr (s2 b z)) ra⟩, am (fun b h => .inr h) A⟩, fun b h => ?_, mm, fun i cs b h1 h2 h3 h4 => ?_⟩
        · rcases h with h | h
          · rw [ev] at h
            cases h
            exact ⟨_, ha⟩
          · exact bt b h
        · rcases h4 with h4 | h4
          · have h1' := mm i cs h1
            rw [h4] at o1 ev
            cases ev
            have isB : Bd M env σ a := by
              rcases mut_slot h1' with q | q
              · exact .inr ⟨i, _, q, trivial, h2⟩
              · obtain ⟨c, _, ec, lc, _⟩ := F.slot i _ q
                rw [h2] at ec
                cases ec
                exact .inl (lm _ lc)
            have isB2 : Bd (Or2 M T) env σ a := isB.elim (fun z => .inl (.inl z)) .inr
            cases r with
            | val d =>
              cases q1
              obtain ⟨c, _, ec, nc, _⟩ := o1
              cases ec
              exact nc isB2
            | own ds =>
              obtain ⟨c, _, ec, tc, _⟩ := o1
              cases ec
              rcases isB with z | z
              · exact tm _ tc z
              · exact (F.fresh _ z).2.1 (.inr tc)
            | ownd ks ds => cases q1
            | ref j =>
              have hv : σ[j]? = some (some (.ref a)) := o1
              have hij : i ≠ j := fun z => h3 (by rw [z]; exact List.mem_cons_self ..)
              dsimp only [deref] at q1
              cases hsl : env[j]? with
              | none =>
                simp only [hsl] at q1
                cases q1
              | some sl =>
                simp only [hsl] at q1
                have fj := F.slot j sl hsl
                rw [hv] at fj
                rcases mut_slot h1' with qi | qi
                · have oi : HasA Slot.isOwn env σ i a := ⟨_, qi, trivial, h2⟩
                  cases sl with
                  | un => cases q1
                  | val d =>
                    cases q1
                    obtain ⟨x, ex, c, _, ec, nc, _⟩ := fj
                    cases ex
                    cases ec
                    exact nc isB2
                  | own ds => exact hij (F.inj i j a oi ⟨_, hsl, trivial, hv⟩)
                  | ownd ks ds => exact hij (F.inj i j a oi ⟨_, hsl, trivial, hv⟩)
                  | lnt ds =>
                    obtain ⟨c, _, ec, lc, _⟩ := fj
                    cases ec
                    exact (F.fresh a ⟨i, oi⟩).2.1 (F.lm a lc)
                  | bor ds =>
                    obtain ⟨c, _, ec, lc, _⟩ := fj
                    cases ec
                    exact (F.fresh a ⟨i, oi⟩).2.2 lc
                · obtain ⟨c, _, ec, la, _⟩ := F.slot i _ qi
                  rw [h2] at ec
                  cases ec
                  cases sl with
                  | un => cases q1
                  | val d =>
                    cases q1
                    obtain ⟨x, ex, c, _, ec, nc, _⟩ := fj
                    cases ex
                    cases ec
                    exact nc isB2
                  | own ds => exact (F.fresh a ⟨j, _, hsl, trivial, hv⟩).2.1 (F.lm a la)
                  | ownd ks ds => exact (F.fresh a ⟨j, _, hsl, trivial, hv⟩).2.1 (F.lm a la)
                  | lnt ds => exact hij (F.linj i j a ⟨_, qi, trivial, h2⟩ ⟨_, hsl, trivial, hv⟩)
                  | bor ds =>
                    obtain ⟨c, _, ec, lc, _⟩ := fj
                    cases ec
                    exact F.ln a lc la
          · refine nb i cs b h1 h2 (fun z => h3 ?_) h4
            cases r with
            | ref j => exact List.mem_cons_of_mem _ z
            | _ => exact z
      · cases e
    · cases e
  | .lnt :: md, .ref i0 :: rs, _, ds, env, e2, F, o, e, hl => by
    obtain ⟨y, ys, rfl, o1, o2⟩ := o
    have hv : σ[i0]? = some (some y) := o1
    have fin : ∀ {es : List D} {es2 : List D}, (∃ a xs, y = .ref a ∧ H a = some (.lst xs) ∧ RepL k (Bd (Or2 M T) env σ) H es xs) → argsM md rs env = some (es2, e2) → ds = .lst es :: es2 →
        Fr k (Or2 M T) L H0 e2 σ H ∧ (∀ a, OwnA e2 σ a → OwnA env σ a) ∧ ArgOk k (Bd M e2 σ) l (borA (.lnt :: md) (y :: ys)) H (.lnt :: md) ds (y :: ys) ∧ (∀ a, borA (.lnt :: md) (y :: ys) a → ∃ o, H a = some o) ∧ (∀ i cs, mutCon e2 i = some cs → mutCon env i = some cs) ∧
          ∀ i cs a, mutCon e2 i = some cs → σ[i]? = some (some (.ref a)) → i ∉ othI (.lnt :: md) (.ref i0 :: rs) → ¬ borA (.lnt :: md) (y :: ys) a := fun {es es2} hh q2 ed => by
      obtain ⟨a, xs, ev, ha, ra⟩ := hh
      subst ed
      obtain ⟨F2, s2, A, bt, mm, nb⟩ := args_ok tm lm (md := md) F o2 q2 fun i hi => hl i (List.mem_cons_of_mem _ hi)
      exact ⟨F2, s2, ⟨⟨a, xs, es, rfl, ev, hl i0 (List.mem_cons_self ..) a (by rw [hv, ev]), ha, RepL.less (fun b h => h.elim (fun z => .inl (.inl z)) fun z => .inr (s2 b z)) ra⟩, A⟩, bt, mm, nb⟩
    unfold argsM at e
    split at e
    · rename_i es q1
      split at e
      · rename_i es2 e3 q2
        cases e
        obtain ⟨a, xs, ev, ha, ra⟩ := F.slot i0 _ q1
        rw [hv] at ev
        cases ev
        exact fin ⟨a, xs, rfl, ha, ra⟩ q2 rfl
      · cases e
    · rename_i es q1
      split at e
      · rename_i es2 e3 q2
        cases e
        obtain ⟨a, xs, ev, _, ha, ra⟩ := F.slot i0 _ q1
        rw [hv] at ev
        cases ev
        exact fin ⟨a, xs, rfl, ha, ra⟩ q2 rfl
      · cases e
    · cases e
  | [], _ :: _, _, _, _, _, _, _, e, _ => by cases e
  | .mv :: _, [], _, _, _, _, _, _, e, _ => by cases e
  | .bor :: _, [], _, _, _, _, _, _, e, _ => by cases e
  | .lnt :: _, [], _, _, _, _, _, _, e, _ => by cases e
  | .lnt :: _, .val _ :: _, _, _, _, _, _, _, e, _ => by cases e
  | .lnt :: _, .own _ :: _, _, _, _, _, _, _, e, _ => by cases e
  | .lnt :: _, .ownd _ _ :: _, _, _, _, _, _, _, e, _ => by cases e
theorem lent_mem : ∀ {md : List Md} {rs : List ER} {i : Nat}, i ∈ lentI md rs → .lnt ∈ md
  | .lnt :: _, .ref _ :: _, _, _ => List.mem_cons_self ..
  | .lnt :: _, .val _ :: _, _, _ => List.mem_cons_self ..
  | .lnt :: _, .own _ :: _, _, _ => List.mem_cons_self ..
  | .lnt :: _, .ownd _ _ :: _, _, _ => List.mem_cons_self ..
  | .mv :: md, r :: rs, i, h => List.mem_cons_of_mem _ (lent_mem (md := md) (rs := rs) (i := i) (by cases r <;> exact h))
  | .bor :: md, r :: rs, i, h => List.mem_cons_of_mem _ (lent_mem (md := md) (rs := rs) (i := i) (by cases r <;> exact h))
  | [], _, _, h => by cases h
  | .mv :: _, [], _, h => by cases h
  | .bor :: _, [], _, h => by cases h
  | .lnt :: _, [], _, h => by cases h
theorem opd_of0 {B B2 T : APred} {σ : St} {H : Hp} {r : ER} {v : V} (h : ∀ a, B2 a → B a) (o : OpdOk k B T [] H r v) : OpdOk k B2 T σ H r v := by
  cases r with
  | val d => exact Rep.less h o
  | own ds =>
    obtain ⟨p, xs, e1, tp, e2, r⟩ := o
    exact ⟨p, xs, e1, tp, e2, RepL.less h r⟩
  | ownd ks ds =>
    obtain ⟨p, xs, e1, tp, e2, hl, r⟩ := o
    exact ⟨p, xs, e1, tp, e2, hl, RepL.less h r⟩
  | ref i => cases (show ([] : St)[i]? = some (some v) from o)
theorem se_call {f : FSpec} {x : Expr} (h2 : SA k C es ies) (pe : ∀ X, C X → ∀ t, PA X es t → ∃ E, PE X x (tCall (spOf k f) [] E t)) : SE k C x (.call f ies) := by
  obtain ⟨ta, p2, r2⟩ := h2
  refine ⟨fun σ H Q => ta σ H fun vs H1 => spOf k f vs H1 Q fun _ _ _ => False, fun X c => ?_, fun M L H0 env σ H Q W F w qq => ?_⟩
  · obtain ⟨E, h⟩ := pe X c ta (p2 X c)
    refine ⟨fun pins s σ H Q I hw => h.run pins s σ H Q I ?_⟩
    unfold tCall
    simp only [List.append_nil]
    exact hw
  refine r2 M L H0 env σ H _ _ F w fun rs env1 vs H1 w1 P1 => ?_
  obtain ⟨T, P, o⟩ := P1
  obtain ⟨ds, e2, ha, w1⟩ := w1
  have tm : ∀ a, T a → ¬ M a := fun a h => (P.tf a h).2.1
  split at w1
  · rename_i hl
    obtain ⟨F2, s2, A, bt, mm, nb⟩ := args_ok (l := none) tm P.lm P.fr o ha (by rw [hl]; exact fun _ h => nomatch h)
    have F3 : Fr k M L H0 e2 σ H1 := F2.less (fun a h => .inl h) P.lm
    refine ⟨Bd M e2 σ, none, borA f.md vs, ds, _, A, fun a h => (nomatch h), .inl rfl, fun a h => F3.bd_tracked h, bt, w1, fun r ls v H' wr hp => ?_⟩
    obtain ⟨T3, t1, t2, kp, _, ov⟩ := hp
    have P3 : Post k M L H0 e2 σ T3 H' := F3.more (fun a o h => kp a o h (fun z => nomatch z)) t1 t2
    refine qq r e2 v H' wr.2 ⟨T3, P3, opd_of0 (fun a h => ?_) ov⟩
    exact h.elim (fun z => z.elim (fun z => .inl (.inl z)) .inr) (fun z => .inl (.inr z))
  · rename_i i hl
    obtain ⟨hno, hmu, w1⟩ := w1
    cases hcs : mutCon e2 i with
    | none =>
      rw [hcs] at hmu
      cases hmu
    | some cs =>
      have hvs : ∃ a, σ[i]? = some (some (.ref a)) := by
        have hm : i ∈ lentI f.md rs := by rw [hl]; exact List.mem_cons_self ..
        have : ∀ {md : List Md} {rs : List ER} {vs : List V} {ds : List D} {env e2 : Ev}, OpdL k (Bd (Or2 M T) env1 σ) T σ H1 rs vs → i ∈ lentI md rs → ∃ v, σ[i]? = some (some v) := by
          intro md
          induction md with
          | nil => intro rs vs ds env e2 o h; cases h
          | cons m md ih =>
            intro rs vs ds env e2 o h
            cases rs with
            | nil => cases m <;> cases h
            | cons r rs =>
              obtain ⟨y, ys, e, o1, o2⟩ := o
              cases m with
              | mv => exact ih (ds := ds) (env := env) (e2 := e2) o2 (by cases r <;> exact h)
              | bor => exact ih (ds := ds) (env := env) (e2 := e2) o2 (by cases r <;> exact h)
              | lnt =>
                cases r with
                | ref j =>
                  rcases List.mem_cons.mp h with z | z
                  · subst z
                    exact ⟨y, o1⟩
                  · exact ih (ds := ds) (env := env) (e2 := e2) o2 z
                | _ => exact ih (ds := ds) (env := env) (e2 := e2) o2 h
        obtain ⟨v, hv⟩ := this (ds := ds) (env := e2) (e2 := e2) o hm
        obtain ⟨F2, _⟩ := args_ok (l := match v with | .ref a => some a | _ => none) tm P.lm P.fr o ha (by
          rw [hl]
          intro j hj a hja
          rw [List.mem_singleton.mp hj, hv] at hja
          cases hja
          rfl)
        obtain ⟨a, _, h, _⟩ := mut_at F2 hcs
        exact ⟨a, h⟩
      obtain ⟨a, hv⟩ := hvs
      obtain ⟨F2, s2, A, bt, mm, nb⟩ := args_ok (l := some a) tm P.lm P.fr o ha (by
        rw [hl]
        intro j hj b hjb
        rw [List.mem_singleton.mp hj, hv] at hjb
        cases hjb
        rfl)
      have F3 : Fr k M L H0 e2 σ H1 := F2.less (fun a h => .inl h) P.lm
      obtain ⟨a', xs, hv', hax, rc, hb⟩ := mut_at F3 hcs
      rw [hv] at hv'
      cases hv'
      refine ⟨Bd M e2 σ, some a, borA f.md vs, ds, _, A, fun b h => ?_, .inr (lent_mem (rs := rs) (i := i) (by rw [hl]; exact List.mem_cons_self ..)), fun a h => F3.bd_tracked h, bt, w1, fun r ls v H' wr hp => ?_⟩
      · cases h
        exact ⟨hb, nb i cs a hcs hv hno⟩
      · obtain ⟨T3, t1, t2, kp, hls, ov⟩ := hp
        obtain ⟨es, rfl, wr⟩ := wr
        obtain ⟨xs', hax', rc'⟩ := hls
        have nT : ∀ b, T3 b → b ≠ a := fun b tb z => by
          have := t1 b tb
          rw [z, hax] at this
          cases this
        have sub : ∀ b, Bd (Or2 M T3) e2 σ b → Or2 (Bd M e2 σ) T3 b := fun b h => h.elim (fun z => z.elim (fun z => .inl (.inl z)) .inr) (fun z => .inl (.inr z))
        have P3 : Post k M L H0 e2 σ T3 (upd H' a (.lst xs)) := F3.more (fun b o h => by
          by_cases z : b = a
          · subst z
            rw [upd_same]
            rw [hax] at h
            exact h
          · rw [upd_ne z]
            exact kp b o h (fun y => z (Option.some.inj y).symm)) t1 fun b h => by
              rw [upd_ne (nT b h)]
              exact t2 b h
        have F5 : Fr k (Or2 M T3) L H0 (putCon e2 i es) σ H' := P3.fr.putCon hcs hv (fun b o nb h => by rw [upd_ne nb] at h; exact h) hax' (RepL.less sub rc')
        exact qq r _ v H' wr ⟨T3, ⟨P3.tf, P3.lm, F5⟩, opd_of0 (fun b h => sub b (bd_putCon b h)) ov⟩
  · exact w1.elim
end
end VL
namespace VL
open PySem PySem.Spec L2

/-! ## dict displays -/
section
variable {k : KX} {M M1 M2 T : APred} {L : LN} {H0 H H1 H2 H' : Hp} {env env' e1 e2 : Ev} {σ σ1 σ2 : St}
/-- a hidden thing without a slot is written -/
theorem Fr.touch (F : Fr k M L H0 env σ H) {p : Addr} {o : HO} (hp : M p) (nl : ¬ L.l p) (nn : ¬ L.n p) (h0 : H0 p = none) : Fr k M L H0 env σ (upd H p o) := by
  have np : ∀ {i : Nat} {a : Addr}, HasA Slot.isOwn env σ i a → a ≠ p := fun {i a} h z => (F.fresh a ⟨i, h⟩).2.1 (by rw [z]; exact hp)
  refine ⟨F.len, fun j u e => (F.slot j u e).grow (grow_upd (.inl hp)) _ _ (fun b o2 hk hb h => ?_), F.inj, F.linj, F.fresh, F.lm, F.ln, fun b h => ?_, fun b h => ?_, fun b o2 h hl => ?_⟩
  · rw [upd_ne]
    · exact h
    intro z
    rcases hk with hk | hk | hk
    · exact np ⟨u, e, hk, hb⟩ z
    · have f := F.slot j u e
      rw [hb] at f
      cases u with
      | lnt ds =>
        obtain ⟨c, xs, e1, la, _⟩ := f
        cases e1
        exact nl (by rw [← z]; exact la)
      | _ => cases hk
    · have f := F.slot j u e
      rw [hb] at f
      cases u with
      | bor ds =>
        obtain ⟨c, xs, e1, la, _⟩ := f
        cases e1
        exact nn (by rw [← z]; exact la)
      | _ => cases hk
  · by_cases z : b = p
    · subst z
      exact ⟨_, upd_same⟩
    · rw [upd_ne z]
      exact F.mt b h
  · rw [upd_ne (fun z => nn (by rw [← z]; exact h))]
    exact F.nt b h
  · rw [upd_ne (fun z => by rw [z, h0] at h; cases h)]
    exact F.keep b o2 h hl
theorem mergeK_nodup : ∀ (kvs acc : List (Key × V)), (kvs.map (·.1)).Nodup → (∀ p ∈ kvs, valV acc p.1 = none) → mergeK acc kvs = acc ++ kvs
  | [], acc, _, _ => by
    rw [List.append_nil]
    rfl
  | (c, v) :: r, acc, nd, h => by
    rw [List.map_cons, List.nodup_cons] at nd
    show mergeK (putK acc c v) r = _
    rw [putK_new v (h (c, v) (List.mem_cons_self ..)), mergeK_nodup r _ nd.2 fun p hp => ?_, List.append_assoc]
    · rfl
    · rw [valV_snoc c p.1 v acc (h (c, v) (List.mem_cons_self ..)), if_neg (fun z => nd.1 (List.mem_map.mpr ⟨p, hp, z⟩))]
      exact h p (List.mem_cons_of_mem _ hp)
def flatP : List (V × V) → List V
  | [] => []
  | (x, y) :: r => x :: y :: flatP r
theorem pairs_rep {B : APred} : ∀ {ds : List D} {ps : List (V × V)} {qs : List Key} {vs : List D}, pairsD ds = some (qs, vs) → RepL k B H ds (flatP ps) →
    ∃ xs, ps = (qs.zip xs).map (fun kv => (kV kv.1, kv.2)) ∧ qs.length = xs.length ∧ RepL k B H vs xs
  | [], ps, qs, vs, e, r => by
    cases e
    cases ps with
    | nil => exact ⟨[], rfl, rfl, rfl⟩
    | cons p ps => cases r
  | [d], ps, qs, vs, e, r => by cases e
  | q :: d :: ds, [], qs, vs, e, r => by
    obtain ⟨_, _, e2, _⟩ := r
    cases e2
  | q :: d :: ds, (x, y) :: ps, qs, vs, e, r => by
    unfold pairsD at e
    split at e
    · rename_i c qs2 vs2 h1 h2
      cases e
      obtain ⟨_, _, e2, r1, _, _, e3, r2, r3⟩ := r
      cases e2
      cases e3
      obtain ⟨xs, ex, hl, rr⟩ := pairs_rep h2 r3
      refine ⟨y :: xs, ?_, by rw [List.length_cons, List.length_cons, hl], _, _, rfl, r2, rr⟩
      rw [List.zip_cons_cons, List.map_cons, ← ex, key_of_rep h1 r1.p]
    · cases e
def SPs (k : KX) (C : Cx → Prop) (keys : List (Option Expr)) (values : List Expr) (ies : List IE) : Prop := ∃ trs : List (TE × TE), (∀ X, C X → ∀ pos, PPs X pos keys values trs) ∧
  ∀ (M : APred) (L : LN) (H0 : Hp) (env : Ev) (σ : St) (H : Hp) (Q : List (V × V) → Hp → Prop) (W : List ER → Ev → Prop), Fr k M L H0 env σ H → wA ies env W →
    (∀ rs env' ps H', W rs env' → APost k M L H0 env' σ rs (flatP ps) H' → Q ps H') → tPairs trs σ H Q
variable {C : Cx → Prop} {a b : Expr} {ia ib : IE} {keys : List (Option Expr)} {values : List Expr} {ies : List IE} {pos : Pos}
theorem sps_nil : SPs k C [] [] [] := ⟨[], fun X _ pos => pps_nil, fun M L H0 env σ H Q W F w q => q [] env [] H w ⟨NoA, Post.start F, rfl⟩⟩
theorem OpdL.upT {M T T2 : APred} : ∀ {rs : List ER} {vs : List V}, OpdL k (Bd (Or2 (Or2 M T) T2) env σ) T2 σ H rs vs → OpdL k (Bd (Or2 M (Or2 T T2)) env σ) (Or2 T T2) σ H rs vs
  | [], _, h => h
  | _ :: _, _, h => by
    obtain ⟨y, ys, e, h1, h2⟩ := h
    exact ⟨y, ys, e, h1.upT, OpdL.upT h2⟩
theorem sps_cons (h1 : SE k C a ia) (h2 : SE k C b ib) (n1 : ia.isStar = false) (n2 : ib.isStar = false) (h3 : SPs k C keys values ies) : SPs k C (some a :: keys) (b :: values) (ia :: ib :: ies) := by
  obtain ⟨ta, p1, r1⟩ := h1
  obtain ⟨tb, p2, r2⟩ := h2
  obtain ⟨trs, p3, r3⟩ := h3
  refine ⟨(ta, tb) :: trs, fun X c pos => pps_cons (p1 X c) (p2 X c) (p3 X c pos), fun M L H0 env σ H Q W F w q => ?_⟩
  rw [wA_cons n1] at w
  refine r1 M L H0 env σ H _ _ F w fun r env1 v H1 w1 P1 => ?_
  obtain ⟨T1, P1, o1⟩ := P1
  rw [wA_cons n2] at w1
  refine r2 (Or2 M T1) L (maskH (OwnA env1 σ) H1) env1 σ H1 _ _ P1.fr.pin w1 fun s env2 u H2 w2 P2 => ?_
  obtain ⟨T2, P2, o2⟩ := P2
  have PP := P1.trans P2
  refine r3 (Or2 M (Or2 T1 T2)) L (maskH (OwnA env2 σ) H2) env2 σ H2 _ _ PP.fr.pin w2 fun rs env3 ps H3 w3 P3 => ?_
  obtain ⟨T3, P3, o3⟩ := P3
  exact q _ env3 _ H3 w3 ⟨Or2 (Or2 T1 T2) T3, PP.trans P3, v, u :: flatP ps, rfl, OpdOk.grow PP P3 (OpdOk.grow P1 P2 o1), u, flatP ps, rfl, OpdOk.grow PP P3 o2.upT, OpdL.upT o3⟩
theorem se_dsp (h : SPs k C keys values ies) (hall : keys.all (·.isSome) = true) (hl : keys.length = values.length) (h0 : keys ≠ []) (h15 : keys.length ≤ 15) : SE k C (.Dict keys values pos) (.dsp ies) := by
  obtain ⟨trs, p, r⟩ := h
  refine ⟨tDisp trs, fun X c => pe_disp (p X c pos) hall hl h0 h15, fun M L H0 env σ H Q W F w q => fun p hp => ?_⟩
  have P0 : Post k M L H0 env σ (fun a => NoA a ∨ a = p) (upd H p (.dK [])) := (Post.start F).new (same_new hp) hp ⟨_, upd_same⟩
  have f0 := P0.tf p (.inr rfl)
  have nl : ¬ L.l p := fun z => f0.2.1 (F.lm p z)
  refine r (Or2 M fun a => NoA a ∨ a = p) L (maskH (OwnA env σ) (upd H p (.dK []))) env σ _ _ _ P0.fr.pin w fun rs e1 ps H2 w1 PA => ?_
  obtain ⟨ds, e2, hf, qs, vs, hpd, nd, l15, w1⟩ := w1
  obtain ⟨F2, rr⟩ := PA.freeze hf
  have F3 := P0.fr.rebaseS F2 fun a h => h
  obtain ⟨xs, ex, hln, rv⟩ := pairs_rep hpd rr
  refine ⟨?_, qs.zip xs, ex, by rw [List.length_zip, ← hln]; omega, ?_⟩
  · refine F2.keep p _ ?_ nl
    rw [maskH_of fun z => (P0.fr.fresh p z).2.1 (.inr (.inr rfl))]
    exact upd_same
  · have em : mergeK [] (qs.zip xs) = qs.zip xs := by
      rw [mergeK_nodup _ _ ?_ fun p _ => rfl]
      · rfl
      · rw [List.map_fst_zip (Nat.le_of_eq hln)]
        exact nd
    rw [em]
    have F4 := F3.touch (o := .dK (qs.zip xs)) (.inr (.inr rfl)) nl f0.2.2 f0.1
    refine q _ _ _ _ w1 ⟨_, ⟨P0.tf, P0.lm, F4⟩, p, xs, rfl, .inr rfl, upd_same, hln, ?_⟩
    exact RepL.grow (grow_upd (.inl (.inr (.inr rfl)))) _ _ rv
theorem se_dsp0 : SE k C (.Dict [] [] pos) (.dsp []) := by
  refine ⟨tDNewK, fun X c => pe_dnewK, fun M L H0 env σ H Q W F w q => fun p hp => ?_⟩
  obtain ⟨ds, e2, hf, qs, vs, hpd, nd, l15, w1⟩ := w
  cases hf
  cases hpd
  have P0 : Post k M L H0 env σ (fun a => NoA a ∨ a = p) (upd H p (.dK [])) := (Post.start F).new (same_new hp) hp ⟨_, upd_same⟩
  exact q _ _ _ _ w1 ⟨_, P0, p, [], rfl, .inr rfl, upd_same, rfl, rfl⟩

/-! ## comprehensions -/
theorem wipe_at {vs : List Nat} {j : Nat} (h : j ∈ vs) : (wipe σ vs)[j]? = some none ∨ (wipe σ vs)[j]? = none := by
  cases q : (wipe σ vs)[j]? with
  | none => exact .inr rfl
  | some v =>
    cases v with
    | none => exact .inl rfl
    | some x => exact absurd h (wipe_some q).2
theorem wipe_off : ∀ {vs : List Nat} {j : Nat}, j ∉ vs → (wipe σ vs)[j]? = σ[j]?
  | [], _, _ => rfl
  | v :: vs, j, h => by
    unfold wipe
    rw [List.getElem?_set_ne fun z => h (by rw [z]; exact List.mem_cons_self ..)]
    exact wipe_off fun z => h (List.mem_cons_of_mem _ z)
theorem wipeE_length : ∀ (vs : List Nat), (wipeE env vs).length = env.length
  | [] => rfl
  | v :: vs => by
    unfold wipeE
    rw [List.length_set, wipeE_length vs]
theorem wipe_eq {vs : List Nat} (hl : σ1.length = σ2.length) (h : ∀ j, j ∉ vs → σ1[j]? = σ2[j]?) : wipe σ1 vs = wipe σ2 vs := by
  refine List.ext_getElem? fun j => ?_
  by_cases hj : j ∈ vs
  · have l1 : (wipe σ1 vs).length = (wipe σ2 vs).length := by rw [wipe_length, wipe_length, hl]
    rcases wipe_at (σ := σ1) hj with z | z
    · rcases wipe_at (σ := σ2) hj with y | y
      · rw [z, y]
      · have a := (List.getElem?_eq_some_iff.mp z).1
        rw [l1] at a
        rw [List.getElem?_eq_getElem a] at y
        cases y
    · rcases wipe_at (σ := σ2) hj with y | y
      · have a := (List.getElem?_eq_some_iff.mp y).1
        rw [← l1] at a
        rw [List.getElem?_eq_getElem a] at z
        cases z
      · rw [z, y]
  · rw [wipe_off hj, wipe_off hj, h j hj]
theorem Fr.wipe1 (F : Fr k M L H0 env σ H) (v : Nat) : Fr k M L H0 (env.set v .un) (σ.set v none) H := by
  have has : ∀ {p : Slot → Prop} {j : Nat} {a : Addr}, ¬ p .un → HasA p (env.set v .un) (σ.set v none) j a → HasA p env σ j a := fun {p j a} np h => by
    obtain ⟨s, e, ps, ev⟩ := h
    by_cases z : v = j
    · subst z
      by_cases hl : v < env.length
      · rw [List.getElem?_set_self hl] at e
        cases e
        exact absurd ps np
      · rw [List.getElem?_eq_none (by simpa using hl)] at e
        cases e
    · rw [List.getElem?_set_ne z] at e ev
      exact ⟨s, e, ps, ev⟩
  have sub : ∀ a, Bd M (env.set v .un) (σ.set v none) a → Bd M env σ a := fun a h => h.elim .inl fun ⟨j, h⟩ => .inr ⟨j, has (fun h => h) h⟩
  refine ⟨by rw [List.length_set, List.length_set]; exact F.len, fun j s e => ?_, fun i j a h1 h2 => F.inj i j a (has (fun h => h) h1) (has (fun h => h) h2), fun i j a h1 h2 => F.linj i j a (has (fun h => h) h1) (has (fun h => h) h2), fun a ⟨j, h⟩ => F.fresh a ⟨j, has (fun h => h) h⟩, F.lm, F.ln, F.mt, F.nt, F.keep⟩
  by_cases z : v = j
  · subst z
    by_cases hl : v < env.length
    · rw [List.getElem?_set_self hl] at e
      cases e
      trivial
    · rw [List.getElem?_eq_none (by simpa using hl)] at e
      cases e
  · rw [List.getElem?_set_ne z] at e ⊢
    exact (F.slot j s e).grow ⟨fun _ _ _ q => q, fun a q => .inl (sub a q)⟩ _ _ (fun _ _ _ _ q => q)
theorem own_wipe1 {v : Nat} : ∀ a, OwnA (env.set v .un) (σ.set v none) a → OwnA env σ a := fun a ⟨j, s, e, ps, ev⟩ => by
  by_cases z : v = j
  · subst z
    by_cases hl : v < env.length
    · rw [List.getElem?_set_self hl] at e
      cases e
      exact ps.elim
    · rw [List.getElem?_eq_none (by simpa using hl)] at e
      cases e
  · rw [List.getElem?_set_ne z] at e ev
    exact ⟨j, s, e, ps, ev⟩
theorem Fr.wipeF (F : Fr k M L H0 env σ H) : ∀ (vs : List Nat), Fr k M L H0 (wipeE env vs) (wipe σ vs) H
  | [] => F
  | v :: vs => (Fr.wipeF F vs).wipe1 v
theorem own_wipe : ∀ (vs : List Nat) (a : Addr), OwnA (wipeE env vs) (wipe σ vs) a → OwnA env σ a
  | [], _, h => h
  | v :: vs, a, h => own_wipe vs a (own_wipe1 a h)
theorem back_length : ∀ (vs : List Nat), (back env env' vs).length = env'.length
  | [] => rfl
  | v :: vs => by
    unfold back
    split
    · rw [List.length_set, back_length vs]
    · exact back_length vs
theorem back_off : ∀ {vs : List Nat} {j : Nat}, j ∉ vs → (back env env' vs)[j]? = env'[j]?
  | [], _, _ => rfl
  | v :: vs, j, h => by
    have ih : (back env env' vs)[j]? = env'[j]? := back_off fun z => h (List.mem_cons_of_mem _ z)
    unfold back
    split
    · rw [List.getElem?_set_ne fun z => h (by rw [z]; exact List.mem_cons_self ..)]
      exact ih
    · exact ih
theorem back_any : ∀ {vs : List Nat} {j : Nat} {s : Slot}, (back env env' vs)[j]? = some s → env'[j]? = some s ∨ ∃ d, s = .val d ∧ env[j]? = some (.val d)
  | [], _, _, h => .inl h
  | v :: vs, j, s, h => by
    unfold back at h
    split at h
    · rename_i d hd
      by_cases z : v = j
      · subst z
        by_cases hl : v < (back env env' vs).length
        · rw [List.getElem?_set_self hl] at h
          cases h
          exact .inr ⟨d, rfl, hd⟩
        · rw [List.getElem?_eq_none (by simpa using hl)] at h
          cases h
      · rw [List.getElem?_set_ne z] at h
        exact back_any h
    · exact back_any h
/-- behind a block its own names' slots hold what they held -/
theorem Fr.backF {vs : List Nat} (F1 : Fr k M L H0 e1 σ H1) (F2 : Fr k M1 L (maskH (OwnA e1 σ) H1) env' (wipe σ vs) H') (hm : ∀ a, M a → M1 a) (hm2 : ∀ a, M1 a → M a ∨ H1 a = none) :
    Fr k M1 L (maskH (OwnA e1 σ) H1) (VL.back e1 env' vs) σ H' ∧ ∀ a, OwnA (VL.back e1 env' vs) σ a → OwnA env' (wipe σ vs) a := by
  have slot_un : ∀ {j : Nat} {s : Slot}, j ∈ vs → env'[j]? = some s → s = .un := fun {j s} hj e => by
    have f := F2.slot j s e
    rcases wipe_at (σ := σ) hj with z | z
    · rw [z] at f
      cases s with
      | un => rfl
      | val d => obtain ⟨x, e, _⟩ := f; cases e
      | own d => obtain ⟨x, _, e, _⟩ := f; cases e
      | ownd _ d => obtain ⟨x, _, e, _⟩ := f; cases e
      | lnt d => obtain ⟨x, _, e, _⟩ := f; cases e
      | bor d => obtain ⟨x, _, e, _⟩ := f; cases e
    · rw [z] at f
      cases s with
      | un => rfl
      | val d => obtain ⟨x, e, _⟩ := f; cases e
      | own d => obtain ⟨x, _, e, _⟩ := f; cases e
      | ownd _ d => obtain ⟨x, _, e, _⟩ := f; cases e
      | lnt d => obtain ⟨x, _, e, _⟩ := f; cases e
      | bor d => obtain ⟨x, _, e, _⟩ := f; cases e
  have has : ∀ {p : Slot → Prop} {j : Nat} {a : Addr}, ¬ p .un → (∀ d, ¬ p (.val d)) → HasA p (VL.back e1 env' vs) σ j a → HasA p env' (wipe σ vs) j a := fun {p j a} nu nv h => by
    obtain ⟨s, e, ps, ev⟩ := h
    by_cases hj : j ∈ vs
    · rcases back_any e with z | ⟨d, z, _⟩
      · rw [slot_un hj z] at ps
        exact absurd ps nu
      · rw [z] at ps
        exact absurd ps (nv d)
    · rw [back_off hj] at e
      exact ⟨s, e, ps, by rw [wipe_off hj]; exact ev⟩
  have sub : ∀ a, Bd M1 (VL.back e1 env' vs) σ a → Bd M1 env' (wipe σ vs) a := fun a h => h.elim .inl fun ⟨j, h⟩ => .inr ⟨j, has (fun h => h) (fun _ h => h) h⟩
  refine ⟨⟨by rw [back_length, F2.len, wipe_length], fun j s e => ?_, fun i j a h1 h2 => F2.inj i j a (has (fun h => h) (fun _ h => h) h1) (has (fun h => h) (fun _ h => h) h2),
    fun i j a h1 h2 => F2.linj i j a (has (fun h => h) (fun _ h => h) h1) (has (fun h => h) (fun _ h => h) h2), fun a ⟨j, h⟩ => F2.fresh a ⟨j, has (fun h => h) (fun _ h => h) h⟩, F2.lm, F2.ln, F2.mt, F2.nt, F2.keep⟩, fun a ⟨j, h⟩ => ⟨j, has (fun h => h) (fun _ h => h) h⟩⟩
  by_cases hj : j ∈ vs
  · rcases back_any e with z | ⟨d, z, z2⟩
    · rw [slot_un hj z]
      trivial
    · subst z
      obtain ⟨x, ex, rx⟩ := F1.slot j _ z2
      exact ⟨x, ex, Rep.less sub (Rep.grow (F1.growS F2 hm2) _ _ rx)⟩
  · rw [back_off hj] at e
    have f := F2.slot j s e
    rw [wipe_off hj] at f
    exact f.grow ⟨fun _ _ _ q => q, fun a q => .inl (sub a q)⟩ _ _ (fun _ _ _ _ q => q)
end

/-! ### targets -/
mutual
def Tg.slots : Tg → List Nat
  | .nm i => [i]
  | .tp ts => slotsL ts
def slotsL : List Tg → List Nat
  | [] => []
  | t :: ts => t.slots ++ slotsL ts
end
section
variable (k : KX) (C : Cx → Prop)
def SG (tg : Expr) (t : Tg) : Prop := ∃ g : TG, (∀ X, C X → PG X tg g) ∧ ∀ (M : APred) (L : LN) (H0 : Hp) (env : Ev) (σ : St) (H : Hp) (Q : St → Hp → Prop) (d : D) (v : V) (e2 : Ev), Fr k M L H0 env σ H → Rep k (Bd M env σ) H d v → bindT t d env = some e2 →
  (∀ σ2, Fr k M L H0 e2 σ2 H → σ2.length = σ.length → (∀ j, j ∉ t.slots → σ2[j]? = σ[j]?) → (∀ a, OwnA e2 σ2 a → OwnA env σ a) → Q σ2 H) → g v σ H Q
def SGs (tgs : List Expr) (ts : List Tg) : Prop := ∃ g : TGs, (∀ X, C X → PGs X tgs g) ∧ ∀ (M : APred) (L : LN) (H0 : Hp) (env : Ev) (σ : St) (H : Hp) (Q : St → Hp → Prop) (ds : List D) (vs : List V) (e2 : Ev), Fr k M L H0 env σ H → RepL k (Bd M env σ) H ds vs → bindL ts ds env = some e2 →
  (∀ σ2, Fr k M L H0 e2 σ2 H → σ2.length = σ.length → (∀ j, j ∉ slotsL ts → σ2[j]? = σ[j]?) → (∀ a, OwnA e2 σ2 a → OwnA env σ a) → Q σ2 H) → g vs σ H Q
end
section
variable {k : KX} {C : Cx → Prop} {tg : Expr} {tgs : List Expr} {t : Tg} {ts : List Tg} {pos : Pos}
theorem own_put_val {env : Ev} {σ : St} {i : Nat} {d : D} {v : V} : ∀ a, OwnA (env.set i (.val d)) (σ.set i (some v)) a → OwnA env σ a := fun a ⟨j, h⟩ => by
  rcases has_put h with ⟨_, h⟩ | ⟨_, h, _⟩
  · exact ⟨j, h⟩
  · exact h.elim
theorem sg_nm {i : Nat} {x : Str} (h : ∀ X, C X → PG X (.Name x pos) (gName i)) : SG k C (.Name x pos) (.nm i) := by
  refine ⟨gName i, h, fun M L H0 env σ H Q d v e2 F r e q => ?_⟩
  have e := setS_eq e
  subst e
  refine q _ (F.put_val r) (by rw [List.length_set]) (fun j hj => ?_) own_put_val
  rw [List.getElem?_set_ne fun z => hj (by rw [z]; exact List.mem_cons_self ..)]
theorem sgs_nil : SGs k C [] [] := ⟨gNil, fun X _ => pgs_nil, fun M L H0 env σ H Q ds vs e2 F r e q => by
  cases ds with
  | nil =>
    cases e
    exact ⟨r, q σ F rfl (fun _ _ => rfl) fun _ h => h⟩
  | cons d ds =>
    cases e⟩
theorem sgs_cons (h1 : SG k C tg t) (h2 : SGs k C tgs ts) (hs : ∀ X, C X → (assignEach (tg :: tgs) X.env).map (·.2) = assign tg X.env :: (assignEach tgs X.env).map (·.2)) : SGs k C (tg :: tgs) (t :: ts) := by
  obtain ⟨g, p1, r1⟩ := h1
  obtain ⟨gs, p2, r2⟩ := h2
  refine ⟨gCons g gs, fun X c => pgs_cons (p1 X c) (p2 X c) (hs X c), fun M L H0 env σ H Q ds vs e2 F r e q => ?_⟩
  cases ds with
  | nil => cases e
  | cons d ds =>
    obtain ⟨y, ys, rfl, ry, rys⟩ := r
    unfold bindL at e
    split at e
    · rename_i e1 q1
      refine ⟨y, ys, rfl, r1 M L H0 env σ H _ d y e1 F ry q1 fun σ2 F2 hl ho hw => ?_⟩
      refine r2 M L H0 e1 σ2 H _ ds ys e2 F2 (RepL.less (fun a h => h.elim .inl fun z => .inr (hw a z)) rys) e fun σ3 F3 hl3 ho3 hw3 => ?_
      refine q σ3 F3 (hl3.trans hl) (fun j hj => ?_) fun a h => hw a (hw3 a h)
      have hj : j ∉ t.slots ++ slotsL ts := hj
      rw [ho3 j fun z => hj (List.mem_append_right _ z), ho j fun z => hj (List.mem_append_left _ z)]
    · cases e
theorem sg_tp {kk n : Nat} (hk : ∀ X, C X → X.K = k.K) (hc : ∀ X, C X → X.calm = true) (h : SGs k C tgs ts) (hn : ∀ X, C X → (assignEach tgs X.env).length = n) (hst : ∀ X, C X → (assignEach tgs X.env).findIdx? (·.1) = none) (hl : ts.length = n) : SG k C (.Tuple tgs kk pos) (.tp ts) := by
  obtain ⟨g, p, r⟩ := h
  refine ⟨gTup k.K n g, fun X c => by rw [← hk X c]; exact pg_tup (hc X c) (p X c) (hn X c) (hst X c), fun M L H0 env σ H Q d v e2 F rd e q => ?_⟩
  cases d with
  | tup ds =>
    unfold bindT at e
    split at e
    · rename_i hlen
      obtain ⟨a, xs, ev, hq, rl⟩ := rd
      exact ⟨a, xs, ev, hq.sq, by rw [← rl.len, hlen, hl], r M L H0 env σ H Q ds xs e2 F rl e q⟩
    · cases e
  | _ => cases e
end
end VL
namespace VL
open PySem PySem.Spec L2

/-! ## comprehensions: the loop -/
def STs (k : KX) (C : Cx → Prop) (ifs : List Expr) (cs : List IT) : Prop := ∃ tt : TT, (∀ X, C X → PTs X ifs tt) ∧ ∀ (M : APred) (L : LN) (H0 : Hp) (env : Ev) (σ : St) (H : Hp) (Q : Bool → Hp → Prop) (W : Bool → Ev → Prop),
  Fr k M L H0 env σ H → wTs cs env W → (∀ b env' H', W b env' → Fr k M L H0 env' σ H' → Q b H') → tt σ H Q
section
variable {k : KX} {C : Cx → Prop} {c : Expr} {ct : IT}
theorem sts_nil : STs k C [] [] := ⟨tYes, fun X _ => pts_nil, fun M L H0 env σ H Q W F w q => q _ _ _ w F⟩
theorem sts_one (h : ST k C c ct) : STs k C [c] [ct] := let ⟨tt, p, r⟩ := h; ⟨tt, fun X c => pts_one (p X c), r⟩
end
abbrev lcStep (vs : List Nat) (t : Tg) (cs : List IT) (elt : IE) : D → Ev → (Option D → Ev → Prop) → Prop := fun d e K => ∃ e2, bindT t d e = some e2 ∧ wTs cs e2 fun z e3 =>
  if z = true then wE elt e3 fun r e4 => ∃ x e5, frz e4 r = some (x, e5) ∧ K (some x) (wipeE e5 vs) else K none (wipeE e3 vs)
section
variable {k : KX} {MT : APred} {L : LN} {H0 H1 : Hp} {e1 : Ev} {σ : St}
theorem lc_loop {its : List D} {hs : List (Nat × D)} {J : It} {hold : Ev → Prop} {vs : List Nat} {t : Tg} {cs : List IT} {elt : IE} {g : TG} {tt : TT} {te : TE} {Q : VK} {K : List D → Ev → Prop} {D0 : Addr}
    (F : Fr k MT L H0 e1 σ H1) (ok : ItOk k MT L H1 e1 σ its hs J)
    (hh : ∀ M1 e H', Fr k M1 L (maskH (OwnA e1 σ) H1) e (wipe σ vs) H' → hold e → HeldOk hs σ e (wipe σ vs)) (hD : H1 D0 = none)
    (rg : ∀ (M : APred) (L : LN) (H0 : Hp) (env : Ev) (σ : St) (H : Hp) (Q : St → Hp → Prop) (d : D) (v : V) (e2 : Ev), Fr k M L H0 env σ H → Rep k (Bd M env σ) H d v → bindT t d env = some e2 →
      (∀ σ2, Fr k M L H0 e2 σ2 H → σ2.length = σ.length → (∀ j, j ∉ t.slots → σ2[j]? = σ[j]?) → (∀ a, OwnA e2 σ2 a → OwnA env σ a) → Q σ2 H) → g v σ H Q)
    (rt : ∀ (M : APred) (L : LN) (H0 : Hp) (env : Ev) (σ : St) (H : Hp) (Q : Bool → Hp → Prop) (W : Bool → Ev → Prop), Fr k M L H0 env σ H → wTs cs env W → (∀ b env' H', W b env' → Fr k M L H0 env' σ H' → Q b H') → tt σ H Q)
    (re : ∀ (M : APred) (L : LN) (H0 : Hp) (env : Ev) (σ : St) (H : Hp) (Q : VK) (W : ER → Ev → Prop), Fr k M L H0 env σ H → wE elt env W → (∀ r env' v H', W r env' → EPost k M L H0 env' σ r v H' → Q v H') → te σ H Q)
    (sl : ∀ j ∈ t.slots, j ∈ vs) (wl : lcLoop hold (lcStep vs t cs elt) its (wipeE e1 vs) [] K)
    (fin : ∀ acc e xs H', Fr k (Or2 MT fun a => a = D0) L H0 (back e1 e vs) σ H' → Grow (Bd MT e1 σ) (Bd (Or2 MT fun a => a = D0) (back e1 e vs) σ) H1 H' → (∀ a, MT a → ¬ L.l a → H' a = H1 a) → H' D0 = some (.lst xs) → RepL k (Bd (Or2 MT fun a => a = D0) (back e1 e vs) σ) H' acc xs → K acc e → hold e → e.length = σ.length → (∀ j, j ∉ vs → e[j]? = some .un → (back e1 e vs)[j]? = some .un) → Q (.ref D0) H') :
    ∃ W : Nat → Nat → Hp → Prop, (∃ m, W 0 m (upd H1 D0 (.lst []))) ∧ ∀ i m H, W i m H →
      (J.stop i H ∧ Q (.ref D0) H) ∨ (J.go i H ∧ ∃ Nx : Hp → Prop, (∀ H', Nx H' → ∃ m', m' < m ∧ W (i + 1) m' H') ∧ ∀ x H', J.yld i H x H' → g x (wipe σ vs) H' fun σ2 H2 => wipe σ2 vs = wipe σ vs ∧ tt σ2 H2 fun b H3 =>
        if b = true then te σ2 H3 fun y H4 => ∃ acc, H4 D0 = some (.lst acc) ∧ acc.length < sizeLine ∧ Nx (upd H4 D0 (.lst (acc ++ [y]))) else Nx H3) := by
  have nM : ¬ MT D0 := fun z => by
    obtain ⟨o, q⟩ := F.mt D0 z
    rw [hD] at q
    cases q
  have nl : ¬ L.l D0 := fun z => nM (F.lm D0 z)
  have nn : ¬ L.n D0 := fun z => by
    obtain ⟨o, q⟩ := F.nt D0 z
    rw [hD] at q
    cases q
  have hb0 : maskH (OwnA e1 σ) H1 D0 = none := by
    cases q : maskH (OwnA e1 σ) H1 D0 with
    | none => rfl
    | some o =>
      have := (maskH_some q).2
      rw [hD] at this
      cases this
  have m1 : ∀ a, MT a → Or2 MT (fun a => a = D0) a := fun a h => .inl h
  have m2 : ∀ a, Or2 MT (fun a => a = D0) a → MT a ∨ H1 a = none := fun a h => h.elim .inl fun z => .inr (by rw [z]; exact hD)
  have P0 : Post k MT L (maskH (OwnA e1 σ) H1) e1 σ (fun a => a = D0) (upd H1 D0 (.lst [])) := F.pin.more (same_new hD) (fun a h => by rw [h]; exact hD) fun a h => ⟨.lst [], by rw [h]; exact upd_same⟩
  have F0 := P0.fr.wipeF vs
  refine ⟨fun i m H' => m = its.length - i ∧ i ≤ its.length ∧ ∃ e acc xs, Fr k (Or2 MT fun a => a = D0) L (maskH (OwnA e1 σ) H1) e (wipe σ vs) H' ∧ H' D0 = some (.lst xs) ∧ RepL k (Bd (Or2 MT fun a => a = D0) e (wipe σ vs)) H' acc xs ∧ lcLoop hold (lcStep vs t cs elt) (its.drop i) e acc K,
    ⟨its.length, rfl, Nat.zero_le _, wipeE e1 vs, [], [], F0, upd_same, rfl, wl⟩, fun i m H' hW => ?_⟩
  obtain ⟨rfl, hi, e, acc, xs, F1, hx, rx, wl⟩ := hW
  by_cases hlt : i < its.length
  · rw [List.drop_eq_getElem_cons hlt] at wl
    obtain ⟨hd, hacc, wl⟩ := wl
    have hO := hh _ _ _ F1 hd
    refine .inr ⟨ok.go i hlt _ _ _ _ m1 m2 F1 hO, fun H'' => its.length - (i + 1) = its.length - (i + 1) ∧ i + 1 ≤ its.length ∧ ∃ e acc xs, Fr k (Or2 MT fun a => a = D0) L (maskH (OwnA e1 σ) H1) e (wipe σ vs) H'' ∧ H'' D0 = some (.lst xs) ∧ RepL k (Bd (Or2 MT fun a => a = D0) e (wipe σ vs)) H'' acc xs ∧ lcLoop hold (lcStep vs t cs elt) (its.drop (i + 1)) e acc K,
      fun H'' h => ⟨_, by omega, h⟩, fun x H'' hy => ?_⟩
    obtain ⟨d, ed, sm, rd⟩ := ok.yld i x H'' _ _ _ _ m1 m2 F1 hO (fun a h => F1.bd_tracked h) hlt hy
    rw [List.getElem?_eq_getElem hlt] at ed
    cases ed
    have F2 : Fr k (Or2 MT fun a => a = D0) L (maskH (OwnA e1 σ) H1) e (wipe σ vs) H'' := F1.same sm (fun a h => .inl h) F1.lm (fun a h => let ⟨o, q⟩ := F1.mt a h; ⟨o, sm a o q⟩) fun a h n => (n h).elim
    obtain ⟨e2, hbd, wl⟩ := wl
    refine rg _ _ _ _ _ _ _ _ _ e2 F2 rd hbd fun σ2 F3 hlen hoff how => ?_
    have hw2 : wipe σ2 vs = wipe σ vs := by
      rw [wipe_eq (σ2 := wipe σ vs) hlen fun j hj => hoff j fun z => hj (sl j z)]
      refine wipe_eq (wipe_length _ _) fun j hj => wipe_off hj
    refine ⟨hw2, ?_⟩
    have rx2 : RepL k (Bd (Or2 MT fun a => a = D0) e2 σ2) H'' acc xs := RepL.less (fun a h => h.elim .inl fun z => .inr (how a z)) (RepL.grow (grow_same sm) _ _ rx)
    have hx2 : H'' D0 = some (.lst xs) := sm _ _ hx
    have mm : ∀ a, Or2 MT (fun a => a = D0) a → Or2 MT (fun a => a = D0) a ∨ H'' a = none := fun a h => .inl h
    refine rt _ _ _ _ _ _ _ _ F3.pin wl fun b e3 H3 w3 F4 => ?_
    have F5 := F3.rebaseS F4 fun a h => h
    have rx3 := RepL.grow (F3.growS F4 mm) _ _ rx2
    have hx3 : H3 D0 = some (.lst xs) := F4.keep _ _ (by rw [maskH_of fun z => (F3.fresh _ z).2.1 (.inr rfl)]; exact hx2) nl
    cases b with
    | false =>
      have w3 : lcLoop hold (lcStep vs t cs elt) (its.drop (i + 1)) (wipeE e3 vs) acc K := w3
      have F6 := F5.wipeF vs
      rw [hw2] at F6
      exact ⟨rfl, hlt, wipeE e3 vs, acc, xs, F6, hx3, RepL.less (fun a h => by
        rcases h with h | h
        · exact .inl h
        · rw [← hw2] at h
          exact .inr (own_wipe vs a h)) rx3, w3⟩
    | true =>
      have w3 : wE elt e3 _ := w3
      have mm3 : ∀ a, Or2 MT (fun a => a = D0) a → Or2 MT (fun a => a = D0) a ∨ H3 a = none := fun a h => .inl h
      refine re _ _ _ _ _ _ _ _ F5.pin w3 fun r e4 v H4 w4 P4 => ?_
      obtain ⟨y, e5, hf, w4⟩ := w4
      obtain ⟨F6, ry⟩ := P4.freeze hf
      have F7 := F5.rebaseS F6 fun a h => h
      have rx4 := RepL.grow (F5.growS F6 mm3) _ _ rx3
      have hx4 : H4 D0 = some (.lst xs) := F6.keep _ _ (by rw [maskH_of fun z => (F5.fresh _ z).2.1 (.inr rfl)]; exact hx3) nl
      refine ⟨xs, hx4, Nat.lt_of_lt_of_le (show xs.length < 100000 by rw [← rx.len]; exact hacc) (by decide), rfl, hlt, wipeE e5 vs, acc ++ [y], xs ++ [v], ?_, upd_same, ?_, w4⟩
      · have F8 := (F7.touch (o := .lst (xs ++ [v])) (.inr rfl) nl nn hb0).wipeF vs
        rw [hw2] at F8
        exact F8
      · refine RepL.less (B := Bd (Or2 MT fun a => a = D0) e5 σ2) (fun a h => by
          rcases h with h | h
          · exact .inl h
          · rw [← hw2] at h
            exact .inr (own_wipe vs a h)) ?_
        exact (RepL.grow (grow_upd (.inl (.inr rfl))) _ _ rx4).append (RepL.one (Rep.grow (grow_upd (.inl (.inr rfl))) _ _ ry))
  · have hi2 : i = its.length := Nat.le_antisymm hi (Nat.le_of_not_lt hlt)
    subst hi2
    rw [List.drop_length] at wl
    obtain ⟨hd, wl⟩ := wl
    have hO := hh _ _ _ F1 hd
    obtain ⟨FB, hown⟩ := F.backF F1 m1 m2
    refine .inl ⟨ok.stop _ _ _ _ m1 m2 F1 hO, fin acc e xs H' (F.rebaseS FB m1) (F.growS FB m2) (fun a ha hna => ?_) hx (RepL.less (fun a h => h.elim .inl fun z => .inr (hown a z)) rx) wl hd (by rw [F1.len, wipe_length]) fun j hj hu => by rw [back_off hj]; exact hu⟩
    obtain ⟨o, q⟩ := F.mt a ha
    rw [q]
    exact F1.keep a o (by rw [maskH_of fun z => (F.fresh a z).2.1 ha]; exact q) hna
end
/-- a comprehension: as a value; as what a name is set to, on one line -/
def SLc (k : KX) (C : Cx → Prop) (e : Expr) (ie : IE) : Prop := ∃ te : TE, (∀ X, C X → PE X e te) ∧ (∀ X, C X → ∀ (i : Nat) (y : Str) (py spos : Pos), X.N[i]? = some y → X.env.scope.names.lookup y = some .local → swapsWith e (some (.Name y py)) spos.line X.env = pure true → PS X (.Assign [.Name y py] e spos) (tAsg te (gName i))) ∧
  ∀ (M : APred) (L : LN) (H0 : Hp) (env : Ev) (σ : St) (H : Hp) (Q : VK) (W : ER → Ev → Prop), Fr k M L H0 env σ H → wE ie env W → (∀ r env' v H', W r env' → EPost k M L H0 env' σ r v H' → Q v H') → te σ H Q
theorem SLc.se {k : KX} {C : Cx → Prop} {e : Expr} {ie : IE} (h : SLc k C e ie) : SE k C e ie := let ⟨te, p, _, r⟩ := h; ⟨te, p, r⟩
section
variable {k : KX} {C C' : Cx → Prop} {elt tg iter : Expr} {ifs : List Expr} {scope : Scope} {own : List (Str × Nat)} {pos : Pos} {t : Tg} {it : II} {cs : List IT} {ie : IE}
theorem slc_lc (hc : ∀ X, C X → X.calm = true ∧ X.N.Nodup ∧ BlkOk X.N X.env.scope scope own) (hb : ∀ X, C X → ∀ (s : Shared) (H : Hp) (A : Addr) (cl : List (Str × Addr)) (fp : List Addr), C' (X.blk s H scope (compEnvC scope cl A X.env) fp))
    (hi : SI k C tg iter false it) (hg : SG k C' tg t) (ht : STs k C' ifs cs) (he : SE k C' elt ie) (hs : ∀ X, C X → ∀ x, foldedSetIterable iter X.env x = pure x) (sl : ∀ j ∈ t.slots, j ∈ own.map (·.2)) :
    SLc k C (.ListComp elt [⟨tg, iter, ifs, 0⟩] scope pos) (.lc (own.map (·.2)) t it cs ie) := by
  obtain ⟨wi, pi, ri⟩ := hi
  obtain ⟨g, pg, rg⟩ := hg
  obtain ⟨tt, pt, rt⟩ := ht
  obtain ⟨te, pe, re⟩ := he
  refine ⟨tLc wi g tt te (own.map (·.2)), fun X c => pe_lc (hc X c).1 (hc X c).2.1 (pi X c) (hc X c).2.2 (fun s H A cl fp => pg _ (hb X c s H A cl fp)) (fun s H A cl fp => pt _ (hb X c s H A cl fp)) (fun s H A cl fp => pe _ (hb X c s H A cl fp)) (hs X c),
    fun X c i y py spos hN hl hw => ps_setLc (hc X c).1 (hc X c).2.1 hN hl hw (pi X c) (hc X c).2.2 (fun s H A cl fp => pg _ (hb X c s H A cl fp)) (fun s H A cl fp => pt _ (hb X c s H A cl fp)) (fun s H A cl fp => pe _ (hb X c s H A cl fp)) (hs X c), fun M L H0 env σ H Q W F w q => ?_⟩
  refine ri M L H0 env σ H _ _ F w fun its hs e1 T H1 J w1 P hh ok => fun D hD => ?_
  refine lc_loop P.fr ok (fun M1 e H' F1 hd p hp => ?_) hD rg rt re sl w1 fun acc e xs H' FB gr kp hx rx wq hd _ _ => ?_
  · have h1 := hd p hp
    refine ⟨h1, ?_⟩
    cases hs2 : e[p.1]? with
    | none =>
      rw [hs2] at h1
      cases h1
    | some s =>
      rw [hs2] at h1
      have f := F1.slot p.1 s hs2
      by_cases hj : p.1 ∈ own.map (·.2)
      · have h1 : conOf s = some p.2 := h1
        rcases wipe_at (σ := σ) hj with z | z
        · rw [z] at f
          cases s with
          | un => cases h1
          | val d => obtain ⟨x, e, _⟩ := f; cases e
          | own d => obtain ⟨x, _, e, _⟩ := f; cases e
          | ownd _ d => obtain ⟨x, _, e, _⟩ := f; cases e
          | lnt d => obtain ⟨x, _, e, _⟩ := f; cases e
          | bor d => obtain ⟨x, _, e, _⟩ := f; cases e
        · rw [z] at f
          cases s with
          | un => cases h1
          | val d => obtain ⟨x, e, _⟩ := f; cases e
          | own d => obtain ⟨x, _, e, _⟩ := f; cases e
          | ownd _ d => obtain ⟨x, _, e, _⟩ := f; cases e
          | lnt d => obtain ⟨x, _, e, _⟩ := f; cases e
          | bor d => obtain ⟨x, _, e, _⟩ := f; cases e
      · exact wipe_off hj
  · have eq : Or2 (Or2 M T) (fun a => a = D) = Or2 M (Or2 T fun a => a = D) := by
      funext a
      exact propext or_assoc
    rw [eq] at FB rx
    have f0 := FB.fresh
    have hD0 : H0 D = none := by
      cases z : H0 D with
      | none => rfl
      | some o =>
        have := P.fr.keep D o z fun y => by
          obtain ⟨u, q⟩ := P.fr.mt D (P.fr.lm D y)
          rw [hD] at q
          cases q
        rw [hD] at this
        cases this
    refine q _ _ _ _ wq ⟨Or2 T fun a => a = D, ⟨fun a h => ?_, P.lm, FB⟩, D, xs, rfl, .inr rfl, hx, rx⟩
    rcases h with h | h
    · exact P.tf a h
    · rw [h]
      refine ⟨hD0, fun z => ?_, fun z => ?_⟩
      · obtain ⟨u, q⟩ := P.fr.mt D (.inl z)
        rw [hD] at q
        cases q
      · obtain ⟨u, q⟩ := P.fr.nt D z
        rw [hD] at q
        cases q
end
section
variable {k : KX} {M M1 M2 : APred} {L : LN} {H0 H : Hp} {env : Ev} {σ : St}
theorem has_un {p : Slot → Prop} {i j : Nat} {a : Addr} (np : ¬ p .un) (h : HasA p (env.set i .un) σ j a) : HasA p env σ j a ∧ j ≠ i := has_set np h
/-- a slot's dict is taken out of its slot -/
theorem Fr.hide (F : Fr k M L H0 env σ H) {i : Nat} {s : Slot} {ad : Addr} (hs : env[i]? = some s) (os : s.isOwn) (hv : σ[i]? = some (some (.ref ad))) : Fr k (Or2 M fun a => a = ad) L H0 (env.set i .un) σ H ∧ ∀ a, Bd (Or2 M fun a => a = ad) (env.set i .un) σ a → Bd M env σ a := by
  have hi : HasA Slot.isOwn env σ i ad := ⟨s, hs, os, hv⟩
  have sub : ∀ a, Bd (Or2 M fun a => a = ad) (env.set i .un) σ a → Bd M env σ a := fun a h => by
    rcases h with (h | h) | ⟨j, h⟩
    · exact .inl h
    · rw [h]
      exact .inr ⟨i, hi⟩
    · exact .inr ⟨j, (has_un (fun h => h) h).1⟩
  refine ⟨⟨by rw [List.length_set]; exact F.len, fun j t e => ?_, fun j l a h1 h2 => F.inj j l a (has_un (fun h => h) h1).1 (has_un (fun h => h) h2).1, fun j l a h1 h2 => F.linj j l a (has_un (fun h => h) h1).1 (has_un (fun h => h) h2).1,
    fun a ⟨j, h⟩ => ?_, fun a h => .inl (F.lm a h), F.ln, fun a h => ?_, F.nt, F.keep⟩, sub⟩
  · by_cases z : i = j
    · subst z
      rw [List.getElem?_set_self (List.getElem?_eq_some_iff.mp hs).1] at e
      cases e
      trivial
    · rw [List.getElem?_set_ne z] at e
      exact (F.slot j t e).grow ⟨fun _ _ _ q => q, fun a q => .inl (sub a q)⟩ _ _ (fun _ _ _ _ q => q)
  · obtain ⟨h1, h2⟩ := has_un (fun h => h) h
    refine ⟨(F.fresh a ⟨j, h1⟩).1, fun z => ?_, (F.fresh a ⟨j, h1⟩).2.2⟩
    rcases z with z | z
    · exact (F.fresh a ⟨j, h1⟩).2.1 z
    · rw [z] at h1
      exact h2 (F.inj j i ad h1 hi)
  · rcases h with h | h
    · exact F.mt a h
    · rw [h]
      exact F.own_tracked ⟨i, hi⟩
theorem Fr.unhide {ad : Addr} (F : Fr k M1 L H0 env σ H) (h12 : ∀ a, M1 a ↔ M2 a ∨ a = ad) (lm : ∀ a, L.l a → M2 a) {i : Nat} (hs : env[i]? = some .un) (hv : σ[i]? = some (some (.ref ad))) (h0 : H0 ad = none) (n2 : ¬ M2 ad) (nn : ¬ L.n ad)
    {ks : List Key} {vals : List D} {xs : List V} (hH : H ad = some (.dK (ks.zip xs))) (hl : ks.length = xs.length) (r : RepL k (Bd M1 env σ) H vals xs) : Fr k M2 L H0 (env.set i (.ownd ks vals)) σ H := by
  have hm : M1 ad := (h12 ad).mpr (.inr rfl)
  have hlt : i < env.length := (List.getElem?_eq_some_iff.mp hs).1
  have has : ∀ {p : Slot → Prop} {j : Nat} {a : Addr}, HasA p (env.set i (.ownd ks vals)) σ j a → (j ≠ i ∧ HasA p env σ j a) ∨ (j = i ∧ a = ad ∧ p (.ownd ks vals)) := fun {p j a} ⟨s, e, ps, ev⟩ => by
    by_cases z : i = j
    · subst z
      rw [List.getElem?_set_self hlt] at e
      cases e
      rw [hv] at ev
      cases ev
      exact .inr ⟨rfl, rfl, ps⟩
    · rw [List.getElem?_set_ne z] at e
      exact .inl ⟨fun q => z q.symm, s, e, ps, ev⟩
  have sub : ∀ a, Bd M2 (env.set i (.ownd ks vals)) σ a → Bd M1 env σ a := fun a h => by
    rcases h with h | ⟨j, h⟩
    · exact .inl ((h12 a).mpr (.inl h))
    · rcases has h with ⟨_, h⟩ | ⟨_, h, _⟩
      · exact .inr ⟨j, h⟩
      · rw [h]
        exact .inl hm
  refine ⟨by rw [List.length_set]; exact F.len, fun j t e => ?_, fun j l a h1 h2 => ?_, fun j l a h1 h2 => ?_, fun a ⟨j, h⟩ => ?_, lm, F.ln, fun a h => F.mt a ((h12 a).mpr (.inl h)), F.nt, F.keep⟩
  · by_cases z : i = j
    · subst z
      rw [List.getElem?_set_self hlt] at e
      cases e
      exact ⟨ad, xs, hv, hH, hl, RepL.less sub r⟩
    · rw [List.getElem?_set_ne z] at e
      exact (F.slot j t e).grow ⟨fun _ _ _ q => q, fun a q => .inl (sub a q)⟩ _ _ (fun _ _ _ _ q => q)
  · rcases has h1 with ⟨n1, h1⟩ | ⟨e1, ea, _⟩
    · rcases has h2 with ⟨n2, h2⟩ | ⟨e2, eb, _⟩
      · exact F.inj j l a h1 h2
      · rw [eb] at h1
        exact absurd hm (F.fresh ad ⟨j, h1⟩).2.1
    · rcases has h2 with ⟨n2, h2⟩ | ⟨e2, eb, _⟩
      · rw [ea] at h2
        exact absurd hm (F.fresh ad ⟨l, h2⟩).2.1
      · rw [e1, e2]
  · rcases has h1 with ⟨n1, h1⟩ | ⟨e1, ea, z⟩
    · rcases has h2 with ⟨n2, h2⟩ | ⟨e2, eb, z⟩
      · exact F.linj j l a h1 h2
      · exact z.elim
    · exact z.elim
  · rcases has h with ⟨n1, h1⟩ | ⟨e1, ea, _⟩
    · have f := F.fresh a ⟨j, h1⟩
      exact ⟨f.1, fun z => f.2.1 ((h12 a).mpr (.inl z)), f.2.2⟩
    · rw [ea]
      exact ⟨h0, n2, nn⟩
end
section
variable {k : KX} {C C' : Cx → Prop} {elt tg : Expr} {ifs : List Expr} {scope : Scope} {own : List (Str × Nat)} {pos p : Pos} {t : Tg} {cs : List IT} {ie : IE} {x : Str} {i : Nat}
theorem slc_lcK (hc : ∀ X, C X → X.calm = true ∧ X.N.Nodup ∧ BlkOk X.N X.env.scope scope own) (hb : ∀ X, C X → ∀ (s : Shared) (H : Hp) (A : Addr) (cl : List (Str × Addr)) (fp : List Addr), C' (X.blk s H scope (compEnvC scope cl A X.env) fp))
    (hi : ∀ X, C X → PE X (.Name x p) (tVar i)) (hg : SG k C' tg t) (ht : STs k C' ifs cs) (he : SE k C' elt ie) (sl : ∀ j ∈ t.slots, j ∈ own.map (·.2)) :
    SLc k C (.ListComp elt [⟨tg, .Name x p, ifs, 0⟩] scope pos) (.lcK (own.map (·.2)) t i cs ie) := by
  obtain ⟨g, pg, rg⟩ := hg
  obtain ⟨tt, pt, rt⟩ := ht
  obtain ⟨te, pe, re⟩ := he
  have hvs : ∃ vs : List Nat, vs = own.map (·.2) := ⟨_, rfl⟩
  obtain ⟨vs, evs⟩ := hvs
  rw [← evs] at sl ⊢
  refine ⟨tLockE (tLc (iKeys (tVar i)) g tt te vs), fun X c => by rw [evs]; exact pe_lock (pe_lc (hc X c).1 (hc X c).2.1 (pi_keys (hi X c)) (hc X c).2.2 (fun s H A cl fp => pg _ (hb X c s H A cl fp)) (fun s H A cl fp => pt _ (hb X c s H A cl fp)) (fun s H A cl fp => pe _ (hb X c s H A cl fp)) (fun _ => rfl)),
    fun X c i y py spos hN hl hw => ⟨fun pins s σ H D I h => by
      rw [evs] at h
      exact (ps_lock (ps_setLc (hc X c).1 (hc X c).2.1 hN hl hw (pi_keys (hi X c)) (hc X c).2.2 (fun s H A cl fp => pg _ (hb X c s H A cl fp)) (fun s H A cl fp => pt _ (hb X c s H A cl fp)) (fun s H A cl fp => pe _ (hb X c s H A cl fp)) (fun _ => rfl))).run pins s σ H D I h⟩, fun M L H0 env σ H Q W F w q => ?_⟩
  obtain ⟨ks, vals, hsl, hni, w⟩ := w
  obtain ⟨ad, xs, hv, hH, hl, rv⟩ := F.slot i _ hsl
  have hown : OwnA env σ ad := ⟨i, _, hsl, trivial, hv⟩
  have fad := F.fresh ad hown
  have nl : ¬ L.l ad := fun z => fad.2.1 (F.lm ad z)
  refine ⟨ad, .dK (ks.zip xs), hH, trivial, fun od => ?_⟩
  obtain ⟨F1, sub1⟩ := F.hide hsl trivial hv
  have F2 := F1.touch (o := .frz od (.dK (ks.zip xs))) (.inr rfl) nl fad.2.2 fad.1
  refine ⟨.ref ad, hv, ad, od, rfl, .inl ⟨ks.zip xs, upd_same, fun D hD => ?_⟩⟩
  have ok : ItOk k (Or2 M fun a => a = ad) L (upd H ad (.frz od (.dK (ks.zip xs)))) (env.set i .un) σ (ks.map keyD) [] (Itk ad od (ks.zip xs)) := by
    have at_ : ∀ (M2 : APred) (env' : Ev) (σ' : St) (H' : Hp), Fr k M2 L (maskH (OwnA (env.set i .un) σ) (upd H ad (.frz od (.dK (ks.zip xs))))) env' σ' H' → H' ad = some (.frz od (.dK (ks.zip xs))) := fun M2 env' σ' H' F3 =>
      F3.keep ad _ (by rw [maskH_of fun z => (F2.fresh ad z).2.1 (.inr rfl)]; exact upd_same) nl
    have hz : (ks.zip xs).length = (ks.map keyD).length := by rw [List.length_zip, List.length_map, ← hl, Nat.min_self]
    refine ⟨fun j hj M2 env' σ' H' _ _ F3 _ => ⟨at_ _ _ _ _ F3, by rw [hz]; exact hj⟩, fun j x H'' M2 env' σ' H' _ _ F3 _ ht hj hy => ?_, fun M2 env' σ' H' _ _ F3 _ => ⟨at_ _ _ _ _ F3, Nat.le_of_eq hz⟩⟩
    obtain ⟨rfl, c, v, hc, rfl⟩ := hy
    refine ⟨keyD c, ?_, same_refl _, ?_⟩
    · have h1 : ks[j]? = some c := by
        rw [List.getElem?_zip_eq_some] at hc
        exact hc.1
      rw [List.getElem?_map, h1]
      rfl
    · cases c with
      | inl n => rfl
      | inr z => rfl
  refine lc_loop (Q := fun v H' => H' ad = some (.frz od (.dK (ks.zip xs))) ∧ Q v (upd H' ad (.dK (ks.zip xs)))) F2 ok (fun M1 e H' F3 hd p hp => nomatch hp) hD rg rt re sl w fun acc e ys H' FB gr kp hx rx wq hd hlen hback => ?_
  have hkeep : H' ad = some (.frz od (.dK (ks.zip xs))) := by
    rw [kp ad (.inr rfl) nl]
    exact upd_same
  refine ⟨hkeep, ?_⟩
  have hDa : D ≠ ad := fun z => by
    rw [z, upd_same] at hD
    cases hD
  have hDn : H D = none := by
    rw [upd_ne hDa] at hD
    exact hD
  have hD0 : H0 D = none ∧ ¬ M D ∧ ¬ L.n D := by
    have nm : ¬ M D := fun z => by
      obtain ⟨u, q⟩ := F.mt D z
      rw [hDn] at q
      cases q
    refine ⟨?_, nm, fun z => ?_⟩
    · cases z : H0 D with
      | none => rfl
      | some o =>
        have := F.keep D o z fun y => nm (F.lm D y)
        rw [hDn] at this
        cases this
    · obtain ⟨u, q⟩ := F.nt D z
      rw [hDn] at q
      cases q
  have hMad : (Or2 (Or2 M fun a => a = ad) fun a => a = D) ad := .inl (.inr rfl)
  have F4 := FB.touch (o := .dK (ks.zip xs)) hMad nl fad.2.2 fad.1
  have rv1 : RepL k (Bd (Or2 M fun a => a = ad) (env.set i .un) σ) (upd H ad (.frz od (.dK (ks.zip xs)))) vals xs := RepL.less sub1 (RepL.grow (grow_upd (.inr hown)) _ _ rv)
  have rv2 := RepL.grow gr _ _ rv1
  have rv3 := RepL.grow (grow_upd (o := .dK (ks.zip xs)) (.inl hMad)) _ _ rv2
  have F5 : Fr k (Or2 M fun a => a = D) L H0 ((back (env.set i .un) e vs).set i (.ownd ks vals)) σ (upd H' ad (.dK (ks.zip xs))) := by
    refine F4.unhide (ad := ad) (fun a => ?_) (fun a h => .inl (F.lm a h)) (hback i hni hd) hv fad.1 (fun z => ?_) fad.2.2 upd_same hl rv3
    · constructor
      · rintro ((h | h) | h)
        · exact .inl (.inl h)
        · exact .inr h
        · exact .inl (.inr h)
      · rintro ((h | h) | h)
        · exact .inl (.inl h)
        · exact .inr h
        · exact .inl (.inr h)
    · rcases z with z | z
      · exact fad.2.1 z
      · exact hDa z.symm
  refine q _ _ _ _ wq ⟨fun a => a = D, ⟨fun a h => by rw [h]; exact hD0, F.lm, F5⟩, D, ys, rfl, rfl, by rw [upd_ne hDa]; exact hx, ?_⟩
  refine RepL.less (fun a h => ?_) (RepL.grow (grow_upd (o := .dK (ks.zip xs)) (.inl hMad)) _ _ rx)
  rcases h with (h | h) | ⟨j, s, e2, ps, ev⟩
  · exact .inl (.inl (.inl h))
  · exact .inl (.inr h)
  · by_cases z : i = j
    · subst z
      rw [hv] at ev
      cases ev
      exact .inl hMad
    · rw [List.getElem?_set_ne z] at e2
      exact .inr ⟨j, s, e2, ps, ev⟩
end
end VL
namespace VL
open PySem PySem.Spec L2

/-! ## statements -/
structure EndsOk (k : KX) (M : APred) (L : LN) (H0 : Hp) (K : WE) (D : Ends) : Prop where
  nx : ∀ env' σ' H', K.nx env' → Fr k M L H0 env' σ' H' → D.nx σ' H'
  rt : ∀ r env' σ' v H', K.rt r env' → EPost k M L H0 env' σ' r v H' → D.rt v H'
  bk : ∀ env' σ' H', K.bk env' → Fr k M L H0 env' σ' H' → D.bk σ' H'
  ct : ∀ env' σ' H', K.ct env' → Fr k M L H0 env' σ' H' → D.ct σ' H'
section
variable (k : KX) (C : Cx → Prop)
def SS (st : Stmt) (is : IS) : Prop := ∃ ts : TS, (∀ X, C X → PS X st ts) ∧ ∀ (M : APred) (L : LN) (H0 : Hp) (env : Ev) (σ : St) (H : Hp) (D : Ends) (K : WE), Fr k M L H0 env σ H → wS is env K → EndsOk k M L H0 K D → ts D σ H
def SSs (sts : List Stmt) (is : List IS) : Prop := ∃ ts : TS, (∀ X, C X → PSs X sts ts) ∧ ∀ (M : APred) (L : LN) (H0 : Hp) (env : Ev) (σ : St) (H : Hp) (D : Ends) (K : WE), Fr k M L H0 env σ H → wSs is env K → EndsOk k M L H0 K D → ts D σ H
end
section
variable {k : KX} {C : Cx → Prop} {st : Stmt} {sts : List Stmt} {is : IS} {iss : List IS} {e a b tg : Expr} {ie ia ib : IE} {pos py pt : Pos} {i j : Nat} {x y : Str} {t : Tg}
theorem sss_nil : SSs k C [] [] := ⟨tNext, fun X _ => pss_nil, fun M L H0 env σ H D K F w E => E.nx _ _ _ w F⟩
theorem sss_cons (h1 : SS k C st is) (h2 : SSs k C sts iss) : SSs k C (st :: sts) (is :: iss) := by
  obtain ⟨t1, p1, r1⟩ := h1
  obtain ⟨t2, p2, r2⟩ := h2
  refine ⟨tSeq t1 t2, fun X c => pss_cons (p1 X c) (p2 X c), fun M L H0 env σ H D K F w E => ?_⟩
  exact r1 M L H0 env σ H _ _ F w ⟨fun env' σ' H' w' F' => r2 M L H0 env' σ' H' D K F' w' E, E.rt, E.bk, E.ct⟩
theorem ss_set (h : SE k C e ie) (ps : ∀ X, C X → ∀ te, PE X e te → PS X st (tAsg te (gName i))) : SS k C st (.set i ie) := by
  obtain ⟨te, p, r⟩ := h
  refine ⟨tAsg te (gName i), fun X c => ps X c te (p X c), fun M L H0 env σ H D K F w E => ?_⟩
  refine r M L H0 env σ H _ _ F w fun r env' v H' w' P => ?_
  obtain ⟨e2, hs, w'⟩ := w'
  exact E.nx _ _ _ w' (store_ok' P hs)
theorem ss_setLc (h : SLc k C e ie) (hN : ∀ X, C X → X.N[i]? = some y ∧ X.env.scope.names.lookup y = some .local ∧ swapsWith e (some (.Name y py)) pos.line X.env = pure true) : SS k C (.Assign [.Name y py] e pos) (.set i ie) := by
  obtain ⟨te, _, p, r⟩ := h
  refine ⟨tAsg te (gName i), fun X c => p X c i y py pos (hN X c).1 (hN X c).2.1 (hN X c).2.2, fun M L H0 env σ H D K F w E => ?_⟩
  refine r M L H0 env σ H _ _ F w fun r env' v H' w' P => ?_
  obtain ⟨e2, hs, w'⟩ := w'
  exact E.nx _ _ _ w' (store_ok' P hs)
theorem ss_asg (h : SE k C e ie) (hg : SG k C tg t) (ps : ∀ X, C X → ∀ te g, PE X e te → PG X tg g → PS X st (tAsg te g)) : SS k C st (.asg t ie) := by
  obtain ⟨te, p, r⟩ := h
  obtain ⟨g, pg, rg⟩ := hg
  refine ⟨tAsg te g, fun X c => ps X c te g (p X c) (pg X c), fun M L H0 env σ H D K F w E => ?_⟩
  refine r M L H0 env σ H _ _ F w fun r env' v H' w' P => ?_
  obtain ⟨d, e2, hd, ⟨d', rfl⟩, hb, w'⟩ := w'
  cases hd
  obtain ⟨T, P, o⟩ := P
  exact rg M L H0 env' σ H' _ d v e2 P.drop (Rep.less (fun a h => h.elim (fun z => .inl (.inl z)) .inr) o) hb fun σ2 F2 _ _ _ => E.nx _ _ _ w' F2
theorem ss_drop (h : SE k C e ie) (ps : ∀ X, C X → ∀ te, PE X e te → PS X st (tDrop te)) : SS k C st (.drop ie) := by
  obtain ⟨te, p, r⟩ := h
  refine ⟨tDrop te, fun X c => ps X c te (p X c), fun M L H0 env σ H D K F w E => r M L H0 env σ H _ _ F w fun r env' v H' w' P => E.nx _ _ _ w' P.fr⟩
theorem ss_ret (h : SE k C e ie) : SS k C (.Return (some e) pos) (.ret ie) := by
  obtain ⟨te, p, r⟩ := h
  refine ⟨tRet te, fun X c => ps_ret (p X c), fun M L H0 env σ H D K F w E => r M L H0 env σ H _ _ F w fun r env' v H' w' P => E.rt _ _ _ _ _ w' P⟩
theorem ss_retN : SS k C (.Return none pos) .retN := ⟨tRetN, fun X c => ps_retN, fun M L H0 env σ H D K F w E => E.rt _ _ _ _ _ w (EPost.val F rfl)⟩
theorem ss_ite {c : Expr} {ct : IT} {sa sb : List Stmt} {ja jb : List IS} (hc : ST k C c ct) (h1 : SSs k C sa ja) (h2 : SSs k C sb jb) : SS k C (.If c sa sb pos) (.ite ct ja jb) := by
  obtain ⟨tc, p, r⟩ := hc
  obtain ⟨t1, p1, r1⟩ := h1
  obtain ⟨t2, p2, r2⟩ := h2
  refine ⟨tIfS tc t1 t2, fun X c => ps_if (p X c) (p1 X c) (p2 X c), fun M L H0 env σ H D K F w E => ?_⟩
  refine r M L H0 env σ H _ _ F w fun z env' H' w' F' => ?_
  cases z with
  | true => exact r1 M L H0 env' σ H' D K F' w' E
  | false => exact r2 M L H0 env' σ H' D K F' w' E
theorem ss_pass : SS k C (.Pass pos) .pass := ⟨tNext, fun X c => ps_pass, fun M L H0 env σ H D K F w E => E.nx _ _ _ w F⟩
theorem ss_brk : SS k C (.Break pos) .brk := ⟨tBreak, fun X c => ps_break, fun M L H0 env σ H D K F w E => E.bk _ _ _ w F⟩
theorem ss_cont : SS k C (.Continue pos) .cont := ⟨tCont, fun X c => ps_continue, fun M L H0 env σ H D K F w E => E.ct _ _ _ w F⟩
theorem ss_never : SS k C st .never := ⟨tNever, fun X c => ps_never, fun M L H0 env σ H D K F w E => w.elim⟩
theorem ss_while {c : Expr} {ct : IT} {sb : List Stmt} {jb : List IS} (hp : ∀ X, C X → PassesOwn (model X.prog X.w) X.A X.env X.xe) (hc : ST k C c ct) (h1 : SSs k C sb jb) : SS k C (.While c sb [] pos) (.while_ ct jb) := by
  obtain ⟨tc, p, r⟩ := hc
  obtain ⟨t1, p1, r1⟩ := h1
  refine ⟨tWhile tc t1, fun X c => ps_while (hp X c) (p X c) (p1 X c), fun M L H0 env σ H D K F w E => ?_⟩
  obtain ⟨W, ⟨m0, w0⟩, w⟩ := w
  refine ⟨fun m σ' H' => ∃ e, W m e ∧ Fr k M L H0 e σ' H', ⟨m0, env, w0, F⟩, fun m σ' H' ⟨e, we, Fe⟩ => ?_⟩
  refine r M L H0 e σ' H' _ _ Fe (w m e we) fun z env' H1 w' F' => ?_
  cases z with
  | true =>
    have w' : wSs jb env' _ := w'
    refine ⟨fun σ2 H2 => ∃ m', m' < m ∧ ∃ e, W m' e ∧ Fr k M L H0 e σ2 H2, fun σ2 H2 h => h, ?_⟩
    refine r1 M L H0 env' σ' H1 _ _ F' w' ⟨?_, E.rt, E.nx, ?_⟩
    · exact fun env2 σ2 H2 ⟨m', hm, w2⟩ F2 => ⟨m', hm, env2, w2, F2⟩
    · exact fun env2 σ2 H2 ⟨m', hm, w2⟩ F2 => ⟨m', hm, env2, w2, F2⟩
  | false => exact E.nx _ _ _ w' F'
theorem ss_for {iter : Expr} {it : II} {sb : List Stmt} {jb : List IS} (hp : ∀ X, C X → PassesOwn (model X.prog X.w) X.A X.env X.xe ∧ X.calm = true) (hi : SI k C tg iter true it) (hg : SG k C tg t) (h1 : SSs k C sb jb) (hs : ∀ X, C X → ∀ x, foldedSetIterable iter X.env x = pure x) :
    SS k C (.For tg iter sb [] pos) (.for_ t it jb) := by
  obtain ⟨wi, pi, ri⟩ := hi
  obtain ⟨g, pg, rg⟩ := hg
  obtain ⟨t1, p1, r1⟩ := h1
  refine ⟨tFor wi g t1, fun X c => ps_for (hp X c).1 (hp X c).2 (pi X c) (pg X c) (p1 X c) (hs X c), fun M L H0 env σ H D K F w E => ?_⟩
  refine ri M L H0 env σ H _ _ F w fun its hs e1 T H1 J w1 P hh ok => ?_
  obtain ⟨rfl, w1⟩ := w1
  have m1 : ∀ a, Or2 M T a → Or2 M T a := fun a h => h
  have m2 : ∀ a, Or2 M T a → Or2 M T a ∨ H1 a = none := fun a h => .inl h
  have noh : ∀ (e : Ev) (σ' : St), HeldOk [] σ e σ' := fun e σ' p hp => nomatch hp
  -- back to the frame's own account
  have out : ∀ {e : Ev} {σ' : St} {H' : Hp}, Fr k (Or2 M T) L (maskH (OwnA e1 σ) H1) e σ' H' → Fr k M L H0 e σ' H' := fun {e σ' H'} F' => (P.fr.rebaseS F' m1).less (fun a h => .inl h) P.lm
  refine ⟨fun i m σ' H' => m = its.length - i ∧ i ≤ its.length ∧ ∃ e, Fr k (Or2 M T) L (maskH (OwnA e1 σ) H1) e σ' H' ∧ forLoop (fun d e N => ∃ e2, bindT t d e = some e2 ∧ wSs jb e2 { K with nx := N, ct := N, bk := K.nx }) (its.drop i) e K.nx,
    ⟨_, rfl, Nat.zero_le _, e1, P.fr.pin, w1⟩, fun i m σ' H' ⟨em, hi, e, Fe, we⟩ => ?_⟩
  subst em
  by_cases hlt : i < its.length
  · rw [List.drop_eq_getElem_cons hlt] at we
    obtain ⟨e2, hb, we⟩ := we
    refine .inr ⟨ok.go i hlt _ _ _ _ m1 m2 Fe (noh _ _), fun σ2 H2 => its.length - (i + 1) = its.length - (i + 1) ∧ i + 1 ≤ its.length ∧ ∃ e, Fr k (Or2 M T) L (maskH (OwnA e1 σ) H1) e σ2 H2 ∧ forLoop (fun d e N => ∃ e2, bindT t d e = some e2 ∧ wSs jb e2 { K with nx := N, ct := N, bk := K.nx }) (its.drop (i + 1)) e K.nx,
      fun σ2 H2 h => ⟨_, by omega, h⟩, fun x H'' hy => ?_⟩
    obtain ⟨d, ed, sm, rd⟩ := ok.yld i x H'' _ _ _ _ m1 m2 Fe (noh _ _) (fun a h => Fe.bd_tracked h) hlt hy
    rw [List.getElem?_eq_getElem hlt] at ed
    cases ed
    have F2 : Fr k (Or2 M T) L (maskH (OwnA e1 σ) H1) e σ' H'' := Fe.same sm (fun a h => .inl h) Fe.lm (fun a h => let ⟨o, q⟩ := Fe.mt a h; ⟨o, sm a o q⟩) fun a h n => (n h).elim
    refine rg _ _ _ _ _ _ _ _ _ e2 F2 rd hb fun σ2 F3 hlen hoff how => ?_
    have fr : ∀ {r : ER} {env' : Ev} {σ3 : St} {v : V} {H3 : Hp}, EPost k (Or2 M T) L (maskH (OwnA e1 σ) H1) env' σ3 r v H3 → EPost k M L H0 env' σ3 r v H3 := fun {r env' σ3 v H3} h => by
      obtain ⟨T3, P3, o3⟩ := h
      have F4 := P.fr.rebaseS P3.fr fun a h => .inl h
      have eq : Or2 (Or2 M T) T3 = Or2 M (Or2 T T3) := by
        funext a
        exact propext or_assoc
      rw [eq] at F4 o3
      refine ⟨Or2 T T3, ⟨fun a h => ?_, P.lm, F4⟩, ?_⟩
      · rcases h with h | h
        · exact P.tf a h
        · have f := P3.tf a h
          exact ⟨P.fr.base_none f.1 f.2.1, fun z => f.2.1 (.inl z), f.2.2⟩
      · cases r with
        | val d => exact o3
        | own ds =>
          obtain ⟨p, xs, e1, tp, r⟩ := o3
          exact ⟨p, xs, e1, .inr tp, r⟩
        | ownd ks ds =>
          obtain ⟨p, xs, e1, tp, r⟩ := o3
          exact ⟨p, xs, e1, .inr tp, r⟩
        | ref i => exact o3
    refine r1 _ _ _ e2 σ2 H'' _ _ F3 we ⟨?_, ?_, ?_, ?_⟩
    · exact fun env3 σ3 H3 w3 F4 => ⟨rfl, hlt, env3, F4, w3⟩
    · exact fun r env3 σ3 v H3 w3 P3 => E.rt _ _ _ _ _ w3 (fr P3)
    · exact fun env3 σ3 H3 w3 F4 => E.nx _ _ _ w3 (out F4)
    · exact fun env3 σ3 H3 w3 F4 => ⟨rfl, hlt, env3, F4, w3⟩
  · have hi2 : i = its.length := Nat.le_antisymm hi (Nat.le_of_not_lt hlt)
    subst hi2
    rw [List.drop_length] at we
    exact .inl ⟨ok.stop _ _ _ _ m1 m2 Fe (noh _ _), E.nx _ _ _ we (out Fe)⟩
/-- pot[n] = e -/
theorem ss_setL {o ix : Expr} {iix : IE} (h1 : SE k C e ie) (h2 : SE k C ix iix) (n1 : ie.isStar = false) (n2 : iix.isStar = false) (ps : ∀ X, C X → ∀ te ti, PE X e te → PE X ix ti → PS X st (tAsg te (gSub (tVar i) ti rSetL))) : SS k C st (.setL i ie iix) := by
  obtain ⟨ta, p1, r1⟩ := h1
  obtain ⟨tb, p2, r2⟩ := h2
  refine ⟨tAsg ta (gSub (tVar i) tb rSetL), fun X c => ps X c ta tb (p1 X c) (p2 X c), fun M L H0 env σ H D K F w E => ?_⟩
  refine r1 M L H0 env σ H _ _ F w fun r e1 v H1 w1 P => ?_
  obtain ⟨hm, w1⟩ := w1
  obtain ⟨T, P, o⟩ := P
  cases hcs : mutCon e1 i with
  | none =>
    rw [hcs] at hm
    cases hm
  | some cs0 =>
    obtain ⟨a, _, hv, _, _, _⟩ := mut_at P.fr hcs
    refine ⟨.ref a, hv, ?_⟩
    refine r2 (Or2 M T) L (maskH (OwnA e1 σ) H1) e1 σ H1 _ _ P.fr.pin w1 fun s e2 y H2 w2 P2 => ?_
    obtain ⟨T2, P2, o2⟩ := P2
    obtain ⟨x, e3, hf, n, cs, j, rfl, hcs2, hj, w2⟩ := w2
    have PP := P.trans P2
    have EP : EPost k M L H0 e2 σ r v H2 := ⟨_, PP, OpdOk.grow P P2 o⟩
    obtain ⟨F3, rx⟩ := EP.freeze hf
    obtain ⟨a', xs, hv', ha, rc, hb⟩ := mut_at F3 hcs2
    rw [hv] at hv'
    cases hv'
    refine ⟨a, xs, n, j, rfl, o2, ha, by rw [← rc.len]; exact hj, ?_⟩
    exact E.nx _ _ _ w2 (F3.putCon hcs2 hv (fun b o nb h => by rw [upd_ne nb]; exact h) upd_same ((RepL.grow (grow_upd hb) _ _ rc).set j (Rep.grow (grow_upd hb) _ _ rx)))
theorem putD_rep {B : APred} {H : Hp} {c : Key} {x : D} {v : V} (rx : Rep k B H x v) : ∀ {ks : List Key} {ds : List D} {xs : List V}, ks.length = xs.length → RepL k B H ds xs →
    ∃ ys, putK (ks.zip xs) c v = (putD ks ds c x).1.zip ys ∧ (putD ks ds c x).1.length = ys.length ∧ RepL k B H (putD ks ds c x).2 ys := fun {ks ds xs} hl r => by
  have any : ∀ {ks : List Key} {xs : List V}, ks.length = xs.length → ((ks.zip xs).any fun kv => decide (kv.1 = c)) = ks.any fun z => decide (z = c) := by
    intro ks
    induction ks with
    | nil => intro xs _; rfl
    | cons q ks ih =>
      intro xs hl
      cases xs with
      | nil => cases hl
      | cons y ys =>
        rw [List.zip_cons_cons, List.any_cons, List.any_cons, ih (by simpa using hl)]
  unfold putK putD
  rw [any hl]
  by_cases h : (ks.any fun z => decide (z = c)) = true
  · rw [if_pos h, if_pos h]
    have main : ∀ {ks : List Key} {ds : List D} {xs : List V}, ks.length = xs.length → RepL k B H ds xs → ∃ ys, (ks.zip xs).map (fun kv => if kv.1 = c then (kv.1, v) else kv) = ks.zip ys ∧ ks.length = ys.length ∧
        RepL k B H (List.zipWith (fun z d => if z = c then x else d) ks ds) ys := by
      intro ks
      induction ks with
      | nil =>
        intro ds xs hl r
        exact ⟨[], rfl, rfl, rfl⟩
      | cons q ks ih =>
        intro ds xs hl r
        cases xs with
        | nil => cases hl
        | cons y ys =>
          cases ds with
          | nil => cases r
          | cons d ds =>
            obtain ⟨_, _, e, r1, r2⟩ := r
            cases e
            obtain ⟨zs, e1, e2, e3⟩ := ih (by simpa using hl) r2
            by_cases hq : q = c
            · refine ⟨v :: zs, ?_, by rw [List.length_cons, List.length_cons, e2], ?_⟩
              · rw [List.zip_cons_cons, List.map_cons, if_pos hq, e1, List.zip_cons_cons]
              · rw [List.zipWith_cons_cons, if_pos hq]
                exact ⟨_, _, rfl, rx, e3⟩
            · refine ⟨y :: zs, ?_, by rw [List.length_cons, List.length_cons, e2], ?_⟩
              · rw [List.zip_cons_cons, List.map_cons, if_neg hq, e1, List.zip_cons_cons]
              · rw [List.zipWith_cons_cons, if_neg hq]
                exact ⟨_, _, rfl, r1, e3⟩
    exact main hl r
  · rw [if_neg h, if_neg h]
    exact ⟨xs ++ [v], by rw [List.zip_append hl]; rfl, by simp [hl], r.append (RepL.one rx)⟩
/-- d[q] = e -/
theorem ss_setD {ix : Expr} {iix : IE} (h1 : SE k C e ie) (h2 : SE k C ix iix) (ps : ∀ X, C X → ∀ te ti, PE X e te → PE X ix ti → PS X st (sDPut (tVar i) ti te)) : SS k C st (.setD i ie iix) := by
  obtain ⟨ta, p1, r1⟩ := h1
  obtain ⟨tb, p2, r2⟩ := h2
  refine ⟨sDPut (tVar i) tb ta, fun X c => ps X c ta tb (p1 X c) (p2 X c), fun M L H0 env σ H D K F w E => ?_⟩
  refine r1 M L H0 env σ H _ _ F w fun r e1 v H1 w1 P => ?_
  obtain ⟨⟨ks0, ds0, hm⟩, w1⟩ := w1
  obtain ⟨T, P, o⟩ := P
  obtain ⟨a, _, hv, _⟩ := P.fr.slot i _ hm
  refine ⟨.ref a, hv, ?_⟩
  refine r2 (Or2 M T) L (maskH (OwnA e1 σ) H1) e1 σ H1 _ _ P.fr.pin w1 fun s e2 y H2 w2 P2 => ?_
  obtain ⟨T2, P2, o2⟩ := P2
  obtain ⟨x, e3, hf, q, ks, ds, c, rfl, hm2, hq, hlt, w2⟩ := w2
  have PP := P.trans P2
  have EP : EPost k M L H0 e2 σ r v H2 := ⟨_, PP, OpdOk.grow P P2 o⟩
  obtain ⟨F3, rx⟩ := EP.freeze hf
  obtain ⟨a', xs, hv', ha, hl, rc⟩ := F3.slot i _ hm2
  rw [hv] at hv'
  cases hv'
  have hb : Bd M e3 σ a := .inr ⟨i, _, hm2, trivial, hv⟩
  have ey : y = kV c := key_of_rep hq (Rep.p (show Rep k _ H2 q y from o2))
  obtain ⟨ys, e4, e5, e6⟩ := putD_rep (c := c) (Rep.grow (grow_upd (o := .dK (putK (ks.zip xs) c v)) hb) _ _ rx) hl (RepL.grow (grow_upd (o := .dK (putK (ks.zip xs) c v)) hb) _ _ rc)
  refine ⟨a, _, rfl, .inl ⟨_, c, ha, ey, ?_, rfl⟩, E.nx _ _ _ w2 ?_⟩
  · rw [List.length_zip, ← hl, Nat.min_self]
    exact Nat.lt_of_lt_of_le hlt (by decide)
  · exact F3.mut hm2 hv (.inl ⟨trivial, trivial, fun h => h, fun h => h⟩) (fun b o nb h => by rw [upd_ne nb]; exact h) ⟨_, upd_same⟩ ⟨a, ys, rfl, by rw [upd_same, e4], e5, e6⟩
theorem frz_own {env e1 : Ev} {σ : St} {r : ER} {d : D} (e : frz env r = some (d, e1)) : ∀ a, OwnA e1 σ a → OwnA env σ a := by
  cases r with
  | val _ => cases e; exact fun _ h => h
  | own _ => cases e; exact fun _ h => h
  | ownd _ _ => cases e; exact fun _ h => h
  | ref j =>
    dsimp only [frz] at e
    split at e
    · cases e; exact fun _ h => h
    · cases e; exact fun _ h => own_set (s := .val _) (fun h => h) h
    · cases e; exact fun _ h => own_set (s := .val _) (fun h => h) h
    · cases e
theorem store_own {M : APred} {B T : APred} {H : Hp} {env e2 : Ev} {σ : St} {r : ER} {v : V} (o : OpdOk k B T σ H r v) (e : store env i r = some e2) : ∀ a, OwnA e2 (σ.set i (some v)) a → OwnA env σ a ∨ T a := by
  cases r with
  | val d =>
    rw [setS_eq e]
    exact fun a h => .inl (own_put_val a h)
  | own ds =>
    obtain ⟨p, xs, e1, tp, _⟩ := o
    rw [setS_eq e]
    rintro a ⟨j, h⟩
    rcases has_put h with ⟨_, h⟩ | ⟨_, _, ev⟩
    · exact .inl ⟨j, h⟩
    · rw [e1] at ev
      cases ev
      exact .inr tp
  | ownd ks ds =>
    obtain ⟨p, xs, e1, tp, _⟩ := o
    rw [setS_eq e]
    rintro a ⟨j, h⟩
    rcases has_put h with ⟨_, h⟩ | ⟨_, _, ev⟩
    · exact .inl ⟨j, h⟩
    · rw [e1] at ev
      cases ev
      exact .inr tp
  | ref j =>
    have e : (match frz env (.ref j) with | some (d, e1) => setS e1 i (.val d) | none => none) = some e2 := e
    split at e
    · rename_i d e1 q
      rw [setS_eq e]
      exact fun a h => .inl (frz_own q a (own_put_val a h))
    · cases e
theorem par_core {M T T2 : APred} {L : LN} {H0 H H1 H2 H3 : Hp} {env e1 e2 e3 e4 : Ev} {σ : St} {r s : ER} {x y : V} {jj : Nat} (F : Fr k M L H0 env σ H) (P : Post k M L H0 e1 σ T H1) (o : OpdOk k (Bd (Or2 M T) e1 σ) T σ H1 r x)
    (P2 : Post k (Or2 M T) L (maskH (OwnA e1 σ) H1) e2 σ T2 H2) (o2 : OpdOk k (Bd (Or2 (Or2 M T) T2) e2 σ) T2 σ H2 s y) (sm : Same H2 H3) (hnr : notRef s) (hs1 : store e2 i r = some e3) (hs2 : store e3 jj s = some e4) :
    Fr k M L H0 e4 ((σ.set i (some x)).set jj (some y)) H3 := by
  have PP := P.trans P2
  have dis : ∀ a, T a → ¬ T2 a := fun a h1 h2 => (P2.tf a h2).2.1 (.inr h1)
  -- the first operand, by what it alone has made
  have g := P.grow P2
  have kt : ∀ p o, T p → H1 p = some o → H2 p = some o := fun p o tp h => by
    refine P2.fr.keep p o ?_ fun z => (P.tf p tp).2.1 (P.lm p z)
    rw [maskH_of fun z => (P.fr.fresh p z).2.1 (.inr tp)]
    exact h
  have o1 : OpdOk k (Bd (Or2 (Or2 M T) T2) e2 σ) T σ H2 r x := by
    cases r with
    | val d => exact Rep.grow g _ _ o
    | own ds =>
      obtain ⟨p, xs, e1, tp, e2, r⟩ := o
      exact ⟨p, xs, e1, tp, kt p _ tp e2, RepL.grow g _ _ r⟩
    | ownd ks ds =>
      obtain ⟨p, xs, e1, tp, e2, hl, r⟩ := o
      exact ⟨p, xs, e1, tp, kt p _ tp e2, hl, RepL.grow g _ _ r⟩
    | ref i => exact o
  have o1 := o1.same sm
  have o2 := o2.same sm
  have eq : Or2 (Or2 M T) T2 = Or2 (Or2 M T2) T := by
    funext a
    apply propext
    constructor
    · rintro ((h | h) | h)
      · exact .inl (.inl h)
      · exact .inr h
      · exact .inl (.inr h)
    · rintro ((h | h) | h)
      · exact .inl (.inl h)
      · exact .inr h
      · exact .inl (.inr h)
  have fr1 : Fr k (Or2 (Or2 M T2) T) L H0 e2 σ H3 := by
    have z := P.fr.rebase P2.fr fun a h => .inl h
    rw [eq] at z
    exact z.same sm (fun a h => .inl h) z.lm (fun a h => let ⟨o, q⟩ := z.mt a h; ⟨o, sm a o q⟩) fun a h n => (n h).elim
  rw [eq] at o1 o2
  have tf2 : ∀ a, T2 a → H0 a = none ∧ ¬ M a ∧ ¬ L.n a := fun a h => PP.tf a (.inr h)
  have E1 : EPost k (Or2 M T2) L H0 e2 σ r x H3 := ⟨T, ⟨fun a h => ⟨(P.tf a h).1, fun z => z.elim (P.tf a h).2.1 fun z => dis a h z, (P.tf a h).2.2⟩, fun a h => .inl (F.lm a h), fr1⟩, o1⟩
  have F3 := store_ok' E1 hs1
  have E2 : EPost k M L H0 e3 (σ.set i (some x)) s y H3 := by
    refine ⟨T2, ⟨tf2, F.lm, F3⟩, ?_⟩
    have sub : ∀ a, Bd (Or2 M T2) e3 (σ.set i (some x)) a → Bd (Or2 (Or2 M T2) T) e2 σ a := fun a h => by
      rcases h with h | h
      · exact .inl (.inl h)
      · rcases store_own (M := M) o1 hs1 a h with z | z
        · exact .inr z
        · exact .inl (.inr z)
    cases s with
    | val d => exact Rep.less sub o2
    | own ds =>
      obtain ⟨p, xs, e1, tp, e2, r⟩ := o2
      exact ⟨p, xs, e1, tp, e2, RepL.less sub r⟩
    | ownd ks ds =>
      obtain ⟨p, xs, e1, tp, e2, hl, r⟩ := o2
      exact ⟨p, xs, e1, tp, e2, hl, RepL.less sub r⟩
    | ref i => exact hnr.elim
  exact store_ok' E2 hs2
/-- a, b = x, y -/
theorem ss_par {jj : Nat} (h1 : SE k C a ia) (h2 : SE k C b ib) (n1 : ia.isStar = false) (n2 : ib.isStar = false) (ps : ∀ X, C X → ∀ ta tb, PE X a ta → PE X b tb → PS X st (tPar i jj (tCons ta (tCons tb tNil)))) : SS k C st (.par [i, jj] [ia, ib]) := by
  obtain ⟨ta, p1, r1⟩ := h1
  obtain ⟨tb, p2, r2⟩ := h2
  refine ⟨_, fun X c => ps X c ta tb (p1 X c) (p2 X c), fun M L H0 env σ H D K F w E => ?_⟩
  unfold wS at w
  rw [wA_cons n1] at w
  simp only [wA_cons n2] at w
  refine r1 M L H0 env σ H _ _ F w fun r e1 x H1 w1 P => ?_
  obtain ⟨T, P, o⟩ := P
  refine r2 (Or2 M T) L (maskH (OwnA e1 σ) H1) e1 σ H1 _ _ P.fr.pin w1 fun s e2 y H2 w2 P2 => ?_
  obtain ⟨T2, P2, o2⟩ := P2
  obtain ⟨hnr, e3, e4, hs1, hs2, w2⟩ := w2
  exact ⟨x, y, rfl, E.nx _ _ _ w2 (par_core F P o P2 o2 (same_refl _) hnr hs1 hs2)⟩
/-- the same where a name is a cell: the pair is made -/
theorem ss_parC {jj : Nat} (h1 : SE k C a ia) (h2 : SE k C b ib) (n1 : ia.isStar = false) (n2 : ib.isStar = false) (ps : ∀ X, C X → ∀ ta tb, PE X a ta → PE X b tb → PS X st (tAsg (tTup (tCons ta (tCons tb tNil))) (gTup k.K 2 (gCons (gName i) (gCons (gName jj) gNil))))) : SS k C st (.par [i, jj] [ia, ib]) := by
  obtain ⟨ta, p1, r1⟩ := h1
  obtain ⟨tb, p2, r2⟩ := h2
  refine ⟨_, fun X c => ps X c ta tb (p1 X c) (p2 X c), fun M L H0 env σ H D K F w E => ?_⟩
  unfold wS at w
  rw [wA_cons n1] at w
  simp only [wA_cons n2] at w
  refine r1 M L H0 env σ H _ _ F w fun r e1 x H1 w1 P => ?_
  obtain ⟨T, P, o⟩ := P
  refine r2 (Or2 M T) L (maskH (OwnA e1 σ) H1) e1 σ H1 _ _ P.fr.pin w1 fun s e2 y H2 w2 P2 => ?_
  obtain ⟨T2, P2, o2⟩ := P2
  obtain ⟨hnr, e3, e4, hs1, hs2, w2⟩ := w2
  refine ⟨sz5 (by show 2 ≤ 100000; omega), fun p hp => ⟨p, [x, y], rfl, .inl (.inl upd_same), rfl, x, [y], rfl, y, [], rfl, rfl, E.nx _ _ _ w2 (par_core F P o P2 o2 (same_new hp) hnr hs1 hs2)⟩⟩
end
end VL
namespace VL
open PySem PySem.Spec L2 PyProof.Rows

/-! ## defs that may look at what is being displayed (repr): the guards are known -/
structure FnG (P : Program) (w : World) (K : PySem.W.Frag) (mg : Str → Option Value) (base : Heap) (k : Nat) (f : Addr) (fd : FuncData) (ps : List Str) (sp : Sp) : Prop where
  len : ∀ vs H Q E, sp vs H Q E → vs.length = ps.length
  run : ∀ (A : Around) (outer : List Env) (s : Shared) (H : Hp) (args : Args) (us : List Value) (vs : List V) (Q : VK) (E : XK), Room k A → A.guards = some [] → Env0 P w K mg base A outer s H → BindsTo s fd args (ps.zip us) →
    Vals vs us → sp vs H Q E → codeAny (model P w) A (.call (.ref f) args) (CR CX0 outer P w H s Q E) s
theorem FnG.mono {P : Program} {w : World} {K : PySem.W.Frag} {mg : Str → Option Value} {base : Heap} {j k : Nat} {f : Addr} {fd : FuncData} {ps : List Str} {sp : Sp} (F : FnG P w K mg base j f fd ps sp) (h : j ≤ k) : FnG P w K mg base k f fd ps sp :=
  ⟨F.len, fun A outer s H args us vs Q E hr => F.run A outer s H args us vs Q E (hr.mono h)⟩
/-- a def by its body -/
theorem fnG_of {P : Program} {w : World} {K : PySem.W.Frag} {mg : Str → Option Value} {base : Heap} {x qual : Str} {st : Stmt} {f : Addr} {fd : FuncData} {N ps : List Str} {k : Nat} {sp : Sp} (F : L2.Fun K x qual st f fd)
    (S : FnScope N ps (defScope st)) (len : ∀ vs H Q E, sp vs H Q E → vs.length = ps.length)
    (hbody : ∀ (cdv : Value) (A : Around) (outer : List Env) (s : Shared) (H : Hp) (vs : List V) (Q : VK) (E : XK), Room k (A.deeper (envOfC qual (defScope st) s.heap.objs.size f cdv)) → (A.deeper (envOfC qual (defScope st) s.heap.objs.size f cdv)).guards = some [] → sp vs H Q E →
      ∃ t, PSs (cxOf CX0 P w K mg base N qual (defScope st) f cdv A outer s H E).nox (defBody st) t ∧ t { nx := fun _ H' => Q .non H', rt := Q } (L2.start N vs) H) : FnG P w K mg base (k + 1) f fd ps sp := by
  obtain ⟨oc, od, kV, doc, pm, an, cdv, ct, osl, rfl, lk, hcd⟩ := F.ex
  refine ⟨len, ?_⟩
  intro A outer s H args us vs Q E hr hgd e0 hb r hsp
  have lenA := len _ _ _ _ hsp
  have inK : K.In s.heap := e0.mod.kin.keeps fun b o e => (e0.bs b o e).1
  have noLim : s.heap.NoLimit := e0.mod.nolimit.keeps fun b o e => (e0.bs b o e).1
  refine codeAny_call_function hr.depth (inK _ _ lk) rfl S.co S.gen rfl (PySem.W.codeRec_of inK hcd) (hb _ _ _ _ ?_)
  refine wpAny_newFunctionEnv_cells S.kind ?_ ?_
  · rintro ⟨n, v⟩ hy
    rcases S.par n (List.of_mem_zip hy).1 with q | q
    · exact .inl q
    · exact .inr ⟨q, PySem.W.cellsFrom_some _ _ _ (.inl q)⟩
  · intro env he s1 x
    subst he
    refine ⟨noLim.keeps x.toInCall.keep, codeAny_func ?_⟩
    obtain ⟨t, ht, hq⟩ := hbody cdv A outer s H vs Q E (hr.deeper _) hgd hsp
    have I := inv_start (CX := CX0) (qual := qual) (cd := cdv) (f := f) (E := E) S hr.hd e0 lenA r x
    have ht2 := ht.nox
    refine wpAny_mono (ht2.run [] s1 (L2.start N vs) H _ I hq) ?_ fun e s' hs => hs
    intro fl s' hs
    cases fl with
    | ret u =>
      obtain ⟨v, σ', H', J, rv, q⟩ := hs
      exact ⟨v, H', J.os, J.bare, J.base, J.hok, rv, q⟩
    | next =>
      obtain ⟨σ', H', J, q⟩ := hs
      exact ⟨V.non, H', J.os, J.bare, J.base, J.hok, rfl, q⟩
    | brk => exact hs.elim fun _ h => h.elim fun _ h => h.2.elim
    | cont => exact hs.elim fun _ h => h.elim fun _ h => h.2.elim
section
variable {X : Cx} {k : Nat} {f : Addr} {fd : FuncData} {ps : List Str} {sp : Sp} {x : Str} {p pos : Pos} {e : Expr} {es : List Expr} {t : TA}
/-- its call -/
theorem pe_callG (F : FnG X.prog X.w X.K X.mg X.base k f fd ps sp) (hr : Room k X.A) (hgd : X.A.guards = some []) (hg : Gl X x) (hm : X.mg x = some (.ref f)) (hk : PySem.W.keepIn X.K (.ref f) = true) (hb : Binds X.K fd ps [])
    (ha : PA X (e :: es) t) (hdb : (x == ("__debug__" : Str)) = false) (he : starEach (e :: es) X.env = (false, eval e X.env) :: starEach es X.env) (hpl : (backTo pos (starEach es X.env)).any (·.1) = false) :
    PE X (.Call (.Name x p) (e :: es) [] pos) (tCall sp [] E0 t) := by
  refine ⟨fun pins s σ H Q I h => ?_⟩
  refine wpAny_Call_Name_kw (ld_glob I hg hm ?_ hdb)
  refine PySem.W.callWith_K (h₀ := X.base) I.ok.mod.kin hk (thn (ha.run pos pins s σ H _ I h) ?_) he hpl
  rintro us s1 ⟨vs, H1, I1, r, q⟩
  refine ⟨I1.kIn, ?_⟩
  have q : sp (vs ++ []) H1 Q E0 := q
  rw [List.append_nil] at q
  have hl : us.length = ps.length := by
    rw [← r.length]
    exact F.len _ _ _ _ q
  have bb := hb s1 us I1.kIn (by rw [List.append_nil]; exact hl)
  rw [List.append_nil] at bb
  refine wpAny_call (codeAny_mono (F.run X.A X.stack s1 H1 ⟨us, []⟩ us vs Q E0 hr hgd I1.env0 bb r q) ?_)
  intro res s' hq
  cases res with
  | error e => exact (show False from hq).elim
  | ok fl =>
    cases fl with
    | ret u => exact I1.after hq
    | next => exact False.elim hq
    | brk => exact False.elim hq
    | cont => exact False.elim hq
end
/-! ### the law's own call -/
theorem onlyDict {s1 : Shared} {H : Hp} {a b : Addr} {o : Obj} {vs : List Value} {es : Array DictEntry} {ep : Nat} (ha : s1.heap.get? a = some { cls := .type "list", data := .seq vs.toArray }) (hA : ∀ b, H b ≠ none → b = a)
    (e : s1.heap.get? b = some o) (d : o.data = .dict es ep) : H b = none := by
  cases q : H b with
  | none => rfl
  | some u =>
    have z := hA b (by rw [q]; simp)
    subst z
    rw [ha] at e
    cases e
    cases (show Data.seq vs.toArray _ = Data.dict es ep from d)
theorem law_core {P : Program} {w : World} {K : PySem.W.Frag} {mg mb : Str → Option Value} {k : Nat} {fa a : Addr} {fd : FuncData} {x : Str} {sp : Sp} {s1 : Shared} {vs : List Value} {H : Hp}
    (KX : K.In s1.heap) (hns : s1.heap.Ns mainGlobals mg) (hb : s1.heap.Ns builtinsNs mb) (hbb : ∀ x : Str, x ≠ "__name__" → mb x = bootBuiltins x) (hlim : s1.heap.NoLimit) (hg : s1.gens = #[]) (ha : s1.heap.get? a = some { cls := .type "list", data := .seq vs.toArray }) (hr : Room k callerA)
    (F : ∀ base : Heap, K.In base → base.Ns mainGlobals mg → FnG P w K mg base k fa fd [x] sp) (hbind : ∀ (s : Shared) (u : Value), BindsTo s fd ⟨[u], []⟩ [(x, u)])
    (hsp : sp [.ref a] H (fun v _ => v = .bl true) fun _ _ _ => False) (hO : Only H) (hok : HOk P w H s1.heap) (hA : ∀ b, H b ≠ none → b = a) (hK : H a ≠ none → K.lookup a = none) :
    codeAny (model P w) callerA (.call (.ref fa) ⟨[.ref a], []⟩) (fun r s' => r = .ok (.ret (.bool true)) ∧ OldK s1.heap s'.heap ∧ s'.os = s1.os ∧ AllBare s'.gens) s1 := by
  have nsK : ∀ {b : Addr} {m : Str → Option Value}, s1.heap.Ns b m → (hidT s1.heap H).Ns b m := by
    rintro b m ⟨o, es, ep, e, d, r⟩
    exact ⟨o, es, ep, hidT_get e (onlyDict ha hA e d), d, r⟩
  have hKb : K.In (hidT s1.heap H) := fun b o e => by
    refine hidT_get (KX b o e) ?_
    cases q : H b with
    | none => rfl
    | some u =>
      have z := hA b (by rw [q]; simp)
      subst z
      rw [hK (by rw [q]; simp)] at e
      cases e
  have hM : Mod K mg (hidT s1.heap H) := by
    obtain ⟨mc, h1, h2⟩ := hlim
    exact ⟨hKb, nsK hns, ⟨mb, nsK hb, hbb⟩, mc, nsK h1, h2⟩
  have e0 : Env0 P w K mg (hidT s1.heap H) callerA [] s1 H := ⟨rfl, hM, fun b o e => of_hidT e, Nat.le_of_eq (hidT_size _ _), trivial, fun b hb => (by cases (show b ∈ ([] : List Addr) from hb)), hok, .of_eq hg⟩
  refine codeAny_mono ((F _ hKb (nsK hns)).run callerA [] s1 H ⟨[.ref a], []⟩ [.ref a] [.ref a] _ _ hr rfl e0 (hbind s1 (.ref a)) (.cons rfl .nil) hsp) ?_
  intro r s' h
  cases r with
  | error e => exact (show False from h).elim
  | ok fl =>
    cases fl with
    | next => exact (show False from h).elim
    | brk => exact (show False from h).elim
    | cont => exact (show False from h).elim
    | ret u =>
      obtain ⟨v, H', os, bare, un, hok', r', q⟩ := h
      have q' : v = .bl true := q
      subst q'
      obtain rfl : u = Value.bool true := r'
      refine ⟨rfl, OldK.of_keep ?_, os, bare⟩
      intro b o e
      cases q : H b with
      | none => exact un.keep b o e q (by intro z; cases (show b ∈ ([] : List Addr) from z)) (by simp)
      | some u =>
        rcases hO b with z | ⟨ob, xs, z⟩
        · rw [q] at z
          cases z
        · have z2 := un.frzs b ob _ z
          obtain ⟨e1, _⟩ := hok b _ z
          obtain ⟨e2, _⟩ := hok' b _ z2
          rw [e] at e1
          cases e1
          exact e2
theorem law_callG {P : Program} {w : World} {K : PySem.W.Frag} {mg mb : Str → Option Value} {k : Nat} {fa a : Addr} {fd : FuncData} {x : Str} {sp : Sp} {s1 : Shared} {vs : List Value} {ns : List Int}
    (KX : K.In s1.heap) (hns : s1.heap.Ns mainGlobals mg) (hb : s1.heap.Ns builtinsNs mb) (hbb : ∀ x : Str, x ≠ "__name__" → mb x = bootBuiltins x) (hlim : s1.heap.NoLimit) (hg : s1.gens = #[]) (ha : s1.heap.get? a = some { cls := .type "list", data := .seq vs.toArray }) (hi : IntsAre vs ns)
    (hl : ns.length ≤ sizeLine) (hr : Room k callerA) (F : ∀ base : Heap, K.In base → base.Ns mainGlobals mg → FnG P w K mg base k fa fd [x] sp) (hbind : ∀ (s : Shared) (u : Value), BindsTo s fd ⟨[u], []⟩ [(x, u)])
    (hsp : ∀ H : Hp, Only H → (∀ b o, H b = some o → b = a) → SqL K H a (ns.map V.int) → sp [.ref a] H (fun v _ => v = .bl true) fun _ _ _ => False) :
    codeAny (model P w) callerA (.call (.ref fa) ⟨[.ref a], []⟩) (fun r s' => r = .ok (.ret (.bool true)) ∧ OldK s1.heap s'.heap ∧ s'.os = s1.os ∧ AllBare s'.gens) s1 := by
  have rv := vals_ints hi
  have lenV := hi.length
  cases hk : K.lookup a with
  | some o =>
    have e := KX a o hk
    rw [ha] at e
    cases e
    have hO : Only fun _ => none := fun _ => .inl rfl
    have hS : SqL K (fun _ => none) a (ns.map V.int) := .inr ⟨_, vs.toArray, _, hk, rfl, rfl, rfl, by rw [List.size_toArray, lenV]; exact hl, by simpa using rv⟩
    refine law_core (H := fun _ => none) KX hns hb hbb hlim hg ha hr F hbind (hsp _ hO (fun b o z => by cases z) hS) hO (fun b u z => ?_) (fun b z => absurd rfl z) fun z => absurd rfl z
    cases (show (none : Option HO) = some u from z)
  | none =>
    have hO : Only fun b => if b = a then some (.frz { cls := .type "list", data := .seq vs.toArray } (.lst (ns.map V.int))) else none := by
      intro b
      by_cases h : b = a
      · exact .inr ⟨_, _, if_pos h⟩
      · exact .inl (if_neg h)
    have hA : ∀ b o, (if b = a then some (HO.frz { cls := .type "list", data := .seq vs.toArray } (.lst (ns.map V.int))) else none) = some o → b = a := by
      intro b o z
      by_cases h : b = a
      · exact h
      · rw [if_neg h] at z
        cases z
    refine law_core KX hns hb hbb hlim hg ha hr F hbind (hsp _ hO hA (.inl (.inr ⟨_, if_pos rfl⟩))) hO ?_ ?_ fun _ => hk
    · intro b u z
      have h := hA b u z
      subst h
      have z : (if b = b then some (HO.frz { cls := .type "list", data := .seq vs.toArray } (.lst (ns.map V.int))) else none) = some u := z
      rw [if_pos rfl] at z
      cases z
      exact ⟨ha, by rw [List.length_map]; exact hl, vs, _, rv, ha⟩
    · intro b z
      by_cases h : b = a
      · exact h
      · exact absurd (if_neg h) z
theorem walk_ofG {l : PySem.W.OpenLaw} {n k : Nat} {q : Program} {loose : List Str} {XP : (Str → Option Value) → Heap → Prop} {YP : World → Heap → Prop} {d : DefRec} {K : Params → PySem.W.Frag} {sp : World → Sp} {x : Str}
    (hn : l.most = some n) (hn2 : n ≤ sizeLine) (hdf : d.params.defaults = []) (hr : Room k callerA) (hY : ∀ (w : World) (h : Heap), YP w h → (K w.params).In h)
    (F : ∀ (w : World) (mg : Str → Option Value) (fa : Addr) (h : Heap), (K w.params).In h → h.Ns mainGlobals mg → mg d.name = some (.ref fa) → ∃ fd : FuncData, (∀ (s : Shared) (u : Value), BindsTo s fd ⟨[u], []⟩ [(x, u)]) ∧
      ∀ base : Heap, (K w.params).In base → base.Ns mainGlobals mg → FnG l.prog w (K w.params) mg base k fa fd [x] (sp w))
    (hsp : ∀ (w : World) (H : Hp) (a : Addr) (ns : List Int), ns.length ≤ n → Only H → (∀ b o, H b = some o → b = a) → SqL (K w.params) H a (ns.map V.int) → sp w [.ref a] H (fun v _ => v = .bl true) fun _ _ _ => False) :
    PySem.W.WalkO q loose XP YP l.row.toRowW d [] (fun f vs => PySem.call f vs) := by
  refine Att.attach_call hn hdf fun w s0 s1 mg mb fa o pm cd doc a vs ns G Y ho hd hcd hmg hobj hints hlen hg => ?_
  obtain ⟨fd, hb, hF⟩ := F w mg fa _ (hY w _ Y) G.T.g hmg
  exact law_callG (hY w _ Y) G.T.g G.T.b G.T.builtins G.T.nolimit hg hobj hints (Nat.le_trans hlen hn2) hr hF hb fun H hO hA hS => hsp w H a ns hlen hO hA hS
end VL
namespace VL
open PySem PySem.Spec L2

/-! ## the forms of a def's text -/
structure TC where
  N : List Str
  sc : Scope
  lv : Nat
  fn : Str → Bool
  fns : List (Str × FSpec)
  gls : List (Str × D)
  nog : List Str
def TC.inn (tc : TC) (scope : Scope) : TC := { tc with sc := relS scope tc.sc, fn := fun x => scope.names.lookup x == some .cell }
structure Ctx (k : KX) (tc : TC) (X : Cx) : Prop where
  K : X.K = k.K
  N : X.N = tc.N
  nd : X.N.Nodup
  sc : X.env.scope = tc.sc
  calm : X.calm = true
  xe : X.xe = fun _ _ => False
  fn : X.fn = tc.fn
  room : Room tc.lv X.A
  gd : X.A.guards = some []
  fok : ∀ (j : Nat) (x : Str) (f : FSpec), tc.fns[j]? = some (x, f) → ∃ fa fd ps, FnG X.prog X.w X.K X.mg X.base tc.lv fa fd ps (spOf k f) ∧ X.mg x = some (.ref fa) ∧ PySem.W.keepIn X.K (.ref fa) = true ∧ Binds X.K fd ps []
  gok : ∀ (j : Nat) (x : Str) (d : D), tc.gls[j]? = some (x, d) → ∃ v u, X.mg x = some u ∧ RelV v u ∧ ∀ B H, Rep k B H d v
  nok : ∀ (j : Nat) (x : Str), tc.nog[j]? = some x → X.mg x = none
section
variable {k : KX} {tc : TC} {X : Cx}
theorem Ctx.blk (c : Ctx k tc X) (scope : Scope) (s : Shared) (H : Hp) (A : Addr) (cl : List (Str × Addr)) (fp : List Addr) : Ctx k (tc.inn scope) (X.blk s H scope (compEnvC scope cl A X.env) fp) :=
  ⟨c.K, c.N, c.nd, by show relS scope X.env.scope = relS scope tc.sc; rw [c.sc], c.calm, rfl, rfl, c.room, c.gd, c.fok, c.gok, c.nok⟩
theorem Ctx.own (c : Ctx k tc X) : PassesOwn (model X.prog X.w) X.A X.env X.xe := by
  rw [c.xe]
  exact PassesOwn.never
theorem Ctx.hu (c : Ctx k tc X) : X.A.units + 64 < cLine := c.room.units
theorem Ctx.hu1 (c : Ctx k tc X) : X.A.units + 1 < cLine := hu_of c.room
theorem Ctx.gl (c : Ctx k tc X) {x : Str} (h : tc.sc.names.lookup x = some .globalImplicit) : Gl X x := by
  show X.env.scope.names.lookup x = _
  rw [c.sc]
  exact h
end
def visB (sc : Scope) (x : Str) : Bool := match sc.names.lookup x with
  | some .local => true
  | some .cell => true
  | some .free => true
  | _ => false
theorem vis_of {sc : Scope} {x : Str} (h : visB sc x = true) : Vis sc x := by
  unfold visB at h
  unfold Vis
  split at h <;> simp_all
section
variable {k : KX} {tc : TC} {e a b c o : Expr} {ie ia ib ic io : IE} {es : List Expr} {ies : List IE} {pos p apos p2 : Pos} {x : Str}
theorem v_var (i : Nat) (hN : tc.N[i]? = some x := by rfl) (hv : visB tc.sc x = true := by rfl) (hd : (x == ("__debug__" : Str)) = false := by rfl) (hc : (x == ("__classdict__" : Str)) = false := by rfl) : SE k (Ctx k tc) (.Name x pos) (.var i) :=
  se_var fun X c => pe_var (by rw [c.N]; exact hN) (by rw [c.sc]; exact vis_of hv) hd hc
theorem pe_v (i : Nat) {X : Cx} (c : Ctx k tc X) (hN : tc.N[i]? = some x := by rfl) (hv : visB tc.sc x = true := by rfl) (hd : (x == ("__debug__" : Str)) = false := by rfl) (hc : (x == ("__classdict__" : Str)) = false := by rfl) : PE X (.Name x pos) (tVar i) :=
  pe_var (by rw [c.N]; exact hN) (by rw [c.sc]; exact vis_of hv) hd hc
theorem v_int {n : Int} {j : Nat} : SE k (Ctx k tc) (.Constant (.int n) j pos) (.cst (.int n)) := se_cst (fun X c => pe_int) fun _ _ => rfl
theorem v_bl {b : Bool} {j : Nat} : SE k (Ctx k tc) (.Constant (.bool b) j pos) (.cst (.bl b)) := se_cst (fun X c => pe_bl) fun _ _ => rfl
theorem v_str {z : Str} {j : Nat} : SE k (Ctx k tc) (.Constant (.str z) j pos) (.cst (.str z)) := se_cst (fun X c => pe_str) fun _ _ => rfl
theorem v_non {j : Nat} : SE k (Ctx k tc) (.Constant .none j pos) (.cst .non) := se_cst (fun X c => pe_non) fun _ _ => rfl
theorem v_glob {d : D} (j : Nat) (hg : tc.gls[j]? = some (x, d) := by rfl) (hl : tc.sc.names.lookup x = some .globalImplicit := by rfl) (hd : (x == ("__debug__" : Str)) = false := by rfl) : SE k (Ctx k tc) (.Name x pos) (.cst d) := by
  refine ⟨fun σ H Q => ∀ v, (∀ B H, Rep k B H d v) → Q v H, fun X c => ?_, fun M L H0 env σ H Q W F w q => fun v hr => q _ _ _ _ w (EPost.val F (hr _ _))⟩
  obtain ⟨v, u, hm, r, hr⟩ := c.gok j x d hg
  exact ⟨fun pins s σ H Q I h => (pe_glob (c.gl hl) hm r hd).run pins s σ H Q I (h v hr)⟩
theorem v_op (op : Operator) (h1 : SE k (Ctx k tc) a ia) (h2 : SE k (Ctx k tc) b ib) (n1 : ia.isStar = false := by rfl) (n2 : ib.isStar = false := by rfl) : SE k (Ctx k tc) (.BinOp a op b pos) (.prim (pwBin op) [ia, ib]) :=
  se_op2 h1 h2 n1 n2 fun X c ta tb p q => pe_op (or_bin c.K.symm op) p q
theorem v_cmp (op : CmpOp) (h1 : SE k (Ctx k tc) a ia) (h2 : SE k (Ctx k tc) b ib) (n1 : ia.isStar = false := by rfl) (n2 : ib.isStar = false := by rfl) (hm : behindInMarks op b = false := by rfl) : SE k (Ctx k tc) (.Compare a [op] [b] pos) (.prim (pwCmp op) [ia, ib]) :=
  se_op2 h1 h2 n1 n2 fun X c ta tb p q => pe_cmpR (or_cmp c.K.symm c.hu op) p q hm
theorem t_cmp (op : CmpOp) (h1 : SE k (Ctx k tc) a ia) (h2 : SE k (Ctx k tc) b ib) (n1 : ia.isStar = false := by rfl) (n2 : ib.isStar = false := by rfl) (hm : behindInMarks op b = false := by rfl) : ST k (Ctx k tc) (.Compare a [op] [b] pos) (.bv (.prim (pwCmp op) [ia, ib])) :=
  st_cmp h1 h2 n1 n2 (fun X c => or_cmp c.K.symm c.hu op) hm
theorem v_chain (op op' : CmpOp) (h1 : SE k (Ctx k tc) a ia) (h2 : SE k (Ctx k tc) b ib) (h3 : SE k (Ctx k tc) c ic) (n1 : ia.isStar = false := by rfl) (n2 : ib.isStar = false := by rfl) (hm : lastMarks [op, op'] [b, c] = false := by rfl) : SE k (Ctx k tc) (.Compare a [op, op'] [b, c] pos) (.chain (pwCmp op) (pwCmp op') ia ib ic) :=
  (se_chain (fun X c => or_cmp c.K.symm c.hu op) (fun X c => or_cmp c.K.symm c.hu op') h1 h2 h3 n1 n2 hm).1
theorem t_chain (op op' : CmpOp) (h1 : SE k (Ctx k tc) a ia) (h2 : SE k (Ctx k tc) b ib) (h3 : SE k (Ctx k tc) c ic) (n1 : ia.isStar = false := by rfl) (n2 : ib.isStar = false := by rfl) (hm : lastMarks [op, op'] [b, c] = false := by rfl) : ST k (Ctx k tc) (.Compare a [op, op'] [b, c] pos) (.bv (.chain (pwCmp op) (pwCmp op') ia ib ic)) :=
  (se_chain (fun X c => or_cmp c.K.symm c.hu op) (fun X c => or_cmp c.K.symm c.hu op') h1 h2 h3 n1 n2 hm).2
theorem t_tv (h : SE k (Ctx k tc) a ia) (he : ∀ X : Cx, ∀ whole, isTrue a X.env whole = (do let v ← whole; standAt a.pos; holding [v] (truthy v)) := by intro _ _; rfl) : ST k (Ctx k tc) a (.tv ia) := st_tv h (fun X c => c.K) fun X _ => he X
theorem t_bv (h : SE k (Ctx k tc) a ia) (he : ∀ X : Cx, ∀ whole, isTrue a X.env whole = (do let v ← whole; standAt a.pos; holding [v] (truthy v)) := by intro _ _; rfl) : ST k (Ctx k tc) a (.bv ia) := st_bool h fun X _ => he X
theorem v_ix (h1 : SE k (Ctx k tc) a ia) (h2 : SE k (Ctx k tc) b ib) (n1 : ia.isStar = false := by rfl) (n2 : ib.isStar = false := by rfl) (hs : PlainIx b := by intro _ _; rfl) : SE k (Ctx k tc) (.Subscript a b pos) (.prim pwIx [ia, ib]) :=
  se_op2 h1 h2 n1 n2 fun X c ta tb p q => pe_ix (ixr_ix c.K.symm) p q hs
theorem v_slc0 (h1 : SE k (Ctx k tc) a ia) : SE k (Ctx k tc) (.Subscript a (.Slice none none none p2) pos) (.slc0 ia) := se_slc0 (fun X c => c.K.symm) h1
theorem v_slcL (h1 : SE k (Ctx k tc) a ia) (h2 : SE k (Ctx k tc) b ib) (n1 : ia.isStar = false := by rfl) (n2 : ib.isStar = false := by rfl) : SE k (Ctx k tc) (.Subscript a (.Slice (some b) none none p2) pos) (.slcL ia ib) := se_slcL (fun X c => c.K.symm) h1 h2 n1 n2
theorem v_slcH (h1 : SE k (Ctx k tc) a ia) (h2 : SE k (Ctx k tc) b ib) (n1 : ia.isStar = false := by rfl) (n2 : ib.isStar = false := by rfl) : SE k (Ctx k tc) (.Subscript a (.Slice none (some b) none p2) pos) (.slcH ia ib) := se_slcH (fun X c => c.K.symm) h1 h2 n1 n2
theorem v_slcB (h1 : SE k (Ctx k tc) a ia) (h2 : SE k (Ctx k tc) b ib) (h3 : SE k (Ctx k tc) c ic) (n1 : ia.isStar = false := by rfl) (n2 : ib.isStar = false := by rfl) : SE k (Ctx k tc) (.Subscript a (.Slice (some b) (some c) none p2) pos) (.slcB ia ib ic) := se_slcB (fun X c => c.K.symm) h1 h2 h3 n1 n2
theorem a_cons (h1 : SE k (Ctx k tc) e ie) (h2 : SA k (Ctx k tc) es ies) (hn : ie.isStar = false := by rfl) (hs : ∀ X : Cx, starEach (e :: es) X.env = (false, eval e X.env) :: starEach es X.env := by intro _; rfl) : SA k (Ctx k tc) (e :: es) (ie :: ies) := sa_cons h1 h2 hn fun X _ => hs X
theorem a_star (h1 : SE k (Ctx k tc) e ie) (h2 : SA k (Ctx k tc) es ies) : SA k (Ctx k tc) (.Starred e p :: es) (.star ie :: ies) := sa_star (fun X c => c.K) h1 h2
/-- built-in functions, built-in types -/
theorem v_cb {id : String} {q : PW} (j : Nat) (hc : ∀ X, Ctx k tc X → CallR X (.builtin id) (rP k q)) (ha : SA k (Ctx k tc) (e :: es) ies) (hj : tc.nog[j]? = some x := by rfl) (hl : tc.sc.names.lookup x = some .globalImplicit := by rfl) (hv : bootBuiltins x = some (.builtin id) := by rfl)
    (hn : x ≠ "__name__" := by decide) (hd : (x == ("__debug__" : Str)) = false := by rfl) (he : ∀ X : Cx, starEach (e :: es) X.env = (false, eval e X.env) :: starEach es X.env := by intro _; rfl) (hpl : ∀ X : Cx, (backTo pos (starEach es X.env)).any (·.1) = false := by intro _; rfl) :
    SE k (Ctx k tc) (.Call (.Name x p) (e :: es) [] pos) (.prim q ies) :=
  se_prim (te := fun _ _ _ => True) ha fun ta hp => ⟨tCB (rP k q) ta, fun X c => pe_callB (hc X c) (c.gl hl) (c.nok j x hj) hv (hp X c) hn hd (he X) (hpl X), fun σ H Q h => h⟩
theorem v_ct {T : String} {q : PW} (j : Nat) (hc : ∀ X, Ctx k tc X → CallR X (.type T) (rP k q)) (ha : SA k (Ctx k tc) (e :: es) ies) (hj : tc.nog[j]? = some x := by rfl) (hl : tc.sc.names.lookup x = some .globalImplicit := by rfl) (hv : bootBuiltins x = some (.type T) := by rfl)
    (hn : x ≠ "__name__" := by decide) (hd : (x == ("__debug__" : Str)) = false := by rfl) (he : ∀ X : Cx, starEach (e :: es) X.env = (false, eval e X.env) :: starEach es X.env := by intro _; rfl) (hpl : ∀ X : Cx, (backTo pos (starEach es X.env)).any (·.1) = false := by intro _; rfl) :
    SE k (Ctx k tc) (.Call (.Name x p) (e :: es) [] pos) (.prim q ies) :=
  se_prim (te := fun _ _ _ => True) ha fun ta hp => ⟨tCB (rP k q) ta, fun X c => pe_callTy (hc X c) (c.gl hl) (c.nok j x hj) hv (hp X c) hn hd (he X) (hpl X), fun σ H Q h => h⟩
/-- isinstance(e, T), T a built-in type -/
theorem v_isi {y : Str} {T : String} {p3 : Pos} (j jT : Nat) (h : SE k (Ctx k tc) e ie) (hn : ie.isStar = false := by rfl) (hj : tc.nog[j]? = some x := by rfl) (hl : tc.sc.names.lookup x = some .globalImplicit := by rfl) (hv : bootBuiltins x = some (.builtin "isinstance") := by rfl)
    (hjT : tc.nog[jT]? = some y := by rfl) (hlT : tc.sc.names.lookup y = some .globalImplicit := by rfl) (hvT : bootBuiltins y = some (.type T) := by rfl)
    (hx : x ≠ "__name__" := by decide) (hd : (x == ("__debug__" : Str)) = false := by rfl) (hy : y ≠ "__name__" := by decide) (hdy : (y == ("__debug__" : Str)) = false := by rfl)
    (he : ∀ X : Cx, starEach [e, .Name y p3] X.env = (false, eval e X.env) :: starEach [.Name y p3] X.env := by intro _; rfl) (hpl : ∀ X : Cx, (backTo pos (starEach [.Name y p3] X.env)).any (·.1) = false := by intro _; rfl) :
    SE k (Ctx k tc) (.Call (.Name x p) [e, .Name y p3] [] pos) (.prim (pwIsi T) [ie]) := by
  refine se_op1 h hn fun X c ta pa => ?_
  have hc : CallR X (.builtin "isinstance") (fun xs H Q => ∃ x, xs = [x, .ty T] ∧ rP k (pwIsi T) [x] H Q) := by
    intro pins s σ H xs us Q I r hp
    obtain ⟨x, rfl, hp⟩ := hp
    exact call_isi pins s σ H _ us Q I r (isi_case c.K.symm hp)
  have pT : PE X (.Name y p3) (tC (.ty T)) := pe_bltn (v := V.ty T) (c.gl hlT) (c.nok jT y hjT) hvT rfl hy hdy
  refine ⟨fun pins s σ H Q I hw => (pe_callB hc (c.gl hl) (c.nok j x hj) hv (pa_cons pa (pa_cons pT pa_nil rfl) (he X)) hx hd (he X) (hpl X)).run pins s σ H Q I ?_⟩
  have e1 : tCB (fun xs H Q => ∃ x, xs = [x, .ty T] ∧ rP k (pwIsi T) [x] H Q) (tCons ta (tCons (tC (.ty T)) tNil)) σ H Q = ta σ H fun x H1 => ∃ x', [x, V.ty T] = [x', .ty T] ∧ rP k (pwIsi T) [x'] H1 Q := rfl
  have e2 : (fun x H1 => ∃ x', [x, V.ty T] = [x', .ty T] ∧ rP k (pwIsi T) [x'] H1 Q) = fun x H1 => rP k (pwIsi T) [x] H1 Q := by
    funext x H1
    apply propext
    constructor
    · rintro ⟨x', e, h⟩
      cases e
      exact h
    · exact fun h => ⟨x, rfl, h⟩
  rw [e1, e2]
  exact hw
def isStr : D → Bool
  | .str _ => true
  | _ => false
theorem isStr_ty {B : APred} {H : Hp} {d : D} {v : V} (h : RepP k B H d v) (e : isStr d = true) : tyV k.K "str" v H := by
  cases d with
  | str z =>
    rw [show v = V.str z from h]
    rfl
  | _ => cases e
/-- s.join(e) -/
theorem v_join (h1 : SE k (Ctx k tc) o io) (h2 : SE k (Ctx k tc) e ie) (hn : ie.isStar = false := by rfl) (hs : ∀ X : Cx, starEach [e] X.env = (false, eval e X.env) :: starEach [] X.env := by intro _; rfl) (hb : ∀ X : Cx, attributeBase o "join" X.env (eval o X.env) = eval o X.env := by intro _; rfl) (hline : (apos.endLine == pos.line) = true := by rfl)
    (hfew : ∀ X : Cx, ((backTo pos (starEach [e] X.env)).all (fun x => !x.1) && (backToKw pos (keywordEach [] X.env)).all (fun x => x.1.isSome) && decide (([e] : List Expr).length + ([] : List Keyword).length + (if ([] : List Keyword).isEmpty then 0 else 1) < 30)) = true := by intro _; rfl) :
    SE k (Ctx k tc) (.Call (.Attribute o "join" apos) [e] [] pos) (.mth isStr pwJoin io [ie]) := by
  refine se_mth (ty := tyV k.K "str") h1 (a_cons h2 sa_nil hn hs) (fun B H d v => isStr_ty) fun X c to t p1 p2 => ?_
  have hm : MtR X "str.join" (fun x xs H Q => rM k pwJoin x xs H Q) := fun pins s σ H x xs v us Q I rx rs h => mt_join pins s σ H x xs v us Q I rx rs (join_case h)
  have := pe_bm (X := X) F.plainAttrs_str F.slot_str_join F.type_str_join hm p1 p2 (hb X) (hfew X) hline (hs X) rfl
  rw [c.K] at this
  exact this
theorem v_bits (h1 : SE k (Ctx k tc) o io) (hn : io.isStar = false := by rfl) (hb : ∀ X : Cx, attributeBase o "bit_length" X.env (eval o X.env) = eval o X.env := by intro _; rfl) (hline : (apos.endLine == pos.line) = true := by rfl) :
    SE k (Ctx k tc) (.Call (.Attribute o "bit_length" apos) [] [] pos) (.prim pwBits [io]) := by
  obtain ⟨ta, p1, r1⟩ := h1
  refine ⟨tBits ta, fun X c => pe_bits (p1 X c) (hb X) hline, fun M L H0 env σ H Q W F w q => ?_⟩
  unfold wE at w
  rw [wA_cons hn] at w
  refine r1 M L H0 env σ H _ _ F w fun r env1 v H1 w1 P => ?_
  obtain ⟨T, P, oo⟩ := P
  obtain ⟨ds, hd, w1⟩ := w1
  have rp := derefL_ok P.fr (rs := [r]) (vs := [v]) ⟨v, [], rfl, oo, rfl⟩ hd
  unfold pwBits at w1
  split at w1
  · rename_i i
    have ev : v = .int i := rp1 rp
    exact ⟨i, ev, q _ _ _ _ w1 (prim_post P ⟨Same.refl _, rfl⟩)⟩
  · exact w1.elim
theorem mtr_pop {k : KX} {X : Cx} : MtR X "list.pop" (fun x xs H Q => rMut k mwPop x xs H Q) := fun pins s σ H x xs v us Q I rx rs h => by
  match xs, rs, h with
  | [], rs, h => exact mt_pop pins s σ H x [] v us Q I rx rs (pop0_case h)
  | [y], rs, h => exact mt_popAt pins s σ H x [y] v us Q I rx rs (pop1_case h)
  | _ :: _ :: _, rs, h =>
    obtain ⟨B, a, xs, cs, ds, W, ht, rfl, ha, hb, rc, rd, hm, hq⟩ := h
    unfold mwPop at hm
    split at hm
    · cases rd
    · obtain ⟨_, _, e, _, e2⟩ := rd
      cases e
      cases e2
    · exact hm.elim
/-- changes of a list in a slot -/
theorem v_append (i : Nat) (h2 : SE k (Ctx k tc) e ie) (hn : ie.isStar = false := by rfl) (hN : tc.N[i]? = some x := by rfl) (hv : visB tc.sc x = true := by rfl) (hd : (x == ("__debug__" : Str)) = false := by rfl) (hc : (x == ("__classdict__" : Str)) = false := by rfl)
    (hs : ∀ X : Cx, starEach [e] X.env = (false, eval e X.env) :: starEach [] X.env := by intro _; rfl) (hline : (apos.endLine == pos.line) = true := by rfl)
    (hfew : ∀ X : Cx, ((backTo pos (starEach [e] X.env)).all (fun x => !x.1) && (backToKw pos (keywordEach [] X.env)).all (fun x => x.1.isSome) && decide (([e] : List Expr).length + ([] : List Keyword).length + (if ([] : List Keyword).isEmpty then 0 else 1) < 30)) = true := by intro _; rfl) :
    SE k (Ctx k tc) (.Call (.Attribute (.Name x p) "append" apos) [e] [] pos) (.mut mwAppend i [ie]) := by
  refine se_mut (a_cons h2 sa_nil hn hs) fun X c t p2 => ?_
  have hm : MtR X "list.append" (fun x xs H Q => rMut k mwAppend x xs H Q) := fun pins s σ H x xs v us Q I rx rs h => mt_append pins s σ H x xs v us Q I rx rs (append_case h)
  have := pe_bm (X := X) F.plainAttrs_list F.slot_list_append F.type_list_append hm (pe_v (pos := p) i c hN hv hd hc) p2 rfl (hfew X) hline (hs X) rfl
  rw [c.K] at this
  exact this
theorem v_extend (i : Nat) (h2 : SE k (Ctx k tc) e ie) (hn : ie.isStar = false := by rfl) (hN : tc.N[i]? = some x := by rfl) (hv : visB tc.sc x = true := by rfl) (hd : (x == ("__debug__" : Str)) = false := by rfl) (hc : (x == ("__classdict__" : Str)) = false := by rfl)
    (hs : ∀ X : Cx, starEach [e] X.env = (false, eval e X.env) :: starEach [] X.env := by intro _; rfl) (hline : (apos.endLine == pos.line) = true := by rfl)
    (hfew : ∀ X : Cx, ((backTo pos (starEach [e] X.env)).all (fun x => !x.1) && (backToKw pos (keywordEach [] X.env)).all (fun x => x.1.isSome) && decide (([e] : List Expr).length + ([] : List Keyword).length + (if ([] : List Keyword).isEmpty then 0 else 1) < 30)) = true := by intro _; rfl) :
    SE k (Ctx k tc) (.Call (.Attribute (.Name x p) "extend" apos) [e] [] pos) (.mut mwExtend i [ie]) := by
  refine se_mut (a_cons h2 sa_nil hn hs) fun X c t p2 => ?_
  have hm : MtR X "list.extend" (fun x xs H Q => rMut k mwExtend x xs H Q) := fun pins s σ H x xs v us Q I rx rs h => mt_extend pins s σ H x xs v us Q I rx rs (extend_case h)
  have := pe_bm (X := X) F.plainAttrs_list F.slot_list_extend F.type_list_extend hm (pe_v (pos := p) i c hN hv hd hc) p2 rfl (hfew X) hline (hs X) rfl
  rw [c.K] at this
  exact this
theorem v_pop1 (i : Nat) (h2 : SE k (Ctx k tc) e ie) (hn : ie.isStar = false := by rfl) (hN : tc.N[i]? = some x := by rfl) (hv : visB tc.sc x = true := by rfl) (hd : (x == ("__debug__" : Str)) = false := by rfl) (hc : (x == ("__classdict__" : Str)) = false := by rfl)
    (hs : ∀ X : Cx, starEach [e] X.env = (false, eval e X.env) :: starEach [] X.env := by intro _; rfl) (hline : (apos.endLine == pos.line) = true := by rfl)
    (hfew : ∀ X : Cx, ((backTo pos (starEach [e] X.env)).all (fun x => !x.1) && (backToKw pos (keywordEach [] X.env)).all (fun x => x.1.isSome) && decide (([e] : List Expr).length + ([] : List Keyword).length + (if ([] : List Keyword).isEmpty then 0 else 1) < 30)) = true := by intro _; rfl) :
    SE k (Ctx k tc) (.Call (.Attribute (.Name x p) "pop" apos) [e] [] pos) (.mut mwPop i [ie]) := by
  refine se_mut (a_cons h2 sa_nil hn hs) fun X c t p2 => ?_
  have := pe_bm (X := X) F.plainAttrs_list F.slot_list_pop F.type_list_pop (mtr_pop (k := k)) (pe_v (pos := p) i c hN hv hd hc) p2 rfl (hfew X) hline (hs X) rfl
  rw [c.K] at this
  exact this
theorem v_pop0 (i : Nat) (hN : tc.N[i]? = some x := by rfl) (hv : visB tc.sc x = true := by rfl) (hd : (x == ("__debug__" : Str)) = false := by rfl) (hc : (x == ("__classdict__" : Str)) = false := by rfl) (hline : (apos.endLine == pos.line) = true := by rfl) :
    SE k (Ctx k tc) (.Call (.Attribute (.Name x p) "pop" apos) [] [] pos) (.mut mwPop i []) := by
  refine ⟨tBM k.K "list" (fun x xs H Q => rMut k mwPop x xs H Q) (tVar i) tNil, fun X c => ?_, ?_⟩
  · have := pe_bm0 (X := X) (apos := apos) (cpos := pos) F.plainAttrs_list F.slot_list_pop F.type_list_pop (mtr_pop (k := k)) (pe_v (pos := p) i c hN hv hd hc) rfl hline
    rw [c.K] at this
    exact this
  · intro M L H0 env σ H Q W F w qq
    obtain ⟨hc, w⟩ := w
    cases hcs : mutCon env i with
    | none =>
      rw [hcs] at hc
      cases hc
    | some cs0 =>
      obtain ⟨ds, e2, hf, cs, hcs2, w1⟩ := w
      cases hf
      obtain ⟨a, xs, hv, ha, rc, hb⟩ := mut_at F hcs2
      refine ⟨_, hv, .inl ⟨rfl, xs, SqL.of ha⟩, Bd M env σ, a, xs, cs, [], _, fun b h => F.bd_tracked h, rfl, ha, hb, rc, rfl, w1, fun cs' d v xs' wr rv rc' => qq _ _ _ _ wr ?_⟩
      have F3 : Fr k M L H0 (putCon env i cs') σ (upd H a (.lst xs')) := F.putCon hcs2 hv (fun b o nb h => by rw [upd_ne nb]; exact h) upd_same rc'
      exact EPost.val F3 (Rep.less bd_putCon rv)
/-- calls of the text's own defs -/
theorem v_fn (j : Nat) (f : FSpec) (ha : SA k (Ctx k tc) (e :: es) ies) (hj : tc.fns[j]? = some (x, f) := by rfl) (hl : tc.sc.names.lookup x = some .globalImplicit := by rfl) (hd : (x == ("__debug__" : Str)) = false := by rfl)
    (he : ∀ X : Cx, starEach (e :: es) X.env = (false, eval e X.env) :: starEach es X.env := by intro _; rfl) (hpl : ∀ X : Cx, (backTo pos (starEach es X.env)).any (·.1) = false := by intro _; rfl) : SE k (Ctx k tc) (.Call (.Name x p) (e :: es) [] pos) (.call f ies) := by
  refine se_call ha fun X c t pa => ?_
  obtain ⟨fa, fd, ps, F, hm, hk, hb⟩ := c.fok j x f hj
  exact ⟨E0, pe_callG F c.room c.gd (c.gl hl) hm hk hb pa hd (he X) (hpl X)⟩
theorem v_get2 (h1 : SE k (Ctx k tc) o io) (h2 : SE k (Ctx k tc) a ia) (h3 : SE k (Ctx k tc) b ib) (hb : ∀ X : Cx, attributeBase o "get" X.env (eval o X.env) = eval o X.env := by intro _; rfl) (hline : (apos.endLine == pos.line) = true := by rfl)
    (hs : ∀ X : Cx, backTo pos (starEach [a, b] X.env) = [(false, eval a X.env), (false, eval b X.env)] := by intro _; rfl)
    (hfew : ∀ X : Cx, ((backTo pos (starEach [a, b] X.env)).all (fun x => !x.1) && (backToKw pos (keywordEach [] X.env)).all (fun x => x.1.isSome) && decide (([a, b] : List Expr).length + ([] : List Keyword).length + (if ([] : List Keyword).isEmpty then 0 else 1) < 30)) = true := by intro _; rfl) :
    SE k (Ctx k tc) (.Call (.Attribute o "get" apos) [a, b] [] pos) (.get2 io ia ib) :=
  se_get2 h1 h2 h3 trivial fun X c to ta tb p1 p2 p3 => pe_dget2 c.hu1 p1 p2 p3 ⟨hb X, hfew X, hline, hs X⟩
/-- comprehensions -/
theorem l_lc {elt tg iter : Expr} {ifs : List Expr} {scope : Scope} {t : Tg} {it : II} {cs : List IT} (own : List (Str × Nat)) (hi : SI k (Ctx k tc) tg iter false it) (hg : SG k (Ctx k (tc.inn scope)) tg t) (ht : STs k (Ctx k (tc.inn scope)) ifs cs) (he : SE k (Ctx k (tc.inn scope)) elt ie)
    (hb : blkC tc.N tc.sc scope own = true := by rfl) (hs : ∀ X : Cx, ∀ x, foldedSetIterable iter X.env x = pure x := by intro _ _; rfl) (sl : ∀ j ∈ t.slots, j ∈ own.map (·.2) := by decide) :
    SLc k (Ctx k tc) (.ListComp elt [⟨tg, iter, ifs, 0⟩] scope pos) (.lc (own.map (·.2)) t it cs ie) :=
  slc_lc (C' := Ctx k (tc.inn scope)) (fun X c => ⟨c.calm, c.nd, by rw [c.N, c.sc]; exact blkOk_by hb⟩) (fun X c s H A cl fp => c.blk scope s H A cl fp) hi hg ht he (fun X _ => hs X) sl
theorem l_lcK {elt tg : Expr} {ifs : List Expr} {scope : Scope} {t : Tg} {cs : List IT} (i : Nat) (own : List (Str × Nat)) (hg : SG k (Ctx k (tc.inn scope)) tg t) (ht : STs k (Ctx k (tc.inn scope)) ifs cs) (he : SE k (Ctx k (tc.inn scope)) elt ie)
    (hN : tc.N[i]? = some x := by rfl) (hv : visB tc.sc x = true := by rfl) (hd : (x == ("__debug__" : Str)) = false := by rfl) (hc : (x == ("__classdict__" : Str)) = false := by rfl)
    (hb : blkC tc.N tc.sc scope own = true := by rfl) (sl : ∀ j ∈ t.slots, j ∈ own.map (·.2) := by decide) :
    SLc k (Ctx k tc) (.ListComp elt [⟨tg, .Name x p, ifs, 0⟩] scope pos) (.lcK (own.map (·.2)) t i cs ie) :=
  slc_lcK (C' := Ctx k (tc.inn scope)) (fun X c => ⟨c.calm, c.nd, by rw [c.N, c.sc]; exact blkOk_by hb⟩) (fun X c s H A cl fp => c.blk scope s H A cl fp) (fun X c => pe_v i c hN hv hd hc) hg ht he sl
/-- dict displays -/
theorem v_dsp {keys : List (Option Expr)} {values : List Expr} (h : SPs k (Ctx k tc) keys values ies) (hall : keys.all (·.isSome) = true := by rfl) (hl : keys.length = values.length := by rfl) (h0 : keys ≠ [] := by exact List.cons_ne_nil _ _) (h15 : keys.length ≤ 15 := by decide) : SE k (Ctx k tc) (.Dict keys values pos) (.dsp ies) := se_dsp h hall hl h0 h15
/-- what is walked -/
theorem i_seq {tg : Expr} {fz : Bool} (h : SE k (Ctx k tc) e ie) : SI k (Ctx k tc) tg e fz (.seq ie) := si_seq (fun X c => c.K) h
theorem i_enm {fz : Bool} {elts : List Expr} {kk : Nat} {tpos : Pos} (j : Nat) (h : SE k (Ctx k tc) e ie) (hn : ie.isStar = false := by rfl) (hj : tc.nog[j]? = some "enumerate" := by rfl) (hl : tc.sc.names.lookup ("enumerate" : Str) = some .globalImplicit := by rfl)
    (hs : ∀ X : Cx, starEach [e] X.env = [(false, eval e X.env)] := by intro _; rfl) : SI k (Ctx k tc) (.Tuple elts kk tpos) (.Call (.Name "enumerate" p) [e] [] pos) fz (.enm ie) :=
  si_enm (fun X c => c.K) (fun X c => ⟨c.gl hl, c.nok j _ hj⟩) h hn fun X _ => hs X
theorem i_rng1 {tg : Expr} {fz : Bool} (j : Nat) (h : SE k (Ctx k tc) e ie) (hj : tc.nog[j]? = some "range" := by rfl) (hl : tc.sc.names.lookup ("range" : Str) = some .globalImplicit := by rfl)
    (hs : ∀ X : Cx, starEach [e] X.env = [(false, eval e X.env)] := by intro _; rfl) : SI k (Ctx k tc) tg (.Call (.Name "range" p) [e] [] pos) fz (.rng1 ie) :=
  si_rng1 (fun X c => ⟨c.gl hl, c.nok j _ hj⟩) h fun X _ => hs X
theorem i_rng2 {tg : Expr} {fz : Bool} (j : Nat) (h1 : SE k (Ctx k tc) a ia) (h2 : SE k (Ctx k tc) b ib) (n1 : ia.isStar = false := by rfl) (n2 : ib.isStar = false := by rfl) (hj : tc.nog[j]? = some "range" := by rfl) (hl : tc.sc.names.lookup ("range" : Str) = some .globalImplicit := by rfl)
    (hs : ∀ X : Cx, starEach [a, b] X.env = [(false, eval a X.env), (false, eval b X.env)] := by intro _; rfl) (hs2 : ∀ X : Cx, starEach [b] X.env = [(false, eval b X.env)] := by intro _; rfl) : SI k (Ctx k tc) tg (.Call (.Name "range" p) [a, b] [] pos) fz (.rng2 ia ib) :=
  si_rng2 (fun X c => ⟨c.gl hl, c.nok j _ hj⟩) h1 h2 n1 n2 (fun X _ => hs X) fun X _ => hs2 X
theorem i_zip {fz : Bool} {elts : List Expr} {kk : Nat} {tpos : Pos} (j : Nat) (h1 : SE k (Ctx k tc) a ia) (h2 : SE k (Ctx k tc) b ib) (n1 : ia.isStar = false := by rfl) (n2 : ib.isStar = false := by rfl) (hj : tc.nog[j]? = some "zip" := by rfl) (hl : tc.sc.names.lookup ("zip" : Str) = some .globalImplicit := by rfl)
    (hs : ∀ X : Cx, starEach [a, b] X.env = (false, eval a X.env) :: starEach [b] X.env := by intro _; rfl) (hs2 : ∀ X : Cx, starEach [b] X.env = [(false, eval b X.env)] := by intro _; rfl) : SI k (Ctx k tc) (.Tuple elts kk tpos) (.Call (.Name "zip" p) [a, b] [] pos) fz (.zip ia ib) :=
  si_zip (fun X c => c.K) (fun X c => ⟨c.gl hl, c.nok j _ hj⟩) h1 h2 n1 n2 (fun X _ => hs X) fun X _ => hs2 X
/-- targets -/
def locB (tc : TC) (x : Str) : Bool := match tc.sc.names.lookup x with
  | some .local => true
  | some .cell => tc.fn x
  | _ => false
theorem g_nm (i : Nat) (hN : tc.N[i]? = some x := by rfl) (hl : locB tc x = true := by rfl) : SG k (Ctx k tc) (.Name x pos) (.nm i) := by
  refine sg_nm fun X c => ?_
  unfold locB at hl
  split at hl
  · rename_i h
    exact pg_name c.nd (by rw [c.N]; exact hN) (by rw [c.sc]; exact .inl h) (.inr (by rw [c.sc]; exact h))
  · rename_i h
    exact pg_name c.nd (by rw [c.N]; exact hN) (by rw [c.sc]; exact .inr h) (.inl (by rw [c.fn]; exact hl))
  · cases hl
theorem gs_cons {tg : Expr} {tgs : List Expr} {t : Tg} {ts : List Tg} (h1 : SG k (Ctx k tc) tg t) (h2 : SGs k (Ctx k tc) tgs ts) (hs : ∀ X : Cx, (assignEach (tg :: tgs) X.env).map (·.2) = assign tg X.env :: (assignEach tgs X.env).map (·.2) := by intro _; rfl) : SGs k (Ctx k tc) (tg :: tgs) (t :: ts) := sgs_cons h1 h2 fun X _ => hs X
theorem g_tp {tgs : List Expr} {ts : List Tg} {kk : Nat} (n : Nat) (h : SGs k (Ctx k tc) tgs ts) (hn : ∀ X : Cx, (assignEach tgs X.env).length = n := by intro _; rfl) (hst : ∀ X : Cx, (assignEach tgs X.env).findIdx? (·.1) = none := by intro _; rfl) (hl : ts.length = n := by rfl) : SG k (Ctx k tc) (.Tuple tgs kk pos) (.tp ts) :=
  sg_tp (fun X c => c.K) (fun X c => c.calm) h (fun X _ => hn X) (fun X _ => hst X) hl
end
end VL
namespace VL
open PySem PySem.Spec L2

/-! ## statements' forms -/
section
variable {k : KX} {tc : TC} {e a b c o tg : Expr} {ie ia ib ic io : IE} {pos p apos p2 py pt : Pos} {x y : Str} {t : Tg}
def locL (tc : TC) (x : Str) : Bool := match tc.sc.names.lookup x with
  | some .local => true
  | _ => false
theorem locL_of (h : locL tc x = true) : tc.sc.names.lookup x = some .local := by
  unfold locL at h
  split at h
  · assumption
  · cases h
theorem locB_of (h : locB tc x = true) {X : Cx} (c : Ctx k tc X) : Loc X.env.scope x ∧ (X.fn x = true ∨ X.env.scope.names.lookup x = some .local) := by
  unfold locB at h
  split at h
  · rename_i q
    exact ⟨by rw [c.sc]; exact .inl q, .inr (by rw [c.sc]; exact q)⟩
  · rename_i q
    exact ⟨by rw [c.sc]; exact .inr q, .inl (by rw [c.fn]; exact h)⟩
  · cases h
theorem s_set (i : Nat) (h : SE k (Ctx k tc) e ie) (hN : tc.N[i]? = some x := by rfl) (hl : locB tc x = true := by rfl) (hs : ∀ X : Cx, swapsWith e (some (.Name x py)) pos.line X.env = pure false := by intro _; rfl) : SS k (Ctx k tc) (.Assign [.Name x py] e pos) (.set i ie) :=
  ss_set h fun X c te p => ps_set c.nd (by rw [c.N]; exact hN) (locB_of hl c).1 p (hs X) (locB_of hl c).2
theorem s_setLc (i : Nat) {scope : Scope} {cl : List Comprehension} {elt : Expr} {lp : Pos} (h : SLc k (Ctx k tc) (.ListComp elt cl scope lp) ie) (hN : tc.N[i]? = some x := by rfl) (hl : locL tc x = true := by rfl)
    (hk : tc.sc.kind = .function := by rfl) (hp : (py.line == lp.line) = true := by rfl) (hn : (scope.names.any fun (n, k) => n == x && (k == .local || k == .cell)) = false := by rfl) : SS k (Ctx k tc) (.Assign [.Name x py] (.ListComp elt cl scope lp) pos) (.set i ie) :=
  ss_setLc h fun X c => ⟨by rw [c.N]; exact hN, by rw [c.sc]; exact locL_of hl, by
    have h1 : X.env.blockKind = .function := by
      unfold Env.blockKind
      rw [c.sc, hk]
      rfl
    have h2 : X.env.kindOf x = some .local := by
      show X.env.scope.names.lookup x = _
      rw [c.sc]
      exact locL_of hl
    have h3 : (Expr.ListComp elt cl scope lp).pos = lp := rfl
    show (pure (X.env.blockKind == .function && X.env.kindOf x == some .local && py.line == (Expr.ListComp elt cl scope lp).pos.line && !(scope.names.any fun (n, k) => n == x && (k == .local || k == .cell))) : Sem Bool) = pure true
    rw [h1, h2, h3, hp, hn]
    rfl⟩
def envOfS (sc : Scope) : Env := { scope := sc, locals := 0, globals := 0, cells := [] }
theorem sw_eq {env : Env} {sc : Scope} {ts : List Expr} {v : Expr} (h : env.scope = sc) : swappedStores ts v env = swappedStores ts v (envOfS sc) := by
  unfold swappedStores
  simp only [Env.blockKind, Env.kindOf, h, envOfS]
  try rfl
theorem s_par {kt : Nat} {k2 : Nat} {px : Pos} (i j : Nat) (h1 : SE k (Ctx k tc) a ia) (h2 : SE k (Ctx k tc) b ib) (hN : tc.N[i]? = some x := by rfl) (hM : tc.N[j]? = some y := by rfl) (hij : i ≠ j := by decide) (hl : locL tc x = true := by rfl) (hl2 : locL tc y = true := by rfl) (n1 : ia.isStar = false := by rfl) (n2 : ib.isStar = false := by rfl)
    (hw : swappedStores [.Tuple [.Name x px, .Name y py] kt pt] (.Tuple [a, b] k2 p2) (envOfS tc.sc) = pure (some [x, y]) := by rfl)
    (hs : ∀ X : Cx, starEach [a, b] X.env = (false, eval a X.env) :: starEach [b] X.env := by intro _; rfl) (hs2 : ∀ X : Cx, starEach [b] X.env = (false, eval b X.env) :: starEach [] X.env := by intro _; rfl) :
    SS k (Ctx k tc) (.Assign [.Tuple [.Name x px, .Name y py] kt pt] (.Tuple [a, b] k2 p2) pos) (.par [i, j] [ia, ib]) :=
  ss_par h1 h2 n1 n2 fun X c ta tb pa pb => ps_par c.calm c.nd (by rw [c.N]; exact hN) (by rw [c.N]; exact hM) hij (by rw [c.sc]; exact locL_of hl) (by rw [c.sc]; exact locL_of hl2) (pa_cons pa (pa_cons pb pa_nil (hs2 X)) (hs X)) (by rw [sw_eq c.sc]; exact hw)
theorem s_parC {kt : Nat} {k2 : Nat} {px : Pos} (i j : Nat) (h1 : SE k (Ctx k tc) a ia) (h2 : SE k (Ctx k tc) b ib) (hN : tc.N[i]? = some x := by rfl) (hM : tc.N[j]? = some y := by rfl) (hl : locB tc x = true := by rfl) (hl2 : locB tc y = true := by rfl) (n1 : ia.isStar = false := by rfl) (n2 : ib.isStar = false := by rfl)
    (hw : swappedStores [.Tuple [.Name x px, .Name y py] kt pt] (.Tuple [a, b] k2 p2) (envOfS tc.sc) = pure none := by rfl)
    (hs : ∀ X : Cx, starEach [a, b] X.env = (false, eval a X.env) :: starEach [b] X.env := by intro _; rfl) (hs2 : ∀ X : Cx, starEach [b] X.env = (false, eval b X.env) :: starEach [] X.env := by intro _; rfl) :
    SS k (Ctx k tc) (.Assign [.Tuple [.Name x px, .Name y py] kt pt] (.Tuple [a, b] k2 p2) pos) (.par [i, j] [ia, ib]) :=
  ss_parC h1 h2 n1 n2 fun X c ta tb pa pb => by
    have g1 : PG X (.Name x px) (gName i) := pg_name c.nd (by rw [c.N]; exact hN) (locB_of hl c).1 (locB_of hl c).2
    have g2 : PG X (.Name y py) (gName j) := pg_name c.nd (by rw [c.N]; exact hM) (locB_of hl2 c).1 (locB_of hl2 c).2
    have g3 : PG X (.Tuple [.Name x px, .Name y py] kt pt) (gTup X.K 2 (gCons (gName i) (gCons (gName j) gNil))) := pg_tup c.calm (pgs_cons g1 (pgs_cons g2 pgs_nil rfl) rfl) rfl rfl
    rw [c.K] at g3
    exact ps_asg (pe_tup (pa_cons pa (pa_cons pb pa_nil (hs2 X)) (hs X))) g3 rfl (by rw [sw_eq c.sc]; exact hw) rfl
theorem s_asg (h : SE k (Ctx k tc) e ie) (hg : SG k (Ctx k tc) tg t) (hs : ∀ X : Cx, swapsWithSole [tg] e pos.line X.env = pure false := by intro _; rfl) (hw : ∀ X : Cx, swappedStores [tg] e X.env = pure none := by intro _; rfl)
    (h1 : ∀ X : Cx, (assignEach [tg] X.env).map (·.2) = [assign tg X.env] := by intro _; rfl) : SS k (Ctx k tc) (.Assign [tg] e pos) (.asg t ie) :=
  ss_asg h hg fun X c te g p q => ps_asg p q (hs X) (hw X) (h1 X)
theorem s_setL (i : Nat) (h1 : SE k (Ctx k tc) e ie) (h2 : SE k (Ctx k tc) b ib) (n1 : ie.isStar = false := by rfl) (n2 : ib.isStar = false := by rfl) (hN : tc.N[i]? = some x := by rfl) (hv : visB tc.sc x = true := by rfl) (hd : (x == ("__debug__" : Str)) = false := by rfl) (hc : (x == ("__classdict__" : Str)) = false := by rfl)
    (ha : ∀ X : Cx, ∀ v, assign (.Subscript (.Name x py) b p2) X.env v = (do
      let ov ← holding [v] (eval (.Name x py) X.env)
      let iv ← holding [v, ov] (eval b X.env)
      standAt p2
      holding [v, ov, iv] (setItem ov iv v)
      release [v, ov, iv] []) := by intro _ _; rfl)
    (hs : ∀ X : Cx, swapsWithSole [.Subscript (.Name x py) b p2] e pos.line X.env = pure false := by intro _; rfl) (hw : ∀ X : Cx, swappedStores [.Subscript (.Name x py) b p2] e X.env = pure none := by intro _; rfl)
    (h4 : ∀ X : Cx, (assignEach [.Subscript (.Name x py) b p2] X.env).map (·.2) = [assign (.Subscript (.Name x py) b p2) X.env] := by intro _; rfl) : SS k (Ctx k tc) (.Assign [.Subscript (.Name x py) b p2] e pos) (.setL i ie ib) :=
  ss_setL (o := e) h1 h2 n1 n2 fun X c te ti p q => ps_asg p (pg_sub (pe_v i c hN hv hd hc) q set_list (ha X)) (hs X) (hw X) (h4 X)
theorem s_setD (i : Nat) (h1 : SE k (Ctx k tc) e ie) (h2 : SE k (Ctx k tc) b ib) (hN : tc.N[i]? = some x := by rfl) (hv : visB tc.sc x = true := by rfl) (hd : (x == ("__debug__" : Str)) = false := by rfl) (hc : (x == ("__classdict__" : Str)) = false := by rfl)
    (hs : ∀ X : Cx, swapsWith e (some (.Subscript (.Name x py) b p2)) pos.line X.env = pure false := by intro _; rfl) : SS k (Ctx k tc) (.Assign [.Subscript (.Name x py) b p2] e pos) (.setD i ie ib) :=
  ss_setD h1 h2 fun X c te ti p q => ps_dput c.hu1 (pe_v i c hN hv hd hc) q p (hs X)
theorem s_drop (h : SE k (Ctx k tc) e ie) (hs : ∀ X : Cx, swapsWith e none pos.line X.env = pure false := by intro _; rfl) : SS k (Ctx k tc) (.Expr e pos) (.drop ie) := ss_drop h fun X c te p => ps_expr p (hs X)
theorem s_for {iter : Expr} {it : II} {sb : List Stmt} {jb : List IS} (hi : SI k (Ctx k tc) tg iter true it) (hg : SG k (Ctx k tc) tg t) (h1 : SSs k (Ctx k tc) sb jb) (hs : ∀ X : Cx, ∀ x, foldedSetIterable iter X.env x = pure x := by intro _ _; rfl) : SS k (Ctx k tc) (.For tg iter sb [] pos) (.for_ t it jb) :=
  ss_for (fun X c => ⟨c.own, c.calm⟩) hi hg h1 fun X _ => hs X
theorem s_while {c : Expr} {ct : IT} {sb : List Stmt} {jb : List IS} (hc : ST k (Ctx k tc) c ct) (h1 : SSs k (Ctx k tc) sb jb) : SS k (Ctx k tc) (.While c sb [] pos) (.while_ ct jb) := ss_while (fun X c => c.own) hc h1
end

/-! ## a def's promise, by its body's form -/
def retR (env : Ev) : ER → Option ER
  | .val d => some (.val d)
  | .own ds => some (.own ds)
  | .ownd ks ds => some (.ownd ks ds)
  | .ref i => match env[i]? with
    | some (.own ds) => some (.own ds)
    | some (.ownd ks ds) => some (.ownd ks ds)
    | some (.val d) => some (.val d)
    | _ => none
/-- the slots at the entry -/
def inS : List Md → List D → Option Ev
  | [], [] => some []
  | .mv :: ms, d :: ds => (inS ms ds).map fun e => .val d :: e
  | .bor :: ms, .lst es :: ds => (inS ms ds).map fun e => .bor es :: e
  | .lnt :: ms, .lst es :: ds => (inS ms ds).map fun e => .lnt es :: e
  | _, _ => none
/-- what the lent lists hold at the end -/
def outS : List Md → Ev → Option (List (List D))
  | [], _ => some []
  | .lnt :: ms, .lnt es :: e => (outS ms e).map fun l => es :: l
  | .lnt :: _, _ => none
  | _ :: ms, _ :: e => outS ms e
  | _ :: _, [] => none
def lnt1 (md : List Md) : Bool := (md.filter (· == .lnt)).length ≤ 1
/-- a new list that is returned as a frozen one -/
def conR : ER → Option D
  | .own ds => some (.lst ds)
  | .ownd ks ds => some (.dic ks ds)
  | _ => none
/-- the body keeps the promise, by values -/
def BodyOk (f : FSpec) (n : Nat) (body : List IS) : Prop := ∀ ds W, f.wp ds W → ∃ env, inS f.md ds = some env ∧
  wSs body (env ++ List.replicate (n - ds.length) .un) { nx := fun e => ∃ ls, outS f.md e = some ls ∧ W (.val .non) ls, rt := fun r e => ∃ r' ls, retR e r = some r' ∧ outS f.md e = some ls ∧ (W r' ls ∨ ∃ d, conR r' = some d ∧ W (.val d) ls) }
theorem argOk_len {k : KX} {Mc n : APred} {l : Option Addr} {H : Hp} : ∀ {md : List Md} {ds : List D} {vs : List V}, ArgOk k Mc l n H md ds vs → md.length = vs.length ∧ ds.length = vs.length
  | [], [], [], _ => ⟨rfl, rfl⟩
  | .mv :: ms, d :: ds, v :: vs, h => by
    obtain ⟨h1, h2⟩ := argOk_len h.2
    exact ⟨by rw [List.length_cons, List.length_cons, h1], by rw [List.length_cons, List.length_cons, h2]⟩
  | .bor :: ms, d :: ds, v :: vs, h => by
    obtain ⟨h1, h2⟩ := argOk_len h.2
    exact ⟨by rw [List.length_cons, List.length_cons, h1], by rw [List.length_cons, List.length_cons, h2]⟩
  | .lnt :: ms, d :: ds, v :: vs, h => by
    obtain ⟨h1, h2⟩ := argOk_len h.2
    exact ⟨by rw [List.length_cons, List.length_cons, h1], by rw [List.length_cons, List.length_cons, h2]⟩
  | [], _ :: _, _, h => h.elim
  | [], [], _ :: _, h => h.elim
  | .mv :: _, [], _, h => by cases h
  | .bor :: _, [], _, h => by cases h
  | .lnt :: _, [], _, h => by cases h
  | .mv :: _, _ :: _, [], h => h.elim
  | .bor :: _, _ :: _, [], h => h.elim
  | .lnt :: _, _ :: _, [], h => h.elim
theorem inS_ok {k : KX} {Mc n : APred} {l : Option Addr} {H : Hp} {B : APred} (hB : ∀ a, B a → Mc a) : ∀ {md : List Md} {ds : List D} {vs : List V} {env : Ev}, ArgOk k Mc l n H md ds vs → inS md ds = some env →
    env.length = ds.length ∧ (∀ (i : Nat) (s : Slot), env[i]? = some s → SlotOk k B ⟨fun a => l = some a, n⟩ H s (vs.map some)[i]? ∧ ¬ s.isOwn ∧ (s.isLnt → md[i]? = some Md.lnt))
  | [], [], [], env, h, e => by
    cases e
    exact ⟨rfl, fun i s q => by simp at q⟩
  | .mv :: ms, d :: ds, v :: vs, env, h, e => by
    unfold inS at e
    obtain ⟨e2, h2, rfl⟩ := Option.map_eq_some_iff.mp e
    obtain ⟨hl, ih⟩ := inS_ok hB h.2 h2
    refine ⟨by rw [List.length_cons, List.length_cons, hl], fun i s q => ?_⟩
    cases i with
    | zero =>
      cases q
      exact ⟨⟨v, rfl, Rep.less hB h.1⟩, fun h => h, fun h => h.elim⟩
    | succ i => exact ih i s (by simpa using q)
  | .bor :: ms, d :: ds, v :: vs, env, h, e => by
    obtain ⟨⟨a, xs, es, rfl, rfl, na, ha, ra⟩, h2⟩ := h
    unfold inS at e
    obtain ⟨e2, h3, rfl⟩ := Option.map_eq_some_iff.mp e
    obtain ⟨hl, ih⟩ := inS_ok hB h2 h3
    refine ⟨by rw [List.length_cons, List.length_cons, hl], fun i s q => ?_⟩
    cases i with
    | zero =>
      cases q
      exact ⟨⟨a, xs, rfl, na, ha, RepL.less hB ra⟩, fun h => h, fun h => h.elim⟩
    | succ i => exact ih i s (by simpa using q)
  | .lnt :: ms, d :: ds, v :: vs, env, h, e => by
    obtain ⟨⟨a, xs, es, rfl, rfl, na, ha, ra⟩, h2⟩ := h
    unfold inS at e
    obtain ⟨e2, h3, rfl⟩ := Option.map_eq_some_iff.mp e
    obtain ⟨hl, ih⟩ := inS_ok hB h2 h3
    refine ⟨by rw [List.length_cons, List.length_cons, hl], fun i s q => ?_⟩
    cases i with
    | zero =>
      cases q
      exact ⟨⟨a, xs, rfl, na, ha, RepL.less hB ra⟩, fun h => h, fun _ => rfl⟩
    | succ i => exact ih i s (by simpa using q)
  | [], _ :: _, _, _, h, _ => h.elim
  | [], [], _ :: _, _, h, _ => h.elim
  | .mv :: _, [], _, _, h, _ => by cases h
  | .bor :: _, [], _, _, h, _ => by cases h
  | .lnt :: _, [], _, _, h, _ => by cases h
  | .mv :: _, _ :: _, [], _, h, _ => h.elim
  | .bor :: _, _ :: _, [], _, h, _ => h.elim
  | .lnt :: _, _ :: _, [], _, h, _ => h.elim
theorem lnt_one : ∀ {md : List Md} {i j : Nat}, lnt1 md = true → md[i]? = some .lnt → md[j]? = some .lnt → i = j := by
  have zero : ∀ {md : List Md} {i : Nat}, (md.filter (· == .lnt)).length = 0 → md[i]? = some .lnt → False := fun {md i} h e => by
    have hm : Md.lnt ∈ md := List.mem_of_getElem? e
    have : Md.lnt ∈ md.filter (· == .lnt) := List.mem_filter.mpr ⟨hm, by decide⟩
    rw [List.length_eq_zero_iff.mp h] at this
    cases this
  intro md
  induction md with
  | nil => intro i j _ h; simp at h
  | cons m md ih =>
    intro i j h h1 h2
    unfold lnt1 at h
    have h := of_decide_eq_true h
    by_cases hm : m = .lnt
    · subst hm
      rw [List.filter_cons_of_pos (by decide), List.length_cons] at h
      have h0 : (md.filter (· == .lnt)).length = 0 := by omega
      cases i with
      | zero =>
        cases j with
        | zero => rfl
        | succ j => exact (zero h0 (by simpa using h2)).elim
      | succ i => exact (zero h0 (by simpa using h1)).elim
    · rw [List.filter_cons_of_neg (by simpa using hm)] at h
      cases i with
      | zero =>
        cases h1
        exact absurd rfl hm
      | succ i =>
        cases j with
        | zero =>
          cases h2
          exact absurd rfl hm
        | succ j => exact congrArg Nat.succ (ih (i := i) (j := j) (by unfold lnt1; exact decide_eq_true h) (by simpa using h1) (by simpa using h2))
theorem outS_ok : ∀ {md : List Md} {e : Ev} {ls : List (List D)}, outS md e = some ls → ls.length = (md.filter (· == .lnt)).length ∧ ∀ es ∈ ls, ∃ i : Nat, e[i]? = some (Slot.lnt es)
  | [], _, _, h => by
    cases h
    exact ⟨rfl, fun _ h => nomatch h⟩
  | .lnt :: ms, [], _, h => by cases h
  | .lnt :: ms, s :: e, ls, h => by
    cases s with
    | lnt es =>
      unfold outS at h
      obtain ⟨l2, h2, rfl⟩ := Option.map_eq_some_iff.mp h
      obtain ⟨h3, h4⟩ := outS_ok h2
      refine ⟨by rw [List.length_cons, h3, List.filter_cons_of_pos (by decide), List.length_cons], fun x hx => ?_⟩
      rcases List.mem_cons.mp hx with z | z
      · exact ⟨0, by rw [z]; rfl⟩
      · obtain ⟨i, hi⟩ := h4 x z
        exact ⟨i + 1, by simpa using hi⟩
    | _ => cases h
  | .mv :: ms, s :: e, ls, h => by
    obtain ⟨h3, h4⟩ := outS_ok (md := ms) (e := e) (ls := ls) h
    refine ⟨by rw [List.filter_cons_of_neg (by decide)]; exact h3, fun x hx => ?_⟩
    obtain ⟨i, hi⟩ := h4 x hx
    exact ⟨i + 1, by simpa using hi⟩
  | .bor :: ms, s :: e, ls, h => by
    obtain ⟨h3, h4⟩ := outS_ok (md := ms) (e := e) (ls := ls) h
    refine ⟨by rw [List.filter_cons_of_neg (by decide)]; exact h3, fun x hx => ?_⟩
    obtain ⟨i, hi⟩ := h4 x hx
    exact ⟨i + 1, by simpa using hi⟩
  | .mv :: ms, [], ls, h => by cases h
  | .bor :: ms, [], ls, h => by cases h
theorem argOk_none {k : KX} {Mc n : APred} {H : Hp} : ∀ {md : List Md} {ds : List D} {vs : List V}, ArgOk k Mc none n H md ds vs → (md.filter (· == .lnt)).length = 0
  | [], [], [], _ => rfl
  | .mv :: ms, d :: ds, v :: vs, h => argOk_none (md := ms) h.2
  | .bor :: ms, d :: ds, v :: vs, h => argOk_none (md := ms) h.2
  | .lnt :: ms, d :: ds, v :: vs, h => by
    obtain ⟨⟨_, _, _, _, _, e, _⟩, _⟩ := h
    cases e
  | [], _ :: _, _, h => h.elim
  | [], [], _ :: _, h => h.elim
  | .mv :: _, [], _, h => by cases h
  | .bor :: _, [], _, h => by cases h
  | .lnt :: _, [], _, h => by cases h
  | .mv :: _, _ :: _, [], h => h.elim
  | .bor :: _, _ :: _, [], h => h.elim
  | .lnt :: _, _ :: _, [], h => h.elim
/-- the promise is kept at the end -/
theorem cpost_of {k : KX} {Mc n : APred} {l : Option Addr} {H H' : Hp} {md : List Md} {env : Ev} {σ : St} {r r' : ER} {v : V} {ls : List (List D)} (P : EPost k Mc ⟨fun a => l = some a, n⟩ H env σ r v H') (hl : l = none → (md.filter (· == .lnt)).length = 0) (hl2 : l = none ∨ .lnt ∈ md) (h1 : lnt1 md = true)
    (hr : retR env r = some r') (ho : outS md env = some ls) : CPost k Mc l H r' ls v H' := by
  obtain ⟨T, P, o⟩ := P
  obtain ⟨hlen, hls⟩ := outS_ok ho
  have sub : ∀ a, Or2 Mc (fun a => T a ∨ OwnA env σ a) a → Bd (Or2 Mc T) env σ a := fun a h => h.elim (fun z => .inl (.inl z)) fun z => z.elim (fun z => .inl (.inr z)) .inr
  refine ⟨fun a => T a ∨ OwnA env σ a, fun a h => h.elim (fun z => (P.tf a z).1) fun z => (P.fr.fresh a z).1, fun a h => h.elim (fun z => P.fr.mt a (.inr z)) fun z => P.fr.own_tracked z, fun a o h nl => P.fr.keep a o h nl, ?_, ?_⟩
  · cases l with
    | none =>
      have : ls = [] := List.length_eq_zero_iff.mp (by rw [hlen, hl rfl])
      subst this
      trivial
    | some a =>
      have hm : Md.lnt ∈ md := hl2.elim (fun z => nomatch z) id
      have h2 : (md.filter (· == .lnt)).length = 1 := by
        have p : Md.lnt ∈ md.filter (· == .lnt) := List.mem_filter.mpr ⟨hm, by decide⟩
        have := List.length_pos_of_mem p
        have := of_decide_eq_true h1
        omega
      rw [h2] at hlen
      obtain ⟨es, rfl⟩ := List.length_eq_one_iff.mp hlen
      obtain ⟨i, hi⟩ := hls es (List.mem_singleton.mpr rfl)
      obtain ⟨b, xs, _, lb, hb, rb⟩ := P.fr.slot i _ hi
      have lb : some a = some b := lb
      cases lb
      exact ⟨xs, hb, RepL.less sub rb⟩
  · cases r with
    | val d =>
      cases hr
      exact Rep.less sub o
    | own ds =>
      cases hr
      obtain ⟨p, xs, e1, tp, e2, r⟩ := o
      exact ⟨p, xs, e1, .inl tp, e2, RepL.less sub r⟩
    | ownd ks ds =>
      cases hr
      obtain ⟨p, xs, e1, tp, e2, hl, r⟩ := o
      exact ⟨p, xs, e1, .inl tp, e2, hl, RepL.less sub r⟩
    | ref i =>
      have hv : σ[i]? = some (some v) := o
      unfold retR at hr
      dsimp only at hr
      split at hr
      · rename_i ds hs
        cases hr
        obtain ⟨a, xs, e1, e2, r⟩ := P.fr.slot i _ hs
        rw [hv] at e1
        cases e1
        exact ⟨a, xs, rfl, .inr ⟨i, _, hs, trivial, hv⟩, e2, RepL.less sub r⟩
      · rename_i ks ds hs
        cases hr
        obtain ⟨a, xs, e1, e2, hl, r⟩ := P.fr.slot i _ hs
        rw [hv] at e1
        cases e1
        exact ⟨a, xs, rfl, .inr ⟨i, _, hs, trivial, hv⟩, e2, hl, RepL.less sub r⟩
      · rename_i d hs
        cases hr
        obtain ⟨x, e1, r⟩ := P.fr.slot i _ hs
        rw [hv] at e1
        cases e1
        exact Rep.less sub r
      · cases hr
theorem CPost.con {k : KX} {Mc : APred} {l : Option Addr} {H H' : Hp} {r : ER} {d : D} {v : V} {ls : List (List D)} (tr : ∀ a, Mc a → ∃ o, H a = some o) (h : CPost k Mc l H r ls v H') (e : conR r = some d) : CPost k Mc l H (.val d) ls v H' := by
  obtain ⟨T, t1, t2, kp, hl, o⟩ := h
  have sub : ∀ a, Or2 Mc (fun _ => False) a → Or2 Mc T a := fun a h => h.elim .inl fun z => z.elim
  have nm : ∀ {p : Addr}, T p → ¬ Or2 Mc (fun _ => False) p := fun {p} tp h => h.elim (fun z => by
    obtain ⟨u, q⟩ := tr p z
    rw [t1 p tp] at q
    cases q) fun z => z
  refine ⟨fun _ => False, fun a h => h.elim, fun a h => h.elim, kp, ?_, ?_⟩
  · cases l with
    | none =>
      cases ls with
      | nil => trivial
      | cons _ _ => exact hl.elim
    | some a =>
      cases ls with
      | nil => exact hl.elim
      | cons es ls =>
        cases ls with
        | nil =>
          obtain ⟨xs, h1, h2⟩ := hl
          exact ⟨xs, h1, RepL.less sub h2⟩
        | cons _ _ => exact hl.elim
  · cases r with
    | val d => cases e
    | own ds =>
      cases e
      obtain ⟨p, xs, e1, tp, e2, r⟩ := o
      exact ⟨p, xs, e1, nm tp, e2, RepL.less sub r⟩
    | ownd ks ds =>
      cases e
      obtain ⟨p, xs, e1, tp, e2, hl, r⟩ := o
      exact ⟨p, xs, e1, nm tp, e2, hl, RepL.less sub r⟩
    | ref i => cases e
/-- the facts that hold wherever the text runs -/
structure Env1 (k : KX) (tc : TC) (P : Program) (w : World) (mg : Str → Option Value) (base : Heap) : Prop where
  fok : ∀ (j : Nat) (x : Str) (f : FSpec), tc.fns[j]? = some (x, f) → ∃ fa fd ps, FnG P w k.K mg base tc.lv fa fd ps (spOf k f) ∧ mg x = some (.ref fa) ∧ PySem.W.keepIn k.K (.ref fa) = true ∧ Binds k.K fd ps []
  gok : ∀ (j : Nat) (x : Str) (d : D), tc.gls[j]? = some (x, d) → ∃ v u, mg x = some u ∧ RelV v u ∧ ∀ B H, Rep k B H d v
  nok : ∀ (j : Nat) (x : Str), tc.nog[j]? = some x → mg x = none
theorem def_ok {k : KX} {tc : TC} {P : Program} {w : World} {mg : Str → Option Value} {base : Heap} {x qual : Str} {st : Stmt} {f : Addr} {fd : FuncData} {ps : List Str} {sp : FSpec} {body : List IS} (F : L2.Fun k.K x qual st f fd) (S : FnScope tc.N ps (defScope st))
    (hsc : tc.sc = defScope st) (hfn : tc.fn = fun _ => true) (hmd : sp.md.length = ps.length) (h1 : lnt1 sp.md = true) (hb : SSs k (Ctx k tc) (defBody st) body) (hok : BodyOk sp tc.N.length body) (hE : Env1 k tc P w mg base) :
    FnG P w k.K mg base (tc.lv + 1) f fd ps (spOf k sp) := by
  refine fnG_of F S (fun vs H Q E hsp => ?_) fun cdv A outer s H vs Q E hr hgd hsp => ?_
  · obtain ⟨Mc, l, n, ds, W, ha, _⟩ := hsp
    rw [← (argOk_len ha).1, hmd]
  · obtain ⟨Mc, l, n, ds, W, ha, hl, hl2, tM, tn, hw, qq⟩ := hsp
    obtain ⟨env, hin, hbody⟩ := hok ds W hw
    obtain ⟨ts, pts, rts⟩ := hb
    refine ⟨ts, pts _ ⟨rfl, rfl, S.nd, hsc.symm, rfl, rfl, hfn.symm, hr, hgd, hE.fok, hE.gok, hE.nok⟩, ?_⟩
    obtain ⟨hm, hdv⟩ := argOk_len ha
    have noOwn : ∀ {j : Nat} {a : Addr}, ¬ HasA Slot.isOwn (env ++ List.replicate (tc.N.length - ds.length) .un) (L2.start tc.N vs) j a := fun {j a} ⟨s, e, os, _⟩ => by
      obtain ⟨hel, hs⟩ := inS_ok (B := Mc) (fun _ h => h) ha hin
      by_cases hj : j < env.length
      · rw [List.getElem?_append_left hj] at e
        exact (hs j s e).2.1 os
      · rw [List.getElem?_append_right (Nat.le_of_not_lt hj), List.getElem?_replicate] at e
        split at e
        · cases e
          exact os
        · cases e
    have hB : ∀ a, Bd Mc (env ++ List.replicate (tc.N.length - ds.length) .un) (L2.start tc.N vs) a → Mc a := fun a h => h.elim id fun ⟨j, h⟩ => (noOwn h).elim
    obtain ⟨hel, hs⟩ := inS_ok hB ha hin
    have lntAt : ∀ {j : Nat} {a : Addr}, HasA Slot.isLnt (env ++ List.replicate (tc.N.length - ds.length) .un) (L2.start tc.N vs) j a → sp.md[j]? = some .lnt := fun {j a} ⟨s, e, os, _⟩ => by
      by_cases hj : j < env.length
      · rw [List.getElem?_append_left hj] at e
        exact (hs j s e).2.2 os
      · rw [List.getElem?_append_right (Nat.le_of_not_lt hj), List.getElem?_replicate] at e
        split at e
        · cases e
          exact os.elim
        · cases e
    have Fr0 : Fr k Mc ⟨fun a => l = some a, n⟩ H (env ++ List.replicate (tc.N.length - ds.length) .un) (L2.start tc.N vs) H := by
      refine ⟨?_, fun i s e => ?_, fun i j a h1 _ => (noOwn h1).elim, fun i j a h2 h3 => lnt_one h1 (lntAt h2) (lntAt h3), fun a ⟨j, h⟩ => (noOwn h).elim, fun a h => (hl a h).1, fun a h z => (hl a z).2 h, tM, tn, fun a o h _ => h⟩
      · unfold L2.start
        rw [List.length_append, List.length_append, List.length_replicate, List.length_replicate, List.length_map, hel, hdv]
      · by_cases hj : i < env.length
        · rw [List.getElem?_append_left hj] at e
          have q := (hs i s e).1
          unfold L2.start
          rw [List.getElem?_append_left (by rw [List.length_map, ← hdv, ← hel]; exact hj)]
          exact q
        · rw [List.getElem?_append_right (Nat.le_of_not_lt hj), List.getElem?_replicate] at e
          split at e
          · cases e
            trivial
          · cases e
    refine rts Mc ⟨fun a => l = some a, n⟩ H _ _ H _ _ Fr0 hbody ⟨?_, ?_, fun _ _ _ h => h.elim, fun _ _ _ h => h.elim⟩
    · rintro env' σ' H' ⟨ls, h2, h3⟩ F'
      exact qq _ _ _ _ h3 (cpost_of (EPost.val (d := .non) (v := .non) F' rfl) (fun z => by subst z; exact argOk_none ha) hl2 h1 rfl h2)
    · rintro r env' σ' v H' ⟨r', ls, h2, h3, h4⟩ P'
      have cp := cpost_of P' (fun z => by subst z; exact argOk_none ha) hl2 h1 h2 h3
      rcases h4 with h4 | ⟨d, hd, h4⟩
      · exact qq _ _ _ _ h4 cp
      · exact qq _ _ _ _ h4 (cp.con tM hd)
end VL
namespace VL
open PySem PySem.Spec L2

/-! ## a few forms more -/
def pwListR : PW := fun ds Q => match ds with
  | [.int j] => 0 ≤ j ∧ j ≤ 100000 ∧ Q (.own (rngD 0 j.toNat))
  | _ => False
section
variable {k : KX} {tc : TC} {e a b c o tg : Expr} {ie ia ib ic io : IE} {pos p apos p2 py pt : Pos} {x y : Str} {t : Tg}
/-- list(range(e)) -/
theorem v_lrng (j1 j2 : Nat) (h1 : SE k (Ctx k tc) a ia) (hn : ia.isStar = false := by rfl) (hj : tc.nog[j1]? = some "list" := by rfl) (hl : tc.sc.names.lookup ("list" : Str) = some .globalImplicit := by rfl) (hj2 : tc.nog[j2]? = some "range" := by rfl) (hl2 : tc.sc.names.lookup ("range" : Str) = some .globalImplicit := by rfl)
    (hs : ∀ X : Cx, starEach [a] X.env = (false, eval a X.env) :: starEach [] X.env := by intro _; rfl) (hs2 : ∀ X : Cx, starEach [.Call (.Name "range" p2) [a] [] apos] X.env = (false, eval (.Call (.Name "range" p2) [a] [] apos) X.env) :: starEach [] X.env := by intro _; rfl) :
    SE k (Ctx k tc) (.Call (.Name "list" p) [.Call (.Name "range" p2) [a] [] apos] [] pos) (.prim pwListR [ia]) := by
  obtain ⟨ta, p1, r1⟩ := h1
  refine ⟨tLstRg (tRg1 ta), fun X c => pe_listRg c.calm (c.gl hl) (c.nok j1 _ hj) (prg_1 (c.gl hl2) (c.nok j2 _ hj2) (p1 X c) (hs X)) (hs2 X), fun M L H0 env σ H Q W F w q => ?_⟩
  unfold wE at w
  rw [wA_cons hn] at w
  refine r1 M L H0 env σ H _ _ F w fun r env1 v H1 w1 P => ?_
  obtain ⟨T, P, oo⟩ := P
  obtain ⟨ds, hd, w1⟩ := w1
  have rp := derefL_ok P.fr (rs := [r]) (vs := [v]) ⟨v, [], rfl, oo, rfl⟩ hd
  unfold pwListR at w1
  split at w1
  · rename_i j
    obtain ⟨h0, h1, w1⟩ := w1
    have ev : v = .int j := rp1 rp
    refine ⟨j, ev, RgOk.of_le (by omega) (by omega) (by omega) h0, fun p hp => q _ _ _ _ w1 (prim_post P (pp_own hp ?_))⟩
    have e : rgV 0 j = (List.range j.toNat).map fun i => V.int (0 + (i : Nat)) := by
      unfold rgV
      rw [Int.sub_zero]
    rw [e]
    unfold rngD
    generalize List.range j.toNat = l
    induction l with
    | nil => exact rfl
    | cons i l ih => exact ⟨_, _, rfl, rfl, ih⟩
  · exact w1.elim
/-- -e -/
def pwNeg : PW := fun ds Q => match ds with
  | [.int j] => Q (.val (.int (-j)))
  | _ => False
theorem v_neg (h1 : SE k (Ctx k tc) a ia) (hn : ia.isStar = false := by rfl) : SE k (Ctx k tc) (.UnaryOp .USub a pos) (.prim pwNeg [ia]) := by
  obtain ⟨ta, p1, r1⟩ := h1
  refine ⟨_, fun X c => pe_un un_neg (p1 X c), fun M L H0 env σ H Q W F w q => ?_⟩
  unfold wE at w
  rw [wA_cons hn] at w
  refine r1 M L H0 env σ H _ _ F w fun r env1 v H1 w1 P => ?_
  obtain ⟨T, P, oo⟩ := P
  obtain ⟨ds, hd, w1⟩ := w1
  have rp := derefL_ok P.fr (rs := [r]) (vs := [v]) ⟨v, [], rfl, oo, rfl⟩ hd
  unfold pwNeg at w1
  split at w1
  · rename_i j
    have ev : v = .int j := rp1 rp
    exact ⟨j, ev, q _ _ _ _ w1 (prim_post P ⟨Same.refl _, rfl⟩)⟩
  · exact w1.elim
/-- a call that is lent a list which nobody else has -/
theorem se_callT {f : FSpec} {x : Expr} (h1 : SE k (Ctx k tc) e ie) (hn : ie.isStar = false) (hs : ∀ X : Cx, starEach [e] X.env = (false, eval e X.env) :: starEach [] X.env) (pe : ∀ X, Ctx k tc X → ∀ t, PA X [e] t → ∃ E, PE X x (tCall (spOf k f) [] E t)) : SE k (Ctx k tc) x (.callT f ie) := by
  obtain ⟨te, p1, r1⟩ := h1
  refine ⟨fun σ H Q => te σ H fun v H1 => spOf k f [v] H1 Q fun _ _ _ => False, fun X c => ?_, fun M L H0 env σ H Q W F w qq => ?_⟩
  · obtain ⟨E, h⟩ := pe X c (tCons te tNil) (pa_cons (p1 X c) pa_nil (hs X))
    exact ⟨fun pins s σ H Q I hw => h.run pins s σ H Q I hw⟩
  refine r1 M L H0 env σ H _ _ F w fun r env1 v H1 w1 P1 => ?_
  obtain ⟨T, P, o⟩ := P1
  obtain ⟨hmd, es, rfl, w1⟩ := w1
  obtain ⟨p, xs, rfl, tp, hp, rp⟩ := o
  refine ⟨Bd (Or2 M T) env1 σ, some p, NoA, [.lst es], _, ?_, fun a h => ?_, .inr (by rw [hmd]; exact List.mem_cons_self ..), P.tracked, fun a h => h.elim, w1, fun r ls v H' wr hc => ?_⟩
  · rw [hmd]
    exact ⟨⟨p, xs, es, rfl, rfl, rfl, hp, rp⟩, trivial⟩
  · cases h
    exact ⟨.inl (.inr tp), fun z => z⟩
  · obtain ⟨T3, t1, t2, kp, hls, ov⟩ := hc
    obtain ⟨⟨es', rfl⟩, wr⟩ := wr
    obtain ⟨xs', hp', rc'⟩ := hls
    have nT : ∀ b, T3 b → b ≠ p := fun b tb z => by
      have := t1 b tb
      rw [z, hp] at this
      cases this
    have P3 : Post k (Or2 M T) L H0 env1 σ T3 (upd H' p (.lst xs)) := P.fr.more (fun b o h => by
      by_cases z : b = p
      · subst z
        rw [upd_same]
        rw [hp] at h
        exact h
      · rw [upd_ne z]
        exact kp b o h (fun y => z (Option.some.inj y).symm)) t1 fun b h => by
          rw [upd_ne (nT b h)]
          exact t2 b h
    have f := P.tf p tp
    have F4 := P3.fr.touch (p := p) (o := .lst xs') (.inl (.inr tp)) (fun z => f.2.1 (P.lm p z)) f.2.2 f.1
    have eh : upd (upd H' p (.lst xs)) p (.lst xs') = H' := by
      funext b
      by_cases z : b = p
      · subst z
        rw [upd_same, hp']
      · rw [upd_ne z, upd_ne z]
    rw [eh] at F4
    have eq : Or2 (Or2 M T) T3 = Or2 M (Or2 T T3) := by
      funext a
      exact propext or_assoc
    rw [eq] at F4
    refine qq r _ v H' wr ⟨Or2 T T3, ⟨fun a h => ?_, P.lm, F4⟩, ?_⟩
    · rcases h with h | h
      · exact P.tf a h
      · exact ⟨(P3.tf a h).1, fun z => (P3.tf a h).2.1 (.inl z), (P3.tf a h).2.2⟩
    · have sub : ∀ a, Bd (Or2 M (Or2 T T3)) env1 σ a → Or2 (Bd (Or2 M T) env1 σ) T3 a := fun a h => by
        rcases h with (h | h | h) | h
        · exact .inl (.inl (.inl h))
        · exact .inl (.inl (.inr h))
        · exact .inr h
        · exact .inl (.inr h)
      have z := opd_of0 (σ := σ) sub ov
      cases r with
      | val d => exact z
      | own ds =>
        obtain ⟨p, xs, e1, tp, r⟩ := z
        exact ⟨p, xs, e1, .inr tp, r⟩
      | ownd ks ds =>
        obtain ⟨p, xs, e1, tp, r⟩ := z
        exact ⟨p, xs, e1, .inr tp, r⟩
      | ref i => exact z
theorem v_fnT (j : Nat) (f : FSpec) (h : SE k (Ctx k tc) e ie) (hn : ie.isStar = false := by rfl) (hj : tc.fns[j]? = some (x, f) := by rfl) (hl : tc.sc.names.lookup x = some .globalImplicit := by rfl) (hd : (x == ("__debug__" : Str)) = false := by rfl)
    (he : ∀ X : Cx, starEach [e] X.env = (false, eval e X.env) :: starEach [] X.env := by intro _; rfl) : SE k (Ctx k tc) (.Call (.Name x p) [e] [] pos) (.callT f ie) := by
  refine se_callT h hn he fun X c t pa => ?_
  obtain ⟨fa, fd, ps, F, hm, hk, hb⟩ := c.fok j x f hj
  exact ⟨E0, pe_callG F c.room c.gd (c.gl hl) hm hk hb pa hd (he X) rfl⟩
end
end VL
namespace VL
open PySem PySem.Spec L2 PyProof.Rows

/-! ## sorted(a dict of texts), however many -/
def pwSorted : PW := fun ds Q => match ds with
  | [.dic ks _] => ∃ zs : List Str, ks = zs.map Sum.inr ∧ zs.length ≤ 100000 ∧ ∀ ys : List Str, ys.Perm zs → Q (.own (ys.map .str))
  | _ => False
theorem call_sortedDAny {X : Cx} (hcalm : X.calm = true) : CallR X (.builtin "sorted") (fun xs H Q => ∃ (a : Addr) (kvs : List (Key × V)) (ks : List Str), xs = [.ref a] ∧ Rd H a (.dK kvs) ∧ kvs.map (·.1) = ks.map Sum.inr ∧ ks.length ≤ sizeLine ∧
    ∀ ys p, ys.Perm ks → sortedS ys = true → H p = none → Q (.ref p) (upd H p (.lst (ys.map V.str)))) := by
  rintro pins s σ H xs us Q I r ⟨a, kvs, ks, rfl, hd, hks, hmost, q⟩
  obtain ⟨u, rfl, rx⟩ := vals1 r
  cases rx
  obtain ⟨z, lo, vs, rel, dd⟩ := dk_rd I.hok hd
  obtain ⟨ep, hat⟩ := dd.dictAt
  have keysEq : vs.map (·.1) = ks.map Sum.inr := rel.keys.symm.trans hks
  have lenEq : vs.length = ks.length := by simpa using congrArg List.length keysEq
  have small : vs.length ≤ sizeLine := by rw [lenEq]; exact hmost
  refine Calls.call_function_entry kind_sorted plain_sorted entry_sorted (args_sorted1 _) ?_
  unfold Builtin.«sorted»
  refine wpAny_bind (m := checkCount "sorted" 1 1 _) (wpAny_pure ?_)
  refine wpAny_bind (PySem.W.kdu_collect (A := X.A.in1) (PySem.W.kdl_dict (knd := mixKind X.prog X.w) (kvs := vs) (ep := ep) lo) (I.ok.hd hcalm) hat small fun h' tk acc hk hacc => ?_)
  have accLen : acc.toList.length = ks.length := by rw [Array.length_toList, hacc.1, lenEq]
  have texts : StrsAre acc.toList ks := by
    refine strs_at accLen fun j v e => ?_
    obtain ⟨c, x, e1, e2⟩ := hacc.2 j v (by rw [← Array.getElem?_toList]; exact e)
    have e3 : (vs.map (·.1))[j]? = some c := by
      rw [List.getElem?_map, e1]
      rfl
    rw [keysEq, List.getElem?_map] at e3
    cases e4 : ks[j]? with
    | none =>
      rw [e4] at e3
      cases e3
    | some y =>
      rw [e4] at e3
      obtain rfl : Sum.inr y = c := Option.some.inj e3
      obtain ⟨t, ev⟩ := Value.isStrOf_shape (x := y) (v := v) e2
      exact ⟨y, t, rfl, ev⟩
  have I1 : Inv X pins σ H { s with heap := h', toks := tk } := I.kept hk
  refine wpAny_bind (wpAny_newList ?_ (by rw [accLen]; exact hmost))
  have atL : (h'.push (seqObj "list" acc.toList.toArray 0)).get? h'.objs.size = some (seqObj "list" acc.toList.toArray 0) := Heap.get?_push_size _ rfl
  show wpAny _ _ _ _ _ { s with heap := h'.push (seqObj "list" acc.toList.toArray 0), toks := tk }
  refine wpAny_bind (wpAny_holding (wpAny_call_entry slot_list_sort ⟨_, atL, rfl⟩ entry_list_sort (list_sort_treeKAny strKind_oneLt (s := { s with heap := h'.push (seqObj "list" acc.toList.toArray 0), toks := tk }) atL texts.keysOf
    (fun v₁ v₂ rest e => keyKind_strs (by rw [← e]; exact texts)) (by rw [accLen]; exact hmost) fun st' hp hs => ⟨_, rfl, ?_⟩) (args_list_sort _)))
  obtain ⟨ys, g1, g2, g3⟩ := sorted_out_str texts hp hs
  obtain ⟨e', he'⟩ := sortedHeap_at (vs := acc.toList) (out := (arrOf st').map (·.2)) atL
  have outLen : (ys.map V.str).length ≤ sizeLine := by
    rw [List.length_map, g2.length_eq]
    exact hmost
  refine wpAny_pure ⟨_, rfl, .ref h'.objs.size, upd H h'.objs.size (.lst (ys.map V.str)), I1.laid (t' := tk) ?_ (Nat.le_refl _) (show ObjOk X.prog X.w _ _ _ (.lst (ys.map V.str)) from ⟨outLen, ((arrOf st').map (·.2)).toList, e', vals_of_strs g1, by rw [Array.toArray_toList]; exact he'⟩),
    rfl, q ys _ g2 g3 (I1.hok.fresh (Nat.le_refl _))⟩
  intro b u e
  have hb : b < h'.objs.size := Heap.lt_size e
  rw [sortedHeap_old (Nat.ne_of_lt hb) (by rw [size_push']; exact Nat.lt_succ_of_lt hb)]
  exact Heap.get?_push_of_some _ e
theorem cr_sorted {k : KX} {tc : TC} {X : Cx} (c : Ctx k tc X) : CallR X (.builtin "sorted") (rP k pwSorted) := cr_mk fun ds vs B H W Q ht hr hw hq => by
  unfold pwSorted at hw
  split at hw
  · rename_i ks es
    obtain ⟨zs, rfl, hl, w⟩ := hw
    obtain ⟨x, e, a, xs, e2, h3, hlen, r⟩ := rl1 hr
    refine ⟨_, call_sortedDAny c.calm, a, (zs.map Sum.inr).zip xs, zs, by rw [e, e2], .inl h3, List.map_fst_zip (Nat.le_of_eq hlen), sz5 hl, fun ys p hp _ hn => hq _ _ _ (w ys hp) (pp_own hn ?_)⟩
    exact repl_map (f := D.str) (g := V.str) (fun c => rfl) _
  · exact hw.elim
end VL
namespace VL
open PySem PySem.Spec L2 PyProof.Rows

/-! ## repr of a tuple, of a list -/
def isSeqD : D → Bool
  | .tup _ => true
  | .lst _ => true
  | .frl _ => true
  | _ => false
def pwRepr : PW := fun ds Q => match ds with
  | [d] => isSeqD d = true ∧ d.plain = true ∧ d.py.showable = true ∧ d.py.hasDict = false ∧ d.py.depth ≤ 60 ∧ d.py.shown.length ≤ 100000 ∧ Q (.val (.str d.py.shown))
  | _ => False
theorem cr_repr {k : KX} {tc : TC} {X : Cx} (c : Ctx k tc X) : CallR X (.builtin "repr") (rP k pwRepr) := by
  intro pins s σ H xs us Q I r hp
  obtain ⟨B, ds, W, ht, hr, hw, hq⟩ := hp
  unfold pwRepr at hw
  split at hw
  · rename_i d
    obtain ⟨h1, h2, h3, h4, h5, h6, w⟩ := hw
    obtain ⟨x, rfl, hx⟩ := rl1 hr
    obtain ⟨u, rfl, ru⟩ := vals1 r
    have dp := dpP_of h2 hx
    rw [← c.K] at dp
    obtain ⟨as, rd⟩ := Dp.reads I _ _ _ dp ru
    have hv : ∃ a, x = .ref a := by
      cases d with
      | tup _ => exact let ⟨a, _, e, _⟩ := hx; ⟨a, e⟩
      | lst _ => exact let ⟨a, _, e, _⟩ := hx; ⟨a, e⟩
      | frl _ => exact let ⟨a, _, e, _⟩ := hx; ⟨a, e⟩
      | _ => cases h1
    obtain ⟨a, rfl⟩ := hv
    cases ru
    have hu := c.hu
    refine repr_of_reads' rd h3 (fun z => by rw [h4] at z; cases z) c.gd (by omega) (fun _ _ e => e) (fun h' u tk hk => ?_) (sz5 h6)
    exact ⟨.str d.py.shown, H, I.kept hk, ⟨u, rfl⟩, hq _ _ _ w ⟨Same.refl _, rfl⟩⟩
  · exact hw.elim
end VL
namespace VL
open PySem PySem.Spec L2

/-! ## the end: all defs, all the module's things -/
abbrev kx (K : PySem.W.Frag) : KX := ⟨K, fun _ => 0, fun _ => []⟩
structure DefIn (K : PySem.W.Frag) (x : Str) (st : Stmt) : Prop where
  ex : ∃ (f : Addr) (fd : FuncData), L2.Fun K x x st f fd ∧ PySem.W.nsIn K mainGlobals x = some (some (.ref f))
theorem defIn_mk {K : PySem.W.Frag} {x : Str} {st : Stmt} {f : Addr} {oc : Value} {od an : Option Addr} {osl : Array (Option Value)} {kV doc pm cdv ct : Value} (a : PySem.W.nsIn K mainGlobals x = some (some (.ref f)))
    (l : K.lookup f = some ⟨oc, od, .func (PySem.W.fnOf x x (defArgs st) (defBody st) (defScope st) .none kV doc pm an cdv ct), osl⟩) (c : PySem.W.codeIn K cdv x = true) (k : PySem.W.keepIn K (.ref f) = true) : DefIn K x st :=
  ⟨_, _, fun_mk l c k, a⟩
/-- a def that may be called -/
def Cal (K : PySem.W.Frag) (P : Program) (w : World) (mg : Str → Option Value) (base : Heap) (lv : Nat) (x : Str) (f : FSpec) : Prop :=
  ∃ fa fd ps, FnG P w K mg base lv fa fd ps (spOf (kx K) f) ∧ mg x = some (.ref fa) ∧ PySem.W.keepIn K (.ref fa) = true ∧ Binds K fd ps []
def Cals (K : PySem.W.Frag) (P : Program) (w : World) (mg : Str → Option Value) (base : Heap) (lv : Nat) : List (Str × FSpec) → Prop
  | [] => True
  | (x, f) :: r => Cal K P w mg base lv x f ∧ Cals K P w mg base lv r
def Gls (K : PySem.W.Frag) (mg : Str → Option Value) : List (Str × D) → Prop
  | [] => True
  | (x, d) :: r => (∃ v u, mg x = some u ∧ RelV v u ∧ ∀ B H, Rep (kx K) B H d v) ∧ Gls K mg r
def Nog (mg : Str → Option Value) : List Str → Prop
  | [] => True
  | x :: r => mg x = none ∧ Nog mg r
section
variable {K : PySem.W.Frag} {P : Program} {w : World} {mg : Str → Option Value} {base : Heap} {lv lv2 : Nat}
theorem Cal.mono {x : Str} {f : FSpec} (h : Cal K P w mg base lv x f) (l : lv ≤ lv2) : Cal K P w mg base lv2 x f := let ⟨fa, fd, ps, F, r⟩ := h; ⟨fa, fd, ps, F.mono l, r⟩
theorem Cals.get : ∀ {l : List (Str × FSpec)} {j : Nat} {x : Str} {f : FSpec}, Cals K P w mg base lv l → l[j]? = some (x, f) → Cal K P w mg base lv x f
  | [], _, _, _, _, e => by simp at e
  | (y, g) :: r, 0, _, _, h, e => by
    cases e
    exact h.1
  | (y, g) :: r, j + 1, _, _, h, e => Cals.get (j := j) h.2 (by simpa using e)
theorem Gls.get : ∀ {l : List (Str × D)} {j : Nat} {x : Str} {d : D}, Gls K mg l → l[j]? = some (x, d) → ∃ v u, mg x = some u ∧ RelV v u ∧ ∀ B H, Rep (kx K) B H d v
  | [], _, _, _, _, e => by simp at e
  | (y, g) :: r, 0, _, _, h, e => by
    cases e
    exact h.1
  | (y, g) :: r, j + 1, _, _, h, e => Gls.get (j := j) h.2 (by simpa using e)
theorem Nog.get : ∀ {l : List Str} {j : Nat} {x : Str}, Nog mg l → l[j]? = some x → mg x = none
  | [], _, _, _, e => by simp at e
  | y :: r, 0, _, h, e => by
    cases e
    exact h.1
  | y :: r, j + 1, _, h, e => Nog.get (j := j) h.2 (by simpa using e)
/-- one def more -/
theorem cal_step {tc : TC} {x : Str} {st : Stmt} {ps : List Str} {sp : FSpec} {body : List IS} {h0 : Heap} (X : K.In h0) (G : h0.Ns mainGlobals mg) (D : DefIn K x st) (S : FnScope tc.N ps (defScope st)) (hsc : tc.sc = defScope st) (hfn : tc.fn = fun _ => true)
    (hmd : sp.md.length = ps.length) (h1 : lnt1 sp.md = true) (hb : SSs (kx K) (Ctx (kx K) tc) (defBody st) body) (hok : BodyOk sp tc.N.length body)
    (bi : ∀ (kV doc pm : Value) (an : Option Addr) (cdv ct : Value) (us : List Value), us.length = ps.length → bindArgs (PySem.W.fnOf x x (defArgs st) (defBody st) (defScope st) .none kV doc pm an cdv ct) ⟨us, []⟩ = pure (ps.zip us))
    (c : Cals K P w mg base tc.lv tc.fns) (g : Gls K mg tc.gls) (n : Nog mg tc.nog) : Cal K P w mg base (tc.lv + 1) x sp := by
  obtain ⟨f, fd, F, a⟩ := D.ex
  exact ⟨f, fd, ps, def_ok F S hsc hfn hmd h1 hb hok ⟨fun j x f h => c.get h, fun j x d h => g.get h, fun j x h => n.get h⟩, PySem.W.mg_of X G a, F.kp, F.binds bi⟩
end
/-- a value of the module, by data -/
def valIn (K : PySem.W.Frag) : Nat → D → Value → Bool
  | _, .non, .none => true
  | _, .bl b, .bool c => b == c
  | _, .int i, .int j _ => i == j
  | _, .str s, .str t _ => s == t
  | n + 1, .tup ds, .ref a => match K.lookup a with
    | some ⟨.type t, none, .seq items _, _⟩ => t == "tuple" && decide (items.size ≤ 100000) && all2 (valIn K n) ds items.toList
    | _ => false
  | _, _, _ => false
where all2 (f : D → Value → Bool) : List D → List Value → Bool
  | [], [] => true
  | d :: ds, v :: vs => f d v && all2 f ds vs
  | _, _ => false
theorem valIn_ok {K : PySem.W.Frag} : ∀ (n : Nat) (d : D) (u : Value), valIn K n d u = true → ∃ v, RelV v u ∧ ∀ B H, Rep (kx K) B H d v := by
  have base : ∀ (n : Nat) (d : D) (u : Value), (∀ ds, d ≠ .tup ds) → valIn K n d u = true → ∃ v, RelV v u ∧ ∀ B H, Rep (kx K) B H d v := by
    intro n d u hd h
    unfold valIn at h
    split at h
    · exact ⟨.non, rfl, fun _ _ => rfl⟩
    · have e := eq_of_beq h
      subst e
      exact ⟨.bl _, rfl, fun _ _ => rfl⟩
    · have e := eq_of_beq h
      subst e
      exact ⟨.int _, ⟨_, rfl⟩, fun _ _ => rfl⟩
    · have e := eq_of_beq h
      subst e
      exact ⟨.str _, ⟨_, rfl⟩, fun _ _ => rfl⟩
    · exact absurd rfl (hd _)
    · cases h
  intro n
  induction n with
  | zero =>
    intro d u h
    refine base 0 d u (fun ds e => ?_) h
    subst e
    cases u <;> cases h
  | succ n ih =>
    intro d u h
    by_cases hd : ∃ ds, d = .tup ds
    · obtain ⟨ds, rfl⟩ := hd
      cases u with
      | ref a =>
        unfold valIn at h
        split at h
        · rename_i t items m sl hk
          simp only [Bool.and_eq_true, decide_eq_true_eq, beq_iff_eq] at h
          obtain ⟨⟨rfl, hz⟩, h⟩ := h
          have main : ∀ (ds : List D) (us : List Value), valIn.all2 (valIn K n) ds us = true → ∃ xs, Vals xs us ∧ ∀ B H, RepL (kx K) B H ds xs := by
            intro ds
            induction ds with
            | nil =>
              intro us h
              cases us with
              | nil => exact ⟨[], .nil, fun _ _ => rfl⟩
              | cons _ _ => cases h
            | cons d ds ihd =>
              intro us h
              cases us with
              | nil => cases h
              | cons u us =>
                have h : (valIn K n d u && valIn.all2 (valIn K n) ds us) = true := h
                obtain ⟨p, q⟩ := Bool.and_eq_true_iff.mp h
                obtain ⟨v, r, hv⟩ := ih d u p
                obtain ⟨xs, rs, hx⟩ := ihd us q
                exact ⟨v :: xs, .cons r rs, fun B H => ⟨v, xs, rfl, hv B H, hx B H⟩⟩
          obtain ⟨xs, rs, hx⟩ := main ds items.toList h
          exact ⟨.ref a, rfl, fun B H => ⟨a, xs, rfl, .inr (.inr ⟨_, items, m, hk, rfl, rfl, by first | exact sz5 hz | exact rfl, by first | exact sz5 hz | exact rs⟩), hx B H⟩⟩
        · cases h
      | _ => cases h
    · exact base (n + 1) d u (fun ds e => hd ⟨ds, e⟩) h
theorem glob_mk {K : PySem.W.Frag} {mg : Str → Option Value} {h0 : Heap} {x : Str} {d : D} {u : Value} (X : K.In h0) (G : h0.Ns mainGlobals mg) (a : PySem.W.nsIn K mainGlobals x = some (some u)) (h : valIn K 4 d u = true) : ∃ v u, mg x = some u ∧ RelV v u ∧ ∀ B H, Rep (kx K) B H d v := by
  obtain ⟨v, r, hv⟩ := valIn_ok 4 d u h
  exact ⟨v, u, PySem.W.mg_of X G a, r, hv⟩
theorem glob_tup {K : PySem.W.Frag} {mg : Str → Option Value} {h0 : Heap} {x : Str} {ds : List D} {a : Addr} {items : Array Value} {n : Nat} {sl : Array (Option Value)} (X : K.In h0) (G : h0.Ns mainGlobals mg) (e : PySem.W.nsIn K mainGlobals x = some (some (.ref a)))
    (l : K.lookup a = some ⟨.type "tuple", none, .seq items n, sl⟩) (hz : items.size ≤ 100000) (h : valIn.all2 (valIn K 3) ds items.toList = true) : ∃ v u, mg x = some u ∧ RelV v u ∧ ∀ B H, Rep (kx K) B H (.tup ds) v := by
  obtain ⟨v, r, hv⟩ := valIn_ok (K := K) 4 (.tup ds) (.ref a) (by
    unfold valIn
    rw [l]
    simp only [Bool.and_eq_true, decide_eq_true_eq, beq_self_eq_true, true_and]
    exact ⟨hz, h⟩)
  exact ⟨v, .ref a, PySem.W.mg_of X G e, r, hv⟩
/-- the law's own promise: the script is frozen -/
theorem law_sp {K : PySem.W.Frag} {sp : FSpec} {n : Nat} (hmd : sp.md = [.mv]) (hl : ∀ ns : List Int, ns.length ≤ n → sp.wp [.frl (ns.map .int)] fun r ls => r = .val (.bl true) ∧ ls = []) (H : Hp) (a : Addr) (ns : List Int) (hn : ns.length ≤ n) (hO : Only H) (hS : SqL K H a (ns.map V.int)) :
    spOf (kx K) sp [.ref a] H (fun v _ => v = .bl true) fun _ _ _ => False := by
  refine ⟨NoA, none, NoA, [.frl (ns.map .int)], _, ?_, fun a h => (nomatch h), .inl rfl, fun a h => h.elim, fun a h => h.elim, hl ns hn, fun r ls v H' wr hc => ?_⟩
  · rw [hmd]
    have hr : ∀ (l : List Int), RepL (kx K) NoA H (l.map .int) (l.map V.int) := by
      intro l
      induction l with
      | nil => exact rfl
      | cons i l ih => exact ⟨_, _, rfl, rfl, ih⟩
    refine ⟨⟨a, ns.map V.int, rfl, ?_, hr ns⟩, trivial⟩
    rcases hS with h | h
    · exact .inl ⟨fun z => z, h⟩
    · exact .inr (.inr h)
  · obtain ⟨rfl, rfl⟩ := wr
    obtain ⟨T, _, _, _, _, o⟩ := hc
    exact o
/-- the law's def -/
theorem law_step {K : PySem.W.Frag} {P : Program} {w : World} {mg : Str → Option Value} {tc : TC} {x y : Str} {st : Stmt} {sp : FSpec} {body : List IS} {h0 : Heap} {fa : Addr} (X : K.In h0) (G : h0.Ns mainGlobals mg) (hfa : mg x = some (.ref fa)) (D : DefIn K x st) (S : FnScope tc.N [y] (defScope st))
    (hsc : tc.sc = defScope st) (hfn : tc.fn = fun _ => true) (hmd : sp.md.length = 1) (h1 : lnt1 sp.md = true) (hb : SSs (kx K) (Ctx (kx K) tc) (defBody st) body) (hok : BodyOk sp tc.N.length body)
    (bi : ∀ (kV doc pm : Value) (an : Option Addr) (cdv ct : Value) (us : List Value), us.length = 1 → bindArgs (PySem.W.fnOf x x (defArgs st) (defBody st) (defScope st) .none kV doc pm an cdv ct) ⟨us, []⟩ = pure ([y].zip us))
    (c : ∀ base, K.In base → base.Ns mainGlobals mg → Cals K P w mg base tc.lv tc.fns) (g : Gls K mg tc.gls) (n : Nog mg tc.nog) :
    ∃ fd : FuncData, (∀ (s : Shared) (u : Value), BindsTo s fd ⟨[u], []⟩ [(y, u)]) ∧ ∀ base : Heap, K.In base → base.Ns mainGlobals mg → FnG P w K mg base (tc.lv + 1) fa fd [y] (spOf (kx K) sp) := by
  obtain ⟨f, fd, F, a⟩ := D.ex
  have e := hfa.symm.trans (PySem.W.mg_of X G a)
  cases e
  refine ⟨fd, fun s u => ?_, fun base h2 h3 => def_ok F S hsc hfn hmd h1 hb hok ⟨fun j x f h => (c base h2 h3).get h, fun j x d h => g.get h, fun j x h => n.get h⟩⟩
  obtain ⟨oc, od, kV, doc, pm, an, cdv, ct, osl, rfl, _, _⟩ := F.ex
  exact .of_eq (bi kV doc pm an cdv ct [u] rfl)
end VL
namespace VL
open PySem PySem.Spec L2

/-! ## plain facts: bits -/
theorem bxor_nat (a b : Nat) : Builtin.bitXor (a : Int) (b : Int) = ((a ^^^ b : Nat) : Int) := by
  rw [Bits.bitXor_pp (Int.natCast_nonneg _) (Int.natCast_nonneg _), Int.toNat_natCast, Int.toNat_natCast]
theorem band_nat (a b : Nat) : Builtin.bitAnd (a : Int) (b : Int) = ((a &&& b : Nat) : Int) := by
  rw [PyProof.Rows.bitAnd_pp (Int.natCast_nonneg _) (Int.natCast_nonneg _), Int.toNat_natCast, Int.toNat_natCast]
theorem bor_nat (a b : Nat) : Builtin.bitOr (a : Int) (b : Int) = ((a ||| b : Nat) : Int) := by
  rw [PyProof.Rows.bitOr_and, band_nat]
  have := PyProof.Rows.nat_or_add_and a b
  omega
theorem shl_nat (a n : Nat) : (a : Int) * 2 ^ ((n : Int)).toNat = ((a <<< n : Nat) : Int) := by
  rw [Int.toNat_natCast, Nat.shiftLeft_eq, Int.natCast_mul, Int.natCast_pow]
  rfl
theorem shr_nat (a n : Nat) : (a : Int) / 2 ^ ((n : Int)).toNat = ((a >>> n : Nat) : Int) := by
  rw [Int.toNat_natCast, Nat.shiftRight_eq_div_pow, Int.natCast_ediv, Int.natCast_pow]
  rfl
theorem xor_self_cancel (a b : Nat) : a ^^^ b ^^^ b = a := by rw [Nat.xor_assoc, Nat.xor_self, Nat.xor_zero]
theorem xor_cancel_left (a b : Nat) : a ^^^ (a ^^^ b) = b := by rw [← Nat.xor_assoc, Nat.xor_self, Nat.zero_xor]
/-! ### parity of what two marks have against each other -/
def par6 (k : Nat) : Bool := ((((k.testBit 0 ^^ k.testBit 1) ^^ k.testBit 2) ^^ k.testBit 3) ^^ k.testBit 4) ^^ k.testBit 5
theorem par6_xor (a b : Nat) : par6 (a ^^^ b) = (par6 a ^^ par6 b) := by
  unfold par6
  simp only [Nat.testBit_xor]
  simp only [Bool.xor_assoc, Bool.xor_left_comm, Bool.xor_comm]
/-- do the two cross? -/
def crs (a b : Nat) : Bool := par6 (a &&& (b >>> 6) &&& 63) ^^ par6 ((a >>> 6) &&& b &&& 63)
theorem and_xor_r (a b c : Nat) : (a ^^^ b) &&& c = (a &&& c) ^^^ (b &&& c) := by
  refine Nat.eq_of_testBit_eq fun i => ?_
  simp only [Nat.testBit_and, Nat.testBit_xor]
  cases a.testBit i <;> cases b.testBit i <;> cases c.testBit i <;> rfl
theorem and_xor_l (a b c : Nat) : a &&& (b ^^^ c) = (a &&& b) ^^^ (a &&& c) := by
  refine Nat.eq_of_testBit_eq fun i => ?_
  simp only [Nat.testBit_and, Nat.testBit_xor]
  cases a.testBit i <;> cases b.testBit i <;> cases c.testBit i <;> rfl
theorem shr_xor (a b n : Nat) : (a ^^^ b) >>> n = (a >>> n) ^^^ (b >>> n) := by
  refine Nat.eq_of_testBit_eq fun i => ?_
  simp only [Nat.testBit_shiftRight, Nat.testBit_xor]
theorem crs_xor_l (a b c : Nat) : crs (a ^^^ b) c = (crs a c ^^ crs b c) := by
  unfold crs
  rw [shr_xor, and_xor_r, and_xor_r, and_xor_r, and_xor_r, par6_xor, par6_xor]
  generalize par6 (a &&& (c >>> 6) &&& 63) = p
  generalize par6 (b &&& (c >>> 6) &&& 63) = q
  generalize par6 ((a >>> 6) &&& c &&& 63) = r
  generalize par6 ((b >>> 6) &&& c &&& 63) = s
  cases p <;> cases q <;> cases r <;> cases s <;> rfl
theorem crs_comm (a b : Nat) : crs a b = crs b a := by
  unfold crs
  rw [show a &&& (b >>> 6) = (b >>> 6) &&& a from Nat.and_comm _ _, show (a >>> 6) &&& b = b &&& (a >>> 6) from Nat.and_comm _ _, Bool.xor_comm]
theorem crs_xor_r (a b c : Nat) : crs a (b ^^^ c) = (crs a b ^^ crs a c) := by
  rw [crs_comm, crs_xor_l, crs_comm b, crs_comm c]
theorem crs_self (a : Nat) : crs a a = false := by
  unfold crs
  rw [show a &&& (a >>> 6) = (a >>> 6) &&& a from Nat.and_comm _ _, Bool.xor_self]
theorem crs_zero (a : Nat) : crs 0 a = false := by
  have h := crs_xor_l 0 0 a
  rw [Nat.xor_self, Bool.xor_self] at h
  exact h
end VL
namespace VL

/-! ## plain facts: what rows of bits make -/
inductive Sp (ms : List Nat) : Nat → Prop
  | zero : Sp ms 0
  | add {v m : Nat} : m ∈ ms → Sp ms v → Sp ms (v ^^^ m)
namespace Sp
variable {ms ns : List Nat} {a b m v : Nat}
theorem mem (h : m ∈ ms) : Sp ms m := by
  have := Sp.add h .zero
  rw [Nat.zero_xor] at this
  exact this
theorem xor (h : Sp ms a) (k : Sp ms b) : Sp ms (a ^^^ b) := by
  induction k with
  | zero => rw [Nat.xor_zero]; exact h
  | add hm _ ih => rw [← Nat.xor_assoc]; exact .add hm ih
theorem mono (h : ∀ m ∈ ms, Sp ns m) (k : Sp ms v) : Sp ns v := by
  induction k with
  | zero => exact .zero
  | add hm _ ih => exact ih.xor (h _ hm)
theorem sub (h : ∀ m ∈ ms, m ∈ ns) (k : Sp ms v) : Sp ns v := k.mono fun m hm => mem (h m hm)
theorem cons_iff : Sp (m :: ms) v ↔ Sp ms v ∨ Sp ms (v ^^^ m) := by
  constructor
  · intro h
    induction h with
    | zero => exact .inl .zero
    | @add v n hn _ ih =>
      rcases List.mem_cons.mp hn with rfl | hn
      · rcases ih with ih | ih
        · refine .inr ?_
          rw [xor_self_cancel]
          exact ih
        · exact .inl ih
      · rcases ih with ih | ih
        · exact .inl (.add hn ih)
        · refine .inr ?_
          rw [show v ^^^ n ^^^ m = v ^^^ m ^^^ n by rw [Nat.xor_assoc, Nat.xor_comm n, ← Nat.xor_assoc]]
          exact .add hn ih
  · rintro (h | h)
    · exact h.sub fun _ => List.mem_cons_of_mem _
    · have := Sp.add (ms := m :: ms) (List.mem_cons_self ..) (h.sub fun _ => List.mem_cons_of_mem _)
      rw [xor_self_cancel] at this
      exact this
theorem nil_iff : Sp [] v ↔ v = 0 := by
  constructor
  · intro h
    cases h with
    | zero => rfl
    | add hm => cases hm
  · rintro rfl
    exact .zero
theorem snoc_iff : Sp (ms ++ [m]) v ↔ Sp ms v ∨ Sp ms (v ^^^ m) := by
  rw [← cons_iff]
  constructor
  · exact fun h => h.sub fun x hx => by simpa [or_comm] using hx
  · exact fun h => h.sub fun x hx => by simpa [or_comm] using hx
theorem bit {i : Nat} (h : ∀ m ∈ ms, m.testBit i = false) (k : Sp ms v) : v.testBit i = false := by
  induction k with
  | zero => simp
  | add hm _ ih => rw [Nat.testBit_xor, ih, h _ hm]; rfl
end Sp
/-! ### independent rows -/
def Ind : List Nat → Prop
  | [] => True
  | c :: cs => ¬ Sp cs c ∧ Ind cs
def enumS : List Nat → List Nat
  | [] => [0]
  | c :: cs => enumS cs ++ (enumS cs).map (· ^^^ c)
theorem enumS_mem : ∀ {cs : List Nat} {v : Nat}, v ∈ enumS cs ↔ Sp cs v
  | [], v => by rw [Sp.nil_iff]; simp [enumS]
  | c :: cs, v => by
    rw [Sp.cons_iff, enumS, List.mem_append, List.mem_map, enumS_mem]
    constructor
    · rintro (h | ⟨u, hu, rfl⟩)
      · exact .inl h
      · refine .inr ?_
        rw [xor_self_cancel]
        exact enumS_mem.mp hu
    · rintro (h | h)
      · exact .inl h
      · exact .inr ⟨_, enumS_mem.mpr h, xor_self_cancel _ _⟩
theorem enumS_len : ∀ cs : List Nat, (enumS cs).length = 2 ^ cs.length
  | [] => rfl
  | c :: cs => by
    rw [enumS, List.length_append, List.length_map, enumS_len cs, List.length_cons, Nat.pow_succ]
    omega
theorem enumS_nodup : ∀ {cs : List Nat}, Ind cs → (enumS cs).Nodup
  | [], _ => by simp [enumS]
  | c :: cs, h => by
    have ih := enumS_nodup h.2
    rw [enumS, List.nodup_append]
    refine ⟨ih, ?_, ?_⟩
    · refine List.Pairwise.map _ (fun a b hab z => hab ?_) ih
      have := congrArg (· ^^^ c) z
      simp only [xor_self_cancel] at this
      exact this
    · rintro a ha b hb rfl
      obtain ⟨u, hu, rfl⟩ := List.mem_map.mp hb
      refine h.1 ?_
      have := (enumS_mem.mp ha).xor (enumS_mem.mp hu)
      rw [Nat.xor_comm, ← Nat.xor_assoc, Nat.xor_self, Nat.zero_xor] at this
      exact this
theorem card_of {cs l : List Nat} (h : Ind cs) (nd : l.Nodup) (hm : ∀ v, v ∈ l ↔ Sp cs v) : l.length = 2 ^ cs.length := by
  rw [← enumS_len]
  refine List.Perm.length_eq ((List.perm_ext_iff_of_nodup nd (enumS_nodup h)).mpr fun v => ?_)
  rw [hm, enumS_mem]
theorem ind_len {cs ds : List Nat} (h : Ind cs) (k : Ind ds) (e : ∀ v, Sp cs v ↔ Sp ds v) : cs.length = ds.length := by
  have h1 := card_of h (enumS_nodup k) fun v => by rw [enumS_mem, e]
  rw [enumS_len] at h1
  exact (Nat.pow_right_inj (by decide)).mp h1.symm
theorem ind_perm {cs ds : List Nat} (p : cs.Perm ds) : Ind cs → Ind ds := by
  induction p with
  | nil => exact id
  | cons x p ih => exact fun h => ⟨fun z => h.1 (z.sub fun m hm => p.mem_iff.mpr hm), ih h.2⟩
  | swap x y l =>
    rintro ⟨h1, h2, h3⟩
    refine ⟨fun z => ?_, fun z => h1 (z.sub fun _ => List.mem_cons_of_mem _), h3⟩
    rcases Sp.cons_iff.mp z with z | z
    · exact h2 z
    · refine h1 (Sp.cons_iff.mpr (.inr ?_))
      rw [Nat.xor_comm]
      exact z
  | trans _ _ ih1 ih2 => exact fun h => ih2 (ih1 h)
theorem ind_left : ∀ {cs ds : List Nat}, Ind (cs ++ ds) → Ind cs
  | [], _, _ => trivial
  | c :: cs, ds, h => ⟨fun z => h.1 (z.sub fun _ => List.mem_append_left _), ind_left h.2⟩
/-- a basis of what ms make -/
def Bas (ms cs : List Nat) : Prop := Ind cs ∧ ∀ v, Sp cs v ↔ Sp ms v
theorem bas_len {ms ns cs ds : List Nat} (h : Bas ms cs) (k : Bas ns ds) (e : ∀ v, Sp ms v ↔ Sp ns v) : cs.length = ds.length := ind_len h.1 k.1 fun v => by rw [h.2, e, k.2]
/-- the two spans' common part has the dimension it should -/
theorem meet_dim {as : List Nat} {bs cb : List Nat} (hb : Bas bs cb) : ∃ ca cab cm : List Nat, Bas as ca ∧ Bas (as ++ bs) cab ∧ Ind cm ∧ (∀ v, Sp cm v ↔ Sp as v ∧ Sp bs v) ∧ cm.length + cab.length = ca.length + cb.length := by
  induction as with
  | nil =>
    refine ⟨[], cb, [], ⟨trivial, fun v => Iff.rfl⟩, hb, trivial, fun v => ⟨fun h => ⟨h, ?_⟩, fun h => h.1⟩, by simp⟩
    rw [Sp.nil_iff.mp h]
    exact .zero
  | cons v as ih =>
    obtain ⟨ca, cab, cm, ha, hab, im, hm, hl⟩ := ih
    by_cases h1 : Sp as v
    · have e1 : ∀ u, Sp as u ↔ Sp (v :: as) u := fun u => ⟨fun h => h.sub fun _ => List.mem_cons_of_mem _, fun h => h.mono fun m hm => by
        rcases List.mem_cons.mp hm with rfl | hm
        · exact h1
        · exact .mem hm⟩
      have e2 : ∀ u, Sp (as ++ bs) u ↔ Sp (v :: as ++ bs) u := fun u => ⟨fun h => h.sub fun _ => List.mem_cons_of_mem _, fun h => h.mono fun m hm => by
        rcases List.mem_cons.mp hm with rfl | hm
        · exact h1.sub fun _ => List.mem_append_left _
        · exact .mem hm⟩
      exact ⟨ca, cab, cm, ⟨ha.1, fun u => by rw [ha.2, e1]⟩, ⟨hab.1, fun u => by rw [hab.2, e2]⟩, im, fun u => by rw [hm, e1], hl⟩
    · have ba : Bas (v :: as) (v :: ca) := ⟨⟨fun z => h1 ((ha.2 v).mp z), ha.1⟩, fun u => by rw [Sp.cons_iff, Sp.cons_iff, ha.2, ha.2]⟩
      by_cases h2 : Sp (as ++ bs) v
      · -- v = a + b
        have split : ∀ {bs : List Nat} {u : Nat}, Sp (as ++ bs) u → ∃ a b, Sp as a ∧ Sp bs b ∧ u = a ^^^ b := by
          intro bs u h
          induction h with
          | zero => exact ⟨0, 0, .zero, .zero, rfl⟩
          | @add u m hm _ ih =>
            obtain ⟨a, b, h3, h4, rfl⟩ := ih
            rcases List.mem_append.mp hm with hm | hm
            · exact ⟨a ^^^ m, b, .add hm h3, h4, by rw [Nat.xor_assoc, Nat.xor_comm b, ← Nat.xor_assoc]⟩
            · exact ⟨a, b ^^^ m, h3, .add hm h4, by rw [Nat.xor_assoc]⟩
        obtain ⟨a, b, ha', hb', e⟩ := split h2
        have eb : v ^^^ a = b := by rw [e, Nat.xor_comm a, xor_self_cancel]
        have e2 : ∀ u, Sp (as ++ bs) u ↔ Sp (v :: as ++ bs) u := fun u => ⟨fun h => h.sub fun _ => List.mem_cons_of_mem _, fun h => h.mono fun m hm => by
          rcases List.mem_cons.mp hm with rfl | hm
          · exact h2
          · exact .mem hm⟩
        have nb : ¬ Sp as b := fun z => h1 (by rw [e]; exact ha'.xor z)
        refine ⟨v :: ca, cab, b :: cm, ba, ⟨hab.1, fun u => by rw [hab.2, e2]⟩, ⟨fun z => nb ((hm b).mp z).1, im⟩, fun u => ?_, by rw [List.length_cons, List.length_cons]; omega⟩
        rw [Sp.cons_iff, Sp.cons_iff]
        constructor
        · rintro (h | h)
          · exact ⟨.inl ((hm u).mp h).1, ((hm u).mp h).2⟩
          · obtain ⟨h3, h4⟩ := (hm _).mp h
            refine ⟨.inr ?_, ?_⟩
            · have := h3.xor ha'
              rw [show u ^^^ b ^^^ a = u ^^^ v by rw [Nat.xor_assoc, Nat.xor_comm b, ← e]] at this
              exact this
            · have := h4.xor hb'
              rw [xor_self_cancel] at this
              exact this
        · rintro ⟨h | h, h4⟩
          · exact .inl ((hm u).mpr ⟨h, h4⟩)
          · refine .inr ((hm _).mpr ⟨?_, h4.xor hb'⟩)
            have := h.xor ha'
            rw [show u ^^^ v ^^^ a = u ^^^ b by rw [Nat.xor_assoc, eb]] at this
            exact this
      · refine ⟨v :: ca, v :: cab, cm, ba, ⟨⟨fun z => h2 ((hab.2 v).mp z), hab.1⟩, fun u => by rw [List.cons_append, Sp.cons_iff, Sp.cons_iff, hab.2, hab.2]⟩, im, fun u => ?_, by rw [List.length_cons, List.length_cons]; omega⟩
        rw [Sp.cons_iff, hm]
        constructor
        · exact fun h => ⟨.inl h.1, h.2⟩
        · rintro ⟨h | h, h4⟩
          · exact ⟨h, h4⟩
          · refine absurd ?_ h2
            have := (h.sub (ns := as ++ bs) fun _ => List.mem_append_left _).xor (h4.sub fun _ => List.mem_append_right _)
            rw [Nat.xor_comm, ← Nat.xor_assoc, Nat.xor_self, Nat.zero_xor] at this
            exact this
end VL
namespace VL

/-! ## plain facts: rows taken down by steps -/
def hd (r : List Nat) : Nat := r.headD 0
def red (row : List Nat) : List (List Nat) → List Nat
  | [] => row
  | s :: ss => red (if hd row ^^^ hd s < hd row then List.zipWith (· ^^^ ·) row s else row) ss
/-- each step's top bit is in no later step -/
inductive Ech : List Nat → Prop
  | nil : Ech []
  | snoc {hs : List Nat} {h : Nat} : Ech hs → h ≠ 0 → (∀ g ∈ hs, h.testBit g.log2 = false) → Ech (hs ++ [h])
theorem lt_of_bit {x y : Nat} (i : Nat) (hx : x.testBit i = false) (hy : y.testBit i = true) (h : ∀ j, i < j → x.testBit j = y.testBit j) : x < y := by
  have q : x / 2 ^ (i + 1) = y / 2 ^ (i + 1) := by
    refine Nat.eq_of_testBit_eq fun j => ?_
    rw [Nat.testBit_div_two_pow, Nat.testBit_div_two_pow]
    exact h _ (by omega)
  rw [Nat.testBit_eq_decide_div_mod_eq] at hx hy
  have hx := of_decide_eq_false hx
  have hy := of_decide_eq_true hy
  rw [Nat.pow_succ, ← Nat.div_div_eq_div_mul, ← Nat.div_div_eq_div_mul] at q
  have hlt : x / 2 ^ i < y / 2 ^ i := by omega
  rcases Nat.lt_or_ge x y with z | z
  · exact z
  · exact absurd (Nat.div_le_div_right (c := 2 ^ i) z) (Nat.not_le_of_lt hlt)
theorem xor_lt_iff {x h : Nat} (hh : h ≠ 0) : x ^^^ h < x ↔ x.testBit h.log2 = true := by
  have top : h.testBit h.log2 = true := Nat.testBit_log2 hh
  have above : ∀ j, h.log2 < j → h.testBit j = false := fun j hj => Nat.testBit_lt_two_pow (Nat.lt_of_lt_of_le Nat.lt_log2_self (Nat.pow_le_pow_right (by decide) hj))
  constructor
  · intro hlt
    cases q : x.testBit h.log2 with
    | true => rfl
    | false =>
      refine absurd hlt (Nat.lt_asymm (lt_of_bit h.log2 q ?_ fun j hj => ?_))
      · rw [Nat.testBit_xor, q, top]
        rfl
      · rw [Nat.testBit_xor, above j hj, Bool.xor_false]
  · intro q
    refine lt_of_bit h.log2 ?_ q fun j hj => ?_
    · rw [Nat.testBit_xor, q, top]
      rfl
    · rw [Nat.testBit_xor, above j hj, Bool.xor_false]
/-- the head alone -/
def redN (x : Nat) : List Nat → Nat
  | [] => x
  | h :: hs => redN (if x ^^^ h < x then x ^^^ h else x) hs
theorem hd_red : ∀ (ss : List (List Nat)) (row : List Nat), row ≠ [] → (∀ s ∈ ss, s.length = row.length) → hd (red row ss) = redN (hd row) (ss.map hd) ∧ (red row ss).length = row.length
  | [], row, _, _ => ⟨rfl, rfl⟩
  | s :: ss, row, hn, hl => by
    have hs := hl s (List.mem_cons_self ..)
    cases row with
    | nil => exact absurd rfl hn
    | cons x xs =>
      cases s with
      | nil => cases hs
      | cons y ys =>
        have hlen : (List.zipWith (· ^^^ ·) (x :: xs) (y :: ys)).length = (x :: xs).length := by
          rw [List.length_zipWith, hs, Nat.min_self]
        by_cases h : x ^^^ y < x
        · have e1 : red (x :: xs) ((y :: ys) :: ss) = red (List.zipWith (· ^^^ ·) (x :: xs) (y :: ys)) ss := by
            show red (if x ^^^ y < x then _ else _) ss = _
            rw [if_pos h]
          obtain ⟨a, b⟩ := hd_red ss (List.zipWith (· ^^^ ·) (x :: xs) (y :: ys)) (by simp) fun t ht => (hl t (List.mem_cons_of_mem _ ht)).trans hlen.symm
          rw [e1, a, b, hlen]
          refine ⟨?_, rfl⟩
          show redN (x ^^^ y) _ = redN (if x ^^^ y < x then x ^^^ y else x) _
          rw [if_pos h]
        · have e1 : red (x :: xs) ((y :: ys) :: ss) = red (x :: xs) ss := by
            show red (if x ^^^ y < x then _ else _) ss = _
            rw [if_neg h]
          obtain ⟨a, b⟩ := hd_red ss (x :: xs) (by simp) fun t ht => hl t (List.mem_cons_of_mem _ ht)
          rw [e1, a, b]
          refine ⟨?_, rfl⟩
          show redN x _ = redN (if x ^^^ y < x then x ^^^ y else x) _
          rw [if_neg h]
theorem redN_append (x : Nat) (as bs : List Nat) : redN x (as ++ bs) = redN (redN x as) bs := by
  induction as generalizing x with
  | nil => rfl
  | cons a as ih => exact ih _
theorem redN_sp (x : Nat) : ∀ hs : List Nat, Sp hs (redN x hs ^^^ x)
  | [] => by
    show Sp [] (x ^^^ x)
    rw [Nat.xor_self]
    exact .zero
  | h :: hs => by
    show Sp (h :: hs) (redN (if x ^^^ h < x then x ^^^ h else x) hs ^^^ x)
    split
    · have := (redN_sp (x ^^^ h) hs).sub (ns := h :: hs) fun _ => List.mem_cons_of_mem _
      have := this.xor (.mem (List.mem_cons_self ..))
      rw [← Nat.xor_assoc, xor_self_cancel] at this
      exact this
    · exact (redN_sp x hs).sub fun _ => List.mem_cons_of_mem _
theorem redN_bits {hs : List Nat} (e : Ech hs) (x : Nat) : ∀ h ∈ hs, (redN x hs).testBit h.log2 = false := by
  induction e generalizing x with
  | nil => intro h hm; cases hm
  | @snoc hs h e hn hb ih =>
    intro g hg
    rw [redN_append]
    show (if redN x hs ^^^ h < redN x hs then redN x hs ^^^ h else redN x hs).testBit g.log2 = false
    have top : h.testBit h.log2 = true := Nat.testBit_log2 hn
    rcases List.mem_append.mp hg with hg | hg
    · split
      · rw [Nat.testBit_xor, ih x g hg, hb g hg]
        rfl
      · exact ih x g hg
    · rw [List.mem_singleton.mp hg]
      split
      · rename_i q
        rw [Nat.testBit_xor, (xor_lt_iff hn).mp q, top]
        rfl
      · rename_i q
        cases z : (redN x hs).testBit h.log2 with
        | false => rfl
        | true => exact absurd ((xor_lt_iff hn).mpr z) q
/-- in the span, with no top bit: nothing -/
theorem ech_zero {hs : List Nat} (e : Ech hs) {v : Nat} (h : Sp hs v) (hb : ∀ g ∈ hs, v.testBit g.log2 = false) : v = 0 := by
  have strong : ∀ (hs : List Nat), Ech hs → ∀ (ts : List Nat), (∀ g ∈ hs, ∀ t ∈ ts, t.testBit g.log2 = false) → ∀ v, Sp (hs ++ ts) v → (∀ g ∈ hs, v.testBit g.log2 = false) → Sp ts v := by
    intro hs e
    induction e with
    | nil => intro ts _ v h _; exact h
    | @snoc hs h e hn hb2 ih =>
      intro ts ht v hv hbv
      have top : h.testBit h.log2 = true := Nat.testBit_log2 hn
      have h1 : Sp (h :: ts) v := by
        refine ih (h :: ts) (fun g hg t htm => ?_) v (by rw [List.append_assoc] at hv; exact hv) fun g hg => hbv g (List.mem_append_left _ hg)
        rcases List.mem_cons.mp htm with rfl | htm
        · exact hb2 g hg
        · exact ht g (List.mem_append_left _ hg) t htm
      rcases Sp.cons_iff.mp h1 with z | z
      · exact z
      · have b1 := Sp.bit (i := h.log2) (fun t htm => ht h (List.mem_append_right _ (List.mem_singleton.mpr rfl)) t htm) z
        rw [Nat.testBit_xor, hbv h (List.mem_append_right _ (List.mem_singleton.mpr rfl)), top] at b1
        cases b1
  exact Sp.nil_iff.mp (strong hs e [] (fun _ _ _ h => nomatch h) v (by rw [List.append_nil]; exact h) hb)
theorem redN_zero {hs : List Nat} (e : Ech hs) (x : Nat) : redN x hs = 0 ↔ Sp hs x := by
  have h1 := redN_sp x hs
  constructor
  · intro z
    rw [z, Nat.zero_xor] at h1
    exact h1
  · intro z
    have := h1.xor z
    rw [xor_self_cancel] at this
    exact ech_zero e this (redN_bits e x)
theorem ech_ind {hs : List Nat} (e : Ech hs) : Ind hs.reverse := by
  induction e with
  | nil => trivial
  | @snoc hs h e hn hb ih =>
    rw [List.reverse_append]
    refine ⟨fun z => hn ?_, ih⟩
    have z : Sp hs h := z.sub fun m hm => List.mem_reverse.mp hm
    exact ech_zero e z hb
/-! ### the walk over marks -/
/-- the steps' heads behind the marks, and which marks made one -/
def walkB : List Nat → Nat → List Nat → List Nat → List Nat × List Nat
  | hs, _, fs, [] => (hs, fs)
  | hs, i, fs, m :: ms => if redN m hs ≠ 0 then walkB (hs ++ [redN m hs]) (i + 1) (fs ++ [i]) ms else walkB hs (i + 1) fs ms
theorem walkB_step {hs : List Nat} (e : Ech hs) {m : Nat} (hn : redN m hs ≠ 0) : Ech (hs ++ [redN m hs]) := .snoc e hn (redN_bits e m)
theorem sp_step {hs pre : List Nat} (e : Ech hs) (hp : ∀ v, Sp hs v ↔ Sp pre v) (m : Nat) : ∀ v, Sp (if redN m hs ≠ 0 then hs ++ [redN m hs] else hs) v ↔ Sp (pre ++ [m]) v := by
  intro v
  by_cases hn : redN m hs ≠ 0
  · rw [if_pos hn, Sp.snoc_iff, Sp.snoc_iff, ← hp, ← hp]
    refine or_congr Iff.rfl ?_
    have h1 := redN_sp m hs
    constructor
    · intro h
      have := h.xor h1
      rw [show v ^^^ redN m hs ^^^ (redN m hs ^^^ m) = v ^^^ m by rw [← Nat.xor_assoc, xor_self_cancel]] at this
      exact this
    · intro h
      have := h.xor h1
      rw [show v ^^^ m ^^^ (redN m hs ^^^ m) = v ^^^ redN m hs by rw [Nat.xor_comm (redN m hs), ← Nat.xor_assoc, xor_self_cancel]] at this
      exact this
  · rw [if_neg hn, hp, Sp.snoc_iff]
    have hn : redN m hs = 0 := Decidable.not_not.mp hn
    have hm : Sp pre m := (hp m).mp ((redN_zero e m).mp hn)
    constructor
    · exact .inl
    · rintro (h | h)
      · exact h
      · have := h.xor hm
        rw [xor_self_cancel] at this
        exact this
theorem walkB_ok : ∀ (ms : List Nat) {hs pre fs : List Nat} {i : Nat}, Ech hs → (∀ v, Sp hs v ↔ Sp pre v) → hs.length = fs.length → Ech (walkB hs i fs ms).1 ∧ (∀ v, Sp (walkB hs i fs ms).1 v ↔ Sp (pre ++ ms) v) ∧ (walkB hs i fs ms).1.length = (walkB hs i fs ms).2.length
  | [], hs, pre, fs, i, e, hp, hl => ⟨e, by rw [List.append_nil]; exact hp, hl⟩
  | m :: ms, hs, pre, fs, i, e, hp, hl => by
    have h2 := sp_step e hp m
    unfold walkB
    by_cases hn : redN m hs ≠ 0
    · rw [if_pos hn] at h2 ⊢
      have := walkB_ok ms (pre := pre ++ [m]) (fs := fs ++ [i]) (i := i + 1) (walkB_step e hn) h2 (by simp [hl])
      rw [List.append_assoc] at this
      exact this
    · rw [if_neg hn] at h2 ⊢
      have := walkB_ok ms (pre := pre ++ [m]) (fs := fs) (i := i + 1) e h2 hl
      rw [List.append_assoc] at this
      exact this
def baseF (ms : List Nat) : List Nat := (walkB [] 0 [] ms).2
def rankF (ms : List Nat) : Nat := (baseF ms).length
theorem base_bas (ms : List Nat) : Bas ms (walkB [] 0 [] ms).1.reverse ∧ (walkB [] 0 [] ms).1.reverse.length = rankF ms := by
  obtain ⟨h1, h2, h3⟩ := walkB_ok ms (hs := []) (pre := []) (fs := []) (i := 0) .nil (fun _ => Iff.rfl) rfl
  refine ⟨⟨ech_ind h1, fun v => ?_⟩, by rw [List.length_reverse, h3]; rfl⟩
  rw [← show Sp ([] ++ ms) v ↔ Sp ms v from Iff.rfl, ← h2]
  exact ⟨fun h => h.sub fun m hm => List.mem_reverse.mp hm, fun h => h.sub fun m hm => List.mem_reverse.mpr hm⟩
theorem rank_eq {ms ns : List Nat} (h : ∀ v, Sp ms v ↔ Sp ns v) : rankF ms = rankF ns := by
  rw [← (base_bas ms).2, ← (base_bas ns).2]
  exact bas_len (base_bas ms).1 (base_bas ns).1 h
theorem rank_card {ms l : List Nat} (nd : l.Nodup) (hm : ∀ v, v ∈ l ↔ Sp ms v) : l.length = 2 ^ rankF ms := by
  rw [← (base_bas ms).2]
  exact card_of (base_bas ms).1.1 nd fun v => by rw [hm, (base_bas ms).1.2]
theorem meet_rank {as bs l : List Nat} (nd : l.Nodup) (hm : ∀ v, v ∈ l ↔ Sp as v ∧ Sp bs v) : ∃ d, l.length = 2 ^ d ∧ d + rankF (as ++ bs) = rankF as + rankF bs := by
  obtain ⟨ca, cab, cm, h1, h2, h3, h4, h5⟩ := meet_dim (as := as) (base_bas bs).1
  refine ⟨cm.length, card_of h3 nd fun v => by rw [hm, h4], ?_⟩
  rw [(base_bas bs).2] at h5
  have e1 := bas_len h1 (base_bas as).1 fun _ => Iff.rfl
  have e2 := bas_len h2 (base_bas (as ++ bs)).1 fun _ => Iff.rfl
  rw [(base_bas as).2] at e1
  rw [(base_bas (as ++ bs)).2] at e2
  omega
end VL
namespace VL

/-! ## plain facts: what crosses nothing; pairs -/
theorem crs_sp {ms : List Nat} {x v : Nat} (h : ∀ m ∈ ms, crs x m = false) (k : Sp ms v) : crs x v = false := by
  induction k with
  | zero => rw [crs_comm]; exact crs_zero x
  | add hm _ ih => rw [crs_xor_r, ih, h _ hm]; rfl
def past (one mate m : Nat) : Nat := if crs m mate = true then (if crs m one = true then m ^^^ mate else m) ^^^ one else if crs m one = true then m ^^^ mate else m
def pairsF : Nat → List Nat → List Nat × List (Nat × Nat)
  | 0, _ => ([], [])
  | _ + 1, [] => ([], [])
  | n + 1, one :: r => match r.findIdx? (crs one) with
    | none => (one :: (pairsF n r).1, (pairsF n r).2)
    | some j => ((pairsF n ((r.eraseIdx j).map (past one (r.getD j 0)))).1, (one, r.getD j 0) :: (pairsF n ((r.eraseIdx j).map (past one (r.getD j 0)))).2)
theorem past_eq (one mate m : Nat) : ∃ a b : Bool, past one mate m = m ^^^ ((if a = true then mate else 0) ^^^ (if b = true then one else 0)) ∧ a = crs m one ∧ b = crs m mate := by
  refine ⟨crs m one, crs m mate, ?_, rfl, rfl⟩
  unfold past
  cases crs m one <;> cases crs m mate <;> simp [Nat.xor_assoc]
theorem past_one {one mate m : Nat} (h : crs one mate = true) : crs (past one mate m) one = false ∧ crs (past one mate m) mate = false := by
  have h2 : crs mate one = true := by rw [crs_comm]; exact h
  unfold past
  constructor
  · cases q : crs m one <;> cases q2 : crs m mate <;> simp [crs_xor_l, q, q2, h, h2, crs_self]
  · cases q : crs m one <;> cases q2 : crs m mate <;> simp [crs_xor_l, q, q2, h, h2, crs_self]
theorem past_sp {one mate m : Nat} {ms : List Nat} (h1 : Sp ms one) (h2 : Sp ms mate) : Sp ms (past one mate m ^^^ m) := by
  obtain ⟨a, b, e, _, _⟩ := past_eq one mate m
  rw [e, Nat.xor_comm, xor_cancel_left]
  refine Sp.xor ?_ ?_
  · split
    · exact h2
    · exact .zero
  · split
    · exact h1
    · exact .zero
theorem sp_swap {ms : List Nat} {a b : Nat} (h : Sp ms (a ^^^ b)) (k : Sp ms b) : Sp ms a := by
  have := h.xor k
  rw [xor_self_cancel] at this
  exact this
theorem erase_perm : ∀ (l : List Nat) (j : Nat) (h : j < l.length), (l[j] :: l.eraseIdx j).Perm l
  | a :: l, 0, _ => .refl _
  | a :: l, j + 1, h => by
    have ih := erase_perm l j (by simpa using h)
    exact (List.Perm.swap a _ _).trans (ih.cons a)
theorem pairs_ok : ∀ (n : Nat) (rest : List Nat), rest.length ≤ n → Ind rest → Ind (pairsF n rest).1 ∧ (∀ x, Sp (pairsF n rest).1 x ↔ Sp rest x ∧ ∀ y ∈ rest, crs x y = false) ∧ (pairsF n rest).1.length + 2 * (pairsF n rest).2.length = rest.length
  | 0, [], _, _ => ⟨trivial, fun x => ⟨fun h => ⟨h, fun _ h => nomatch h⟩, fun h => h.1⟩, rfl⟩
  | 0, _ :: _, h, _ => by simp at h
  | n + 1, [], _, _ => ⟨trivial, fun x => ⟨fun h => ⟨h, fun _ h => nomatch h⟩, fun h => h.1⟩, rfl⟩
  | n + 1, one :: r, hl, hi => by
    have hl : r.length ≤ n := by simpa using hl
    unfold pairsF
    cases hf : r.findIdx? (crs one) with
    | none =>
      obtain ⟨h1, h2, h3⟩ := pairs_ok n r hl hi.2
      have no : ∀ y ∈ r, crs one y = false := by simpa using List.findIdx?_eq_none_iff.mp hf
      have no2 : ∀ x, Sp r x → crs x one = false := fun x hx => by rw [crs_comm]; exact crs_sp no hx
      refine ⟨⟨fun z => hi.1 ((h2 _).mp z).1, h1⟩, fun x => ?_, by simp only [List.length_cons]; omega⟩
      dsimp only
      rw [Sp.cons_iff, Sp.cons_iff, h2, h2]
      have sh : ∀ y ∈ r, crs (x ^^^ one) y = crs x y := fun y hy => by rw [crs_xor_l, no y hy, Bool.xor_false]
      constructor
      · rintro (⟨h, k⟩ | ⟨h, k⟩)
        · refine ⟨.inl h, fun y hy => ?_⟩
          rcases List.mem_cons.mp hy with rfl | hy
          · exact no2 x h
          · exact k y hy
        · refine ⟨.inr h, fun y hy => ?_⟩
          rcases List.mem_cons.mp hy with rfl | hy
          · have := no2 _ h
            rw [crs_xor_l, crs_self, Bool.xor_false] at this
            exact this
          · rw [← sh y hy]
            exact k y hy
      · rintro ⟨h | h, k⟩
        · exact .inl ⟨h, fun y hy => k y (List.mem_cons_of_mem _ hy)⟩
        · exact .inr ⟨h, fun y hy => by rw [sh y hy]; exact k y (List.mem_cons_of_mem _ hy)⟩
    | some j =>
      obtain ⟨hj, hp, _⟩ := List.findIdx?_eq_some_iff_getElem.mp hf
      generalize hmate : r.getD j 0 = mate
      have em : r[j] = mate := by rw [← hmate, List.getD_eq_getElem?_getD, List.getElem?_eq_getElem hj]; rfl
      rw [em] at hp
      have hmr : mate ∈ r := by rw [← em]; exact List.getElem_mem hj
      generalize hr' : r.eraseIdx j = r'
      have perm : r.Perm (mate :: r') := by
        rw [← hr', ← em]
        exact (erase_perm r j hj).symm
      have ll : r'.length + 1 = r.length := by simpa using perm.length_eq.symm
      have mem' : ∀ y, y ∈ r ↔ y = mate ∨ y ∈ r' := fun y => by rw [perm.mem_iff, List.mem_cons]
      -- the rest behind the pair is independent with it
      have i1 : Ind (r' ++ [mate, one]) := by
        refine ind_perm ?_ hi
        refine (List.Perm.cons one perm).trans ?_
        refine (List.Perm.swap mate one r').trans ?_
        exact (List.perm_append_comm (l₁ := [mate, one]) (l₂ := r'))
      have same : ∀ (l : List Nat) (v : Nat), Sp (l.map (past one mate) ++ [mate, one]) v ↔ Sp (l ++ [mate, one]) v := fun l v => by
        have a1 : ∀ {l : List Nat}, Sp (l ++ [mate, one]) one ∧ Sp (l ++ [mate, one]) mate := ⟨.mem (by simp), .mem (by simp)⟩
        constructor
        · refine fun h => h.mono fun m hm => ?_
          rcases List.mem_append.mp hm with hm | hm
          · obtain ⟨m0, h0, rfl⟩ := List.mem_map.mp hm
            exact sp_swap (past_sp (a1).1 (a1).2) (.mem (List.mem_append_left _ h0))
          · exact .mem (List.mem_append_right _ hm)
        · refine fun h => h.mono fun m hm => ?_
          rcases List.mem_append.mp hm with hm | hm
          · have := past_sp (one := one) (mate := mate) (m := m) (a1 (l := l.map (past one mate))).1 (a1).2
            rw [Nat.xor_comm] at this
            exact sp_swap this (.mem (List.mem_append_left _ (List.mem_map_of_mem hm)))
          · exact .mem (List.mem_append_right _ hm)
      have i2 : ∀ l : List Nat, Ind (l ++ [mate, one]) → Ind (l.map (past one mate) ++ [mate, one]) := by
        intro l
        induction l with
        | nil => exact id
        | cons m l ih =>
          rintro ⟨h1, h2⟩
          refine ⟨fun z => h1 ?_, ih h2⟩
          have z := (same l _).mp z
          have := past_sp (one := one) (mate := mate) (m := m) (ms := l ++ [mate, one]) (.mem (by simp)) (.mem (by simp))
          rw [Nat.xor_comm] at this
          exact sp_swap this z
      have i3 : Ind (r'.map (past one mate)) := ind_left (i2 r' i1)
      have hlen : (r'.map (past one mate)).length ≤ n := by rw [List.length_map]; omega
      obtain ⟨h1, h2, h3⟩ := pairs_ok n (r'.map (past one mate)) hlen i3
      dsimp only
      rw [hmate, hr']
      refine ⟨h1, fun x => ?_, ?_⟩
      · rw [h2]
        have po : ∀ u, Sp (r'.map (past one mate)) u → crs u one = false ∧ crs u mate = false := fun u hu => by
          constructor
          · rw [crs_comm]
            refine crs_sp (fun m hm => ?_) hu
            obtain ⟨m0, h0, rfl⟩ := List.mem_map.mp hm
            rw [crs_comm]
            exact (past_one hp).1
          · rw [crs_comm]
            refine crs_sp (fun m hm => ?_) hu
            obtain ⟨m0, h0, rfl⟩ := List.mem_map.mp hm
            rw [crs_comm]
            exact (past_one hp).2
        have whole : ∀ v, Sp (one :: r) v ↔ Sp (r'.map (past one mate) ++ [mate, one]) v := fun v => by
          rw [same]
          constructor
          · exact fun h => h.sub fun y hy => by
              rcases List.mem_cons.mp hy with rfl | hy
              · simp
              · rcases (mem' y).mp hy with rfl | hy
                · simp
                · simp [hy]
          · exact fun h => h.sub fun y hy => by
              rcases List.mem_append.mp hy with hy | hy
              · exact List.mem_cons_of_mem _ ((mem' y).mpr (.inr hy))
              · rcases List.mem_cons.mp hy with rfl | hy
                · exact List.mem_cons_of_mem _ hmr
                · rw [List.mem_singleton.mp hy]
                  exact List.mem_cons_self ..
        constructor
        · rintro ⟨h, k⟩
          refine ⟨(whole x).mpr (h.sub fun _ => List.mem_append_left _), fun y hy => ?_⟩
          have k2 := crs_sp (ms := r'.map (past one mate) ++ [mate, one]) (x := x) (fun m hm => by
            rcases List.mem_append.mp hm with hm | hm
            · exact k m hm
            · rcases List.mem_cons.mp hm with rfl | hm
              · exact (po x h).2
              · rw [List.mem_singleton.mp hm]
                exact (po x h).1) ((whole y).mp (.mem hy))
          exact k2
        · rintro ⟨h, k⟩
          have h := (whole x).mp h
          have k3 : ∀ v, Sp (r'.map (past one mate) ++ [mate, one]) v → crs x v = false := fun v hv => crs_sp k ((whole v).mpr hv)
          rw [show r'.map (past one mate) ++ [mate, one] = (r'.map (past one mate) ++ [mate]) ++ [one] by simp, Sp.snoc_iff, Sp.snoc_iff, Sp.snoc_iff] at h
          have xo : crs x one = false := k3 one (.mem (by simp))
          have xm : crs x mate = false := k3 mate (.mem (by simp))
          have hp2 : crs mate one = true := by rw [crs_comm]; exact hp
          have fin : Sp (r'.map (past one mate)) x := by
            rcases h with (h | h) | (h | h)
            · exact h
            · have := (po _ h).1
              rw [crs_xor_l, xo, hp2] at this
              cases this
            · have := (po _ h).2
              rw [crs_xor_l, xm, hp] at this
              cases this
            · have := (po _ h).1
              rw [crs_xor_l, crs_xor_l, xo, crs_self, hp2] at this
              cases this
          exact ⟨fin, fun y hy => k3 y (.mem (List.mem_append_left _ hy))⟩
      · simp only [List.length_cons, List.length_map] at h3 ⊢
        omega
end VL
namespace VL

/-! ## plain facts: what tells the marks apart -/
def natOf : List Bool → Nat
  | [] => 0
  | b :: bs => (if b = true then 1 else 0) + 2 * natOf bs
theorem natOf_bit : ∀ (bs : List Bool) (i : Nat), (natOf bs).testBit i = bs.getD i false
  | [], i => by simp [natOf]
  | b :: bs, 0 => by
    unfold natOf
    rw [Nat.testBit_zero]
    cases b <;> simp <;> omega
  | b :: bs, i + 1 => by
    have e : ((if b = true then 1 else 0) + 2 * natOf bs) / 2 = natOf bs := by
      split <;> omega
    unfold natOf
    rw [Nat.testBit_succ, e, natOf_bit bs i]
    rfl
def patF (u : Nat) (ms : List Nat) : Nat := natOf (ms.map (crs u))
theorem patF_bit (u : Nat) (ms : List Nat) (i : Nat) : (patF u ms).testBit i = crs u (ms.getD i 0) := by
  unfold patF
  rw [natOf_bit, List.getD_eq_getElem?_getD, List.getD_eq_getElem?_getD, List.getElem?_map]
  cases ms[i]? with
  | none => simp [crs_comm u 0, crs_zero]
  | some m => rfl
theorem patF_xor (u v : Nat) (ms : List Nat) : patF (u ^^^ v) ms = patF u ms ^^^ patF v ms := by
  refine Nat.eq_of_testBit_eq fun i => ?_
  rw [Nat.testBit_xor, patF_bit, patF_bit, patF_bit, crs_xor_l]
/-- the xor of the marks that the bits of c choose -/
def selX : List Nat → Nat → Nat
  | [], _ => 0
  | m :: ms, c => (if c.testBit 0 = true then m else 0) ^^^ selX ms (c / 2)
theorem selX_xor : ∀ (ms : List Nat) (a b : Nat), selX ms (a ^^^ b) = selX ms a ^^^ selX ms b
  | [], _, _ => by simp [selX]
  | m :: ms, a, b => by
    have e : (a ^^^ b) / 2 = a / 2 ^^^ b / 2 := by
      have := shr_xor a b 1
      simpa [Nat.shiftRight_eq_div_pow] using this
    unfold selX
    rw [e, selX_xor ms, Nat.testBit_xor]
    generalize selX ms (a / 2) = p
    generalize selX ms (b / 2) = q
    cases a.testBit 0 <;> cases b.testBit 0 <;> simp [Nat.xor_assoc]
    · ac_rfl
    · rw [show p ^^^ (m ^^^ q) = m ^^^ (p ^^^ q) by rw [← Nat.xor_assoc, Nat.xor_comm p m, Nat.xor_assoc], xor_cancel_left]
theorem selX_zero : ∀ ms : List Nat, selX ms 0 = 0
  | [] => rfl
  | m :: ms => by
    unfold selX
    simp [selX_zero ms]
theorem selX_one : ∀ (ms : List Nat) (i : Nat), selX ms (1 <<< i) = ms.getD i 0
  | [], i => by simp [selX]
  | m :: ms, 0 => by
    unfold selX
    simp [selX_zero]
  | m :: ms, i + 1 => by
    have e : (1 <<< (i + 1)) / 2 = 1 <<< i := by
      rw [Nat.shiftLeft_succ]
      omega
    have z : (1 <<< (i + 1)).testBit 0 = false := by
      rw [Nat.shiftLeft_succ, Nat.testBit_zero]
      simp
    unfold selX
    rw [z, e, selX_one ms i]
    simp
/-! ### rows that carry how they came -/
def RowP (f : Nat → Nat) (row : List Nat) : Prop := ∃ c, row = [f c, c]
def RowQ (f : Nat → Nat) (d : Nat) (row : List Nat) : Prop := ∃ c, row = [d ^^^ f c, c]
theorem red_q {f : Nat → Nat} (hf : ∀ a b, f (a ^^^ b) = f a ^^^ f b) {d : Nat} : ∀ {ss : List (List Nat)} {row : List Nat}, (∀ s ∈ ss, RowP f s) → RowQ f d row → RowQ f d (red row ss)
  | [], _, _, h => h
  | s :: ss, row, hs, h => by
    show RowQ f d (red (if hd row ^^^ hd s < hd row then List.zipWith (· ^^^ ·) row s else row) ss)
    refine red_q hf (fun t ht => hs t (List.mem_cons_of_mem _ ht)) ?_
    split
    · obtain ⟨c, rfl⟩ := h
      obtain ⟨e, rfl⟩ := hs s (List.mem_cons_self ..)
      exact ⟨c ^^^ e, by rw [hf, ← Nat.xor_assoc]; rfl⟩
    · exact h
theorem red_p {f : Nat → Nat} (hf : ∀ a b, f (a ^^^ b) = f a ^^^ f b) {ss : List (List Nat)} {row : List Nat} (hs : ∀ s ∈ ss, RowP f s) (h : RowP f row) : RowP f (red row ss) := by
  obtain ⟨c, rfl⟩ := h
  obtain ⟨c', e⟩ := red_q hf (d := 0) hs ⟨c, by rw [Nat.zero_xor]⟩
  exact ⟨c', by rw [e, Nat.zero_xor]⟩
/-- the steps that rows make -/
def walkR : List (List Nat) → List (List Nat) → List (List Nat)
  | ss, [] => ss
  | ss, r :: rs => walkR (if hd (red r ss) ≠ 0 then ss ++ [red r ss] else ss) rs
theorem walkR_ok {f : Nat → Nat} (hf : ∀ a b, f (a ^^^ b) = f a ^^^ f b) : ∀ (rs : List (List Nat)) {ss : List (List Nat)} {pre : List Nat}, (∀ s ∈ ss, RowP f s) → (∀ r ∈ rs, RowP f r) → Ech (ss.map hd) → (∀ v, Sp (ss.map hd) v ↔ Sp pre v) →
    (∀ s ∈ walkR ss rs, RowP f s) ∧ Ech ((walkR ss rs).map hd) ∧ ∀ v, Sp ((walkR ss rs).map hd) v ↔ Sp (pre ++ rs.map hd) v
  | [], ss, pre, h1, _, h3, h4 => ⟨h1, h3, by rw [List.map_nil, List.append_nil]; exact h4⟩
  | r :: rs, ss, pre, h1, h2, h3, h4 => by
    have hr := h2 r (List.mem_cons_self ..)
    have hp := red_p hf h1 hr
    have hh : hd (red r ss) = redN (hd r) (ss.map hd) := by
      refine (hd_red ss r ?_ fun s hs => ?_).1
      · obtain ⟨c, rfl⟩ := hr
        simp
      · obtain ⟨c, rfl⟩ := hr
        obtain ⟨e, rfl⟩ := h1 s hs
        rfl
    have sp := sp_step h3 h4 (hd r)
    unfold walkR
    rw [List.map_cons, show pre ++ hd r :: rs.map hd = pre ++ [hd r] ++ rs.map hd by simp]
    by_cases hn : hd (red r ss) ≠ 0
    · rw [if_pos hn]
      rw [hh] at hn
      rw [if_pos hn] at sp
      refine walkR_ok hf rs (fun s hs => ?_) (fun s hs => h2 s (List.mem_cons_of_mem _ hs)) ?_ ?_
      · rcases List.mem_append.mp hs with hs | hs
        · exact h1 s hs
        · rw [List.mem_singleton.mp hs]
          exact hp
      · rw [List.map_append, List.map_singleton, hh]
        exact walkB_step h3 hn
      · rw [List.map_append, List.map_singleton, hh]
        exact sp
    · rw [if_neg hn]
      rw [hh] at hn
      rw [if_neg hn] at sp
      exact walkR_ok hf rs h1 (fun s hs => h2 s (List.mem_cons_of_mem _ hs)) h3 sp
/-! ### no row makes v: something tells it from all of them -/
def dotL : List Nat → Nat → Bool
  | [], _ => false
  | i :: S, h => h.testBit i ^^ dotL S h
theorem dotL_xor : ∀ (S : List Nat) (a b : Nat), dotL S (a ^^^ b) = (dotL S a ^^ dotL S b)
  | [], _, _ => rfl
  | i :: S, a, b => by
    unfold dotL
    rw [Nat.testBit_xor, dotL_xor S]
    cases a.testBit i <;> cases b.testBit i <;> cases dotL S a <;> cases dotL S b <;> rfl
theorem dotL_sp {S ms : List Nat} {v : Nat} (h : ∀ m ∈ ms, dotL S m = false) (k : Sp ms v) : dotL S v = false := by
  induction k with
  | zero =>
    have := dotL_xor S 0 0
    rw [Nat.xor_self, Bool.xor_self] at this
    exact this
  | add hm _ ih => rw [dotL_xor, ih, h _ hm]; rfl
theorem dual {hs : List Nat} (e : Ech hs) {v : Nat} (h : ¬ Sp hs v) : ∃ S, (∀ g ∈ hs, dotL S g = false) ∧ dotL S v = true := by
  -- first for a reduced value
  have strong : ∀ (hs : List Nat), Ech hs → ∀ (ts : List Nat) (r : Nat), (∀ g ∈ hs, r.testBit g.log2 = false) → (∀ g ∈ hs, ∀ t ∈ ts, t.testBit g.log2 = false) → (∃ S, (∀ t ∈ ts, dotL S t = false) ∧ dotL S r = true) →
      ∃ S, (∀ g ∈ hs ++ ts, dotL S g = false) ∧ dotL S r = true := by
    intro hs e
    induction e with
    | nil => intro ts r _ _ h; exact h
    | @snoc hs h e hn hb ih =>
      intro ts r hr ht hS
      have top : h.testBit h.log2 = true := Nat.testBit_log2 hn
      have hl : h ∈ hs ++ [h] := List.mem_append_right _ (List.mem_singleton.mpr rfl)
      rw [List.append_assoc]
      refine ih (h :: ts) r (fun g hg => hr g (List.mem_append_left _ hg)) (fun g hg t htm => ?_) ?_
      · rcases List.mem_cons.mp htm with rfl | htm
        · exact hb g hg
        · exact ht g (List.mem_append_left _ hg) t htm
      · obtain ⟨S, s1, s2⟩ := hS
        cases q : dotL S h with
        | false =>
          refine ⟨S, fun t htm => ?_, s2⟩
          rcases List.mem_cons.mp htm with rfl | htm
          · exact q
          · exact s1 t htm
        | true =>
          refine ⟨h.log2 :: S, fun t htm => ?_, ?_⟩
          · unfold dotL
            rcases List.mem_cons.mp htm with rfl | htm
            · rw [top, q]
              rfl
            · rw [ht h hl t htm, s1 t htm]
              rfl
          · unfold dotL
            rw [hr h hl, s2]
            rfl
  have hr : redN v hs ≠ 0 := fun z => h ((redN_zero e v).mp z)
  obtain ⟨S, s1, s2⟩ := strong hs e [] (redN v hs) (redN_bits e v) (fun _ _ _ h => nomatch h) ⟨[(redN v hs).log2], (fun _ h => nomatch h), by
    unfold dotL
    rw [Nat.testBit_log2 hr]
    rfl⟩
  rw [List.append_nil] at s1
  refine ⟨S, s1, ?_⟩
  have := dotL_sp s1 (redN_sp v hs)
  rw [dotL_xor, s2] at this
  cases q : dotL S v with
  | true => rfl
  | false => rw [q] at this; cases this
/-- bits at the wires alone -/
def Wd (w m : Nat) : Prop := ∀ i, m.testBit i = true → i < w ∨ (6 ≤ i ∧ i < 6 + w)
theorem wd_xor {w a b : Nat} (h : Wd w a) (k : Wd w b) : Wd w (a ^^^ b) := fun i hi => by
  rw [Nat.testBit_xor] at hi
  cases q : a.testBit i with
  | true => exact h i q
  | false =>
    rw [q, Bool.false_xor] at hi
    exact k i hi
def unitsF (w : Nat) : List Nat := (List.range w).map (fun i => 1 <<< i) ++ (List.range w).map fun i => 1 <<< (6 + i)
theorem crs_unit : ∀ i : Nat, i < 6 → ∀ y : Nat, crs (1 <<< i) y = y.testBit (6 + i) ∧ crs (1 <<< (6 + i)) y = y.testBit i := by
  intro i hi y
  have b : ∀ (j t : Nat), (1 <<< j).testBit t = decide (t = j) := fun j t => by
    rw [Nat.one_shiftLeft, Nat.testBit_two_pow]
    exact decide_eq_decide.mpr eq_comm
  have s : ∀ t, t < 6 → (63 : Nat).testBit t = true := by decide
  unfold crs par6
  simp only [Nat.testBit_and, Nat.testBit_shiftRight, b]
  have : i = 0 ∨ i = 1 ∨ i = 2 ∨ i = 3 ∨ i = 4 ∨ i = 5 := by omega
  rcases this with rfl | rfl | rfl | rfl | rfl | rfl <;> simp [s]
theorem nondeg {w y : Nat} (hw : w ≤ 6) (hy : Wd w y) (h : ∀ u ∈ unitsF w, crs u y = false) : y = 0 := by
  refine Nat.eq_of_testBit_eq fun i => ?_
  rw [Nat.zero_testBit]
  cases q : y.testBit i with
  | false => rfl
  | true =>
    rcases hy i q with hi | ⟨h6, hi⟩
    · have := h (1 <<< (6 + i)) (List.mem_append_right _ (List.mem_map.mpr ⟨i, List.mem_range.mpr hi, rfl⟩))
      rw [(crs_unit i (by omega) y).2, q] at this
      cases this
    · obtain ⟨j, rfl⟩ : ∃ j, i = 6 + j := ⟨i - 6, by omega⟩
      have := h (1 <<< j) (List.mem_append_left _ (List.mem_map.mpr ⟨j, List.mem_range.mpr (by omega), rfl⟩))
      rw [(crs_unit j (by omega) y).1, q] at this
      cases this
def xorL (ms : List Nat) : List Nat → Nat
  | [] => 0
  | i :: S => ms.getD i 0 ^^^ xorL ms S
theorem dot_pat (u : Nat) (ms : List Nat) : ∀ S : List Nat, dotL S (patF u ms) = crs u (xorL ms S)
  | [] => by
    show false = crs u 0
    rw [crs_comm, crs_zero]
  | i :: S => by
    unfold dotL xorL
    rw [crs_xor_r, patF_bit, dot_pat u ms S]
/-- a mark that the others do not make: some combination crosses it alone -/
theorem bar_is {w : Nat} {ms : List Nat} {m : Nat} (hw : w ≤ 6) (hms : ∀ x ∈ ms, Wd w x) (hm : Wd w m) (h : ¬ Sp ms m) : Sp ((unitsF w).map fun u => patF u (ms ++ [m])) (1 <<< ms.length) := by
  -- the rows' heads form an echelon of the same span
  let rows := (unitsF w).map fun u => [patF u (ms ++ [m]), u]
  obtain ⟨_, e, sp⟩ := walkR_ok (f := fun u => patF u (ms ++ [m])) (fun a b => patF_xor a b _) rows (ss := []) (pre := []) (fun _ h => nomatch h) (fun r hr => by
    obtain ⟨u, _, rfl⟩ := List.mem_map.mp hr
    exact ⟨u, rfl⟩) .nil fun _ => Iff.rfl
  have erow : rows.map hd = (unitsF w).map fun u => patF u (ms ++ [m]) := by
    show List.map hd (List.map _ _) = _
    rw [List.map_map]
    rfl
  rw [List.nil_append, erow] at sp
  rw [← sp]
  refine Classical.byContradiction fun no => ?_
  obtain ⟨S, s1, s2⟩ := dual e no
  have s3 : ∀ u ∈ unitsF w, dotL S (patF u (ms ++ [m])) = false := fun u hu => dotL_sp s1 ((sp _).mpr (.mem (List.mem_map.mpr ⟨u, hu, rfl⟩)))
  have wd : ∀ i, Wd w ((ms ++ [m]).getD i 0) := fun i => by
    rw [List.getD_eq_getElem?_getD]
    cases q : (ms ++ [m])[i]? with
    | none => intro j hj; simp at hj
    | some x =>
      have := List.mem_of_getElem? q
      rcases List.mem_append.mp this with z | z
      · exact hms x z
      · rw [List.mem_singleton.mp z]
        exact hm
  have wdX : ∀ S : List Nat, Wd w (xorL (ms ++ [m]) S) := by
    intro S
    induction S with
    | nil => intro j hj; simp [xorL] at hj
    | cons i S ih => exact wd_xor (wd i) ih
  have y0 : xorL (ms ++ [m]) S = 0 := nondeg hw (wdX S) fun u hu => by
    rw [← dot_pat]
    exact s3 u hu
  have key : ∀ S : List Nat, Sp ms (xorL (ms ++ [m]) S ^^^ if dotL S (1 <<< ms.length) = true then m else 0) := by
    intro S
    induction S with
    | nil =>
      show Sp ms (0 ^^^ if false = true then m else 0)
      simp
      exact .zero
    | cons i S ih =>
      unfold xorL dotL
      rw [Nat.one_shiftLeft, Nat.testBit_two_pow] at *
      by_cases hi : ms.length = i
      · subst hi
        have e1 : (ms ++ [m]).getD ms.length 0 = m := by simp [List.getD_eq_getElem?_getD]
        rw [e1]
        simp only [decide_true, Bool.true_xor]
        cases q : dotL S (2 ^ ms.length) with
        | true =>
          rw [q] at ih
          simp only [if_true] at ih
          simp only [Bool.not_true, Bool.false_eq_true, if_false, Nat.xor_zero]
          rw [Nat.xor_comm]
          exact ih
        | false =>
          rw [q] at ih
          simp only [Bool.false_eq_true, if_false, Nat.xor_zero] at ih
          simp only [Bool.not_false, if_true]
          rw [Nat.xor_comm m, xor_self_cancel]
          exact ih
      · rw [decide_eq_false hi, Bool.false_xor, Nat.xor_assoc]
        refine Sp.xor ?_ ih
        rw [List.getD_eq_getElem?_getD]
        cases q : (ms ++ [m])[i]? with
        | none => exact .zero
        | some x =>
          have hlt : i < ms.length := by
            have := (List.getElem?_eq_some_iff.mp q).1
            simp at this
            omega
          rw [List.getElem?_append_left hlt] at q
          exact .mem (List.mem_of_getElem? q)
  have := key S
  rw [y0, s2] at this
  simp at this
  exact h this
end VL
namespace VL
open PySem PySem.Spec L2

/-! ## k61: what each def promises -/
abbrev Wrd := List (Bool × Bool)
def cpOf : Bool × Bool → Nat
  | (false, false) => 73
  | (true, false) => 88
  | (true, true) => 89
  | (false, true) => 90
def sW (w : Wrd) : Str := ⟨(w.map cpOf).toArray⟩
def mk (w : Wrd) : Nat := natOf (w.map (·.1)) ||| (natOf (w.map (·.2)) <<< 6)
def wordF (m n : Nat) : Wrd := (List.range n).map fun i => (m.testBit i, m.testBit (6 + i))
def dN (n : Nat) : D := .int (n : Int)
def dR (r : List Nat) : D := .lst (r.map dN)
def rowsOf (ms : List Nat) : List (List Nat) := (List.range ms.length).map fun i => [ms.getD i 0, 1 <<< i]
def stepsF (ms : List Nat) : List (List Nat) := walkR [] (rowsOf ms)
def numsF (c : Nat) : List Nat := (List.range (if c = 0 then 0 else c.log2 + 1)).filter fun i => c.testBit i
def madeF (ms : List Nat) (m : Nat) : List Nat := red [m, 0] (stepsF ms)
def prowsF (ms : List Nat) (n : Nat) : List (List Nat) := walkR [] ((unitsF n).map fun u => [patF u ms, u])
def baseM (ms : List Nat) : List Nat := (baseF ms).map fun i => ms.getD i 0
def pairF (ms : List Nat) : List Nat × List (Nat × Nat) := pairsF (baseM ms).length (baseM ms)
/-- words of n wires, their marks -/
def wdsD (ws : List Wrd) : D := .tup (ws.map fun w => .str (sW w))
def wOk (n : Nat) (ws : List Wrd) : Prop := n ≤ 6 ∧ 1 ≤ n ∧ ws.length ≤ 12 ∧ ∀ w ∈ ws, w.length = n
def mks (ws : List Wrd) : List Nat := ws.map mk

def sp_mark_of : FSpec := ⟨[.mv], fun ds W => ∃ w : Wrd, w.length ≤ 6 ∧ ds = [.str (sW w)] ∧ W (.val (dN (mk w))) []⟩
def sp_letter_at : FSpec := ⟨[.mv, .mv], fun ds W => ∃ m i : Nat, ds = [dN m, dN i] ∧ W (.val (.str (sgn (cpOf (m.testBit i, m.testBit (6 + i)))))) []⟩
def sp_letters_of : FSpec := ⟨[.mv, .mv], fun ds W => ∃ m n : Nat, n ≤ 6 ∧ ds = [dN m, dN n] ∧ W (.val (.str (sW (wordF m n)))) []⟩
def sp_crosses : FSpec := ⟨[.mv, .mv], fun ds W => ∃ a b : Nat, ds = [dN a, dN b] ∧ W (.val (.bl (crs a b))) []⟩
def sp_is_integer : FSpec := ⟨[.mv, .mv, .mv], fun ds W => ∃ v lo hi : Int, ds = [.int v, .int lo, .int hi] ∧ W (.val (.bl (decide (lo ≤ v ∧ v ≤ hi)))) []⟩
def sp_is_tuple : FSpec := ⟨[.mv, .mv, .mv], fun ds W => ∃ (es : List D) (lo hi : Int), ds = [.tup es, .int lo, .int hi] ∧ W (.val (.bl (decide (lo ≤ (es.length : Int) ∧ (es.length : Int) ≤ hi)))) []⟩
def sp_is_letters : FSpec := ⟨[.mv, .mv], fun ds W => ∃ (w : Wrd) (n : Nat), w.length ≤ 100 ∧ ds = [.str (sW w), dN n] ∧ W (.val (.bl (decide (w.length = n)))) []⟩
def sp_check_letters : FSpec := ⟨[.mv, .mv], fun ds W => ∃ (w : Wrd), w.length ≤ 100 ∧ ds = [.str (sW w), dN w.length] ∧ W (.val .non) []⟩
def sp_check_number : FSpec := ⟨[.mv, .mv, .mv], fun ds W => ∃ v lo hi : Int, lo ≤ v ∧ v ≤ hi ∧ ds = [.int v, .int lo, .int hi] ∧ W (.val .non) []⟩
def sp_reduced : FSpec := ⟨[.mv, .bor], fun ds W => ∃ (r : List Nat) (ss : List (List Nat)), r ≠ [] ∧ r.length ≤ 100 ∧ (∀ s ∈ ss, s.length = r.length) ∧ ds = [dR r, .lst (ss.map dR)] ∧ W (.val (dR (red r ss))) []⟩
def sp_numbers_in : FSpec := ⟨[.mv], fun ds W => ∃ c : Nat, c < 2 ^ 60 ∧ ds = [dN c] ∧ W (.own ((numsF c).map dN)) []⟩
def sp_steps_of : FSpec := ⟨[.mv], fun ds W => ∃ ms : List Nat, ms.length ≤ 30 ∧ ds = [.lst (ms.map dN)] ∧ W (.own ((stepsF ms).map dR)) []⟩
def sp_base_of : FSpec := ⟨[.mv], fun ds W => ∃ ms : List Nat, ms.length ≤ 30 ∧ ds = [.lst (ms.map dN)] ∧ W (.own ((baseF ms).map dN)) []⟩
def sp_rank_of : FSpec := ⟨[.mv], fun ds W => ∃ ms : List Nat, ms.length ≤ 30 ∧ ds = [.lst (ms.map dN)] ∧ W (.val (dN (rankF ms))) []⟩
def sp_made_of : FSpec := ⟨[.mv, .mv], fun ds W => ∃ (ms : List Nat) (m : Nat), ms.length ≤ 30 ∧ ds = [.lst (ms.map dN), dN m] ∧ if hd (madeF ms m) = 0 then W (.own ((numsF ((madeF ms m).getD 1 0)).map dN)) [] else W (.val .non) []⟩
def sp_units : FSpec := ⟨[.mv], fun ds W => ∃ n : Nat, n ≤ 6 ∧ ds = [dN n] ∧ W (.own ((unitsF n).map dN)) []⟩
def sp_pattern : FSpec := ⟨[.mv, .mv], fun ds W => ∃ (u : Nat) (ms : List Nat), ms.length ≤ 30 ∧ ds = [dN u, .lst (ms.map dN)] ∧ W (.val (dN (patF u ms))) []⟩
def sp_parted_units : FSpec := ⟨[.mv, .mv], fun ds W => ∃ (ms : List Nat) (n : Nat), ms.length ≤ 30 ∧ n ≤ 6 ∧ ds = [.lst (ms.map dN), dN n] ∧ ∀ kept : List D, W (.val (.tup [.lst ((prowsF ms n).map dR), .lst kept])) []⟩
def sp_crossing_as : FSpec := ⟨[.mv, .mv, .mv], fun ds W => ∃ (ms : List Nat) (fl : List Bool) (n : Nat), ms.length ≤ 30 ∧ fl.length ≤ 30 ∧ n ≤ 6 ∧ ds = [.lst (ms.map dN), .lst (fl.map .bl), dN n] ∧ Sp ((unitsF n).map fun u => patF u ms) (natOf fl) ∧
  ∀ c : Nat, patF c ms = natOf fl → W (.val (dN c)) []⟩
def sp_bar_of : FSpec := ⟨[.mv, .mv, .mv], fun ds W => ∃ (ms : List Nat) (m n : Nat), ms.length ≤ 20 ∧ n ≤ 6 ∧ ds = [.lst (ms.map dN), dN m, dN n] ∧ (∀ x ∈ ms, Wd n x) ∧ Wd n m ∧ ¬ Sp ms m ∧ ∀ c : Nat, (∀ x ∈ ms, crs c x = false) → crs c m = true → W (.val (dN c)) []⟩
def sp_past_pair : FSpec := ⟨[.mv, .mv, .mv], fun ds W => ∃ m one mate : Nat, ds = [dN m, dN one, dN mate] ∧ W (.val (dN (past one mate m))) []⟩
def sp_pairs_of : FSpec := ⟨[.mv], fun ds W => ∃ ms : List Nat, ms.length ≤ 30 ∧ ds = [.lst (ms.map dN)] ∧ W (.val (.tup [.lst ((pairF ms).1.map dN), .lst ((pairF ms).2.map fun p => .tup [dN p.1, dN p.2])])) []⟩
def sp_marks_told : FSpec := ⟨[.mv, .mv], fun ds W => ∃ (ws : List Wrd) (n : Nat), wOk n ws ∧ ds = [wdsD ws, dN n] ∧ W (.own ((mks ws).map dN)) []⟩
def sp_marks_by : FSpec := ⟨[.mv, .mv], fun ds W => ∃ (ws : List Wrd) (n : Nat), wOk n ws ∧ ds = [dN n, wdsD ws] ∧ W (.own ((mks ws).map dN)) []⟩
def sp_rank : FSpec := ⟨[.mv, .mv], fun ds W => ∃ (ws : List Wrd) (n : Nat), wOk n ws ∧ ds = [dN n, wdsD ws] ∧ W (.val (dN (rankF (mks ws)))) []⟩
def sp_firsts : FSpec := ⟨[.mv, .mv], fun ds W => ∃ (ws : List Wrd) (n : Nat), wOk n ws ∧ ds = [dN n, wdsD ws] ∧ W (.val (.tup ((baseF (mks ws)).map dN))) []⟩
def sp_made : FSpec := ⟨[.mv, .mv, .mv], fun ds W => ∃ (ws : List Wrd) (w : Wrd) (n : Nat), wOk n ws ∧ w.length = n ∧ ds = [dN n, wdsD ws, .str (sW w)] ∧
  (Sp (mks ws) (mk w) → ∀ c : Nat, selX (mks ws) c = mk w → c < 2 ^ ws.length → W (.val (.tup [.str "made", .tup ((numsF c).map dN)])) []) ∧
  (¬ Sp (mks ws) (mk w) → ∀ c : Nat, (∀ x ∈ mks ws, crs c x = false) → crs c (mk w) = true → W (.val (.tup [.str "bar", .str (sW (wordF c n))])) [])⟩
def sp_within : FSpec := ⟨[.mv, .mv, .mv], fun ds W => ∃ (ws vs : List Wrd) (n : Nat), wOk n ws ∧ wOk n vs ∧ ds = [dN n, wdsD ws, wdsD vs] ∧
  ((∀ m ∈ mks ws, Sp (mks vs) m) → W (.val (.tup [.str "within"])) []) ∧ ((¬ ∀ m ∈ mks ws, Sp (mks vs) m) → ∀ (i : Nat) (z : Str), z.cps.all (· < 0x110000) = true → W (.val (.tup [.str "apart", dN i, .str z])) [])⟩
def sp_parted : FSpec := ⟨[.mv, .mv], fun ds W => ∃ (ws : List Wrd) (n : Nat), wOk n ws ∧ ds = [dN n, wdsD ws] ∧ ∀ xs ys : List D, xs.length = (pairF (mks ws)).1.length → ys.length = (pairF (mks ws)).2.length → W (.val (.tup [.tup xs, .tup ys])) []⟩
def sp_sizes_of : FSpec := ⟨[.mv], fun ds W => ∃ ms : List Nat, ms.length ≤ 30 ∧ ds = [.lst (ms.map dN)] ∧ W (.val (.tup [dN (pairF ms).1.length, dN (pairF ms).2.length])) []⟩
def sp_sizes : FSpec := ⟨[.mv, .mv], fun ds W => ∃ (ws : List Wrd) (n : Nat), wOk n ws ∧ ds = [dN n, wdsD ws] ∧ W (.val (.tup [dN (pairF (mks ws)).1.length, dN (pairF (mks ws)).2.length])) []⟩
/-! the law's own helpers -/
def potD (p : Int × Int × Int) : List D := [.int p.1, .int p.2.1, .int p.2.2]
def potOk (b : Nat) (p : Int × Int × Int) : Prop := 0 ≤ p.1 ∧ p.1 < 10 ^ 300 ∧ 0 ≤ p.2.1 ∧ p.2.1 < 2 ^ 61 ∧ 0 ≤ p.2.2 ∧ p.2.2 ≤ b
def sp__law_pot : FSpec := ⟨[.mv, .mv], fun ds W => ∃ (ns : List Int) (i : Nat), i ≤ 10 ∧ ns.length ≤ 63 ∧ ds = [.frl (ns.map .int), dN i] ∧ ∀ p, potOk 0 p → W (.own (potD p)) []⟩
def sp__law_take : FSpec := ⟨[.lnt, .mv], fun ds W => ∃ (p : Int × Int × Int) (b u : Nat), potOk b p ∧ b ≤ 10000 ∧ 1 ≤ u ∧ u ≤ 1000 ∧ ds = [.lst (potD p), dN u] ∧ ∀ (p' : Int × Int × Int) (d : Nat), potOk (b + 1) p' → d < u → W (.val (dN d)) [potD p']⟩
def sp__law_of : FSpec := ⟨[.lnt, .bor], fun ds W => ∃ (p : Int × Int × Int) (b : Nat) (es : List D), potOk b p ∧ b ≤ 10000 ∧ es ≠ [] ∧ es.length ≤ 1000 ∧ ds = [.lst (potD p), .lst es] ∧ ∀ (p' : Int × Int × Int) (d : D), potOk (b + 1) p' → d ∈ es → W (.val d) [potD p']⟩
def sp__law_some : FSpec := ⟨[.lnt, .mv, .mv], fun ds W => ∃ (p : Int × Int × Int) (b k : Nat) (es : List D), potOk b p ∧ b ≤ 9000 ∧ k ≤ es.length ∧ es.length ≤ 1000 ∧ ds = [.lst (potD p), .lst es, dN k] ∧ ∀ (p' : Int × Int × Int) (xs : List D), potOk (b + k) p' → (∀ x ∈ xs, x ∈ es) → W (.own xs) [potD p']⟩
def sp__law_cells : FSpec := ⟨[.mv, .mv], fun ds W => ∃ (ns : List Int) (k : Nat), 1 ≤ k ∧ k ≤ 10 ∧ ds = [.frl (ns.map .int), dN k] ∧ ∀ n : Nat, n ≤ k → W (.own ((List.range n).map dN)) []⟩
def xorW (u v : Wrd) : Wrd := List.zipWith (fun p q => (p.1 ^^ q.1, p.2 ^^ q.2)) u v
def sp__law_times : FSpec := ⟨[.mv, .mv], fun ds W => ∃ (u v : Wrd), u.length = v.length ∧ u.length ≤ 6 ∧ ds = [.tup [.int 0, .str (sW u)], .tup [.int 0, .str (sW v)]] ∧ ∀ q : Int, W (.val (.tup [.int q, .str (sW (xorW u v))])) []⟩
def sp__law_do_pass : FSpec := ⟨[.mv, .mv], fun ds W => ∃ (u v : Wrd), u.length = v.length ∧ u.length ≤ 6 ∧ ds = [.str (sW u), .str (sW v)] ∧ W (.val (.bl (!crs (mk u) (mk v)))) []⟩
def sp__law_letters_of : FSpec := ⟨[.mv, .mv], fun ds W => ∃ (u v : Wrd), u.length = v.length ∧ u.length ≤ 6 ∧ ds = [.str (sW u), .str (sW v)] ∧ W (.val (.str (sW (xorW u v)))) []⟩
def noneW (n : Nat) : Wrd := List.replicate n (false, false)
def sp__law_none : FSpec := ⟨[.mv], fun ds W => ∃ n : Nat, n ≤ 6 ∧ ds = [dN n] ∧ W (.val (.str (sW (noneW n)))) []⟩
/-- a dict whose keys are those words -/
def keysW (ws : List Wrd) : List Key := ws.map fun w => .inr (sW w)
def sp__law_span : FSpec := ⟨[.mv, .mv], fun ds W => ∃ (ws : List Wrd) (n : Nat), wOk n ws ∧ ws.length ≤ 6 ∧ ds = [wdsD ws, dN n] ∧ ∀ (l : List Wrd) (vs : List D), l.Nodup → (∀ v ∈ l, v.length = n) → (∀ v : Wrd, v.length = n → (v ∈ l ↔ Sp (mks ws) (mk v))) → l.length = 2 ^ rankF (mks ws) → W (.ownd (keysW l) vs) []⟩
def sp__law_any_letters : FSpec := ⟨[.lnt, .mv], fun ds W => ∃ (p : Int × Int × Int) (b n : Nat), potOk b p ∧ b ≤ 9000 ∧ n ≤ 6 ∧ ds = [.lst (potD p), dN n] ∧ ∀ (p' : Int × Int × Int) (w : Wrd), potOk (b + 6) p' → w.length = n → W (.val (.str (sW w))) [potD p']⟩
def sp__law_power : FSpec := ⟨[.mv], fun ds W => ∃ n : Nat, n ≤ 100 ∧ ds = [dN n] ∧ W (.val (dN (2 ^ n))) []⟩
def sp__law_makers : FSpec := ⟨[.lnt, .mv], fun ds W => ∃ (p : Int × Int × Int) (b n : Nat), potOk b p ∧ b ≤ 1000 ∧ 1 ≤ n ∧ n ≤ 6 ∧ ds = [.lst (potD p), dN n] ∧ ∀ (p' : Int × Int × Int) (ws : List Wrd), potOk (b + 100) p' → ws.length ≤ 6 → (∀ w ∈ ws, w.length = n) → W (.val (wdsD ws)) [potD p']⟩
def sp__law_is_made_right : FSpec := ⟨[.mv, .mv, .mv, .mv], fun ds W => ∃ (ws l : List Wrd) (w : Wrd) (n : Nat) (vs : List D), wOk n ws ∧ w.length = n ∧ l.Nodup ∧ (∀ v ∈ l, v.length = n) ∧ (∀ v : Wrd, v.length = n → (v ∈ l ↔ Sp (mks ws) (mk v))) ∧
  ds = [dN n, wdsD ws, .str (sW w), .dic (keysW l) vs] ∧ W (.val (.bl true)) []⟩
def sp__law_right : FSpec := ⟨[.lnt], fun ds W => ∃ p : Int × Int × Int, potOk 0 p ∧ ds = [.lst (potD p)] ∧ ∀ x, W (.val (.bl true)) [x]⟩
def sp_law : FSpec := ⟨[.mv], fun ds W => ∃ ns : List Int, ns.length ≤ 63 ∧ ds = [.frl (ns.map .int)] ∧ W (.val (.bl true)) []⟩
end VL
namespace VL
open PySem PySem.Spec L2

def g_APART : D := .str "apart"
def g_BAR : D := .str "bar"
def g_IDLE : D := .str "I"
def g_LETTERS : D := .str "IXYZ"
def g_LOW : D := .int 63
def g_MADE : D := .str "made"
def g_MOST_MAKERS : D := .int 12
def g_MOST_WIRES : D := .int 6
def g_ONES : D := .tup [.int 0, .int 1, .int 1, .int 2, .int 1, .int 2, .int 2, .int 3, .int 1, .int 2, .int 2, .int 3, .int 2, .int 3, .int 3, .int 4, .int 1, .int 2, .int 2, .int 3, .int 2, .int 3, .int 3, .int 4, .int 2, .int 3, .int 3, .int 4, .int 3, .int 4, .int 4, .int 5, .int 1, .int 2, .int 2, .int 3, .int 2, .int 3, .int 3, .int 4, .int 2, .int 3, .int 3, .int 4, .int 3, .int 4, .int 4, .int 5, .int 2, .int 3, .int 3, .int 4, .int 3, .int 4, .int 4, .int 5, .int 3, .int 4, .int 4, .int 5, .int 4, .int 5, .int 5, .int 6]
def g_TO_X : D := .str "X"
def g_TO_Y : D := .str "Y"
def g_TO_Z : D := .str "Z"
def g_WITHIN : D := .str "within"
def st_mark_of : Stmt := (PySem.Challenge.pw_guardedwires_k61_whole_two_spans_and_wha.main.body[8]?).getD (.Pass ⟨0, 0, 0, 0⟩)
def tc_mark_of : TC := ⟨["letters", "found", "wire", "letter"], defScope st_mark_of, 0, fun _ => true, [], [("TO_Y", g_TO_Y), ("TO_X", g_TO_X), ("TO_Z", g_TO_Z), ("MOST_WIRES", g_MOST_WIRES)], ["enumerate", "int"]⟩
def ir_mark_of : List IS := [.set 1 (.cst (.int 0)), .for_ (.tp [.nm 2, .nm 3]) (.enm (.var 0)) [.set 1 (.prim pwOr [.prim pwOr [.var 1, .prim pwShl [.prim pwInt [.prim pwIn [.var 3, .tup [.cst g_TO_X, .cst g_TO_Y]]], .var 2]], .prim pwShl [.prim pwInt [.prim pwIn [.var 3, .tup [.cst g_TO_Z, .cst g_TO_Y]]], .prim pwAdd [.cst g_MOST_WIRES, .var 2]]])], .ret (.var 1)]
theorem b_mark_of (k : KX) : SSs k (Ctx k tc_mark_of) (defBody st_mark_of) ir_mark_of :=
  (sss_cons (s_set 1 v_int) (sss_cons (s_for (i_enm 0 (v_var 0)) (g_tp 2 (gs_cons (g_nm 2) (gs_cons (g_nm 3) sgs_nil))) (sss_cons (s_set 1 (v_op .BitOr (v_op .BitOr (v_var 1) (v_op .LShift (v_ct 1 (fun X c => cr_int) (a_cons (v_cmp .In (v_var 3) (se_tup (a_cons (v_glob 1) (a_cons (v_glob 0) sa_nil)))) sa_nil)) (v_var 2))) (v_op .LShift (v_ct 1 (fun X c => cr_int) (a_cons (v_cmp .In (v_var 3) (se_tup (a_cons (v_glob 2) (a_cons (v_glob 0) sa_nil)))) sa_nil)) (v_op .Add (v_glob 3) (v_var 2))))) sss_nil)) (sss_cons (ss_ret (v_var 1)) sss_nil)))
theorem fs_mark_of : FnScope tc_mark_of.N ["letters"] (defScope st_mark_of) := ⟨rfl, rfl, rfl, by decide +kernel, rfl, by decide +kernel, by decide +kernel⟩
theorem bi_mark_of (kV doc pm : Value) (an : Option Addr) (cdv ct : Value) (us : List Value) (hl : us.length = 1) : bindArgs (PySem.W.fnOf "mark_of" "mark_of" (defArgs st_mark_of) (defBody st_mark_of) (defScope st_mark_of) .none kV doc pm an cdv ct) ⟨us, []⟩ = pure ((["letters"] : List Str).zip us) := match us, hl with | [_], _ => rfl
def st_letter_at : Stmt := (PySem.Challenge.pw_guardedwires_k61_whole_two_spans_and_wha.main.body[9]?).getD (.Pass ⟨0, 0, 0, 0⟩)
def tc_letter_at : TC := ⟨["mark", "wire"], defScope st_letter_at, 0, fun _ => true, [], [("MOST_WIRES", g_MOST_WIRES), ("TO_Z", g_TO_Z), ("IDLE", g_IDLE), ("TO_Y", g_TO_Y), ("TO_X", g_TO_X)], []⟩
def ir_letter_at : List IS := [.ite (.tv (.prim pwAnd [.prim pwShr [.var 0, .var 1], .cst (.int 1)])) [.ret (.ite (.tv (.prim pwAnd [.prim pwShr [.var 0, .prim pwAdd [.cst g_MOST_WIRES, .var 1]], .cst (.int 1)])) (.cst g_TO_Y) (.cst g_TO_X))] [], .ret (.ite (.tv (.prim pwAnd [.prim pwShr [.var 0, .prim pwAdd [.cst g_MOST_WIRES, .var 1]], .cst (.int 1)])) (.cst g_TO_Z) (.cst g_IDLE))]
theorem b_letter_at (k : KX) : SSs k (Ctx k tc_letter_at) (defBody st_letter_at) ir_letter_at :=
  (sss_cons (ss_ite (t_tv (v_op .BitAnd (v_op .RShift (v_var 0) (v_var 1)) v_int)) (sss_cons (ss_ret (se_ite (t_tv (v_op .BitAnd (v_op .RShift (v_var 0) (v_op .Add (v_glob 0) (v_var 1))) v_int)) (v_glob 3) (v_glob 4))) sss_nil) sss_nil) (sss_cons (ss_ret (se_ite (t_tv (v_op .BitAnd (v_op .RShift (v_var 0) (v_op .Add (v_glob 0) (v_var 1))) v_int)) (v_glob 1) (v_glob 2))) sss_nil))
theorem fs_letter_at : FnScope tc_letter_at.N ["mark", "wire"] (defScope st_letter_at) := ⟨rfl, rfl, rfl, by decide +kernel, rfl, by decide +kernel, by decide +kernel⟩
theorem bi_letter_at (kV doc pm : Value) (an : Option Addr) (cdv ct : Value) (us : List Value) (hl : us.length = 2) : bindArgs (PySem.W.fnOf "letter_at" "letter_at" (defArgs st_letter_at) (defBody st_letter_at) (defScope st_letter_at) .none kV doc pm an cdv ct) ⟨us, []⟩ = pure ((["mark", "wire"] : List Str).zip us) := match us, hl with | [_, _], _ => rfl
def st_crosses : Stmt := (PySem.Challenge.pw_guardedwires_k61_whole_two_spans_and_wha.main.body[11]?).getD (.Pass ⟨0, 0, 0, 0⟩)
def tc_crosses : TC := ⟨["one", "other", "found"], defScope st_crosses, 0, fun _ => true, [], [("ONES", g_ONES), ("MOST_WIRES", g_MOST_WIRES), ("LOW", g_LOW)], []⟩
def ir_crosses : List IS := [.set 2 (.prim pwAdd [.prim pwIx [.cst g_ONES, .prim pwAnd [.prim pwAnd [.var 0, .prim pwShr [.var 1, .cst g_MOST_WIRES]], .cst g_LOW]], .prim pwIx [.cst g_ONES, .prim pwAnd [.prim pwAnd [.prim pwShr [.var 0, .cst g_MOST_WIRES], .var 1], .cst g_LOW]]]), .ret (.prim pwEq [.prim pwMod [.var 2, .cst (.int 2)], .cst (.int 1)])]
theorem b_crosses (k : KX) : SSs k (Ctx k tc_crosses) (defBody st_crosses) ir_crosses :=
  (sss_cons (s_set 2 (v_op .Add (v_ix (v_glob 0) (v_op .BitAnd (v_op .BitAnd (v_var 0) (v_op .RShift (v_var 1) (v_glob 1))) (v_glob 2))) (v_ix (v_glob 0) (v_op .BitAnd (v_op .BitAnd (v_op .RShift (v_var 0) (v_glob 1)) (v_var 1)) (v_glob 2))))) (sss_cons (ss_ret (v_cmp .Eq (v_op .Mod (v_var 2) v_int) v_int)) sss_nil))
theorem fs_crosses : FnScope tc_crosses.N ["one", "other"] (defScope st_crosses) := ⟨rfl, rfl, rfl, by decide +kernel, rfl, by decide +kernel, by decide +kernel⟩
theorem bi_crosses (kV doc pm : Value) (an : Option Addr) (cdv ct : Value) (us : List Value) (hl : us.length = 2) : bindArgs (PySem.W.fnOf "crosses" "crosses" (defArgs st_crosses) (defBody st_crosses) (defScope st_crosses) .none kV doc pm an cdv ct) ⟨us, []⟩ = pure ((["one", "other"] : List Str).zip us) := match us, hl with | [_, _], _ => rfl
def st_is_integer : Stmt := (PySem.Challenge.pw_guardedwires_k61_whole_two_spans_and_wha.main.body[19]?).getD (.Pass ⟨0, 0, 0, 0⟩)
def tc_is_integer : TC := ⟨["value", "low", "high"], defScope st_is_integer, 0, fun _ => true, [], [], ["isinstance", "int", "bool"]⟩
def ir_is_integer : List IS := [.ret (.and (.prim (pwIsi "int") [.var 0]) (.and (.not (.prim (pwIsi "bool") [.var 0])) (.chain pwLe pwLe (.var 1) (.var 0) (.var 2))))]
theorem b_is_integer (k : KX) : SSs k (Ctx k tc_is_integer) (defBody st_is_integer) ir_is_integer :=
  (sss_cons (ss_ret (se_and (v_isi 0 1 (v_var 0)) (se_and (se_not (v_isi 0 2 (v_var 0))) (se_one (v_chain .LtE .LtE (v_var 1) (v_var 0) (v_var 2)))))) sss_nil)
theorem fs_is_integer : FnScope tc_is_integer.N ["value", "low", "high"] (defScope st_is_integer) := ⟨rfl, rfl, rfl, by decide +kernel, rfl, by decide +kernel, by decide +kernel⟩
theorem bi_is_integer (kV doc pm : Value) (an : Option Addr) (cdv ct : Value) (us : List Value) (hl : us.length = 3) : bindArgs (PySem.W.fnOf "is_integer" "is_integer" (defArgs st_is_integer) (defBody st_is_integer) (defScope st_is_integer) .none kV doc pm an cdv ct) ⟨us, []⟩ = pure ((["value", "low", "high"] : List Str).zip us) := match us, hl with | [_, _, _], _ => rfl
def st_is_tuple : Stmt := (PySem.Challenge.pw_guardedwires_k61_whole_two_spans_and_wha.main.body[20]?).getD (.Pass ⟨0, 0, 0, 0⟩)
def tc_is_tuple : TC := ⟨["value", "low", "high"], defScope st_is_tuple, 0, fun _ => true, [], [], ["isinstance", "tuple", "len"]⟩
def ir_is_tuple : List IS := [.ret (.and (.prim (pwIsi "tuple") [.var 0]) (.chain pwLe pwLe (.var 1) (.prim pwLen [.var 0]) (.var 2)))]
theorem b_is_tuple (k : KX) : SSs k (Ctx k tc_is_tuple) (defBody st_is_tuple) ir_is_tuple :=
  (sss_cons (ss_ret (se_and (v_isi 0 1 (v_var 0)) (se_one (v_chain .LtE .LtE (v_var 1) (v_cb 2 (fun X c => cr_len c.K.symm) (a_cons (v_var 0) sa_nil)) (v_var 2))))) sss_nil)
theorem fs_is_tuple : FnScope tc_is_tuple.N ["value", "low", "high"] (defScope st_is_tuple) := ⟨rfl, rfl, rfl, by decide +kernel, rfl, by decide +kernel, by decide +kernel⟩
theorem bi_is_tuple (kV doc pm : Value) (an : Option Addr) (cdv ct : Value) (us : List Value) (hl : us.length = 3) : bindArgs (PySem.W.fnOf "is_tuple" "is_tuple" (defArgs st_is_tuple) (defBody st_is_tuple) (defScope st_is_tuple) .none kV doc pm an cdv ct) ⟨us, []⟩ = pure ((["value", "low", "high"] : List Str).zip us) := match us, hl with | [_, _, _], _ => rfl
def st_is_letters : Stmt := (PySem.Challenge.pw_guardedwires_k61_whole_two_spans_and_wha.main.body[21]?).getD (.Pass ⟨0, 0, 0, 0⟩)
def tc_is_letters : TC := ⟨["value", "wires", "sign"], defScope st_is_letters, 0, fun _ => true, [], [("LETTERS", g_LETTERS)], ["isinstance", "str", "len", "all"]⟩
def ir_is_letters : List IS := [.ret (.and (.prim (pwIsi "str") [.var 0]) (.and (.prim pwEq [.prim pwLen [.var 0], .var 1]) (.prim pwAll [.lc [2] (.nm 2) (.seq (.var 0)) [] (.prim pwIn [.var 2, .cst g_LETTERS])])))]
theorem b_is_letters (k : KX) : SSs k (Ctx k tc_is_letters) (defBody st_is_letters) ir_is_letters :=
  (sss_cons (ss_ret (se_and (v_isi 0 1 (v_var 0)) (se_and (v_cmp .Eq (v_cb 2 (fun X c => cr_len c.K.symm) (a_cons (v_var 0) sa_nil)) (v_var 1)) (se_one (v_cb 3 (fun X c => cr_allP c.calm) (a_cons (SLc.se (l_lc [("sign", 2)] (i_seq (v_var 0)) (g_nm 2) sts_nil (v_cmp .In (v_var 2) (v_glob 0)))) sa_nil)))))) sss_nil)
theorem fs_is_letters : FnScope tc_is_letters.N ["value", "wires"] (defScope st_is_letters) := ⟨rfl, rfl, rfl, by decide +kernel, rfl, by decide +kernel, by decide +kernel⟩
theorem bi_is_letters (kV doc pm : Value) (an : Option Addr) (cdv ct : Value) (us : List Value) (hl : us.length = 2) : bindArgs (PySem.W.fnOf "is_letters" "is_letters" (defArgs st_is_letters) (defBody st_is_letters) (defScope st_is_letters) .none kV doc pm an cdv ct) ⟨us, []⟩ = pure ((["value", "wires"] : List Str).zip us) := match us, hl with | [_, _], _ => rfl
def st_reduced : Stmt := (PySem.Challenge.pw_guardedwires_k61_whole_two_spans_and_wha.main.body[25]?).getD (.Pass ⟨0, 0, 0, 0⟩)
def tc_reduced : TC := ⟨["row", "steps", "step", "one", "other"], defScope st_reduced, 0, fun _ => true, [], [], ["zip"]⟩
def ir_reduced : List IS := [.for_ (.nm 2) (.seq (.var 1)) [.ite (.bv (.prim pwLt [.prim pwXor [.prim pwIx [.var 0, .cst (.int 0)], .prim pwIx [.var 2, .cst (.int 0)]], .prim pwIx [.var 0, .cst (.int 0)]])) [.set 0 (.lc [3, 4] (.tp [.nm 3, .nm 4]) (.zip (.var 0) (.var 2)) [] (.prim pwXor [.var 3, .var 4]))] []], .ret (.var 0)]
theorem b_reduced (k : KX) : SSs k (Ctx k tc_reduced) (defBody st_reduced) ir_reduced :=
  (sss_cons (s_for (i_seq (v_var 1)) (g_nm 2) (sss_cons (ss_ite (t_cmp .Lt (v_op .BitXor (v_ix (v_var 0) v_int) (v_ix (v_var 2) v_int)) (v_ix (v_var 0) v_int)) (sss_cons (s_setLc 0 (l_lc [("one", 3), ("other", 4)] (i_zip 0 (v_var 0) (v_var 2)) (g_tp 2 (gs_cons (g_nm 3) (gs_cons (g_nm 4) sgs_nil))) sts_nil (v_op .BitXor (v_var 3) (v_var 4)))) sss_nil) sss_nil) sss_nil)) (sss_cons (ss_ret (v_var 0)) sss_nil))
theorem fs_reduced : FnScope tc_reduced.N ["row", "steps"] (defScope st_reduced) := ⟨rfl, rfl, rfl, by decide +kernel, rfl, by decide +kernel, by decide +kernel⟩
theorem bi_reduced (kV doc pm : Value) (an : Option Addr) (cdv ct : Value) (us : List Value) (hl : us.length = 2) : bindArgs (PySem.W.fnOf "reduced" "reduced" (defArgs st_reduced) (defBody st_reduced) (defScope st_reduced) .none kV doc pm an cdv ct) ⟨us, []⟩ = pure ((["row", "steps"] : List Str).zip us) := match us, hl with | [_, _], _ => rfl
def st_numbers_in : Stmt := (PySem.Challenge.pw_guardedwires_k61_whole_two_spans_and_wha.main.body[26]?).getD (.Pass ⟨0, 0, 0, 0⟩)
def tc_numbers_in : TC := ⟨["combination", "number"], defScope st_numbers_in, 0, fun _ => true, [], [], ["range"]⟩
def ir_numbers_in : List IS := [.ret (.lc [1] (.nm 1) (.rng1 (.prim pwBits [.var 0])) [.tv (.prim pwAnd [.prim pwShr [.var 0, .var 1], .cst (.int 1)])] (.var 1))]
theorem b_numbers_in (k : KX) : SSs k (Ctx k tc_numbers_in) (defBody st_numbers_in) ir_numbers_in :=
  (sss_cons (ss_ret (SLc.se (l_lc [("number", 1)] (i_rng1 0 (v_bits (v_var 0))) (g_nm 1) (sts_one (t_tv (v_op .BitAnd (v_op .RShift (v_var 0) (v_var 1)) v_int))) (v_var 1)))) sss_nil)
theorem fs_numbers_in : FnScope tc_numbers_in.N ["combination"] (defScope st_numbers_in) := ⟨rfl, rfl, rfl, by decide +kernel, rfl, by decide +kernel, by decide +kernel⟩
theorem bi_numbers_in (kV doc pm : Value) (an : Option Addr) (cdv ct : Value) (us : List Value) (hl : us.length = 1) : bindArgs (PySem.W.fnOf "numbers_in" "numbers_in" (defArgs st_numbers_in) (defBody st_numbers_in) (defScope st_numbers_in) .none kV doc pm an cdv ct) ⟨us, []⟩ = pure ((["combination"] : List Str).zip us) := match us, hl with | [_], _ => rfl
def st_units : Stmt := (PySem.Challenge.pw_guardedwires_k61_whole_two_spans_and_wha.main.body[31]?).getD (.Pass ⟨0, 0, 0, 0⟩)
def tc_units : TC := ⟨["wires", "wire"], defScope st_units, 0, fun _ => true, [], [("MOST_WIRES", g_MOST_WIRES)], ["range"]⟩
def ir_units : List IS := [.ret (.prim pwAdd [.lc [1] (.nm 1) (.rng1 (.var 0)) [] (.prim pwShl [.cst (.int 1), .var 1]), .lc [1] (.nm 1) (.rng1 (.var 0)) [] (.prim pwShl [.cst (.int 1), .prim pwAdd [.cst g_MOST_WIRES, .var 1]])])]
theorem b_units (k : KX) : SSs k (Ctx k tc_units) (defBody st_units) ir_units :=
  (sss_cons (ss_ret (v_op .Add (SLc.se (l_lc [("wire", 1)] (i_rng1 0 (v_var 0)) (g_nm 1) sts_nil (v_op .LShift v_int (v_var 1)))) (SLc.se (l_lc [("wire", 1)] (i_rng1 0 (v_var 0)) (g_nm 1) sts_nil (v_op .LShift v_int (v_op .Add (v_glob 0) (v_var 1))))))) sss_nil)
theorem fs_units : FnScope tc_units.N ["wires"] (defScope st_units) := ⟨rfl, rfl, rfl, by decide +kernel, rfl, by decide +kernel, by decide +kernel⟩
theorem bi_units (kV doc pm : Value) (an : Option Addr) (cdv ct : Value) (us : List Value) (hl : us.length = 1) : bindArgs (PySem.W.fnOf "units" "units" (defArgs st_units) (defBody st_units) (defScope st_units) .none kV doc pm an cdv ct) ⟨us, []⟩ = pure ((["wires"] : List Str).zip us) := match us, hl with | [_], _ => rfl
def st__law_pot : Stmt := (PySem.Challenge.pw_guardedwires_k61_whole_two_spans_and_wha.main.body[54]?).getD (.Pass ⟨0, 0, 0, 0⟩)
def tc__law_pot : TC := ⟨["script", "place", "cell", "own", "small"], defScope st__law_pot, 0, fun _ => true, [], [], ["int", "abs", "len", "sum"]⟩
def ir__law_pot : List IS := [.set 2 (.ite (.bv (.prim pwLt [.var 1, .prim pwLen [.var 0]])) (.prim pwIx [.var 0, .var 1]) (.prim pwAdd [.prim pwAdd [.prim pwMod [.prim pwSum [.slcH (.var 0) (.cst (.int 1))], .cst (.int 1000003)], .prim pwMul [.cst (.int 1196), .var 1]], .cst (.int 136)])), .set 3 (.prim pwMul [.prim pwMod [.prim pwInt [.prim pwAbs [.var 2]], .prim pwPow [.prim pwPow [.cst (.int 10), .cst (.int 60)], .cst (.int 5)]], .prim pwInt [.prim pwGe [.prim pwAbs [.var 2], .prim pwPow [.cst (.int 10), .cst (.int 18)]]]]), .set 4 (.prim pwMod [.prim pwInt [.var 2], .cst (.int 2305843009213693951)]), .ret (.lst [.var 3, .prim pwMod [.prim pwInt [.prim pwAdd [.prim pwAdd [.prim pwMul [.var 4, .cst (.int 79339)], .prim pwMul [.prim pwMul [.cst (.int 9910), .var 1], .var 1]], .cst (.int 1340)]], .cst (.int 2305843009213693921)], .cst (.int 0)])]
theorem b__law_pot (k : KX) : SSs k (Ctx k tc__law_pot) (defBody st__law_pot) ir__law_pot :=
  (sss_cons (s_set 2 (se_ite (t_cmp .Lt (v_var 1) (v_cb 2 (fun X c => cr_len c.K.symm) (a_cons (v_var 0) sa_nil))) (v_ix (v_var 0) (v_var 1)) (v_op .Add (v_op .Add (v_op .Mod (v_cb 3 (fun X c => cr_sumP c.calm c.K.symm) (a_cons (v_slcH (v_var 0) v_int) sa_nil)) v_int) (v_op .Mult v_int (v_var 1))) v_int))) (sss_cons (s_set 3 (v_op .Mult (v_op .Mod (v_ct 0 (fun X c => cr_int) (a_cons (v_cb 1 (fun X c => cr_abs) (a_cons (v_var 2) sa_nil)) sa_nil)) (v_op .Pow (v_op .Pow v_int v_int) v_int)) (v_ct 0 (fun X c => cr_int) (a_cons (v_cmp .GtE (v_cb 1 (fun X c => cr_abs) (a_cons (v_var 2) sa_nil)) (v_op .Pow v_int v_int)) sa_nil)))) (sss_cons (s_set 4 (v_op .Mod (v_ct 0 (fun X c => cr_int) (a_cons (v_var 2) sa_nil)) v_int)) (sss_cons (ss_ret (se_lst (a_cons (v_var 3) (a_cons (v_op .Mod (v_ct 0 (fun X c => cr_int) (a_cons (v_op .Add (v_op .Add (v_op .Mult (v_var 4) v_int) (v_op .Mult (v_op .Mult v_int (v_var 1)) (v_var 1))) v_int) sa_nil)) v_int) (a_cons v_int sa_nil))))) sss_nil))))
theorem fs__law_pot : FnScope tc__law_pot.N ["script", "place"] (defScope st__law_pot) := ⟨rfl, rfl, rfl, by decide +kernel, rfl, by decide +kernel, by decide +kernel⟩
theorem bi__law_pot (kV doc pm : Value) (an : Option Addr) (cdv ct : Value) (us : List Value) (hl : us.length = 2) : bindArgs (PySem.W.fnOf "_law_pot" "_law_pot" (defArgs st__law_pot) (defBody st__law_pot) (defScope st__law_pot) .none kV doc pm an cdv ct) ⟨us, []⟩ = pure ((["script", "place"] : List Str).zip us) := match us, hl with | [_, _], _ => rfl
def st__law_take : Stmt := (PySem.Challenge.pw_guardedwires_k61_whole_two_spans_and_wha.main.body[55]?).getD (.Pass ⟨0, 0, 0, 0⟩)
def tc__law_take : TC := ⟨["pot", "upto", "prime", "blend", "digit"], defScope st__law_take, 0, fun _ => true, [], [], ["int"]⟩
def ir__law_take : List IS := [.ite (.bv (.prim pwGt [.prim pwIx [.var 0, .cst (.int 0)], .cst (.int 0)])) [.set 4 (.prim pwMod [.prim pwInt [.prim pwIx [.var 0, .cst (.int 0)]], .var 1]), .setL 0 (.prim pwDiv [.prim pwIx [.var 0, .cst (.int 0)], .var 1]) (.cst (.int 0)), .ret (.var 4)] [], .setL 0 (.prim pwAdd [.prim pwIx [.var 0, .cst (.int 2)], .cst (.int 1)]) (.cst (.int 2)), .set 2 (.prim pwIx [.lst [.cst (.int 2147483647), .cst (.int 2147483629), .cst (.int 2147483587), .cst (.int 2147483579), .cst (.int 2147483563)], .prim pwMod [.prim pwInt [.prim pwIx [.var 0, .cst (.int 2)]], .cst (.int 5)]]), .set 3 (.prim pwMod [.prim pwInt [.prim pwPow [.prim pwInt [.prim pwAdd [.prim pwAdd [.prim pwIx [.var 0, .cst (.int 1)], .prim pwMul [.prim pwMul [.cst (.int 101755), .prim pwIx [.var 0, .cst (.int 2)]], .prim pwIx [.var 0, .cst (.int 2)]]], .cst (.int 826)]], .cst (.int 3)]], .var 2]), .set 3 (.prim pwMod [.prim pwInt [.prim pwMul [.var 3, .prim pwAdd [.prim pwMod [.prim pwInt [.var 3], .cst (.int 10060)], .prim pwMul [.cst (.int 479), .prim pwIx [.var 0, .cst (.int 2)]]]]], .cst (.int 2305843009213693907)]), .ret (.prim pwMod [.prim pwInt [.prim pwDiv [.var 3, .cst (.int 167)]], .var 1])]
theorem b__law_take (k : KX) : SSs k (Ctx k tc__law_take) (defBody st__law_take) ir__law_take :=
  (sss_cons (ss_ite (t_cmp .Gt (v_ix (v_var 0) v_int) v_int) (sss_cons (s_set 4 (v_op .Mod (v_ct 0 (fun X c => cr_int) (a_cons (v_ix (v_var 0) v_int) sa_nil)) (v_var 1))) (sss_cons (s_setL 0 (v_op .FloorDiv (v_ix (v_var 0) v_int) (v_var 1)) v_int) (sss_cons (ss_ret (v_var 4)) sss_nil))) sss_nil) (sss_cons (s_setL 0 (v_op .Add (v_ix (v_var 0) v_int) v_int) v_int) (sss_cons (s_set 2 (v_ix (se_lst (a_cons v_int (a_cons v_int (a_cons v_int (a_cons v_int (a_cons v_int sa_nil)))))) (v_op .Mod (v_ct 0 (fun X c => cr_int) (a_cons (v_ix (v_var 0) v_int) sa_nil)) v_int))) (sss_cons (s_set 3 (v_op .Mod (v_ct 0 (fun X c => cr_int) (a_cons (v_op .Pow (v_ct 0 (fun X c => cr_int) (a_cons (v_op .Add (v_op .Add (v_ix (v_var 0) v_int) (v_op .Mult (v_op .Mult v_int (v_ix (v_var 0) v_int)) (v_ix (v_var 0) v_int))) v_int) sa_nil)) v_int) sa_nil)) (v_var 2))) (sss_cons (s_set 3 (v_op .Mod (v_ct 0 (fun X c => cr_int) (a_cons (v_op .Mult (v_var 3) (v_op .Add (v_op .Mod (v_ct 0 (fun X c => cr_int) (a_cons (v_var 3) sa_nil)) v_int) (v_op .Mult v_int (v_ix (v_var 0) v_int)))) sa_nil)) v_int)) (sss_cons (ss_ret (v_op .Mod (v_ct 0 (fun X c => cr_int) (a_cons (v_op .FloorDiv (v_var 3) v_int) sa_nil)) (v_var 1))) sss_nil))))))
theorem fs__law_take : FnScope tc__law_take.N ["pot", "upto"] (defScope st__law_take) := ⟨rfl, rfl, rfl, by decide +kernel, rfl, by decide +kernel, by decide +kernel⟩
theorem bi__law_take (kV doc pm : Value) (an : Option Addr) (cdv ct : Value) (us : List Value) (hl : us.length = 2) : bindArgs (PySem.W.fnOf "_law_take" "_law_take" (defArgs st__law_take) (defBody st__law_take) (defScope st__law_take) .none kV doc pm an cdv ct) ⟨us, []⟩ = pure ((["pot", "upto"] : List Str).zip us) := match us, hl with | [_, _], _ => rfl
def st__law_cells : Stmt := (PySem.Challenge.pw_guardedwires_k61_whole_two_spans_and_wha.main.body[58]?).getD (.Pass ⟨0, 0, 0, 0⟩)
def tc__law_cells : TC := ⟨["script", "most"], defScope st__law_cells, 0, fun _ => true, [], [], ["list", "range", "max", "min", "len"]⟩
def ir__law_cells : List IS := [.ret (.prim pwListR [.prim pwMax [.cst (.int 1), .prim pwMin [.var 1, .prim pwLen [.var 0]]]])]
theorem b__law_cells (k : KX) : SSs k (Ctx k tc__law_cells) (defBody st__law_cells) ir__law_cells :=
  (sss_cons (ss_ret (v_lrng 0 1 (v_cb 2 (fun X c => cr_maxP c.calm c.K.symm) (a_cons v_int (a_cons (v_cb 3 (fun X c => cr_minP c.calm c.K.symm) (a_cons (v_var 1) (a_cons (v_cb 4 (fun X c => cr_len c.K.symm) (a_cons (v_var 0) sa_nil)) sa_nil))) sa_nil))))) sss_nil)
theorem fs__law_cells : FnScope tc__law_cells.N ["script", "most"] (defScope st__law_cells) := ⟨rfl, rfl, rfl, by decide +kernel, rfl, by decide +kernel, by decide +kernel⟩
theorem bi__law_cells (kV doc pm : Value) (an : Option Addr) (cdv ct : Value) (us : List Value) (hl : us.length = 2) : bindArgs (PySem.W.fnOf "_law_cells" "_law_cells" (defArgs st__law_cells) (defBody st__law_cells) (defScope st__law_cells) .none kV doc pm an cdv ct) ⟨us, []⟩ = pure ((["script", "most"] : List Str).zip us) := match us, hl with | [_, _], _ => rfl
def st__law_times : Stmt := (PySem.Challenge.pw_guardedwires_k61_whole_two_spans_and_wha.main.body[59]?).getD (.Pass ⟨0, 0, 0, 0⟩)
def tc__law_times : TC := ⟨["one", "other", "chart", "quarters", "letters", "mine", "its", "more", "letter"], defScope st__law_times, 0, fun _ => true, [], [], ["int", "zip"]⟩
def ir__law_times : List IS := [.set 2 (.dsp [.cst (.str "XY"), .tup [.cst (.int 1), .cst (.str "Z")], .cst (.str "YZ"), .tup [.cst (.int 1), .cst (.str "X")], .cst (.str "ZX"), .tup [.cst (.int 1), .cst (.str "Y")], .cst (.str "YX"), .tup [.cst (.int 3), .cst (.str "Z")], .cst (.str "ZY"), .tup [.cst (.int 3), .cst (.str "X")], .cst (.str "XZ"), .tup [.cst (.int 3), .cst (.str "Y")]]), .par [3, 4] [.prim pwAdd [.prim pwIx [.var 0, .cst (.int 0)], .prim pwIx [.var 1, .cst (.int 0)]], .cst (.str "")], .for_ (.tp [.nm 5, .nm 6]) (.zip (.prim pwIx [.var 0, .cst (.int 1)]) (.prim pwIx [.var 1, .cst (.int 1)])) [.asg (.tp [.nm 7, .nm 8]) (.get2 (.var 2) (.prim pwAdd [.var 5, .var 6]) (.tup [.cst (.int 0), .ite (.bv (.prim pwEq [.var 5, .cst (.str "I")])) (.var 6) (.ite (.bv (.prim pwEq [.var 6, .cst (.str "I")])) (.var 5) (.cst (.str "I")))])), .par [3, 4] [.prim pwAdd [.var 3, .var 7], .prim pwAdd [.var 4, .var 8]]], .ret (.tup [.prim pwMod [.prim pwInt [.var 3], .cst (.int 4)], .var 4])]
theorem b__law_times (k : KX) : SSs k (Ctx k tc__law_times) (defBody st__law_times) ir__law_times :=
  (sss_cons (s_set 2 (v_dsp (sps_cons v_str (se_tup (a_cons v_int (a_cons v_str sa_nil))) rfl rfl (sps_cons v_str (se_tup (a_cons v_int (a_cons v_str sa_nil))) rfl rfl (sps_cons v_str (se_tup (a_cons v_int (a_cons v_str sa_nil))) rfl rfl (sps_cons v_str (se_tup (a_cons v_int (a_cons v_str sa_nil))) rfl rfl (sps_cons v_str (se_tup (a_cons v_int (a_cons v_str sa_nil))) rfl rfl (sps_cons v_str (se_tup (a_cons v_int (a_cons v_str sa_nil))) rfl rfl sps_nil)))))))) (sss_cons (s_par 3 4 (v_op .Add (v_ix (v_var 0) v_int) (v_ix (v_var 1) v_int)) v_str) (sss_cons (s_for (i_zip 1 (v_ix (v_var 0) v_int) (v_ix (v_var 1) v_int)) (g_tp 2 (gs_cons (g_nm 5) (gs_cons (g_nm 6) sgs_nil))) (sss_cons (s_asg (v_get2 (v_var 2) (v_op .Add (v_var 5) (v_var 6)) (se_tup (a_cons v_int (a_cons (se_ite (t_cmp .Eq (v_var 5) v_str) (v_var 6) (se_ite (t_cmp .Eq (v_var 6) v_str) (v_var 5) v_str)) sa_nil)))) (g_tp 2 (gs_cons (g_nm 7) (gs_cons (g_nm 8) sgs_nil)))) (sss_cons (s_par 3 4 (v_op .Add (v_var 3) (v_var 7)) (v_op .Add (v_var 4) (v_var 8))) sss_nil))) (sss_cons (ss_ret (se_tup (a_cons (v_op .Mod (v_ct 0 (fun X c => cr_int) (a_cons (v_var 3) sa_nil)) v_int) (a_cons (v_var 4) sa_nil)))) sss_nil))))
theorem fs__law_times : FnScope tc__law_times.N ["one", "other"] (defScope st__law_times) := ⟨rfl, rfl, rfl, by decide +kernel, rfl, by decide +kernel, by decide +kernel⟩
theorem bi__law_times (kV doc pm : Value) (an : Option Addr) (cdv ct : Value) (us : List Value) (hl : us.length = 2) : bindArgs (PySem.W.fnOf "_law_times" "_law_times" (defArgs st__law_times) (defBody st__law_times) (defScope st__law_times) .none kV doc pm an cdv ct) ⟨us, []⟩ = pure ((["one", "other"] : List Str).zip us) := match us, hl with | [_, _], _ => rfl
def st__law_do_pass : Stmt := (PySem.Challenge.pw_guardedwires_k61_whole_two_spans_and_wha.main.body[60]?).getD (.Pass ⟨0, 0, 0, 0⟩)
def tc__law_do_pass : TC := ⟨["one", "other", "unlike", "mine", "its"], defScope st__law_do_pass, 0, fun _ => true, [], [], ["int", "sum", "zip"]⟩
def ir__law_do_pass : List IS := [.set 2 (.lc [3, 4] (.tp [.nm 3, .nm 4]) (.zip (.var 0) (.var 1)) [] (.and (.prim pwNe [.var 3, .var 4]) (.prim pwNotIn [.cst (.str "I"), .prim pwAdd [.var 3, .var 4]]))), .ret (.prim pwEq [.prim pwMod [.prim pwInt [.prim pwSum [.var 2]], .cst (.int 2)], .cst (.int 0)])]
theorem b__law_do_pass (k : KX) : SSs k (Ctx k tc__law_do_pass) (defBody st__law_do_pass) ir__law_do_pass :=
  (sss_cons (s_setLc 2 (l_lc [("mine", 3), ("its", 4)] (i_zip 2 (v_var 0) (v_var 1)) (g_tp 2 (gs_cons (g_nm 3) (gs_cons (g_nm 4) sgs_nil))) sts_nil (se_and (v_cmp .NotEq (v_var 3) (v_var 4)) (se_one (v_cmp .NotIn v_str (v_op .Add (v_var 3) (v_var 4))))))) (sss_cons (ss_ret (v_cmp .Eq (v_op .Mod (v_ct 0 (fun X c => cr_int) (a_cons (v_cb 1 (fun X c => cr_sumP c.calm c.K.symm) (a_cons (v_var 2) sa_nil)) sa_nil)) v_int) v_int)) sss_nil))
theorem fs__law_do_pass : FnScope tc__law_do_pass.N ["one", "other"] (defScope st__law_do_pass) := ⟨rfl, rfl, rfl, by decide +kernel, rfl, by decide +kernel, by decide +kernel⟩
theorem bi__law_do_pass (kV doc pm : Value) (an : Option Addr) (cdv ct : Value) (us : List Value) (hl : us.length = 2) : bindArgs (PySem.W.fnOf "_law_do_pass" "_law_do_pass" (defArgs st__law_do_pass) (defBody st__law_do_pass) (defScope st__law_do_pass) .none kV doc pm an cdv ct) ⟨us, []⟩ = pure ((["one", "other"] : List Str).zip us) := match us, hl with | [_, _], _ => rfl
def st__law_none : Stmt := (PySem.Challenge.pw_guardedwires_k61_whole_two_spans_and_wha.main.body[62]?).getD (.Pass ⟨0, 0, 0, 0⟩)
def tc__law_none : TC := ⟨["wires"], defScope st__law_none, 0, fun _ => true, [], [], []⟩
def ir__law_none : List IS := [.ret (.prim pwMul [.cst (.str "I"), .var 0])]
theorem b__law_none (k : KX) : SSs k (Ctx k tc__law_none) (defBody st__law_none) ir__law_none :=
  (sss_cons (ss_ret (v_op .Mult v_str (v_var 0))) sss_nil)
theorem fs__law_none : FnScope tc__law_none.N ["wires"] (defScope st__law_none) := ⟨rfl, rfl, rfl, by decide +kernel, rfl, by decide +kernel, by decide +kernel⟩
theorem bi__law_none (kV doc pm : Value) (an : Option Addr) (cdv ct : Value) (us : List Value) (hl : us.length = 1) : bindArgs (PySem.W.fnOf "_law_none" "_law_none" (defArgs st__law_none) (defBody st__law_none) (defScope st__law_none) .none kV doc pm an cdv ct) ⟨us, []⟩ = pure ((["wires"] : List Str).zip us) := match us, hl with | [_], _ => rfl
def st__law_power : Stmt := (PySem.Challenge.pw_guardedwires_k61_whole_two_spans_and_wha.main.body[65]?).getD (.Pass ⟨0, 0, 0, 0⟩)
def tc__law_power : TC := ⟨["many"], defScope st__law_power, 0, fun _ => true, [], [], ["int"]⟩
def ir__law_power : List IS := [.ret (.prim pwShl [.cst (.int 1), .prim pwInt [.var 0]])]
theorem b__law_power (k : KX) : SSs k (Ctx k tc__law_power) (defBody st__law_power) ir__law_power :=
  (sss_cons (ss_ret (v_op .LShift v_int (v_ct 0 (fun X c => cr_int) (a_cons (v_var 0) sa_nil)))) sss_nil)
theorem fs__law_power : FnScope tc__law_power.N ["many"] (defScope st__law_power) := ⟨rfl, rfl, rfl, by decide +kernel, rfl, by decide +kernel, by decide +kernel⟩
theorem bi__law_power (kV doc pm : Value) (an : Option Addr) (cdv ct : Value) (us : List Value) (hl : us.length = 1) : bindArgs (PySem.W.fnOf "_law_power" "_law_power" (defArgs st__law_power) (defBody st__law_power) (defScope st__law_power) .none kV doc pm an cdv ct) ⟨us, []⟩ = pure ((["many"] : List Str).zip us) := match us, hl with | [_], _ => rfl
def st_letters_of : Stmt := (PySem.Challenge.pw_guardedwires_k61_whole_two_spans_and_wha.main.body[10]?).getD (.Pass ⟨0, 0, 0, 0⟩)
def tc_letters_of : TC := ⟨["mark", "wires", "wire"], defScope st_letters_of, 1, fun _ => true, [("letter_at", sp_letter_at)], [], ["range"]⟩
def ir_letters_of : List IS := [.ret (.mth isStr pwJoin (.cst (.str "")) [.lc [2] (.nm 2) (.rng1 (.var 1)) [] (.call sp_letter_at [.var 0, .var 2])])]
theorem b_letters_of (k : KX) : SSs k (Ctx k tc_letters_of) (defBody st_letters_of) ir_letters_of :=
  (sss_cons (ss_ret (v_join v_str (SLc.se (l_lc [("wire", 2)] (i_rng1 0 (v_var 1)) (g_nm 2) sts_nil (v_fn 0 sp_letter_at (a_cons (v_var 0) (a_cons (v_var 2) sa_nil))))))) sss_nil)
theorem fs_letters_of : FnScope tc_letters_of.N ["mark", "wires"] (defScope st_letters_of) := ⟨rfl, rfl, rfl, by decide +kernel, rfl, by decide +kernel, by decide +kernel⟩
theorem bi_letters_of (kV doc pm : Value) (an : Option Addr) (cdv ct : Value) (us : List Value) (hl : us.length = 2) : bindArgs (PySem.W.fnOf "letters_of" "letters_of" (defArgs st_letters_of) (defBody st_letters_of) (defScope st_letters_of) .none kV doc pm an cdv ct) ⟨us, []⟩ = pure ((["mark", "wires"] : List Str).zip us) := match us, hl with | [_, _], _ => rfl
def st_check_letters : Stmt := (PySem.Challenge.pw_guardedwires_k61_whole_two_spans_and_wha.main.body[22]?).getD (.Pass ⟨0, 0, 0, 0⟩)
def tc_check_letters : TC := ⟨["value", "wires"], defScope st_check_letters, 1, fun _ => true, [("is_letters", sp_is_letters)], [], []⟩
def ir_check_letters : List IS := [.ite (.not (.bv (.call sp_is_letters [.var 0, .var 1]))) [.never] []]
theorem b_check_letters (k : KX) : SSs k (Ctx k tc_check_letters) (defBody st_check_letters) ir_check_letters :=
  (sss_cons (ss_ite (st_not (t_bv (v_fn 0 sp_is_letters (a_cons (v_var 0) (a_cons (v_var 1) sa_nil))))) (sss_cons ss_never sss_nil) sss_nil) sss_nil)
theorem fs_check_letters : FnScope tc_check_letters.N ["value", "wires"] (defScope st_check_letters) := ⟨rfl, rfl, rfl, by decide +kernel, rfl, by decide +kernel, by decide +kernel⟩
theorem bi_check_letters (kV doc pm : Value) (an : Option Addr) (cdv ct : Value) (us : List Value) (hl : us.length = 2) : bindArgs (PySem.W.fnOf "check_letters" "check_letters" (defArgs st_check_letters) (defBody st_check_letters) (defScope st_check_letters) .none kV doc pm an cdv ct) ⟨us, []⟩ = pure ((["value", "wires"] : List Str).zip us) := match us, hl with | [_, _], _ => rfl
def st_check_number : Stmt := (PySem.Challenge.pw_guardedwires_k61_whole_two_spans_and_wha.main.body[23]?).getD (.Pass ⟨0, 0, 0, 0⟩)
def tc_check_number : TC := ⟨["value", "low", "high"], defScope st_check_number, 1, fun _ => true, [("is_integer", sp_is_integer)], [], []⟩
def ir_check_number : List IS := [.ite (.not (.bv (.call sp_is_integer [.var 0, .var 1, .var 2]))) [.never] []]
theorem b_check_number (k : KX) : SSs k (Ctx k tc_check_number) (defBody st_check_number) ir_check_number :=
  (sss_cons (ss_ite (st_not (t_bv (v_fn 0 sp_is_integer (a_cons (v_var 0) (a_cons (v_var 1) (a_cons (v_var 2) sa_nil)))))) (sss_cons ss_never sss_nil) sss_nil) sss_nil)
theorem fs_check_number : FnScope tc_check_number.N ["value", "low", "high"] (defScope st_check_number) := ⟨rfl, rfl, rfl, by decide +kernel, rfl, by decide +kernel, by decide +kernel⟩
theorem bi_check_number (kV doc pm : Value) (an : Option Addr) (cdv ct : Value) (us : List Value) (hl : us.length = 3) : bindArgs (PySem.W.fnOf "check_number" "check_number" (defArgs st_check_number) (defBody st_check_number) (defScope st_check_number) .none kV doc pm an cdv ct) ⟨us, []⟩ = pure ((["value", "low", "high"] : List Str).zip us) := match us, hl with | [_, _, _], _ => rfl
def st_steps_of : Stmt := (PySem.Challenge.pw_guardedwires_k61_whole_two_spans_and_wha.main.body[27]?).getD (.Pass ⟨0, 0, 0, 0⟩)
def tc_steps_of : TC := ⟨["marks", "steps", "number", "mark", "row"], defScope st_steps_of, 1, fun _ => true, [("reduced", sp_reduced)], [], ["enumerate"]⟩
def ir_steps_of : List IS := [.set 1 (.lst []), .for_ (.tp [.nm 2, .nm 3]) (.enm (.var 0)) [.set 4 (.call sp_reduced [.lst [.var 3, .prim pwShl [.cst (.int 1), .var 2]], .var 1]), .ite (.bv (.prim pwNe [.prim pwIx [.var 4, .cst (.int 0)], .cst (.int 0)])) [.drop (.mut mwAppend 1 [.var 4])] []], .ret (.var 1)]
theorem b_steps_of (k : KX) : SSs k (Ctx k tc_steps_of) (defBody st_steps_of) ir_steps_of :=
  (sss_cons (s_set 1 (se_lst sa_nil)) (sss_cons (s_for (i_enm 0 (v_var 0)) (g_tp 2 (gs_cons (g_nm 2) (gs_cons (g_nm 3) sgs_nil))) (sss_cons (s_set 4 (v_fn 0 sp_reduced (a_cons (se_lst (a_cons (v_var 3) (a_cons (v_op .LShift v_int (v_var 2)) sa_nil))) (a_cons (v_var 1) sa_nil)))) (sss_cons (ss_ite (t_cmp .NotEq (v_ix (v_var 4) v_int) v_int) (sss_cons (s_drop (v_append 1 (v_var 4))) sss_nil) sss_nil) sss_nil))) (sss_cons (ss_ret (v_var 1)) sss_nil)))
theorem fs_steps_of : FnScope tc_steps_of.N ["marks"] (defScope st_steps_of) := ⟨rfl, rfl, rfl, by decide +kernel, rfl, by decide +kernel, by decide +kernel⟩
theorem bi_steps_of (kV doc pm : Value) (an : Option Addr) (cdv ct : Value) (us : List Value) (hl : us.length = 1) : bindArgs (PySem.W.fnOf "steps_of" "steps_of" (defArgs st_steps_of) (defBody st_steps_of) (defScope st_steps_of) .none kV doc pm an cdv ct) ⟨us, []⟩ = pure ((["marks"] : List Str).zip us) := match us, hl with | [_], _ => rfl
def st_base_of : Stmt := (PySem.Challenge.pw_guardedwires_k61_whole_two_spans_and_wha.main.body[28]?).getD (.Pass ⟨0, 0, 0, 0⟩)
def tc_base_of : TC := ⟨["marks", "steps", "found", "number", "mark", "row"], defScope st_base_of, 1, fun _ => true, [("reduced", sp_reduced)], [], ["enumerate"]⟩
def ir_base_of : List IS := [.par [1, 2] [.lst [], .lst []], .for_ (.tp [.nm 3, .nm 4]) (.enm (.var 0)) [.set 5 (.call sp_reduced [.lst [.var 4], .var 1]), .ite (.bv (.prim pwNe [.prim pwIx [.var 5, .cst (.int 0)], .cst (.int 0)])) [.drop (.mut mwAppend 1 [.var 5]), .drop (.mut mwAppend 2 [.var 3])] []], .ret (.var 2)]
theorem b_base_of (k : KX) : SSs k (Ctx k tc_base_of) (defBody st_base_of) ir_base_of :=
  (sss_cons (s_par 1 2 (se_lst sa_nil) (se_lst sa_nil)) (sss_cons (s_for (i_enm 0 (v_var 0)) (g_tp 2 (gs_cons (g_nm 3) (gs_cons (g_nm 4) sgs_nil))) (sss_cons (s_set 5 (v_fn 0 sp_reduced (a_cons (se_lst (a_cons (v_var 4) sa_nil)) (a_cons (v_var 1) sa_nil)))) (sss_cons (ss_ite (t_cmp .NotEq (v_ix (v_var 5) v_int) v_int) (sss_cons (s_drop (v_append 1 (v_var 5))) (sss_cons (s_drop (v_append 2 (v_var 3))) sss_nil)) sss_nil) sss_nil))) (sss_cons (ss_ret (v_var 2)) sss_nil)))
theorem fs_base_of : FnScope tc_base_of.N ["marks"] (defScope st_base_of) := ⟨rfl, rfl, rfl, by decide +kernel, rfl, by decide +kernel, by decide +kernel⟩
theorem bi_base_of (kV doc pm : Value) (an : Option Addr) (cdv ct : Value) (us : List Value) (hl : us.length = 1) : bindArgs (PySem.W.fnOf "base_of" "base_of" (defArgs st_base_of) (defBody st_base_of) (defScope st_base_of) .none kV doc pm an cdv ct) ⟨us, []⟩ = pure ((["marks"] : List Str).zip us) := match us, hl with | [_], _ => rfl
def st_pattern : Stmt := (PySem.Challenge.pw_guardedwires_k61_whole_two_spans_and_wha.main.body[32]?).getD (.Pass ⟨0, 0, 0, 0⟩)
def tc_pattern : TC := ⟨["mark", "marks", "number", "other"], defScope st_pattern, 1, fun _ => true, [("crosses", sp_crosses)], [], ["sum", "enumerate"]⟩
def ir_pattern : List IS := [.ret (.prim pwSum [.lc [2, 3] (.tp [.nm 2, .nm 3]) (.enm (.var 1)) [.bv (.call sp_crosses [.var 0, .var 3])] (.prim pwShl [.cst (.int 1), .var 2])])]
theorem b_pattern (k : KX) : SSs k (Ctx k tc_pattern) (defBody st_pattern) ir_pattern :=
  (sss_cons (ss_ret (v_cb 0 (fun X c => cr_sumP c.calm c.K.symm) (a_cons (SLc.se (l_lc [("number", 2), ("other", 3)] (i_enm 1 (v_var 1)) (g_tp 2 (gs_cons (g_nm 2) (gs_cons (g_nm 3) sgs_nil))) (sts_one (t_bv (v_fn 0 sp_crosses (a_cons (v_var 0) (a_cons (v_var 3) sa_nil))))) (v_op .LShift v_int (v_var 2)))) sa_nil))) sss_nil)
theorem fs_pattern : FnScope tc_pattern.N ["mark", "marks"] (defScope st_pattern) := ⟨rfl, rfl, rfl, by decide +kernel, rfl, by decide +kernel, by decide +kernel⟩
theorem bi_pattern (kV doc pm : Value) (an : Option Addr) (cdv ct : Value) (us : List Value) (hl : us.length = 2) : bindArgs (PySem.W.fnOf "pattern" "pattern" (defArgs st_pattern) (defBody st_pattern) (defScope st_pattern) .none kV doc pm an cdv ct) ⟨us, []⟩ = pure ((["mark", "marks"] : List Str).zip us) := match us, hl with | [_, _], _ => rfl
def st_past_pair : Stmt := (PySem.Challenge.pw_guardedwires_k61_whole_two_spans_and_wha.main.body[37]?).getD (.Pass ⟨0, 0, 0, 0⟩)
def tc_past_pair : TC := ⟨["mark", "one", "mate", "found"], defScope st_past_pair, 1, fun _ => true, [("crosses", sp_crosses)], [], []⟩
def ir_past_pair : List IS := [.set 3 (.ite (.bv (.call sp_crosses [.var 0, .var 1])) (.prim pwXor [.var 0, .var 2]) (.var 0)), .ret (.ite (.bv (.call sp_crosses [.var 0, .var 2])) (.prim pwXor [.var 3, .var 1]) (.var 3))]
theorem b_past_pair (k : KX) : SSs k (Ctx k tc_past_pair) (defBody st_past_pair) ir_past_pair :=
  (sss_cons (s_set 3 (se_ite (t_bv (v_fn 0 sp_crosses (a_cons (v_var 0) (a_cons (v_var 1) sa_nil)))) (v_op .BitXor (v_var 0) (v_var 2)) (v_var 0))) (sss_cons (ss_ret (se_ite (t_bv (v_fn 0 sp_crosses (a_cons (v_var 0) (a_cons (v_var 2) sa_nil)))) (v_op .BitXor (v_var 3) (v_var 1)) (v_var 3))) sss_nil))
theorem fs_past_pair : FnScope tc_past_pair.N ["mark", "one", "mate"] (defScope st_past_pair) := ⟨rfl, rfl, rfl, by decide +kernel, rfl, by decide +kernel, by decide +kernel⟩
theorem bi_past_pair (kV doc pm : Value) (an : Option Addr) (cdv ct : Value) (us : List Value) (hl : us.length = 3) : bindArgs (PySem.W.fnOf "past_pair" "past_pair" (defArgs st_past_pair) (defBody st_past_pair) (defScope st_past_pair) .none kV doc pm an cdv ct) ⟨us, []⟩ = pure ((["mark", "one", "mate"] : List Str).zip us) := match us, hl with | [_, _, _], _ => rfl
def st_marks_told : Stmt := (PySem.Challenge.pw_guardedwires_k61_whole_two_spans_and_wha.main.body[44]?).getD (.Pass ⟨0, 0, 0, 0⟩)
def tc_marks_told : TC := ⟨["makers", "wires", "one"], defScope st_marks_told, 1, fun _ => true, [("mark_of", sp_mark_of), ("is_tuple", sp_is_tuple), ("is_letters", sp_is_letters)], [("MOST_MAKERS", g_MOST_MAKERS)], ["all"]⟩
def ir_marks_told : List IS := [.ite (.or (.not (.bv (.call sp_is_tuple [.var 0, .cst (.int 0), .cst g_MOST_MAKERS]))) (.not (.bv (.prim pwAll [.lc [2] (.nm 2) (.seq (.var 0)) [] (.call sp_is_letters [.var 2, .var 1])])))) [.never] [], .ret (.lc [2] (.nm 2) (.seq (.var 0)) [] (.call sp_mark_of [.var 2]))]
theorem b_marks_told (k : KX) : SSs k (Ctx k tc_marks_told) (defBody st_marks_told) ir_marks_told :=
  (sss_cons (ss_ite (SW.st (sw_or (st_not (t_bv (v_fn 1 sp_is_tuple (a_cons (v_var 0) (a_cons v_int (a_cons (v_glob 0) sa_nil)))))) (sw_one_or (st_not (t_bv (v_cb 0 (fun X c => cr_allP c.calm) (a_cons (SLc.se (l_lc [("one", 2)] (i_seq (v_var 0)) (g_nm 2) sts_nil (v_fn 2 sp_is_letters (a_cons (v_var 2) (a_cons (v_var 1) sa_nil))))) sa_nil))))))) (sss_cons ss_never sss_nil) sss_nil) (sss_cons (ss_ret (SLc.se (l_lc [("one", 2)] (i_seq (v_var 0)) (g_nm 2) sts_nil (v_fn 0 sp_mark_of (a_cons (v_var 2) sa_nil))))) sss_nil))
theorem fs_marks_told : FnScope tc_marks_told.N ["makers", "wires"] (defScope st_marks_told) := ⟨rfl, rfl, rfl, by decide +kernel, rfl, by decide +kernel, by decide +kernel⟩
theorem bi_marks_told (kV doc pm : Value) (an : Option Addr) (cdv ct : Value) (us : List Value) (hl : us.length = 2) : bindArgs (PySem.W.fnOf "marks_told" "marks_told" (defArgs st_marks_told) (defBody st_marks_told) (defScope st_marks_told) .none kV doc pm an cdv ct) ⟨us, []⟩ = pure ((["makers", "wires"] : List Str).zip us) := match us, hl with | [_, _], _ => rfl
def st__law_of : Stmt := (PySem.Challenge.pw_guardedwires_k61_whole_two_spans_and_wha.main.body[56]?).getD (.Pass ⟨0, 0, 0, 0⟩)
def tc__law_of : TC := ⟨["pot", "some"], defScope st__law_of, 1, fun _ => true, [("_law_take", sp__law_take)], [], ["len"]⟩
def ir__law_of : List IS := [.ret (.prim pwIx [.var 1, .call sp__law_take [.var 0, .prim pwLen [.var 1]]])]
theorem b__law_of (k : KX) : SSs k (Ctx k tc__law_of) (defBody st__law_of) ir__law_of :=
  (sss_cons (ss_ret (v_ix (v_var 1) (v_fn 0 sp__law_take (a_cons (v_var 0) (a_cons (v_cb 0 (fun X c => cr_len c.K.symm) (a_cons (v_var 1) sa_nil)) sa_nil))))) sss_nil)
theorem fs__law_of : FnScope tc__law_of.N ["pot", "some"] (defScope st__law_of) := ⟨rfl, rfl, rfl, by decide +kernel, rfl, by decide +kernel, by decide +kernel⟩
theorem bi__law_of (kV doc pm : Value) (an : Option Addr) (cdv ct : Value) (us : List Value) (hl : us.length = 2) : bindArgs (PySem.W.fnOf "_law_of" "_law_of" (defArgs st__law_of) (defBody st__law_of) (defScope st__law_of) .none kV doc pm an cdv ct) ⟨us, []⟩ = pure ((["pot", "some"] : List Str).zip us) := match us, hl with | [_, _], _ => rfl
def st__law_some : Stmt := (PySem.Challenge.pw_guardedwires_k61_whole_two_spans_and_wha.main.body[57]?).getD (.Pass ⟨0, 0, 0, 0⟩)
def tc__law_some : TC := ⟨["pot", "pool", "many", "lap", "left", "found"], defScope st__law_some, 1, fun _ => true, [("_law_take", sp__law_take)], [], ["range", "len", "list"]⟩
def ir__law_some : List IS := [.par [4, 5] [.prim pwList [.var 1], .lst []], .for_ (.nm 3) (.rng1 (.var 2)) [.drop (.mut mwAppend 5 [.mut mwPop 4 [.call sp__law_take [.var 0, .prim pwLen [.var 4]]]])], .ret (.var 5)]
theorem b__law_some (k : KX) : SSs k (Ctx k tc__law_some) (defBody st__law_some) ir__law_some :=
  (sss_cons (s_par 4 5 (v_ct 2 (fun X c => cr_listP c.calm c.K.symm) (a_cons (v_var 1) sa_nil)) (se_lst sa_nil)) (sss_cons (s_for (i_rng1 0 (v_var 2)) (g_nm 3) (sss_cons (s_drop (v_append 5 (v_pop1 4 (v_fn 0 sp__law_take (a_cons (v_var 0) (a_cons (v_cb 1 (fun X c => cr_len c.K.symm) (a_cons (v_var 4) sa_nil)) sa_nil)))))) sss_nil)) (sss_cons (ss_ret (v_var 5)) sss_nil)))
theorem fs__law_some : FnScope tc__law_some.N ["pot", "pool", "many"] (defScope st__law_some) := ⟨rfl, rfl, rfl, by decide +kernel, rfl, by decide +kernel, by decide +kernel⟩
theorem bi__law_some (kV doc pm : Value) (an : Option Addr) (cdv ct : Value) (us : List Value) (hl : us.length = 3) : bindArgs (PySem.W.fnOf "_law_some" "_law_some" (defArgs st__law_some) (defBody st__law_some) (defScope st__law_some) .none kV doc pm an cdv ct) ⟨us, []⟩ = pure ((["pot", "pool", "many"] : List Str).zip us) := match us, hl with | [_, _, _], _ => rfl
def st__law_letters_of : Stmt := (PySem.Challenge.pw_guardedwires_k61_whole_two_spans_and_wha.main.body[61]?).getD (.Pass ⟨0, 0, 0, 0⟩)
def tc__law_letters_of : TC := ⟨["one", "other"], defScope st__law_letters_of, 1, fun _ => true, [("_law_times", sp__law_times)], [], []⟩
def ir__law_letters_of : List IS := [.ret (.prim pwIx [.call sp__law_times [.tup [.cst (.int 0), .var 0], .tup [.cst (.int 0), .var 1]], .cst (.int 1)])]
theorem b__law_letters_of (k : KX) : SSs k (Ctx k tc__law_letters_of) (defBody st__law_letters_of) ir__law_letters_of :=
  (sss_cons (ss_ret (v_ix (v_fn 0 sp__law_times (a_cons (se_tup (a_cons v_int (a_cons (v_var 0) sa_nil))) (a_cons (se_tup (a_cons v_int (a_cons (v_var 1) sa_nil))) sa_nil))) v_int)) sss_nil)
theorem fs__law_letters_of : FnScope tc__law_letters_of.N ["one", "other"] (defScope st__law_letters_of) := ⟨rfl, rfl, rfl, by decide +kernel, rfl, by decide +kernel, by decide +kernel⟩
theorem bi__law_letters_of (kV doc pm : Value) (an : Option Addr) (cdv ct : Value) (us : List Value) (hl : us.length = 2) : bindArgs (PySem.W.fnOf "_law_letters_of" "_law_letters_of" (defArgs st__law_letters_of) (defBody st__law_letters_of) (defScope st__law_letters_of) .none kV doc pm an cdv ct) ⟨us, []⟩ = pure ((["one", "other"] : List Str).zip us) := match us, hl with | [_, _], _ => rfl
def st_rank_of : Stmt := (PySem.Challenge.pw_guardedwires_k61_whole_two_spans_and_wha.main.body[29]?).getD (.Pass ⟨0, 0, 0, 0⟩)
def tc_rank_of : TC := ⟨["marks"], defScope st_rank_of, 2, fun _ => true, [("base_of", sp_base_of)], [], ["len"]⟩
def ir_rank_of : List IS := [.ret (.prim pwLen [.call sp_base_of [.var 0]])]
theorem b_rank_of (k : KX) : SSs k (Ctx k tc_rank_of) (defBody st_rank_of) ir_rank_of :=
  (sss_cons (ss_ret (v_cb 0 (fun X c => cr_len c.K.symm) (a_cons (v_fn 0 sp_base_of (a_cons (v_var 0) sa_nil)) sa_nil))) sss_nil)
theorem fs_rank_of : FnScope tc_rank_of.N ["marks"] (defScope st_rank_of) := ⟨rfl, rfl, rfl, by decide +kernel, rfl, by decide +kernel, by decide +kernel⟩
theorem bi_rank_of (kV doc pm : Value) (an : Option Addr) (cdv ct : Value) (us : List Value) (hl : us.length = 1) : bindArgs (PySem.W.fnOf "rank_of" "rank_of" (defArgs st_rank_of) (defBody st_rank_of) (defScope st_rank_of) .none kV doc pm an cdv ct) ⟨us, []⟩ = pure ((["marks"] : List Str).zip us) := match us, hl with | [_], _ => rfl
def st_made_of : Stmt := (PySem.Challenge.pw_guardedwires_k61_whole_two_spans_and_wha.main.body[30]?).getD (.Pass ⟨0, 0, 0, 0⟩)
def tc_made_of : TC := ⟨["marks", "mark", "row"], defScope st_made_of, 2, fun _ => true, [("numbers_in", sp_numbers_in), ("reduced", sp_reduced), ("steps_of", sp_steps_of)], [], []⟩
def ir_made_of : List IS := [.set 2 (.call sp_reduced [.lst [.var 1, .cst (.int 0)], .call sp_steps_of [.var 0]]), .ret (.ite (.bv (.prim pwEq [.prim pwIx [.var 2, .cst (.int 0)], .cst (.int 0)])) (.call sp_numbers_in [.prim pwIx [.var 2, .cst (.int 1)]]) (.cst .non))]
theorem b_made_of (k : KX) : SSs k (Ctx k tc_made_of) (defBody st_made_of) ir_made_of :=
  (sss_cons (s_set 2 (v_fn 1 sp_reduced (a_cons (se_lst (a_cons (v_var 1) (a_cons v_int sa_nil))) (a_cons (v_fn 2 sp_steps_of (a_cons (v_var 0) sa_nil)) sa_nil)))) (sss_cons (ss_ret (se_ite (t_cmp .Eq (v_ix (v_var 2) v_int) v_int) (v_fn 0 sp_numbers_in (a_cons (v_ix (v_var 2) v_int) sa_nil)) v_non)) sss_nil))
theorem fs_made_of : FnScope tc_made_of.N ["marks", "mark"] (defScope st_made_of) := ⟨rfl, rfl, rfl, by decide +kernel, rfl, by decide +kernel, by decide +kernel⟩
theorem bi_made_of (kV doc pm : Value) (an : Option Addr) (cdv ct : Value) (us : List Value) (hl : us.length = 2) : bindArgs (PySem.W.fnOf "made_of" "made_of" (defArgs st_made_of) (defBody st_made_of) (defScope st_made_of) .none kV doc pm an cdv ct) ⟨us, []⟩ = pure ((["marks", "mark"] : List Str).zip us) := match us, hl with | [_, _], _ => rfl
def st_parted_units : Stmt := (PySem.Challenge.pw_guardedwires_k61_whole_two_spans_and_wha.main.body[33]?).getD (.Pass ⟨0, 0, 0, 0⟩)
def tc_parted_units : TC := ⟨["marks", "wires", "unit", "steps", "kept", "row"], defScope st_parted_units, 2, fun _ => true, [("units", sp_units), ("reduced", sp_reduced), ("pattern", sp_pattern)], [], []⟩
def ir_parted_units : List IS := [.par [3, 4] [.lst [], .lst []], .for_ (.nm 2) (.seq (.call sp_units [.var 1])) [.set 5 (.call sp_reduced [.lst [.call sp_pattern [.var 2, .var 0], .var 2], .var 3]), .ite (.bv (.prim pwNe [.prim pwIx [.var 5, .cst (.int 0)], .cst (.int 0)])) [.drop (.mut mwAppend 3 [.var 5])] [.drop (.mut mwAppend 4 [.prim pwIx [.var 5, .cst (.int 1)]])]], .ret (.tup [.var 3, .var 4])]
theorem b_parted_units (k : KX) : SSs k (Ctx k tc_parted_units) (defBody st_parted_units) ir_parted_units :=
  (sss_cons (s_par 3 4 (se_lst sa_nil) (se_lst sa_nil)) (sss_cons (s_for (i_seq (v_fn 0 sp_units (a_cons (v_var 1) sa_nil))) (g_nm 2) (sss_cons (s_set 5 (v_fn 1 sp_reduced (a_cons (se_lst (a_cons (v_fn 2 sp_pattern (a_cons (v_var 2) (a_cons (v_var 0) sa_nil))) (a_cons (v_var 2) sa_nil))) (a_cons (v_var 3) sa_nil)))) (sss_cons (ss_ite (t_cmp .NotEq (v_ix (v_var 5) v_int) v_int) (sss_cons (s_drop (v_append 3 (v_var 5))) sss_nil) (sss_cons (s_drop (v_append 4 (v_ix (v_var 5) v_int))) sss_nil)) sss_nil))) (sss_cons (ss_ret (se_tup (a_cons (v_var 3) (a_cons (v_var 4) sa_nil)))) sss_nil)))
theorem fs_parted_units : FnScope tc_parted_units.N ["marks", "wires"] (defScope st_parted_units) := ⟨rfl, rfl, rfl, by decide +kernel, rfl, by decide +kernel, by decide +kernel⟩
theorem bi_parted_units (kV doc pm : Value) (an : Option Addr) (cdv ct : Value) (us : List Value) (hl : us.length = 2) : bindArgs (PySem.W.fnOf "parted_units" "parted_units" (defArgs st_parted_units) (defBody st_parted_units) (defScope st_parted_units) .none kV doc pm an cdv ct) ⟨us, []⟩ = pure ((["marks", "wires"] : List Str).zip us) := match us, hl with | [_, _], _ => rfl
def st_pairs_of : Stmt := (PySem.Challenge.pw_guardedwires_k61_whole_two_spans_and_wha.main.body[36]?).getD (.Pass ⟨0, 0, 0, 0⟩)
def tc_pairs_of : TC := ⟨["marks", "rest", "lone", "pairs", "one", "mates", "number", "mate", "at", "mark"], defScope st_pairs_of, 2, fun _ => true, [("past_pair", sp_past_pair), ("crosses", sp_crosses), ("base_of", sp_base_of)], [], ["enumerate"]⟩
def ir_pairs_of : List IS := [.set 1 (.lc [6] (.nm 6) (.seq (.call sp_base_of [.var 0])) [] (.prim pwIx [.var 0, .var 6])), .par [2, 3] [.lst [], .lst []], .while_ (.bv (.prim pwNe [.var 1, .lst []])) [.set 4 (.mut mwPop 1 [.cst (.int 0)]), .set 5 (.lc [8, 9] (.tp [.nm 8, .nm 9]) (.enm (.var 1)) [.bv (.call sp_crosses [.var 4, .var 9])] (.var 8)), .ite (.bv (.prim pwEq [.var 5, .lst []])) [.drop (.mut mwAppend 2 [.var 4])] [.set 7 (.mut mwPop 1 [.prim pwIx [.var 5, .cst (.int 0)]]), .drop (.mut mwAppend 3 [.tup [.var 4, .var 7]]), .set 1 (.lc [9] (.nm 9) (.seq (.var 1)) [] (.call sp_past_pair [.var 9, .var 4, .var 7]))]], .ret (.tup [.var 2, .var 3])]
theorem b_pairs_of (k : KX) : SSs k (Ctx k tc_pairs_of) (defBody st_pairs_of) ir_pairs_of :=
  (sss_cons (s_setLc 1 (l_lc [("number", 6)] (i_seq (v_fn 2 sp_base_of (a_cons (v_var 0) sa_nil))) (g_nm 6) sts_nil (v_ix (v_var 0) (v_var 6)))) (sss_cons (s_par 2 3 (se_lst sa_nil) (se_lst sa_nil)) (sss_cons (s_while (t_cmp .NotEq (v_var 1) (se_lst sa_nil)) (sss_cons (s_set 4 (v_pop1 1 v_int)) (sss_cons (s_setLc 5 (l_lc [("at", 8), ("mark", 9)] (i_enm 0 (v_var 1)) (g_tp 2 (gs_cons (g_nm 8) (gs_cons (g_nm 9) sgs_nil))) (sts_one (t_bv (v_fn 1 sp_crosses (a_cons (v_var 4) (a_cons (v_var 9) sa_nil))))) (v_var 8))) (sss_cons (ss_ite (t_cmp .Eq (v_var 5) (se_lst sa_nil)) (sss_cons (s_drop (v_append 2 (v_var 4))) sss_nil) (sss_cons (s_set 7 (v_pop1 1 (v_ix (v_var 5) v_int))) (sss_cons (s_drop (v_append 3 (se_tup (a_cons (v_var 4) (a_cons (v_var 7) sa_nil))))) (sss_cons (s_setLc 1 (l_lc [("mark", 9)] (i_seq (v_var 1)) (g_nm 9) sts_nil (v_fn 0 sp_past_pair (a_cons (v_var 9) (a_cons (v_var 4) (a_cons (v_var 7) sa_nil)))))) sss_nil)))) sss_nil)))) (sss_cons (ss_ret (se_tup (a_cons (v_var 2) (a_cons (v_var 3) sa_nil)))) sss_nil))))
theorem fs_pairs_of : FnScope tc_pairs_of.N ["marks"] (defScope st_pairs_of) := ⟨rfl, rfl, rfl, by decide +kernel, rfl, by decide +kernel, by decide +kernel⟩
theorem bi_pairs_of (kV doc pm : Value) (an : Option Addr) (cdv ct : Value) (us : List Value) (hl : us.length = 1) : bindArgs (PySem.W.fnOf "pairs_of" "pairs_of" (defArgs st_pairs_of) (defBody st_pairs_of) (defScope st_pairs_of) .none kV doc pm an cdv ct) ⟨us, []⟩ = pure ((["marks"] : List Str).zip us) := match us, hl with | [_], _ => rfl
def st_marks_by : Stmt := (PySem.Challenge.pw_guardedwires_k61_whole_two_spans_and_wha.main.body[45]?).getD (.Pass ⟨0, 0, 0, 0⟩)
def tc_marks_by : TC := ⟨["wires", "makers"], defScope st_marks_by, 2, fun _ => true, [("marks_told", sp_marks_told), ("check_number", sp_check_number)], [("MOST_WIRES", g_MOST_WIRES)], []⟩
def ir_marks_by : List IS := [.drop (.call sp_check_number [.var 0, .cst (.int 1), .cst g_MOST_WIRES]), .ret (.call sp_marks_told [.var 1, .var 0])]
theorem b_marks_by (k : KX) : SSs k (Ctx k tc_marks_by) (defBody st_marks_by) ir_marks_by :=
  (sss_cons (s_drop (v_fn 1 sp_check_number (a_cons (v_var 0) (a_cons v_int (a_cons (v_glob 0) sa_nil))))) (sss_cons (ss_ret (v_fn 0 sp_marks_told (a_cons (v_var 1) (a_cons (v_var 0) sa_nil)))) sss_nil))
theorem fs_marks_by : FnScope tc_marks_by.N ["wires", "makers"] (defScope st_marks_by) := ⟨rfl, rfl, rfl, by decide +kernel, rfl, by decide +kernel, by decide +kernel⟩
theorem bi_marks_by (kV doc pm : Value) (an : Option Addr) (cdv ct : Value) (us : List Value) (hl : us.length = 2) : bindArgs (PySem.W.fnOf "marks_by" "marks_by" (defArgs st_marks_by) (defBody st_marks_by) (defScope st_marks_by) .none kV doc pm an cdv ct) ⟨us, []⟩ = pure ((["wires", "makers"] : List Str).zip us) := match us, hl with | [_, _], _ => rfl
def st__law_span : Stmt := (PySem.Challenge.pw_guardedwires_k61_whole_two_spans_and_wha.main.body[63]?).getD (.Pass ⟨0, 0, 0, 0⟩)
def tc__law_span : TC := ⟨["some", "wires", "found", "one", "letters"], defScope st__law_span, 2, fun _ => true, [("_law_letters_of", sp__law_letters_of), ("_law_none", sp__law_none)], [], ["list"]⟩
def ir__law_span : List IS := [.set 2 (.dsp [.call sp__law_none [.var 1], .cst (.bl true)]), .for_ (.nm 3) (.seq (.var 0)) [.ite (.bv (.prim pwNotIn [.var 3, .var 2])) [.for_ (.nm 4) (.seq (.prim pwList [.var 2])) [.setD 2 (.cst (.bl true)) (.call sp__law_letters_of [.var 4, .var 3])]] []], .ret (.var 2)]
theorem b__law_span (k : KX) : SSs k (Ctx k tc__law_span) (defBody st__law_span) ir__law_span :=
  (sss_cons (s_set 2 (v_dsp (sps_cons (v_fn 1 sp__law_none (a_cons (v_var 1) sa_nil)) v_bl rfl rfl sps_nil))) (sss_cons (s_for (i_seq (v_var 0)) (g_nm 3) (sss_cons (ss_ite (t_cmp .NotIn (v_var 3) (v_var 2)) (sss_cons (s_for (i_seq (v_ct 0 (fun X c => cr_listP c.calm c.K.symm) (a_cons (v_var 2) sa_nil))) (g_nm 4) (sss_cons (s_setD 2 v_bl (v_fn 0 sp__law_letters_of (a_cons (v_var 4) (a_cons (v_var 3) sa_nil)))) sss_nil)) sss_nil) sss_nil) sss_nil)) (sss_cons (ss_ret (v_var 2)) sss_nil)))
theorem fs__law_span : FnScope tc__law_span.N ["some", "wires"] (defScope st__law_span) := ⟨rfl, rfl, rfl, by decide +kernel, rfl, by decide +kernel, by decide +kernel⟩
theorem bi__law_span (kV doc pm : Value) (an : Option Addr) (cdv ct : Value) (us : List Value) (hl : us.length = 2) : bindArgs (PySem.W.fnOf "_law_span" "_law_span" (defArgs st__law_span) (defBody st__law_span) (defScope st__law_span) .none kV doc pm an cdv ct) ⟨us, []⟩ = pure ((["some", "wires"] : List Str).zip us) := match us, hl with | [_, _], _ => rfl
def st__law_any_letters : Stmt := (PySem.Challenge.pw_guardedwires_k61_whole_two_spans_and_wha.main.body[64]?).getD (.Pass ⟨0, 0, 0, 0⟩)
def tc__law_any_letters : TC := ⟨["pot", "wires", "wire"], defScope st__law_any_letters, 2, fun _ => true, [("_law_of", sp__law_of)], [], ["list", "range"]⟩
def ir__law_any_letters : List IS := [.ret (.mth isStr pwJoin (.cst (.str "")) [.lc [2] (.nm 2) (.rng1 (.var 1)) [] (.call sp__law_of [.var 0, .prim pwList [.cst (.str "IXYZ")]])])]
theorem b__law_any_letters (k : KX) : SSs k (Ctx k tc__law_any_letters) (defBody st__law_any_letters) ir__law_any_letters :=
  (sss_cons (ss_ret (v_join v_str (SLc.se (l_lc [("wire", 2)] (i_rng1 1 (v_var 1)) (g_nm 2) sts_nil (v_fn 0 sp__law_of (a_cons (v_var 0) (a_cons (v_ct 0 (fun X c => cr_listP c.calm c.K.symm) (a_cons v_str sa_nil)) sa_nil))))))) sss_nil)
theorem fs__law_any_letters : FnScope tc__law_any_letters.N ["pot", "wires"] (defScope st__law_any_letters) := ⟨rfl, rfl, rfl, by decide +kernel, rfl, by decide +kernel, by decide +kernel⟩
theorem bi__law_any_letters (kV doc pm : Value) (an : Option Addr) (cdv ct : Value) (us : List Value) (hl : us.length = 2) : bindArgs (PySem.W.fnOf "_law_any_letters" "_law_any_letters" (defArgs st__law_any_letters) (defBody st__law_any_letters) (defScope st__law_any_letters) .none kV doc pm an cdv ct) ⟨us, []⟩ = pure ((["pot", "wires"] : List Str).zip us) := match us, hl with | [_, _], _ => rfl
def st_crossing_as : Stmt := (PySem.Challenge.pw_guardedwires_k61_whole_two_spans_and_wha.main.body[34]?).getD (.Pass ⟨0, 0, 0, 0⟩)
def tc_crossing_as : TC := ⟨["marks", "flags", "wires", "due", "row", "number", "flag"], defScope st_crossing_as, 3, fun _ => true, [("reduced", sp_reduced), ("parted_units", sp_parted_units)], [], ["sum", "enumerate"]⟩
def ir_crossing_as : List IS := [.set 3 (.prim pwSum [.lc [5, 6] (.tp [.nm 5, .nm 6]) (.enm (.var 1)) [.tv (.var 6)] (.prim pwShl [.cst (.int 1), .var 5])]), .set 4 (.call sp_reduced [.lst [.var 3, .cst (.int 0)], .prim pwIx [.call sp_parted_units [.var 0, .var 2], .cst (.int 0)]]), .ret (.ite (.bv (.prim pwEq [.prim pwIx [.var 4, .cst (.int 0)], .cst (.int 0)])) (.prim pwIx [.var 4, .cst (.int 1)]) (.cst .non))]
theorem b_crossing_as (k : KX) : SSs k (Ctx k tc_crossing_as) (defBody st_crossing_as) ir_crossing_as :=
  (sss_cons (s_set 3 (v_cb 0 (fun X c => cr_sumP c.calm c.K.symm) (a_cons (SLc.se (l_lc [("number", 5), ("flag", 6)] (i_enm 1 (v_var 1)) (g_tp 2 (gs_cons (g_nm 5) (gs_cons (g_nm 6) sgs_nil))) (sts_one (t_tv (v_var 6))) (v_op .LShift v_int (v_var 5)))) sa_nil))) (sss_cons (s_set 4 (v_fn 0 sp_reduced (a_cons (se_lst (a_cons (v_var 3) (a_cons v_int sa_nil))) (a_cons (v_ix (v_fn 1 sp_parted_units (a_cons (v_var 0) (a_cons (v_var 2) sa_nil))) v_int) sa_nil)))) (sss_cons (ss_ret (se_ite (t_cmp .Eq (v_ix (v_var 4) v_int) v_int) (v_ix (v_var 4) v_int) v_non)) sss_nil)))
theorem fs_crossing_as : FnScope tc_crossing_as.N ["marks", "flags", "wires"] (defScope st_crossing_as) := ⟨rfl, rfl, rfl, by decide +kernel, rfl, by decide +kernel, by decide +kernel⟩
theorem bi_crossing_as (kV doc pm : Value) (an : Option Addr) (cdv ct : Value) (us : List Value) (hl : us.length = 3) : bindArgs (PySem.W.fnOf "crossing_as" "crossing_as" (defArgs st_crossing_as) (defBody st_crossing_as) (defScope st_crossing_as) .none kV doc pm an cdv ct) ⟨us, []⟩ = pure ((["marks", "flags", "wires"] : List Str).zip us) := match us, hl with | [_, _, _], _ => rfl
def st_rank : Stmt := (PySem.Challenge.pw_guardedwires_k61_whole_two_spans_and_wha.main.body[46]?).getD (.Pass ⟨0, 0, 0, 0⟩)
def tc_rank : TC := ⟨["wires", "makers"], defScope st_rank, 3, fun _ => true, [("rank_of", sp_rank_of), ("marks_by", sp_marks_by)], [], []⟩
def ir_rank : List IS := [.ret (.call sp_rank_of [.call sp_marks_by [.var 0, .var 1]])]
theorem b_rank (k : KX) : SSs k (Ctx k tc_rank) (defBody st_rank) ir_rank :=
  (sss_cons (ss_ret (v_fn 0 sp_rank_of (a_cons (v_fn 1 sp_marks_by (a_cons (v_var 0) (a_cons (v_var 1) sa_nil))) sa_nil))) sss_nil)
theorem fs_rank : FnScope tc_rank.N ["wires", "makers"] (defScope st_rank) := ⟨rfl, rfl, rfl, by decide +kernel, rfl, by decide +kernel, by decide +kernel⟩
theorem bi_rank (kV doc pm : Value) (an : Option Addr) (cdv ct : Value) (us : List Value) (hl : us.length = 2) : bindArgs (PySem.W.fnOf "rank" "rank" (defArgs st_rank) (defBody st_rank) (defScope st_rank) .none kV doc pm an cdv ct) ⟨us, []⟩ = pure ((["wires", "makers"] : List Str).zip us) := match us, hl with | [_, _], _ => rfl
def st_firsts : Stmt := (PySem.Challenge.pw_guardedwires_k61_whole_two_spans_and_wha.main.body[47]?).getD (.Pass ⟨0, 0, 0, 0⟩)
def tc_firsts : TC := ⟨["wires", "makers"], defScope st_firsts, 3, fun _ => true, [("base_of", sp_base_of), ("marks_by", sp_marks_by)], [], ["tuple"]⟩
def ir_firsts : List IS := [.ret (.prim pwTuple [.call sp_base_of [.call sp_marks_by [.var 0, .var 1]]])]
theorem b_firsts (k : KX) : SSs k (Ctx k tc_firsts) (defBody st_firsts) ir_firsts :=
  (sss_cons (ss_ret (v_ct 0 (fun X c => cr_tupleP c.K.symm) (a_cons (v_fn 0 sp_base_of (a_cons (v_fn 1 sp_marks_by (a_cons (v_var 0) (a_cons (v_var 1) sa_nil))) sa_nil)) sa_nil))) sss_nil)
theorem fs_firsts : FnScope tc_firsts.N ["wires", "makers"] (defScope st_firsts) := ⟨rfl, rfl, rfl, by decide +kernel, rfl, by decide +kernel, by decide +kernel⟩
theorem bi_firsts (kV doc pm : Value) (an : Option Addr) (cdv ct : Value) (us : List Value) (hl : us.length = 2) : bindArgs (PySem.W.fnOf "firsts" "firsts" (defArgs st_firsts) (defBody st_firsts) (defScope st_firsts) .none kV doc pm an cdv ct) ⟨us, []⟩ = pure ((["wires", "makers"] : List Str).zip us) := match us, hl with | [_, _], _ => rfl
def st_parted : Stmt := (PySem.Challenge.pw_guardedwires_k61_whole_two_spans_and_wha.main.body[50]?).getD (.Pass ⟨0, 0, 0, 0⟩)
def tc_parted : TC := ⟨["wires", "makers", "rows", "lone", "pairs", "one", "other"], defScope st_parted, 3, fun _ => true, [("letters_of", sp_letters_of), ("pairs_of", sp_pairs_of), ("marks_by", sp_marks_by)], [], ["tuple"]⟩
def ir_parted : List IS := [.asg (.tp [.nm 3, .nm 4]) (.call sp_pairs_of [.call sp_marks_by [.var 0, .var 1]]), .set 2 (.lc [5, 6] (.tp [.nm 5, .nm 6]) (.seq (.var 4)) [] (.tup [.call sp_letters_of [.var 5, .var 0], .call sp_letters_of [.var 6, .var 0]])), .ret (.tup [.prim pwTuple [.lc [5] (.nm 5) (.seq (.var 3)) [] (.call sp_letters_of [.var 5, .var 0])], .prim pwTuple [.var 2]])]
theorem b_parted (k : KX) : SSs k (Ctx k tc_parted) (defBody st_parted) ir_parted :=
  (sss_cons (s_asg (v_fn 1 sp_pairs_of (a_cons (v_fn 2 sp_marks_by (a_cons (v_var 0) (a_cons (v_var 1) sa_nil))) sa_nil)) (g_tp 2 (gs_cons (g_nm 3) (gs_cons (g_nm 4) sgs_nil)))) (sss_cons (s_setLc 2 (l_lc [("one", 5), ("other", 6)] (i_seq (v_var 4)) (g_tp 2 (gs_cons (g_nm 5) (gs_cons (g_nm 6) sgs_nil))) sts_nil (se_tup (a_cons (v_fn 0 sp_letters_of (a_cons (v_var 5) (a_cons (v_var 0) sa_nil))) (a_cons (v_fn 0 sp_letters_of (a_cons (v_var 6) (a_cons (v_var 0) sa_nil))) sa_nil))))) (sss_cons (ss_ret (se_tup (a_cons (v_ct 0 (fun X c => cr_tupleP c.K.symm) (a_cons (SLc.se (l_lc [("one", 5)] (i_seq (v_var 3)) (g_nm 5) sts_nil (v_fn 0 sp_letters_of (a_cons (v_var 5) (a_cons (v_var 0) sa_nil))))) sa_nil)) (a_cons (v_ct 0 (fun X c => cr_tupleP c.K.symm) (a_cons (v_var 2) sa_nil)) sa_nil)))) sss_nil)))
theorem fs_parted : FnScope tc_parted.N ["wires", "makers"] (defScope st_parted) := ⟨rfl, rfl, rfl, by decide +kernel, rfl, by decide +kernel, by decide +kernel⟩
theorem bi_parted (kV doc pm : Value) (an : Option Addr) (cdv ct : Value) (us : List Value) (hl : us.length = 2) : bindArgs (PySem.W.fnOf "parted" "parted" (defArgs st_parted) (defBody st_parted) (defScope st_parted) .none kV doc pm an cdv ct) ⟨us, []⟩ = pure ((["wires", "makers"] : List Str).zip us) := match us, hl with | [_, _], _ => rfl
def st_sizes_of : Stmt := (PySem.Challenge.pw_guardedwires_k61_whole_two_spans_and_wha.main.body[51]?).getD (.Pass ⟨0, 0, 0, 0⟩)
def tc_sizes_of : TC := ⟨["marks", "lone", "pairs"], defScope st_sizes_of, 3, fun _ => true, [("pairs_of", sp_pairs_of)], [], ["len"]⟩
def ir_sizes_of : List IS := [.asg (.tp [.nm 1, .nm 2]) (.call sp_pairs_of [.var 0]), .ret (.tup [.prim pwLen [.var 1], .prim pwLen [.var 2]])]
theorem b_sizes_of (k : KX) : SSs k (Ctx k tc_sizes_of) (defBody st_sizes_of) ir_sizes_of :=
  (sss_cons (s_asg (v_fn 0 sp_pairs_of (a_cons (v_var 0) sa_nil)) (g_tp 2 (gs_cons (g_nm 1) (gs_cons (g_nm 2) sgs_nil)))) (sss_cons (ss_ret (se_tup (a_cons (v_cb 0 (fun X c => cr_len c.K.symm) (a_cons (v_var 1) sa_nil)) (a_cons (v_cb 0 (fun X c => cr_len c.K.symm) (a_cons (v_var 2) sa_nil)) sa_nil)))) sss_nil))
theorem fs_sizes_of : FnScope tc_sizes_of.N ["marks"] (defScope st_sizes_of) := ⟨rfl, rfl, rfl, by decide +kernel, rfl, by decide +kernel, by decide +kernel⟩
theorem bi_sizes_of (kV doc pm : Value) (an : Option Addr) (cdv ct : Value) (us : List Value) (hl : us.length = 1) : bindArgs (PySem.W.fnOf "sizes_of" "sizes_of" (defArgs st_sizes_of) (defBody st_sizes_of) (defScope st_sizes_of) .none kV doc pm an cdv ct) ⟨us, []⟩ = pure ((["marks"] : List Str).zip us) := match us, hl with | [_], _ => rfl
def st__law_makers : Stmt := (PySem.Challenge.pw_guardedwires_k61_whole_two_spans_and_wha.main.body[66]?).getD (.Pass ⟨0, 0, 0, 0⟩)
def tc__law_makers : TC := ⟨["pot", "wires", "found", "lap", "letters", "way"], defScope st__law_makers, 3, fun _ => true, [("_law_take", sp__law_take), ("_law_none", sp__law_none), ("_law_letters_of", sp__law_letters_of), ("_law_of", sp__law_of), ("_law_any_letters", sp__law_any_letters)], [], ["tuple", "range"]⟩
def ir__law_makers : List IS := [.set 2 (.lst []), .for_ (.nm 3) (.rng1 (.call sp__law_take [.var 0, .cst (.int 7)])) [.par [4, 5] [.call sp__law_any_letters [.var 0, .var 1], .call sp__law_take [.var 0, .cst (.int 6)]], .ite (.and (.bv (.prim pwEq [.var 5, .cst (.int 0)])) (.bv (.prim pwNe [.var 2, .lst []]))) [.set 4 (.call sp__law_of [.var 0, .var 2])] [], .ite (.and (.bv (.prim pwEq [.var 5, .cst (.int 1)])) (.bv (.prim pwNe [.var 2, .lst []]))) [.set 4 (.call sp__law_letters_of [.call sp__law_of [.var 0, .var 2], .call sp__law_of [.var 0, .var 2]])] [], .drop (.mut mwAppend 2 [.ite (.and (.bv (.prim pwEq [.var 5, .cst (.int 2)])) (.bv (.prim pwEq [.call sp__law_take [.var 0, .cst (.int 3)], .cst (.int 0)]))) (.call sp__law_none [.var 1]) (.var 4)])], .ret (.prim pwTuple [.var 2])]
theorem b__law_makers (k : KX) : SSs k (Ctx k tc__law_makers) (defBody st__law_makers) ir__law_makers :=
  (sss_cons (s_set 2 (se_lst sa_nil)) (sss_cons (s_for (i_rng1 1 (v_fn 0 sp__law_take (a_cons (v_var 0) (a_cons v_int sa_nil)))) (g_nm 3) (sss_cons (s_par 4 5 (v_fn 4 sp__law_any_letters (a_cons (v_var 0) (a_cons (v_var 1) sa_nil))) (v_fn 0 sp__law_take (a_cons (v_var 0) (a_cons v_int sa_nil)))) (sss_cons (ss_ite (SW.st (sw_and (t_cmp .Eq (v_var 5) v_int) (sw_one_and (t_cmp .NotEq (v_var 2) (se_lst sa_nil))))) (sss_cons (s_set 4 (v_fn 3 sp__law_of (a_cons (v_var 0) (a_cons (v_var 2) sa_nil)))) sss_nil) sss_nil) (sss_cons (ss_ite (SW.st (sw_and (t_cmp .Eq (v_var 5) v_int) (sw_one_and (t_cmp .NotEq (v_var 2) (se_lst sa_nil))))) (sss_cons (s_set 4 (v_fn 2 sp__law_letters_of (a_cons (v_fn 3 sp__law_of (a_cons (v_var 0) (a_cons (v_var 2) sa_nil))) (a_cons (v_fn 3 sp__law_of (a_cons (v_var 0) (a_cons (v_var 2) sa_nil))) sa_nil)))) sss_nil) sss_nil) (sss_cons (s_drop (v_append 2 (se_ite (SW.st (sw_and (t_cmp .Eq (v_var 5) v_int) (sw_one_and (t_cmp .Eq (v_fn 0 sp__law_take (a_cons (v_var 0) (a_cons v_int sa_nil))) v_int)))) (v_fn 1 sp__law_none (a_cons (v_var 1) sa_nil)) (v_var 4)))) sss_nil))))) (sss_cons (ss_ret (v_ct 0 (fun X c => cr_tupleP c.K.symm) (a_cons (v_var 2) sa_nil))) sss_nil)))
theorem fs__law_makers : FnScope tc__law_makers.N ["pot", "wires"] (defScope st__law_makers) := ⟨rfl, rfl, rfl, by decide +kernel, rfl, by decide +kernel, by decide +kernel⟩
theorem bi__law_makers (kV doc pm : Value) (an : Option Addr) (cdv ct : Value) (us : List Value) (hl : us.length = 2) : bindArgs (PySem.W.fnOf "_law_makers" "_law_makers" (defArgs st__law_makers) (defBody st__law_makers) (defScope st__law_makers) .none kV doc pm an cdv ct) ⟨us, []⟩ = pure ((["pot", "wires"] : List Str).zip us) := match us, hl with | [_, _], _ => rfl
def st_bar_of : Stmt := (PySem.Challenge.pw_guardedwires_k61_whole_two_spans_and_wha.main.body[35]?).getD (.Pass ⟨0, 0, 0, 0⟩)
def tc_bar_of : TC := ⟨["marks", "mark", "wires"], defScope st_bar_of, 4, fun _ => true, [("crossing_as", sp_crossing_as)], [], ["len"]⟩
def ir_bar_of : List IS := [.ret (.call sp_crossing_as [.lst [.star (.var 0), .var 1], .prim pwAdd [.prim pwMul [.lst [.cst (.bl false)], .prim pwLen [.var 0]], .lst [.cst (.bl true)]], .var 2])]
theorem b_bar_of (k : KX) : SSs k (Ctx k tc_bar_of) (defBody st_bar_of) ir_bar_of :=
  (sss_cons (ss_ret (v_fn 0 sp_crossing_as (a_cons (se_lst (a_star (v_var 0) (a_cons (v_var 1) sa_nil))) (a_cons (v_op .Add (v_op .Mult (se_lst (a_cons v_bl sa_nil)) (v_cb 0 (fun X c => cr_len c.K.symm) (a_cons (v_var 0) sa_nil))) (se_lst (a_cons v_bl sa_nil))) (a_cons (v_var 2) sa_nil))))) sss_nil)
theorem fs_bar_of : FnScope tc_bar_of.N ["marks", "mark", "wires"] (defScope st_bar_of) := ⟨rfl, rfl, rfl, by decide +kernel, rfl, by decide +kernel, by decide +kernel⟩
theorem bi_bar_of (kV doc pm : Value) (an : Option Addr) (cdv ct : Value) (us : List Value) (hl : us.length = 3) : bindArgs (PySem.W.fnOf "bar_of" "bar_of" (defArgs st_bar_of) (defBody st_bar_of) (defScope st_bar_of) .none kV doc pm an cdv ct) ⟨us, []⟩ = pure ((["marks", "mark", "wires"] : List Str).zip us) := match us, hl with | [_, _, _], _ => rfl
def st_sizes : Stmt := (PySem.Challenge.pw_guardedwires_k61_whole_two_spans_and_wha.main.body[52]?).getD (.Pass ⟨0, 0, 0, 0⟩)
def tc_sizes : TC := ⟨["wires", "makers"], defScope st_sizes, 4, fun _ => true, [("sizes_of", sp_sizes_of), ("marks_by", sp_marks_by)], [], []⟩
def ir_sizes : List IS := [.ret (.call sp_sizes_of [.call sp_marks_by [.var 0, .var 1]])]
theorem b_sizes (k : KX) : SSs k (Ctx k tc_sizes) (defBody st_sizes) ir_sizes :=
  (sss_cons (ss_ret (v_fn 0 sp_sizes_of (a_cons (v_fn 1 sp_marks_by (a_cons (v_var 0) (a_cons (v_var 1) sa_nil))) sa_nil))) sss_nil)
theorem fs_sizes : FnScope tc_sizes.N ["wires", "makers"] (defScope st_sizes) := ⟨rfl, rfl, rfl, by decide +kernel, rfl, by decide +kernel, by decide +kernel⟩
theorem bi_sizes (kV doc pm : Value) (an : Option Addr) (cdv ct : Value) (us : List Value) (hl : us.length = 2) : bindArgs (PySem.W.fnOf "sizes" "sizes" (defArgs st_sizes) (defBody st_sizes) (defScope st_sizes) .none kV doc pm an cdv ct) ⟨us, []⟩ = pure ((["wires", "makers"] : List Str).zip us) := match us, hl with | [_, _], _ => rfl
def st_made : Stmt := (PySem.Challenge.pw_guardedwires_k61_whole_two_spans_and_wha.main.body[48]?).getD (.Pass ⟨0, 0, 0, 0⟩)
def tc_made : TC := ⟨["wires", "makers", "letters", "marks", "numbers"], defScope st_made, 5, fun _ => true, [("letters_of", sp_letters_of), ("bar_of", sp_bar_of), ("mark_of", sp_mark_of), ("made_of", sp_made_of), ("check_letters", sp_check_letters), ("marks_by", sp_marks_by)], [("BAR", g_BAR), ("MADE", g_MADE)], ["tuple"]⟩
def ir_made : List IS := [.set 3 (.call sp_marks_by [.var 0, .var 1]), .drop (.call sp_check_letters [.var 2, .var 0]), .set 4 (.call sp_made_of [.var 3, .call sp_mark_of [.var 2]]), .ite (.bv (.prim pwIsNot [.var 4, .cst .non])) [.ret (.tup [.cst g_MADE, .prim pwTuple [.var 4]])] [], .ret (.tup [.cst g_BAR, .call sp_letters_of [.call sp_bar_of [.var 3, .call sp_mark_of [.var 2], .var 0], .var 0]])]
theorem b_made (k : KX) : SSs k (Ctx k tc_made) (defBody st_made) ir_made :=
  (sss_cons (s_set 3 (v_fn 5 sp_marks_by (a_cons (v_var 0) (a_cons (v_var 1) sa_nil)))) (sss_cons (s_drop (v_fn 4 sp_check_letters (a_cons (v_var 2) (a_cons (v_var 0) sa_nil)))) (sss_cons (s_set 4 (v_fn 3 sp_made_of (a_cons (v_var 3) (a_cons (v_fn 2 sp_mark_of (a_cons (v_var 2) sa_nil)) sa_nil)))) (sss_cons (ss_ite (t_cmp .IsNot (v_var 4) v_non) (sss_cons (ss_ret (se_tup (a_cons (v_glob 1) (a_cons (v_ct 0 (fun X c => cr_tupleP c.K.symm) (a_cons (v_var 4) sa_nil)) sa_nil)))) sss_nil) sss_nil) (sss_cons (ss_ret (se_tup (a_cons (v_glob 0) (a_cons (v_fn 0 sp_letters_of (a_cons (v_fn 1 sp_bar_of (a_cons (v_var 3) (a_cons (v_fn 2 sp_mark_of (a_cons (v_var 2) sa_nil)) (a_cons (v_var 0) sa_nil)))) (a_cons (v_var 0) sa_nil))) sa_nil)))) sss_nil)))))
theorem fs_made : FnScope tc_made.N ["wires", "makers", "letters"] (defScope st_made) := ⟨rfl, rfl, rfl, by decide +kernel, rfl, by decide +kernel, by decide +kernel⟩
theorem bi_made (kV doc pm : Value) (an : Option Addr) (cdv ct : Value) (us : List Value) (hl : us.length = 3) : bindArgs (PySem.W.fnOf "made" "made" (defArgs st_made) (defBody st_made) (defScope st_made) .none kV doc pm an cdv ct) ⟨us, []⟩ = pure ((["wires", "makers", "letters"] : List Str).zip us) := match us, hl with | [_, _, _], _ => rfl
def st_within : Stmt := (PySem.Challenge.pw_guardedwires_k61_whole_two_spans_and_wha.main.body[49]?).getD (.Pass ⟨0, 0, 0, 0⟩)
def tc_within : TC := ⟨["wires", "makers", "others", "marks", "its", "number", "mark"], defScope st_within, 5, fun _ => true, [("made_of", sp_made_of), ("letters_of", sp_letters_of), ("bar_of", sp_bar_of), ("marks_told", sp_marks_told), ("marks_by", sp_marks_by)], [("WITHIN", g_WITHIN), ("APART", g_APART)], ["enumerate"]⟩
def ir_within : List IS := [.set 3 (.call sp_marks_by [.var 0, .var 1]), .set 4 (.call sp_marks_told [.var 2, .var 0]), .for_ (.tp [.nm 5, .nm 6]) (.enm (.var 3)) [.ite (.bv (.prim pwIs [.call sp_made_of [.var 4, .var 6], .cst .non])) [.ret (.tup [.cst g_APART, .var 5, .call sp_letters_of [.call sp_bar_of [.var 4, .var 6, .var 0], .var 0]])] []], .ret (.tup [.cst g_WITHIN])]
theorem b_within (k : KX) : SSs k (Ctx k tc_within) (defBody st_within) ir_within :=
  (sss_cons (s_set 3 (v_fn 4 sp_marks_by (a_cons (v_var 0) (a_cons (v_var 1) sa_nil)))) (sss_cons (s_set 4 (v_fn 3 sp_marks_told (a_cons (v_var 2) (a_cons (v_var 0) sa_nil)))) (sss_cons (s_for (i_enm 0 (v_var 3)) (g_tp 2 (gs_cons (g_nm 5) (gs_cons (g_nm 6) sgs_nil))) (sss_cons (ss_ite (t_cmp .Is (v_fn 0 sp_made_of (a_cons (v_var 4) (a_cons (v_var 6) sa_nil))) v_non) (sss_cons (ss_ret (se_tup (a_cons (v_glob 1) (a_cons (v_var 5) (a_cons (v_fn 1 sp_letters_of (a_cons (v_fn 2 sp_bar_of (a_cons (v_var 4) (a_cons (v_var 6) (a_cons (v_var 0) sa_nil)))) (a_cons (v_var 0) sa_nil))) sa_nil))))) sss_nil) sss_nil) sss_nil)) (sss_cons (ss_ret (se_tup (a_cons (v_glob 0) sa_nil))) sss_nil))))
theorem fs_within : FnScope tc_within.N ["wires", "makers", "others"] (defScope st_within) := ⟨rfl, rfl, rfl, by decide +kernel, rfl, by decide +kernel, by decide +kernel⟩
theorem bi_within (kV doc pm : Value) (an : Option Addr) (cdv ct : Value) (us : List Value) (hl : us.length = 3) : bindArgs (PySem.W.fnOf "within" "within" (defArgs st_within) (defBody st_within) (defScope st_within) .none kV doc pm an cdv ct) ⟨us, []⟩ = pure ((["wires", "makers", "others"] : List Str).zip us) := match us, hl with | [_, _, _], _ => rfl
def st__law_is_made_right : Stmt := (PySem.Challenge.pw_guardedwires_k61_whole_two_spans_and_wha.main.body[67]?).getD (.Pass ⟨0, 0, 0, 0⟩)
def tc__law_is_made_right : TC := ⟨["wires", "makers", "letters", "span", "told", "found", "at", "one"], defScope st__law_is_made_right, 6, fun _ => true, [("_law_do_pass", sp__law_do_pass), ("_law_letters_of", sp__law_letters_of), ("_law_none", sp__law_none), ("made", sp_made)], [], ["all", "isinstance", "tuple", "len"]⟩
def ir__law_is_made_right : List IS := [.set 4 (.call sp_made [.var 0, .var 1, .var 2]), .ite (.or (.not (.bv (.prim (pwIsi "tuple") [.var 4]))) (.or (.bv (.prim pwNe [.prim pwLen [.var 4], .cst (.int 2)])) (.bv (.prim pwNe [.prim pwEq [.prim pwIx [.var 4, .cst (.int 0)], .cst (.str "made")], .prim pwIn [.var 2, .var 3]])))) [.ret (.cst (.bl false))] [], .ite (.bv (.prim pwEq [.prim pwIx [.var 4, .cst (.int 0)], .cst (.str "made")])) [.set 5 (.call sp__law_none [.var 0]), .for_ (.nm 6) (.seq (.prim pwIx [.var 4, .cst (.int 1)])) [.set 5 (.call sp__law_letters_of [.var 5, .prim pwIx [.var 1, .var 6]])], .ret (.prim pwEq [.var 5, .var 2])] [], .ret (.and (.prim pwAll [.lc [7] (.nm 7) (.seq (.var 1)) [] (.call sp__law_do_pass [.prim pwIx [.var 4, .cst (.int 1)], .var 7])]) (.not (.call sp__law_do_pass [.prim pwIx [.var 4, .cst (.int 1)], .var 2])))]
theorem b__law_is_made_right (k : KX) : SSs k (Ctx k tc__law_is_made_right) (defBody st__law_is_made_right) ir__law_is_made_right :=
  (sss_cons (s_set 4 (v_fn 3 sp_made (a_cons (v_var 0) (a_cons (v_var 1) (a_cons (v_var 2) sa_nil))))) (sss_cons (ss_ite (SW.st (sw_or (st_not (t_bv (v_isi 1 2 (v_var 4)))) (sw_or (t_cmp .NotEq (v_cb 3 (fun X c => cr_len c.K.symm) (a_cons (v_var 4) sa_nil)) v_int) (sw_one_or (t_cmp .NotEq (v_cmp .Eq (v_ix (v_var 4) v_int) v_str) (v_cmp .In (v_var 2) (v_var 3))))))) (sss_cons (ss_ret v_bl) sss_nil) sss_nil) (sss_cons (ss_ite (t_cmp .Eq (v_ix (v_var 4) v_int) v_str) (sss_cons (s_set 5 (v_fn 2 sp__law_none (a_cons (v_var 0) sa_nil))) (sss_cons (s_for (i_seq (v_ix (v_var 4) v_int)) (g_nm 6) (sss_cons (s_set 5 (v_fn 1 sp__law_letters_of (a_cons (v_var 5) (a_cons (v_ix (v_var 1) (v_var 6)) sa_nil)))) sss_nil)) (sss_cons (ss_ret (v_cmp .Eq (v_var 5) (v_var 2))) sss_nil))) sss_nil) (sss_cons (ss_ret (se_and (v_cb 0 (fun X c => cr_allP c.calm) (a_cons (SLc.se (l_lc [("one", 7)] (i_seq (v_var 1)) (g_nm 7) sts_nil (v_fn 0 sp__law_do_pass (a_cons (v_ix (v_var 4) v_int) (a_cons (v_var 7) sa_nil))))) sa_nil)) (se_one (se_not (v_fn 0 sp__law_do_pass (a_cons (v_ix (v_var 4) v_int) (a_cons (v_var 2) sa_nil))))))) sss_nil))))
theorem fs__law_is_made_right : FnScope tc__law_is_made_right.N ["wires", "makers", "letters", "span"] (defScope st__law_is_made_right) := ⟨rfl, rfl, rfl, by decide +kernel, rfl, by decide +kernel, by decide +kernel⟩
theorem bi__law_is_made_right (kV doc pm : Value) (an : Option Addr) (cdv ct : Value) (us : List Value) (hl : us.length = 4) : bindArgs (PySem.W.fnOf "_law_is_made_right" "_law_is_made_right" (defArgs st__law_is_made_right) (defBody st__law_is_made_right) (defScope st__law_is_made_right) .none kV doc pm an cdv ct) ⟨us, []⟩ = pure ((["wires", "makers", "letters", "span"] : List Str).zip us) := match us, hl with | [_, _, _, _], _ => rfl
def st__law_right : Stmt := (PySem.Challenge.pw_guardedwires_k61_whole_two_spans_and_wha.main.body[68]?).getD (.Pass ⟨0, 0, 0, 0⟩)
def tc__law_right : TC := ⟨["pot", "wires", "ranks", "both", "letters", "lone", "told", "found", "one", "other", "mine", "its", "first", "whole", "many", "pairs", "at", "far"], defScope st__law_right, 7, fun _ => true, [("sizes", sp_sizes), ("parted", sp_parted), ("_law_power", sp__law_power), ("_law_do_pass", sp__law_do_pass), ("within", sp_within), ("firsts", sp_firsts), ("_law_some", sp__law_some), ("_law_is_made_right", sp__law_is_made_right), ("rank", sp_rank), ("_law_span", sp__law_span), ("_law_makers", sp__law_makers), ("_law_take", sp__law_take)], [], ["repr", "len", "all", "min", "sorted"]⟩
def ir__law_right : List IS := [.set 1 (.prim pwAdd [.cst (.int 2), .call sp__law_take [.var 0, .cst (.int 5)]]), .par [8, 9] [.call sp__law_makers [.var 0, .var 1], .call sp__law_makers [.var 0, .var 1]], .par [10, 11] [.call sp__law_span [.var 8, .var 1], .call sp__law_span [.var 9, .var 1]], .set 2 (.lst [.call sp_rank [.var 1, .var 8], .call sp_rank [.var 1, .var 9], .call sp_rank [.var 1, .prim pwAdd [.var 8, .var 9]]]), .set 3 (.lcK [4] (.nm 4) 10 [.bv (.prim pwIn [.var 4, .var 11])] (.var 4)), .ite (.or (.bv (.prim pwNe [.prim pwLen [.var 10], .call sp__law_power [.prim pwIx [.var 2, .cst (.int 0)]]])) (.bv (.prim pwNe [.prim pwLen [.var 3], .call sp__law_power [.prim pwSub [.prim pwAdd [.prim pwIx [.var 2, .cst (.int 0)], .prim pwIx [.var 2, .cst (.int 1)]], .prim pwIx [.var 2, .cst (.int 2)]]]]))) [.ret (.cst (.bl false))] [], .for_ (.nm 4) (.seq (.call sp__law_some [.var 0, .prim pwSorted [.var 10], .prim pwMin [.prim pwLen [.var 10], .cst (.int 8)]])) [.ite (.not (.bv (.call sp__law_is_made_right [.var 1, .var 9, .var 4, .var 11]))) [.ret (.cst (.bl false))] []], .par [12, 13] [.call sp_firsts [.var 1, .var 8], .call sp_firsts [.var 1, .prim pwAdd [.var 8, .var 9]]], .ite (.or (.bv (.prim pwNe [.prim pwRepr [.slcH (.var 13) (.prim pwLen [.var 12])], .prim pwRepr [.var 12]])) (.or (.bv (.prim pwNe [.prim pwLen [.var 12], .prim pwIx [.var 2, .cst (.int 0)]])) (.bv (.prim pwNe [.prim pwLen [.var 13], .prim pwIx [.var 2, .cst (.int 2)]])))) [.ret (.cst (.bl false))] [], .ite (.not (.bv (.prim pwAll [.lc [16] (.nm 16) (.seq (.slcL (.var 13) (.prim pwLen [.var 12]))) [] (.prim pwGe [.var 16, .prim pwLen [.var 8]])]))) [.ret (.cst (.bl false))] [], .ite (.bv (.prim pwNe [.prim pwEq [.call sp_within [.var 1, .var 9, .var 8], .tup [.cst (.str "within")]], .prim pwEq [.prim pwIx [.var 2, .cst (.int 2)], .prim pwIx [.var 2, .cst (.int 0)]]])) [.ret (.cst (.bl false))] [], .ite (.bv (.prim pwNe [.prim pwEq [.call sp_within [.var 1, .var 8, .var 9], .tup [.cst (.str "within")]], .prim pwEq [.prim pwIx [.var 2, .cst (.int 2)], .prim pwIx [.var 2, .cst (.int 1)]]])) [.ret (.cst (.bl false))] [], .set 5 (.lcK [4] (.nm 4) 10 [.bv (.prim pwAll [.lc [17] (.nm 17) (.seq (.var 8)) [] (.call sp__law_do_pass [.var 4, .var 17])])] (.var 4)), .asg (.tp [.nm 14, .nm 15]) (.call sp_sizes [.var 1, .var 8]), .ite (.or (.bv (.prim pwNe [.prim pwAdd [.var 14, .prim pwMul [.cst (.int 2), .var 15]], .prim pwIx [.var 2, .cst (.int 0)]])) (.bv (.prim pwNe [.prim pwLen [.var 5], .call sp__law_power [.var 14]]))) [.ret (.cst (.bl false))] [], .set 6 (.call sp_parted [.var 1, .prim pwAdd [.var 8, .var 9]]), .set 7 (.tup [.prim pwLen [.prim pwIx [.var 6, .cst (.int 0)]], .prim pwLen [.prim pwIx [.var 6, .cst (.int 1)]]]), .ret (.and (.prim pwEq [.prim pwAdd [.prim pwIx [.var 7, .cst (.int 0)], .prim pwMul [.cst (.int 2), .prim pwIx [.var 7, .cst (.int 1)]]], .prim pwIx [.var 2, .cst (.int 2)]]) (.prim pwEq [.prim pwRepr [.call sp_sizes [.var 1, .prim pwAdd [.var 8, .var 9]]], .prim pwRepr [.var 7]]))]
theorem b__law_right (k : KX) : SSs k (Ctx k tc__law_right) (defBody st__law_right) ir__law_right :=
  (sss_cons (s_set 1 (v_op .Add v_int (v_fn 11 sp__law_take (a_cons (v_var 0) (a_cons v_int sa_nil))))) (sss_cons (s_parC 8 9 (v_fn 10 sp__law_makers (a_cons (v_var 0) (a_cons (v_var 1) sa_nil))) (v_fn 10 sp__law_makers (a_cons (v_var 0) (a_cons (v_var 1) sa_nil)))) (sss_cons (s_parC 10 11 (v_fn 9 sp__law_span (a_cons (v_var 8) (a_cons (v_var 1) sa_nil))) (v_fn 9 sp__law_span (a_cons (v_var 9) (a_cons (v_var 1) sa_nil)))) (sss_cons (s_set 2 (se_lst (a_cons (v_fn 8 sp_rank (a_cons (v_var 1) (a_cons (v_var 8) sa_nil))) (a_cons (v_fn 8 sp_rank (a_cons (v_var 1) (a_cons (v_var 9) sa_nil))) (a_cons (v_fn 8 sp_rank (a_cons (v_var 1) (a_cons (v_op .Add (v_var 8) (v_var 9)) sa_nil))) sa_nil))))) (sss_cons (s_setLc 3 (l_lcK 10 [("letters", 4)] (g_nm 4) (sts_one (t_cmp .In (v_var 4) (v_var 11))) (v_var 4))) (sss_cons (ss_ite (SW.st (sw_or (t_cmp .NotEq (v_cb 1 (fun X c => cr_len c.K.symm) (a_cons (v_var 10) sa_nil)) (v_fn 2 sp__law_power (a_cons (v_ix (v_var 2) v_int) sa_nil))) (sw_one_or (t_cmp .NotEq (v_cb 1 (fun X c => cr_len c.K.symm) (a_cons (v_var 3) sa_nil)) (v_fn 2 sp__law_power (a_cons (v_op .Sub (v_op .Add (v_ix (v_var 2) v_int) (v_ix (v_var 2) v_int)) (v_ix (v_var 2) v_int)) sa_nil)))))) (sss_cons (ss_ret v_bl) sss_nil) sss_nil) (sss_cons (s_for (i_seq (v_fn 6 sp__law_some (a_cons (v_var 0) (a_cons (v_cb 4 (fun X c => cr_sorted c) (a_cons (v_var 10) sa_nil)) (a_cons (v_cb 3 (fun X c => cr_minP c.calm c.K.symm) (a_cons (v_cb 1 (fun X c => cr_len c.K.symm) (a_cons (v_var 10) sa_nil)) (a_cons v_int sa_nil))) sa_nil))))) (g_nm 4) (sss_cons (ss_ite (st_not (t_bv (v_fn 7 sp__law_is_made_right (a_cons (v_var 1) (a_cons (v_var 9) (a_cons (v_var 4) (a_cons (v_var 11) sa_nil))))))) (sss_cons (ss_ret v_bl) sss_nil) sss_nil) sss_nil)) (sss_cons (s_par 12 13 (v_fn 5 sp_firsts (a_cons (v_var 1) (a_cons (v_var 8) sa_nil))) (v_fn 5 sp_firsts (a_cons (v_var 1) (a_cons (v_op .Add (v_var 8) (v_var 9)) sa_nil)))) (sss_cons (ss_ite (SW.st (sw_or (t_cmp .NotEq (v_cb 0 (fun X c => cr_repr c) (a_cons (v_slcH (v_var 13) (v_cb 1 (fun X c => cr_len c.K.symm) (a_cons (v_var 12) sa_nil))) sa_nil)) (v_cb 0 (fun X c => cr_repr c) (a_cons (v_var 12) sa_nil))) (sw_or (t_cmp .NotEq (v_cb 1 (fun X c => cr_len c.K.symm) (a_cons (v_var 12) sa_nil)) (v_ix (v_var 2) v_int)) (sw_one_or (t_cmp .NotEq (v_cb 1 (fun X c => cr_len c.K.symm) (a_cons (v_var 13) sa_nil)) (v_ix (v_var 2) v_int)))))) (sss_cons (ss_ret v_bl) sss_nil) sss_nil) (sss_cons (ss_ite (st_not (t_bv (v_cb 2 (fun X c => cr_allP c.calm) (a_cons (SLc.se (l_lc [("at", 16)] (i_seq (v_slcL (v_var 13) (v_cb 1 (fun X c => cr_len c.K.symm) (a_cons (v_var 12) sa_nil)))) (g_nm 16) sts_nil (v_cmp .GtE (v_var 16) (v_cb 1 (fun X c => cr_len c.K.symm) (a_cons (v_var 8) sa_nil))))) sa_nil)))) (sss_cons (ss_ret v_bl) sss_nil) sss_nil) (sss_cons (ss_ite (t_cmp .NotEq (v_cmp .Eq (v_fn 4 sp_within (a_cons (v_var 1) (a_cons (v_var 9) (a_cons (v_var 8) sa_nil)))) (se_tup (a_cons v_str sa_nil))) (v_cmp .Eq (v_ix (v_var 2) v_int) (v_ix (v_var 2) v_int))) (sss_cons (ss_ret v_bl) sss_nil) sss_nil) (sss_cons (ss_ite (t_cmp .NotEq (v_cmp .Eq (v_fn 4 sp_within (a_cons (v_var 1) (a_cons (v_var 8) (a_cons (v_var 9) sa_nil)))) (se_tup (a_cons v_str sa_nil))) (v_cmp .Eq (v_ix (v_var 2) v_int) (v_ix (v_var 2) v_int))) (sss_cons (ss_ret v_bl) sss_nil) sss_nil) (sss_cons (s_setLc 5 (l_lcK 10 [("letters", 4)] (g_nm 4) (sts_one (t_bv (v_cb 2 (fun X c => cr_allP c.calm) (a_cons (SLc.se (l_lc [("far", 17)] (i_seq (v_var 8)) (g_nm 17) sts_nil (v_fn 3 sp__law_do_pass (a_cons (v_var 4) (a_cons (v_var 17) sa_nil))))) sa_nil)))) (v_var 4))) (sss_cons (s_asg (v_fn 0 sp_sizes (a_cons (v_var 1) (a_cons (v_var 8) sa_nil))) (g_tp 2 (gs_cons (g_nm 14) (gs_cons (g_nm 15) sgs_nil)))) (sss_cons (ss_ite (SW.st (sw_or (t_cmp .NotEq (v_op .Add (v_var 14) (v_op .Mult v_int (v_var 15))) (v_ix (v_var 2) v_int)) (sw_one_or (t_cmp .NotEq (v_cb 1 (fun X c => cr_len c.K.symm) (a_cons (v_var 5) sa_nil)) (v_fn 2 sp__law_power (a_cons (v_var 14) sa_nil)))))) (sss_cons (ss_ret v_bl) sss_nil) sss_nil) (sss_cons (s_set 6 (v_fn 1 sp_parted (a_cons (v_var 1) (a_cons (v_op .Add (v_var 8) (v_var 9)) sa_nil)))) (sss_cons (s_set 7 (se_tup (a_cons (v_cb 1 (fun X c => cr_len c.K.symm) (a_cons (v_ix (v_var 6) v_int) sa_nil)) (a_cons (v_cb 1 (fun X c => cr_len c.K.symm) (a_cons (v_ix (v_var 6) v_int) sa_nil)) sa_nil)))) (sss_cons (ss_ret (se_and (v_cmp .Eq (v_op .Add (v_ix (v_var 7) v_int) (v_op .Mult v_int (v_ix (v_var 7) v_int))) (v_ix (v_var 2) v_int)) (se_one (v_cmp .Eq (v_cb 0 (fun X c => cr_repr c) (a_cons (v_fn 0 sp_sizes (a_cons (v_var 1) (a_cons (v_op .Add (v_var 8) (v_var 9)) sa_nil))) sa_nil)) (v_cb 0 (fun X c => cr_repr c) (a_cons (v_var 7) sa_nil)))))) sss_nil))))))))))))))))))
theorem fs__law_right : FnScope tc__law_right.N ["pot"] (defScope st__law_right) := ⟨rfl, rfl, rfl, by decide +kernel, rfl, by decide +kernel, by decide +kernel⟩
theorem bi__law_right (kV doc pm : Value) (an : Option Addr) (cdv ct : Value) (us : List Value) (hl : us.length = 1) : bindArgs (PySem.W.fnOf "_law_right" "_law_right" (defArgs st__law_right) (defBody st__law_right) (defScope st__law_right) .none kV doc pm an cdv ct) ⟨us, []⟩ = pure ((["pot"] : List Str).zip us) := match us, hl with | [_], _ => rfl
def st_law : Stmt := (PySem.Challenge.pw_guardedwires_k61_whole_two_spans_and_wha.main.body[69]?).getD (.Pass ⟨0, 0, 0, 0⟩)
def tc_law : TC := ⟨["script", "place"], defScope st_law, 8, fun _ => true, [("_law_right", sp__law_right), ("_law_pot", sp__law_pot), ("_law_cells", sp__law_cells)], [], ["all"]⟩
def ir_law : List IS := [.ret (.prim pwAll [.lc [1] (.nm 1) (.seq (.call sp__law_cells [.var 0, .cst (.int 2)])) [] (.callT sp__law_right (.call sp__law_pot [.var 0, .var 1]))])]
theorem b_law (k : KX) : SSs k (Ctx k tc_law) (defBody st_law) ir_law :=
  (sss_cons (ss_ret (v_cb 0 (fun X c => cr_allP c.calm) (a_cons (SLc.se (l_lc [("place", 1)] (i_seq (v_fn 2 sp__law_cells (a_cons (v_var 0) (a_cons v_int sa_nil)))) (g_nm 1) sts_nil (v_fnT 0 sp__law_right (v_fn 1 sp__law_pot (a_cons (v_var 0) (a_cons (v_var 1) sa_nil)))))) sa_nil))) sss_nil)
theorem fs_law : FnScope tc_law.N ["script"] (defScope st_law) := ⟨rfl, rfl, rfl, by decide +kernel, rfl, by decide +kernel, by decide +kernel⟩
theorem bi_law (kV doc pm : Value) (an : Option Addr) (cdv ct : Value) (us : List Value) (hl : us.length = 1) : bindArgs (PySem.W.fnOf "law" "law" (defArgs st_law) (defBody st_law) (defScope st_law) .none kV doc pm an cdv ct) ⟨us, []⟩ = pure ((["script"] : List Str).zip us) := match us, hl with | [_], _ => rfl
end VL
namespace VL
open PySem PySem.Spec L2
def onesD : List D := match g_ONES with | .tup es => es | _ => []
theorem ones_at : ∀ k : Nat, k < 64 → ∃ n : Nat, atI onesD (k : Int) = some (.int n) ∧ (n % 2 == 1) = par6 k := by
  have h : ∀ k : Fin 64, ∃ n : Fin 8, (match atI onesD (k.val : Int) with | some (.int m) => m == ((n.val : Nat) : Int) | _ => false) = true ∧ (n.val % 2 == 1) = par6 k.val := by decide +kernel
  intro k hk
  obtain ⟨n, h1, h2⟩ := h ⟨k, hk⟩
  refine ⟨n.val, ?_, h2⟩
  split at h1
  · rename_i m e
    rw [e, eq_of_beq h1]
  · cases h1
theorem and63 (a : Nat) : a &&& 63 < 64 := Nat.lt_of_le_of_lt Nat.and_le_right (by decide)
theorem ok_crosses : BodyOk sp_crosses tc_crosses.N.length ir_crosses := by
  rintro ds W ⟨a, b, rfl, w⟩
  refine ⟨_, rfl, ?_⟩
  obtain ⟨n, h1, h2⟩ := ones_at _ (and63 (a &&& (b >>> 6)))
  obtain ⟨m, h3, h4⟩ := ones_at _ (and63 ((a >>> 6) &&& b))
  refine ⟨_, rfl, by decide, _, rfl, _, rfl, _, rfl, .int n, ?_, _, rfl, by decide, _, rfl, _, rfl, _, rfl, .int m, ?_, _, rfl, _, rfl, _, rfl, by decide, _, rfl, _, _, rfl, rfl, ?_⟩
  · show atI onesD (Builtin.bitAnd (Builtin.bitAnd (a : Int) ((b : Int) / 2 ^ ((6 : Nat) : Int).toNat)) ((63 : Nat) : Int)) = some (.int n)
    rw [shr_nat, band_nat, band_nat]
    exact h1
  · show atI onesD (Builtin.bitAnd (Builtin.bitAnd ((a : Int) / 2 ^ ((6 : Nat) : Int).toNat) (b : Int)) ((63 : Nat) : Int)) = some (.int m)
    rw [shr_nat, band_nat, band_nat]
    exact h3
  · have e : decide (((n : Int) + (m : Int)) % 2 = 1) = crs a b := by
      unfold crs
      rw [← h2, ← h4]
      have e1 : ((n : Int) + (m : Int)) % 2 = 1 ↔ (n + m) % 2 = 1 := by omega
      have e2 : decide (((n : Int) + (m : Int)) % 2 = 1) = decide ((n + m) % 2 = 1) := decide_eq_decide.mpr e1
      rw [e2]
      rcases Nat.mod_two_eq_zero_or_one n with p | p <;> rcases Nat.mod_two_eq_zero_or_one m with q | q <;> simp [Nat.add_mod, p, q]
    rw [← e] at w
    exact .inl w
theorem lc_pure {hold : Ev → Prop} {step : D → Ev → (Option D → Ev → Prop) → Prop} {f : D → Option D} {e0 : Ev} {Q : List D → Ev → Prop} (hh : hold e0) : ∀ (its acc : List D), (∀ d ∈ its, ∀ K : Option D → Ev → Prop, K (f d) e0 → step d e0 K) → acc.length + its.length ≤ 100000 → Q (acc ++ its.filterMap f) e0 → lcLoop hold step its e0 acc Q
  | [], acc, _, _, q => ⟨hh, by simpa using q⟩
  | d :: its, acc, hs, hl, q => by
    rw [List.length_cons] at hl
    refine ⟨hh, by omega, hs d (List.mem_cons_self ..) _ ?_⟩
    rw [List.filterMap_cons] at q
    cases h : f d with
    | none =>
      rw [h] at q
      exact lc_pure hh its acc (fun x hx => hs x (List.mem_cons_of_mem _ hx)) (by omega) q
    | some y =>
      rw [h] at q
      refine lc_pure hh its (acc ++ [y]) (fun x hx => hs x (List.mem_cons_of_mem _ hx)) (by rw [List.length_append, List.length_singleton]; omega) ?_
      rw [List.append_assoc]
      exact q
theorem ite_dec {p : Prop} [Decidable p] {a b : Prop} (h1 : p → a) (h2 : ¬ p → b) : if decide p = true then a else b := by
  by_cases h : p
  · rw [if_pos (decide_eq_true h)]
    exact h1 h
  · rw [if_neg (by rw [decide_eq_false h]; exact Bool.false_ne_true)]
    exact h2 h
theorem ok_is_integer : BodyOk sp_is_integer tc_is_integer.N.length ir_is_integer := by
  rintro ds W ⟨v, lo, hi, rfl, w⟩
  refine ⟨_, rfl, _, rfl, true, (show kitB "int" "int" = some true by decide), true, rfl, _, rfl, false, (show kitB "int" "bool" = some false by decide), false, rfl, true, rfl, _, _, rfl, rfl, _, rfl, ?_⟩
  refine ite_dec (fun h => ⟨_, _, rfl, rfl, _, _, rfl, rfl, ?_⟩) fun h => ⟨_, _, rfl, rfl, ?_⟩
  · rw [decide_eq_decide.mpr (show (lo ≤ v ∧ v ≤ hi) ↔ v ≤ hi from ⟨fun z => z.2, fun z => ⟨h, z⟩⟩)] at w
    exact .inl w
  · rw [decide_eq_false (fun z => h z.1)] at w
    exact .inl w
theorem ok_is_tuple : BodyOk sp_is_tuple tc_is_tuple.N.length ir_is_tuple := by
  rintro ds W ⟨es, lo, hi, rfl, w⟩
  refine ⟨_, rfl, _, rfl, true, (show kitB "tuple" "tuple" = some true by decide), true, rfl, _, rfl, _, _, rfl, rfl, _, rfl, ?_⟩
  refine ite_dec (fun h => ⟨_, _, rfl, rfl, _, _, rfl, rfl, ?_⟩) fun h => ⟨_, _, rfl, rfl, ?_⟩
  · rw [decide_eq_decide.mpr (show (lo ≤ (es.length : Int) ∧ (es.length : Int) ≤ hi) ↔ (es.length : Int) ≤ hi from ⟨fun z => z.2, fun z => ⟨h, z⟩⟩)] at w
    exact .inl w
  · rw [decide_eq_false (fun z => h z.1)] at w
    exact .inl w
theorem ok_check_number : BodyOk sp_check_number tc_check_number.N.length ir_check_number := by
  rintro ds W ⟨v, lo, hi, h1, h2, rfl, w⟩
  refine ⟨_, rfl, _, _, rfl, ⟨v, lo, hi, rfl, rfl, _, rfl, ?_⟩⟩
  rw [decide_eq_true (show lo ≤ v ∧ v ≤ hi from ⟨h1, h2⟩)]
  exact ⟨_, rfl, w⟩
theorem ok_check_letters : BodyOk sp_check_letters tc_check_letters.N.length ir_check_letters := by
  rintro ds W ⟨w, hl, rfl, hw⟩
  refine ⟨_, rfl, _, _, rfl, ⟨w, w.length, hl, rfl, rfl, _, rfl, ?_⟩⟩
  rw [decide_eq_true rfl]
  exact ⟨_, rfl, hw⟩
theorem ok__law_power : BodyOk sp__law_power tc__law_power.N.length ir__law_power := by
  rintro ds W ⟨n, hn, rfl, w⟩
  refine ⟨_, rfl, _, rfl, _, rfl, Int.natCast_nonneg _, by omega, by decide, _, _, rfl, rfl, ?_⟩
  have e : (1 : Int) * 2 ^ ((n : Int)).toNat = ((2 ^ n : Nat) : Int) := by
    rw [Int.one_mul, Int.toNat_natCast, Int.natCast_pow]
    rfl
  unfold dN at w
  rw [← e] at w
  exact .inl w
theorem ok_past_pair : BodyOk sp_past_pair tc_past_pair.N.length ir_past_pair := by
  rintro ds W ⟨m, one, mate, rfl, w⟩
  refine ⟨_, rfl, _, _, rfl, ⟨m, one, rfl, rfl, _, rfl, ?_⟩⟩
  unfold past at w
  cases q : crs m one with
  | true =>
    rw [q] at w
    refine ⟨_, rfl, _, rfl, _, _, rfl, ⟨m, mate, rfl, rfl, _, rfl, ?_⟩⟩
    cases q2 : crs m mate with
    | true =>
      rw [q2] at w
      refine ⟨_, rfl, _, _, rfl, rfl, ?_⟩
      rw [bxor_nat, bxor_nat]
      exact .inl w
    | false =>
      rw [q2] at w
      refine ⟨_, _, rfl, rfl, ?_⟩
      rw [bxor_nat]
      exact .inl w
  | false =>
    rw [q] at w
    refine ⟨_, rfl, _, _, rfl, ⟨m, mate, rfl, rfl, _, rfl, ?_⟩⟩
    cases q2 : crs m mate with
    | true =>
      rw [q2] at w
      refine ⟨_, rfl, _, _, rfl, rfl, ?_⟩
      rw [bxor_nat]
      exact .inl w
    | false =>
      rw [q2] at w
      exact ⟨_, _, rfl, rfl, .inl w⟩
end VL
namespace VL
open PySem PySem.Spec L2
theorem fm_congr {α β : Type} {f g : α → Option β} : ∀ {l : List α}, (∀ x ∈ l, f x = g x) → l.filterMap f = l.filterMap g
  | [], _ => rfl
  | a :: l, h => by
    rw [List.filterMap_cons, List.filterMap_cons, h a (List.mem_cons_self ..), fm_congr fun x hx => h x (List.mem_cons_of_mem _ hx)]
theorem ok_units : BodyOk sp_units tc_units.N.length ir_units := by
  rintro ds W ⟨n, hn, rfl, w⟩
  refine ⟨_, rfl, ⟨(n : Int), rfl, ⟨by omega, by omega⟩, ?_⟩⟩
  have len : (rngD 0 ((n : Int)).toNat).length ≤ 6 := by
    unfold rngD
    rw [List.length_map, List.length_range, Int.toNat_natCast]
    exact hn
  refine lc_pure (f := fun d => match d with | .int i => some (.int (1 * 2 ^ i.toNat)) | _ => none) (fun _ h => nomatch h) _ [] (fun d hd K hK => ?_) (by have := len; simp only [List.length_nil]; omega) ?_
  · obtain ⟨i, hi, rfl⟩ := List.mem_map.mp hd
    have hi := List.mem_range.mp hi
    exact ⟨_, rfl, _, rfl, by omega, by omega, by decide, _, _, rfl, hK⟩
  refine ⟨(n : Int), rfl, ⟨by omega, by omega⟩, ?_⟩
  refine lc_pure (f := fun d => match d with | .int i => some (.int (1 * 2 ^ (6 + i).toNat)) | _ => none) (fun _ h => nomatch h) _ [] (fun d hd K hK => ?_) (by have := len; simp only [List.length_nil]; omega) ?_
  · obtain ⟨i, hi, rfl⟩ := List.mem_map.mp hd
    have hi := List.mem_range.mp hi
    exact ⟨_, rfl, _, rfl, _, rfl, by omega, by omega, by decide, _, _, rfl, hK⟩
  have e1 : (rngD 0 ((n : Int)).toNat).filterMap (fun d => match d with | .int i => some (D.int (1 * 2 ^ i.toNat)) | _ => none) = ((List.range n).map fun i => 1 <<< i).map dN := by
    unfold rngD
    rw [Int.toNat_natCast, List.filterMap_map, List.map_map, ← List.filterMap_eq_map]
    refine fm_congr fun i _ => ?_
    show some (D.int (1 * 2 ^ (0 + (i : Int)).toNat)) = some (dN (1 <<< i))
    rw [Int.zero_add, show (1 : Int) = ((1 : Nat) : Int) from rfl, shl_nat]
    rfl
  have e2 : (rngD 0 ((n : Int)).toNat).filterMap (fun d => match d with | .int i => some (D.int (1 * 2 ^ (6 + i).toNat)) | _ => none) = ((List.range n).map fun i => 1 <<< (6 + i)).map dN := by
    unfold rngD
    rw [Int.toNat_natCast, List.filterMap_map, List.map_map, ← List.filterMap_eq_map]
    refine fm_congr fun i _ => ?_
    show some (D.int (1 * 2 ^ (6 + (0 + (i : Int))).toNat)) = some (dN (1 <<< (6 + i)))
    rw [Int.zero_add, show (6 : Int) + (i : Int) = ((6 + i : Nat) : Int) by omega, show (1 : Int) = ((1 : Nat) : Int) from rfl, shl_nat]
    rfl
  refine ⟨_, rfl, ?_, _, _, rfl, rfl, ?_⟩
  · simp only [List.nil_append]
    rw [e1, e2]
    simp
    omega
  · simp only [List.nil_append]
    rw [e1, e2, ← List.map_append]
    exact .inl w
/-- the bit, as the program asks for it -/
theorem bit_of (m i : Nat) : Builtin.bitAnd ((m : Int) / 2 ^ ((i : Int)).toNat) 1 = ((if m.testBit i then 1 else 0 : Nat) : Int) := by
  rw [shr_nat, show (1 : Int) = ((1 : Nat) : Int) from rfl, band_nat]
  congr 1
  rw [Nat.and_one_is_mod, Nat.testBit, Nat.and_comm 1, Nat.and_one_is_mod]
  rcases Nat.mod_two_eq_zero_or_one (m >>> i) with h | h <;> simp [h]
theorem tru_bit (b : Bool) : truD (.int ((if b then 1 else 0 : Nat) : Int)) = some b := by cases b <;> rfl
theorem ok_letter_at : BodyOk sp_letter_at tc_letter_at.N.length ir_letter_at := by
  rintro ds W ⟨m, i, rfl, w⟩
  refine ⟨_, rfl, _, rfl, Int.natCast_nonneg _, _, rfl, _, m.testBit i, rfl, ?_, ?_⟩
  · rw [bit_of, tru_bit]
  have h2 : (6 : Int) + (i : Int) = ((6 + i : Nat) : Int) := by omega
  cases q : m.testBit i with
  | true =>
    refine ⟨_, rfl, _, rfl, by omega, _, rfl, _, m.testBit (6 + i), rfl, ?_, ?_⟩
    · show truD (.int (Builtin.bitAnd ((m : Int) / 2 ^ ((6 : Int) + (i : Int)).toNat) 1)) = _
      rw [h2, bit_of, tru_bit]
    rw [q] at w
    cases q2 : m.testBit (6 + i) with
    | true =>
      rw [q2] at w
      exact ⟨_, _, rfl, rfl, .inl w⟩
    | false =>
      rw [q2] at w
      exact ⟨_, _, rfl, rfl, .inl w⟩
  | false =>
    refine ⟨_, rfl, _, rfl, by omega, _, rfl, _, m.testBit (6 + i), rfl, ?_, ?_⟩
    · show truD (.int (Builtin.bitAnd ((m : Int) / 2 ^ ((6 : Int) + (i : Int)).toNat) 1)) = _
      rw [h2, bit_of, tru_bit]
    rw [q] at w
    cases q2 : m.testBit (6 + i) with
    | true =>
      rw [q2] at w
      exact ⟨_, _, rfl, rfl, .inl w⟩
    | false =>
      rw [q2] at w
      exact ⟨_, _, rfl, rfl, .inl w⟩
theorem ok_numbers_in : BodyOk sp_numbers_in tc_numbers_in.N.length ir_numbers_in := by
  rintro ds W ⟨c, hc, rfl, w⟩
  have hb : Builtin.Int.intBits (c : Int) = if c = 0 then 0 else c.log2 + 1 := by
    unfold Builtin.Int.intBits
    by_cases h : c = 0
    · subst h
      rfl
    · rw [if_neg h, if_neg (by simpa using h)]
      rfl
  have hlt : (if c = 0 then 0 else c.log2 + 1) ≤ 60 := by
    split
    · omega
    · rename_i h
      have := (Nat.log2_lt h).mpr hc
      omega
  refine ⟨_, rfl, _, rfl, _, rfl, ⟨by omega, by rw [hb]; omega⟩, ?_⟩
  refine lc_pure (f := fun d => match d with | .int i => if c.testBit i.toNat then some (.int i) else none | _ => none) (fun _ h => nomatch h) _ [] (fun d hd K hK => ?_) ?_ ?_
  · obtain ⟨i, hi, rfl⟩ := List.mem_map.mp hd
    refine ⟨_, rfl, _, rfl, by omega, _, rfl, _, c.testBit i, rfl, ?_, ?_⟩
    · show truD (.int (Builtin.bitAnd ((c : Int) / 2 ^ ((0 : Int) + (i : Int)).toNat) 1)) = _
      rw [Int.zero_add, bit_of, tru_bit]
    · have hK : K (if c.testBit ((0 : Int) + (i : Int)).toNat then some (.int (0 + (i : Int))) else none) _ := hK
      rw [Int.zero_add, Int.toNat_natCast] at hK
      cases q : c.testBit i with
      | true =>
        rw [q] at hK
        rw [← Int.zero_add (i : Int)] at hK
        exact ⟨_, _, rfl, hK⟩
      | false =>
        rw [q] at hK
        exact hK
  · unfold rngD
    simp only [List.length_nil, List.length_map, List.length_range, hb, Int.toNat_natCast]
    omega
  · refine ⟨_, _, rfl, rfl, ?_⟩
    have e : (rngD 0 ((Builtin.Int.intBits (c : Int) : Nat) : Int).toNat).filterMap (fun d => match d with | .int i => if c.testBit i.toNat then some (D.int i) else none | _ => none) = (numsF c).map dN := by
      unfold rngD numsF
      rw [Int.toNat_natCast, hb, List.filterMap_map, ← List.filterMap_eq_filter, List.map_filterMap]
      refine fm_congr fun i _ => ?_
      show (if c.testBit ((0 : Int) + (i : Int)).toNat then some (D.int (0 + (i : Int))) else none) = _
      rw [Int.zero_add, Int.toNat_natCast]
      simp only [Option.guard]
      by_cases q : c.testBit i = true
      · rw [if_pos q, if_pos q]
        rfl
      · rw [if_neg q, if_neg q]
        rfl
    simp only [List.nil_append]
    rw [e]
    exact .inl w
end VL
namespace VL
open PySem PySem.Spec L2
/-- a row, as a slot may hold it: given, or made here -/
def RowS (s : Slot) (r : List Nat) : Prop := s = .val (dR r) ∨ s = .own (r.map dN)
theorem zip_xor : ∀ (r s : List Nat), (zipD (r.map dN) (s.map dN)).filterMap (fun d => match d with | .tup [.int a, .int b] => some (.int (Builtin.bitXor a b)) | _ => none) = (List.zipWith (· ^^^ ·) r s).map dN
  | [], s => by
    cases s <;> rfl
  | a :: r, [] => rfl
  | a :: r, b :: s => by
    have ih := zip_xor r s
    show List.filterMap _ (.tup [dN a, dN b] :: zipD (r.map dN) (s.map dN)) = _
    rw [List.filterMap_cons]
    show D.int (Builtin.bitXor (a : Int) (b : Int)) :: _ = _
    rw [ih, bxor_nat]
    rfl
abbrev bodyRed : D → Ev → (Ev → Prop) → WE → Prop := fun d e N K => ∃ e2, bindT (.nm 2) d e = some e2 ∧ wSs [.ite (.bv (.prim pwLt [.prim pwXor [.prim pwIx [.var 0, .cst (.int 0)], .prim pwIx [.var 2, .cst (.int 0)]], .prim pwIx [.var 0, .cst (.int 0)]])) [.set 0 (.lc [3, 4] (.tp [.nm 3, .nm 4]) (.zip (.var 0) (.var 2)) [] (.prim pwXor [.var 3, .var 4]))] []] e2 { K with nx := N, ct := N, bk := K.nx }
theorem at_hd {r : List Nat} (h : r ≠ []) : atI (r.map dN) 0 = some (dN (hd r)) := by
  cases r with
  | nil => exact absurd rfl h
  | cons a r =>
    unfold atI ixN
    simp
    rfl
theorem red_loop {K : WE} {Bs : List D} {Q : Ev → Prop} : ∀ (ss : List (List Nat)) (r : List Nat) (s0 s2 : Slot), RowS s0 r → (s2 = .un ∨ ∃ d, s2 = .val d) → r ≠ [] → r.length ≤ 100 → (∀ s ∈ ss, s.length = r.length) →
    (∀ s0 s2, RowS s0 (red r ss) → Q [s0, .bor Bs, s2, .un, .un]) → forLoop (fun d e N => bodyRed d e N K) (ss.map dR) [s0, .bor Bs, s2, .un, .un] Q
  | [], r, s0, s2, h0, _, _, _, _, q => q s0 s2 h0
  | s :: ss, r, s0, s2, h0, h2, hr, hl, hs, q => by
    have hsl := hs s (List.mem_cons_self ..)
    have hsn : s ≠ [] := by
      intro z
      subst z
      cases r with
      | nil => exact hr rfl
      | cons _ _ => cases hsl
    have bind : bindT (.nm 2) (dR s) [s0, .bor Bs, s2, .un, .un] = some [s0, .bor Bs, .val (dR s), .un, .un] := by
      rcases h2 with rfl | ⟨d, rfl⟩ <;> rfl
    refine ⟨_, bind, ?_⟩
    have next : ∀ r' s0', r' = (if hd r ^^^ hd s < hd r then List.zipWith (· ^^^ ·) r s else r) → RowS s0' r' → forLoop (fun d e N => bodyRed d e N K) (ss.map dR) [s0', .bor Bs, .val (dR s), .un, .un] Q := by
      intro r' s0' e h'
      have hlen : r'.length = r.length := by
        rw [e]
        split
        · rw [List.length_zipWith, hsl, Nat.min_self]
        · rfl
      refine red_loop ss r' s0' _ h' (.inr ⟨_, rfl⟩) (fun z => hr (List.length_eq_zero_iff.mp (by rw [← hlen, z]; rfl))) (by omega) (fun t ht => (hs t (List.mem_cons_of_mem _ ht)).trans hlen.symm) ?_
      intro a b hab
      refine q a b ?_
      rw [e] at hab
      exact hab
    have ix : atI (r.map dN) 0 = some (dN (hd r)) := at_hd hr
    have ix2 : atI (s.map dN) 0 = some (dN (hd s)) := at_hd hsn
    have cmp : decide (Builtin.bitXor ((hd r : Nat) : Int) ((hd s : Nat) : Int) < ((hd r : Nat) : Int)) = decide (hd r ^^^ hd s < hd r) := by
      rw [bxor_nat]
      exact decide_eq_decide.mpr Int.ofNat_lt
    have lc : ∀ (Qf : ER → Ev → Prop), (∀ env, env = [s0, .bor Bs, .val (dR s), .un, .un] → Qf (.own ((List.zipWith (· ^^^ ·) r s).map dN)) env) → wE (.lc [3, 4] (.tp [.nm 3, .nm 4]) (.zip (.var 0) (.var 2)) [] (.prim pwXor [.var 3, .var 4])) [s0, .bor Bs, .val (dR s), .un, .un] Qf := by
      intro Qf hQ
      have len : (zipD (r.map dN) (s.map dN)).length ≤ 100 := by
        rw [zipD_len, List.length_map, List.length_map]
        omega
      have step : ∀ d ∈ zipD (r.map dN) (s.map dN), ∀ (Kc : Option D → Ev → Prop), Kc (match d with | .tup [.int a, .int b] => some (.int (Builtin.bitXor a b)) | _ => none) [s0, .bor Bs, .val (dR s), .un, .un] →
          lcStep [3, 4] (.tp [.nm 3, .nm 4]) [] (.prim pwXor [.var 3, .var 4]) d [s0, .bor Bs, .val (dR s), .un, .un] Kc := by
        intro d hd Kc hK
        have : ∃ a b : Nat, d = .tup [dN a, dN b] := by
          obtain ⟨i, hi⟩ := List.mem_iff_getElem?.mp hd
          have hlt := (List.getElem?_eq_some_iff.mp hi).1
          rw [zipD_len, List.length_map, List.length_map] at hlt
          have h1 : (r.map dN)[i]? = some (dN (r.getD i 0)) := by
            rw [List.getElem?_map, List.getD_eq_getElem?_getD, List.getElem?_eq_getElem (by omega)]
            rfl
          have h2 : (s.map dN)[i]? = some (dN (s.getD i 0)) := by
            rw [List.getElem?_map, List.getD_eq_getElem?_getD, List.getElem?_eq_getElem (by omega)]
            rfl
          rw [zipD_get i _ _ h1 h2] at hi
          exact ⟨_, _, (Option.some.inj hi).symm⟩
        obtain ⟨a, b, rfl⟩ := this
        exact ⟨_, rfl, _, rfl, _, _, rfl, hK⟩
      rcases h0 with rfl | rfl
      · refine ⟨_, _, _, _, _, _, _, _, rfl, rfl, rfl, rfl, ?_⟩
        refine lc_pure (fun _ h => nomatch h) _ [] step (by simp only [List.length_nil]; omega) ?_
        rw [List.nil_append, zip_xor]
        exact hQ _ rfl
      · refine ⟨_, _, _, _, _, _, _, _, rfl, rfl, rfl, rfl, ?_⟩
        refine lc_pure (fun p hp => ?_) _ [] step (by simp only [List.length_nil]; omega) ?_
        · rw [List.mem_singleton.mp hp]
          rfl
        rw [List.nil_append, zip_xor]
        exact hQ _ rfl
    have test : ∀ {P1 P2 : Prop}, (hd r ^^^ hd s < hd r → P1) → (¬ hd r ^^^ hd s < hd r → P2) → if decide (Builtin.bitXor ((hd r : Nat) : Int) ((hd s : Nat) : Int) < ((hd r : Nat) : Int)) = true then P1 else P2 := by
      intro P1 P2 h1 h2
      rw [cmp]
      exact ite_dec h1 h2
    have go : wSs [.ite (.bv (.prim pwLt [.prim pwXor [.prim pwIx [.var 0, .cst (.int 0)], .prim pwIx [.var 2, .cst (.int 0)]], .prim pwIx [.var 0, .cst (.int 0)]])) [.set 0 (.lc [3, 4] (.tp [.nm 3, .nm 4]) (.zip (.var 0) (.var 2)) [] (.prim pwXor [.var 3, .var 4]))] []] [s0, .bor Bs, .val (dR s), .un, .un] { K with nx := fun e => forLoop (fun d e N => bodyRed d e N K) (ss.map dR) e Q, ct := fun e => forLoop (fun d e N => bodyRed d e N K) (ss.map dR) e Q, bk := K.nx } := by
      rcases h0 with rfl | rfl
      · refine ⟨_, rfl, _, ix, _, rfl, _, ix2, _, rfl, _, rfl, _, ix, _, rfl, _, rfl, test (fun h => ?_) fun h => ?_⟩
        · exact lc (fun r e1 => ∃ e2, store e1 0 r = some e2 ∧ forLoop (fun d e N => bodyRed d e N K) (ss.map dR) e2 Q) fun env e => by
            subst e
            exact ⟨_, rfl, next _ _ (by rw [if_pos h]) (.inr rfl)⟩
        · exact next _ _ (by rw [if_neg h]) (.inl rfl)
      · refine ⟨_, rfl, _, ix, _, rfl, _, ix2, _, rfl, _, rfl, _, ix, _, rfl, _, rfl, test (fun h => ?_) fun h => ?_⟩
        · exact lc (fun r e1 => ∃ e2, store e1 0 r = some e2 ∧ forLoop (fun d e N => bodyRed d e N K) (ss.map dR) e2 Q) fun env e => by
            subst e
            exact ⟨_, rfl, next _ _ (by rw [if_pos h]) (.inr rfl)⟩
        · exact next _ _ (by rw [if_neg h]) (.inr rfl)
    exact go
theorem ok_reduced : BodyOk sp_reduced tc_reduced.N.length ir_reduced := by
  rintro ds W ⟨r, ss, hr, hl, hs, rfl, w⟩
  refine ⟨_, rfl, _, _, _, _, rfl, rfl, rfl, ?_⟩
  refine red_loop ss r _ _ (.inl rfl) (.inl rfl) hr hl hs fun s0 s2 h => ?_
  rcases h with rfl | rfl
  · exact ⟨_, _, rfl, rfl, .inl w⟩
  · exact ⟨_, _, rfl, rfl, .inr ⟨_, rfl, w⟩⟩
end VL
namespace VL
open PySem PySem.Spec L2
theorem shl_one (i : Nat) : ((1 : Int) * (2 : Int) ^ ((i : Int)).toNat : Int) = ((1 <<< i : Nat) : Int) := shl_nat 1 i
/-- a slot that may be written -/
def Free (s : Slot) : Prop := s = .un ∨ ∃ d, s = .val d
def rowsFrom : Nat → List Nat → List (List Nat)
  | _, [] => []
  | i, m :: ms => [m, 1 <<< i] :: rowsFrom (i + 1) ms
theorem rowsFrom_eq : ∀ (ms : List Nat) (i : Nat), rowsFrom i ms = (List.range ms.length).map fun j => [ms.getD j 0, 1 <<< (i + j)]
  | [], i => rfl
  | m :: ms, i => by
    rw [rowsFrom, rowsFrom_eq ms (i + 1), List.length_cons, List.range_succ_eq_map, List.map_cons, List.map_map]
    congr 1
    refine List.map_congr_left fun j _ => ?_
    show [ms.getD j 0, 1 <<< (i + 1 + j)] = [(m :: ms).getD (j + 1) 0, 1 <<< (i + (j + 1))]
    rw [show i + 1 + j = i + (j + 1) by omega]
    rfl
theorem rowsOf_eq (ms : List Nat) : rowsOf ms = rowsFrom 0 ms := by
  rw [rowsFrom_eq]
  unfold rowsOf
  refine List.map_congr_left fun j _ => ?_
  rw [Nat.zero_add]
theorem red_len {r : List Nat} {ss : List (List Nat)} (h : r ≠ []) (hs : ∀ s ∈ ss, s.length = r.length) : (red r ss).length = r.length := (hd_red ss r h hs).2
theorem ne_dec {n : Nat} {a b : Prop} (h1 : n ≠ 0 → a) (h2 : n = 0 → b) : if (!decide (((n : Nat) : Int) = 0)) = true then a else b := by
  by_cases h : n = 0
  · subst h
    exact h2 rfl
  · have e : (!decide (((n : Nat) : Int) = 0)) = true := by simpa using h
    rw [if_pos e]
    exact h1 h
abbrev bodySteps : List IS := [.set 4 (.call sp_reduced [.lst [.var 3, .prim pwShl [.cst (.int 1), .var 2]], .var 1]), .ite (.bv (.prim pwNe [.prim pwIx [.var 4, .cst (.int 0)], .cst (.int 0)])) [.drop (.mut mwAppend 1 [.var 4])] []]
theorem steps_loop {K : WE} {M : D} {Q : Ev → Prop} : ∀ (ms : List Nat) (i : Nat) (ss : List (List Nat)) (a b c : Slot), Free a → Free b → Free c → (∀ s ∈ ss, s.length = 2) → ss.length ≤ i → i + ms.length ≤ 30 →
    (∀ a b c, Q [.val M, .own ((walkR ss (rowsFrom i ms)).map dR), a, b, c]) →
    forLoop (fun d e N => ∃ e2, bindT (.tp [.nm 2, .nm 3]) d e = some e2 ∧ wSs bodySteps e2 { K with nx := N, ct := N, bk := K.nx }) (enmD i (ms.map dN)) [.val M, .own (ss.map dR), a, b, c] Q
  | [], i, ss, a, b, c, _, _, _, _, _, _, q => q a b c
  | m :: ms, i, ss, a, b, c, ha, hb, hc, hs, hl, hi, q => by
    rw [List.length_cons] at hi
    have bind : bindT (.tp [.nm 2, .nm 3]) (.tup [.int (i : Nat), dN m]) [.val M, .own (ss.map dR), a, b, c] = some [.val M, .own (ss.map dR), .val (.int (i : Nat)), .val (dN m), c] := by
      rcases ha with rfl | ⟨_, rfl⟩ <;> rcases hb with rfl | ⟨_, rfl⟩ <;> rfl
    have hl2 : (red [m, 1 <<< i] ss).length = 2 := red_len (by simp) hs
    have hne : red [m, 1 <<< i] ss ≠ [] := by
      intro z
      rw [z] at hl2
      cases hl2
    have st : store [.val M, .own (ss.map dR), .val (.int (i : Nat)), .val (dN m), c] 4 (.val (dR (red [m, 1 <<< i] ss))) = some [.val M, .own (ss.map dR), .val (.int (i : Nat)), .val (dN m), .val (dR (red [m, 1 <<< i] ss))] := by
      rcases hc with rfl | ⟨_, rfl⟩ <;> rfl
    refine ⟨_, bind, _, rfl, Int.natCast_nonneg _, by omega, by decide, _, _, rfl, (by show 2 ≤ 100000; omega), _, _, rfl, [m, 1 <<< i], ss, by simp, by simp, hs, ?_, rfl, _, st, _, rfl, _, at_hd hne, _, rfl, _, rfl, ?_⟩
    · show [D.lst [dN m, .int (1 * 2 ^ ((i : Int)).toNat)], .lst (ss.map dR)] = _
      rw [shl_one]
      rfl
    · refine ne_dec (fun h => ?_) fun h => ?_
      · refine ⟨rfl, _, _, rfl, _, rfl, (by rw [List.length_map]; omega), ?_⟩
        have := steps_loop (K := K) (M := M) (Q := Q) ms (i + 1) (ss ++ [red [m, 1 <<< i] ss]) (.val (.int (i : Nat))) (.val (dN m)) (.val (dR (red [m, 1 <<< i] ss))) (.inr ⟨_, rfl⟩) (.inr ⟨_, rfl⟩) (.inr ⟨_, rfl⟩) (fun s hs2 => by
          rcases List.mem_append.mp hs2 with z | z
          · exact hs s z
          · rw [List.mem_singleton.mp z]
            exact hl2) (by rw [List.length_append, List.length_singleton]; omega) (by omega) (fun a b c => by
          have := q a b c
          rw [rowsFrom, walkR, if_pos h] at this
          exact this)
        rw [List.map_append] at this
        exact this
      · exact steps_loop ms (i + 1) ss _ _ _ (.inr ⟨_, rfl⟩) (.inr ⟨_, rfl⟩) (.inr ⟨_, rfl⟩) hs (by omega) (by omega) fun a b c => by
          have := q a b c
          rw [rowsFrom, walkR, if_neg (by simpa using h)] at this
          exact this
theorem ok_steps_of : BodyOk sp_steps_of tc_steps_of.N.length ir_steps_of := by
  rintro ds W ⟨ms, hl, rfl, w⟩
  refine ⟨_, rfl, _, _, rfl, (by show 0 ≤ 100000; omega), _, rfl, _, _, _, _, rfl, rfl, rfl, ?_⟩
  refine steps_loop ms 0 [] _ _ _ (.inl rfl) (.inl rfl) (.inl rfl) (fun _ h => nomatch h) (Nat.le_refl _) (by omega) fun a b c => ?_
  refine ⟨_, _, rfl, rfl, .inl ?_⟩
  rw [← rowsOf_eq]
  exact w
theorem red_one (m : Nat) (hs : List Nat) : red [m] (hs.map fun h => [h]) = [redN m hs] := by
  induction hs generalizing m with
  | nil => rfl
  | cons h hs ih =>
    show red (if m ^^^ h < m then [m ^^^ h] else [m]) _ = [redN (if m ^^^ h < m then m ^^^ h else m) hs]
    split
    · exact ih _
    · exact ih _
abbrev bodyBase : List IS := [.set 5 (.call sp_reduced [.lst [.var 4], .var 1]), .ite (.bv (.prim pwNe [.prim pwIx [.var 5, .cst (.int 0)], .cst (.int 0)])) [.drop (.mut mwAppend 1 [.var 5]), .drop (.mut mwAppend 2 [.var 3])] []]
def hsD (hs : List Nat) : List D := hs.map fun h => dR [h]
theorem base_loop {K : WE} {M : D} {Q : Ev → Prop} : ∀ (ms : List Nat) (i : Nat) (hs fs : List Nat) (a b c : Slot), Free a → Free b → Free c → hs.length ≤ i → fs.length ≤ i → i + ms.length ≤ 30 →
    (∀ a b c, Q [.val M, .own (hsD (walkB hs i fs ms).1), .own ((walkB hs i fs ms).2.map dN), a, b, c]) →
    forLoop (fun d e N => ∃ e2, bindT (.tp [.nm 3, .nm 4]) d e = some e2 ∧ wSs bodyBase e2 { K with nx := N, ct := N, bk := K.nx }) (enmD i (ms.map dN)) [.val M, .own (hsD hs), .own (fs.map dN), a, b, c] Q
  | [], i, hs, fs, a, b, c, _, _, _, _, _, _, q => q a b c
  | m :: ms, i, hs, fs, a, b, c, ha, hb, hc, hl, hl2, hi, q => by
    rw [List.length_cons] at hi
    have bind : bindT (.tp [.nm 3, .nm 4]) (.tup [.int (i : Nat), dN m]) [.val M, .own (hsD hs), .own (fs.map dN), a, b, c] = some [.val M, .own (hsD hs), .own (fs.map dN), .val (.int (i : Nat)), .val (dN m), c] := by
      rcases ha with rfl | ⟨_, rfl⟩ <;> rcases hb with rfl | ⟨_, rfl⟩ <;> rfl
    have st : store [.val M, .own (hsD hs), .own (fs.map dN), .val (.int (i : Nat)), .val (dN m), c] 5 (.val (dR (red [m] (hs.map fun h => [h])))) = some [.val M, .own (hsD hs), .own (fs.map dN), .val (.int (i : Nat)), .val (dN m), .val (dR (red [m] (hs.map fun h => [h])))] := by
      rcases hc with rfl | ⟨_, rfl⟩ <;> rfl
    refine ⟨_, bind, _, _, rfl, (by show 1 ≤ 100000; omega), _, _, rfl, [m], hs.map fun h => [h], by simp, by simp, (fun s hs => by obtain ⟨h, _, rfl⟩ := List.mem_map.mp hs; rfl), ?_, rfl, _, st, _, rfl, dN (redN m hs), ?_, _, rfl, _, rfl, ?_⟩
    · show [D.lst [dN m], .lst (hsD hs)] = [dR [m], .lst ((hs.map fun h => [h]).map dR)]
      rw [List.map_map]
      rfl
    · rw [red_one]
      rfl
    · refine ne_dec (fun h => ?_) fun h => ?_
      · refine ⟨rfl, _, _, rfl, _, rfl, (by show (hsD hs).length < 100000; unfold hsD; rw [List.length_map]; omega), ?_⟩
        refine ⟨rfl, _, _, rfl, _, rfl, (by rw [List.length_map]; omega), ?_⟩
        have := base_loop (K := K) (M := M) (Q := Q) ms (i + 1) (hs ++ [redN m hs]) (fs ++ [i]) (.val (.int (i : Nat))) (.val (dN m)) (.val (dR (red [m] (hs.map fun h => [h])))) (.inr ⟨_, rfl⟩) (.inr ⟨_, rfl⟩) (.inr ⟨_, rfl⟩) (by rw [List.length_append, List.length_singleton]; omega) (by rw [List.length_append, List.length_singleton]; omega) (by omega) (fun a b c => by
          have := q a b c
          rw [walkB, if_pos h] at this
          exact this)
        unfold hsD at this
        rw [List.map_append, List.map_append] at this
        rw [red_one] at this ⊢
        exact this
      · exact base_loop ms (i + 1) hs fs _ _ _ (.inr ⟨_, rfl⟩) (.inr ⟨_, rfl⟩) (.inr ⟨_, rfl⟩) (by omega) (by omega) (by omega) fun a b c => by
          have := q a b c
          rw [walkB, if_neg (by simpa using h)] at this
          exact this
theorem ok_base_of : BodyOk sp_base_of tc_base_of.N.length ir_base_of := by
  rintro ds W ⟨ms, hl, rfl, w⟩
  refine ⟨_, rfl, _, _, rfl, (by show 0 ≤ 100000; omega), _, _, rfl, (by show 0 ≤ 100000; omega), trivial, _, _, rfl, rfl, _, _, _, _, rfl, rfl, rfl, ?_⟩
  refine base_loop ms 0 [] [] _ _ _ (.inl rfl) (.inl rfl) (.inl rfl) (Nat.le_refl _) (Nat.le_refl _) (by omega) fun a b c => ?_
  exact ⟨_, _, rfl, rfl, .inl w⟩
theorem ok_rank_of : BodyOk sp_rank_of tc_rank_of.N.length ir_rank_of := by
  rintro ds W ⟨ms, hl, rfl, w⟩
  refine ⟨_, rfl, _, _, rfl, ms, hl, rfl, rfl, _, rfl, _, _, rfl, rfl, .inl ?_⟩
  rw [List.length_map]
  exact w
theorem ok_rank : BodyOk sp_rank tc_rank.N.length ir_rank := by
  rintro ds W ⟨ws, n, h, rfl, w⟩
  refine ⟨_, rfl, _, _, rfl, ws, n, h, rfl, rfl, _, _, rfl, mks ws, ?_, rfl, rfl, _, _, rfl, rfl, .inl w⟩
  have := h.2.2.1
  unfold mks
  rw [List.length_map]
  omega
theorem ok_firsts : BodyOk sp_firsts tc_firsts.N.length ir_firsts := by
  rintro ds W ⟨ws, n, h, rfl, w⟩
  refine ⟨_, rfl, _, _, rfl, ws, n, h, rfl, rfl, _, _, rfl, mks ws, ?_, rfl, rfl, _, rfl, _, _, rfl, rfl, .inl w⟩
  have := h.2.2.1
  unfold mks
  rw [List.length_map]
  omega
end VL
namespace VL
open PySem PySem.Spec L2
theorem enmD_mem {n : Nat} {ds : List D} {d : D} (h : d ∈ enmD n ds) : ∃ (i : Nat) (x : D), x ∈ ds ∧ i < n + ds.length ∧ d = .tup [.int (i : Nat), x] := by
  induction ds generalizing n with
  | nil => cases h
  | cons y ds ih =>
    rcases List.mem_cons.mp h with rfl | h
    · exact ⟨n, y, List.mem_cons_self .., by rw [List.length_cons]; omega, rfl⟩
    · obtain ⟨i, x, h1, h2, h3⟩ := ih h
      exact ⟨i, x, List.mem_cons_of_mem _ h1, by rw [List.length_cons]; omega, h3⟩
def pickB (g : D → Bool) : D → Option D
  | .tup [.int j, x] => if g x = true then some (.int (1 * 2 ^ j.toNat)) else none
  | _ => none
theorem sum_bits (g : D → Bool) : ∀ (ds : List D) (i : Nat), sumD ((enmD i ds).filterMap (pickB g)) = some (((natOf (ds.map g) <<< i : Nat) : Int))
  | [], i => by simp [enmD, natOf, sumD]
  | d :: ds, i => by
    have ih := sum_bits g ds (i + 1)
    have e : natOf (ds.map g) <<< (i + 1) = (2 * natOf (ds.map g)) <<< i := by
      rw [Nat.shiftLeft_eq, Nat.shiftLeft_eq, Nat.pow_succ, Nat.mul_comm 2, Nat.mul_assoc, Nat.mul_comm (2 ^ i)]
    show sumD (List.filterMap (pickB g) (.tup [.int (i : Nat), d] :: enmD (i + 1) ds)) = _
    rw [List.filterMap_cons]
    have pk : pickB g (.tup [.int (i : Nat), d]) = if g d = true then some (.int (1 * (2 : Int) ^ ((i : Int)).toNat)) else none := rfl
    have nk : natOf ((d :: ds).map g) = (if g d = true then 1 else 0) + 2 * natOf (ds.map g) := rfl
    rw [pk, nk]
    cases q : g d with
    | false =>
      simp only [Bool.false_eq_true, if_false, Nat.zero_add]
      rw [ih, e]
    | true =>
      simp only [if_true]
      unfold sumD
      rw [ih]
      show some ((1 : Int) * (2 : Int) ^ ((i : Int)).toNat + _) = _
      rw [shl_one, e, Nat.shiftLeft_eq, Nat.shiftLeft_eq, Nat.shiftLeft_eq, ← Int.natCast_add, Nat.add_mul]
theorem ok_pattern : BodyOk sp_pattern tc_pattern.N.length ir_pattern := by
  rintro ds W ⟨u, ms, hl, rfl, w⟩
  refine ⟨_, rfl, _, _, _, _, rfl, rfl, ?_⟩
  refine lc_pure (f := pickB fun x => match x with | .int m => crs u m.toNat | _ => false) (fun _ h => nomatch h) _ [] (fun d hd K hK => ?_) (by rw [enmD_len, List.length_map, List.length_nil]; omega) ?_
  · obtain ⟨i, x, hx, hi, rfl⟩ := enmD_mem hd
    obtain ⟨m, hm, rfl⟩ := List.mem_map.mp hx
    rw [List.length_map] at hi
    refine ⟨_, rfl, _, _, rfl, u, m, rfl, rfl, _, rfl, ?_⟩
    have hK : K (if crs u ((m : Int)).toNat = true then some (.int (1 * 2 ^ ((i : Int)).toNat)) else none) _ := hK
    rw [Int.toNat_natCast] at hK
    cases q : crs u m with
    | false =>
      rw [q] at hK
      exact hK
    | true =>
      rw [q] at hK
      exact ⟨_, rfl, Int.natCast_nonneg _, by omega, by decide, _, _, rfl, hK⟩
  · rw [List.nil_append]
    refine ⟨_, rfl, _, sum_bits _ _ 0, _, _, rfl, rfl, .inl ?_⟩
    rw [List.map_map]
    have e : (ms.map ((fun x => match x with | .int m => crs u m.toNat | _ => false) ∘ dN)) = ms.map (crs u) := by
      refine List.map_congr_left fun m _ => ?_
      show crs u ((m : Int)).toNat = crs u m
      rw [Int.toNat_natCast]
    rw [e, Nat.shiftLeft_zero]
    exact w
theorem join_str (s : Str) (l : List Str) : Txt.join s l = Str.join s l := StrLaws.glued_eq_join s l
theorem join_sgn : ∀ (l : List Nat), Txt.join ("" : Str) (l.map sgn) = ⟨l.toArray⟩
  | [] => rfl
  | [a] => rfl
  | a :: b :: r => by
    have ih := join_sgn (b :: r)
    rw [join_str] at ih ⊢
    show sgn a ++ ("" : Str) ++ Str.join ("" : Str) ((b :: r).map sgn) = _
    rw [ih]
    have e : (sgn a ++ ("" : Str) ++ (⟨(b :: r).toArray⟩ : Str)) = ⟨(#[a] ++ #[]) ++ (b :: r).toArray⟩ := rfl
    rw [e]
    simp
theorem ok_letters_of : BodyOk sp_letters_of tc_letters_of.N.length ir_letters_of := by
  rintro ds W ⟨m, n, hn, rfl, w⟩
  refine ⟨_, rfl, ⟨_, rfl, rfl⟩, (n : Int), rfl, ⟨by omega, by omega⟩, ?_⟩
  have len : (rngD 0 ((n : Int)).toNat).length ≤ 6 := by
    unfold rngD
    rw [List.length_map, List.length_range, Int.toNat_natCast]
    exact hn
  refine lc_pure (f := fun d => match d with | .int i => some (.str (sgn (cpOf (m.testBit i.toNat, m.testBit (6 + i.toNat))))) | _ => none) (fun _ h => nomatch h) _ [] (fun d hd K hK => ?_) (by simp only [List.length_nil]; omega) ?_
  · obtain ⟨i, hi, rfl⟩ := List.mem_map.mp hd
    refine ⟨_, rfl, _, _, rfl, m, i, ?_, rfl, _, _, rfl, ?_⟩
    · show [D.int (m : Int), D.int (0 + (i : Int))] = [dN m, dN i]
      rw [Int.zero_add]
      rfl
    · have hK : K (some (.str (sgn (cpOf (m.testBit ((0 : Int) + (i : Int)).toNat, m.testBit (6 + ((0 : Int) + (i : Int)).toNat)))))) _ := hK
      rw [Int.zero_add, Int.toNat_natCast] at hK
      exact hK
  · have e : (rngD 0 ((n : Int)).toNat).filterMap (fun d => match d with | .int i => some (D.str (sgn (cpOf (m.testBit i.toNat, m.testBit (6 + i.toNat))))) | _ => none) = (((wordF m n).map cpOf).map sgn).map D.str := by
      unfold rngD wordF
      rw [Int.toNat_natCast, List.filterMap_map, List.map_map, List.map_map, List.map_map, ← List.filterMap_eq_map]
      refine fm_congr fun i _ => ?_
      show some (D.str (sgn (cpOf (m.testBit ((0 : Int) + (i : Int)).toNat, m.testBit (6 + ((0 : Int) + (i : Int)).toNat))))) = _
      rw [Int.zero_add, Int.toNat_natCast]
      rfl
    rw [List.nil_append, e]
    refine ⟨_, _, rfl, _, rfl, _, rfl, ?_, _, _, rfl, rfl, .inl ?_⟩
    · rw [List.map_map]
      have : ∀ l : List Nat, (l.map (Str.length ∘ sgn)).sum = l.length := by
        intro l
        induction l with
        | nil => rfl
        | cons a l ih =>
          rw [List.map_cons, List.sum_cons, ih, List.length_cons]
          show 1 + _ = _
          omega
      rw [this, List.length_map, List.length_map, List.length_map]
      unfold wordF
      rw [List.length_map, List.length_range]
      show n + n * 0 ≤ 100000
      omega
    · rw [join_sgn]
      exact w
theorem ok_sizes_of : BodyOk sp_sizes_of tc_sizes_of.N.length ir_sizes_of := by
  rintro ds W ⟨ms, hl, rfl, w⟩
  refine ⟨_, rfl, _, _, rfl, ms, hl, rfl, rfl, _, _, rfl, ⟨_, rfl⟩, rfl, _, rfl, _, rfl, _, _, rfl, (by show 2 ≤ 100000; omega), _, _, rfl, rfl, .inl ?_⟩
  rw [List.length_map, List.length_map]
  exact w
theorem ok_sizes : BodyOk sp_sizes tc_sizes.N.length ir_sizes := by
  rintro ds W ⟨ws, n, h, rfl, w⟩
  refine ⟨_, rfl, _, _, rfl, ws, n, h, rfl, rfl, _, _, rfl, mks ws, ?_, rfl, rfl, _, _, rfl, rfl, .inl w⟩
  have := h.2.2.1
  unfold mks
  rw [List.length_map]
  omega
theorem ok_marks_by : BodyOk sp_marks_by tc_marks_by.N.length ir_marks_by := by
  rintro ds W ⟨ws, n, h, rfl, w⟩
  have h1 := h.1
  have h2 := h.2.1
  exact ⟨_, rfl, _, _, rfl, (n : Int), 1, 6, by omega, by omega, rfl, rfl, _, _, rfl, ws, n, h, rfl, rfl, _, _, rfl, rfl, .inl w⟩
theorem snd_lt {n : Nat} : ∀ {ss : List (List Nat)} {r : List Nat}, (∀ s ∈ ss, s.length = 2 ∧ s.getD 1 0 < 2 ^ n) → r.length = 2 → r.getD 1 0 < 2 ^ n → (red r ss).length = 2 ∧ (red r ss).getD 1 0 < 2 ^ n
  | [], r, _, h1, h2 => ⟨h1, h2⟩
  | s :: ss, r, hs, h1, h2 => by
    show (red (if hd r ^^^ hd s < hd r then List.zipWith (· ^^^ ·) r s else r) ss).length = 2 ∧ _
    have h3 := hs s (List.mem_cons_self ..)
    refine snd_lt (fun t ht => hs t (List.mem_cons_of_mem _ ht)) ?_ ?_
    · split
      · rw [List.length_zipWith, h1, h3.1, Nat.min_self]
      · exact h1
    · split
      · match r, s, h1, h3 with
        | [a, b], [c, d], _, h3 => exact Nat.xor_lt_two_pow h2 h3.2
      · exact h2
theorem steps_lt {n : Nat} : ∀ {rs ss : List (List Nat)}, (∀ s ∈ ss, s.length = 2 ∧ s.getD 1 0 < 2 ^ n) → (∀ s ∈ rs, s.length = 2 ∧ s.getD 1 0 < 2 ^ n) → ∀ s ∈ walkR ss rs, s.length = 2 ∧ s.getD 1 0 < 2 ^ n
  | [], ss, h1, _ => h1
  | r :: rs, ss, h1, h2 => by
    have h3 := h2 r (List.mem_cons_self ..)
    have h4 := snd_lt h1 h3.1 h3.2
    refine steps_lt (rs := rs) ?_ fun s hs => h2 s (List.mem_cons_of_mem _ hs)
    split
    · intro s hs
      rcases List.mem_append.mp hs with z | z
      · exact h1 s z
      · rw [List.mem_singleton.mp z]
        exact h4
    · exact h1
theorem stepsF_lt (ms : List Nat) : ∀ s ∈ stepsF ms, s.length = 2 ∧ s.getD 1 0 < 2 ^ ms.length := by
  refine steps_lt (fun _ h => nomatch h) fun s hs => ?_
  obtain ⟨i, hi, rfl⟩ := List.mem_map.mp hs
  refine ⟨rfl, ?_⟩
  show 1 <<< i < 2 ^ ms.length
  rw [Nat.one_shiftLeft]
  exact Nat.pow_lt_pow_right (by decide) (List.mem_range.mp hi)
theorem madeF_lt (ms : List Nat) (m : Nat) : (madeF ms m).length = 2 ∧ (madeF ms m).getD 1 0 < 2 ^ ms.length := snd_lt (stepsF_lt ms) rfl (Nat.two_pow_pos _)
theorem eq_dec {n : Nat} {a b : Prop} (h1 : n = 0 → a) (h2 : n ≠ 0 → b) : if decide (((n : Nat) : Int) = 0) = true then a else b := by
  refine ite_dec (fun h => h1 ?_) fun h => h2 ?_
  · exact Int.ofNat_eq_zero.mp h
  · exact fun z => h (by rw [z]; rfl)
theorem ok_made_of : BodyOk sp_made_of tc_made_of.N.length ir_made_of := by
  rintro ds W ⟨ms, m, hl, rfl, w⟩
  have hlen := madeF_lt ms m
  have hne : madeF ms m ≠ [] := by
    intro z
    rw [z] at hlen
    cases hlen.1
  have e1 : atI ((madeF ms m).map dN) 1 = some (dN ((madeF ms m).getD 1 0)) := by
    obtain ⟨h1, _⟩ := hlen
    revert h1
    generalize madeF ms m = r
    intro h1
    match r, h1 with
    | [a, b], _ => rfl
  refine ⟨_, rfl, _, _, rfl, (by show 2 ≤ 100000; omega), _, _, rfl, ms, hl, rfl, rfl, _, _, rfl, [m, 0], stepsF ms, by simp, by simp, (fun s hs => (stepsF_lt ms s hs).1), rfl, rfl, _, rfl, _, rfl, _, at_hd hne, _, rfl, _, rfl, ?_⟩
  refine eq_dec (fun h => ?_) fun h => ?_
  · have h : hd (madeF ms m) = 0 := h
    rw [if_pos h] at w
    refine ⟨_, rfl, _, e1, _, _, rfl, (madeF ms m).getD 1 0, ?_, rfl, rfl, _, _, rfl, rfl, .inl w⟩
    exact Nat.lt_of_lt_of_le hlen.2 (Nat.pow_le_pow_right (by decide) (by omega))
  · have h : ¬ hd (madeF ms m) = 0 := h
    rw [if_neg h] at w
    exact ⟨_, _, rfl, rfl, .inl w⟩
end VL
namespace VL
open PySem PySem.Spec L2
abbrev bodyPart : List IS := [.set 5 (.call sp_reduced [.lst [.call sp_pattern [.var 2, .var 0], .var 2], .var 3]), .ite (.bv (.prim pwNe [.prim pwIx [.var 5, .cst (.int 0)], .cst (.int 0)])) [.drop (.mut mwAppend 3 [.var 5])] [.drop (.mut mwAppend 4 [.prim pwIx [.var 5, .cst (.int 1)]])]]
theorem part_loop {K : WE} {M : List Nat} {n : D} {Q : Ev → Prop} (hM : M.length ≤ 30) : ∀ (us : List Nat) (ss : List (List Nat)) (ks : List D) (a c : Slot), Free a → Free c → (∀ s ∈ ss, s.length = 2) → ss.length + us.length ≤ 30 → ks.length + us.length ≤ 30 →
    (∀ a ks c, Q [.val (.lst (M.map dN)), .val n, a, .own ((walkR ss (us.map fun u => [patF u M, u])).map dR), .own ks, c]) →
    forLoop (fun d e N => ∃ e2, bindT (.nm 2) d e = some e2 ∧ wSs bodyPart e2 { K with nx := N, ct := N, bk := K.nx }) (us.map dN) [.val (.lst (M.map dN)), .val n, a, .own (ss.map dR), .own ks, c] Q
  | [], ss, ks, a, c, _, _, _, _, _, q => q a ks c
  | u :: us, ss, ks, a, c, ha, hc, hs, hl, hk, q => by
    rw [List.length_cons] at hl hk
    have bind : bindT (.nm 2) (dN u) [.val (.lst (M.map dN)), .val n, a, .own (ss.map dR), .own ks, c] = some [.val (.lst (M.map dN)), .val n, .val (dN u), .own (ss.map dR), .own ks, c] := by
      rcases ha with rfl | ⟨_, rfl⟩ <;> rfl
    have hl2 : (red [patF u M, u] ss).length = 2 := red_len (by simp) hs
    have hne : red [patF u M, u] ss ≠ [] := by
      intro z
      rw [z] at hl2
      cases hl2
    have st : store [.val (.lst (M.map dN)), .val n, .val (dN u), .own (ss.map dR), .own ks, c] 5 (.val (dR (red [patF u M, u] ss))) = some [.val (.lst (M.map dN)), .val n, .val (dN u), .own (ss.map dR), .own ks, .val (dR (red [patF u M, u] ss))] := by
      rcases hc with rfl | ⟨_, rfl⟩ <;> rfl
    refine ⟨_, bind, _, _, rfl, u, M, hM, rfl, rfl, _, _, rfl, (by show 2 ≤ 100000; omega), _, _, rfl, [patF u M, u], ss, by simp, by simp, hs, rfl, rfl, _, st, _, rfl, _, at_hd hne, _, rfl, _, rfl, ?_⟩
    refine ne_dec (fun h => ?_) fun h => ?_
    · refine ⟨rfl, _, _, rfl, _, rfl, (by rw [List.length_map]; omega), ?_⟩
      have := part_loop (K := K) (M := M) (n := n) (Q := Q) hM us (ss ++ [red [patF u M, u] ss]) ks (.val (dN u)) (.val (dR (red [patF u M, u] ss))) (.inr ⟨_, rfl⟩) (.inr ⟨_, rfl⟩) (fun s hs2 => by
        rcases List.mem_append.mp hs2 with z | z
        · exact hs s z
        · rw [List.mem_singleton.mp z]
          exact hl2) (by rw [List.length_append, List.length_singleton]; omega) (by omega) (fun a ks c => by
        have := q a ks c
        rw [List.map_cons, walkR, if_pos h] at this
        exact this)
      rw [List.map_append] at this
      exact this
    · have e1 : atI ((red [patF u M, u] ss).map dN) 1 = some (dN ((red [patF u M, u] ss).getD 1 0)) := by
        revert hl2
        generalize red [patF u M, u] ss = r
        intro h1
        match r, h1 with
        | [a, b], _ => rfl
      refine ⟨rfl, _, rfl, _, e1, _, _, rfl, _, rfl, (by omega), ?_⟩
      exact part_loop hM us ss _ (.val (dN u)) (.val (dR (red [patF u M, u] ss))) (.inr ⟨_, rfl⟩) (.inr ⟨_, rfl⟩) hs (by omega) (by rw [List.length_append, List.length_singleton]; omega) fun a ks c => by
        have := q a ks c
        rw [List.map_cons, walkR, if_neg (by simpa using h)] at this
        exact this
theorem ok_parted_units : BodyOk sp_parted_units tc_parted_units.N.length ir_parted_units := by
  rintro ds W ⟨ms, n, hl, hn, rfl, w⟩
  refine ⟨_, rfl, _, _, rfl, (by show 0 ≤ 100000; omega), _, _, rfl, (by show 0 ≤ 100000; omega), trivial, _, _, rfl, rfl, _, _, rfl, n, hn, rfl, rfl, _, _, _, _, rfl, rfl, rfl, ?_⟩
  have ul : (unitsF n).length = n + n := by
    unfold unitsF
    rw [List.length_append, List.length_map, List.length_map, List.length_range]
  refine part_loop hl (unitsF n) [] [] _ _ (.inl rfl) (.inl rfl) (fun _ h => nomatch h) (by rw [ul, List.length_nil]; omega) (by rw [ul, List.length_nil]; omega) fun a ks c => ?_
  exact ⟨_, _, rfl, (by show 2 ≤ 100000; omega), _, _, rfl, rfl, .inl (w ks)⟩
theorem prowsF_len (ms : List Nat) (n : Nat) : ∀ s ∈ prowsF ms n, s.length = 2 := by
  have h := walkR_ok (f := fun u => patF u ms) (fun a b => patF_xor a b ms) ((unitsF n).map fun u => [patF u ms, u]) (ss := []) (pre := []) (fun _ h => nomatch h) (fun r hr => by
    obtain ⟨u, _, rfl⟩ := List.mem_map.mp hr
    exact ⟨u, rfl⟩) .nil fun _ => Iff.rfl
  intro s hs
  obtain ⟨c, rfl⟩ := h.1 s hs
  rfl
theorem ok_crossing_as : BodyOk sp_crossing_as tc_crossing_as.N.length ir_crossing_as := by
  rintro ds W ⟨ms, fl, n, hl, hf, hn, rfl, hsp, w⟩
  have hw := walkR_ok (f := fun u => patF u ms) (fun a b => patF_xor a b ms) ((unitsF n).map fun u => [patF u ms, u]) (ss := []) (pre := []) (fun _ h => nomatch h) (fun r hr => by
    obtain ⟨u, _, rfl⟩ := List.mem_map.mp hr
    exact ⟨u, rfl⟩) .nil fun _ => Iff.rfl
  have erow : ((unitsF n).map fun u => [patF u ms, u]).map hd = (unitsF n).map fun u => patF u ms := by
    rw [List.map_map]
    rfl
  rw [List.nil_append, erow] at hw
  have p0 : patF 0 ms = 0 := by
    refine Nat.eq_of_testBit_eq fun i => ?_
    rw [patF_bit, crs_zero, Nat.zero_testBit]
  obtain ⟨c, hc⟩ := red_q (f := fun u => patF u ms) (fun a b => patF_xor a b ms) (d := natOf fl) hw.1 (row := [natOf fl, 0]) ⟨0, by show [natOf fl, 0] = [natOf fl ^^^ patF 0 ms, 0]; rw [p0, Nat.xor_zero]⟩
  have hz : hd (red [natOf fl, 0] (prowsF ms n)) = 0 := by
    rw [(hd_red (prowsF ms n) [natOf fl, 0] (by simp) (prowsF_len ms n)).1]
    refine (redN_zero hw.2.1 _).mpr ?_
    exact (hw.2.2 _).mpr hsp
  have hcf : patF c ms = natOf fl := by
    have z : hd [natOf fl ^^^ patF c ms, c] = 0 := by
      rw [← hc]
      exact hz
    have z : natOf fl ^^^ patF c ms = 0 := z
    have := xor_cancel_left (natOf fl) (patF c ms)
    rw [z, Nat.xor_zero] at this
    exact this.symm
  have e1 : red [natOf fl, 0] (prowsF ms n) = [natOf fl ^^^ patF c ms, c] := hc
  refine ⟨_, rfl, _, _, _, _, rfl, rfl, ?_⟩
  refine lc_pure (f := pickB fun x => match x with | .bl b => b | _ => false) (fun _ h => nomatch h) _ [] (fun d hd K hK => ?_) (by rw [enmD_len, List.length_map, List.length_nil]; omega) ?_
  · obtain ⟨i, x, hx, hi, rfl⟩ := enmD_mem hd
    obtain ⟨b, hb, rfl⟩ := List.mem_map.mp hx
    rw [List.length_map] at hi
    refine ⟨_, rfl, _, b, rfl, rfl, ?_⟩
    cases b with
    | false => exact hK
    | true => exact ⟨_, rfl, Int.natCast_nonneg _, by omega, by decide, _, _, rfl, hK⟩
  · rw [List.nil_append]
    refine ⟨_, rfl, _, sum_bits _ _ 0, ?_⟩
    rw [List.map_map, Nat.shiftLeft_zero]
    have e : (fl.map ((fun x => match x with | .bl b => b | _ => false) ∘ D.bl)) = fl := by
      have : ((fun x => match x with | .bl b => b | _ => false) ∘ D.bl) = id := rfl
      rw [this, List.map_id]
    rw [e]
    refine ⟨_, rfl, _, _, rfl, (by show 2 ≤ 100000; omega), _, _, rfl, ms, n, hl, hn, rfl, fun kept => ⟨rfl, _, rfl, _, rfl, _, _, rfl, [natOf fl, 0], prowsF ms n, by simp, by simp, prowsF_len ms n, rfl, rfl, _, rfl, _, rfl, dN 0, ?_, _, rfl, _, rfl, ?_⟩⟩
    · have hne : red [natOf fl, 0] (prowsF ms n) ≠ [] := by rw [e1]; simp
      have := at_hd hne
      rw [hz] at this
      exact this
    · refine ⟨_, rfl, dN c, ?_, _, _, rfl, rfl, .inl (w c hcf)⟩
      show atI ((red [natOf fl, 0] (prowsF ms n)).map dN) 1 = _
      rw [e1]
      rfl
theorem natOf_last : ∀ k : Nat, natOf (List.replicate k false ++ [true]) = 1 <<< k
  | 0 => rfl
  | k + 1 => by
    rw [List.replicate_succ, List.cons_append, natOf, natOf_last k, Nat.shiftLeft_succ]
    simp
theorem frzL_vals {env : Ev} (d : D) : ∀ ds : List D, frzL env (ds.map ER.val ++ [.val d]) = some (ds ++ [d], env)
  | [] => rfl
  | x :: ds => by
    have ih := frzL_vals (env := env) d ds
    rw [List.map_cons, List.cons_append]
    unfold frzL
    simp only [frz, ih]
    rfl
theorem rep_flat (k : Nat) : (List.replicate ((k : Int)).toNat [D.bl false]).flatten = (List.replicate k false).map D.bl := by
  rw [Int.toNat_natCast]
  induction k with
  | zero => rfl
  | succ k ih =>
    rw [List.replicate_succ, List.flatten_cons, ih]
    rfl
theorem ok_bar_of : BodyOk sp_bar_of tc_bar_of.N.length ir_bar_of := by
  rintro ds W ⟨ms, m, n, hl, hn, rfl, h1, h2, h3, w⟩
  have hb := bar_is hn h1 h2 h3
  refine ⟨_, rfl, _, _, rfl, rfl, (fun s z => by cases z), _, _, frzL_vals _ _, ?_, _, _, rfl, (by show 1 ≤ 100000; omega), _, rfl, _, rfl, Int.natCast_nonneg _, ?_, (by show 1 ≤ 100; omega), _, _, rfl, (by show 1 ≤ 100000; omega), _, rfl, ?_, _, _, rfl, ms ++ [m], List.replicate ms.length false ++ [true], n, ?_, ?_, hn, ?_, ?_, fun c hc => ⟨rfl, _, _, rfl, rfl, .inl (w c ?_ ?_)⟩⟩
  · rw [List.length_append, List.length_map]
    show ms.length + 1 ≤ 100000
    omega
  · rw [List.length_map]
    omega
  · rw [rep_flat, List.length_map, List.length_map, List.length_replicate]
    show ms.length + 1 ≤ 100000
    omega
  · rw [List.length_append]
    show ms.length + 1 ≤ 30
    omega
  · rw [List.length_append, List.length_replicate]
    show ms.length + 1 ≤ 30
    omega
  · rw [rep_flat, List.length_map, List.map_append, List.map_append]
    rfl
  · rw [natOf_last]
    exact hb
  · intro x hx
    obtain ⟨i, hi⟩ := List.mem_iff_getElem?.mp hx
    have hlt := (List.getElem?_eq_some_iff.mp hi).1
    have := patF_bit c (ms ++ [m]) i
    rw [hc, natOf_last, Nat.one_shiftLeft, Nat.testBit_two_pow, List.getD_eq_getElem?_getD, List.getElem?_append_left hlt, hi] at this
    rw [decide_eq_false (by omega)] at this
    exact this.symm
  · have := patF_bit c (ms ++ [m]) ms.length
    rw [hc, natOf_last, Nat.one_shiftLeft, Nat.testBit_two_pow, List.getD_eq_getElem?_getD, List.getElem?_append_right (Nat.le_refl _), Nat.sub_self] at this
    rw [decide_eq_true rfl] at this
    exact this.symm
end VL
namespace VL
open PySem PySem.Spec L2
theorem seq_sW (w : Wrd) : seqD (.str (sW w)) = some (w.map fun p => .str (sgn (cpOf p))) := by
  show some (((w.map cpOf).toArray.toList).map fun c => D.str (sgn c)) = _
  rw [List.toList_toArray, List.map_map]
  rfl
theorem len_sW (w : Wrd) : (sW w).length = w.length := by
  show (w.map cpOf).toArray.size = _
  rw [List.size_toArray, List.length_map]
theorem in_letters : ∀ p : Bool × Bool, inD (.str (sgn (cpOf p))) g_LETTERS = some true := by
  intro ⟨a, b⟩
  cases a <;> cases b <;> decide +kernel
theorem in_xy : ∀ p : Bool × Bool, inD (.str (sgn (cpOf p))) (.tup [g_TO_X, g_TO_Y]) = some p.1 := by
  intro ⟨a, b⟩
  cases a <;> cases b <;> decide +kernel
theorem in_zy : ∀ p : Bool × Bool, inD (.str (sgn (cpOf p))) (.tup [g_TO_Z, g_TO_Y]) = some p.2 := by
  intro ⟨a, b⟩
  cases a <;> cases b <;> decide +kernel
theorem fm_const {α β : Type} (x : β) : ∀ l : List α, l.filterMap (fun _ => some x) = List.replicate l.length x
  | [] => rfl
  | a :: l => by
    rw [List.filterMap_cons, List.length_cons, List.replicate_succ]
    show x :: _ = _
    rw [fm_const x l]
theorem ok_is_letters : BodyOk sp_is_letters tc_is_letters.N.length ir_is_letters := by
  rintro ds W ⟨w, n, hl, rfl, hw⟩
  refine ⟨_, rfl, _, rfl, true, (show kitB "str" "str" = some true by decide), true, rfl, _, rfl, ?_, _, rfl, _, rfl, ?_⟩
  · rw [len_sW]
    omega
  rw [len_sW]
  have e0 : decide ((w.length : Int) = (n : Int)) = decide (w.length = n) := decide_eq_decide.mpr Int.ofNat_inj
  rw [e0]
  refine ite_dec (fun h => ?_) fun h => ?_
  · rw [decide_eq_true h] at hw
    refine ⟨_, _, _, _, rfl, seq_sW w, ?_⟩
    refine lc_pure (f := fun _ => some (.bl true)) (fun _ h => nomatch h) _ [] (fun d hd K hK => ?_) (by rw [List.length_map, List.length_nil]; omega) ?_
    · obtain ⟨p, _, rfl⟩ := List.mem_map.mp hd
      exact ⟨_, rfl, _, rfl, true, in_letters p, _, _, rfl, hK⟩
    · have e : (w.map fun p => D.str (sgn (cpOf p))).filterMap (fun _ => some (D.bl true)) = (List.replicate w.length true).map D.bl := by
        rw [fm_const, List.length_map, List.map_replicate]
      rw [List.nil_append, e]
      refine ⟨_, rfl, _, rfl, _, _, rfl, rfl, .inl ?_⟩
      have : (List.replicate w.length true).all id = true := by
        rw [List.all_eq_true]
        intro b hb
        rw [List.eq_of_mem_replicate hb]
        rfl
      rw [this]
      exact hw
  · rw [decide_eq_false h] at hw
    exact ⟨_, _, rfl, rfl, .inl hw⟩
theorem natOf_cons (b : Bool) (bs : List Bool) (i : Nat) : natOf (b :: bs) <<< i = ((if b = true then 1 else 0) <<< i) ||| (natOf bs <<< (i + 1)) := by
  refine Nat.eq_of_testBit_eq fun j => ?_
  rw [Nat.testBit_or, Nat.testBit_shiftLeft, Nat.testBit_shiftLeft, Nat.testBit_shiftLeft, natOf_bit, natOf_bit]
  by_cases h1 : i ≤ j
  · obtain ⟨d, rfl⟩ : ∃ d, j = i + d := ⟨j - i, by omega⟩
    cases d with
    | zero => cases b <;> simp <;> (intro h; omega)
    | succ d =>
      have h2 : i + 1 ≤ i + (d + 1) := by omega
      rw [show i + (d + 1) - i = d + 1 by omega, show i + (d + 1) - (i + 1) = d by omega, decide_eq_true (show i + (d + 1) ≥ i by omega), decide_eq_true (show i + (d + 1) ≥ i + 1 from h2)]
      cases b <;> simp [Nat.testBit_succ]
  · rw [decide_eq_false (show ¬ j ≥ i by omega), decide_eq_false (show ¬ j ≥ i + 1 by omega)]
    simp
abbrev bodyMark : List IS := [.set 1 (.prim pwOr [.prim pwOr [.var 1, .prim pwShl [.prim pwInt [.prim pwIn [.var 3, .tup [.cst g_TO_X, .cst g_TO_Y]]], .var 2]], .prim pwShl [.prim pwInt [.prim pwIn [.var 3, .tup [.cst g_TO_Z, .cst g_TO_Y]]], .prim pwAdd [.cst g_MOST_WIRES, .var 2]]])]
theorem mark_loop {K : WE} {M : D} {Q : Ev → Prop} : ∀ (w : Wrd) (i acc : Nat) (a b : Slot), Free a → Free b → i + w.length ≤ 10 →
    (∀ a b, Q [.val M, .val (dN (acc ||| (natOf (w.map (·.1)) <<< i) ||| (natOf (w.map (·.2)) <<< (6 + i)))), a, b]) →
    forLoop (fun d e N => ∃ e2, bindT (.tp [.nm 2, .nm 3]) d e = some e2 ∧ wSs bodyMark e2 { K with nx := N, ct := N, bk := K.nx }) (enmD i (w.map fun p => .str (sgn (cpOf p)))) [.val M, .val (dN acc), a, b] Q
  | [], i, acc, a, b, _, _, _, q => by
    have := q a b
    simp [natOf] at this
    exact this
  | p :: w, i, acc, a, b, ha, hb, hi, q => by
    rw [List.length_cons] at hi
    have bind : bindT (.tp [.nm 2, .nm 3]) (.tup [.int (i : Nat), .str (sgn (cpOf p))]) [.val M, .val (dN acc), a, b] = some [.val M, .val (dN acc), .val (.int (i : Nat)), .val (.str (sgn (cpOf p)))] := by
      rcases ha with rfl | ⟨_, rfl⟩ <;> rcases hb with rfl | ⟨_, rfl⟩ <;> rfl
    have small : ∀ b : Bool, (if b = true then (1 : Int) else 0).natAbs < 2 ^ 64 := by decide
    have e6 : (6 : Int) + ((i : Nat) : Int) = ((6 + i : Nat) : Int) := by omega
    refine ⟨_, bind, _, _, rfl, (by show 2 ≤ 100000; omega), _, rfl, p.1, in_xy p, _, rfl, _, rfl, Int.natCast_nonneg _, by omega, small _, _, rfl, _, _, rfl, (by show 2 ≤ 100000; omega), _, rfl, p.2, in_zy p, _, rfl, _, rfl, _, rfl, by omega, by omega, small _, _, rfl, _, rfl, ?_⟩
    have val : Builtin.bitOr (Builtin.bitOr (acc : Int) ((if p.1 = true then (1 : Int) else 0) * (2 : Int) ^ ((i : Int)).toNat)) ((if p.2 = true then (1 : Int) else 0) * (2 : Int) ^ ((6 : Int) + (i : Int)).toNat) = ((acc ||| ((if p.1 = true then 1 else 0) <<< i) ||| ((if p.2 = true then 1 else 0) <<< (6 + i)) : Nat) : Int) := by
      have c : ∀ b : Bool, (if b = true then (1 : Int) else 0) = (((if b = true then 1 else 0 : Nat)) : Int) := by intro b; cases b <;> rfl
      rw [c, c, e6, shl_nat, shl_nat, bor_nat, bor_nat]
    have := mark_loop (K := K) (M := M) (Q := Q) w (i + 1) (acc ||| ((if p.1 = true then 1 else 0) <<< i) ||| ((if p.2 = true then 1 else 0) <<< (6 + i))) (.val (.int (i : Nat))) (.val (.str (sgn (cpOf p)))) (.inr ⟨_, rfl⟩) (.inr ⟨_, rfl⟩) (by omega) (fun a b => by
      have := q a b
      rw [List.map_cons, List.map_cons, natOf_cons, natOf_cons] at this
      have e : acc ||| ((if p.1 = true then 1 else 0) <<< i ||| natOf (w.map (·.1)) <<< (i + 1)) ||| ((if p.2 = true then 1 else 0) <<< (6 + i) ||| natOf (w.map (·.2)) <<< (6 + i + 1)) = acc ||| ((if p.1 = true then 1 else 0) <<< i) ||| ((if p.2 = true then 1 else 0) <<< (6 + i)) ||| (natOf (w.map (·.1)) <<< (i + 1)) ||| (natOf (w.map (·.2)) <<< (6 + (i + 1))) := by
        rw [show 6 + i + 1 = 6 + (i + 1) by omega]
        generalize (if p.1 = true then 1 else 0) <<< i = A
        generalize natOf (w.map (·.1)) <<< (i + 1) = B
        generalize (if p.2 = true then 1 else 0) <<< (6 + i) = C
        generalize natOf (w.map (·.2)) <<< (6 + (i + 1)) = E
        refine Nat.eq_of_testBit_eq fun j => ?_
        simp only [Nat.testBit_or, Bool.or_assoc, Bool.or_left_comm, Bool.or_comm]
      rw [e] at this
      exact this)
    unfold dN at this
    rw [← val] at this
    exact this
theorem ok_mark_of : BodyOk sp_mark_of tc_mark_of.N.length ir_mark_of := by
  rintro ds W ⟨w, hl, rfl, hw⟩
  refine ⟨_, rfl, _, rfl, _, _, _, _, rfl, seq_sW w, rfl, ?_⟩
  refine mark_loop w 0 0 _ _ (.inl rfl) (.inl rfl) (by omega) fun a b => ?_
  refine ⟨_, _, rfl, rfl, .inl ?_⟩
  rw [Nat.zero_or, Nat.shiftLeft_zero]
  exact hw
end VL
namespace VL
open PySem PySem.Spec L2
theorem made_zero (ms : List Nat) (m : Nat) : (hd (madeF ms m) = 0 ↔ Sp ms m) ∧ (hd (madeF ms m) = 0 → selX ms ((madeF ms m).getD 1 0) = m) := by
  have hrow : ∀ r ∈ rowsOf ms, RowP (selX ms) r := fun r hr => by
    obtain ⟨i, hi, rfl⟩ := List.mem_map.mp hr
    exact ⟨1 <<< i, by rw [selX_one]⟩
  have hw := walkR_ok (f := selX ms) (selX_xor ms) (rowsOf ms) (ss := []) (pre := []) (fun _ h => nomatch h) hrow .nil fun _ => Iff.rfl
  have er : (rowsOf ms).map hd = ms := by
    unfold rowsOf
    rw [List.map_map]
    refine List.ext_getElem? fun i => ?_
    rw [List.getElem?_map]
    by_cases hi : i < ms.length
    · rw [List.getElem?_range hi, List.getElem?_eq_getElem hi]
      show some (ms.getD i 0) = _
      rw [List.getD_eq_getElem?_getD, List.getElem?_eq_getElem hi]
      rfl
    · rw [List.getElem?_eq_none (by simpa using hi), List.getElem?_eq_none (by simpa using hi)]
      rfl
  rw [List.nil_append, er] at hw
  have hh : hd (madeF ms m) = redN m ((stepsF ms).map hd) := (hd_red (stepsF ms) [m, 0] (by simp) fun s hs => (stepsF_lt ms s hs).1).1
  refine ⟨by rw [hh]; exact (redN_zero hw.2.1 m).trans (hw.2.2 m), fun hz => ?_⟩
  obtain ⟨c, hc⟩ := red_q (f := selX ms) (selX_xor ms) (d := m) hw.1 (row := [m, 0]) ⟨0, by rw [selX_zero, Nat.xor_zero]⟩
  have hc : madeF ms m = [m ^^^ selX ms c, c] := hc
  rw [hc] at hz ⊢
  have hz : m ^^^ selX ms c = 0 := hz
  have := xor_cancel_left m (selX ms c)
  rw [hz, Nat.xor_zero] at this
  exact this.symm
theorem mk_bit (w : Wrd) (i : Nat) : (mk w).testBit i = ((w.map (·.1)).getD i false || (decide (6 ≤ i) && (w.map (·.2)).getD (i - 6) false)) := by
  unfold mk
  rw [Nat.testBit_or, Nat.testBit_shiftLeft, natOf_bit, natOf_bit]
theorem getD_lt {l : List Bool} {i : Nat} (h : l.getD i false = true) : i < l.length := by
  rw [List.getD_eq_getElem?_getD] at h
  cases q : l[i]? with
  | none => rw [q] at h; cases h
  | some b => exact (List.getElem?_eq_some_iff.mp q).1
theorem mk_wd {w : Wrd} {n : Nat} (h : w.length = n) : Wd n (mk w) := by
  intro i hi
  rw [mk_bit] at hi
  rcases Bool.or_eq_true_iff.mp hi with z | z
  · have := getD_lt z
    rw [List.length_map] at this
    exact .inl (by omega)
  · obtain ⟨h6, z⟩ := Bool.and_eq_true_iff.mp z
    have h6 := of_decide_eq_true h6
    have := getD_lt z
    rw [List.length_map] at this
    exact .inr ⟨h6, by omega⟩
theorem mks_wd {ws : List Wrd} {n : Nat} (h : wOk n ws) : ∀ x ∈ mks ws, Wd n x := by
  intro x hx
  obtain ⟨w, hw, rfl⟩ := List.mem_map.mp hx
  exact mk_wd (h.2.2.2 w hw)
theorem mks_len {ws : List Wrd} {n : Nat} (h : wOk n ws) : (mks ws).length = ws.length ∧ (mks ws).length ≤ 12 := by
  unfold mks
  rw [List.length_map]
  exact ⟨rfl, h.2.2.1⟩
/-- the mark of a text -/
def mkS (s : Str) : Nat := natOf (s.cps.toList.map fun c => c == 88 || c == 89) ||| (natOf (s.cps.toList.map fun c => c == 90 || c == 89) <<< 6)
theorem mkS_ok (w : Wrd) : mkS (sW w) = mk w := by
  unfold mkS mk sW
  rw [List.toList_toArray, List.map_map, List.map_map]
  have e1 : ((fun c => c == 88 || c == 89) ∘ cpOf) = fun p : Bool × Bool => p.1 := by
    funext p
    obtain ⟨a, b⟩ := p
    cases a <;> cases b <;> rfl
  have e2 : ((fun c => c == 90 || c == 89) ∘ cpOf) = fun p : Bool × Bool => p.2 := by
    funext p
    obtain ⟨a, b⟩ := p
    cases a <;> cases b <;> rfl
  rw [e1, e2]
theorem ok_marks_told : BodyOk sp_marks_told tc_marks_told.N.length ir_marks_told := by
  rintro ds W ⟨ws, n, h, rfl, hw⟩
  obtain ⟨h6, h1, h12, hl⟩ := h
  refine ⟨_, rfl, _, _, rfl, ws.map fun w => .str (sW w), 0, 12, rfl, rfl, _, rfl, ?_⟩
  have d1 : decide ((0 : Int) ≤ ((ws.map fun w => D.str (sW w)).length : Int) ∧ ((ws.map fun w => D.str (sW w)).length : Int) ≤ 12) = true := by
    rw [List.length_map]
    exact decide_eq_true ⟨Int.natCast_nonneg _, by omega⟩
  rw [d1]
  have len : (ws.map fun w => D.str (sW w)).length ≤ 100 := by
    rw [List.length_map]
    omega
  refine ⟨_, _, _, _, rfl, rfl, ?_⟩
  refine lc_pure (f := fun _ => some (.bl true)) (fun _ h => nomatch h) _ [] (fun d hd K hK => ?_) (by rw [List.length_nil]; omega) ?_
  · obtain ⟨w, hw, rfl⟩ := List.mem_map.mp hd
    refine ⟨_, rfl, _, _, rfl, w, n, by have := hl w hw; omega, rfl, rfl, _, _, rfl, ?_⟩
    rw [decide_eq_true (hl w hw)]
    exact hK
  rw [List.nil_append, fm_const]
  refine ⟨_, rfl, List.replicate (ws.map fun w => D.str (sW w)).length true, by rw [List.map_replicate], _, rfl, ?_⟩
  have al : ∀ k : Nat, (List.replicate k true).all id = true := fun k => by
    rw [List.all_eq_true]
    intro b hb
    rw [List.eq_of_mem_replicate hb]
    rfl
  rw [al]
  refine ⟨_, _, _, _, rfl, rfl, ?_⟩
  refine lc_pure (f := fun d => match d with | .str s => some (dN (mkS s)) | _ => none) (fun _ h => nomatch h) _ [] (fun d hd K hK => ?_) (by rw [List.length_nil]; omega) ?_
  · obtain ⟨w, hw, rfl⟩ := List.mem_map.mp hd
    refine ⟨_, rfl, _, _, rfl, w, by have := hl w hw; omega, rfl, rfl, _, _, rfl, ?_⟩
    have hK : K (some (dN (mkS (sW w)))) _ := hK
    rw [mkS_ok] at hK
    exact hK
  · rw [List.nil_append]
    have e : (ws.map fun w => D.str (sW w)).filterMap (fun d => match d with | .str s => some (dN (mkS s)) | _ => none) = (mks ws).map dN := by
      unfold mks
      rw [List.filterMap_map, List.map_map, ← List.filterMap_eq_map]
      refine fm_congr fun w _ => ?_
      show some (dN (mkS (sW w))) = some (dN (mk w))
      rw [mkS_ok]
    rw [e]
    exact ⟨_, _, rfl, rfl, .inl hw⟩
theorem ok_made : BodyOk sp_made tc_made.N.length ir_made := by
  rintro ds W ⟨ws, w, n, h, hwl, rfl, hw1, hw2⟩
  have hm := mks_len h
  refine ⟨_, rfl, _, _, rfl, ws, n, h, rfl, rfl, _, rfl, _, _, rfl, w, by have := h.1; omega, by rw [hwl], rfl, _, _, rfl, w, by have := h.1; omega, rfl, rfl, _, _, rfl, mks ws, mk w, by omega, rfl, ?_⟩
  obtain ⟨z1, z2⟩ := made_zero (mks ws) (mk w)
  have lt := (madeF_lt (mks ws) (mk w)).2
  by_cases hs : hd (madeF (mks ws) (mk w)) = 0
  · rw [if_pos hs]
    refine ⟨rfl, _, rfl, _, rfl, true, rfl, _, rfl, _, _, rfl, (by show 2 ≤ 100000; omega), _, _, rfl, rfl, .inl ?_⟩
    exact hw1 (z1.mp hs) _ (z2 hs) (by rw [← hm.1]; exact lt)
  · rw [if_neg hs]
    have ns : ¬ Sp (mks ws) (mk w) := fun z => hs (z1.mpr z)
    refine ⟨rfl, _, rfl, _, rfl, false, rfl, _, _, rfl, w, by have := h.1; omega, rfl, rfl, _, _, rfl, mks ws, mk w, n, by omega, h.1, rfl, mks_wd h, mk_wd hwl, ns, fun c c1 c2 => ⟨rfl, _, _, rfl, c, n, h.1, rfl, rfl, _, _, rfl, (by show 2 ≤ 100000; omega), _, _, rfl, rfl, .inl ?_⟩⟩
    exact hw2 ns c c1 c2
end VL
namespace VL
open PySem PySem.Spec L2
abbrev bodyWithin : List IS := [.ite (.bv (.prim pwIs [.call sp_made_of [.var 4, .var 6], .cst .non])) [.ret (.tup [.cst g_APART, .var 5, .call sp_letters_of [.call sp_bar_of [.var 4, .var 6, .var 0], .var 0]])] []]
theorem sW_cps (w : Wrd) : (sW w).cps.all (· < 0x110000) = true := by
  unfold sW
  rw [List.all_toArray]
  refine List.all_eq_true.mpr fun c hc => ?_
  obtain ⟨p, _, rfl⟩ := List.mem_map.mp hc
  obtain ⟨_ | _, _ | _⟩ := p <;> rfl
/-- a slot that holds the marks: as a new list, as a frozen one -/
def LstS (s : Slot) (ds : List D) : Prop := s = .own ds ∨ s = .val (.lst ds)
theorem within_loop {K : WE} {vs : List Wrd} {n : Nat} {s1 s2 s3 : Slot} {all : List Nat} (hv : wOk n vs) (Q : Ev → Prop)
    (hK : ∀ (m : Nat) (e : Ev) (i : Nat) (z : Str), z.cps.all (· < 0x110000) = true → m ∈ all → ¬ Sp (mks vs) m → outS [.mv, .mv, .mv] e = some [] → K.rt (.val (.tup [.str "apart", dN i, .str z])) e) : ∀ (ms : List Nat) (i : Nat) (s4 a b : Slot), LstS s4 ((mks vs).map dN) → Free a → Free b → (∀ x ∈ ms, Wd n x) → (∀ x ∈ ms, x ∈ all) →
    (∀ s4 a b, (∀ m ∈ ms, Sp (mks vs) m) → Q [.val (dN n), s1, s2, s3, s4, a, b]) →
    forLoop (fun d e N => ∃ e2, bindT (.tp [.nm 5, .nm 6]) d e = some e2 ∧ wSs bodyWithin e2 { K with nx := N, ct := N, bk := K.nx }) (enmD i (ms.map dN)) [.val (dN n), s1, s2, s3, s4, a, b] Q
  | [], i, s4, a, b, _, _, _, _, _, q => q s4 a b fun _ h => nomatch h
  | m :: ms, i, s4, a, b, h4, ha, hb, hw, hall, q => by
    have bind : bindT (.tp [.nm 5, .nm 6]) (.tup [.int (i : Nat), dN m]) [.val (dN n), s1, s2, s3, s4, a, b] = some [.val (dN n), s1, s2, s3, s4, .val (.int (i : Nat)), .val (dN m)] := by
      rcases ha with rfl | ⟨_, rfl⟩ <;> rcases hb with rfl | ⟨_, rfl⟩ <;> rfl
    have hm := mks_len hv
    obtain ⟨z1, z2⟩ := made_zero (mks vs) m
    have go : ∀ (K2 : WE), K2.rt = K.rt → (∀ s4, LstS s4 ((mks vs).map dN) → Sp (mks vs) m → K2.nx [.val (dN n), s1, s2, s3, s4, .val (.int (i : Nat)), .val (dN m)]) → wSs bodyWithin [.val (dN n), s1, s2, s3, s4, .val (.int (i : Nat)), .val (dN m)] K2 := by
      intro K2 e2 nx
      rcases h4 with rfl | rfl
      · refine ⟨_, _, rfl, mks vs, m, by omega, rfl, ?_⟩
        by_cases hs : hd (madeF (mks vs) m) = 0
        · rw [if_pos hs]
          exact ⟨rfl, _, rfl, false, rfl, nx _ (.inr rfl) (z1.mp hs)⟩
        · rw [if_neg hs]
          have ns : ¬ Sp (mks vs) m := fun z => hs (z1.mpr z)
          refine ⟨rfl, _, rfl, true, rfl, _, _, rfl, mks vs, m, n, by omega, hv.1, rfl, mks_wd hv, hw m (List.mem_cons_self ..), ns, fun c c1 c2 => ⟨rfl, _, _, rfl, c, n, hv.1, rfl, rfl, _, _, rfl, (by show 3 ≤ 100000; omega), ?_⟩⟩
          show K2.rt _ _
          rw [e2]
          exact hK m _ i _ (sW_cps _) (hall m (List.mem_cons_self ..)) ns rfl
      · refine ⟨_, _, rfl, mks vs, m, by omega, rfl, ?_⟩
        by_cases hs : hd (madeF (mks vs) m) = 0
        · rw [if_pos hs]
          exact ⟨rfl, _, rfl, false, rfl, nx _ (.inr rfl) (z1.mp hs)⟩
        · rw [if_neg hs]
          have ns : ¬ Sp (mks vs) m := fun z => hs (z1.mpr z)
          refine ⟨rfl, _, rfl, true, rfl, _, _, rfl, mks vs, m, n, by omega, hv.1, rfl, mks_wd hv, hw m (List.mem_cons_self ..), ns, fun c c1 c2 => ⟨rfl, _, _, rfl, c, n, hv.1, rfl, rfl, _, _, rfl, (by show 3 ≤ 100000; omega), ?_⟩⟩
          show K2.rt _ _
          rw [e2]
          exact hK m _ i _ (sW_cps _) (hall m (List.mem_cons_self ..)) ns rfl
    refine ⟨_, bind, go _ rfl fun s4 h4 hsp => ?_⟩
    exact within_loop hv Q hK ms (i + 1) s4 _ _ h4 (.inr ⟨_, rfl⟩) (.inr ⟨_, rfl⟩) (fun x hx => hw x (List.mem_cons_of_mem _ hx)) (fun x hx => hall x (List.mem_cons_of_mem _ hx)) fun s4 a b hal => q s4 a b fun x hx => by
      rcases List.mem_cons.mp hx with rfl | hx
      · exact hsp
      · exact hal x hx
theorem ok_within : BodyOk sp_within tc_within.N.length ir_within := by
  rintro ds W ⟨ws, vs, n, h, hv, rfl, w1, w2⟩
  refine ⟨_, rfl, _, _, rfl, ws, n, h, rfl, rfl, _, rfl, _, _, rfl, vs, n, hv, rfl, rfl, _, rfl, _, _, _, _, rfl, rfl, rfl, ?_⟩
  refine within_loop (all := mks ws) hv _ ?_ (mks ws) 0 _ _ _ (.inl rfl) (.inl rfl) (.inl rfl) (mks_wd h) (fun _ h => h) fun s4 a b hall => ?_
  · intro m e i z hz hm ns ho
    exact ⟨_, _, rfl, ho, .inl (w2 (fun z => ns (z m hm)) i z hz)⟩
  · exact ⟨_, _, rfl, (by show 1 ≤ 100000; omega), _, _, rfl, rfl, .inl (w1 hall)⟩
theorem walkB_base (all : List Nat) : ∀ (ms : List Nat) {hs pre fs : List Nat}, all = pre ++ ms → Ech hs → (∀ v, Sp hs v ↔ Sp pre v) → Ind (fs.map fun i => all.getD i 0).reverse → (∀ v, Sp (fs.map fun i => all.getD i 0) v ↔ Sp pre v) → fs.length ≤ pre.length →
    Ind ((walkB hs pre.length fs ms).2.map fun i => all.getD i 0).reverse ∧ (∀ v, Sp ((walkB hs pre.length fs ms).2.map fun i => all.getD i 0) v ↔ Sp all v) ∧ (walkB hs pre.length fs ms).2.length ≤ all.length
  | [], hs, pre, fs, ea, e, hp, hi, hb, hl => by
    rw [List.append_nil] at ea
    subst ea
    exact ⟨hi, hb, hl⟩
  | m :: ms, hs, pre, fs, ea, e, hp, hi, hb, hl => by
    have h2 := sp_step e hp m
    have gm : all.getD pre.length 0 = m := by
      rw [ea, List.getD_eq_getElem?_getD, List.getElem?_append_right (Nat.le_refl _), Nat.sub_self]
      rfl
    have pl : (pre ++ [m]).length = pre.length + 1 := by rw [List.length_append]; rfl
    unfold walkB
    by_cases hn : redN m hs ≠ 0
    · rw [if_pos hn] at h2 ⊢
      have nm : ¬ Sp pre m := fun z => hn ((redN_zero e m).mpr ((hp m).mpr z))
      have := walkB_base all ms (pre := pre ++ [m]) (fs := fs ++ [pre.length]) (by rw [ea]; simp) (walkB_step e hn) h2 (by
        rw [List.map_append, List.reverse_append]
        show Ind (all.getD pre.length 0 :: _)
        rw [gm]
        exact ⟨fun z => nm ((hb m).mp (z.sub fun x hx => List.mem_reverse.mp hx)), hi⟩) (fun v => by
        rw [List.map_append]
        show Sp (_ ++ [all.getD pre.length 0]) v ↔ _
        rw [gm, Sp.snoc_iff, Sp.snoc_iff, hb, hb]) (by rw [List.length_append, pl]; show fs.length + 1 ≤ _; omega)
      rw [pl] at this
      exact this
    · rw [if_neg hn] at h2 ⊢
      have hz : redN m hs = 0 := Decidable.not_not.mp hn
      have hm : Sp pre m := (hp m).mp ((redN_zero e m).mp hz)
      have := walkB_base all ms (pre := pre ++ [m]) (fs := fs) (by rw [ea]; simp) e h2 hi (fun v => by
        rw [hb, Sp.snoc_iff]
        constructor
        · exact .inl
        · rintro (z | z)
          · exact z
          · have := z.xor hm
            rw [xor_self_cancel] at this
            exact this) (by rw [pl]; omega)
      rw [pl] at this
      exact this
theorem baseM_ok (ms : List Nat) : Ind (baseM ms) ∧ (∀ v, Sp (baseM ms) v ↔ Sp ms v) ∧ (baseM ms).length = rankF ms ∧ rankF ms ≤ ms.length := by
  obtain ⟨h1, h2, h3⟩ := walkB_base ms ms (hs := []) (pre := []) (fs := []) rfl .nil (fun _ => Iff.rfl) trivial (fun _ => Iff.rfl) (Nat.le_refl _)
  refine ⟨ind_perm (List.reverse_perm _) h1, h2, ?_, h3⟩
  unfold baseM
  rw [List.length_map]
  rfl
theorem pairF_ok (ms : List Nat) : Ind (pairF ms).1 ∧ (∀ x, Sp (pairF ms).1 x ↔ Sp ms x ∧ ∀ y ∈ ms, crs x y = false) ∧ (pairF ms).1.length + 2 * (pairF ms).2.length = rankF ms := by
  obtain ⟨b1, b2, b3, _⟩ := baseM_ok ms
  obtain ⟨h1, h2, h3⟩ := pairs_ok (baseM ms).length (baseM ms) (Nat.le_refl _) b1
  refine ⟨h1, fun x => ?_, by rw [← b3]; exact h3⟩
  rw [show (pairF ms).1 = (pairsF (baseM ms).length (baseM ms)).1 from rfl, h2, b2]
  refine and_congr Iff.rfl ⟨fun k y hy => crs_sp k ((b2 y).mpr (.mem hy)), fun k y hy => crs_sp k ((b2 y).mp (.mem hy))⟩
theorem ok_parted : BodyOk sp_parted tc_parted.N.length ir_parted := by
  rintro ds W ⟨ws, n, h, rfl, w⟩
  have hm := mks_len h
  have len1 : (pairF (mks ws)).1.length + 2 * (pairF (mks ws)).2.length ≤ 100 := by
    have h1 := (pairF_ok (mks ws)).2.2
    have h2 := (baseM_ok (mks ws)).2.2.2
    omega
  refine ⟨_, rfl, _, _, rfl, ws, n, h, rfl, rfl, _, _, rfl, mks ws, by omega, rfl, rfl, _, _, rfl, ⟨_, rfl⟩, rfl, ?_⟩
  refine ⟨_, _, _, _, rfl, rfl, ?_⟩
  refine lc_pure (f := fun d => match d with | .tup [.int a, .int b] => some (.tup [.str (sW (wordF a.toNat n)), .str (sW (wordF b.toNat n))]) | _ => none) (fun _ h => nomatch h) _ [] (fun d hd K hK => ?_) (by rw [List.length_map, List.length_nil]; omega) ?_
  · obtain ⟨⟨a, b⟩, _, rfl⟩ := List.mem_map.mp hd
    refine ⟨_, rfl, _, _, rfl, a, n, h.1, rfl, rfl, _, _, rfl, b, n, h.1, rfl, rfl, _, _, rfl, (by show 2 ≤ 100000; omega), _, _, rfl, hK⟩
  refine ⟨_, rfl, _, _, _, _, rfl, rfl, ?_⟩
  refine lc_pure (f := fun d => match d with | .int a => some (.str (sW (wordF a.toNat n))) | _ => none) (fun _ h => nomatch h) _ [] (fun d hd K hK => ?_) (by rw [List.length_map, List.length_nil]; omega) ?_
  · obtain ⟨a, _, rfl⟩ := List.mem_map.mp hd
    exact ⟨_, rfl, _, _, rfl, a, n, h.1, rfl, rfl, _, _, rfl, hK⟩
  refine ⟨_, rfl, _, rfl, _, _, rfl, (by show 2 ≤ 100000; omega), _, _, rfl, rfl, .inl (w _ _ ?_ ?_)⟩
  · rw [List.nil_append]
    have : ∀ l : List Nat, ((l.map dN).filterMap fun d => match d with | .int a => some (D.str (sW (wordF a.toNat n))) | _ => none).length = l.length := by
      intro l
      induction l with
      | nil => rfl
      | cons a l ih =>
        show (D.str _ :: _).length = _
        rw [List.length_cons, ih, List.length_cons]
    exact this _
  · rw [List.nil_append]
    have : ∀ l : List (Nat × Nat), ((l.map fun p => D.tup [dN p.1, dN p.2]).filterMap fun d => match d with | .tup [.int a, .int b] => some (D.tup [.str (sW (wordF a.toNat n)), .str (sW (wordF b.toNat n))]) | _ => none).length = l.length := by
      intro l
      induction l with
      | nil => rfl
      | cons a l ih =>
        show (D.tup _ :: _).length = _
        rw [List.length_cons, ih, List.length_cons]
    exact this _
end VL
namespace VL
open PySem PySem.Spec L2
theorem plain_ints : ∀ l : List Nat, D.plainL (l.map dN) = true
  | [] => rfl
  | a :: l => by
    show (true && D.plainL (l.map dN)) = true
    rw [plain_ints l]
    rfl
theorem shaped_ints (l : List Nat) : SeqAt.shaped (D.py (.lst (l.map dN))) = true := by
  unfold SeqAt.shaped
  have h1 : ∀ l : List Nat, PyData.canLay0 (.list (D.pyL (l.map dN))) = true ∧ PyData.depth (.list (D.pyL (l.map dN))) ≤ 64 := by
    intro l
    have a1 : ∀ l : List Nat, PyData.canLayAll0 (D.pyL (l.map dN)) = true ∧ PyData.depthAll (D.pyL (l.map dN)) = 0 := by
      intro l
      induction l with
      | nil => exact ⟨rfl, rfl⟩
      | cons a l ih =>
        refine ⟨?_, ?_⟩
        · show (true && PyData.canLayAll0 (D.pyL (l.map dN))) = true
          rw [ih.1]
          rfl
        · show max 0 (PyData.depthAll (D.pyL (l.map dN))) = 0
          rw [ih.2]
          rfl
    refine ⟨(a1 l).1, ?_⟩
    show PyData.depthAll (D.pyL (l.map dN)) + 1 ≤ 64
    rw [(a1 l).2]
    decide
  rw [Bool.and_eq_true_iff]
  exact ⟨(h1 l).1, decide_eq_true (h1 l).2⟩
theorem ok_ints (l : List Nat) : (D.lst (l.map dN)).ok := ⟨plain_ints l, shaped_ints l⟩
theorem eqv_nil (l : List Nat) : PyData.eqv (D.py (.lst (l.map dN))) (D.py (.lst [])) = l.isEmpty := by
  cases l <;> rfl
theorem ix_nat {n j : Nat} (h : j < n) : seqIndex? (j : Int) n = some j := by
  refine (ixN_seq ?_).1
  unfold ixN
  rw [if_pos (Int.natCast_nonneg _), if_pos (by omega), Int.toNat_natCast]
def mateF (one : Nat) : D → Option D
  | .tup [.int i, .int m] => if crs one m.toNat = true then some (.int i) else none
  | _ => none
theorem mates_of (one : Nat) : ∀ (r : List Nat) (i : Nat), ∃ ms : List Nat, (enmD i (r.map dN)).filterMap (mateF one) = ms.map dN ∧ ms.length ≤ r.length ∧ (r.findIdx? (crs one) = none → ms = []) ∧ ∀ j, r.findIdx? (crs one) = some j → ∃ t, ms = (i + j) :: t
  | [], i => ⟨[], rfl, Nat.le_refl _, fun _ => rfl, fun j h => by cases h⟩
  | m :: r, i => by
    obtain ⟨ms, h1, h2, h3, h4⟩ := mates_of one r (i + 1)
    have hf : mateF one (.tup [.int (i : Nat), dN m]) = if crs one m = true then some (dN i) else none := by
      show (if crs one ((m : Int)).toNat = true then _ else _) = _
      rw [Int.toNat_natCast]
      rfl
    rw [List.findIdx?_cons]
    show ∃ ms : List Nat, List.filterMap (mateF one) (.tup [.int (i : Nat), dN m] :: enmD (i + 1) (r.map dN)) = _ ∧ _
    rw [List.filterMap_cons, hf]
    cases q : crs one m with
    | true =>
      refine ⟨i :: ms, by simp only [if_true]; rw [h1]; rfl, by rw [List.length_cons, List.length_cons]; omega, fun h => by simp at h, fun j h => ?_⟩
      simp at h
      subst h
      exact ⟨ms, rfl⟩
    | false =>
      simp only [Bool.false_eq_true, if_false]
      refine ⟨ms, h1, by rw [List.length_cons]; omega, fun h => h3 ?_, fun j h => ?_⟩
      · simpa using h
      · obtain ⟨j', hj, rfl⟩ := Option.map_eq_some_iff.mp h
        obtain ⟨t, ht⟩ := h4 j' hj
        exact ⟨t, by rw [ht]; congr 1; omega⟩
theorem erase_map : ∀ (l : List Nat) (j : Nat), (l.map dN).eraseIdx j = (l.eraseIdx j).map dN
  | [], j => by simp
  | a :: l, 0 => rfl
  | a :: l, j + 1 => by
    have ih := erase_map l j
    simpa using ih
def pD (p : Nat × Nat) : D := .tup [dN p.1, dN p.2]
abbrev bodyPairs : List IS := [.set 4 (.mut mwPop 1 [.cst (.int 0)]), .set 5 (.lc [8, 9] (.tp [.nm 8, .nm 9]) (.enm (.var 1)) [.bv (.call sp_crosses [.var 4, .var 9])] (.var 8)), .ite (.bv (.prim pwEq [.var 5, .lst []])) [.drop (.mut mwAppend 2 [.var 4])] [.set 7 (.mut mwPop 1 [.prim pwIx [.var 5, .cst (.int 0)]]), .drop (.mut mwAppend 3 [.tup [.var 4, .var 7]]), .set 1 (.lc [9] (.nm 9) (.seq (.var 1)) [] (.call sp_past_pair [.var 9, .var 4, .var 7]))]]
def Free2 (s : Slot) : Prop := Free s ∨ ∃ ds, s = .own ds
theorem pairs_turn {M : D} {one : Nat} {r lo : List Nat} {pr : List (Nat × Nat)} {s4 s5 s7 : Slot} (h4 : Free s4) (h5 : Free2 s5) (h7 : Free s7) (hl : r.length ≤ 40) (hlo : lo.length ≤ 40) (hpr : pr.length ≤ 40) (K : WE)
    (n1 : r.findIdx? (crs one) = none → ∀ s4 s5 s7, Free s4 → Free2 s5 → Free s7 → K.nx [.val M, .own (r.map dN), .own ((lo ++ [one]).map dN), .own (pr.map pD), s4, s5, .un, s7, .un, .un])
    (n2 : ∀ j, r.findIdx? (crs one) = some j → ∀ s4 s5 s7, Free s4 → Free2 s5 → Free s7 → K.nx [.val M, .own (((r.eraseIdx j).map (past one (r.getD j 0))).map dN), .own (lo.map dN), .own ((pr ++ [(one, r.getD j 0)]).map pD), s4, s5, .un, s7, .un, .un]) :
    wSs bodyPairs [.val M, .own ((one :: r).map dN), .own (lo.map dN), .own (pr.map pD), s4, s5, .un, s7, .un, .un] K := by
  obtain ⟨ms, h1, h2, h3, h6⟩ := mates_of one r 0
  have st4 : store [.val M, .own (r.map dN), .own (lo.map dN), .own (pr.map pD), s4, s5, .un, s7, .un, .un] 4 (.val (dN one)) = some [.val M, .own (r.map dN), .own (lo.map dN), .own (pr.map pD), .val (dN one), s5, .un, s7, .un, .un] := by
    rcases h4 with rfl | ⟨_, rfl⟩ <;> rfl
  have st5 : store [.val M, .own (r.map dN), .own (lo.map dN), .own (pr.map pD), .val (dN one), s5, .un, s7, .un, .un] 5 (.own (ms.map dN)) = some [.val M, .own (r.map dN), .own (lo.map dN), .own (pr.map pD), .val (dN one), .own (ms.map dN), .un, s7, .un, .un] := by
    rcases h5 with (rfl | ⟨_, rfl⟩) | ⟨_, rfl⟩ <;> rfl
  refine ⟨rfl, _, _, rfl, _, rfl, 0, dN one, ⟨by omega, by omega⟩, ix_nat (by simp), rfl, _, st4, ?_⟩
  refine ⟨_, _, _, _, rfl, rfl, ?_⟩
  refine lc_pure (f := mateF one) (fun p hp => by rw [List.mem_singleton.mp hp]; rfl) _ [] (fun d hd Kc hK => ?_) (by rw [enmD_len, List.length_map, List.length_nil]; omega) ?_
  · obtain ⟨i, x, hx, hi, rfl⟩ := enmD_mem hd
    obtain ⟨m, hm, rfl⟩ := List.mem_map.mp hx
    refine ⟨_, rfl, _, _, rfl, one, m, rfl, rfl, _, rfl, ?_⟩
    have hK : Kc (if crs one ((m : Int)).toNat = true then some (.int (i : Nat)) else none) _ := hK
    rw [Int.toNat_natCast] at hK
    cases q : crs one m with
    | false =>
      rw [q] at hK
      exact hK
    | true =>
      rw [q] at hK
      exact ⟨_, _, rfl, hK⟩
  rw [List.nil_append, h1]
  refine ⟨_, st5, ?_⟩
  refine ⟨_, _, rfl, (by show 0 ≤ 100000; omega), _, rfl, ok_ints ms, ok_ints [], _, rfl, ?_⟩
  rw [eqv_nil]
  cases hf : r.findIdx? (crs one) with
  | none =>
    rw [h3 hf]
    refine ⟨rfl, _, _, rfl, _, rfl, (by rw [List.length_map]; omega), ?_⟩
    have := n1 hf (.val (dN one)) (.own []) s7 (.inr ⟨_, rfl⟩) (.inr ⟨_, rfl⟩) h7
    rw [List.map_append] at this
    exact this
  | some j =>
    obtain ⟨t, rfl⟩ := h6 j hf
    obtain ⟨hj, _, _⟩ := List.findIdx?_eq_some_iff_getElem.mp hf
    have gj : (r.map dN)[j]? = some (dN (r.getD j 0)) := by
      rw [List.getElem?_map, List.getD_eq_getElem?_getD, List.getElem?_eq_getElem hj]
      rfl
    have er : (r.map dN).eraseIdx j = (r.eraseIdx j).map dN := erase_map r j
    have st7 : store [.val M, .own ((r.map dN).eraseIdx j), .own (lo.map dN), .own (pr.map pD), .val (dN one), .own (((0 + j) :: t).map dN), .un, s7, .un, .un] 7 (.val (dN (r.getD j 0))) = some [.val M, .own ((r.map dN).eraseIdx j), .own (lo.map dN), .own (pr.map pD), .val (dN one), .own (((0 + j) :: t).map dN), .un, .val (dN (r.getD j 0)), .un, .un] := by
      rcases h7 with rfl | ⟨_, rfl⟩ <;> rfl
    refine ⟨rfl, _, rfl, dN (0 + j), at_hd (r := (0 + j) :: t) (by simp), _, _, rfl, _, rfl, j, dN (r.getD j 0), ⟨by omega, by omega⟩, ?_, gj, _, st7, ?_⟩
    · rw [List.length_map, Nat.zero_add]
      exact ix_nat hj
    refine ⟨rfl, _, _, rfl, (by show 2 ≤ 100000; omega), _, _, rfl, _, rfl, (by rw [List.length_map]; omega), ?_⟩
    rw [er]
    refine ⟨_, _, _, _, rfl, rfl, ?_⟩
    refine lc_pure (f := fun d => match d with | .int m => some (dN (past one (r.getD j 0) m.toNat)) | _ => none) (fun p hp => by rw [List.mem_singleton.mp hp]; rfl) _ [] (fun d hd Kc hK => ?_) ?_ ?_
    · obtain ⟨m, hm, rfl⟩ := List.mem_map.mp hd
      have hK : Kc (some (dN (past one (r.getD j 0) ((m : Int)).toNat))) _ := hK
      rw [Int.toNat_natCast] at hK
      exact ⟨_, rfl, _, _, rfl, m, one, r.getD j 0, rfl, rfl, _, _, rfl, hK⟩
    · rw [List.length_map, List.length_nil]
      have := (List.eraseIdx_sublist r j).length_le
      omega
    · have e : ((r.eraseIdx j).map dN).filterMap (fun d => match d with | .int m => some (dN (past one (r.getD j 0) m.toNat)) | _ => none) = ((r.eraseIdx j).map (past one (r.getD j 0))).map dN := by
        rw [List.filterMap_map, List.map_map, ← List.filterMap_eq_map]
        refine fm_congr fun m _ => ?_
        show some (dN (past one (r.getD j 0) ((m : Int)).toNat)) = _
        rw [Int.toNat_natCast]
        rfl
      rw [List.nil_append, e]
      have := n2 j hf (.val (dN one)) (.own (((0 + j) :: t).map dN)) (.val (dN (r.getD j 0))) (.inr ⟨_, rfl⟩) (.inr ⟨_, rfl⟩) (.inr ⟨_, rfl⟩)
      rw [List.map_append] at this
      exact ⟨_, rfl, this⟩
theorem pairsF_fuel : ∀ (n k : Nat) (rest : List Nat), rest.length ≤ n → rest.length ≤ k → pairsF n rest = pairsF k rest
  | 0, 0, _, _, _ => rfl
  | 0, k + 1, [], _, _ => rfl
  | 0, k + 1, _ :: _, h, _ => by simp at h
  | n + 1, 0, [], _, _ => rfl
  | n + 1, 0, _ :: _, _, h => by simp at h
  | n + 1, k + 1, [], _, _ => rfl
  | n + 1, k + 1, one :: r, h1, h2 => by
    rw [List.length_cons] at h1 h2
    unfold pairsF
    cases hf : r.findIdx? (crs one) with
    | none =>
      simp only
      rw [pairsF_fuel n k r (by omega) (by omega)]
    | some j =>
      have := (List.eraseIdx_sublist r j).length_le
      simp only
      rw [pairsF_fuel n k _ (by rw [List.length_map]; omega) (by rw [List.length_map]; omega)]
theorem walkB_lt : ∀ (ms : List Nat) (hs fs : List Nat) (i : Nat), ∀ x ∈ (walkB hs i fs ms).2, x ∈ fs ∨ x < i + ms.length
  | [], hs, fs, i, x, h => .inl h
  | m :: ms, hs, fs, i, x, h => by
    unfold walkB at h
    rw [List.length_cons]
    split at h
    · rcases walkB_lt ms _ _ _ x h with z | z
      · rcases List.mem_append.mp z with z | z
        · exact .inl z
        · rw [List.mem_singleton.mp z]
          exact .inr (by omega)
      · exact .inr (by omega)
    · rcases walkB_lt ms _ _ _ x h with z | z
      · exact .inl z
      · exact .inr (by omega)
theorem ok_pairs_of : BodyOk sp_pairs_of tc_pairs_of.N.length ir_pairs_of := by
  rintro ds W ⟨ms, hl, rfl, w⟩
  obtain ⟨b1, b2, b3, b4⟩ := baseM_ok ms
  have bl : (baseF ms).length = rankF ms := rfl
  refine ⟨_, rfl, _, _, rfl, ms, hl, rfl, rfl, _, _, _, _, rfl, rfl, ?_⟩
  have bnd : ∀ i ∈ baseF ms, i < ms.length := fun i hi => by
    rcases walkB_lt ms [] [] 0 i hi with z | z
    · cases z
    · omega
  refine lc_pure (f := fun d => match d with | .int i => some (dN (ms.getD i.toNat 0)) | _ => none) (fun _ h => nomatch h) _ [] (fun d hd Kc hK => ?_) (by rw [List.length_map, List.length_nil]; omega) ?_
  · obtain ⟨i, hi, rfl⟩ := List.mem_map.mp hd
    have hlt := bnd i hi
    have hK : Kc (some (dN (ms.getD ((i : Int)).toNat 0))) _ := hK
    rw [Int.toNat_natCast] at hK
    refine ⟨_, rfl, _, rfl, dN (ms.getD i 0), ?_, _, _, rfl, hK⟩
    show atI (ms.map dN) (i : Int) = _
    unfold atI ixN
    rw [if_pos (Int.natCast_nonneg _), if_pos (by rw [List.length_map]; omega), Int.toNat_natCast]
    show (ms.map dN)[i]? = _
    rw [List.getElem?_map, List.getD_eq_getElem?_getD, List.getElem?_eq_getElem hlt]
    rfl
  have e : ((baseF ms).map dN).filterMap (fun d => match d with | .int i => some (dN (ms.getD i.toNat 0)) | _ => none) = (baseM ms).map dN := by
    unfold baseM
    rw [List.filterMap_map, List.map_map, ← List.filterMap_eq_map]
    refine fm_congr fun i _ => ?_
    show some (dN (ms.getD ((i : Int)).toNat 0)) = _
    rw [Int.toNat_natCast]
    rfl
  rw [List.nil_append, e]
  refine ⟨_, rfl, _, _, rfl, (by show 0 ≤ 100000; omega), _, _, rfl, (by show 0 ≤ 100000; omega), trivial, _, _, rfl, rfl, ?_⟩
  refine ⟨fun m e => ∃ (rest lo : List Nat) (pr : List (Nat × Nat)) (s4 s5 s7 : Slot), e = [.val (.lst (ms.map dN)), .own (rest.map dN), .own (lo.map dN), .own (pr.map pD), s4, s5, .un, s7, .un, .un] ∧ Free s4 ∧ Free2 s5 ∧ Free s7 ∧ m = rest.length ∧ rest.length ≤ 30 ∧ lo.length + rest.length ≤ 30 ∧ pr.length + rest.length ≤ 30 ∧
    lo ++ (pairsF rest.length rest).1 = (pairF ms).1 ∧ pr ++ (pairsF rest.length rest).2 = (pairF ms).2, ⟨(baseM ms).length, baseM ms, [], [], _, _, _, rfl, .inl rfl, .inl (.inl rfl), .inl rfl, rfl, by omega, by rw [List.length_nil]; omega, by rw [List.length_nil]; omega, rfl, rfl⟩, ?_⟩
  rintro m e ⟨rest, lo, pr, s4, s5, s7, rfl, h4, h5, h7, rfl, hr, hlo, hpr, q1, q2⟩
  refine ⟨_, _, rfl, (by show 0 ≤ 100000; omega), _, rfl, ok_ints rest, ok_ints [], _, rfl, ?_⟩
  rw [eqv_nil]
  cases rest with
  | nil =>
    refine ⟨_, _, rfl, (by show 2 ≤ 100000; omega), _, _, rfl, rfl, .inl ?_⟩
    have q1 : lo ++ [] = (pairF ms).1 := q1
    have q2 : pr ++ [] = (pairF ms).2 := q2
    rw [List.append_nil] at q1 q2
    rw [← q1, ← q2] at w
    exact w
  | cons one r =>
    rw [List.length_cons] at hr hlo hpr
    refine pairs_turn h4 h5 h7 (by omega) (by omega) (by omega) _ (fun hf s4 s5 s7 h4 h5 h7 => ?_) fun j hf s4 s5 s7 h4 h5 h7 => ?_
    · refine ⟨r.length, Nat.lt_succ_self _, r, lo ++ [one], pr, s4, s5, s7, rfl, h4, h5, h7, rfl, by omega, by rw [List.length_append]; show lo.length + 1 + r.length ≤ 30; omega, by omega, ?_, ?_⟩
      · rw [← q1, List.append_assoc, List.length_cons, pairsF, hf]
        rfl
      · rw [← q2, List.length_cons, pairsF, hf]
    · obtain ⟨hj, _, _⟩ := List.findIdx?_eq_some_iff_getElem.mp hf
      have el : (r.eraseIdx j).length + 1 = r.length := by
        rw [List.length_eraseIdx, if_pos hj]
        omega
      have ml : ((r.eraseIdx j).map (past one (r.getD j 0))).length = (r.eraseIdx j).length := List.length_map _
      refine ⟨_, ?_, (r.eraseIdx j).map (past one (r.getD j 0)), lo, pr ++ [(one, r.getD j 0)], s4, s5, s7, rfl, h4, h5, h7, rfl, by rw [ml]; omega, by rw [ml]; omega, by rw [ml, List.length_append]; show pr.length + 1 + _ ≤ 30; omega, ?_, ?_⟩
      · rw [ml, List.length_cons]
        omega
      · rw [← q1, List.length_cons, pairsF, hf, pairsF_fuel _ r.length _ (Nat.le_refl _) (by rw [ml]; omega)]
      · rw [← q2, List.length_cons, pairsF, hf, List.append_assoc, pairsF_fuel _ r.length _ (Nat.le_refl _) (by rw [ml]; omega)]
        rfl
end VL
namespace VL
open PySem PySem.Spec L2
theorem ok__law_none : BodyOk sp__law_none tc__law_none.N.length ir__law_none := by
  rintro ds W ⟨n, hn, rfl, w⟩
  refine ⟨_, rfl, _, rfl, Int.natCast_nonneg _, by omega, (by show 1 ≤ 100; omega), _, _, rfl, rfl, .inl ?_⟩
  have : n = 0 ∨ n = 1 ∨ n = 2 ∨ n = 3 ∨ n = 4 ∨ n = 5 ∨ n = 6 := by omega
  rcases this with rfl | rfl | rfl | rfl | rfl | rfl | rfl <;> exact w
theorem ok__law_cells : BodyOk sp__law_cells tc__law_cells.N.length ir__law_cells := by
  rintro ds W ⟨ns, k, h1, h2, rfl, w⟩
  refine ⟨_, rfl, _, rfl, _, rfl, _, rfl, _, rfl, ?_, ?_, _, _, rfl, rfl, .inl ?_⟩
  · split <;> split at * <;> omega
  · split <;> split at * <;> omega
  · rw [List.length_map]
    generalize hq : (if (if ((ns.length : Nat) : Int) < (k : Int) then ((ns.length : Nat) : Int) else (k : Int)) > 1 then (if ((ns.length : Nat) : Int) < (k : Int) then ((ns.length : Nat) : Int) else (k : Int)) else 1) = q
    have hq2 : q.toNat ≤ k := by
      rw [← hq]
      split <;> split <;> omega
    have := w q.toNat hq2
    have e : rngD 0 q.toNat = (List.range q.toNat).map dN := by
      unfold rngD
      refine List.map_congr_left fun i _ => ?_
      rw [Int.zero_add]
      rfl
    rw [← e] at this
    exact this
theorem sum_ints : ∀ l : List D, (∀ d ∈ l, ∃ i, d = .int i) → ∃ n, sumD l = some n
  | [], _ => ⟨0, rfl⟩
  | d :: l, h => by
    obtain ⟨i, rfl⟩ := h d (List.mem_cons_self ..)
    obtain ⟨n, hn⟩ := sum_ints l fun x hx => h x (List.mem_cons_of_mem _ hx)
    refine ⟨i + n, ?_⟩
    unfold sumD
    rw [hn]
    rfl
abbrev potTail : List IS := [.set 3 (.prim pwMul [.prim pwMod [.prim pwInt [.prim pwAbs [.var 2]], .prim pwPow [.prim pwPow [.cst (.int 10), .cst (.int 60)], .cst (.int 5)]], .prim pwInt [.prim pwGe [.prim pwAbs [.var 2], .prim pwPow [.cst (.int 10), .cst (.int 18)]]]]), .set 4 (.prim pwMod [.prim pwInt [.var 2], .cst (.int 2305843009213693951)]), .ret (.lst [.var 3, .prim pwMod [.prim pwInt [.prim pwAdd [.prim pwAdd [.prim pwMul [.var 4, .cst (.int 79339)], .prim pwMul [.prim pwMul [.cst (.int 9910), .var 1], .var 1]], .cst (.int 1340)]], .cst (.int 2305843009213693921)], .cst (.int 0)])]
theorem big1 : ((10 : Int) ^ (60 : Int).toNat).natAbs < 2 ^ 256 := by decide +kernel
theorem big2 : (0 : Int) < ((10 : Int) ^ (60 : Int).toNat) ^ (5 : Int).toNat := by decide +kernel
theorem big3 : ((10 : Int) ^ (60 : Int).toNat) ^ (5 : Int).toNat = 10 ^ 300 := by decide +kernel
theorem pot_tail {M : D} {i : Nat} {c : Int} {W : ER → List (List D) → Prop} {nx : Ev → Prop} (hi : i ≤ 10) (w : ∀ p, potOk 0 p → W (.own (potD p)) []) :
    wSs potTail [.val M, .val (dN i), .val (.int c), .un, .un] { nx := nx, rt := fun r e => ∃ r' ls, retR e r = some r' ∧ outS [.mv, .mv] e = some ls ∧ (W r' ls ∨ ∃ d, conR r' = some d ∧ W (.val d) ls) } := by
  have b01 : ∀ b : Bool, -(2 ^ 64) < (if b = true then (1 : Int) else 0) ∧ (if b = true then (1 : Int) else 0) < 2 ^ 64 := by decide
  have bn : ∀ b : Bool, 0 ≤ (if b = true then (1 : Int) else 0) := by decide
  have bp : ∀ (b : Bool) (x y : Int), 0 ≤ x → x < y → x * (if b = true then (1 : Int) else 0) < y := by
    intro b x y h1 h2
    cases b
    · show x * 0 < y
      omega
    · show x * 1 < y
      omega
  have m61 : (0 : Int) < 2305843009213693951 := by decide
  refine ⟨_, rfl, _, rfl, _, rfl, by decide, by decide, by decide, _, rfl, by decide, by decide, big1, _, rfl, big2, _, rfl, _, rfl, by decide, by decide, by decide, _, rfl, _, rfl, _, rfl, .inr (b01 _), _, rfl, ?_⟩
  refine ⟨_, rfl, _, rfl, m61, _, rfl, ?_⟩
  refine ⟨_, rfl, .inr ⟨by decide, by decide⟩, _, rfl, .inl ⟨by decide, by decide⟩, _, rfl, .inr ⟨by show -(2 ^ 64) < (i : Int); omega, by show (i : Int) < 2 ^ 64; omega⟩, _, rfl, _, rfl, _, rfl, _, rfl, by decide, _, _, rfl, (by show 3 ≤ 100000; omega), _, _, rfl, rfl, .inl ?_⟩
  refine w (_, _, 0) ⟨?_, ?_, Int.emod_nonneg _ (by decide), ?_, Int.le_refl _, Int.le_refl _⟩
  · refine Int.mul_nonneg (Int.emod_nonneg _ (Int.ne_of_gt big2)) (bn _)
  · have h1 := Int.emod_lt_of_pos (if c < 0 then -c else c) big2
    have h2 := Int.emod_nonneg (if c < 0 then -c else c) (Int.ne_of_gt big2)
    show (if c < 0 then -c else c) % (((10 : Int) ^ (60 : Int).toNat) ^ (5 : Int).toNat) * _ < 10 ^ 300
    rw [big3] at h1 h2 ⊢
    exact bp _ _ _ h2 h1
  · exact Int.lt_of_lt_of_le (Int.emod_lt_of_pos _ (by decide)) (by decide)
theorem ok__law_pot : BodyOk sp__law_pot tc__law_pot.N.length ir__law_pot := by
  rintro ds W ⟨ns, i, hi, hl, rfl, w⟩
  refine ⟨_, rfl, _, rfl, _, rfl, _, rfl, ?_⟩
  refine ite_dec (fun h => ?_) fun h => ?_
  · have hlt : i < ns.length := by
      rw [List.length_map] at h
      omega
    refine ⟨_, rfl, .int (ns.getD i 0), ?_, _, rfl, pot_tail hi w⟩
    show atI (ns.map D.int) (i : Int) = _
    unfold atI ixN
    rw [if_pos (Int.natCast_nonneg _), if_pos (by rw [List.length_map]; omega), Int.toNat_natCast]
    show (ns.map D.int)[i]? = _
    rw [List.getElem?_map, List.getD_eq_getElem?_getD, List.getElem?_eq_getElem hlt]
    rfl
  · obtain ⟨n, hn⟩ := sum_ints (cutD (ns.map D.int) none (some 1)) fun d hd => by
      have := List.mem_of_mem_drop (List.mem_of_mem_take hd)
      obtain ⟨j, _, rfl⟩ := List.mem_map.mp this
      exact ⟨j, rfl⟩
    refine ⟨_, 1, rfl, rfl, _, rfl, n, hn, _, rfl, by decide, _, rfl, .inl ⟨by decide, by decide⟩, _, rfl, _, rfl, _, rfl, pot_tail hi w⟩
end VL
namespace VL
open PySem PySem.Spec L2
theorem prime_at (x : Int) : ∃ q : Int, atI [D.int 2147483647, .int 2147483629, .int 2147483587, .int 2147483579, .int 2147483563] (x % 5) = some (.int q) ∧ 0 < q := by
  have h1 := Int.emod_nonneg x (show (5 : Int) ≠ 0 by decide)
  have h2 := Int.emod_lt_of_pos x (show (0 : Int) < 5 by decide)
  generalize x % 5 = y at h1 h2
  have : y = 0 ∨ y = 1 ∨ y = 2 ∨ y = 3 ∨ y = 4 := by omega
  rcases this with rfl | rfl | rfl | rfl | rfl
  · exact ⟨2147483647, rfl, by decide⟩
  · exact ⟨2147483629, rfl, by decide⟩
  · exact ⟨2147483587, rfl, by decide⟩
  · exact ⟨2147483579, rfl, by decide⟩
  · exact ⟨2147483563, rfl, by decide⟩
theorem ok__law_take : BodyOk sp__law_take tc__law_take.N.length ir__law_take := by
  rintro ds W ⟨⟨o, s, c⟩, b, u, ⟨p1, p2, p3, p4, p5, p6⟩, hb, hu1, hu2, rfl, w⟩
  have p1 : 0 ≤ o := p1
  have p2 : o < 10 ^ 300 := p2
  have p3 : 0 ≤ s := p3
  have p4 : s < 2 ^ 61 := p4
  have p5 : 0 ≤ c := p5
  have p6 : c ≤ (b : Int) := p6
  have hu0 : (0 : Int) < (u : Int) := by omega
  have fin : ∀ (p' : Int × Int × Int) (x : Int), potOk (b + 1) p' → W (.val (.int (x % (u : Int)))) [potD p'] := by
    intro p' x hp
    have h1 := Int.emod_nonneg x (Int.ne_of_gt hu0)
    have h2 := Int.emod_lt_of_pos x hu0
    have := w p' (x % (u : Int)).toNat hp (by omega)
    unfold dN at this
    rw [Int.toNat_of_nonneg h1] at this
    exact this
  refine ⟨_, rfl, _, rfl, .int o, rfl, _, rfl, _, rfl, ite_dec (fun h => ?_) fun h => ?_⟩
  · refine ⟨_, rfl, .int o, rfl, _, rfl, _, rfl, hu0, _, rfl, ?_⟩
    refine ⟨_, rfl, .int o, rfl, _, rfl, hu0, by omega, rfl, _, _, rfl, 0, _, 0, rfl, rfl, rfl, ?_⟩
    refine ⟨_, _, rfl, rfl, .inl (fin (o / (u : Int), s, c) o ⟨Int.ediv_nonneg p1 (by omega), ?_, p3, p4, p5, show c ≤ ((b + 1 : Nat) : Int) by omega⟩)⟩
    exact Int.lt_of_le_of_lt (Int.ediv_le_self _ p1) p2
  · have c0 : 0 ≤ c + 1 := by omega
    have c1 : c + 1 ≤ 10001 := by omega
    have cc : 0 ≤ 101755 * (c + 1) * (c + 1) ∧ 101755 * (c + 1) * (c + 1) ≤ 101755 * 10001 * 10001 := by
      constructor
      · exact Int.mul_nonneg (Int.mul_nonneg (by decide) c0) c0
      · exact Int.mul_le_mul (by omega) c1 c0 (by decide)
    obtain ⟨q, hq, q0⟩ := prime_at (c + 1)
    have nb : (s + 101755 * (c + 1) * (c + 1) + 826).natAbs < 2 ^ 256 := by
      have h1 : (s + 101755 * (c + 1) * (c + 1) + 826).natAbs < 2 ^ 62 := by omega
      exact Nat.lt_trans h1 (by decide)
    refine ⟨_, rfl, .int c, rfl, _, rfl, rfl, _, _, rfl, 2, _, 2, rfl, rfl, rfl, ?_⟩
    refine ⟨_, _, rfl, (by show 5 ≤ 100000; omega), _, rfl, .int (c + 1), rfl, _, rfl, _, rfl, by decide, _, rfl, .int q, hq, _, rfl, ?_⟩
    refine ⟨_, rfl, .int s, rfl, _, rfl, .int (c + 1), rfl, _, rfl, .inl ⟨by decide, by decide⟩, _, rfl, .int (c + 1), rfl, _, rfl, .inr ⟨by omega, by omega⟩, _, rfl, _, rfl, _, rfl, _, rfl, by decide, by decide, nb, _, rfl, _, rfl, q0, _, rfl, ?_⟩
    generalize (s + 101755 * (c + 1) * (c + 1) + 826) ^ (3 : Int).toNat % q = bl
    have hx : -(2 ^ 64) < bl % 10060 + 479 * (c + 1) ∧ bl % 10060 + 479 * (c + 1) < 2 ^ 64 := by
      have h1 := Int.emod_nonneg bl (show (10060 : Int) ≠ 0 by decide)
      have h2 := Int.emod_lt_of_pos bl (show (0 : Int) < 10060 by decide)
      omega
    refine ⟨_, rfl, _, rfl, by decide, _, rfl, .int (c + 1), rfl, _, rfl, .inl ⟨by decide, by decide⟩, _, rfl, _, rfl, .inr hx, _, rfl, _, rfl, by decide, _, rfl, ?_⟩
    refine ⟨_, rfl, by decide, by decide, _, rfl, _, rfl, hu0, _, _, rfl, rfl, .inl (fin (o, s, c + 1) _ ⟨p1, p2, p3, p4, c0, show c + 1 ≤ ((b + 1 : Nat) : Int) by omega⟩)⟩
theorem ok__law_of : BodyOk sp__law_of tc__law_of.N.length ir__law_of := by
  rintro ds W ⟨p, b, es, hp, hb, hne, hl, rfl, w⟩
  have h1 : 1 ≤ es.length := by
    cases es with
    | nil => exact absurd rfl hne
    | cons _ _ => rw [List.length_cons]; omega
  refine ⟨_, rfl, _, rfl, _, _, rfl, ?_⟩
  refine ⟨(fun z => nomatch z), rfl, p, b, es.length, hp, hb, h1, hl, rfl, fun p' d hp' hd => ⟨_, rfl, _, rfl, es.getD d .non, ?_, _, _, rfl, rfl, .inl (w p' _ hp' ?_)⟩⟩
  · show atI es (d : Int) = _
    unfold atI ixN
    rw [if_pos (Int.natCast_nonneg _), if_pos (by omega), Int.toNat_natCast]
    show es[d]? = _
    rw [List.getD_eq_getElem?_getD, List.getElem?_eq_getElem hd]
    rfl
  · rw [List.getD_eq_getElem?_getD, List.getElem?_eq_getElem hd]
    exact List.getElem_mem hd
end VL
namespace VL
open PySem PySem.Spec L2
theorem potOk.mono {b b' : Nat} {p : Int × Int × Int} (h : potOk b p) (l : b ≤ b') : potOk b' p := ⟨h.1, h.2.1, h.2.2.1, h.2.2.2.1, h.2.2.2.2.1, by have := h.2.2.2.2.2; omega⟩
theorem of_chars {d : D} (h : d ∈ (("IXYZ" : Str).cps.toList.map fun c => D.str (sgn c))) : ∃ q : Bool × Bool, d = .str (sgn (cpOf q)) := by
  have e : (("IXYZ" : Str).cps.toList.map fun c => D.str (sgn c)) = [.str (sgn 73), .str (sgn 88), .str (sgn 89), .str (sgn 90)] := rfl
  rw [e] at h
  simp only [List.mem_cons, List.not_mem_nil, or_false] at h
  rcases h with rfl | rfl | rfl | rfl
  · exact ⟨(false, false), rfl⟩
  · exact ⟨(true, false), rfl⟩
  · exact ⟨(true, true), rfl⟩
  · exact ⟨(false, true), rfl⟩
theorem any_loop {n : D} {Q : List D → Ev → Prop} : ∀ (its : List D) (p : Int × Int × Int) (b : Nat) (w : Wrd), potOk b p → b + its.length ≤ 10000 → w.length + its.length ≤ 1000 →
    (∀ (p' : Int × Int × Int) (w' : Wrd), potOk (b + its.length) p' → w'.length = w.length + its.length → Q (w'.map fun q => .str (sgn (cpOf q))) [.lnt (potD p'), .val n, .un]) →
    lcLoop (held []) (lcStep [2] (.nm 2) [] (.call sp__law_of [.var 0, .prim pwList [.cst (.str "IXYZ")]])) its [.lnt (potD p), .val n, .un] (w.map fun q => .str (sgn (cpOf q))) Q
  | [], p, b, w, hp, _, _, q => ⟨(fun _ h => nomatch h), q p w hp rfl⟩
  | d :: its, p, b, w, hp, hb, hl, q => by
    rw [List.length_cons] at hb hl
    refine ⟨(fun _ h => nomatch h), by rw [List.length_map]; omega, _, rfl, _, rfl, by decide, _, _, rfl, (fun z => nomatch z), rfl, p, b, _, hp, by omega, by decide, by decide, rfl, fun p' d hp' hd => ⟨_, rfl, _, _, rfl, ?_⟩⟩
    obtain ⟨x, rfl⟩ := of_chars hd
    have := any_loop (n := n) (Q := Q) its p' (b + 1) (w ++ [x]) hp' (by omega) (by rw [List.length_append]; show w.length + 1 + _ ≤ _; omega) fun p' w' h1 h2 => q p' w' (h1.mono (by rw [List.length_cons]; omega)) (by have e1 : (w ++ [x]).length = w.length + 1 := List.length_append; have e2 : (d :: its).length = its.length + 1 := rfl; omega)
    rw [List.map_append] at this
    exact this
theorem ok__law_any_letters : BodyOk sp__law_any_letters tc__law_any_letters.N.length ir__law_any_letters := by
  rintro ds W ⟨p, b, n, hp, hb, hn, rfl, w⟩
  have len : (rngD 0 ((n : Int)).toNat).length = n := by
    unfold rngD
    rw [List.length_map, List.length_range, Int.toNat_natCast]
  refine ⟨_, rfl, ⟨_, rfl, rfl⟩, (n : Int), rfl, ⟨by omega, by omega⟩, ?_⟩
  refine any_loop (rngD 0 ((n : Int)).toNat) p b [] hp (by rw [len]; omega) (by rw [len, List.length_nil]; omega) fun p' w' h1 h2 => ?_
  rw [len, List.length_nil, Nat.zero_add] at h2
  have e : (w'.map fun q => D.str (sgn (cpOf q))) = ((w'.map cpOf).map sgn).map D.str := by
    rw [List.map_map, List.map_map]
    rfl
  rw [e]
  refine ⟨_, _, rfl, _, rfl, _, rfl, ?_, _, _, rfl, rfl, .inl ?_⟩
  · rw [List.map_map]
    have : ∀ l : List Nat, (l.map (Str.length ∘ sgn)).sum = l.length := by
      intro l
      induction l with
      | nil => rfl
      | cons a l ih =>
        rw [List.map_cons, List.sum_cons, ih, List.length_cons]
        show 1 + _ = _
        omega
    rw [this, List.length_map, List.length_map, List.length_map, h2]
    show n + n * 0 ≤ 100000
    omega
  · rw [join_sgn]
    exact w p' w' (h1.mono (by rw [len]; omega)) h2
theorem some_loop {K : WE} {a1 a2 : Slot} {es : List D} {Q : Ev → Prop} : ∀ (its : List D) (p : Int × Int × Int) (b : Nat) (s : Slot) (left found : List D), Free s → potOk b p → b + its.length ≤ 10000 → its.length ≤ left.length → left.length ≤ 1000 → found.length + its.length ≤ 1000 → (∀ x ∈ left, x ∈ es) → (∀ x ∈ found, x ∈ es) →
    (∀ (p' : Int × Int × Int) (s : Slot) (left found : List D), potOk (b + its.length) p' → (∀ x ∈ found, x ∈ es) → Q [.lnt (potD p'), a1, a2, s, .own left, .own found]) →
    forLoop (fun d e N => ∃ e2, bindT (.nm 3) d e = some e2 ∧ wSs [.drop (.mut mwAppend 5 [.mut mwPop 4 [.call sp__law_take [.var 0, .prim pwLen [.var 4]]]])] e2 { K with nx := N, ct := N, bk := K.nx }) its [.lnt (potD p), a1, a2, s, .own left, .own found] Q
  | [], p, b, s, left, found, _, hp, _, _, _, _, _, hf, q => q p s left found hp hf
  | d :: its, p, b, s, left, found, hs, hp, hb, hl, hl2, hfl, hle, hf, q => by
    rw [List.length_cons] at hb hl hfl
    have bind : bindT (.nm 3) d [.lnt (potD p), a1, a2, s, .own left, .own found] = some [.lnt (potD p), a1, a2, .val d, .own left, .own found] := by
      rcases hs with rfl | ⟨_, rfl⟩ <;> rfl
    refine ⟨_, bind, rfl, rfl, _, rfl, _, _, rfl, (fun z => nomatch z), rfl, p, b, left.length, hp, by omega, by omega, by omega, rfl, fun p' i hp' hi => ⟨_, rfl, _, _, rfl, _, rfl, i, left.getD i .non, ⟨by omega, by omega⟩, ix_nat hi, ?_, _, _, rfl, _, rfl, by omega, ?_⟩⟩
    · rw [List.getD_eq_getElem?_getD, List.getElem?_eq_getElem hi]
      rfl
    · have hx : left.getD i .non ∈ left := by
        rw [List.getD_eq_getElem?_getD, List.getElem?_eq_getElem hi]
        exact List.getElem_mem hi
      have el : (left.eraseIdx i).length + 1 = left.length := by
        rw [List.length_eraseIdx, if_pos hi]
        omega
      refine some_loop (es := es) its p' (b + 1) _ (left.eraseIdx i) (found ++ [left.getD i .non]) (.inr ⟨_, rfl⟩) hp' (by omega) (by omega) (by omega) (by rw [List.length_append]; show found.length + 1 + _ ≤ _; omega) (fun x hx => hle x (List.mem_of_mem_eraseIdx hx)) (fun x hx => ?_) fun p' s left found h1 h2 => q p' s left found (h1.mono (by rw [List.length_cons]; omega)) h2
      rcases List.mem_append.mp hx with z | z
      · exact hf x z
      · rw [List.mem_singleton.mp z]
        exact hle _ (by assumption)
theorem ok__law_some : BodyOk sp__law_some tc__law_some.N.length ir__law_some := by
  rintro ds W ⟨p, b, k, es, hp, hb, hk, hl, rfl, w⟩
  have len : (rngD 0 ((k : Int)).toNat).length = k := by
    unfold rngD
    rw [List.length_map, List.length_range, Int.toNat_natCast]
  refine ⟨_, rfl, _, rfl, _, _, rfl, (by show 0 ≤ 100000; omega), trivial, _, _, rfl, rfl, (k : Int), rfl, ⟨by omega, by omega⟩, rfl, ?_⟩
  refine some_loop (es := es) (rngD 0 ((k : Int)).toNat) p b _ es [] (.inl rfl) hp (by rw [len]; omega) (by rw [len]; exact hk) hl (by rw [len, List.length_nil]; omega) (fun _ h => h) (fun _ h => nomatch h) fun p' s left found h1 h2 => ?_
  exact ⟨_, _, rfl, rfl, .inl (w p' found (h1.mono (by rw [len]; exact Nat.le_refl _)) h2)⟩
end VL
namespace VL
open PySem PySem.Spec L2
theorem ok__law_letters_of : BodyOk sp__law_letters_of tc__law_letters_of.N.length ir__law_letters_of := by
  rintro ds W ⟨u, v, hl, h6, rfl, w⟩
  refine ⟨_, rfl, _, _, rfl, (by show 2 ≤ 100000; omega), _, _, rfl, (by show 2 ≤ 100000; omega), _, _, rfl, u, v, hl, h6, rfl, fun q => ⟨rfl, ?_⟩⟩
  refine ⟨_, rfl, _, rfl, _, _, rfl, rfl, .inl w⟩
theorem ok_law : BodyOk sp_law tc_law.N.length ir_law := by
  rintro ds W ⟨ns, hl, rfl, w⟩
  refine ⟨_, rfl, _, _, rfl, ns, 2, by decide, by decide, rfl, fun n hn => ⟨rfl, _, _, _, _, rfl, rfl, ?_⟩⟩
  refine lc_pure (f := fun _ => some (.bl true)) (fun _ h => nomatch h) _ [] (fun d hd Kc hK => ?_) (by rw [List.length_map, List.length_range, List.length_nil]; omega) ?_
  · obtain ⟨i, hi, rfl⟩ := List.mem_map.mp hd
    have hi := List.mem_range.mp hi
    exact ⟨_, rfl, _, _, rfl, ns, i, by omega, hl, rfl, fun p hp => ⟨rfl, rfl, _, rfl, p, hp, rfl, fun x => ⟨⟨x, rfl⟩, _, _, rfl, hK⟩⟩⟩
  · refine ⟨_, rfl, List.replicate n true, ?_, ?_⟩
    · rw [List.nil_append, List.filterMap_map]
      have : ∀ l : List Nat, l.filterMap ((fun x => some (D.bl true)) ∘ dN) = (List.replicate l.length true).map D.bl := by
        intro l
        induction l with
        | nil => rfl
        | cons a l ih => exact congrArg (D.bl true :: ·) ih
      rw [this, List.length_range]
    · have : (List.replicate n true).all id = true := by
        rw [List.all_eq_true]
        intro x hx
        exact (List.mem_replicate.mp hx).2
      rw [this]
      exact ⟨_, _, rfl, rfl, .inl w⟩
end VL
namespace VL
open PySem PySem.Spec L2
def unl (p q : Bool × Bool) : Bool := (p.1 && q.2) ^^ (p.2 && q.1)
theorem mk_lo (w : Wrd) (i : Nat) (h : i < 6) : (mk w).testBit i = (w.map (·.1)).getD i false := by
  rw [mk_bit, decide_eq_false (by omega), Bool.false_and, Bool.or_false]
theorem mk_hi (w : Wrd) (i : Nat) (h : w.length ≤ 6) : (mk w).testBit (i + 6) = (w.map (·.2)).getD i false := by
  rw [mk_bit, decide_eq_true (by omega), Bool.true_and, Nat.add_sub_cancel, List.getD_eq_getElem?_getD, List.getElem?_eq_none (by rw [List.length_map]; omega), Option.getD_none, Bool.false_or]
theorem t63 (i : Nat) (h : i < 6) : (63 : Nat).testBit i = true := by
  rcases i with _ | _ | _ | _ | _ | _ | i
  all_goals first | rfl | omega
theorem crs_mk (u v : Wrd) (hu : u.length ≤ 6) (hv : v.length ≤ 6) : crs (mk u) (mk v) =
    ((((((((u.map (·.1)).getD 0 false && (v.map (·.2)).getD 0 false) ^^ ((u.map (·.1)).getD 1 false && (v.map (·.2)).getD 1 false)) ^^ ((u.map (·.1)).getD 2 false && (v.map (·.2)).getD 2 false)) ^^ ((u.map (·.1)).getD 3 false && (v.map (·.2)).getD 3 false)) ^^ ((u.map (·.1)).getD 4 false && (v.map (·.2)).getD 4 false)) ^^ ((u.map (·.1)).getD 5 false && (v.map (·.2)).getD 5 false)) ^^ (((((((u.map (·.2)).getD 0 false && (v.map (·.1)).getD 0 false) ^^ ((u.map (·.2)).getD 1 false && (v.map (·.1)).getD 1 false)) ^^ ((u.map (·.2)).getD 2 false && (v.map (·.1)).getD 2 false)) ^^ ((u.map (·.2)).getD 3 false && (v.map (·.1)).getD 3 false)) ^^ ((u.map (·.2)).getD 4 false && (v.map (·.1)).getD 4 false)) ^^ ((u.map (·.2)).getD 5 false && (v.map (·.1)).getD 5 false))) := by
  have a : ∀ i, i < 6 → (mk u &&& (mk v >>> 6) &&& 63).testBit i = ((u.map (·.1)).getD i false && (v.map (·.2)).getD i false) := fun i hi => by
    rw [Nat.testBit_and, Nat.testBit_and, Nat.testBit_shiftRight, t63 i hi, Bool.and_true, mk_lo u i hi, Nat.add_comm 6 i, mk_hi v i hv]
  have b : ∀ i, i < 6 → ((mk u >>> 6) &&& mk v &&& 63).testBit i = ((u.map (·.2)).getD i false && (v.map (·.1)).getD i false) := fun i hi => by
    rw [Nat.testBit_and, Nat.testBit_and, Nat.testBit_shiftRight, t63 i hi, Bool.and_true, mk_lo v i hi, Nat.add_comm 6 i, mk_hi u i hu]
  unfold crs par6
  rw [a 0 (by omega), a 1 (by omega), a 2 (by omega), a 3 (by omega), a 4 (by omega), a 5 (by omega), b 0 (by omega), b 1 (by omega), b 2 (by omega), b 3 (by omega), b 4 (by omega), b 5 (by omega)]
def xorB : List Bool → Bool
  | [] => false
  | b :: l => b ^^ xorB l
theorem crs_xorB (u v : Wrd) (hl : u.length = v.length) (h6 : u.length ≤ 6) : crs (mk u) (mk v) = xorB (List.zipWith unl u v) := by
  rw [crs_mk u v h6 (hl ▸ h6)]
  rcases u with _ | ⟨⟨a0, b0⟩, _ | ⟨⟨a1, b1⟩, _ | ⟨⟨a2, b2⟩, _ | ⟨⟨a3, b3⟩, _ | ⟨⟨a4, b4⟩, _ | ⟨⟨a5, b5⟩, _ | ⟨x, u⟩⟩⟩⟩⟩⟩⟩ <;>
  rcases v with _ | ⟨⟨c0, d0⟩, _ | ⟨⟨c1, d1⟩, _ | ⟨⟨c2, d2⟩, _ | ⟨⟨c3, d3⟩, _ | ⟨⟨c4, d4⟩, _ | ⟨⟨c5, d5⟩, _ | ⟨y, v⟩⟩⟩⟩⟩⟩⟩ <;>
  simp only [List.length_cons, List.length_nil] at hl h6 <;>
  first
  | omega
  | (simp only [xorB, List.zipWith_cons_cons, List.zipWith_nil_left, unl, List.map_cons, List.map_nil, List.getD_cons_zero, List.getD_cons_succ, List.getD_nil, Bool.false_and, Bool.xor_false, Bool.and_false, Bool.false_bne] <;> simp only [Bool.xor_assoc, Bool.xor_left_comm, Bool.xor_comm])
theorem sum_bl : ∀ l : List Bool, ∃ n : Int, sumD (l.map D.bl) = some n ∧ decide (n % 2 = 0) = !xorB l
  | [] => ⟨0, rfl, rfl⟩
  | b :: l => by
    obtain ⟨n, h1, h2⟩ := sum_bl l
    refine ⟨(if b = true then 1 else 0) + n, ?_, ?_⟩
    · rw [List.map_cons]
      unfold sumD
      rw [h1]
      cases b <;> rfl
    · show _ = !(b ^^ xorB l)
      cases b
      · rw [Bool.false_xor, ← h2]
        rw [if_neg (by decide), Int.zero_add]
      · rw [Bool.true_xor, Bool.not_not, if_pos rfl]
        cases q : xorB l
        · rw [q] at h2
          have := of_decide_eq_true h2
          exact decide_eq_false (by omega)
        · rw [q] at h2
          have := of_decide_eq_false h2
          exact decide_eq_true (by omega)
theorem pass_loop {su sv : D} {Q : List D → Ev → Prop} : ∀ (u v : Wrd) (acc : List Bool), u.length = v.length → acc.length + u.length ≤ 6 →
    Q ((acc ++ List.zipWith unl u v).map D.bl) [.val su, .val sv, .un, .un, .un] →
    lcLoop (held []) (fun d e K => ∃ e2, bindT (.tp [.nm 3, .nm 4]) d e = some e2 ∧ wTs [] e2 fun z e3 =>
      if z = true then wE (.and (.prim pwNe [.var 3, .var 4]) (.prim pwNotIn [.cst (.str "I"), .prim pwAdd [.var 3, .var 4]])) e3 fun r e4 => ∃ x e5, frz e4 r = some (x, e5) ∧ K (some x) (wipeE e5 [3, 4]) else K none (wipeE e3 [3, 4]))
      (zipD (u.map fun p => .str (sgn (cpOf p))) (v.map fun p => .str (sgn (cpOf p)))) [.val su, .val sv, .un, .un, .un] (acc.map D.bl) Q
  | [], [], acc, _, _, q => ⟨(fun _ h => nomatch h), by rw [List.zipWith_nil_left, List.append_nil] at q; exact q⟩
  | p :: u, s :: v, acc, hl, h6, q => by
    rw [List.length_cons] at h6
    have hl : u.length = v.length := Nat.succ.inj hl
    rw [List.zipWith_cons_cons] at q
    refine ⟨(fun _ h => nomatch h), by rw [List.length_map]; omega, _, rfl, ?_⟩
    have go := pass_loop (su := su) (sv := sv) (Q := Q) u v (acc ++ [unl p s]) hl (by rw [List.length_append]; show acc.length + 1 + _ ≤ 6; omega) (by rw [List.append_assoc]; exact q)
    rw [List.map_append] at go
    have fin : ∀ b, b = unl p s → lcLoop _ _ _ _ (acc.map D.bl ++ [.bl b]) Q := fun b hb => by
      rw [hb]
      exact go
    obtain ⟨_ | _, _ | _⟩ := p <;> obtain ⟨_ | _, _ | _⟩ := s
    all_goals first
      | exact ⟨_, rfl, _, rfl, _, _, rfl, fin _ rfl⟩
      | exact ⟨_, rfl, ⟨_, rfl, _, rfl, (by show 1 + 1 ≤ 100000; omega), _, rfl, _, rfl, _, _, rfl, fin _ rfl⟩⟩
theorem ok__law_do_pass : BodyOk sp__law_do_pass tc__law_do_pass.N.length ir__law_do_pass := by
  rintro ds W ⟨u, v, hl, h6, rfl, w⟩
  obtain ⟨n, h1, h2⟩ := sum_bl (List.zipWith unl u v)
  refine ⟨_, rfl, _, _, _, _, _, _, _, _, rfl, seq_sW u, rfl, seq_sW v, ?_⟩
  refine pass_loop u v [] hl (by rw [List.length_nil]; omega) ?_
  refine ⟨_, rfl, _, rfl, n, h1, _, rfl, _, rfl, by decide, _, rfl, _, _, rfl, rfl, .inl ?_⟩
  rw [h2, ← crs_xorB u v hl h6]
  exact w
end VL
set_option maxHeartbeats 400000
namespace VL
open PySem PySem.Spec L2
theorem sW_snoc (w : Wrd) (p : Bool × Bool) : sW w ++ sgn (cpOf p) = sW (w ++ [p]) := by
  unfold sW
  rw [List.map_append]
  show (⟨(w.map cpOf).toArray ++ #[cpOf p]⟩ : Str) = _
  simp
abbrev chartK : List Key := [.inr "XY", .inr "YZ", .inr "ZX", .inr "YX", .inr "ZY", .inr "XZ"]
abbrev chartV : List D := [.tup [.int 1, .str "Z"], .tup [.int 1, .str "X"], .tup [.int 1, .str "Y"], .tup [.int 3, .str "Z"], .tup [.int 3, .str "X"], .tup [.int 3, .str "Y"]]
abbrev bodyTimes : List IS := [.asg (.tp [.nm 7, .nm 8]) (.get2 (.var 2) (.prim pwAdd [.var 5, .var 6]) (.tup [.cst (.int 0), .ite (.bv (.prim pwEq [.var 5, .cst (.str "I")])) (.var 6) (.ite (.bv (.prim pwEq [.var 6, .cst (.str "I")])) (.var 5) (.cst (.str "I")))])), .par [3, 4] [.prim pwAdd [.var 3, .var 7], .prim pwAdd [.var 4, .var 8]]]
/-- what the look in the chart tells of two letters -/
def toldOf (p s : Bool × Bool) (dflt : D) : D := (findD chartK chartV (.inr (sgn (cpOf p) ++ sgn (cpOf s)))).getD dflt
def dfltOf (p s : Bool × Bool) : D := .tup [.int 0, .str (if cpOf p = 73 then sgn (cpOf s) else if cpOf s = 73 then sgn (cpOf p) else sgn 73)]
theorem told_is (p s : Bool × Bool) : ∃ m : Int, toldOf p s (dfltOf p s) = .tup [.int m, .str (sgn (cpOf (p.1 ^^ s.1, p.2 ^^ s.2)))] := by
  obtain ⟨_ | _, _ | _⟩ := p <;> obtain ⟨_ | _, _ | _⟩ := s
  all_goals first
    | exact ⟨0, rfl⟩
    | exact ⟨1, rfl⟩
    | exact ⟨3, rfl⟩
theorem dflt_is {a0 a1 a2 a3 a4 s7 s8 : Slot} (p s : Bool × Bool) (Q : ER → Ev → Prop) (q : Q (.val (dfltOf p s)) [a0, a1, a2, a3, a4, .val (.str (sgn (cpOf p))), .val (.str (sgn (cpOf s))), s7, s8]) :
    wE (.tup [.cst (.int 0), .ite (.bv (.prim pwEq [.var 5, .cst (.str "I")])) (.var 6) (.ite (.bv (.prim pwEq [.var 6, .cst (.str "I")])) (.var 5) (.cst (.str "I")))]) [a0, a1, a2, a3, a4, .val (.str (sgn (cpOf p))), .val (.str (sgn (cpOf s))), s7, s8] Q := by
  obtain ⟨_ | _, _ | _⟩ := p <;> obtain ⟨_ | _, _ | _⟩ := s
  all_goals first
    | exact ⟨_, rfl, _, rfl, _, _, rfl, (by show 2 ≤ 100000; omega), q⟩
    | exact ⟨_, rfl, _, rfl, _, rfl, _, rfl, _, _, rfl, (by show 2 ≤ 100000; omega), q⟩
    | skip
theorem times_step {K : WE} {a0 a1 s7 s8 : Slot} (p s : Bool × Bool) (acc : Wrd) (n : Int) (f7 : Free s7) (f8 : Free s8) (h : acc.length ≤ 6)
    (q : ∀ (m : Int) (t7 t8 : D), K.nx [a0, a1, .ownd chartK chartV, .val (.int m), .val (.str (sW (acc ++ [(p.1 ^^ s.1, p.2 ^^ s.2)]))), .val (.str (sgn (cpOf p))), .val (.str (sgn (cpOf s))), .val t7, .val t8]) :
    wSs bodyTimes [a0, a1, .ownd chartK chartV, .val (.int n), .val (.str (sW acc)), .val (.str (sgn (cpOf p))), .val (.str (sgn (cpOf s))), s7, s8] K := by
  have bd : (sW acc).length + 1 ≤ 100000 := by
    rw [len_sW]
    omega
  obtain ⟨m, hm⟩ := told_is p s
  have bind2 : ∀ (x : Int) (y : Str), bindT (.tp [.nm 7, .nm 8]) (.tup [.int x, .str y]) [a0, a1, .ownd chartK chartV, .val (.int n), .val (.str (sW acc)), .val (.str (sgn (cpOf p))), .val (.str (sgn (cpOf s))), s7, s8] = some [a0, a1, .ownd chartK chartV, .val (.int n), .val (.str (sW acc)), .val (.str (sgn (cpOf p))), .val (.str (sgn (cpOf s))), .val (.int x), .val (.str y)] := by
    intro x y
    rcases f7 with rfl | ⟨_, rfl⟩ <;> rcases f8 with rfl | ⟨_, rfl⟩ <;> rfl
  refine ⟨⟨_, _, rfl⟩, _, rfl, (by show 1 + 1 ≤ 100000; omega), ?_⟩
  refine dflt_is p s _ ⟨_, _, _, _, rfl, rfl, rfl, _, rfl, _, rfl, ?_⟩
  have e : (findD chartK chartV (.inr (sgn (cpOf p) ++ sgn (cpOf s)))).getD (dfltOf p s) = _ := hm
  rw [e]
  refine ⟨_, _, rfl, ⟨_, rfl⟩, bind2 _ _, ?_⟩
  refine ⟨_, rfl, _, rfl, (by show (sW acc).length + 1 ≤ 100000; exact bd), trivial, _, _, rfl, rfl, ?_⟩
  rw [← sW_snoc] at q
  exact q (n + m) _ _
theorem times_loop {K : WE} {a0 a1 : Slot} {Q : Ev → Prop} (u : Wrd) : ∀ (v : Wrd) (acc : Wrd) (n : Int) (s5 s6 s7 s8 : Slot), Free s5 → Free s6 → Free s7 → Free s8 → u.length = v.length → acc.length + u.length ≤ 6 →
    (∀ (n : Int) (s5 s6 s7 s8 : Slot), Q [a0, a1, .ownd chartK chartV, .val (.int n), .val (.str (sW (acc ++ xorW u v))), s5, s6, s7, s8]) →
    forLoop (fun d e N => ∃ e2, bindT (.tp [.nm 5, .nm 6]) d e = some e2 ∧ wSs bodyTimes e2 { K with nx := N, ct := N, bk := K.nx })
      (zipD (u.map fun p => .str (sgn (cpOf p))) (v.map fun p => .str (sgn (cpOf p)))) [a0, a1, .ownd chartK chartV, .val (.int n), .val (.str (sW acc)), s5, s6, s7, s8] Q := by
  induction u with
  | nil =>
    intro v acc n s5 s6 s7 s8 _ _ _ _ hl _ q
    cases v with
    | cons _ _ => cases hl
    | nil =>
      have := q n s5 s6 s7 s8
      rw [show xorW [] [] = [] from rfl, List.append_nil] at this
      exact this
  | cons p u ih =>
    intro v acc n s5 s6 s7 s8 f5 f6 f7 f8 hl h6 q
    cases v with
    | nil => cases hl
    | cons s v =>
      rw [List.length_cons] at h6
      have hl : u.length = v.length := Nat.succ.inj hl
      have bind : bindT (.tp [.nm 5, .nm 6]) (.tup [.str (sgn (cpOf p)), .str (sgn (cpOf s))]) [a0, a1, .ownd chartK chartV, .val (.int n), .val (.str (sW acc)), s5, s6, s7, s8] = some [a0, a1, .ownd chartK chartV, .val (.int n), .val (.str (sW acc)), .val (.str (sgn (cpOf p))), .val (.str (sgn (cpOf s))), s7, s8] := by
        rcases f5 with rfl | ⟨_, rfl⟩ <;> rcases f6 with rfl | ⟨_, rfl⟩ <;> rfl
      refine ⟨_, bind, ?_⟩
      refine times_step p s acc n f7 f8 (by omega) fun m t7 t8 => ?_
      refine ih v _ m _ _ _ _ (.inr ⟨_, rfl⟩) (.inr ⟨_, rfl⟩) (.inr ⟨_, rfl⟩) (.inr ⟨_, rfl⟩) hl (by rw [List.length_append]; show acc.length + 1 + _ ≤ 6; omega) fun n t5 t6 t7 t8 => ?_
      rw [List.append_assoc]
      exact q n t5 t6 t7 t8
theorem ok__law_times : BodyOk sp__law_times tc__law_times.N.length ir__law_times := by
  rintro ds W ⟨u, v, hl, h6, rfl, w⟩
  have two : 2 ≤ 100000 := by omega
  refine ⟨_, rfl, _, _, rfl, two, _, _, rfl, two, _, _, rfl, two, _, _, rfl, two, _, _, rfl, two, _, _, rfl, two, _, _, rfl, chartK, chartV, rfl, by decide, by decide, _, rfl, ?_⟩
  refine ⟨_, rfl, _, rfl, _, rfl, _, rfl, _, rfl, trivial, _, _, rfl, rfl, ?_⟩
  refine ⟨_, rfl, _, rfl, _, rfl, _, rfl, _, _, _, _, _, _, _, _, rfl, seq_sW u, rfl, seq_sW v, rfl, ?_⟩
  refine times_loop u v [] _ _ _ _ _ (.inl rfl) (.inl rfl) (.inl rfl) (.inl rfl) hl (by rw [List.length_nil]; omega) fun n s5 s6 s7 s8 => ?_
  refine ⟨_, rfl, _, rfl, by decide, _, _, rfl, two, ?_⟩
  exact ⟨_, _, rfl, rfl, .inl (w (n % 4))⟩
end VL
namespace VL
open PySem PySem.Spec L2
/-! words and marks -/
theorem xorW_len (u v : Wrd) (h : u.length = v.length) : (xorW u v).length = u.length := by
  unfold xorW
  rw [List.length_zipWith, h, Nat.min_self]
theorem xorW_fst (u v : Wrd) (h : u.length = v.length) (i : Nat) : ((xorW u v).map (·.1)).getD i false = ((u.map (·.1)).getD i false ^^ (v.map (·.1)).getD i false) := by
  induction u generalizing v i with
  | nil =>
    cases v with
    | nil => rfl
    | cons _ _ => cases h
  | cons p u ih =>
    cases v with
    | nil => cases h
    | cons s v =>
      cases i with
      | zero => rfl
      | succ i => exact ih v (Nat.succ.inj h) i
theorem xorW_snd (u v : Wrd) (h : u.length = v.length) (i : Nat) : ((xorW u v).map (·.2)).getD i false = ((u.map (·.2)).getD i false ^^ (v.map (·.2)).getD i false) := by
  induction u generalizing v i with
  | nil =>
    cases v with
    | nil => rfl
    | cons _ _ => cases h
  | cons p u ih =>
    cases v with
    | nil => cases h
    | cons s v =>
      cases i with
      | zero => rfl
      | succ i => exact ih v (Nat.succ.inj h) i
theorem mk_bits (w : Wrd) (h : w.length ≤ 6) (i : Nat) : (mk w).testBit i = if i < 6 then (w.map (·.1)).getD i false else (w.map (·.2)).getD (i - 6) false := by
  split
  · exact mk_lo w i (by assumption)
  · rename_i q
    have := mk_hi w (i - 6) h
    rw [show i - 6 + 6 = i by omega] at this
    exact this
theorem mk_xor (u v : Wrd) (h : u.length = v.length) (h6 : u.length ≤ 6) : mk (xorW u v) = mk u ^^^ mk v := by
  refine Nat.eq_of_testBit_eq fun i => ?_
  rw [Nat.testBit_xor, mk_bits _ (by rw [xorW_len u v h]; exact h6), mk_bits u h6, mk_bits v (h ▸ h6)]
  split
  · exact xorW_fst u v h i
  · exact xorW_snd u v h _
theorem mk_none (n : Nat) (h : n ≤ 6) : mk (noneW n) = 0 := by
  refine Nat.eq_of_testBit_eq fun i => ?_
  have z : ∀ j, (List.replicate n false).getD j false = false := fun j => by
    rw [List.getD_eq_getElem?_getD, List.getElem?_replicate]
    split <;> rfl
  rw [mk_bits _ (by unfold noneW; rw [List.length_replicate]; exact h), Nat.zero_testBit]
  unfold noneW
  rw [List.map_replicate, List.map_replicate]
  split
  · exact z _
  · exact z _
theorem word_mk (w : Wrd) (n : Nat) (hn : w.length = n) (h6 : n ≤ 6) : wordF (mk w) n = w := by
  unfold wordF
  refine List.ext_getElem ?_ fun i h1 h2 => ?_
  · rw [List.length_map, List.length_range, hn]
  · have hi : i < 6 := by omega
    rw [List.getElem_map, List.getElem_range, mk_lo w i hi, Nat.add_comm 6 i, mk_hi w i (by omega), List.getD_eq_getElem?_getD, List.getD_eq_getElem?_getD, List.getElem?_map, List.getElem?_map, List.getElem?_eq_getElem h2]
    rfl
theorem mk_inj (u v : Wrd) (n : Nat) (hu : u.length = n) (hv : v.length = n) (h6 : n ≤ 6) (h : mk u = mk v) : u = v := by
  rw [← word_mk u n hu h6, h, word_mk v n hv h6]
theorem sW_inj {u v : Wrd} (h : sW u = sW v) : u = v := by
  have e : u.map cpOf = v.map cpOf := by
    have := congrArg (fun s : Str => s.cps.toList) h
    exact this
  have inj : ∀ p q : Bool × Bool, cpOf p = cpOf q → p = q := by
    rintro ⟨_ | _, _ | _⟩ ⟨_ | _, _ | _⟩ h <;> first | rfl | cases h
  induction u generalizing v with
  | nil =>
    cases v with
    | nil => rfl
    | cons _ _ => cases e
  | cons p u ih =>
    cases v with
    | nil => cases e
    | cons s v =>
      rw [List.map_cons, List.map_cons] at e
      rw [inj p s (List.cons.inj e).1, ih (by unfold sW; rw [(List.cons.inj e).2]) (List.cons.inj e).2]
end VL
namespace VL
open PySem PySem.Spec L2
theorem holds_k61 : ∀ ns : List Int, ns.length ≤ 63 → sp_law.wp [.frl (ns.map .int)] fun r ls => r = .val (.bl true) ∧ ls = [] :=
  fun ns h => ⟨ns, h, rfl, rfl, rfl⟩
abbrev wdL (ws : List Wrd) : List D := ws.map fun w => .str (sW w)
theorem mem_wdL {d : D} {ws : List Wrd} (h : d ∈ wdL ws) : ∃ w ∈ ws, d = .str (sW w) := by
  obtain ⟨w, hw, rfl⟩ := List.mem_map.mp h
  exact ⟨w, hw, rfl⟩
theorem makers_app {K : WE} {a1 a3 a5 : Slot} {n : Nat} (hn : n ≤ 6) (p : Int × Int × Int) (b : Nat) (hp : potOk b p) (hb : b ≤ 2000) (ws : List Wrd) (hl : ws.length ≤ 100) (x : Wrd) (hx : x.length = n) (m : Nat)
    (q : ∀ (p' : Int × Int × Int) (y : Wrd), potOk (b + 1) p' → y.length = n → K.nx [.lnt (potD p'), .val (dN n), .own (wdL (ws ++ [y])), a3, .val (.str (sW x)), .val (dN m)]) :
    wSs [.drop (.mut mwAppend 2 [.ite (.and (.bv (.prim pwEq [.var 5, .cst (.int 2)])) (.bv (.prim pwEq [.call sp__law_take [.var 0, .cst (.int 3)], .cst (.int 0)]))) (.call sp__law_none [.var 1]) (.var 4)])] [.lnt (potD p), .val (dN n), .own (wdL ws), a3, .val (.str (sW x)), .val (dN m)] K := by
  have app : ∀ y : Wrd, wdL ws ++ [.str (sW y)] = wdL (ws ++ [y]) := fun y => by
    unfold wdL
    rw [List.map_append]
    rfl
  have lw : (wdL ws).length + 1 ≤ 1000 := by
    unfold wdL
    rw [List.length_map]
    omega
  have no : ∀ p', potOk (b + 1) p' → K.nx [.lnt (potD p'), .val (dN n), .own (wdL ws ++ [.str (sW x)]), a3, .val (.str (sW x)), .val (dN m)] := fun p' h => by
    rw [app]
    exact q p' x h hx
  have yes : ∀ p', potOk (b + 1) p' → K.nx [.lnt (potD p'), .val (dN n), .own (wdL ws ++ [.str (sW (noneW n))]), a3, .val (.str (sW x)), .val (dN m)] := fun p' h => by
    rw [app]
    exact q p' (noneW n) h (by unfold noneW; exact List.length_replicate)
  refine ⟨rfl, _, rfl, _, rfl, ite_dec (fun h => ?_) fun h => ?_⟩
  · refine ⟨_, _, rfl, (fun z => nomatch z), rfl, p, b, 3, hp, by omega, by omega, by omega, rfl, fun p' d hp' hd => ⟨_, rfl, _, rfl, _, rfl, ite_dec (fun h => ?_) fun h => ?_⟩⟩
    · refine ⟨_, _, rfl, n, hn, rfl, rfl, _, _, rfl, _, rfl, by omega, yes p' hp'⟩
    · refine ⟨_, _, rfl, _, rfl, by omega, no p' hp'⟩
  · refine ⟨_, _, rfl, _, rfl, by omega, no p (hp.mono (by omega))⟩
end VL
namespace VL
open PySem PySem.Spec L2
theorem strOk_sW (w : Wrd) : PyData.strOk (sW w) = true := by
  unfold PyData.strOk
  rw [Array.all_eq_true']
  intro c hc
  obtain ⟨p, _, rfl⟩ := List.mem_map.mp (List.mem_toArray.mp hc)
  obtain ⟨_ | _, _ | _⟩ := p <;> rfl
theorem plain_wds : ∀ l : List Wrd, D.plainL (wdL l) = true
  | [] => rfl
  | a :: l => by
    show (true && D.plainL (wdL l)) = true
    rw [plain_wds l]
    rfl
theorem shaped_wds (l : List Wrd) : SeqAt.shaped (D.py (.lst (wdL l))) = true := by
  unfold SeqAt.shaped
  have h1 : ∀ l : List Wrd, PyData.canLay0 (.list (D.pyL (wdL l))) = true ∧ PyData.depth (.list (D.pyL (wdL l))) ≤ 64 := by
    intro l
    have a1 : ∀ l : List Wrd, PyData.canLayAll0 (D.pyL (wdL l)) = true ∧ PyData.depthAll (D.pyL (wdL l)) = 0 := by
      intro l
      induction l with
      | nil => exact ⟨rfl, rfl⟩
      | cons a l ih =>
        refine ⟨?_, ?_⟩
        · show (PyData.strOk (sW a) && PyData.canLayAll0 (D.pyL (wdL l))) = true
          rw [ih.1, strOk_sW]
          rfl
        · show max 0 (PyData.depthAll (D.pyL (wdL l))) = 0
          rw [ih.2]
          rfl
    refine ⟨(a1 l).1, ?_⟩
    show PyData.depthAll (D.pyL (wdL l)) + 1 ≤ 64
    rw [(a1 l).2]
    decide
  rw [Bool.and_eq_true_iff]
  exact ⟨(h1 l).1, decide_eq_true (h1 l).2⟩
theorem ok_wds (l : List Wrd) : (D.lst (wdL l)).ok := ⟨plain_wds l, shaped_wds l⟩
theorem eqv_nil_w (l : List Wrd) : PyData.eqv (D.py (.lst (wdL l))) (D.py (.lst [])) = l.isEmpty := by
  cases l <;> rfl
theorem makers_zero {K : WE} {a3 : Slot} {n : Nat} (p : Int × Int × Int) (b : Nat) (hp : potOk b p) (hb : b ≤ 2000) (ws : List Wrd) (hl : ws.length ≤ 100) (hw : ∀ w ∈ ws, w.length = n) (x : Wrd) (hx : x.length = n) (m : Nat)
    (q : ∀ (p' : Int × Int × Int) (y : Wrd), potOk (b + 1) p' → y.length = n → K.nx [.lnt (potD p'), .val (dN n), .own (wdL ws), a3, .val (.str (sW y)), .val (dN m)]) :
    wSs [.ite (.and (.bv (.prim pwEq [.var 5, .cst (.int 0)])) (.bv (.prim pwNe [.var 2, .lst []]))) [.set 4 (.call sp__law_of [.var 0, .var 2])] []] [.lnt (potD p), .val (dN n), .own (wdL ws), a3, .val (.str (sW x)), .val (dN m)] K := by
  have lw : (wdL ws).length ≤ 1000 := by
    unfold wdL
    rw [List.length_map]
    omega
  refine ⟨_, rfl, _, rfl, ite_dec (fun h => ?_) fun h => q p x (hp.mono (by omega)) hx⟩
  refine ⟨_, _, rfl, (by show 0 ≤ 100000; omega), _, rfl, ok_wds ws, ok_wds [], _, rfl, ?_⟩
  rw [show PyData.eqv (D.lst (wdL ws)).py (D.lst []).py = ws.isEmpty from eqv_nil_w ws]
  cases ws with
  | nil => exact q p x (hp.mono (by omega)) hx
  | cons w0 ws =>
    refine ⟨_, _, rfl, (fun z => nomatch z), rfl, p, b, wdL (w0 :: ws), hp, by omega, (fun z => nomatch z), lw, rfl, fun p' d hp' hd => ?_⟩
    obtain ⟨y, hy, rfl⟩ := mem_wdL hd
    exact ⟨_, rfl, _, rfl, q p' y hp' (hw y hy)⟩
end VL
namespace VL
open PySem PySem.Spec L2
theorem makers_one {K : WE} {a3 : Slot} {n : Nat} (hn : n ≤ 6) (p : Int × Int × Int) (b : Nat) (hp : potOk b p) (hb : b ≤ 2000) (ws : List Wrd) (hl : ws.length ≤ 100) (hw : ∀ w ∈ ws, w.length = n) (x : Wrd) (hx : x.length = n) (m : Nat)
    (q : ∀ (p' : Int × Int × Int) (y : Wrd), potOk (b + 2) p' → y.length = n → K.nx [.lnt (potD p'), .val (dN n), .own (wdL ws), a3, .val (.str (sW y)), .val (dN m)]) :
    wSs [.ite (.and (.bv (.prim pwEq [.var 5, .cst (.int 1)])) (.bv (.prim pwNe [.var 2, .lst []]))) [.set 4 (.call sp__law_letters_of [.call sp__law_of [.var 0, .var 2], .call sp__law_of [.var 0, .var 2]])] []] [.lnt (potD p), .val (dN n), .own (wdL ws), a3, .val (.str (sW x)), .val (dN m)] K := by
  have lw : (wdL ws).length ≤ 1000 := by
    unfold wdL
    rw [List.length_map]
    omega
  refine ⟨_, rfl, _, rfl, ite_dec (fun h => ?_) fun h => q p x (hp.mono (by omega)) hx⟩
  refine ⟨_, _, rfl, (by show 0 ≤ 100000; omega), _, rfl, ok_wds ws, ok_wds [], _, rfl, ?_⟩
  rw [show PyData.eqv (D.lst (wdL ws)).py (D.lst []).py = ws.isEmpty from eqv_nil_w ws]
  cases ws with
  | nil => exact q p x (hp.mono (by omega)) hx
  | cons w0 ws =>
    refine ⟨_, _, rfl, (fun z => nomatch z), rfl, p, b, wdL (w0 :: ws), hp, by omega, (fun z => nomatch z), lw, rfl, fun p' d hp' hd => ?_⟩
    obtain ⟨y, hy, rfl⟩ := mem_wdL hd
    refine ⟨_, rfl, _, _, rfl, (fun z => nomatch z), rfl, p', b + 1, wdL (w0 :: ws), hp', by omega, (fun z => nomatch z), lw, rfl, fun p2 d hp2 hd => ?_⟩
    obtain ⟨z, hz, rfl⟩ := mem_wdL hd
    have ly := hw y hy
    have lz := hw z hz
    exact ⟨_, rfl, _, _, rfl, y, z, by rw [ly, lz], by omega, rfl, rfl, _, rfl, q p2 (xorW y z) hp2 (by rw [xorW_len y z (by rw [ly, lz]), ly])⟩
end VL
namespace VL
open PySem PySem.Spec L2
abbrev mk0 : IS := .ite (.and (.bv (.prim pwEq [.var 5, .cst (.int 0)])) (.bv (.prim pwNe [.var 2, .lst []]))) [.set 4 (.call sp__law_of [.var 0, .var 2])] []
abbrev mk1 : IS := .ite (.and (.bv (.prim pwEq [.var 5, .cst (.int 1)])) (.bv (.prim pwNe [.var 2, .lst []]))) [.set 4 (.call sp__law_letters_of [.call sp__law_of [.var 0, .var 2], .call sp__law_of [.var 0, .var 2]])] []
abbrev mk2 : IS := .drop (.mut mwAppend 2 [.ite (.and (.bv (.prim pwEq [.var 5, .cst (.int 2)])) (.bv (.prim pwEq [.call sp__law_take [.var 0, .cst (.int 3)], .cst (.int 0)]))) (.call sp__law_none [.var 1]) (.var 4)])
theorem makers_turn {K : WE} {s3 s4 s5 : Slot} {n : Nat} (hn : n ≤ 6) (p : Int × Int × Int) (b : Nat) (hp : potOk b p) (hb : b ≤ 1900) (ws : List Wrd) (hl : ws.length ≤ 100) (hw : ∀ w ∈ ws, w.length = n) (f4 : Free s4) (f5 : Free s5)
    (q : ∀ (p' : Int × Int × Int) (y : Wrd) (d4 d5 : D), potOk (b + 11) p' → y.length = n → K.nx [.lnt (potD p'), .val (dN n), .own (wdL (ws ++ [y])), s3, .val d4, .val d5]) :
    wSs [.par [4, 5] [.call sp__law_any_letters [.var 0, .var 1], .call sp__law_take [.var 0, .cst (.int 6)]], mk0, mk1, mk2] [.lnt (potD p), .val (dN n), .own (wdL ws), s3, s4, s5] K := by
  have tail : ∀ (p' : Int × Int × Int) (x : Wrd) (m : Nat), potOk (b + 7) p' → x.length = n → wSs [mk0, mk1, mk2] [.lnt (potD p'), .val (dN n), .own (wdL ws), s3, .val (.str (sW x)), .val (dN m)] K := fun p' x m hp' hx => by
    refine makers_zero (K := { K with nx := fun e => wSs [mk1, mk2] e K }) p' (b + 7) hp' (by omega) ws hl hw x hx m fun p1 y1 hp1 hy1 => ?_
    refine makers_one (K := { K with nx := fun e => wSs [mk2] e K }) hn p1 (b + 8) hp1 (by omega) ws hl hw y1 hy1 m fun p2 y2 hp2 hy2 => ?_
    exact makers_app (a1 := .un) (a5 := .un) hn p2 (b + 10) hp2 (by omega) ws hl y2 hy2 m fun p3 y3 hp3 hy3 => q p3 y3 _ _ hp3 hy3
  rcases f4 with rfl | ⟨_, rfl⟩ <;> rcases f5 with rfl | ⟨_, rfl⟩
  all_goals exact ⟨_, _, rfl, (fun z => nomatch z), rfl, p, b, n, hp, by omega, hn, rfl, fun p' w hp' hw' => ⟨_, rfl, _, _, rfl, (fun z => nomatch z), rfl, p', b + 6, 6, hp', by omega, by omega, by omega, rfl, fun p2 d hp2 hd => ⟨_, rfl, trivial, _, _, rfl, rfl, tail p2 w d hp2 hw'⟩⟩⟩
end VL
namespace VL
open PySem PySem.Spec L2
theorem makers_loop {K : WE} {n : Nat} (hn : n ≤ 6) {Q : Ev → Prop} : ∀ (its : List D) (p : Int × Int × Int) (b : Nat) (ws : List Wrd) (s3 s4 s5 : Slot), potOk b p → b + 11 * its.length ≤ 1900 → ws.length + its.length ≤ 100 → (∀ w ∈ ws, w.length = n) → Free s3 → Free s4 → Free s5 →
    (∀ (p' : Int × Int × Int) (us : List Wrd) (s3 s4 s5 : Slot), potOk (b + 11 * its.length) p' → us.length = ws.length + its.length → (∀ w ∈ us, w.length = n) → Q [.lnt (potD p'), .val (dN n), .own (wdL us), s3, s4, s5]) →
    forLoop (fun d e N => ∃ e2, bindT (.nm 3) d e = some e2 ∧ wSs [.par [4, 5] [.call sp__law_any_letters [.var 0, .var 1], .call sp__law_take [.var 0, .cst (.int 6)]], mk0, mk1, mk2] e2 { K with nx := N, ct := N, bk := K.nx }) its [.lnt (potD p), .val (dN n), .own (wdL ws), s3, s4, s5] Q
  | [], p, b, ws, s3, s4, s5, hp, _, _, hw, _, _, _, q => q p ws s3 s4 s5 hp rfl hw
  | d :: its, p, b, ws, s3, s4, s5, hp, hb, hl, hw, f3, f4, f5, q => by
    have e0 : (d :: its).length = its.length + 1 := rfl
    rw [e0] at hb hl
    have bind : bindT (.nm 3) d [.lnt (potD p), .val (dN n), .own (wdL ws), s3, s4, s5] = some [.lnt (potD p), .val (dN n), .own (wdL ws), .val d, s4, s5] := by
      rcases f3 with rfl | ⟨_, rfl⟩ <;> rfl
    refine ⟨_, bind, makers_turn hn p b hp (by omega) ws (by omega) hw f4 f5 fun p' y d4 d5 hp' hy => ?_⟩
    have e1 : (ws ++ [y]).length = ws.length + 1 := List.length_append
    refine makers_loop hn its p' (b + 11) (ws ++ [y]) _ _ _ hp' (by omega) (by omega) (fun w h => ?_) (.inr ⟨_, rfl⟩) (.inr ⟨_, rfl⟩) (.inr ⟨_, rfl⟩) fun p2 us t3 t4 t5 h1 h2 h3 => q p2 us t3 t4 t5 (h1.mono (by omega)) (by omega) h3
    rcases List.mem_append.mp h with z | z
    · exact hw w z
    · rw [List.mem_singleton.mp z]
      exact hy
theorem ok__law_makers : BodyOk sp__law_makers tc__law_makers.N.length ir__law_makers := by
  rintro ds W ⟨p, b, n, hp, hb, h1, hn, rfl, w⟩
  refine ⟨_, rfl, _, _, rfl, (by show 0 ≤ 100000; omega), _, rfl, ?_⟩
  refine ⟨_, _, rfl, (fun z => nomatch z), rfl, p, b, 7, hp, by omega, by omega, by omega, rfl, fun p' k hp' hk => ⟨_, rfl, (k : Int), rfl, ⟨by omega, by omega⟩, rfl, ?_⟩⟩
  have len : (rngD 0 ((k : Int)).toNat).length = k := by
    unfold rngD
    rw [List.length_map, List.length_range, Int.toNat_natCast]
  refine makers_loop hn (rngD 0 ((k : Int)).toNat) p' (b + 1) [] _ _ _ hp' (by rw [len]; omega) (by rw [len]; show 0 + k ≤ 100; omega) (fun _ h => nomatch h) (.inl rfl) (.inl rfl) (.inl rfl) fun p2 us t3 t4 t5 g1 g2 g3 => ?_
  rw [len] at g1 g2
  have g2 : us.length = 0 + k := g2
  exact ⟨_, rfl, _, _, rfl, rfl, .inl (w p2 us (g1.mono (by omega)) (by omega) g3)⟩
end VL
namespace VL
open PySem PySem.Spec L2
theorem putD_new {ks : List Key} {ds : List D} {c : Key} {x : D} (h : c ∉ ks) : putD ks ds c x = (ks ++ [c], ds ++ [x]) := by
  unfold putD
  rw [if_neg]
  intro q
  obtain ⟨z, hz, e⟩ := List.any_eq_true.mp q
  exact h (of_decide_eq_true e ▸ hz)
theorem keysW_snoc (l : List Wrd) (v : Wrd) : keysW l ++ [.inr (sW v)] = keysW (l ++ [v]) := by
  unfold keysW
  rw [List.map_append]
  rfl
theorem keysW_mem {l : List Wrd} {v : Wrd} : (Sum.inr (sW v) : Key) ∈ keysW l ↔ v ∈ l := by
  constructor
  · intro h
    obtain ⟨u, hu, e⟩ := List.mem_map.mp h
    rw [← sW_inj (Sum.inr.inj e)]
    exact hu
  · intro h
    exact List.mem_map.mpr ⟨v, h, rfl⟩
/-- the inner loop of _law_span: every word of the picture, turned by one new word, is new -/
theorem span_inner {K : WE} {a0 a1 : D} {one : Wrd} {n : Nat} (hn : n ≤ 6) (h1 : one.length = n) {Q : Ev → Prop} : ∀ (us acc : List Wrd) (vs : List D) (s4 : Slot), Free s4 → (∀ u ∈ us, u.length = n) → (us.map fun u => xorW u one).Nodup → (∀ u ∈ us, xorW u one ∉ acc) → acc.length + us.length ≤ 90000 →
    (∀ (vs : List D) (s4 : Slot), Free s4 → Q [.val a0, .val a1, .ownd (keysW (acc ++ us.map fun u => xorW u one)) vs, .val (.str (sW one)), s4]) →
    forLoop (fun d e N => ∃ e2, bindT (.nm 4) d e = some e2 ∧ wSs [.setD 2 (.cst (.bl true)) (.call sp__law_letters_of [.var 4, .var 3])] e2 { K with nx := N, ct := N, bk := K.nx }) (wdL us) [.val a0, .val a1, .ownd (keysW acc) vs, .val (.str (sW one)), s4] Q
  | [], acc, vs, s4, f4, _, _, _, _, q => by
    have := q vs s4 f4
    rw [List.map_nil, List.append_nil] at this
    exact this
  | u :: us, acc, vs, s4, f4, hu, nd, hx, hl, q => by
    rw [List.length_cons] at hl
    have bind : bindT (.nm 4) (.str (sW u)) [.val a0, .val a1, .ownd (keysW acc) vs, .val (.str (sW one)), s4] = some [.val a0, .val a1, .ownd (keysW acc) vs, .val (.str (sW one)), .val (.str (sW u))] := by
      rcases f4 with rfl | ⟨_, rfl⟩ <;> rfl
    have lu := hu u (List.mem_cons_self ..)
    rw [List.map_cons, List.nodup_cons] at nd
    have kl : (keysW acc).length < 100000 := by
      unfold keysW
      rw [List.length_map]
      omega
    refine ⟨_, bind, ⟨_, _, rfl⟩, _, _, rfl, u, one, by rw [lu, h1], by omega, rfl, rfl, _, _, rfl, _, _, _, _, rfl, rfl, rfl, kl, ?_⟩
    rw [putD_new (fun h => hx u (List.mem_cons_self ..) (keysW_mem.mp h)), keysW_snoc]
    refine span_inner hn h1 us (acc ++ [xorW u one]) _ _ (.inr ⟨_, rfl⟩) (fun x h => hu x (List.mem_cons_of_mem _ h)) nd.2 (fun x h z => ?_) (by rw [List.length_append]; show acc.length + 1 + _ ≤ _; omega) fun vs s4 f4 => ?_
    · rcases List.mem_append.mp z with z | z
      · exact hx x (List.mem_cons_of_mem _ h) z
      · exact nd.1 (List.mem_singleton.mp z ▸ List.mem_map.mpr ⟨x, h, rfl⟩)
    · rw [List.append_assoc]
      exact q vs s4 f4
end VL
namespace VL
open PySem PySem.Spec L2
def SpanOk (n : Nat) (ws l : List Wrd) : Prop := l.Nodup ∧ (∀ v ∈ l, v.length = n) ∧ ∀ v : Wrd, v.length = n → (v ∈ l ↔ Sp (mks ws) (mk v))
theorem mks_snoc (ws : List Wrd) (w : Wrd) : mks (ws ++ [w]) = mks ws ++ [mk w] := by
  unfold mks
  rw [List.map_append]
  rfl
theorem span_old {n : Nat} {ws l : List Wrd} {one : Wrd} (h : SpanOk n ws l) (h1 : one.length = n) (hm : one ∈ l) : SpanOk n (ws ++ [one]) l := by
  refine ⟨h.1, h.2.1, fun v hv => ?_⟩
  have k := (h.2.2 one h1).mp hm
  rw [h.2.2 v hv, mks_snoc, Sp.snoc_iff]
  constructor
  · exact .inl
  · rintro (z | z)
    · exact z
    · exact sp_swap z k
theorem span_new {n : Nat} (hn : n ≤ 6) {ws l : List Wrd} {one : Wrd} (h : SpanOk n ws l) (h1 : one.length = n) (hm : one ∉ l) :
    (l.map fun u => xorW u one).Nodup ∧ (∀ u ∈ l, xorW u one ∉ l) ∧ SpanOk n (ws ++ [one]) (l ++ l.map fun u => xorW u one) := by
  have mx : ∀ u : Wrd, u.length = n → mk (xorW u one) = mk u ^^^ mk one := fun u hu => mk_xor u one (by rw [hu, h1]) (by omega)
  have lx : ∀ u : Wrd, u.length = n → (xorW u one).length = n := fun u hu => by rw [xorW_len u one (by rw [hu, h1]), hu]
  have back : ∀ u : Wrd, u.length = n → xorW (xorW u one) one = u := fun u hu => by
    refine mk_inj _ _ n (lx _ (lx u hu) |>.symm ▸ rfl) hu hn ?_
    rw [mk_xor (xorW u one) one (by rw [lx u hu, h1]) (by rw [lx u hu]; exact hn), mx u hu, Nat.xor_assoc, Nat.xor_self, Nat.xor_zero]
  have nd : (l.map fun u => xorW u one).Nodup := by
    refine List.pairwise_map.mpr (List.Pairwise.imp_of_mem (fun {a b} ha hb hne e => hne ?_) h.1)
    rw [← back a (h.2.1 a ha), e, back b (h.2.1 b hb)]
  have ns : ¬ Sp (mks ws) (mk one) := fun z => hm ((h.2.2 one h1).mpr z)
  have dj : ∀ u ∈ l, xorW u one ∉ l := fun u hu z => ns (by
    have a := (h.2.2 u (h.2.1 u hu)).mp hu
    have b := (h.2.2 _ (lx u (h.2.1 u hu))).mp z
    rw [mx u (h.2.1 u hu), Nat.xor_comm] at b
    exact sp_swap b a)
  refine ⟨nd, dj, ?_, fun v hv => ?_, fun v hv => ?_⟩
  · refine List.nodup_append.mpr ⟨h.1, nd, fun a ha b hb e => ?_⟩
    obtain ⟨u, hu, rfl⟩ := List.mem_map.mp hb
    exact dj u hu (e ▸ ha)
  · rcases List.mem_append.mp hv with z | z
    · exact h.2.1 v z
    · obtain ⟨u, hu, rfl⟩ := List.mem_map.mp z
      exact lx u (h.2.1 u hu)
  · rw [mks_snoc, Sp.snoc_iff, List.mem_append, h.2.2 v hv, ← mx v hv, ← h.2.2 _ (lx v hv)]
    refine or_congr Iff.rfl ⟨fun z => ?_, fun z => ?_⟩
    · obtain ⟨u, hu, rfl⟩ := List.mem_map.mp z
      rw [back u (h.2.1 u hu)]
      exact hu
    · exact List.mem_map.mpr ⟨_, z, back v hv⟩
end VL
namespace VL
open PySem PySem.Spec L2
theorem any_key (l : List Wrd) (v : Wrd) : ((keysW l).any fun c => decide (c = (Sum.inr (sW v) : Key))) = decide (v ∈ l) := by
  by_cases h : v ∈ l
  · rw [decide_eq_true h, List.any_eq_true]
    exact ⟨_, keysW_mem.mpr h, decide_eq_true rfl⟩
  · rw [decide_eq_false h, Bool.eq_false_iff]
    intro q
    obtain ⟨z, hz, e⟩ := List.any_eq_true.mp q
    exact h (keysW_mem.mp (of_decide_eq_true e ▸ hz))
theorem keyD_keysW (l : List Wrd) : (keysW l).map keyD = wdL l := by
  unfold keysW
  rw [List.map_map]
  rfl
theorem span_turn {K : WE} {a0 a1 : D} {n : Nat} (hn : n ≤ 6) {ws l : List Wrd} {one : Wrd} (h : SpanOk n ws l) (h1 : one.length = n) (hl : l.length ≤ 40000) {vs : List D} {s4 : Slot} (f4 : Free s4)
    (q : ∀ (l' : List Wrd) (vs : List D) (s4 : Slot), Free s4 → SpanOk n (ws ++ [one]) l' → l'.length ≤ 2 * l.length → K.nx [.val a0, .val a1, .ownd (keysW l') vs, .val (.str (sW one)), s4]) :
    wSs [.ite (.bv (.prim pwNotIn [.var 3, .var 2])) [.for_ (.nm 4) (.seq (.prim pwList [.var 2])) [.setD 2 (.cst (.bl true)) (.call sp__law_letters_of [.var 4, .var 3])]] []] [.val a0, .val a1, .ownd (keysW l) vs, .val (.str (sW one)), s4] K := by
  refine ⟨_, rfl, _, rfl, _, rfl, ?_⟩
  rw [any_key]
  by_cases hm : one ∈ l
  · rw [decide_eq_true hm]
    exact q l vs s4 f4 (span_old h h1 hm) (by omega)
  · rw [decide_eq_false hm]
    obtain ⟨nd, dj, ok⟩ := span_new hn h h1 hm
    refine ⟨_, rfl, _, _, _, _, rfl, rfl, rfl, ?_⟩
    rw [keyD_keysW]
    exact span_inner hn h1 l l vs s4 f4 h.2.1 nd dj (by omega) fun vs s4 f4 => q _ vs s4 f4 ok (by rw [List.length_append, List.length_map]; omega)
end VL
namespace VL
open PySem PySem.Spec L2
theorem span_outer {K : WE} {a0 a1 : D} {n : Nat} (hn : n ≤ 6) {Q : Ev → Prop} : ∀ (rs ws l : List Wrd) (vs : List D) (s3 s4 : Slot), Free s3 → Free s4 → SpanOk n ws l → (∀ w ∈ rs, w.length = n) → l.length * 2 ^ rs.length ≤ 40000 →
    (∀ (l' : List Wrd) (vs : List D) (s3 s4 : Slot), SpanOk n (ws ++ rs) l' → Q [.val a0, .val a1, .ownd (keysW l') vs, s3, s4]) →
    forLoop (fun d e N => ∃ e2, bindT (.nm 3) d e = some e2 ∧ wSs [.ite (.bv (.prim pwNotIn [.var 3, .var 2])) [.for_ (.nm 4) (.seq (.prim pwList [.var 2])) [.setD 2 (.cst (.bl true)) (.call sp__law_letters_of [.var 4, .var 3])]] []] e2 { K with nx := N, ct := N, bk := K.nx }) (wdL rs) [.val a0, .val a1, .ownd (keysW l) vs, s3, s4] Q
  | [], ws, l, vs, s3, s4, _, _, ok, _, _, q => q l vs s3 s4 (by rw [List.append_nil]; exact ok)
  | one :: rs, ws, l, vs, s3, s4, f3, f4, ok, hr, hl, q => by
    have bind : bindT (.nm 3) (.str (sW one)) [.val a0, .val a1, .ownd (keysW l) vs, s3, s4] = some [.val a0, .val a1, .ownd (keysW l) vs, .val (.str (sW one)), s4] := by
      rcases f3 with rfl | ⟨_, rfl⟩ <;> rfl
    rw [List.length_cons, Nat.pow_succ] at hl
    have p1 := Nat.one_le_two_pow (n := rs.length)
    refine ⟨_, bind, span_turn hn ok (hr one (List.mem_cons_self ..)) ?_ f4 fun l' vs s4 f4 ok' hl' => ?_⟩
    · exact Nat.le_trans (Nat.le_mul_of_pos_right _ (by omega)) hl
    · refine span_outer hn rs (ws ++ [one]) l' vs _ s4 (.inr ⟨_, rfl⟩) f4 ok' (fun w h => hr w (List.mem_cons_of_mem _ h)) ?_ fun l2 vs s3 s4 h => q l2 vs s3 s4 (by rw [List.append_assoc] at h; exact h)
      refine Nat.le_trans (Nat.mul_le_mul_right _ hl') ?_
      rw [Nat.mul_comm 2, Nat.mul_assoc, Nat.mul_comm 2]
      exact hl
end VL
namespace VL
open PySem PySem.Spec L2
theorem span_none {n : Nat} (hn : n ≤ 6) : SpanOk n [] [noneW n] := by
  have ln : (noneW n).length = n := by
    unfold noneW
    exact List.length_replicate
  refine ⟨List.nodup_cons.mpr ⟨(fun h => nomatch h), List.nodup_nil⟩, fun v hv => by rw [List.mem_singleton.mp hv, ln], fun v hv => ?_⟩
  rw [List.mem_singleton]
  show _ ↔ Sp [] (mk v)
  rw [Sp.nil_iff]
  constructor
  · rintro rfl
    exact mk_none n hn
  · intro h
    exact mk_inj v (noneW n) n hv ln hn (by rw [h, mk_none n hn])
theorem sp_word {n : Nat} (hn : n ≤ 6) {ws : List Wrd} (hw : ∀ w ∈ ws, w.length = n) {v : Nat} (k : Sp (mks ws) v) : ∃ u : Wrd, u.length = n ∧ mk u = v := by
  induction k with
  | zero => exact ⟨noneW n, by unfold noneW; exact List.length_replicate, mk_none n hn⟩
  | add hm _ ih =>
    obtain ⟨u, hu, rfl⟩ := ih
    obtain ⟨x, hx, rfl⟩ := List.mem_map.mp hm
    have lx := hw x hx
    exact ⟨xorW u x, by rw [xorW_len u x (by rw [hu, lx]), hu], mk_xor u x (by rw [hu, lx]) (by omega)⟩
theorem span_card {n : Nat} (hn : n ≤ 6) {ws l : List Wrd} (hw : ∀ w ∈ ws, w.length = n) (h : SpanOk n ws l) : l.length = 2 ^ rankF (mks ws) := by
  have nd : (l.map mk).Nodup := List.pairwise_map.mpr (List.Pairwise.imp_of_mem (fun {a b} ha hb hne e => hne (mk_inj a b n (h.2.1 a ha) (h.2.1 b hb) hn e)) h.1)
  rw [← rank_card (ms := mks ws) nd fun v => ⟨fun z => ?_, fun z => ?_⟩, List.length_map]
  · obtain ⟨u, hu, rfl⟩ := List.mem_map.mp z
    exact (h.2.2 u (h.2.1 u hu)).mp hu
  · obtain ⟨u, hu, rfl⟩ := sp_word hn hw z
    exact List.mem_map.mpr ⟨u, (h.2.2 u hu).mpr z, rfl⟩
theorem ok__law_span : BodyOk sp__law_span tc__law_span.N.length ir__law_span := by
  rintro ds W ⟨ws, n, ok, h6, rfl, w⟩
  refine ⟨_, rfl, _, _, rfl, n, ok.1, rfl, rfl, _, _, rfl, keysW [noneW n], _, rfl, List.nodup_cons.mpr ⟨(fun h => nomatch h), List.nodup_nil⟩, (by show 1 ≤ 15; omega), _, rfl, ?_⟩
  refine ⟨_, _, _, _, rfl, rfl, rfl, ?_⟩
  refine span_outer ok.1 ws [] [noneW n] _ _ _ (.inl rfl) (.inl rfl) (span_none ok.1) ok.2.2.2 ?_ fun l vs s3 s4 h => ?_
  · show 1 * 2 ^ ws.length ≤ 40000
    have := Nat.pow_le_pow_right (show 0 < 2 by omega) h6
    omega
  · rw [List.nil_append] at h
    exact ⟨_, _, rfl, rfl, .inl (w l vs h.1 h.2.1 h.2.2 (span_card ok.1 ok.2.2.2 h))⟩
end VL
namespace VL
open PySem PySem.Spec L2
/-- the marks picked out by the set bits of c, one after the other -/
def pickX (ms : List Nat) (is : List Nat) : Nat := is.foldl (fun a i => a ^^^ ms.getD i 0) 0
theorem pick_from (ms : List Nat) : ∀ (is : List Nat) (a : Nat), is.foldl (fun a i => a ^^^ ms.getD i 0) a = a ^^^ pickX ms is
  | [], a => (Nat.xor_zero a).symm
  | i :: is, a => by
    show is.foldl _ (a ^^^ ms.getD i 0) = a ^^^ is.foldl _ (0 ^^^ ms.getD i 0)
    rw [pick_from ms is, pick_from ms is (0 ^^^ _), Nat.zero_xor, Nat.xor_assoc]
def onesX : List Nat → Nat
  | [] => 0
  | i :: is => 1 <<< i ^^^ onesX is
theorem sel_ones (ms : List Nat) : ∀ is : List Nat, selX ms (onesX is) = pickX ms is
  | [] => selX_zero ms
  | i :: is => by
    show selX ms (1 <<< i ^^^ onesX is) = is.foldl _ (0 ^^^ ms.getD i 0)
    rw [selX_xor, selX_one, sel_ones ms is, pick_from ms is (0 ^^^ _), Nat.zero_xor]
theorem ones_bit : ∀ (is : List Nat) (j : Nat), is.Nodup → (onesX is).testBit j = decide (j ∈ is)
  | [], j, _ => by
    rw [show onesX [] = 0 from rfl, Nat.zero_testBit]
    rfl
  | i :: is, j, nd => by
    have nd := List.nodup_cons.mp nd
    show (1 <<< i ^^^ onesX is).testBit j = _
    rw [Nat.testBit_xor, ones_bit is j nd.2, Nat.one_shiftLeft, Nat.testBit_two_pow]
    by_cases h : i = j
    · subst h
      rw [decide_eq_true rfl, decide_eq_false nd.1, decide_eq_true (List.mem_cons_self ..)]
      rfl
    · rw [decide_eq_false h, Bool.false_xor]
      have : (j ∈ i :: is) ↔ j ∈ is := by
        rw [List.mem_cons]
        exact ⟨fun z => z.resolve_left fun e => h e.symm, .inr⟩
      exact decide_eq_decide.mpr this.symm
theorem nums_mem (c j : Nat) : j ∈ numsF c ↔ c.testBit j = true := by
  unfold numsF
  rw [List.mem_filter, List.mem_range]
  refine ⟨fun h => h.2, fun h => ⟨?_, h⟩⟩
  have h2 := Nat.ge_two_pow_of_testBit h
  have c0 : c ≠ 0 := by
    have := Nat.two_pow_pos j
    omega
  rw [if_neg c0]
  have := (Nat.le_log2 c0).mpr h2
  omega
theorem nums_nodup (c : Nat) : (numsF c).Nodup := List.Pairwise.filter _ List.nodup_range
theorem sel_nums (ms : List Nat) (c : Nat) : pickX ms (numsF c) = selX ms c := by
  rw [← sel_ones]
  refine congrArg (selX ms) (Nat.eq_of_testBit_eq fun j => ?_)
  rw [ones_bit _ j (nums_nodup c)]
  cases h : c.testBit j
  · exact decide_eq_false fun z => by rw [(nums_mem c j).mp z] at h; cases h
  · exact decide_eq_true ((nums_mem c j).mpr h)
end VL
namespace VL
open PySem PySem.Spec L2
theorem nums_lt {c n i : Nat} (h : c < 2 ^ n) (hi : i ∈ numsF c) : i < n := by
  have h2 := Nat.ge_two_pow_of_testBit ((nums_mem c i).mp hi)
  exact (Nat.pow_lt_pow_iff_right (by omega)).mp (Nat.lt_of_le_of_lt h2 h)
theorem mks_getD (ws : List Wrd) (i : Nat) (h : i < ws.length) : (mks ws).getD i 0 = mk (ws.getD i []) := by
  unfold mks
  rw [List.getD_eq_getElem?_getD, List.getD_eq_getElem?_getD, List.getElem?_map, List.getElem?_eq_getElem h]
  rfl
/-- the words taken at the places is are xored onto v -/
theorem right_loop {K : WE} {a0 a2 a3 a4 s7 : Slot} {ws : List Wrd} {n : Nat} (hn : n ≤ 6) (hw : ∀ w ∈ ws, w.length = n) {Q : Ev → Prop} : ∀ (is : List Nat) (v : Wrd) (s6 : Slot), Free s6 → v.length = n → (∀ i ∈ is, i < ws.length) →
    (∀ (u : Wrd) (s6 : Slot), u.length = n → mk u = is.foldl (fun a i => a ^^^ (mks ws).getD i 0) (mk v) → Q [a0, .val (wdsD ws), a2, a3, a4, .val (.str (sW u)), s6, s7]) →
    forLoop (fun d e N => ∃ e2, bindT (.nm 6) d e = some e2 ∧ wSs [.set 5 (.call sp__law_letters_of [.var 5, .prim pwIx [.var 1, .var 6]])] e2 { K with nx := N, ct := N, bk := K.nx }) (is.map dN) [a0, .val (wdsD ws), a2, a3, a4, .val (.str (sW v)), s6, s7] Q
  | [], v, s6, _, hv, _, q => q v s6 hv rfl
  | i :: is, v, s6, f6, hv, hi, q => by
    have bind : bindT (.nm 6) (dN i) [a0, .val (wdsD ws), a2, a3, a4, .val (.str (sW v)), s6, s7] = some [a0, .val (wdsD ws), a2, a3, a4, .val (.str (sW v)), .val (dN i), s7] := by
      rcases f6 with rfl | ⟨_, rfl⟩ <;> rfl
    have li := hi i (List.mem_cons_self ..)
    have lx : (ws.getD i []).length = n := by
      rw [List.getD_eq_getElem?_getD, List.getElem?_eq_getElem li]
      exact hw _ (List.getElem_mem li)
    refine ⟨_, bind, _, rfl, .str (sW (ws.getD i [])), ?_, _, _, rfl, v, ws.getD i [], by rw [hv, lx], by omega, rfl, rfl, _, rfl, ?_⟩
    · unfold atI
      have ixe : ixN ws.length (i : Int) = some i := by
        unfold ixN
        rw [if_pos (Int.natCast_nonneg _), if_pos (by omega), Int.toNat_natCast]
      rw [List.length_map, ixe]
      show (List.map (fun w => D.str (sW w)) ws)[i]? = _
      rw [List.getElem?_map, List.getD_eq_getElem?_getD, List.getElem?_eq_getElem li]
      rfl
    · refine right_loop hn hw is (xorW v (ws.getD i [])) _ (.inr ⟨_, rfl⟩) (by rw [xorW_len v _ (by rw [hv, lx]), hv]) (fun x h => hi x (List.mem_cons_of_mem _ h)) fun u s6 hu e => q u s6 hu ?_
      rw [e, mk_xor v _ (by rw [hv, lx]) (by omega), List.foldl_cons, mks_getD ws i li]
end VL
namespace VL
open PySem PySem.Spec L2
/-- a comprehension over what a list of any things is led to -/
theorem lc_map {α : Type} {hold : Ev → Prop} {step : D → Ev → (Option D → Ev → Prop) → Prop} {g f : α → D} {e0 : Ev} {Q : List D → Ev → Prop} (hh : hold e0) : ∀ (xs : List α) (acc : List D), (∀ x ∈ xs, ∀ K : Option D → Ev → Prop, K (some (f x)) e0 → step (g x) e0 K) → acc.length + xs.length ≤ 100000 → Q (acc ++ xs.map f) e0 → lcLoop hold step (xs.map g) e0 acc Q
  | [], acc, _, _, q => ⟨hh, by simpa using q⟩
  | d :: its, acc, hs, hl, q => by
    rw [List.length_cons] at hl
    refine ⟨hh, by omega, hs d (List.mem_cons_self ..) _ ?_⟩
    refine lc_map hh its (acc ++ [f d]) (fun x hx => hs x (List.mem_cons_of_mem _ hx)) (by rw [List.length_append, List.length_singleton]; omega) ?_
    rw [List.append_assoc]
    exact q
/-- the same with a test -/
theorem lc_filt {α : Type} {hold : Ev → Prop} {step : D → Ev → (Option D → Ev → Prop) → Prop} {g : α → D} {p : α → Bool} {e0 : Ev} {Q : List D → Ev → Prop} (hh : hold e0) : ∀ (xs ys : List α), (∀ x ∈ xs, ∀ K : Option D → Ev → Prop, K (if p x = true then some (g x) else none) e0 → step (g x) e0 K) → ys.length + xs.length ≤ 100000 → Q ((ys ++ xs.filter p).map g) e0 → lcLoop hold step (xs.map g) e0 (ys.map g) Q
  | [], ys, _, _, q => ⟨hh, by simpa using q⟩
  | d :: its, ys, hs, hl, q => by
    rw [List.length_cons] at hl
    refine ⟨hh, by rw [List.length_map]; omega, hs d (List.mem_cons_self ..) _ ?_⟩
    cases h : p d with
    | true =>
      rw [List.filter_cons, if_pos h] at q
      rw [if_pos rfl]
      have := lc_filt (g := g) (p := p) (Q := Q) hh its (ys ++ [d]) (fun x hx => hs x (List.mem_cons_of_mem _ hx)) (by rw [List.length_append, List.length_singleton]; omega) (by rw [List.append_assoc]; exact q)
      rw [List.map_append] at this
      exact this
    | false =>
      rw [List.filter_cons, if_neg (by rw [h]; exact Bool.false_ne_true)] at q
      rw [if_neg Bool.false_ne_true]
      exact lc_filt (g := g) (p := p) (Q := Q) hh its ys (fun x hx => hs x (List.mem_cons_of_mem _ hx)) (by omega) q
theorem crs_word (c n : Nat) (hn : n ≤ 6) (x : Nat) (hx : Wd n x) : crs (mk (wordF c n)) x = crs c x := by
  have lc : (wordF c n).length = n := by
    unfold wordF
    rw [List.length_map, List.length_range]
  have b1 : ∀ i, i < n → (mk (wordF c n)).testBit i = c.testBit i := fun i hi => by
    rw [mk_lo _ i (by omega)]
    unfold wordF
    rw [List.map_map, List.getD_eq_getElem?_getD, List.getElem?_map, List.getElem?_range hi]
    rfl
  have b2 : ∀ i, i < n → (mk (wordF c n)).testBit (i + 6) = c.testBit (6 + i) := fun i hi => by
    rw [mk_hi _ i (by omega)]
    unfold wordF
    rw [List.map_map, List.getD_eq_getElem?_getD, List.getElem?_map, List.getElem?_range hi]
    rfl
  have z : crs (mk (wordF c n) ^^^ c) x = false := by
    have p0 : par6 0 = false := rfl
    have e1 : (mk (wordF c n) ^^^ c) &&& (x >>> 6) &&& 63 = 0 := Nat.eq_of_testBit_eq fun i => by
      rw [Nat.testBit_and, Nat.testBit_and, Nat.testBit_shiftRight, Nat.zero_testBit, Nat.testBit_xor]
      cases h : x.testBit (6 + i) with
      | false => rw [Bool.and_false, Bool.false_and]
      | true =>
        rcases hx _ h with k | k
        · cases h6 : (63 : Nat).testBit i with
          | false => rw [Bool.and_false]
          | true =>
            exact absurd k (by omega)
        · rw [b1 i (by omega), Bool.xor_self]
          rfl
    have e2 : ((mk (wordF c n) ^^^ c) >>> 6) &&& x &&& 63 = 0 := Nat.eq_of_testBit_eq fun i => by
      rw [Nat.testBit_and, Nat.testBit_and, Nat.testBit_shiftRight, Nat.zero_testBit, Nat.testBit_xor]
      cases h : x.testBit i with
      | false => rw [Bool.and_false, Bool.false_and]
      | true =>
        rcases hx _ h with k | k
        · rw [Nat.add_comm 6 i, b2 i k, Nat.add_comm 6 i, Bool.xor_self]
          rfl
        · have : (63 : Nat).testBit i = false := Nat.testBit_lt_two_pow (Nat.lt_of_lt_of_le (show 63 < 2 ^ 6 by decide) (Nat.pow_le_pow_right (by decide) (by omega)))
          rw [this, Bool.and_false]
    unfold crs
    rw [e1, e2]
    rfl
  rw [crs_xor_l] at z
  cases h1 : crs (mk (wordF c n)) x <;> cases h2 : crs c x <;> rw [h1, h2] at z <;> first | rfl | cases z
theorem ok__law_is_made_right : BodyOk sp__law_is_made_right tc__law_is_made_right.N.length ir__law_is_made_right := by
  rintro ds W ⟨ws, l, w, n, vs, ok, hw, nd, hl, hm, rfl, wq⟩
  have inl : (keysW l).any (fun c => decide (c = (Sum.inr (sW w) : Key))) = decide (w ∈ l) := any_key l w
  refine ⟨_, rfl, _, _, rfl, ws, w, n, ok, hw, rfl, fun sp c hc hlt => ⟨rfl, ?_⟩, fun nsp c hc1 hc2 => ⟨rfl, ?_⟩⟩
  · have wl : w ∈ l := (hm w hw).mpr sp
    rw [decide_eq_true wl] at inl
    refine ⟨_, rfl, _, rfl, _, rfl, _, rfl, _, rfl, _, rfl, _, rfl, _, rfl, _, rfl, _, rfl, _, rfl, _, rfl, _, rfl, ?_⟩
    rw [inl]
    refine ⟨_, rfl, _, rfl, _, rfl, _, rfl, _, rfl, _, _, rfl, n, ok.1, rfl, rfl, _, rfl, _, rfl, _, rfl, _, _, _, _, rfl, rfl, rfl, ?_⟩
    have ln : (noneW n).length = n := by
      unfold noneW
      exact List.length_replicate
    refine right_loop ok.1 ok.2.2.2 (numsF c) (noneW n) _ (.inl rfl) ln (fun i hi => nums_lt hlt hi) fun u s6 hu e => ?_
    have e2 : u = w := by
      refine mk_inj u w n hu hw ok.1 ?_
      rw [e, mk_none n ok.1, ← hc, ← sel_nums]
      rfl
    rw [e2]
    refine ⟨_, rfl, _, _, rfl, rfl, .inl ?_⟩
    rw [decide_eq_true rfl]
    exact wq
  · have wl : w ∉ l := fun z => nsp ((hm w hw).mp z)
    rw [decide_eq_false wl] at inl
    refine ⟨_, rfl, _, rfl, _, rfl, _, rfl, _, rfl, _, rfl, _, rfl, _, rfl, _, rfl, _, rfl, _, rfl, _, rfl, _, rfl, ?_⟩
    rw [inl]
    repeat refine ⟨_, rfl, ?_⟩
    have lc : (wordF c n).length = n := by
      unfold wordF
      rw [List.length_map, List.length_range]
    have cw : ∀ x, Wd n x → crs (mk (wordF c n)) x = crs c x := crs_word c n ok.1
    refine ⟨_, _, _, _, rfl, rfl, ?_⟩
    refine lc_map (f := fun _ => .bl true) (fun p hp => nomatch hp) ws [] (fun x hx K hK => ?_) ?_ ?_
    · have hx6 := ok.2.2.2 x hx
      refine ⟨_, rfl, _, rfl, _, rfl, _, _, rfl, wordF c n, x, by rw [lc, hx6], by rw [lc]; exact ok.1, rfl, rfl, ?_⟩
      rw [cw _ (mks_wd ok _ (List.mem_map_of_mem hx)), hc1 _ (List.mem_map_of_mem hx)]
      exact ⟨_, _, rfl, hK⟩
    · have := ok.2.2.1
      rw [List.length_nil]
      omega
    refine ⟨_, rfl, List.replicate ws.length true, ?_, ?_⟩
    · rw [List.nil_append, List.map_replicate]
      exact (List.map_const' ..).symm ▸ rfl
    · have : (List.replicate ws.length true).all id = true := by simp
      rw [this]
      refine ⟨_, rfl, ?_⟩
      refine ⟨_, rfl, _, rfl, _, _, rfl, wordF c n, w, by rw [lc, hw], by rw [lc]; exact ok.1, rfl, rfl, ?_⟩
      rw [cw _ (mk_wd hw), hc2]
      exact ⟨_, rfl, _, _, rfl, rfl, .inl wq⟩
end VL
namespace VL
open PySem PySem.Spec L2
/-! plain facts for _law_right -/
theorem walkB_app : ∀ (as bs hs : List Nat) (i : Nat) (fs : List Nat), walkB hs i fs (as ++ bs) = walkB (walkB hs i fs as).1 (i + as.length) (walkB hs i fs as).2 bs
  | [], bs, hs, i, fs => rfl
  | m :: as, bs, hs, i, fs => by
    show (if redN m hs ≠ 0 then walkB (hs ++ [redN m hs]) (i + 1) (fs ++ [i]) (as ++ bs) else walkB hs (i + 1) fs (as ++ bs)) = _
    have e : walkB hs i fs (m :: as) = if redN m hs ≠ 0 then walkB (hs ++ [redN m hs]) (i + 1) (fs ++ [i]) as else walkB hs (i + 1) fs as := rfl
    rw [e, walkB_app as, walkB_app as, List.length_cons, show i + (as.length + 1) = i + 1 + as.length by omega]
    split <;> rfl
theorem walkB_ext : ∀ (ms hs : List Nat) (i : Nat) (fs : List Nat), ∃ ex, (walkB hs i fs ms).2 = fs ++ ex ∧ ∀ x ∈ ex, i ≤ x
  | [], hs, i, fs => ⟨[], (List.append_nil _).symm, fun _ h => nomatch h⟩
  | m :: ms, hs, i, fs => by
    have e : walkB hs i fs (m :: ms) = if redN m hs ≠ 0 then walkB (hs ++ [redN m hs]) (i + 1) (fs ++ [i]) ms else walkB hs (i + 1) fs ms := rfl
    rw [e]
    split
    · obtain ⟨ex, h1, h2⟩ := walkB_ext ms (hs ++ [redN m hs]) (i + 1) (fs ++ [i])
      refine ⟨i :: ex, by rw [h1, List.append_assoc]; rfl, fun x hx => ?_⟩
      rcases List.mem_cons.mp hx with rfl | hx
      · exact Nat.le_refl _
      · have := h2 x hx
        omega
    · obtain ⟨ex, h1, h2⟩ := walkB_ext ms hs (i + 1) fs
      exact ⟨ex, h1, fun x hx => by have := h2 x hx; omega⟩
theorem base_app (as bs : List Nat) : ∃ ex, baseF (as ++ bs) = baseF as ++ ex ∧ ∀ x ∈ ex, as.length ≤ x := by
  unfold baseF
  rw [walkB_app, Nat.zero_add]
  exact walkB_ext ..
theorem nodup_len {α : Type} [DecidableEq α] : ∀ {l1 l2 : List α}, l1.Nodup → (∀ x ∈ l1, x ∈ l2) → l1.length ≤ l2.length
  | [], _, _, _ => Nat.zero_le _
  | a :: l1, l2, nd, h => by
    have ha := h a (List.mem_cons_self ..)
    have nd := List.nodup_cons.mp nd
    have := nodup_len (l2 := l2.erase a) nd.2 fun x hx => (List.mem_erase_of_ne (by rintro rfl; exact nd.1 hx)).mpr (h x (List.mem_cons_of_mem _ hx))
    rw [List.length_erase_of_mem ha] at this
    have := List.length_pos_of_mem ha
    rw [List.length_cons]
    omega
theorem ind_le {cs ms : List Nat} (h : Ind cs) (k : ∀ v, Sp cs v → Sp ms v) : cs.length ≤ rankF ms := by
  have b := base_bas ms
  have := nodup_len (l2 := enumS (walkB [] 0 [] ms).1.reverse) (enumS_nodup h) fun x hx => enumS_mem.mpr ((b.1.2 x).mpr (k x (enumS_mem.mp hx)))
  rw [enumS_len, enumS_len, b.2] at this
  exact (Nat.pow_le_pow_iff_right (by decide)).mp this
theorem rank_within (as bs : List Nat) : (∀ m ∈ bs, Sp as m) ↔ rankF (as ++ bs) = rankF as := by
  constructor
  · intro h
    refine rank_eq fun v => ⟨fun k => k.mono fun m hm => ?_, fun k => k.sub fun _ => List.mem_append_left _⟩
    rcases List.mem_append.mp hm with hm | hm
    · exact .mem hm
    · exact h m hm
  · intro h m hm
    refine Classical.byContradiction fun no => ?_
    have b := base_bas as
    have := ind_le (cs := m :: (walkB [] 0 [] as).1.reverse) (ms := as ++ bs) ⟨fun z => no ((b.1.2 m).mp z), b.1.1⟩ fun v hv => by
      refine hv.mono fun x hx => ?_
      rcases List.mem_cons.mp hx with rfl | hx
      · exact .mem (List.mem_append_right _ hm)
      · exact ((b.1.2 x).mp (.mem hx)).sub fun _ => List.mem_append_left _
    rw [List.length_cons, b.2, h] at this
    omega
/-- words told by their marks -/
theorem words_marks {n : Nat} (hn : n ≤ 6) {L : List Wrd} {P : Nat → Prop} (nd : L.Nodup) (hl : ∀ u ∈ L, u.length = n) (h1 : ∀ u ∈ L, P (mk u)) (h2 : ∀ v, P v → ∃ u ∈ L, mk u = v) : (L.map mk).Nodup ∧ ∀ v, v ∈ L.map mk ↔ P v := by
  refine ⟨List.pairwise_map.mpr (List.Pairwise.imp_of_mem (fun {a b} ha hb hne e => hne (mk_inj a b n (hl a ha) (hl b hb) hn e)) nd), fun v => ⟨fun z => ?_, fun z => ?_⟩⟩
  · obtain ⟨u, hu, rfl⟩ := List.mem_map.mp z
    exact h1 u hu
  · obtain ⟨u, hu, e⟩ := h2 v z
    exact List.mem_map.mpr ⟨u, hu, e⟩
theorem both_card {n : Nat} (hn : n ≤ 6) {ws vs l m : List Wrd} (hw : ∀ w ∈ ws, w.length = n) (h : SpanOk n ws l) (k : SpanOk n vs m) : ∃ d, (l.filter fun u => decide (u ∈ m)).length = 2 ^ d ∧ d + rankF (mks ws ++ mks vs) = rankF (mks ws) + rankF (mks vs) := by
  have := words_marks hn (L := l.filter fun u => decide (u ∈ m)) (P := fun v => Sp (mks ws) v ∧ Sp (mks vs) v) (List.Pairwise.filter _ h.1) (fun u hu => h.2.1 u (List.mem_filter.mp hu).1) (fun u hu => by
    obtain ⟨h1, h2⟩ := List.mem_filter.mp hu
    exact ⟨(h.2.2 u (h.2.1 u h1)).mp h1, (k.2.2 u (h.2.1 u h1)).mp (of_decide_eq_true h2)⟩) (fun v hv => by
    obtain ⟨u, hu, rfl⟩ := sp_word hn hw hv.1
    exact ⟨u, List.mem_filter.mpr ⟨(h.2.2 u hu).mpr hv.1, decide_eq_true ((k.2.2 u hu).mpr hv.2)⟩, rfl⟩)
  obtain ⟨d, h1, h2⟩ := meet_rank this.1 this.2
  rw [List.length_map] at h1
  exact ⟨d, h1, h2⟩
theorem lone_card {n : Nat} (hn : n ≤ 6) {ws l : List Wrd} (hw : ∀ w ∈ ws, w.length = n) (h : SpanOk n ws l) : (l.filter fun u => ws.all fun x => !crs (mk u) (mk x)).length = 2 ^ (pairF (mks ws)).1.length := by
  obtain ⟨p1, p2, _⟩ := pairF_ok (mks ws)
  have := words_marks hn (L := l.filter fun u => ws.all fun x => !crs (mk u) (mk x)) (P := fun v => Sp (pairF (mks ws)).1 v) (List.Pairwise.filter _ h.1) (fun u hu => h.2.1 u (List.mem_filter.mp hu).1) (fun u hu => by
    obtain ⟨h1, h2⟩ := List.mem_filter.mp hu
    refine (p2 _).mpr ⟨(h.2.2 u (h.2.1 u h1)).mp h1, fun y hy => ?_⟩
    obtain ⟨x, hx, rfl⟩ := List.mem_map.mp hy
    simpa using List.all_eq_true.mp h2 x hx) (fun v hv => by
    obtain ⟨h1, h2⟩ := (p2 v).mp hv
    obtain ⟨u, hu, rfl⟩ := sp_word hn hw h1
    refine ⟨u, List.mem_filter.mpr ⟨(h.2.2 u hu).mpr h1, List.all_eq_true.mpr fun x hx => ?_⟩, rfl⟩
    rw [h2 _ (List.mem_map_of_mem hx)]
    rfl)
  rw [← card_of p1 this.1 this.2, List.length_map]
/-! repr of small numbers -/
theorem small_len : ∀ n : Nat, n < 100 → ((toString (n : Int) : String) : Str).length ≤ 2 := by
  have : ∀ n : Fin 100, ((toString ((n.val : Nat) : Int) : String) : Str).length ≤ 2 := by decide +kernel
  exact fun n h => this ⟨n, h⟩
theorem repr_nats {l : List Nat} (h : ∀ n ∈ l, n < 100) (hl : l.length ≤ 1000) : isSeqD (.tup (l.map dN)) = true ∧ (D.tup (l.map dN)).plain = true ∧ (D.tup (l.map dN)).py.showable = true ∧ (D.tup (l.map dN)).py.hasDict = false ∧ (D.tup (l.map dN)).py.depth ≤ 60 ∧ (D.tup (l.map dN)).py.shown.length ≤ 100000 := by
  have g : ∀ l : List Nat, (∀ n ∈ l, n < 100) → PyData.showableAll (D.pyL (l.map dN)) = true ∧ PyData.hasDictAll (D.pyL (l.map dN)) = false ∧ PyData.depthAll (D.pyL (l.map dN)) = 0 ∧ piled (PyData.shownAll (D.pyL (l.map dN))) ≤ 4 * l.length := by
    intro l
    induction l with
    | nil => exact fun _ => ⟨rfl, rfl, rfl, Nat.le_refl _⟩
    | cons n l ih =>
      intro h
      obtain ⟨h1, h2, h3, h4⟩ := ih fun x hx => h x (List.mem_cons_of_mem _ hx)
      have hn := h n (List.mem_cons_self ..)
      have ln := small_len n hn
      refine ⟨?_, ?_, ?_, ?_⟩
      · show (decide (((n : Int)).natAbs.log2 < 1920) && PyData.showableAll (D.pyL (l.map dN))) = true
        rw [h1, Int.natAbs_natCast, Bool.and_true]
        refine decide_eq_true (Nat.lt_of_le_of_lt (Nat.log2_le_self n) (by omega))
      · show (false || PyData.hasDictAll (D.pyL (l.map dN))) = false
        rw [h2]
        rfl
      · show max 0 (PyData.depthAll (D.pyL (l.map dN))) = 0
        rw [h3]
        rfl
      · show piled (((toString (n : Int) : String) : Str) :: PyData.shownAll (D.pyL (l.map dN))) ≤ _
        rw [piled_cons, List.length_cons]
        omega
  obtain ⟨h1, h2, h3, h4⟩ := g l h
  refine ⟨rfl, plain_ints l, h1, h2, ?_, ?_⟩
  · show PyData.depthAll (D.pyL (l.map dN)) + 1 ≤ 60
    rw [h3]
    decide
  · show (tupleText (PyData.shownAll (D.pyL (l.map dN)))).length ≤ 100000
    generalize PyData.shownAll (D.pyL (l.map dN)) = ts at h4
    have up : (tupleText ts).length ≤ piled ts + 3 := by
      unfold tupleText
      rw [strLen_append, strLen_append]
      have e1 : ((("(" : String) : Str)).length = 1 := rfl
      have e3 : (((if ts.length == 1 then ",)" else ")" : String) : Str)).length ≤ 2 := by split <;> decide
      rw [e1]
      by_cases h : ts = []
      · subst h
        simp [Str.join] at *
        decide
      · have := join_length_add ts h
        omega
    omega
end VL
namespace VL
open PySem PySem.Spec L2
theorem keys_str (l : List Wrd) : (keysW l).map keyD = l.map fun w => D.str (sW w) := by
  unfold keysW
  rw [List.map_map]
  rfl
theorem rank_6 {ws : List Wrd} (h : ws.length ≤ 6) : rankF (mks ws) ≤ 6 := by
  have := (baseM_ok (mks ws)).2.2.2
  unfold mks at this ⊢
  rw [List.length_map] at this
  omega
theorem rank_le {ws vs : List Wrd} (h : ws.length ≤ 6) (k : vs.length ≤ 6) : rankF (mks ws ++ mks vs) ≤ 12 := by
  have := (baseM_ok (mks ws ++ mks vs)).2.2.2
  unfold mks at this ⊢
  rw [List.length_append, List.length_map, List.length_map] at this
  omega
theorem wdsD_app (ws vs : List Wrd) : D.tup ((ws.map fun w => D.str (sW w)) ++ vs.map fun w => D.str (sW w)) = wdsD (ws ++ vs) := by
  unfold wdsD
  rw [List.map_append]
theorem pwEq_self {s : Str} {Q : ER → Prop} (h : Q (.val (.bl true))) : pwEq [.str s, .str s] Q := by
  show Q (.val (.bl (decide (s = s))))
  rw [decide_eq_true rfl]
  exact h
theorem right_t15 {K : WE} {n : Nat} (hn : n ≤ 6) (h1 : 1 ≤ n) {ws vs : List Wrd} (lw : ws.length ≤ 6) (lv : vs.length ≤ 6) (hw : ∀ w ∈ ws, w.length = n) (hv : ∀ w ∈ vs, w.length = n)
    {x : List D} {s3 s4 s5 s10 s11 s12 s13 s14 s15 s16 : Slot} {d1 d2 : D} (hr : ∀ r, K.rt (.val (.bl true)) (.lnt x :: r)) :
    wSs (ir__law_right.drop 15) [.lnt x, .val (dN n), .own [d1, d2, dN (rankF (mks ws ++ mks vs))], s3, s4, s5, .un, .un, .val (wdsD ws), .val (wdsD vs), s10, s11, s12, s13, s14, s15, s16, .un] K := by
  have okb : wOk n (ws ++ vs) := ⟨hn, h1, by rw [List.length_append]; omega, fun w h => by
    rcases List.mem_append.mp h with z | z
    · exact hw w z
    · exact hv w z⟩
  have mb : mks (ws ++ vs) = mks ws ++ mks vs := List.map_append
  have pf := (pairF_ok (mks ws ++ mks vs)).2.2
  have r12 := rank_le lw lv
  have la : (ws.map fun w => D.str (sW w)).length + (vs.map fun w => D.str (sW w)).length ≤ 100000 := by
    rw [List.length_map, List.length_map]
    omega
  refine ⟨_, rfl, la, _, _, rfl, ws ++ vs, n, okb, congrArg (fun z => [dN n, z]) (wdsD_app ws vs), fun xs ys lx ly => ⟨rfl, _, rfl, ?_⟩⟩
  rw [mb] at lx ly
  refine ⟨_, rfl, .tup xs, rfl, _, rfl, _, rfl, .tup ys, rfl, _, rfl, _, _, rfl, (by show 2 ≤ 100000; omega), _, rfl, ?_⟩
  refine ⟨_, rfl, .int xs.length, rfl, ?_⟩
  refine ⟨_, rfl, .int ys.length, rfl, ?_⟩
  refine ⟨_, rfl, .inl ⟨by decide, by decide⟩, _, rfl, _, rfl, dN (rankF (mks ws ++ mks vs)), rfl, _, rfl, ?_⟩
  have e1 : decide ((xs.length : Int) + 2 * (ys.length : Int) = ((rankF (mks ws ++ mks vs) : Nat) : Int)) = true := decide_eq_true (by omega)
  refine ⟨_, rfl, ?_⟩
  rw [e1, if_pos rfl]
  have rp : ∀ a b : Nat, a < 100 → b < 100 → ∀ m ∈ [a, b], m < 100 := fun a b ha hb m hm => by
    rcases List.mem_cons.mp hm with rfl | hm
    · exact ha
    · rw [List.mem_singleton.mp hm]
      exact hb
  obtain ⟨t1, t2, t3, t4, t5, t6⟩ := repr_nats (l := [(pairF (mks ws ++ mks vs)).1.length, (pairF (mks ws ++ mks vs)).2.length]) (rp _ _ (by omega) (by omega)) (by show 2 ≤ 1000; omega)
  refine ⟨_, rfl, la, _, _, rfl, ws ++ vs, n, okb, congrArg (fun z => [dN n, z]) (wdsD_app ws vs), rfl, ?_⟩
  rw [mb]
  refine ⟨_, rfl, t1, t2, t3, t4, t5, t6, _, rfl, ?_⟩
  rw [lx, ly]
  refine ⟨t1, t2, t3, t4, t5, t6, _, rfl, ?_⟩
  exact pwEq_self (hr _)

theorem right_t13 {K : WE} {n : Nat} (hn : n ≤ 6) (h1 : 1 ≤ n) {ws vs L : List Wrd} (lw : ws.length ≤ 6) (lv : vs.length ≤ 6) (hw : ∀ w ∈ ws, w.length = n) (hv : ∀ w ∈ vs, w.length = n) (lc : L.length = 2 ^ (pairF (mks ws)).1.length)
    {x : List D} {s3 s4 s10 s11 s12 s13 s16 : Slot} {d2 : D} (hr : ∀ r, K.rt (.val (.bl true)) (.lnt x :: r)) :
    wSs (ir__law_right.drop 13) [.lnt x, .val (dN n), .own [dN (rankF (mks ws)), d2, dN (rankF (mks ws ++ mks vs))], s3, s4, .own (L.map fun w => .str (sW w)), .un, .un, .val (wdsD ws), .val (wdsD vs), s10, s11, s12, s13, .un, .un, s16, .un] K := by
  have okw : wOk n ws := ⟨hn, h1, by omega, hw⟩
  have pf := (pairF_ok (mks ws)).2.2
  have r1 := rank_6 lw
  refine ⟨_, _, rfl, ws, n, okw, rfl, rfl, _, _, rfl, ⟨_, rfl⟩, rfl, ?_⟩
  refine ⟨_, rfl, .inl ⟨by decide, by decide⟩, _, rfl, _, rfl, dN (rankF (mks ws)), rfl, _, rfl, ?_⟩
  have e1 : decide (((pairF (mks ws)).1.length : Int) + 2 * ((pairF (mks ws)).2.length : Int) = ((rankF (mks ws) : Nat) : Int)) = true := decide_eq_true (by omega)
  refine ⟨_, rfl, ?_⟩
  rw [e1]
  refine ⟨_, rfl, _, _, rfl, (pairF (mks ws)).1.length, by omega, rfl, rfl, _, rfl, ?_⟩
  have e2 : decide (((L.map fun w => D.str (sW w)).length : Int) = ((2 ^ (pairF (mks ws)).1.length : Nat) : Int)) = true := decide_eq_true (by rw [List.length_map, lc])
  refine ⟨_, rfl, ?_⟩
  rw [e2]
  exact right_t15 hn h1 lw lv hw hv hr
theorem right_t12 {K : WE} {n : Nat} (hn : n ≤ 6) (h1 : 1 ≤ n) {ws vs l : List Wrd} {vals : List D} (lw : ws.length ≤ 6) (lv : vs.length ≤ 6) (hw : ∀ w ∈ ws, w.length = n) (hv : ∀ w ∈ vs, w.length = n) (ok : SpanOk n ws l) (hl : l.length ≤ 64)
    {x : List D} {s3 s4 s11 s12 s13 s16 : Slot} {d2 : D} (f4 : Free s4) (hr : ∀ r, K.rt (.val (.bl true)) (.lnt x :: r)) :
    wSs (ir__law_right.drop 12) [.lnt x, .val (dN n), .own [dN (rankF (mks ws)), d2, dN (rankF (mks ws ++ mks vs))], s3, s4, .un, .un, .un, .val (wdsD ws), .val (wdsD vs), .ownd (keysW l) vals, s11, s12, s13, .un, .un, s16, .un] K := by
  refine ⟨keysW l, vals, rfl, by decide, ?_⟩
  rw [keys_str]
  refine lc_filt (hold := fun e => e[10]? = some .un) (g := fun w : Wrd => D.str (sW w)) (p := fun u => ws.all fun x => !crs (mk u) (mk x)) (e0 := [.lnt x, .val (dN n), .own [dN (rankF (mks ws)), d2, dN (rankF (mks ws ++ mks vs))], s3, .un, .un, .un, .un, .val (wdsD ws), .val (wdsD vs), .un, s11, s12, s13, .un, .un, s16, .un]) rfl l [] (fun u hu Kc hK => ?_) (by show 0 + l.length ≤ 100000; omega) ?_
  · refine ⟨_, rfl, _, _, _, _, rfl, rfl, ?_⟩
    refine lc_map (f := fun w => .bl (!crs (mk u) (mk w))) (fun _ h => nomatch h) ws [] (fun v hv2 K2 hK2 => ?_) (by show 0 + ws.length ≤ 100000; omega) ?_
    · exact ⟨_, rfl, _, _, rfl, u, v, by rw [ok.2.1 u hu, hw v hv2], by rw [ok.2.1 u hu]; exact hn, rfl, rfl, _, _, rfl, hK2⟩
    · refine ⟨_, rfl, ws.map fun w => !crs (mk u) (mk w), ?_, _, rfl, ?_⟩
      · rw [List.nil_append, List.map_map]
        rfl
      · have e : (ws.map fun w => !crs (mk u) (mk w)).all id = ws.all fun w => !crs (mk u) (mk w) := by
          rw [List.all_map]
          rfl
        rw [e]
        cases q : ws.all fun w => !crs (mk u) (mk w) with
        | true =>
          rw [q, if_pos rfl] at hK
          exact ⟨_, _, rfl, hK⟩
        | false =>
          rw [q] at hK
          exact hK
  rw [List.nil_append]
  have lc := lone_card hn hw ok
  rcases f4 with rfl | ⟨d4, rfl⟩ <;> exact ⟨_, rfl, right_t13 hn h1 lw lv hw hv lc hr⟩
end VL
namespace VL
open PySem PySem.Spec L2
theorem cutD_hi {α : Type} (a b : List α) : cutD (a ++ b) none (some (a.length : Int)) = a := by
  unfold cutD
  rw [HT.sIx_none, HT.sIx_nat, List.length_append, Nat.min_eq_left (by omega), List.drop_zero, Nat.sub_zero, List.take_left']
  rfl
theorem cutD_lo {α : Type} (a b : List α) : cutD (a ++ b) (some (a.length : Int)) none = b := by
  unfold cutD
  rw [HT.sIx_none, HT.sIx_nat, List.length_append, Nat.min_eq_left (by omega), List.drop_left', Nat.add_sub_cancel_left, List.take_of_length_le (Nat.le_refl _)]
  rfl
theorem sl_hi {a b : List D} {Q : ER → Prop} (h : Q (.val (.tup a))) : slD none (some (a.length : Int)) (.tup (a ++ b)) Q := by
  show Q (.val (.tup (cutD (a ++ b) none (some (a.length : Int)))))
  rw [cutD_hi]
  exact h
theorem sl_lo {a b : List D} {Q : ER → Prop} (h : Q (.val (.tup b))) : slD (some (a.length : Int)) none (.tup (a ++ b)) Q := by
  show Q (.val (.tup (cutD (a ++ b) (some (a.length : Int)) none)))
  rw [cutD_lo]
  exact h
theorem pwNe_self {s : Str} {Q : ER → Prop} (h : Q (.val (.bl false))) : pwNe [.str s, .str s] Q := by
  show Q (.val (.bl (!decide (s = s))))
  rw [decide_eq_true rfl]
  exact h
def D.fl (d : D) : Prop := d.flat = true ∧ ∀ s, d = .str s → s.cps.all (· < 0x110000) = true
theorem flat_one {d : D} (h : d.fl) : d.plain = true ∧ PyData.canLay0 d.py = true ∧ PyData.depth d.py = 0 := by
  obtain ⟨h, h2⟩ := h
  cases d with
  | non => exact ⟨rfl, rfl, rfl⟩
  | bl b => exact ⟨rfl, rfl, rfl⟩
  | int i => exact ⟨rfl, rfl, rfl⟩
  | str s => exact ⟨rfl, h2 s rfl, rfl⟩
  | _ => cases h
theorem flat_all : ∀ {ds : List D}, (∀ d ∈ ds, d.fl) → D.plainL ds = true ∧ PyData.canLayAll0 (D.pyL ds) = true ∧ PyData.depthAll (D.pyL ds) = 0
  | [], _ => ⟨rfl, rfl, rfl⟩
  | d :: ds, h => by
    obtain ⟨a1, a2, a3⟩ := flat_one (h d (List.mem_cons_self ..))
    obtain ⟨b1, b2, b3⟩ := flat_all fun x hx => h x (List.mem_cons_of_mem _ hx)
    refine ⟨?_, ?_, ?_⟩
    · show (d.plain && D.plainL ds) = true
      rw [a1, b1]
      rfl
    · show (PyData.canLay0 d.py && PyData.canLayAll0 (D.pyL ds)) = true
      rw [a2, b2]
      rfl
    · show max (PyData.depth d.py) (PyData.depthAll (D.pyL ds)) = 0
      rw [a3, b3]
      rfl
theorem ok_flat {ds : List D} (h : ∀ d ∈ ds, d.fl) : (D.tup ds).ok := by
  obtain ⟨b1, b2, b3⟩ := flat_all h
  refine ⟨b1, ?_⟩
  unfold SeqAt.shaped
  rw [Bool.and_eq_true_iff]
  refine ⟨b2, decide_eq_true ?_⟩
  show PyData.depthAll (D.pyL ds) + 1 ≤ 64
  rw [b3]
  decide
theorem ok_w {s : Str} (hs : s.cps.all (· < 0x110000) = true) : (D.tup [.str s]).ok := ok_flat fun d h => by
  rw [List.mem_singleton.mp h]
  exact ⟨rfl, fun t e => by cases e; exact hs⟩
theorem ok_a {s z : Str} {i : Nat} (hs : s.cps.all (· < 0x110000) = true) (hz : z.cps.all (· < 0x110000) = true) : (D.tup [.str s, dN i, .str z]).ok := ok_flat fun d h => by
  rcases List.mem_cons.mp h with rfl | h
  · exact ⟨rfl, fun t e => by cases e; exact hs⟩
  · rcases List.mem_cons.mp h with rfl | h
    · exact ⟨rfl, fun t e => nomatch e⟩
    · rw [List.mem_singleton.mp h]
      exact ⟨rfl, fun t e => by cases e; exact hz⟩
theorem cps_within : ("within" : Str).cps.all (· < 0x110000) = true := by decide +kernel
theorem cps_apart : ("apart" : Str).cps.all (· < 0x110000) = true := by decide +kernel
theorem right_t11 {K : WE} {n : Nat} (hn : n ≤ 6) (h1 : 1 ≤ n) {ws vs l : List Wrd} {vals : List D} (lw : ws.length ≤ 6) (lv : vs.length ≤ 6) (hw : ∀ w ∈ ws, w.length = n) (hv : ∀ w ∈ vs, w.length = n) (ok : SpanOk n ws l) (hl : l.length ≤ 64)
    {x : List D} {s3 s4 s11 s12 s13 s16 : Slot} (f4 : Free s4) (hr : ∀ r, K.rt (.val (.bl true)) (.lnt x :: r)) :
    wSs (ir__law_right.drop 11) [.lnt x, .val (dN n), .own [dN (rankF (mks ws)), dN (rankF (mks vs)), dN (rankF (mks ws ++ mks vs))], s3, s4, .un, .un, .un, .val (wdsD ws), .val (wdsD vs), .ownd (keysW l) vals, s11, s12, s13, .un, .un, s16, .un] K := by
  have okw : wOk n ws := ⟨hn, h1, by omega, hw⟩
  have okv : wOk n vs := ⟨hn, h1, by omega, hv⟩
  have rw2 : (∀ m ∈ mks ws, Sp (mks vs) m) ↔ rankF (mks ws ++ mks vs) = rankF (mks vs) := by
    rw [rank_within (mks vs) (mks ws), rank_eq (ms := mks ws ++ mks vs) (ns := mks vs ++ mks ws) fun v => ⟨fun h => h.sub fun m hm => by simpa [or_comm] using hm, fun h => h.sub fun m hm => by simpa [or_comm] using hm⟩]
  refine ⟨_, _, rfl, ws, vs, n, okw, okv, rfl, fun h => ⟨rfl, ?_⟩, fun h i z hz => ⟨rfl, ?_⟩⟩
  · refine ⟨_, _, rfl, (by show 1 ≤ 100000; omega), _, rfl, ok_w cps_within, ok_w cps_within, _, rfl, dN (rankF (mks ws ++ mks vs)), rfl, _, rfl, dN (rankF (mks vs)), rfl, _, rfl, _, rfl, ?_⟩
    have e : decide (((rankF (mks ws ++ mks vs) : Nat) : Int) = ((rankF (mks vs) : Nat) : Int)) = true := decide_eq_true (by rw [rw2.mp h])
    rw [e]
    refine ⟨_, rfl, ?_⟩
    exact right_t12 hn h1 lw lv hw hv ok hl f4 hr
  · refine ⟨_, _, rfl, (by show 1 ≤ 100000; omega), _, rfl, ok_a cps_apart hz, ok_w cps_within, _, rfl, dN (rankF (mks ws ++ mks vs)), rfl, _, rfl, dN (rankF (mks vs)), rfl, _, rfl, _, rfl, ?_⟩
    have e : decide (((rankF (mks ws ++ mks vs) : Nat) : Int) = ((rankF (mks vs) : Nat) : Int)) = false := decide_eq_false fun z => h (rw2.mpr (by omega))
    rw [e]
    refine ⟨_, rfl, ?_⟩
    exact right_t12 hn h1 lw lv hw hv ok hl f4 hr
theorem right_t10 {K : WE} {n : Nat} (hn : n ≤ 6) (h1 : 1 ≤ n) {ws vs l : List Wrd} {vals : List D} (lw : ws.length ≤ 6) (lv : vs.length ≤ 6) (hw : ∀ w ∈ ws, w.length = n) (hv : ∀ w ∈ vs, w.length = n) (ok : SpanOk n ws l) (hl : l.length ≤ 64)
    {x : List D} {s3 s4 s11 s12 s13 s16 : Slot} (f4 : Free s4) (hr : ∀ r, K.rt (.val (.bl true)) (.lnt x :: r)) :
    wSs (ir__law_right.drop 10) [.lnt x, .val (dN n), .own [dN (rankF (mks ws)), dN (rankF (mks vs)), dN (rankF (mks ws ++ mks vs))], s3, s4, .un, .un, .un, .val (wdsD ws), .val (wdsD vs), .ownd (keysW l) vals, s11, s12, s13, .un, .un, s16, .un] K := by
  have okw : wOk n ws := ⟨hn, h1, by omega, hw⟩
  have okv : wOk n vs := ⟨hn, h1, by omega, hv⟩
  have rw2 := rank_within (mks ws) (mks vs)
  refine ⟨_, _, rfl, vs, ws, n, okv, okw, rfl, fun h => ⟨rfl, ?_⟩, fun h i z hz => ⟨rfl, ?_⟩⟩
  · refine ⟨_, _, rfl, (by show 1 ≤ 100000; omega), _, rfl, ok_w cps_within, ok_w cps_within, _, rfl, dN (rankF (mks ws ++ mks vs)), rfl, _, rfl, dN (rankF (mks ws)), rfl, _, rfl, _, rfl, ?_⟩
    have e : decide (((rankF (mks ws ++ mks vs) : Nat) : Int) = ((rankF (mks ws) : Nat) : Int)) = true := decide_eq_true (by rw [rw2.mp h])
    rw [e]
    refine ⟨_, rfl, ?_⟩
    exact right_t11 hn h1 lw lv hw hv ok hl f4 hr
  · refine ⟨_, _, rfl, (by show 1 ≤ 100000; omega), _, rfl, ok_a cps_apart hz, ok_w cps_within, _, rfl, dN (rankF (mks ws ++ mks vs)), rfl, _, rfl, dN (rankF (mks ws)), rfl, _, rfl, _, rfl, ?_⟩
    have e : decide (((rankF (mks ws ++ mks vs) : Nat) : Int) = ((rankF (mks ws) : Nat) : Int)) = false := decide_eq_false fun z => h (rw2.mpr (by omega))
    rw [e]
    refine ⟨_, rfl, ?_⟩
    exact right_t11 hn h1 lw lv hw hv ok hl f4 hr
theorem base_lt (ms : List Nat) : ∀ i ∈ baseF ms, i < ms.length := fun i hi => by
  rcases walkB_lt ms [] [] 0 i hi with z | z
  · cases z
  · omega
theorem right_t7 {K : WE} {n : Nat} (hn : n ≤ 6) (h1 : 1 ≤ n) {ws vs l : List Wrd} {vals : List D} (lw : ws.length ≤ 6) (lv : vs.length ≤ 6) (hw : ∀ w ∈ ws, w.length = n) (hv : ∀ w ∈ vs, w.length = n) (ok : SpanOk n ws l) (hl : l.length ≤ 64)
    {x : List D} {s3 s4 s11 : Slot} (f4 : Free s4) (hr : ∀ r, K.rt (.val (.bl true)) (.lnt x :: r)) :
    wSs (ir__law_right.drop 7) [.lnt x, .val (dN n), .own [dN (rankF (mks ws)), dN (rankF (mks vs)), dN (rankF (mks ws ++ mks vs))], s3, s4, .un, .un, .un, .val (wdsD ws), .val (wdsD vs), .ownd (keysW l) vals, s11, .un, .un, .un, .un, .un, .un] K := by
  have okw : wOk n ws := ⟨hn, h1, by omega, hw⟩
  have okb : wOk n (ws ++ vs) := ⟨hn, h1, by rw [List.length_append]; omega, fun w h => by
    rcases List.mem_append.mp h with z | z
    · exact hw w z
    · exact hv w z⟩
  have mb : mks (ws ++ vs) = mks ws ++ mks vs := List.map_append
  have la : (ws.map fun w => D.str (sW w)).length + (vs.map fun w => D.str (sW w)).length ≤ 100000 := by
    rw [List.length_map, List.length_map]
    omega
  obtain ⟨ex, hb, hx⟩ := base_app (mks ws) (mks vs)
  have lm : (mks ws).length = ws.length := List.length_map _
  have r1 := rank_6 lw
  have r12 := rank_le lw lv
  have l1 : (baseF (mks ws)).length = rankF (mks ws) := rfl
  have l12 : (baseF (mks ws)).length + ex.length = rankF (mks ws ++ mks vs) := by
    rw [← List.length_append, ← hb]
    rfl
  refine ⟨_, _, rfl, ws, n, okw, rfl, rfl, _, rfl, la, _, _, rfl, ws ++ vs, n, okb, congrArg (fun z => [dN n, z]) (wdsD_app ws vs), rfl, ?_⟩
  rw [mb, hb, List.map_append]
  refine ⟨trivial, _, _, rfl, rfl, ?_⟩
  have c1 := cutD_hi ((baseF (mks ws)).map dN) (ex.map dN)
  have c2 := cutD_lo ((baseF (mks ws)).map dN) (ex.map dN)
  obtain ⟨t1, t2, t3, t4, t5, t6⟩ := repr_nats (l := baseF (mks ws)) (fun i hi => by have := base_lt _ i hi; omega) (by omega)
  refine ⟨_, rfl, _, _, rfl, rfl, ?_⟩
  refine sl_hi ?_
  refine ⟨_, rfl, t1, t2, t3, t4, t5, t6, _, rfl, t1, t2, t3, t4, t5, t6, _, rfl, pwNe_self ⟨_, rfl, ?_⟩⟩
  refine ⟨_, rfl, _, rfl, dN (rankF (mks ws)), rfl, _, rfl, ?_⟩
  have e1 : decide ((((baseF (mks ws)).map dN).length : Int) = ((rankF (mks ws) : Nat) : Int)) = true := decide_eq_true (by rw [List.length_map, l1])
  refine ⟨_, rfl, ?_⟩
  rw [e1]
  refine ⟨_, rfl, _, rfl, dN (rankF (mks ws ++ mks vs)), rfl, _, rfl, ?_⟩
  have e2 : decide ((((baseF (mks ws)).map dN ++ ex.map dN).length : Int) = ((rankF (mks ws ++ mks vs) : Nat) : Int)) = true := decide_eq_true (by rw [List.length_append, List.length_map, List.length_map, l12])
  refine ⟨_, rfl, ?_⟩
  rw [e2]
  refine ⟨_, rfl, _, _, rfl, rfl, sl_lo ⟨_, _, _, _, rfl, rfl, ?_⟩⟩
  refine lc_map (f := fun i => .bl (decide (ws.length ≤ i))) (fun _ h => nomatch h) ex [] (fun i hi Kc hK => ?_) (by show 0 + ex.length ≤ 100000; omega) ?_
  · refine ⟨_, rfl, _, rfl, _, rfl, ?_⟩
    have e : decide (((ws.map fun w => D.str (sW w)).length : Int) ≤ (i : Int)) = decide (ws.length ≤ i) := decide_eq_decide.mpr (by rw [List.length_map]; omega)
    have hK : Kc (some (.bl (decide (ws.length ≤ i)))) _ := hK
    rw [← e] at hK
    exact ⟨_, _, rfl, hK⟩
  refine ⟨_, rfl, ex.map fun i => decide (ws.length ≤ i), ?_, ?_⟩
  · rw [List.nil_append, List.map_map]
    rfl
  have e3 : (ex.map fun i => decide (ws.length ≤ i)).all id = true := by
    rw [List.all_map]
    refine List.all_eq_true.mpr fun i hi => decide_eq_true ?_
    have := hx i hi
    omega
  rw [e3]
  refine ⟨_, rfl, ?_⟩
  exact right_t10 hn h1 lw lv hw hv ok hl f4 hr
end VL
namespace VL
open PySem PySem.Spec L2
def DicS (s : Slot) (ks : List Key) (ds : List D) : Prop := s = .ownd ks ds ∨ s = .val (.dic ks ds)
theorem right_for {K : WE} {n : Nat} {vs m : List Wrd} {mv : List D} (okv : wOk n vs) (ok : SpanOk n vs m) {s0 s2 s3 s8 s10 : Slot} {tl : Ev} {Q : Ev → Prop} : ∀ (xs : List D) (s4 s11 : Slot), Free s4 → DicS s11 (keysW m) mv → (∀ x ∈ xs, ∃ w : Wrd, w.length = n ∧ x = .str (sW w)) →
    (∀ s4 s11, Free s4 → Q (s0 :: .val (dN n) :: s2 :: s3 :: s4 :: .un :: .un :: .un :: s8 :: .val (wdsD vs) :: s10 :: s11 :: tl)) →
    forLoop (fun d e N => ∃ e2, bindT (.nm 4) d e = some e2 ∧ wSs [.ite (.not (.bv (.call sp__law_is_made_right [.var 1, .var 9, .var 4, .var 11]))) [.ret (.cst (.bl false))] []] e2 { K with nx := N, ct := N, bk := K.nx }) xs (s0 :: .val (dN n) :: s2 :: s3 :: s4 :: .un :: .un :: .un :: s8 :: .val (wdsD vs) :: s10 :: s11 :: tl) Q
  | [], s4, s11, f4, _, _, q => q s4 s11 f4
  | x :: xs, s4, s11, f4, h11, hx, q => by
    obtain ⟨w, hw, rfl⟩ := hx _ (List.mem_cons_self ..)
    have bind : bindT (.nm 4) (.str (sW w)) (s0 :: .val (dN n) :: s2 :: s3 :: s4 :: .un :: .un :: .un :: s8 :: .val (wdsD vs) :: s10 :: s11 :: tl) = some (s0 :: .val (dN n) :: s2 :: s3 :: .val (.str (sW w)) :: .un :: .un :: .un :: s8 :: .val (wdsD vs) :: s10 :: s11 :: tl) := by
      rcases f4 with rfl | ⟨_, rfl⟩ <;> rfl
    refine ⟨_, bind, ?_⟩
    have go := right_for (K := K) (s0 := s0) (s2 := s2) (s3 := s3) (s8 := s8) (s10 := s10) (tl := tl) (mv := mv) okv ok (Q := Q) xs (.val (.str (sW w))) (.val (.dic (keysW m) mv)) (.inr ⟨_, rfl⟩) (.inr rfl) (fun y hy => hx y (List.mem_cons_of_mem _ hy)) q
    rcases h11 with rfl | rfl
    · exact ⟨_, _, rfl, vs, m, w, n, mv, okv, hw, ok.1, ok.2.1, ok.2.2, rfl, rfl, _, rfl, go⟩
    · exact ⟨_, _, rfl, vs, m, w, n, mv, okv, hw, ok.1, ok.2.1, ok.2.2, rfl, rfl, _, rfl, go⟩
theorem right_t6 {K : WE} {n : Nat} (hn : n ≤ 6) (h1 : 1 ≤ n) {ws vs l m : List Wrd} {vals mv : List D} (lw : ws.length ≤ 6) (lv : vs.length ≤ 6) (hw : ∀ w ∈ ws, w.length = n) (hv : ∀ w ∈ vs, w.length = n) (ok : SpanOk n ws l) (okm : SpanOk n vs m) (hl : l.length ≤ 64)
    {p : Int × Int × Int} {b : Nat} (hp : potOk b p) (hb : b ≤ 9000) {s3 s4 : Slot} (f4 : Free s4) (hr : ∀ x r, K.rt (.val (.bl true)) (.lnt x :: r)) :
    wSs (ir__law_right.drop 6) [.lnt (potD p), .val (dN n), .own [dN (rankF (mks ws)), dN (rankF (mks vs)), dN (rankF (mks ws ++ mks vs))], s3, s4, .un, .un, .un, .val (wdsD ws), .val (wdsD vs), .ownd (keysW l) vals, .ownd (keysW m) mv, .un, .un, .un, .un, .un, .un] K := by
  have okv : wOk n vs := ⟨hn, h1, by omega, hv⟩
  have hk : (if (8 : Int) < ((keysW l).length : Int) then 8 else ((keysW l).length : Int)) = (((if 8 < (keysW l).length then 8 else (keysW l).length) : Nat) : Int) := by
    split <;> split <;> omega
  have kl : (keysW l).length = l.length := List.length_map _
  refine ⟨_, rfl, l.map sW, ?_, by rw [List.length_map]; omega, fun ys hys => ⟨_, rfl, _, rfl, _, _, rfl, (fun z => nomatch z), rfl, p, b, if 8 < (keysW l).length then 8 else (keysW l).length, ys.map .str, hp, hb, ?_, ?_, congrArg (fun z => [D.lst (potD p), .lst (ys.map .str), .int z]) hk, fun p' xs hp' hxs => ⟨_, rfl, _, _, _, _, rfl, rfl, rfl, ?_⟩⟩⟩
  · unfold keysW
    rw [List.map_map]
    rfl
  · rw [List.length_map, hys.length_eq, List.length_map, kl]
    split <;> omega
  · rw [List.length_map, hys.length_eq, List.length_map]
    omega
  · refine right_for okv okm xs _ _ f4 (.inl rfl) (fun x hx => ?_) fun s4 s11 f4 => ?_
    · obtain ⟨y, hy, rfl⟩ := List.mem_map.mp (hxs x hx)
      obtain ⟨w, hw2, rfl⟩ := List.mem_map.mp (hys.mem_iff.mp hy)
      exact ⟨w, ok.2.1 w hw2, rfl⟩
    · exact right_t7 hn h1 lw lv hw hv ok hl f4 (hr _)
theorem right_t2 {K : WE} {n : Nat} (hn : n ≤ 6) (h1 : 1 ≤ n) {ws vs : List Wrd} (lw : ws.length ≤ 6) (lv : vs.length ≤ 6) (hw : ∀ w ∈ ws, w.length = n) (hv : ∀ w ∈ vs, w.length = n)
    {p : Int × Int × Int} {b : Nat} (hp : potOk b p) (hb : b ≤ 9000) (hr : ∀ x r, K.rt (.val (.bl true)) (.lnt x :: r)) :
    wSs (ir__law_right.drop 2) [.lnt (potD p), .val (dN n), .un, .un, .un, .un, .un, .un, .val (wdsD ws), .val (wdsD vs), .un, .un, .un, .un, .un, .un, .un, .un] K := by
  have okw : wOk n ws := ⟨hn, h1, by omega, hw⟩
  have okv : wOk n vs := ⟨hn, h1, by omega, hv⟩
  have okb : wOk n (ws ++ vs) := ⟨hn, h1, by rw [List.length_append]; omega, fun w h => by
    rcases List.mem_append.mp h with z | z
    · exact hw w z
    · exact hv w z⟩
  have mb : mks (ws ++ vs) = mks ws ++ mks vs := List.map_append
  have la : (ws.map fun w => D.str (sW w)).length + (vs.map fun w => D.str (sW w)).length ≤ 100000 := by
    rw [List.length_map, List.length_map]
    omega
  have r1 := rank_6 lw
  have r2 := rank_6 lv
  refine ⟨_, _, rfl, ws, n, okw, lw, rfl, fun l vals a1 a2 a3 a4 => ⟨rfl, _, _, rfl, vs, n, okv, lv, rfl, fun m mv c1 c2 c3 c4 => ⟨rfl, trivial, _, _, rfl, rfl, ?_⟩⟩⟩
  have ok : SpanOk n ws l := ⟨a1, a2, a3⟩
  have okm : SpanOk n vs m := ⟨c1, c2, c3⟩
  have hl : l.length ≤ 64 := by
    rw [a4]
    exact Nat.pow_le_pow_right (by decide) r1
  refine ⟨_, _, rfl, ws, n, okw, rfl, rfl, _, _, rfl, vs, n, okv, rfl, rfl, _, rfl, la, _, _, rfl, ws ++ vs, n, okb, congrArg (fun z => [dN n, z]) (wdsD_app ws vs), rfl, ?_⟩
  rw [mb]
  refine ⟨_, _, rfl, (by show 3 ≤ 100000; omega), _, rfl, ?_⟩
  refine ⟨keysW l, vals, rfl, by decide, ?_⟩
  rw [keys_str]
  refine lc_filt (hold := fun e => e[10]? = some .un) (g := fun w : Wrd => D.str (sW w)) (p := fun u => decide (u ∈ m)) (e0 := [.lnt (potD p), .val (dN n), .own [dN (rankF (mks ws)), dN (rankF (mks vs)), dN (rankF (mks ws ++ mks vs))], .un, .un, .un, .un, .un, .val (wdsD ws), .val (wdsD vs), .un, .ownd (keysW m) mv, .un, .un, .un, .un, .un, .un]) rfl l [] (fun u hu Kc hK => ?_) (by show 0 + l.length ≤ 100000; omega) ?_
  · refine ⟨_, rfl, _, rfl, _, rfl, _, rfl, ?_⟩
    rw [any_key]
    cases q : decide (u ∈ m) with
    | true =>
      rw [q, if_pos rfl] at hK
      exact ⟨_, _, rfl, hK⟩
    | false =>
      rw [q] at hK
      exact hK
  rw [List.nil_append]
  obtain ⟨d, d1, d2⟩ := both_card hn hw ok okm
  refine ⟨_, rfl, ?_⟩
  refine ⟨_, rfl, _, rfl, dN (rankF (mks ws)), rfl, _, _, rfl, rankF (mks ws), by omega, rfl, rfl, _, rfl, ?_⟩
  have e1 : decide (((keysW l).length : Int) = ((2 ^ rankF (mks ws) : Nat) : Int)) = true := decide_eq_true (by rw [← a4]; unfold keysW; rw [List.length_map])
  refine ⟨_, rfl, ?_⟩
  rw [e1]
  have hd : ((rankF (mks ws) : Nat) : Int) + ((rankF (mks vs) : Nat) : Int) - ((rankF (mks ws ++ mks vs) : Nat) : Int) = ((d : Nat) : Int) := by omega
  refine ⟨_, rfl, _, rfl, dN (rankF (mks ws)), rfl, _, rfl, dN (rankF (mks vs)), rfl, _, rfl, _, rfl, dN (rankF (mks ws ++ mks vs)), rfl, _, rfl, _, _, rfl, d, by omega, congrArg (fun z => [D.int z]) hd, rfl, _, rfl, ?_⟩
  have e2 : decide ((((l.filter fun u => decide (u ∈ m)).map fun w => D.str (sW w)).length : Int) = ((2 ^ d : Nat) : Int)) = true := decide_eq_true (by rw [List.length_map, d1])
  refine ⟨_, rfl, ?_⟩
  rw [e2]
  exact right_t6 hn h1 lw lv hw hv ok okm hl hp hb (.inl rfl) hr
theorem ok__law_right : BodyOk sp__law_right tc__law_right.N.length ir__law_right := by
  rintro ds W ⟨p, hp, rfl, w⟩
  refine ⟨_, rfl, _, _, rfl, (fun z => nomatch z), rfl, p, 0, 5, hp, by omega, by omega, by omega, rfl, fun p1 d hp1 hd => ⟨_, rfl, _, rfl, ?_⟩⟩
  refine ⟨_, rfl, ?_⟩
  refine ⟨_, _, rfl, (fun z => nomatch z), rfl, p1, 1, 2 + d, hp1, by omega, by omega, by omega, rfl, fun p2 ws hp2 l1 hw1 => ⟨_, rfl, ?_⟩⟩
  refine ⟨_, _, rfl, (fun z => nomatch z), rfl, p2, 101, 2 + d, hp2, by omega, by omega, by omega, rfl, fun p3 vs hp3 l2 hw2 => ⟨_, rfl, ?_⟩⟩
  refine ⟨trivial, _, _, rfl, rfl, ?_⟩
  exact right_t2 (n := 2 + d) (by omega) (by omega) l1 l2 hw1 hw2 hp3 (by omega) fun x r => ⟨_, _, rfl, rfl, .inl (w x)⟩
end VL
set_option maxHeartbeats 1000000
namespace VL
open PySem PySem.Spec L2

theorem all_k61 {K : PySem.W.Frag} {P : Program} {w : World} {mg : Str → Option Value} {h0 : Heap} {fa : Addr} (X : K.In h0) (G : h0.Ns mainGlobals mg) (hfa : mg "law" = some (.ref fa)) (d_mark_of : DefIn K "mark_of" st_mark_of) (d_letter_at : DefIn K "letter_at" st_letter_at) (d_crosses : DefIn K "crosses" st_crosses) (d_is_integer : DefIn K "is_integer" st_is_integer) (d_is_tuple : DefIn K "is_tuple" st_is_tuple) (d_is_letters : DefIn K "is_letters" st_is_letters) (d_reduced : DefIn K "reduced" st_reduced) (d_numbers_in : DefIn K "numbers_in" st_numbers_in) (d_units : DefIn K "units" st_units) (d__law_pot : DefIn K "_law_pot" st__law_pot) (d__law_take : DefIn K "_law_take" st__law_take) (d__law_cells : DefIn K "_law_cells" st__law_cells) (d__law_times : DefIn K "_law_times" st__law_times) (d__law_do_pass : DefIn K "_law_do_pass" st__law_do_pass) (d__law_none : DefIn K "_law_none" st__law_none) (d__law_power : DefIn K "_law_power" st__law_power) (d_letters_of : DefIn K "letters_of" st_letters_of) (d_check_letters : DefIn K "check_letters" st_check_letters) (d_check_number : DefIn K "check_number" st_check_number) (d_steps_of : DefIn K "steps_of" st_steps_of) (d_base_of : DefIn K "base_of" st_base_of) (d_pattern : DefIn K "pattern" st_pattern) (d_past_pair : DefIn K "past_pair" st_past_pair) (d_marks_told : DefIn K "marks_told" st_marks_told) (d__law_of : DefIn K "_law_of" st__law_of) (d__law_some : DefIn K "_law_some" st__law_some) (d__law_letters_of : DefIn K "_law_letters_of" st__law_letters_of) (d_rank_of : DefIn K "rank_of" st_rank_of) (d_made_of : DefIn K "made_of" st_made_of) (d_parted_units : DefIn K "parted_units" st_parted_units) (d_pairs_of : DefIn K "pairs_of" st_pairs_of) (d_marks_by : DefIn K "marks_by" st_marks_by) (d__law_span : DefIn K "_law_span" st__law_span) (d__law_any_letters : DefIn K "_law_any_letters" st__law_any_letters) (d_crossing_as : DefIn K "crossing_as" st_crossing_as) (d_rank : DefIn K "rank" st_rank) (d_firsts : DefIn K "firsts" st_firsts) (d_parted : DefIn K "parted" st_parted) (d_sizes_of : DefIn K "sizes_of" st_sizes_of) (d__law_makers : DefIn K "_law_makers" st__law_makers) (d_bar_of : DefIn K "bar_of" st_bar_of) (d_sizes : DefIn K "sizes" st_sizes) (d_made : DefIn K "made" st_made) (d_within : DefIn K "within" st_within) (d__law_is_made_right : DefIn K "_law_is_made_right" st__law_is_made_right) (d__law_right : DefIn K "_law_right" st__law_right) (d_law : DefIn K "law" st_law) (q_APART : ∃ v u, mg "APART" = some u ∧ RelV v u ∧ ∀ B H, Rep (kx K) B H g_APART v) (q_BAR : ∃ v u, mg "BAR" = some u ∧ RelV v u ∧ ∀ B H, Rep (kx K) B H g_BAR v) (q_IDLE : ∃ v u, mg "IDLE" = some u ∧ RelV v u ∧ ∀ B H, Rep (kx K) B H g_IDLE v) (q_LETTERS : ∃ v u, mg "LETTERS" = some u ∧ RelV v u ∧ ∀ B H, Rep (kx K) B H g_LETTERS v) (q_LOW : ∃ v u, mg "LOW" = some u ∧ RelV v u ∧ ∀ B H, Rep (kx K) B H g_LOW v) (q_MADE : ∃ v u, mg "MADE" = some u ∧ RelV v u ∧ ∀ B H, Rep (kx K) B H g_MADE v) (q_MOST_MAKERS : ∃ v u, mg "MOST_MAKERS" = some u ∧ RelV v u ∧ ∀ B H, Rep (kx K) B H g_MOST_MAKERS v) (q_MOST_WIRES : ∃ v u, mg "MOST_WIRES" = some u ∧ RelV v u ∧ ∀ B H, Rep (kx K) B H g_MOST_WIRES v) (q_ONES : ∃ v u, mg "ONES" = some u ∧ RelV v u ∧ ∀ B H, Rep (kx K) B H g_ONES v) (q_TO_X : ∃ v u, mg "TO_X" = some u ∧ RelV v u ∧ ∀ B H, Rep (kx K) B H g_TO_X v) (q_TO_Y : ∃ v u, mg "TO_Y" = some u ∧ RelV v u ∧ ∀ B H, Rep (kx K) B H g_TO_Y v) (q_TO_Z : ∃ v u, mg "TO_Z" = some u ∧ RelV v u ∧ ∀ B H, Rep (kx K) B H g_TO_Z v) (q_WITHIN : ∃ v u, mg "WITHIN" = some u ∧ RelV v u ∧ ∀ B H, Rep (kx K) B H g_WITHIN v) (z_abs : mg "abs" = none) (z_all : mg "all" = none) (z_bool : mg "bool" = none) (z_enumerate : mg "enumerate" = none) (z_int : mg "int" = none) (z_isinstance : mg "isinstance" = none) (z_len : mg "len" = none) (z_list : mg "list" = none) (z_max : mg "max" = none) (z_min : mg "min" = none) (z_range : mg "range" = none) (z_repr : mg "repr" = none) (z_sorted : mg "sorted" = none) (z_str : mg "str" = none) (z_sum : mg "sum" = none) (z_tuple : mg "tuple" = none) (z_zip : mg "zip" = none) : ∃ fd : FuncData, (∀ (s : Shared) (u : Value), BindsTo s fd ⟨[u], []⟩ [(("script" : Str), u)]) ∧ ∀ base : Heap, K.In base → base.Ns mainGlobals mg → FnG P w K mg base 9 fa fd [("script" : Str)] (spOf (kx K) sp_law) := by
  refine law_step (tc := tc_law) (sp := sp_law) X G hfa d_law fs_law rfl rfl rfl rfl (b_law _) ok_law bi_law (fun base _ _ => ?_) trivial ⟨z_all, trivial⟩
  have c_mark_of : Cal K P w mg base 1 "mark_of" sp_mark_of := cal_step (tc := tc_mark_of) X G d_mark_of fs_mark_of rfl rfl rfl rfl (b_mark_of _) ok_mark_of bi_mark_of trivial ⟨q_TO_Y, q_TO_X, q_TO_Z, q_MOST_WIRES, trivial⟩ ⟨z_enumerate, z_int, trivial⟩
  have c_letter_at : Cal K P w mg base 1 "letter_at" sp_letter_at := cal_step (tc := tc_letter_at) X G d_letter_at fs_letter_at rfl rfl rfl rfl (b_letter_at _) ok_letter_at bi_letter_at trivial ⟨q_MOST_WIRES, q_TO_Z, q_IDLE, q_TO_Y, q_TO_X, trivial⟩ trivial
  have c_crosses : Cal K P w mg base 1 "crosses" sp_crosses := cal_step (tc := tc_crosses) X G d_crosses fs_crosses rfl rfl rfl rfl (b_crosses _) ok_crosses bi_crosses trivial ⟨q_ONES, q_MOST_WIRES, q_LOW, trivial⟩ trivial
  have c_is_integer : Cal K P w mg base 1 "is_integer" sp_is_integer := cal_step (tc := tc_is_integer) X G d_is_integer fs_is_integer rfl rfl rfl rfl (b_is_integer _) ok_is_integer bi_is_integer trivial trivial ⟨z_isinstance, z_int, z_bool, trivial⟩
  have c_is_tuple : Cal K P w mg base 1 "is_tuple" sp_is_tuple := cal_step (tc := tc_is_tuple) X G d_is_tuple fs_is_tuple rfl rfl rfl rfl (b_is_tuple _) ok_is_tuple bi_is_tuple trivial trivial ⟨z_isinstance, z_tuple, z_len, trivial⟩
  have c_is_letters : Cal K P w mg base 1 "is_letters" sp_is_letters := cal_step (tc := tc_is_letters) X G d_is_letters fs_is_letters rfl rfl rfl rfl (b_is_letters _) ok_is_letters bi_is_letters trivial ⟨q_LETTERS, trivial⟩ ⟨z_isinstance, z_str, z_len, z_all, trivial⟩
  have c_reduced : Cal K P w mg base 1 "reduced" sp_reduced := cal_step (tc := tc_reduced) X G d_reduced fs_reduced rfl rfl rfl rfl (b_reduced _) ok_reduced bi_reduced trivial trivial ⟨z_zip, trivial⟩
  have c_numbers_in : Cal K P w mg base 1 "numbers_in" sp_numbers_in := cal_step (tc := tc_numbers_in) X G d_numbers_in fs_numbers_in rfl rfl rfl rfl (b_numbers_in _) ok_numbers_in bi_numbers_in trivial trivial ⟨z_range, trivial⟩
  have c_units : Cal K P w mg base 1 "units" sp_units := cal_step (tc := tc_units) X G d_units fs_units rfl rfl rfl rfl (b_units _) ok_units bi_units trivial ⟨q_MOST_WIRES, trivial⟩ ⟨z_range, trivial⟩
  have c__law_pot : Cal K P w mg base 1 "_law_pot" sp__law_pot := cal_step (tc := tc__law_pot) X G d__law_pot fs__law_pot rfl rfl rfl rfl (b__law_pot _) ok__law_pot bi__law_pot trivial trivial ⟨z_int, z_abs, z_len, z_sum, trivial⟩
  have c__law_take : Cal K P w mg base 1 "_law_take" sp__law_take := cal_step (tc := tc__law_take) X G d__law_take fs__law_take rfl rfl rfl rfl (b__law_take _) ok__law_take bi__law_take trivial trivial ⟨z_int, trivial⟩
  have c__law_cells : Cal K P w mg base 1 "_law_cells" sp__law_cells := cal_step (tc := tc__law_cells) X G d__law_cells fs__law_cells rfl rfl rfl rfl (b__law_cells _) ok__law_cells bi__law_cells trivial trivial ⟨z_list, z_range, z_max, z_min, z_len, trivial⟩
  have c__law_times : Cal K P w mg base 1 "_law_times" sp__law_times := cal_step (tc := tc__law_times) X G d__law_times fs__law_times rfl rfl rfl rfl (b__law_times _) ok__law_times bi__law_times trivial trivial ⟨z_int, z_zip, trivial⟩
  have c__law_do_pass : Cal K P w mg base 1 "_law_do_pass" sp__law_do_pass := cal_step (tc := tc__law_do_pass) X G d__law_do_pass fs__law_do_pass rfl rfl rfl rfl (b__law_do_pass _) ok__law_do_pass bi__law_do_pass trivial trivial ⟨z_int, z_sum, z_zip, trivial⟩
  have c__law_none : Cal K P w mg base 1 "_law_none" sp__law_none := cal_step (tc := tc__law_none) X G d__law_none fs__law_none rfl rfl rfl rfl (b__law_none _) ok__law_none bi__law_none trivial trivial trivial
  have c__law_power : Cal K P w mg base 1 "_law_power" sp__law_power := cal_step (tc := tc__law_power) X G d__law_power fs__law_power rfl rfl rfl rfl (b__law_power _) ok__law_power bi__law_power trivial trivial ⟨z_int, trivial⟩
  have c_letters_of : Cal K P w mg base 2 "letters_of" sp_letters_of := cal_step (tc := tc_letters_of) X G d_letters_of fs_letters_of rfl rfl rfl rfl (b_letters_of _) ok_letters_of bi_letters_of ⟨c_letter_at.mono (by decide), trivial⟩ trivial ⟨z_range, trivial⟩
  have c_check_letters : Cal K P w mg base 2 "check_letters" sp_check_letters := cal_step (tc := tc_check_letters) X G d_check_letters fs_check_letters rfl rfl rfl rfl (b_check_letters _) ok_check_letters bi_check_letters ⟨c_is_letters.mono (by decide), trivial⟩ trivial trivial
  have c_check_number : Cal K P w mg base 2 "check_number" sp_check_number := cal_step (tc := tc_check_number) X G d_check_number fs_check_number rfl rfl rfl rfl (b_check_number _) ok_check_number bi_check_number ⟨c_is_integer.mono (by decide), trivial⟩ trivial trivial
  have c_steps_of : Cal K P w mg base 2 "steps_of" sp_steps_of := cal_step (tc := tc_steps_of) X G d_steps_of fs_steps_of rfl rfl rfl rfl (b_steps_of _) ok_steps_of bi_steps_of ⟨c_reduced.mono (by decide), trivial⟩ trivial ⟨z_enumerate, trivial⟩
  have c_base_of : Cal K P w mg base 2 "base_of" sp_base_of := cal_step (tc := tc_base_of) X G d_base_of fs_base_of rfl rfl rfl rfl (b_base_of _) ok_base_of bi_base_of ⟨c_reduced.mono (by decide), trivial⟩ trivial ⟨z_enumerate, trivial⟩
  have c_pattern : Cal K P w mg base 2 "pattern" sp_pattern := cal_step (tc := tc_pattern) X G d_pattern fs_pattern rfl rfl rfl rfl (b_pattern _) ok_pattern bi_pattern ⟨c_crosses.mono (by decide), trivial⟩ trivial ⟨z_sum, z_enumerate, trivial⟩
  have c_past_pair : Cal K P w mg base 2 "past_pair" sp_past_pair := cal_step (tc := tc_past_pair) X G d_past_pair fs_past_pair rfl rfl rfl rfl (b_past_pair _) ok_past_pair bi_past_pair ⟨c_crosses.mono (by decide), trivial⟩ trivial trivial
  have c_marks_told : Cal K P w mg base 2 "marks_told" sp_marks_told := cal_step (tc := tc_marks_told) X G d_marks_told fs_marks_told rfl rfl rfl rfl (b_marks_told _) ok_marks_told bi_marks_told ⟨c_mark_of.mono (by decide), c_is_tuple.mono (by decide), c_is_letters.mono (by decide), trivial⟩ ⟨q_MOST_MAKERS, trivial⟩ ⟨z_all, trivial⟩
  have c__law_of : Cal K P w mg base 2 "_law_of" sp__law_of := cal_step (tc := tc__law_of) X G d__law_of fs__law_of rfl rfl rfl rfl (b__law_of _) ok__law_of bi__law_of ⟨c__law_take.mono (by decide), trivial⟩ trivial ⟨z_len, trivial⟩
  have c__law_some : Cal K P w mg base 2 "_law_some" sp__law_some := cal_step (tc := tc__law_some) X G d__law_some fs__law_some rfl rfl rfl rfl (b__law_some _) ok__law_some bi__law_some ⟨c__law_take.mono (by decide), trivial⟩ trivial ⟨z_range, z_len, z_list, trivial⟩
  have c__law_letters_of : Cal K P w mg base 2 "_law_letters_of" sp__law_letters_of := cal_step (tc := tc__law_letters_of) X G d__law_letters_of fs__law_letters_of rfl rfl rfl rfl (b__law_letters_of _) ok__law_letters_of bi__law_letters_of ⟨c__law_times.mono (by decide), trivial⟩ trivial trivial
  have c_rank_of : Cal K P w mg base 3 "rank_of" sp_rank_of := cal_step (tc := tc_rank_of) X G d_rank_of fs_rank_of rfl rfl rfl rfl (b_rank_of _) ok_rank_of bi_rank_of ⟨c_base_of.mono (by decide), trivial⟩ trivial ⟨z_len, trivial⟩
  have c_made_of : Cal K P w mg base 3 "made_of" sp_made_of := cal_step (tc := tc_made_of) X G d_made_of fs_made_of rfl rfl rfl rfl (b_made_of _) ok_made_of bi_made_of ⟨c_numbers_in.mono (by decide), c_reduced.mono (by decide), c_steps_of.mono (by decide), trivial⟩ trivial trivial
  have c_parted_units : Cal K P w mg base 3 "parted_units" sp_parted_units := cal_step (tc := tc_parted_units) X G d_parted_units fs_parted_units rfl rfl rfl rfl (b_parted_units _) ok_parted_units bi_parted_units ⟨c_units.mono (by decide), c_reduced.mono (by decide), c_pattern.mono (by decide), trivial⟩ trivial trivial
  have c_pairs_of : Cal K P w mg base 3 "pairs_of" sp_pairs_of := cal_step (tc := tc_pairs_of) X G d_pairs_of fs_pairs_of rfl rfl rfl rfl (b_pairs_of _) ok_pairs_of bi_pairs_of ⟨c_past_pair.mono (by decide), c_crosses.mono (by decide), c_base_of.mono (by decide), trivial⟩ trivial ⟨z_enumerate, trivial⟩
  have c_marks_by : Cal K P w mg base 3 "marks_by" sp_marks_by := cal_step (tc := tc_marks_by) X G d_marks_by fs_marks_by rfl rfl rfl rfl (b_marks_by _) ok_marks_by bi_marks_by ⟨c_marks_told.mono (by decide), c_check_number.mono (by decide), trivial⟩ ⟨q_MOST_WIRES, trivial⟩ trivial
  have c__law_span : Cal K P w mg base 3 "_law_span" sp__law_span := cal_step (tc := tc__law_span) X G d__law_span fs__law_span rfl rfl rfl rfl (b__law_span _) ok__law_span bi__law_span ⟨c__law_letters_of.mono (by decide), c__law_none.mono (by decide), trivial⟩ trivial ⟨z_list, trivial⟩
  have c__law_any_letters : Cal K P w mg base 3 "_law_any_letters" sp__law_any_letters := cal_step (tc := tc__law_any_letters) X G d__law_any_letters fs__law_any_letters rfl rfl rfl rfl (b__law_any_letters _) ok__law_any_letters bi__law_any_letters ⟨c__law_of.mono (by decide), trivial⟩ trivial ⟨z_list, z_range, trivial⟩
  have c_crossing_as : Cal K P w mg base 4 "crossing_as" sp_crossing_as := cal_step (tc := tc_crossing_as) X G d_crossing_as fs_crossing_as rfl rfl rfl rfl (b_crossing_as _) ok_crossing_as bi_crossing_as ⟨c_reduced.mono (by decide), c_parted_units.mono (by decide), trivial⟩ trivial ⟨z_sum, z_enumerate, trivial⟩
  have c_rank : Cal K P w mg base 4 "rank" sp_rank := cal_step (tc := tc_rank) X G d_rank fs_rank rfl rfl rfl rfl (b_rank _) ok_rank bi_rank ⟨c_rank_of.mono (by decide), c_marks_by.mono (by decide), trivial⟩ trivial trivial
  have c_firsts : Cal K P w mg base 4 "firsts" sp_firsts := cal_step (tc := tc_firsts) X G d_firsts fs_firsts rfl rfl rfl rfl (b_firsts _) ok_firsts bi_firsts ⟨c_base_of.mono (by decide), c_marks_by.mono (by decide), trivial⟩ trivial ⟨z_tuple, trivial⟩
  have c_parted : Cal K P w mg base 4 "parted" sp_parted := cal_step (tc := tc_parted) X G d_parted fs_parted rfl rfl rfl rfl (b_parted _) ok_parted bi_parted ⟨c_letters_of.mono (by decide), c_pairs_of.mono (by decide), c_marks_by.mono (by decide), trivial⟩ trivial ⟨z_tuple, trivial⟩
  have c_sizes_of : Cal K P w mg base 4 "sizes_of" sp_sizes_of := cal_step (tc := tc_sizes_of) X G d_sizes_of fs_sizes_of rfl rfl rfl rfl (b_sizes_of _) ok_sizes_of bi_sizes_of ⟨c_pairs_of.mono (by decide), trivial⟩ trivial ⟨z_len, trivial⟩
  have c__law_makers : Cal K P w mg base 4 "_law_makers" sp__law_makers := cal_step (tc := tc__law_makers) X G d__law_makers fs__law_makers rfl rfl rfl rfl (b__law_makers _) ok__law_makers bi__law_makers ⟨c__law_take.mono (by decide), c__law_none.mono (by decide), c__law_letters_of.mono (by decide), c__law_of.mono (by decide), c__law_any_letters.mono (by decide), trivial⟩ trivial ⟨z_tuple, z_range, trivial⟩
  have c_bar_of : Cal K P w mg base 5 "bar_of" sp_bar_of := cal_step (tc := tc_bar_of) X G d_bar_of fs_bar_of rfl rfl rfl rfl (b_bar_of _) ok_bar_of bi_bar_of ⟨c_crossing_as.mono (by decide), trivial⟩ trivial ⟨z_len, trivial⟩
  have c_sizes : Cal K P w mg base 5 "sizes" sp_sizes := cal_step (tc := tc_sizes) X G d_sizes fs_sizes rfl rfl rfl rfl (b_sizes _) ok_sizes bi_sizes ⟨c_sizes_of.mono (by decide), c_marks_by.mono (by decide), trivial⟩ trivial trivial
  have c_made : Cal K P w mg base 6 "made" sp_made := cal_step (tc := tc_made) X G d_made fs_made rfl rfl rfl rfl (b_made _) ok_made bi_made ⟨c_letters_of.mono (by decide), c_bar_of.mono (by decide), c_mark_of.mono (by decide), c_made_of.mono (by decide), c_check_letters.mono (by decide), c_marks_by.mono (by decide), trivial⟩ ⟨q_BAR, q_MADE, trivial⟩ ⟨z_tuple, trivial⟩
  have c_within : Cal K P w mg base 6 "within" sp_within := cal_step (tc := tc_within) X G d_within fs_within rfl rfl rfl rfl (b_within _) ok_within bi_within ⟨c_made_of.mono (by decide), c_letters_of.mono (by decide), c_bar_of.mono (by decide), c_marks_told.mono (by decide), c_marks_by.mono (by decide), trivial⟩ ⟨q_WITHIN, q_APART, trivial⟩ ⟨z_enumerate, trivial⟩
  have c__law_is_made_right : Cal K P w mg base 7 "_law_is_made_right" sp__law_is_made_right := cal_step (tc := tc__law_is_made_right) X G d__law_is_made_right fs__law_is_made_right rfl rfl rfl rfl (b__law_is_made_right _) ok__law_is_made_right bi__law_is_made_right ⟨c__law_do_pass.mono (by decide), c__law_letters_of.mono (by decide), c__law_none.mono (by decide), c_made.mono (by decide), trivial⟩ trivial ⟨z_all, z_isinstance, z_tuple, z_len, trivial⟩
  have c__law_right : Cal K P w mg base 8 "_law_right" sp__law_right := cal_step (tc := tc__law_right) X G d__law_right fs__law_right rfl rfl rfl rfl (b__law_right _) ok__law_right bi__law_right ⟨c_sizes.mono (by decide), c_parted.mono (by decide), c__law_power.mono (by decide), c__law_do_pass.mono (by decide), c_within.mono (by decide), c_firsts.mono (by decide), c__law_some.mono (by decide), c__law_is_made_right.mono (by decide), c_rank.mono (by decide), c__law_span.mono (by decide), c__law_makers.mono (by decide), c__law_take.mono (by decide), trivial⟩ trivial ⟨z_repr, z_len, z_all, z_min, z_sorted, trivial⟩
  exact ⟨c__law_right.mono (by decide), c__law_pot.mono (by decide), c__law_cells.mono (by decide), trivial⟩
end VL
open PySem PySem.W PyProof.Rows
set_option maxHeartbeats 0 in
theorem PySem.Challenge.cw_guardedwires_k61_whole_two_spans_and_wha_holds : PySem.Challenge.rw_guardedwires_k61_whole_two_spans_and_wha.Holds := by
  w_on; o_law; k_head; (case hw => w_witness2)
  k_fill
  refine VL.walk_ofG (l := PySem.Challenge.rw_guardedwires_k61_whole_two_spans_and_wha) (n := 63) (k := 9) (x := "script") (sp := fun w => VL.spOf (VL.kx _) VL.sp_law) rfl (by decide) rfl ⟨rfl, by decide, by decide⟩ (fun w h Y => PySem.W.kIn_of Y) ?F (fun _ H a ns hl hO _ hS => VL.law_sp (n := 63) rfl VL.holds_k61 H a ns hl hO hS)
  case F =>
    intro w mg fa h KX G hmg
    refine' VL.all_k61 KX G hmg ?d0 ?d1 ?d2 ?d3 ?d4 ?d5 ?d6 ?d7 ?d8 ?d9 ?d10 ?d11 ?d12 ?d13 ?d14 ?d15 ?d16 ?d17 ?d18 ?d19 ?d20 ?d21 ?d22 ?d23 ?d24 ?d25 ?d26 ?d27 ?d28 ?d29 ?d30 ?d31 ?d32 ?d33 ?d34 ?d35 ?d36 ?d37 ?d38 ?d39 ?d40 ?d41 ?d42 ?d43 ?d44 ?d45 ?d46 ?q0 ?q1 ?q2 ?q3 ?q4 ?q5 ?q6 ?q7 ?q8 ?q9 ?q10 ?q11 ?q12 ?z0 ?z1 ?z2 ?z3 ?z4 ?z5 ?z6 ?z7 ?z8 ?z9 ?z10 ?z11 ?z12 ?z13 ?z14 ?z15 ?z16
    (case d0 => (refine' VL.defIn_mk ?a ?l ?c ?k; (case a => k_is); (case l => k_is); (case c => k_is); (case k => k_is)))
    (case d1 => (refine' VL.defIn_mk ?a ?l ?c ?k; (case a => k_is); (case l => k_is); (case c => k_is); (case k => k_is)))
    (case d2 => (refine' VL.defIn_mk ?a ?l ?c ?k; (case a => k_is); (case l => k_is); (case c => k_is); (case k => k_is)))
    (case d3 => (refine' VL.defIn_mk ?a ?l ?c ?k; (case a => k_is); (case l => k_is); (case c => k_is); (case k => k_is)))
    (case d4 => (refine' VL.defIn_mk ?a ?l ?c ?k; (case a => k_is); (case l => k_is); (case c => k_is); (case k => k_is)))
    (case d5 => (refine' VL.defIn_mk ?a ?l ?c ?k; (case a => k_is); (case l => k_is); (case c => k_is); (case k => k_is)))
    (case d6 => (refine' VL.defIn_mk ?a ?l ?c ?k; (case a => k_is); (case l => k_is); (case c => k_is); (case k => k_is)))
    (case d7 => (refine' VL.defIn_mk ?a ?l ?c ?k; (case a => k_is); (case l => k_is); (case c => k_is); (case k => k_is)))
    (case d8 => (refine' VL.defIn_mk ?a ?l ?c ?k; (case a => k_is); (case l => k_is); (case c => k_is); (case k => k_is)))
    (case d9 => (refine' VL.defIn_mk ?a ?l ?c ?k; (case a => k_is); (case l => k_is); (case c => k_is); (case k => k_is)))
    (case d10 => (refine' VL.defIn_mk ?a ?l ?c ?k; (case a => k_is); (case l => k_is); (case c => k_is); (case k => k_is)))
    (case d11 => (refine' VL.defIn_mk ?a ?l ?c ?k; (case a => k_is); (case l => k_is); (case c => k_is); (case k => k_is)))
    (case d12 => (refine' VL.defIn_mk ?a ?l ?c ?k; (case a => k_is); (case l => k_is); (case c => k_is); (case k => k_is)))
    (case d13 => (refine' VL.defIn_mk ?a ?l ?c ?k; (case a => k_is); (case l => k_is); (case c => k_is); (case k => k_is)))
    (case d14 => (refine' VL.defIn_mk ?a ?l ?c ?k; (case a => k_is); (case l => k_is); (case c => k_is); (case k => k_is)))
    (case d15 => (refine' VL.defIn_mk ?a ?l ?c ?k; (case a => k_is); (case l => k_is); (case c => k_is); (case k => k_is)))
    (case d16 => (refine' VL.defIn_mk ?a ?l ?c ?k; (case a => k_is); (case l => k_is); (case c => k_is); (case k => k_is)))
    (case d17 => (refine' VL.defIn_mk ?a ?l ?c ?k; (case a => k_is); (case l => k_is); (case c => k_is); (case k => k_is)))
    (case d18 => (refine' VL.defIn_mk ?a ?l ?c ?k; (case a => k_is); (case l => k_is); (case c => k_is); (case k => k_is)))
    (case d19 => (refine' VL.defIn_mk ?a ?l ?c ?k; (case a => k_is); (case l => k_is); (case c => k_is); (case k => k_is)))
    (case d20 => (refine' VL.defIn_mk ?a ?l ?c ?k; (case a => k_is); (case l => k_is); (case c => k_is); (case k => k_is)))
    (case d21 => (refine' VL.defIn_mk ?a ?l ?c ?k; (case a => k_is); (case l => k_is); (case c => k_is); (case k => k_is)))
    (case d22 => (refine' VL.defIn_mk ?a ?l ?c ?k; (case a => k_is); (case l => k_is); (case c => k_is); (case k => k_is)))
    (case d23 => (refine' VL.defIn_mk ?a ?l ?c ?k; (case a => k_is); (case l => k_is); (case c => k_is); (case k => k_is)))
    (case d24 => (refine' VL.defIn_mk ?a ?l ?c ?k; (case a => k_is); (case l => k_is); (case c => k_is); (case k => k_is)))
    (case d25 => (refine' VL.defIn_mk ?a ?l ?c ?k; (case a => k_is); (case l => k_is); (case c => k_is); (case k => k_is)))
    (case d26 => (refine' VL.defIn_mk ?a ?l ?c ?k; (case a => k_is); (case l => k_is); (case c => k_is); (case k => k_is)))
    (case d27 => (refine' VL.defIn_mk ?a ?l ?c ?k; (case a => k_is); (case l => k_is); (case c => k_is); (case k => k_is)))
    (case d28 => (refine' VL.defIn_mk ?a ?l ?c ?k; (case a => k_is); (case l => k_is); (case c => k_is); (case k => k_is)))
    (case d29 => (refine' VL.defIn_mk ?a ?l ?c ?k; (case a => k_is); (case l => k_is); (case c => k_is); (case k => k_is)))
    (case d30 => (refine' VL.defIn_mk ?a ?l ?c ?k; (case a => k_is); (case l => k_is); (case c => k_is); (case k => k_is)))
    (case d31 => (refine' VL.defIn_mk ?a ?l ?c ?k; (case a => k_is); (case l => k_is); (case c => k_is); (case k => k_is)))
    (case d32 => (refine' VL.defIn_mk ?a ?l ?c ?k; (case a => k_is); (case l => k_is); (case c => k_is); (case k => k_is)))
    (case d33 => (refine' VL.defIn_mk ?a ?l ?c ?k; (case a => k_is); (case l => k_is); (case c => k_is); (case k => k_is)))
    (case d34 => (refine' VL.defIn_mk ?a ?l ?c ?k; (case a => k_is); (case l => k_is); (case c => k_is); (case k => k_is)))
    (case d35 => (refine' VL.defIn_mk ?a ?l ?c ?k; (case a => k_is); (case l => k_is); (case c => k_is); (case k => k_is)))
    (case d36 => (refine' VL.defIn_mk ?a ?l ?c ?k; (case a => k_is); (case l => k_is); (case c => k_is); (case k => k_is)))
    (case d37 => (refine' VL.defIn_mk ?a ?l ?c ?k; (case a => k_is); (case l => k_is); (case c => k_is); (case k => k_is)))
    (case d38 => (refine' VL.defIn_mk ?a ?l ?c ?k; (case a => k_is); (case l => k_is); (case c => k_is); (case k => k_is)))
    (case d39 => (refine' VL.defIn_mk ?a ?l ?c ?k; (case a => k_is); (case l => k_is); (case c => k_is); (case k => k_is)))
    (case d40 => (refine' VL.defIn_mk ?a ?l ?c ?k; (case a => k_is); (case l => k_is); (case c => k_is); (case k => k_is)))
    (case d41 => (refine' VL.defIn_mk ?a ?l ?c ?k; (case a => k_is); (case l => k_is); (case c => k_is); (case k => k_is)))
    (case d42 => (refine' VL.defIn_mk ?a ?l ?c ?k; (case a => k_is); (case l => k_is); (case c => k_is); (case k => k_is)))
    (case d43 => (refine' VL.defIn_mk ?a ?l ?c ?k; (case a => k_is); (case l => k_is); (case c => k_is); (case k => k_is)))
    (case d44 => (refine' VL.defIn_mk ?a ?l ?c ?k; (case a => k_is); (case l => k_is); (case c => k_is); (case k => k_is)))
    (case d45 => (refine' VL.defIn_mk ?a ?l ?c ?k; (case a => k_is); (case l => k_is); (case c => k_is); (case k => k_is)))
    (case d46 => (refine' VL.defIn_mk ?a ?l ?c ?k; (case a => k_is); (case l => k_is); (case c => k_is); (case k => k_is)))
    (case q0 => (refine' VL.glob_mk KX G ?a ?v; (case a => k_is); (case v => rfl)))
    (case q1 => (refine' VL.glob_mk KX G ?a ?v; (case a => k_is); (case v => rfl)))
    (case q2 => (refine' VL.glob_mk KX G ?a ?v; (case a => k_is); (case v => rfl)))
    (case q3 => (refine' VL.glob_mk KX G ?a ?v; (case a => k_is); (case v => rfl)))
    (case q4 => (refine' VL.glob_mk KX G ?a ?v; (case a => k_is); (case v => rfl)))
    (case q5 => (refine' VL.glob_mk KX G ?a ?v; (case a => k_is); (case v => rfl)))
    (case q6 => (refine' VL.glob_mk KX G ?a ?v; (case a => k_is); (case v => rfl)))
    (case q7 => (refine' VL.glob_mk KX G ?a ?v; (case a => k_is); (case v => rfl)))
    (case q8 => (refine' VL.glob_tup KX G ?a ?l ?z ?v; (case a => k_is); (case l => k_is); (case z => decide); (case v => rfl)))
    (case q9 => (refine' VL.glob_mk KX G ?a ?v; (case a => k_is); (case v => rfl)))
    (case q10 => (refine' VL.glob_mk KX G ?a ?v; (case a => k_is); (case v => rfl)))
    (case q11 => (refine' VL.glob_mk KX G ?a ?v; (case a => k_is); (case v => rfl)))
    (case q12 => (refine' VL.glob_mk KX G ?a ?v; (case a => k_is); (case v => rfl)))
    (case z0 => (refine' PySem.W.mg_none_of KX G ?a; (case a => k_is)))
    (case z1 => (refine' PySem.W.mg_none_of KX G ?a; (case a => k_is)))
    (case z2 => (refine' PySem.W.mg_none_of KX G ?a; (case a => k_is)))
    (case z3 => (refine' PySem.W.mg_none_of KX G ?a; (case a => k_is)))
    (case z4 => (refine' PySem.W.mg_none_of KX G ?a; (case a => k_is)))
    (case z5 => (refine' PySem.W.mg_none_of KX G ?a; (case a => k_is)))
    (case z6 => (refine' PySem.W.mg_none_of KX G ?a; (case a => k_is)))
    (case z7 => (refine' PySem.W.mg_none_of KX G ?a; (case a => k_is)))
    (case z8 => (refine' PySem.W.mg_none_of KX G ?a; (case a => k_is)))
    (case z9 => (refine' PySem.W.mg_none_of KX G ?a; (case a => k_is)))
    (case z10 => (refine' PySem.W.mg_none_of KX G ?a; (case a => k_is)))
    (case z11 => (refine' PySem.W.mg_none_of KX G ?a; (case a => k_is)))
    (case z12 => (refine' PySem.W.mg_none_of KX G ?a; (case a => k_is)))
    (case z13 => (refine' PySem.W.mg_none_of KX G ?a; (case a => k_is)))
    (case z14 => (refine' PySem.W.mg_none_of KX G ?a; (case a => k_is)))
    (case z15 => (refine' PySem.W.mg_none_of KX G ?a; (case a => k_is)))
    (case z16 => (refine' PySem.W.mg_none_of KX G ?a; (case a => k_is)))
