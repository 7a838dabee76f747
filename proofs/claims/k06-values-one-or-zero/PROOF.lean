import PyProof.Rows.All
import Wide.All
import OpenK.AllK
import Wide.FinOn
import HandS.ForMost
import HandS.ForExc
import HandS.ExcInit
import HandS.ExcField
import HandS.Property
import HandS.IsInst
import HandS.Defaults
import HandS.MakeKw
import HandS.HeadHook2
import HandS.HeadEnd
import HandS.Wide
import HandS.TupAny
import HandS.Text
import HandS.Flow
import HandS.Iter
import HandS.Zip
import HandS.TryOnly
import HandS.List
import HandS.Small
import KE.KOpsOwn
import HandS.DictComp
import HandS.RaiseMore
import HandS.More
import HandS.Comp
import HandS.Dict
import HandS.Ends
import HandS.HeadNt
import HandS.Strs
import HandS.SetFor
import PyProof.Rows.SortShellAny
import HandS.Codes
import HandS.Words
import HandS.Style
import PyProof.ReprLen
import PyProof.Rows.RegStrFacts
import HandS.Head0
import HandS.Head1
import HandS.Head2
import HandS.HeadHook1
import PySem.Challenge.RW_anyworker_k06_values_that_are_one_or_zer
set_option Elab.async false
set_option linter.all false
set_option maxRecDepth 100000
set_option maxHeartbeats 1000000
namespace PI
open PySem PySem.Spec PyProof.Rows L2
open PySem.W (Frag)

/-! ### values without addresses: m marks a list, a dict, an object that its one holder may still change -/
inductive D where
  | non | bl (b : Bool) | int (i : Int) | str (x : Str)
  | lst (m : Bool) (xs : List D) | tup (xs : List D)
  | dic (m : Bool) (ks : List Key) (vs : List D)
  | obj (m : Bool) (c : Str) (ns : List Str) (vs : List D)
  deriving Inhabited
abbrev Sg := List (Option D)

/-! ### how a value that is no longer changed lies in the part G of the heap that stands still -/
mutual
def Rep (K : Frag) (G : Hp) : D → V → Prop
  | .non, v => v = .non
  | .bl b, v => v = .bl b
  | .int i, v => v = .int i
  | .str x, v => v = .str x
  | .lst m xs, v => m = false ∧ ∃ a vs, v = .ref a ∧ SqL K G a vs ∧ RepL K G xs vs
  | .tup xs, v => ∃ a vs, v = .ref a ∧ SqT K G a vs ∧ RepL K G xs vs
  | .dic m ks ds, v => m = false ∧ ∃ a vs, v = .ref a ∧ G a = some (.dK (ks.zip vs)) ∧ ks.length = vs.length ∧ RepL K G ds vs
  | .obj m c ns ds, v => m = false ∧ ∃ a dx vs, v = .ref a ∧ G a = some (.ins (He.ga K c) dx (ns.zip vs)) ∧ ns.length = vs.length ∧ RepL K G ds vs
def RepL (K : Frag) (G : Hp) : List D → List V → Prop
  | [], vs => vs = []
  | d :: ds, vs => ∃ v r, vs = v :: r ∧ Rep K G d v ∧ RepL K G ds r
end
/-- G grows -/
def Sub (G G' : Hp) : Prop := ∀ a o, G a = some o → G' a = some o
theorem Sub.refl (G : Hp) : Sub G G := fun _ _ h => h
theorem Sub.trans {G G1 G2 : Hp} (a : Sub G G1) (b : Sub G1 G2) : Sub G G2 := fun x o h => b x o (a x o h)
theorem Sub.rd {G G' : Hp} (e : Sub G G') {a : Addr} {u : HO} (h : Rd G a u) : Rd G' a u := by
  rcases h with h | ⟨o, h⟩
  · exact .inl (e _ _ h)
  · exact .inr ⟨o, e _ _ h⟩
theorem Sub.sqL {K : Frag} {G G' : Hp} (e : Sub G G') {a : Addr} {xs : List V} (h : SqL K G a xs) : SqL K G' a xs := by
  rcases h with h | h
  · exact .inl (e.rd h)
  · exact .inr h
theorem Sub.sqT {K : Frag} {G G' : Hp} (e : Sub G G') {a : Addr} {xs : List V} (h : SqT K G a xs) : SqT K G' a xs := by
  rcases h with h | h
  · exact .inl (e.rd h)
  · exact .inr h
theorem Sub.new {G : Hp} {p : Addr} {o : HO} (h : G p = none) : Sub G (upd G p o) := fun a u e => by
  rw [upd_ne (ne_of_none e h)]; exact e
mutual
theorem Rep.mono {K : Frag} {G G' : Hp} (e : Sub G G') : ∀ (d : D) (v : V), Rep K G d v → Rep K G' d v
  | .non, v, h => h
  | .bl b, v, h => h
  | .int i, v, h => h
  | .str x, v, h => h
  | .lst m xs, v, h => by
    obtain ⟨hm, a, vs, rfl, hs, hr⟩ := h
    exact ⟨hm, a, vs, rfl, e.sqL hs, RepL.mono e xs vs hr⟩
  | .tup xs, v, h => by
    obtain ⟨a, vs, rfl, hs, hr⟩ := h
    exact ⟨a, vs, rfl, e.sqT hs, RepL.mono e xs vs hr⟩
  | .dic m ks ds, v, h => by
    obtain ⟨hm, a, vs, rfl, hs, hl, hr⟩ := h
    exact ⟨hm, a, vs, rfl, e _ _ hs, hl, RepL.mono e ds vs hr⟩
  | .obj m c ns ds, v, h => by
    obtain ⟨hm, a, dx, vs, rfl, hs, hl, hr⟩ := h
    exact ⟨hm, a, dx, vs, rfl, e _ _ hs, hl, RepL.mono e ds vs hr⟩
theorem RepL.mono {K : Frag} {G G' : Hp} (e : Sub G G') : ∀ (ds : List D) (vs : List V), RepL K G ds vs → RepL K G' ds vs
  | [], vs, h => h
  | d :: ds, vs, h => by
    obtain ⟨v, r, rfl, h1, h2⟩ := h
    exact ⟨v, r, rfl, Rep.mono e d v h1, RepL.mono e ds r h2⟩
end
theorem RepL.len {K : Frag} {G : Hp} : ∀ {ds : List D} {vs : List V}, RepL K G ds vs → ds.length = vs.length
  | [], vs, h => by cases (show vs = [] from h); rfl
  | d :: ds, vs, h => by
    obtain ⟨v, r, rfl, h1, h2⟩ := h
    simp [RepL.len h2]
theorem RepL.get {K : Frag} {G : Hp} : ∀ {ds : List D} {vs : List V} (i : Nat) {d : D}, RepL K G ds vs → ds[i]? = some d → ∃ v, vs[i]? = some v ∧ Rep K G d v
  | [], vs, i, d, h, e => by simp at e
  | d :: ds, vs, 0, d', h, e => by
    obtain ⟨v, r, rfl, h1, h2⟩ := h
    simp at e; subst e
    exact ⟨v, rfl, h1⟩
  | d :: ds, vs, i + 1, d', h, e => by
    obtain ⟨v, r, rfl, h1, h2⟩ := h
    obtain ⟨v', e1, e2⟩ := RepL.get i h2 (by simpa using e)
    exact ⟨v', by simpa using e1, e2⟩
theorem RepL.append {K : Frag} {G : Hp} : ∀ {ds es : List D} {vs us : List V}, RepL K G ds vs → RepL K G es us → RepL K G (ds ++ es) (vs ++ us)
  | [], es, vs, us, h, h' => by cases (show vs = [] from h); exact h'
  | d :: ds, es, vs, us, h, h' => by
    obtain ⟨v, r, rfl, h1, h2⟩ := h
    exact ⟨v, r ++ us, rfl, h1, RepL.append h2 h'⟩
theorem RepL.one {K : Frag} {G : Hp} {d : D} {v : V} (h : Rep K G d v) : RepL K G [d] [v] := ⟨v, [], rfl, h, rfl⟩

/-! ### what changes behind the proof's back: memos -/
structure Memo where
  vol : Hp → Addr → Prop
  inv : Hp → Hp → Prop
  plain : HO → Prop
  lst : ∀ xs, plain (.lst xs)
  tup : ∀ xs, plain (.tup xs)
  dK : ∀ xs, plain (.dK xs)
  grow : ∀ G a o, G a = none → plain o → ∀ b, vol (upd G a o) b ↔ vol G b
  keep : ∀ G H G' H', inv G H → Sub G G' → (∀ x o, G' x = some o → G x = some o ∨ plain o) → (∀ b o, H b = some o → vol G b → H' b = some o) → inv G' H'
  there : ∀ G H a, inv G H → vol G a → (∃ o, H a = some o) ∧ G a = none
def Memo.no : Memo where
  vol := fun _ _ => False
  inv := fun _ _ => True
  plain := fun _ => True
  lst := fun _ => trivial
  tup := fun _ => trivial
  dK := fun _ => trivial
  grow := fun _ _ _ _ _ _ => Iff.rfl
  keep := fun _ _ _ _ _ _ _ _ => trivial
  there := fun _ _ _ _ h => h.elim

/-- what stands at the address of a value that may be changed -/
def OwnAt (K : Frag) (M : Memo) (G H : Hp) (a : Addr) : D → Prop
  | .lst m xs => m = true ∧ ∃ vs, H a = some (.lst vs) ∧ RepL K G xs vs
  | .dic m ks ds => m = true ∧ ∃ vs, H a = some (.dK (ks.zip vs)) ∧ ks.length = vs.length ∧ RepL K G ds vs
  | .obj m c ns ds => m = true ∧ (∀ dx fs, M.plain (.ins (He.ga K c) dx fs)) ∧ ∃ dx vs, H a = some (.ins (He.ga K c) dx (ns.zip vs)) ∧ ns.length = vs.length ∧ RepL K G ds vs
  | _ => False
/-- a value and what it alone holds (S) -/
def Own (K : Frag) (M : Memo) (G H : Hp) (d : D) (v : V) (S : Addr → Prop) : Prop :=
  (Rep K G d v ∧ ∀ a, ¬ S a) ∨ ∃ a, v = .ref a ∧ G a = none ∧ (∀ b, S b ↔ b = a) ∧ OwnAt K M G H a d
def sealD : D → D
  | .lst _ xs => .lst false xs
  | .dic _ ks vs => .dic false ks vs
  | .obj _ c ns vs => .obj false c ns vs
  | d => d
theorem OwnAt.keep {K : Frag} {M : Memo} {G G' H H' : Hp} {a : Addr} {d : D} (e : Sub G G') (k : ∀ o, H a = some o → H' a = some o) (h : OwnAt K M G H a d) : OwnAt K M G' H' a d := by
  cases d with
  | lst m xs => obtain ⟨hm, vs, ha, hr⟩ := h; exact ⟨hm, vs, k _ ha, RepL.mono e _ _ hr⟩
  | dic m ks ds => obtain ⟨hm, vs, ha, hl, hr⟩ := h; exact ⟨hm, vs, k _ ha, hl, RepL.mono e _ _ hr⟩
  | obj m c ns ds => obtain ⟨hm, pl, dx, vs, ha, hl, hr⟩ := h; exact ⟨hm, pl, dx, vs, k _ ha, hl, RepL.mono e _ _ hr⟩
  | _ => exact (show False from h).elim
theorem OwnAt.there {K : Frag} {M : Memo} {G H : Hp} {a : Addr} {d : D} (h : OwnAt K M G H a d) : ∃ o, H a = some o := by
  cases d with
  | lst m xs => obtain ⟨_, vs, ha, _⟩ := h; exact ⟨_, ha⟩
  | dic m ks ds => obtain ⟨_, vs, ha, _⟩ := h; exact ⟨_, ha⟩
  | obj m c ns ds => obtain ⟨_, _, dx, vs, ha, _⟩ := h; exact ⟨_, ha⟩
  | _ => exact (show False from h).elim
theorem Own.keep {K : Frag} {M : Memo} {G G' H H' : Hp} {d : D} {v : V} {S : Addr → Prop} (h : Own K M G H d v S) (e : Sub G G') (k : ∀ a o, S a → H a = some o → H' a = some o) (n : ∀ a, S a → G' a = none) : Own K M G' H' d v S := by
  rcases h with ⟨h, hs⟩ | ⟨a, rfl, hg, hs, ho⟩
  · exact .inl ⟨Rep.mono e d v h, hs⟩
  · exact .inr ⟨a, rfl, n a ((hs a).mpr rfl), hs, ho.keep e fun o q => k a o ((hs a).mpr rfl) q⟩
theorem Own.there {K : Frag} {M : Memo} {G H : Hp} {d : D} {v : V} {S : Addr → Prop} (h : Own K M G H d v S) {a : Addr} (ha : S a) : (∃ o, H a = some o) ∧ G a = none := by
  rcases h with ⟨h, hs⟩ | ⟨b, rfl, hg, hs, ho⟩
  · exact (hs a ha).elim
  · cases (hs a).mp ha; exact ⟨ho.there, hg⟩
def none_ : Addr → Prop := fun _ => False
theorem Own.of {K : Frag} {M : Memo} {G H : Hp} {d : D} {v : V} (h : Rep K G d v) : Own K M G H d v none_ := .inl ⟨h, fun _ z => z⟩

/-! ### the state: slots, the heap, its part that stands still, what each slot alone holds -/
structure Mt (K : Frag) (M : Memo) (g : Sg) (σ : L2.St) (H G : Hp) (S : Nat → Addr → Prop) : Prop where
  len : g.length = σ.length
  own : ∀ i d, g[i]? = some (some d) → ∃ v, σ[i]? = some (some v) ∧ Own K M G H d v (S i)
  nil : ∀ i, (∀ d, g[i]? ≠ some (some d)) → ∀ a, ¬ S i a
  dis : ∀ i j a, S i a → S j a → i = j
  sub : Sub G H
  mem : M.inv G H
  vol : ∀ i a, S i a → ¬ M.vol G a
/-- what may change -/
def Vl (M : Memo) (G : Hp) (S : Nat → Addr → Prop) (a : Addr) : Prop := (∃ i, S i a) ∨ M.vol G a
/-- from one state to a later one -/
structure Stp (M : Memo) (H G : Hp) (S : Nat → Addr → Prop) (H' G' : Hp) (S' : Nat → Addr → Prop) : Prop where
  gr : Sub G G'
  fr : ∀ a o, H a = some o → ¬ Vl M G S a → H' a = some o
  th : ∀ a o, H a = some o → ∃ o', H' a = some o'
  vl : ∀ a, Vl M G' S' a → Vl M G S a ∨ H a = none
  fg : ∀ a o, G' a = some o → G a = some o ∨ H a = none ∨ Vl M G S a
theorem Stp.refl {M : Memo} {H G : Hp} {S : Nat → Addr → Prop} : Stp M H G S H G S := ⟨Sub.refl _, fun _ _ h _ => h, fun _ o h => ⟨o, h⟩, fun _ h => .inl h, fun _ _ h => .inl h⟩
theorem Stp.back {M : Memo} {H G H1 G1 : Hp} {S S1 : Nat → Addr → Prop} (a : Stp M H G S H1 G1 S1) {x : Addr} (h : H1 x = none) : H x = none := by
  cases q : H x with
  | none => rfl
  | some o =>
    obtain ⟨o', e⟩ := a.th x o q
    rw [h] at e; cases e
theorem Stp.trans {M : Memo} {H G H1 G1 H2 G2 : Hp} {S S1 S2 : Nat → Addr → Prop} (a : Stp M H G S H1 G1 S1) (b : Stp M H1 G1 S1 H2 G2 S2) : Stp M H G S H2 G2 S2 := by
  have vb : ∀ x o, H x = some o → ¬ Vl M G S x → ¬ Vl M G1 S1 x := fun x o q z y => by
    rcases a.vl x y with y | y
    · exact z y
    · rw [q] at y; cases y
  refine ⟨a.gr.trans b.gr, fun x o q z => b.fr x o (a.fr x o q z) (vb x o q z), fun x o q => ?_, fun x h => ?_, fun x o h => ?_⟩
  · obtain ⟨o1, q1⟩ := a.th x o q
    exact b.th x o1 q1
  · rcases b.vl x h with h | h
    · exact a.vl x h
    · exact .inr (a.back h)
  · rcases b.fg x o h with h | h | h
    · exact a.fg x o h
    · exact .inr (.inl (a.back h))
    · rcases a.vl x h with h | h
      · exact .inr (.inr h)
      · exact .inr (.inl h)
/-- what lies apart from the slots stays as it was -/
theorem Own.stp {K : Frag} {M : Memo} {H G H' G' : Hp} {S S' : Nat → Addr → Prop} {d : D} {v : V} {T : Addr → Prop} (h : Own K M G H d v T) (st : Stp M H G S H' G' S') (ap : ∀ a, T a → ¬ Vl M G S a) : Own K M G' H' d v T := by
  refine h.keep st.gr (fun a o ta q => st.fr a o q (ap a ta)) fun a ta => ?_
  obtain ⟨⟨o, ho⟩, hg⟩ := h.there ta
  cases q : G' a with
  | none => rfl
  | some u =>
    rcases st.fg a u q with z | z | z
    · rw [hg] at z; cases z
    · rw [ho] at z; cases z
    · exact (ap a ta z).elim
theorem Stp.apart {M : Memo} {H G H' G' : Hp} {S S' : Nat → Addr → Prop} (st : Stp M H G S H' G' S') {a : Addr} {o : HO} (ho : H a = some o) (ap : ¬ Vl M G S a) : ¬ Vl M G' S' a := fun z => by
  rcases st.vl a z with z | z
  · exact ap z
  · rw [ho] at z; cases z
end PI

set_option Elab.async false
set_option linter.all false
set_option maxRecDepth 100000
set_option maxHeartbeats 1000000
namespace PI
open PySem PySem.Spec PyProof.Rows L2
open PySem.W (Frag)
/-! ### what a piece of text does to the slots -/
inductive Rs (α : Type) where
  | bad | ok (a : α) (g : Sg) | exc (c : Str) (d : D) (g : Sg)
def Rs.bind {α β : Type} (r : Rs α) (k : α → Sg → Rs β) : Rs β := match r with
  | .bad => .bad
  | .ok a g => k a g
  | .exc c d g => .exc c d g
@[simp] theorem Rs.bind_bad {α β : Type} (k : α → Sg → Rs β) : (Rs.bad : Rs α).bind k = .bad := rfl
@[simp] theorem Rs.bind_ok {α β : Type} (a : α) (g : Sg) (k : α → Sg → Rs β) : (Rs.ok a g).bind k = k a g := rfl
@[simp] theorem Rs.bind_exc {α β : Type} (c : Str) (d : D) (g : Sg) (k : α → Sg → Rs β) : (Rs.exc c d g : Rs α).bind k = .exc c d g := rfl
inductive Cr where
  | bad | ok (d : D) (rs : List D) | exc (c : Str) (d : D) (rs : List D)
abbrev CT := Str → List D → Cr
abbrev PX := Sg → Rs D
abbrev PT' := Sg → Rs Bool
inductive Fl where
  | nx | rt (d : D) | bk | ct
abbrev PF := Sg → Rs Fl

section
variable (K : Frag) (M : Memo)
/-- what is wanted of an exception -/
def EndX (W : WX) (σ : L2.St) (H G : Hp) (S : Nat → Addr → Prop) (c : Str) (d : D) (g' : Sg) : Prop :=
  ∀ v H' G' S' dd, Mt K M g' σ H' G' S' → Rep K G' d v → Stp M H G S H' G' S' → H' dd = some (.xd [("value", v)]) → W (.ref (He.ga K c)) (some dd) σ H'
/-- a value, with what it alone holds: new, apart from the slots -/
def Got (H : Hp) (g' : Sg) (σ : L2.St) (H' G' : Hp) (S' : Nat → Addr → Prop) (d : D) (v : V) (T : Addr → Prop) : Prop :=
  Mt K M g' σ H' G' S' ∧ Own K M G' H' d v T ∧ ∀ a, T a → ¬ Vl M G' S' a ∧ H a = none
def EndE (W : WX) (σ : L2.St) (H G : Hp) (S : Nat → Addr → Prop) (r : Rs D) (Q : VK) : Prop := match r with
  | .bad => False
  | .ok d g' => ∀ v H' G' S' T, Got K M H g' σ H' G' S' d v T → Stp M H G S H' G' S' → Q v H'
  | .exc c d g' => EndX K M W σ H G S c d g'
def EndB (W : WX) (σ : L2.St) (H G : Hp) (S : Nat → Addr → Prop) (r : Rs Bool) (Q : Bool → Hp → Prop) : Prop := match r with
  | .bad => False
  | .ok b g' => ∀ H' G' S', Mt K M g' σ H' G' S' → Stp M H G S H' G' S' → Q b H'
  | .exc c d g' => EndX K M W σ H G S c d g'
def tP (W : WX) (m : PX) : TE := fun σ H Q => ∃ g G S, Mt K M g σ H G S ∧ EndE K M W σ H G S (m g) Q
def tB' (W : WX) (m : PT') : TT := fun σ H Q => ∃ g G S, Mt K M g σ H G S ∧ EndB K M W σ H G S (m g) Q
/-- a list of values that are no longer changed -/
def EndL (W : WX) (σ : L2.St) (H G : Hp) (S : Nat → Addr → Prop) (r : Rs (List D)) (Q : List V → Hp → Prop) : Prop := match r with
  | .bad => False
  | .ok ds g' => ∀ vs H' G' S', Mt K M g' σ H' G' S' → RepL K G' ds vs → Stp M H G S H' G' S' → Q vs H'
  | .exc c d g' => EndX K M W σ H G S c d g'
def tL (W : WX) (m : Sg → Rs (List D)) : TA := fun σ H Q => ∃ g G S, Mt K M g σ H G S ∧ EndL K M W σ H G S (m g) Q
end

section
variable {K : Frag} {M : Memo} {W : WX} {σ : L2.St} {H G H1 G1 : Hp} {S S1 : Nat → Addr → Prop} {g g1 : Sg}
theorem EndX.of {c : Str} {d : D} (h : EndX K M W σ H G S c d g) (st : Stp M H G S H1 G1 S1) : EndX K M W σ H1 G1 S1 c d g :=
  fun v H' G' S' dd m r s x => h v H' G' S' dd m r (st.trans s) x
theorem EndE.of {r : Rs D} {Q : VK} (h : EndE K M W σ H G S r Q) (st : Stp M H G S H1 G1 S1) : EndE K M W σ H1 G1 S1 r Q := by
  cases r with
  | bad => exact h
  | ok d g' => exact fun v H' G' S' T ⟨m, o, a⟩ s => h v H' G' S' T ⟨m, o, fun x hx => ⟨(a x hx).1, st.back (a x hx).2⟩⟩ (st.trans s)
  | exc c d g' => exact EndX.of h st
theorem EndB.of {r : Rs Bool} {Q : Bool → Hp → Prop} (h : EndB K M W σ H G S r Q) (st : Stp M H G S H1 G1 S1) : EndB K M W σ H1 G1 S1 r Q := by
  cases r with
  | bad => exact h
  | ok d g' => exact fun H' G' S' m s => h H' G' S' m (st.trans s)
  | exc c d g' => exact EndX.of h st
theorem EndL.of {r : Rs (List D)} {Q : List V → Hp → Prop} (h : EndL K M W σ H G S r Q) (st : Stp M H G S H1 G1 S1) : EndL K M W σ H1 G1 S1 r Q := by
  cases r with
  | bad => exact h
  | ok d g' => exact fun vs H' G' S' m r s => h vs H' G' S' m r (st.trans s)
  | exc c d g' => exact EndX.of h st
theorem EndE.imp {r : Rs D} {Q Q' : VK} (h : EndE K M W σ H G S r Q) (k : ∀ v H', Q v H' → Q' v H') : EndE K M W σ H G S r Q' := by
  cases r with
  | bad => exact h
  | ok d g' => exact fun v H' G' S' T m s => k _ _ (h v H' G' S' T m s)
  | exc c d g' => exact h
/-- a bind: first an expression -/
theorem EndE.bind {r : Rs D} {k : D → Sg → Rs D} {Q : VK} (h : EndE K M W σ H G S (r.bind k) Q) :
    EndE K M W σ H G S r fun v H' => ∃ d g' G' S' T, r = .ok d g' ∧ Got K M H g' σ H' G' S' d v T ∧ Stp M H G S H' G' S' ∧ EndE K M W σ H G S (k d g') Q := by
  cases r with
  | bad => exact h
  | ok d g' => exact fun v H' G' S' T m s => ⟨d, g', G', S', T, rfl, m, s, h⟩
  | exc c d g' => exact h
theorem EndL.bindE {r : Rs D} {k : D → Sg → Rs (List D)} {Q : List V → Hp → Prop} (h : EndL K M W σ H G S (r.bind k) Q) :
    EndE K M W σ H G S r fun v H' => ∃ d g' G' S' T, r = .ok d g' ∧ Got K M H g' σ H' G' S' d v T ∧ Stp M H G S H' G' S' ∧ EndL K M W σ H G S (k d g') Q := by
  cases r with
  | bad => exact h
  | ok d g' => exact fun v H' G' S' T m s => ⟨d, g', G', S', T, rfl, m, s, h⟩
  | exc c d g' => exact h
theorem EndE.bindL {r : Rs (List D)} {k : List D → Sg → Rs D} {Q : VK} (h : EndE K M W σ H G S (r.bind k) Q) :
    EndL K M W σ H G S r fun vs H' => ∃ ds g' G' S', r = .ok ds g' ∧ Mt K M g' σ H' G' S' ∧ RepL K G' ds vs ∧ Stp M H G S H' G' S' ∧ EndE K M W σ H G S (k ds g') Q := by
  cases r with
  | bad => exact h
  | ok d g' => exact fun v H' G' S' m rr s => ⟨d, g', G', S', rfl, m, rr, s, h⟩
  | exc c d g' => exact h
theorem EndE.bindB {r : Rs Bool} {k : Bool → Sg → Rs D} {Q : VK} (h : EndE K M W σ H G S (r.bind k) Q) :
    EndB K M W σ H G S r fun b H' => ∃ g' G' S', r = .ok b g' ∧ Mt K M g' σ H' G' S' ∧ Stp M H G S H' G' S' ∧ EndE K M W σ H G S (k b g') Q := by
  cases r with
  | bad => exact h
  | ok d g' => exact fun H' G' S' m s => ⟨g', G', S', rfl, m, s, h⟩
  | exc c d g' => exact h
theorem EndB.bindB {r : Rs Bool} {k : Bool → Sg → Rs Bool} {Q : Bool → Hp → Prop} (h : EndB K M W σ H G S (r.bind k) Q) :
    EndB K M W σ H G S r fun b H' => ∃ g' G' S', r = .ok b g' ∧ Mt K M g' σ H' G' S' ∧ Stp M H G S H' G' S' ∧ EndB K M W σ H G S (k b g') Q := by
  cases r with
  | bad => exact h
  | ok d g' => exact fun H' G' S' m s => ⟨g', G', S', rfl, m, s, h⟩
  | exc c d g' => exact h
theorem EndB.bindE {r : Rs D} {k : D → Sg → Rs Bool} {Q : Bool → Hp → Prop} (h : EndB K M W σ H G S (r.bind k) Q) :
    EndE K M W σ H G S r fun v H' => ∃ d g' G' S' T, r = .ok d g' ∧ Got K M H g' σ H' G' S' d v T ∧ Stp M H G S H' G' S' ∧ EndB K M W σ H G S (k d g') Q := by
  cases r with
  | bad => exact h
  | ok d g' => exact fun v H' G' S' T m s => ⟨d, g', G', S', T, rfl, m, s, h⟩
  | exc c d g' => exact h

theorem EndL.imp {r : Rs (List D)} {Q Q' : List V → Hp → Prop} (h : EndL K M W σ H G S r Q) (k : ∀ v H', Q v H' → Q' v H') : EndL K M W σ H G S r Q' := by
  cases r with
  | bad => exact h
  | ok d g' => exact fun v H' G' S' m rr s => k _ _ (h v H' G' S' m rr s)
  | exc c d g' => exact h
theorem EndB.imp {r : Rs Bool} {Q Q' : Bool → Hp → Prop} (h : EndB K M W σ H G S r Q) (k : ∀ v H', Q v H' → Q' v H') : EndB K M W σ H G S r Q' := by
  cases r with
  | bad => exact h
  | ok d g' => exact fun H' G' S' m s => k _ _ (h H' G' S' m s)
  | exc c d g' => exact h
theorem EndL.bindL {r : Rs (List D)} {k : List D → Sg → Rs (List D)} {Q : List V → Hp → Prop} (h : EndL K M W σ H G S (r.bind k) Q) :
    EndL K M W σ H G S r fun vs H' => ∃ ds g' G' S', r = .ok ds g' ∧ Mt K M g' σ H' G' S' ∧ RepL K G' ds vs ∧ Stp M H G S H' G' S' ∧ EndL K M W σ H G S (k ds g') Q := by
  cases r with
  | bad => exact h
  | ok d g' => exact fun v H' G' S' m rr s => ⟨d, g', G', S', rfl, m, rr, s, h⟩
  | exc c d g' => exact h
theorem EndB.bindL {r : Rs (List D)} {k : List D → Sg → Rs Bool} {Q : Bool → Hp → Prop} (h : EndB K M W σ H G S (r.bind k) Q) :
    EndL K M W σ H G S r fun vs H' => ∃ ds g' G' S', r = .ok ds g' ∧ Mt K M g' σ H' G' S' ∧ RepL K G' ds vs ∧ Stp M H G S H' G' S' ∧ EndB K M W σ H G S (k ds g') Q := by
  cases r with
  | bad => exact h
  | ok d g' => exact fun v H' G' S' m rr s => ⟨d, g', G', S', rfl, m, rr, s, h⟩
  | exc c d g' => exact h

/-! ### the heap's steps -/
/-- a new object that stands still -/
theorem Mt.new {p : Addr} {o : HO} (h : Mt K M g σ H G S) (hp : H p = none) (pl : M.plain o) : Mt K M g σ (upd H p o) (upd G p o) S := by
  have gp : G p = none := by
    cases q : G p with
    | none => rfl
    | some u => rw [h.sub p u q] at hp; cases hp
  have sg : Sub G (upd G p o) := Sub.new gp
  have sh : Sub H (upd H p o) := Sub.new hp
  have sp : ∀ i a, S i a → a ≠ p := fun i a ha z => by
    by_cases e : ∃ d, g[i]? = some (some d)
    · obtain ⟨d, e⟩ := e
      obtain ⟨v, _, ow⟩ := h.own i d e
      obtain ⟨⟨o', ho⟩, _⟩ := ow.there ha
      rw [z, hp] at ho; cases ho
    · exact h.nil i (fun d q => e ⟨d, q⟩) a ha
  refine ⟨h.len, fun i d e => ?_, h.nil, h.dis, fun a u e => ?_, ?_, fun i a ha hv => ?_⟩
  · obtain ⟨v, e1, ow⟩ := h.own i d e
    refine ⟨v, e1, ow.keep sg (fun a u _ q => sh a u q) fun a ha => ?_⟩
    rw [upd_ne (sp i a ha)]
    exact (ow.there ha).2
  · by_cases z : a = p
    · subst z; rw [upd_same] at e; rw [upd_same]; exact e
    · rw [upd_ne z] at e; rw [upd_ne z]; exact h.sub a u e
  · refine M.keep G H _ _ h.mem sg (fun x u e => ?_) fun b u e _ => sh b u e
    by_cases z : x = p
    · subst z; rw [upd_same] at e; cases e; exact .inr pl
    · rw [upd_ne z] at e; exact .inl e
  · exact h.vol i a ha ((M.grow G p o gp pl a).mp hv)
theorem Mt.gnone (h : Mt K M g σ H G S) {p : Addr} (hp : H p = none) : G p = none := by
  cases q : G p with
  | none => rfl
  | some u => rw [h.sub p u q] at hp; cases hp
theorem Mt.snone (h : Mt K M g σ H G S) {p : Addr} (hp : H p = none) : ¬ Vl M G S p := by
  rintro (⟨i, hi⟩ | hv)
  · by_cases e : ∃ d, g[i]? = some (some d)
    · obtain ⟨d, e⟩ := e
      obtain ⟨v, _, ow⟩ := h.own i d e
      obtain ⟨⟨o', ho⟩, _⟩ := ow.there hi
      rw [hp] at ho; cases ho
    · exact h.nil i (fun d q => e ⟨d, q⟩) p hi
  · obtain ⟨⟨o, ho⟩, _⟩ := M.there G H p h.mem hv
    rw [hp] at ho; cases ho
theorem Mt.newStp {p : Addr} {o : HO} (h : Mt K M g σ H G S) (hp : H p = none) (pl : M.plain o) : Stp M H G S (upd H p o) (upd G p o) S := by
  have gp := h.gnone hp
  refine ⟨Sub.new gp, fun a u q _ => by rw [upd_ne (ne_of_none q hp)]; exact q, fun a u q => ⟨u, by rw [upd_ne (ne_of_none q hp)]; exact q⟩, fun a z => .inl ?_, fun a u q => ?_⟩
  · rcases z with z | z
    · exact .inl z
    · exact .inr ((M.grow G p o gp pl a).mp z)
  · by_cases z : a = p
    · subst z; exact .inr (.inl hp)
    · rw [upd_ne z] at q; exact .inl q
/-- a new object that its holder may still change: tracked, not still -/
theorem Mt.newOwn {p : Addr} {o : HO} (h : Mt K M g σ H G S) (hp : H p = none) : Mt K M g σ (upd H p o) G S := by
  have sh : Sub H (upd H p o) := Sub.new hp
  refine ⟨h.len, fun i d e => ?_, h.nil, h.dis, fun a u e => sh a u (h.sub a u e), ?_, h.vol⟩
  · obtain ⟨v, e1, ow⟩ := h.own i d e
    exact ⟨v, e1, ow.keep (Sub.refl _) (fun a u _ q => sh a u q) fun a ha => (ow.there ha).2⟩
  · exact M.keep G H _ _ h.mem (Sub.refl _) (fun x u e => .inl e) fun b u e _ => sh b u e
theorem Mt.newOwnStp {p : Addr} {o : HO} (h : Mt K M g σ H G S) (hp : H p = none) : Stp M H G S (upd H p o) G S :=
  ⟨Sub.refl _, fun a u q _ => by rw [upd_ne (ne_of_none q hp)]; exact q, fun a u q => ⟨u, by rw [upd_ne (ne_of_none q hp)]; exact q⟩, fun a z => .inl z, fun a u q => .inl q⟩
end
end PI

set_option Elab.async false
set_option linter.all false
set_option maxRecDepth 100000
set_option maxHeartbeats 1000000
namespace PI
open PySem PySem.Spec PyProof.Rows L2
open PySem.W (Frag)
/-! ### sealing: what is held alone is from now on still -/
section
variable {K : Frag} {M : Memo} {W : WX} {σ : L2.St} {H H0 G H1 G1 : Hp} {S S1 : Nat → Addr → Prop} {g g1 : Sg} {X : Cx}
theorem PE.imp {e : Expr} {t t' : TE} (h : PE X e t) (k : ∀ σ H Q, t' σ H Q → t σ H Q) : PE X e t' := ⟨fun pins s σ H Q I q => h.run pins s σ H Q I (k σ H Q q)⟩
theorem PT.imp {e : Expr} {t t' : TT} (h : PT X e t) (k : ∀ σ H Q, t' σ H Q → t σ H Q) : PT X e t' := ⟨fun pins s σ H Q I q => h.run pins s σ H Q I (k σ H Q q)⟩
theorem PA.imp {es : List Expr} {t t' : TA} (h : PA X es t) (k : ∀ σ H Q, t' σ H Q → t σ H Q) : PA X es t' := ⟨fun pos pins s σ H Q I q => h.run pos pins s σ H Q I (k σ H Q q)⟩
theorem PS.imp {st : Stmt} {t t' : TS} (h : PS X st t) (k : ∀ D σ H, t' D σ H → t D σ H) : PS X st t' := ⟨fun pins s σ H D I q => h.run pins s σ H D I (k D σ H q)⟩
theorem PSs.imp {st : List Stmt} {t t' : TS} (h : PSs X st t) (k : ∀ D σ H, t' D σ H → t D σ H) : PSs X st t' := ⟨fun pins s σ H D I q => h.run pins s σ H D I (k D σ H q)⟩
theorem Rep.seal {d : D} {v : V} (h : Rep K G d v) : sealD d = d := by
  cases d with
  | lst m xs => cases (show m = false from h.1); rfl
  | dic m ks ds => cases (show m = false from h.1); rfl
  | obj m c ns ds => cases (show m = false from h.1); rfl
  | _ => rfl
/-- the object of an owned value, and that it may stand still -/
theorem OwnAt.sealed {a : Addr} {d : D} (h : OwnAt K M G H a d) (ga : G a = none) : ∃ o, H a = some o ∧ M.plain o ∧ Rep K (upd G a o) (sealD d) (.ref a) := by
  cases d with
  | lst m xs =>
    obtain ⟨hm, vs, ha, hr⟩ := h
    exact ⟨_, ha, M.lst _, rfl, a, vs, rfl, SqL.of upd_same, RepL.mono (Sub.new ga) _ _ hr⟩
  | dic m ks ds =>
    obtain ⟨hm, vs, ha, hl, hr⟩ := h
    exact ⟨_, ha, M.dK _, rfl, a, vs, rfl, upd_same, hl, RepL.mono (Sub.new ga) _ _ hr⟩
  | obj m c ns ds =>
    obtain ⟨hm, pl, dx, vs, ha, hl, hr⟩ := h
    exact ⟨_, ha, pl _ _, rfl, a, dx, vs, rfl, upd_same, hl, RepL.mono (Sub.new ga) _ _ hr⟩
  | _ => exact (show False from h).elim
/-- G grows by an object that lies apart -/
theorem Mt.still {a : Addr} {o : HO} (h : Mt K M g σ H G S) (ha : H a = some o) (ga : G a = none) (ap : ∀ i, ¬ S i a) (pl : M.plain o) : Mt K M g σ H (upd G a o) S := by
  have sg : Sub G (upd G a o) := Sub.new ga
  refine ⟨h.len, fun i d e => ?_, h.nil, h.dis, fun b u e => ?_, ?_, fun i b hb hv => h.vol i b hb ((M.grow G a o ga pl b).mp hv)⟩
  · obtain ⟨v, e1, ow⟩ := h.own i d e
    refine ⟨v, e1, ow.keep sg (fun b u _ q => q) fun b hb => ?_⟩
    have ne : b ≠ a := fun z => ap i (z ▸ hb)
    rw [upd_ne ne]
    exact (ow.there hb).2
  · by_cases z : b = a
    · subst z; rw [upd_same] at e; cases e; exact ha
    · rw [upd_ne z] at e; exact h.sub b u e
  · refine M.keep G H _ _ h.mem sg (fun x u e => ?_) fun b u e _ => e
    by_cases z : x = a
    · subst z; rw [upd_same] at e; cases e; exact .inr pl
    · rw [upd_ne z] at e; exact .inl e
/-- a new thing that someone alone held is now still -/
theorem Got.seal {d : D} {v : V} {T : Addr → Prop} (h : Got K M H0 g σ H G S d v T) : ∃ G', Mt K M g σ H G' S ∧ Rep K G' (sealD d) v ∧ Sub G G' ∧ (∀ a o, G' a = some o → G a = some o ∨ H0 a = none) ∧ ∀ a, Vl M G' S a ↔ Vl M G S a := by
  obtain ⟨m, ow, ap⟩ := h
  rcases ow with ⟨r, _⟩ | ⟨a, rfl, ga, hs, oa⟩
  · exact ⟨G, m, by rw [r.seal]; exact r, Sub.refl _, fun _ _ e => .inl e, fun _ => Iff.rfl⟩
  · obtain ⟨o, ha, pl, rp⟩ := oa.sealed ga
    have hT := ap a ((hs a).mpr rfl)
    refine ⟨upd G a o, m.still ha ga (fun i z => hT.1 (.inl ⟨i, z⟩)) pl, rp, Sub.new ga, fun b u e => ?_, fun b => ?_⟩
    · by_cases z : b = a
      · subst z; exact .inr hT.2
      · rw [upd_ne z] at e; exact .inl e
    · exact ⟨fun z => z.elim .inl fun z => .inr ((M.grow G a o ga pl b).mp z), fun z => z.elim .inl fun z => .inr ((M.grow G a o ga pl b).mpr z)⟩
theorem Stp.sealed {G' : Hp} (st : Stp M H0 G S H1 G1 S1) (sb : Sub G1 G') (hg : ∀ a o, G' a = some o → G1 a = some o ∨ H0 a = none) (hv : ∀ a, Vl M G' S1 a ↔ Vl M G1 S1 a) : Stp M H0 G S H1 G' S1 := by
  refine ⟨st.gr.trans sb, st.fr, st.th, fun a z => st.vl a ((hv a).mp z), fun a o e => ?_⟩
  rcases hg a o e with e | e
  · exact st.fg a o e
  · exact .inr (.inl e)
/-- the slot i is sealed -/
theorem Mt.sealSlot {i : Nat} {d : D} (h : Mt K M g σ H G S) (e : g[i]? = some (some d)) :
    ∃ v G' S', σ[i]? = some (some v) ∧ Mt K M (g.set i (some (sealD d))) σ H G' S' ∧ Rep K G' (sealD d) v ∧ Stp M H G S H G' S' := by
  obtain ⟨v, ev, ow⟩ := h.own i d e
  have hi : i < g.length := (List.getElem?_eq_some_iff.mp e).1
  have hlen : (g.set i (some (sealD d))).length = σ.length := by rw [List.length_set]; exact h.len
  have oth : ∀ j, j ≠ i → (g.set i (some (sealD d)))[j]? = g[j]? := fun j hj => List.getElem?_set_ne (Ne.symm hj)
  have slf : (g.set i (some (sealD d)))[i]? = some (some (sealD d)) := List.getElem?_set_self hi
  rcases ow with ⟨r, hn⟩ | ⟨a, rfl, ga, hs, oa⟩
  · have es : g.set i (some (sealD d)) = g := by
      rw [r.seal]
      exact List.ext_getElem? fun j => by
        by_cases hj : j = i
        · subst hj; rw [List.getElem?_set_self hi, e]
        · exact List.getElem?_set_ne (Ne.symm hj)
    exact ⟨v, G, S, ev, by rw [es]; exact h, by rw [r.seal]; exact r, Stp.refl⟩
  · obtain ⟨o, ha, pl, rp⟩ := oa.sealed ga
    have sia : S i a := (hs a).mpr rfl
    have sg : Sub G (upd G a o) := Sub.new ga
    refine ⟨.ref a, upd G a o, fun j b => j ≠ i ∧ S j b, ev, ⟨hlen, fun j d' e' => ?_, fun j q b z => ?_, fun j k b z z' => h.dis j k b z.2 z'.2, fun b u q => ?_, ?_, fun j b z hv => h.vol j b z.2 ((M.grow G a o ga pl b).mp hv)⟩, rp, ⟨sg, fun b u q _ => q, fun b u q => ⟨u, q⟩, fun b z => ?_, fun b u q => ?_⟩⟩
    · by_cases hj : j = i
      · subst hj
        rw [slf] at e'; cases e'
        exact ⟨.ref a, ev, .inl ⟨rp, fun b z => z.1 rfl⟩⟩
      · rw [oth j hj] at e'
        obtain ⟨v', e1, ow'⟩ := h.own j d' e'
        have q1 := ow'.keep (H' := H) sg (fun b u _ q => q) fun b hb => by
          have ne : b ≠ a := fun z => hj (h.dis j i b hb (z ▸ sia))
          rw [upd_ne ne]
          exact (ow'.there hb).2
        have q2 : (fun b => j ≠ i ∧ S j b) = S j := funext fun b => propext ⟨fun z => z.2, fun z => ⟨hj, z⟩⟩
        exact ⟨v', e1, by rw [q2]; exact q1⟩
    · by_cases hj : j = i
      · exact z.1 hj
      · rw [oth j hj] at q; exact h.nil j q b z.2
    · by_cases z : b = a
      · subst z; rw [upd_same] at q; cases q; exact ha
      · rw [upd_ne z] at q; exact h.sub b u q
    · refine M.keep G H _ _ h.mem sg (fun x u q => ?_) fun b u q _ => q
      by_cases z : x = a
      · subst z; rw [upd_same] at q; cases q; exact .inr pl
      · rw [upd_ne z] at q; exact .inl q
    · rcases z with ⟨j, _, z⟩ | z
      · exact .inl (.inl ⟨j, z⟩)
      · exact .inl (.inr ((M.grow G a o ga pl b).mp z))
    · by_cases z : b = a
      · subst z; exact .inr (.inr (.inl ⟨i, sia⟩))
      · rw [upd_ne z] at q; exact .inl q
end

/-! ### the words: constants, names, displays -/
def pC (d : D) : PX := fun g => .ok d g
def pV (i : Nat) : PX := fun g => match g[i]? with
  | some (some d) => .ok (sealD d) (g.set i (some (sealD d)))
  | _ => .bad
def pBad : PX := fun _ => .bad
/-- sealed, one behind another -/
def pAll : List PX → Sg → Rs (List D)
  | [], g => .ok [] g
  | m :: ms, g => (m g).bind fun d g1 => (pAll ms g1).bind fun ds g2 => .ok (sealD d :: ds) g2
def pTup (ms : List PX) : PX := fun g => (pAll ms g).bind fun ds g1 => if ds.length ≤ 1000 then .ok (.tup ds) g1 else .bad
def pLst (ms : List PX) : PX := fun g => (pAll ms g).bind fun ds g1 => if ds.length ≤ 1000 then .ok (.lst true ds) g1 else .bad
section
variable {K : Frag} {M : Memo} {W : WX} {X : Cx}
theorem pe_bad {e : Expr} : PE X e (tP K M W pBad) := ⟨fun pins s σ H Q I h => by obtain ⟨g, G, S, m, z⟩ := h; exact (show False from z).elim⟩
theorem pe_C {e : Expr} {d : D} {v : V} (h : PE X e (tC v)) (r : ∀ G, Rep K G d v) : PE X e (tP K M W (pC d)) := by
  refine PE.imp h fun σ H Q q => ?_
  obtain ⟨g, G, S, m, q⟩ := q
  exact (show EndE K M W σ H G S (.ok d g) Q from q) v H G S none_ ⟨m, Own.of (r G), fun a z => z.elim⟩ Stp.refl
theorem pe_V {e : Expr} {i : Nat} (h : PE X e (tVar i)) : PE X e (tP K M W (pV i)) := by
  refine PE.imp h fun σ H Q q => ?_
  obtain ⟨g, G, S, m, q⟩ := q
  unfold pV at q
  split at q
  · rename_i d e
    obtain ⟨v, G', S', ev, m', r, st⟩ := m.sealSlot e
    exact ⟨v, ev, q v H G' S' none_ ⟨m', Own.of r, fun a z => z.elim⟩ st⟩
  · exact (show False from q).elim
theorem pa_all0 : PA X [] (tL K M W (pAll [])) := by
  refine PA.imp pa_nil fun σ H Q q => ?_
  obtain ⟨g, G, S, m, q⟩ := q
  exact (show EndL K M W σ H G S (.ok [] g) Q from q) [] H G S m rfl Stp.refl
theorem pa_allc {e : Expr} {es : List Expr} {m : PX} {ms : List PX} (hp : PE X e (tP K M W m)) (hr : PA X es (tL K M W (pAll ms))) (hs : starEach (e :: es) X.env = (false, eval e X.env) :: starEach es X.env) : PA X (e :: es) (tL K M W (pAll (m :: ms))) := by
  refine PA.imp (pa_cons hp hr hs) fun σ H Q q => ?_
  obtain ⟨g, G, S, mt, q⟩ := q
  have q1 := EndL.bindE (show EndL K M W σ H G S ((m g).bind _) Q from q)
  refine ⟨g, G, S, mt, EndE.imp q1 fun v H1 ⟨d, g1, G1, S1, T, er, got, st, q2⟩ => ?_⟩
  obtain ⟨G1', m1, r1, sb, hg, hv⟩ := got.seal
  have st1 := st.sealed sb hg hv
  refine ⟨g1, G1', S1, m1, ?_⟩
  have q3 := EndL.bindL (EndL.of q2 st1)
  refine EndL.imp q3 fun vs H2 ⟨ds, g2, G2, S2, er2, m2, rr, st2, q4⟩ => ?_
  exact (show EndL K M W σ H1 G1' S1 (.ok (sealD d :: ds) g2) Q from q4) (v :: vs) H2 G2 S2 m2 ⟨v, vs, rfl, Rep.mono st2.gr _ _ r1, rr⟩ st2
theorem sz1000 {n : Nat} (h : n ≤ 1000) : n ≤ sizeLine := by rw [sizeLine_eq]; omega
theorem pe_Tup {es : List Expr} {x1 : Nat} {pos : Pos} {ms : List PX} (h : PA X es (tL K M W (pAll ms))) : PE X (.Tuple es x1 pos) (tP K M W (pTup ms)) := by
  refine PE.imp (pe_tup h) fun σ H Q q => ?_
  obtain ⟨g, G, S, mt, q⟩ := q
  refine ⟨g, G, S, mt, EndL.imp (EndE.bindL q) fun vs H1 ⟨ds, g1, G1, S1, er, m1, rr, st, q2⟩ => ?_⟩
  split at q2
  · rename_i hl
    refine ⟨sz1000 (by rw [← rr.len]; exact hl), fun p hp => ?_⟩
    have m2 := m1.new hp (M.tup vs)
    have gp := m1.gnone hp
    refine (show EndE K M W σ H G S (.ok (.tup ds) g1) Q from q2) (.ref p) _ _ S1 none_ ⟨m2, Own.of ⟨p, vs, rfl, SqT.of upd_same, RepL.mono (Sub.new gp) _ _ rr⟩, fun a z => z.elim⟩ (st.trans (m1.newStp hp (M.tup vs)))
  · exact (show False from q2).elim
theorem pe_Lst {es : List Expr} {pos : Pos} {ms : List PX} (h : PA X es (tL K M W (pAll ms))) : PE X (.List es pos) (tP K M W (pLst ms)) := by
  refine PE.imp (pe_lst h) fun σ H Q q => ?_
  obtain ⟨g, G, S, mt, q⟩ := q
  refine ⟨g, G, S, mt, EndL.imp (EndE.bindL q) fun vs H1 ⟨ds, g1, G1, S1, er, m1, rr, st, q2⟩ => ?_⟩
  split at q2
  · rename_i hl
    refine ⟨sz1000 (by rw [← rr.len]; exact hl), fun p hp => ?_⟩
    have gp := m1.gnone hp
    refine (show EndE K M W σ H G S (.ok (.lst true ds) g1) Q from q2) (.ref p) _ _ S1 (fun a => a = p) ⟨m1.newOwn hp, .inr ⟨p, rfl, gp, fun b => Iff.rfl, rfl, vs, upd_same, rr⟩, fun a z => ?_⟩ (st.trans (m1.newOwnStp hp))
    cases z
    exact ⟨m1.snone hp, st.back hp⟩
  · exact (show False from q2).elim
end
end PI

set_option Elab.async false
set_option linter.all false
set_option maxRecDepth 100000
set_option maxHeartbeats 1000000
namespace PI
open PySem PySem.Spec PyProof.Rows L2
open PySem.W (Frag)
/-! ### operands: a name, which is only looked at; anything else -/
inductive Op where
  | nm (i : Nat) | ex (m : PX)
def evO (o : Op) (g : Sg) : Rs (Option D) := match o with
  | .nm i => (match g[i]? with
    | some (some _) => .ok none g
    | _ => .bad)
  | .ex m => (m g).bind fun d g1 => .ok (some d) g1
def rdO (g : Sg) (o : Op) (x : Option D) : Option D := match o with
  | .nm i => (g[i]?).join
  | .ex _ => x
def pOp1 (f : D → Sg → Rs D) (a : Op) : PX := fun g => (evO a g).bind fun x g1 => match rdO g1 a x with
  | some d => f d g1
  | none => .bad
def pOp2 (f : D → D → Sg → Rs D) (a b : Op) : PX := fun g => (evO a g).bind fun x g1 => (evO b g1).bind fun y g2 => match rdO g2 a x, rdO g2 b y with
  | some d, some e => f d e g2
  | _, _ => .bad
def evOs : List Op → Sg → Rs (List (Option D))
  | [], g => .ok [] g
  | o :: os, g => (evO o g).bind fun x g1 => (evOs os g1).bind fun xs g2 => .ok (x :: xs) g2
def rdOs (g : Sg) : List Op → List (Option D) → Option (List D)
  | [], _ => some []
  | o :: os, x :: xs => (match rdO g o x, rdOs g os xs with
    | some d, some ds => some (d :: ds)
    | _, _ => none)
  | _ :: _, [] => none
def pOps (f : List D → Sg → Rs D) (os : List Op) : PX := fun g => (evOs os g).bind fun xs g1 => match rdOs g1 os xs with
  | some ds => f ds g1
  | none => .bad
section
variable (K : Frag) (M : Memo)
/-- looked at -/
def Seen (G H : Hp) (d : D) (v : V) : Prop := ∃ T, Own K M G H d v T
def SeenL (G H : Hp) : List D → List V → Prop
  | [], vs => vs = []
  | d :: ds, vs => ∃ v r, vs = v :: r ∧ Seen K M G H d v ∧ SeenL G H ds r
/-- an operand behind its reckoning -/
def OpR' (H0 : Hp) (g : Sg) (σ : L2.St) (H G : Hp) (S : Nat → Addr → Prop) (o : Op) (x : Option D) (v : V) : Prop := match o with
  | .nm i => σ[i]? = some (some v)
  | .ex _ => ∃ d T, x = some d ∧ Own K M G H d v T ∧ ∀ a, T a → ¬ Vl M G S a ∧ H0 a = none
def OpRs (H0 : Hp) (g : Sg) (σ : L2.St) (H G : Hp) (S : Nat → Addr → Prop) : List Op → List (Option D) → List V → Prop
  | [], xs, vs => xs = [] ∧ vs = []
  | o :: os, xs, vs => ∃ x xr v vr, xs = x :: xr ∧ vs = v :: vr ∧ OpR' K M H0 g σ H G S o x v ∧ OpRs H0 g σ H G S os xr vr
def EndO (W : WX) (σ : L2.St) (H G : Hp) (S : Nat → Addr → Prop) (o : Op) (r : Rs (Option D)) (Q : VK) : Prop := match r with
  | .bad => False
  | .ok x g' => ∀ v H' G' S', Mt K M g' σ H' G' S' → OpR' K M H g' σ H' G' S' o x v → Stp M H G S H' G' S' → Q v H'
  | .exc c d g' => EndX K M W σ H G S c d g'
def EndOs (W : WX) (σ : L2.St) (H G : Hp) (S : Nat → Addr → Prop) (os : List Op) (r : Rs (List (Option D))) (Q : List V → Hp → Prop) : Prop := match r with
  | .bad => False
  | .ok xs g' => ∀ vs H' G' S', Mt K M g' σ H' G' S' → OpRs K M H g' σ H' G' S' os xs vs → Stp M H G S H' G' S' → Q vs H'
  | .exc c d g' => EndX K M W σ H G S c d g'
def tO (W : WX) (o : Op) : TE := fun σ H Q => ∃ g G S, Mt K M g σ H G S ∧ EndO K M W σ H G S o (evO o g) Q
def tOs (W : WX) (os : List Op) : TA := fun σ H Q => ∃ g G S, Mt K M g σ H G S ∧ EndOs K M W σ H G S os (evOs os g) Q
end
section
variable {K : Frag} {M : Memo} {W : WX} {X : Cx} {σ : L2.St} {H H0 G H1 G1 : Hp} {S S1 : Nat → Addr → Prop} {g g1 : Sg} {Q : VK}
theorem Seen.of {d : D} {v : V} (r : Rep K G d v) : Seen K M G H d v := ⟨_, Own.of r⟩
theorem EndO.imp {o : Op} {r : Rs (Option D)} {Q Q' : VK} (h : EndO K M W σ H G S o r Q) (k : ∀ v H', Q v H' → Q' v H') : EndO K M W σ H G S o r Q' := by
  cases r with
  | bad => exact h
  | ok x g' => exact fun v H' G' S' m rr s => k _ _ (h v H' G' S' m rr s)
  | exc c d g' => exact h
theorem EndOs.imp {os : List Op} {r : Rs (List (Option D))} {Q Q' : List V → Hp → Prop} (h : EndOs K M W σ H G S os r Q) (k : ∀ v H', Q v H' → Q' v H') : EndOs K M W σ H G S os r Q' := by
  cases r with
  | bad => exact h
  | ok x g' => exact fun v H' G' S' m rr s => k _ _ (h v H' G' S' m rr s)
  | exc c d g' => exact h
theorem OpR'.base {o : Op} {x : Option D} {v : V} (h : OpR' K M H1 g σ H G S o x v) (b : ∀ a, H1 a = none → H0 a = none) : OpR' K M H0 g σ H G S o x v := by
  cases o with
  | nm i => exact h
  | ex m => obtain ⟨d, T, e, ow, ap⟩ := h; exact ⟨d, T, e, ow, fun a ha => ⟨(ap a ha).1, b a (ap a ha).2⟩⟩
theorem OpRs.base : ∀ {os : List Op} {xs : List (Option D)} {vs : List V}, OpRs K M H1 g σ H G S os xs vs → (∀ a, H1 a = none → H0 a = none) → OpRs K M H0 g σ H G S os xs vs
  | [], _, _, h, _ => h
  | o :: os, _, _, h, b => by
    obtain ⟨x, xr, v, vr, rfl, rfl, h1, h2⟩ := h
    exact ⟨x, xr, v, vr, rfl, rfl, h1.base b, h2.base b⟩
theorem EndO.of {o : Op} {r : Rs (Option D)} {Q : VK} (h : EndO K M W σ H G S o r Q) (st : Stp M H G S H1 G1 S1) : EndO K M W σ H1 G1 S1 o r Q := by
  cases r with
  | bad => exact h
  | ok x g' => exact fun v H' G' S' m rr s => h v H' G' S' m (rr.base fun a => st.back) (st.trans s)
  | exc c d g' => exact EndX.of h st
theorem EndOs.of {os : List Op} {r : Rs (List (Option D))} {Q : List V → Hp → Prop} (h : EndOs K M W σ H G S os r Q) (st : Stp M H G S H1 G1 S1) : EndOs K M W σ H1 G1 S1 os r Q := by
  cases r with
  | bad => exact h
  | ok x g' => exact fun v H' G' S' m rr s => h v H' G' S' m (rr.base fun a => st.back) (st.trans s)
  | exc c d g' => exact EndX.of h st
/-- from an operand's reckoning to what comes -/
theorem EndE.bindO {o : Op} {r : Rs (Option D)} {k : Option D → Sg → Rs D} {Q : VK} (h : EndE K M W σ H G S (r.bind k) Q) :
    EndO K M W σ H G S o r fun v H' => ∃ x g' G' S', r = .ok x g' ∧ Mt K M g' σ H' G' S' ∧ OpR' K M H g' σ H' G' S' o x v ∧ Stp M H G S H' G' S' ∧ EndE K M W σ H G S (k x g') Q := by
  cases r with
  | bad => exact h
  | ok x g' => exact fun v H' G' S' m rr s => ⟨x, g', G', S', rfl, m, rr, s, h⟩
  | exc c d g' => exact h
theorem EndOs.bindO {o : Op} {os : List Op} {r : Rs (Option D)} {k : Option D → Sg → Rs (List (Option D))} {Q : List V → Hp → Prop} (h : EndOs K M W σ H G S os (r.bind k) Q) :
    EndO K M W σ H G S o r fun v H' => ∃ x g' G' S', r = .ok x g' ∧ Mt K M g' σ H' G' S' ∧ OpR' K M H g' σ H' G' S' o x v ∧ Stp M H G S H' G' S' ∧ EndOs K M W σ H G S os (k x g') Q := by
  cases r with
  | bad => exact h
  | ok x g' => exact fun v H' G' S' m rr s => ⟨x, g', G', S', rfl, m, rr, s, h⟩
  | exc c d g' => exact h
theorem EndOs.bindOs {os os' : List Op} {r : Rs (List (Option D))} {k : List (Option D) → Sg → Rs (List (Option D))} {Q : List V → Hp → Prop} (h : EndOs K M W σ H G S os' (r.bind k) Q) :
    EndOs K M W σ H G S os r fun vs H' => ∃ xs g' G' S', r = .ok xs g' ∧ Mt K M g' σ H' G' S' ∧ OpRs K M H g' σ H' G' S' os xs vs ∧ Stp M H G S H' G' S' ∧ EndOs K M W σ H G S os' (k xs g') Q := by
  cases r with
  | bad => exact h
  | ok x g' => exact fun v H' G' S' m rr s => ⟨x, g', G', S', rfl, m, rr, s, h⟩
  | exc c d g' => exact h
theorem EndE.bindOs {os : List Op} {r : Rs (List (Option D))} {k : List (Option D) → Sg → Rs D} {Q : VK} (h : EndE K M W σ H G S (r.bind k) Q) :
    EndOs K M W σ H G S os r fun vs H' => ∃ xs g' G' S', r = .ok xs g' ∧ Mt K M g' σ H' G' S' ∧ OpRs K M H g' σ H' G' S' os xs vs ∧ Stp M H G S H' G' S' ∧ EndE K M W σ H G S (k xs g') Q := by
  cases r with
  | bad => exact h
  | ok x g' => exact fun v H' G' S' m rr s => ⟨x, g', G', S', rfl, m, rr, s, h⟩
  | exc c d g' => exact h
theorem pe_Onm {e : Expr} {i : Nat} (h : PE X e (tVar i)) : PE X e (tO K M W (.nm i)) := by
  refine PE.imp h fun σ H Q q => ?_
  obtain ⟨g, G, S, m, q⟩ := q
  unfold evO at q
  dsimp only at q
  split at q
  · rename_i d e
    obtain ⟨v, ev, _⟩ := m.own i d e
    exact ⟨v, ev, q v H G S m ev Stp.refl⟩
  · exact (show False from q).elim
theorem pe_Oex {e : Expr} {m : PX} (h : PE X e (tP K M W m)) : PE X e (tO K M W (.ex m)) := by
  refine PE.imp h fun σ H Q q => ?_
  obtain ⟨g, G, S, mt, q⟩ := q
  refine ⟨g, G, S, mt, ?_⟩
  unfold evO at q
  dsimp only at q
  cases er : m g with
  | bad => rw [er] at q; exact (show False from q).elim
  | ok d g' => rw [er] at q; exact fun v H' G' S' T ⟨m', ow, ap⟩ s => q v H' G' S' m' ⟨d, T, rfl, ow, ap⟩ s
  | exc c d g' => rw [er] at q; exact q
/-- an operand later on -/
theorem OpR'.stp {o : Op} {x : Option D} {v : V} (h : OpR' K M H0 g σ H G S o x v) (st : Stp M H G S H1 G1 S1) : OpR' K M H0 g1 σ H1 G1 S1 o x v := by
  cases o with
  | nm i => exact h
  | ex m =>
    obtain ⟨d, T, e, ow, ap⟩ := h
    refine ⟨d, T, e, ow.stp st fun a ha => (ap a ha).1, fun a ha => ⟨?_, (ap a ha).2⟩⟩
    obtain ⟨⟨o, ho⟩, _⟩ := ow.there ha
    exact st.apart ho (ap a ha).1
theorem OpR'.seen {o : Op} {x : Option D} {v : V} {d : D} (h : OpR' K M H0 g σ H G S o x v) (m : Mt K M g σ H G S) (e : rdO g o x = some d) : Seen K M G H d v := by
  cases o with
  | nm i =>
    have e1 : g[i]? = some (some d) := by
      unfold rdO at e
      dsimp only at e
      cases q : g[i]? with
      | none => rw [q] at e; cases e
      | some z => rw [q] at e; exact congrArg some e
    obtain ⟨v', ev, ow⟩ := m.own i d e1
    have h' : σ[i]? = some (some v) := h
    rw [h'] at ev; cases ev
    exact ⟨_, ow⟩
  | ex q =>
    obtain ⟨d', T, e', ow, _⟩ := h
    unfold rdO at e
    dsimp only at e
    rw [e'] at e; cases e
    exact ⟨T, ow⟩
theorem OpRs.seen : ∀ {os : List Op} {xs : List (Option D)} {vs : List V} {ds : List D}, OpRs K M H0 g σ H G S os xs vs → Mt K M g σ H G S → rdOs g os xs = some ds → SeenL K M G H ds vs
  | [], xs, vs, ds, h, m, e => by
    obtain ⟨_, rfl⟩ := h
    cases (show some ([] : List D) = some ds from e)
    rfl
  | o :: os, xs, vs, ds, h, m, e => by
    obtain ⟨x, xr, v, vr, rfl, rfl, h1, h2⟩ := h
    unfold rdOs at e
    cases e1 : rdO g o x with
    | none => rw [e1] at e; cases e
    | some d =>
      cases e2 : rdOs g os xr with
      | none => rw [e1, e2] at e; cases e
      | some dr =>
        rw [e1, e2] at e; cases e
        exact ⟨v, vr, rfl, h1.seen m e1, OpRs.seen h2 m e2⟩
theorem pa_O0 : PA X [] (tOs K M W []) := by
  refine PA.imp pa_nil fun σ H Q q => ?_
  obtain ⟨g, G, S, m, q⟩ := q
  exact (show EndOs K M W σ H G S [] (.ok [] g) Q from q) [] H G S m ⟨rfl, rfl⟩ Stp.refl
theorem pa_Oc {e : Expr} {es : List Expr} {o : Op} {os : List Op} (hp : PE X e (tO K M W o)) (hr : PA X es (tOs K M W os)) (hs : starEach (e :: es) X.env = (false, eval e X.env) :: starEach es X.env) : PA X (e :: es) (tOs K M W (o :: os)) := by
  refine PA.imp (pa_cons hp hr hs) fun σ H Q q => ?_
  obtain ⟨g, G, S, mt, q⟩ := q
  refine ⟨g, G, S, mt, EndO.imp (EndOs.bindO q) fun v H1 ⟨x, g1, G1, S1, er, m1, r1, st, q2⟩ => ?_⟩
  refine ⟨g1, G1, S1, m1, ?_⟩
  cases er2 : evOs os g1 with
  | bad => rw [er2] at q2; exact q2
  | exc c d g' => rw [er2] at q2; exact EndX.of q2 st
  | ok xs g2 =>
    rw [er2] at q2
    intro vs H2 G2 S2 m2 r2 st2
    exact (show EndOs K M W σ H G S (o :: os) (.ok (x :: xs) g2) Q from q2) (v :: vs) H2 G2 S2 m2 ⟨x, xs, v, vs, rfl, rfl, r1.stp st2, r2.base fun a => st.back⟩ (st.trans st2)
/-- what an operation on values asks -/
def rF (K : Frag) (M : Memo) (W : WX) (f : D → D → Sg → Rs D) : L2.St → R2 := fun σ x y H Q => ∃ g G S d e, Mt K M g σ H G S ∧ Seen K M G H d x ∧ Seen K M G H e y ∧ EndE K M W σ H G S (f d e g) Q
def rF1 (K : Frag) (M : Memo) (W : WX) (f : D → Sg → Rs D) : L2.St → V → Hp → VK → Prop := fun σ x H Q => ∃ g G S d, Mt K M g σ H G S ∧ Seen K M G H d x ∧ EndE K M W σ H G S (f d g) Q
def rFN (K : Frag) (M : Memo) (W : WX) (f : List D → Sg → Rs D) : L2.St → List V → Hp → VK → Prop := fun σ xs H Q => ∃ g G S ds, Mt K M g σ H G S ∧ SeenL K M G H ds xs ∧ EndE K M W σ H G S (f ds g) Q
theorem op1_t {f : D → Sg → Rs D} {a : Op} : tP K M W (pOp1 f a) σ H Q → tUn (rF1 K M W f σ) (tO K M W a) σ H Q := fun q => by
  obtain ⟨g, G, S, mt, q⟩ := q
  refine ⟨g, G, S, mt, ?_⟩
  unfold pOp1 at q
  cases er : evO a g with
  | bad => rw [er] at q; exact q
  | exc c d g' => rw [er] at q; exact q
  | ok x g1 =>
    rw [er] at q
    intro v H1 G1 S1 m1 r1 st
    have q := EndE.of q st
    rw [Rs.bind_ok] at q
    cases e1 : rdO g1 a x with
    | none => rw [e1] at q; exact q.elim
    | some d => rw [e1] at q; exact ⟨g1, G1, S1, d, m1, r1.seen m1 e1, q⟩
theorem op2_t {f : D → D → Sg → Rs D} {a b : Op} : tP K M W (pOp2 f a b) σ H Q → tOp (rF K M W f σ) (tO K M W a) (tO K M W b) σ H Q := fun q => by
  obtain ⟨g, G, S, mt, q⟩ := q
  refine ⟨g, G, S, mt, ?_⟩
  unfold pOp2 at q
  cases er : evO a g with
  | bad => rw [er] at q; exact q
  | exc c d g' => rw [er] at q; exact q
  | ok x g1 =>
    rw [er] at q
    intro v H1 G1 S1 m1 r1 st
    refine ⟨g1, G1, S1, m1, ?_⟩
    rw [Rs.bind_ok] at q
    cases er2 : evO b g1 with
    | bad => rw [er2] at q; exact q
    | exc c d g' => rw [er2] at q; exact EndX.of q st
    | ok y g2 =>
      rw [er2] at q
      intro u H2 G2 S2 m2 r2 st2
      have q := EndE.of q (st.trans st2)
      rw [Rs.bind_ok] at q
      cases e1 : rdO g2 a x with
      | none => rw [e1] at q; exact q.elim
      | some d =>
        cases e2 : rdO g2 b y with
        | none => rw [e1, e2] at q; exact q.elim
        | some e => rw [e1, e2] at q; exact ⟨g2, G2, S2, d, e, m2, (r1.stp st2).seen m2 e1, r2.seen m2 e2, q⟩
theorem opN_t {f : List D → Sg → Rs D} {os : List Op} : tP K M W (pOps f os) σ H Q → tCB (rFN K M W f σ) (tOs K M W os) σ H Q := fun q => by
  obtain ⟨g, G, S, mt, q⟩ := q
  refine ⟨g, G, S, mt, ?_⟩
  unfold pOps at q
  cases er : evOs os g with
  | bad => rw [er] at q; exact q
  | exc c d g' => rw [er] at q; exact q
  | ok x g1 =>
    rw [er] at q
    intro v H1 G1 S1 m1 r1 st
    have q := EndE.of q st
    rw [Rs.bind_ok] at q
    cases e1 : rdOs g1 os x with
    | none => rw [e1] at q; exact q.elim
    | some d => rw [e1] at q; exact ⟨g1, G1, S1, d, m1, r1.seen m1 e1, q⟩
end
end PI

set_option Elab.async false
set_option linter.all false
set_option maxRecDepth 100000
set_option maxHeartbeats 1000000
namespace PI
open PySem PySem.Spec PyProof.Rows L2
open PySem.W (Frag)
/-! ### operations with the slots in sight -/
abbrev RS := L2.St → R2
def OpS (X : Cx) (f : Value → Value → Sem Value) (r : RS) : Prop :=
  ∀ (pins : List (Addr × Obj)) (s : Shared) (σ : L2.St) (H : Hp) (x y : V) (v u : Value) (Q : VK), Inv X pins σ H s → RelV x v → RelV y u → r σ x y H Q → wpAny (model X.prog X.w) X.A (f v u) (EP X pins σ Q) X.xe s
def UnS (X : Cx) (f : Value → Sem Value) (r : L2.St → V → Hp → VK → Prop) : Prop :=
  ∀ (pins : List (Addr × Obj)) (s : Shared) (σ : L2.St) (H : Hp) (x : V) (v : Value) (Q : VK), Inv X pins σ H s → RelV x v → r σ x H Q → wpAny (model X.prog X.w) X.A (f v) (EP X pins σ Q) X.xe s
def CallS (X : Cx) (f : Value) (r : L2.St → List V → Hp → VK → Prop) : Prop :=
  ∀ (pins : List (Addr × Obj)) (s : Shared) (σ : L2.St) (H : Hp) (xs : List V) (us : List Value) (Q : VK), Inv X pins σ H s → Vals xs us → r σ xs H Q → wpAny (model X.prog X.w) X.A (call f us) (EP X pins σ Q) X.xe s
theorem OpR.s {X : Cx} {f : Value → Value → Sem Value} {r : R2} (h : OpR X f r) : OpS X f fun _ => r := h
def ro (o : Option D) (g : Sg) : Rs D := match o with
  | some d => .ok d g
  | none => .bad
section
variable {K : Frag} {M : Memo} {W : WX} {X : Cx} {σ : L2.St} {H H0 G H1 G1 : Hp} {S S1 : Nat → Addr → Prop} {g g1 : Sg} {Q : VK} {pos : Pos}
theorem pe_opS {op : Operator} {f : D → D → Sg → Rs D} {a b : Expr} {oa ob : Op} (ho : OpS X (binaryOp op) (rF K M W f)) (ha : PE X a (tO K M W oa)) (hb : PE X b (tO K M W ob)) : PE X (.BinOp a op b pos) (tP K M W (pOp2 f oa ob)) :=
  ⟨fun pins s σ H Q I q => wpAny_BinOp (binT (R := fun x y H2 => rF K M W f σ x y H2 Q) ha hb I (op2_t q) fun v u s2 x y H2 I2 rx ry q => ho pins s2 σ H2 x y v u Q I2 rx ry q)⟩
theorem pe_cmpS {op : CmpOp} {f : D → D → Sg → Rs D} {a b : Expr} {oa ob : Op} (ho : OpS X (compareOp op) (rF K M W f)) (ha : PE X a (tO K M W oa)) (hb : PE X b (tO K M W ob)) (hm : behindInMarks op b = false) : PE X (.Compare a [op] [b] pos) (tP K M W (pOp2 f oa ob)) :=
  ⟨fun pins s σ H Q I q => wpAny_Compare1 (binT (R := fun x y H2 => rF K M W f σ x y H2 Q) ha hb I (op2_t q) fun v u s2 x y H2 I2 rx ry q => ho pins s2 σ H2 x y v u Q I2 rx ry q) hm⟩
theorem pe_unS {op : UnaryOp} {f : D → Sg → Rs D} {a : Expr} {oa : Op} (ho : UnS X (unaryOp op) (rF1 K M W f)) (ha : PE X a (tO K M W oa)) : PE X (.UnaryOp op a pos) (tP K M W (pOp1 f oa)) :=
  ⟨fun pins s σ H Q I q => UnaryOp_ (thn (ha.run pins s σ H _ I (op1_t q)) fun v s1 ⟨x, H1, I1, r1, q1⟩ => ho pins s1 σ H1 x v Q I1 r1 q1)⟩
/-- a built-in called by its name -/
theorem pe_callBS {x : Str} {id : String} {f : List D → Sg → Rs D} {p : Pos} {e : Expr} {es : List Expr} {os : List Op} (hc : CallS X (.builtin id) (rFN K M W f)) (hg : Gl X x) (hm : X.mg x = none) (hv : bootBuiltins x = some (.builtin id))
    (ha : PA X (e :: es) (tOs K M W os)) (hn : x ≠ "__name__") (hdb : (x == ("__debug__" : Str)) = false) (he : starEach (e :: es) X.env = (false, eval e X.env) :: starEach es X.env) (hpl : (backTo pos (starEach es X.env)).any (·.1) = false) :
    PE X (.Call (.Name x p) (e :: es) [] pos) (tP K M W (pOps f os)) := by
  refine ⟨fun pins s σ H Q I q => ?_⟩
  exact wpAny_Call_Name_kw (ld_blt I hg hm hv (PyProof.Rows.callWith_builtin1 (thn (ha.run pos pins s σ H _ I (opN_t q)) fun ws s1 ⟨zs, H1, I1, r1, q1⟩ => hc pins s1 σ H1 zs ws Q I1 r1 q1) he hpl) hn hdb)
theorem pe_callTS {x : Str} {T : String} {f : List D → Sg → Rs D} {p : Pos} {e : Expr} {es : List Expr} {os : List Op} (hc : CallS X (.type T) (rFN K M W f)) (hg : Gl X x) (hm : X.mg x = none) (hv : bootBuiltins x = some (.type T))
    (ha : PA X (e :: es) (tOs K M W os)) (hn : x ≠ "__name__") (hdb : (x == ("__debug__" : Str)) = false) (he : starEach (e :: es) X.env = (false, eval e X.env) :: starEach es X.env) (hpl : (backTo pos (starEach es X.env)).any (·.1) = false) :
    PE X (.Call (.Name x p) (e :: es) [] pos) (tP K M W (pOps f os)) := by
  refine ⟨fun pins s σ H Q I q => ?_⟩
  exact wpAny_Call_Name_kw (ld_blt I hg hm hv (PyProof.Rows.callWith_type1 (thn (ha.run pos pins s σ H _ I (opN_t q)) fun ws s1 ⟨zs, H1, I1, r1, q1⟩ => hc pins s1 σ H1 zs ws Q I1 r1 q1) he hpl) hn hdb)
/-! ### what is looked at -/
theorem Seen.cases {d : D} {v : V} (h : Seen K M G H d v) : Rep K G d v ∨ ∃ a, v = .ref a ∧ OwnAt K M G H a d := by
  obtain ⟨T, ⟨r, _⟩ | ⟨a, e, _, _, o⟩⟩ := h
  · exact .inl r
  · exact .inr ⟨a, e, o⟩
theorem Seen.int {i : Int} {v : V} (h : Seen K M G H (.int i) v) : v = .int i := by
  rcases h.cases with r | ⟨a, _, o⟩
  · exact r
  · exact (show False from o).elim
theorem Seen.str {x : Str} {v : V} (h : Seen K M G H (.str x) v) : v = .str x := by
  rcases h.cases with r | ⟨a, _, o⟩
  · exact r
  · exact (show False from o).elim
theorem Seen.bl {b : Bool} {v : V} (h : Seen K M G H (.bl b) v) : v = .bl b := by
  rcases h.cases with r | ⟨a, _, o⟩
  · exact r
  · exact (show False from o).elim
theorem Seen.non {v : V} (h : Seen K M G H .non v) : v = .non := by
  rcases h.cases with r | ⟨a, _, o⟩
  · exact r
  · exact (show False from o).elim
theorem Seen.lst {b : Bool} {xs : List D} {v : V} (h : Seen K M G H (.lst b xs) v) (sb : Sub G H) : ∃ a vs, v = .ref a ∧ SqL K H a vs ∧ RepL K G xs vs := by
  rcases h.cases with r | ⟨a, rfl, o⟩
  · obtain ⟨_, a, vs, e, h1, h2⟩ := r
    exact ⟨a, vs, e, sb.sqL h1, h2⟩
  · obtain ⟨_, vs, h1, h2⟩ := o
    exact ⟨a, vs, rfl, SqL.of h1, h2⟩
theorem Seen.tup {xs : List D} {v : V} (h : Seen K M G H (.tup xs) v) (sb : Sub G H) : ∃ a vs, v = .ref a ∧ SqT K H a vs ∧ RepL K G xs vs := by
  rcases h.cases with r | ⟨a, _, o⟩
  · obtain ⟨a, vs, e, h1, h2⟩ := r
    exact ⟨a, vs, e, sb.sqT h1, h2⟩
  · exact (show False from o).elim
theorem Seen.dic {b : Bool} {ks : List Key} {ds : List D} {v : V} (h : Seen K M G H (.dic b ks ds) v) (sb : Sub G H) : ∃ a vs, v = .ref a ∧ H a = some (.dK (ks.zip vs)) ∧ ks.length = vs.length ∧ RepL K G ds vs := by
  rcases h.cases with r | ⟨a, rfl, o⟩
  · obtain ⟨_, a, vs, e, h1, h2⟩ := r
    exact ⟨a, vs, e, sb _ _ h1, h2⟩
  · obtain ⟨_, vs, h1, h2⟩ := o
    exact ⟨a, vs, rfl, h1, h2⟩
theorem Seen.obj {b : Bool} {c : Str} {ns : List Str} {ds : List D} {v : V} (h : Seen K M G H (.obj b c ns ds) v) (sb : Sub G H) : ∃ a dx vs, v = .ref a ∧ H a = some (.ins (He.ga K c) dx (ns.zip vs)) ∧ ns.length = vs.length ∧ RepL K G ds vs := by
  rcases h.cases with r | ⟨a, rfl, o⟩
  · obtain ⟨_, a, dx, vs, e, h1, h2⟩ := r
    exact ⟨a, dx, vs, e, sb _ _ h1, h2⟩
  · obtain ⟨_, _, dx, vs, h1, h2⟩ := o
    exact ⟨a, dx, vs, rfl, h1, h2⟩
/-! ### how an operation ends -/
theorem fin_sc {d : D} {v : V} (q : EndE K M W σ H G S (.ok d g) Q) (m : Mt K M g σ H G S) (r : Rep K G d v) : Q v H :=
  q v H G S none_ ⟨m, Own.of r, fun a z => z.elim⟩ Stp.refl
theorem fin_lst {ds : List D} {vs : List V} (q : EndE K M W σ H G S (.ok (.lst true ds) g) Q) (m : Mt K M g σ H G S) (r : RepL K G ds vs) (p : Addr) (hp : H p = none) : Q (.ref p) (upd H p (.lst vs)) :=
  q (.ref p) _ _ S (fun a => a = p) ⟨m.newOwn hp, .inr ⟨p, rfl, m.gnone hp, fun b => Iff.rfl, rfl, vs, upd_same, r⟩, fun a z => by cases z; exact ⟨m.snone hp, hp⟩⟩ (m.newOwnStp hp)
theorem fin_tup {ds : List D} {vs : List V} (q : EndE K M W σ H G S (.ok (.tup ds) g) Q) (m : Mt K M g σ H G S) (r : RepL K G ds vs) (p : Addr) (hp : H p = none) : Q (.ref p) (upd H p (.tup vs)) :=
  q (.ref p) _ _ S none_ ⟨m.new hp (M.tup vs), Own.of ⟨p, vs, rfl, SqT.of upd_same, RepL.mono (Sub.new (m.gnone hp)) _ _ r⟩, fun a z => z.elim⟩ (m.newStp hp (M.tup vs))
end
/-! ### arithmetic and its like -/
def lim : Nat := 1000000
theorem lim_ok {n : Nat} (h : n ≤ lim) : n ≤ sizeLine := by rw [sizeLine_eq]; unfold lim at h; omega
def mulOk (i j : Int) : Bool := decide ((-(2 ^ 64) < i ∧ i < 2 ^ 64) ∨ (-(2 ^ 64) < j ∧ j < 2 ^ 64)) || decide (i.natAbs.log2 + j.natAbs.log2 < 1000000)
def powOk (i j : Int) : Bool := decide (0 ≤ j) && (decide (j ≤ 1000000 ∧ i.natAbs < 2 ^ 64) || decide ((Builtin.Int.intBits i : Int) * j ≤ 2 ^ 27))
def addD : D → D → Option D
  | .int i, .int j => some (.int (i + j))
  | .str x, .str y => if x.length + y.length ≤ lim then some (.str (x ++ y)) else none
  | .lst _ xs, .lst _ ys => if xs.length + ys.length ≤ lim then some (.lst true (xs ++ ys)) else none
  | .tup xs, .tup ys => if xs.length + ys.length ≤ lim then some (.tup (xs ++ ys)) else none
  | _, _ => none
def subD : D → D → Option D
  | .int i, .int j => some (.int (i - j))
  | _, _ => none
def mulD : D → D → Option D
  | .int i, .int j => if mulOk i j then some (.int (i * j)) else none
  | .str x, .int n => if 0 ≤ n ∧ n ≤ 1000 ∧ x.length ≤ 1000 then some (.str ⟨((List.replicate n.toNat x.cps.toList).flatten).toArray⟩) else none
  | .lst true xs, .int n => if 0 ≤ n ∧ n ≤ 1000 ∧ xs.length ≤ 1000 then some (.lst true (List.replicate n.toNat xs).flatten) else none
  | _, _ => none
def fdivD : D → D → Option D
  | .int i, .int j => if 0 < j ∧ j.natAbs.log2 < 9000 then some (.int (i / j)) else none
  | _, _ => none
def modD : D → D → Option D
  | .int i, .int j => if 0 < j then some (.int (i % j)) else none
  | _, _ => none
def powD : D → D → Option D
  | .int i, .int j => if powOk i j then some (.int (i ^ j.toNat)) else none
  | _, _ => none
def binD : Operator → D → D → Option D
  | .Add => addD
  | .Sub => subD
  | .Mult => mulD
  | .FloorDiv => fdivD
  | .Mod => modD
  | .Pow => powD
  | _ => fun _ _ => none
end PI

set_option Elab.async false
set_option linter.all false
set_option maxRecDepth 100000
set_option maxHeartbeats 1000000
namespace PI
open PySem PySem.Spec PyProof.Rows L2
open PySem.W (Frag)
section
variable {K : Frag} {M : Memo} {W : WX} {X : Cx} {σ : L2.St} {H G : Hp} {S : Nat → Addr → Prop} {g : Sg} {Q : VK}
theorem foldl_app (x : Array Nat) : ∀ (n : Nat) (acc : Array Nat), (List.replicate n x).foldl (· ++ ·) acc = acc ++ ((List.replicate n x.toList).flatten).toArray
  | 0, acc => by simp
  | n + 1, acc => by
    rw [List.replicate_succ, List.foldl_cons, foldl_app x n, List.replicate_succ, List.flatten_cons]
    apply Array.ext'
    simp
theorem flat_len {α : Type} (l : List α) : ∀ n : Nat, ((List.replicate n l).flatten).length = n * l.length
  | 0 => by simp
  | n + 1 => by rw [List.replicate_succ, List.flatten_cons, List.length_append, flat_len l n, Nat.succ_mul, Nat.add_comm]
theorem Seen.tupR {xs : List D} {v : V} (h : Seen K M G H (.tup xs) v) : Rep K G (.tup xs) v := by
  rcases h.cases with r | ⟨a, _, o⟩
  · exact r
  · exact (show False from o).elim
theorem RepL.rep {ds : List D} {vs : List V} (h : RepL K G ds vs) : ∀ n, RepL K G (List.replicate n ds).flatten (List.replicate n vs).flatten
  | 0 => rfl
  | n + 1 => by
    rw [List.replicate_succ, List.replicate_succ, List.flatten_cons, List.flatten_cons]
    exact h.append (RepL.rep h n)
theorem add_ok : OpS X (binaryOp .Add) (rF X.K M W fun d e g => ro (addD d e) g) := by
  rintro pins s σ H x y v u Q I rx ry ⟨g, G, S, d, e, m, sd, se, q⟩
  dsimp only at q
  unfold addD at q
  split at q
  · rename_i i j
    cases sd.int; cases se.int
    exact op_add pins s σ H _ _ v u Q I rx ry ⟨i, j, rfl, rfl, fin_sc q m rfl⟩
  · rename_i i j
    cases sd.str; cases se.str
    split at q
    · rename_i hl
      exact op_add_str pins s σ H _ _ v u Q I rx ry ⟨i, j, rfl, rfl, lim_ok hl, fin_sc q m rfl⟩
    · exact (show False from q).elim
  · rename_i b1 xs b2 ys
    obtain ⟨a, vs, rfl, h1, r1⟩ := sd.lst m.sub
    obtain ⟨b, us, rfl, h2, r2⟩ := se.lst m.sub
    split at q
    · rename_i hl
      cases rx; cases ry
      obtain ⟨its, rv, p1, z1⟩ := I.list h1
      obtain ⟨its2, rv2, p2, z2⟩ := I.list h2
      have l1 := rv.length
      have l2 := rv2.length
      have l3 := r1.len
      have l4 := r2.len
      have hz := lim_ok hl
      obtain ⟨⟨ca, da, ta, sa⟩, e1, c1, n1, t1⟩ := p1.isList
      obtain ⟨⟨cb, db, tb, sb⟩, e2, c2, n2, t2⟩ := p2.isList
      simp only at c1 c2 t1 t2
      subst c1 c2 t1 t2
      refine concat_meets ⟨_, e1, rfl⟩ ⟨_, e2, rfl⟩ noFill_list_add seq_list_add PySem.F.slot_list_add PySem.F.entry_list_add (PySem.F.args_list_add_2 _ _)
        (list_addW a b its.toArray its2.toArray n1 n2 da db sa sb (by rw [List.size_toArray, List.size_toArray, ← l1, ← l2, ← l3, ← l4]; exact hz)) ⟨e1, e2, ?_⟩
      rw [show its.toArray ++ its2.toArray = (its ++ its2).toArray by simp]
      have hn : H s.heap.objs.size = none := I.hok.fresh (Nat.le_refl _)
      refine ⟨.ref s.heap.objs.size, upd H s.heap.objs.size (.lst (vs ++ us)), I.laid (t' := s.toks) (fun c o z => Heap.get?_push_of_some _ z) (Nat.le_refl _) ?_, rfl, fin_lst q m (r1.append r2) _ hn⟩
      exact ⟨by rw [List.length_append, ← l3, ← l4]; exact hz, its ++ its2, _, rv.append rv2, Heap.get?_push_size _ rfl⟩
    · exact (show False from q).elim
  · rename_i xs ys
    have r1 := sd.tupR
    have r2 := se.tupR
    obtain ⟨a, vs, rfl, h1, q1⟩ := sd.tup m.sub
    obtain ⟨b, us, rfl, h2, q2⟩ := se.tup m.sub
    split at q
    · rename_i hl
      have l3 := q1.len
      have l4 := q2.len
      refine op_catA pins s σ H _ _ v u Q I rx ry ⟨a, b, vs, us, rfl, rfl, h1, h2, by rw [← l3, ← l4]; exact lim_ok hl, fun z => ?_, fun z0 z => ?_, fun z0 z p hp => fin_tup q m (q1.append q2) p hp⟩
      · subst z
        cases xs with
        | nil => exact fin_sc q m r2
        | cons x xr => cases l3
      · subst z
        cases ys with
        | nil => exact fin_sc q m (by rw [List.append_nil]; exact r1)
        | cons x xr => cases l4
    · exact (show False from q).elim
  · exact (show False from q).elim
theorem sub_ok : OpS X (binaryOp .Sub) (rF X.K M W fun d e g => ro (subD d e) g) := by
  rintro pins s σ H x y v u Q I rx ry ⟨g, G, S, d, e, m, sd, se, q⟩
  dsimp only at q
  unfold subD at q
  split at q
  · rename_i i j
    cases sd.int; cases se.int
    exact op_sub pins s σ H _ _ v u Q I rx ry ⟨i, j, rfl, rfl, fin_sc q m rfl⟩
  · exact (show False from q).elim
theorem mul_ok : OpS X (binaryOp .Mult) (rF X.K M W fun d e g => ro (mulD d e) g) := by
  rintro pins s σ H x y v u Q I rx ry ⟨g, G, S, d, e, m, sd, se, q⟩
  dsimp only at q
  unfold mulD at q
  split at q
  · rename_i i j
    cases sd.int; cases se.int
    split at q
    · rename_i hc
      unfold mulOk at hc
      rcases Bool.or_eq_true_iff.mp hc with h | h
      · exact op_mul pins s σ H _ _ v u Q I rx ry ⟨i, j, rfl, rfl, (by have h' := of_decide_eq_true h; exact h'), fin_sc q m rfl⟩
      · exact op_mulW pins s σ H _ _ v u Q I rx ry ⟨i, j, rfl, rfl, (by have h' := of_decide_eq_true h; exact h'), fin_sc q m rfl⟩
    · exact (show False from q).elim
  · rename_i z n
    cases sd.str; cases se.int
    split at q
    · rename_i hc
      obtain ⟨h0, h1, h2⟩ := hc
      obtain ⟨t, rfl⟩ := rx
      obtain ⟨t', rfl⟩ := ry
      have hm : z.length * n.toNat ≤ 1000000 := by
        have : n.toNat ≤ 1000 := by omega
        calc z.length * n.toNat ≤ 1000 * 1000 := Nat.mul_le_mul h2 this
          _ ≤ 1000000 := by decide
      have hl : sizeLine = 16777216 := sizeLine_eq
      refine PySem.P.mul_str (by rw [decide_eq_false (by omega), decide_eq_false (by omega)] <;> rfl) (fun a1 a2 => ?_) (fun a1 a2 => ?_) ?_
      · have hp : (0 : Int) < n := by omega
        have : ((2 : Int) ^ 63 - 1) / n ≥ ((2 : Int) ^ 63 - 1) / 1000 := by
          apply Int.le_ediv_of_mul_le hp
          have e : ((2 : Int) ^ 63 - 1) / 1000 = 9223372036854775 := by decide
          rw [e]
          have : (9223372036854775 : Int) * n ≤ 9223372036854775 * 1000 := Int.mul_le_mul_of_nonneg_left h1 (by decide)
          omega
        have e : ((2 : Int) ^ 63 - 1) / 1000 = 9223372036854775 := by decide
        omega
      · unfold PySem.Builtin.Str.tooLong
        exact decide_eq_false (by omega)
      · have key : Q (.str ⟨((List.replicate n.toNat z.cps.toList).flatten).toArray⟩) H := fin_sc q m rfl
        by_cases c1 : n < 1
        · rw [if_pos c1]
          have e0 : n.toNat = 0 := by omega
          rw [e0] at key
          exact ⟨by decide, .str Str.empty, H, I.tok _, ⟨_, rfl⟩, key⟩
        · rw [if_neg c1]
          by_cases c2 : (n == 1 || z.length == 0) = true
          · rw [if_pos c2]
            have e0 : (⟨((List.replicate n.toNat z.cps.toList).flatten).toArray⟩ : Str) = z := by
              rcases Bool.or_eq_true_iff.mp c2 with c | c
              · have : n = 1 := eq_of_beq c
                subst this
                simp
              · have : z.length = 0 := eq_of_beq c
                have hz : z.cps = #[] := Array.eq_empty_of_size_eq_zero this
                obtain ⟨zc⟩ := z
                simp only at hz
                subst hz
                simp
            rw [e0] at key
            exact ⟨.str z, H, I, ⟨_, rfl⟩, key⟩
          · rw [if_neg c2, foldl_app]
            simp only [Array.empty_append]
            refine ⟨?_, .str _, H, I.tok _, ⟨_, rfl⟩, key⟩
            show (List.replicate n.toNat z.cps.toList).flatten.toArray.size ≤ sizeLine
            rw [List.size_toArray, flat_len, hl, Array.length_toList, Nat.mul_comm]
            show z.length * n.toNat ≤ _
            omega
    · exact (show False from q).elim
  · rename_i xs n
    cases se.int
    split at q
    · rename_i hc
      obtain ⟨h0, h1, h2⟩ := hc
      have hm : xs.length * n.toNat ≤ 1000000 := by
        have : n.toNat ≤ 1000 := by omega
        calc xs.length * n.toNat ≤ 1000 * 1000 := Nat.mul_le_mul h2 this
          _ ≤ 1000000 := by decide
      rcases sd.cases with r | ⟨a, rfl, o⟩
      · cases r.1
      · obtain ⟨_, vs, ha, r1⟩ := o
        exact op_rep pins s σ H _ _ v u Q I rx ry ⟨a, n, vs, rfl, rfl, ha, by omega, by omega, by rw [← r1.len, sizeLine_eq]; omega, fun p hp => fin_lst q m (r1.rep _) p hp⟩
    · exact (show False from q).elim
  · exact (show False from q).elim
theorem fdiv_ok : OpS X (binaryOp .FloorDiv) (rF X.K M W fun d e g => ro (fdivD d e) g) := by
  rintro pins s σ H x y v u Q I rx ry ⟨g, G, S, d, e, m, sd, se, q⟩
  dsimp only at q
  unfold fdivD at q
  split at q
  · rename_i i j
    cases sd.int; cases se.int
    split at q
    · rename_i hc
      exact op_fdivW pins s σ H _ _ v u Q I rx ry ⟨i, j, rfl, rfl, hc, fin_sc q m rfl⟩
    · exact (show False from q).elim
  · exact (show False from q).elim
theorem mod_ok : OpS X (binaryOp .Mod) (rF X.K M W fun d e g => ro (modD d e) g) := by
  rintro pins s σ H x y v u Q I rx ry ⟨g, G, S, d, e, m, sd, se, q⟩
  dsimp only at q
  unfold modD at q
  split at q
  · rename_i i j
    cases sd.int; cases se.int
    split at q
    · rename_i hc
      exact op_mod pins s σ H _ _ v u Q I rx ry ⟨i, j, rfl, rfl, hc, fin_sc q m rfl⟩
    · exact (show False from q).elim
  · exact (show False from q).elim
theorem pow_ok : OpS X (binaryOp .Pow) (rF X.K M W fun d e g => ro (powD d e) g) := by
  rintro pins s σ H x y v u Q I rx ry ⟨g, G, S, d, e, m, sd, se, q⟩
  dsimp only at q
  unfold powD at q
  split at q
  · rename_i i j
    cases sd.int; cases se.int
    split at q
    · rename_i hc
      unfold powOk at hc
      obtain ⟨h0, hc⟩ := Bool.and_eq_true_iff.mp hc
      have h0 := of_decide_eq_true h0
      rcases Bool.or_eq_true_iff.mp hc with h | h
      · have h := of_decide_eq_true h
        exact op_pow pins s σ H _ _ v u Q I rx ry ⟨i, j, rfl, rfl, ⟨h0, h.1, h.2⟩, fin_sc q m rfl⟩
      · obtain ⟨t, rfl⟩ := rx
        obtain ⟨t', rfl⟩ := ry
        exact PyProof.Rows.pow_int h0 (of_decide_eq_true h) ⟨.int _, H, I.tok _, ⟨_, rfl⟩, fin_sc q m rfl⟩
    · exact (show False from q).elim
  · exact (show False from q).elim
theorem bin_ok : ∀ op, OpS X (binaryOp op) (rF X.K M W fun d e g => ro (binD op d e) g)
  | .Add => add_ok
  | .Sub => sub_ok
  | .Mult => mul_ok
  | .FloorDiv => fdiv_ok
  | .Mod => mod_ok
  | .Pow => pow_ok
  | .MatMult => fun _ _ _ _ _ _ _ _ _ _ _ _ ⟨_, _, _, _, _, _, _, _, q⟩ => (show False from q).elim
  | .Div => fun _ _ _ _ _ _ _ _ _ _ _ _ ⟨_, _, _, _, _, _, _, _, q⟩ => (show False from q).elim
  | .LShift => fun _ _ _ _ _ _ _ _ _ _ _ _ ⟨_, _, _, _, _, _, _, _, q⟩ => (show False from q).elim
  | .RShift => fun _ _ _ _ _ _ _ _ _ _ _ _ ⟨_, _, _, _, _, _, _, _, q⟩ => (show False from q).elim
  | .BitOr => fun _ _ _ _ _ _ _ _ _ _ _ _ ⟨_, _, _, _, _, _, _, _, q⟩ => (show False from q).elim
  | .BitXor => fun _ _ _ _ _ _ _ _ _ _ _ _ ⟨_, _, _, _, _, _, _, _, q⟩ => (show False from q).elim
  | .BitAnd => fun _ _ _ _ _ _ _ _ _ _ _ _ ⟨_, _, _, _, _, _, _, _, q⟩ => (show False from q).elim
end
end PI

set_option Elab.async false
set_option linter.all false
set_option maxRecDepth 100000
set_option maxHeartbeats 1000000
namespace PI
open PySem PySem.Spec PyProof.Rows L2
open PySem.W (Frag)
/-! ### plain data -/
mutual
def pyOf : D → Option PyData
  | .non => some .none
  | .bl b => some (.bool b)
  | .int i => some (.int i)
  | .str x => some (.str x)
  | .lst _ xs => (pyAll xs).map .list
  | .tup xs => (pyAll xs).map .tuple
  | .dic .. => none
  | .obj .. => none
def pyAll : List D → Option (List PyData)
  | [] => some []
  | d :: ds => (match pyOf d, pyAll ds with
    | some p, some ps => some (p :: ps)
    | _, _ => none)
end
section
variable {K : Frag} {M : Memo} {W : WX} {X : Cx} {σ : L2.St} {H G : Hp} {S : Nat → Addr → Prop} {g : Sg} {Q : VK}
mutual
theorem Rep.dp (sb : Sub G H) : ∀ (d : D) (v : V) (p : PyData), Rep K G d v → pyOf d = some p → Dp K H v p
  | .non, v, p, r, e => by cases (show v = .non from r); cases e; exact .non
  | .bl b, v, p, r, e => by cases (show v = .bl b from r); cases e; exact .bl b
  | .int i, v, p, r, e => by cases (show v = .int i from r); cases e; exact .int i
  | .str x, v, p, r, e => by cases (show v = .str x from r); cases e; exact .str x
  | .lst b xs, v, p, r, e => by
    obtain ⟨_, a, vs, rfl, h1, h2⟩ := r
    unfold pyOf at e
    cases q : pyAll xs with
    | none => rw [q] at e; cases e
    | some ps => rw [q] at e; cases e; exact .lst (sb.sqL h1) (RepL.dp sb xs vs ps h2 q)
  | .tup xs, v, p, r, e => by
    obtain ⟨a, vs, rfl, h1, h2⟩ := r
    unfold pyOf at e
    cases q : pyAll xs with
    | none => rw [q] at e; cases e
    | some ps => rw [q] at e; cases e; exact .tup (sb.sqT h1) (RepL.dp sb xs vs ps h2 q)
  | .dic .., v, p, r, e => by unfold pyOf at e; cases e
  | .obj .., v, p, r, e => by unfold pyOf at e; cases e
theorem RepL.dp (sb : Sub G H) : ∀ (ds : List D) (vs : List V) (ps : List PyData), RepL K G ds vs → pyAll ds = some ps → DpAll K H vs ps
  | [], vs, ps, r, e => by
    cases (show vs = [] from r)
    unfold pyAll at e
    cases e; exact .nil
  | d :: ds, vs, ps, r, e => by
    obtain ⟨v, vr, rfl, h1, h2⟩ := r
    unfold pyAll at e
    cases q1 : pyOf d with
    | none => rw [q1] at e; cases e
    | some p =>
      cases q2 : pyAll ds with
      | none => rw [q1, q2] at e; cases e
      | some pr => rw [q1, q2] at e; cases e; exact .cons (Rep.dp sb d v p h1 q1) (RepL.dp sb ds vr pr h2 q2)
end
theorem Seen.dp {d : D} {v : V} {p : PyData} (h : Seen K M G H d v) (sb : Sub G H) (e : pyOf d = some p) : Dp K H v p := by
  rcases h.cases with r | ⟨a, rfl, o⟩
  · exact r.dp sb d v p e
  · cases d with
    | lst b xs =>
      obtain ⟨_, vs, h1, h2⟩ := o
      unfold pyOf at e
      cases q : pyAll xs with
      | none => rw [q] at e; cases e
      | some ps => rw [q] at e; cases e; exact .lst (SqL.of h1) (RepL.dp sb xs vs ps h2 q)
    | dic b ks ds => unfold pyOf at e; cases e
    | obj b c ns ds => unfold pyOf at e; cases e
    | _ => exact (show False from o).elim
end
/-- == of plain data -/
def eqP (d e : D) : Option Bool := match pyOf d, pyOf e with
  | some p, some q => if SeqAt.shaped p = true ∧ SeqAt.shaped q = true then some (PyData.eqv p q) else none
  | _, _ => none
def flatD : D → Bool
  | .non | .bl _ | .int _ | .str _ => true
  | _ => false
def eqF : D → D → Bool
  | .non, .non => true
  | .bl a, .bl b => a == b
  | .bl a, .int b => (if a then 1 else 0) == b
  | .int a, .bl b => a == (if b then 1 else 0)
  | .int a, .int b => a == b
  | .str a, .str b => a == b
  | _, _ => false
def keyOf : D → Option Key
  | .int i => some (.inl i)
  | .str x => some (.inr x)
  | _ => none
/-- x in y -/
def inD : D → D → Option Bool
  | .str x, .str y => some (match x.cps.toList with
    | [c] => decide (c ∈ y.cps.toList)
    | _ => !(Builtin.Str.occurrences y x 0 y.length 1).isEmpty)
  | d, .lst _ xs => if flatD d && xs.all flatD then some (xs.any fun y => eqF y d) else none
  | d, .tup xs => if flatD d && xs.all flatD then some (xs.any fun y => eqF y d) else none
  | d, .dic _ ks _ => (keyOf d).map fun k => ks.any fun j => decide (j = k)
  | _, _ => none
def ltS (x y : Str) : Bool := decide (x.cps.toList < y.cps.toList)
def cmpD (op : CmpOp) (d e : D) : Option Bool := match op with
  | .Lt => (match d, e with
    | .int i, .int j => some (decide (i < j))
    | .str x, .str y => some (ltS x y)
    | _, _ => none)
  | .LtE => (match d, e with
    | .int i, .int j => some (decide (i ≤ j))
    | .str x, .str y => some (!ltS y x)
    | _, _ => none)
  | .Gt => (match d, e with
    | .int i, .int j => some (decide (j < i))
    | .str x, .str y => some (ltS y x)
    | _, _ => none)
  | .GtE => (match d, e with
    | .int i, .int j => some (decide (j ≤ i))
    | .str x, .str y => some (!ltS x y)
    | _, _ => none)
  | .Eq => eqP d e
  | .NotEq => (eqP d e).map (!·)
  | .In => inD d e
  | .NotIn => (inD d e).map (!·)
  | .Is => (match e with
    | .non => some (match d with
      | .non => true
      | _ => false)
    | _ => none)
  | .IsNot => (match e with
    | .non => some (match d with
      | .non => false
      | _ => true)
    | _ => none)
def rb (o : Option Bool) (g : Sg) : Rs D := match o with
  | some b => .ok (.bl b) g
  | none => .bad
section
variable {M : Memo} {W : WX} {X : Cx} {K : Frag} {σ : L2.St} {H G : Hp} {S : Nat → Addr → Prop} {g : Sg} {Q : VK}
theorem fin_b {o : Option Bool} {b : Bool} (q : EndE K M W σ H G S (rb o g) Q) (e : o = some b) (m : Mt K M g σ H G S) : Q (.bl b) H := by
  subst e
  exact fin_sc q m rfl
theorem fin_no (q : EndE K M W σ H G S (rb none g) Q) : False := q
theorem eqV_F {d e : D} {x y : V} (hd : flatD d = true) (he : flatD e = true) (rd : Rep K G d x) (re : Rep K G e y) : eqV x y = eqF d e ∧ flatV x = true ∧ flatV y = true := by
  cases d <;> first | cases hd | skip
  all_goals (cases e <;> first | cases he | skip)
  all_goals (cases rd; cases re; exact ⟨rfl, rfl, rfl⟩)
theorem flat_rep {d : D} {x : V} (hd : flatD d = true) (h : Seen K M G H d x) : Rep K G d x := by
  cases d <;> first | cases hd | skip
  · exact h.non
  · exact h.bl
  · exact h.int
  · exact h.str
theorem inV_F {d : D} {x : V} (hd : flatD d = true) (rd : Rep K G d x) : ∀ {ds : List D} {vs : List V}, ds.all flatD = true → RepL K G ds vs → inV x vs = (ds.any fun y => eqF y d) ∧ vs.all flatV = true
  | [], vs, _, r => by cases (show vs = [] from r); exact ⟨rfl, rfl⟩
  | e :: ds, vs, ha, r => by
    obtain ⟨v, vr, rfl, h1, h2⟩ := r
    rw [List.all_cons, Bool.and_eq_true] at ha
    obtain ⟨i1, i2⟩ := inV_F hd rd ha.2 h2
    obtain ⟨e1, e2, _⟩ := eqV_F ha.1 hd h1 rd
    refine ⟨?_, by rw [List.all_cons, e2, i2] <;> rfl⟩
    unfold inV at i1 ⊢
    rw [List.any_cons, List.any_cons, e1, i1]
theorem lt_ok : OpS X (compareOp .Lt) (rF X.K M W fun d e g => rb (cmpD .Lt d e) g) := by
  rintro pins s σ H x y v u Q I rx ry ⟨g, G, S, d, e, m, sd, se, q⟩
  dsimp only [cmpD] at q
  split at q
  · rename_i i j
    cases sd.int; cases se.int
    exact op_lt pins s σ H _ _ v u Q I rx ry ⟨i, j, rfl, rfl, fin_b q rfl m⟩
  · rename_i i j
    cases sd.str; cases se.str
    exact op_lt_str pins s σ H _ _ v u Q I rx ry ⟨i, j, rfl, rfl, fin_b q rfl m⟩
  · exact (fin_no q).elim
theorem le_ok : OpS X (compareOp .LtE) (rF X.K M W fun d e g => rb (cmpD .LtE d e) g) := by
  rintro pins s σ H x y v u Q I rx ry ⟨g, G, S, d, e, m, sd, se, q⟩
  dsimp only [cmpD] at q
  split at q
  · rename_i i j
    cases sd.int; cases se.int
    exact op_le pins s σ H _ _ v u Q I rx ry ⟨i, j, rfl, rfl, fin_b q rfl m⟩
  · rename_i i j
    cases sd.str; cases se.str
    exact op_le_str pins s σ H _ _ v u Q I rx ry ⟨i, j, rfl, rfl, fin_b q rfl m⟩
  · exact (fin_no q).elim
theorem gt_ok : OpS X (compareOp .Gt) (rF X.K M W fun d e g => rb (cmpD .Gt d e) g) := by
  rintro pins s σ H x y v u Q I rx ry ⟨g, G, S, d, e, m, sd, se, q⟩
  dsimp only [cmpD] at q
  split at q
  · rename_i i j
    cases sd.int; cases se.int
    exact op_gt pins s σ H _ _ v u Q I rx ry ⟨i, j, rfl, rfl, fin_b q rfl m⟩
  · rename_i i j
    cases sd.str; cases se.str
    exact op_gt_str pins s σ H _ _ v u Q I rx ry ⟨i, j, rfl, rfl, fin_b q rfl m⟩
  · exact (fin_no q).elim
theorem ge_ok : OpS X (compareOp .GtE) (rF X.K M W fun d e g => rb (cmpD .GtE d e) g) := by
  rintro pins s σ H x y v u Q I rx ry ⟨g, G, S, d, e, m, sd, se, q⟩
  dsimp only [cmpD] at q
  split at q
  · rename_i i j
    cases sd.int; cases se.int
    exact op_ge pins s σ H _ _ v u Q I rx ry ⟨i, j, rfl, rfl, fin_b q rfl m⟩
  · rename_i i j
    cases sd.str; cases se.str
    exact op_ge_str pins s σ H _ _ v u Q I rx ry ⟨i, j, rfl, rfl, fin_b q rfl m⟩
  · exact (fin_no q).elim
theorem eq_ok (hu : X.A.units + 64 < cLine) : OpS X (compareOp .Eq) (rF X.K M W fun d e g => rb (cmpD .Eq d e) g) := by
  rintro pins s σ H x y v u Q I rx ry ⟨g, G, S, d, e, m, sd, se, q⟩
  dsimp only [cmpD] at q
  unfold eqP at q
  split at q
  · rename_i p p' e1 e2
    split at q
    · rename_i hs
      exact op_eqD hu pins s σ H _ _ v u Q I rx ry ⟨p, p', sd.dp m.sub e1, se.dp m.sub e2, hs.1, hs.2, fin_b q rfl m⟩
    · exact (fin_no q).elim
  · exact (fin_no q).elim
theorem ne_ok (hu : X.A.units + 64 < cLine) : OpS X (compareOp .NotEq) (rF X.K M W fun d e g => rb (cmpD .NotEq d e) g) := by
  rintro pins s σ H x y v u Q I rx ry ⟨g, G, S, d, e, m, sd, se, q⟩
  dsimp only [cmpD] at q
  unfold eqP at q
  split at q
  · rename_i p p' e1 e2
    split at q
    · rename_i hs
      exact op_neD hu pins s σ H _ _ v u Q I rx ry ⟨p, p', sd.dp m.sub e1, se.dp m.sub e2, hs.1, hs.2, fin_b q rfl m⟩
    · exact (fin_no q).elim
  · exact (fin_no q).elim
theorem is_ok : OpS X (compareOp .Is) (rF X.K M W fun d e g => rb (cmpD .Is d e) g) := by
  rintro pins s σ H x y v u Q I rx ry ⟨g, G, S, d, e, m, sd, se, q⟩
  dsimp only [cmpD] at q
  split at q
  · cases se.non
    refine op_isN pins s σ H _ _ v u Q I rx ry ⟨rfl, ?_⟩
    have key := fin_b q rfl m
    cases d with
    | non => cases sd.non; exact key
    | bl b => cases sd.bl; exact key
    | int i => cases sd.int; exact key
    | str z => cases sd.str; exact key
    | lst b xs => obtain ⟨a, vs, rfl, _⟩ := sd.lst m.sub; exact key
    | tup xs => obtain ⟨a, vs, rfl, _⟩ := sd.tup m.sub; exact key
    | dic b ks ds => obtain ⟨a, vs, rfl, _⟩ := sd.dic m.sub; exact key
    | obj b c ns ds => obtain ⟨a, dx, vs, rfl, _⟩ := sd.obj m.sub; exact key
  · exact (fin_no q).elim
theorem isnot_ok : OpS X (compareOp .IsNot) (rF X.K M W fun d e g => rb (cmpD .IsNot d e) g) := by
  rintro pins s σ H x y v u Q I rx ry ⟨g, G, S, d, e, m, sd, se, q⟩
  dsimp only [cmpD] at q
  split at q
  · cases se.non
    refine op_notN pins s σ H _ _ v u Q I rx ry ⟨rfl, ?_⟩
    have key := fin_b q rfl m
    cases d with
    | non => cases sd.non; exact key
    | bl b => cases sd.bl; exact key
    | int i => cases sd.int; exact key
    | str z => cases sd.str; exact key
    | lst b xs => obtain ⟨a, vs, rfl, _⟩ := sd.lst m.sub; exact key
    | tup xs => obtain ⟨a, vs, rfl, _⟩ := sd.tup m.sub; exact key
    | dic b ks ds => obtain ⟨a, vs, rfl, _⟩ := sd.dic m.sub; exact key
    | obj b c ns ds => obtain ⟨a, dx, vs, rfl, _⟩ := sd.obj m.sub; exact key
  · exact (fin_no q).elim
end
end PI

set_option Elab.async false
set_option linter.all false
set_option maxRecDepth 100000
set_option maxHeartbeats 1000000
namespace PI
open PySem PySem.Spec PyProof.Rows L2
open PySem.W (Frag)
/-! ### the value of a key -/
def valD (ks : List Key) (ds : List D) (k : Key) : Option D := ((ks.zip ds).find? fun kv => decide (kv.1 = k)).map (·.2)
section
variable {M : Memo} {W : WX} {X : Cx} {K : Frag} {σ : L2.St} {H G : Hp} {S : Nat → Addr → Prop} {g : Sg} {Q : VK}
theorem val_rep {k : Key} : ∀ {ks : List Key} {ds : List D} {vs : List V}, ks.length = vs.length → RepL K G ds vs →
    (∀ d, valD ks ds k = some d → ∃ v, valV (ks.zip vs) k = some v ∧ Rep K G d v) ∧ (valD ks ds k = none → valV (ks.zip vs) k = none) ∧ ((valV (ks.zip vs) k).isSome = ks.any fun j => decide (j = k))
  | [], ds, vs, hl, r => by
    refine ⟨fun d h => ?_, fun h => ?_, rfl⟩
    · unfold valD at h; simp at h
    · rfl
  | j :: ks, ds, [], hl, r => by simp at hl
  | j :: ks, [], v :: vs, hl, r => by cases (show v :: vs = [] from r)
  | j :: ks, d :: ds, v :: vs, hl, r => by
    obtain ⟨v', vr, e, h1, h2⟩ := r
    cases e
    have ih := val_rep (k := k) (by simpa using hl) h2
    by_cases hj : j = k
    · refine ⟨fun d' h => ?_, fun h => ?_, ?_⟩
      · refine ⟨v, by unfold valV; simp [hj], ?_⟩
        unfold valD at h
        simp [hj] at h
        subst h
        exact h1
      · unfold valD at h; simp [hj] at h
      · unfold valV; simp [hj]
    · have e1 : valV ((j :: ks).zip (v :: vs)) k = valV (ks.zip vs) k := by unfold valV; simp [hj]
      have e2 : valD (j :: ks) (d :: ds) k = valD ks ds k := by unfold valD; simp [hj]
      rw [e1, e2, List.any_cons, decide_eq_false hj, Bool.false_or]
      exact ih
theorem key_rep {d : D} {k : Key} {x : V} (e : keyOf d = some k) (r : Rep K G d x) : x = kV k := by
  cases d <;> first | (cases e; done) | skip
  · cases e; exact r
  · cases e; exact r
theorem key_seen {d : D} {k : Key} {x : V} (e : keyOf d = some k) (h : Seen K M G H d x) : x = kV k := by
  cases d <;> first | (cases e; done) | skip
  · cases e; exact h.int
  · cases e; exact h.str
theorem sign_of {x : Str} {c : Nat} (h : x.cps.toList = [c]) : x = ⟨#[c]⟩ := by
  obtain ⟨⟨l⟩⟩ := x
  simp only at h
  subst h
  rfl
theorem in_ok (hu : X.A.units + 1 < cLine) : OpS X (compareOp .In) (rF X.K M W fun d e g => rb (cmpD .In d e) g) := by
  rintro pins s σ H x y v u Q I rx ry ⟨g, G, S, d, e, m, sd, se, q⟩
  dsimp only [cmpD] at q
  unfold inD at q
  split at q
  · rename_i i j
    cases sd.str; cases se.str
    split at q
    · rename_i c hc
      cases sign_of hc
      exact op_in_sign pins s σ H _ _ v u Q I rx ry ⟨c, j, rfl, rfl, fin_b q rfl m⟩
    · exact op_in_str pins s σ H _ _ v u Q I rx ry ⟨i, j, rfl, rfl, fin_b q rfl m⟩
  · rename_i b xs _
    obtain ⟨a, vs, rfl, h1, r1⟩ := se.lst m.sub
    split at q
    · rename_i hf
      rw [Bool.and_eq_true] at hf
      have rd := flat_rep hf.1 sd
      obtain ⟨i1, i2⟩ := inV_F hf.1 rd hf.2 r1
      obtain ⟨_, i3, _⟩ := eqV_F hf.1 hf.1 rd rd
      exact op_in_seq pins s σ H _ _ v u Q I rx ry ⟨a, vs, rfl, .inl h1, i3, i2, by rw [i1]; exact fin_b q rfl m⟩
    · exact (fin_no q).elim
  · rename_i xs _
    obtain ⟨a, vs, rfl, h1, r1⟩ := se.tup m.sub
    split at q
    · rename_i hf
      rw [Bool.and_eq_true] at hf
      have rd := flat_rep hf.1 sd
      obtain ⟨i1, i2⟩ := inV_F hf.1 rd hf.2 r1
      obtain ⟨_, i3, _⟩ := eqV_F hf.1 hf.1 rd rd
      exact op_in_seq pins s σ H _ _ v u Q I rx ry ⟨a, vs, rfl, .inr h1, i3, i2, by rw [i1]; exact fin_b q rfl m⟩
    · exact (fin_no q).elim
  · rename_i b ks ds _
    obtain ⟨a, vs, rfl, h1, hl, r1⟩ := se.dic m.sub
    cases ek : keyOf d with
    | none => rw [ek] at q; exact (fin_no q).elim
    | some k =>
      rw [ek] at q
      cases key_seen ek sd
      cases ry
      refine d_in hu I (DGet.k h1) rx fun s1 I1 => ⟨.bl _, H, I1, rfl, ?_⟩
      rw [(val_rep hl r1).2.2]
      exact fin_b q rfl m
  · exact (fin_no q).elim
theorem notin_ok (hu : X.A.units + 1 < cLine) : OpS X (compareOp .NotIn) (rF X.K M W fun d e g => rb (cmpD .NotIn d e) g) := by
  rintro pins s σ H x y v u Q I rx ry ⟨g, G, S, d, e, m, sd, se, q⟩
  dsimp only [cmpD] at q
  unfold inD at q
  split at q
  · rename_i i j
    cases sd.str; cases se.str
    split at q
    · rename_i c hc
      cases sign_of hc
      exact op_notIn_sign pins s σ H _ _ v u Q I rx ry ⟨c, j, rfl, rfl, fin_b q rfl m⟩
    · exact op_notin_str pins s σ H _ _ v u Q I rx ry ⟨i, j, rfl, rfl, fin_b q rfl m⟩
  · rename_i b xs _
    obtain ⟨a, vs, rfl, h1, r1⟩ := se.lst m.sub
    split at q
    · rename_i hf
      rw [Bool.and_eq_true] at hf
      have rd := flat_rep hf.1 sd
      obtain ⟨i1, i2⟩ := inV_F hf.1 rd hf.2 r1
      obtain ⟨_, i3, _⟩ := eqV_F hf.1 hf.1 rd rd
      exact op_notIn_seq pins s σ H _ _ v u Q I rx ry ⟨a, vs, rfl, .inl h1, i3, i2, by rw [i1]; exact fin_b q rfl m⟩
    · exact (fin_no q).elim
  · rename_i xs _
    obtain ⟨a, vs, rfl, h1, r1⟩ := se.tup m.sub
    split at q
    · rename_i hf
      rw [Bool.and_eq_true] at hf
      have rd := flat_rep hf.1 sd
      obtain ⟨i1, i2⟩ := inV_F hf.1 rd hf.2 r1
      obtain ⟨_, i3, _⟩ := eqV_F hf.1 hf.1 rd rd
      exact op_notIn_seq pins s σ H _ _ v u Q I rx ry ⟨a, vs, rfl, .inr h1, i3, i2, by rw [i1]; exact fin_b q rfl m⟩
    · exact (fin_no q).elim
  · rename_i b ks ds _
    obtain ⟨a, vs, rfl, h1, hl, r1⟩ := se.dic m.sub
    cases ek : keyOf d with
    | none => rw [ek] at q; exact (fin_no q).elim
    | some k =>
      rw [ek] at q
      cases key_seen ek sd
      cases ry
      refine d_notIn hu I (DGet.k h1) rx fun s1 I1 => ⟨.bl _, H, I1, rfl, ?_⟩
      rw [(val_rep hl r1).2.2]
      exact fin_b q rfl m
  · exact (fin_no q).elim
theorem cmp_ok (hu : X.A.units + 64 < cLine) : ∀ op, OpS X (compareOp op) (rF X.K M W fun d e g => rb (cmpD op d e) g)
  | .Lt => lt_ok
  | .LtE => le_ok
  | .Gt => gt_ok
  | .GtE => ge_ok
  | .Eq => eq_ok hu
  | .NotEq => ne_ok hu
  | .In => in_ok (by omega)
  | .NotIn => notin_ok (by omega)
  | .Is => is_ok
  | .IsNot => isnot_ok
end

/-! ### subscripts -/
def ixD : D → D → Option D
  | .lst _ xs, .int i => atI xs i
  | .tup xs, .int i => atI xs i
  | .str z, .int i => if z.length ≤ lim then (atI z.cps.toList i).map fun c => .str ⟨#[c]⟩ else none
  | .dic _ ks ds, e => (keyOf e).bind fun k => valD ks ds k
  | _, _ => none
def cutD (xs : List D) (lo hi : Option Int) : List D := (xs.drop (HT.sIx xs.length 0 lo)).take (HT.sIx xs.length xs.length hi - HT.sIx xs.length 0 lo)
def slD (d : D) (lo hi : Option Int) : Option D := match d with
  | .lst _ xs => some (.lst true (cutD xs lo hi))
  | .tup xs => some (.tup (cutD xs lo hi))
  | .str z => if z.length ≤ lim then some (.str (cutS z lo hi)) else none
  | _ => none
section
variable {M : Memo} {W : WX} {X : Cx} {K : Frag} {σ : L2.St} {H G : Hp} {S : Nat → Addr → Prop} {g : Sg} {Q : VK} {pos p2 : Pos}
def IxS (X : Cx) (r : RS) : Prop :=
  ∀ (o i : Expr) (pins : List (Addr × Obj)) (s : Shared) (σ : L2.St) (H : Hp) (x y : V) (v u : Value) (Q : VK), Inv X pins σ H s → RelV x v → RelV y u → r σ x y H Q →
    subscripted i false v u = operate [v, u] (getItem v u) → wpAny (model X.prog X.w) X.A (subscriptTail o i v u) (EP X pins σ Q) X.xe s
theorem pe_ixS {f : D → D → Sg → Rs D} {a b : Expr} {oa ob : Op} (ho : IxS X (rF K M W f)) (ha : PE X a (tO K M W oa)) (hb : PE X b (tO K M W ob)) (hs : PlainIx b) : PE X (.Subscript a b pos) (tP K M W (pOp2 f oa ob)) :=
  ⟨fun pins s σ H Q I q => Subscript_ (binT (R := fun x y H2 => rF K M W f σ x y H2 Q) ha hb I (op2_t q) fun v u s2 x y H2 I2 rx ry q => ho a b pins s2 σ H2 x y v u Q I2 rx ry q (hs _ _))⟩
theorem atI_rep {ds : List D} {vs : List V} {i : Int} {d : D} (r : RepL K G ds vs) (h : atI ds i = some d) : ∃ v, atI vs i = some v ∧ Rep K G d v := by
  unfold atI at h ⊢
  rw [← r.len]
  cases e : ixN ds.length i with
  | none => rw [e] at h; cases h
  | some j =>
    rw [e] at h
    obtain ⟨v, h1, h2⟩ := r.get j h
    exact ⟨v, h1, h2⟩
theorem ix_ok (hu : X.A.units + 1 < cLine) : IxS X (rF X.K M W fun d e g => ro (ixD d e) g) := by
  rintro o i pins s σ H x y v u Q I rx ry ⟨g, G, S, d, e, m, sd, se, q⟩ hs
  dsimp only at q
  unfold ixD at q
  split at q
  · rename_i b xs j
    cases se.int
    obtain ⟨a, vs, rfl, h1, r1⟩ := sd.lst m.sub
    cases h : atI xs j with
    | none => rw [h] at q; exact (show False from q).elim
    | some d' =>
      rw [h] at q
      obtain ⟨w, h2, r2⟩ := atI_rep r1 h
      exact ix_list o i pins s σ H _ _ v u Q I rx ry ⟨a, vs, j, w, rfl, rfl, h1, h2, fin_sc q m r2⟩ hs
  · rename_i xs j
    cases se.int
    obtain ⟨a, vs, rfl, h1, r1⟩ := sd.tup m.sub
    cases h : atI xs j with
    | none => rw [h] at q; exact (show False from q).elim
    | some d' =>
      rw [h] at q
      obtain ⟨w, h2, r2⟩ := atI_rep r1 h
      exact ix_tup o i pins s σ H _ _ v u Q I rx ry ⟨a, vs, j, w, rfl, rfl, h1, h2, fin_sc q m r2⟩ hs
  · rename_i z j
    cases sd.str; cases se.int
    split at q
    · rename_i hl
      cases h : atI z.cps.toList j with
      | none => rw [h] at q; exact (show False from q).elim
      | some c =>
        rw [h] at q
        exact ix_str o i pins s σ H _ _ v u Q I rx ry ⟨z, j, c, rfl, rfl, lim_ok hl, h, fin_sc q m rfl⟩ hs
    · exact (show False from q).elim
  · rename_i b ks ds
    obtain ⟨a, vs, rfl, h1, hl, r1⟩ := sd.dic m.sub
    cases ek : keyOf e with
    | none => rw [ek] at q; exact (show False from q).elim
    | some k =>
      rw [ek] at q
      cases key_seen ek se
      cases hv : valD ks ds k with
      | none => rw [Option.bind_some, hv] at q; exact (show False from q).elim
      | some d' =>
        rw [Option.bind_some, hv] at q
        obtain ⟨w, e2, r2⟩ := (val_rep hl r1).1 d' hv
        cases rx
        have gt : DGet H a (kV k) (some w) := by rw [← e2]; exact DGet.k h1
        exact tail_any (dict_typeIs I gt) PySem.F.slot_dict_getitem.lookup (d_getItem hu I gt ry fun w' s3 I3 rw' => ⟨w, H, I3, rw', fin_sc q m r2⟩) hs
  · exact (show False from q).elim
end
end PI

set_option Elab.async false
set_option linter.all false
set_option maxRecDepth 100000
set_option maxHeartbeats 1000000
namespace PI
open PySem PySem.Spec PyProof.Rows L2
open PySem.W (Frag)
/-! ### slices -/
def evP (p : Option PX) (g : Sg) : Rs (Option Int) := match p with
  | none => .ok none g
  | some m => (m g).bind fun d g1 => match d with
    | .int i => .ok (some i) g1
    | _ => .bad
def pSl (a : Op) (lo hi : Option PX) : PX := fun g => (evO a g).bind fun x g1 => (evP lo g1).bind fun l g2 => (evP hi g2).bind fun h g3 => match rdO g3 a x with
  | some d => ro (slD d l h) g3
  | none => .bad
section
variable {M : Memo} {W : WX} {X : Cx} {K : Frag} {σ : L2.St} {H G : Hp} {S : Nat → Addr → Prop} {g : Sg} {Q : VK} {pos p2 : Pos}
def EndP (K : Frag) (M : Memo) (W : WX) (σ : L2.St) (H G : Hp) (S : Nat → Addr → Prop) (r : Rs (Option Int)) (Q : Option Int → Hp → Prop) : Prop := match r with
  | .bad => False
  | .ok x g' => ∀ H' G' S', Mt K M g' σ H' G' S' → Stp M H G S H' G' S' → Q x H'
  | .exc c d g' => EndX K M W σ H G S c d g'
def tPo (K : Frag) (M : Memo) (W : WX) (p : Option PX) : TO := fun σ H Q => ∃ g G S, Mt K M g σ H G S ∧ EndP K M W σ H G S (evP p g) Q
theorem po_0 : PO X none (tPo K M W none) := ⟨fun pins s σ H Q I h => by
  obtain ⟨g, G, S, m, q⟩ := h
  exact po_none.run pins s σ H Q I ((show EndP K M W σ H G S (.ok none g) Q from q) H G S m Stp.refl)⟩
theorem po_1 {e : Expr} {mm : PX} (he : PE X e (tP K M W mm)) : PO X (some e) (tPo K M W (some mm)) := ⟨fun pins s σ H Q I h => by
  refine (po_some he).run pins s σ H Q I ?_
  obtain ⟨g, G, S, m, q⟩ := h
  refine ⟨g, G, S, m, ?_⟩
  unfold evP at q
  dsimp only at q
  cases er : mm g with
  | bad => rw [er] at q; exact q
  | exc c d g' => rw [er] at q; exact q
  | ok d g1 =>
    rw [er, Rs.bind_ok] at q
    intro v H1 G1 S1 T ⟨m1, ow, ap⟩ st
    cases d with
    | int i =>
      have hv : v = .int i := Seen.int (K := K) (M := M) (G := G1) (H := H1) ⟨T, ow⟩
      exact ⟨i, hv, (show EndP K M W σ H G S (.ok (some i) g1) Q from q) H1 G1 S1 m1 st⟩
    | _ => exact (show False from q).elim⟩
def rSl (K : Frag) (M : Memo) : V → Option Int → Option Int → Hp → VK → Prop := fun x lo hi H Q => ∃ W σ g G S d, Mt K M g σ H G S ∧ Seen K M G H d x ∧ EndE K M W σ H G S (ro (slD d lo hi) g) Q
theorem RepL.cut {ds : List D} {vs : List V} (r : RepL K G ds vs) (lo hi : Option Int) : RepL K G (cutD ds lo hi) (cutV vs lo hi) := by
  have dr : ∀ (n : Nat) {ds : List D} {vs : List V}, RepL K G ds vs → RepL K G (ds.drop n) (vs.drop n) := by
    intro n
    induction n with
    | zero => intro ds vs r; exact r
    | succ n ih =>
      intro ds vs r
      cases ds with
      | nil => cases (show vs = [] from r); exact rfl
      | cons d ds =>
        obtain ⟨v, vr, rfl, h1, h2⟩ := r
        exact ih h2
  have tk : ∀ (n : Nat) {ds : List D} {vs : List V}, RepL K G ds vs → RepL K G (ds.take n) (vs.take n) := by
    intro n
    induction n with
    | zero => intro ds vs r; simp only [List.take_zero]; rfl
    | succ n ih =>
      intro ds vs r
      cases ds with
      | nil => cases (show vs = [] from r); exact rfl
      | cons d ds =>
        obtain ⟨v, vr, rfl, h1, h2⟩ := r
        exact ⟨v, vr.take n, rfl, h1, ih h2⟩
  unfold cutD cutV
  rw [← r.len]
  exact tk _ (dr _ r)
theorem cut_all {α : Type} (xs : List α) (a b : Nat) (h0 : a = 0) (h1 : b = xs.length) : (xs.drop a).take (b - a) = xs := by
  subst h0 h1
  simp
theorem sl_ok : SlR X (rSl X.K M) := by
  rintro pins s σ H x v vl vu lo hi sl Q I rx hs pl pu ⟨W, σ', g, G, S, d, m, sd, q⟩
  unfold slD at q
  split at q
  · rename_i b xs
    obtain ⟨a, vs, rfl, h1, r1⟩ := sd.lst m.sub
    exact sl_list pins s σ H _ v vl vu lo hi sl Q I rx hs pl pu ⟨a, vs, rfl, h1, fun p hp => fin_lst q m (r1.cut lo hi) p hp⟩
  · rename_i xs
    have rt := sd.tupR
    obtain ⟨a, vs, rfl, h1, r1⟩ := sd.tup m.sub
    refine sl_tupA pins s σ H _ v vl vu lo hi sl Q I rx hs pl pu ⟨a, vs, rfl, h1, fun hw => ?_, fun hw p hp => fin_tup q m (r1.cut lo hi) p hp⟩
    have e : cutD xs lo hi = xs := by
      rw [← r1.len] at hw
      exact cut_all xs _ _ hw.1 hw.2
    rw [e] at q
    exact fin_sc q m rt
  · rename_i z
    cases sd.str
    split at q
    · rename_i hl
      exact sl_str pins s σ H _ v vl vu lo hi sl Q I rx hs pl pu ⟨z, rfl, lim_ok hl, fin_sc q m rfl⟩
    · exact (show False from q).elim
  · exact (show False from q).elim
theorem pe_Sl {e : Expr} {lo hi : Option Expr} {oa : Op} {pl ph : Option PX} (ha : PE X e (tO X.K M W oa)) (hl : PO X lo (tPo X.K M W pl)) (hh : PO X hi (tPo X.K M W ph)) : PE X (.Subscript e (.Slice lo hi none p2) pos) (tP X.K M W (pSl oa pl ph)) := by
  refine PE.imp (pe_slice (sl_ok (M := M)) ha hl hh) fun σ H Q q => ?_
  obtain ⟨g, G, S, m, q⟩ := q
  refine ⟨g, G, S, m, ?_⟩
  unfold pSl at q
  cases er : evO oa g with
  | bad => rw [er] at q; exact q
  | exc c d g' => rw [er] at q; exact q
  | ok x g1 =>
    rw [er, Rs.bind_ok] at q
    intro v H1 G1 S1 m1 r1 st
    refine ⟨g1, G1, S1, m1, ?_⟩
    cases er2 : evP pl g1 with
    | bad => rw [er2] at q; exact q
    | exc c d g' => rw [er2] at q; exact EndX.of q st
    | ok l g2 =>
      rw [er2, Rs.bind_ok] at q
      intro H2 G2 S2 m2 st2
      refine ⟨g2, G2, S2, m2, ?_⟩
      cases er3 : evP ph g2 with
      | bad => rw [er3] at q; exact q
      | exc c d g' => rw [er3] at q; exact EndX.of q (st.trans st2)
      | ok h g3 =>
        rw [er3, Rs.bind_ok] at q
        intro H3 G3 S3 m3 st3
        have q := EndE.of q ((st.trans st2).trans st3)
        cases e1 : rdO g3 oa x with
        | none => rw [e1] at q; exact q.elim
        | some d => rw [e1] at q; exact ⟨W, σ, g3, G3, S3, d, m3, (r1.stp (st2.trans st3)).seen m3 e1, q⟩
end

/-! ### fields -/
def fldD (f : Str) : D → Option D
  | .obj _ _ ns ds => (ns.zip ds).lookup f
  | _ => none
def clsD : D → Option Str
  | .obj _ c _ _ => some c
  | _ => none
section
variable {M : Memo} {W : WX} {X : Cx} {K : Frag} {σ : L2.St} {H G : Hp} {S : Nat → Addr → Prop} {g : Sg} {Q : VK} {pos p2 : Pos}
theorem lookup_rep {f : Str} : ∀ {ns : List Str} {ds : List D} {vs : List V}, ns.length = vs.length → RepL K G ds vs →
    (∀ d, (ns.zip ds).lookup f = some d → ∃ v, (ns.zip vs).lookup f = some v ∧ Rep K G d v) ∧ ((ns.zip ds).lookup f = none → (ns.zip vs).lookup f = none)
  | [], ds, vs, hl, r => ⟨fun d h => by simp at h, fun _ => rfl⟩
  | j :: ks, ds, [], hl, r => by simp at hl
  | j :: ks, [], v :: vs, hl, r => by cases (show v :: vs = [] from r)
  | j :: ks, d :: ds, v :: vs, hl, r => by
    obtain ⟨v', vr, e, h1, h2⟩ := r
    cases e
    have ih := lookup_rep (f := f) (by simpa using hl) h2
    by_cases hj : f = j
    · have hb : (f == j) = true := beq_iff_eq.mpr hj
      refine ⟨fun d' h => ⟨v, by simp [List.lookup, hb], ?_⟩, fun h => by simp [List.lookup, hb] at h⟩
      simp [List.lookup, hb] at h
      subst h
      exact h1
    · have hb : (f == j) = false := beq_eq_false_iff_ne.mpr hj
      simp only [List.zip_cons_cons, List.lookup, hb]
      exact ih
/-- what the text has of the attributes of the classes -/
def FldOk (K : Frag) (fl : List (Str × Str)) : Prop := ∀ p ∈ fl, Cls K (He.ga K p.1) ∧ NoAttr K (He.ga K p.1) p.2
def pFld (fl : List (Str × Str)) (f : Str) (a : Op) : PX := pOp1 (fun d g => ro (if (clsD d).any fun c => fl.contains (c, f) then fldD f d else none) g) a
theorem pe_Fld {fl : List (Str × Str)} {e : Expr} {f : Str} {oa : Op} (T : FldOk X.K fl) (ha : PE X e (tO X.K M W oa)) (hb : attributeBase e f X.env (eval e X.env) = eval e X.env) : PE X (.Attribute e f pos) (tP X.K M W (pFld fl f oa)) := by
  refine PE.imp (pe_fld ha hb) fun σ H Q q => ?_
  obtain ⟨g, G, S, m, q⟩ := op1_t q
  refine ⟨g, G, S, m, EndO.imp q fun x H1 h => ?_⟩
  obtain ⟨g1, G1, S1, d, m1, sd, q1⟩ := h
  dsimp only at q1
  split at q1
  · rename_i hc
    cases d with
    | obj b c ns ds =>
      obtain ⟨a, dx, vs, rfl, h1, hl, r1⟩ := sd.obj m1.sub
      have hm : (c, f) ∈ fl := by
        have : fl.contains (c, f) = true := by simpa [clsD] using hc
        exact List.contains_iff_mem.mp this
      obtain ⟨t1, t2⟩ := T _ hm
      cases hv : (ns.zip ds).lookup f with
      | none =>
        dsimp only [fldD] at q1
        rw [hv] at q1
        exact (show False from q1).elim
      | some d' =>
        dsimp only [fldD] at q1
        rw [hv] at q1
        obtain ⟨w, e2, r2⟩ := (lookup_rep hl r1).1 d' hv
        exact ⟨a, _, dx, _, w, rfl, h1, t1, t2, e2, fin_sc q1 m1 r2⟩
    | _ => simp [clsD] at hc
  · exact (show False from q1).elim
end
end PI

set_option Elab.async false
set_option linter.all false
set_option maxRecDepth 100000
set_option maxHeartbeats 1000000
namespace PI
open PySem PySem.Spec PyProof.Rows L2
open PySem.W (Frag)
/-! ### defs: what they promise where no repr is under way -/
structure FnG (P : Program) (w : World) (K : Frag) (mg : Str → Option Value) (base : Heap) (k : Nat) (f : Addr) (fd : FuncData) (ps : List Str) (sp : Sp) : Prop where
  len : ∀ vs H Q E, sp vs H Q E → vs.length = ps.length
  run : ∀ (A : Around) (outer : List Env) (s : Shared) (H : Hp) (args : Args) (us : List Value) (vs : List V) (Q : VK) (E : XK), Room k A → A.guards = some [] → Env0 P w K mg base A outer s H →
    BindsTo s fd args (ps.zip us) → Vals vs us → sp vs H Q E → codeAny (model P w) A (.call (.ref f) args) (CR (L2.CX P w) outer P w H s Q E) s
section
variable {P : Program} {w : World} {K : Frag} {mg : Str → Option Value} {base : Heap} {k : Nat} {f : Addr} {fd : FuncData} {ps N : List Str} {sp : Sp}
/-- a def's body keeps the promise -/
theorem fnG_of {x qual : Str} {params : Arguments} {body : List Stmt} {scope : Scope} {dvs : List V} {kws : List (Str × V)} (F : FunD K x qual params body scope dvs kws f fd) (Z : FnScope N ps scope) (len : ∀ vs H Q E, sp vs H Q E → vs.length = ps.length)
    (hbody : ∀ (cdv : Value) (A : Around) (outer : List Env) (s : Shared) (H : Hp) (vs : List V) (Q : VK) (E : XK), Room k (A.deeper (envOfC qual scope s.heap.objs.size f cdv)) → (A.deeper (envOfC qual scope s.heap.objs.size f cdv)).guards = some [] → sp vs H Q E →
      ∃ t, PSs (cxOf (L2.CX P w) P w K mg base N qual scope f cdv A outer s H E) body t ∧ t { nx := fun _ H' => Q .non H', rt := Q } (start N vs) H) :
    FnG P w K mg base (k + 1) f fd ps sp := by
  obtain ⟨oc, od, dV, kV, doc, pm, an, cdv, ct, osl, rfl, lk, hcd, _, _⟩ := F.ex
  refine ⟨len, fun A outer s H args us vs Q E room gu e0 bind rv want => ?_⟩
  have inK : K.In s.heap := e0.mod.kin.keeps fun b o z => (e0.bs b o z).1
  have nol : s.heap.NoLimit := e0.mod.nolimit.keeps fun b o z => (e0.bs b o z).1
  have kinds : ∀ y ∈ ps.zip us, scope.names.lookup y.1 = some .local ∨ (scope.names.lookup y.1 = some .cell ∧ ((cellsFrom (s.heap.objs.size + 1) scope.names []).lookup y.1).isSome = true) := by
    rintro ⟨n, z⟩ hy
    rcases Z.par n (List.of_mem_zip hy).1 with c | c
    · exact .inl c
    · exact .inr ⟨c, PySem.W.cellsFrom_some _ _ _ (.inl c)⟩
  refine codeAny_call_function room.depth (inK _ _ lk) rfl Z.co Z.gen rfl (PySem.W.codeRec_of inK hcd) (bind _ _ _ _ (wpAny_newFunctionEnv_cells Z.kind kinds fun env he s1 ic => ?_))
  subst he
  refine ⟨nol.keeps ic.toInCall.keep, codeAny_func ?_⟩
  obtain ⟨t, ht, hq⟩ := hbody cdv A outer s H vs Q E (room.deeper _) gu want
  have J0 := inv_start (CX := L2.CX P w) (N := N) (f := f) (E := E) Z room.hd e0 (len _ _ _ _ want) rv ic
  refine wpAny_mono (ht.run [] s1 _ H _ J0 hq) (fun fl s2 hs => ?_) fun _ _ hs => hs
  cases fl with
  | ret u =>
    obtain ⟨z, σ2, H2, J, rz, q⟩ := hs
    exact ⟨z, H2, J.os, J.bare, J.base, J.hok, rz, q⟩
  | next =>
    obtain ⟨σ2, H2, J, q⟩ := hs
    exact ⟨V.non, H2, J.os, J.bare, J.base, J.hok, rfl, q⟩
  | brk => obtain ⟨_, _, _, q⟩ := hs; exact q.elim
  | cont => obtain ⟨_, _, _, q⟩ := hs; exact q.elim
end
section
variable {X : Cx} {W : WX} {k : Nat} {f : Addr} {fd : FuncData} {ps : List Str} {sp : Sp} {pins : List (Addr × Obj)} {σ : L2.St} {H : Hp} {s : Shared} {Q : VK}
/-- where one of the running body's calls ends -/
theorem ends_ok {A : Around} {us : List Value} {args : Args} (tk : Takes X W) (I : Inv X pins σ H s) (h : codeAny (model X.prog X.w) A (.call (.ref f) args) (CR (L2.CX X.prog X.w) X.stack X.prog X.w H s Q (WE W σ)) s) :
    codeAny (model X.prog X.w) A (.call (.ref f) args) (fun r s' => match r with
      | .ok (.ret u) => EP X pins σ Q u s'
      | .ok _ => False
      | .error e => X.xe e s') s := by
  refine codeAny_mono h fun r s' z => ?_
  cases r with
  | error e => exact passAt tk σ pins H s e s' I z
  | ok fl =>
    cases fl with
    | ret u => exact I.after z
    | next => exact z.elim
    | brk => exact z.elim
    | cont => exact z.elim
/-- a def called with keywords and positional values -/
theorem runG {args : List Value} {kw : List (Str × Value)} {us : List Value} {vs : List V} (F : FnG X.prog X.w X.K X.mg X.base k f fd ps sp) (hr : Room k X.A) (gu : X.A.guards = some []) (tk : Takes X W) (I : Inv X pins σ H s)
    (hb : BindsTo s fd ⟨args, kw⟩ (ps.zip us)) (r : Vals vs us) (h : sp vs H Q (WE W σ)) : wpAny (model X.prog X.w) X.A (call (.ref f) args kw) (EP X pins σ Q) X.xe s := by
  refine wpAny_call (codeAny_mono (ends_ok (us := us) tk I (F.run X.A X.stack s H ⟨args, kw⟩ us vs Q (WE W σ) hr gu I.env0 hb r h)) fun r s' z => ?_)
  cases r with
  | error e => exact z
  | ok fl =>
    cases fl with
    | ret u => exact z
    | next => exact z
    | brk => exact z
    | cont => exact z
end
end PI

set_option Elab.async false
set_option linter.all false
set_option maxRecDepth 100000
set_option maxHeartbeats 1000000
namespace PI
open PySem PySem.Spec PyProof.Rows L2
open PySem.W (Frag)
/-! ### calls: an argument by its value (sealed), or as it is held (looked at, changed in place) -/
inductive Ar where
  | v (m : PX) | r (o : Op)
def evA : List Ar → Sg → Rs (List (Option D))
  | [], g => .ok [] g
  | .v m :: as, g => (m g).bind fun d g1 => (evA as g1).bind fun xs g2 => .ok (some (sealD d) :: xs) g2
  | .r o :: as, g => (evO o g).bind fun x g1 => (evA as g1).bind fun xs g2 => .ok (x :: xs) g2
def rdA (g : Sg) : List Ar → List (Option D) → Option (List D)
  | [], _ => some []
  | .v _ :: as, some d :: xs => (rdA g as xs).map (d :: ·)
  | .r o :: as, x :: xs => (match rdO g o x, rdA g as xs with
    | some d, some ds => some (d :: ds)
    | _, _ => none)
  | _, _ => none
/-- the slot that is handed in as it is held -/
def nmA : Ar → Option Nat
  | .r (.nm i) => some i
  | _ => none
/-- behind the call: what was held is as the call left it -/
def wbS : List (Option Nat) → Sg → Sg → Sg
  | some n :: ns, x :: xs, g => wbS ns xs (g.set n x)
  | none :: ns, _ :: xs, g => wbS ns xs g
  | _, _, g => g
/-- parameters: the i-th argument, or a default -/
abbrev Pm := List (Sum Nat D)
def pmAt {α : Type} (xs : List α) (k : D → α) (p : Sum Nat D) : Option α := match p with
  | .inl i => xs[i]?
  | .inr d => some (k d)
def pmL {α : Type} (xs : List α) (k : D → α) : Pm → Option (List α)
  | [] => some []
  | p :: ps => (match pmAt xs k p, pmL xs k ps with
    | some x, some r => some (x :: r)
    | _, _ => none)
def distinct (l : List (Option Nat)) : Bool := decide ((l.filterMap id).Nodup)
/-- what the parameters that were handed in as held are worth behind the call -/
def retG (n : Nat) (rf : List Nat) (rs : List D) : Sg := (List.range n).map fun j => (rf.idxOf? j).bind fun k => rs[k]?
def callC (f : List D → Cr) (ns : List (Option Nat)) (ds : List D) (rf : List Nat) (g : Sg) : Rs D := match f ds with
  | .bad => .bad
  | .ok d rs => .ok d (wbS ns (retG ds.length rf rs) g)
  | .exc c d rs => .exc c d (wbS ns (retG ds.length rf rs) g)
def pCall (f : List D → Cr) (rf : List Nat) (as : List Ar) (pm : Pm) : PX := fun g => (evA as g).bind fun xs g1 => match rdA g1 as xs with
  | none => .bad
  | some ds => match pmL ds id pm, pmL (as.map nmA) (fun _ => none) pm with
    | some es, some ns => callC f ns es rf g1
    | _, _ => .bad
section
variable (K : Frag) (M : Memo)
/-- what stands at an argument's place: its value, what it alone holds, the slot that it is -/
structure En where
  d : D
  v : V
  B : Addr → Prop
  s : Option Nat
def EnOk (H0 : Hp) (g : Sg) (σ : L2.St) (H G : Hp) (S : Nat → Addr → Prop) (e : En) : Prop := Own K M G H e.d e.v e.B ∧ match e.s with
  | some n => e.B = S n ∧ g[n]? = some (some e.d) ∧ σ[n]? = some (some e.v)
  | none => ∀ a, e.B a → ¬ Vl M G S a ∧ H0 a = none
def Apart (es : List En) : Prop := ∀ (i j : Nat) (e e' : En) (a : Addr), es[i]? = some e → es[j]? = some e' → e.B a → e'.B a → i = j
def bOf (es : List En) (j : Nat) (a : Addr) : Prop := ∃ e, es[j]? = some e ∧ e.B a
end
section
variable {K : Frag} {M : Memo} {W : WX} {X : Cx} {σ : L2.St} {H H0 G G0 H1 G1 H' G' : Hp} {S S0 S1 B' : Nat → Addr → Prop} {g g1 gr : Sg}
/-- the callee's state -/
theorem callee_mt {es : List En} (m : Mt K M g σ H G S) (h : ∀ e ∈ es, EnOk K M H0 g σ H G S e) (ap : Apart es) : Mt K M (es.map fun e => some e.d) (es.map fun e => some e.v) H G (bOf es) := by
  refine ⟨by rw [List.length_map, List.length_map], fun i d e1 => ?_, fun i q a z => ?_, fun i j a ⟨e, e1, e2⟩ ⟨e', e3, e4⟩ => ap i j e e' a e1 e3 e2 e4, m.sub, m.mem, fun i a ⟨e, e1, e2⟩ => ?_⟩
  · rw [List.getElem?_map] at e1
    cases q : es[i]? with
    | none => rw [q] at e1; cases e1
    | some e =>
      rw [q] at e1
      cases e1
      refine ⟨e.v, by rw [List.getElem?_map, q] <;> rfl, ?_⟩
      have eb : bOf es i = e.B := funext fun a => propext ⟨fun ⟨e', e1, e2⟩ => by rw [q] at e1; cases e1; exact e2, fun z => ⟨e, q, z⟩⟩
      rw [eb]
      exact (h e (List.mem_of_getElem? q)).1
  · obtain ⟨e, e1, e2⟩ := z
    exact q e.d (by rw [List.getElem?_map, e1] <;> rfl)
  · obtain ⟨_, hh⟩ := h e (List.mem_of_getElem? e1)
    cases q : e.s with
    | some n =>
      rw [q] at hh
      rw [hh.1] at e2
      exact m.vol n a e2
    | none =>
      rw [q] at hh
      exact fun z => (hh a e2).1 (.inr z)
theorem wbS_len : ∀ (ns : List (Option Nat)) (xs g : Sg), (wbS ns xs g).length = g.length
  | [], xs, g => by cases xs <;> rfl
  | some n :: ns, [], g => rfl
  | none :: ns, [], g => rfl
  | some n :: ns, x :: xs, g => by
    show (wbS ns xs (g.set n x)).length = _
    rw [wbS_len ns xs, List.length_set]
  | none :: ns, x :: xs, g => wbS_len ns xs g
theorem wbS_out {n : Nat} : ∀ (ns : List (Option Nat)) (xs g : Sg), (∀ j : Nat, ns[j]? ≠ some (some n)) → (wbS ns xs g)[n]? = g[n]?
  | [], xs, g, _ => by cases xs <;> rfl
  | some k :: ns, [], g, _ => rfl
  | none :: ns, [], g, _ => rfl
  | some k :: ns, x :: xs, g, h => by
    show (wbS ns xs (g.set k x))[n]? = _
    rw [wbS_out ns xs _ fun j => h (j + 1)]
    exact List.getElem?_set_ne fun z => h 0 (by rw [z] <;> rfl)
  | none :: ns, x :: xs, g, h => wbS_out ns xs g fun j => h (j + 1)
theorem wbS_in {n : Nat} : ∀ (ns : List (Option Nat)) (xs g : Sg) (j : Nat) (x : Option D), (∀ (i k m : Nat), ns[i]? = some (some m) → ns[k]? = some (some m) → i = k) → ns[j]? = some (some n) → xs[j]? = some x → n < g.length → (wbS ns xs g)[n]? = some x
  | [], xs, g, j, x, _, h, _, _ => by simp at h
  | k :: ns, [], g, j, x, _, _, h, _ => by simp at h
  | some k :: ns, y :: xs, g, 0, x, nd, h, hx, hn => by
    simp at h hx
    subst h hx
    show (wbS ns xs (g.set k y))[k]? = _
    rw [wbS_out ns xs _ fun j z => by have := nd 0 (j + 1) k rfl z; omega]
    exact List.getElem?_set_self hn
  | none :: ns, y :: xs, g, 0, x, nd, h, hx, hn => by simp at h
  | some k :: ns, y :: xs, g, j + 1, x, nd, h, hx, hn => by
    show (wbS ns xs (g.set k y))[n]? = _
    exact wbS_in ns xs _ j x (fun a b m ha hb => by have := nd (a + 1) (b + 1) m ha hb; omega) (by simpa using h) (by simpa using hx) (by rw [List.length_set]; exact hn)
  | none :: ns, y :: xs, g, j + 1, x, nd, h, hx, hn => by
    show (wbS ns xs g)[n]? = _
    exact wbS_in ns xs _ j x (fun a b m ha hb => by have := nd (a + 1) (b + 1) m ha hb; omega) (by simpa using h) (by simpa using hx) hn
/-- what each slot holds behind the call -/
def backS (es : List En) (S B' : Nat → Addr → Prop) (n : Nat) (a : Addr) : Prop := (∃ (j : Nat) (e : En), es[j]? = some e ∧ e.s = some n ∧ B' j a) ∨ ((∀ e ∈ es, e.s ≠ some n) ∧ S n a)
theorem back_mt {es : List En} (m : Mt K M g σ H G S) (st0 : Stp M H0 G0 S0 H G S) (h : ∀ e ∈ es, EnOk K M H0 g σ H G S e) (ap : Apart es) (inj : ∀ (i j : Nat) (e e' : En) (n : Nat), es[i]? = some e → es[j]? = some e' → e.s = some n → e'.s = some n → i = j)
    (lr : gr.length = es.length) (m' : Mt K M gr (es.map fun e => some e.v) H' G' B') (st : Stp M H G (bOf es) H' G' B') :
    Mt K M (wbS (es.map fun e => e.s) gr g) σ H' G' (backS es S B') ∧ Stp M H0 G0 S0 H' G' (backS es S B') ∧ ∀ a, H a = none → ¬ Vl M G' B' a → ¬ Vl M G' (backS es S B') a := by
  have there : ∀ n a, S n a → ∃ o, H a = some o := fun n a z => by
    by_cases e : ∃ d, g[n]? = some (some d)
    · obtain ⟨d, e⟩ := e
      obtain ⟨v, _, ow⟩ := m.own n d e
      exact (ow.there z).1
    · exact (m.nil n (fun d q => e ⟨d, q⟩) a z).elim
  have outB : ∀ n a, (∀ e ∈ es, e.s ≠ some n) → S n a → ¬ Vl M G (bOf es) a := fun n a hn z y => by
    rcases y with ⟨j, e, e1, e2⟩ | y
    · obtain ⟨_, hh⟩ := h e (List.mem_of_getElem? e1)
      cases q : e.s with
      | some k =>
        rw [q] at hh
        rw [hh.1] at e2
        have := m.dis n k a z e2
        subst this
        exact hn e (List.mem_of_getElem? e1) q
      | none =>
        rw [q] at hh
        exact (hh a e2).1 (.inl ⟨n, z⟩)
    · exact m.vol n a z y
  have outB' : ∀ n a, (∀ e ∈ es, e.s ≠ some n) → S n a → ¬ Vl M G' B' a := fun n a hn z y => by
    rcases st.vl a y with y | y
    · exact outB n a hn z y
    · obtain ⟨o, ho⟩ := there n a z
      rw [ho] at y; cases y
  have nsj : ∀ (j n : Nat), (es.map fun e => En.s e)[j]? = some (some n) ↔ ∃ e : En, es[j]? = some e ∧ e.s = some n := fun j n => by
    rw [List.getElem?_map]
    cases q : es[j]? with
    | none => exact ⟨fun z => (by cases z), fun ⟨e, z, _⟩ => (by cases z)⟩
    | some e => exact ⟨fun z => ⟨e, rfl, Option.some.inj z⟩, fun ⟨e', z, z2⟩ => by cases z; exact congrArg some z2⟩
  have vB : ∀ a, Vl M G (bOf es) a → Vl M G S a ∨ H0 a = none := fun a y => by
    rcases y with ⟨j, e, e1, e2⟩ | y
    · obtain ⟨_, hh⟩ := h e (List.mem_of_getElem? e1)
      cases q : e.s with
      | some k =>
        rw [q] at hh
        rw [hh.1] at e2
        exact .inl (.inl ⟨k, e2⟩)
      | none =>
        rw [q] at hh
        exact .inr (hh a e2).2
    · exact .inl (.inr y)
  refine ⟨⟨by rw [wbS_len]; exact m.len, fun n d e1 => ?_, fun n q a z => ?_, fun n k a z y => ?_, m'.sub, m'.mem, fun n a z => ?_⟩, ⟨st0.gr.trans st.gr, fun a o q z => ?_, fun a o q => ?_, fun a z => ?_, fun a o q => ?_⟩, fun a hn nv z => ?_⟩
  · by_cases c : ∃ (j : Nat) (e : En), es[j]? = some e ∧ e.s = some n
    · obtain ⟨j, e, ej, es'⟩ := c
      have hb : backS es S B' n = B' j := funext fun a => propext ⟨fun z => by
        rcases z with ⟨j', e', h1, h2, h3⟩ | ⟨h1, _⟩
        · have := inj j j' e e' n ej h1 es' h2
          subst this
          exact h3
        · exact (h1 e (List.mem_of_getElem? ej) es').elim, fun z => .inl ⟨j, e, ej, es', z⟩⟩
      rw [hb]
      obtain ⟨_, hh⟩ := h e (List.mem_of_getElem? ej)
      rw [es'] at hh
      have hj : j < gr.length := by rw [lr]; exact (List.getElem?_eq_some_iff.mp ej).1
      have hn : n < g.length := (List.getElem?_eq_some_iff.mp hh.2.1).1
      have w := wbS_in (n := n) (es.map fun e => e.s) gr g j gr[j] (fun a b k ha hb => by
        obtain ⟨ea, z1, z2⟩ := (nsj a k).mp ha
        obtain ⟨eb, z3, z4⟩ := (nsj b k).mp hb
        exact inj a b ea eb k z1 z3 z2 z4) ((nsj j n).mpr ⟨e, ej, es'⟩) (List.getElem?_eq_getElem hj) hn
      rw [w] at e1
      have e2 : gr[j]? = some (some d) := by rw [List.getElem?_eq_getElem hj]; exact e1
      obtain ⟨v, ev, ow⟩ := m'.own j d e2
      refine ⟨v, ?_, ow⟩
      rw [List.getElem?_map, ej] at ev
      rw [hh.2.2]
      exact ev
    · have c' : ∀ e ∈ es, e.s ≠ some n := fun e he z => by
        obtain ⟨j, ej⟩ := List.getElem?_of_mem he
        exact c ⟨j, e, ej, z⟩
      have hb : backS es S B' n = S n := funext fun a => propext ⟨fun z => by
        rcases z with ⟨j', e', h1, h2, h3⟩ | ⟨_, h1⟩
        · exact (c ⟨j', e', h1, h2⟩).elim
        · exact h1, fun z => .inr ⟨c', z⟩⟩
      rw [hb]
      rw [wbS_out _ _ _ fun j z => c (let ⟨e, z1, z2⟩ := (nsj j n).mp z; ⟨j, e, z1, z2⟩)] at e1
      obtain ⟨v, ev, ow⟩ := m.own n d e1
      exact ⟨v, ev, ow.stp st fun a z => outB n a c' z⟩
  · rcases z with ⟨j, e, ej, es', hb⟩ | ⟨c', z⟩
    · obtain ⟨_, hh⟩ := h e (List.mem_of_getElem? ej)
      rw [es'] at hh
      have hj : j < gr.length := by rw [lr]; exact (List.getElem?_eq_some_iff.mp ej).1
      have hn : n < g.length := (List.getElem?_eq_some_iff.mp hh.2.1).1
      have w := wbS_in (n := n) (es.map fun e => e.s) gr g j gr[j] (fun a b k ha hb => by
        obtain ⟨ea, z1, z2⟩ := (nsj a k).mp ha
        obtain ⟨eb, z3, z4⟩ := (nsj b k).mp hb
        exact inj a b ea eb k z1 z3 z2 z4) ((nsj j n).mpr ⟨e, ej, es'⟩) (List.getElem?_eq_getElem hj) hn
      refine m'.nil j (fun d y => q d ?_) a hb
      rw [w, ← List.getElem?_eq_getElem hj]
      exact y
    · rw [wbS_out _ _ _ fun j z => by
        obtain ⟨e, z1, z2⟩ := (nsj j n).mp z
        exact c' e (List.mem_of_getElem? z1) z2] at q
      exact m.nil n q a z
  · rcases z with ⟨j, e, ej, es', hb⟩ | ⟨c', z⟩
    · rcases y with ⟨j2, e2, ej2, es2, hb2⟩ | ⟨c2, y⟩
      · have := m'.dis j j2 a hb hb2
        subst this
        rw [ej] at ej2; cases ej2
        rw [es'] at es2
        exact Option.some.inj es2
      · exact (outB' k a c2 y (.inl ⟨j, hb⟩)).elim
    · rcases y with ⟨j2, e2, ej2, es2, hb2⟩ | ⟨c2, y⟩
      · exact (outB' n a c' z (.inl ⟨j2, hb2⟩)).elim
      · exact m.dis n k a z y
  · rcases z with ⟨j, e, ej, es', hb⟩ | ⟨c', z⟩
    · exact m'.vol j a hb
    · exact fun y => outB' n a c' z (.inr y)
  · refine st.fr a o (st0.fr a o q z) fun y => ?_
    rcases vB a y with y | y
    · rcases st0.vl a y with y | y
      · exact z y
      · rw [q] at y; cases y
    · rw [q] at y; cases y
  · obtain ⟨o1, q1⟩ := st0.th a o q
    exact st.th a o1 q1
  · have key : Vl M G' B' a ∨ ∃ n, S n a := by
      rcases z with ⟨n, ⟨j, e, ej, es', hb⟩ | ⟨c', z⟩⟩ | z
      · exact .inl (.inl ⟨j, hb⟩)
      · exact .inr ⟨n, z⟩
      · exact .inl (.inr z)
    rcases key with y | ⟨n, y⟩
    · rcases st.vl a y with y | y
      · rcases vB a y with y | y
        · exact st0.vl a y
        · exact .inr y
      · exact .inr (st0.back y)
    · exact st0.vl a (.inl ⟨n, y⟩)
  · rcases st.fg a o q with y | y | y
    · exact st0.fg a o y
    · exact .inr (.inl (st0.back y))
    · rcases vB a y with y | y
      · rcases st0.vl a y with y | y
        · exact .inr (.inr y)
        · exact .inr (.inl y)
      · exact .inr (.inl y)
  · rcases z with ⟨n, ⟨j, e, ej, es', hb⟩ | ⟨c', z⟩⟩ | z
    · exact nv (.inl ⟨j, hb⟩)
    · obtain ⟨o, ho⟩ := there n a z
      rw [hn] at ho; cases ho
    · exact nv (.inr z)
end
end PI

set_option Elab.async false
set_option linter.all false
set_option maxRecDepth 100000
set_option maxHeartbeats 1000000
namespace PI
open PySem PySem.Spec PyProof.Rows L2
open PySem.W (Frag)
/-! ### looks at the text -/
def noStar : Expr → Bool
  | .Starred .. => false
  | _ => true
theorem star_of {e : Expr} {es : List Expr} {env : Env} (h : noStar e = true) : starEach (e :: es) env = (false, eval e env) :: starEach es env := by
  cases e <;> first | rfl | cases h
theorem stars_of {pos : Pos} {env : Env} : ∀ {es : List Expr}, es.all noStar = true → (backTo pos (starEach es env)).any (·.1) = false
  | [], _ => rfl
  | e :: es, h => by
    rw [List.all_cons, Bool.and_eq_true] at h
    rw [star_of h.1]
    show (false || (backTo pos (starEach es env)).any (·.1)) = false
    rw [stars_of h.2] <;> rfl
def kwNames (ks : List Keyword) : List Str := ks.filterMap (·.arg)
theorem kws_all {pos : Pos} {env : Env} : ∀ {ks : List Keyword}, ks.all (·.arg.isSome) = true → (backToKw pos (keywordEach ks env)).all (·.1.isSome) = true
  | [], _ => rfl
  | ⟨n, v, p⟩ :: ks, h => by
    rw [List.all_cons, Bool.and_eq_true] at h
    show (n.isSome && (backToKw pos (keywordEach ks env)).all (·.1.isSome)) = true
    rw [kws_all h.2, Bool.and_true]
    exact h.1
theorem kws_none {pos : Pos} {env : Env} : ∀ {ks : List Keyword}, ks.all (·.arg.isSome) = true → (backToKw pos (keywordEach ks env)).any (·.1.isNone) = false
  | [], _ => rfl
  | ⟨n, v, p⟩ :: ks, h => by
    rw [List.all_cons, Bool.and_eq_true] at h
    show (n.isNone || (backToKw pos (keywordEach ks env)).any (·.1.isNone)) = false
    rw [kws_none h.2, Bool.or_false]
    have h1 : n.isSome = true := h.1
    cases n with
    | none => cases h1
    | some x => rfl
theorem kws_names {pos : Pos} {env : Env} : ∀ {ks : List Keyword}, (backToKw pos (keywordEach ks env)).filterMap (·.1) = kwNames ks
  | [] => rfl
  | ⟨n, v, p⟩ :: ks => by
    show List.filterMap (·.1) ((n, _) :: backToKw pos (keywordEach ks env)) = _
    unfold kwNames
    rw [List.filterMap_cons, List.filterMap_cons]
    dsimp only
    cases n with
    | none => exact kws_names
    | some x => exact congrArg (x :: ·) kws_names
/-! ### arguments -/
section
variable (K : Frag) (M : Memo)
def ArR (H0 : Hp) (g : Sg) (σ : L2.St) (H G : Hp) (S : Nat → Addr → Prop) (a : Ar) (x : Option D) (v : V) (T : Addr → Prop) : Prop := match a with
  | .v _ => (∃ d, x = some d ∧ Rep K G d v) ∧ ∀ b, ¬ T b
  | .r (.nm i) => σ[i]? = some (some v) ∧ ∀ b, ¬ T b
  | .r (.ex _) => ∃ d, x = some d ∧ Own K M G H d v T ∧ ∀ b, T b → ¬ Vl M G S b ∧ H0 b = none
/-- U: what the new things among them hold -/
def ArRs (H0 : Hp) (g : Sg) (σ : L2.St) (H G : Hp) (S : Nat → Addr → Prop) : List Ar → List (Option D) → List V → (Addr → Prop) → Prop
  | [], xs, vs, U => xs = [] ∧ vs = [] ∧ ∀ b, ¬ U b
  | a :: as, xs, vs, U => ∃ x xr v vr T U', xs = x :: xr ∧ vs = v :: vr ∧ ArR K M H0 g σ H G S a x v T ∧ ArRs H0 g σ H G S as xr vr U' ∧ (∀ b, U b ↔ T b ∨ U' b) ∧ ∀ b, T b → ¬ U' b
def EndA (W : WX) (σ : L2.St) (H G : Hp) (S : Nat → Addr → Prop) (as : List Ar) (r : Rs (List (Option D))) (Q : List V → Hp → Prop) : Prop := match r with
  | .bad => False
  | .ok xs g' => ∀ vs H' G' S' U, Mt K M g' σ H' G' S' → ArRs K M H g' σ H' G' S' as xs vs U → Stp M H G S H' G' S' → Q vs H'
  | .exc c d g' => EndX K M W σ H G S c d g'
def tA (W : WX) (as : List Ar) : TA := fun σ H Q => ∃ g G S, Mt K M g σ H G S ∧ EndA K M W σ H G S as (evA as g) Q
end
section
variable {K : Frag} {M : Memo} {W : WX} {X : Cx} {σ : L2.St} {H H0 G G0 H1 G1 : Hp} {S S0 S1 : Nat → Addr → Prop} {g g1 : Sg} {T U : Addr → Prop}
theorem ArR.base {a : Ar} {x : Option D} {v : V} (h : ArR K M H1 g σ H G S a x v T) (b : ∀ a, H1 a = none → H0 a = none) : ArR K M H0 g σ H G S a x v T := by
  cases a with
  | v m => exact h
  | r o =>
    cases o with
    | nm i => exact h
    | ex m => obtain ⟨d, e, ow, ap⟩ := h; exact ⟨d, e, ow, fun a ha => ⟨(ap a ha).1, b a (ap a ha).2⟩⟩
theorem ArRs.base : ∀ {as : List Ar} {xs : List (Option D)} {vs : List V} {U : Addr → Prop}, ArRs K M H1 g σ H G S as xs vs U → (∀ a, H1 a = none → H0 a = none) → ArRs K M H0 g σ H G S as xs vs U
  | [], _, _, _, h, _ => h
  | a :: as, _, _, _, h, b => by
    obtain ⟨x, xr, v, vr, T, U', e1, e2, h1, h2, h3⟩ := h
    exact ⟨x, xr, v, vr, T, U', e1, e2, h1.base b, h2.base b, h3⟩
theorem ArR.stp {a : Ar} {x : Option D} {v : V} (h : ArR K M H0 g σ H G S a x v T) (st : Stp M H G S H1 G1 S1) : ArR K M H0 g1 σ H1 G1 S1 a x v T := by
  cases a with
  | v m => obtain ⟨⟨d, e, r⟩, n⟩ := h; exact ⟨⟨d, e, Rep.mono st.gr _ _ r⟩, n⟩
  | r o =>
    cases o with
    | nm i => exact h
    | ex m =>
      obtain ⟨d, e, ow, ap⟩ := h
      refine ⟨d, e, ow.stp st fun a ha => (ap a ha).1, fun a ha => ⟨?_, (ap a ha).2⟩⟩
      obtain ⟨⟨o, ho⟩, _⟩ := ow.there ha
      exact st.apart ho (ap a ha).1
theorem ArRs.stp (st : Stp M H G S H1 G1 S1) : ∀ {as : List Ar} {xs : List (Option D)} {vs : List V} {U : Addr → Prop}, ArRs K M H0 g σ H G S as xs vs U → ArRs K M H0 g1 σ H1 G1 S1 as xs vs U
  | [], _, _, _, h => h
  | a :: as, _, _, _, h => by
    obtain ⟨x, xr, v, vr, T, U', e1, e2, h1, h2, h3⟩ := h
    exact ⟨x, xr, v, vr, T, U', e1, e2, h1.stp st, h2.stp st, h3⟩
theorem ArR.there {a : Ar} {x : Option D} {v : V} (h : ArR K M H0 g σ H G S a x v T) {b : Addr} (hb : T b) : (∃ o, H b = some o) ∧ ¬ Vl M G S b ∧ H0 b = none := by
  cases a with
  | v m => exact (h.2 b hb).elim
  | r o =>
    cases o with
    | nm i => exact (h.2 b hb).elim
    | ex m => obtain ⟨d, e, ow, ap⟩ := h; exact ⟨(ow.there hb).1, ap b hb⟩
theorem ArRs.there : ∀ {as : List Ar} {xs : List (Option D)} {vs : List V} {U : Addr → Prop}, ArRs K M H0 g σ H G S as xs vs U → ∀ {b : Addr}, U b → (∃ o, H b = some o) ∧ ¬ Vl M G S b ∧ H0 b = none
  | [], _, _, _, h, b, hb => (h.2.2 b hb).elim
  | a :: as, _, _, _, h, b, hb => by
    obtain ⟨x, xr, v, vr, T, U', e1, e2, h1, h2, h3, h4⟩ := h
    rcases (h3 b).mp hb with z | z
    · exact h1.there z
    · exact h2.there z
/-- two rows of arguments, one behind the other -/
theorem ArRs.app : ∀ {as bs : List Ar} {xs ys : List (Option D)} {vs us : List V} {U U2 : Addr → Prop}, ArRs K M H0 g σ H G S as xs vs U → ArRs K M H0 g σ H G S bs ys us U2 → (∀ b, U b → ¬ U2 b) → ArRs K M H0 g σ H G S (as ++ bs) (xs ++ ys) (vs ++ us) fun b => U b ∨ U2 b
  | [], bs, _, ys, _, us, U, U2, h, h2, ap => by
    obtain ⟨rfl, rfl, n⟩ := h
    have e : (fun b => U b ∨ U2 b) = U2 := funext fun b => propext ⟨fun z => z.elim (fun y => (n b y).elim) id, .inr⟩
    rw [e]
    exact h2
  | a :: as, bs, _, ys, _, us, U, U2, h, h2, ap => by
    obtain ⟨x, xr, v, vr, T, U', rfl, rfl, q1, q2, q3, q4⟩ := h
    refine ⟨x, xr ++ ys, v, vr ++ us, T, fun b => U' b ∨ U2 b, rfl, rfl, q1, ArRs.app q2 h2 fun b z => ap b ((q3 b).mpr (.inr z)), fun b => ?_, fun b hb z => ?_⟩
    · show U b ∨ U2 b ↔ T b ∨ (U' b ∨ U2 b)
      rw [q3 b, or_assoc]
    · rcases z with z | z
      · exact q4 b hb z
      · exact ap b ((q3 b).mpr (.inl hb)) z
theorem EndA.of {as : List Ar} {r : Rs (List (Option D))} {Q : List V → Hp → Prop} (h : EndA K M W σ H G S as r Q) (st : Stp M H G S H1 G1 S1) : EndA K M W σ H1 G1 S1 as r Q := by
  cases r with
  | bad => exact h
  | ok x g' => exact fun v H' G' S' U m rr s => h v H' G' S' U m (rr.base fun a => st.back) (st.trans s)
  | exc c d g' => exact EndX.of h st
theorem pa_A0 : PA X [] (tA K M W []) := by
  refine PA.imp pa_nil fun σ H Q q => ?_
  obtain ⟨g, G, S, m, q⟩ := q
  exact (show EndA K M W σ H G S [] (.ok [] g) Q from q) [] H G S none_ m ⟨rfl, rfl, fun b z => z⟩ Stp.refl
/-- an argument's expression -/
def PAr (K : Frag) (M : Memo) (W : WX) (X : Cx) (e : Expr) : Ar → Prop
  | .v m => PE X e (tP K M W m)
  | .r o => PE X e (tO K M W o)
/-- what the reading of the first argument is -/
def tAr (K : Frag) (M : Memo) (W : WX) : Ar → TE
  | .v m => tP K M W m
  | .r o => tO K M W o
theorem PAr.pe {e : Expr} {a : Ar} (h : PAr K M W X e a) : PE X e (tAr K M W a) := by cases a <;> exact h
theorem cons_A {a : Ar} {as : List Ar} {Q : List V → Hp → Prop} (q : tA K M W (a :: as) σ H Q) : tCons (tAr K M W a) (tA K M W as) σ H Q := by
  obtain ⟨g, G, S, mt, q⟩ := q
  cases a with
  | v m =>
    refine ⟨g, G, S, mt, ?_⟩
    unfold evA at q
    cases er : m g with
    | bad => rw [er] at q; exact q
    | exc c d g' => rw [er] at q; exact q
    | ok d g1 =>
      rw [er, Rs.bind_ok] at q
      intro v H1 G1 S1 T got st
      obtain ⟨G1', m1, r1, sb, hg, hv⟩ := got.seal
      have st1 := st.sealed sb hg hv
      refine ⟨g1, G1', S1, m1, ?_⟩
      cases er2 : evA as g1 with
      | bad => rw [er2] at q; exact q
      | exc c d g' => rw [er2] at q; exact EndX.of q st1
      | ok xs g2 =>
        rw [er2] at q
        intro vs H2 G2 S2 U m2 r2 st2
        exact (show EndA K M W σ H G S _ (.ok (some (sealD d) :: xs) g2) Q from q) (v :: vs) H2 G2 S2 U m2
          ⟨_, xs, v, vs, none_, U, rfl, rfl, ⟨⟨_, rfl, Rep.mono st2.gr _ _ r1⟩, fun b z => z⟩, r2.base fun a => st1.back, fun b => ⟨.inr, fun z => z.elim (fun y => y.elim) id⟩, fun b z => z.elim⟩ (st1.trans st2)
  | r o =>
    refine ⟨g, G, S, mt, ?_⟩
    unfold evA at q
    cases er : evO o g with
    | bad => rw [er] at q; exact q
    | exc c d g' => rw [er] at q; exact q
    | ok x g1 =>
      rw [er, Rs.bind_ok] at q
      intro v H1 G1 S1 m1 r1 st
      refine ⟨g1, G1, S1, m1, ?_⟩
      cases er2 : evA as g1 with
      | bad => rw [er2] at q; exact q
      | exc c d g' => rw [er2] at q; exact EndX.of q st
      | ok xs g2 =>
        rw [er2] at q
        intro vs H2 G2 S2 U m2 r2 st2
        have fin := (show EndA K M W σ H G S _ (.ok (x :: xs) g2) Q from q) (v :: vs) H2 G2 S2
        cases o with
        | nm i => exact fin U m2 ⟨x, xs, v, vs, none_, U, rfl, rfl, ⟨r1, fun b z => z⟩, r2.base fun a => st.back, fun b => ⟨.inr, fun z => z.elim (fun y => y.elim) id⟩, fun b z => z.elim⟩ (st.trans st2)
        | ex mm =>
          obtain ⟨d, T, e, ow, ap⟩ := r1
          refine fin (fun b => T b ∨ U b) m2 ⟨x, xs, v, vs, T, U, rfl, rfl, ⟨d, e, ow.stp st2 fun b hb => (ap b hb).1, fun b hb => ⟨?_, (ap b hb).2⟩⟩, r2.base fun a => st.back, fun b => Iff.rfl, fun b hb z => ?_⟩ (st.trans st2)
          · obtain ⟨⟨o, ho⟩, _⟩ := ow.there hb
            exact st2.apart ho (ap b hb).1
          · have h1 := (r2.there z).2.2
            obtain ⟨⟨o1, h2⟩, _⟩ := ow.there hb
            rw [h1] at h2; cases h2
theorem pa_Ac {e : Expr} {es : List Expr} {a : Ar} {as : List Ar} (hp : PAr K M W X e a) (hr : PA X es (tA K M W as)) (hs : noStar e = true) : PA X (e :: es) (tA K M W (a :: as)) :=
  PA.imp (pa_cons hp.pe hr (star_of hs)) fun σ H Q q => cons_A q
theorem pk_A0 : PK X [] (tA K M W []) := ⟨fun pos pins s σ H Q I q => by
  obtain ⟨g, G, S, m, q⟩ := q
  exact pk_nil.run pos pins s σ H Q I ((show EndA K M W σ H G S [] (.ok [] g) Q from q) [] H G S none_ m ⟨rfl, rfl, fun b z => z⟩ Stp.refl)⟩
theorem pk_Ac {nm : Option Str} {kp : Pos} {e : Expr} {ks : List Keyword} {a : Ar} {as : List Ar} (hp : PAr K M W X e a) (hr : PK X ks (tA K M W as)) : PK X (⟨nm, e, kp⟩ :: ks) (tA K M W (a :: as)) :=
  ⟨fun pos pins s σ H Q I q => (pk_cons hp.pe hr).run pos pins s σ H Q I (cons_A q)⟩
end
end PI

set_option Elab.async false
set_option linter.all false
set_option maxRecDepth 100000
set_option maxHeartbeats 1000000
namespace PI
open PySem PySem.Spec PyProof.Rows L2
open PySem.W (Frag)
/-! ### from arguments to parameters -/
section
variable {K : Frag} {M : Memo} {W : WX} {X : Cx} {σ : L2.St} {H H0 G G0 H1 G1 : Hp} {S S0 S1 : Nat → Addr → Prop} {g g1 : Sg} {T U : Addr → Prop}
theorem evA_app : ∀ (as bs : List Ar) (g : Sg), evA (as ++ bs) g = (evA as g).bind fun xs g1 => (evA bs g1).bind fun ys g2 => .ok (xs ++ ys) g2
  | [], bs, g => by
    show evA bs g = (Rs.ok [] g).bind _
    rw [Rs.bind_ok]
    cases evA bs g <;> rfl
  | .v m :: as, bs, g => by
    show (m g).bind (fun d g1 => (evA (as ++ bs) g1).bind fun xs g2 => .ok (some (sealD d) :: xs) g2) = ((m g).bind _).bind _
    cases m g with
    | bad => rfl
    | exc c d g' => rfl
    | ok d g1 =>
      rw [Rs.bind_ok, Rs.bind_ok, evA_app as bs g1]
      cases evA as g1 with
      | bad => rfl
      | exc c d g' => rfl
      | ok xs g2 =>
        rw [Rs.bind_ok, Rs.bind_ok, Rs.bind_ok]
        cases evA bs g2 <;> rfl
  | .r o :: as, bs, g => by
    show (evO o g).bind (fun x g1 => (evA (as ++ bs) g1).bind fun xs g2 => .ok (x :: xs) g2) = ((evO o g).bind _).bind _
    cases evO o g with
    | bad => rfl
    | exc c d g' => rfl
    | ok d g1 =>
      rw [Rs.bind_ok, Rs.bind_ok, evA_app as bs g1]
      cases evA as g1 with
      | bad => rfl
      | exc c d g' => rfl
      | ok xs g2 =>
        rw [Rs.bind_ok, Rs.bind_ok, Rs.bind_ok]
        cases evA bs g2 <;> rfl
theorem dist_c {o : Option Nat} {l : List (Option Nat)} (h : distinct (o :: l) = true) : distinct l = true ∧ ∀ n, o = some n → some n ∉ l := by
  unfold distinct at h ⊢
  have h := of_decide_eq_true h
  cases o with
  | none => exact ⟨decide_eq_true h, fun n z => by cases z⟩
  | some k =>
    have h : (k :: l.filterMap id).Nodup := h
    rw [List.nodup_cons] at h
    refine ⟨decide_eq_true h.2, fun n z q => h.1 ?_⟩
    cases z
    exact List.mem_filterMap.mpr ⟨some k, q, rfl⟩
theorem apart_c {e : En} {es : List En} (h : ∀ e' ∈ es, ∀ a, e.B a → ¬ e'.B a) (hs : Apart es) : Apart (e :: es)
  | 0, 0, _, _, _, _, _, _, _ => rfl
  | 0, j + 1, x, y, a, h1, h2, b1, b2 => by
    simp at h1 h2; subst h1
    exact (h y (List.mem_of_getElem? h2) a b1 b2).elim
  | i + 1, 0, x, y, a, h1, h2, b1, b2 => by
    simp at h1 h2; subst h2
    exact (h x (List.mem_of_getElem? h1) a b2 b1).elim
  | i + 1, j + 1, x, y, a, h1, h2, b1, b2 => by
    simp at h1 h2
    exact congrArg Nat.succ (hs i j x y a h1 h2 b1 b2)
theorem ens_of (m : Mt K M g σ H G S) : ∀ {as : List Ar} {xs : List (Option D)} {vs : List V} {U : Addr → Prop} {ds : List D}, ArRs K M H0 g σ H G S as xs vs U → rdA g as xs = some ds → distinct (as.map nmA) = true →
    ∃ es : List En, es.map (·.d) = ds ∧ es.map (·.v) = vs ∧ es.map (·.s) = as.map nmA ∧ (∀ e ∈ es, EnOk K M H0 g σ H G S e) ∧ Apart es ∧ ∀ e ∈ es, e.s = none → ∀ a, e.B a → U a
  | [], xs, vs, U, ds, h, e, dn => by
    obtain ⟨rfl, rfl, n⟩ := h
    cases (show some ([] : List D) = some ds from e)
    exact ⟨[], rfl, rfl, rfl, fun e z => (List.not_mem_nil z).elim, fun i j e e' a z => (by simp at z), fun e z => (List.not_mem_nil z).elim⟩
  | a :: as, xs, vs, U, ds, h, e, dn => by
    obtain ⟨x, xr, v, vr, T, U', rfl, rfl, h1, h2, h3, h4⟩ := h
    obtain ⟨d1, d2⟩ := dist_c dn
    -- the first one's entry
    have key : ∃ d dr, ds = d :: dr ∧ rdA g as xr = some dr ∧ ∃ B, EnOk K M H0 g σ H G S ⟨d, v, B, nmA a⟩ ∧ (nmA a = none → ∀ b, B b → T b) := by
      cases a with
      | v mm =>
        obtain ⟨⟨d, rfl, r⟩, n⟩ := h1
        change (rdA g as xr).map _ = _ at e
        cases e1 : rdA g as xr with
        | none => rw [e1] at e; cases e
        | some dr =>
          rw [e1] at e; cases e
          exact ⟨d, dr, rfl, rfl, none_, ⟨Own.of r, fun b z => z.elim⟩, fun _ b z => z.elim⟩
      | r o =>
        have e' : (match rdO g o x, rdA g as xr with
          | some d, some ds => some (d :: ds)
          | _, _ => none) = some ds := e
        cases e0 : rdO g o x with
        | none => rw [e0] at e'; cases e'
        | some d =>
          cases e1 : rdA g as xr with
          | none => rw [e0, e1] at e'; cases e'
          | some dr =>
            rw [e0, e1] at e'; cases e'
            cases o with
            | nm i =>
              obtain ⟨hv, n⟩ := h1
              have e2 : g[i]? = some (some d) := by
                unfold rdO at e0
                dsimp only at e0
                cases q : g[i]? with
                | none => rw [q] at e0; cases e0
                | some z => rw [q] at e0; exact congrArg some e0
              obtain ⟨v', ev, ow⟩ := m.own i d e2
              rw [hv] at ev; cases ev
              exact ⟨d, dr, rfl, rfl, S i, ⟨ow, rfl, e2, hv⟩, fun z => by cases z⟩
            | ex mm =>
              obtain ⟨d', e3, ow, ap⟩ := h1
              unfold rdO at e0
              dsimp only at e0
              rw [e3] at e0; cases e0
              exact ⟨d, dr, rfl, rfl, T, ⟨ow, ap⟩, fun _ b z => z⟩
    obtain ⟨d, dr, rfl, er, B, eo, eT⟩ := key
    obtain ⟨es, q1, q2, q3, q4, q5, q6⟩ := ens_of m h2 er d1
    refine ⟨⟨d, v, B, nmA a⟩ :: es, by rw [List.map_cons, q1], by rw [List.map_cons, q2], by rw [List.map_cons, List.map_cons, q3], fun e z => ?_, apart_c (fun e' he b hb hb' => ?_) q5, fun e z z2 b hb => ?_⟩
    · rcases List.mem_cons.mp z with z | z
      · rw [z]; exact eo
      · exact q4 e z
    · obtain ⟨_, o1⟩ := eo
      obtain ⟨_, o2⟩ := q4 e' he
      cases c1 : nmA a with
      | none =>
        have hT := eT c1 b hb
        cases c2 : e'.s with
        | none => exact h4 b hT (q6 e' he c2 b hb')
        | some j =>
          rw [c2] at o2
          rw [o2.1] at hb'
          rw [c1] at o1
          exact (o1 b hb).1 (.inl ⟨j, hb'⟩)
      | some i =>
        rw [c1] at o1
        rw [o1.1] at hb
        cases c2 : e'.s with
        | none =>
          rw [c2] at o2
          exact (o2 b hb').1 (.inl ⟨i, hb⟩)
        | some j =>
          rw [c2] at o2
          rw [o2.1] at hb'
          have := m.dis i j b hb hb'
          subst this
          refine d2 i c1 ?_
          rw [← q3, ← c2]
          exact List.mem_map_of_mem he
    · rcases List.mem_cons.mp z with z | z
      · subst z
        exact (h3 b).mpr (.inl (eT z2 b hb))
      · exact (h3 b).mpr (.inr (q6 e z z2 b hb))
/-! ### parameters -/
def inlOf : Sum Nat D → Option Nat
  | .inl i => some i
  | .inr _ => none
theorem pmL_get {α : Type} {xs : List α} {k : D → α} : ∀ {pm : Pm} {r : List α}, pmL xs k pm = some r → r.length = pm.length ∧ ∀ (j : Nat) (x : α), r[j]? = some x → ∃ p, pm[j]? = some p ∧ pmAt xs k p = some x
  | [], r, h => by
    cases (show some ([] : List α) = some r from h)
    exact ⟨rfl, fun j x z => by simp at z⟩
  | p :: ps, r, h => by
    unfold pmL at h
    cases e1 : pmAt xs k p with
    | none => rw [e1] at h; cases h
    | some y =>
      cases e2 : pmL xs k ps with
      | none => rw [e1, e2] at h; cases h
      | some r' =>
        rw [e1, e2] at h; cases h
        obtain ⟨l, q⟩ := pmL_get e2
        refine ⟨congrArg Nat.succ l, fun j x z => ?_⟩
        cases j with
        | zero => simp at z; subst z; exact ⟨p, rfl, e1⟩
        | succ j => exact q j x (by simpa using z)
theorem pmL_map {α β : Type} (f : α → β) {xs : List α} {k : D → α} {k' : D → β} (hk : ∀ d, f (k d) = k' d) : ∀ (pm : Pm), pmL (xs.map f) k' pm = (pmL xs k pm).map (List.map f)
  | [] => rfl
  | p :: ps => by
    unfold pmL
    rw [pmL_map f hk ps]
    have e : pmAt (xs.map f) k' p = (pmAt xs k p).map f := by
      cases p with
      | inl i => exact List.getElem?_map
      | inr d => exact congrArg some (hk d).symm
    rw [e]
    cases pmAt xs k p with
    | none => rfl
    | some x => cases pmL xs k ps <;> rfl
theorem dist_inl {pm : Pm} (h : distinct (pm.map inlOf) = true) : ∀ (i j k : Nat), pm[i]? = some (.inl k) → pm[j]? = some (.inl k) → i = j := by
  induction pm with
  | nil => intro i j k z; simp at z
  | cons p ps ih =>
    obtain ⟨d1, d2⟩ := dist_c (show distinct (inlOf p :: ps.map inlOf) = true from h)
    intro i j k h1 h2
    cases i with
    | zero =>
      cases j with
      | zero => rfl
      | succ j =>
        simp at h1 h2; subst h1
        exact (d2 k rfl (List.mem_map.mpr ⟨_, List.mem_of_getElem? h2, rfl⟩)).elim
    | succ i =>
      cases j with
      | zero =>
        simp at h1 h2; subst h2
        exact (d2 k rfl (List.mem_map.mpr ⟨_, List.mem_of_getElem? h1, rfl⟩)).elim
      | succ j => exact congrArg Nat.succ (ih d1 i j k (by simpa using h1) (by simpa using h2))
theorem pmL_some {α β : Type} {xs : List α} {ys : List β} {k : D → α} {k' : D → β} (hl : xs.length = ys.length) : ∀ {pm : Pm} {r : List α}, pmL xs k pm = some r → ∃ q, pmL ys k' pm = some q
  | [], r, h => ⟨[], rfl⟩
  | p :: ps, r, h => by
    unfold pmL at h ⊢
    cases e1 : pmAt xs k p with
    | none => rw [e1] at h; cases h
    | some y =>
      cases e2 : pmL xs k ps with
      | none => rw [e1, e2] at h; cases h
      | some r' =>
        obtain ⟨q, eq⟩ := pmL_some (k' := k') hl e2
        cases p with
        | inl i =>
          have : i < ys.length := by rw [← hl]; exact (List.getElem?_eq_some_iff.mp e1).1
          refine ⟨ys[i] :: q, ?_⟩
          show (match ys[i]?, pmL ys k' ps with
            | some x, some r => some (x :: r)
            | _, _ => none) = _
          rw [eq, List.getElem?_eq_getElem this]
        | inr d =>
          refine ⟨k' d :: q, ?_⟩
          show (match some (k' d), pmL ys k' ps with
            | some x, some r => some (x :: r)
            | _, _ => none) = _
          rw [eq]
end
end PI

set_option Elab.async false
set_option linter.all false
set_option maxRecDepth 100000
set_option maxHeartbeats 1000000
namespace PI
open PySem PySem.Spec PyProof.Rows L2
open PySem.W (Frag)
/-! ### what a def promises: the pure function f, the parameters rf handed back -/
section
variable (K : Frag) (M : Memo)
def EndC (n : Nat) (rf : List Nat) (σ : L2.St) (H G : Hp) (B : Nat → Addr → Prop) (r : Cr) (Q : VK) (E : XK) : Prop := match r with
  | .bad => False
  | .ok d rs => ∀ v H' G' B' T, Got K M H (retG n rf rs) σ H' G' B' d v T → Stp M H G B H' G' B' → Q v H'
  | .exc c d rs => ∀ v H' G' B' dd, Mt K M (retG n rf rs) σ H' G' B' → Rep K G' d v → Stp M H G B H' G' B' → H' dd = some (.xd [("value", v)]) → E (.ref (He.ga K c)) (some dd) H'
def spF (f : List D → Cr) (rf : List Nat) (n : Nat) : Sp := fun vs H Q E => vs.length = n ∧ ∃ ds G B, Mt K M (ds.map some) (vs.map some) H G B ∧ EndC K M n rf (vs.map some) H G B (f ds) Q E
end
section
variable {K : Frag} {M : Memo} {W : WX} {X : Cx} {σ : L2.St} {H H0 G G0 H1 G1 : Hp} {S S0 S1 : Nat → Addr → Prop} {g g1 : Sg} {T U : Addr → Prop} {Q : VK}
theorem retG_len {n : Nat} {rf : List Nat} {rs : List D} : (retG n rf rs).length = n := by unfold retG; rw [List.length_map, List.length_range]
theorem nodup_at {l : List (Option Nat)} (h : distinct l = true) {i j n : Nat} (h1 : l[i]? = some (some n)) (h2 : l[j]? = some (some n)) : i = j := by
  induction l generalizing i j with
  | nil => simp at h1
  | cons o l ih =>
    obtain ⟨d1, d2⟩ := dist_c h
    cases i with
    | zero =>
      cases j with
      | zero => rfl
      | succ j =>
        simp at h1 h2
        exact (d2 n h1 (List.mem_of_getElem? h2)).elim
    | succ i =>
      cases j with
      | zero =>
        simp at h1 h2
        exact (d2 n h2 (List.mem_of_getElem? h1)).elim
      | succ j => exact congrArg Nat.succ (ih d1 (by simpa using h1) (by simpa using h2))
theorem call_core {as : List Ar} {pm : Pm} {xs : List (Option D)} {vs ws : List V} {ds es : List D} {ns : List (Option Nat)} {kv : D → V}
    (m : Mt K M g σ H G S) (h : ArRs K M H0 g σ H G S as xs vs U) (e1 : rdA g as xs = some ds) (e2 : pmL ds id pm = some es) (e3 : pmL (as.map nmA) (fun _ => none) pm = some ns)
    (dn : distinct (as.map nmA) = true) (dp : distinct (pm.map inlOf) = true) (hk : ∀ d, Sum.inr d ∈ pm → ∀ G, Rep K G d (kv d)) (e4 : pmL vs kv pm = some ws) :
    ∃ pe : List En, pe.map (·.d) = es ∧ pe.map (·.v) = ws ∧ pe.map (·.s) = ns ∧ pe.length = pm.length ∧ (∀ e ∈ pe, EnOk K M H0 g σ H G S e) ∧ Apart pe ∧
      (∀ (i j : Nat) (e e' : En) (n : Nat), pe[i]? = some e → pe[j]? = some e' → e.s = some n → e'.s = some n → i = j) := by
  obtain ⟨ens, q1, q2, q3, q4, q5, q6⟩ := ens_of m h e1 dn
  have hle : ens.length = vs.length := by rw [← q2, List.length_map]
  obtain ⟨pe, ep⟩ := pmL_some (k' := fun d => (⟨d, kv d, none_, none⟩ : En)) hle.symm e4
  obtain ⟨lp, gp⟩ := pmL_get ep
  have d1 : pe.map (·.d) = es := by
    have := pmL_map (f := En.d) (xs := ens) (k := fun d => (⟨d, kv d, none_, none⟩ : En)) (k' := id) (fun d => rfl) pm
    rw [q1, ep, e2] at this
    exact (Option.some.inj this).symm
  have d2 : pe.map (·.v) = ws := by
    have := pmL_map (f := En.v) (xs := ens) (k := fun d => (⟨d, kv d, none_, none⟩ : En)) (k' := kv) (fun d => rfl) pm
    rw [q2, ep, e4] at this
    exact (Option.some.inj this).symm
  have d3 : pe.map (·.s) = ns := by
    have := pmL_map (f := En.s) (xs := ens) (k := fun d => (⟨d, kv d, none_, none⟩ : En)) (k' := fun _ => none) (fun d => rfl) pm
    rw [q3, ep, e3] at this
    exact (Option.some.inj this).symm
  -- each parameter's entry
  have pick : ∀ (j : Nat) (e : En), pe[j]? = some e → (∃ i, pm[j]? = some (.inl i) ∧ ens[i]? = some e) ∨ ((∀ a, ¬ e.B a) ∧ e.s = none ∧ Rep K G e.d e.v) := fun j e z => by
    obtain ⟨p, z1, z2⟩ := gp j e z
    cases p with
    | inl i => exact .inl ⟨i, z1, z2⟩
    | inr d =>
      cases (show some (⟨d, kv d, none_, none⟩ : En) = some e from z2)
      exact .inr ⟨fun a z => z, rfl, hk d (List.mem_of_getElem? z1) G⟩
  have ok : ∀ e ∈ pe, EnOk K M H0 g σ H G S e := fun e he => by
    obtain ⟨j, ej⟩ := List.getElem?_of_mem he
    rcases pick j e ej with ⟨i, _, z⟩ | ⟨z1, z2, z3⟩
    · exact q4 e (List.mem_of_getElem? z)
    · refine ⟨.inl ⟨z3, z1⟩, ?_⟩
      rw [z2]
      exact fun a z => (z1 a z).elim
  have ap : Apart pe := fun i j e e' a h1 h2 b1 b2 => by
    rcases pick i e h1 with ⟨k, z1, z2⟩ | ⟨z, _⟩
    · rcases pick j e' h2 with ⟨l, y1, y2⟩ | ⟨y, _⟩
      · have := q5 k l e e' a z2 y2 b1 b2
        subst this
        exact dist_inl dp i j k z1 y1
      · exact (y a b2).elim
    · exact (z a b1).elim
  have inj : ∀ (i j : Nat) (e e' : En) (n : Nat), pe[i]? = some e → pe[j]? = some e' → e.s = some n → e'.s = some n → i = j := fun i j e e' n h1 h2 b1 b2 => by
    rcases pick i e h1 with ⟨k, z1, z2⟩ | ⟨_, z, _⟩
    · rcases pick j e' h2 with ⟨l, y1, y2⟩ | ⟨_, y, _⟩
      · have a1 : (as.map nmA)[k]? = some (some n) := by rw [← q3, List.getElem?_map, z2]; exact congrArg some b1
        have a2 : (as.map nmA)[l]? = some (some n) := by rw [← q3, List.getElem?_map, y2]; exact congrArg some b2
        have : k = l := nodup_at dn a1 a2
        subst this
        exact dist_inl dp i j k z1 y1
      · rw [y] at b2; cases b2
    · rw [z] at b1; cases b1
  exact ⟨pe, d1, d2, d3, lp, ok, ap, inj⟩
theorem call_fin {f : List D → Cr} {rf : List Nat} {as : List Ar} {pm : Pm} {xs : List (Option D)} {vs ws : List V} {ds es : List D} {ns : List (Option Nat)} {kv : D → V}
    (m : Mt K M g σ H G S) (st0 : Stp M H0 G0 S0 H G S) (h : ArRs K M H0 g σ H G S as xs vs U) (e1 : rdA g as xs = some ds) (e2 : pmL ds id pm = some es) (e3 : pmL (as.map nmA) (fun _ => none) pm = some ns)
    (dn : distinct (as.map nmA) = true) (dp : distinct (pm.map inlOf) = true) (hk : ∀ d, Sum.inr d ∈ pm → ∀ G, Rep K G d (kv d)) (e4 : pmL vs kv pm = some ws) (q : EndE K M W σ H0 G0 S0 (callC f ns es rf g) Q) : spF K M f rf pm.length ws H Q (WE W σ) := by
  obtain ⟨pe, d1, d2, d3, lp, ok, ap, inj⟩ := call_core m h e1 e2 e3 dn dp hk e4
  have cm := callee_mt (H0 := H0) m ok ap
  have eD : (pe.map fun e => some e.d) = es.map some := by rw [← d1, List.map_map]; rfl
  have eV : (pe.map fun e => some e.v) = ws.map some := by rw [← d2, List.map_map]; rfl
  rw [eD, eV] at cm
  have lw : ws.length = pm.length := by rw [← d2, List.length_map, lp]
  have ls : es.length = pm.length := by rw [← d1, List.length_map, lp]
  refine ⟨lw, es, G, bOf pe, cm, ?_⟩
  unfold callC at q
  cases er : f es with
  | bad => rw [er] at q; exact q
  | ok d rs =>
    rw [er] at q
    intro v H' G' B' T ⟨m', ow, at_⟩ st
    rw [ls] at q
    have lr : (retG pm.length rf rs).length = pe.length := by rw [retG_len, lp]
    rw [← eV] at m'
    obtain ⟨b1, b2, b3⟩ := back_mt (H0 := H0) m st0 ok ap inj lr m' st
    rw [d3] at b1
    refine q v H' G' (backS pe S B') T ⟨b1, ow, fun a ha => ?_⟩ b2
    obtain ⟨c1, c2⟩ := at_ a ha
    exact ⟨b3 a c2 c1, st0.back c2⟩
  | exc c d rs =>
    rw [er] at q
    intro v H' G' B' dd m' r st x
    rw [ls] at q
    have lr : (retG pm.length rf rs).length = pe.length := by rw [retG_len, lp]
    rw [← eV] at m'
    obtain ⟨b1, b2, b3⟩ := back_mt (H0 := H0) m st0 ok ap inj lr m' st
    rw [d3] at b1
    exact q v H' G' (backS pe S B') dd b1 r b2 x
end
end PI

set_option Elab.async false
set_option linter.all false
set_option maxRecDepth 100000
set_option maxHeartbeats 1000000
namespace PI
open PySem PySem.Spec PyProof.Rows L2
open PySem.W (Frag)
/-! ### binding: n positional values, keywords ks; pm tells where each parameter's value comes from -/
def BindP (K : Frag) (fd : FuncData) (ps : List Str) (n : Nat) (ks : List Str) (pm : Pm) : Prop :=
  pm.length = ps.length ∧ ∃ (kv : D → V) (kk : D → Value), (∀ d, Sum.inr d ∈ pm → (∀ G, Rep K G d (kv d)) ∧ RelV (kv d) (kk d)) ∧
    ∀ (s : Shared) (us ws : List Value), K.In s.heap → us.length = n → ws.length = ks.length → ∃ zs, pmL (us ++ ws) kk pm = some zs ∧ BindsTo s fd ⟨us, ks.zip ws⟩ (ps.zip zs)
section
variable {K : Frag} {x qual : Str} {params : Arguments} {body : List Stmt} {scope : Scope} {dvs : List V} {kws : List (Str × V)} {f : Addr} {fd : FuncData} {ps : List Str}
/-- no defaults -/
theorem bindP_0 (F : FunD K x qual params body scope [] kws f fd) (n : Nat) (ks : List Str) (l : List Nat) (hl : l.length = ps.length)
    (h : ∀ (kV doc pm : Value) (an : Option Addr) (cdv ct : Value) (us ws : List Value), us.length = n → ws.length = ks.length → ∃ zs, pmL (us ++ ws) (fun _ => Value.none) (l.map Sum.inl) = some zs ∧ bindArgs (PySem.W.fnOf x qual params body scope .none kV doc pm an cdv ct) ⟨us, ks.zip ws⟩ = pure (ps.zip zs)) :
    BindP K fd ps n ks (l.map Sum.inl) := by
  obtain ⟨oc, od, dV, kV, doc, pm, an, cdv, ct, osl, rfl, lk, hcd, hD, hK⟩ := F.ex
  rcases hD with ⟨_, rfl⟩ | ⟨e, _⟩
  · refine ⟨by rw [List.length_map]; exact hl, fun _ => .non, fun _ => Value.none, fun d hd => ?_, fun s us ws _ l1 l2 => ?_⟩
    · obtain ⟨i, _, z⟩ := List.mem_map.mp hd
      cases z
    · obtain ⟨zs, e1, e2⟩ := h kV doc pm an cdv ct us ws l1 l2
      exact ⟨zs, e1, .of_eq e2⟩
  · exact absurd rfl e
/-- defaults: dd their values -/
theorem bindP_d (F : FunD K x qual params body scope dvs kws f fd) (n : Nat) (ks : List Str) (pm : Pm) (kv : D → V) (ix : D → Nat) (hl : pm.length = ps.length) (hd : dvs ≠ [])
    (hk : ∀ d, Sum.inr d ∈ pm → (∀ G, Rep K G d (kv d)) ∧ dvs[ix d]? = some (kv d))
    (h : ∀ (T : Addr) (kV doc p : Value) (an : Option Addr) (cdv ct : Value) (us its ws : List Value), us.length = n → its.length = dvs.length → ws.length = ks.length →
      ∃ k zs, bindArgs (PySem.W.fnOf x qual params body scope (.ref T) kV doc p an cdv ct) ⟨us, ks.zip ws⟩ = seqItems? (.ref T) >>= k ∧ k (some its.toArray) = pure (ps.zip zs) ∧ pmL (us ++ ws) (fun d => its.getD (ix d) Value.none) pm = some zs) :
    BindP K fd ps n ks pm := by
  obtain ⟨oc, od, dV, kV, doc, p, an, cdv, ct, osl, rfl, lk, hcd, hD, hK⟩ := F.ex
  rcases hD with ⟨e, _⟩ | ⟨_, T, o, its, m, rfl, lT, oT, rT⟩
  · exact absurd e hd
  · refine ⟨hl, kv, fun d => its.getD (ix d) Value.none, fun d z => ⟨(hk d z).1, ?_⟩, fun s us ws Xi l1 l2 => ?_⟩
    · have := (hk d z).2
      have l1 : its.length = dvs.length := rT.length.symm
      have li : ix d < its.length := by rw [l1]; exact (List.getElem?_eq_some_iff.mp this).1
      show L2.RelV (kv d) (its.getD (ix d) Value.none)
      rw [List.getD_eq_getElem?_getD, List.getElem?_eq_getElem li]
      exact vals_at rT this (List.getElem?_eq_getElem li)
    · obtain ⟨k, zs, e1, e2, e3⟩ := h T kV doc p an cdv ct us its ws l1 rT.length.symm l2
      refine ⟨zs, e3, BindsTo.of_looks fun M => ?_⟩
      rw [e1]
      exact looks_items Xi lT oT (.of_pure e2)
where
  vals_at {vs : List V} {us : List Value} (r : Vals vs us) {i : Nat} {v : V} {u : Value} (h1 : vs[i]? = some v) (h2 : us[i]? = some u) : RelV v u := by
    induction r generalizing i with
    | nil => simp at h1
    | cons h _ ih =>
      cases i with
      | zero => simp at h1 h2; subst h1 h2; exact h
      | succ i => exact ih (by simpa using h1) (by simpa using h2)
end
theorem pmL_c {α : Type} {xs : List α} {k : D → α} {p : Sum Nat D} {ps : Pm} {x : α} {r : List α} (h1 : pmAt xs k p = some x) (h2 : pmL xs k ps = some r) : pmL xs k (p :: ps) = some (x :: r) := by
  unfold pmL
  rw [h1, h2]
theorem vals_pm {vs : List V} {us : List Value} (r : Vals vs us) {kv : D → V} {kk : D → Value} : ∀ {pm : Pm}, (∀ d, Sum.inr d ∈ pm → RelV (kv d) (kk d)) → ∀ {zs : List Value}, pmL us kk pm = some zs → ∃ ws, pmL vs kv pm = some ws ∧ Vals ws zs
  | [], hk, zs, h => by
    cases (show some ([] : List Value) = some zs from h)
    exact ⟨[], rfl, .nil⟩
  | p :: ps, hk, zs, h => by
    unfold pmL at h
    cases e1 : pmAt us kk p with
    | none => rw [e1] at h; cases h
    | some y =>
      cases e2 : pmL us kk ps with
      | none => rw [e1, e2] at h; cases h
      | some r' =>
        rw [e1, e2] at h; cases h
        obtain ⟨ws, q1, q2⟩ := vals_pm r (fun d hd => hk d (List.mem_cons_of_mem _ hd)) e2
        cases p with
        | inl i =>
          have e1 : us[i]? = some y := e1
          have hi : i < vs.length := by rw [r.length]; exact (List.getElem?_eq_some_iff.mp e1).1
          refine ⟨vs[i] :: ws, ?_, .cons (bindP_d.vals_at r (List.getElem?_eq_getElem hi) e1) q2⟩
          exact pmL_c (show pmAt vs kv (.inl i) = some vs[i] from List.getElem?_eq_getElem hi) q1
        | inr d =>
          cases (show some (kk d) = some y from e1)
          refine ⟨kv d :: ws, ?_, .cons (hk d (List.mem_cons_self ..)) q2⟩
          exact pmL_c (show pmAt vs kv (.inr d) = some (kv d) from rfl) q1
/-! ### a def called by its name -/
section
variable {K : Frag} {M : Memo} {W : WX} {X : Cx} {k : Nat} {f : Addr} {fd : FuncData} {ps : List Str} {ff : List D → Cr} {rf : List Nat} {pm : Pm} {n : Nat} {ks : List Str} {σ : L2.St} {H : Hp} {s : Shared} {Q : VK} {pins : List (Addr × Obj)}
/-- where all arguments are reckoned -/
def CallR (K : Frag) (M : Memo) (W : WX) (ff : List D → Cr) (rf : List Nat) (as : List Ar) (pm : Pm) (σ : L2.St) (H : Hp) (vs : List V) (Q : VK) : Prop :=
  ∃ g G S xs U H0 G0 S0 ds es ns, Mt K M g σ H G S ∧ Stp M H0 G0 S0 H G S ∧ ArRs K M H0 g σ H G S as xs vs U ∧ rdA g as xs = some ds ∧ pmL ds id pm = some es ∧ pmL (as.map nmA) (fun _ => none) pm = some ns ∧ EndE K M W σ H0 G0 S0 (callC ff ns es rf g) Q
theorem callR_of {as : List Ar} (q : tP K M W (pCall ff rf as pm) σ H Q) : tA K M W as σ H fun vs H1 => CallR K M W ff rf as pm σ H1 vs Q := by
  obtain ⟨g, G, S, mt, q⟩ := q
  refine ⟨g, G, S, mt, ?_⟩
  unfold pCall at q
  cases er : evA as g with
  | bad => rw [er] at q; exact q
  | exc c d g' => rw [er] at q; exact q
  | ok xs g1 =>
    rw [er, Rs.bind_ok] at q
    intro vs H1 G1 S1 U m1 r1 st
    cases e1 : rdA g1 as xs with
    | none => rw [e1] at q; exact q.elim
    | some ds =>
      rw [e1] at q
      dsimp only at q
      cases e2 : pmL ds id pm with
      | none => rw [e2] at q; exact q.elim
      | some es =>
        cases e3 : pmL (as.map nmA) (fun _ => (none : Option Nat)) pm with
        | none => rw [e2, e3] at q; exact q.elim
        | some ns =>
          rw [e2, e3] at q
          exact ⟨g1, G1, S1, xs, U, H, G, S, ds, es, ns, m1, st, r1, e1, e2, e3, q⟩
theorem ArRs.len {g : Sg} {σ : L2.St} {H0 H G : Hp} {S : Nat → Addr → Prop} : ∀ {as : List Ar} {xs : List (Option D)} {vs : List V} {U : Addr → Prop}, ArRs K M H0 g σ H G S as xs vs U → vs.length = as.length
  | [], _, _, _, h => by rw [h.2.1]; rfl
  | a :: as, _, _, _, h => by
    obtain ⟨x, xr, v, vr, T, U', rfl, rfl, h1, h2, h3⟩ := h
    exact congrArg Nat.succ (ArRs.len h2)
/-- positional ones first, then those by name -/
theorem tA_app {as bs : List Ar} {R : List V → Hp → Prop} (q : tA K M W (as ++ bs) σ H R) : tA K M W as σ H fun vs H1 => tA K M W bs σ H1 fun us H2 => vs.length = as.length ∧ us.length = bs.length ∧ R (vs ++ us) H2 := by
  obtain ⟨g, G, S, mt, q⟩ := q
  refine ⟨g, G, S, mt, ?_⟩
  rw [evA_app] at q
  cases er : evA as g with
  | bad => rw [er] at q; exact q
  | exc c d g' => rw [er] at q; exact q
  | ok xs g1 =>
    rw [er, Rs.bind_ok] at q
    intro vs H1 G1 S1 U m1 r1 st
    refine ⟨g1, G1, S1, m1, ?_⟩
    cases er2 : evA bs g1 with
    | bad => rw [er2] at q; exact q
    | exc c d g' => rw [er2] at q; exact EndX.of q st
    | ok ys g2 =>
      rw [er2, Rs.bind_ok] at q
      intro us H2 G2 S2 U2 m2 r2 st2
      refine ⟨r1.len, r2.len, q (vs ++ us) H2 G2 S2 _ m2 ((r1.stp st2).app (r2.base fun a => st.back) fun b hb z => ?_) (st.trans st2)⟩
      have h1 := (r2.there z).2.2
      obtain ⟨o, h2⟩ := (r1.there hb).1
      rw [h1] at h2; cases h2
/-- the call itself -/
theorem callR_run {as : List Ar} {us ws : List Value} {vs zs : List V} (F : FnG X.prog X.w X.K X.mg X.base k f fd ps (spF X.K M ff rf ps.length)) (hr : Room k X.A) (gu : X.A.guards = some []) (tk : Takes X W) (hb : BindP X.K fd ps n ks pm)
    (dn : distinct (as.map nmA) = true) (dp : distinct (pm.map inlOf) = true) (I : Inv X pins σ H s) (r : Vals vs us) (rz : Vals zs ws) (l1 : us.length = n) (l2 : ws.length = ks.length) (q : CallR X.K M W ff rf as pm σ H (vs ++ zs) Q) :
    wpAny (model X.prog X.w) X.A (call (.ref f) us (ks.zip ws)) (EP X pins σ Q) X.xe s := by
  obtain ⟨g, G, S, xs, U, H0, G0, S0, ds, es, nn, m, st0, h, e1, e2, e3, q⟩ := q
  obtain ⟨lp, kv, kk, hk, hb⟩ := hb
  obtain ⟨ys, b1, b2⟩ := hb s us ws I.kIn l1 l2
  obtain ⟨vv, c1, c2⟩ := vals_pm (r.append rz) (fun d hd => (hk d hd).2) b1
  have sp := call_fin m st0 h e1 e2 e3 dn dp (fun d hd => (hk d hd).1) c1 q
  rw [lp] at sp
  exact runG F hr gu tk I b2 c2 sp
end
section
variable {K : Frag} {M : Memo} {W : WX} {X : Cx} {k : Nat} {f : Addr} {fd : FuncData} {ps : List Str} {ff : List D → Cr} {rf : List Nat} {pm : Pm} {n : Nat} {σ : L2.St} {H : Hp} {s : Shared} {Q : VK} {pins : List (Addr × Obj)} {x : Str} {p pos : Pos} {es : List Expr} {kws : List Keyword} {as bs : List Ar}
theorem pe_Call (F : FnG X.prog X.w X.K X.mg X.base k f fd ps (spF X.K M ff rf ps.length)) (hr : Room k X.A) (gu : X.A.guards = some []) (tk : Takes X W) (hg : Gl X x) (hm : X.mg x = some (.ref f)) (hkp : PySem.W.keepIn X.K (.ref f) = true) (hb : BindP X.K fd ps as.length (kwNames kws) pm)
    (ha : PA X es (tA X.K M W as)) (hkw : PK X kws (tA X.K M W bs)) (hla : as.length = es.length) (hl : bs.length = (kwNames kws).length) (dn : distinct ((as ++ bs).map nmA) = true) (dp : distinct (pm.map inlOf) = true)
    (hes : es.all noStar = true) (hks : kws.all (·.arg.isSome) = true) (hdb : (x == ("__debug__" : Str)) = false) : PE X (.Call (.Name x p) es kws pos) (tP X.K M W (pCall ff rf (as ++ bs) pm)) := by
  refine ⟨fun pins s σ H Q I h => ?_⟩
  refine wpAny_Call_Name_kw (ld_glob I hg hm ?_ hdb)
  have q := tA_app (callR_of h)
  have hall := kws_all (pos := pos) (env := X.env) hks
  have hnm := kws_names (pos := pos) (env := X.env) (ks := kws)
  have hpl : ((backTo pos (starEach es X.env)).any (·.1) || (backToKw pos (keywordEach kws X.env)).any (·.1.isNone)) = false := by rw [stars_of hes, kws_none hks] <;> rfl
  cases es with
  | nil =>
    refine PySem.W.callWith_KW0 (h₀ := X.base) I.ok.mod.kin hkp hall ?_ hpl
    cases as with
    | cons a as => simp at hla
    | nil =>
      obtain ⟨g, G, S, m, q⟩ := q
      have q := (show EndA X.K M W σ H G S [] (.ok [] g) _ from q) [] H G S none_ m ⟨rfl, rfl, fun b z => z⟩ Stp.refl
      refine thn (hkw.run pos pins s σ H _ I q) fun ws s2 ⟨zs, H2, I2, rz, l1, l2, q2⟩ => ⟨I2.kIn, ?_⟩
      rw [hnm]
      exact callR_run F hr gu tk hb dn dp I2 .nil rz rfl (rz.length.symm.trans (l2.trans hl)) q2
  | cons e es =>
    rw [List.all_cons, Bool.and_eq_true] at hes
    refine PySem.W.callWith_KW (h₀ := X.base) I.ok.mod.kin hkp hall (thn (ha.run pos pins s σ H _ I q) fun us s1 ⟨vs, H1, I1, r, q⟩ => ?_) hpl (star_of hes.1)
    refine thn (hkw.run pos pins s1 σ H1 _ I1 q) fun ws s2 ⟨zs, H2, I2, rz, l1, l2, q2⟩ => ⟨I2.kIn, ?_⟩
    rw [hnm]
    exact callR_run F hr gu tk hb dn dp I2 r rz (r.length.symm.trans l1) (rz.length.symm.trans (l2.trans hl)) q2
end
end PI

set_option Elab.async false
set_option linter.all false
set_option maxRecDepth 100000
set_option maxHeartbeats 1000000
namespace PI
open PySem PySem.Spec PyProof.Rows L2
open PySem.W (Frag)
/-! ### statements -/
def Fx (fx : List Nat) (σ σ' : L2.St) : Prop := ∀ i ∈ fx, σ'[i]? = σ[i]?
theorem Fx.refl {fx : List Nat} {σ : L2.St} : Fx fx σ σ := fun _ _ => rfl
theorem Fx.trans {fx : List Nat} {σ σ1 σ2 : L2.St} (a : Fx fx σ σ1) (b : Fx fx σ1 σ2) : Fx fx σ σ2 := fun i h => (b i h).trans (a i h)
theorem Fx.set {fx : List Nat} {σ : L2.St} {i : Nat} {x : Option V} (h : i ∉ fx) : Fx fx σ (σ.set i x) := fun j hj => List.getElem?_set_ne fun z => h (by rw [z]; exact hj)
section
variable (K : Frag) (M : Memo)
def EndXs (fx : List Nat) (W : WX) (σ : L2.St) (H G : Hp) (S : Nat → Addr → Prop) (c : Str) (d : D) (g' : Sg) : Prop :=
  ∀ v σ' H' G' S' dd, Fx fx σ σ' → Mt K M g' σ' H' G' S' → Rep K G' d v → Stp M H G S H' G' S' → H' dd = some (.xd [("value", v)]) → W (.ref (He.ga K c)) (some dd) σ' H'
def EndN (fx : List Nat) (σ : L2.St) (H G : Hp) (S : Nat → Addr → Prop) (g' : Sg) (Q : L2.St → Hp → Prop) : Prop :=
  ∀ σ' H' G' S', Fx fx σ σ' → Mt K M g' σ' H' G' S' → Stp M H G S H' G' S' → Q σ' H'
def EndF (fx : List Nat) (W : WX) (σ : L2.St) (H G : Hp) (S : Nat → Addr → Prop) (r : Rs Fl) (N : Ends) : Prop := match r with
  | .bad => False
  | .ok .nx g' => EndN K M fx σ H G S g' N.nx
  | .ok (.rt d) g' => ∀ σ' v H' G' S' T, Fx fx σ σ' → Got K M H g' σ' H' G' S' d v T → Stp M H G S H' G' S' → N.rt v H'
  | .ok .bk g' => EndN K M fx σ H G S g' N.bk
  | .ok .ct g' => EndN K M fx σ H G S g' N.ct
  | .exc c d g' => EndXs K M fx W σ H G S c d g'
def tF (fx : List Nat) (W : WX) (m : PF) : TS := fun N σ H => ∃ g G S, Mt K M g σ H G S ∧ EndF K M fx W σ H G S (m g) N
end
section
variable {K : Frag} {M : Memo} {W : WX} {X : Cx} {fx : List Nat} {σ σ1 : L2.St} {H H0 G G0 H1 G1 : Hp} {S S0 S1 : Nat → Addr → Prop} {g g1 : Sg} {T : Addr → Prop} {N : Ends} {pos p2 : Pos}
theorem EndN.of {Q : L2.St → Hp → Prop} (h : EndN K M fx σ H G S g Q) (f : Fx fx σ σ1) (st : Stp M H G S H1 G1 S1) : EndN K M fx σ1 H1 G1 S1 g Q :=
  fun σ' H' G' S' f' m s => h σ' H' G' S' (f.trans f') m (st.trans s)
theorem EndXs.of {c : Str} {d : D} (h : EndXs K M fx W σ H G S c d g) (f : Fx fx σ σ1) (st : Stp M H G S H1 G1 S1) : EndXs K M fx W σ1 H1 G1 S1 c d g :=
  fun v σ' H' G' S' dd f' m r s => h v σ' H' G' S' dd (f.trans f') m r (st.trans s)
theorem EndXs.x {c : Str} {d : D} (h : EndXs K M fx W σ H G S c d g) : EndX K M W σ H G S c d g := fun v H' G' S' dd m r s x => h v σ H' G' S' dd Fx.refl m r s x
theorem EndF.of {r : Rs Fl} (h : EndF K M fx W σ H G S r N) (f : Fx fx σ σ1) (st : Stp M H G S H1 G1 S1) : EndF K M fx W σ1 H1 G1 S1 r N := by
  cases r with
  | bad => exact h
  | exc c d g' => exact EndXs.of h f st
  | ok fl g' =>
    cases fl with
    | nx => exact EndN.of h f st
    | bk => exact EndN.of h f st
    | ct => exact EndN.of h f st
    | rt d => exact fun σ' v H' G' S' T f' ⟨m, o, a⟩ s => h σ' v H' G' S' T (f.trans f') ⟨m, o, fun x hx => ⟨(a x hx).1, st.back (a x hx).2⟩⟩ (st.trans s)
theorem EndF.bindE {r : Rs D} {k : D → Sg → Rs Fl} (h : EndF K M fx W σ H G S (r.bind k) N) :
    EndE K M W σ H G S r fun v H' => ∃ d g' G' S' T, r = .ok d g' ∧ Got K M H g' σ H' G' S' d v T ∧ Stp M H G S H' G' S' ∧ EndF K M fx W σ H G S (k d g') N := by
  cases r with
  | bad => exact h
  | ok d g' => exact fun v H' G' S' T m s => ⟨d, g', G', S', T, rfl, m, s, h⟩
  | exc c d g' => exact EndXs.x h
theorem EndF.bindB {r : Rs Bool} {k : Bool → Sg → Rs Fl} (h : EndF K M fx W σ H G S (r.bind k) N) :
    EndB K M W σ H G S r fun b H' => ∃ g' G' S', r = .ok b g' ∧ Mt K M g' σ H' G' S' ∧ Stp M H G S H' G' S' ∧ EndF K M fx W σ H G S (k b g') N := by
  cases r with
  | bad => exact h
  | ok d g' => exact fun H' G' S' m s => ⟨g', G', S', rfl, m, s, h⟩
  | exc c d g' => exact EndXs.x h
theorem EndF.bindA {as : List Ar} {r : Rs (List (Option D))} {k : List (Option D) → Sg → Rs Fl} (h : EndF K M fx W σ H G S (r.bind k) N) :
    EndA K M W σ H G S as r fun vs H' => ∃ xs g' G' S' U, r = .ok xs g' ∧ Mt K M g' σ H' G' S' ∧ ArRs K M H g' σ H' G' S' as xs vs U ∧ Stp M H G S H' G' S' ∧ EndF K M fx W σ H G S (k xs g') N := by
  cases r with
  | bad => exact h
  | ok d g' => exact fun vs H' G' S' U m r s => ⟨d, g', G', S', U, rfl, m, r, s, h⟩
  | exc c d g' => exact EndXs.x h
/-- one behind another -/
def pNx : PF := fun g => .ok .nx g
def pSeq (a b : PF) : PF := fun g => (a g).bind fun fl g1 => match fl with
  | .nx => b g1
  | o => .ok o g1
def pBlk : List PF → PF
  | [] => pNx
  | a :: as => pSeq a (pBlk as)
theorem nx_0 : tF K M fx W pNx N σ H → tNext N σ H := fun ⟨g, G, S, m, q⟩ => (show EndN K M fx σ H G S g N.nx from q) σ H G S Fx.refl m Stp.refl
theorem pss_0 : PSs X [] (tF K M fx W (pBlk [])) := PSs.imp pss_nil fun N σ H q => nx_0 q
theorem seq_t {a b : PF} (q : tF K M fx W (pSeq a b) N σ H) : tSeq (tF K M fx W a) (tF K M fx W b) N σ H := by
  obtain ⟨g, G, S, m, q⟩ := q
  refine ⟨g, G, S, m, ?_⟩
  unfold pSeq at q
  cases er : a g with
  | bad => rw [er] at q; exact q
  | exc c d g' => rw [er] at q; exact q
  | ok fl g1 =>
    rw [er, Rs.bind_ok] at q
    cases fl with
    | nx => exact fun σ' H' G' S' f m' st => ⟨g1, G', S', m', EndF.of q f st⟩
    | bk => exact q
    | ct => exact q
    | rt d => exact q
theorem pss_c {st : Stmt} {rest : List Stmt} {a : PF} {as : List PF} (h1 : PS X st (tF K M fx W a)) (h2 : PSs X rest (tF K M fx W (pBlk as))) : PSs X (st :: rest) (tF K M fx W (pBlk (a :: as))) :=
  PSs.imp (pss_cons h1 h2) fun N σ H q => seq_t q
theorem ps_Pass : PS X (.Pass pos) (tF K M fx W pNx) := PS.imp ps_pass fun N σ H q => nx_0 q
def pBk : PF := fun g => .ok .bk g
def pCt : PF := fun g => .ok .ct g
theorem ps_Break : PS X (.Break pos) (tF K M fx W pBk) := PS.imp ps_break fun N σ H ⟨g, G, S, m, q⟩ => (show EndN K M fx σ H G S g N.bk from q) σ H G S Fx.refl m Stp.refl
theorem ps_Cont : PS X (.Continue pos) (tF K M fx W pCt) := PS.imp ps_continue fun N σ H ⟨g, G, S, m, q⟩ => (show EndN K M fx σ H G S g N.ct from q) σ H G S Fx.refl m Stp.refl
def pBadF : PF := fun _ => .bad
theorem ps_Bad {st : Stmt} : PS X st (tF K M fx W pBadF) := PS.imp ps_never fun N σ H ⟨g, G, S, m, q⟩ => q
/-- if -/
def pIf (c : PT') (a b : PF) : PF := fun g => (c g).bind fun t g1 => if t = true then a g1 else b g1
theorem ps_If {c : Expr} {a b : List Stmt} {mc : PT'} {ma mb : PF} (hc : PT X c (tB' K M W mc)) (ha : PSs X a (tF K M fx W ma)) (hb : PSs X b (tF K M fx W mb)) : PS X (.If c a b pos) (tF K M fx W (pIf mc ma mb)) := by
  refine PS.imp (ps_if hc ha hb) fun N σ H q => ?_
  obtain ⟨g, G, S, m, q⟩ := q
  refine ⟨g, G, S, m, EndB.imp (EndF.bindB q) fun t H1 ⟨g1, G1, S1, er, m1, st, q⟩ => ?_⟩
  split at q
  · rename_i h
    subst h
    exact ⟨g1, G1, S1, m1, EndF.of q Fx.refl st⟩
  · rename_i h
    rw [if_neg h]
    exact ⟨g1, G1, S1, m1, EndF.of q Fx.refl st⟩
/-- return -/
def pRet (e : PX) : PF := fun g => (e g).bind fun d g1 => .ok (.rt d) g1
theorem ps_Ret {e : Expr} {m : PX} (he : PE X e (tP K M W m)) : PS X (.Return (some e) pos) (tF K M fx W (pRet m)) := by
  refine PS.imp (ps_ret he) fun N σ H q => ?_
  obtain ⟨g, G, S, m, q⟩ := q
  refine ⟨g, G, S, m, EndE.imp (EndF.bindE q) fun v H1 ⟨d, g1, G1, S1, T, er, got, st, q⟩ => ?_⟩
  exact (show ∀ σ' v H' G' S' T, Fx fx σ σ' → Got K M H g1 σ' H' G' S' d v T → Stp M H G S H' G' S' → N.rt v H' from q) σ v H1 G1 S1 T Fx.refl got st
def pRetN : PF := fun g => .ok (.rt .non) g
theorem ps_RetN : PS X (.Return none pos) (tF K M fx W pRetN) := PS.imp ps_retN fun N σ H ⟨g, G, S, m, q⟩ =>
  (show ∀ σ' v H' G' S' T, Fx fx σ σ' → Got K M H g σ' H' G' S' .non v T → Stp M H G S H' G' S' → N.rt v H' from q) σ .non H G S none_ Fx.refl ⟨m, Own.of rfl, fun a z => z.elim⟩ Stp.refl
/-- a value that is dropped -/
def pDrop (e : PX) : PF := fun g => (e g).bind fun d g1 => .ok .nx g1
theorem ps_Drop {e : Expr} {m : PX} (he : PE X e (tP K M W m)) (hs : swapsWith e none pos.line X.env = pure false) : PS X (.Expr e pos) (tF K M fx W (pDrop m)) := by
  refine PS.imp (ps_expr he hs) fun N σ H q => ?_
  obtain ⟨g, G, S, m, q⟩ := q
  refine ⟨g, G, S, m, EndE.imp (EndF.bindE q) fun v H1 ⟨d, g1, G1, S1, T, er, got, st, q⟩ => ?_⟩
  exact (show EndN K M fx σ H G S g1 N.nx from q) σ H1 G1 S1 Fx.refl got.1 st
/-- a slot takes a value -/
def setS (S : Nat → Addr → Prop) (i : Nat) (T : Addr → Prop) (j : Nat) (a : Addr) : Prop := (j = i ∧ T a) ∨ (j ≠ i ∧ S j a)
theorem Mt.set {i : Nat} {d : D} {v : V} (m : Mt K M g σ H G S) (ow : Own K M G H d v T) (ap : ∀ a, T a → ¬ Vl M G S a) (hi : i < g.length) : Mt K M (g.set i (some d)) (σ.set i (some v)) H G (setS S i T) := by
  have es : setS S i T i = T := funext fun a => propext ⟨fun z => z.elim (·.2) fun z => (z.1 rfl).elim, fun z => .inl ⟨rfl, z⟩⟩
  have eo : ∀ j, j ≠ i → setS S i T j = S j := fun j hj => funext fun a => propext ⟨fun z => z.elim (fun z => (hj z.1).elim) (·.2), fun z => .inr ⟨hj, z⟩⟩
  have hi' : i < σ.length := by rw [← m.len]; exact hi
  refine ⟨by rw [List.length_set, List.length_set]; exact m.len, fun j e h => ?_, fun j q a z => ?_, fun j k a z z' => ?_, m.sub, m.mem, fun j a z => ?_⟩
  · by_cases hj : j = i
    · subst hj
      rw [List.getElem?_set_self hi] at h; cases h
      exact ⟨v, List.getElem?_set_self hi', by rw [es]; exact ow⟩
    · rw [List.getElem?_set_ne (Ne.symm hj)] at h
      obtain ⟨w, e1, o⟩ := m.own j e h
      exact ⟨w, by rw [List.getElem?_set_ne (Ne.symm hj)]; exact e1, by rw [eo j hj]; exact o⟩
  · by_cases hj : j = i
    · subst hj
      exact q d (List.getElem?_set_self hi)
    · rw [List.getElem?_set_ne (Ne.symm hj)] at q
      rw [eo j hj] at z
      exact m.nil j q a z
  · rcases z with ⟨rfl, z⟩ | ⟨n1, z⟩
    · rcases z' with ⟨rfl, z'⟩ | ⟨n2, z'⟩
      · rfl
      · exact (ap a z (.inl ⟨k, z'⟩)).elim
    · rcases z' with ⟨rfl, z'⟩ | ⟨n2, z'⟩
      · exact (ap a z' (.inl ⟨j, z⟩)).elim
      · exact m.dis j k a z z'
  · rcases z with ⟨rfl, z⟩ | ⟨n1, z⟩
    · exact fun y => ap a z (.inr y)
    · exact m.vol j a z
theorem Stp.set {i : Nat} (st : Stp M H0 G0 S0 H G S) (n : ∀ a, T a → H0 a = none) : Stp M H0 G0 S0 H G (setS S i T) := by
  refine ⟨st.gr, st.fr, st.th, fun a z => ?_, st.fg⟩
  rcases z with ⟨j, ⟨rfl, z⟩ | ⟨_, z⟩⟩ | z
  · exact .inr (n a z)
  · exact st.vl a (.inl ⟨j, z⟩)
  · exact st.vl a (.inr z)
def pSet (i : Nat) (e : PX) : PF := fun g => (e g).bind fun d g1 => if i < g1.length then .ok .nx (g1.set i (some d)) else .bad
theorem ps_Set {i : Nat} {x : Str} {e : Expr} {m : PX} {pos' : Pos} (hN : X.N.Nodup) (hi : X.N[i]? = some x) (hx : Loc X.env.scope x) (hfn : X.fn x = true ∨ X.env.scope.names.lookup x = some .local) (he : PE X e (tP K M W m)) (hf : i ∉ fx) (hs : swapsWith e (some (.Name x pos')) pos.line X.env = pure false) :
    PS X (.Assign [.Name x pos'] e pos) (tF K M fx W (pSet i m)) := by
  refine PS.imp (ps_set hN hi hx he hs hfn) fun N σ H q => ?_
  obtain ⟨g, G, S, m, q⟩ := q
  refine ⟨g, G, S, m, EndE.imp (EndF.bindE q) fun v H1 ⟨d, g1, G1, S1, T, er, got, st, q⟩ => ?_⟩
  split at q
  · rename_i hl
    exact (show EndN K M fx σ H G S (g1.set i (some d)) N.nx from q) _ H1 G1 _ (Fx.set hf) (got.1.set got.2.1 (fun a z => (got.2.2 a z).1) hl) (st.set fun a z => (got.2.2 a z).2)
  · exact q.elim
/-- a slot gives up its value -/
def pMv (i : Nat) : PX := fun g => match g[i]? with
  | some (some d) => .ok d (g.set i none)
  | _ => .bad
theorem Mt.drop {i : Nat} {d : D} (m : Mt K M g σ H G S) (e : g[i]? = some (some d)) : ∃ v S' T, σ[i]? = some (some v) ∧ Mt K M (g.set i none) σ H G S' ∧ Own K M G H d v T ∧ (∀ a, T a → ¬ Vl M G S' a) ∧ (∀ a, Vl M G S' a → Vl M G S a) ∧ ∀ a, T a → Vl M G S a := by
  obtain ⟨v, ev, ow⟩ := m.own i d e
  have hi : i < g.length := (List.getElem?_eq_some_iff.mp e).1
  refine ⟨v, fun j a => j ≠ i ∧ S j a, S i, ev, ⟨by rw [List.length_set]; exact m.len, fun j e' h => ?_, fun j q a z => ?_, fun j k a z z' => m.dis j k a z.2 z'.2, m.sub, m.mem, fun j a z => m.vol j a z.2⟩, ow, fun a z y => ?_, fun a z => ?_, fun a z => .inl ⟨i, z⟩⟩
  · by_cases hj : j = i
    · subst hj
      rw [List.getElem?_set_self hi] at h; cases h
    · rw [List.getElem?_set_ne (Ne.symm hj)] at h
      obtain ⟨w, e1, o⟩ := m.own j e' h
      have q2 : (fun b => j ≠ i ∧ S j b) = S j := funext fun b => propext ⟨fun z => z.2, fun z => ⟨hj, z⟩⟩
      exact ⟨w, e1, by rw [q2]; exact o⟩
  · rw [List.getElem?_set_ne (Ne.symm z.1)] at q
    exact m.nil j q a z.2
  · rcases y with ⟨j, hj, y⟩ | y
    · exact hj (m.dis j i a y z)
    · exact m.vol i a z y
  · rcases z with ⟨j, hj, z⟩ | z
    · exact .inl ⟨j, z⟩
    · exact .inr z
end
end PI

set_option Elab.async false
set_option linter.all false
set_option maxRecDepth 100000
set_option maxHeartbeats 1000000
namespace PI
open PySem PySem.Spec PyProof.Rows L2
open PySem.W (Frag)
/-! ### tests -/
def trD : D → Option Bool
  | .non => some false
  | .bl b => some b
  | .int i => some (i != 0)
  | .str x => if x.length ≤ lim then some ((x.length : Int) != 0) else none
  | .lst _ xs => some (!xs.isEmpty)
  | .tup xs => some (!xs.isEmpty)
  | .dic _ ks _ => some (!ks.isEmpty)
  | .obj .. => none
def rt2 (o : Option Bool) (g : Sg) : Rs Bool := match o with
  | some b => .ok b g
  | none => .bad
def asB (d : D) (g : Sg) : Rs Bool := match d with
  | .bl b => .ok b g
  | _ => .bad
def pTr (a : Op) : PT' := fun g => (evO a g).bind fun x g1 => match rdO g1 a x with
  | some d => rt2 (trD d) g1
  | none => .bad
def pTest (m : PX) : PT' := fun g => (m g).bind asB
def pNot (t : PT') : PT' := fun g => (t g).bind fun b g1 => .ok (!b) g1
def pAnd (a b : PT') : PT' := fun g => (a g).bind fun t g1 => if t = true then b g1 else .ok false g1
def pOr (a b : PT') : PT' := fun g => (a g).bind fun t g1 => if t = true then .ok true g1 else b g1
def pNotV (a : Op) : PX := pOp1 (fun d g => rb ((trD d).map (!·)) g) a
def pAndV (a b : PX) : PX := fun g => (a g).bind fun d g1 => match trD d with
  | some true => b g1
  | some false => .ok d g1
  | none => .bad
def pOrV (a b : PX) : PX := fun g => (a g).bind fun d g1 => match trD d with
  | some true => .ok d g1
  | some false => b g1
  | none => .bad
def pIfE (c : PT') (a b : PX) : PX := fun g => (c g).bind fun t g1 => if t = true then a g1 else b g1
def pCh3 (op' : CmpOp) (b c : Op) (y : Option D) (g2 : Sg) : Rs D := (evO c g2).bind fun z g3 => match rdO g3 b y, rdO g3 c z with
  | some e, some f => rb (cmpD op' e f) g3
  | _, _ => .bad
def pCh2 (op op' : CmpOp) (a b c : Op) (x : Option D) (g1 : Sg) : Rs D := (evO b g1).bind fun y g2 => match rdO g2 a x, rdO g2 b y with
  | some d, some e => (match cmpD op d e with
    | some true => pCh3 op' b c y g2
    | some false => .ok (.bl false) g2
    | none => .bad)
  | _, _ => .bad
def pCh (op op' : CmpOp) (a b c : Op) : PX := fun g => (evO a g).bind fun x g1 => pCh2 op op' a b c x g1
section
variable {K : Frag} {M : Memo} {W : WX} {X : Cx} {σ : L2.St} {H H0 G G0 H1 G1 : Hp} {S S0 S1 : Nat → Addr → Prop} {g g1 : Sg} {pos p2 : Pos} {a b c : Expr} {rest : List Expr}
theorem zip_isE {ks : List Key} {vs : List V} (h : ks.length = vs.length) : (!(ks.zip vs).isEmpty) = !ks.isEmpty := by
  cases ks with
  | nil => rfl
  | cons k ks =>
    cases vs with
    | nil => simp at h
    | cons v vs => rfl
theorem isE_len {xs : List D} {vs : List V} (h : RepL K G xs vs) : (!xs.isEmpty) = !vs.isEmpty := by
  have := h.len
  cases xs with
  | nil => cases vs with
    | nil => rfl
    | cons v vs => simp at this
  | cons x xs => cases vs with
    | nil => simp at this
    | cons v vs => rfl
theorem tru_seen {d : D} {v : V} {k : Bool} (h : Seen K M G H d v) (sb : Sub G H) (e : trD d = some k) : TruV K v H k := by
  cases d with
  | non => cases h.non; cases e; rfl
  | bl b => cases h.bl; cases e; rfl
  | int i => cases h.int; cases e; rfl
  | str x =>
    cases h.str
    have e : (if x.length ≤ lim then some ((x.length : Int) != 0) else none) = some k := e
    split at e
    · rename_i hl
      cases e
      exact ⟨lim_ok hl, rfl⟩
    · cases e
  | lst m xs =>
    obtain ⟨p, vs, rfl, h1, h2⟩ := h.lst sb
    cases e
    exact .inl ⟨vs, h1, isE_len h2⟩
  | tup xs =>
    obtain ⟨p, vs, rfl, h1, h2⟩ := h.tup sb
    cases e
    exact .inr (.inl ⟨vs, h1, isE_len h2⟩)
  | dic m ks ds =>
    obtain ⟨p, vs, rfl, h1, hl, h2⟩ := h.dic sb
    cases e
    exact .inr (.inr ⟨_, h1, (zip_isE hl).symm⟩)
  | obj m c ns ds => cases e
theorem EndE.trans {r : Rs D} {Q Q' : VK} (h : EndE K M W σ H G S r Q) (k : ∀ d g' v H' G' S' T, r = .ok d g' → Got K M H g' σ H' G' S' d v T → Stp M H G S H' G' S' → Q v H' → Q' v H') : EndE K M W σ H G S r Q' := by
  cases r with
  | bad => exact h
  | exc c d g' => exact h
  | ok d g' => exact fun v H' G' S' T m s => k d g' v H' G' S' T rfl m s (h v H' G' S' T m s)
theorem pt_Tr {oa : Op} (ha : PE X a (tO X.K M W oa)) (he : ∀ whole, isTrue a X.env whole = (do let v ← whole; standAt a.pos; holding [v] (truthy v))) : PT X a (tB' X.K M W (pTr oa)) := by
  refine PT.imp (pt_truth ha he) fun σ H Q q => ?_
  obtain ⟨g, G, S, m, q⟩ := q
  refine ⟨g, G, S, m, ?_⟩
  unfold pTr at q
  cases er : evO oa g with
  | bad => rw [er] at q; exact q
  | exc c d g' => rw [er] at q; exact q
  | ok x g1 =>
    rw [er, Rs.bind_ok] at q
    intro v H1 G1 S1 m1 r1 st
    cases e1 : rdO g1 oa x with
    | none => rw [e1] at q; exact q.elim
    | some d =>
      rw [e1] at q
      dsimp only at q
      cases e2 : trD d with
      | none => rw [e2] at q; exact q.elim
      | some k =>
        rw [e2] at q
        exact ⟨k, tru_seen (r1.seen m1 e1) m1.sub e2, (show EndB X.K M W σ H G S (.ok k g1) Q from q) H1 G1 S1 m1 st⟩
/-- an expression whose value is a bool, by its own test -/
theorem test_t {m : PX} {Q : Bool → Hp → Prop} (q : tB' K M W (pTest m) σ H Q) : tP K M W m σ H fun v H1 => ∃ k, v = .bl k ∧ Q k H1 := by
  obtain ⟨g, G, S, mt, q⟩ := q
  refine ⟨g, G, S, mt, ?_⟩
  unfold pTest at q
  cases er : m g with
  | bad => rw [er] at q; exact q
  | exc c d g' => rw [er] at q; exact q
  | ok d g1 =>
    rw [er, Rs.bind_ok] at q
    intro v H1 G1 S1 T got st
    cases d with
    | bl k => exact ⟨k, Seen.bl (K := K) (M := M) (G := G1) (H := H1) ⟨T, got.2.1⟩, (show EndB K M W σ H G S (.ok k g1) Q from q) H1 G1 S1 got.1 st⟩
    | _ => exact (show False from q).elim
theorem pt_cmpS {op : CmpOp} {f : D → D → Sg → Rs D} {oa ob : Op} (ho : OpS X (compareOp op) (rF K M W f)) (ha : PE X a (tO K M W oa)) (hb : PE X b (tO K M W ob)) (hm : behindInMarks op b = false) : PT X (.Compare a [op] [b] pos) (tB' K M W (pTest (pOp2 f oa ob))) := by
  refine ⟨fun pins s σ H Q I q => ?_⟩
  refine wpAny_isTrue_Compare1 (binT (R := fun x y H2 => rF K M W f σ x y H2 fun v H1 => ∃ k, v = .bl k ∧ Q k H1) ha hb I (op2_t (test_t q)) fun v u s2 x y H2 I2 rx ry q => thn (ho pins s2 σ H2 x y v u _ I2 rx ry q) fun w s3 ⟨z, H3, I3, r3, k, e, q3⟩ => ?_) hm
  subst e
  cases r3
  exact wpAny_truthy_bool ⟨H3, I3, q3⟩
theorem pt_not' {mt : PT'} (ha : PT X a (tB' K M W mt)) : PT X (.UnaryOp .Not a pos) (tB' K M W (pNot mt)) := by
  refine PT.imp (pt_not ha) fun σ H Q q => ?_
  obtain ⟨g, G, S, m, q⟩ := q
  refine ⟨g, G, S, m, EndB.imp (EndB.bindB q) fun t H1 ⟨g1, G1, S1, er, m1, st, q⟩ => ?_⟩
  exact (show EndB K M W σ H G S (.ok (!t) g1) Q from q) H1 G1 S1 m1 st
theorem and_t {ma mb : PT'} {Q : Bool → Hp → Prop} (q : tB' K M W (pAnd ma mb) σ H Q) : tAnd (tB' K M W ma) (tB' K M W mb) σ H Q := by
  obtain ⟨g, G, S, m, q⟩ := q
  refine ⟨g, G, S, m, EndB.imp (EndB.bindB q) fun t H1 ⟨g1, G1, S1, er, m1, st, q⟩ => ?_⟩
  cases t with
  | true => exact ⟨g1, G1, S1, m1, EndB.of q st⟩
  | false => exact (show EndB K M W σ H G S (.ok false g1) Q from q) H1 G1 S1 m1 st
theorem or_t {ma mb : PT'} {Q : Bool → Hp → Prop} (q : tB' K M W (pOr ma mb) σ H Q) : tOr (tB' K M W ma) (tB' K M W mb) σ H Q := by
  obtain ⟨g, G, S, m, q⟩ := q
  refine ⟨g, G, S, m, EndB.imp (EndB.bindB q) fun t H1 ⟨g1, G1, S1, er, m1, st, q⟩ => ?_⟩
  cases t with
  | false => exact ⟨g1, G1, S1, m1, EndB.of q st⟩
  | true => exact (show EndB K M W σ H G S (.ok true g1) Q from q) H1 G1 S1 m1 st
theorem PW.imp {e : Expr} {t t' : TT} (h : PW X e t) (k : ∀ σ H Q, t' σ H Q → t σ H Q) : PW X e t' := ⟨fun wh pins s σ H Q I q => h.run wh pins s σ H Q I (k σ H Q q)⟩
theorem pw_A1 {mt : PT'} (ha : PT X a (tB' K M W mt)) : PW X (.BoolOp .And [a] pos) (tB' K M W mt) := pw_and1 ha
theorem pw_O1 {mt : PT'} (ha : PT X a (tB' K M W mt)) : PW X (.BoolOp .Or [a] pos) (tB' K M W mt) := pw_or1 ha
theorem pw_Ac {ma mb : PT'} (ha : PT X a (tB' K M W ma)) (hb : PW X (.BoolOp .And (b :: rest) pos) (tB' K M W mb)) : PW X (.BoolOp .And (a :: b :: rest) pos) (tB' K M W (pAnd ma mb)) := PW.imp (pw_and ha hb) fun σ H Q q => and_t q
theorem pw_Oc {ma mb : PT'} (ha : PT X a (tB' K M W ma)) (hb : PW X (.BoolOp .Or (b :: rest) pos) (tB' K M W mb)) : PW X (.BoolOp .Or (a :: b :: rest) pos) (tB' K M W (pOr ma mb)) := PW.imp (pw_or ha hb) fun σ H Q q => or_t q
/-! as values -/
theorem pe_Or {ma mb : PX} (ha : PE X a (tP X.K M W ma)) (hb : PE X (.BoolOp .Or (b :: rest) pos) (tP X.K M W mb)) : PE X (.BoolOp .Or (a :: b :: rest) pos) (tP X.K M W (pOrV ma mb)) := by
  refine PE.imp (pe_orT ha hb) fun σ H Q q => ?_
  obtain ⟨g, G, S, m, q⟩ := q
  refine ⟨g, G, S, m, EndE.imp (EndE.bind q) fun v H1 ⟨d, g1, G1, S1, T, er, got, st, q⟩ => ?_⟩
  cases e : trD d with
  | none => rw [e] at q; exact (show False from q).elim
  | some k =>
    rw [e] at q
    refine ⟨k, tru_seen ⟨T, got.2.1⟩ got.1.sub e, ?_⟩
    cases k with
    | true => exact (show EndE X.K M W σ H G S (.ok d g1) Q from q) v H1 G1 S1 T got st
    | false => exact ⟨g1, G1, S1, got.1, EndE.of q st⟩
theorem pe_And {ma mb : PX} (ha : PE X a (tP X.K M W ma)) (hb : PE X (.BoolOp .And (b :: rest) pos) (tP X.K M W mb)) : PE X (.BoolOp .And (a :: b :: rest) pos) (tP X.K M W (pAndV ma mb)) := by
  refine PE.imp (pe_andT ha hb) fun σ H Q q => ?_
  obtain ⟨g, G, S, m, q⟩ := q
  refine ⟨g, G, S, m, EndE.imp (EndE.bind q) fun v H1 ⟨d, g1, G1, S1, T, er, got, st, q⟩ => ?_⟩
  cases e : trD d with
  | none => rw [e] at q; exact (show False from q).elim
  | some k =>
    rw [e] at q
    refine ⟨k, tru_seen ⟨T, got.2.1⟩ got.1.sub e, ?_⟩
    cases k with
    | false => exact (show EndE X.K M W σ H G S (.ok d g1) Q from q) v H1 G1 S1 T got st
    | true => exact ⟨g1, G1, S1, got.1, EndE.of q st⟩
theorem pe_Not {oa : Op} (ha : PE X a (tO X.K M W oa)) : PE X (.UnaryOp .Not a pos) (tP X.K M W (pNotV oa)) := by
  refine PE.imp (pe_notT ha) fun σ H Q q => ?_
  obtain ⟨g, G, S, m, q⟩ := op1_t q
  refine ⟨g, G, S, m, EndO.imp q fun v H1 ⟨g1, G1, S1, d, m1, sd, q⟩ => ?_⟩
  dsimp only at q
  cases e : trD d with
  | none => rw [e] at q; exact (show False from q).elim
  | some k =>
    rw [e] at q
    exact ⟨k, tru_seen sd m1.sub e, fin_sc q m1 rfl⟩
theorem pe_IfE {mc : PT'} {ma mb : PX} (hc : PT X c (tB' K M W mc)) (ha : PE X a (tP K M W ma)) (hb : PE X b (tP K M W mb)) : PE X (.IfExp c a b pos) (tP K M W (pIfE mc ma mb)) := by
  refine PE.imp (pe_ifExp hc ha hb) fun σ H Q q => ?_
  obtain ⟨g, G, S, m, q⟩ := q
  refine ⟨g, G, S, m, EndB.imp (EndE.bindB q) fun t H1 ⟨g1, G1, S1, er, m1, st, q⟩ => ?_⟩
  cases t with
  | true => exact ⟨g1, G1, S1, m1, EndE.of q st⟩
  | false => exact ⟨g1, G1, S1, m1, EndE.of q st⟩
/-! a chain -/
theorem ch_t {op op' : CmpOp} {oa ob oc : Op} {Q : VK} (q : tP K M W (pCh op op' oa ob oc) σ H Q) :
    tO K M W oa σ H fun x H1 => tO K M W ob σ H1 fun y H2 => rF K M W (fun d e g => rb (cmpD op d e) g) σ x y H2 fun z H3 => ∃ k, z = .bl k ∧
      (if k = true then tO K M W oc σ H3 fun w H4 => rF K M W (fun d e g => rb (cmpD op' d e) g) σ y w H4 Q else Q (.bl false) H3) := by
  obtain ⟨g, G, S, m, q⟩ := q
  unfold pCh at q
  refine ⟨g, G, S, m, ?_⟩
  cases er : evO oa g with
  | bad => rw [er] at q; exact q
  | exc c d g' => rw [er] at q; exact q
  | ok xx g1 =>
    rw [er, Rs.bind_ok] at q
    intro x H1 G1 S1 m1 r1 st
    refine ⟨g1, G1, S1, m1, ?_⟩
    unfold pCh2 at q
    cases er2 : evO ob g1 with
    | bad => rw [er2] at q; exact q
    | exc c d g' => rw [er2] at q; exact EndX.of q st
    | ok yy g2 =>
      rw [er2, Rs.bind_ok] at q
      intro y H2 G2 S2 m2 r2 st2
      cases e1 : rdO g2 oa xx with
      | none => rw [e1] at q; exact q.elim
      | some d =>
        cases e2 : rdO g2 ob yy with
        | none => rw [e1, e2] at q; exact q.elim
        | some e =>
          rw [e1, e2] at q
          dsimp only at q
          refine ⟨g2, G2, S2, d, e, m2, (r1.stp (g1 := g2) st2).seen m2 e1, r2.seen m2 e2, ?_⟩
          cases e3 : cmpD op d e with
          | none => rw [e3] at q; exact q.elim
          | some k =>
            rw [e3] at q
            show EndE K M W σ H2 G2 S2 (rb (cmpD op d e) g2) _
            rw [e3]
            intro z H3 G3 S3 T got st3
            refine ⟨k, Seen.bl (K := K) (M := M) (G := G3) (H := H3) ⟨T, got.2.1⟩, ?_⟩
            cases k with
            | false => exact (show EndE K M W σ H G S (.ok (.bl false) g2) Q from q) (.bl false) H3 G3 S3 none_ ⟨got.1, Own.of rfl, fun a z => z.elim⟩ ((st.trans st2).trans st3)
            | true =>
              refine ⟨g2, G3, S3, got.1, ?_⟩
              dsimp only [pCh3] at q
              cases er3 : evO oc g2 with
              | bad => rw [er3] at q; exact q
              | exc c d g' => rw [er3] at q; exact EndX.of q ((st.trans st2).trans st3)
              | ok zz g4 =>
                rw [er3, Rs.bind_ok] at q
                intro w H4 G4 S4 m4 r4 st4
                have q := EndE.of q (((st.trans st2).trans st3).trans st4)
                cases e4 : rdO g4 ob yy with
                | none => rw [e4] at q; exact (show False from q).elim
                | some e' =>
                  cases e5 : rdO g4 oc zz with
                  | none => rw [e4, e5] at q; exact (show False from q).elim
                  | some f' =>
                    rw [e4, e5] at q
                    exact ⟨g4, G4, S4, e', f', m4, (r2.stp (g1 := g4) (st3.trans st4)).seen m4 e4, r4.seen m4 e5, q⟩
theorem pe_Ch (hu : X.A.units + 64 < cLine) {op op' : CmpOp} {oa ob oc : Op} (ha : PE X a (tO X.K M W oa)) (hb : PE X b (tO X.K M W ob)) (hc : PE X c (tO X.K M W oc)) (hm : lastMarks [op, op'] [b, c] = false) :
    PE X (.Compare a [op, op'] [b, c] pos) (tP X.K M W (pCh op op' oa ob oc)) := ⟨fun pins s σ H Q I q => by
  refine Compare_chain (thn (ha.run pins s σ H _ I (ch_t q)) fun v s1 ⟨x, H1, I1, rx, q⟩ => chain_link (thn (hb.run pins s1 σ H1 _ I1 q) fun u s2 ⟨y, H2, I2, ry, q⟩ => thn (cmp_ok hu op pins s2 σ H2 x y v u _ I2 rx ry q) fun w s3 ⟨z, H3, I3, rz, k, e, q⟩ => ?_)) hm
  subst e
  cases rz
  cases k with
  | false => exact wpAny_truthy_bool (ite_ff ⟨.bl false, H3, I3, rfl, q⟩)
  | true => exact wpAny_truthy_bool (ite_tt (chain_last (thn (hc.run pins s3 σ H3 _ I3 q) fun w4 s4 ⟨z, H4, I4, rz, q⟩ => cmp_ok hu op' pins s4 σ H4 y z u w4 Q I4 ry rz q)))⟩
theorem pt_Ch (hu : X.A.units + 64 < cLine) {op op' : CmpOp} {oa ob oc : Op} (ha : PE X a (tO X.K M W oa)) (hb : PE X b (tO X.K M W ob)) (hc : PE X c (tO X.K M W oc)) (hm : lastMarks [op, op'] [b, c] = false) :
    PT X (.Compare a [op, op'] [b, c] pos) (tB' X.K M W (pTest (pCh op op' oa ob oc))) := ⟨fun pins s σ H Q I q => by
  refine isTrue_chain (thn (ha.run pins s σ H _ I (ch_t (test_t q))) fun v s1 ⟨x, H1, I1, rx, q⟩ => test_link (thn (hb.run pins s1 σ H1 _ I1 q) fun u s2 ⟨y, H2, I2, ry, q⟩ => thn (cmp_ok hu op pins s2 σ H2 x y v u _ I2 rx ry q) fun w s3 ⟨z, H3, I3, rz, k, e, q⟩ => ?_)) hm
  subst e
  cases rz
  cases k with
  | false =>
    obtain ⟨k, e, q⟩ := q
    cases e
    exact wpAny_truthy_bool (ite_ff ⟨H3, I3, q⟩)
  | true =>
    refine wpAny_truthy_bool (ite_tt (test_last (thn (hc.run pins s3 σ H3 _ I3 q) fun w4 s4 ⟨z, H4, I4, rz, q⟩ => thn (cmp_ok hu op' pins s4 σ H4 y z u w4 _ I4 ry rz q) fun w5 s5 ⟨z5, H5, I5, r5, k5, e5, q5⟩ => ?_)))
    subst e5
    cases r5
    exact wpAny_truthy_bool ⟨H5, I5, q5⟩⟩
end
end PI

set_option Elab.async false
set_option linter.all false
set_option maxRecDepth 100000
set_option maxHeartbeats 1000000
namespace PI
open PySem PySem.Spec PyProof.Rows L2
open PySem.W (Frag)
/-! ### targets: a name, names in a row -/
inductive Tg where
  | nm (i : Nat) | tp (is : List Nat)
def setAll : List Nat → List D → Sg → Option Sg
  | [], [], g => some g
  | i :: is, d :: ds, g => if i < g.length then setAll is ds (g.set i (some d)) else none
  | _, _, _ => none
def seqD : D → Option (List D)
  | .lst _ xs => some xs
  | .tup xs => some xs
  | _ => none
def asg : Tg → D → Sg → Option Sg
  | .nm i, d, g => if i < g.length then some (g.set i (some d)) else none
  | .tp is, d, g => (seqD d).bind fun xs => setAll is xs g
def sets : List Nat → List V → L2.St → L2.St
  | i :: is, v :: vs, σ => sets is vs (σ.set i (some v))
  | _, _, σ => σ
def gNs (is : List Nat) : TGs := fun vs σ H Q => vs.length = is.length ∧ Q (sets is vs σ) H
/-- the whole of a tuple or list of names -/
def gT (K : Frag) (is : List Nat) : TG := fun v σ H Q => ∃ a xs, v = .ref a ∧ (SqT K H a xs ∨ SqL K H a xs) ∧ xs.length = is.length ∧ Q (sets is xs σ) H
section
variable {K : Frag} {M : Memo} {W : WX} {X : Cx} {fx : List Nat} {σ σ1 : L2.St} {H H0 G G0 H1 G1 : Hp} {S S0 S1 : Nat → Addr → Prop} {g g1 : Sg} {pos p2 : Pos} {N : Ends}
theorem PGs.imp {es : List Expr} {t t' : TGs} (h : PGs X es t) (k : ∀ vs σ H Q, t' vs σ H Q → t vs σ H Q) : PGs X es t' := ⟨fun pins s σ H vs us Q I r q => h.run pins s σ H vs us Q I r (k vs σ H Q q)⟩
theorem PG.imp {e : Expr} {t t' : TG} (h : PG X e t) (k : ∀ v σ H Q, t' v σ H Q → t v σ H Q) : PG X e t' := ⟨fun pins s σ H v u Q I r q => h.run pins s σ H v u Q I r (k v σ H Q q)⟩
theorem pgs_n0 : PGs X [] (gNs []) := PGs.imp pgs_nil fun vs σ H Q ⟨hl, q⟩ => by
  cases vs with
  | nil => exact ⟨rfl, q⟩
  | cons v vs => simp at hl
theorem pgs_nc {i : Nat} {x : Str} {es : List Expr} {is : List Nat} (hN : X.N.Nodup) (hi : X.N[i]? = some x) (hx : Loc X.env.scope x) (hfn : X.fn x = true ∨ X.env.scope.names.lookup x = some .local) (h : PGs X es (gNs is)) : PGs X (.Name x pos :: es) (gNs (i :: is)) :=
  PGs.imp (pgs_cons (pg_name hN hi hx hfn) h rfl) fun vs σ H Q ⟨hl, q⟩ => by
    cases vs with
    | nil => simp at hl
    | cons v vs => exact ⟨v, vs, rfl, by simpa using hl, q⟩
theorem pg_T {es : List Expr} {k : Nat} {is : List Nat} (hc : X.calm = true) (h : PGs X es (gNs is)) (hn : (assignEach es X.env).length = is.length) (hst : (assignEach es X.env).findIdx? (·.1) = none) : PG X (.Tuple es k pos) (gT X.K is) :=
  ⟨fun pins s σ H v u Q I r ⟨a, xs, e, hq, hl, q⟩ => by
    rcases hq with hq | hq
    · exact (pg_tup hc h hn hst).run pins s σ H v u Q I r ⟨a, xs, e, hq, hl, hl, q⟩
    · exact (pg_lst hc h hn hst).run pins s σ H v u Q I r ⟨a, xs, e, hq, hl, hl, q⟩⟩
theorem seq_seen {d : D} {v : V} {xs : List D} (h : Seen K M G H d v) (sb : Sub G H) (e : seqD d = some xs) : ∃ a vs, v = .ref a ∧ (SqT K H a vs ∨ SqL K H a vs) ∧ RepL K G xs vs := by
  cases d with
  | lst m ys =>
    cases e
    obtain ⟨a, vs, e, h1, h2⟩ := h.lst sb
    exact ⟨a, vs, e, .inr h1, h2⟩
  | tup ys =>
    cases e
    obtain ⟨a, vs, e, h1, h2⟩ := h.tup sb
    exact ⟨a, vs, e, .inl h1, h2⟩
  | _ => cases e
theorem setAll_mt : ∀ {is : List Nat} {ds : List D} {vs : List V} {g g' : Sg} {σ : L2.St} {S : Nat → Addr → Prop}, setAll is ds g = some g' → RepL K G ds vs → Mt K M g σ H G S → (∀ i ∈ is, i ∉ fx) → Stp M H0 G0 S0 H G S →
    ∃ S', Mt K M g' (sets is vs σ) H G S' ∧ Stp M H0 G0 S0 H G S' ∧ Fx fx σ (sets is vs σ) ∧ vs.length = is.length
  | [], [], vs, g, g', σ, S, e, r, m, _, st => by
    cases (show vs = [] from r)
    cases (show some g = some g' from e)
    exact ⟨S, m, st, Fx.refl, rfl⟩
  | [], d :: ds, _, _, _, _, _, e, _, _, _, _ => by cases e
  | i :: is, [], _, _, _, _, _, e, _, _, _, _ => by cases e
  | i :: is, d :: ds, vs, g, g', σ, S, e, r, m, nf, st => by
    obtain ⟨v, vr, rfl, r1, r2⟩ := r
    have e : (if i < g.length then setAll is ds (g.set i (some d)) else none) = some g' := e
    split at e
    · rename_i hl
      have m1 := m.set (Own.of r1) (fun a z => z.elim) hl
      obtain ⟨S', m2, st2, f2, l2⟩ := setAll_mt e r2 m1 (fun j hj => nf j (List.mem_cons_of_mem _ hj)) (st.set fun a z => z.elim)
      exact ⟨S', m2, st2, (Fx.set (nf i (List.mem_cons_self ..))).trans f2, congrArg Nat.succ l2⟩
    · cases e
/-- a sealed value goes into a target -/
def gP (K : Frag) : Tg → TG
  | .nm i => gName i
  | .tp is => gT K is
def tgOk (fx : List Nat) : Tg → Prop
  | .nm i => i ∉ fx
  | .tp is => ∀ i ∈ is, i ∉ fx
theorem asg_g {tg : Tg} {d : D} {v : V} {g' : Sg} {Q : L2.St → Hp → Prop} (ht : tgOk fx tg) (e : asg tg d g = some g') (m : Mt K M g σ H G S) (r : Rep K G d v) (st : Stp M H0 G0 S0 H G S) (q : ∀ σ' S', Fx fx σ σ' → Mt K M g' σ' H G S' → Stp M H0 G0 S0 H G S' → Q σ' H) : gP K tg v σ H Q := by
  cases tg with
  | nm i =>
    have e : (if i < g.length then some (g.set i (some d)) else none) = some g' := e
    split at e
    · rename_i hl
      cases e
      exact q _ _ (Fx.set ht) (m.set (Own.of r) (fun a z => z.elim) hl) (st.set fun a z => z.elim)
    · cases e
  | tp is =>
    have e : ((seqD d).bind fun xs => setAll is xs g) = some g' := e
    cases e1 : seqD d with
    | none => rw [e1] at e; cases e
    | some xs =>
      rw [e1] at e
      obtain ⟨a, vs, rfl, hq, hr⟩ := seq_seen (Seen.of r : Seen K M G H d v) m.sub e1
      obtain ⟨S', m', st', f', hl⟩ := setAll_mt e hr m ht st
      exact ⟨a, vs, rfl, hq, hl, q _ _ f' m' st'⟩
/-- names in a row = an expression -/
def pSetT (is : List Nat) (e : PX) : PF := fun g => (e g).bind fun d g1 => match (seqD d).bind fun xs => setAll is xs g1 with
  | some g2 => .ok .nx g2
  | none => .bad
theorem ps_SetT {es : List Expr} {k : Nat} {is : List Nat} {e : Expr} {me : PX} (hc : X.calm = true) (he : PE X e (tP X.K M W me)) (h : PGs X es (gNs is)) (hf : ∀ i ∈ is, i ∉ fx) (hn : (assignEach es X.env).length = is.length) (hst : (assignEach es X.env).findIdx? (·.1) = none)
    (hs : swapsWithSole [.Tuple es k p2] e pos.line X.env = pure false) (hw : swappedStores [.Tuple es k p2] e X.env = pure none) (h1 : (assignEach [.Tuple es k p2] X.env).map (·.2) = [assign (.Tuple es k p2) X.env]) :
    PS X (.Assign [.Tuple es k p2] e pos) (tF X.K M fx W (pSetT is me)) := by
  refine PS.imp (ps_asg he (pg_T hc h hn hst) hs hw h1) fun N σ H q => ?_
  obtain ⟨g, G, S, m, q⟩ := q
  refine ⟨g, G, S, m, EndE.imp (EndF.bindE q) fun v H1 ⟨d, g1, G1, S1, T, er, got, st, q⟩ => ?_⟩
  cases e1 : seqD d with
  | none => rw [e1] at q; exact (show False from q).elim
  | some xs =>
    rw [e1, Option.bind_some] at q
    cases e2 : setAll is xs g1 with
    | none => rw [e2] at q; exact (show False from q).elim
    | some g2 =>
      rw [e2] at q
      obtain ⟨a, vs, rfl, hq, hr⟩ := seq_seen ⟨T, got.2.1⟩ got.1.sub e1
      obtain ⟨S', m', st', f', hl⟩ := setAll_mt e2 hr got.1 hf st
      exact ⟨a, vs, rfl, hq, hl, (show EndN X.K M fx σ H G S g2 N.nx from q) _ _ _ _ f' m' st'⟩
/-! ### walks -/
def Walk (K : Frag) (M : Memo) (J : It) (ds : List D) (G : Hp) : Prop := ∀ (g : Sg) (σ : L2.St) (H G' : Hp) (S : Nat → Addr → Prop), Sub G G' → Mt K M g σ H G' S → ∀ i : Nat,
  (∀ d, ds[i]? = some d → J.go i H ∧ ∀ x H', J.yld i H x H' → ∃ G'', Mt K M g σ H' G'' S ∧ Rep K G'' d x ∧ Stp M H G' S H' G'' S) ∧ (ds.length ≤ i → J.stop i H)
def EndI (K : Frag) (M : Memo) (W : WX) (σ : L2.St) (H G : Hp) (S : Nat → Addr → Prop) (r : Rs (List D)) (R : It → Hp → Prop) : Prop := match r with
  | .bad => False
  | .ok ds g' => ∀ J H' G' S', Mt K M g' σ H' G' S' → Walk K M J ds G' → Stp M H G S H' G' S' → R J H'
  | .exc c d g' => EndX K M W σ H G S c d g'
abbrev PIt := Sg → Rs (List D)
def tI (K : Frag) (M : Memo) (W : WX) (m : PIt) : TI := fun σ H R => ∃ g G S, Mt K M g σ H G S ∧ EndI K M W σ H G S (m g) R
def forD (tg : Tg) (body : PF) : List D → PF
  | [], g => .ok .nx g
  | d :: ds, g => match asg tg d g with
    | none => .bad
    | some g1 => (body g1).bind fun fl g2 => match fl with
      | .nx => forD tg body ds g2
      | .ct => forD tg body ds g2
      | .bk => .ok .nx g2
      | .rt d => .ok (.rt d) g2
def pFor (it : PIt) (tg : Tg) (body : PF) : PF := fun g => (it g).bind fun ds g1 => forD tg body ds g1
theorem ps_For {iter tge : Expr} {body : List Stmt} {mi : PIt} {tg : Tg} {mb : PF} (hp : PassesOwn (model X.prog X.w) X.A X.env X.xe) (hc : X.calm = true) (hi : PI X tge iter (tI X.K M W mi)) (hg : PG X tge (gP X.K tg)) (ht : tgOk fx tg) (hb : PSs X body (tF X.K M fx W mb))
    (hs : ∀ x, foldedSetIterable iter X.env x = pure x) : PS X (.For tge iter body [] pos) (tF X.K M fx W (pFor mi tg mb)) := by
  refine PS.imp (ps_for hp hc hi hg hb hs) fun N σ H q => ?_
  obtain ⟨g, G, S, m, q⟩ := q
  refine ⟨g, G, S, m, ?_⟩
  unfold pFor at q
  cases er : mi g with
  | bad => rw [er] at q; exact q
  | exc c d g' => rw [er] at q; exact EndXs.x q
  | ok ds g1 =>
    rw [er, Rs.bind_ok] at q
    intro J H1 G1 S1 m1 wk st1
    refine ⟨fun i mm σ' H' => mm = ds.length - i ∧ i ≤ ds.length ∧ ∃ g' G' S', Fx fx σ σ' ∧ Mt X.K M g' σ' H' G' S' ∧ Stp M H G S H' G' S' ∧ Sub G1 G' ∧ EndF X.K M fx W σ H G S (forD tg mb (ds.drop i) g') N, ⟨ds.length, rfl, Nat.zero_le _, g1, G1, S1, Fx.refl, m1, st1, Sub.refl _, q⟩, ?_⟩
    rintro i mm σ' H' ⟨rfl, hi, g', G', S', f', m', st', sb, q⟩
    obtain ⟨w1, w2⟩ := wk g' σ' H' G' S' sb m' i
    by_cases hlt : i < ds.length
    · obtain ⟨go, yl⟩ := w1 ds[i] (List.getElem?_eq_getElem hlt)
      refine .inr ⟨go, fun σ2 H2 => ∃ g2 G2 S2, Fx fx σ σ2 ∧ Mt X.K M g2 σ2 H2 G2 S2 ∧ Stp M H G S H2 G2 S2 ∧ Sub G1 G2 ∧ EndF X.K M fx W σ H G S (forD tg mb (ds.drop (i + 1)) g2) N, fun σ2 H2 z => ⟨ds.length - (i + 1), by omega, rfl, hlt, z⟩, fun x H2 hy => ?_⟩
      obtain ⟨G2, m2, r2, st2⟩ := yl x H2 hy
      rw [List.drop_eq_getElem_cons hlt] at q
      have q : EndF X.K M fx W σ H G S (match asg tg ds[i] g' with
        | none => .bad
        | some g1 => (mb g1).bind fun fl g2 => match fl with
          | .nx => forD tg mb (ds.drop (i + 1)) g2
          | .ct => forD tg mb (ds.drop (i + 1)) g2
          | .bk => .ok .nx g2
          | .rt d => .ok (.rt d) g2) N := q
      cases e1 : asg tg ds[i] g' with
      | none => rw [e1] at q; exact (show False from q).elim
      | some g3 =>
        rw [e1] at q
        refine asg_g ht e1 m2 r2 (st'.trans st2) fun σ3 S3 f3 m3 st3 => ?_
        refine ⟨g3, G2, S3, m3, ?_⟩
        have sb3 : Sub G1 G2 := sb.trans st2.gr
        dsimp only at q
        cases e2 : mb g3 with
        | bad => rw [e2] at q; exact q
        | exc c d g4 => rw [e2] at q; exact EndXs.of q (f'.trans f3) st3
        | ok fl g4 =>
          rw [e2, Rs.bind_ok] at q
          cases fl with
          | nx => exact fun σ4 H4 G4 S4 f4 m4 st4 => ⟨g4, G4, S4, (f'.trans f3).trans f4, m4, st3.trans st4, sb3.trans st4.gr, q⟩
          | ct => exact fun σ4 H4 G4 S4 f4 m4 st4 => ⟨g4, G4, S4, (f'.trans f3).trans f4, m4, st3.trans st4, sb3.trans st4.gr, q⟩
          | bk => exact EndN.of q (f'.trans f3) st3
          | rt d => exact EndF.of (r := .ok (.rt d) g4) q (f'.trans f3) st3
    · have e : i = ds.length := by omega
      subst e
      rw [List.drop_length] at q
      exact .inl ⟨w2 (Nat.le_refl _), (show EndN X.K M fx σ H G S g' N.nx from q) σ' H' G' S' f' m' st'⟩
end
end PI

set_option Elab.async false
set_option linter.all false
set_option maxRecDepth 100000
set_option maxHeartbeats 1000000
namespace PI
open PySem PySem.Spec PyProof.Rows L2
open PySem.W (Frag)
open RZ (ItzT pi_zipA)
/-! ### what is walked: lists, tuples, strs, ranges, enumerate, zip -/
def itmD : D → Option (List D)
  | .lst _ xs => some xs
  | .tup xs => some xs
  | .str x => some (x.cps.toList.map fun c => .str ⟨#[c]⟩)
  | _ => none
def rl (o : Option (List D)) (g : Sg) : Rs (List D) := match o with
  | some ds => .ok ds g
  | none => .bad
def pItV (m : PX) : PIt := fun g => (m g).bind fun d g1 => rl (itmD d) g1
def rngD (i j : Int) : List D := (List.range (j - i).toNat).map fun k => .int (i + (k : Nat))
def rngA : List D → Option (List D)
  | [.int j] => if -lim ≤ j ∧ j ≤ lim then some (rngD 0 j) else none
  | [.int i, .int j] => if -lim ≤ i ∧ i ≤ lim ∧ -lim ≤ j ∧ j ≤ lim then some (rngD i j) else none
  | _ => none
def pRng (os : List Op) : PIt := fun g => (evOs os g).bind fun xs g1 => rl ((rdOs g1 os xs).bind rngA) g1
def enumD : Nat → List D → List D
  | _, [] => []
  | k, x :: xs => .tup [.int (k : Nat), x] :: enumD (k + 1) xs
def enumA : List D → Option (List D)
  | [.lst _ xs] => some (enumD 0 xs)
  | _ => none
def zipD (xs ys : List D) : List D := List.zipWith (fun x y => .tup [x, y]) xs ys
def zipA : List D → Option (List D)
  | [.lst _ xs, .lst _ ys] => some (zipD xs ys)
  | [.tup xs, .tup ys] => some (zipD xs ys)
  | _ => none
def pItA (f : List D → Option (List D)) (ms : List PX) : PIt := fun g => (pAll ms g).bind fun ds g1 => rl (f ds) g1
section
variable {K : Frag} {M : Memo} {W : WX} {X : Cx} {fx : List Nat} {σ σ1 : L2.St} {H H0 G G0 H1 G1 : Hp} {S S0 S1 : Nat → Addr → Prop} {g g1 : Sg} {pos p p2 tpos : Pos} {tg : Expr}
theorem walk_l {a : Addr} {ds : List D} {vs : List V} (h : SqL K G a vs) (r : RepL K G ds vs) : Walk K M (Itl K a) ds G := fun g σ H G' S sb m i => by
  have h' : SqL K H a vs := m.sub.sqL (sb.sqL h)
  refine ⟨fun d hd => ?_, fun hl => ⟨vs, h', by rw [← r.len]; exact hl⟩⟩
  obtain ⟨v, hv, rv⟩ := r.get i hd
  refine ⟨⟨vs, v, h', hv⟩, fun x H' y => ?_⟩
  obtain ⟨rfl, y⟩ := y
  have := y vs h'
  rw [hv] at this; cases this
  exact ⟨G', m, Rep.mono sb _ _ rv, Stp.refl⟩
theorem walk_t {a : Addr} {ds : List D} {vs : List V} (h : SqT K G a vs) (r : RepL K G ds vs) : Walk K M (Itt K a) ds G := fun g σ H G' S sb m i => by
  have h' : SqT K H a vs := m.sub.sqT (sb.sqT h)
  refine ⟨fun d hd => ?_, fun hl => ⟨vs, h', by rw [← r.len]; exact hl⟩⟩
  obtain ⟨v, hv, rv⟩ := r.get i hd
  refine ⟨⟨vs, v, h', hv⟩, fun x H' y => ?_⟩
  obtain ⟨rfl, y⟩ := y
  have := y vs h'
  rw [hv] at this; cases this
  exact ⟨G', m, Rep.mono sb _ _ rv, Stp.refl⟩
theorem walk_s {z : Str} : Walk K M (Its z) (z.cps.toList.map fun c => .str ⟨#[c]⟩) G := fun g σ H G' S sb m i => by
  refine ⟨fun d hd => ?_, fun hl => ?_⟩
  · rw [List.getElem?_map] at hd
    cases e : z.cps.toList[i]? with
    | none => rw [e] at hd; cases hd
    | some c =>
      rw [e] at hd
      cases hd
      refine ⟨by have := (List.getElem?_eq_some_iff.mp e).1; rw [Array.length_toList] at this; exact this, fun x H' y => ?_⟩
      obtain ⟨rfl, c', e', rfl⟩ := y
      have : z.cps.toList[i]? = some c' := by rw [Array.getElem?_toList]; exact e'
      rw [e] at this; cases this
      exact ⟨G', m, rfl, Stp.refl⟩
  · rw [List.length_map, Array.length_toList] at hl
    exact hl
theorem walk_r {lo : Int} {n : Nat} : Walk K M (Itr lo n) ((List.range n).map fun k => .int (lo + (k : Nat))) G := fun g σ H G' S sb m i => by
  refine ⟨fun d hd => ?_, fun hl => ?_⟩
  · rw [List.getElem?_map] at hd
    by_cases hi : i < n
    · rw [List.getElem?_range hi] at hd
      cases hd
      exact ⟨hi, fun x H' y => by obtain ⟨rfl, rfl⟩ := y; exact ⟨G', m, rfl, Stp.refl⟩⟩
    · rw [List.getElem?_eq_none (by rw [List.length_range]; omega)] at hd; cases hd
  · rw [List.length_map, List.length_range] at hl
    exact hl
theorem Mt.pair {T : Addr} {x y : V} {d e : D} (m : Mt K M g σ H G S) (hT : H T = none) (rx : Rep K G d x) (ry : Rep K G e y) :
    ∃ G'', Mt K M g σ (upd H T (.tup [x, y])) G'' S ∧ Rep K G'' (.tup [d, e]) (.ref T) ∧ Stp M H G S (upd H T (.tup [x, y])) G'' S :=
  ⟨_, m.new hT (M.tup _), ⟨T, [x, y], rfl, SqT.of upd_same, ⟨x, [y], rfl, Rep.mono (Sub.new (m.gnone hT)) _ _ rx, ⟨y, [], rfl, Rep.mono (Sub.new (m.gnone hT)) _ _ ry, rfl⟩⟩⟩, m.newStp hT (M.tup _)⟩
theorem enum_at : ∀ (xs : List D) (k i : Nat), (enumD k xs)[i]? = xs[i]?.map fun x => .tup [.int ((k + i : Nat) : Int), x]
  | [], k, i => rfl
  | x :: xs, k, 0 => rfl
  | x :: xs, k, i + 1 => by
    show (enumD (k + 1) xs)[i]? = _
    rw [enum_at xs (k + 1) i, show k + 1 + i = k + (i + 1) by omega] <;> rfl
theorem enum_len : ∀ (xs : List D) (k : Nat), (enumD k xs).length = xs.length
  | [], k => rfl
  | x :: xs, k => congrArg Nat.succ (enum_len xs (k + 1))
theorem walk_e {a : Addr} {ds : List D} {vs : List V} (h : SqL K G a vs) (r : RepL K G ds vs) : Walk K M (Ite K a) (enumD 0 ds) G := fun g σ H G' S sb m i => by
  have h' : SqL K H a vs := m.sub.sqL (sb.sqL h)
  refine ⟨fun d hd => ?_, fun hl => ⟨vs, h', by rw [← r.len, ← enum_len ds 0]; exact hl⟩⟩
  rw [enum_at] at hd
  cases e : ds[i]? with
  | none => rw [e] at hd; cases hd
  | some d0 =>
    rw [e] at hd
    cases hd
    obtain ⟨v, hv, rv⟩ := r.get i e
    refine ⟨⟨vs, v, h', hv⟩, fun x H' y => ?_⟩
    obtain ⟨T, x0, rfl, hT, rfl, y⟩ := y
    have := y vs h'
    rw [hv] at this; cases this
    rw [Nat.zero_add]
    exact m.pair (d := .int (i : Nat)) hT rfl (Rep.mono sb _ _ rv)
theorem zip_at (xs ys : List D) (i : Nat) : (zipD xs ys)[i]? = (match xs[i]?, ys[i]? with
    | some x, some y => some (.tup [x, y])
    | _, _ => none) := by
  unfold zipD
  rw [List.getElem?_zipWith]
  cases xs[i]? <;> cases ys[i]? <;> rfl
theorem walk_z {a b : Addr} {ds es : List D} {vs us : List V} (h : SqL K G a vs) (r : RepL K G ds vs) (h2 : SqL K G b us) (r2 : RepL K G es us) : Walk K M (Itz K a b) (zipD ds es) G := fun g σ H G' S sb m i => by
  have h' : SqL K H a vs := m.sub.sqL (sb.sqL h)
  have h2' : SqL K H b us := m.sub.sqL (sb.sqL h2)
  refine ⟨fun d hd => ?_, fun hl => ⟨vs, us, h', h2', ?_⟩⟩
  · rw [zip_at] at hd
    cases e : ds[i]? with
    | none => rw [e] at hd; cases hd
    | some d0 =>
      cases e2 : es[i]? with
      | none => rw [e, e2] at hd; cases hd
      | some d1 =>
        rw [e, e2] at hd
        cases hd
        obtain ⟨v, hv, rv⟩ := r.get i e
        obtain ⟨u, hu, ru⟩ := r2.get i e2
        refine ⟨⟨vs, us, v, u, h', h2', hv, hu⟩, fun x H' y => ?_⟩
        obtain ⟨T, x0, y0, rfl, hT, rfl, y1, y2⟩ := y
        have e1 := y1 vs h'
        have e2 := y2 us h2'
        rw [hv] at e1; cases e1
        rw [hu] at e2; cases e2
        exact m.pair hT (Rep.mono sb _ _ rv) (Rep.mono sb _ _ ru)
  · have hl : (zipD ds es).length ≤ i := hl
    unfold zipD at hl
    rw [List.length_zipWith, r.len, r2.len] at hl
    omega
theorem walk_zT {a b : Addr} {ds es : List D} {vs us : List V} (h : SqT K G a vs) (r : RepL K G ds vs) (h2 : SqT K G b us) (r2 : RepL K G es us) : Walk K M (ItzT K a b) (zipD ds es) G := fun g σ H G' S sb m i => by
  have h' : SqT K H a vs := m.sub.sqT (sb.sqT h)
  have h2' : SqT K H b us := m.sub.sqT (sb.sqT h2)
  refine ⟨fun d hd => ?_, fun hl => ⟨vs, us, h', h2', ?_⟩⟩
  · rw [zip_at] at hd
    cases e : ds[i]? with
    | none => rw [e] at hd; cases hd
    | some d0 =>
      cases e2 : es[i]? with
      | none => rw [e, e2] at hd; cases hd
      | some d1 =>
        rw [e, e2] at hd
        cases hd
        obtain ⟨v, hv, rv⟩ := r.get i e
        obtain ⟨u, hu, ru⟩ := r2.get i e2
        refine ⟨⟨vs, us, v, u, h', h2', hv, hu⟩, fun x H' y => ?_⟩
        obtain ⟨T, x0, y0, rfl, hT, rfl, y1, y2⟩ := y
        have e1 := y1 vs h'
        have e2 := y2 us h2'
        rw [hv] at e1; cases e1
        rw [hu] at e2; cases e2
        exact m.pair hT (Rep.mono sb _ _ rv) (Rep.mono sb _ _ ru)
  · have hl : (zipD ds es).length ≤ i := hl
    unfold zipD at hl
    rw [List.length_zipWith, r.len, r2.len] at hl
    omega
/-- a value -/
theorem itv_t {m : PX} {R : It → Hp → Prop} (q : tI K M W (pItV m) σ H R) : (iList K (tP K M W m) σ H R) ∨ (iTup K (tP K M W m) σ H R) ∨ iStr (tP K M W m) σ H R := by
  obtain ⟨g, G, S, mt, q⟩ := q
  unfold pItV at q
  cases er : m g with
  | bad => rw [er] at q; exact (show False from q).elim
  | exc c d g' =>
    rw [er] at q
    refine .inl ⟨g, G, S, mt, ?_⟩
    rw [er]
    exact q
  | ok d g1 =>
    rw [er, Rs.bind_ok] at q
    cases d with
    | lst b xs =>
      refine .inl ⟨g, G, S, mt, ?_⟩
      rw [er]
      intro v H1 G1 S1 T got st
      obtain ⟨G2, m2, r2, sb, hg, hv⟩ := got.seal
      obtain ⟨_, a, vs, e, h1, h2⟩ := r2
      exact ⟨a, e, ⟨vs, m2.sub.sqL h1⟩, (show EndI K M W σ H G S (.ok xs g1) R from q) _ H1 G2 S1 m2 (walk_l h1 h2) (st.sealed sb hg hv)⟩
    | tup xs =>
      refine .inr (.inl ⟨g, G, S, mt, ?_⟩)
      rw [er]
      intro v H1 G1 S1 T got st
      obtain ⟨G2, m2, r2, sb, hg, hv⟩ := got.seal
      obtain ⟨a, vs, e, h1, h2⟩ := r2
      exact ⟨a, e, ⟨vs, m2.sub.sqT h1⟩, (show EndI K M W σ H G S (.ok xs g1) R from q) _ H1 G2 S1 m2 (walk_t h1 h2) (st.sealed sb hg hv)⟩
    | str z =>
      refine .inr (.inr ⟨g, G, S, mt, ?_⟩)
      rw [er]
      intro v H1 G1 S1 T got st
      exact ⟨z, Seen.str (K := K) (M := M) (G := G1) (H := H1) ⟨T, got.2.1⟩, (show EndI K M W σ H G S (.ok _ g1) R from q) _ H1 G1 S1 got.1 walk_s st⟩
    | _ => exact (show False from q).elim
theorem pi_V {e : Expr} {m : PX} (he : PE X e (tP X.K M W m)) : PI X tg e (tI X.K M W (pItV m)) := ⟨fun pins s σ H R I q => by
  rcases itv_t q with q | q | q
  · exact (pi_list he).run pins s σ H R I q
  · exact (pi_tup he).run pins s σ H R I q
  · exact (pi_str he).run pins s σ H R I q⟩
theorem PI.imp {e : Expr} {t t' : TI} (h : PI X tg e t) (k : ∀ σ H R, t' σ H R → t σ H R) : PI X tg e t' := ⟨fun pins s σ H R I q => h.run pins s σ H R I (k σ H R q)⟩
/-- what stands behind operands, arguments that are walked -/
theorem rng_t {os : List Op} {R : It → Hp → Prop} (q : tI K M W (pRng os) σ H R) : tOs K M W os σ H fun vs H1 => ∃ ds g G0 H0 S0 G1 S1, Mt K M g σ H1 G1 S1 ∧ SeenL K M G1 H1 ds vs ∧ Stp M H0 G0 S0 H1 G1 S1 ∧ EndI K M W σ H0 G0 S0 (rl (rngA ds) g) R := by
  obtain ⟨g, G, S, mt, q⟩ := q
  refine ⟨g, G, S, mt, ?_⟩
  unfold pRng at q
  cases er : evOs os g with
  | bad => rw [er] at q; exact q
  | exc c d g' => rw [er] at q; exact q
  | ok xs g1 =>
    rw [er, Rs.bind_ok] at q
    intro vs H1 G1 S1 m1 r1 st
    cases e1 : rdOs g1 os xs with
    | none => rw [e1] at q; exact (show False from q).elim
    | some ds => rw [e1] at q; exact ⟨ds, g1, G, H, S, G1, S1, m1, r1.seen m1 e1, st, q⟩
theorem pi_Rng1 {a : Expr} {oa : Op} (hg : Gl X "range") (hm : X.mg "range" = none) (ha : PA X [a] (tOs X.K M W [oa])) (hs : noStar a = true) : PI X tg (.Call (.Name "range" p) [a] [] pos) (tI X.K M W (pRng [oa])) := by
  refine PI.imp (pi_range1 hg hm ha (star_of hs)) fun σ H R q => ?_
  obtain ⟨g, G, S, mt, q⟩ := rng_t q
  refine ⟨g, G, S, mt, ?_⟩
  cases er : evOs [oa] g with
  | bad => rw [er] at q; exact q
  | exc c d g' => rw [er] at q; exact q
  | ok xs g1 =>
    rw [er] at q
    intro vs H1 G1 S1 m1 r1 st
    obtain ⟨ds, g2, G0, H0, S0, G2, S2, m2, sl, st2, q⟩ := q vs H1 G1 S1 m1 r1 st
    unfold rngA at q
    split at q
    · rename_i j
      obtain ⟨v, r, rfl, h1, rfl⟩ := sl
      cases h1.int
      split at q
      · rename_i hj
        have hl : (lim : Int) = 1000000 := rfl
        rw [hl] at hj
        refine ⟨j, rfl, by omega, by omega, ?_⟩
        have := (show EndI X.K M W σ H0 G0 S0 (.ok (rngD 0 j) g2) R from q) (Itr 0 (j - 0).toNat) H1 G2 S2 m2 walk_r st2
        rw [Int.sub_zero] at this
        exact this
      · exact (show False from q).elim
    · rename_i i j
      obtain ⟨v, r, rfl, h1, h2⟩ := sl
      obtain ⟨v2, r2, rfl, h3, rfl⟩ := h2
      obtain ⟨x, xr, w, wr, e1, e2, e3, e4⟩ := r1
      cases e2
      cases (e4 : _ ∧ _).2
    · exact (show False from q).elim
theorem pi_Rng2 {a b : Expr} {oa ob : Op} (hg : Gl X "range") (hm : X.mg "range" = none) (ha : PA X [a, b] (tOs X.K M W [oa, ob])) (hs : noStar a = true) (hs2 : noStar b = true) : PI X tg (.Call (.Name "range" p) [a, b] [] pos) (tI X.K M W (pRng [oa, ob])) := by
  refine PI.imp (pi_range2 hg hm ha (by rw [star_of hs, star_of hs2]; rfl) (star_of hs2)) fun σ H R q => ?_
  obtain ⟨g, G, S, mt, q⟩ := rng_t q
  refine ⟨g, G, S, mt, ?_⟩
  cases er : evOs [oa, ob] g with
  | bad => rw [er] at q; exact q
  | exc c d g' => rw [er] at q; exact q
  | ok xs g1 =>
    rw [er] at q
    intro vs H1 G1 S1 m1 r1 st
    obtain ⟨ds, g2, G0, H0, S0, G2, S2, m2, sl, st2, q⟩ := q vs H1 G1 S1 m1 r1 st
    unfold rngA at q
    split at q
    · rename_i j
      obtain ⟨v, r, rfl, h1, rfl⟩ := sl
      obtain ⟨x, xr, w, wr, e1, e2, e3, e4⟩ := r1
      cases e2
      obtain ⟨x, xr, w, wr, e1, e2, e3, e4⟩ := e4
      cases e2
    · rename_i i j
      obtain ⟨v, r, rfl, h1, h2⟩ := sl
      obtain ⟨v2, r2, rfl, h3, rfl⟩ := h2
      cases h1.int
      cases h3.int
      split at q
      · rename_i hj
        have hl : (lim : Int) = 1000000 := rfl
        rw [hl] at hj
        exact ⟨i, j, rfl, by omega, (show EndI X.K M W σ H0 G0 S0 (.ok (rngD i j) g2) R from q) (Itr i (j - i).toNat) H1 G2 S2 m2 walk_r st2⟩
      · exact (show False from q).elim
    · exact (show False from q).elim
theorem ita_t {f : List D → Option (List D)} {ms : List PX} {R : It → Hp → Prop} (q : tI K M W (pItA f ms) σ H R) : tL K M W (pAll ms) σ H fun vs H1 => ∃ ds g G0 H0 S0 G1 S1, Mt K M g σ H1 G1 S1 ∧ RepL K G1 ds vs ∧ Stp M H0 G0 S0 H1 G1 S1 ∧ EndI K M W σ H0 G0 S0 (rl (f ds) g) R := by
  obtain ⟨g, G, S, mt, q⟩ := q
  refine ⟨g, G, S, mt, ?_⟩
  unfold pItA at q
  cases er : pAll ms g with
  | bad => rw [er] at q; exact q
  | exc c d g' => rw [er] at q; exact q
  | ok ds g1 =>
    rw [er, Rs.bind_ok] at q
    exact fun vs H1 G1 S1 m1 r1 st => ⟨ds, g1, G, H, S, G1, S1, m1, r1, st, q⟩
theorem pi_Enum {a : Expr} {m : PX} {elts : List Expr} {kk : Nat} (hg : Gl X "enumerate") (hm : X.mg "enumerate" = none) (ha : PA X [a] (tL X.K M W (pAll [m]))) (hs : noStar a = true) : PI X (.Tuple elts kk tpos) (.Call (.Name "enumerate" p) [a] [] pos) (tI X.K M W (pItA enumA [m])) := by
  refine PI.imp (pi_enum hg hm ha (star_of hs)) fun σ H R q => ?_
  obtain ⟨g, G, S, mt, q⟩ := ita_t q
  refine ⟨g, G, S, mt, EndL.imp q fun vs H1 ⟨ds, g2, G0, H0, S0, G2, S2, m2, sl, st2, q⟩ => ?_⟩
  unfold enumA at q
  split at q
  · obtain ⟨v, r, rfl, h1, rfl⟩ := sl
    obtain ⟨_, a, vs, rfl, h2, h3⟩ := h1
    exact ⟨a, vs, rfl, m2.sub.sqL h2, (show EndI X.K M W σ H0 G0 S0 (.ok _ g2) R from q) _ H1 G2 S2 m2 (walk_e h2 h3) st2⟩
  · exact (show False from q).elim
theorem pi_Zip {a b : Expr} {ma mb : PX} {elts : List Expr} {kk : Nat} (hg : Gl X "zip") (hm : X.mg "zip" = none) (ha : PA X [a, b] (tL X.K M W (pAll [ma, mb]))) (hs : noStar a = true) (hs2 : noStar b = true) :
    PI X (.Tuple elts kk tpos) (.Call (.Name "zip" p) [a, b] [] pos) (tI X.K M W (pItA zipA [ma, mb])) := by
  refine PI.imp (pi_zipA hg hm ha (star_of hs) (stars_of (by rw [List.all_cons, hs2] <;> rfl))) fun σ H R q => ?_
  obtain ⟨g, G, S, mt, q⟩ := ita_t q
  refine ⟨g, G, S, mt, EndL.imp q fun vs H1 ⟨ds, g2, G0, H0, S0, G2, S2, m2, sl, st2, q⟩ => ?_⟩
  unfold zipA at q
  split at q
  · obtain ⟨v, r, rfl, h1, v2, r2, rfl, h4, rfl⟩ := sl
    obtain ⟨_, a, vs, rfl, h2, h3⟩ := h1
    obtain ⟨_, b, us, rfl, h5, h6⟩ := h4
    exact ⟨a, b, vs, us, rfl, .inl ⟨m2.sub.sqL h2, m2.sub.sqL h5, (show EndI X.K M W σ H0 G0 S0 (.ok _ g2) R from q) _ H1 G2 S2 m2 (walk_z h2 h3 h5 h6) st2⟩⟩
  · obtain ⟨v, r, rfl, h1, v2, r2, rfl, h4, rfl⟩ := sl
    obtain ⟨a, vs, rfl, h2, h3⟩ := h1
    obtain ⟨b, us, rfl, h5, h6⟩ := h4
    exact ⟨a, b, vs, us, rfl, .inr ⟨m2.sub.sqT h2, m2.sub.sqT h5, (show EndI X.K M W σ H0 G0 S0 (.ok _ g2) R from q) _ H1 G2 S2 m2 (walk_zT h2 h3 h5 h6) st2⟩⟩
  · exact (show False from q).elim
end
end PI

set_option Elab.async false
set_option linter.all false
set_option maxRecDepth 100000
set_option maxHeartbeats 1000000
namespace PI
open PySem PySem.Spec PyProof.Rows L2
open PySem.W (Frag)
/-! ### changes in place, by the one holder -/
section
variable {K : Frag} {M : Memo} {W : WX} {X : Cx} {fx : List Nat} {σ σ1 : L2.St} {H H0 G G0 H1 G1 : Hp} {S S0 S1 : Nat → Addr → Prop} {g g1 : Sg} {pos p p2 tpos : Pos} {n : Nat}
theorem Mt.upd {a : Addr} {o : HO} {d d' : D} (m : Mt K M g σ H G S) (e : g[n]? = some (some d)) (ev : σ[n]? = some (some (.ref a))) (ga : G a = none) (hs : ∀ b, S n b ↔ b = a) (ow : OwnAt K M G (L2.upd H a o) a d') :
    Mt K M (g.set n (some d')) σ (L2.upd H a o) G S ∧ Stp M H G S (L2.upd H a o) G S := by
  have hi : n < g.length := (List.getElem?_eq_some_iff.mp e).1
  have sna : S n a := (hs a).mpr rfl
  have ho : ∃ u, H a = some u := by
    obtain ⟨v, e1, o1⟩ := m.own n d e
    exact (o1.there sna).1
  obtain ⟨u, hu⟩ := ho
  have keep : ∀ b v, b ≠ a → H b = some v → L2.upd H a o b = some v := fun b v hb q => by rw [upd_ne hb]; exact q
  refine ⟨⟨by rw [List.length_set]; exact m.len, fun j e' h => ?_, fun j q b z => ?_, m.dis, fun b v q => ?_, ?_, m.vol⟩, ⟨Sub.refl _, fun b v q z => ?_, fun b v q => ?_, fun b z => .inl z, fun b v q => .inl q⟩⟩
  · by_cases hj : j = n
    · subst hj
      rw [List.getElem?_set_self hi] at h; cases h
      exact ⟨.ref a, ev, .inr ⟨a, rfl, ga, hs, ow⟩⟩
    · rw [List.getElem?_set_ne (Ne.symm hj)] at h
      obtain ⟨v, e1, o1⟩ := m.own j e' h
      exact ⟨v, e1, o1.keep (Sub.refl _) (fun b v sb q => keep b v (fun z => hj (m.dis j n b sb (z ▸ sna))) q) fun b sb => (o1.there sb).2⟩
  · by_cases hj : j = n
    · subst hj
      exact q d' (List.getElem?_set_self hi)
    · rw [List.getElem?_set_ne (Ne.symm hj)] at q
      exact m.nil j q b z
  · exact keep b v (fun z => by rw [z, ga] at q; cases q) (m.sub b v q)
  · exact M.keep G H _ _ m.mem (Sub.refl _) (fun x u e => .inl e) fun b v q hv => keep b v (fun z => m.vol n a sna (z ▸ hv)) q
  · exact keep b v (fun y => z (.inl ⟨n, y ▸ sna⟩)) q
  · by_cases hb : b = a
    · exact ⟨o, by rw [hb, upd_same]⟩
    · exact ⟨v, keep b v hb q⟩
/-- where an owned slot stands -/
theorem Mt.at {d : D} (m : Mt K M g σ H G S) (e : g[n]? = some (some d)) (h : ∀ G v, ¬ Rep K G d v) : ∃ a, σ[n]? = some (some (.ref a)) ∧ G a = none ∧ (∀ b, S n b ↔ b = a) ∧ OwnAt K M G H a d := by
  obtain ⟨v, ev, ow⟩ := m.own n d e
  rcases ow with ⟨r, _⟩ | ⟨a, rfl, ga, hs, oa⟩
  · exact (h _ _ r).elim
  · exact ⟨a, ev, ga, hs, oa⟩
theorem noRep_l {xs : List D} (G : Hp) (v : V) : ¬ Rep K G (.lst true xs) v := fun z => by cases z.1
theorem noRep_d {ks : List Key} {xs : List D} (G : Hp) (v : V) : ¬ Rep K G (.dic true ks xs) v := fun z => by cases z.1
theorem noRep_o {c : Str} {ns : List Str} {xs : List D} (G : Hp) (v : V) : ¬ Rep K G (.obj true c ns xs) v := fun z => by cases z.1
/-- x.append(e), x.pop(), x.clear(), x.reverse(): n the slot of x -/
def isL (o : Option (Option D)) : Option (List D) := match o with
  | some (some (.lst true xs)) => some xs
  | _ => none
def app2 (n : Nat) (ds : List D) (g1 : Sg) : Rs D := match isL g1[n]?, ds with
  | some xs, [d] => if xs.length < lim then .ok .non (g1.set n (some (.lst true (xs ++ [d])))) else .bad
  | _, _ => .bad
def pApp (n : Nat) (m : PX) : PX := fun g => match isL g[n]? with
  | some _ => (pAll [m] g).bind fun ds g1 => app2 n ds g1
  | none => .bad
def pPop (n : Nat) : PX := fun g => match isL g[n]? with
  | some xs => (match xs[xs.length - 1]? with
    | some d => .ok d (g.set n (some (.lst true xs.dropLast)))
    | none => .bad)
  | none => .bad
def pClr (n : Nat) : PX := fun g => match isL g[n]? with
  | some xs => .ok .non (g.set n (some (.lst true [])))
  | none => .bad
def pRev (n : Nat) : PX := fun g => match isL g[n]? with
  | some xs => .ok .non (g.set n (some (.lst true xs.reverse)))
  | none => .bad
theorem isL_at {o : Option (Option D)} {xs : List D} (h : isL o = some xs) : o = some (some (.lst true xs)) := by
  unfold isL at h
  split at h
  · cases h; rfl
  · cases h
theorem RepL.dropLast : ∀ {ds : List D} {vs : List V}, RepL K G ds vs → RepL K G ds.dropLast vs.dropLast
  | [], vs, r => by cases (show vs = [] from r); rfl
  | [d], vs, r => by
    obtain ⟨v, r, rfl, h1, h2⟩ := r
    cases (show r = [] from h2)
    rfl
  | d :: e :: ds, vs, r => by
    obtain ⟨v, r, rfl, h1, h2⟩ := r
    have h3 := RepL.dropLast h2
    obtain ⟨v2, r2, rfl, h4, h5⟩ := h2
    exact ⟨v, (v2 :: r2).dropLast, rfl, h1, h3⟩
theorem RepL.rev {ds : List D} : ∀ {vs : List V}, RepL K G ds vs → RepL K G ds.reverse vs.reverse := by
  induction ds with
  | nil => intro vs r; cases (show vs = [] from r); rfl
  | cons d ds ih =>
    intro vs r
    obtain ⟨v, r, rfl, h1, h2⟩ := r
    rw [List.reverse_cons, List.reverse_cons]
    exact (ih h2).append (RepL.one h1)
/-- an owned list is what its type says -/
theorem ty_l {xs : List D} {a : Addr} (h : OwnAt K M G H a (.lst true xs)) : tyV K "list" (.ref a) H := by
  obtain ⟨_, vs, ha, _⟩ := h
  exact .inl ⟨rfl, vs, SqL.of ha⟩
/-- a list that a slot alone holds -/
theorem Mt.lst {xs : List D} (m : Mt K M g σ H G S) (e : isL g[n]? = some xs) : ∃ a vs, σ[n]? = some (some (.ref a)) ∧ H a = some (.lst vs) ∧ RepL K G xs vs ∧ tyV K "list" (.ref a) H ∧
    ∀ (ys : List D) (us : List V), RepL K G ys us → Mt K M (g.set n (some (.lst true ys))) σ (L2.upd H a (.lst us)) G S ∧ Stp M H G S (L2.upd H a (.lst us)) G S := by
  obtain ⟨a, ev, ga, hs, oa⟩ := m.at (isL_at e) noRep_l
  obtain ⟨_, vs, ha, r⟩ := id oa
  exact ⟨a, vs, ev, ha, r, ty_l oa, fun ys us r' => m.upd (isL_at e) ev ga hs ⟨rfl, us, upd_same, r'⟩⟩
variable {x : Str} {e : Expr} {apos cpos : Pos} {m : PX}
theorem pe_App (ho : PE X (.Name x p) (tVar n)) (ha : PA X [e] (tL X.K M W (pAll [m]))) (hs : noStar e = true) (hbase : attributeBase (.Name x p) "append" X.env (eval (.Name x p) X.env) = eval (.Name x p) X.env)
    (hfew : ((backTo cpos (starEach [e] X.env)).all (fun x => !x.1) && (backToKw cpos (keywordEach [] X.env)).all (fun x => x.1.isSome)
      && decide ([e].length + ([] : List Keyword).length + (if ([] : List Keyword).isEmpty then 0 else 1) < 30)) = true)
    (hline : (apos.endLine == cpos.line) = true) : PE X (.Call (.Attribute (.Name x p) "append" apos) [e] [] cpos) (tP X.K M W (pApp n m)) := by
  refine PE.imp (pe_bm PySem.F.plainAttrs_list PySem.F.slot_list_append PySem.F.type_list_append mt_append ho ha hbase hfew hline (star_of hs)) fun σ H Q q => ?_
  obtain ⟨g, G, S, mt, q⟩ := q
  unfold pApp at q
  cases e1 : isL g[n]? with
  | none => rw [e1] at q; exact (show False from q).elim
  | some xs0 =>
    rw [e1] at q
    obtain ⟨a, _, ev, _, _, ty, _⟩ := mt.lst e1
    refine ⟨.ref a, ev, ty, g, G, S, mt, EndL.imp (EndE.bindL q) fun vs H1 ⟨ds, g1, G1, S1, er, m1, rr, st, q⟩ => ?_⟩
    unfold app2 at q
    split at q
    · rename_i xs d e2
      obtain ⟨v, r, rfl, h1, rfl⟩ := rr
      obtain ⟨a', us, ev', ha, hr, _, up⟩ := m1.lst e2
      rw [ev] at ev'; cases ev'
      split at q
      · rename_i hl
        obtain ⟨m2, st2⟩ := up (xs ++ [d]) (us ++ [v]) (hr.append (RepL.one h1))
        refine ⟨a, us, v, rfl, rfl, ha, ?_, (show EndE X.K M W σ H G S (.ok .non _) Q from q) .non _ _ _ none_ ⟨m2, Own.of rfl, fun a z => z.elim⟩ (st.trans st2)⟩
        have := lim_ok (Nat.le_of_lt hl)
        rw [← hr.len]
        have h2 : sizeLine = 16777216 := sizeLine_eq
        unfold lim at hl
        omega
      · exact (show False from q).elim
    · exact (show False from q).elim
theorem pe_Pop (ho : PE X (.Name x p) (tVar n)) (hbase : attributeBase (.Name x p) "pop" X.env (eval (.Name x p) X.env) = eval (.Name x p) X.env) (hline : (apos.endLine == cpos.line) = true) :
    PE X (.Call (.Attribute (.Name x p) "pop" apos) [] [] cpos) (tP X.K M W (pPop n)) := by
  refine PE.imp (pe_bm0 PySem.F.plainAttrs_list PySem.F.slot_list_pop PySem.F.type_list_pop mt_pop ho hbase hline) fun σ H Q q => ?_
  obtain ⟨g, G, S, mt, q⟩ := q
  unfold pPop at q
  cases e1 : isL g[n]? with
  | none => rw [e1] at q; exact (show False from q).elim
  | some xs =>
    rw [e1] at q
    dsimp only at q
    obtain ⟨a, vs, ev, ha, hr, ty, up⟩ := mt.lst e1
    cases e2 : xs[xs.length - 1]? with
    | none => rw [e2] at q; exact (show False from q).elim
    | some d =>
      rw [e2] at q
      obtain ⟨v, hv, rv⟩ := hr.get _ e2
      rw [hr.len] at hv
      obtain ⟨m2, st2⟩ := up _ _ hr.dropLast
      exact ⟨.ref a, ev, ty, a, vs, v, rfl, rfl, ha, hv, (show EndE X.K M W σ H G S (.ok d _) Q from q) v _ _ _ none_ ⟨m2, Own.of rv, fun a z => z.elim⟩ st2⟩
theorem pe_Clr (ho : PE X (.Name x p) (tVar n)) (hbase : attributeBase (.Name x p) "clear" X.env (eval (.Name x p) X.env) = eval (.Name x p) X.env) (hline : (apos.endLine == cpos.line) = true) :
    PE X (.Call (.Attribute (.Name x p) "clear" apos) [] [] cpos) (tP X.K M W (pClr n)) := by
  refine PE.imp (pe_bm0 PySem.F.plainAttrs_list PySem.F.slot_list_clear PySem.F.type_list_clear mt_clear ho hbase hline) fun σ H Q q => ?_
  obtain ⟨g, G, S, mt, q⟩ := q
  unfold pClr at q
  cases e1 : isL g[n]? with
  | none => rw [e1] at q; exact (show False from q).elim
  | some xs =>
    rw [e1] at q
    obtain ⟨a, vs, ev, ha, hr, ty, up⟩ := mt.lst e1
    obtain ⟨m2, st2⟩ := up [] [] rfl
    exact ⟨.ref a, ev, ty, a, vs, rfl, rfl, ha, (show EndE X.K M W σ H G S (.ok .non _) Q from q) .non _ _ _ none_ ⟨m2, Own.of rfl, fun a z => z.elim⟩ st2⟩
theorem pe_Rev (ho : PE X (.Name x p) (tVar n)) (hbase : attributeBase (.Name x p) "reverse" X.env (eval (.Name x p) X.env) = eval (.Name x p) X.env) (hline : (apos.endLine == cpos.line) = true) :
    PE X (.Call (.Attribute (.Name x p) "reverse" apos) [] [] cpos) (tP X.K M W (pRev n)) := by
  refine PE.imp (pe_bm0 PySem.F.plainAttrs_list PySem.F.slot_list_reverse PySem.F.type_list_reverse mt_reverse ho hbase hline) fun σ H Q q => ?_
  obtain ⟨g, G, S, mt, q⟩ := q
  unfold pRev at q
  cases e1 : isL g[n]? with
  | none => rw [e1] at q; exact (show False from q).elim
  | some xs =>
    rw [e1] at q
    obtain ⟨a, vs, ev, ha, hr, ty, up⟩ := mt.lst e1
    obtain ⟨m2, st2⟩ := up _ _ hr.rev
    exact ⟨.ref a, ev, ty, a, vs, rfl, rfl, ha, (show EndE X.K M W σ H G S (.ok .non _) Q from q) .non _ _ _ none_ ⟨m2, Own.of rfl, fun a z => z.elim⟩ st2⟩
/-! ### x[i] = e -/
def putKD (ks : List Key) (ds : List D) (k : Key) (d : D) : List Key × List D :=
  if (ks.any fun j => decide (j = k)) = true then (ks, List.zipWith (fun j e => if j = k then d else e) ks ds) else (ks ++ [k], ds ++ [d])
def putD : D → D → D → Option D
  | .lst true xs, .int i, d => (ixN xs.length i).map fun j => .lst true (xs.set j d)
  | .dic true ks ds, i, d => (keyOf i).bind fun k => if ks.length < lim then some (.dic true (putKD ks ds k d).1 (putKD ks ds k d).2) else none
  | _, _, _ => none
def put2 (n : Nat) (d i : D) (g : Sg) : Rs Fl := match g[n]? with
  | some (some t) => (match putD t i (sealD d) with
    | some t' => .ok .nx (g.set n (some t'))
    | none => .bad)
  | _ => .bad
def put1 (n : Nat) (mi : Op) (d : D) (g1 : Sg) : Rs Fl := match g1[n]? with
  | some (some _) => (evO mi g1).bind fun x g2 => (match rdO g2 mi x with
    | some i => put2 n (sealD d) i g2
    | none => .bad)
  | _ => .bad
def pPut (n : Nat) (mi : Op) (mv : PX) : PF := fun g => (mv g).bind (put1 n mi)
theorem sealD2 (d : D) : sealD (sealD d) = sealD d := by cases d <;> rfl
theorem RepL.set : ∀ {ds : List D} {vs : List V} {d : D} {v : V} (j : Nat), RepL K G ds vs → Rep K G d v → RepL K G (ds.set j d) (vs.set j v)
  | [], vs, d, v, j, r, _ => by cases (show vs = [] from r); rfl
  | e :: ds, vs, d, v, 0, r, h => by
    obtain ⟨w, r, rfl, h1, h2⟩ := r
    exact ⟨v, r, rfl, h, h2⟩
  | e :: ds, vs, d, v, j + 1, r, h => by
    obtain ⟨w, r, rfl, h1, h2⟩ := r
    exact ⟨w, r.set j v, rfl, h1, RepL.set j h2 h⟩
theorem put_rep {k : Key} {d : D} {v : V} (h : Rep K G d v) : ∀ {ks : List Key} {ds : List D} {vs : List V}, ks.length = vs.length → RepL K G ds vs →
    ∃ us, putK (ks.zip vs) k v = (putKD ks ds k d).1.zip us ∧ (putKD ks ds k d).1.length = us.length ∧ RepL K G (putKD ks ds k d).2 us := by
  intro ks ds vs hl r
  have ea : ((ks.zip vs).any fun kv => decide (kv.1 = k)) = ks.any fun j => decide (j = k) := by
    clear r
    induction ks generalizing vs with
    | nil => rfl
    | cons j ks ih =>
      cases vs with
      | nil => simp at hl
      | cons w vs => rw [List.zip_cons_cons, List.any_cons, List.any_cons, ih (by simpa using hl)]
  unfold putK putKD
  rw [ea]
  by_cases c : (ks.any fun j => decide (j = k)) = true
  · rw [if_pos c, if_pos c]
    clear ea c
    induction ks generalizing vs ds with
    | nil => cases vs with
      | nil =>
        cases ds with
        | nil => exact ⟨[], rfl, rfl, rfl⟩
        | cons e ds => obtain ⟨w, r, z, _⟩ := r; cases z
      | cons w vs => simp at hl
    | cons j ks ih =>
      cases vs with
      | nil => simp at hl
      | cons w vs =>
        cases ds with
        | nil => cases (show w :: vs = [] from r)
        | cons e ds =>
          obtain ⟨w', r', z, h1, h2⟩ := r
          cases z
          obtain ⟨us, e1, e2, e3⟩ := ih (by simpa using hl) h2
          refine ⟨(if j = k then v else w) :: us, ?_, by simpa using e2, (if j = k then v else w), us, rfl, ?_, e3⟩
          · rw [List.zip_cons_cons, List.map_cons]
            have e1' : List.map (fun kv => if kv.1 = k then (kv.1, v) else kv) (ks.zip vs) = ks.zip us := e1
            rw [e1']
            show _ = (j, if j = k then v else w) :: ks.zip us
            by_cases hj : j = k
            · rw [if_pos hj, if_pos hj]
            · rw [if_neg hj, if_neg hj]
          · show Rep K G (if j = k then d else e) (if j = k then v else w)
            by_cases hj : j = k
            · rw [if_pos hj, if_pos hj]; exact h
            · rw [if_neg hj, if_neg hj]; exact h1
  · rw [if_neg c, if_neg c]
    refine ⟨vs ++ [v], ?_, ?_, r.append (RepL.one h)⟩
    · rw [List.zip_append hl]; rfl
    · rw [List.length_append, List.length_append, hl] <;> rfl
theorem pset_or {t t' : TSet} (h : PSet X t) (h' : PSet X t') : PSet X fun o i v H Q => t o i v H Q ∨ t' o i v H Q := by
  intro pins s σ H o i v ov iv u Q I ro ri rv q
  rcases q with q | q
  · exact h pins s σ H o i v ov iv u Q I ro ri rv q
  · exact h' pins s σ H o i v ov iv u Q I ro ri rv q
theorem ps_Put (hu : X.A.units + 1 < cLine) {i : Expr} {mi : Op} {mv : PX} (ho : PE X (.Name x p) (tVar n)) (hi : PE X i (tO X.K M W mi)) (hv : PE X e (tP X.K M W mv))
    (ha : ∀ v, assign (.Subscript (.Name x p) i p2) X.env v = (do
      let ov ← holding [v] (eval (.Name x p) X.env)
      let iv ← holding [v, ov] (eval i X.env)
      standAt p2
      holding [v, ov, iv] (setItem ov iv v)
      release [v, ov, iv] []))
    (hs : swapsWithSole [.Subscript (.Name x p) i p2] e pos.line X.env = pure false) (hw : swappedStores [.Subscript (.Name x p) i p2] e X.env = pure none)
    (h1 : (assignEach [.Subscript (.Name x p) i p2] X.env).map (·.2) = [assign (.Subscript (.Name x p) i p2) X.env]) : PS X (.Assign [.Subscript (.Name x p) i p2] e pos) (tF X.K M fx W (pPut n mi mv)) := by
  refine PS.imp (ps_asg hv (pg_sub ho hi (pset_or set_list (set_dict hu)) ha) hs hw h1) fun N σ H q => ?_
  obtain ⟨g, G, S, m, q⟩ := q
  refine ⟨g, G, S, m, EndE.imp (EndF.bindE q) fun v H1 ⟨d, g1, G1, S1, T, er, got, st, q⟩ => ?_⟩
  obtain ⟨G2, m2, r2, sb, hg, hv⟩ := got.seal
  have st2 := st.sealed sb hg hv
  unfold put1 at q
  split at q
  · rename_i t0 et0
    obtain ⟨v0, ea, _⟩ := m2.own n t0 et0
    refine ⟨v0, ea, g1, G2, S1, m2, ?_⟩
    cases er2 : evO mi g1 with
    | bad => rw [er2] at q; exact q
    | exc c d g' => rw [er2] at q; exact EndX.of (EndXs.x q) st2
    | ok xx g2 =>
      rw [er2, Rs.bind_ok] at q
      intro iv H3 G3 S3 m3 r3 st3
      cases e1 : rdO g2 mi xx with
      | none => rw [e1] at q; exact (show False from q).elim
      | some di =>
        rw [e1] at q
        have si := r3.seen m3 e1
        have q : EndF X.K M fx W σ H G S (put2 n (sealD d) di g2) N := q
        unfold put2 at q
        split at q
        · rename_i t et
          rw [sealD2] at q
          split at q
          · rename_i t' et'
            have fin2 : ∀ (H4 : Hp) (S4 : Nat → Addr → Prop), Mt X.K M (g2.set n (some t')) σ H4 G3 S4 → Stp M H3 G3 S3 H4 G3 S4 → N.nx σ H4 := fun H4 S4 m4 st4 =>
              (show EndN X.K M fx σ H G S (g2.set n (some t')) N.nx from q) σ H4 G3 S4 Fx.refl m4 ((st2.trans st3).trans st4)
            cases t with
            | lst b xs =>
              cases b with
              | false => cases et'
              | true =>
                cases di with
                | int j =>
                  obtain ⟨a, ev, ga, hs', oa⟩ := m3.at et noRep_l
                  rw [ea] at ev; cases ev
                  obtain ⟨_, vs, ha', hr⟩ := id oa
                  cases si.int
                  have et' : ((ixN xs.length j).map fun j => D.lst true (xs.set j (sealD d))) = some t' := et'
                  cases ej : ixN xs.length j with
                  | none => rw [ej] at et'; cases et'
                  | some jj =>
                    rw [ej] at et'; cases et'
                    obtain ⟨m4, st4⟩ := m3.upd (o := .lst (vs.set jj v)) (d' := .lst true (xs.set jj (sealD d))) et ea ga hs' ⟨rfl, _, upd_same, hr.set jj (Rep.mono st3.gr _ _ r2)⟩
                    exact .inl ⟨a, vs, j, jj, rfl, rfl, ha', by rw [← hr.len]; exact ej, fin2 _ _ m4 st4⟩
                | _ => cases et'
            | dic b ks ds =>
              cases b with
              | false => cases di <;> cases et'
              | true =>
                have et' : ((keyOf di).bind fun k => if ks.length < lim then some (D.dic true (putKD ks ds k (sealD d)).1 (putKD ks ds k (sealD d)).2) else none) = some t' := by cases di <;> exact et'
                obtain ⟨a, ev, ga, hs', oa⟩ := m3.at et noRep_d
                rw [ea] at ev; cases ev
                obtain ⟨_, vs, ha', hl, hr⟩ := id oa
                cases ek : keyOf di with
                | none => rw [ek] at et'; cases et'
                | some k =>
                  rw [ek, Option.bind_some] at et'
                  split at et'
                  · rename_i hlt
                    cases et'
                    cases key_seen ek si
                    obtain ⟨us, u1, u2, u3⟩ := put_rep (k := k) (Rep.mono st3.gr _ _ r2) hl hr
                    obtain ⟨m4, st4⟩ := m3.upd (o := .dK (putK (ks.zip vs) k v)) (d' := .dic true (putKD ks ds k (sealD d)).1 (putKD ks ds k (sealD d)).2) et ea ga hs' ⟨rfl, us, by rw [upd_same, u1], u2, u3⟩
                    refine .inr ⟨a, _, rfl, DPut.k ha' ?_, fin2 _ _ m4 st4⟩
                    rw [List.length_zip, ← hl, Nat.min_self]
                    have h2 : sizeLine = 16777216 := sizeLine_eq
                    unfold lim at hlt
                    omega
                  · cases et'
            | _ => cases di <;> cases et'
          · exact (show False from q).elim
        · exact (show False from q).elim
  · exact (show False from q).elim
end
end PI

set_option Elab.async false
set_option linter.all false
set_option maxRecDepth 100000
set_option maxHeartbeats 1000000
namespace PI
open PySem PySem.Spec PyProof.Rows L2
open PySem.W (Frag)
/-! ### a new instance of an own class -/
def newC (f : List D → Cr) (ns : List (Option Nat)) (ds : List D) (rf : List Nat) (g : Sg) : Rs D := match f ds with
  | .bad => .bad
  | .ok .non rs => (match (retG ds.length rf rs)[0]? with
    | some (some d) => .ok d (wbS ns (retG ds.length rf rs) g)
    | _ => .bad)
  | .ok _ _ => .bad
  | .exc c d rs => .exc c d (wbS ns (retG ds.length rf rs) g)
def pNew (c : Str) (f : List D → Cr) (rf : List Nat) (as : List Ar) (pm : Pm) : PX := fun g => (evA as g).bind fun xs g1 => match rdA g1 as xs with
  | none => .bad
  | some ds => match pmL (.obj true c [] [] :: ds) id pm, pmL (none :: as.map nmA) (fun _ => none) pm with
    | some es, some ns => newC f ns es rf g1
    | _, _ => .bad
section
variable {K : Frag} {M : Memo} {W : WX} {X : Cx} {σ : L2.St} {H H0 G G0 H1 G1 H' G' : Hp} {S S0 S1 B' : Nat → Addr → Prop} {g g1 gr : Sg} {T U : Addr → Prop} {Q : VK}
theorem back_apart {es : List En} (m : Mt K M g σ H G S) (h : ∀ e ∈ es, EnOk K M H0 g σ H G S e) (m' : Mt K M gr (es.map fun e => some e.v) H' G' B') (st : Stp M H G (bOf es) H' G' B')
    {j : Nat} {e : En} {a : Addr} (ej : es[j]? = some e) (hs : e.s = none) (hb : B' j a) : ¬ Vl M G' (backS es S B') a := fun z => by
  have there : ∀ n a, S n a → ∃ o, H a = some o := fun n a z => by
    by_cases e : ∃ d, g[n]? = some (some d)
    · obtain ⟨d, e⟩ := e
      obtain ⟨v, _, ow⟩ := m.own n d e
      exact (ow.there z).1
    · exact (m.nil n (fun d q => e ⟨d, q⟩) a z).elim
  rcases z with ⟨n, ⟨j2, e2, ej2, es2, hb2⟩ | ⟨c', z⟩⟩ | z
  · have := m'.dis j j2 a hb hb2
    subst this
    rw [ej] at ej2; cases ej2
    rw [hs] at es2; cases es2
  · rcases st.vl a (.inl ⟨j, hb⟩) with y | y
    · rcases y with ⟨j3, e3, h3, b3⟩ | y
      · obtain ⟨_, hh⟩ := h e3 (List.mem_of_getElem? h3)
        cases q : e3.s with
        | some k =>
          rw [q] at hh
          rw [hh.1] at b3
          have := m.dis n k a z b3
          subst this
          exact c' e3 (List.mem_of_getElem? h3) q
        | none =>
          rw [q] at hh
          exact (hh a b3).1 (.inl ⟨n, z⟩)
      · exact m.vol n a z y
    · obtain ⟨o, ho⟩ := there n a z
      rw [ho] at y; cases y
  · exact m'.vol j a hb z
/-- the new instance among the arguments -/
theorem mk_self {as : List Ar} {xs : List (Option D)} {vs : List V} {c : Str} {x dx : Addr} (m : Mt K M g σ H G S) (st0 : Stp M H0 G0 S0 H G S) (h : ArRs K M H0 g σ H G S as xs vs U) (pl : ∀ dx fs, M.plain (.ins (He.ga K c) dx fs))
    (hx : H x = none) (hd : H dx = none) (ne : dx ≠ x) : ∃ U', Mt K M g σ (L2.upd (L2.upd H dx (.own x)) x (.ins (He.ga K c) dx [])) G S ∧ Stp M H0 G0 S0 (L2.upd (L2.upd H dx (.own x)) x (.ins (He.ga K c) dx [])) G S ∧
      ArRs K M H0 g σ (L2.upd (L2.upd H dx (.own x)) x (.ins (He.ga K c) dx [])) G S (.r (.ex pBad) :: as) (some (.obj true c [] []) :: xs) (.ref x :: vs) U' := by
  have m1 := m.newOwn (o := .own x) hd
  have s1 := m.newOwnStp (o := .own x) hd
  have hx1 : L2.upd H dx (.own x) x = none := by rw [upd_ne (Ne.symm ne)]; exact hx
  have m2 := m1.newOwn (o := .ins (He.ga K c) dx []) hx1
  have s2 := m1.newOwnStp (o := .ins (He.ga K c) dx []) hx1
  refine ⟨fun a => a = x ∨ U a, m2, (st0.trans s1).trans s2, some (.obj true c [] []), xs, .ref x, vs, fun a => a = x, U, rfl, rfl, ⟨_, rfl, .inr ⟨x, rfl, m.gnone hx, fun b => Iff.rfl, rfl, pl, dx, [], by rw [upd_same]; rfl, rfl, rfl⟩, fun b hb => ?_⟩, (h.stp (g1 := g) s1).stp (g1 := g) s2, fun b => Iff.rfl, fun b hb z => ?_⟩
  · cases hb
    exact ⟨m.snone hx, st0.back hx⟩
  · cases hb
    obtain ⟨⟨o, ho⟩, _⟩ := h.there z
    rw [hx] at ho; cases ho
theorem own_ref {d : D} {x : Addr} (h : Own K M G H d (.ref x) T) {a : Addr} (ha : T a) : a = x := by
  rcases h with ⟨_, n⟩ | ⟨b, e, _, hs, _⟩
  · exact (n a ha).elim
  · cases e
    exact (hs a).mp ha
theorem new_fin {f : List D → Cr} {rf : List Nat} {as : List Ar} {pm : Pm} {xs : List (Option D)} {vs ws : List V} {ds es : List D} {ns : List (Option Nat)} {kv : D → V} {c : Str} {x dx : Addr}
    (m : Mt K M g σ H G S) (st0 : Stp M H0 G0 S0 H G S) (h : ArRs K M H0 g σ H G S as xs vs U) (pl : ∀ dx fs, M.plain (.ins (He.ga K c) dx fs)) (hx : H x = none) (hd : H dx = none) (ne : dx ≠ x)
    (e1 : rdA g as xs = some ds) (e2 : pmL (.obj true c [] [] :: ds) id pm = some es) (e3 : pmL (none :: as.map nmA) (fun _ => none) pm = some ns)
    (dn : distinct (as.map nmA) = true) (dp : distinct (pm.map inlOf) = true) (hk : ∀ d, Sum.inr d ∈ pm → ∀ G, Rep K G d (kv d)) (h0 : pm[0]? = some (.inl 0)) (e4 : pmL (.ref x :: vs) kv pm = some ws) (q : EndE K M W σ H0 G0 S0 (newC f ns es rf g) Q) :
    spF K M f rf pm.length ws (L2.upd (L2.upd H dx (.own x)) x (.ins (He.ga K c) dx [])) (fun v H3 => v = .non ∧ Q (.ref x) H3) (WE W σ) := by
  obtain ⟨U', m, st, h', _⟩ : ∃ U', Mt K M g σ (L2.upd (L2.upd H dx (.own x)) x (.ins (He.ga K c) dx [])) G S ∧ Stp M H0 G0 S0 (L2.upd (L2.upd H dx (.own x)) x (.ins (He.ga K c) dx [])) G S ∧
      ArRs K M H0 g σ (L2.upd (L2.upd H dx (.own x)) x (.ins (He.ga K c) dx [])) G S (.r (.ex pBad) :: as) (some (.obj true c [] []) :: xs) (.ref x :: vs) U' ∧ True := by
    obtain ⟨U', a, b, c⟩ := mk_self m st0 h pl hx hd ne
    exact ⟨U', a, b, c, trivial⟩
  have hx0 : H0 x = none := st0.back hx
  have e1' : rdA g (.r (.ex pBad) :: as) (some (.obj true c [] []) :: xs) = some (.obj true c [] [] :: ds) := by
    show (match some (D.obj true c [] []), rdA g as xs with
      | some d, some ds => some (d :: ds)
      | _, _ => none) = _
    rw [e1]
  obtain ⟨pe, d1, d2, d3, lp, ok, ap, inj⟩ := call_core m h' e1' e2 e3 dn dp hk e4
  have cm := callee_mt (H0 := H0) m ok ap
  have eD : (pe.map fun e => some e.d) = es.map some := by rw [← d1, List.map_map]; rfl
  have eV : (pe.map fun e => some e.v) = ws.map some := by rw [← d2, List.map_map]; rfl
  rw [eD, eV] at cm
  have lw : ws.length = pm.length := by rw [← d2, List.length_map, lp]
  have ls : es.length = pm.length := by rw [← d1, List.length_map, lp]
  -- the first parameter is the instance
  have hw0 : ws[0]? = some (.ref x) := by
    obtain ⟨l, gp⟩ := pmL_get e4
    cases hw : ws[0]? with
    | none =>
      have := List.getElem?_eq_none_iff.mp hw
      have := (List.getElem?_eq_some_iff.mp h0).1
      omega
    | some w =>
      obtain ⟨p, z1, z2⟩ := gp 0 w hw
      rw [h0] at z1; cases z1
      exact z2.symm
  have hn0 : ns[0]? = some none := by
    obtain ⟨l, gp⟩ := pmL_get e3
    cases hw : ns[0]? with
    | none =>
      have := List.getElem?_eq_none_iff.mp hw
      have := (List.getElem?_eq_some_iff.mp h0).1
      omega
    | some w =>
      obtain ⟨p, z1, z2⟩ := gp 0 w hw
      rw [h0] at z1; cases z1
      exact congrArg some (Option.some.inj z2).symm
  obtain ⟨e0, he0, hs0⟩ : ∃ e0 : En, pe[0]? = some e0 ∧ e0.s = none := by
    rw [← d3, List.getElem?_map] at hn0
    cases q : pe[0]? with
    | none => rw [q] at hn0; cases hn0
    | some e => rw [q] at hn0; exact ⟨e, rfl, Option.some.inj hn0⟩
  refine ⟨lw, es, G, bOf pe, cm, ?_⟩
  unfold newC at q
  cases er : f es with
  | bad => rw [er] at q; exact q
  | exc c d rs =>
    rw [er] at q
    intro v H' G' B' dd m' r st2 xx
    rw [ls] at q
    have lr : (retG pm.length rf rs).length = pe.length := by rw [retG_len, lp]
    rw [← eV] at m'
    obtain ⟨b1, b2, b3⟩ := back_mt (H0 := H0) m st ok ap inj lr m' st2
    rw [d3] at b1
    exact q v H' G' (backS pe S B') dd b1 r b2 xx
  | ok d rs =>
    rw [er] at q
    cases d with
    | non =>
      dsimp only at q
      rw [ls] at q
      intro v H' G' B' T ⟨m', ow, at_⟩ st2
      have hv : v = .non := Seen.non (K := K) (M := M) (G := G') (H := H') ⟨T, ow⟩
      refine ⟨hv, ?_⟩
      have lr : (retG pm.length rf rs).length = pe.length := by rw [retG_len, lp]
      cases e5 : (retG pm.length rf rs)[0]? with
      | none => rw [e5] at q; exact (show False from q).elim
      | some o =>
        cases o with
        | none => rw [e5] at q; exact (show False from q).elim
        | some d' =>
          rw [e5] at q
          obtain ⟨v', ev, ow'⟩ := m'.own 0 d' e5
          rw [List.getElem?_map, hw0] at ev
          cases ev
          rw [← eV] at m'
          obtain ⟨b1, b2, b3⟩ := back_mt (H0 := H0) m st ok ap inj lr m' st2
          rw [d3] at b1
          exact (show EndE K M W σ H0 G0 S0 (.ok d' _) Q from q) (.ref x) H' G' (backS pe S B') (B' 0) ⟨b1, ow', fun a ha => ⟨back_apart m ok m' st2 he0 hs0 ha, by rw [own_ref ow' ha]; exact hx0⟩⟩ b2
    | _ => exact (show False from q).elim
end
/-! ### C(e, .., k = v, ..) -/
def NewR (K : Frag) (M : Memo) (W : WX) (c : Str) (ff : List D → Cr) (rf : List Nat) (as : List Ar) (pm : Pm) (σ : L2.St) (H : Hp) (vs : List V) (Q : VK) : Prop :=
  ∃ g G S xs U H0 G0 S0 ds es ns, Mt K M g σ H G S ∧ Stp M H0 G0 S0 H G S ∧ ArRs K M H0 g σ H G S as xs vs U ∧ rdA g as xs = some ds ∧ pmL (.obj true c [] [] :: ds) id pm = some es ∧ pmL (none :: as.map nmA) (fun _ => none) pm = some ns ∧ EndE K M W σ H0 G0 S0 (newC ff ns es rf g) Q
section
variable {K : Frag} {M : Memo} {W : WX} {X : Cx} {k : Nat} {f : Addr} {fd : FuncData} {ps : List Str} {ff : List D → Cr} {rf : List Nat} {pm : Pm} {n : Nat} {ks : List Str} {σ : L2.St} {H : Hp} {s : Shared} {Q : VK} {pins : List (Addr × Obj)} {x c : Str} {p pos : Pos} {es : List Expr} {kws : List Keyword} {as bs : List Ar}
theorem newR_of {as : List Ar} (q : tP K M W (pNew c ff rf as pm) σ H Q) : tA K M W as σ H fun vs H1 => NewR K M W c ff rf as pm σ H1 vs Q := by
  obtain ⟨g, G, S, mt, q⟩ := q
  refine ⟨g, G, S, mt, ?_⟩
  unfold pNew at q
  cases er : evA as g with
  | bad => rw [er] at q; exact q
  | exc c d g' => rw [er] at q; exact q
  | ok xs g1 =>
    rw [er, Rs.bind_ok] at q
    intro vs H1 G1 S1 U m1 r1 st
    cases e1 : rdA g1 as xs with
    | none => rw [e1] at q; exact q.elim
    | some ds =>
      rw [e1] at q
      dsimp only at q
      cases e2 : pmL (D.obj true c [] [] :: ds) id pm with
      | none => rw [e2] at q; exact q.elim
      | some es =>
        cases e3 : pmL (none :: as.map nmA) (fun _ => (none : Option Nat)) pm with
        | none => rw [e2, e3] at q; exact q.elim
        | some ns =>
          rw [e2, e3] at q
          exact ⟨g1, G1, S1, xs, U, H, G, S, ds, es, ns, m1, st, r1, e1, e2, e3, q⟩
theorem newR_run {as : List Ar} {us ws : List Value} {vs zs : List V} (C : Mk X.K (He.ga X.K c) f) (F : FnG X.prog X.w X.K X.mg X.base k f fd ps (spF X.K M ff rf ps.length)) (hr : Room (k + 1) X.A) (gu : X.A.guards = some []) (tk : Takes X W) (hb : BindP X.K fd ps (n + 1) ks pm) (h0 : pm[0]? = some (.inl 0))
    (pl : ∀ dx fs, M.plain (.ins (He.ga X.K c) dx fs)) (dn : distinct (as.map nmA) = true) (dp : distinct (pm.map inlOf) = true) (I : Inv X pins σ H s) (r : Vals vs us) (rz : Vals zs ws) (l1 : us.length = n) (l2 : ws.length = ks.length) (q : NewR X.K M W c ff rf as pm σ H (vs ++ zs) Q) :
    wpAny (model X.prog X.w) X.A (call (.ref (He.ga X.K c)) us (ks.zip ws)) (EP X pins σ Q) X.xe s := by
  obtain ⟨g, G, S, xs, U, H0, G0, S0, ds, es, nn, m, st0, h, e1, e2, e3, q⟩ := q
  obtain ⟨lp, kv, kk, hk, hb⟩ := hb
  have I2 := Inv.made (C := He.ga X.K c) I
  obtain ⟨ys, b1, b2⟩ := hb _ (.ref (s.heap.objs.size + 1) :: us) ws I2.kIn (congrArg Nat.succ l1) l2
  have r1 : Vals (V.ref (s.heap.objs.size + 1) :: (vs ++ zs)) (Value.ref (s.heap.objs.size + 1) :: us ++ ws) := .cons rfl (r.append rz)
  obtain ⟨vv, c1, c2⟩ := vals_pm r1 (fun d hd => (hk d hd).2) b1
  have sp := new_fin m st0 h pl (I.hok.fresh (Nat.le_succ _)) (I.hok.fresh (Nat.le_refl _)) (Nat.ne_of_lt (Nat.lt_succ_self _)) e1 e2 e3 dn dp (fun d hd => (hk d hd).1) h0 c1 q
  rw [lp] at sp
  have gu2 : (X.A.under (.builtin "type.__call__" ⟨.ref (He.ga X.K c) :: us, ks.zip ws⟩)).guards = some [] := gu
  refine wpAny_call (make_map (f := f) I.kIn C.makes C.init (beq_iff_eq.mp C.fn) (codeAny_mono (F.run _ X.stack _ _ _ _ _ _ (WE W σ) (hr.make _ us (ks.zip ws)) gu2 (I2.env0.make _ us (ks.zip ws)) b2 c2 sp) fun r s' z => ?_))
  cases r with
  | error e => exact passAt tk σ pins _ _ e s' I2 z
  | ok fl =>
    cases fl with
    | ret u =>
      obtain ⟨v, H', I3, rv, ev, q3⟩ := I2.after z
      subst ev
      exact ⟨rv, ⟨V.ref (s.heap.objs.size + 1), H', I3, rfl, q3⟩⟩
    | next => exact False.elim z
    | brk => exact False.elim z
    | cont => exact False.elim z
end
end PI

set_option Elab.async false
set_option linter.all false
set_option maxRecDepth 100000
set_option maxHeartbeats 1000000
namespace PI
open PySem PySem.Spec PyProof.Rows L2
open PySem.W (Frag)
section
variable {K : Frag} {M : Memo} {W : WX} {X : Cx} {k : Nat} {f : Addr} {fd : FuncData} {ps : List Str} {ff : List D → Cr} {rf : List Nat} {pm : Pm} {n : Nat} {ks : List Str} {σ : L2.St} {H : Hp} {s : Shared} {Q : VK} {pins : List (Addr × Obj)} {x c : Str} {p pos : Pos} {es : List Expr} {kws : List Keyword} {as bs : List Ar}
/-- arguments: positional, by name -/
theorem args_run {f : Value} {first : List Value} {e0 : Expr} {Qv : Value → Shared → Prop} {R : List V → Hp → Prop} (hkp : PySem.W.keepIn X.K f = true) (ha : PA X es (tA X.K M W as)) (hkw : PK X kws (tA X.K M W bs)) (hla : as.length = es.length) (hl : bs.length = (kwNames kws).length)
    (hes : es.all noStar = true) (hks : kws.all (·.arg.isSome) = true) (I : Inv X pins σ H s) (q : tA X.K M W (as ++ bs) σ H R)
    (fin : ∀ (us ws : List Value) (vs zs : List V) (s2 : Shared) (H2 : Hp), Inv X pins σ H2 s2 → Vals vs us → Vals zs ws → us.length = as.length → ws.length = (kwNames kws).length → R (vs ++ zs) H2 → wpAny (model X.prog X.w) X.A (call f (first ++ us) ((kwNames kws).zip ws)) Qv X.xe s2) :
    wpAny (model X.prog X.w) X.A (callWith pos f first (backTo pos (starEach es X.env)) (backToKw pos (keywordEach kws X.env))) Qv X.xe s := by
  have q := tA_app q
  have hall := kws_all (pos := pos) (env := X.env) hks
  have hnm := kws_names (pos := pos) (env := X.env) (ks := kws)
  have hpl : ((backTo pos (starEach es X.env)).any (·.1) || (backToKw pos (keywordEach kws X.env)).any (·.1.isNone)) = false := by rw [stars_of hes, kws_none hks] <;> rfl
  cases es with
  | nil =>
    refine PySem.W.callWith_KW0 (h₀ := X.base) I.ok.mod.kin hkp hall ?_ hpl
    cases as with
    | cons a as => simp at hla
    | nil =>
      obtain ⟨g, G, S, m, q⟩ := q
      have q := (show EndA X.K M W σ H G S [] (.ok [] g) _ from q) [] H G S none_ m ⟨rfl, rfl, fun b z => z⟩ Stp.refl
      refine thn (hkw.run pos pins s σ H _ I q) fun ws s2 ⟨zs, H2, I2, rz, l1, l2, q2⟩ => ⟨I2.kIn, ?_⟩
      rw [hnm]
      exact fin [] ws [] zs s2 H2 I2 .nil rz rfl (rz.length.symm.trans (l2.trans hl)) q2
  | cons e es =>
    rw [List.all_cons, Bool.and_eq_true] at hes
    refine PySem.W.callWith_KW (h₀ := X.base) I.ok.mod.kin hkp hall (thn (ha.run pos pins s σ H _ I q) fun us s1 ⟨vs, H1, I1, r, q⟩ => ?_) hpl (star_of hes.1)
    refine thn (hkw.run pos pins s1 σ H1 _ I1 q) fun ws s2 ⟨zs, H2, I2, rz, l1, l2, q2⟩ => ⟨I2.kIn, ?_⟩
    rw [hnm]
    exact fin us ws vs zs s2 H2 I2 r rz (r.length.symm.trans l1) (rz.length.symm.trans (l2.trans hl)) q2
/-- C(..) by the class's name -/
theorem pe_New (C : Mk X.K (He.ga X.K c) f) (F : FnG X.prog X.w X.K X.mg X.base k f fd ps (spF X.K M ff rf ps.length)) (hr : Room (k + 1) X.A) (gu : X.A.guards = some []) (tk : Takes X W) (hg : Gl X x) (hm : X.mg x = some (.ref (He.ga X.K c))) (hb : BindP X.K fd ps (as.length + 1) (kwNames kws) pm) (h0 : pm[0]? = some (.inl 0))
    (pl : ∀ dx fs, M.plain (.ins (He.ga X.K c) dx fs)) (ha : PA X es (tA X.K M W as)) (hkw : PK X kws (tA X.K M W bs)) (hla : as.length = es.length) (hl : bs.length = (kwNames kws).length) (dn : distinct ((as ++ bs).map nmA) = true) (dp : distinct (pm.map inlOf) = true)
    (hes : es.all noStar = true) (hks : kws.all (·.arg.isSome) = true) (hdb : (x == ("__debug__" : Str)) = false) : PE X (.Call (.Name x p) es kws pos) (tP X.K M W (pNew c ff rf (as ++ bs) pm)) := by
  refine ⟨fun pins s σ H Q I h => ?_⟩
  refine wpAny_Call_Name_kw (ld_glob I hg hm ?_ hdb)
  refine args_run (first := []) (e0 := .Name x p) C.kp ha hkw hla hl hes hks I (newR_of h) fun us ws vs zs s2 H2 I2 r rz l1 l2 q => ?_
  exact newR_run C F hr gu tk hb h0 pl dn dp I2 r rz l1 l2 q
/-! ### methods -/
structure Cd where
  c : Str
  ff : List D → Cr
  rf : List Nat
  pm : Pm
def pickC (m : Str) (cs : List Cd) : D → Option Cd
  | .obj _ c ns _ => if ns.contains m = true then none else cs.find? fun cd => decide (cd.c = c)
  | _ => none
def callA (cd : Cd) (as : List Ar) (xs : List (Option D)) (g : Sg) : Rs D := match rdA g as xs with
  | none => .bad
  | some ds => match pmL ds id cd.pm, pmL (as.map nmA) (fun _ => none) cd.pm with
    | some es, some ns => callC cd.ff ns es cd.rf g
    | _, _ => .bad
def pMeth (m : Str) (cs : List Cd) (a0 : Ar) (as : List Ar) : PX := fun g => (evA [a0] g).bind fun xs g1 => match rdA g1 [a0] xs with
  | some [d] => (match pickC m cs d with
    | some cd => (evA as g1).bind fun ys g2 => callA cd (a0 :: as) (xs ++ ys) g2
    | none => .bad)
  | _ => .bad
theorem a1_t {H G : Hp} {S : Nat → Addr → Prop} {g : Sg} {a0 : Ar} {kk : List (Option D) → Sg → Rs D} (mt : Mt K M g σ H G S) (q : EndE K M W σ H G S ((evA [a0] g).bind kk) Q) : tAr K M W a0 σ H fun v H1 => ∃ x g1 G1 S1 U, Mt K M g1 σ H1 G1 S1 ∧ ArRs K M H g1 σ H1 G1 S1 [a0] [x] [v] U ∧ Stp M H G S H1 G1 S1 ∧ EndE K M W σ H G S (kk [x] g1) Q := by
  cases a0 with
  | v mm =>
    refine ⟨g, G, S, mt, ?_⟩
    have q : EndE K M W σ H G S (((mm g).bind fun d g1 => (Rs.ok [] g1).bind fun xs g2 => .ok (some (sealD d) :: xs) g2).bind kk) Q := q
    cases er : mm g with
    | bad => rw [er] at q; exact q
    | exc c d g' => rw [er] at q; exact q
    | ok d g1 =>
      rw [er] at q
      intro v H1 G1 S1 T got st
      obtain ⟨G1', m1, r1, sb, hg, hv⟩ := got.seal
      exact ⟨_, g1, G1', S1, none_, m1, ⟨_, [], v, [], none_, none_, rfl, rfl, ⟨⟨_, rfl, r1⟩, fun b z => z⟩, ⟨rfl, rfl, fun b z => z⟩, fun b => ⟨.inl, fun z => z.elim id id⟩, fun b z => z.elim⟩, st.sealed sb hg hv, q⟩
  | r o =>
    refine ⟨g, G, S, mt, ?_⟩
    have q : EndE K M W σ H G S (((evO o g).bind fun x g1 => (Rs.ok [] g1).bind fun xs g2 => .ok (x :: xs) g2).bind kk) Q := q
    cases er : evO o g with
    | bad => rw [er] at q; exact q
    | exc c d g' => rw [er] at q; exact q
    | ok x g1 =>
      have q2 : EndE K M W σ H G S (kk [x] g1) Q := by rw [er] at q; exact q
      intro v H1 G1 S1 m1 r1 st
      clear q
      cases o with
      | nm i => exact ⟨x, g1, G1, S1, none_, m1, ⟨_, [], v, [], none_, none_, rfl, rfl, ⟨r1, fun b z => z⟩, ⟨rfl, rfl, fun b z => z⟩, fun b => ⟨.inl, fun z => z.elim id id⟩, fun b z => z.elim⟩, st, q2⟩
      | ex mm =>
        obtain ⟨d, T, e, ow, ap⟩ := r1
        exact ⟨x, g1, G1, S1, T, m1, ⟨_, [], v, [], T, none_, rfl, rfl, ⟨d, e, ow, ap⟩, ⟨rfl, rfl, fun b z => z⟩, fun b => ⟨.inl, fun z => z.elim id fun y => y.elim⟩, fun b z y => y.elim⟩, st, q2⟩
/-- the one value of a row of one -/
theorem one_seen {H0 H G : Hp} {S : Nat → Addr → Prop} {g : Sg} {U : Addr → Prop} {a0 : Ar} {o : Option D} {v : V} {d : D} (m : Mt K M g σ H G S) (h : ArRs K M H0 g σ H G S [a0] [o] [v] U) (e : rdA g [a0] [o] = some [d]) : Seen K M G H d v := by
  obtain ⟨x, xr, v', vr, T, U', e1, e2, h1, _, _⟩ := h
  cases e1
  cases e2
  cases a0 with
  | v mm =>
    obtain ⟨⟨d', rfl, r⟩, _⟩ := h1
    cases e
    exact Seen.of r
  | r oo =>
    have e' : (match rdO g oo o, rdA g [] [] with
      | some d, some ds => some (d :: ds)
      | _, _ => none) = some [d] := e
    cases e0 : rdO g oo o with
    | none => rw [e0] at e'; cases e'
    | some d' =>
      rw [e0] at e'
      cases e'
      cases oo with
      | nm i =>
        have e2 : g[i]? = some (some d) := by
          unfold rdO at e0
          dsimp only at e0
          cases q : g[i]? with
          | none => rw [q] at e0; cases e0
          | some z => rw [q] at e0; exact congrArg some e0
        obtain ⟨v', ev, ow⟩ := m.own i d e2
        have : σ[i]? = some (some v) := h1.1
        rw [this] at ev; cases ev
        exact ⟨_, ow⟩
      | ex mm =>
        obtain ⟨d', e3, ow, ap⟩ := h1
        unfold rdO at e0
        dsimp only at e0
        rw [e3] at e0; cases e0
        exact ⟨T, ow⟩
theorem lk_none {m : Str} : ∀ {ns : List Str} {vs : List V}, ¬ ns.contains m = true → (ns.zip vs).lookup m = none
  | [], _, _ => rfl
  | _ :: _, [], _ => rfl
  | j :: ns, w :: vs, hn => by
    rw [List.contains_cons, Bool.or_eq_true, not_or] at hn
    have hj : (m == j) = false := by
      cases q : (m == j) with
      | false => rfl
      | true => exact (hn.1 q).elim
    rw [List.zip_cons_cons, List.lookup_cons, hj]
    exact lk_none hn.2
theorem pick_seen {H G : Hp} {m : Str} {cs : List Cd} {d : D} {v : V} {cd : Cd} (h : Seen K M G H d v) (sb : Sub G H) (e : pickC m cs d = some cd) : ∃ a dx fs, v = .ref a ∧ H a = some (.ins (He.ga K cd.c) dx fs) ∧ fs.lookup m = none ∧ cd ∈ cs := by
  cases d with
  | obj b c ns ds =>
    have e : (if ns.contains m = true then none else cs.find? fun cd => decide (cd.c = c)) = some cd := e
    split at e
    · cases e
    · rename_i hn
      obtain ⟨a, dx, vs, rfl, h1, hl, r1⟩ := h.obj sb
      have hc := List.find?_some e
      have hc : cd.c = c := of_decide_eq_true hc
      subst hc
      exact ⟨a, dx, ns.zip vs, rfl, h1, lk_none hn, List.mem_of_find?_eq_some e⟩
  | _ => cases e
theorem meth_t {m : Str} {cs : List Cd} {a0 : Ar} {as : List Ar} (q : tP K M W (pMeth m cs a0 as) σ H Q) :
    tAr K M W a0 σ H fun x H1 => ∃ a dx fs cd, x = .ref a ∧ H1 a = some (.ins (He.ga K cd.c) dx fs) ∧ fs.lookup m = none ∧ cd ∈ cs ∧ tA K M W as σ H1 fun vs H2 => CallR K M W cd.ff cd.rf (a0 :: as) cd.pm σ H2 (.ref a :: vs) Q := by
  obtain ⟨g, G, S, mt, q⟩ := q
  have fin : ∀ (v : V) (H1 : Hp), (∃ x g1 G1 S1 U, Mt K M g1 σ H1 G1 S1 ∧ ArRs K M H g1 σ H1 G1 S1 [a0] [x] [v] U ∧ Stp M H G S H1 G1 S1 ∧ EndE K M W σ H G S (match rdA g1 [a0] [x] with
    | some [d] => (match pickC m cs d with
      | some cd => (evA as g1).bind fun ys g2 => callA cd (a0 :: as) ([x] ++ ys) g2
      | none => .bad)
    | _ => .bad) Q) → ∃ a dx fs cd, v = .ref a ∧ H1 a = some (.ins (He.ga K cd.c) dx fs) ∧ fs.lookup m = none ∧ cd ∈ cs ∧ tA K M W as σ H1 fun vs H2 => CallR K M W cd.ff cd.rf (a0 :: as) cd.pm σ H2 (.ref a :: vs) Q := by
    rintro v H1 ⟨x, g1, G1, S1, U, m1, ar, st, q⟩
    split at q
    · rename_i d ed
      split at q
      · rename_i cd ep
        obtain ⟨a, dx, fs, rfl, h1, h2, h3⟩ := pick_seen (one_seen m1 ar ed) m1.sub ep
        refine ⟨a, dx, fs, cd, rfl, h1, h2, h3, g1, G1, S1, m1, ?_⟩
        cases er : evA as g1 with
        | bad => rw [er] at q; exact q
        | exc c d g' => rw [er] at q; exact EndX.of q st
        | ok ys g2 =>
          rw [er, Rs.bind_ok] at q
          intro vs H2 G2 S2 U2 m2 r2 st2
          have ar2 : ArRs K M H g2 σ H2 G2 S2 ([a0] ++ as) ([x] ++ ys) ([.ref a] ++ vs) fun b => U b ∨ U2 b := (ar.stp st2).app (r2.base fun a => st.back) fun b hb z => by
            have h1 := (r2.there z).2.2
            obtain ⟨o, h2⟩ := (ar.there hb).1
            rw [h1] at h2; cases h2
          unfold callA at q
          cases e1 : rdA g2 (a0 :: as) ([x] ++ ys) with
          | none => rw [e1] at q; exact (show False from q).elim
          | some ds =>
            rw [e1] at q
            dsimp only at q
            cases e2 : pmL ds id cd.pm with
            | none => rw [e2] at q; exact (show False from q).elim
            | some es =>
              cases e3 : pmL ((a0 :: as).map nmA) (fun _ => (none : Option Nat)) cd.pm with
              | none => rw [e2, e3] at q; exact (show False from q).elim
              | some ns =>
                rw [e2, e3] at q
                exact ⟨g2, G2, S2, _, _, H, G, S, ds, es, ns, m2, st.trans st2, ar2, e1, e2, e3, q⟩
      · exact (show False from q).elim
    · exact (show False from q).elim
  have q2 := a1_t mt q
  cases a0 with
  | v mm => obtain ⟨g', G', S', m', q2⟩ := q2; exact ⟨g', G', S', m', EndE.imp q2 fin⟩
  | r o => obtain ⟨g', G', S', m', q2⟩ := q2; exact ⟨g', G', S', m', EndO.imp q2 fin⟩
/-- what each class's method must be -/
def CdOk (X : Cx) (M : Memo) (m : Str) (n : Nat) (ks : List Str) (cs : List Cd) : Prop := ∀ cd ∈ cs, ∃ k f fd ps, FnG X.prog X.w X.K X.mg X.base k f fd ps (spF X.K M cd.ff cd.rf ps.length) ∧ Room k X.A ∧ Cls X.K (He.ga X.K cd.c) ∧ Meth X.K (He.ga X.K cd.c) m f ∧ BindP X.K fd ps n ks cd.pm ∧ distinct (cd.pm.map inlOf) = true
theorem pe_Meth {o : Expr} {m : Str} {cs : List Cd} {a0 : Ar} {apos : Pos} {pl : Sem Bool} (C : CdOk X M m (as.length + 1) (kwNames kws) cs) (gu : X.A.guards = some []) (tk : Takes X W) (ho : PAr X.K M W X o a0)
    (ha : PA X es (tA X.K M W as)) (hkw : PK X kws (tA X.K M W bs)) (hla : as.length = es.length) (hl : bs.length = (kwNames kws).length) (dn : distinct ((a0 :: (as ++ bs)).map nmA) = true) (hes : es.all noStar = true) (hks : kws.all (·.arg.isSome) = true)
    (ht : eval (.Call (.Attribute o m apos) es kws pos) X.env = (do
      let ov ← eval o X.env
      standAt apos.atName
      let (f, first) ← holding [ov] (getMethod ov m pl)
      callWith pos f first (backTo pos (starEach es X.env)) (backToKw pos (keywordEach kws X.env)))) : PE X (.Call (.Attribute o m apos) es kws pos) (tP X.K M W (pMeth m cs a0 (as ++ bs))) := by
  refine ⟨fun pins s σ H Q I h => ?_⟩
  refine PySem.W.methodCall_KW (pl := pl) (thn (ho.pe.run pins s σ H _ I (meth_t h)) fun u s1 ⟨x, H1, I1, rx, a, dx, fs, cd, ex, ea, l, hc, q⟩ => ?_) ht
  subst ex
  obtain rfl : u = Value.ref a := rx
  obtain ⟨k, f, fd, ps, F, hr, cl, mt, hb, dp⟩ := C cd hc
  refine getmeth_ok I1 ea cl mt l ?_
  refine args_run (first := [.ref a]) (e0 := o) mt.kp ha hkw hla hl hes hks I1 q fun us ws vs zs s2 H2 I2 r rz l1 l2 q => ?_
  exact callR_run (as := a0 :: (as ++ bs)) (us := .ref a :: us) (vs := .ref a :: vs) F hr gu tk hb dn dp I2 (.cons rfl r) rz (congrArg Nat.succ l1) l2 q
end
end PI

set_option Elab.async false
set_option linter.all false
set_option maxRecDepth 100000
set_option maxHeartbeats 1000000
namespace PI
open PySem PySem.Spec PyProof.Rows L2
open PySem.W (Frag InstAt findIn isFn selfFirst subIn Looks)
/-! ### an own operator behind an int: int's own method lets it pass -/
section
variable {prog : Program} {w : World} {A : Around} {E : Value → Shared → Prop} {s : Shared}
theorem dec_bin {name : String} {f : Int → Int → Sem Fin} {id : String} {mt : Str} {i : Int} {t : Tok} {x : Addr} {o : Obj} {Q : Value → Shared → Prop} (slot : Slot "int" mt id) (entry : entryFor table id = some (Builtin.Int.intBinary name f)) (args : argsOk id ⟨[.int i t, .ref x], []⟩)
    (ho : s.heap.get? x = some o) (hd : ∀ v, o.data ≠ .prim v) (h : Q .notImplemented s) : wpAny (model prog w) A (call (.builtin id) [.int i t, .ref x]) Q E s := by
  refine wpAny_call_entry slot (typeIs_int s i t) entry ?_ args
  unfold Builtin.Int.intBinary
  refine wpAny_bind (wpAny_pure (a := (Value.int i t, [Value.ref x])) ?_)
  refine wpAny_bind (wpAny_bind (wpAny_pure (a := some i) ?_))
  refine wpAny_pure ?_
  show wpAny _ _ (asInt? (.ref x) >>= _) _ _ _
  unfold asInt?
  refine wpAny_bind (wpAny_bind (wpAny_load ho ?_))
  cases q : o.data <;> first | exact (hd _ q).elim | exact wpAny_pure (wpAny_bind (wpAny_rule (wpAny_pure ⟨_, rfl, h⟩)))
theorem ref_bin {K : Frag} {op : Operator} {i : Int} {t : Tok} {x C fl f : Addr} {ox : Obj} {od : Option Obj} {id : String} {Q : Value → Shared → Prop} (X : K.In s.heap) (I : InstAt s.heap x ox C od) (hc : selfFirst K C = true)
    (hs : findIn K (.ref C) (dunder op.info.2) = some (some (.ref fl))) (hr : findIn K (.ref C) (dunderR op.info.2) = some (some (.ref f))) (hf : isFn K (.ref f) = true) (fills : fillsNumberSlot (.type "int") op.info.2 = pure true)
    (slot : Slot "int" (dunder op.info.2) id) (hsub : subIn K (.ref C) (.type "int") = some false) (dec : ∀ Q : Value → Shared → Prop, Q .notImplemented s → wpAny (model prog w) A (call (.builtin id) [.int i t, .ref x]) Q E s)
    (h : wpAny (model prog w) A (call (.ref f) [.ref x, .int i t]) (PySem.W.CmpBack Q) E s) : wpAny (model prog w) A (binaryOp op (.int i t) (.ref x)) Q E s := by
  obtain ⟨cd, rest, hcd, hm⟩ := PySem.W.ksp_first hc
  rcases hi : op.info with ⟨sym, nm'⟩
  rw [hi] at hs hr fills slot
  dsimp only at hs hr fills slot
  have hne : (Value.type "int" == Value.ref C) = false := Bool.eq_false_iff.mpr fun q => by cases beq_iff_eq.mp q
  simp only [binaryOp, hi]
  refine wpAny_holding (wpAny_bind ?_)
  unfold binaryOp1
  refine wpAny_bind (wpAny_typeOf (typeIs_int s i t) (wpAny_bind (I.type.here (wpAny_bind (wpAny_of_eq fills ?_)))))
  simp only [hne, Bool.false_eq_true, if_false]
  refine wpAny_bind ((PySem.W.fills_K X hcd hm hs).here ?_)
  simp only [Bool.and_self, if_true]
  refine wpAny_bind ((PySem.W.looks_subIn X hsub).here ?_)
  have hpy : numberSlotInPython (.type "int") nm' = pure false := rfl
  simp only [Bool.false_eq_true, if_false, pure_bind, Bool.not_false, Bool.and_self, if_true, hpy]
  refine wpAny_bind (wpAny_tryMethod_declines (typeIs_int s i t) slot (dec _ ⟨rfl, ?_⟩))
  refine wpAny_bind (wpAny_mono (PySem.W.ksp_try X I hr hf h) (fun r s' hr' => ?_) fun _ _ e => e)
  obtain ⟨v, rfl, hq⟩ := hr'
  exact wpAny_bind (wpAny_rule (wpAny_pure (wpAny_pure hq)))
end
end PI

set_option Elab.async false
set_option linter.all false
set_option maxRecDepth 100000
set_option maxHeartbeats 1000000
namespace PI
open PySem PySem.Spec PyProof.Rows L2
open PySem.W (Frag InstAt findIn isFn selfFirst subIn Looks)
/-! ### own operators -/
def own2 (cd : Cd) (d e : D) (g : Sg) : Rs D := callA cd [.v pBad, .v pBad] [some d, some e] g
def own1 (cd : Cd) (d : D) (g : Sg) : Rs D := callA cd [.v pBad] [some d] g
def findC (cs : List Cd) (c : Str) : Option Cd := cs.find? fun cd => decide (cd.c = c)
def binS (op : Operator) (ls rs : List Cd) (d e : D) (g : Sg) : Rs D := match d, e with
  | .obj b c ns ds, .int i => (match findC ls c with
    | some cd => own2 cd (.obj b c ns ds) (.int i) g
    | none => .bad)
  | .obj b c ns ds, .obj b' c' ns' ds' => if c = c' then (match findC ls c with
    | some cd => own2 cd (.obj b c ns ds) (.obj b' c' ns' ds') g
    | none => .bad) else .bad
  | .int i, .obj b c ns ds => (match findC rs c with
    | some cd => own2 cd (.obj b c ns ds) (.int i) g
    | none => .bad)
  | d, e => ro (binD op d e) g
def pSl2 (f : D → D → Sg → Rs D) (ma mb : PX) : PX := fun g => (ma g).bind fun d g1 => (mb g1).bind fun e g2 => f (sealD d) (sealD e) g2
def pSl1 (f : D → Sg → Rs D) (ma : PX) : PX := fun g => (ma g).bind fun d g1 => f (sealD d) g1
def rS2 (K : Frag) (M : Memo) (W : WX) (f : D → D → Sg → Rs D) : RS := fun σ x y H Q => ∃ g G S d e, Mt K M g σ H G S ∧ Rep K G d x ∧ Rep K G e y ∧ EndE K M W σ H G S (f d e g) Q
def rS1 (K : Frag) (M : Memo) (W : WX) (f : D → Sg → Rs D) : L2.St → V → Hp → VK → Prop := fun σ x H Q => ∃ g G S d, Mt K M g σ H G S ∧ Rep K G d x ∧ EndE K M W σ H G S (f d g) Q
structure OpL (K : Frag) (op : Operator) (C f : Addr) : Prop where
  first : selfFirst K C = true
  at_ : findIn K (.ref C) (dunder op.info.2) = some (some (.ref f))
  fn : isFn K (.ref f) = true
  rc : ∃ rc, findIn K (.ref C) (dunderR op.info.2) = some rc ∧ (rc = none ∨ ∃ g : Addr, rc = some (.ref g))
  i1 : ∃ fo, findIn K (.type "int") (dunder op.info.2) = some fo
  i2 : ∃ ro, findIn K (.type "int") (dunderR op.info.2) = some ro
  sub : subIn K (.type "int") (.ref C) = some false
structure OpI (op : Operator) : Prop where
  ex : ∃ (id name : String) (f : Int → Int → Sem Fin), Slot "int" (dunder op.info.2) id ∧ entryFor table id = some (Builtin.Int.intBinary name f) ∧ (∀ i t x, argsOk id ⟨[.int i t, .ref x], []⟩) ∧ fillsNumberSlot (.type "int") op.info.2 = pure true
structure OpRv (K : Frag) (op : Operator) (C f : Addr) : Prop where
  first : selfFirst K C = true
  at_ : ∃ fl : Addr, findIn K (.ref C) (dunder op.info.2) = some (some (.ref fl))
  r : findIn K (.ref C) (dunderR op.info.2) = some (some (.ref f))
  fn : isFn K (.ref f) = true
  sub : subIn K (.ref C) (.type "int") = some false
section
variable {K : Frag} {M : Memo} {W : WX} {X : Cx} {σ : L2.St} {H H0 G G0 H1 G1 : Hp} {S S0 S1 : Nat → Addr → Prop} {g g1 : Sg} {Q : VK} {pos p2 : Pos} {k : Nat} {f : Addr} {fd : FuncData} {ps : List Str} {pins : List (Addr × Obj)} {s : Shared} {cd : Cd}
/-- a def's facts for calls by values -/
def CaOk (X : Cx) (M : Memo) (n : Nat) (cd : Cd) (f : Addr) : Prop := ∃ k fd ps, FnG X.prog X.w X.K X.mg X.base k f fd ps (spF X.K M cd.ff cd.rf ps.length) ∧ Room k X.A ∧ BindP X.K fd ps n [] cd.pm ∧ distinct (cd.pm.map inlOf) = true
theorem own2_run {d e : D} {x y : V} {v u : Value} (C : CaOk X M 2 cd f) (gu : X.A.guards = some []) (tk : Takes X W) (I : Inv X pins σ H s) (rx : RelV x v) (ry : RelV y u) (m : Mt X.K M g σ H G S) (r1 : Rep X.K G d x) (r2 : Rep X.K G e y)
    (q : EndE X.K M W σ H G S (own2 cd d e g) Q) : wpAny (model X.prog X.w) X.A (call (.ref f) [v, u]) (EP X pins σ Q) X.xe s := by
  obtain ⟨k, fd, ps, F, hr, hb, dp⟩ := C
  unfold own2 callA at q
  have e1 : rdA g [.v pBad, .v pBad] [some d, some e] = some [d, e] := rfl
  rw [e1] at q
  dsimp only at q
  cases e2 : pmL [d, e] id cd.pm with
  | none => rw [e2] at q; exact (show False from q).elim
  | some es =>
    cases e3 : pmL (([.v pBad, .v pBad] : List Ar).map nmA) (fun _ => (none : Option Nat)) cd.pm with
    | none => rw [e2, e3] at q; exact (show False from q).elim
    | some ns =>
      rw [e2, e3] at q
      exact callR_run (as := [.v pBad, .v pBad]) (us := [v, u]) (ws := []) (vs := [x, y]) (zs := []) F hr gu tk hb rfl dp I (.cons rx (.cons ry .nil)) .nil rfl rfl
        ⟨g, G, S, [some d, some e], none_, H, G, S, [d, e], es, ns, m, Stp.refl, ⟨_, _, _, _, none_, none_, rfl, rfl, ⟨⟨d, rfl, r1⟩, fun b z => z⟩, ⟨_, _, _, _, none_, none_, rfl, rfl, ⟨⟨e, rfl, r2⟩, fun b z => z⟩, ⟨rfl, rfl, fun b z => z⟩, fun b => ⟨.inl, fun z => z.elim id id⟩, fun b z => z.elim⟩, fun b => ⟨.inl, fun z => z.elim id id⟩, fun b z => z.elim⟩, e1, e2, e3, q⟩
theorem own1_run {d : D} {x : V} {v : Value} (C : CaOk X M 1 cd f) (gu : X.A.guards = some []) (tk : Takes X W) (I : Inv X pins σ H s) (rx : RelV x v) (m : Mt X.K M g σ H G S) (r1 : Rep X.K G d x)
    (q : EndE X.K M W σ H G S (own1 cd d g) Q) : wpAny (model X.prog X.w) X.A (call (.ref f) [v]) (EP X pins σ Q) X.xe s := by
  obtain ⟨k, fd, ps, F, hr, hb, dp⟩ := C
  unfold own1 callA at q
  have e1 : rdA g [.v pBad] [some d] = some [d] := rfl
  rw [e1] at q
  dsimp only at q
  cases e2 : pmL [d] id cd.pm with
  | none => rw [e2] at q; exact (show False from q).elim
  | some es =>
    cases e3 : pmL (([.v pBad] : List Ar).map nmA) (fun _ => (none : Option Nat)) cd.pm with
    | none => rw [e2, e3] at q; exact (show False from q).elim
    | some ns =>
      rw [e2, e3] at q
      exact callR_run (as := [.v pBad]) (us := [v]) (ws := []) (vs := [x]) (zs := []) F hr gu tk hb rfl dp I (.cons rx .nil) .nil rfl rfl
        ⟨g, G, S, [some d], none_, H, G, S, [d], es, ns, m, Stp.refl, ⟨_, _, _, _, none_, none_, rfl, rfl, ⟨⟨d, rfl, r1⟩, fun b z => z⟩, ⟨rfl, rfl, fun b z => z⟩, fun b => ⟨.inl, fun z => z.elim id id⟩, fun b z => z.elim⟩, e1, e2, e3, q⟩
theorem cmpb {v : Value} {s' : Shared} (h : EP X pins σ Q v s') : PySem.W.CmpBack (EP X pins σ Q) v s' := by
  cases v with
  | notImplemented =>
    obtain ⟨x, H', I, r, q⟩ := h
    cases x <;> first | (cases r; done) | (obtain ⟨t, e⟩ := r; cases e)
  | _ => exact h
/-- the instance behind a value -/
theorem inst_rep {b : Bool} {c : Str} {ns : List Str} {ds : List D} {x : V} {v : Value} (I : Inv X pins σ H s) (sb : Sub G H) (r : Rep X.K G (.obj b c ns ds) x) (rx : RelV x v) :
    ∃ a ox od, x = .ref a ∧ v = .ref a ∧ InstAt s.heap a ox (He.ga X.K c) (some od) ∧ ox.data = .plain := by
  obtain ⟨_, a, dx, vs, rfl, h1, _, _⟩ := r
  obtain ⟨mA, O, _⟩ := ins_get I.hok (sb _ _ h1)
  obtain ⟨od, J, _⟩ := O.look
  exact ⟨a, _, od, rfl, rx, J, rfl⟩
def OpsOk (X : Cx) (M : Memo) (op : Operator) (ls rs : List Cd) : Prop := (∀ cd ∈ ls, ∃ f, CaOk X M 2 cd f ∧ OpL X.K op (He.ga X.K cd.c) f) ∧ (∀ cd ∈ rs, ∃ f, CaOk X M 2 cd f ∧ OpRv X.K op (He.ga X.K cd.c) f) ∧ (rs ≠ [] → OpI op)
theorem findC_c {cs : List Cd} {c : Str} {cd : Cd} (h : findC cs c = some cd) : cd.c = c ∧ cd ∈ cs := ⟨of_decide_eq_true (List.find?_some (p := fun cd : Cd => decide (cd.c = c)) h), List.mem_of_find?_eq_some h⟩
theorem binS_ok {op : Operator} {ls rs : List Cd} (C : OpsOk X M op ls rs) (gu : X.A.guards = some []) (tk : Takes X W) : OpS X (binaryOp op) (rS2 X.K M W (binS op ls rs)) := by
  rintro pins s σ H x y v u Q I rx ry ⟨g, G, S, d, e, m, r1, r2, q⟩
  unfold binS at q
  obtain ⟨m0, F⟩ := I.fr
  split at q
  · rename_i b c ns ds i
    obtain ⟨a, ox, od, rfl, rfl, J, hp⟩ := inst_rep I m.sub r1 rx
    split at q
    · rename_i cd hc
      obtain ⟨rfl, hin⟩ := findC_c hc
      obtain ⟨f, ca, L⟩ := C.1 cd hin
      obtain ⟨rc, l1, l2⟩ := L.rc
      obtain ⟨fo, l3⟩ := L.i1
      obtain ⟨ro, l4⟩ := L.i2
      cases (show y = .int i from r2)
      obtain ⟨t, rfl⟩ := id ry
      exact PySem.W.ksp_binT F I.ok.mod.kin J rfl L.first L.at_ L.fn l1 l2 l3 l4 L.sub (thn (own2_run ca gu tk I rx ry m r1 r2 q) fun v s' h => cmpb h)
    · exact (show False from q).elim
  · rename_i b c ns ds b' c' ns' ds'
    split at q
    · rename_i hcc
      subst hcc
      obtain ⟨a, ox, od, rfl, rfl, J, hp⟩ := inst_rep I m.sub r1 rx
      obtain ⟨a2, ox2, od2, rfl, rfl, J2, hp2⟩ := inst_rep I m.sub r2 ry
      split at q
      · rename_i cd hc
        obtain ⟨rfl, hin⟩ := findC_c hc
        obtain ⟨f, ca, L⟩ := C.1 cd hin
        exact PySem.W.binop_K F I.ok.mod.kin J J2.type L.first L.at_ L.fn (thn (own2_run ca gu tk I rx ry m r1 r2 q) fun v s' h => cmpb h)
      · exact (show False from q).elim
    · exact (show False from q).elim
  · rename_i i b c ns ds
    obtain ⟨a, ox, od, rfl, rfl, J, hp⟩ := inst_rep I m.sub r2 ry
    split at q
    · rename_i cd hc
      obtain ⟨rfl, hin⟩ := findC_c hc
      obtain ⟨f, ca, L⟩ := C.2.1 cd hin
      obtain ⟨fl, l1⟩ := L.at_
      obtain ⟨idn, name, ff, i1, i2, i3, i4⟩ := (C.2.2 (List.ne_nil_of_mem hin)).ex
      cases (show x = .int i from r1)
      obtain ⟨t, rfl⟩ := id rx
      exact ref_bin I.kIn J L.first l1 L.r L.fn i4 i1 L.sub (fun Q hq => dec_bin i1 i2 (i3 i t a) J.at_ (fun v => by rw [hp]; exact fun z => nomatch z) hq) (thn (own2_run ca gu tk I ry rx m r2 r1 q) fun v s' h => cmpb h)
    · exact (show False from q).elim
  · exact bin_ok op pins s σ H x y v u Q I rx ry ⟨g, G, S, d, e, m, Seen.of r1, Seen.of r2, q⟩
theorem sl2_t {fn : D → D → Sg → Rs D} {ma mb : PX} (q : tP K M W (pSl2 fn ma mb) σ H Q) : tOp (rS2 K M W fn σ) (tP K M W ma) (tP K M W mb) σ H Q := by
  obtain ⟨g, G, S, mt, q⟩ := q
  refine ⟨g, G, S, mt, EndE.imp (EndE.bind q) fun v H1 ⟨d, g1, G1, S1, T, er, got, st, q⟩ => ?_⟩
  obtain ⟨G2, m2, r2, sb, hg, hv⟩ := got.seal
  have st2 := st.sealed sb hg hv
  refine ⟨g1, G2, S1, m2, EndE.imp (EndE.bind (EndE.of q st2)) fun u H3 ⟨e, g3, G3, S3, T3, er3, got3, st3, q⟩ => ?_⟩
  obtain ⟨G4, m4, r4, sb4, hg4, hv4⟩ := got3.seal
  have st4 := st3.sealed sb4 hg4 hv4
  exact ⟨g3, G4, S3, _, _, m4, Rep.mono st4.gr _ _ r2, r4, EndE.of q st4⟩
theorem sl1_t {fn : D → Sg → Rs D} {ma : PX} (q : tP K M W (pSl1 fn ma) σ H Q) : tUn (rS1 K M W fn σ) (tP K M W ma) σ H Q := by
  obtain ⟨g, G, S, mt, q⟩ := q
  refine ⟨g, G, S, mt, EndE.imp (EndE.bind q) fun v H1 ⟨d, g1, G1, S1, T, er, got, st, q⟩ => ?_⟩
  obtain ⟨G2, m2, r2, sb, hg, hv⟩ := got.seal
  have st2 := st.sealed sb hg hv
  exact ⟨g1, G2, S1, _, m2, r2, EndE.of q st2⟩
theorem pe_Bin {op : Operator} {ls rs : List Cd} {a b : Expr} {ma mb : PX} (C : OpsOk X M op ls rs) (gu : X.A.guards = some []) (tk : Takes X W) (ha : PE X a (tP X.K M W ma)) (hb : PE X b (tP X.K M W mb)) : PE X (.BinOp a op b pos) (tP X.K M W (pSl2 (binS op ls rs) ma mb)) :=
  ⟨fun pins s σ H Q I q => wpAny_BinOp (binT (R := fun x y H2 => rS2 X.K M W (binS op ls rs) σ x y H2 Q) ha hb I (sl2_t q) fun v u s2 x y H2 I2 rx ry q => binS_ok C gu tk pins s2 σ H2 x y v u Q I2 rx ry q)⟩
theorem ops_nil {op : Operator} : OpsOk X M op [] [] := ⟨fun _ z => (List.not_mem_nil z).elim, fun _ z => (List.not_mem_nil z).elim, fun z => (z rfl).elim⟩
/-! ### ~ and - -/
def invS (cs : List Cd) (d : D) (g : Sg) : Rs D := match d with
  | .obj b c ns ds => (match findC cs c with
    | some cd => own1 cd (.obj b c ns ds) g
    | none => .bad)
  | _ => .bad
structure OpU (K : Frag) (C f : Addr) : Prop where
  at_ : findIn K (.ref C) "__invert__" = some (some (.ref f))
  fn : isFn K (.ref f) = true
theorem pe_Inv {cs : List Cd} {a : Expr} {ma : PX} (C : ∀ cd ∈ cs, ∃ f, CaOk X M 1 cd f ∧ OpU X.K (He.ga X.K cd.c) f) (gu : X.A.guards = some []) (tk : Takes X W) (ha : PE X a (tP X.K M W ma)) : PE X (.UnaryOp .Invert a pos) (tP X.K M W (pSl1 (invS cs) ma)) :=
  ⟨fun pins s σ H Q I q => UnaryOp_ (thn (ha.run pins s σ H _ I (sl1_t q)) fun v s1 ⟨x, H1, I1, rx, q1⟩ => by
    obtain ⟨g, G, S, d, m, r1, q⟩ := q1
    unfold invS at q
    split at q
    · obtain ⟨a, ox, od, rfl, rfl, J, hp⟩ := inst_rep I1 m.sub r1 rx
      obtain ⟨m0, F⟩ := I1.fr
      split at q
      · rename_i cd hc
        obtain ⟨rfl, hin⟩ := findC_c hc
        obtain ⟨f, ca, L⟩ := C cd hin
        exact PySem.W.ksp_inv F I1.ok.mod.kin J L.at_ L.fn (own1_run ca gu tk I1 rx m r1 q)
      · exact (show False from q).elim
    · exact (show False from q).elim)⟩
def negD : D → Option D
  | .int i => some (.int (-i))
  | _ => none
theorem pe_Neg {a : Expr} {oa : Op} (ha : PE X a (tO X.K M W oa)) : PE X (.UnaryOp .USub a pos) (tP X.K M W (pOp1 (fun d g => ro (negD d) g) oa)) := by
  refine pe_unS ?_ ha
  rintro pins s σ H x v Q I rx ⟨g, G, S, d, m, sd, q⟩
  dsimp only at q
  unfold negD at q
  split at q
  · rename_i i
    cases sd.int
    exact un_neg pins s σ H _ v Q I rx ⟨i, rfl, fin_sc q m rfl⟩
  · exact (show False from q).elim
end
end PI

set_option Elab.async false
set_option linter.all false
set_option maxRecDepth 100000
set_option maxHeartbeats 1000000
namespace PI
open PySem PySem.Spec PyProof.Rows L2
open PySem.W (Frag InstAt findIn isFn selfFirst subIn Looks)
/-! ### own == -/
def kindD : D → Option String
  | .non => some "NoneType"
  | .bl _ => some "bool"
  | .int _ => some "int"
  | .str _ => some "str"
  | .lst _ _ => some "list"
  | .tup _ => some "tuple"
  | _ => none
def sameF : D → D → Bool
  | .non, .non => true
  | .bl a, .bl b => a == b
  | .int a, .int b => decide (a = b)
  | .str a, .str b => decide (a = b)
  | _, _ => false
def sameD (ks : List Key) (ds : List D) (ls : List Key) (es : List D) : Bool := (List.zipWith (fun k d => decide (flatD d = true) && (match valD ls es k with
  | some e => sameF d e
  | none => false)) ks ds).all id
def eqL (d e : D) : Option Bool := match d, e with
  | .dic _ ks ds, .dic _ ls es => if ks.length = ls.length ∧ sameD ks ds ls es = true then some true else none
  | d, e => eqP d e
def eqS (es : List Cd) (d e : D) (g : Sg) : Rs D := match d with
  | .obj b c ns ds => (match findC es c with
    | some cd => (match e with
      | .obj _ c' _ _ => if c' = c then own2 cd (.obj b c ns ds) e g else .bad
      | _ => if (kindD e).isSome = true then own2 cd (.obj b c ns ds) e g else .bad)
    | none => .bad)
  | d => (match e with
    | .obj .. => .bad
    | e => rb (eqL d e) g)
structure OpE (K : Frag) (C f : Addr) : Prop where
  at_ : findIn K (.ref C) "__eq__" = some (some (.ref f))
  fn : isFn K (.ref f) = true
  nf : ∀ T ∈ ["NoneType", "bool", "int", "str", "list", "tuple"], subIn K (.type T) (.ref C) = some false
section
variable {K : Frag} {M : Memo} {W : WX} {X : Cx} {σ : L2.St} {H H0 G G0 H1 G1 : Hp} {S S0 S1 : Nat → Addr → Prop} {g g1 : Sg} {Q : VK} {pos p2 : Pos} {k : Nat} {f : Addr} {fd : FuncData} {ps : List Str} {pins : List (Addr × Obj)} {s : Shared} {cd : Cd}
theorem looks_cls {Mo : Model} {h : Heap} {a : Addr} {o : Obj} (e : h.get? a = some o) : Looks Mo h (typeOf (.ref a)) o.cls := (Looks.ld (part := none) e).andThen .now
theorem kind_looks {Mo : Model} {e : D} {T : String} {y : V} {u : Value} (I : Inv X pins σ H s) (sb : Sub G H) (r : Rep X.K G e y) (ry : RelV y u) (h : kindD e = some T) : Looks Mo s.heap (typeOf u) (.type T) ∧ T ∈ ["NoneType", "bool", "int", "str", "list", "tuple"] := by
  cases e <;> first | (cases h; done) | skip
  · cases h; cases (show y = _ from r); cases ry; exact ⟨Looks.of_pure rfl, by decide⟩
  · cases h; cases (show y = _ from r); cases ry; exact ⟨Looks.of_pure rfl, by decide⟩
  · cases h; cases (show y = _ from r); obtain ⟨t, rfl⟩ := ry; exact ⟨Looks.of_pure rfl, by decide⟩
  · cases h; cases (show y = _ from r); obtain ⟨t, rfl⟩ := ry; exact ⟨Looks.of_pure rfl, by decide⟩
  · cases h
    obtain ⟨_, a, vs, rfl, h1, _⟩ := r
    cases ry
    obtain ⟨its, rv, ⟨o, n, e, hc, _⟩, _⟩ := I.list (sb.sqL h1)
    refine ⟨?_, by decide⟩
    rw [← hc]
    exact looks_cls e
  · cases h
    obtain ⟨a, vs, rfl, h1, _⟩ := r
    cases ry
    obtain ⟨its, rv, ⟨o, e, hc, _⟩, _⟩ := I.tuple (sb.sqT h1)
    refine ⟨?_, by decide⟩
    rw [← hc]
    exact looks_cls e
theorem same_rep {ls : List Key} {es : List D} {us : List V} (hl2 : ls.length = us.length) (r2 : RepL K G es us) : ∀ {ks : List Key} {ds : List D} {vs : List V}, ks.length = vs.length → RepL K G ds vs → sameD ks ds ls es = true → ∀ p ∈ ks.zip vs, valV (ls.zip us) p.1 = some p.2 ∧ flatB p.2 = true
  | [], ds, vs, hl, r, h => fun p hp => by simp at hp
  | k :: ks, ds, [], hl, r, h => fun p hp => by simp at hp
  | k :: ks, [], w :: vs, hl, r, h => by cases (show w :: vs = [] from r)
  | k :: ks, d :: ds, w :: vs, hl, r, h => by
    obtain ⟨w', r', z, h1, h2⟩ := r
    cases z
    have h : ((decide (flatD d = true) && (match valD ls es k with
      | some e => sameF d e
      | none => false)) && sameD ks ds ls es) = true := h
    obtain ⟨h3, h4⟩ := Bool.and_eq_true_iff.mp h
    obtain ⟨h5, h6⟩ := Bool.and_eq_true_iff.mp h3
    intro p hp
    rw [List.zip_cons_cons] at hp
    rcases List.mem_cons.mp hp with hp | hp
    · subst hp
      cases e1 : valD ls es k with
      | none => rw [e1] at h6; cases h6
      | some e =>
        rw [e1] at h6
        obtain ⟨v, ev, rv⟩ := (val_rep hl2 r2).1 e e1
        show valV (ls.zip us) k = some w ∧ flatB w = true
        rw [ev]
        cases d <;> cases e <;> first | (cases h6; done) | skip
        · cases (show w = _ from h1); cases (show v = _ from rv); exact ⟨rfl, rfl⟩
        · cases (show w = _ from h1); cases (show v = _ from rv); cases eq_of_beq h6; exact ⟨rfl, rfl⟩
        · cases (show w = _ from h1); cases (show v = _ from rv); cases of_decide_eq_true h6; exact ⟨rfl, rfl⟩
        · cases (show w = _ from h1); cases (show v = _ from rv); cases of_decide_eq_true h6; exact ⟨rfl, rfl⟩
    · exact same_rep hl2 r2 (by simpa using hl) h2 h4 p hp
theorem eqL_ok (hu : X.A.units + 64 < cLine) : OpS X (compareOp .Eq) (rF X.K M W fun d e g => rb (eqL d e) g) := by
  rintro pins s σ H x y v u Q I rx ry ⟨g, G, S, d, e, m, sd, se, q⟩
  dsimp only at q
  unfold eqL at q
  split at q
  · rename_i b ks ds b' ls es
    obtain ⟨a, vs, rfl, h1, hl, r1⟩ := sd.dic m.sub
    obtain ⟨a2, us, rfl, h2, hl2, r2⟩ := se.dic m.sub
    split at q
    · rename_i hc
      refine op_eq_dictA (by omega) pins s σ H _ _ v u Q I rx ry ⟨a, a2, _, _, rfl, rfl, h1, h2, ?_, same_rep hl2 r2 hl r1 hc.2, fin_b q rfl m⟩
      rw [List.length_zip, List.length_zip, ← hl, ← hl2, Nat.min_self, Nat.min_self]
      exact hc.1
    · exact (fin_no q).elim
  · exact cmp_ok hu .Eq pins s σ H x y v u Q I rx ry ⟨g, G, S, d, e, m, sd, se, q⟩
theorem eqS_ok {es : List Cd} (hu : X.A.units + 64 < cLine) (C : ∀ cd ∈ es, ∃ f, CaOk X M 2 cd f ∧ OpE X.K (He.ga X.K cd.c) f) (gu : X.A.guards = some []) (tk : Takes X W) : OpS X (compareOp .Eq) (rS2 X.K M W (eqS es)) := by
  rintro pins s σ H x y v u Q I rx ry ⟨g, G, S, d, e, m, r1, r2, q⟩
  unfold eqS at q
  obtain ⟨m0, F⟩ := I.fr
  have hu' : X.A.units < cLine := by omega
  split at q
  · rename_i b c ns ds
    obtain ⟨a, ox, od, rfl, rfl, J, hp⟩ := inst_rep I m.sub r1 rx
    split at q
    · rename_i cd hc
      obtain ⟨rfl, hin⟩ := findC_c hc
      obtain ⟨f, ca, L⟩ := C cd hin
      split at q
      · rename_i b' c' ns' ds'
        obtain ⟨a2, ox2, od2, rfl, rfl, J2, hp2⟩ := inst_rep I m.sub r2 ry
        split at q
        · rename_i hcc
          subst hcc
          exact PySem.W.cmp_K (op := .Eq) hu' F I.ok.mod.kin J J2.type (by simp [PySem.W.notFirst]) L.at_ L.fn (thn (own2_run ca gu tk I rx ry m r1 r2 q) fun v s' h => cmpb h)
        · exact (show False from q).elim
      · split at q
        · rename_i hk
          obtain ⟨T, hT⟩ := Option.isSome_iff_exists.mp hk
          obtain ⟨L2, hm⟩ := kind_looks (Mo := model X.prog X.w) I m.sub r2 ry hT
          refine PySem.W.cmp_K (op := .Eq) hu' F I.ok.mod.kin J L2 ?_ L.at_ L.fn (thn (own2_run ca gu tk I rx ry m r1 r2 q) fun v s' h => cmpb h)
          unfold PySem.W.notFirst
          rw [L.nf T hm]
          exact Bool.or_true _
        · exact (show False from q).elim
    · exact (show False from q).elim
  · split at q
    · exact (show False from q).elim
    · exact eqL_ok hu pins s σ H x y v u Q I rx ry ⟨g, G, S, d, e, m, Seen.of r1, Seen.of r2, q⟩
theorem pe_Eq {es : List Cd} {a b : Expr} {ma mb : PX} (hu : X.A.units + 64 < cLine) (C : ∀ cd ∈ es, ∃ f, CaOk X M 2 cd f ∧ OpE X.K (He.ga X.K cd.c) f) (gu : X.A.guards = some []) (tk : Takes X W) (ha : PE X a (tP X.K M W ma)) (hb : PE X b (tP X.K M W mb)) (hm : behindInMarks .Eq b = false) : PE X (.Compare a [.Eq] [b] pos) (tP X.K M W (pSl2 (eqS es) ma mb)) :=
  ⟨fun pins s σ H Q I q => wpAny_Compare1 (binT (R := fun x y H2 => rS2 X.K M W (eqS es) σ x y H2 Q) ha hb I (sl2_t q) fun v u s2 x y H2 I2 rx ry q => eqS_ok hu C gu tk pins s2 σ H2 x y v u Q I2 rx ry q) hm⟩
theorem pt_Eq {es : List Cd} {a b : Expr} {ma mb : PX} (hu : X.A.units + 64 < cLine) (C : ∀ cd ∈ es, ∃ f, CaOk X M 2 cd f ∧ OpE X.K (He.ga X.K cd.c) f) (gu : X.A.guards = some []) (tk : Takes X W) (ha : PE X a (tP X.K M W ma)) (hb : PE X b (tP X.K M W mb)) (hm : behindInMarks .Eq b = false) : PT X (.Compare a [.Eq] [b] pos) (tB' X.K M W (pTest (pSl2 (eqS es) ma mb))) := by
  refine ⟨fun pins s σ H Q I q => ?_⟩
  refine wpAny_isTrue_Compare1 (binT (R := fun x y H2 => rS2 X.K M W (eqS es) σ x y H2 fun v H1 => ∃ k, v = .bl k ∧ Q k H1) ha hb I (sl2_t (test_t q)) fun v u s2 x y H2 I2 rx ry q => thn (eqS_ok hu C gu tk pins s2 σ H2 x y v u _ I2 rx ry q) fun w s3 ⟨z, H3, I3, r3, k, e, q3⟩ => ?_) hm
  subst e
  cases r3
  exact wpAny_truthy_bool ⟨H3, I3, q3⟩
/-! ### properties -/
def noX (r : Rs D) : Rs D := match r with
  | .exc _ _ _ => .bad
  | r => r
def propS (cs : List Cd) (d : D) (g : Sg) : Rs D := match d with
  | .obj b c ns ds => (match findC cs c with
    | some cd => noX (own1 cd (.obj b c ns ds) g)
    | none => .bad)
  | _ => .bad
def W0 : WX := fun _ _ _ _ => False
theorem noX_e {r : Rs D} (q : EndE K M W σ H G S (noX r) Q) : EndE K M W0 σ H G S r Q := by
  cases r with
  | bad => exact q
  | exc c d g => exact (show False from q).elim
  | ok d g => exact q
def PdOk (X : Cx) (M : Memo) (f : Str) (cs : List Cd) : Prop := ∀ cd ∈ cs, ∃ k p ga fd ps, FnG X.prog X.w X.K X.mg X.base k ga fd ps (spF X.K M cd.ff cd.rf ps.length) ∧ Room (k + 1) X.A ∧ BindP X.K fd ps 1 [] cd.pm ∧ distinct (cd.pm.map inlOf) = true ∧ Cls X.K (He.ga X.K cd.c) ∧ PropOf X.K (He.ga X.K cd.c) f p ga
theorem getP_ok {cs : List Cd} {f : Str} {d : D} {x : V} {v : Value} {b : Bool} (C : PdOk X M f cs) (gu : X.A.guards = some []) (I : Inv X pins σ H s) (rx : RelV x v) (m : Mt X.K M g σ H G S) (r1 : Rep X.K G d x) (q : EndE X.K M W σ H G S (propS cs d g) Q) :
    wpAny (model X.prog X.w) X.A (getAttr v f b) (EP X pins σ Q) X.xe s := by
  unfold propS at q
  split at q
  · rename_i b' c ns ds
    split at q
    · rename_i cd hc
      obtain ⟨rfl, hin⟩ := findC_c hc
      obtain ⟨k, p, ga, fd, ps, F, hr, hb, dp, cl, hp⟩ := C cd hin
      obtain ⟨_, a, dx, vs, rfl, ea, _⟩ := id r1
      cases rx
      have ea := m.sub _ _ ea
      have q := noX_e q
      unfold own1 callA at q
      have e1 : rdA g [.v pBad] [some (.obj b' cd.c ns ds)] = some [.obj b' cd.c ns ds] := rfl
      rw [e1] at q
      dsimp only at q
      cases e2 : pmL [D.obj b' cd.c ns ds] id cd.pm with
      | none => rw [e2] at q; exact (show False from q).elim
      | some es =>
        cases e3 : pmL (([.v pBad] : List Ar).map nmA) (fun _ => (none : Option Nat)) cd.pm with
        | none => rw [e2, e3] at q; exact (show False from q).elim
        | some nn =>
          rw [e2, e3] at q
          obtain ⟨mA, O, _, _, _, _⟩ := ins_get I.hok ea
          obtain ⟨od, J, _⟩ := O.look
          obtain ⟨rest, hrec⟩ := hp.rec_
          have I1 := I.tok (s.toks + 1)
          have hcl : (PySem.W.clsIn X.K (He.ga X.K cd.c)).isSome = true := by
            obtain ⟨cda, hc, _⟩ := PySem.W.any_some cl.hd
            rw [hc] <;> rfl
          obtain ⟨lp, kv, kk, hk, hb⟩ := hb
          obtain ⟨ys, b1, b2⟩ := hb { s with toks := s.toks + 1 } [.ref a] [] I1.kIn rfl rfl
          obtain ⟨vv, c1, c2⟩ := vals_pm (show Vals [V.ref a] ([Value.ref a] ++ []) from .cons rfl .nil) (fun d hd => (hk d hd).2) b1
          have sp := call_fin (W := W0) (as := [.v pBad]) (xs := [some (.obj b' cd.c ns ds)]) (U := none_) m Stp.refl ⟨_, _, _, _, none_, none_, rfl, rfl, ⟨⟨_, rfl, r1⟩, fun b z => z⟩, ⟨rfl, rfl, fun b z => z⟩, fun b => ⟨.inl, fun z => z.elim (fun y => y) (fun y => y)⟩, fun b z => z.elim⟩ e1 e2 e3 rfl dp (fun d hd => (hk d hd).1) c1 q
          rw [lp] at sp
          refine PySem.W.get_bind I.kIn J (PySem.W.plainGet_of (cl.get f)).1 (PySem.W.findObj_data hcl hp.at_ hp.get hp.tak) (PySem.W.plainGet_of (cl.get f)).2 (wpAny_call (PySem.W.prop_get (s := { s with toks := s.toks + 1 }) I.kIn hrec ?_))
          refine codeAny_mono (F.run X.A.in1 X.stack { s with toks := s.toks + 1 } H ⟨[.ref a], []⟩ ys vv Q (WE W0 σ) hr.in1 gu I1.env0.in1 b2 c2 sp) fun r s' hq => ?_
          cases r with
          | error er => obtain ⟨_, _, _, _, _, _, _, _, _, _, _, _, z⟩ := hq; exact z.elim
          | ok fl =>
            cases fl with
            | ret u =>
              obtain ⟨v, H', I3, rv, q3⟩ := I1.after hq
              show wpAny _ _ (handedOut u) _ _ _
              rw [PySem.W.handedOut_of (handed_of rv)]
              exact wpAny_pure ⟨v, H', I3, rv, q3⟩
            | next => exact False.elim hq
            | brk => exact False.elim hq
            | cont => exact False.elim hq
    · exact (show False from q).elim
  · exact (show False from q).elim
theorem pe_Prop {cs : List Cd} {f : Str} {e : Expr} {me : PX} (C : PdOk X M f cs) (gu : X.A.guards = some []) (he : PE X e (tP X.K M W me)) (hab : attributeBase e f X.env (eval e X.env) = eval e X.env) : PE X (.Attribute e f pos) (tP X.K M W (pSl1 (propS cs) me)) :=
  ⟨fun pins s σ H Q I q => attr_of hab (thn (he.run pins s σ H _ I (sl1_t q)) fun v s1 ⟨x, H1, I1, rx, g, G, S, d, m, r1, q1⟩ => getP_ok C gu I1 rx m r1 q1)⟩
/-! ### self.f = e -/
def putFD (f : Str) (d : D) : List Str → List D → List Str × List D
  | n :: ns, e :: ds => if n = f then (n :: ns, d :: ds) else (n :: (putFD f d ns ds).1, e :: (putFD f d ns ds).2)
  | _, _ => ([f], [d])
def fst2 (fl : List (Str × Str)) (f : Str) (n : Nat) (d : D) (g : Sg) : Rs Fl := match g[n]? with
  | some (some (.obj true c ns ds)) => if fl.contains (c, f) = true ∧ ns.length < 900 then .ok .nx (g.set n (some (.obj true c (putFD f (sealD d) ns ds).1 (putFD f (sealD d) ns ds).2))) else .bad
  | _ => .bad
def pFst (fl : List (Str × Str)) (f : Str) (n : Nat) (m : PX) : PF := fun g => (m g).bind (fst2 fl f n)
theorem putF_rep {f : Str} {d : D} {v : V} (h : Rep K G d v) : ∀ {ns : List Str} {ds : List D} {vs : List V}, ns.length = vs.length → RepL K G ds vs →
    ∃ us, putF f v (ns.zip vs) = (putFD f d ns ds).1.zip us ∧ (putFD f d ns ds).1.length = us.length ∧ RepL K G (putFD f d ns ds).2 us
  | [], ds, [], hl, r => by
    cases ds with
    | nil => exact ⟨[v], rfl, rfl, RepL.one h⟩
    | cons e ds => obtain ⟨w, r', z, _⟩ := r; cases z
  | n :: ns, ds, [], hl, r => by simp at hl
  | [], ds, v :: vs, hl, r => by simp at hl
  | n :: ns, [], w :: vs, hl, r => by cases (show w :: vs = [] from r)
  | n :: ns, e :: ds, w :: vs, hl, r => by
    obtain ⟨w', r', z, h1, h2⟩ := r
    cases z
    by_cases hn : n = f
    · refine ⟨v :: vs, ?_, ?_, ?_⟩
      · unfold putFD; rw [if_pos hn, List.zip_cons_cons]; unfold putF; rw [if_pos hn] <;> rfl
      · unfold putFD; rw [if_pos hn]; simpa using hl
      · unfold putFD; rw [if_pos hn]; exact ⟨v, vs, rfl, h, h2⟩
    · obtain ⟨us, e1, e2, e3⟩ := putF_rep (f := f) h (by simpa using hl) h2
      refine ⟨w :: us, ?_, ?_, ?_⟩
      · unfold putFD; rw [if_neg hn, List.zip_cons_cons]; unfold putF; rw [if_neg hn, e1] <;> rfl
      · unfold putFD; rw [if_neg hn]; simpa using e2
      · unfold putFD; rw [if_neg hn]; exact ⟨w, us, rfl, h1, e3⟩
theorem ps_Fst {fl : List (Str × Str)} {f x : Str} {n : Nat} {fx : List Nat} {p pos' : Pos} {e : Expr} {me : PX} (T : FldOk X.K fl) (ho : PE X (.Name x p) (tVar n)) (he : PE X e (tP X.K M W me)) (hs : swapsWith e (some (.Attribute (.Name x p) f pos')) pos.line X.env = pure false) :
    PS X (.Assign [.Attribute (.Name x p) f pos'] e pos) (tF X.K M fx W (pFst fl f n me)) := by
  refine PS.imp (ps_fld ho he hs) fun N σ H q => ?_
  obtain ⟨g, G, S, m, q⟩ := q
  refine ⟨g, G, S, m, EndE.imp (EndF.bindE q) fun v H1 ⟨d, g1, G1, S1, T1, er, got, st, q⟩ => ?_⟩
  obtain ⟨G2, m2, r2, sb, hg, hv⟩ := got.seal
  have st2 := st.sealed sb hg hv
  unfold fst2 at q
  split at q
  · rename_i c ns ds et
    split at q
    · rename_i hc
      obtain ⟨a, ev, ga, hs', oa⟩ := m2.at et noRep_o
      obtain ⟨_, pl, dx, vs, ha', hl, hr⟩ := id oa
      obtain ⟨t1, t2⟩ := T _ (List.contains_iff_mem.mp hc.1)
      obtain ⟨us, u1, u2, u3⟩ := putF_rep (f := f) r2 hl hr
      obtain ⟨m4, st4⟩ := m2.upd (o := .ins (He.ga X.K c) dx (putF f v (ns.zip vs))) (d' := .obj true c (putFD f (sealD d) ns ds).1 (putFD f (sealD d) ns ds).2) et ev ga hs' ⟨rfl, pl, dx, us, by rw [upd_same, u1], u2, u3⟩
      refine ⟨.ref a, ev, a, _, dx, _, rfl, ha', t1, t2, ?_, (show EndN X.K M fx σ H G S _ N.nx from q) σ _ G2 S1 Fx.refl m4 (st2.trans st4)⟩
      rw [List.length_zip, ← hl, Nat.min_self]
      omega
    · exact (show False from q).elim
  · exact (show False from q).elim
end
end PI

set_option Elab.async false
set_option linter.all false
set_option maxRecDepth 100000
set_option maxHeartbeats 1000000
namespace PI
open PySem PySem.Spec PyProof.Rows L2
open PySem.W (Frag InstAt findIn isFn selfFirst subIn Looks)
/-! ### built-ins -/
def intsD : List D → Option (List Int)
  | [] => some []
  | .int i :: ds => (intsD ds).map (i :: ·)
  | _ => none
def blsD : List D → Option (List Bool)
  | [] => some []
  | .bl i :: ds => (blsD ds).map (i :: ·)
  | _ => none
def strsD : List D → Option (List Str)
  | [] => some []
  | .str i :: ds => (strsD ds).map (i :: ·)
  | _ => none
def lenD : List D → Option D
  | [.str z] => if z.length ≤ lim then some (.int z.length) else none
  | [.lst _ xs] => some (.int xs.length)
  | [.tup xs] => some (.int xs.length)
  | _ => none
def absD : List D → Option D
  | [.int i] => some (.int (if i < 0 then -i else i))
  | _ => none
def intD : List D → Option D
  | [.int i] => some (.int i)
  | [.bl b] => some (.int (if b then 1 else 0))
  | _ => none
def maxL : List Int → Option Int
  | [] => none
  | i :: is => some (is.foldl (fun a b => if b > a then b else a) i)
def minL : List Int → Option Int
  | [] => none
  | i :: is => some (is.foldl (fun a b => if b < a then b else a) i)
def maxD : List D → Option D
  | [.int i, .int j] => some (.int (if j > i then j else i))
  | [.lst _ xs] => ((intsD xs).bind maxL).map .int
  | _ => none
def minD : List D → Option D
  | [.int i, .int j] => some (.int (if j < i then j else i))
  | [.lst _ xs] => ((intsD xs).bind minL).map .int
  | _ => none
def sumD : List D → Option D
  | [.lst _ xs] => (intsD xs).map fun ns => .int ns.sum
  | _ => none
def allD : List D → Option D
  | [.lst _ xs] => (blsD xs).map fun bs => .bl (bs.all id)
  | _ => none
def anyD : List D → Option D
  | [.lst _ xs] => (blsD xs).map fun bs => .bl (bs.any id)
  | _ => none
def insS (x : Str) : List Str → List Str
  | [] => [x]
  | y :: ys => if ltS y x then y :: insS x ys else x :: y :: ys
def insI (x : Int) : List Int → List Int
  | [] => [x]
  | y :: ys => if y < x then y :: insI x ys else x :: y :: ys
def listD : List D → Option D
  | [.lst _ xs] => some (.lst true xs)
  | [.tup xs] => some (.lst true xs)
  | _ => none
def tupD : List D → Option D
  | [.lst _ xs] => some (.tup xs)
  | [.tup xs] => some (.tup xs)
  | _ => none
def reprP (p : PyData) : Option Str := if p.showable = true ∧ p.hasDict = false ∧ p.depth ≤ 40 ∧ p.shown.length ≤ lim then some p.shown else none
def reprD : List D → Option D
  | [d] => ((pyOf d).bind reprP).map .str
  | _ => none
section
variable {K : Frag} {M : Memo} {W : WX} {X : Cx} {σ : L2.St} {H H0 G G0 H1 G1 : Hp} {S S0 S1 : Nat → Addr → Prop} {g g1 : Sg} {Q : VK} {pos p2 : Pos}
theorem ints_rep : ∀ {ds : List D} {vs : List V} {ns : List Int}, RepL K G ds vs → intsD ds = some ns → vs = ns.map V.int
  | [], vs, ns, r, e => by cases (show vs = [] from r); cases e; rfl
  | d :: ds, vs, ns, r, e => by
    obtain ⟨v, r, rfl, h1, h2⟩ := r
    cases d <;> first | (cases e; done) | skip
    rename_i i
    have e : (intsD ds).map (i :: ·) = some ns := e
    cases q : intsD ds with
    | none => rw [q] at e; cases e
    | some ms => rw [q] at e; cases e; cases (show v = .int i from h1); rw [ints_rep h2 q] <;> rfl
theorem bls_rep : ∀ {ds : List D} {vs : List V} {ns : List Bool}, RepL K G ds vs → blsD ds = some ns → vs = ns.map V.bl
  | [], vs, ns, r, e => by cases (show vs = [] from r); cases e; rfl
  | d :: ds, vs, ns, r, e => by
    obtain ⟨v, r, rfl, h1, h2⟩ := r
    cases d <;> first | (cases e; done) | skip
    rename_i i
    have e : (blsD ds).map (i :: ·) = some ns := e
    cases q : blsD ds with
    | none => rw [q] at e; cases e
    | some ms => rw [q] at e; cases e; cases (show v = .bl i from h1); rw [bls_rep h2 q] <;> rfl
theorem strs_rep : ∀ {ds : List D} {vs : List V} {ns : List Str}, RepL K G ds vs → strsD ds = some ns → vs = ns.map V.str
  | [], vs, ns, r, e => by cases (show vs = [] from r); cases e; rfl
  | d :: ds, vs, ns, r, e => by
    obtain ⟨v, r, rfl, h1, h2⟩ := r
    cases d <;> first | (cases e; done) | skip
    rename_i i
    have e : (strsD ds).map (i :: ·) = some ns := e
    cases q : strsD ds with
    | none => rw [q] at e; cases e
    | some ms => rw [q] at e; cases e; cases (show v = .str i from h1); rw [strs_rep h2 q] <;> rfl
theorem rep_ints : ∀ (ns : List Int), RepL K G (ns.map D.int) (ns.map V.int)
  | [] => rfl
  | n :: ns => ⟨_, _, rfl, rfl, rep_ints ns⟩
theorem rep_strs : ∀ (ns : List Str), RepL K G (ns.map D.str) (ns.map V.str)
  | [] => rfl
  | n :: ns => ⟨_, _, rfl, rfl, rep_strs ns⟩
theorem max_of {ns : List Int} {m k : Int} (e : maxL ns = some k) (h1 : m ∈ ns) (h2 : ∀ y ∈ ns, y ≤ m) : m = k := by
  cases ns with
  | nil => cases e
  | cons i is =>
    cases e
    have key : ∀ (l : List Int) (a : Int), (a ≤ l.foldl (fun a b => if b > a then b else a) a ∧ (∀ y ∈ l, y ≤ l.foldl (fun a b => if b > a then b else a) a)) ∧ (l.foldl (fun a b => if b > a then b else a) a = a ∨ l.foldl (fun a b => if b > a then b else a) a ∈ l) := by
      intro l
      induction l with
      | nil => intro a; exact ⟨⟨Int.le_refl _, fun y z => by cases z⟩, .inl rfl⟩
      | cons b l ih =>
        intro a
        rw [List.foldl_cons]
        obtain ⟨⟨h1, h2⟩, h3⟩ := ih (if b > a then b else a)
        have e1 : a ≤ (if b > a then b else a) := by split <;> omega
        have e2 : b ≤ (if b > a then b else a) := by split <;> omega
        refine ⟨⟨Int.le_trans e1 h1, fun y hy => ?_⟩, ?_⟩
        · rcases List.mem_cons.mp hy with z | z
          · rw [z]; exact Int.le_trans e2 h1
          · exact h2 y z
        · rcases h3 with z | z
          · rw [z]; split
            · exact .inr (List.mem_cons_self ..)
            · exact .inl rfl
          · exact .inr (List.mem_cons_of_mem _ z)
    obtain ⟨⟨k1, k2⟩, k3⟩ := key is i
    have a1 : is.foldl (fun a b => if b > a then b else a) i ≤ m := by
      rcases k3 with z | z
      · rw [z]; exact h2 i (List.mem_cons_self ..)
      · exact h2 _ (List.mem_cons_of_mem _ z)
    have a2 : m ≤ is.foldl (fun a b => if b > a then b else a) i := by
      rcases List.mem_cons.mp h1 with z | z
      · rw [z]; exact k1
      · exact k2 m z
    omega
theorem min_of {ns : List Int} {m k : Int} (e : minL ns = some k) (h1 : m ∈ ns) (h2 : ∀ y ∈ ns, m ≤ y) : m = k := by
  cases ns with
  | nil => cases e
  | cons i is =>
    cases e
    have key : ∀ (l : List Int) (a : Int), (l.foldl (fun a b => if b < a then b else a) a ≤ a ∧ (∀ y ∈ l, l.foldl (fun a b => if b < a then b else a) a ≤ y)) ∧ (l.foldl (fun a b => if b < a then b else a) a = a ∨ l.foldl (fun a b => if b < a then b else a) a ∈ l) := by
      intro l
      induction l with
      | nil => intro a; exact ⟨⟨Int.le_refl _, fun y z => by cases z⟩, .inl rfl⟩
      | cons b l ih =>
        intro a
        rw [List.foldl_cons]
        obtain ⟨⟨h1, h2⟩, h3⟩ := ih (if b < a then b else a)
        have e1 : (if b < a then b else a) ≤ a := by split <;> omega
        have e2 : (if b < a then b else a) ≤ b := by split <;> omega
        refine ⟨⟨Int.le_trans h1 e1, fun y hy => ?_⟩, ?_⟩
        · rcases List.mem_cons.mp hy with z | z
          · rw [z]; exact Int.le_trans h1 e2
          · exact h2 y z
        · rcases h3 with z | z
          · rw [z]; split
            · exact .inr (List.mem_cons_self ..)
            · exact .inl rfl
          · exact .inr (List.mem_cons_of_mem _ z)
    obtain ⟨⟨k1, k2⟩, k3⟩ := key is i
    have a1 : m ≤ is.foldl (fun a b => if b < a then b else a) i := by
      rcases k3 with z | z
      · rw [z]; exact h2 i (List.mem_cons_self ..)
      · exact h2 _ (List.mem_cons_of_mem _ z)
    have a2 : is.foldl (fun a b => if b < a then b else a) i ≤ m := by
      rcases List.mem_cons.mp h1 with z | z
      · rw [z]; exact k1
      · exact k2 m z
    omega
theorem seen1 {ds : List D} {d : D} {vs : List V} (h : SeenL K M G H [d] vs) : ∃ v, vs = [v] ∧ Seen K M G H d v := by
  obtain ⟨v, r, rfl, h1, h2⟩ := h
  cases (show r = [] from h2)
  exact ⟨v, rfl, h1⟩
theorem seen2 {d e : D} {vs : List V} (h : SeenL K M G H [d, e] vs) : ∃ v u, vs = [v, u] ∧ Seen K M G H d v ∧ Seen K M G H e u := by
  obtain ⟨v, r, rfl, h1, h2⟩ := h
  obtain ⟨u, r2, rfl, h3, h4⟩ := h2
  cases (show r2 = [] from h4)
  exact ⟨v, u, rfl, h1, h3⟩
theorem c_len : CallS X (.builtin "len") (rFN X.K M W fun ds g => ro (lenD ds) g) := by
  rintro pins s σ H xs us Q I r ⟨g, G, S, ds, m, sd, q⟩
  dsimp only at q
  unfold lenD at q
  split at q
  · rename_i z
    obtain ⟨v, rfl, h1⟩ := seen1 (ds := []) sd
    cases h1.str
    split at q
    · rename_i hl
      exact call_len pins s σ H _ us Q I r ⟨_, _, rfl, ⟨lim_ok hl, rfl⟩, fin_sc q m rfl⟩
    · exact (show False from q).elim
  · rename_i b xs
    obtain ⟨v, rfl, h1⟩ := seen1 (ds := []) sd
    obtain ⟨a, vs, rfl, h2, h3⟩ := h1.lst m.sub
    rw [h3.len] at q
    exact call_len pins s σ H _ us Q I r ⟨_, _, rfl, .inl ⟨vs, h2, rfl⟩, fin_sc q m rfl⟩
  · rename_i xs
    obtain ⟨v, rfl, h1⟩ := seen1 (ds := []) sd
    obtain ⟨a, vs, rfl, h2, h3⟩ := h1.tup m.sub
    rw [h3.len] at q
    exact call_len pins s σ H _ us Q I r ⟨_, _, rfl, .inr ⟨vs, h2, rfl⟩, fin_sc q m rfl⟩
  · exact (show False from q).elim
theorem c_abs : CallS X (.builtin "abs") (rFN X.K M W fun ds g => ro (absD ds) g) := by
  rintro pins s σ H xs us Q I r ⟨g, G, S, ds, m, sd, q⟩
  dsimp only at q
  unfold absD at q
  split at q
  · rename_i i
    obtain ⟨v, rfl, h1⟩ := seen1 (ds := []) sd
    cases h1.int
    exact call_abs pins s σ H _ us Q I r ⟨i, rfl, fin_sc q m rfl⟩
  · exact (show False from q).elim
theorem c_int : CallS X (.type "int") (rFN X.K M W fun ds g => ro (intD ds) g) := by
  rintro pins s σ H xs us Q I r ⟨g, G, S, ds, m, sd, q⟩
  dsimp only at q
  unfold intD at q
  split at q
  · rename_i i
    obtain ⟨v, rfl, h1⟩ := seen1 (ds := []) sd
    cases h1.int
    exact call_int1 pins s σ H _ us Q I r (.inl ⟨i, rfl, fin_sc q m rfl⟩)
  · rename_i b
    obtain ⟨v, rfl, h1⟩ := seen1 (ds := []) sd
    cases h1.bl
    exact call_int1 pins s σ H _ us Q I r (.inr ⟨b, rfl, fin_sc q m rfl⟩)
  · exact (show False from q).elim
theorem c_max (hc : X.calm = true) : CallS X (.builtin "max") (rFN X.K M W fun ds g => ro (maxD ds) g) := by
  rintro pins s σ H xs us Q I r ⟨g, G, S, ds, m, sd, q⟩
  dsimp only at q
  unfold maxD at q
  split at q
  · rename_i i j
    obtain ⟨v, u, rfl, h1, h2⟩ := seen2 sd
    cases h1.int; cases h2.int
    exact call_max2 hc pins s σ H _ us Q I r ⟨i, j, rfl, fin_sc q m rfl⟩
  · rename_i b xs
    obtain ⟨v, rfl, h1⟩ := seen1 (ds := []) sd
    obtain ⟨a, vs, rfl, h2, h3⟩ := h1.lst m.sub
    cases e : intsD xs with
    | none => rw [e] at q; exact (show False from q).elim
    | some ns =>
      rw [e, Option.bind_some] at q
      cases e2 : maxL ns with
      | none => rw [e2] at q; exact (show False from q).elim
      | some k =>
        rw [e2] at q
        cases ints_rep h3 e
        refine cr_max hc pins s σ H _ us Q I r ⟨a, ns, rfl, h2, ?_, fun mm z1 z2 => ?_⟩
        · cases ns with
          | nil => cases e2
          | cons n ns => exact Nat.succ_pos _
        · rw [max_of e2 z1 z2]
          exact fin_sc q m rfl
  · exact (show False from q).elim
theorem c_min (hc : X.calm = true) : CallS X (.builtin "min") (rFN X.K M W fun ds g => ro (minD ds) g) := by
  rintro pins s σ H xs us Q I r ⟨g, G, S, ds, m, sd, q⟩
  dsimp only at q
  unfold minD at q
  split at q
  · rename_i i j
    obtain ⟨v, u, rfl, h1, h2⟩ := seen2 sd
    cases h1.int; cases h2.int
    exact call_min2 hc pins s σ H _ us Q I r ⟨i, j, rfl, fin_sc q m rfl⟩
  · rename_i b xs
    obtain ⟨v, rfl, h1⟩ := seen1 (ds := []) sd
    obtain ⟨a, vs, rfl, h2, h3⟩ := h1.lst m.sub
    cases e : intsD xs with
    | none => rw [e] at q; exact (show False from q).elim
    | some ns =>
      rw [e, Option.bind_some] at q
      cases e2 : minL ns with
      | none => rw [e2] at q; exact (show False from q).elim
      | some k =>
        rw [e2] at q
        cases ints_rep h3 e
        refine cr_min hc pins s σ H _ us Q I r ⟨a, ns, rfl, h2, ?_, fun mm z1 z2 => ?_⟩
        · cases ns with
          | nil => cases e2
          | cons n ns => exact Nat.succ_pos _
        · rw [min_of e2 z1 z2]
          exact fin_sc q m rfl
  · exact (show False from q).elim
theorem c_sum (hc : X.calm = true) : CallS X (.builtin "sum") (rFN X.K M W fun ds g => ro (sumD ds) g) := by
  rintro pins s σ H xs us Q I r ⟨g, G, S, ds, m, sd, q⟩
  dsimp only at q
  unfold sumD at q
  split at q
  · rename_i b xs
    obtain ⟨v, rfl, h1⟩ := seen1 (ds := []) sd
    obtain ⟨a, vs, rfl, h2, h3⟩ := h1.lst m.sub
    cases e : intsD xs with
    | none => rw [e] at q; exact (show False from q).elim
    | some ns =>
      rw [e] at q
      cases ints_rep h3 e
      exact cr_sum hc pins s σ H _ us Q I r ⟨a, ns, rfl, h2, fin_sc q m rfl⟩
  · exact (show False from q).elim
theorem c_all (hc : X.calm = true) : CallS X (.builtin "all") (rFN X.K M W fun ds g => ro (allD ds) g) := by
  rintro pins s σ H xs us Q I r ⟨g, G, S, ds, m, sd, q⟩
  dsimp only at q
  unfold allD at q
  split at q
  · rename_i b xs
    obtain ⟨v, rfl, h1⟩ := seen1 (ds := []) sd
    obtain ⟨a, vs, rfl, h2, h3⟩ := h1.lst m.sub
    cases e : blsD xs with
    | none => rw [e] at q; exact (show False from q).elim
    | some ns =>
      rw [e] at q
      cases bls_rep h3 e
      exact cr_all hc pins s σ H _ us Q I r ⟨a, ns, rfl, h2, fin_sc q m rfl⟩
  · exact (show False from q).elim
theorem c_any (hc : X.calm = true) : CallS X (.builtin "any") (rFN X.K M W fun ds g => ro (anyD ds) g) := by
  rintro pins s σ H xs us Q I r ⟨g, G, S, ds, m, sd, q⟩
  dsimp only at q
  unfold anyD at q
  split at q
  · rename_i b xs
    obtain ⟨v, rfl, h1⟩ := seen1 (ds := []) sd
    obtain ⟨a, vs, rfl, h2, h3⟩ := h1.lst m.sub
    cases e : blsD xs with
    | none => rw [e] at q; exact (show False from q).elim
    | some ns =>
      rw [e] at q
      cases bls_rep h3 e
      exact cr_any hc pins s σ H _ us Q I r ⟨a, ns, rfl, h2, fin_sc q m rfl⟩
  · exact (show False from q).elim
theorem c_list : CallS X (.type "list") (rFN X.K M W fun ds g => ro (listD ds) g) := by
  rintro pins s σ H xs us Q I r ⟨g, G, S, ds, m, sd, q⟩
  dsimp only at q
  unfold listD at q
  split at q
  · rename_i b xs
    obtain ⟨v, rfl, h1⟩ := seen1 (ds := []) sd
    obtain ⟨a, vs, rfl, h2, h3⟩ := h1.lst m.sub
    exact call_list_of pins s σ H _ us Q I r ⟨a, vs, rfl, .inl h2, fun p hp => fin_lst q m h3 p hp⟩
  · rename_i xs
    obtain ⟨v, rfl, h1⟩ := seen1 (ds := []) sd
    obtain ⟨a, vs, rfl, h2, h3⟩ := h1.tup m.sub
    exact call_list_of pins s σ H _ us Q I r ⟨a, vs, rfl, .inr h2, fun p hp => fin_lst q m h3 p hp⟩
  · exact (show False from q).elim
theorem c_tup : CallS X (.type "tuple") (rFN X.K M W fun ds g => ro (tupD ds) g) := by
  rintro pins s σ H xs us Q I r ⟨g, G, S, ds, m, sd, q⟩
  dsimp only at q
  unfold tupD at q
  split at q
  · rename_i b xs
    obtain ⟨v, rfl, h1⟩ := seen1 (ds := []) sd
    obtain ⟨a, vs, rfl, h2, h3⟩ := h1.lst m.sub
    exact call_tuple_of pins s σ H _ us Q I r ⟨a, vs, rfl, .inl ⟨h2, fun p hp => fin_tup q m h3 p hp⟩⟩
  · rename_i xs
    obtain ⟨v, rfl, h1⟩ := seen1 (ds := []) sd
    have rt := h1.tupR
    obtain ⟨a, vs, rfl, h2, h3⟩ := h1.tup m.sub
    exact call_tuple_of pins s σ H _ us Q I r ⟨a, vs, rfl, .inr ⟨h2, fin_sc q m rt⟩⟩
  · exact (show False from q).elim
end
end PI

set_option Elab.async false
set_option linter.all false
set_option maxRecDepth 100000
set_option maxHeartbeats 1000000
namespace PI
open PySem PySem.Spec PyProof.Rows L2
open PySem.W (Frag InstAt findIn isFn selfFirst subIn Looks)
/-! ### repr, sorted, isinstance -/
def reprA : List D → Option D
  | [.int i] => if i.natAbs.log2 < 1920 then some (.str (toString i)) else none
  | [.lst b xs] => ((pyOf (.lst b xs)).bind reprP).map .str
  | [.tup xs] => ((pyOf (.tup xs)).bind reprP).map .str
  | _ => none
section
variable {K : Frag} {M : Memo} {W : WX} {X : Cx} {σ : L2.St} {H H0 G G0 H1 G1 : Hp} {S S0 S1 : Nat → Addr → Prop} {g g1 : Sg} {Q : VK} {pos p2 : Pos} {pins : List (Addr × Obj)} {s : Shared}
theorem repr_ref {d : D} {p : PyData} {x : Str} {a : Addr} {u : Value} (hu : X.A.units + 64 < cLine) (gu : X.A.guards = some []) (I : Inv X pins σ H s) (m : Mt X.K M g σ H G S) (sd : Seen X.K M G H d (.ref a)) (rx : RelV (.ref a) u) (e : pyOf d = some p) (e2 : reprP p = some x) (q : EndE X.K M W σ H G S (.ok (.str x) g) Q) :
    wpAny (model X.prog X.w) X.A (call (.builtin "repr") [u]) (EP X pins σ Q) X.xe s := by
  cases rx
  unfold reprP at e2
  split at e2
  · rename_i hc
    obtain ⟨h1, h2, h3, h4⟩ := hc
    cases e2
    obtain ⟨as, r⟩ := Dp.reads I p (.ref a) (.ref a) (sd.dp m.sub e) rfl
    exact repr_of_reads' r h1 (fun z => by rw [h2] at z; cases z) gu (by omega) (fun _ _ z => z) (fun h' u tk hk => ⟨.str _, H, I.kept hk, ⟨u, rfl⟩, fin_sc q m rfl⟩) (lim_ok h4)
  · cases e2
theorem c_repr (hu : X.A.units + 64 < cLine) (gu : X.A.guards = some []) : CallS X (.builtin "repr") (rFN X.K M W fun ds g => ro (reprA ds) g) := by
  rintro pins s σ H xs us Q I r ⟨g, G, S, ds, m, sd, q⟩
  dsimp only at q
  unfold reprA at q
  split at q
  · rename_i i
    obtain ⟨v, rfl, h1⟩ := seen1 (ds := []) sd
    cases h1.int
    split at q
    · rename_i hl
      exact SkE.call_repr_int pins s σ H _ us Q I r ⟨i, rfl, hl, fin_sc q m rfl⟩
    · exact (show False from q).elim
  · rename_i b xs
    obtain ⟨v, rfl, h1⟩ := seen1 (ds := []) sd
    obtain ⟨a, vs, rfl, h2, h3⟩ := id (h1.lst m.sub)
    cases e : pyOf (.lst b xs) with
    | none => rw [e] at q; exact (show False from q).elim
    | some p =>
      rw [e, Option.bind_some] at q
      cases e2 : reprP p with
      | none => rw [e2] at q; exact (show False from q).elim
      | some x =>
        rw [e2] at q
        cases r with
        | cons r rr =>
          cases rr
          exact repr_ref hu gu I m h1 r e e2 q
  · rename_i xs
    obtain ⟨v, rfl, h1⟩ := seen1 (ds := []) sd
    obtain ⟨a, vs, rfl, h2, h3⟩ := id (h1.tup m.sub)
    cases e : pyOf (.tup xs) with
    | none => rw [e] at q; exact (show False from q).elim
    | some p =>
      rw [e, Option.bind_some] at q
      cases e2 : reprP p with
      | none => rw [e2] at q; exact (show False from q).elim
      | some x =>
        rw [e2] at q
        cases r with
        | cons r rr =>
          cases rr
          exact repr_ref hu gu I m h1 r e e2 q
  · exact (show False from q).elim
end
/-! sorted -/
def sortI (ns : List Int) : List Int := ns.foldr insI []
def leS (x y : Str) : Bool := !ltS y x
theorem insI_perm (x : Int) : ∀ ys, (insI x ys).Perm (x :: ys)
  | [] => List.Perm.refl _
  | y :: ys => by
    unfold insI
    split
    · exact ((insI_perm x ys).cons y).trans (List.Perm.swap x y ys)
    · exact List.Perm.refl _
theorem sortI_perm : ∀ ns : List Int, (sortI ns).Perm ns
  | [] => List.Perm.refl _
  | n :: ns => (insI_perm n (sortI ns)).trans ((sortI_perm ns).cons n)
theorem insI_rise (x : Int) : ∀ ys : List Int, ys.Pairwise (· ≤ ·) → (insI x ys).Pairwise (· ≤ ·)
  | [], _ => List.pairwise_singleton _ _
  | y :: ys, h => by
    obtain ⟨h1, h2⟩ := List.pairwise_cons.mp h
    unfold insI
    split
    · rename_i c
      refine List.pairwise_cons.mpr ⟨fun z hz => ?_, insI_rise x ys h2⟩
      rcases List.mem_cons.mp ((insI_perm x ys).mem_iff.mp hz) with e | e
      · omega
      · exact h1 z e
    · rename_i c
      refine List.pairwise_cons.mpr ⟨fun z hz => ?_, h⟩
      rcases List.mem_cons.mp hz with e | e
      · omega
      · have := h1 z e; omega
theorem sortI_rise : ∀ ns : List Int, (sortI ns).Pairwise (· ≤ ·)
  | [] => List.Pairwise.nil
  | n :: ns => insI_rise n _ (sortI_rise ns)
theorem sortI_eq {ns ms : List Int} (p : ms.Perm ns) (h : ms.Pairwise (· ≤ ·)) : ms = sortI ns :=
  List.Perm.eq_of_pairwise (le := (· ≤ ·)) (fun _ _ _ _ a b => Int.le_antisymm a b) h (sortI_rise ns) (p.trans (sortI_perm ns).symm)
/-! texts -/
def sortS (xs : List Str) : List Str := xs.foldr insS []
theorem ltS_irr (x : Str) : ltS x x = false := decide_eq_false (List.lt_irrefl _)
theorem leS_trans {x y z : Str} (a : leS x y = true) (b : leS y z = true) : leS x z = true := by
  unfold leS ltS at *
  rw [Bool.not_eq_true', decide_eq_false_iff_not] at *
  rw [List.not_lt] at *
  exact List.le_trans a b
theorem leS_tot {x y : Str} (a : ltS x y = true) : leS x y = true := by
  unfold leS ltS at *
  rw [Bool.not_eq_true', decide_eq_false_iff_not]
  exact List.lt_asymm (of_decide_eq_true a)
theorem leS_anti {x y : Str} (a : leS x y = true) (b : leS y x = true) : x = y := by
  unfold leS ltS at *
  rw [Bool.not_eq_true', decide_eq_false_iff_not] at *
  rw [List.not_lt] at *
  have := List.le_antisymm a b
  obtain ⟨⟨x⟩⟩ := x
  obtain ⟨⟨y⟩⟩ := y
  cases this
  rfl
theorem insS_perm (x : Str) : ∀ ys, (insS x ys).Perm (x :: ys)
  | [] => List.Perm.refl _
  | y :: ys => by
    unfold insS
    split
    · exact ((insS_perm x ys).cons y).trans (List.Perm.swap x y ys)
    · exact List.Perm.refl _
theorem sortS_perm : ∀ ns : List Str, (sortS ns).Perm ns
  | [] => List.Perm.refl _
  | n :: ns => (insS_perm n (sortS ns)).trans ((sortS_perm ns).cons n)
theorem insS_rise (x : Str) : ∀ ys : List Str, ys.Pairwise (fun a b => leS a b = true) → (insS x ys).Pairwise (fun a b => leS a b = true)
  | [], _ => List.pairwise_singleton _ _
  | y :: ys, h => by
    obtain ⟨h1, h2⟩ := List.pairwise_cons.mp h
    unfold insS
    split
    · rename_i c
      refine List.pairwise_cons.mpr ⟨fun z hz => ?_, insS_rise x ys h2⟩
      rcases List.mem_cons.mp ((insS_perm x ys).mem_iff.mp hz) with e | e
      · rw [e]; exact leS_tot c
      · exact h1 z e
    · rename_i c
      have c : leS x y = true := by unfold leS; cases q : ltS y x with
        | true => exact (c q).elim
        | false => rfl
      refine List.pairwise_cons.mpr ⟨fun z hz => ?_, h⟩
      rcases List.mem_cons.mp hz with e | e
      · rw [e]; exact c
      · exact leS_trans c (h1 z e)
theorem sortS_rise : ∀ ns : List Str, (sortS ns).Pairwise (fun a b => leS a b = true)
  | [] => List.Pairwise.nil
  | n :: ns => insS_rise n _ (sortS_rise ns)
theorem sortS_eq {ns ms : List Str} (p : ms.Perm ns) (h : ms.Pairwise (fun a b => leS a b = true)) : ms = sortS ns :=
  List.Perm.eq_of_pairwise (le := fun a b => leS a b = true) (fun _ _ _ _ a b => leS_anti a b) h (sortS_rise ns) (p.trans (sortS_perm ns).symm)
theorem ltCps_eq : ∀ a b : List Nat, ltCps a b = decide (a < b)
  | [], [] => rfl
  | [], y :: b => rfl
  | x :: a, [] => rfl
  | x :: a, y :: b => by
    show (decide (x < y) || (x == y && ltCps a b)) = _
    rw [ltCps_eq a b, Bool.eq_iff_iff, decide_eq_true_eq, List.cons_lt_cons_iff]
    simp
theorem rise_of : ∀ (xs : List Str) (x : Str), risingS x xs = true → (x :: xs).Pairwise (fun a b => leS a b = true)
  | [], x, _ => List.pairwise_singleton _ _
  | y :: ys, x, h => by
    obtain ⟨h1, h2⟩ := Bool.and_eq_true_iff.mp (show (!ltCps y.cps.toList x.cps.toList && risingS y ys) = true from h)
    have h1 : leS x y = true := by
      unfold leS ltS
      rw [← ltCps_eq]
      exact h1
    have ih := rise_of ys y h2
    refine List.pairwise_cons.mpr ⟨fun z hz => ?_, ih⟩
    rcases List.mem_cons.mp hz with e | e
    · rw [e]; exact h1
    · exact leS_trans h1 ((List.pairwise_cons.mp ih).1 z e)
theorem sortedS_of {xs : List Str} (h : sortedS xs = true) : xs.Pairwise (fun a b => leS a b = true) := by
  cases xs with
  | nil => exact List.Pairwise.nil
  | cons x xs => exact rise_of xs x h
def sortD : List D → Option D
  | [.lst _ xs] => if xs.length < 64 then (match intsD xs with
    | some ns => some (.lst true ((sortI ns).map .int))
    | none => (strsD xs).map fun ns => .lst true ((sortS ns).map .str)) else none
  | _ => none
section
variable {K : Frag} {M : Memo} {W : WX} {X : Cx} {σ : L2.St} {H H0 G G0 H1 G1 : Hp} {S S0 S1 : Nat → Addr → Prop} {g g1 : Sg} {Q : VK} {pos p2 : Pos} {pins : List (Addr × Obj)} {s : Shared}
theorem c_sorted : CallS X (.builtin "sorted") (rFN X.K M W fun ds g => ro (sortD ds) g) := by
  rintro pins s σ H xs us Q I r ⟨g, G, S, ds, m, sd, q⟩
  dsimp only at q
  unfold sortD at q
  split at q
  · rename_i b xs
    obtain ⟨v, rfl, h1⟩ := seen1 (ds := []) sd
    obtain ⟨a, vs, rfl, h2, h3⟩ := h1.lst m.sub
    split at q
    · rename_i hl
      cases e : intsD xs with
      | some ns =>
        rw [e] at q
        have l := h3.len
        cases ints_rep h3 e
        rw [List.length_map] at l
        refine cr_sorted pins s σ H _ us Q I r ⟨a, ns, rfl, h2, by rw [← l]; exact hl, fun ms p z1 z2 hp => ?_⟩
        rw [sortI_eq z1 z2]
        exact fin_lst q m (rep_ints _) p hp
      | none =>
        rw [e] at q
        cases e2 : strsD xs with
        | none => rw [e2] at q; exact (show False from q).elim
        | some ns =>
          rw [e2] at q
          have l := h3.len
          cases strs_rep h3 e2
          rw [List.length_map] at l
          refine cr_sortedS pins s σ H _ us Q I r ⟨a, ns, rfl, h2, by rw [← l]; exact hl, fun ms p z1 z2 hp => ?_⟩
          rw [sortS_eq z1 (sortedS_of z2)]
          exact fin_lst q m (rep_strs _) p hp
    · exact (show False from q).elim
  · exact (show False from q).elim
/-! isinstance(e, C), C an own class -/
def isS (tab : List (Str × Bool)) : D → Option Bool
  | .obj _ c _ _ => tab.lookup c
  | .non | .bl _ | .int _ | .str _ | .lst _ _ | .tup _ | .dic .. => some false
structure IsOk (K : Frag) (tab : List (Str × Bool)) (C : Addr) : Prop where
  obj : ∀ c b, tab.lookup c = some b → Cls K (He.ga K c) ∧ findIn K (.ref (He.ga K c)) "__class__" = some (some (.builtin "object.__class__")) ∧ PySem.W.mroIn K (He.ga K c) (.type "object") = some true ∧ PySem.W.kitOne K (.ref (He.ga K c)) (.ref C) = some b
  sp : PySem.W.specialIn K (.builtin "object.__class__") "__get__" = some (some (.builtin "getset_descriptor.__get__"))
  tk : PySem.W.takesIn K (.builtin "object.__class__") = some true
  oth : ∀ T ∈ ["NoneType", "bool", "int", "str", "list", "tuple", "dict"], PySem.W.kitOne K (.type T) (.ref C) = some false
theorem sq_tyL {H : Hp} {a : Addr} {vs : List V} (h : SqL K H a vs) : TyX K H (.ref a) (.type "list") := by
  rcases h with (h | ⟨o, h⟩) | ⟨o, its, n, hk, hc, _⟩
  · exact .base (.lst h)
  · exact .base (.frz h)
  · exact .kList hk hc
theorem sq_tyT {H : Hp} {a : Addr} {vs : List V} (h : SqT K H a vs) : TyX K H (.ref a) (.type "tuple") := by
  rcases h with (h | ⟨o, h⟩) | ⟨o, its, n, hk, hc, _⟩
  · exact .base (.tup h)
  · exact .fTuple h
  · exact .kTuple hk hc
theorem is_ty {tab : List (Str × Bool)} {C : Addr} {d : D} {v : V} {b : Bool} (T : IsOk K tab C) (sd : Seen K M G H d v) (sb : Sub G H) (e : isS tab d = some b) : ∃ t, TyX K H v t ∧ PySem.W.kitOne K t (.ref C) = some b := by
  cases d with
  | non => cases e; cases sd.non; exact ⟨_, .base .non, T.oth _ (by decide)⟩
  | bl x => cases e; cases sd.bl; exact ⟨_, .base (.bl x), T.oth _ (by decide)⟩
  | int x => cases e; cases sd.int; exact ⟨_, .base (.int x), T.oth _ (by decide)⟩
  | str x => cases e; cases sd.str; exact ⟨_, .base (.str x), T.oth _ (by decide)⟩
  | lst m xs => cases e; obtain ⟨a, vs, rfl, h1, _⟩ := sd.lst sb; exact ⟨_, sq_tyL h1, T.oth _ (by decide)⟩
  | tup xs => cases e; obtain ⟨a, vs, rfl, h1, _⟩ := sd.tup sb; exact ⟨_, sq_tyT h1, T.oth _ (by decide)⟩
  | dic m ks ds => cases e; obtain ⟨a, vs, rfl, h1, _⟩ := sd.dic sb; exact ⟨_, .base (.dK h1), T.oth _ (by decide)⟩
  | obj m c ns ds =>
    obtain ⟨a, dx, vs, rfl, h1, _⟩ := sd.obj sb
    obtain ⟨t1, t2, t3, t4⟩ := T.obj c b e
    exact ⟨_, .base (.ins h1 t1 t2 T.sp T.tk t3), t4⟩
theorem pe_Isi {tab : List (Str × Bool)} {x c : Str} {C : Addr} {p p3 : Pos} {e : Expr} {oa : Op} (T : IsOk X.K tab C) (hg : Gl X "isinstance") (hm : X.mg "isinstance" = none) (hg2 : Gl X c) (hm2 : X.mg c = some (.ref C)) (he : PE X e (tO X.K M W oa)) (hs : noStar e = true) (hdb : (c == ("__debug__" : Str)) = false) :
    PE X (.Call (.Name "isinstance" p) [e, .Name c p3] [] pos) (tP X.K M W (pOp1 (fun d g => rb (isS tab d) g) oa)) := by
  refine ⟨fun pins s σ H Q I q => ?_⟩
  have hst : starEach [e, .Name c p3] X.env = (false, eval e X.env) :: starEach [.Name c p3] X.env := star_of hs
  refine wpAny_Call_Name_kw (ld_blt I hg hm PyProof.Rows.Boot.«isinstance» (PyProof.Rows.callWith_builtin1 (Q := EP X pins σ Q) ?_ hst rfl))
  rw [hst]
  refine Calls.spliced_cons (thn (he.run pins s σ H _ I (op1_t q)) fun v s1 ⟨y, H1, I1, r1, g, G, S, d, m, sd, q⟩ => ?_)
  refine Calls.spliced_cons (ld_glob I1 hg2 hm2 (Calls.spliced_nil ?_) hdb)
  dsimp only at q
  cases e2 : isS tab d with
  | none => rw [e2] at q; exact (show False from q).elim
  | some b =>
    rw [e2] at q
    obtain ⟨t, t1, t2⟩ := is_ty T sd m.sub e2
    exact call_isi pins s1 σ H1 [y, .ref C] [v, .ref C] Q I1 (.cons r1 (.cons rfl .nil)) ⟨y, .ref C, t, .ref C, b, rfl, .own C, t1, t2, fin_sc q m rfl⟩
end
end PI

set_option Elab.async false
set_option linter.all false
set_option maxRecDepth 100000
set_option maxHeartbeats 1000000
namespace PI
open PySem PySem.Spec PyProof.Rows L2
open PySem.W (Frag InstAt findIn isFn selfFirst subIn Looks)
/-! ### comprehensions -/
def wipeG (vs : List Nat) (g : Sg) : Sg := vs.foldl (fun g i => g.set i none) g
def freeG (vs : List Nat) (g : Sg) : Bool := vs.all fun i => match g[i]? with
  | some (some _) => false
  | _ => true
def pYes : PT' := fun g => .ok true g
def lcD (tg : Tg) (c : PT') (e : PX) (vs : List Nat) : List D → List D → Sg → Rs (List D)
  | [], acc, g => .ok acc g
  | d :: ds, acc, g => match asg tg d g with
    | none => .bad
    | some g1 => (match c g1 with
      | .ok true g2 => (match e g2 with
        | .ok y g3 => if acc.length < lim then lcD tg c e vs ds (acc ++ [sealD y]) (wipeG vs g3) else .bad
        | _ => .bad)
      | .ok false g2 => lcD tg c e vs ds acc (wipeG vs g2)
      | _ => .bad)
def pLc (it : PIt) (tg : Tg) (c : PT') (e : PX) (vs : List Nat) : PX := fun g => (it g).bind fun ds g1 => if freeG vs g1 = true then (lcD tg c e vs ds [] g1).bind fun acc g2 => .ok (.lst true acc) g2 else .bad
section
variable {K : Frag} {M : Memo} {W : WX} {X : Cx} {σ : L2.St} {H H0 G G0 H1 G1 : Hp} {S S0 S1 : Nat → Addr → Prop} {g g1 : Sg} {Q : VK} {pos p2 : Pos} {vs : List Nat}
theorem takes0 {X : Cx} : Takes X W0 := fun u s' ⟨_, _, _, _, _, _, _, _, _, _, _, _, _, _, _, _, w⟩ => w.elim
/-- an object that lies apart -/
def Ap (M : Memo) (G H : Hp) (S : Nat → Addr → Prop) (p : Addr) (o : HO) : Prop := H p = some o ∧ G p = none ∧ ¬ Vl M G S p
theorem Ap.stp {p : Addr} {o : HO} (a : Ap M G H S p o) (st : Stp M H G S H1 G1 S1) : Ap M G1 H1 S1 p o := by
  obtain ⟨h1, h2, h3⟩ := a
  refine ⟨st.fr p o h1 h3, ?_, st.apart h1 h3⟩
  cases q : G1 p with
  | none => rfl
  | some u =>
    rcases st.fg p u q with z | z | z
    · rw [h2] at z; cases z
    · rw [h1] at z; cases z
    · exact (h3 z).elim
/-- it is written -/
theorem Mt.put {p : Addr} {o o' : HO} (m : Mt K M g σ H G S) (a : Ap M G H S p o) : Mt K M g σ (L2.upd H p o') G S := by
  obtain ⟨h1, h2, h3⟩ := a
  have keep : ∀ b v, b ≠ p → H b = some v → L2.upd H p o' b = some v := fun b v hb q => by rw [upd_ne hb]; exact q
  refine ⟨m.len, fun i d e => ?_, m.nil, m.dis, fun b v q => keep b v (fun z => by rw [z, h2] at q; cases q) (m.sub b v q), ?_, m.vol⟩
  · obtain ⟨v, ev, ow⟩ := m.own i d e
    exact ⟨v, ev, ow.keep (Sub.refl _) (fun b v sb q => keep b v (fun z => h3 (.inl ⟨i, z ▸ sb⟩)) q) fun b sb => (ow.there sb).2⟩
  · exact M.keep G H _ _ m.mem (Sub.refl _) (fun x u e => .inl e) fun b v q hv => keep b v (fun z => h3 (.inr (z ▸ hv))) q
theorem Stp.put {p : Addr} {o' : HO} (st : Stp M H0 G0 S0 H G S) (hp : H0 p = none) : Stp M H0 G0 S0 (L2.upd H p o') G S := by
  have keep : ∀ b v, b ≠ p → H b = some v → L2.upd H p o' b = some v := fun b v hb q => by rw [upd_ne hb]; exact q
  refine ⟨st.gr, fun b v q z => keep b v (fun e => by rw [e, hp] at q; cases q) (st.fr b v q z), fun b v q => ?_, st.vl, st.fg⟩
  obtain ⟨v', q'⟩ := st.th b v q
  exact ⟨v', keep b v' (fun e => by rw [e, hp] at q; cases q) q'⟩
theorem wipe_at {σ : L2.St} {i : Nat} : ∀ {vs : List Nat}, i ∉ vs → (wipe σ vs)[i]? = σ[i]?
  | [], _ => rfl
  | v :: vs, h => by
    rw [List.mem_cons, not_or] at h
    show ((wipe σ vs).set v none)[i]? = _
    rw [List.getElem?_set_ne (Ne.symm h.1), wipe_at h.2]
theorem free_at {i : Nat} (h : freeG vs g = true) (hi : i ∈ vs) : ∀ d, g[i]? ≠ some (some d) := fun d e => by
  have := List.all_eq_true.mp h i hi
  rw [e] at this
  cases this
theorem Mt.wipe (m : Mt K M g σ H G S) (h : freeG vs g = true) : Mt K M g (wipe σ vs) H G S := by
  refine ⟨by rw [wipe_length]; exact m.len, fun i d e => ?_, m.nil, m.dis, m.sub, m.mem, m.vol⟩
  obtain ⟨v, ev, ow⟩ := m.own i d e
  exact ⟨v, by rw [wipe_at fun z => free_at h z d e]; exact ev, ow⟩
theorem Mt.unwipe (m : Mt K M g (L2.wipe σ vs) H G S) (h : freeG vs g = true) : Mt K M g σ H G S := by
  refine ⟨by rw [← wipe_length σ vs]; exact m.len, fun i d e => ?_, m.nil, m.dis, m.sub, m.mem, m.vol⟩
  obtain ⟨v, ev, ow⟩ := m.own i d e
  exact ⟨v, by rw [← wipe_at (vs := vs) fun z => free_at h z d e]; exact ev, ow⟩
/-- slots given up; what stood in them no longer matters -/
theorem Mt.shed1 {i : Nat} {x : Option V} (m : Mt K M g σ H G S) : ∃ S', Mt K M (g.set i none) (σ.set i x) H G S' ∧ ∀ a, Vl M G S' a → Vl M G S a := by
  refine ⟨fun j a => j ≠ i ∧ S j a, ⟨by rw [List.length_set, List.length_set]; exact m.len, fun j e' h => ?_, fun j q a z => ?_, fun j k a z z' => m.dis j k a z.2 z'.2, m.sub, m.mem, fun j a z => m.vol j a z.2⟩, fun a z => ?_⟩
  · by_cases hj : j = i
    · subst hj
      by_cases hl : j < g.length
      · rw [List.getElem?_set_self hl] at h; cases h
      · rw [List.getElem?_eq_none (by rw [List.length_set]; omega)] at h; cases h
    · rw [List.getElem?_set_ne (Ne.symm hj)] at h
      obtain ⟨w, e1, o⟩ := m.own j e' h
      have q2 : (fun b => j ≠ i ∧ S j b) = S j := funext fun b => propext ⟨fun z => z.2, fun z => ⟨hj, z⟩⟩
      exact ⟨w, by rw [List.getElem?_set_ne (Ne.symm hj)]; exact e1, by rw [q2]; exact o⟩
  · rw [List.getElem?_set_ne (Ne.symm z.1)] at q
    exact m.nil j q a z.2
  · rcases z with ⟨j, hj, z⟩ | z
    · exact .inl ⟨j, z⟩
    · exact .inr z
theorem wipeG_len : ∀ (vs : List Nat) (g : Sg), (wipeG vs g).length = g.length
  | [], g => rfl
  | v :: vs, g => by
    show (wipeG vs (g.set v none)).length = _
    rw [wipeG_len, List.length_set]
theorem wipeG_none : ∀ (vs : List Nat) (g : Sg) (i : Nat), (∀ d, g[i]? ≠ some (some d)) → ∀ d, (wipeG vs g)[i]? ≠ some (some d)
  | [], g, i, h => h
  | v :: vs, g, i, h => wipeG_none vs (g.set v none) i fun d e => by
    by_cases hj : i = v
    · subst hj
      by_cases hl : i < g.length
      · rw [List.getElem?_set_self hl] at e; cases e
      · rw [List.getElem?_eq_none (by rw [List.length_set]; omega)] at e; cases e
    · rw [List.getElem?_set_ne (Ne.symm hj)] at e
      exact h d e
theorem wipeG_free : ∀ (vs : List Nat) (g : Sg) (i : Nat), i ∈ vs → ∀ d, (wipeG vs g)[i]? ≠ some (some d)
  | v :: vs, g, i, h => by
    rcases List.mem_cons.mp h with h | h
    · subst h
      refine wipeG_none vs (g.set i none) i fun d e => ?_
      by_cases hl : i < g.length
      · rw [List.getElem?_set_self hl] at e; cases e
      · rw [List.getElem?_eq_none (by rw [List.length_set]; omega)] at e; cases e
    · exact wipeG_free vs (g.set v none) i h
theorem wipe_free (vs : List Nat) (g : Sg) : freeG vs (wipeG vs g) = true := by
  refine List.all_eq_true.mpr fun i hi => ?_
  have h := wipeG_free vs g i hi
  split
  · rename_i d e
    exact (h d e).elim
  · rfl
def wipe2 (σ : L2.St) : List Nat → L2.St
  | [] => σ
  | v :: vs => wipe2 (σ.set v none) vs
theorem Mt.shed : ∀ (vs : List Nat) {g : Sg} {σ2 : L2.St} {S : Nat → Addr → Prop}, Mt K M g σ2 H G S → ∃ S', Mt K M (wipeG vs g) (wipe2 σ2 vs) H G S' ∧ ∀ a, Vl M G S' a → Vl M G S a
  | [], g, σ2, S, m => ⟨S, m, fun a z => z⟩
  | v :: vs, g, σ2, S, m => by
    obtain ⟨S1, m1, h1⟩ := m.shed1 (i := v) (x := none)
    obtain ⟨S2, m2, h2⟩ := Mt.shed vs m1
    exact ⟨S2, m2, fun a z => h1 a (h2 a z)⟩
theorem wipe2_eq (σ : L2.St) : ∀ vs : List Nat, wipe2 σ vs = wipe σ vs := by
  have key : ∀ (vs : List Nat) (σ : L2.St) (v : Nat), (wipe σ vs).set v none = wipe (σ.set v none) vs := by
    intro vs
    induction vs with
    | nil => intro σ v; rfl
    | cons w vs ih =>
      intro σ v
      show ((wipe σ vs).set w none).set v none = (wipe (σ.set v none) vs).set w none
      rw [← ih]
      by_cases h : w = v
      · subst h; rfl
      · rw [List.set_comm _ _ h]
  intro vs
  induction vs generalizing σ with
  | nil => rfl
  | cons v vs ih =>
    show wipe2 (σ.set v none) vs = (wipe σ vs).set v none
    rw [ih, key]
theorem Stp.less {S' : Nat → Addr → Prop} (st : Stp M H0 G0 S0 H G S) (h : ∀ a, Vl M G S' a → Vl M G S a) : Stp M H0 G0 S0 H G S' := ⟨st.gr, st.fr, st.th, fun a z => st.vl a (h a z), st.fg⟩
theorem Ap.less {S' : Nat → Addr → Prop} {p : Addr} {o : HO} (a : Ap M G H S p o) (h : ∀ a, Vl M G S' a → Vl M G S a) : Ap M G H S' p o := ⟨a.1, a.2.1, fun z => a.2.2 (h p z)⟩
/-- what a target stores is no other slot's -/
def tgIn (vs : List Nat) : Tg → Prop
  | .nm i => i ∈ vs
  | .tp is => ∀ i ∈ is, i ∈ vs
theorem wipe_set {i : Nat} {x : Option V} : ∀ {vs : List Nat} {σ : L2.St}, i ∈ vs → wipe (σ.set i x) vs = wipe σ vs
  | v :: vs, σ, h => by
    show (wipe (σ.set i x) vs).set v none = (wipe σ vs).set v none
    by_cases hi : i ∈ vs
    · rw [wipe_set hi]
    · have hv : i = v := by
        rcases List.mem_cons.mp h with z | z
        · exact z
        · exact (hi z).elim
      subst hv
      rw [← wipe_out hi, List.set_set]
where
  wipe_out {i : Nat} {x : Option V} : ∀ {vs : List Nat} {σ : L2.St}, i ∉ vs → (wipe σ vs).set i x = wipe (σ.set i x) vs
  | [], σ, h => rfl
  | v :: vs, σ, h => by
    rw [List.mem_cons, not_or] at h
    show ((wipe σ vs).set v none).set i x = (wipe (σ.set i x) vs).set v none
    rw [← wipe_out h.2, List.set_comm _ _ (Ne.symm h.1)]
theorem wipe_sets : ∀ {is : List Nat} {xs : List V} {σ : L2.St}, (∀ i ∈ is, i ∈ vs) → wipe (sets is xs σ) vs = wipe σ vs
  | [], xs, σ, h => by cases xs <;> rfl
  | i :: is, [], σ, h => rfl
  | i :: is, x :: xs, σ, h => by
    show wipe (sets is xs (σ.set i (some x))) vs = _
    rw [wipe_sets fun j hj => h j (List.mem_cons_of_mem _ hj), wipe_set (h i (List.mem_cons_self ..))]
theorem asg_w {tg : Tg} {d : D} {v : V} {g' : Sg} {Q : L2.St → Hp → Prop} (ht : tgIn vs tg) (e : asg tg d g = some g') (m : Mt K M g σ H G S) (r : Rep K G d v) (st : Stp M H0 G0 S0 H G S) (q : ∀ σ' S', wipe σ' vs = wipe σ vs → Mt K M g' σ' H G S' → Stp M H0 G0 S0 H G S' → (∀ a, Vl M G S' a → Vl M G S a) → Q σ' H) : gP K tg v σ H Q := by
  have q : ∀ σ' S', wipe σ' vs = wipe σ vs → Mt K M g' σ' H G S' → Stp M H0 G0 S0 H G S' → (∀ a, Vl M G S' a → Vl M G S a) → Q σ' H := q
  cases tg with
  | nm i =>
    have e : (if i < g.length then some (g.set i (some d)) else none) = some g' := e
    split at e
    · rename_i hl
      cases e
      refine q _ _ (wipe_set ht) (m.set (Own.of r) (fun a z => z.elim) hl) (st.set fun a z => z.elim) fun a z => ?_
      rcases z with ⟨j, ⟨_, z⟩ | ⟨_, z⟩⟩ | z
      · exact z.elim
      · exact .inl ⟨j, z⟩
      · exact .inr z
    · cases e
  | tp is =>
    have e : ((seqD d).bind fun xs => setAll is xs g) = some g' := e
    cases e1 : seqD d with
    | none => rw [e1] at e; cases e
    | some xs =>
      rw [e1] at e
      obtain ⟨a, vs', rfl, hq, hr⟩ := seq_seen (Seen.of r : Seen K M G H d v) m.sub e1
      obtain ⟨S', m', st', f', hl, hv⟩ := all_w e hr m st
      exact ⟨a, vs', rfl, hq, hl, q _ _ (wipe_sets ht) m' st' hv⟩
where
  all_w {is : List Nat} {ds : List D} {us : List V} {g g' : Sg} {σ : L2.St} {S : Nat → Addr → Prop} (e : setAll is ds g = some g') (r : RepL K G ds us) (m : Mt K M g σ H G S) (st : Stp M H0 G0 S0 H G S) :
      ∃ S', Mt K M g' (sets is us σ) H G S' ∧ Stp M H0 G0 S0 H G S' ∧ True ∧ us.length = is.length ∧ ∀ a, Vl M G S' a → Vl M G S a := by
    induction is generalizing ds us g σ S with
    | nil =>
      cases ds with
      | nil =>
        cases (show us = [] from r)
        cases (show some g = some g' from e)
        exact ⟨S, m, st, trivial, rfl, fun a z => z⟩
      | cons d ds => cases e
    | cons i is ih =>
      cases ds with
      | nil => cases e
      | cons d ds =>
        obtain ⟨v, vr, rfl, r1, r2⟩ := r
        have e : (if i < g.length then setAll is ds (g.set i (some d)) else none) = some g' := e
        split at e
        · rename_i hl
          have m1 := m.set (Own.of r1) (fun a z => z.elim) hl
          obtain ⟨S', m2, st2, _, l2, h2⟩ := ih e r2 m1 (st.set fun a z => z.elim)
          refine ⟨S', m2, st2, trivial, congrArg Nat.succ l2, fun a z => ?_⟩
          rcases h2 a z with ⟨j, ⟨_, y⟩ | ⟨_, y⟩⟩ | y
          · exact y.elim
          · exact .inl ⟨j, y⟩
          · exact .inr y
        · cases e
theorem lc_t {it : PIt} {tg : Tg} {c : PT'} {e : PX} (ht : tgIn vs tg) (q : tP K M W (pLc it tg c e vs) σ H Q) : tLc (tI K M W it) (gP K tg) (tB' K M W0 c) (tP K M W0 e) vs σ H Q := by
  obtain ⟨g, G, S, m, q⟩ := q
  refine ⟨g, G, S, m, ?_⟩
  unfold pLc at q
  cases er : it g with
  | bad => rw [er] at q; exact q
  | exc c d g' => rw [er] at q; exact q
  | ok ds g1 =>
    rw [er, Rs.bind_ok] at q
    split at q
    · rename_i hf
      intro J H1 G1 S1 m1 wk st1 D hD
      have a0 : Ap M G1 (L2.upd H1 D (.lst [])) S1 D (.lst []) := ⟨upd_same, m1.gnone hD, m1.snone hD⟩
      have hD0 : H D = none := st1.back hD
      refine ⟨fun i mm H' => mm = ds.length - i ∧ i ≤ ds.length ∧ ∃ acc us g' G' S', Mt K M g' (wipe σ vs) H' G' S' ∧ freeG vs g' = true ∧ Ap M G' H' S' D (.lst us) ∧ RepL K G' acc us ∧ Stp M H G S H' G' S' ∧ Sub G1 G' ∧ EndE K M W σ H G S ((lcD tg c e vs (ds.drop i) acc g').bind fun acc g2 => .ok (.lst true acc) g2) Q,
        ⟨ds.length, rfl, Nat.zero_le _, [], [], g1, G1, S1, (m1.newOwn hD).wipe hf, hf, a0, rfl, st1.trans (m1.newOwnStp hD), Sub.refl _, q⟩, ?_⟩
      rintro i mm H' ⟨rfl, hi, acc, us, g', G', S', m', hf', ap', ra, st', sb, q⟩
      obtain ⟨w1, w2⟩ := wk g' (wipe σ vs) H' G' S' sb m' i
      by_cases hlt : i < ds.length
      · obtain ⟨go, yl⟩ := w1 ds[i] (List.getElem?_eq_getElem hlt)
        refine .inr ⟨go, fun H2 => ∃ acc us g2 G2 S2, Mt K M g2 (wipe σ vs) H2 G2 S2 ∧ freeG vs g2 = true ∧ Ap M G2 H2 S2 D (.lst us) ∧ RepL K G2 acc us ∧ Stp M H G S H2 G2 S2 ∧ Sub G1 G2 ∧ EndE K M W σ H G S ((lcD tg c e vs (ds.drop (i + 1)) acc g2).bind fun acc g2 => .ok (.lst true acc) g2) Q, fun H2 z => ⟨ds.length - (i + 1), by omega, rfl, hlt, z⟩, fun x H2 hy => ?_⟩
        obtain ⟨G2, m2, r2, st2⟩ := yl x H2 hy
        rw [List.drop_eq_getElem_cons hlt] at q
        have q : EndE K M W σ H G S ((match asg tg ds[i] g' with
          | none => Rs.bad
          | some g1 => (match c g1 with
            | .ok true g2 => (match e g2 with
              | .ok y g3 => if acc.length < lim then lcD tg c e vs (ds.drop (i + 1)) (acc ++ [sealD y]) (wipeG vs g3) else .bad
              | _ => .bad)
            | .ok false g2 => lcD tg c e vs (ds.drop (i + 1)) acc (wipeG vs g2)
            | _ => .bad)).bind fun acc g2 => .ok (.lst true acc) g2) Q := q
        cases e1 : asg tg ds[i] g' with
        | none => rw [e1] at q; exact (show False from q).elim
        | some g3 =>
          rw [e1] at q
          refine asg_w ht e1 m2 r2 (st'.trans st2) fun σ3 S3 f3 m3 st3 hv3 => ?_
          rw [wipe_wipe] at f3
          refine ⟨f3, g3, G2, S3, m3, ?_⟩
          have ap3 := (ap'.stp st2).less hv3
          dsimp only at q
          cases e2 : c g3 with
          | bad => rw [e2] at q; exact (show False from q).elim
          | exc c d g4 => rw [e2] at q; exact (show False from q).elim
          | ok b g4 =>
            intro H4 G4 S4 m4 st4
            have ap4 := ap3.stp st4
            cases b with
            | false =>
              rw [e2] at q
              obtain ⟨S5, m5, h5⟩ := m4.shed vs
              rw [wipe2_eq, f3] at m5
              exact ⟨acc, us, _, G4, S5, m5, wipe_free vs g4, ap4.less h5, RepL.mono (st2.gr.trans st4.gr) _ _ ra, (st3.trans st4).less h5, (sb.trans st2.gr).trans st4.gr, q⟩
            | true =>
              rw [e2] at q
              dsimp only at q
              refine ⟨g4, G4, S4, m4, ?_⟩
              cases e3 : e g4 with
              | bad => rw [e3] at q; exact (show False from q).elim
              | exc c d g5 => rw [e3] at q; exact (show False from q).elim
              | ok y g5 =>
                rw [e3] at q
                dsimp only at q
                intro v H5 G5 S5 T got st5
                obtain ⟨G6, m6, r6, sb6, hg6, hv6⟩ := got.seal
                have st6 := st5.sealed sb6 hg6 hv6
                have ap6 := ap4.stp st6
                split at q
                · rename_i hl
                  refine ⟨us, ap6.1, ?_, ?_⟩
                  · rw [← ra.len, sizeLine_eq]; unfold lim at hl; omega
                  · have m7 := m6.put (o' := .lst (us ++ [v])) ap6
                    obtain ⟨S8, m8, h8⟩ := m7.shed vs
                    rw [wipe2_eq, f3] at m8
                    have sg : Sub G' G6 := (st2.gr.trans st4.gr).trans st6.gr
                    refine ⟨acc ++ [sealD y], us ++ [v], _, G6, S8, m8, wipe_free vs g5, ⟨upd_same, ap6.2.1, fun z => ap6.2.2 (h8 D z)⟩, (RepL.mono sg _ _ ra).append (RepL.one r6), (((st3.trans st4).trans st6).put hD0).less h8, sb.trans sg, q⟩
                · exact (show False from q).elim
      · have ei : i = ds.length := by omega
        subst ei
        rw [List.drop_length] at q
        refine .inl ⟨w2 (Nat.le_refl _), (show EndE K M W σ H G S (.ok (.lst true acc) g') Q from q) (.ref D) H' G' S' (fun a => a = D) ⟨m'.unwipe hf', .inr ⟨D, rfl, ap'.2.1, fun b => Iff.rfl, rfl, us, ap'.1, ra⟩, fun a z => ?_⟩ st'⟩
        cases z
        exact ⟨ap'.2.2, hD0⟩
    · exact (show False from q).elim
where
  wipe_wipe {σ : L2.St} {vs : List Nat} : wipe (wipe σ vs) vs = wipe σ vs := by
    have key : ∀ (ws vs : List Nat) (σ : L2.St), (∀ i ∈ ws, i ∈ vs) → wipe (wipe σ ws) vs = wipe σ vs := by
      intro ws
      induction ws with
      | nil => intro vs σ _; rfl
      | cons w ws ih =>
        intro vs σ h
        show wipe ((wipe σ ws).set w none) vs = _
        rw [wipe_set (h w (List.mem_cons_self ..)), ih vs σ fun i hi => h i (List.mem_cons_of_mem _ hi)]
    exact key vs vs σ fun i hi => hi
theorem PTs.imp {es : List Expr} {t t' : TT} (h : PTs X es t) (k : ∀ σ H Q, t' σ H Q → t σ H Q) : PTs X es t' := ⟨fun pins s σ H Q I q => h.run pins s σ H Q I (k σ H Q q)⟩
theorem pts_0 : PTs X [] (tB' K M W pYes) := PTs.imp pts_nil fun σ H Q ⟨g, G, S, m, q⟩ => (show EndB K M W σ H G S (.ok true g) Q from q) H G S m Stp.refl
theorem pts_1 {c : Expr} {mc : PT'} (h : PT X c (tB' K M W mc)) : PTs X [c] (tB' K M W mc) := pts_one h
theorem pe_Lc {elt tge iter : Expr} {ifs : List Expr} {scope : Scope} {own : List (Str × Nat)} {mi : PIt} {tg : Tg} {mc : PT'} {me : PX} (hc : X.calm = true) (hN : X.N.Nodup) (hi : PI X tge iter (tI X.K M W mi)) (ok : BlkOk X.N X.env.scope scope own) (hvs : own.map (·.2) = vs) (ht : tgIn vs tg)
    (hg : ∀ (s : Shared) (H : Hp) (C : Addr) (cl : List (Str × Addr)) (fp : List Addr), PG (X.blk s H scope (compEnvC scope cl C X.env) fp) tge (gP X.K tg))
    (hcd : ∀ (s : Shared) (H : Hp) (C : Addr) (cl : List (Str × Addr)) (fp : List Addr), PTs (X.blk s H scope (compEnvC scope cl C X.env) fp) ifs (tB' X.K M W0 mc))
    (he : ∀ (s : Shared) (H : Hp) (C : Addr) (cl : List (Str × Addr)) (fp : List Addr), PE (X.blk s H scope (compEnvC scope cl C X.env) fp) elt (tP X.K M W0 me)) (hs : ∀ x, foldedSetIterable iter X.env x = pure x) :
    PE X (.ListComp elt [⟨tge, iter, ifs, 0⟩] scope pos) (tP X.K M W (pLc mi tg mc me vs)) := by
  subst hvs
  exact PE.imp (pe_lc hc hN hi ok hg hcd he hs) fun σ H Q q => lc_t ht q
theorem ps_SetLc {i : Nat} {y : Str} {py spos : Pos} {fx : List Nat} {elt tge iter : Expr} {ifs : List Expr} {scope : Scope} {own : List (Str × Nat)} {mi : PIt} {tg : Tg} {mc : PT'} {me : PX} (hc : X.calm = true) (hN : X.N.Nodup) (hy : X.N[i]? = some y) (hyl : X.env.scope.names.lookup y = some .local)
    (hsw : swapsWith (.ListComp elt [⟨tge, iter, ifs, 0⟩] scope pos) (some (.Name y py)) spos.line X.env = pure true) (hi : PI X tge iter (tI X.K M W mi)) (ok : BlkOk X.N X.env.scope scope own) (hvs : own.map (·.2) = vs) (ht : tgIn vs tg) (hfx : i ∉ fx)
    (hg : ∀ (s : Shared) (H : Hp) (C : Addr) (cl : List (Str × Addr)) (fp : List Addr), PG (X.blk s H scope (compEnvC scope cl C X.env) fp) tge (gP X.K tg))
    (hcd : ∀ (s : Shared) (H : Hp) (C : Addr) (cl : List (Str × Addr)) (fp : List Addr), PTs (X.blk s H scope (compEnvC scope cl C X.env) fp) ifs (tB' X.K M W0 mc))
    (he : ∀ (s : Shared) (H : Hp) (C : Addr) (cl : List (Str × Addr)) (fp : List Addr), PE (X.blk s H scope (compEnvC scope cl C X.env) fp) elt (tP X.K M W0 me)) (hs : ∀ x, foldedSetIterable iter X.env x = pure x) :
    PS X (.Assign [.Name y py] (.ListComp elt [⟨tge, iter, ifs, 0⟩] scope pos) spos) (tF X.K M fx W (pSet i (pLc mi tg mc me vs))) := by
  subst hvs
  refine PS.imp (ps_setLc hc hN hy hyl hsw hi ok hg hcd he hs) fun N σ H q => ?_
  refine lc_t ht (Q := fun x H1 => gName i x σ H1 N.nx) ?_
  obtain ⟨g, G, S, m, q⟩ := q
  refine ⟨g, G, S, m, EndE.imp (EndF.bindE q) fun v H1 ⟨d, g1, G1, S1, T, er, got, st, q⟩ => ?_⟩
  split at q
  · rename_i hl
    exact (show EndN X.K M fx σ H G S (g1.set i (some d)) N.nx from q) _ H1 G1 _ (Fx.set hfx) (got.1.set got.2.1 (fun a z => (got.2.2 a z).1) hl) (st.set fun a z => (got.2.2 a z).2)
  · exact q.elim
end
end PI

set_option Elab.async false
set_option linter.all false
set_option maxRecDepth 100000
set_option maxHeartbeats 1000000
namespace PI
open PySem PySem.Spec PyProof.Rows L2
open PySem.W (Frag InstAt findIn isFn selfFirst subIn Looks)
/-! ### {k: e, ..}: texts and ints as keys -/
def evK : List (Key × PX) → Sg → Rs (List (Key × D))
  | [], g => .ok [] g
  | (k, m) :: r, g => (m g).bind fun d g1 => (evK r g1).bind fun ps g2 => .ok ((k, sealD d) :: ps) g2
def dispD (ps : List (Key × D)) : List Key × List D := ps.foldl (fun a p => putKD a.1 a.2 p.1 p.2) ([], [])
def pDic (kms : List (Key × PX)) : PX := fun g => (evK kms g).bind fun ps g1 => if ps.length ≤ 15 then .ok (.dic true (dispD ps).1 (dispD ps).2) g1 else .bad
section
variable {K : Frag} {M : Memo} {W : WX} {X : Cx} {σ : L2.St} {H H0 G G0 H1 G1 : Hp} {S S0 S1 : Nat → Addr → Prop} {g g1 : Sg} {Q : VK} {pos p2 : Pos} {fx : List Nat}
def tyK (M : Memo) (K : Frag) (W : WX) (kms : List (Key × PX)) : List (TE × TE) := kms.map fun km => (tC (kV km.1), tP K M W km.2)
/-- the rows of a display -/
def RwL (K : Frag) (G : Hp) (ps : List (Key × D)) (kvs : List (Key × V)) : Prop := ps.map (·.1) = kvs.map (·.1) ∧ RepL K G (ps.map (·.2)) (kvs.map (·.2))
theorem rwl_put {ps : List (Key × D)} : ∀ {kvs : List (Key × V)} {ks : List Key} {ds : List D} {vs : List V}, RwL K G ps kvs → ks.length = vs.length → RepL K G ds vs →
    ∃ us, mergeK (ks.zip vs) kvs = (ps.foldl (fun a p => putKD a.1 a.2 p.1 p.2) (ks, ds)).1.zip us ∧ (ps.foldl (fun a p => putKD a.1 a.2 p.1 p.2) (ks, ds)).1.length = us.length ∧ RepL K G (ps.foldl (fun a p => putKD a.1 a.2 p.1 p.2) (ks, ds)).2 us := by
  induction ps with
  | nil =>
    intro kvs ks ds vs h hl r
    cases kvs with
    | nil => exact ⟨vs, rfl, hl, r⟩
    | cons q kvs => cases h.1
  | cons p ps ih =>
    intro kvs ks ds vs h hl r
    cases kvs with
    | nil => cases h.1
    | cons q kvs =>
      obtain ⟨h1, v, vr, e, h2, h3⟩ := h
      cases e
      have hk : p.1 = q.1 := (List.cons.inj h1).1
      obtain ⟨us, u1, u2, u3⟩ := put_rep (k := p.1) h2 hl r
      obtain ⟨ws, w1, w2, w3⟩ := ih ⟨(List.cons.inj h1).2, h3⟩ u2 u3
      refine ⟨ws, ?_, w2, w3⟩
      show mergeK (putK (ks.zip vs) q.1 q.2) kvs = _
      rw [← hk, u1]
      exact w1
theorem RwL.mono {ps : List (Key × D)} {kvs : List (Key × V)} {G' : Hp} (e : Sub G G') (h : RwL K G ps kvs) : RwL K G' ps kvs := ⟨h.1, RepL.mono e _ _ h.2⟩
theorem evK_t {p : Addr} {o : HO} : ∀ {kms : List (Key × PX)} {g : Sg} {H G : Hp} {S : Nat → Addr → Prop} {kk : List (Key × D) → Sg → Rs D} {R : List (V × V) → Hp → Prop}, Mt K M g σ H G S → Ap M G H S p o → Stp M H0 G0 S0 H G S → EndE K M W σ H0 G0 S0 ((evK kms g).bind kk) Q →
    (∀ (kvs : List (Key × V)) ps g' H' G' S', Mt K M g' σ H' G' S' → Ap M G' H' S' p o → RwL K G' ps kvs → Stp M H0 G0 S0 H' G' S' → Sub G G' → EndE K M W σ H0 G0 S0 (kk ps g') Q → R (kvs.map fun kv => (kV kv.1, kv.2)) H') → tPairs (tyK M K W kms) σ H R
  | [], g, H, G, S, kk, R, m, ap, st, q, fin => fin [] [] g H G S m ap ⟨rfl, rfl⟩ st (Sub.refl _) q
  | (k, mm) :: r, g, H, G, S, kk, R, m, ap, st, q, fin => by
    show tP K M W mm σ H _
    refine ⟨g, G, S, m, ?_⟩
    have q : EndE K M W σ H0 G0 S0 (((mm g).bind fun d g1 => (evK r g1).bind fun ps g2 => .ok ((k, sealD d) :: ps) g2).bind kk) Q := q
    cases er : mm g with
    | bad => rw [er] at q; exact q
    | exc c d g' => rw [er] at q; exact EndX.of q st
    | ok d g1 =>
      rw [er, Rs.bind_ok] at q
      intro v H1 G1 S1 T got st1
      obtain ⟨G2, m2, r2, sb, hg, hv⟩ := got.seal
      have st2 := st1.sealed sb hg hv
      have q : EndE K M W σ H0 G0 S0 ((evK r g1).bind fun ps g2 => kk ((k, sealD d) :: ps) g2) Q := by
        cases er2 : evK r g1 with
        | bad => rw [er2] at q; exact q
        | exc c d g' => rw [er2] at q; exact q
        | ok ps g2 => rw [er2] at q; exact q
      refine evK_t (H := H1) m2 (ap.stp st2) (st.trans st2) q fun kvs ps g' H' G' S' m' ap' rw' st' sg q' => ?_
      exact fin ((k, v) :: kvs) ((k, sealD d) :: ps) g' H' G' S' m' ap' ⟨congrArg (k :: ·) rw'.1, v, _, rfl, Rep.mono sg _ _ r2, rw'.2⟩ st' (st2.gr.trans sg) q'
theorem pe_Dic {keys : List (Option Expr)} {values : List Expr} {kms : List (Key × PX)} (h : PPs X pos keys values (tyK M X.K W kms)) (hall : keys.all (·.isSome) = true) (hl : keys.length = values.length) (h0 : keys ≠ []) (h15 : keys.length ≤ 15) :
    PE X (.Dict keys values pos) (tP X.K M W (pDic kms)) := by
  refine PE.imp (pe_disp h hall hl h0 h15) fun σ H Q q => ?_
  obtain ⟨g, G, S, m, q⟩ := q
  intro p hp
  have a0 : Ap M G (L2.upd H p (.dK [])) S p (.dK []) := ⟨upd_same, m.gnone hp, m.snone hp⟩
  refine evK_t (m.newOwn hp) a0 (m.newOwnStp hp) q fun kvs ps g' H' G' S' m' ap' rw' st' _ q' => ⟨ap'.1, kvs, rfl, ?_⟩
  split at q'
  · rename_i hl
    have hlen : ps.length = kvs.length := by have := congrArg List.length rw'.1; simpa using this
    refine ⟨by rw [← hlen]; exact hl, ?_⟩
    obtain ⟨us, u1, u2, u3⟩ := rwl_put rw' (ks := []) (ds := []) (vs := []) rfl rfl
    have m2 := m'.put (o' := .dK (mergeK [] kvs)) ap'
    refine (show EndE X.K M W σ H G S (.ok (.dic true (dispD ps).1 (dispD ps).2) g') Q from q') (.ref p) _ G' S' (fun a => a = p) ⟨m2, .inr ⟨p, rfl, ap'.2.1, fun b => Iff.rfl, rfl, us, by rw [upd_same]; exact congrArg (fun z => some (HO.dK z)) u1, u2, u3⟩, fun a z => ?_⟩ (st'.put hp)
    cases z
    exact ⟨ap'.2.2, hp⟩
  · exact (show False from q').elim
theorem pps_0 : PPs X pos [] [] (tyK M K W []) := pps_nil
theorem pps_c {k v : Expr} {ks : List (Option Expr)} {vs : List Expr} {key : Key} {mv : PX} {kms : List (Key × PX)} (hk : PE X k (tC (kV key))) (hv : PE X v (tP K M W mv)) (hr : PPs X pos ks vs (tyK M K W kms)) : PPs X pos (some k :: ks) (v :: vs) (tyK M K W ((key, mv) :: kms)) := pps_cons hk hv hr
theorem pe_Dic0 : PE X (.Dict [] [] pos) (tP X.K M W (pDic [])) := by
  refine PE.imp pe_dnewK fun σ H Q q => ?_
  obtain ⟨g, G, S, m, q⟩ := q
  intro p hp
  exact (show EndE X.K M W σ H G S (.ok (.dic true [] []) g) Q from q) (.ref p) _ G S (fun a => a = p) ⟨m.newOwn hp, .inr ⟨p, rfl, m.gnone hp, fun b => Iff.rfl, rfl, [], by rw [upd_same] <;> rfl, rfl, rfl⟩, fun a z => by cases z; exact ⟨m.snone hp, hp⟩⟩ (m.newOwnStp hp)
/-! ### raise C(e) -/
def pRs (c : Str) (m : PX) : PF := fun g => (pAll [m] g).bind fun ds g1 => match ds with
  | [d] => .exc c d g1
  | _ => .bad
def spInit (K : Frag) : Sp := fun vs H Q _ => ∃ a C v, vs = [V.ref a, v] ∧ OexC K C ∧ findIn K (.ref C) "value" = some none ∧ H a = some (exo a C none) ∧ ∀ dx, H dx = none → dx ≠ a → Q .non (L2.upd (L2.upd H dx (exd dx [("value", v)])) a (exo a C (some dx)))
theorem init_ok {P : Program} {w : World} {K : Frag} {mg : Str → Option Value} {base : Heap} {k : Nat} {f : Addr} {fd : FuncData} {qual : Str} {params : Arguments} {scope : Scope} {dvs : List V} {kws : List (Str × V)} {p1 p3 p4 p5 : Pos}
    (F : FunD K "__init__" qual params [.Assign [.Attribute (.Name "self" p1) "value" p3] (.Name "value" p4) p5] scope dvs kws f fd) (Z : FnScope ["self", "value"] ["self", "value"] scope) :
    FnOk P w K mg base (L2.CX P w) (k + 1) f fd ["self", "value"] (spInit K) := by
  refine F.ok Z (fun vs H Q E h => ?_) fun cdv A outer s H vs Q E hr h => ?_
  · obtain ⟨a, C, v, e, _⟩ := h; rw [e] <;> rfl
  · obtain ⟨a, C, v, rfl, T, hn, ha, q⟩ := h
    refine ⟨_, pss_one (ps_ost (pe_var (i := 0) rfl ((Z.par "self" (List.Mem.head _)).elim (fun z => .inl z) (fun z => .inr (.inl z)))) (pe_var (i := 1) rfl ((Z.par "value" (List.Mem.tail _ (List.Mem.head _))).elim (fun z => .inl z) (fun z => .inr (.inl z)))) rfl), ?_⟩
    exact ⟨v, rfl, .ref a, rfl, a, C, rfl, T, hn, .inl ⟨ha, q⟩⟩
theorem ps_Raise {x c : Str} {fI : Addr} {k : Nat} {fd : FuncData} {ds : List Value} {p pos' : Pos} {e : Expr} {m : PX} (hc : X.calm = true) (tk : Takes X W) (T : OexC X.K (He.ga X.K c)) (iC : findIn X.K (.ref (He.ga X.K c)) "__init__" = some (some (.ref fI))) (tI : PySem.W.typeIn X.K (.ref fI) = some (.type "function"))
    (hno : findIn X.K (.ref (He.ga X.K c)) "value" = some none) (F : FnOk X.prog X.w X.K X.mg X.base (L2.CX X.prog X.w) k fI fd ["self", "value"] (spInit X.K)) (hr : Room (k + 1) X.A) (hb : Binds X.K fd ["self", "value"] []) (hg : Gl X x) (hm : X.mg x = some (.ref (He.ga X.K c)))
    (ha : PA X [e] (tL X.K M W (pAll [m]))) (hs : noStar e = true) (hdb : (x == ("__debug__" : Str)) = false) : PS X (.Raise (some (.Call (.Name x p) [e] [] pos)) none pos') (tF X.K M fx W (pRs c m)) := by
  refine PS.imp (ps_raise hc tk (pmk_oex T iC tI F hr hb .nil (fun _ _ _ _ _ _ _ z => by obtain ⟨_, _, _, _, _, _, _, _, _, _, _, _, z⟩ := z; exact z.elim) hg hm ha hdb (star_of hs) rfl)) fun N σ H q => ?_
  obtain ⟨g, G, S, mt, q⟩ := q
  refine ⟨g, G, S, mt, ?_⟩
  unfold pRs at q
  cases er : pAll [m] g with
  | bad => rw [er] at q; exact q
  | exc c d g' => rw [er] at q; exact EndXs.x q
  | ok dl g1 =>
    rw [er, Rs.bind_ok] at q
    intro vs H1 G1 S1 m1 rr st
    split at q
    · rename_i d
      obtain ⟨v, r, rfl, h1, rfl⟩ := rr
      refine ⟨by show 1 ≤ 1000; decide, fun a hn => ⟨a, _, v, rfl, T, hno, upd_same, fun dx hd hne => ⟨rfl, dx, _, upd_same, by rw [upd_ne hne, upd_same], by rw [upd_ne hne] at hd; exact hd, ?_⟩⟩⟩
      have hd1 : H1 dx = none := by rw [upd_ne hne] at hd; exact hd
      have eh : L2.upd (L2.del (L2.upd (L2.upd (L2.upd H1 a (exo a (He.ga X.K c) none)) dx (exd dx [("value", v)])) a (exo a (He.ga X.K c) (some dx))) a) dx (.xd [("value", v)]) = L2.upd H1 dx (.xd [("value", v)]) := by
        funext b
        by_cases hb : b = dx
        · subst hb; rw [upd_same, upd_same]
        · rw [upd_ne hb, upd_ne hb]
          by_cases hba : b = a
          · subst hba; rw [del_same, hn]
          · rw [del_ne hba, upd_ne hba, upd_ne hb, upd_ne hba]
      rw [eh]
      exact (show EndXs X.K M fx W σ H G S c d g1 from q) v σ _ G1 S1 dx Fx.refl (m1.newOwn hd1) h1 (st.trans (m1.newOwnStp hd1)) upd_same
    · exact (show False from q).elim
end
end PI

set_option Elab.async false
set_option linter.all false
set_option maxRecDepth 100000
set_option maxHeartbeats 1000000
namespace PI
open PySem PySem.Spec PyProof.Rows L2
open PySem.W (Frag InstAt findIn isFn selfFirst subIn Looks)
/-! ### a def as a pure function: rf the parameters handed back, n the parameters, z the other names -/
def retL (g : Sg) : List Nat → Option (List D)
  | [] => some []
  | j :: js => (match g[j]?, retL g js with
    | some (some d), some r => some (d :: r)
    | _, _ => none)
def finC (rf : List Nat) (r : Rs Fl) : Cr := match r with
  | .bad => .bad
  | .exc c d g => (match retL g rf with
    | some rs => .exc c d rs
    | none => .bad)
  | .ok fl g => (match retL g rf with
    | some rs => (match fl with
      | .nx => .ok .non rs
      | .rt d => .ok d rs
      | _ => .bad)
    | none => .bad)
def runF (rf : List Nat) (z : Nat) (m : PF) (ds : List D) : Cr := finC rf (m (ds.map some ++ List.replicate z none))
section
variable {K : Frag} {M : Memo} {W : WX} {X : Cx} {σ : L2.St} {H H0 G G0 H1 G1 : Hp} {S S0 S1 : Nat → Addr → Prop} {g g1 : Sg} {Q : VK}
theorem retL_at {g : Sg} : ∀ {js : List Nat} {rs : List D}, retL g js = some rs → rs.length = js.length ∧ ∀ (k : Nat) (d : D), rs[k]? = some d → ∃ j, js[k]? = some j ∧ g[j]? = some (some d)
  | [], rs, h => by cases (show some ([] : List D) = some rs from h); exact ⟨rfl, fun k d z => by simp at z⟩
  | j :: js, rs, h => by
    unfold retL at h
    cases e1 : g[j]? with
    | none => rw [e1] at h; cases h
    | some o =>
      cases o with
      | none => rw [e1] at h; cases h
      | some d0 =>
        cases e2 : retL g js with
        | none => rw [e1, e2] at h; cases h
        | some r =>
          rw [e1, e2] at h; cases h
          obtain ⟨l, q⟩ := retL_at e2
          refine ⟨congrArg Nat.succ l, fun k d z => ?_⟩
          cases k with
          | zero => simp at z; subst z; exact ⟨j, rfl, e1⟩
          | succ k => exact q k d (by simpa using z)
/-- the parameters' state behind the body: only what is handed back is still known -/
theorem ret_mt {n : Nat} {rf : List Nat} {rs : List D} {σ0 : L2.St} (m : Mt K M g σ H G S) (e : retL g rf = some rs) (l0 : σ0.length = n) (fx : ∀ i ∈ rf, i < n ∧ σ[i]? = σ0[i]?) :
    ∃ B, Mt K M (retG n rf rs) σ0 H G B ∧ ∀ a, Vl M G B a → Vl M G S a := by
  have at_ : ∀ (i : Nat) (d : D), (retG n rf rs)[i]? = some (some d) → i ∈ rf ∧ g[i]? = some (some d) := fun i d h => by
    unfold retG at h
    rw [List.getElem?_map] at h
    cases q : (List.range n)[i]? with
    | none => rw [q] at h; cases h
    | some j =>
      rw [q] at h
      have hi : i < n := by
        have := (List.getElem?_eq_some_iff.mp q).1
        rwa [List.length_range] at this
      rw [List.getElem?_range hi] at q
      cases q
      have h : (rf.idxOf? i).bind (fun k => rs[k]?) = some d := Option.some.inj h
      cases q2 : rf.idxOf? i with
      | none => rw [q2] at h; cases h
      | some k =>
        rw [q2, Option.bind_some] at h
        obtain ⟨j, e1, e2⟩ := (retL_at e).2 k d h
        have hk : rf[k]? = some i := idx_at q2
        rw [hk] at e1; cases e1
        exact ⟨List.mem_of_getElem? hk, e2⟩
  refine ⟨fun i a => (∃ d, (retG n rf rs)[i]? = some (some d)) ∧ S i a, ⟨by rw [retG_len, l0], fun i d h => ?_, fun i h a z => ?_, fun i j a z z' => m.dis i j a z.2 z'.2, m.sub, m.mem, fun i a z => m.vol i a z.2⟩, fun a z => ?_⟩
  · obtain ⟨h1, h2⟩ := at_ i d h
    obtain ⟨v, ev, ow⟩ := m.own i d h2
    have eb : (fun a => (∃ d, (retG n rf rs)[i]? = some (some d)) ∧ S i a) = S i := funext fun a => propext ⟨fun z => z.2, fun z => ⟨⟨d, h⟩, z⟩⟩
    exact ⟨v, by rw [← (fx i h1).2]; exact ev, by rw [eb]; exact ow⟩
  · obtain ⟨⟨d, z⟩, _⟩ := z
    exact h d z
  · rcases z with ⟨i, _, z⟩ | z
    · exact .inl ⟨i, z⟩
    · exact .inr z
where
  idx_at {l : List Nat} {x k : Nat} (h : l.idxOf? x = some k) : l[k]? = some x := by
    unfold List.idxOf? at h
    obtain ⟨h1, h2, _⟩ := List.findIdx?_eq_some_iff_getElem.mp h
    rw [List.getElem?_eq_getElem h1]
    exact congrArg some (eq_of_beq h2)
end
section
variable {P : Program} {w : World} {K : Frag} {M : Memo} {mg : Str → Option Value} {base : Heap} {k : Nat} {f : Addr} {fd : FuncData} {ps N : List Str}
theorem FnG.mono {sp : Sp} {j : Nat} (F : FnG P w K mg base k f fd ps sp) (h : k ≤ j) : FnG P w K mg base j f fd ps sp := ⟨F.len, fun A outer s H args us vs Q E hr => F.run A outer s H args us vs Q E (hr.mono h)⟩
/-- the context of a def's body -/
structure BodyX (P : Program) (w : World) (K : Frag) (mg : Str → Option Value) (base : Heap) (N : List Str) (scope : Scope) (k : Nat) (X : Cx) (W : WX) : Prop where
  prog : X.prog = P
  w : X.w = w
  K : X.K = K
  mg : X.mg = mg
  base : X.base = base
  N : X.N = N
  sc : X.env.scope = scope
  room : Room k X.A
  gu : X.A.guards = some []
  tk : Takes X W
  hp : PassesOwn (model X.prog X.w) X.A X.env X.xe
  calm : X.calm = true
  fn : ∀ x, X.fn x = true
  stack : X.stack = X.env :: X.outer
  frame : X.env.frame = some X.env.locals
  ex : X.ex = []
theorem fnG_body {x qual : Str} {params : Arguments} {body : List Stmt} {scope : Scope} {dvs : List V} {kws : List (Str × V)} {rf : List Nat} {z : Nat} {m : PF} (F : FunD K x qual params body scope dvs kws f fd) (Z : FnScope N ps scope) (hz : N.length = ps.length + z) (hrf : ∀ i ∈ rf, i < ps.length)
    (hb : ∀ (X : Cx) (W : WX), BodyX P w K mg base N scope k X W → PSs X body (tF K M rf W m)) : FnG P w K mg base (k + 1) f fd ps (spF K M (runF rf z m) rf ps.length) := by
  refine fnG_of F Z (fun vs H Q E h => h.1) fun cdv A outer s H vs Q E hr gu h => ?_
  obtain ⟨hl, ds, G, B, mt, q⟩ := h
  refine ⟨_, hb _ (fun c d _ H => E c d H) ⟨rfl, rfl, rfl, rfl, rfl, rfl, rfl, hr, gu, takes_of rfl rfl rfl rfl, passes_of rfl, rfl, fun _ => rfl, rfl, rfl, rfl⟩, ?_⟩
  have hdl : ds.length = ps.length := by have := mt.len; rw [List.length_map, List.length_map] at this; omega
  have est : L2.start N vs = vs.map some ++ List.replicate z none := by unfold L2.start; rw [hl, hz, Nat.add_sub_cancel_left]
  -- the locals behind the parameters
  have m0 : Mt K M (ds.map some ++ List.replicate z none) (L2.start N vs) H G B := by
    rw [est]
    have nn : ∀ (i : Nat) (d : D), (ds.map some ++ List.replicate z none)[i]? = some (some d) → (ds.map some)[i]? = some (some d) := fun i d h => by
      by_cases hi : i < (ds.map some).length
      · rwa [List.getElem?_append_left hi] at h
      · rw [List.getElem?_append_right (by omega)] at h
        have := List.mem_of_getElem? h
        rw [List.mem_replicate] at this
        cases this.2
    refine ⟨by rw [List.length_append, List.length_append, mt.len, List.length_replicate, List.length_replicate], fun i d h => ?_, fun i h => mt.nil i fun d e => h d ?_, mt.dis, mt.sub, mt.mem, mt.vol⟩
    · obtain ⟨v, ev, ow⟩ := mt.own i d (nn i d h)
      exact ⟨v, by rw [List.getElem?_append_left (List.getElem?_eq_some_iff.mp ev).1]; exact ev, ow⟩
    · rw [List.getElem?_append_left (List.getElem?_eq_some_iff.mp e).1]; exact e
  refine ⟨_, G, B, m0, ?_⟩
  have fin : ∀ (g' : Sg) (rs : List D) (σ' : L2.St) (H' G' : Hp) (S' : Nat → Addr → Prop), retL g' rf = some rs → Fx rf (L2.start N vs) σ' → Mt K M g' σ' H' G' S' → ∃ B', Mt K M (retG ps.length rf rs) (vs.map some) H' G' B' ∧ ∀ a, Vl M G' B' a → Vl M G' S' a := fun g' rs σ' H' G' S' e fx m' => by
    refine ret_mt m' e (by rw [List.length_map]; exact hl) fun i hi => ⟨hrf i hi, ?_⟩
    · rw [fx i hi, est, List.getElem?_append_left (by rw [List.length_map, hl]; exact hrf i hi)]
  unfold runF at q
  cases er : m (ds.map some ++ List.replicate z none) with
  | bad => rw [er] at q; exact q
  | exc c d g' =>
    rw [er] at q
    unfold finC at q
    dsimp only at q
    cases e : retL g' rf with
    | none => rw [e] at q; exact (show False from q).elim
    | some rs =>
      rw [e] at q
      intro v σ' H' G' S' dd fx m' r st xx
      obtain ⟨B', mb, hv⟩ := fin g' rs σ' H' G' S' e fx m'
      exact q v H' G' B' dd mb r (st.less hv) xx
  | ok fl g' =>
    rw [er] at q
    unfold finC at q
    dsimp only at q
    cases e : retL g' rf with
    | none => rw [e] at q; exact (show False from q).elim
    | some rs =>
      rw [e] at q
      cases fl with
      | nx =>
        intro σ' H' G' S' fx m' st
        obtain ⟨B', mb, hv⟩ := fin g' rs σ' H' G' S' e fx m'
        exact q .non H' G' B' none_ ⟨mb, Own.of rfl, fun a z => z.elim⟩ (st.less hv)
      | rt d =>
        intro σ' v H' G' S' T fx ⟨m', ow, ap⟩ st
        obtain ⟨B', mb, hv⟩ := fin g' rs σ' H' G' S' e fx m'
        exact q v H' G' B' T ⟨mb, ow, fun a ha => ⟨fun y => (ap a ha).1 (hv a y), (ap a ha).2⟩⟩ (st.less hv)
      | bk => exact (show False from q).elim
      | ct => exact (show False from q).elim
end
end PI

set_option Elab.async false
set_option linter.all false
set_option maxRecDepth 100000
set_option maxHeartbeats 1000000
namespace PI
open PySem PySem.Spec PyProof.Rows L2
open PySem.W (Frag InstAt findIn isFn selfFirst subIn Looks)
/-! ### the law's call -/
/-- what the law's def must answer -/
def LawOk (K : Frag) (n : Nat) (ff : List D → Cr) : Prop := ∀ ns : List Int, ns.length ≤ n → ∃ rs, ff [.lst false (ns.map .int)] = .ok (.bl true) rs
theorem lawSp {K : Frag} {M : Memo} {ff : List D → Cr} {H : Hp} {a : Addr} {ns : List Int} (hM : M.inv H H) (hS : SqL K H a (ns.map V.int)) (h : ∃ rs, ff [.lst false (ns.map .int)] = .ok (.bl true) rs) :
    spF K M ff [] 1 [.ref a] H (fun v _ => v = .bl true) fun _ _ _ => False := by
  refine ⟨rfl, [.lst false (ns.map .int)], H, fun _ _ => False, ⟨rfl, fun i d e => ?_, fun i q b z => z, fun i j b z => z.elim, Sub.refl _, hM, fun i b z => z.elim⟩, ?_⟩
  · cases i with
    | zero =>
      cases e
      exact ⟨.ref a, rfl, .inl ⟨⟨rfl, a, _, rfl, hS, rep_ints ns⟩, fun b z => z⟩⟩
    | succ i => simp at e
  · obtain ⟨rs, e⟩ := h
    rw [e]
    intro v H' G' B' T got st
    exact Seen.bl (K := K) (M := M) (G := G') (H := H') ⟨T, got.2.1⟩
section
variable {P : Program} {w : World} {K : Frag} {M : Memo} {mg mb : Str → Option Value} {k : Nat} {fa a : Addr} {fd : FuncData} {x : Str} {s : Shared} {vs : List Value} {ns : List Int} {ff : List D → Cr}
/-- at the heap behind the top, the script's list hidden from the ground if it is no part of K -/
theorem lawGo (hM : ∀ H, M.inv H H) (KX : K.In s.heap) (hns : s.heap.Ns mainGlobals mg) (hb : s.heap.Ns builtinsNs mb) (hbb : ∀ y : Str, y ≠ "__name__" → mb y = bootBuiltins y) (hlim : s.heap.NoLimit) (hg : s.gens = #[])
    (ha : s.heap.get? a = some { cls := .type "list", data := .seq vs.toArray }) (hi : IntsAre vs ns) (hl : ns.length ≤ sizeLine) (hr : Room k callerA)
    (F : ∀ base : Heap, K.In base → base.Ns mainGlobals mg → FnG P w K mg base k fa fd [x] (spF K M ff [] 1)) (hbind : ∀ (s : Shared) (u : Value), BindsTo s fd ⟨[u], []⟩ [(x, u)]) (ok : ∃ rs, ff [.lst false (ns.map .int)] = .ok (.bl true) rs) :
    codeAny (model P w) callerA (.call (.ref fa) ⟨[.ref a], []⟩) (fun r t => r = .ok (.ret (.bool true)) ∧ OldK s.heap t.heap ∧ t.os = s.os ∧ AllBare t.gens) s := by
  have rv : Vals (ns.map V.int) vs := vals_ints hi
  have lv : vs.length = ns.length := hi.length
  have go : ∀ H : Hp, Only H → SqL K H a (ns.map V.int) → HOk P w H s.heap → (∀ b, H b ≠ none → b = a ∧ K.lookup a = none) →
      codeAny (model P w) callerA (.call (.ref fa) ⟨[.ref a], []⟩) (fun r t => r = .ok (.ret (.bool true)) ∧ OldK s.heap t.heap ∧ t.os = s.os ∧ AllBare t.gens) s := fun H hO hS hok hA => by
    have none_at : ∀ {b : Addr} {o : Obj}, s.heap.get? b = some o → (b = a → False) → H b = none := fun {b o} e n => by
      cases q : H b with
      | none => rfl
      | some u => exact (n (hA b (by rw [q]; exact fun z => nomatch z)).1).elim
    have inBase : ∀ {b : Addr} {o : Obj}, s.heap.get? b = some o → H b = none → (hidT s.heap H).get? b = some o := fun e n => hidT_get e n
    have kIn : K.In (hidT s.heap H) := fun b o e => by
      refine inBase (KX b o e) ?_
      cases q : H b with
      | none => rfl
      | some u =>
        obtain ⟨rfl, z⟩ := hA b (by rw [q]; exact fun z => nomatch z)
        rw [z] at e; cases e
    have keepNs : ∀ {b : Addr} {m : Str → Option Value}, s.heap.Ns b m → (hidT s.heap H).Ns b m := fun {b m} ⟨o, es, ep, e, d, r⟩ => by
      refine ⟨o, es, ep, inBase e (none_at e fun z => ?_), d, r⟩
      subst z
      rw [ha] at e
      cases e
      exact nomatch (show Data.seq vs.toArray _ = Data.dict es ep from d)
    have hMod : Mod K mg (hidT s.heap H) := ⟨kIn, keepNs hns, ⟨mb, keepNs hb, hbb⟩, let ⟨mc, z1, z2⟩ := hlim; ⟨mc, keepNs z1, z2⟩⟩
    have e0 : Env0 P w K mg (hidT s.heap H) callerA [] s H := ⟨rfl, hMod, fun b o e => of_hidT e, Nat.le_of_eq (hidT_size _ _), trivial, fun b z => absurd (show b ∈ ([] : List Addr) from z) (List.not_mem_nil), hok, .of_eq hg⟩
    refine codeAny_mono ((F _ kIn (keepNs hns)).run callerA [] s H ⟨[.ref a], []⟩ [.ref a] [.ref a] _ _ hr rfl e0 (hbind s (.ref a)) (.cons rfl .nil) (lawSp (hM H) hS ok)) fun r t z => ?_
    cases r with
    | error e => obtain ⟨_, _, _, _, _, _, _, _, _, _, _, _, z⟩ := z; exact z.elim
    | ok fl =>
      cases fl with
      | ret u =>
        obtain ⟨v, H', os, bare, un, hok', r', q⟩ := z
        cases (show v = .bl true from q)
        cases (show u = Value.bool true from r')
        refine ⟨rfl, OldK.of_keep fun b o e => ?_, os, bare⟩
        rcases hO b with q | ⟨ob, xs, q⟩
        · exact un.keep b o e q (fun y => absurd (show b ∈ ([] : List Addr) from y) List.not_mem_nil) List.not_mem_nil
        · obtain ⟨e1, _⟩ := hok b _ q
          obtain ⟨e2, _⟩ := hok' b _ (un.frzs b ob _ q)
          rw [e] at e1; cases e1
          exact e2
      | next => exact z.elim
      | brk => exact z.elim
      | cont => exact z.elim
  cases hk : K.lookup a with
  | some o =>
    have e := KX a o hk
    rw [ha] at e
    cases e
    refine go (fun _ => none) (fun _ => .inl rfl) (.inr ⟨_, vs.toArray, _, hk, rfl, rfl, rfl, ?_, by simpa using rv⟩) (fun b u z => nomatch (show (none : Option HO) = some u from z)) fun b z => absurd rfl z
    rw [List.size_toArray, lv]; exact hl
  | none =>
    refine go (fun b => if b = a then some (.frz { cls := .type "list", data := .seq vs.toArray } (.lst (ns.map V.int))) else none) (fun b => ?_) (.inl (.inr ⟨_, if_pos rfl⟩)) (fun b u z => ?_) fun b z => ?_
    · show (if b = a then _ else _) = none ∨ ∃ o xs, (if b = a then _ else _) = some (HO.frz o (HO.lst xs))
      split
      · exact .inr ⟨_, _, rfl⟩
      · exact .inl rfl
    · have z : (if b = a then some (HO.frz { cls := .type "list", data := .seq vs.toArray } (.lst (ns.map V.int))) else none) = some u := z
      split at z
      · rename_i hb
        cases z
        subst hb
        exact ⟨ha, by rw [List.length_map]; exact hl, vs, _, rv, ha⟩
      · cases z
    · have z : (if b = a then some (HO.frz { cls := .type "list", data := .seq vs.toArray } (.lst (ns.map V.int))) else none) ≠ none := z
      split at z
      · rename_i hb; exact ⟨hb, hk⟩
      · exact absurd rfl z
end
theorem walkG {l : PySem.W.OpenLaw} {n k : Nat} {q : Program} {loose : List Str} {XP : (Str → Option Value) → Heap → Prop} {YP : World → Heap → Prop} {d : DefRec} {M : Memo} {ff : List D → Cr} {x : Str}
    (hM : ∀ H, M.inv H H) (hn : l.most = some n) (hn2 : n ≤ sizeLine) (hdf : d.params.defaults = []) (hr : Room k callerA)
    (F : ∀ (w : World) (mg : Str → Option Value) (fa : Addr) (h : Heap), YP w h → h.Ns mainGlobals mg → mg d.name = some (.ref fa) →
      ∃ (K : Frag) (fd : FuncData), K.In h ∧ (∀ (s : Shared) (u : Value), BindsTo s fd ⟨[u], []⟩ [(x, u)]) ∧ ∀ base : Heap, K.In base → base.Ns mainGlobals mg → FnG l.prog w K mg base k fa fd [x] (spF K M ff [] 1))
    (ok : ∀ ns : List Int, ns.length ≤ n → ∃ rs, ff [.lst false (ns.map .int)] = .ok (.bl true) rs) :
    PySem.W.WalkO q loose XP YP l.row.toRowW d [] (fun f vs => PySem.call f vs) := by
  refine Att.attach_call hn hdf fun w s₀ s₁ mg mb fa o pm cd doc a vs ns G Y ho hd hcd hmg hobj hints hlen hg => ?_
  obtain ⟨K, fd, KX, hb, hF⟩ := F w mg fa _ Y G.T.g hmg
  exact lawGo hM KX G.T.g G.T.b G.T.builtins G.T.nolimit hg hobj hints (Nat.le_trans hlen hn2) hr hF hb (ok ns hlen)
end PI

set_option Elab.async false
set_option linter.all false
set_option maxRecDepth 100000
set_option maxHeartbeats 1000000
namespace PI
open PySem PySem.Spec PyProof.Rows L2
open PySem.W (Frag InstAt findIn isFn selfFirst subIn Looks)
open He (ga ma eqO eqO_ok ba)
/-! ### facts of the written part, by a look -/
def prAt (K : Frag) (C : Addr) (f : Str) : Addr := match PySem.W.recIn K (ma K C f) "property" with
  | some (.ref g :: _) => g
  | _ => 0
/-- where a def stands -/
def gaF (x : Str) (K : Frag) : Addr := ga K x
def maF (c m : Str) (K : Frag) : Addr := ma K (ga K c) m
def prF (c f : Str) (K : Frag) : Addr := prAt K (ga K c) f
abbrev Fc : Type := Frag → Bool
def isSm {α : Type} : Option α → Bool
  | some _ => true
  | none => false
def kGlo (x : Str) : Fc := fun K => eqO (PySem.W.nsIn K mainGlobals x) (some (some (.ref (ga K x))))
def kFree (x : Str) : Fc := fun K => eqO (PySem.W.nsIn K mainGlobals x) (some none)
def kStr (x z : Str) : Fc := fun K => match PySem.W.nsIn K mainGlobals x with
  | some (some (.str y _)) => decide (y = z)
  | _ => false
def kCls (c : Str) : Fc := fun K => PySem.W.plainGet K (ga K c) Str.empty && (PySem.W.hasDictIn K (ga K c) && (PySem.W.plainOver K (ga K c) && eqO (findIn K (.ref (ga K c)) "__setattr__") (some (some (.builtin "object.__setattr__")))))
def kNo (c f : Str) : Fc := fun K => eqO (findIn K (.ref (ga K c)) f) (some none)
def kMeth (c m : Str) : Fc := fun K => eqO (findIn K (.ref (ga K c)) m) (some (some (.ref (maF c m K)))) && (isFn K (.ref (maF c m K)) && PySem.W.keepIn K (.ref (maF c m K)))
def kMk (c : Str) : Fc := fun K => PySem.W.makesIn K (ga K c) && (eqO (findIn K (.ref (ga K c)) "__init__") (some (some (.ref (maF c "__init__" K)))) && (isFn K (.ref (maF c "__init__" K)) && PySem.W.keepIn K (.ref (ga K c))))
def kProp (c f : Str) : Fc := fun K => eqO (findIn K (.ref (ga K c)) f) (some (some (.ref (maF c f K)))) && (eqO (PySem.W.specialIn K (.ref (maF c f K)) "__get__") (some (some (.builtin "property.__get__"))) &&
  (decide (PySem.W.takesIn K (.ref (maF c f K)) = some true) && (match PySem.W.recIn K (maF c f K) "property" with
    | some (.ref _ :: _) => true
    | _ => false)))
def kOpL (op : Operator) (c : Str) : Fc := fun K => selfFirst K (ga K c) && (eqO (findIn K (.ref (ga K c)) (dunder op.info.2)) (some (some (.ref (maF c (dunder op.info.2) K)))) && (isFn K (.ref (maF c (dunder op.info.2) K)) &&
  ((match findIn K (.ref (ga K c)) (dunderR op.info.2) with
    | some none => true
    | some (some (.ref _)) => true
    | _ => false) && (isSm (findIn K (.type "int") (dunder op.info.2)) && (isSm (findIn K (.type "int") (dunderR op.info.2)) && decide (subIn K (.type "int") (.ref (ga K c)) = some false))))))
def kOpR (op : Operator) (c : Str) : Fc := fun K => selfFirst K (ga K c) && ((match findIn K (.ref (ga K c)) (dunder op.info.2) with
    | some (some (.ref _)) => true
    | _ => false) && (eqO (findIn K (.ref (ga K c)) (dunderR op.info.2)) (some (some (.ref (maF c (dunderR op.info.2) K)))) && (isFn K (.ref (maF c (dunderR op.info.2) K)) && decide (subIn K (.ref (ga K c)) (.type "int") = some false))))
def kInv (c : Str) : Fc := fun K => eqO (findIn K (.ref (ga K c)) "__invert__") (some (some (.ref (maF c "__invert__" K)))) && isFn K (.ref (maF c "__invert__" K))
def kEq (c : Str) : Fc := fun K => eqO (findIn K (.ref (ga K c)) "__eq__") (some (some (.ref (maF c "__eq__" K)))) && (isFn K (.ref (maF c "__eq__" K)) && ["NoneType", "bool", "int", "str", "list", "tuple"].all fun T => decide (subIn K (.type T) (.ref (ga K c)) = some false))
def kIs (tab : List (Str × Bool)) (c : Str) : Fc := fun K => (tab.all fun p => kCls p.1 K && (eqO (findIn K (.ref (ga K p.1)) "__class__") (some (some (.builtin "object.__class__"))) && (decide (PySem.W.mroIn K (ga K p.1) (.type "object") = some true) && decide (PySem.W.kitOne K (.ref (ga K p.1)) (.ref (ga K c)) = some p.2)))) &&
  (eqO (PySem.W.specialIn K (.builtin "object.__class__") "__get__") (some (some (.builtin "getset_descriptor.__get__"))) && (decide (PySem.W.takesIn K (.builtin "object.__class__") = some true) &&
    ["NoneType", "bool", "int", "str", "list", "tuple", "dict"].all fun T => decide (PySem.W.kitOne K (.type T) (.ref (ga K c)) = some false)))
/-- an own exception class with its own __init__, over ValueError -/
def kExc (c : Str) : Fc := fun K => (match K.lookup (ga K c) with
    | some ⟨.type t, _, .cls cd, sl⟩ => decide (t = "type") && ((match cd.mro, sl.toList with
      | .ref C' :: bm, [_, _, _, _, some (.builtin n), _] => decide (C' = ga K c) && (decide (n = "ValueError.__new__") && PySem.HandSPX.refsVE bm)
      | _, _ => false) && (cd.hasDict && !cd.hasDel))
    | _ => false) && (eqO (findIn K (.ref (ga K c)) "__setattr__") (some (some (.builtin "object.__setattr__"))) && (decide (subIn K (.ref (ga K c)) (.type "BaseException") = some true) && (decide (PySem.W.typeIn K (.ref (ga K c)) = some (.type "type")) && PySem.W.keepIn K (.ref (ga K c)))))
def kInit (c d : Str) : Fc := fun K => eqO (findIn K (.ref (ga K c)) "__init__") (some (some (.ref (maF d "__init__" K)))) && decide (PySem.W.typeIn K (.ref (maF d "__init__" K)) = some (.type "function"))
section
variable {K : Frag} {h : Heap} {mg : Str → Option Value} {c m f x : Str}
theorem glo_of (X : K.In h) (G : h.Ns mainGlobals mg) (e : kGlo x K = true) : mg x = some (.ref (ga K x)) := PySem.W.mg_of X G (eqO_ok e)
theorem free_of (X : K.In h) (G : h.Ns mainGlobals mg) (e : kFree x K = true) : mg x = none := PySem.W.mg_none_of X G (eqO_ok e)
theorem str_of {z : Str} (X : K.In h) (G : h.Ns mainGlobals mg) (e : kStr x z K = true) : ∃ t, mg x = some (.str z t) := by
  unfold kStr at e
  split at e
  · rename_i y t q
    cases of_decide_eq_true e
    exact ⟨t, PySem.W.mg_of X G q⟩
  · cases e
theorem cls_of (e : kCls c K = true) : Cls K (ga K c) := by
  obtain ⟨a, e⟩ := ba e
  obtain ⟨b, e⟩ := ba e
  obtain ⟨d, e⟩ := ba e
  exact ⟨a, b, d, eqO_ok e⟩
theorem no_of (e : kNo c f K = true) : NoAttr K (ga K c) f := eqO_ok e
theorem meth_of (e : kMeth c m K = true) : Meth K (ga K c) m (maF c m K) := by
  obtain ⟨a, e⟩ := ba e
  obtain ⟨b, e⟩ := ba e
  exact ⟨eqO_ok a, b, e⟩
theorem mk_of' (e : kMk c K = true) : Mk K (ga K c) (maF c "__init__" K) := by
  obtain ⟨a, e⟩ := ba e
  obtain ⟨b, e⟩ := ba e
  obtain ⟨d, e⟩ := ba e
  exact ⟨a, eqO_ok b, d, e⟩
theorem prop_of (e : kProp c f K = true) : PropOf K (ga K c) f (maF c f K) (prF c f K) := by
  obtain ⟨a, e⟩ := ba e
  obtain ⟨b, e⟩ := ba e
  obtain ⟨d, e⟩ := ba e
  refine ⟨eqO_ok a, eqO_ok b, of_decide_eq_true d, ?_⟩
  split at e
  · rename_i g r q
    refine ⟨r, ?_⟩
    have : prF c f K = g := by
      show prAt K (ga K c) f = g
      unfold prAt
      have q' : PySem.W.recIn K (ma K (ga K c) f) "property" = some (.ref g :: r) := q
      rw [q']
    rw [this]
    exact q
  · cases e
theorem opL_of {op : Operator} (e : kOpL op c K = true) : OpL K op (ga K c) (maF c (dunder op.info.2) K) := by
  obtain ⟨a1, e⟩ := ba e
  obtain ⟨a2, e⟩ := ba e
  obtain ⟨a3, e⟩ := ba e
  obtain ⟨a4, e⟩ := ba e
  obtain ⟨a5, e⟩ := ba e
  obtain ⟨a6, e⟩ := ba e
  refine ⟨a1, eqO_ok a2, a3, ?_, ?_, ?_, of_decide_eq_true e⟩
  · split at a4
    · rename_i q; exact ⟨_, q, .inl rfl⟩
    · rename_i g q; exact ⟨_, q, .inr ⟨g, rfl⟩⟩
    · cases a4
  · cases q : findIn K (.type "int") (dunder op.info.2) with
    | none => rw [q] at a5; cases a5
    | some r => exact ⟨r, rfl⟩
  · cases q : findIn K (.type "int") (dunderR op.info.2) with
    | none => rw [q] at a6; cases a6
    | some r => exact ⟨r, rfl⟩
theorem opR_of {op : Operator} (e : kOpR op c K = true) : OpRv K op (ga K c) (maF c (dunderR op.info.2) K) := by
  obtain ⟨a1, e⟩ := ba e
  obtain ⟨a2, e⟩ := ba e
  obtain ⟨a3, e⟩ := ba e
  obtain ⟨a4, e⟩ := ba e
  refine ⟨a1, ?_, eqO_ok a3, a4, of_decide_eq_true e⟩
  split at a2
  · rename_i g q; exact ⟨g, q⟩
  · cases a2
theorem inv_of (e : kInv c K = true) : OpU K (ga K c) (maF c "__invert__" K) := by
  obtain ⟨a1, e⟩ := ba e
  exact ⟨eqO_ok a1, e⟩
theorem eq_of (e : kEq c K = true) : OpE K (ga K c) (maF c "__eq__" K) := by
  obtain ⟨a1, e⟩ := ba e
  obtain ⟨a2, e⟩ := ba e
  exact ⟨eqO_ok a1, a2, fun T hT => of_decide_eq_true (List.all_eq_true.mp e T hT)⟩
theorem is_of {tab : List (Str × Bool)} (e : kIs tab c K = true) : IsOk K tab (ga K c) := by
  obtain ⟨a1, e⟩ := ba e
  obtain ⟨a2, e⟩ := ba e
  obtain ⟨a3, e⟩ := ba e
  refine ⟨fun d b q => ?_, eqO_ok a2, of_decide_eq_true a3, fun T hT => of_decide_eq_true (List.all_eq_true.mp e T hT)⟩
  have h := List.all_eq_true.mp a1 (d, b) (lk_mem q)
  obtain ⟨b1, h⟩ := ba h
  obtain ⟨b2, h⟩ := ba h
  obtain ⟨b3, h⟩ := ba h
  exact ⟨cls_of b1, eqO_ok b2, of_decide_eq_true b3, of_decide_eq_true h⟩
where
  lk_mem {l : List (Str × Bool)} {d : Str} {b : Bool} (q : l.lookup d = some b) : (d, b) ∈ l := by
    induction l with
    | nil => cases q
    | cons p l ih =>
      obtain ⟨k, v⟩ := p
      rw [List.lookup_cons] at q
      split at q
      · rename_i hb
        cases q
        rw [eq_of_beq hb]
        exact List.mem_cons_self ..
      · exact List.mem_cons_of_mem _ (ih q)
theorem exc_of (e : kExc c K = true) : OexC K (ga K c) := by
  obtain ⟨a1, e⟩ := ba e
  obtain ⟨a2, e⟩ := ba e
  obtain ⟨a3, e⟩ := ba e
  obtain ⟨a4, e⟩ := ba e
  refine ⟨?_, eqO_ok a2, of_decide_eq_true a3, of_decide_eq_true a4, e⟩
  split at a1
  · rename_i t dd cd sl ho
    obtain ⟨b1, a1⟩ := ba a1
    obtain ⟨b2, a1⟩ := ba a1
    obtain ⟨b3, b4⟩ := ba a1
    cases of_decide_eq_true b1
    split at b2
    · rename_i C' bm k0 k1 k2 k3 n k5 hm hs
      obtain ⟨c1, b2⟩ := ba b2
      obtain ⟨c2, c3⟩ := ba b2
      have c1 := of_decide_eq_true c1
      have c2 := of_decide_eq_true c2
      obtain ⟨nm, bs, mro, ns, qn, hd, sn, sub, ab, col, del⟩ := cd
      dsimp only at hm b3 b4
      subst hm b3 c2
      have hdel : del = false := by
        cases del with
        | false => rfl
        | true => cases b4
      subst hdel
      have hsl : sl = #[k0, k1, k2, k3, some (.builtin "ValueError.__new__"), k5] := by
        apply Array.ext'
        rw [hs]
      subst hsl
      rw [c1] at ho
      exact ⟨nm, qn, ns, bs, bm, sn, sub, ab, col, dd, k0, k1, k2, k3, k5, ho, c3⟩
    · cases b2
  · cases a1
theorem init_of {d : Str} (e : kInit c d K = true) : findIn K (.ref (ga K c)) "__init__" = some (some (.ref (maF d "__init__" K))) ∧ PySem.W.typeIn K (.ref (maF d "__init__" K)) = some (.type "function") := by
  obtain ⟨a1, e⟩ := ba e
  exact ⟨eqO_ok a1, of_decide_eq_true e⟩
end
/-! ### the Hook -/
abbrev DefA := He5.DefA
def obsP (fc : List Fc) (fn : List DefA) (K : Frag) : He.AlD := ((fc.all fun f => f K) && fn.all fun d => d.ok K, fn.map fun d => He5.fnA K (d.at_ K))
def valP (fn : List DefA) : He.AlD := (true, fn.map He5.DefA.val)
def SaysP (fc : List Fc) (fn : List DefA) (K : Frag) : Prop := obsP fc fn K = valP fn
def asP (g : Addr → Option Obj) (n : Nat) : List Addr := He.asD g n ++ [cStatics]
def obsPG (n : Nat) (fc : List Fc) (fn : List DefA) (g : Addr → Option Obj) : He.AlD := obsP fc fn (He.frG g (asP g n))
def hookP (n : Nat) (fc : List Fc) (fn : List DefA) : PySem.W.Hook where
  α := He.AlD
  obs := fun s => obsPG n fc fn s.heap.get?
  val := fun _ => valP fn
  says := fun _ h => ∃ K : Frag, K.In h ∧ SaysP fc fn K
  of := fun _ _ e => ⟨_, He.frG_in, e⟩
  keeps := fun _ _ _ ⟨K, hK, c⟩ k => ⟨K, Frag.In.keeps hK k, c⟩
theorem obsPG_eq {n : Nat} {fc : List Fc} {fn : List DefA} {g : Addr → Option Obj} {s : Shared} (h : ∀ a, g a = s.heap.get? a) : obsPG n fc fn g = (hookP n fc fn).obs s := by
  have e : g = s.heap.get? := funext h
  rw [e] <;> rfl
section
variable {fc : List Fc} {fn : List DefA} {K : Frag}
theorem SaysP.fact (c : SaysP fc fn K) (i : Nat) {f : Fc} (h : fc[i]? = some f) : f K = true := by
  have c1 := (ba (show ((fc.all fun f => f K) && fn.all fun d => d.ok K) = true from congrArg (fun z : He.AlD => z.1) c)).1
  exact List.all_eq_true.mp c1 f (List.mem_of_getElem? h)
theorem SaysP.def_ (c : SaysP fc fn K) (i : Nat) {d : DefA} (h : fn[i]? = some d) : ∃ fd, FunD K d.name d.qual d.params d.body d.scope (d.dvs K) (d.kws K) (d.at_ K) fd := by
  have c2 := (ba (show ((fc.all fun f => f K) && fn.all fun d => d.ok K) = true from congrArg (fun z : He.AlD => z.1) c)).2
  have e : fn.map (fun d => He5.fnA K (d.at_ K)) = fn.map He5.DefA.val := congrArg (fun z : He.AlD => z.2) c
  have e2 : (fn.map fun d => He5.fnA K (d.at_ K))[i]? = (fn.map He5.DefA.val)[i]? := by rw [e]
  rw [List.getElem?_map, List.getElem?_map, h] at e2
  exact He5.DefA.funD (Option.some.inj e2) (List.all_eq_true.mp c2 d (List.mem_of_getElem? h))
end
end PI

set_option Elab.async false
set_option linter.all false
set_option maxRecDepth 100000
set_option maxHeartbeats 1000000
namespace PI
open PySem PySem.Spec PyProof.Rows L2
open PySem.W (Frag InstAt findIn isFn selfFirst subIn Looks)
/-! ### words over a def's context -/
structure Ct (P : Program) (w : World) (K : Frag) (mg : Str → Option Value) (base : Heap) (N : List Str) (sc : Scope) (k : Nat) (X : Cx) (W : WX) : Prop where
  prog : X.prog = P
  w : X.w = w
  K : X.K = K
  mg : X.mg = mg
  base : X.base = base
  N : X.N = N
  sc : X.env.scope = sc
  room : Room k X.A
  gu : X.A.guards = some []
  tk : Takes X W
  calm : X.calm = true
  nd : X.N.Nodup
def visB (sc : Scope) (x : Str) : Bool := match sc.names.lookup x with
  | some .local => true
  | some .cell => true
  | some .free => true
  | _ => false
def locB (sc : Scope) (x : Str) : Bool := match sc.names.lookup x with
  | some .local => true
  | some .cell => true
  | _ => false
def isLoc (sc : Scope) (x : Str) : Bool := match sc.names.lookup x with
  | some .local => true
  | _ => false
def glB (sc : Scope) (x : Str) : Bool := match sc.names.lookup x with
  | some .globalImplicit => true
  | _ => false
/-- a local's name: its place, and that it may be read -/
def okV (N : List Str) (sc : Scope) (i : Nat) (x : Str) : Bool := decide (N[i]? = some x) && (visB sc x && (!(x == ("__debug__" : Str)) && !(x == ("__classdict__" : Str))))
def okL (N : List Str) (sc : Scope) (i : Nat) (x : Str) : Bool := decide (N[i]? = some x) && locB sc x
def okG (sc : Scope) (x : Str) : Bool := glB sc x && !(x == ("__debug__" : Str))
def bootB (x : Str) (u : Value) : Bool := match bootBuiltins x, u with
  | some (.builtin a), .builtin b => decide (a = b)
  | some (.type a), .type b => decide (a = b)
  | _, _ => false
def okB (sc : Scope) (x : Str) (u : Value) : Bool := glB sc x && (!(x == ("__debug__" : Str)) && (!(x == ("__name__" : Str)) && bootB x u))
section
variable {P : Program} {w : World} {K : Frag} {M : Memo} {mg : Str → Option Value} {base : Heap} {N : List Str} {sc : Scope} {k : Nat} {X : Cx} {W : WX} {x y z f m c : Str} {p pos p1 p2 p3 apos : Pos} {e a b : Expr} {fx : List Nat} {i j l : Nat}
theorem Ct.hu (c : Ct P w K mg base N sc k X W) : X.A.units + 64 < cLine := c.room.units
theorem vis_of (h : visB sc x = true) : Vis sc x := by
  unfold visB at h
  split at h
  · rename_i q; exact .inl q
  · rename_i q; exact .inr (.inl q)
  · rename_i q; exact .inr (.inr q)
  · cases h
theorem loc_of (h : locB sc x = true) : Loc sc x := by
  unfold locB at h
  split at h
  · rename_i q; exact .inl q
  · rename_i q; exact .inr q
  · cases h
theorem isLoc_of (h : isLoc sc x = true) : sc.names.lookup x = some .local := by
  unfold isLoc at h
  split at h
  · rename_i q; exact q
  · cases h
theorem gl_of (h : glB sc x = true) : sc.names.lookup x = some .globalImplicit := by
  unfold glB at h
  split at h
  · rename_i q; exact q
  · cases h
theorem notT {b : Bool} (h : (!b) = true) : b = false := by cases b <;> first | rfl | cases h
theorem wVar (c : Ct P w K mg base N sc k X W) (h : okV N sc i x = true) : PE X (.Name x p) (tVar i) := by
  obtain ⟨h1, h⟩ := He.ba h
  obtain ⟨h2, h⟩ := He.ba h
  obtain ⟨h3, h4⟩ := He.ba h
  exact pe_var (by rw [c.N]; exact of_decide_eq_true h1) (by rw [c.sc]; exact vis_of h2) (notT h3) (notT h4)
theorem wV (c : Ct P w K mg base N sc k X W) (h : okV N sc i x = true) : PE X (.Name x p) (tP X.K M W (pV i)) := pe_V (wVar c h)
theorem wN (c : Ct P w K mg base N sc k X W) (h : okV N sc i x = true) : PE X (.Name x p) (tO X.K M W (.nm i)) := pe_Onm (wVar c h)
theorem wX {mm : PX} (h : PE X e (tP X.K M W mm)) : PE X e (tO X.K M W (.ex mm)) := pe_Oex h
theorem kI {n : Int} {j : Nat} : PE X (.Constant (.int n) j p) (tP X.K M W (pC (.int n))) := pe_C pe_int fun _ => rfl
theorem kS {n : Str} {j : Nat} : PE X (.Constant (.str n) j p) (tP X.K M W (pC (.str n))) := pe_C pe_str fun _ => rfl
theorem kB {n : Bool} {j : Nat} : PE X (.Constant (.bool n) j p) (tP X.K M W (pC (.bl n))) := pe_C pe_bl fun _ => rfl
theorem kN {j : Nat} : PE X (.Constant .none j p) (tP X.K M W (pC .non)) := pe_C pe_non fun _ => rfl
theorem Ct.gl (c : Ct P w K mg base N sc k X W) (h : glB sc x = true) : Gl X x := by
  show X.env.scope.names.lookup x = _
  rw [c.sc]
  exact gl_of h
theorem wGS (c : Ct P w K mg base N sc k X W) (h : okG sc x = true) (hm : ∃ t, mg x = some (.str z t)) : PE X (.Name x p) (tP X.K M W (pC (.str z))) := by
  obtain ⟨h1, h2⟩ := He.ba h
  obtain ⟨t, ht⟩ := hm
  exact pe_C (pe_glob (c.gl h1) (by rw [c.mg]; exact ht) (show RelV (.str z) (.str z t) from ⟨t, rfl⟩) (notT h2)) fun _ => rfl
/-! arguments, lists -/
theorem wL0 : PA X [] (tL X.K M W (pAll [])) := pa_all0
theorem wLc {es : List Expr} {mm : PX} {ms : List PX} (hp : PE X e (tP X.K M W mm)) (hr : PA X es (tL X.K M W (pAll ms))) (hs : noStar e = true) : PA X (e :: es) (tL X.K M W (pAll (mm :: ms))) := pa_allc hp hr (star_of hs)
theorem wO0 : PA X [] (tOs X.K M W []) := pa_O0
theorem wOc {es : List Expr} {o : Op} {os : List Op} (hp : PE X e (tO X.K M W o)) (hr : PA X es (tOs X.K M W os)) (hs : noStar e = true) : PA X (e :: es) (tOs X.K M W (o :: os)) := pa_Oc hp hr (star_of hs)
/-! built-ins -/
theorem bootB_of {u : Value} (h : bootB x u = true) : bootBuiltins x = some u := by
  unfold bootB at h
  split at h
  · rename_i q; cases of_decide_eq_true h; exact q
  · rename_i q; cases of_decide_eq_true h; exact q
  · cases h
theorem okB_b {u : Value} (h : okB sc x u = true) : glB sc x = true ∧ (x == ("__debug__" : Str)) = false ∧ x ≠ "__name__" ∧ bootBuiltins x = some u := by
  obtain ⟨h1, h⟩ := He.ba h
  obtain ⟨h2, h⟩ := He.ba h
  obtain ⟨h3, h⟩ := He.ba h
  refine ⟨h1, notT h2, fun z => ?_, ?_⟩
  · rw [z] at h3; cases h3
  · exact bootB_of h
theorem wCB (c : Ct P w K mg base N sc k X W) {id : String} {ff : List D → Sg → Rs D} {es : List Expr} {os : List Op} (h : okB sc x (.builtin id) = true) (hm : mg x = none) (hc : CallS X (.builtin id) (rFN X.K M W ff)) (ha : PA X (e :: es) (tOs X.K M W os)) (hes : (e :: es).all noStar = true) :
    PE X (.Call (.Name x p) (e :: es) [] pos) (tP X.K M W (pOps ff os)) := by
  obtain ⟨h1, h2, h3, h4⟩ := okB_b h
  rw [List.all_cons, Bool.and_eq_true] at hes
  exact pe_callBS hc (c.gl h1) (by rw [c.mg]; exact hm) h4 ha h3 h2 (star_of hes.1) (stars_of hes.2)
theorem wCT (c : Ct P w K mg base N sc k X W) {T : String} {ff : List D → Sg → Rs D} {es : List Expr} {os : List Op} (h : okB sc x (.type T) = true) (hm : mg x = none) (hc : CallS X (.type T) (rFN X.K M W ff)) (ha : PA X (e :: es) (tOs X.K M W os)) (hes : (e :: es).all noStar = true) :
    PE X (.Call (.Name x p) (e :: es) [] pos) (tP X.K M W (pOps ff os)) := by
  obtain ⟨h1, h2, h3, h4⟩ := okB_b h
  rw [List.all_cons, Bool.and_eq_true] at hes
  exact pe_callTS hc (c.gl h1) (by rw [c.mg]; exact hm) h4 ha h3 h2 (star_of hes.1) (stars_of hes.2)
/-! own defs, by name: level j -/
/-- a def of the text, at level j, by n positional values and the names ks -/
def FnC (P : Program) (w : World) (K : Frag) (M : Memo) (mg : Str → Option Value) (base : Heap) (j : Nat) (f : Addr) (ps : List Str) (ff : List D → Cr) (rf : List Nat) : Prop :=
  ∃ fd, FnG P w K mg base j f fd ps (spF K M ff rf ps.length) ∧ PySem.W.keepIn K (.ref f) = true
/-- the same with how it is bound -/
def FnB (P : Program) (w : World) (K : Frag) (M : Memo) (mg : Str → Option Value) (base : Heap) (j : Nat) (f : Addr) (ff : List D → Cr) (rf : List Nat) (n : Nat) (ks : List Str) (pm : Pm) : Prop :=
  ∃ fd ps, FnG P w K mg base j f fd ps (spF K M ff rf ps.length) ∧ PySem.W.keepIn K (.ref f) = true ∧ BindP K fd ps n ks pm
theorem wCall (c : Ct P w K mg base N sc k X W) {f : Addr} {ff : List D → Cr} {rf : List Nat} {pm : Pm} {es : List Expr} {kws : List Keyword} {as bs : List Ar} (F : FnB P w K M mg base j f ff rf as.length (kwNames kws) pm) (hj : j ≤ k) (h : okG sc x = true) (hm : mg x = some (.ref f))
    (ha : PA X es (tA X.K M W as)) (hkw : PK X kws (tA X.K M W bs)) (hck : (decide (as.length = es.length) && (decide (bs.length = (kwNames kws).length) && (distinct ((as ++ bs).map nmA) && (distinct (pm.map inlOf) && (es.all noStar && kws.all (·.arg.isSome)))))) = true) :
    PE X (.Call (.Name x p) es kws pos) (tP X.K M W (pCall ff rf (as ++ bs) pm)) := by
  obtain ⟨h1, h2⟩ := He.ba h
  obtain ⟨k1, hck⟩ := He.ba hck
  obtain ⟨k2, hck⟩ := He.ba hck
  obtain ⟨k3, hck⟩ := He.ba hck
  obtain ⟨k4, hck⟩ := He.ba hck
  obtain ⟨k5, k6⟩ := He.ba hck
  obtain ⟨fd, ps, G, kp, hb⟩ := F
  have gl := c.gl h1
  obtain ⟨rfl, rfl, rfl, rfl, rfl, rfl, rfl, room, gu, tk, calm, nd⟩ := c
  exact pe_Call G (room.mono hj) gu tk gl hm kp hb ha hkw (of_decide_eq_true k1) (of_decide_eq_true k2) k3 k4 k5 k6 (notT h2)
theorem wNew (c : Ct P w K mg base N sc k X W) {cn : Str} {ff : List D → Cr} {rf : List Nat} {pm : Pm} {es : List Expr} {kws : List Keyword} {as bs : List Ar} (C : Mk K (He.ga K cn) (maF cn "__init__" K)) (F : FnB P w K M mg base j (maF cn "__init__" K) ff rf (as.length + 1) (kwNames kws) pm) (hj : j + 1 ≤ k) (h : okG sc x = true) (hm : mg x = some (.ref (He.ga K cn)))
    (pl : ∀ dx fs, M.plain (.ins (He.ga K cn) dx fs)) (ha : PA X es (tA X.K M W as)) (hkw : PK X kws (tA X.K M W bs)) (h0 : pm[0]? = some (.inl 0)) (hck : (decide (as.length = es.length) && (decide (bs.length = (kwNames kws).length) && (distinct ((as ++ bs).map nmA) && (distinct (pm.map inlOf) && (es.all noStar && kws.all (·.arg.isSome)))))) = true) :
    PE X (.Call (.Name x p) es kws pos) (tP X.K M W (pNew cn ff rf (as ++ bs) pm)) := by
  obtain ⟨h1, h2⟩ := He.ba h
  obtain ⟨k1, hck⟩ := He.ba hck
  obtain ⟨k2, hck⟩ := He.ba hck
  obtain ⟨k3, hck⟩ := He.ba hck
  obtain ⟨k4, hck⟩ := He.ba hck
  obtain ⟨k5, k6⟩ := He.ba hck
  obtain ⟨fd, ps, G, kp, hb⟩ := F
  have gl := c.gl h1
  obtain ⟨rfl, rfl, rfl, rfl, rfl, rfl, rfl, room, gu, tk, calm, nd⟩ := c
  exact pe_New C G (room.mono hj) gu tk gl hm hb h0 pl ha hkw (of_decide_eq_true k1) (of_decide_eq_true k2) k3 k4 k5 k6 (notT h2)
end
end PI

set_option Elab.async false
set_option linter.all false
set_option maxRecDepth 100000
set_option maxHeartbeats 1000000
namespace PI
open PySem PySem.Spec PyProof.Rows L2
open PySem.W (Frag InstAt findIn isFn selfFirst subIn Looks)
section
variable {P : Program} {w : World} {K : Frag} {M : Memo} {mg : Str → Option Value} {base : Heap} {N : List Str} {sc : Scope} {k : Nat} {X : Cx} {W : WX} {x y z f m cn : Str} {p pos p1 p2 p3 apos : Pos} {e a b o : Expr} {fx : List Nat} {i j l : Nat} {es : List Expr} {kws : List Keyword} {as bs : List Ar}
/-! methods, properties, fields, own operators: what the written part must say, level by level -/
def CdF (P : Program) (w : World) (K : Frag) (M : Memo) (mg : Str → Option Value) (base : Heap) (k : Nat) (m : Str) (n : Nat) (ks : List Str) (cs : List Cd) : Prop :=
  ∀ cd ∈ cs, ∃ j f, j ≤ k ∧ FnB P w K M mg base j f cd.ff cd.rf n ks cd.pm ∧ Cls K (He.ga K cd.c) ∧ Meth K (He.ga K cd.c) m f ∧ distinct (cd.pm.map inlOf) = true
def PdF (P : Program) (w : World) (K : Frag) (M : Memo) (mg : Str → Option Value) (base : Heap) (k : Nat) (f : Str) (cs : List Cd) : Prop :=
  ∀ cd ∈ cs, ∃ j g pa, j + 1 ≤ k ∧ FnB P w K M mg base j g cd.ff cd.rf 1 [] cd.pm ∧ Cls K (He.ga K cd.c) ∧ PropOf K (He.ga K cd.c) f pa g ∧ distinct (cd.pm.map inlOf) = true
def CaF (P : Program) (w : World) (K : Frag) (M : Memo) (mg : Str → Option Value) (base : Heap) (k n : Nat) (cd : Cd) (f : Addr) : Prop :=
  ∃ j, j ≤ k ∧ FnB P w K M mg base j f cd.ff cd.rf n [] cd.pm ∧ distinct (cd.pm.map inlOf) = true
def OpF (P : Program) (w : World) (K : Frag) (M : Memo) (mg : Str → Option Value) (base : Heap) (k : Nat) (op : Operator) (ls rs : List Cd) : Prop :=
  (∀ cd ∈ ls, ∃ f, CaF P w K M mg base k 2 cd f ∧ OpL K op (He.ga K cd.c) f) ∧ (∀ cd ∈ rs, ∃ f, CaF P w K M mg base k 2 cd f ∧ OpRv K op (He.ga K cd.c) f) ∧ (rs ≠ [] → OpI op)
def EqF (P : Program) (w : World) (K : Frag) (M : Memo) (mg : Str → Option Value) (base : Heap) (k : Nat) (es : List Cd) : Prop := ∀ cd ∈ es, ∃ f, CaF P w K M mg base k 2 cd f ∧ OpE K (He.ga K cd.c) f
def InF (P : Program) (w : World) (K : Frag) (M : Memo) (mg : Str → Option Value) (base : Heap) (k : Nat) (cs : List Cd) : Prop := ∀ cd ∈ cs, ∃ f, CaF P w K M mg base k 1 cd f ∧ OpU K (He.ga K cd.c) f
theorem ca_of {n : Nat} {cd : Cd} {fa : Addr} (hr : Room k X.A) (h : CaF X.prog X.w X.K M X.mg X.base k n cd fa) : CaOk X M n cd fa := by
  obtain ⟨j, hj, ⟨fd, ps, G, kp, hb⟩, hd⟩ := h
  exact ⟨j, fd, ps, G, hr.mono hj, hb, hd⟩
theorem wMeth (c : Ct P w K mg base N sc k X W) {cs : List Cd} {a0 : Ar} {pl : Sem Bool} (C : CdF P w K M mg base k m (as.length + 1) (kwNames kws) cs) (ho : PAr X.K M W X o a0) (ha : PA X es (tA X.K M W as)) (hkw : PK X kws (tA X.K M W bs))
    (hck : (decide (as.length = es.length) && (decide (bs.length = (kwNames kws).length) && (distinct ((a0 :: (as ++ bs)).map nmA) && (es.all noStar && kws.all (·.arg.isSome))))) = true)
    (ht : eval (.Call (.Attribute o m apos) es kws pos) X.env = (do
      let ov ← eval o X.env
      standAt apos.atName
      let (f, first) ← holding [ov] (getMethod ov m pl)
      callWith pos f first (backTo pos (starEach es X.env)) (backToKw pos (keywordEach kws X.env)))) : PE X (.Call (.Attribute o m apos) es kws pos) (tP X.K M W (pMeth m cs a0 (as ++ bs))) := by
  obtain ⟨k1, hck⟩ := He.ba hck
  obtain ⟨k2, hck⟩ := He.ba hck
  obtain ⟨k3, hck⟩ := He.ba hck
  obtain ⟨k5, k6⟩ := He.ba hck
  obtain ⟨rfl, rfl, rfl, rfl, rfl, rfl, rfl, room, gu, tk, calm, nd⟩ := c
  refine pe_Meth (pl := pl) (fun cd hcd => ?_) gu tk ho ha hkw (of_decide_eq_true k1) (of_decide_eq_true k2) k3 k5 k6 ht
  obtain ⟨j, fa, hj, ⟨fd, ps, G, kp, hb⟩, h2, h3, h4⟩ := C cd hcd
  exact ⟨j, fa, fd, ps, G, room.mono hj, h2, h3, hb, h4⟩
theorem wProp (c : Ct P w K mg base N sc k X W) {cs : List Cd} {me : PX} (C : PdF P w K M mg base k f cs) (he : PE X e (tP X.K M W me)) (hab : attributeBase e f X.env (eval e X.env) = eval e X.env) : PE X (.Attribute e f pos) (tP X.K M W (pSl1 (propS cs) me)) := by
  obtain ⟨rfl, rfl, rfl, rfl, rfl, rfl, rfl, room, gu, tk, calm, nd⟩ := c
  refine pe_Prop (fun cd hcd => ?_) gu he hab
  obtain ⟨j, g, pa, hj, ⟨fd, ps, G, kp, hb⟩, h2, h3, h4⟩ := C cd hcd
  exact ⟨j, pa, g, fd, ps, G, room.mono hj, hb, h4, h2, h3⟩
theorem wFld (c : Ct P w K mg base N sc k X W) {fl : List (Str × Str)} {oa : Op} (T : FldOk K fl) (ha : PE X e (tO X.K M W oa)) (hb : attributeBase e f X.env (eval e X.env) = eval e X.env) : PE X (.Attribute e f pos) (tP X.K M W (pFld fl f oa)) := by
  obtain ⟨rfl, rfl, rfl, rfl, rfl, rfl, rfl, room, gu, tk, calm, nd⟩ := c
  exact pe_Fld T ha hb
/-- a field of some classes, a property of others: looked at first -/
def pFP (fl : List (Str × Str)) (cs : List Cd) (f : Str) (me : PX) : PX := fun g => match me g with
  | .ok d g1 => if ((clsD d).any fun c => fl.contains (c, f)) = true then pFld fl f (.ex me) g else pSl1 (propS cs) me g
  | .exc c d g1 => .exc c d g1
  | .bad => .bad
theorem wBin (c : Ct P w K mg base N sc k X W) {op : Operator} {ls rs : List Cd} {ma mb : PX} (C : OpF P w K M mg base k op ls rs) (ha : PE X a (tP X.K M W ma)) (hb : PE X b (tP X.K M W mb)) : PE X (.BinOp a op b pos) (tP X.K M W (pSl2 (binS op ls rs) ma mb)) := by
  obtain ⟨rfl, rfl, rfl, rfl, rfl, rfl, rfl, room, gu, tk, calm, nd⟩ := c
  refine pe_Bin ⟨fun cd hcd => ?_, fun cd hcd => ?_, C.2.2⟩ gu tk ha hb
  · obtain ⟨fa, h1, h2⟩ := C.1 cd hcd; exact ⟨fa, ca_of room h1, h2⟩
  · obtain ⟨fa, h1, h2⟩ := C.2.1 cd hcd; exact ⟨fa, ca_of room h1, h2⟩
theorem opF0 {op : Operator} : OpF P w K M mg base k op [] [] := ⟨fun _ z => (List.not_mem_nil z).elim, fun _ z => (List.not_mem_nil z).elim, fun z => (z rfl).elim⟩
theorem wOp (c : Ct P w K mg base N sc k X W) {op : Operator} {oa ob : Op} (ha : PE X a (tO X.K M W oa)) (hb : PE X b (tO X.K M W ob)) : PE X (.BinOp a op b pos) (tP X.K M W (pOp2 (fun d e g => ro (binD op d e) g) oa ob)) := pe_opS (bin_ok op) ha hb
theorem wInv (c : Ct P w K mg base N sc k X W) {cs : List Cd} {ma : PX} (C : InF P w K M mg base k cs) (ha : PE X a (tP X.K M W ma)) : PE X (.UnaryOp .Invert a pos) (tP X.K M W (pSl1 (invS cs) ma)) := by
  obtain ⟨rfl, rfl, rfl, rfl, rfl, rfl, rfl, room, gu, tk, calm, nd⟩ := c
  refine pe_Inv (fun cd hcd => ?_) gu tk ha
  obtain ⟨fa, h1, h2⟩ := C cd hcd; exact ⟨fa, ca_of room h1, h2⟩
/-! comparisons -/
theorem wCmp (c : Ct P w K mg base N sc k X W) {op : CmpOp} {oa ob : Op} (ha : PE X a (tO X.K M W oa)) (hb : PE X b (tO X.K M W ob)) (hm : behindInMarks op b = false) : PE X (.Compare a [op] [b] pos) (tP X.K M W (pOp2 (fun d e g => rb (cmpD op d e) g) oa ob)) := pe_cmpS (cmp_ok c.hu op) ha hb hm
theorem tCmp (c : Ct P w K mg base N sc k X W) {op : CmpOp} {oa ob : Op} (ha : PE X a (tO X.K M W oa)) (hb : PE X b (tO X.K M W ob)) (hm : behindInMarks op b = false) : PT X (.Compare a [op] [b] pos) (tB' X.K M W (pTest (pOp2 (fun d e g => rb (cmpD op d e) g) oa ob))) := pt_cmpS (cmp_ok c.hu op) ha hb hm
/-- == of what is looked at, dicts too -/
theorem wEqL (c : Ct P w K mg base N sc k X W) {oa ob : Op} (ha : PE X a (tO X.K M W oa)) (hb : PE X b (tO X.K M W ob)) (hm : behindInMarks .Eq b = false) : PE X (.Compare a [.Eq] [b] pos) (tP X.K M W (pOp2 (fun d e g => rb (eqL d e) g) oa ob)) := pe_cmpS (eqL_ok c.hu) ha hb hm
theorem tEqL (c : Ct P w K mg base N sc k X W) {oa ob : Op} (ha : PE X a (tO X.K M W oa)) (hb : PE X b (tO X.K M W ob)) (hm : behindInMarks .Eq b = false) : PT X (.Compare a [.Eq] [b] pos) (tB' X.K M W (pTest (pOp2 (fun d e g => rb (eqL d e) g) oa ob))) := pt_cmpS (eqL_ok c.hu) ha hb hm
theorem wEq (c : Ct P w K mg base N sc k X W) {es : List Cd} {ma mb : PX} (C : EqF P w K M mg base k es) (ha : PE X a (tP X.K M W ma)) (hb : PE X b (tP X.K M W mb)) (hm : behindInMarks .Eq b = false) : PE X (.Compare a [.Eq] [b] pos) (tP X.K M W (pSl2 (eqS es) ma mb)) := by
  have hu := c.hu
  obtain ⟨rfl, rfl, rfl, rfl, rfl, rfl, rfl, room, gu, tk, calm, nd⟩ := c
  refine pe_Eq hu (fun cd hcd => ?_) gu tk ha hb hm
  obtain ⟨fa, h1, h2⟩ := C cd hcd; exact ⟨fa, ca_of room h1, h2⟩
theorem tEq (c : Ct P w K mg base N sc k X W) {es : List Cd} {ma mb : PX} (C : EqF P w K M mg base k es) (ha : PE X a (tP X.K M W ma)) (hb : PE X b (tP X.K M W mb)) (hm : behindInMarks .Eq b = false) : PT X (.Compare a [.Eq] [b] pos) (tB' X.K M W (pTest (pSl2 (eqS es) ma mb))) := by
  have hu := c.hu
  obtain ⟨rfl, rfl, rfl, rfl, rfl, rfl, rfl, room, gu, tk, calm, nd⟩ := c
  refine pt_Eq hu (fun cd hcd => ?_) gu tk ha hb hm
  obtain ⟨fa, h1, h2⟩ := C cd hcd; exact ⟨fa, ca_of room h1, h2⟩
theorem eqF0 : EqF P w K M mg base k [] := fun _ z => (List.not_mem_nil z).elim
theorem wCh (c : Ct P w K mg base N sc k X W) {op op' : CmpOp} {e3 : Expr} {oa ob oc : Op} (ha : PE X a (tO X.K M W oa)) (hb : PE X b (tO X.K M W ob)) (hc : PE X e3 (tO X.K M W oc)) (hm : lastMarks [op, op'] [b, e3] = false) :
    PE X (.Compare a [op, op'] [b, e3] pos) (tP X.K M W (pCh op op' oa ob oc)) := pe_Ch c.hu ha hb hc hm
theorem tCh (c : Ct P w K mg base N sc k X W) {op op' : CmpOp} {e3 : Expr} {oa ob oc : Op} (ha : PE X a (tO X.K M W oa)) (hb : PE X b (tO X.K M W ob)) (hc : PE X e3 (tO X.K M W oc)) (hm : lastMarks [op, op'] [b, e3] = false) :
    PT X (.Compare a [op, op'] [b, e3] pos) (tB' X.K M W (pTest (pCh op op' oa ob oc))) := pt_Ch c.hu ha hb hc hm
theorem wIsi (c : Ct P w K mg base N sc k X W) {tab : List (Str × Bool)} {oa : Op} (T : IsOk K tab (He.ga K cn)) (h : okB sc "isinstance" (.builtin "isinstance") = true) (hm : mg "isinstance" = none) (h2 : okG sc cn = true) (hm2 : mg cn = some (.ref (He.ga K cn))) (he : PE X e (tO X.K M W oa)) (hs : noStar e = true) :
    PE X (.Call (.Name "isinstance" p) [e, .Name cn p3] [] pos) (tP X.K M W (pOp1 (fun d g => rb (isS tab d) g) oa)) := by
  obtain ⟨h1, _⟩ := okB_b h
  obtain ⟨h3, h4⟩ := He.ba h2
  have g1 := c.gl h1
  have g2 := c.gl h3
  obtain ⟨rfl, rfl, rfl, rfl, rfl, rfl, rfl, room, gu, tk, calm, nd⟩ := c
  exact pe_Isi (x := cn) T g1 hm g2 hm2 he hs (notT h4)
/-! ranges, enumerate, zip -/
variable {tg : Expr}
theorem iRng1 (c : Ct P w K mg base N sc k X W) {oa : Op} (h : okB sc "range" (.type "range") = true) (hm : mg "range" = none) (ha : PA X [a] (tOs X.K M W [oa])) (hs : noStar a = true) : PI X tg (.Call (.Name "range" p) [a] [] pos) (tI X.K M W (pRng [oa])) := pi_Rng1 (c.gl (okB_b h).1) (by rw [c.mg]; exact hm) ha hs
theorem iRng2 (c : Ct P w K mg base N sc k X W) {oa ob : Op} (h : okB sc "range" (.type "range") = true) (hm : mg "range" = none) (ha : PA X [a, b] (tOs X.K M W [oa, ob])) (hs : (noStar a && noStar b) = true) : PI X tg (.Call (.Name "range" p) [a, b] [] pos) (tI X.K M W (pRng [oa, ob])) :=
  pi_Rng2 (c.gl (okB_b h).1) (by rw [c.mg]; exact hm) ha (He.ba hs).1 (He.ba hs).2
theorem iEnum (c : Ct P w K mg base N sc k X W) {mm : PX} {elts : List Expr} {kk : Nat} (h : okB sc "enumerate" (.type "enumerate") = true) (hm : mg "enumerate" = none) (ha : PA X [a] (tL X.K M W (pAll [mm]))) (hs : noStar a = true) : PI X (.Tuple elts kk p2) (.Call (.Name "enumerate" p) [a] [] pos) (tI X.K M W (pItA enumA [mm])) := pi_Enum (c.gl (okB_b h).1) (by rw [c.mg]; exact hm) ha hs
theorem iZip (c : Ct P w K mg base N sc k X W) {ma mb : PX} {elts : List Expr} {kk : Nat} (h : okB sc "zip" (.type "zip") = true) (hm : mg "zip" = none) (ha : PA X [a, b] (tL X.K M W (pAll [ma, mb]))) (hs : (noStar a && noStar b) = true) : PI X (.Tuple elts kk p2) (.Call (.Name "zip" p) [a, b] [] pos) (tI X.K M W (pItA zipA [ma, mb])) :=
  pi_Zip (c.gl (okB_b h).1) (by rw [c.mg]; exact hm) ha (He.ba hs).1 (He.ba hs).2
/-! the targets -/
theorem wT0 : PGs X [] (gNs []) := pgs_n0
theorem fn_or (hf : (∀ y, X.fn y = true) ∨ isLoc X.env.scope x = true) : X.fn x = true ∨ X.env.scope.names.lookup x = some .local := hf.elim (fun h => .inl (h x)) fun h => .inr (isLoc_of h)
theorem wTc (c : Ct P w K mg base N sc k X W) {is : List Nat} (h : okL N sc i x = true) (hf : (∀ y, X.fn y = true) ∨ isLoc sc x = true) (hr : PGs X es (gNs is)) : PGs X (.Name x pos :: es) (gNs (i :: is)) := by
  obtain ⟨h1, h2⟩ := He.ba h
  rw [← c.sc] at h2 hf
  exact pgs_nc c.nd (by rw [c.N]; exact of_decide_eq_true h1) (loc_of h2) (fn_or hf) hr
theorem wTn (c : Ct P w K mg base N sc k X W) (h : okL N sc i x = true) (hf : (∀ y, X.fn y = true) ∨ isLoc sc x = true) : PG X (.Name x pos) (gP X.K (.nm i)) := by
  obtain ⟨h1, h2⟩ := He.ba h
  rw [← c.sc] at h2 hf
  exact pg_name c.nd (by rw [c.N]; exact of_decide_eq_true h1) (loc_of h2) (fn_or hf)
theorem wTt (c : Ct P w K mg base N sc k X W) {is : List Nat} {kk : Nat} (h : PGs X es (gNs is)) (hn : (assignEach es X.env).length = is.length) (hst : (assignEach es X.env).findIdx? (·.1) = none) : PG X (.Tuple es kk pos) (gP X.K (.tp is)) := pg_T c.calm h hn hst
end
/-! ### statements -/
structure Bd (P : Program) (w : World) (K : Frag) (mg : Str → Option Value) (base : Heap) (N : List Str) (sc : Scope) (k : Nat) (X : Cx) (W : WX) : Prop where
  ct : Ct P w K mg base N sc k X W
  hp : PassesOwn (model X.prog X.w) X.A X.env X.xe
  fn : ∀ x, X.fn x = true
theorem bd_of {P : Program} {w : World} {K : Frag} {mg : Str → Option Value} {base : Heap} {N : List Str} {sc : Scope} {k : Nat} {X : Cx} {W : WX} (nd : N.Nodup) (b : BodyX P w K mg base N sc k X W) : Bd P w K mg base N sc k X W :=
  ⟨⟨b.prog, b.w, b.K, b.mg, b.base, b.N, b.sc, b.room, b.gu, b.tk, b.calm, by rw [b.N]; exact nd⟩, b.hp, b.fn⟩
/-- within a comprehension -/
theorem Ct.blk {P : Program} {w : World} {K : Frag} {mg : Str → Option Value} {base : Heap} {N : List Str} {sc scope : Scope} {k : Nat} {X : Cx} {W : WX} (c : Ct P w K mg base N sc k X W) (s : Shared) (H : Hp) (C : Addr) (cl : List (Str × Addr)) (fp : List Addr) : Ct P w K mg base N (relS scope sc) k (X.blk s H scope (compEnvC scope cl C X.env) fp) W0 :=
  ⟨c.prog, c.w, c.K, c.mg, c.base, c.N, (by show relS scope X.env.scope = relS scope sc; rw [c.sc]), c.room, c.gu, takes0, c.calm, c.nd⟩
section
variable {P : Program} {w : World} {K : Frag} {M : Memo} {mg : Str → Option Value} {base : Heap} {N : List Str} {sc : Scope} {k : Nat} {X : Cx} {W : WX} {x y z f m cn : Str} {p pos p1 p2 p3 apos : Pos} {e a b o : Expr} {fx : List Nat} {i j l : Nat} {es : List Expr} {kws : List Keyword} {as bs : List Ar}
def notIn (i : Nat) (fx : List Nat) : Bool := !(fx.contains i)
theorem notIn_of (h : notIn i fx = true) : i ∉ fx := fun z => by
  unfold notIn at h
  rw [List.contains_iff_mem.mpr z] at h
  cases h
theorem sSet (c : Bd P w K mg base N sc k X W) {mm : PX} (h : okL N sc i x = true) (he : PE X e (tP X.K M W mm)) (hf : notIn i fx = true) (hs : swapsWith e (some (.Name x p1)) pos.line X.env = pure false) : PS X (.Assign [.Name x p1] e pos) (tF X.K M fx W (pSet i mm)) := by
  obtain ⟨h1, h2⟩ := He.ba h
  rw [← c.ct.sc] at h2
  exact ps_Set c.ct.nd (by rw [c.ct.N]; exact of_decide_eq_true h1) (loc_of h2) (.inl (c.fn x)) he (notIn_of hf) hs
theorem sSetT (c : Bd P w K mg base N sc k X W) {is : List Nat} {kk : Nat} {me : PX} (he : PE X e (tP X.K M W me)) (h : PGs X es (gNs is)) (hf : is.all (fun i => notIn i fx) = true) (hn : (assignEach es X.env).length = is.length) (hst : (assignEach es X.env).findIdx? (·.1) = none)
    (hs : swapsWithSole [.Tuple es kk p2] e pos.line X.env = pure false) (hw : swappedStores [.Tuple es kk p2] e X.env = pure none) (h1 : (assignEach [.Tuple es kk p2] X.env).map (·.2) = [assign (.Tuple es kk p2) X.env]) :
    PS X (.Assign [.Tuple es kk p2] e pos) (tF X.K M fx W (pSetT is me)) := ps_SetT c.ct.calm he h (fun i hi => notIn_of (List.all_eq_true.mp hf i hi)) hn hst hs hw h1
theorem sFst (c : Bd P w K mg base N sc k X W) {fl : List (Str × Str)} {me : PX} (T : FldOk K fl) (h : okV N sc i x = true) (he : PE X e (tP X.K M W me)) (hs : swapsWith e (some (.Attribute (.Name x p) f p1)) pos.line X.env = pure false) : PS X (.Assign [.Attribute (.Name x p) f p1] e pos) (tF X.K M fx W (pFst fl f i me)) :=
  ps_Fst (by rw [c.ct.K]; exact T) (wVar c.ct h) he hs
def okTg (fx : List Nat) : Tg → Bool
  | .nm i => notIn i fx
  | .tp is => is.all fun i => notIn i fx
theorem okTg_of {tg : Tg} (h : okTg fx tg = true) : tgOk fx tg := by
  cases tg with
  | nm i => exact notIn_of h
  | tp is => exact fun i hi => notIn_of (List.all_eq_true.mp h i hi)
theorem sFor (c : Bd P w K mg base N sc k X W) {iter tge : Expr} {body : List Stmt} {mi : PIt} {tg : Tg} {mb : PF} (hi : PI X tge iter (tI X.K M W mi)) (hg : PG X tge (gP X.K tg)) (ht : okTg fx tg = true) (hb : PSs X body (tF X.K M fx W mb))
    (hs : ∀ x, foldedSetIterable iter X.env x = pure x) : PS X (.For tge iter body [] pos) (tF X.K M fx W (pFor mi tg mb)) := ps_For c.hp c.ct.calm hi hg (okTg_of ht) hb hs
def inTg (vs : List Nat) : Tg → Bool
  | .nm i => vs.contains i
  | .tp is => is.all fun i => vs.contains i
theorem inTg_of {vs : List Nat} {tg : Tg} (h : inTg vs tg = true) : tgIn vs tg := by
  cases tg with
  | nm i => exact List.contains_iff_mem.mp h
  | tp is => exact fun i hi => List.contains_iff_mem.mp (List.all_eq_true.mp h i hi)
theorem wLcp (c : Ct P w K mg base N sc k X W) {elt tge iter : Expr} {ifs : List Expr} {scope : Scope} {vs : List Nat} (own : List (Str × Nat)) {mi : PIt} {tg : Tg} {mc : PT'} {me : PX} (hi : PI X tge iter (tI X.K M W mi)) (ok : blkC N sc scope own = true) (hvs : own.map (·.2) = vs) (ht : inTg vs tg = true)
    (hg : ∀ X' : Cx, X'.K = X.K → Ct P w K mg base N (relS scope sc) k X' W0 → PG X' tge (gP X'.K tg))
    (hcd : ∀ X' : Cx, X'.K = X.K → Ct P w K mg base N (relS scope sc) k X' W0 → PTs X' ifs (tB' X'.K M W0 mc))
    (he : ∀ X' : Cx, X'.K = X.K → Ct P w K mg base N (relS scope sc) k X' W0 → PE X' elt (tP X'.K M W0 me)) (hs : ∀ x, foldedSetIterable iter X.env x = pure x) :
    PE X (.ListComp elt [⟨tge, iter, ifs, 0⟩] scope pos) (tP X.K M W (pLc mi tg mc me vs)) :=
  pe_Lc c.calm c.nd hi (by rw [c.N, c.sc]; exact blkOk_by ok) hvs (inTg_of ht) (fun s H C cl fp => hg _ rfl (c.blk s H C cl fp)) (fun s H C cl fp => hcd _ rfl (c.blk s H C cl fp)) (fun s H C cl fp => he _ rfl (c.blk s H C cl fp)) hs
theorem sSetLc (c : Bd P w K mg base N sc k X W) {elt tge iter : Expr} {ifs : List Expr} {scope : Scope} {vs : List Nat} (own : List (Str × Nat)) {mi : PIt} {tg : Tg} {mc : PT'} {me : PX} (hy : okL N sc i y = true) (hyl : isLoc sc y = true)
    (hk : (match sc.kind with | .function => true | _ => false) = true) (hsa : (scope.names.any fun (n, k) => n == y && (k == .local || k == .cell)) = false) (hln : (p1.line == pos.line) = true)
    (hi : PI X tge iter (tI X.K M W mi)) (ok : blkC N sc scope own = true) (hvs : own.map (·.2) = vs) (ht : inTg vs tg = true) (hfx : notIn i fx = true)
    (hg : ∀ X' : Cx, X'.K = X.K → Ct P w K mg base N (relS scope sc) k X' W0 → PG X' tge (gP X'.K tg))
    (hcd : ∀ X' : Cx, X'.K = X.K → Ct P w K mg base N (relS scope sc) k X' W0 → PTs X' ifs (tB' X'.K M W0 mc))
    (he : ∀ X' : Cx, X'.K = X.K → Ct P w K mg base N (relS scope sc) k X' W0 → PE X' elt (tP X'.K M W0 me)) (hs : ∀ x, foldedSetIterable iter X.env x = pure x) :
    PS X (.Assign [.Name y p1] (.ListComp elt [⟨tge, iter, ifs, 0⟩] scope pos) p2) (tF X.K M fx W (pSet i (pLc mi tg mc me vs))) := by
  obtain ⟨h1, h2⟩ := He.ba hy
  have hyl' : X.env.scope.names.lookup y = some .local := by rw [c.ct.sc]; exact isLoc_of hyl
  refine ps_SetLc c.ct.calm c.ct.nd (by rw [c.ct.N]; exact of_decide_eq_true h1) hyl' ?_ hi (by rw [c.ct.N, c.ct.sc]; exact blkOk_by ok) hvs (inTg_of ht) (notIn_of hfx) (fun s H C cl fp => hg _ rfl (c.ct.blk s H C cl fp)) (fun s H C cl fp => hcd _ rfl (c.ct.blk s H C cl fp)) (fun s H C cl fp => he _ rfl (c.ct.blk s H C cl fp)) hs
  refine sw_true ?_ hyl' hln hsa
  rw [c.ct.sc]
  cases q : sc.kind <;> first | rfl | (rw [q] at hk; cases hk)
end
end PI

set_option Elab.async false
set_option linter.all false
set_option maxRecDepth 100000
set_option maxHeartbeats 1000000
namespace PI
open PySem PySem.Spec PyProof.Rows L2
open PySem.W (Frag InstAt findIn isFn selfFirst subIn Looks)
/-! ### sets of texts -/
def nmE (q : Int × Value) : Str := match q with
  | (_, .str z _) => z
  | _ => ⟨#[]⟩
def TxE (w : World) (q : Int × Value) : Prop := ∃ z u, q = (hashStr w z, Value.str z u)
/-- the set at b, whose members are zs -/
structure TxSet (w : World) (hp : Heap) (b : Addr) (zs : List Str) : Prop where
  ex : ∃ ob rows ep tab, hp.get? b = some ob ∧ ob.ExactSet ∧ ob.data = .set rows ep tab ∧ (∀ q ∈ rows.toList, TxE w q) ∧ (rows.toList.map nmE).Perm zs ∧ zs.Nodup ∧ zs.length < scanBound ∧ tab.fits rows.size = true ∧ Ris tab.place.toList ∧
    (w.params.followText "set-order" = true ∨ tab.led = true)
theorem nmE_of {w : World} {q : Int × Value} (h : TxE w q) : ∃ u, q.2 = Value.str (nmE q) u ∧ q.1 = hashStr w (nmE q) := by
  obtain ⟨z, u, rfl⟩ := h
  exact ⟨u, rfl, rfl⟩
theorem tx_elems {P : Program} {w : World} {l : List (Int × Value)} (g : ∀ q ∈ l, TxE w q) : ElemsOf (PySem.strKind P w) l := fun q hq => by
  obtain ⟨u, h1, h2⟩ := nmE_of (g q hq)
  exact ⟨⟨nmE q, by rw [h1]; exact strKind_is P w (nmE q) u, h2⟩, by rw [h1] <;> rfl⟩
theorem tx_is {P : Program} {w : World} {q : Int × Value} (g : TxE w q) (z : Str) : (PySem.strKind P w).is z q.2 = true ↔ nmE q = z := by
  obtain ⟨u, h1, _⟩ := nmE_of g
  rw [h1]
  show ((nmE q == z) = true) ↔ nmE q = z
  exact beq_iff_eq
theorem TxSet.mv {w : World} {hp hp' : Heap} {b : Addr} {zs : List Str} (R : TxSet w hp b zs) (k : ∀ ob, hp.get? b = some ob → hp'.get? b = some ob) : TxSet w hp' b zs := by
  obtain ⟨ob, rows, ep, tab, ho, r⟩ := R.ex
  exact ⟨ob, rows, ep, tab, k ob ho, r⟩
def addS (zs : List Str) (z : Str) : List Str := if z ∈ zs then zs else z :: zs
section
variable {P : Program} {w : World} {A : Around} {E : Value → Shared → Prop} {s : Shared} {b : Addr} {zs : List Str}
theorem tx_tail {g : Bool → Sem Unit} (hg : ∀ (c : Bool) (s₁ : Shared) (Q' : Unit → Shared → Prop), Q' () s₁ → wpAny (model P w) A (g c) Q' E s₁) {dum : Bool} {Q : Option Bool → Shared → Prop}
    {ob : Obj} {rows rows1 : Array (Int × Value)} {ep : Nat} {tab tab1 : SetTable} (ho : s.heap.get? b = some ob) (hx : ob.ExactSet) (hd : ob.data = .set rows ep tab)
    (g1 : ∀ q ∈ rows1.toList, TxE w q) (pm : (rows1.toList.map nmE).Perm zs) (nd : zs.Nodup) (hb : zs.length < scanBound) (hf : tab1.fits rows1.size = true) (hr : Ris tab1.place.toList) (hl : w.params.followText "set-order" = true ∨ tab1.led = true)
    (hQ : ∀ hp, Heap.SameBut b s.heap hp → TxSet w hp b zs → Q (some true) { s with heap := hp }) :
    wpAny (model P w) A (do
        storeSet b rows1 tab1
        if (!dum && tab1.tooFull) = true then do
            g (relayAll tab1 rows1 (SetTable.grown rows1.size)).2.2
            storeSet b (relayAll tab1 rows1 (SetTable.grown rows1.size)).1 (relayAll tab1 rows1 (SetTable.grown rows1.size)).2.1
            pure (some true)
          else pure (some true)) Q E s := by
  have ln : rows1.size = zs.length := by rw [← pm.length_eq, List.length_map, Array.length_toList]
  refine wpAny_bind (wpAny_storeSet_of ho hd ?_ (fits_of_scanBound (by rw [ln]; exact hb)))
  have at1 := store_at (es' := rows1) (t' := tab1) ho hd
  have but1 := Heap.SameBut.update s.heap b (Obj.putSet rows1 tab1)
  split
  · have p2 := relayAll_perm tab1 rows1 (SetTable.grown rows1.size)
    have f2 := relayAll_fits tab1 rows1 (SetTable.grown rows1.size)
    have r2 := relayAll_ris tab1 rows1 (SetTable.grown rows1.size)
    have l2 := relayAll_led tab1 rows1 (SetTable.grown rows1.size)
    generalize relayAll tab1 rows1 (SetTable.grown rows1.size) = Y at p2 f2 r2 l2 ⊢
    obtain ⟨rows2, tab2, way⟩ := Y
    dsimp only at p2 f2 r2 l2 ⊢
    have pm2 : (rows2.toList.map nmE).Perm zs := (p2.map nmE).trans pm
    have ln2 : rows2.size = zs.length := by rw [← pm2.length_eq, List.length_map, Array.length_toList]
    refine wpAny_bind (hg _ _ _ (wpAny_bind (wpAny_storeSet_of at1 rfl ?_ (fits_of_scanBound (by rw [ln2]; exact hb)))))
    have at2 := store_at (es' := rows2) (t' := tab2) at1 rfl
    exact wpAny_pure (hQ _ (but1.trans (Heap.SameBut.update _ b _)) ⟨_, rows2, _, tab2, at2, hx, rfl, fun q hq => g1 q (p2.mem_iff.mp hq), pm2, nd, hb, f2, r2, hl.imp id fun y => by rw [l2]; exact y⟩)
  · exact wpAny_pure (hQ _ but1 ⟨_, rows1, _, tab1, at1, hx, rfl, g1, pm, nd, hb, hf, hr, hl⟩)
theorem tx_add {z : Str} {u : Tok} {Q : Bool → Shared → Prop} (R : TxSet w s.heap b zs) (room : zs.length + 1 < scanBound)
    (hQ : ∀ hp c, Heap.SameBut b s.heap hp → TxSet w hp b (addS zs z) → Q c { s with heap := hp }) :
    wpAny (model P w) A (setAddHashed b (.str z u) ((PySem.strKind P w).hash z)) Q E s := by
  obtain ⟨ob, rows, ep, tab, ho, hx, hd, g, pm, nd, hb, hf, hr, hl⟩ := R.ex
  have el : ElemsOf (PySem.strKind P w) rows.toList := tx_elems g
  have sc : (Value.str z u).scannable = true := rfl
  have ln : rows.size = zs.length := by rw [← pm.length_eq, List.length_map, Array.length_toList]
  unfold setAddHashed setAddHashedIn
  refine wpAny_holding (wpAny_bind (wpAny_setState_of ho hd hf ?_))
  dsimp only
  rw [byScan_of sc (by rw [ln]; exact hb) el]
  simp only [↓reduceIte]
  unfold setAddByScan
  refine wpAny_bind (wpAny_bind (wpAny_rule (wpAny_bind (wpAny_setScan_of (strKind_is P w z u) ho hd hf el ?_))))
  cases hfi : List.findIdx? (fun q => (PySem.strKind P w).is z q.2) rows.toList with
  | some j =>
    obtain ⟨hj, pj, _⟩ := List.findIdx?_eq_some_iff_getElem.mp hfi
    have hz : z ∈ zs := pm.mem_iff.mp (List.mem_map.mpr ⟨_, List.getElem_mem hj, (tx_is (g _ (List.getElem_mem hj)) z).mp pj⟩)
    have e : addS zs z = zs := if_pos hz
    dsimp only
    refine wpAny_pure (wpAny_pure ?_)
    exact hQ s.heap _ (Heap.SameBut.refl b s.heap) (by rw [e]; exact ⟨ob, rows, ep, tab, ho, hx, hd, g, pm, nd, hb, hf, hr, hl⟩)
  | none =>
    have hz : z ∉ zs := fun y => by
      obtain ⟨q, hq, e⟩ := List.mem_map.mp (pm.mem_iff.mpr y)
      have c := List.findIdx?_eq_none_iff.mp hfi q hq
      rw [(tx_is (g q hq) z).mpr e] at c
      cases c
    have e : addS zs z = z :: zs := if_neg hz
    rw [e] at hQ
    dsimp only
    have way : ∀ (c : Bool) {s₁ : Shared} {Q' : Unit → Shared → Prop}, Q' () s₁ → wpAny (model P w) A (match c with | true => rule "set.scan.the-table-gave-way" | false => pure ()) Q' E s₁ :=
      fun c s₁ Q' y => by cases c <;> first | exact wpAny_pure y | exact wpAny_rule y
    have p1 := layNew_perm tab rows ((PySem.strKind P w).hash z) (.str z u)
    have f1 := layNew_fits tab rows ((PySem.strKind P w).hash z) (.str z u)
    have r1 := layNew_ris tab rows ((PySem.strKind P w).hash z) (.str z u) hr
    have l1 := layNew_led tab rows ((PySem.strKind P w).hash z) (.str z u)
    generalize layNew tab rows ((PySem.strKind P w).hash z) (.str z u) = Y at p1 f1 r1 l1 ⊢
    obtain ⟨rows1, tab1, dum, gave⟩ := Y
    dsimp only at p1 f1 r1 l1 ⊢
    rw [Array.toList_push] at p1
    have p1 : rows1.toList.Perm (((PySem.strKind P w).hash z, Value.str z u) :: rows.toList) := p1.trans (List.perm_append_singleton _ _)
    have pm1 : (rows1.toList.map nmE).Perm (z :: zs) := (p1.map nmE).trans (pm.cons z)
    have g1 : ∀ q ∈ rows1.toList, TxE w q := fun q hq => (List.mem_cons.mp (p1.mem_iff.mp hq)).elim (fun y => by rw [y]; exact ⟨z, u, rfl⟩) (g q)
    have nd1 : (z :: zs).Nodup := List.nodup_cons.mpr ⟨hz, nd⟩
    have led1 : w.params.followText "set-order" = true ∨ tab1.led = true := hl.imp id fun y => by rw [l1]; exact y
    refine wpAny_bind (way _ ?_)
    split
    · refine wpAny_bind ?_
      rw [hashByValue_scannable 8 sc]
      refine wpAny_pure (tx_tail ?_ ho hx hd g1 pm1 nd1 room ?_ ?_ ?_ ?_)
      · intro c s₁ Q' y; cases c <;> first | exact wpAny_pure y | exact wpAny_rule y
      · first | (split <;> first | exact f1 | exact SetTable.fits_plain_off f1) | exact f1
      · first | (split <;> exact r1) | exact r1
      · first | (split <;> exact led1) | exact led1
      · intro hp sb r; dsimp only; exact wpAny_pure (hQ hp _ sb r)
    · refine wpAny_bind (wpAny_pure ?_)
      simp only [↓reduceIte]
      refine tx_tail ?_ ho hx hd g1 pm1 nd1 room f1 r1 led1 ?_
      · intro c s₁ Q' y; cases c <;> first | exact wpAny_pure y | exact wpAny_rule y
      · intro hp sb r; dsimp only; exact wpAny_pure (hQ hp _ sb r)
theorem addS_len (zs : List Str) (z : Str) : (addS zs z).length ≤ zs.length + 1 := by
  unfold addS
  split <;> simp
theorem tx_loop {I : Addr} {fp wr : List Addr} {G : Array GenState → Array GenState → Prop} {n : Nat} {Pv : Nat → Value → Prop} {St : Nat → Shared → Prop} {R : Result → Shared → Prop}
    (Wk : WalksS P w A.in1 I fp wr G n Pv St) (hbf : b ∉ fp) (xs : List Str) (hn : n = xs.length) (hbd : xs.length + 1 < scanBound) (hval : ∀ i v, Pv i v → ∃ x t, xs[i]? = some x ∧ v = .str x t) :
    ∀ (k i : Nat) (s : Shared) (zs : List Str), n - i = k → i ≤ n → St i s → TxSet w s.heap b zs → zs.length ≤ i →
      (∀ s' , Moved (b :: wr) G s s' → TxSet w s'.heap b ((xs.drop i).foldl addS zs) → R (.ok (.ret .none)) s') →
      codeAny (model P w) A (.builtin "set.update.loop" ⟨[.ref b, .ref I], []⟩) R s := by
  have nwr : b ∉ wr := fun y => hbf (Wk.sub _ y)
  have inc : ∀ c ∈ wr, c ∈ b :: wr := fun c hc => List.mem_cons_of_mem _ hc
  intro k
  induction k with
  | zero =>
    intro i s zs hk hi st R1 hz hR
    have hin : i = n := by omega
    refine codeAny_builtin F.entry_set_update_loop ?_
    rw [Around.under_plainId F.plain_set_update_loop _]
    show wpAny _ A.in1 (pyNext (.ref I) >>= _) _ _ s
    refine wpAny_bind (Wk.done s _ _ (hin ▸ st) fun s' hm => ?_)
    show wpAny _ A.in1 (ret Value.none) _ _ s'
    have q := hR s' (hm.mono inc)
    rw [List.drop_of_length_le (by omega)] at q
    exact wpAny_pure (q (R1.mv fun o e => hm.heap b o nwr e))
  | succ k ih =>
    intro i s zs hk hi st R1 hz hR
    have lt : i < n := by omega
    refine codeAny_builtin F.entry_set_update_loop ?_
    rw [Around.under_plainId F.plain_set_update_loop _]
    show wpAny _ A.in1 (pyNext (.ref I) >>= _) _ _ s
    refine wpAny_bind (Wk.item i s _ _ lt st fun v s' hP st' hm => ?_)
    obtain ⟨x, t, hx, rfl⟩ := hval i v hP
    have R2 : TxSet w s'.heap b zs := R1.mv fun o e => hm.heap b o nwr e
    show wpAny _ A.in1 (holding [Value.str x t] (setAdd b (.str x t)) >>= _) _ _ s'
    refine wpAny_bind (wpAny_holding ?_)
    unfold setAdd
    refine wpAny_holding (wpAny_bind ((PySem.strKind P w).pyHash (k := x) (strKind_is _ _ _ _) ?_))
    refine tx_add (s := { s' with toks := s'.toks + 1 }) R2 (by omega) fun hp c sb R3 => ?_
    refine wpAny_pure ⟨plainId_quiet F.plain_set_update_loop _, ih (i + 1) _ _ (by omega) lt (Wk.frame _ s' _ _ st' (Nat.le_succ _) fun c hc o e => ?_) R3 (Nat.le_trans (addS_len zs x) (by omega)) fun s'' hm2 R4 => ?_⟩
    · rw [sb.2 c (fun y : c = b => hbf (y ▸ hc))]; exact e
    · refine hR s'' (Moved.trans Wk.gtrans ((hm.mono inc).then_heap (Nat.le_succ _) fun c o hc e => ?_) hm2) ?_
      · rw [sb.2 c (fun y : c = b => hc (by rw [y]; exact List.mem_cons_self))]; exact e
      · have hl : i < xs.length := by omega
        have ex : x = xs[i] := by rw [List.getElem?_eq_getElem hl] at hx; exact (Option.some.inj hx).symm
        rw [List.drop_eq_getElem_cons hl, List.foldl_cons, ← ex]
        exact R4
theorem tx_new {w : World} {hp : Heap} {b : Addr} (ho : hp.get? b = some { cls := .type "set", dict := none, data := .set #[] 0 (.fresh 0 0 (!w.params.followText "set-order")) }) : TxSet w hp b [] :=
  ⟨_, #[], 0, _, ho, ⟨rfl, rfl, rfl⟩, rfl, (fun q hq => by simp at hq), (List.Perm.refl _), List.nodup_nil, (by decide), (by rfl), List.Pairwise.nil, by
    cases h : w.params.followText "set-order"
    · exact .inr rfl
    · exact .inl rfl⟩
end
end PI

set_option Elab.async false
set_option linter.all false
set_option maxRecDepth 100000
set_option maxHeartbeats 3200000
namespace PI
open PySem PySem.Spec PyProof.Rows L2
open PySem.W (Frag InstAt findIn isFn selfFirst subIn Looks)
section
variable {P : Program} {w : World} {A : Around} {E : Value → Shared → Prop} {s : Shared} {b : Addr} {zs : List Str}
theorem strs_ix : ∀ {us : List Value} {xs : List Str}, StrsAre us xs → ∀ (i : Nat) (v : Value), us[i]? = some v → ∃ x t, xs[i]? = some x ∧ v = .str x t
  | _, _, .nil, i, v, h => by simp at h
  | _, _, .cons n t hr, 0, v, h => by simp at h; exact ⟨n, t, rfl, h.symm⟩
  | _, _, .cons n t hr, i + 1, v, h => by
    rw [List.getElem?_cons_succ] at h
    exact strs_ix hr i v h
/-- a new set -/
abbrev nSet (w : World) : Obj := { cls := .type "set", dict := none, data := .set #[] 0 (.fresh 0 0 (!w.params.followText "set-order")) }
theorem tx_call {l : Addr} {us : Array Value} {xs : List Str} {Q : Value → Shared → Prop} (hh : A.handled = none) (hl : s.heap.IsList l us) (hi : StrsAre us.toList xs) (hb : xs.length + 1 < scanBound)
    (k : ∀ (hp : Heap) (tk : Nat), TxSet w hp s.heap.objs.size (xs.foldl addS []) → (∀ c o, s.heap.get? c = some o → hp.get? c = some o) → Q (.ref s.heap.objs.size) { s with heap := hp, toks := tk }) :
    wpAny (model P w) A (call (.type "set") [.ref l]) Q E s := by
  have sz : us.size = xs.length := by rw [← StrsAre.len_eq hi, Array.length_toList]
  obtain ⟨_, _, mro⟩ := F.called_set.mro
  have made := F.called_set.made
  have sub := F.called_set.sub
  refine wpAny_call (codeAny_of_tree ?_)
  show wpAny _ _ (callAny (.type "set") _) _ _ _
  refine wpAny_pure ⟨Code.quiet_builtin _ (by decide +kernel), codeAny_builtin F.entry_type_call ?_⟩
  rw [Around.under_plain (weight_type_call_type "set" [.ref l] []) rfl]
  have notT := F.called_set.notType
  have canC := F.called_set.canCreate
  have tcall := F.typeCall_set_1 (.ref l)
  repeat (any_goals (first | assumption | wp_step))
  refine codeAny_mono (code_set_led1 (.ref l) (E := E) (Q₁ := fun v s₁ => v = .ref s.heap.objs.size ∧ s₁ = { s with heap := s.heap.push (nSet w) }) ⟨rfl, rfl⟩) fun r s₁ hr => ?_
  rcases r with er | fl
  · exact hr
  cases fl <;> first | exact hr.elim | skip
  obtain ⟨rfl, rfl⟩ := hr
  have at0 : (s.heap.push (nSet w)).get? s.heap.objs.size = some (nSet w) := Heap.get?_push_size _ rfl
  have ty0 : Shared.TypeIs { s with heap := s.heap.push (nSet w) } (.ref s.heap.objs.size) "set" := ⟨_, at0, rfl⟩
  have ini := F.called_set.init.lookup
  have bnd := F.called_set.init.bind (.ref s.heap.objs.size)
  repeat (any_goals (first | assumption | wp_step))
  refine codeAny_mono (codeAny_call_builtin (R := wants (fun r s₂ => r = .none ∧ ∃ hp tk, s₂ = { s with heap := hp, toks := tk } ∧ TxSet w hp s.heap.objs.size (xs.foldl addS []) ∧ (∀ c o, s.heap.get? c = some o → hp.get? c = some o)) E)
    F.called_set.init.plain F.entry_set_init (check_set_init_1 ty0 ?_)) fun r₂ s₂ hr₂ => ?_
  · obtain ⟨⟨lc, ld, lt, ls⟩, hol, lc1, m, lt1⟩ := hl
    simp only at lc1 lt1
    subst lc1; subst lt1
    have hol' := Heap.get?_push_of_some (nSet w) hol
    have a1 := F.sub_list_set
    have a2 := F.sub_list_frozenset
    have a3 : (Value.type "list" == Value.type "dict") = false := by decide
    have il : (s.heap.push (nSet w)).IsList l us := ⟨_, hol', rfl, m, rfl⟩
    unfold Builtin.«set.__init__» noKeywords Builtin.Frozenset.updateFrom
    generalize hPI : pyIter = PI
    wp_walk
    subst hPI
    refine wpAny_pyIter_list (s := { s with heap := s.heap.push (nSet w) }) il ?_
    refine wpAny_bind (wpAny_runValue ?_)
    have lS : l < s.heap.objs.size := Heap.lt_size hol
    have h3 : A.in1.in1.in1.handled = none := by simp [hh]
    have pz : (s.heap.push (nSet w)).objs.size = s.heap.objs.size + 1 := Heap.size_push ..
    have nI : l ≠ (s.heap.push (nSet w)).objs.size := by rw [pz]; exact Nat.ne_of_lt (Nat.lt_succ_of_lt lS)
    have nS : s.heap.objs.size ∉ [(s.heap.push (nSet w)).objs.size, l] := by
      rw [pz]; simp only [List.mem_cons, List.not_mem_nil, or_false, not_or]
      exact ⟨Nat.ne_of_lt (Nat.lt_succ_self _), Nat.ne_of_gt lS⟩
    refine tx_loop ((Walks.list h3 _ l nI us).toS) nS xs sz hb (fun i v hv => strs_ix hi i v (by rw [Array.getElem?_toList]; exact hv)) us.size 0 _ [] (by omega) (Nat.zero_le _)
      ⟨⟨_, Heap.get?_push_size _ rfl, rfl, rfl⟩, (il.push _)⟩ ?start (Nat.zero_le _) ?done
    case start => exact tx_new (Heap.get?_push_of_some _ at0)
    case done =>
      intro s' hm S2
      obtain ⟨hp, gn, dr, tk, os⟩ := s'
      cases (hm.gens : gn = s.gens)
      cases (hm.drawn : dr = s.drawn)
      cases (hm.os : os = s.os)
      show wpAny _ _ _ _ _ _
      refine wpAny_pure ?_
      show wpAny _ _ (ret Value.none) _ _ _
      refine wpAny_pure ⟨rfl, hp, tk, rfl, S2, fun c o e => ?_⟩
      have cl : c < s.heap.objs.size := Heap.lt_size e
      exact hm.heap c o (by rw [pz]; simp only [List.mem_cons, List.not_mem_nil, or_false, not_or]; exact ⟨Nat.ne_of_lt cl, Nat.ne_of_lt (Nat.lt_succ_of_lt cl)⟩) (Heap.get?_push_of_some _ (Heap.get?_push_of_some _ e))
  · rcases r₂ with er | fl₂
    · exact hr₂
    cases fl₂ <;> first | exact hr₂.elim | skip
    obtain ⟨rfl, hp, tk, rfl, S2, kp⟩ := hr₂
    repeat (any_goals (first | assumption | wp_step))
    exact k _ _ S2 kp
/-- sorted of a set of texts -/
theorem tx_strs {w : World} : ∀ {l : List (Int × Value)}, (∀ q ∈ l, TxE w q) → ∀ {vs : List Value}, vs.Perm (l.map (·.2)) → StrsAre vs (vs.map PyProof.Rows.strOf) := fun g vs pm => strsAre_map vs fun v hv => by
  obtain ⟨q, hq, e⟩ := List.mem_map.mp (pm.mem_iff.mp hv)
  obtain ⟨u, h1, _⟩ := nmE_of (g q hq)
  exact ⟨_, u, by rw [← e]; exact h1⟩
theorem tx_sorted {Q : Value → Shared → Prop} (R : TxSet w s.heap b zs) (hh : A.handled = none)
    (hQ : ∀ s' p (out : Array Value) (c : Nat), (∀ c o, s.heap.get? c = some o → s'.heap.get? c = some o) → s'.gens = s.gens → s'.os = s.os → s.heap.objs.size ≤ p → s'.heap.get? p = some (seqObj "list" out c) → StrsAre out.toList (sortS zs) → Q (.ref p) s') :
    wpAny (model P w) A (call (.builtin "sorted") [.ref b]) Q E s := by
  obtain ⟨ob, rows, ep, tab, ho, hx, hd, g, pm, nd, hb, hf, hr, hl⟩ := R.ex
  have ln : rows.size = zs.length := by rw [← pm.length_eq, List.length_map, Array.length_toList]
  refine Calls.call_function_entry kind_sorted plain_sorted entry_sorted (args_sorted1 _) ?_
  unfold Builtin.«sorted»
  refine wpAny_bind (m := checkCount "sorted" 1 1 _) (wpAny_pure ?_)
  refine wpAny_bind (collect_set (A := A.in1) hh ⟨ob, ho, hx.1, hd⟩ hf (by rw [ln]; exact hb) hr hl fun s1 vs k1 hz g1 o1 p1 => ?_)
  have vl : vs.length = zs.length := by rw [p1.length_eq, List.length_map, Array.length_toList]; exact ln
  have st := tx_strs g p1
  have pz : (vs.map PyProof.Rows.strOf).Perm zs := by
    refine List.Perm.trans ?_ pm
    have q := p1.map PyProof.Rows.strOf
    rw [List.map_map] at q
    refine q.trans (List.Perm.of_eq (List.map_congr_left fun q hq => ?_))
    obtain ⟨u, h1, _⟩ := nmE_of (g q hq)
    show PyProof.Rows.strOf q.2 = nmE q
    rw [h1] <;> rfl
  have small : vs.length ≤ sizeLine := by rw [vl, sizeLine_eq]; unfold scanBound at hb; omega
  refine wpAny_bind (wpAny_newList ?_ small)
  have at1 : (s1.heap.push (seqObj "list" vs.toArray 0)).get? s1.heap.objs.size = some (seqObj "list" vs.toArray 0) := Heap.get?_push_size _ rfl
  refine wpAny_bind (wpAny_holding (wpAny_call_entry slot_list_sort ⟨_, at1, rfl⟩ entry_list_sort (list_sort_treeKAny strKind_oneLt at1 st.keysOf (fun v₁ v₂ rest e => keyKind_strs (by rw [← e]; exact st)) small fun so a1 a2 => ⟨_, rfl, ?_⟩) (args_list_sort _)))
  obtain ⟨ss, b1, b2, b3⟩ := sorted_out_str st a1 a2
  have es : ss = sortS zs := sortS_eq (b2.trans pz) (sortedS_of b3)
  obtain ⟨c, hc⟩ := sortedHeap_at (vs := vs) (out := (arrOf so).map (·.2)) at1
  refine wpAny_pure ⟨_, rfl, hQ _ s1.heap.objs.size _ c (fun c u e => ?_) g1 o1 hz hc (es ▸ b1)⟩
  have q := k1 c u e
  have lt := Heap.lt_size q
  show (sortedHeap (s1.heap.push (seqObj "list" vs.toArray 0)) s1.heap.objs.size vs _).get? c = some u
  rw [sortedHeap_old (Nat.ne_of_lt lt) (by rw [size_push']; exact Nat.lt_succ_of_lt lt)]
  exact Heap.get?_push_of_some _ q
end
/-! sorted(set(a)) -/
def ssD : D → Option D
  | .lst _ xs => (strsD xs).bind fun ss => if ss.length < 4000 then some (.lst true ((sortS (ss.foldl addS [])).map .str)) else none
  | _ => none
section
variable {K : Frag} {M : Memo} {W : WX} {X : Cx}
theorem foldS_len : ∀ (xs zs : List Str), (xs.foldl addS zs).length ≤ zs.length + xs.length
  | [], zs => Nat.le_refl _
  | x :: xs, zs => by
    have h1 := foldS_len xs (addS zs x)
    have h2 := addS_len zs x
    show (xs.foldl addS (addS zs x)).length ≤ _
    rw [List.length_cons]
    omega
theorem pe_SS {a : Expr} {oa : Op} {p p2 q pos : Pos} (hc : X.calm = true) (hg : Gl X "sorted") (hm : X.mg "sorted" = none) (hg2 : Gl X "set") (hm2 : X.mg "set" = none) (ha : PE X a (tO X.K M W oa))
    (na : starEach [a] X.env = (false, eval a X.env) :: starEach [] X.env) : PE X (.Call (.Name "sorted" p) [.Call (.Name "set" p2) [a] [] q] [] pos) (tP X.K M W (pOp1 (fun d g => ro (ssD d) g) oa)) := by
  refine ⟨fun pins s σ H Q I h => ?_⟩
  refine Call_ (ld_blt I hg hm boot_sorted ?_)
  refine PyProof.Rows.callWith_builtin1 (PyProof.Rows.args_cons ?_ rfl) rfl rfl
  refine Call_ (ld_blt I hg2 hm2 boot_set ?_)
  refine PyProof.Rows.callWith_type1 (PyProof.Rows.args_cons (thn (ha.run pins s σ H _ I (op1_t h)) fun v s1 ⟨x, H1, I1, r1, q1⟩ => PyProof.Rows.args_nil ?_) na) na rfl
  obtain ⟨g, G, S, d, m, sd, q1⟩ := q1
  dsimp only at q1
  cases d <;> first | exact (show False from q1).elim | skip
  rename_i bo xs
  unfold ssD at q1
  dsimp only at q1
  cases e : strsD xs with
  | none => rw [e] at q1; exact (show False from q1).elim
  | some ss =>
    rw [e, Option.bind_some] at q1
    split at q1
    · rename_i h4
      obtain ⟨l, vs, rfl, h2, h3⟩ := sd.lst m.sub
      cases strs_rep h3 e
      cases r1
      obtain ⟨its, r, pl, hz⟩ := I1.list h2
      refine tx_call (I1.ok.hd hc) pl.isList (by simpa using strsAre_of r) (by unfold scanBound; omega) fun hp tk R kp => ?_
      refine PyProof.Rows.args_nil ?_
      have I2 : Inv X pins σ H1 { s1 with heap := hp, toks := tk } := I1.kept kp
      refine tx_sorted (s := { s1 with heap := hp, toks := tk }) R (I1.ok.hd hc) fun s' p out c k gg o hpz hgt st => ?_
      have small : ((sortS (ss.foldl addS [])).map V.str).length ≤ sizeLine := by
        rw [List.length_map, (sortS_perm _).length_eq, sizeLine_eq]
        have := foldS_len ss []
        rw [List.length_nil] at this
        omega
      have hn : H1 p = none := I2.hok.fresh hpz
      exact ⟨.ref p, upd H1 p (.lst ((sortS (ss.foldl addS [])).map V.str)), I2.call' o (ch := []) (Un.laid k hpz hn) (I2.hok.laid k hpz ⟨small, out.toList, c, vals_of_strs st, hgt⟩) (by rw [gg]; exact I2.bare) (fun _ z => nomatch z), rfl, fin_lst q1 m (rep_strs _) p hn⟩
    · exact (show False from q1).elim
end
end PI

set_option Elab.async false
set_option linter.all false
set_option maxRecDepth 100000
set_option maxHeartbeats 1000000
namespace PI
open PySem PySem.Spec PyProof.Rows L2
open PySem.W (Frag InstAt findIn isFn selfFirst subIn Looks)
/-! ### what a law's text knows -/
structure Fa (fc : List Fc) (fn : List DefA) (P : Program) (w : World) (K : Frag) (mg : Str → Option Value) (base : Heap) : Prop where
  at_ : ∃ h : Heap, K.In h ∧ h.Ns mainGlobals mg
  says : SaysP fc fn K
section
variable {fc : List Fc} {fn : List DefA} {P : Program} {w : World} {K : Frag} {M : Memo} {mg : Str → Option Value} {base : Heap} {N : List Str} {sc : Scope} {k : Nat} {X : Cx} {W : WX} {x y z f m cn : Str} {p pos p1 p2 p3 apos q : Pos} {e a b o : Expr} {fx : List Nat} {i j l n : Nat} {es : List Expr} {kws : List Keyword} {as bs : List Ar}
theorem Fa.glo (Y : Fa fc fn P w K mg base) (i : Nat) (h : fc[i]? = some (kGlo x)) : mg x = some (.ref (He.ga K x)) := by
  obtain ⟨h0, k0, g0⟩ := Y.at_
  exact glo_of k0 g0 (Y.says.fact i h)
theorem Fa.free (Y : Fa fc fn P w K mg base) (i : Nat) (h : fc[i]? = some (kFree x)) : mg x = none := by
  obtain ⟨h0, k0, g0⟩ := Y.at_
  exact free_of k0 g0 (Y.says.fact i h)
theorem Fa.str (Y : Fa fc fn P w K mg base) (i : Nat) (h : fc[i]? = some (kStr x z)) : ∃ t, mg x = some (.str z t) := by
  obtain ⟨h0, k0, g0⟩ := Y.at_
  exact str_of k0 g0 (Y.says.fact i h)
theorem Fa.cls (Y : Fa fc fn P w K mg base) (i : Nat) (h : fc[i]? = some (kCls x)) : Cls K (He.ga K x) := cls_of (Y.says.fact i h)
theorem Fa.no (Y : Fa fc fn P w K mg base) (i : Nat) (h : fc[i]? = some (kNo x f)) : NoAttr K (He.ga K x) f := no_of (Y.says.fact i h)
theorem Fa.meth (Y : Fa fc fn P w K mg base) (i : Nat) (h : fc[i]? = some (kMeth x m)) : Meth K (He.ga K x) m (maF x m K) := meth_of (Y.says.fact i h)
theorem Fa.mkc (Y : Fa fc fn P w K mg base) (i : Nat) (h : fc[i]? = some (kMk x)) : Mk K (He.ga K x) (maF x "__init__" K) := mk_of' (Y.says.fact i h)
theorem Fa.prop (Y : Fa fc fn P w K mg base) (i : Nat) (h : fc[i]? = some (kProp x f)) : PropOf K (He.ga K x) f (maF x f K) (prF x f K) := prop_of (Y.says.fact i h)
theorem Fa.opL (Y : Fa fc fn P w K mg base) {op : Operator} (i : Nat) (h : fc[i]? = some (kOpL op x)) : OpL K op (He.ga K x) (maF x (dunder op.info.2) K) := opL_of (Y.says.fact i h)
theorem Fa.opR (Y : Fa fc fn P w K mg base) {op : Operator} (i : Nat) (h : fc[i]? = some (kOpR op x)) : OpRv K op (He.ga K x) (maF x (dunderR op.info.2) K) := opR_of (Y.says.fact i h)
theorem Fa.inv (Y : Fa fc fn P w K mg base) (i : Nat) (h : fc[i]? = some (kInv x)) : OpU K (He.ga K x) (maF x "__invert__" K) := inv_of (Y.says.fact i h)
theorem Fa.eq (Y : Fa fc fn P w K mg base) (i : Nat) (h : fc[i]? = some (kEq x)) : OpE K (He.ga K x) (maF x "__eq__" K) := eq_of (Y.says.fact i h)
theorem Fa.is (Y : Fa fc fn P w K mg base) {tab : List (Str × Bool)} (i : Nat) (h : fc[i]? = some (kIs tab x)) : IsOk K tab (He.ga K x) := is_of (Y.says.fact i h)
/-! raise -/
def RaF (P : Program) (w : World) (K : Frag) (mg : Str → Option Value) (base : Heap) (j : Nat) (c : Str) : Prop :=
  ∃ fI fd, OexC K (He.ga K c) ∧ findIn K (.ref (He.ga K c)) "__init__" = some (some (.ref fI)) ∧ PySem.W.typeIn K (.ref fI) = some (.type "function") ∧ findIn K (.ref (He.ga K c)) "value" = some none ∧ FnOk P w K mg base (L2.CX P w) j fI fd ["self", "value"] (spInit K) ∧ Binds K fd ["self", "value"] []
theorem sRaise (c : Bd P w K mg base N sc k X W) {mm : PX} (R : RaF P w K mg base j cn) (hj : j + 1 ≤ k) (h : okG sc cn = true) (hm : mg cn = some (.ref (He.ga K cn))) (he : PE X e (tP X.K M W mm)) (hs : noStar e = true) :
    PS X (.Raise (some (.Call (.Name cn p) [e] [] pos)) none p2) (tF X.K M fx W (pRs cn mm)) := by
  obtain ⟨h1, h2⟩ := He.ba h
  have gl := c.ct.gl h1
  obtain ⟨fI, fd, r1, r2, r3, r4, r5, r6⟩ := R
  obtain ⟨⟨rfl, rfl, rfl, rfl, rfl, rfl, rfl, room, gu, tk, calm, nd⟩, hp, hfn⟩ := c
  exact ps_Raise (ds := []) calm tk r1 r2 r3 r4 r5 (room.mono hj) r6 gl hm (pa_allc he pa_all0 (star_of hs)) hs (notT h2)
theorem raF_of {d : Str} {qual : Str} {params : Arguments} {scope : Scope} {fd : FuncData} {pp1 pp3 pp4 pp5 : Pos} (Y : Fa fc fn P w K mg base) (i1 i2 i3 : Nat) (e1 : fc[i1]? = some (kExc cn)) (e2 : fc[i2]? = some (kInit cn d)) (e3 : fc[i3]? = some (kNo cn "value"))
    (F : FunD K "__init__" qual params [.Assign [.Attribute (.Name "self" pp1) "value" pp3] (.Name "value" pp4) pp5] scope [] [] (maF d "__init__" K) fd) (Z : FnScope ["self", "value"] ["self", "value"] scope)
    (hb : ∀ (kV doc pm : Value) (an : Option Addr) (cdv ct : Value) (us : List Value), us.length = 2 → bindArgs (PySem.W.fnOf "__init__" qual params [.Assign [.Attribute (.Name "self" pp1) "value" pp3] (.Name "value" pp4) pp5] scope .none kV doc pm an cdv ct) ⟨us, []⟩ = pure (List.zip (["self", "value"] : List Str) us)) : RaF P w K mg base 1 cn := by
  obtain ⟨q1, q2⟩ := init_of (Y.says.fact i2 e2)
  exact ⟨_, fd, exc_of (Y.says.fact i1 e1), q1, q2, no_of (Y.says.fact i3 e3), init_ok F Z, F.bindsN (by exact hb)⟩
/-! the rest -/
theorem wSS (c : Ct P w K mg base N sc k X W) {oa : Op} (h : okB sc "sorted" (.builtin "sorted") = true) (hm : mg "sorted" = none) (h2 : okB sc "set" (.type "set") = true) (hm2 : mg "set" = none) (ha : PE X a (tO X.K M W oa)) (hs : noStar a = true) :
    PE X (.Call (.Name "sorted" p) [.Call (.Name "set" p2) [a] [] q] [] pos) (tP X.K M W (pOp1 (fun d g => ro (ssD d) g) oa)) :=
  pe_SS c.calm (c.gl (okB_b h).1) (by rw [c.mg]; exact hm) (c.gl (okB_b h2).1) (by rw [c.mg]; exact hm2) ha (star_of hs)
theorem sPut (c : Bd P w K mg base N sc k X W) {ix : Expr} {mi : Op} {mv : PX} (h : okV N sc i x = true) (hi : PE X ix (tO X.K M W mi)) (hv : PE X e (tP X.K M W mv))
    (ha : ∀ v, assign (.Subscript (.Name x p) ix p2) X.env v = (do
      let o1 ← holding [v] (eval (.Name x p) X.env)
      let i1 ← holding [v, o1] (eval ix X.env)
      standAt p2
      holding [v, o1, i1] (setItem o1 i1 v)
      release [v, o1, i1] []))
    (hs : swapsWithSole [.Subscript (.Name x p) ix p2] e pos.line X.env = pure false) (hw : swappedStores [.Subscript (.Name x p) ix p2] e X.env = pure none)
    (h1 : (assignEach [.Subscript (.Name x p) ix p2] X.env).map (·.2) = [assign (.Subscript (.Name x p) ix p2) X.env]) : PS X (.Assign [.Subscript (.Name x p) ix p2] e pos) (tF X.K M fx W (pPut i mi mv)) := by
  have hu := c.ct.hu
  exact ps_Put (by omega) (wVar c.ct h) hi hv ha hs hw h1
theorem bd_fin {ss : List Stmt} {mm : PF} (b : BodyX P w K mg base N sc k X W) (h : PSs X ss (tF X.K M fx W mm)) : PSs X ss (tF K M fx W mm) := by
  have e := b.K
  rw [e] at h
  exact h
theorem fnG_bad {fd : FuncData} {fa : Addr} {ps : List Str} {rf : List Nat} : FnG P w K mg base k fa fd ps (spF K M (fun _ => .bad) rf ps.length) :=
  ⟨fun vs H Q E h => h.1, fun A outer s H args us vs Q E hr gu e0 hb rv h => by obtain ⟨_, ds, G, B, _, z⟩ := h; exact (show False from z).elim⟩
end
end PI

set_option Elab.async false
set_option linter.all false
set_option maxRecDepth 100000
set_option maxHeartbeats 1000000
namespace PI
open PySem PySem.Spec PyProof.Rows L2
open PySem.W (Frag InstAt findIn isFn selfFirst subIn Looks)
/-! ### a, b = x, y: each keeps what it alone holds -/
def newA : Ar → Bool
  | .r (.nm _) => false
  | _ => true
def pPar (is : List Nat) (as : List Ar) : PF := fun g => (evA as g).bind fun xs g1 => match (rdA g1 as xs).bind fun ds => setAll is ds g1 with
  | some g2 => .ok .nx g2
  | none => .bad
section
variable {K : Frag} {M : Memo} {W : WX} {X : Cx} {σ : L2.St} {H H0 Ha G G0 H1 G1 : Hp} {S S0 S1 : Nat → Addr → Prop} {g ga g1 : Sg} {Q : VK} {fx : List Nat} {pos : Pos} {σa : L2.St}
theorem ArRs.reS : ∀ {as : List Ar} {xs : List (Option D)} {vs : List V} {U : Addr → Prop}, ArRs K M Ha ga σa H G S as xs vs U → (∀ b, U b → ¬ Vl M G S1 b) → ArRs K M Ha ga σa H G S1 as xs vs U
  | [], _, _, _, h, _ => h
  | a :: as, _, _, _, h, k => by
    obtain ⟨x, xr, v, vr, T, U', rfl, rfl, h1, h2, h3, h4⟩ := h
    refine ⟨x, xr, v, vr, T, U', rfl, rfl, ?_, h2.reS fun b hb => k b ((h3 b).mpr (.inr hb)), h3, h4⟩
    cases a with
    | v m => exact h1
    | r o =>
      cases o with
      | nm i => exact h1
      | ex m =>
        obtain ⟨d, e, ow, ap⟩ := h1
        exact ⟨d, e, ow, fun b hb => ⟨k b ((h3 b).mpr (.inl hb)), (ap b hb).2⟩⟩
theorem par_mt : ∀ {as : List Ar} {is : List Nat} {xs : List (Option D)} {vs : List V} {U : Addr → Prop} {ds : List D} {g g' : Sg} {σ : L2.St} {S : Nat → Addr → Prop}, as.all newA = true → Mt K M g σ H G S → ArRs K M Ha ga σa H G S as xs vs U → rdA ga as xs = some ds →
    setAll is ds g = some g' → (∀ i ∈ is, i ∉ fx) → (∀ a, Ha a = none → H0 a = none) → Stp M H0 G0 S0 H G S → ∃ S', Mt K M g' (sets is vs σ) H G S' ∧ Stp M H0 G0 S0 H G S' ∧ Fx fx σ (sets is vs σ) ∧ vs.length = is.length
  | [], is, xs, vs, U, ds, g, g', σ, S, _, m, h, e1, e2, _, _, st => by
    obtain ⟨rfl, rfl, _⟩ := h
    cases (show some ([] : List D) = some ds from e1)
    cases is with
    | nil => cases (show some g = some g' from e2); exact ⟨S, m, st, Fx.refl, rfl⟩
    | cons i is => cases e2
  | a :: as, is, xs, vs, U, ds, g, g', σ, S, na, m, h, e1, e2, nf, bk, st => by
    obtain ⟨na1, na2⟩ := He.ba (show (newA a && as.all newA) = true from na)
    obtain ⟨x, xr, v, vr, T, U', rfl, rfl, h1, h2, h3, h4⟩ := h
    have key : ∃ d dr, ds = d :: dr ∧ rdA ga as xr = some dr ∧ Own K M G H d v T ∧ ∀ b, T b → ¬ Vl M G S b ∧ Ha b = none := by
      cases a with
      | v m =>
        obtain ⟨⟨d, rfl, r⟩, nT⟩ := h1
        have e1 : (rdA ga as xr).map (d :: ·) = some ds := e1
        cases q : rdA ga as xr with
        | none => rw [q] at e1; cases e1
        | some dr =>
          rw [q] at e1; cases e1
          exact ⟨d, dr, rfl, rfl, .inl ⟨r, nT⟩, fun b hb => (nT b hb).elim⟩
      | r o =>
        cases o with
        | nm i => cases na1
        | ex m =>
          obtain ⟨d, rfl, ow, ap⟩ := h1
          have e1 : (match some d, rdA ga as xr with
            | some d, some ds => some (d :: ds)
            | _, _ => none) = some ds := e1
          cases q : rdA ga as xr with
          | none => rw [q] at e1; cases e1
          | some dr =>
            rw [q] at e1; cases e1
            exact ⟨d, dr, rfl, rfl, ow, ap⟩
    obtain ⟨d, dr, rfl, q, ow, ap⟩ := key
    cases is with
    | nil => cases e2
    | cons i is =>
      have e2 : (if i < g.length then setAll is dr (g.set i (some d)) else none) = some g' := e2
      split at e2
      · rename_i hl
        have m1 := m.set ow (fun b hb => (ap b hb).1) hl
        have h2' : ArRs K M Ha ga σa H G (setS S i T) as xr vr U' := by
          have base : ∀ b, U' b → ¬ Vl M G S b := fun b hb => (h2.there hb).2.1
          refine h2.reS fun b hb z => ?_
          rcases z with ⟨j, ⟨_, z⟩ | ⟨_, z⟩⟩ | z
          · exact h4 b z hb
          · exact base b hb (.inl ⟨j, z⟩)
          · exact base b hb (.inr z)
        obtain ⟨S', m2, st2, f2, l2⟩ := par_mt na2 m1 h2' q e2 (fun j hj => nf j (List.mem_cons_of_mem _ hj)) bk (st.set fun a z => bk a (ap a z).2)
        exact ⟨S', m2, st2, (Fx.set (nf i (List.mem_cons_self ..))).trans f2, congrArg Nat.succ l2⟩
      · cases e2
theorem EndA.imp' {as : List Ar} {r : Rs (List (Option D))} {Q Q' : List V → Hp → Prop} (h : EndA K M W σ H G S as r Q) (k : ∀ v H', Q v H' → Q' v H') : EndA K M W σ H G S as r Q' := by
  cases r with
  | bad => exact h
  | ok x g' => exact fun v H' G' S' U m rr s => k _ _ (h v H' G' S' U m rr s)
  | exc c d g' => exact h
theorem par_end {as : List Ar} {is : List Nat} {N : Ends} {σ : L2.St} (na : as.all newA = true) (nf : ∀ i ∈ is, i ∉ fx) (q : tF K M fx W (pPar is as) N σ H) :
    tA K M W as σ H fun vs H1 => vs.length = is.length ∧ N.nx (sets is vs σ) H1 := by
  obtain ⟨g, G, S, m, q⟩ := q
  refine ⟨g, G, S, m, ?_⟩
  have q := EndF.bindA (as := as) q
  cases er : evA as g with
  | bad => rw [er] at q; exact q
  | exc c d g' => rw [er] at q; exact q
  | ok xs g1 =>
    rw [er] at q
    intro vs H1 G1 S1 U m1 r1 st
    obtain ⟨xs', g', G', S', U', e, m', r', st', q'⟩ := q vs H1 G1 S1 U m1 r1 st
    cases e
    cases e1 : rdA g1 as xs with
    | none => rw [e1] at q'; exact (show False from q').elim
    | some ds =>
      rw [e1, Option.bind_some] at q'
      cases e2 : setAll is ds g1 with
      | none => rw [e2] at q'; exact (show False from q').elim
      | some g2 =>
        rw [e2] at q'
        obtain ⟨S2, m2, st2, f2, l2⟩ := par_mt na m' r' e1 e2 nf (fun a z => z) st'
        exact ⟨l2, (show EndN K M fx σ H G S g2 N.nx from q') _ _ _ _ f2 m2 st2⟩
/-- what stores are swapped hangs on the scope alone -/
def envS (sc : Scope) : Env := { scope := sc, locals := 0, globals := 0, cells := [] }
theorem sw_env {ts : List Expr} {v : Expr} {env : Env} {sc : Scope} (h : env.scope = sc) : swappedStores ts v env = swappedStores ts v (envS sc) := by
  subst h
  rfl
theorem sPar2 {P : Program} {w : World} {mg : Str → Option Value} {base : Heap} {N : List Str} {sc : Scope} {k : Nat} (c : Bd P w K mg base N sc k X W) {i j : Nat} {x y : Str} {a b : Expr} {as : List Ar} {px py pt : Pos} {kt k2 pt2}
    (hx : (okL N sc i x && isLoc sc x) = true) (hy : (okL N sc j y && isLoc sc y) = true) (hij : (i != j) = true) (hf : (notIn i fx && notIn j fx) = true) (ha : PA X [a, b] (tA X.K M W as)) (na : as.all newA = true)
    (hw : swappedStores [.Tuple [.Name x px, .Name y py] kt pt] (.Tuple [a, b] k2 pt2) (envS sc) = pure (some [x, y])) (hs : swapsWithSole [.Tuple [.Name x px, .Name y py] kt pt] (.Tuple [a, b] k2 pt2) pos.line X.env = pure false) :
    PS X (.Assign [.Tuple [.Name x px, .Name y py] kt pt] (.Tuple [a, b] k2 pt2) pos) (tF X.K M fx W (pPar [i, j] as)) := by
  obtain ⟨hx1, hx2⟩ := He.ba hx
  obtain ⟨hy1, hy2⟩ := He.ba hy
  obtain ⟨f1, f2⟩ := He.ba hf
  have e := c.ct.sc
  refine PS.imp (ps_par c.ct.calm c.ct.nd (by rw [c.ct.N]; exact of_decide_eq_true (He.ba hx1).1) (by rw [c.ct.N]; exact of_decide_eq_true (He.ba hy1).1) (by simpa using hij) (by rw [e]; exact isLoc_of hx2) (by rw [e]; exact isLoc_of hy2) ha ((sw_env e).trans hw) hs) fun N σ H q => ?_
  have nf : ∀ z ∈ [i, j], z ∉ fx := fun z hz => by
    rcases List.mem_cons.mp hz with h | h
    · rw [h]; exact notIn_of f1
    · rw [List.mem_singleton.mp h]; exact notIn_of f2
  obtain ⟨g, G, S, m, q⟩ := par_end na nf q
  refine ⟨g, G, S, m, EndA.imp' q fun vs H1 ⟨l, q⟩ => ?_⟩
  match vs, l with
  | [v, u], _ => exact ⟨v, u, rfl, q⟩
theorem sPar3 {P : Program} {w : World} {mg : Str → Option Value} {base : Heap} {N : List Str} {sc : Scope} {k : Nat} (c : Bd P w K mg base N sc k X W) {i j l : Nat} {x y z : Str} {a b d : Expr} {as : List Ar} {px py pz pt : Pos} {kt k2 pt2}
    (hx : (okL N sc i x && isLoc sc x) = true) (hy : (okL N sc j y && isLoc sc y) = true) (hz : (okL N sc l z && isLoc sc z) = true) (hij : ((i != j) && ((i != l) && (j != l))) = true) (hf : (notIn i fx && (notIn j fx && notIn l fx)) = true) (ha : PA X [a, b, d] (tA X.K M W as)) (na : as.all newA = true)
    (hw : swappedStores [.Tuple [.Name x px, .Name y py, .Name z pz] kt pt] (.Tuple [a, b, d] k2 pt2) (envS sc) = pure (some [x, y, z])) (hs : swapsWithSole [.Tuple [.Name x px, .Name y py, .Name z pz] kt pt] (.Tuple [a, b, d] k2 pt2) pos.line X.env = pure false) :
    PS X (.Assign [.Tuple [.Name x px, .Name y py, .Name z pz] kt pt] (.Tuple [a, b, d] k2 pt2) pos) (tF X.K M fx W (pPar [i, j, l] as)) := by
  obtain ⟨hx1, hx2⟩ := He.ba hx
  obtain ⟨hy1, hy2⟩ := He.ba hy
  obtain ⟨hz1, hz2⟩ := He.ba hz
  obtain ⟨f1, ff⟩ := He.ba hf
  obtain ⟨f2, f3⟩ := He.ba ff
  obtain ⟨n1, nn⟩ := He.ba hij
  obtain ⟨n2, n3⟩ := He.ba nn
  have e := c.ct.sc
  refine PS.imp (ps_par3 c.ct.calm c.ct.nd (by rw [c.ct.N]; exact of_decide_eq_true (He.ba hx1).1) (by rw [c.ct.N]; exact of_decide_eq_true (He.ba hy1).1) (by rw [c.ct.N]; exact of_decide_eq_true (He.ba hz1).1) (by simpa using n1) (by simpa using n2) (by simpa using n3)
    (by rw [e]; exact isLoc_of hx2) (by rw [e]; exact isLoc_of hy2) (by rw [e]; exact isLoc_of hz2) ha ((sw_env e).trans hw) hs) fun N σ H q => ?_
  have nf : ∀ u ∈ [i, j, l], u ∉ fx := fun u hu => by
    rcases List.mem_cons.mp hu with h | h
    · rw [h]; exact notIn_of f1
    · rcases List.mem_cons.mp h with h | h
      · rw [h]; exact notIn_of f2
      · rw [List.mem_singleton.mp h]; exact notIn_of f3
  obtain ⟨g, G, S, m, q⟩ := par_end na nf q
  refine ⟨g, G, S, m, EndA.imp' q fun vs H1 ⟨l, q⟩ => ?_⟩
  match vs, l with
  | [v, u, t], _ => exact ⟨v, u, t, rfl, q⟩
end
/-! the rows of a class's fields -/
theorem fldOk_0 {K : Frag} : FldOk K [] := fun _ z => (List.not_mem_nil z).elim
theorem fldOk_c {K : Frag} {c f : Str} {r : List (Str × Str)} (h1 : Cls K (He.ga K c)) (h2 : NoAttr K (He.ga K c) f) (h : FldOk K r) : FldOk K ((c, f) :: r) := fun p z => by
  rcases List.mem_cons.mp z with e | e
  · rw [e]; exact ⟨h1, h2⟩
  · exact h p e
theorem all_0 {α : Type} {p : α → Prop} : ∀ x ∈ ([] : List α), p x := fun _ z => (List.not_mem_nil z).elim
theorem all_c {α : Type} {p : α → Prop} {a : α} {r : List α} (h1 : p a) (h : ∀ x ∈ r, p x) : ∀ x ∈ a :: r, p x := fun x z => by
  rcases List.mem_cons.mp z with e | e
  · rw [e]; exact h1
  · exact h x e
end PI

set_option Elab.async false
set_option linter.all false
set_option maxRecDepth 100000
set_option maxHeartbeats 1000000
namespace PI
open PySem PySem.Spec PyProof.Rows L2
open PySem.W (Frag InstAt findIn isFn selfFirst subIn Looks)
/-! ### a def as a datum -/
def GdF (P : Program) (w : World) (K : Frag) (M : Memo) (mg : Str → Option Value) (base : Heap) (d : DefA) (ps : List Str) (rf : List Nat) (j : Nat) (ff : List D → Cr) : Prop :=
  ∃ fd, FunD K d.name d.qual d.params d.body d.scope (d.dvs K) (d.kws K) (d.at_ K) fd ∧ FnG P w K mg base j (d.at_ K) fd ps (spF K M ff rf ps.length)
section
variable {fc : List Fc} {fn : List DefA} {P : Program} {w : World} {K : Frag} {M : Memo} {mg : Str → Option Value} {base : Heap} {d : DefA} {ps N : List Str} {rf : List Nat} {j k z : Nat} {ff : List D → Cr} {m : PF} {X : Cx} {W : WX} {sc : Scope} {e1 e2 : Expr} {pos : Pos}
theorem GdF.b (h : GdF P w K M mg base d ps rf j ff) (n : Nat) (ks : List Str) (l : List Nat) (hd : d.dfl = []) (hl : l.length = ps.length)
    (hb : ∀ (kV doc pm : Value) (an : Option Addr) (cdv ct : Value) (us ws : List Value), us.length = n → ws.length = ks.length → ∃ zs, pmL (us ++ ws) (fun _ => Value.none) (l.map Sum.inl) = some zs ∧ bindArgs (PySem.W.fnOf d.name d.qual d.params d.body d.scope .none kV doc pm an cdv ct) ⟨us, ks.zip ws⟩ = pure (ps.zip zs)) :
    FnB P w K M mg base j (d.at_ K) ff rf n ks (l.map Sum.inl) := by
  obtain ⟨fd, F, G⟩ := h
  have e : d.dvs K = [] := by unfold He5.DefA.dvs; rw [hd]; rfl
  rw [e] at F
  exact ⟨fd, ps, G, F.kp, bindP_0 F n ks l hl hb⟩
theorem GdF.mk' (Y : Fa fc fn P w K mg base) (i : Nat) (h : fn[i]? = some d) (Z : FnScope N ps d.scope) (hz : N.length = ps.length + z) (hrf : ∀ i ∈ rf, i < ps.length) (hb : ∀ (X : Cx) (W : WX), Bd P w K mg base N d.scope k X W → PSs X d.body (tF X.K M rf W m)) :
    GdF P w K M mg base d ps rf (k + 1) (runF rf z m) := by
  obtain ⟨fd, F⟩ := Y.says.def_ i h
  exact ⟨fd, F, fnG_body F Z hz hrf fun X W b => bd_fin b (hb X W (bd_of Z.nd b))⟩
theorem GdF.no (Y : Fa fc fn P w K mg base) (i : Nat) (h : fn[i]? = some d) : GdF P w K M mg base d ps rf j (fun _ => .bad) := by
  obtain ⟨fd, F⟩ := Y.says.def_ i h
  exact ⟨fd, F, fnG_bad⟩
theorem wIx (c : Ct P w K mg base N sc k X W) {oa ob : Op} (ha : PE X e1 (tO X.K M W oa)) (hb : PE X e2 (tO X.K M W ob)) (hs : PlainIx e2) : PE X (.Subscript e1 e2 pos) (tP X.K M W (pOp2 (fun d e g => ro (ixD d e) g) oa ob)) := by
  have hu := c.hu
  exact pe_ixS (ix_ok (by omega)) ha hb hs
theorem wRepr (c : Ct P w K mg base N sc k X W) : CallS X (.builtin "repr") (rFN X.K M W fun ds g => ro (reprA ds) g) := c_repr c.hu c.gu
end
/-! the whole numbers' own operators -/
theorem opI_Add : OpI .Add := ⟨_, _, _, PySem.F.slot_int_add, PySem.F.entry_int_add, fun _ _ _ => PySem.F.args_int_add_2 _ _, PySem.F.fills_int_add⟩
theorem opI_Sub : OpI .Sub := ⟨_, _, _, PySem.F.slot_int_sub, PySem.F.entry_int_sub, fun _ _ _ => PySem.F.args_int_sub_2 _ _, PySem.F.fills_int_sub⟩
theorem opI_Mult : OpI .Mult := ⟨_, _, _, PySem.F.slot_int_mul, PySem.F.entry_int_mul, fun _ _ _ => PySem.F.args_int_mul_2 _ _, PySem.F.fills_int_mul⟩
theorem opI_BitAnd : OpI .BitAnd := ⟨_, _, _, PySem.F.slot_int_and, PySem.F.entry_int_and, fun _ _ _ => PySem.F.args_int_and_2 _ _, PySem.F.fills_int_and⟩
theorem opI_BitOr : OpI .BitOr := ⟨_, _, _, PySem.F.slot_int_or, PySem.F.entry_int_or, fun _ _ _ => PySem.F.args_int_or_2 _ _, PySem.F.fills_int_or⟩
end PI

set_option Elab.async false
set_option linter.all false
set_option maxRecDepth 100000
set_option maxHeartbeats 1000000
namespace PI
open PySem PySem.Spec PyProof.Rows L2
open PySem.W (Frag InstAt findIn isFn selfFirst subIn Looks)
/-- what stands within a class's block -/
def clsB (s : Stmt) : List Stmt := match s with
  | .ClassDef (body := ss) .. => ss
  | _ => []
/-! ### calls without names: the arguments as they are listed -/
section
variable {P : Program} {w : World} {K : Frag} {M : Memo} {mg : Str → Option Value} {base : Heap} {N : List Str} {sc : Scope} {k j : Nat} {X : Cx} {W : WX} {x m cn : Str} {p pos apos : Pos} {o : Expr} {es : List Expr} {as : List Ar}
theorem paV {e : Expr} {m : PX} (hp : PE X e (tP X.K M W m)) (hr : PA X es (tA X.K M W as)) (hs : noStar e = true) : PA X (e :: es) (tA X.K M W (.v m :: as)) := pa_Ac (a := .v m) hp hr hs
theorem paR {e : Expr} {u : Op} (hp : PE X e (tO X.K M W u)) (hr : PA X es (tA X.K M W as)) (hs : noStar e = true) : PA X (e :: es) (tA X.K M W (.r u :: as)) := pa_Ac (a := .r u) hp hr hs
theorem pkV {nm : Option Str} {kp : Pos} {ks : List Keyword} {e : Expr} {m : PX} (hp : PE X e (tP X.K M W m)) (hr : PK X ks (tA X.K M W as)) : PK X (⟨nm, e, kp⟩ :: ks) (tA X.K M W (.v m :: as)) := pk_Ac (a := .v m) hp hr
theorem pkR {nm : Option Str} {kp : Pos} {ks : List Keyword} {e : Expr} {u : Op} (hp : PE X e (tO X.K M W u)) (hr : PK X ks (tA X.K M W as)) : PK X (⟨nm, e, kp⟩ :: ks) (tA X.K M W (.r u :: as)) := pk_Ac (a := .r u) hp hr
theorem prV {e : Expr} {m : PX} (hp : PE X e (tP X.K M W m)) : PAr X.K M W X e (.v m) := hp
theorem prR {e : Expr} {u : Op} (hp : PE X e (tO X.K M W u)) : PAr X.K M W X e (.r u) := hp
theorem wCall0 (c : Ct P w K mg base N sc k X W) {f : Addr} {ff : List D → Cr} {rf : List Nat} {pm : Pm} (F : FnB P w K M mg base j f ff rf as.length [] pm) (hj : j ≤ k) (h : okG sc x = true) (hm : mg x = some (.ref f)) (ha : PA X es (tA X.K M W as))
    (hck : (decide (as.length = es.length) && (distinct (as.map nmA) && (distinct (pm.map inlOf) && es.all noStar))) = true) : PE X (.Call (.Name x p) es [] pos) (tP X.K M W (pCall ff rf as pm)) := by
  obtain ⟨k1, hck⟩ := He.ba hck
  obtain ⟨k2, hck⟩ := He.ba hck
  obtain ⟨k3, k4⟩ := He.ba hck
  have q := wCall (M := M) (pos := pos) (p := p) (kws := []) (as := as) (bs := []) c F hj h hm ha pk_A0 (by rw [k1, List.append_nil, k2, k3, k4]; rfl)
  rw [List.append_nil] at q
  exact q
theorem wNew0 (c : Ct P w K mg base N sc k X W) {ff : List D → Cr} {rf : List Nat} {pm : Pm} (C : Mk K (He.ga K cn) (maF cn "__init__" K)) (F : FnB P w K M mg base j (maF cn "__init__" K) ff rf (as.length + 1) [] pm) (hj : j + 1 ≤ k) (h : okG sc cn = true) (hm : mg cn = some (.ref (He.ga K cn)))
    (pl : ∀ dx fs, M.plain (.ins (He.ga K cn) dx fs)) (ha : PA X es (tA X.K M W as)) (h0 : pm[0]? = some (.inl 0)) (hck : (decide (as.length = es.length) && (distinct (as.map nmA) && (distinct (pm.map inlOf) && es.all noStar))) = true) : PE X (.Call (.Name cn p) es [] pos) (tP X.K M W (pNew cn ff rf as pm)) := by
  obtain ⟨k1, hck⟩ := He.ba hck
  obtain ⟨k2, hck⟩ := He.ba hck
  obtain ⟨k3, k4⟩ := He.ba hck
  have q := wNew (M := M) (pos := pos) (p := p) (kws := []) (as := as) (bs := []) c C F hj h hm pl ha pk_A0 h0 (by rw [k1, List.append_nil, k2, k3, k4]; rfl)
  rw [List.append_nil] at q
  exact q
theorem wMeth0 (c : Ct P w K mg base N sc k X W) {cs : List Cd} {a0 : Ar} {pl : Sem Bool} (C : CdF P w K M mg base k m (as.length + 1) [] cs) (ho : PAr X.K M W X o a0) (ha : PA X es (tA X.K M W as))
    (hck : (decide (as.length = es.length) && (distinct ((a0 :: as).map nmA) && es.all noStar)) = true)
    (ht : eval (.Call (.Attribute o m apos) es [] pos) X.env = (do
      let ov ← eval o X.env
      standAt apos.atName
      let (f, first) ← holding [ov] (getMethod ov m pl)
      callWith pos f first (backTo pos (starEach es X.env)) (backToKw pos (keywordEach [] X.env)))) : PE X (.Call (.Attribute o m apos) es [] pos) (tP X.K M W (pMeth m cs a0 as)) := by
  obtain ⟨k1, hck⟩ := He.ba hck
  obtain ⟨k2, k3⟩ := He.ba hck
  have q := wMeth (M := M) (kws := []) (as := as) (bs := []) c C ho ha pk_A0 (by rw [k1, List.append_nil, k2, k3]; rfl) ht
  rw [List.append_nil] at q
  exact q
end
end PI

set_option Elab.async false
set_option linter.all false
set_option maxRecDepth 100000
set_option maxHeartbeats 1000000
namespace PI
open PySem PySem.Spec PyProof.Rows L2
open PySem.W (Frag InstAt findIn isFn selfFirst subIn Looks)
/-! ### the law's own def -/
section
variable {fc : List Fc} {fn : List DefA} {P : Program} {w : World} {K : Frag} {M : Memo} {mg : Str → Option Value} {d : DefA} {x : Str} {j : Nat} {ff : List D → Cr} {fa : Addr}
theorem funD_one {q1 q2 : Str} {pr : Arguments} {bd : List Stmt} {sc : Scope} {dv : List V} {kw : List (Str × V)} {f : Addr} {f1 f2 : FuncData} (a : FunD K q1 q2 pr bd sc dv kw f f1) (b : FunD K q1 q2 pr bd sc dv kw f f2) : f2 = f1 := by
  obtain ⟨_, _, _, _, _, _, _, _, _, _, _, l1, _⟩ := a.ex
  obtain ⟨_, _, _, _, _, _, _, _, _, _, _, l2, _⟩ := b.ex
  rw [l1] at l2
  cases l2
  rfl
theorem lawFd (h : Heap) (hG : ∀ base, GdF P w K M mg base d [x] [] j ff) (he : d.at_ K = fa) (hd : d.dfl = [])
    (hb : ∀ (kV doc pm : Value) (an : Option Addr) (cdv ct u : Value), bindArgs (PySem.W.fnOf d.name d.qual d.params d.body d.scope .none kV doc pm an cdv ct) ⟨[u], []⟩ = pure [(x, u)]) :
    ∃ fd, (∀ (s : Shared) (u : Value), BindsTo s fd ⟨[u], []⟩ [(x, u)]) ∧ ∀ base : Heap, FnG P w K mg base j fa fd [x] (spF K M ff [] 1) := by
  obtain ⟨fd, F, _⟩ := hG h
  have e : d.dvs K = [] := by unfold He5.DefA.dvs; rw [hd]; rfl
  refine ⟨fd, ?_, fun base => ?_⟩
  · rw [e] at F
    have b := FunD.bindsA (ps := [x]) F (fun kV doc pm an cdv ct us hl => match us, hl with
      | [u], _ => by exact hb kV doc pm an cdv ct u)
    exact fun s u => b s [u] rfl
  · obtain ⟨fd', F', G'⟩ := hG base
    cases funD_one F F'
    exact he ▸ G'
end
end PI

set_option Elab.async false
set_option linter.all false
set_option maxRecDepth 100000
set_option maxHeartbeats 1000000
namespace PI
open PySem PySem.Spec PyProof.Rows L2
open PySem.W (Frag)
/-! ### reckoning with the words at a state that is written out -/
def nxt (as : List PF) : Fl → Sg → Rs Fl
  | .nx, g => pBlk as g
  | fl, g => .ok fl g
def setK (i : Nat) (d : D) (g : Sg) : Rs Fl := if i < g.length then .ok .nx (g.set i (some d)) else .bad
def retK (d : D) (g : Sg) : Rs Fl := .ok (.rt d) g
def dropK (_ : D) (g : Sg) : Rs Fl := .ok .nx g
def ifK (a b : PF) (t : Bool) (g : Sg) : Rs Fl := if t = true then a g else b g
def ifEK (a b : PX) (t : Bool) (g : Sg) : Rs D := if t = true then a g else b g
def notK (b : Bool) (g : Sg) : Rs Bool := .ok (!b) g
def andK (u : PT') (t : Bool) (g : Sg) : Rs Bool := if t = true then u g else .ok false g
def orK (u : PT') (t : Bool) (g : Sg) : Rs Bool := if t = true then .ok true g else u g
def andVK (b : PX) (d : D) (g : Sg) : Rs D := match trD d with
  | some true => b g
  | some false => .ok d g
  | none => .bad
def orVK (b : PX) (d : D) (g : Sg) : Rs D := match trD d with
  | some true => .ok d g
  | some false => b g
  | none => .bad
def trK (o : Op) (x : Option D) (g : Sg) : Rs Bool := match rdO g o x with
  | some d => rt2 (trD d) g
  | none => .bad
def op1K (f : D → Sg → Rs D) (a : Op) (x : Option D) (g : Sg) : Rs D := match rdO g a x with
  | some d => f d g
  | none => .bad
def op2E (f : D → D → Sg → Rs D) (a b : Op) (x y : Option D) (g : Sg) : Rs D := match rdO g a x, rdO g b y with
  | some d, some e => f d e g
  | _, _ => .bad
def op2K (f : D → D → Sg → Rs D) (a b : Op) (x : Option D) (g : Sg) : Rs D := (evO b g).bind fun y g2 => op2E f a b x y g2
def opsK (f : List D → Sg → Rs D) (os : List Op) (xs : List (Option D)) (g : Sg) : Rs D := match rdOs g os xs with
  | some ds => f ds g
  | none => .bad
def nmK (i : Nat) (g : Sg) : Rs (Option D) := match g[i]? with
  | some (some _) => .ok none g
  | _ => .bad
def exK (d : D) (g : Sg) : Rs (Option D) := .ok (some d) g
def evosK (os : List Op) (x : Option D) (g : Sg) : Rs (List (Option D)) := (evOs os g).bind fun xs g2 => .ok (x :: xs) g2
def evvK (as : List Ar) (d : D) (g : Sg) : Rs (List (Option D)) := (evA as g).bind fun xs g2 => .ok (some (sealD d) :: xs) g2
def evrK (as : List Ar) (x : Option D) (g : Sg) : Rs (List (Option D)) := (evA as g).bind fun xs g2 => .ok (x :: xs) g2
def wbC (ns : List (Option Nat)) (n : Nat) (rf : List Nat) (r : Cr) (g : Sg) : Rs D := match r with
  | .bad => .bad
  | .ok d rs => .ok d (wbS ns (retG n rf rs) g)
  | .exc c d rs => .exc c d (wbS ns (retG n rf rs) g)
def callK (f : List D → Cr) (rf : List Nat) (as : List Ar) (pm : Pm) (xs : List (Option D)) (g : Sg) : Rs D := match rdA g as xs with
  | none => .bad
  | some ds => match pmL ds id pm, pmL (as.map nmA) (fun _ => none) pm with
    | some es, some ns => wbC ns es.length rf (f es) g
    | _, _ => .bad
def newE (ns : List (Option Nat)) (n : Nat) (rf : List Nat) (r : Cr) (g : Sg) : Rs D := match r with
  | .bad => .bad
  | .ok .non rs => (match (retG n rf rs)[0]? with
    | some (some d) => .ok d (wbS ns (retG n rf rs) g)
    | _ => .bad)
  | .ok _ _ => .bad
  | .exc c d rs => .exc c d (wbS ns (retG n rf rs) g)
def newK (c : Str) (f : List D → Cr) (rf : List Nat) (as : List Ar) (pm : Pm) (xs : List (Option D)) (g : Sg) : Rs D := match rdA g as xs with
  | none => .bad
  | some ds => match pmL (.obj true c [] [] :: ds) id pm, pmL (none :: as.map nmA) (fun _ => none) pm with
    | some es, some ns => newE ns es.length rf (f es) g
    | _, _ => .bad
def methE (cd : Cd) (as : List Ar) (xs : List (Option D)) (g : Sg) : Rs D := callK cd.ff cd.rf as cd.pm xs g
def methK (m : Str) (cs : List Cd) (a0 : Ar) (as : List Ar) (xs : List (Option D)) (g : Sg) : Rs D := match rdA g [a0] xs with
  | some [d] => (match pickC m cs d with
    | some cd => (evA as g).bind fun ys g2 => methE cd (a0 :: as) (xs ++ ys) g2
    | none => .bad)
  | _ => .bad
def parK (is : List Nat) (as : List Ar) (xs : List (Option D)) (g : Sg) : Rs Fl := match (rdA g as xs).bind fun ds => setAll is ds g with
  | some g2 => .ok .nx g2
  | none => .bad
def allK (ms : List PX) (d : D) (g : Sg) : Rs (List D) := (pAll ms g).bind fun ds g2 => .ok (sealD d :: ds) g2
def tupK (ds : List D) (g : Sg) : Rs D := if ds.length ≤ 1000 then .ok (.tup ds) g else .bad
def lstK (ds : List D) (g : Sg) : Rs D := if ds.length ≤ 1000 then .ok (.lst true ds) g else .bad
def sl2K (f : D → D → Sg → Rs D) (b : PX) (d : D) (g : Sg) : Rs D := (b g).bind fun e g2 => f (sealD d) (sealD e) g2
def sl1K (f : D → Sg → Rs D) (d : D) (g : Sg) : Rs D := f (sealD d) g
def forK (tg : Tg) (b : PF) (ds : List D) (g : Sg) : Rs Fl := forD tg b ds g
def itvK (d : D) (g : Sg) : Rs (List D) := rl (itmD d) g
def rngK (os : List Op) (xs : List (Option D)) (g : Sg) : Rs (List D) := rl ((rdOs g os xs).bind rngA) g
def itaK (f : List D → Option (List D)) (ds : List D) (g : Sg) : Rs (List D) := rl (f ds) g
def lcK (tg : Tg) (c : PT') (e : PX) (vs : List Nat) (ds : List D) (g : Sg) : Rs D := if freeG vs g = true then (lcD tg c e vs ds [] g).bind fun acc g2 => .ok (.lst true acc) g2 else .bad
def dicK (ps : List (Key × D)) (g : Sg) : Rs D := if ps.length ≤ 15 then .ok (.dic true (dispD ps).1 (dispD ps).2) g else .bad
def evkK (k : Key) (r : List (Key × PX)) (d : D) (g : Sg) : Rs (List (Key × D)) := (evK r g).bind fun ps g2 => .ok ((k, sealD d) :: ps) g2
def rsK (c : Str) (ds : List D) (g : Sg) : Rs Fl := match ds with
  | [d] => .exc c d g
  | _ => .bad
def setTK (is : List Nat) (d : D) (g : Sg) : Rs Fl := match (seqD d).bind fun xs => setAll is xs g with
  | some g2 => .ok .nx g2
  | none => .bad
section
variable {x : Option D} {g : Sg} {d : D} {xs : List (Option D)}
theorem q_blkc {a : PF} {as : List PF} : pBlk (a :: as) (x :: g) = (a (x :: g)).bind (nxt as) := by
  show pSeq a (pBlk as) _ = _
  unfold pSeq
  congr 1
  funext fl g1
  cases fl <;> rfl
theorem q_blk0 {a : PF} {as : List PF} : pBlk (a :: as) ([] : Sg) = (a ([] : Sg)).bind (nxt as) := by
  show pSeq a (pBlk as) _ = _
  unfold pSeq
  congr 1
  funext fl g1
  cases fl <;> rfl
theorem q_setc {i : Nat} {e : PX} : pSet i e (x :: g) = (e (x :: g)).bind (setK i) := rfl
theorem q_set0 {i : Nat} {e : PX} : pSet i e ([] : Sg) = (e ([] : Sg)).bind (setK i) := rfl
theorem q_retc {e : PX} : pRet e (x :: g) = (e (x :: g)).bind retK := rfl
theorem q_ret0 {e : PX} : pRet e ([] : Sg) = (e ([] : Sg)).bind retK := rfl
theorem q_dropc {e : PX} : pDrop e (x :: g) = (e (x :: g)).bind dropK := rfl
theorem q_drop0 {e : PX} : pDrop e ([] : Sg) = (e ([] : Sg)).bind dropK := rfl
theorem q_ifc {c : PT'} {a b : PF} : pIf c a b (x :: g) = (c (x :: g)).bind (ifK a b) := rfl
theorem q_if0 {c : PT'} {a b : PF} : pIf c a b ([] : Sg) = (c ([] : Sg)).bind (ifK a b) := rfl
theorem q_ifec {c : PT'} {a b : PX} : pIfE c a b (x :: g) = (c (x :: g)).bind (ifEK a b) := rfl
theorem q_ife0 {c : PT'} {a b : PX} : pIfE c a b ([] : Sg) = (c ([] : Sg)).bind (ifEK a b) := rfl
theorem q_testc {e : PX} : pTest e (x :: g) = (e (x :: g)).bind asB := rfl
theorem q_test0 {e : PX} : pTest e ([] : Sg) = (e ([] : Sg)).bind asB := rfl
theorem q_notc {t : PT'} : pNot t (x :: g) = (t (x :: g)).bind notK := rfl
theorem q_not0 {t : PT'} : pNot t ([] : Sg) = (t ([] : Sg)).bind notK := rfl
theorem q_andc {t u : PT'} : pAnd t u (x :: g) = (t (x :: g)).bind (andK u) := rfl
theorem q_and0 {t u : PT'} : pAnd t u ([] : Sg) = (t ([] : Sg)).bind (andK u) := rfl
theorem q_orc {t u : PT'} : pOr t u (x :: g) = (t (x :: g)).bind (orK u) := rfl
theorem q_or0 {t u : PT'} : pOr t u ([] : Sg) = (t ([] : Sg)).bind (orK u) := rfl
theorem q_andvc {a b : PX} : pAndV a b (x :: g) = (a (x :: g)).bind (andVK b) := rfl
theorem q_andv0 {a b : PX} : pAndV a b ([] : Sg) = (a ([] : Sg)).bind (andVK b) := rfl
theorem q_orvc {a b : PX} : pOrV a b (x :: g) = (a (x :: g)).bind (orVK b) := rfl
theorem q_orv0 {a b : PX} : pOrV a b ([] : Sg) = (a ([] : Sg)).bind (orVK b) := rfl
theorem q_trc {o : Op} : pTr o (x :: g) = (evO o (x :: g)).bind (trK o) := rfl
theorem q_tr0 {o : Op} : pTr o ([] : Sg) = (evO o ([] : Sg)).bind (trK o) := rfl
theorem q_op1c {f : D → Sg → Rs D} {a : Op} : pOp1 f a (x :: g) = (evO a (x :: g)).bind (op1K f a) := rfl
theorem q_op10 {f : D → Sg → Rs D} {a : Op} : pOp1 f a ([] : Sg) = (evO a ([] : Sg)).bind (op1K f a) := rfl
theorem q_op2c {f : D → D → Sg → Rs D} {a b : Op} : pOp2 f a b (x :: g) = (evO a (x :: g)).bind (op2K f a b) := rfl
theorem q_op20 {f : D → D → Sg → Rs D} {a b : Op} : pOp2 f a b ([] : Sg) = (evO a ([] : Sg)).bind (op2K f a b) := rfl
theorem q_opsc {f : List D → Sg → Rs D} {os : List Op} : pOps f os (x :: g) = (evOs os (x :: g)).bind (opsK f os) := rfl
theorem q_ops0 {f : List D → Sg → Rs D} {os : List Op} : pOps f os ([] : Sg) = (evOs os ([] : Sg)).bind (opsK f os) := rfl
theorem q_evnmc {i : Nat} : evO (.nm i) (x :: g) = nmK i (x :: g) := rfl
theorem q_evnm0 {i : Nat} : evO (.nm i) ([] : Sg) = nmK i ([] : Sg) := rfl
theorem q_evexc {m : PX} : evO (.ex m) (x :: g) = (m (x :: g)).bind exK := rfl
theorem q_evex0 {m : PX} : evO (.ex m) ([] : Sg) = (m ([] : Sg)).bind exK := rfl
theorem q_evos0c  : evOs [] (x :: g) = .ok [] (x :: g) := rfl
theorem q_evos00  : evOs [] ([] : Sg) = .ok [] ([] : Sg) := rfl
theorem q_evoscc {o : Op} {os : List Op} : evOs (o :: os) (x :: g) = (evO o (x :: g)).bind (evosK os) := rfl
theorem q_evosc0 {o : Op} {os : List Op} : evOs (o :: os) ([] : Sg) = (evO o ([] : Sg)).bind (evosK os) := rfl
theorem q_eva0c  : evA [] (x :: g) = .ok [] (x :: g) := rfl
theorem q_eva00  : evA [] ([] : Sg) = .ok [] ([] : Sg) := rfl
theorem q_evavc {m : PX} {as : List Ar} : evA (.v m :: as) (x :: g) = (m (x :: g)).bind (evvK as) := rfl
theorem q_evav0 {m : PX} {as : List Ar} : evA (.v m :: as) ([] : Sg) = (m ([] : Sg)).bind (evvK as) := rfl
theorem q_evarc {o : Op} {as : List Ar} : evA (.r o :: as) (x :: g) = (evO o (x :: g)).bind (evrK as) := rfl
theorem q_evar0 {o : Op} {as : List Ar} : evA (.r o :: as) ([] : Sg) = (evO o ([] : Sg)).bind (evrK as) := rfl
theorem q_callc {f : List D → Cr} {rf : List Nat} {as : List Ar} {pm : Pm} : pCall f rf as pm (x :: g) = (evA as (x :: g)).bind (callK f rf as pm) := rfl
theorem q_call0 {f : List D → Cr} {rf : List Nat} {as : List Ar} {pm : Pm} : pCall f rf as pm ([] : Sg) = (evA as ([] : Sg)).bind (callK f rf as pm) := rfl
theorem q_newc {c : Str} {f : List D → Cr} {rf : List Nat} {as : List Ar} {pm : Pm} : pNew c f rf as pm (x :: g) = (evA as (x :: g)).bind (newK c f rf as pm) := rfl
theorem q_new0 {c : Str} {f : List D → Cr} {rf : List Nat} {as : List Ar} {pm : Pm} : pNew c f rf as pm ([] : Sg) = (evA as ([] : Sg)).bind (newK c f rf as pm) := rfl
theorem q_methc {m : Str} {cs : List Cd} {a0 : Ar} {as : List Ar} : pMeth m cs a0 as (x :: g) = (evA [a0] (x :: g)).bind (methK m cs a0 as) := rfl
theorem q_meth0 {m : Str} {cs : List Cd} {a0 : Ar} {as : List Ar} : pMeth m cs a0 as ([] : Sg) = (evA [a0] ([] : Sg)).bind (methK m cs a0 as) := rfl
theorem q_parc {is : List Nat} {as : List Ar} : pPar is as (x :: g) = (evA as (x :: g)).bind (parK is as) := rfl
theorem q_par0 {is : List Nat} {as : List Ar} : pPar is as ([] : Sg) = (evA as ([] : Sg)).bind (parK is as) := rfl
theorem q_all0c  : pAll [] (x :: g) = .ok [] (x :: g) := rfl
theorem q_all00  : pAll [] ([] : Sg) = .ok [] ([] : Sg) := rfl
theorem q_allcc {m : PX} {ms : List PX} : pAll (m :: ms) (x :: g) = (m (x :: g)).bind (allK ms) := rfl
theorem q_allc0 {m : PX} {ms : List PX} : pAll (m :: ms) ([] : Sg) = (m ([] : Sg)).bind (allK ms) := rfl
theorem q_tupc {ms : List PX} : pTup ms (x :: g) = (pAll ms (x :: g)).bind tupK := rfl
theorem q_tup0 {ms : List PX} : pTup ms ([] : Sg) = (pAll ms ([] : Sg)).bind tupK := rfl
theorem q_lstc {ms : List PX} : pLst ms (x :: g) = (pAll ms (x :: g)).bind lstK := rfl
theorem q_lst0 {ms : List PX} : pLst ms ([] : Sg) = (pAll ms ([] : Sg)).bind lstK := rfl
theorem q_sl2c {f : D → D → Sg → Rs D} {a b : PX} : pSl2 f a b (x :: g) = (a (x :: g)).bind (sl2K f b) := rfl
theorem q_sl20 {f : D → D → Sg → Rs D} {a b : PX} : pSl2 f a b ([] : Sg) = (a ([] : Sg)).bind (sl2K f b) := rfl
theorem q_sl1c {f : D → Sg → Rs D} {a : PX} : pSl1 f a (x :: g) = (a (x :: g)).bind (sl1K f) := rfl
theorem q_sl10 {f : D → Sg → Rs D} {a : PX} : pSl1 f a ([] : Sg) = (a ([] : Sg)).bind (sl1K f) := rfl
theorem q_putc {n : Nat} {mi : Op} {mv : PX} : pPut n mi mv (x :: g) = (mv (x :: g)).bind (put1 n mi) := rfl
theorem q_put0 {n : Nat} {mi : Op} {mv : PX} : pPut n mi mv ([] : Sg) = (mv ([] : Sg)).bind (put1 n mi) := rfl
theorem q_fstc {fl : List (Str × Str)} {f : Str} {n : Nat} {m : PX} : pFst fl f n m (x :: g) = (m (x :: g)).bind (fst2 fl f n) := rfl
theorem q_fst0 {fl : List (Str × Str)} {f : Str} {n : Nat} {m : PX} : pFst fl f n m ([] : Sg) = (m ([] : Sg)).bind (fst2 fl f n) := rfl
theorem q_forc {it : PIt} {tg : Tg} {b : PF} : pFor it tg b (x :: g) = (it (x :: g)).bind (forK tg b) := rfl
theorem q_for0 {it : PIt} {tg : Tg} {b : PF} : pFor it tg b ([] : Sg) = (it ([] : Sg)).bind (forK tg b) := rfl
theorem q_itvc {m : PX} : pItV m (x :: g) = (m (x :: g)).bind itvK := rfl
theorem q_itv0 {m : PX} : pItV m ([] : Sg) = (m ([] : Sg)).bind itvK := rfl
theorem q_rngc {os : List Op} : pRng os (x :: g) = (evOs os (x :: g)).bind (rngK os) := rfl
theorem q_rng0 {os : List Op} : pRng os ([] : Sg) = (evOs os ([] : Sg)).bind (rngK os) := rfl
theorem q_itac {f : List D → Option (List D)} {ms : List PX} : pItA f ms (x :: g) = (pAll ms (x :: g)).bind (itaK f) := rfl
theorem q_ita0 {f : List D → Option (List D)} {ms : List PX} : pItA f ms ([] : Sg) = (pAll ms ([] : Sg)).bind (itaK f) := rfl
theorem q_lcc {it : PIt} {tg : Tg} {c : PT'} {e : PX} {vs : List Nat} : pLc it tg c e vs (x :: g) = (it (x :: g)).bind (lcK tg c e vs) := rfl
theorem q_lc0 {it : PIt} {tg : Tg} {c : PT'} {e : PX} {vs : List Nat} : pLc it tg c e vs ([] : Sg) = (it ([] : Sg)).bind (lcK tg c e vs) := rfl
theorem q_dicc {kms : List (Key × PX)} : pDic kms (x :: g) = (evK kms (x :: g)).bind dicK := rfl
theorem q_dic0 {kms : List (Key × PX)} : pDic kms ([] : Sg) = (evK kms ([] : Sg)).bind dicK := rfl
theorem q_evk0c  : evK [] (x :: g) = .ok [] (x :: g) := rfl
theorem q_evk00  : evK [] ([] : Sg) = .ok [] ([] : Sg) := rfl
theorem q_evkcc {k : Key} {m : PX} {r : List (Key × PX)} : evK ((k, m) :: r) (x :: g) = (m (x :: g)).bind (evkK k r) := rfl
theorem q_evkc0 {k : Key} {m : PX} {r : List (Key × PX)} : evK ((k, m) :: r) ([] : Sg) = (m ([] : Sg)).bind (evkK k r) := rfl
theorem q_rsc {c : Str} {m : PX} : pRs c m (x :: g) = (pAll [m] (x :: g)).bind (rsK c) := rfl
theorem q_rs0 {c : Str} {m : PX} : pRs c m ([] : Sg) = (pAll [m] ([] : Sg)).bind (rsK c) := rfl
theorem q_yesc  : pYes (x :: g) = .ok true (x :: g) := rfl
theorem q_yes0  : pYes ([] : Sg) = .ok true ([] : Sg) := rfl
theorem q_chc {op op' : CmpOp} {a b c : Op} : pCh op op' a b c (x :: g) = (evO a (x :: g)).bind (pCh2 op op' a b c) := rfl
theorem q_ch0 {op op' : CmpOp} {a b c : Op} : pCh op op' a b c ([] : Sg) = (evO a ([] : Sg)).bind (pCh2 op op' a b c) := rfl
theorem q_nxc  : pNx (x :: g) = .ok .nx (x :: g) := rfl
theorem q_nx0  : pNx ([] : Sg) = .ok .nx ([] : Sg) := rfl
theorem q_retnc  : pRetN (x :: g) = .ok (.rt .non) (x :: g) := rfl
theorem q_retn0  : pRetN ([] : Sg) = .ok (.rt .non) ([] : Sg) := rfl
theorem q_setTc {is : List Nat} {e : PX} : pSetT is e (x :: g) = (e (x :: g)).bind (setTK is) := rfl
theorem q_setT0 {is : List Nat} {e : PX} : pSetT is e ([] : Sg) = (e ([] : Sg)).bind (setTK is) := rfl
theorem q_pVc {i : Nat} : pV i (x :: g) = match (x :: g)[i]? with
  | some (some d) => .ok (sealD d) ((x :: g).set i (some (sealD d)))
  | _ => .bad := rfl
theorem q_pC {d : D} : pC d g = .ok d g := rfl
theorem q_blk : pBlk [] g = .ok .nx g := rfl
end
end PI

set_option Elab.async false
set_option linter.all false
set_option maxRecDepth 100000
set_option maxHeartbeats 1000000
namespace PI
open PySem PySem.Spec PyProof.Rows L2
open PySem.W (Frag)
/-! ### the operations at known values, for simp -/
section
variable {g : Sg} {d : D} {b c m : Bool} {i j : Int} {x y : Str} {xs ys : List D} {ls rs es : List Cd}
theorem k_ro : ro (some d) g = .ok d g := rfl
theorem k_rb : rb (some b) g = .ok (.bl b) g := rfl
theorem k_rl : rl (some xs) g = .ok xs g := rfl
theorem k_rt : rt2 (some b) g = .ok b g := rfl
theorem k_asB : asB (.bl b) g = .ok b g := rfl
theorem k_add : binD .Add (.int i) (.int j) = some (.int (i + j)) := rfl
theorem k_sub : binD .Sub (.int i) (.int j) = some (.int (i - j)) := rfl
theorem k_mul : binD .Mult (.int i) (.int j) = if mulOk i j then some (.int (i * j)) else none := rfl
theorem k_fdiv : binD .FloorDiv (.int i) (.int j) = if 0 < j ∧ j.natAbs.log2 < 9000 then some (.int (i / j)) else none := rfl
theorem k_mod : binD .Mod (.int i) (.int j) = if 0 < j then some (.int (i % j)) else none := rfl
theorem k_pow : binD .Pow (.int i) (.int j) = if powOk i j then some (.int (i ^ j.toNat)) else none := rfl
theorem k_addl : binD .Add (.lst b xs) (.lst c ys) = if xs.length + ys.length ≤ lim then some (.lst true (xs ++ ys)) else none := rfl
theorem k_bini {op : Operator} : binS op ls rs (.int i) (.int j) g = ro (binD op (.int i) (.int j)) g := rfl
theorem k_binl {op : Operator} : binS op ls rs (.lst b xs) (.lst c ys) g = ro (binD op (.lst b xs) (.lst c ys)) g := rfl
theorem k_lt : cmpD .Lt (.int i) (.int j) = some (decide (i < j)) := rfl
theorem k_le : cmpD .LtE (.int i) (.int j) = some (decide (i ≤ j)) := rfl
theorem k_gt : cmpD .Gt (.int i) (.int j) = some (decide (j < i)) := rfl
theorem k_ge : cmpD .GtE (.int i) (.int j) = some (decide (j ≤ i)) := rfl
theorem k_ixl : ixD (.lst b xs) (.int i) = atI xs i := rfl
theorem k_ixt : ixD (.tup xs) (.int i) = atI xs i := rfl
theorem k_inti : intD [.int i] = some (.int i) := rfl
theorem k_intb : intD [.bl b] = some (.int (if b then 1 else 0)) := rfl
theorem k_abs : absD [.int i] = some (.int (if i < 0 then -i else i)) := rfl
theorem k_lenl : lenD [.lst b xs] = some (.int xs.length) := rfl
theorem k_lent : lenD [.tup xs] = some (.int xs.length) := rfl
theorem k_max : maxD [.int i, .int j] = some (.int (if j > i then j else i)) := rfl
theorem k_min : minD [.int i, .int j] = some (.int (if j < i then j else i)) := rfl
theorem k_s0 : sealD .non = .non := rfl
theorem k_s1 : sealD (.bl b) = .bl b := rfl
theorem k_s2 : sealD (.int i) = .int i := rfl
theorem k_s3 : sealD (.str x) = .str x := rfl
theorem k_s4 : sealD (.lst b xs) = .lst false xs := rfl
theorem k_s5 : sealD (.tup xs) = .tup xs := rfl
theorem k_s6 {ks : List Key} : sealD (.dic b ks xs) = .dic false ks xs := rfl
theorem k_s7 {k : Str} {ns : List Str} : sealD (.obj b k ns xs) = .obj false k ns xs := rfl
theorem k_t0 : trD .non = some false := rfl
theorem k_t1 : trD (.bl b) = some b := rfl
theorem k_t2 : trD (.int i) = some (i != 0) := rfl
theorem k_t4 : trD (.lst b xs) = some (!xs.isEmpty) := rfl
theorem k_eqi : cmpD .Eq (.int i) (.int j) = some (i == j) := rfl
theorem k_nei : cmpD .NotEq (.int i) (.int j) = some (i != j) := rfl
theorem k_eqs : cmpD .Eq (.str x) (.str y) = if (PyData.strOk x && PyData.strOk y) = true then some (decide (x = y)) else none := by
  by_cases e : x = y
  · subst e; simp [cmpD, eqP, pyOf, SeqAt.shaped, PyData.eqv, PyData.canLay0, PyData.layable0, PyData.depth]
  · have eb : (x == y) = false := beq_eq_false_iff_ne.mpr e
    simp [cmpD, eqP, pyOf, SeqAt.shaped, PyData.eqv, e, eb, PyData.canLay0, PyData.layable0, PyData.depth]
theorem k_nes : cmpD .NotEq (.str x) (.str y) = if (PyData.strOk x && PyData.strOk y) = true then some (!decide (x = y)) else none := by
  show (cmpD .Eq (.str x) (.str y)).map (!·) = _
  rw [k_eqs]
  split <;> rfl
theorem k_itl : itmD (.lst b xs) = some xs := rfl
theorem k_itt : itmD (.tup xs) = some xs := rfl
theorem k_run {rf : List Nat} {z : Nat} {mm : PF} {ds : List D} : runF rf z mm ds = finC rf (mm (ds.map some ++ List.replicate z none)) := rfl
theorem k_finr {rf : List Nat} {rs : List D} (h : retL g rf = some rs) : finC rf (.ok (.rt d) g) = .ok d rs := by
  show (match retL g rf with
    | some rs => Cr.ok d rs
    | none => .bad) = _
  rw [h]
theorem k_for0 {tg : Tg} {bd : PF} : forK tg bd [] g = .ok .nx g := rfl
end
end PI
namespace PI
theorem mulOk_l {i j : Int} (h1 : -(2 ^ 64) < i) (h2 : i < 2 ^ 64) : mulOk i j = true := by
  unfold mulOk
  rw [Bool.or_eq_true]
  exact .inl (decide_eq_true (.inl ⟨h1, h2⟩))
theorem mulOk_r {i j : Int} (h1 : -(2 ^ 64) < j) (h2 : j < 2 ^ 64) : mulOk i j = true := by
  unfold mulOk
  rw [Bool.or_eq_true]
  exact .inl (decide_eq_true (.inr ⟨h1, h2⟩))
theorem powOk_s {i j : Int} (h1 : -(2 ^ 64) < i) (h2 : i < 2 ^ 64) (h3 : 0 ≤ j) (h4 : j ≤ 1000000) : powOk i j = true := by
  unfold powOk
  rw [Bool.and_eq_true, Bool.or_eq_true]
  exact ⟨decide_eq_true h3, .inl (decide_eq_true ⟨h4, by omega⟩)⟩
theorem log_lt {j : Int} {k : Nat} (h0 : 0 < j) (h : j < 2 ^ k) : j.natAbs.log2 < k := by
  have e : j.natAbs ≠ 0 := by omega
  rw [Nat.log2_lt e]
  have : ((j.natAbs : Nat) : Int) < ((2 ^ k : Nat) : Int) := by
    rw [Int.natAbs_of_nonneg (by omega)]
    push_cast
    exact h
  exact_mod_cast this
end PI
namespace PI
theorem r_0e : retG 0 [] [] = [] := rfl
theorem r_1e : retG 1 [] [] = [none] := rfl
theorem r_1z {d : D} : retG 1 [0] [d] = [some d] := rfl
theorem r_2e : retG 2 [] [] = [none, none] := rfl
theorem r_2z {d : D} : retG 2 [0] [d] = [some d, none] := rfl
theorem r_3e : retG 3 [] [] = [none, none, none] := rfl
theorem r_3z {d : D} : retG 3 [0] [d] = [some d, none, none] := rfl
theorem r_4e : retG 4 [] [] = [none, none, none, none] := rfl
theorem r_4z {d : D} : retG 4 [0] [d] = [some d, none, none, none] := rfl
theorem r_5e : retG 5 [] [] = [none, none, none, none, none] := rfl
theorem r_5z {d : D} : retG 5 [0] [d] = [some d, none, none, none, none] := rfl
theorem r_6e : retG 6 [] [] = [none, none, none, none, none, none] := rfl
theorem r_6z {d : D} : retG 6 [0] [d] = [some d, none, none, none, none, none] := rfl
theorem r_7e : retG 7 [] [] = [none, none, none, none, none, none, none] := rfl
theorem r_7z {d : D} : retG 7 [0] [d] = [some d, none, none, none, none, none, none] := rfl
theorem r_8e : retG 8 [] [] = [none, none, none, none, none, none, none, none] := rfl
theorem r_8z {d : D} : retG 8 [0] [d] = [some d, none, none, none, none, none, none, none] := rfl
theorem r_9e : retG 9 [] [] = [none, none, none, none, none, none, none, none, none] := rfl
theorem r_9z {d : D} : retG 9 [0] [d] = [some d, none, none, none, none, none, none, none, none] := rfl
theorem r_10e : retG 10 [] [] = [none, none, none, none, none, none, none, none, none, none] := rfl
theorem r_10z {d : D} : retG 10 [0] [d] = [some d, none, none, none, none, none, none, none, none, none] := rfl
theorem r_11e : retG 11 [] [] = [none, none, none, none, none, none, none, none, none, none, none] := rfl
theorem r_11z {d : D} : retG 11 [0] [d] = [some d, none, none, none, none, none, none, none, none, none, none] := rfl
end PI
namespace PI
open PySem
theorem so_eq {a b : String} : (Str.ofString a = Str.ofString b) ↔ a = b := by
  constructor
  · intro h
    rw [Str.ofString_eq_toList, Str.ofString_eq_toList] at h
    have h1 : a.toList.map Char.toNat = b.toList.map Char.toNat := by
      have := congrArg (fun z : Str => z.cps.toList) h
      simpa using this
    have inj : ∀ x y : Char, x.toNat = y.toNat → x = y := fun x y e => Char.ext (UInt32.toNat.inj e)
    have h2 : ∀ (l m : List Char), l.map Char.toNat = m.map Char.toNat → l = m := by
      intro l
      induction l with
      | nil => intro m e; cases m with
        | nil => rfl
        | cons y m => cases e
      | cons x l ih => intro m e; cases m with
        | nil => cases e
        | cons y m =>
          simp only [List.map_cons, List.cons.injEq] at e
          rw [inj x y e.1, ih m e.2]
    exact String.toList_inj.mp (h2 _ _ h1)
  · intro h; rw [h]
end PI

set_option Elab.async false
set_option linter.all false
set_option maxRecDepth 100000
set_option maxHeartbeats 1000000
namespace PI
open PySem PySem.Spec PyProof.Rows L2
open PySem.W (Frag)
/-! ### repr of a list of whole numbers -/
def reprI (ns : List Int) : Str := listText (ns.map fun i => Str.ofString (toString i))
theorem strOk_app {x y : Str} (h1 : PyData.strOk x = true) (h2 : PyData.strOk y = true) : PyData.strOk (x ++ y) = true := by
  unfold PyData.strOk at *
  show ((x.cps ++ y.cps).all fun c => decide (c < 0x110000)) = true
  rw [Array.all_append, h1, h2] <;> rfl
theorem strOk_of (s : String) : PyData.strOk (Str.ofString s) = true := by
  rw [Str.ofString_eq_toList]
  unfold PyData.strOk
  rw [List.all_toArray, List.all_eq_true]
  intro c hc
  obtain ⟨ch, _, rfl⟩ := List.mem_map.mp hc
  refine decide_eq_true ?_
  have := ch.valid
  have e : ch.toNat = ch.val.toNat := rfl
  rcases this with h | ⟨_, h⟩
  · rw [e]; exact Nat.lt_trans h (by decide)
  · rw [e]; exact h
theorem strOk_from : ∀ (ts : List Str) (k : Nat) (acc : Str), PyData.strOk acc = true → (∀ t ∈ ts, PyData.strOk t = true) → PyData.strOk (textFrom k acc ts) = true
  | [], k, acc, h, _ => h
  | t :: r, k, acc, h, ht => by
    refine strOk_from r (k + 1) _ (strOk_app (strOk_app h (strOk_of _)) (ht t (List.mem_cons_self ..))) fun u hu => ht u (List.mem_cons_of_mem _ hu)
theorem reprI_ok (ns : List Int) : PyData.strOk (reprI ns) = true := by
  refine strOk_app (strOk_from _ 0 _ (strOk_of _) fun t ht => ?_) (strOk_of _)
  obtain ⟨i, _, rfl⟩ := List.mem_map.mp ht
  exact strOk_of _
theorem pyAll_ints : ∀ ns : List Int, pyAll (ns.map .int) = some (ns.map .int)
  | [] => by simp [pyAll]
  | i :: ns => by simp [pyAll, pyOf, pyAll_ints ns]
theorem shownAll_ints : ∀ ns : List Int, PyData.shownAll (ns.map .int) = ns.map fun i => Str.ofString (toString i)
  | [] => by simp [PyData.shownAll]
  | i :: ns => by simp only [List.map_cons, PyData.shownAll, PyData.shown, shownAll_ints ns]
theorem showAll_ints : ∀ ns : List Int, (∀ i ∈ ns, i.natAbs.log2 < 1900) → PyData.showableAll (ns.map .int) = true ∧ PyData.hasDictAll (ns.map .int) = false
  | [], _ => by simp [PyData.showableAll, PyData.hasDictAll]
  | i :: ns, h => by
    have ih := showAll_ints ns fun j hj => h j (List.mem_cons_of_mem _ hj)
    have := h i (List.mem_cons_self ..)
    simp [PyData.showableAll, PyData.hasDictAll, PyData.showable, PyData.hasDict, ih.1, ih.2]
    omega
theorem sum_ints : ∀ ns : List Int, (∀ i ∈ ns, i.natAbs.log2 < 1900) → ((ns.map fun i => Str.ofString (toString i)).map (·.length)).sum ≤ 1921 * ns.length
  | [], _ => by simp
  | i :: ns, h => by
    have ih := sum_ints ns fun j hj => h j (List.mem_cons_of_mem _ hj)
    have := int_text_len_1921 (i := i) (Nat.lt_trans (h i (List.mem_cons_self ..)) (by decide))
    simp only [List.map_cons, List.sum_cons, List.length_cons] at ih ⊢
    omega
theorem depth_ints : ∀ ns : List Int, PyData.depthAll (ns.map .int) = 0
  | [] => by simp [PyData.depthAll]
  | i :: ns => by simp [PyData.depthAll, PyData.depth, depth_ints ns]
theorem reprA_ints {b : Bool} {ns : List Int} (h : ∀ i ∈ ns, i.natAbs.log2 < 1900) (hl : ns.length ≤ 400) : reprA [.lst b (ns.map .int)] = some (.str (reprI ns)) := by
  have e1 : pyOf (.lst b (ns.map .int)) = some (.list (ns.map .int)) := by simp [pyOf, pyAll_ints]
  show ((pyOf (.lst b (ns.map .int))).bind reprP).map D.str = _
  rw [e1, Option.bind_some]
  have e2 : (PyData.list (ns.map .int)).shown = reprI ns := by simp only [PyData.shown, shownAll_ints, reprI]
  have e3 : (reprI ns).length ≤ lim := by
    have := listText_len_le (ns.map fun i => Str.ofString (toString i))
    have := sum_ints ns h
    rw [List.length_map] at *
    unfold reprI lim
    omega
  have e4 := showAll_ints ns h
  have e5 : (PyData.list (ns.map .int)).showable = true := by simp only [PyData.showable]; exact e4.1
  have e6 : (PyData.list (ns.map .int)).hasDict = false := by simp only [PyData.hasDict]; exact e4.2
  have hd : (PyData.list (ns.map .int)).depth ≤ 40 := by simp [PyData.depth, depth_ints]
  unfold reprP
  rw [if_pos ⟨e5, e6, hd, by rw [e2]; exact e3⟩, e2] <;> rfl
end PI

set_option Elab.async false
set_option linter.all false
set_option maxRecDepth 100000
set_option maxHeartbeats 4000000
namespace A06
open PI PySem PySem.Spec PyProof.Rows L2
def m_Value_init : PF := (pBlk [(pFst [("Value", "sign")] "sign" 0 (pV 1)), (pFst [("Value", "first")] "first" 0 (pV 2)), (pFst [("Value", "second")] "second" 0 (pV 3))])
def f_Value_init : List D → Cr := runF [0] 0 m_Value_init
def m_number : PF := (pBlk [(pRet (pNew "Value" f_Value_init [0] [(.v (pC (.str "number"))), (.v (pV 0)), (.v (pC .non))] [.inl 0, .inl 1, .inl 2, .inl 3]))])
def f_number : List D → Cr := runF [] 0 m_number
def m_value_of : PF := (pBlk [(pRet (pIfE (pTr (.ex (pOp1 (fun d g => rb (isS [("Value", true)] d) g) (.nm 0)))) (pV 0) (pCall f_number [] [(.v (pV 0))] [.inl 0])))])
def f_value_of : List D → Cr := runF [] 0 m_value_of
def m_Value_and : PF := (pBlk [(pRet (pNew "Value" f_Value_init [0] [(.v (pC (.str "&"))), (.v (pV 0)), (.v (pCall f_value_of [] [(.v (pV 1))] [.inl 0]))] [.inl 0, .inl 1, .inl 2, .inl 3]))])
def f_Value_and : List D → Cr := runF [] 0 m_Value_and
def m_Value_rand : PF := (pBlk [(pRet (pNew "Value" f_Value_init [0] [(.v (pC (.str "&"))), (.v (pCall f_value_of [] [(.v (pV 1))] [.inl 0])), (.v (pV 0))] [.inl 0, .inl 1, .inl 2, .inl 3]))])
def f_Value_rand : List D → Cr := runF [] 0 m_Value_rand
def m_Value_rsub : PF := (pBlk [(pRet (pNew "Value" f_Value_init [0] [(.v (pC (.str "-"))), (.v (pCall f_value_of [] [(.v (pV 1))] [.inl 0])), (.v (pV 0))] [.inl 0, .inl 1, .inl 2, .inl 3]))])
def f_Value_rsub : List D → Cr := runF [] 0 m_Value_rsub
def m_Value_sub : PF := (pBlk [(pRet (pNew "Value" f_Value_init [0] [(.v (pC (.str "-"))), (.v (pV 0)), (.v (pCall f_value_of [] [(.v (pV 1))] [.inl 0]))] [.inl 0, .inl 1, .inl 2, .inl 3]))])
def f_Value_sub : List D → Cr := runF [] 0 m_Value_sub
def m_Value_less : PF := (pBlk [(pRet (pNew "Value" f_Value_init [0] [(.v (pC (.str "<"))), (.v (pV 0)), (.v (pCall f_value_of [] [(.v (pV 1))] [.inl 0]))] [.inl 0, .inl 1, .inl 2, .inl 3]))])
def f_Value_less : List D → Cr := runF [] 0 m_Value_less
def m_Value_same : PF := (pBlk [(pRet (pNew "Value" f_Value_init [0] [(.v (pC (.str "="))), (.v (pV 0)), (.v (pCall f_value_of [] [(.v (pV 1))] [.inl 0]))] [.inl 0, .inl 1, .inl 2, .inl 3]))])
def f_Value_same : List D → Cr := runF [] 0 m_Value_same
def m_Value_or : PF := (pBlk [(pRet (pNew "Value" f_Value_init [0] [(.v (pC (.str "|"))), (.v (pV 0)), (.v (pCall f_value_of [] [(.v (pV 1))] [.inl 0]))] [.inl 0, .inl 1, .inl 2, .inl 3]))])
def f_Value_or : List D → Cr := runF [] 0 m_Value_or
def m_Value_ror : PF := (pBlk [(pRet (pNew "Value" f_Value_init [0] [(.v (pC (.str "|"))), (.v (pCall f_value_of [] [(.v (pV 1))] [.inl 0])), (.v (pV 0))] [.inl 0, .inl 1, .inl 2, .inl 3]))])
def f_Value_ror : List D → Cr := runF [] 0 m_Value_ror
def m_parts_of : PF := (pBlk [(pIf (pTest (pOp2 (fun d e g => rb (cmpD .In d e) g) (.ex (pFld [("Value", "sign")] "sign" (.nm 0))) (.ex (pTup [(pC (.str "cell")), (pC (.str "passed")), (pC (.str "number"))])))) (pBlk [(pRet (pLst []))]) (pBlk [])), (pRet (pIfE (pTest (pOp2 (fun d e g => rb (cmpD .Eq d e) g) (.ex (pFld [("Value", "sign")] "sign" (.nm 0))) (.ex (pC (.str "~"))))) (pLst [(pFld [("Value", "first")] "first" (.nm 0))]) (pLst [(pFld [("Value", "first")] "first" (.nm 0)), (pFld [("Value", "second")] "second" (.nm 0))])))])
def f_parts_of : List D → Cr := runF [] 0 m_parts_of
def m_names_in (r_names_in : List D → Cr) : PF := (pBlk [(pSet 1 (pIfE (pTest (pOp2 (fun d e g => rb (cmpD .Eq d e) g) (.ex (pFld [("Value", "sign")] "sign" (.nm 0))) (.ex (pC (.str "cell"))))) (pLst [(pFld [("Value", "first")] "first" (.nm 0))]) (pLst []))), (pFor (pItV (pCall f_parts_of [] [(.v (pV 0))] [.inl 0])) (.nm 2) (pBlk [(pSet 1 (pOp2 (fun d e g => ro (binD .Add d e) g) (.nm 1) (.ex (pCall r_names_in [] [(.v (pV 2))] [.inl 0]))))])), (pRet (pV 1))])
def f_names_in : Nat → List D → Cr
  | 0 => fun _ => .bad
  | n + 1 => runF [] 2 (m_names_in (f_names_in n))
def m_Value_names : PF := (pBlk [(pRet (pOp1 (fun d g => ro (ssD d) g) (.ex (pCall (f_names_in 8) [] [(.v (pV 0))] [.inl 0]))))])
def f_Value_names : List D → Cr := runF [] 0 m_Value_names
def m_Value_add : PF := (pBlk [(pRet (pNew "Value" f_Value_init [0] [(.v (pC (.str "+"))), (.v (pV 0)), (.v (pCall f_value_of [] [(.v (pV 1))] [.inl 0]))] [.inl 0, .inl 1, .inl 2, .inl 3]))])
def f_Value_add : List D → Cr := runF [] 0 m_Value_add
def m_Value_eq (r_Value_eq : List D → Cr) : PF := (pBlk [(pIf (pOr (pNot (pTr (.ex (pOp1 (fun d g => rb (isS [("Value", true)] d) g) (.nm 1))))) (pTest (pOp2 (fun d e g => rb (cmpD .NotEq d e) g) (.ex (pFld [("Value", "sign")] "sign" (.nm 0))) (.ex (pFld [("Value", "sign")] "sign" (.nm 1)))))) (pBlk [(pRet (pC (.bl false)))]) (pBlk [])), (pRet (pAndV (pSl2 (eqS [⟨"Value", r_Value_eq, [], [.inl 0, .inl 1]⟩]) (pFld [("Value", "first")] "first" (.nm 0)) (pFld [("Value", "first")] "first" (.nm 1))) (pSl2 (eqS [⟨"Value", r_Value_eq, [], [.inl 0, .inl 1]⟩]) (pFld [("Value", "second")] "second" (.nm 0)) (pFld [("Value", "second")] "second" (.nm 1)))))])
def f_Value_eq : Nat → List D → Cr
  | 0 => fun _ => .bad
  | n + 1 => runF [] 0 (m_Value_eq (f_Value_eq n))
def m_check_divisor : PF := (pBlk [(pIf (pTest (pOp2 (fun d e g => rb (cmpD .Lt d e) g) (.nm 0) (.ex (pC (.int 1))))) (pBlk [(pRs "InvalidDivisor" (pV 0))]) (pBlk []))])
def f_check_divisor : List D → Cr := runF [] 0 m_check_divisor
def m_Value_floordiv : PF := (pBlk [(pDrop (pCall f_check_divisor [] [(.v (pV 1))] [.inl 0])), (pRet (pNew "Value" f_Value_init [0] [(.v (pC (.str "//"))), (.v (pV 0)), (.v (pCall f_number [] [(.v (pV 1))] [.inl 0]))] [.inl 0, .inl 1, .inl 2, .inl 3]))])
def f_Value_floordiv : List D → Cr := runF [] 0 m_Value_floordiv
def m_Value_mul : PF := (pBlk [(pRet (pNew "Value" f_Value_init [0] [(.v (pC (.str "*"))), (.v (pV 0)), (.v (pCall f_value_of [] [(.v (pV 1))] [.inl 0]))] [.inl 0, .inl 1, .inl 2, .inl 3]))])
def f_Value_mul : List D → Cr := runF [] 0 m_Value_mul
def m_Value_radd : PF := (pBlk [(pRet (pNew "Value" f_Value_init [0] [(.v (pC (.str "+"))), (.v (pCall f_value_of [] [(.v (pV 1))] [.inl 0])), (.v (pV 0))] [.inl 0, .inl 1, .inl 2, .inl 3]))])
def f_Value_radd : List D → Cr := runF [] 0 m_Value_radd
def m_Value_rmul : PF := (pBlk [(pRet (pNew "Value" f_Value_init [0] [(.v (pC (.str "*"))), (.v (pCall f_value_of [] [(.v (pV 1))] [.inl 0])), (.v (pV 0))] [.inl 0, .inl 1, .inl 2, .inl 3]))])
def f_Value_rmul : List D → Cr := runF [] 0 m_Value_rmul
def m_paired : PF := (pBlk [(pIf (pTest (pOp2 (fun d e g => rb (cmpD .Eq d e) g) (.nm 0) (.ex (pC (.str "+"))))) (pBlk [(pRet (pSl2 (binS .Add [⟨"Value", f_Value_add, [], [.inl 0, .inl 1]⟩] [⟨"Value", f_Value_radd, [], [.inl 0, .inl 1]⟩]) (pV 1) (pV 2)))]) (pBlk [])), (pIf (pTest (pOp2 (fun d e g => rb (cmpD .Eq d e) g) (.nm 0) (.ex (pC (.str "-"))))) (pBlk [(pRet (pSl2 (binS .Sub [⟨"Value", f_Value_sub, [], [.inl 0, .inl 1]⟩] [⟨"Value", f_Value_rsub, [], [.inl 0, .inl 1]⟩]) (pV 1) (pV 2)))]) (pBlk [])), (pIf (pTest (pOp2 (fun d e g => rb (cmpD .Eq d e) g) (.nm 0) (.ex (pC (.str "*"))))) (pBlk [(pRet (pSl2 (binS .Mult [⟨"Value", f_Value_mul, [], [.inl 0, .inl 1]⟩] [⟨"Value", f_Value_rmul, [], [.inl 0, .inl 1]⟩]) (pV 1) (pV 2)))]) (pBlk [])), (pIf (pTest (pOp2 (fun d e g => rb (cmpD .Eq d e) g) (.nm 0) (.ex (pC (.str "//"))))) (pBlk [(pRet (pSl2 (binS .FloorDiv [⟨"Value", f_Value_floordiv, [], [.inl 0, .inl 1]⟩] []) (pV 1) (pV 2)))]) (pBlk [])), (pIf (pTest (pOp2 (fun d e g => rb (cmpD .Eq d e) g) (.nm 0) (.ex (pC (.str "mod"))))) (pBlk [(pRet (pOp2 (fun d e g => ro (binD .Mod d e) g) (.ex (pOps (fun ds g => ro (intD ds) g) [(.nm 1)])) (.nm 2)))]) (pBlk [])), (pIf (pTest (pOp2 (fun d e g => rb (cmpD .Eq d e) g) (.nm 0) (.ex (pC (.str "&"))))) (pBlk [(pRet (pOps (fun ds g => ro (intD ds) g) [(.ex (pAndV (pOp2 (fun d e g => rb (cmpD .NotEq d e) g) (.nm 1) (.ex (pC (.int 0)))) (pOp2 (fun d e g => rb (cmpD .NotEq d e) g) (.nm 2) (.ex (pC (.int 0))))))]))]) (pBlk [])), (pIf (pTest (pOp2 (fun d e g => rb (cmpD .Eq d e) g) (.nm 0) (.ex (pC (.str "|"))))) (pBlk [(pRet (pOps (fun ds g => ro (intD ds) g) [(.ex (pOrV (pOp2 (fun d e g => rb (cmpD .NotEq d e) g) (.nm 1) (.ex (pC (.int 0)))) (pOp2 (fun d e g => rb (cmpD .NotEq d e) g) (.nm 2) (.ex (pC (.int 0))))))]))]) (pBlk [])), (pRet (pIfE (pTest (pOp2 (fun d e g => rb (cmpD .Eq d e) g) (.nm 0) (.ex (pC (.str "="))))) (pOps (fun ds g => ro (intD ds) g) [(.ex (pSl2 (eqS [⟨"Value", (f_Value_eq 8), [], [.inl 0, .inl 1]⟩]) (pV 1) (pV 2)))]) (pOps (fun ds g => ro (intD ds) g) [(.ex (pOp2 (fun d e g => rb (cmpD .Lt d e) g) (.nm 1) (.nm 2)))])))])
def f_paired : List D → Cr := runF [] 0 m_paired
def m_worth_of (r_worth_of : List D → Cr) : PF := (pBlk [(pIf (pTest (pOp2 (fun d e g => rb (cmpD .Eq d e) g) (.ex (pFld [("Value", "sign")] "sign" (.nm 0))) (.ex (pC (.str "cell"))))) (pBlk [(pRet (pOp2 (fun d e g => ro (ixD d e) g) (.nm 1) (.ex (pFld [("Value", "first")] "first" (.nm 0)))))]) (pBlk [])), (pIf (pTest (pOp2 (fun d e g => rb (cmpD .Eq d e) g) (.ex (pFld [("Value", "sign")] "sign" (.nm 0))) (.ex (pC (.str "passed"))))) (pBlk [(pRet (pV 2))]) (pBlk [])), (pIf (pTest (pOp2 (fun d e g => rb (cmpD .Eq d e) g) (.ex (pFld [("Value", "sign")] "sign" (.nm 0))) (.ex (pC (.str "number"))))) (pBlk [(pRet (pFld [("Value", "first")] "first" (.nm 0)))]) (pBlk [])), (pSet 3 (pCall r_worth_of [] [(.v (pFld [("Value", "first")] "first" (.nm 0))), (.v (pV 1)), (.v (pV 2))] [.inl 0, .inl 1, .inl 2])), (pIf (pTest (pOp2 (fun d e g => rb (cmpD .Eq d e) g) (.ex (pFld [("Value", "sign")] "sign" (.nm 0))) (.ex (pC (.str "~"))))) (pBlk [(pRet (pOps (fun ds g => ro (intD ds) g) [(.ex (pOp2 (fun d e g => rb (cmpD .Eq d e) g) (.nm 3) (.ex (pC (.int 0)))))]))]) (pBlk [])), (pRet (pCall f_paired [] [(.v (pFld [("Value", "sign")] "sign" (.nm 0))), (.v (pV 3)), (.v (pCall r_worth_of [] [(.v (pFld [("Value", "second")] "second" (.nm 0))), (.v (pV 1)), (.v (pV 2))] [.inl 0, .inl 1, .inl 2]))] [.inl 0, .inl 1, .inl 2]))])
def f_worth_of : Nat → List D → Cr
  | 0 => fun _ => .bad
  | n + 1 => runF [] 1 (m_worth_of (f_worth_of n))
def m_Value_at : PF := (pBlk [(pFor (pItV (pSl1 (propS [⟨"Value", f_Value_names, [], [.inl 0]⟩]) (pV 0))) (.nm 3) (pBlk [(pIf (pTest (pOp2 (fun d e g => rb (cmpD .NotIn d e) g) (.nm 3) (.nm 1))) (pBlk [(pRs "UnknownName" (pV 3))]) (pBlk []))])), (pRet (pCall (f_worth_of 8) [] [(.v (pV 0)), (.v (pV 1)), (.v (pV 2))] [.inl 0, .inl 1, .inl 2]))])
def f_Value_at : List D → Cr := runF [] 1 m_Value_at
def m_law_beside : PF := (pBlk [(pSet 5 (pLst [(pSl2 (binS .BitAnd [⟨"Value", f_Value_and, [], [.inl 0, .inl 1]⟩] [⟨"Value", f_Value_rand, [], [.inl 0, .inl 1]⟩]) (pV 2) (pV 1)), (pSl2 (binS .BitAnd [⟨"Value", f_Value_and, [], [.inl 0, .inl 1]⟩] [⟨"Value", f_Value_rand, [], [.inl 0, .inl 1]⟩]) (pV 1) (pV 2)), (pSl2 (binS .BitOr [⟨"Value", f_Value_or, [], [.inl 0, .inl 1]⟩] [⟨"Value", f_Value_ror, [], [.inl 0, .inl 1]⟩]) (pV 2) (pV 1)), (pSl2 (binS .BitOr [⟨"Value", f_Value_or, [], [.inl 0, .inl 1]⟩] [⟨"Value", f_Value_ror, [], [.inl 0, .inl 1]⟩]) (pV 1) (pV 2)), (pMeth "same" [⟨"Value", f_Value_same, [], [.inl 0, .inl 1]⟩] (.v (pV 2)) [(.v (pV 1))])])), (pSet 5 (pOp2 (fun d e g => ro (binD .Add d e) g) (.nm 5) (.ex (pLst [(pMeth "less" [⟨"Value", f_Value_less, [], [.inl 0, .inl 1]⟩] (.v (pV 2)) [(.v (pV 1))]), (pMeth "same" [⟨"Value", f_Value_same, [], [.inl 0, .inl 1]⟩] (.v (pV 2)) [(.v (pV 1))]), (pMeth "less" [⟨"Value", f_Value_less, [], [.inl 0, .inl 1]⟩] (.v (pV 2)) [(.v (pV 1))])])))), (pPar [6, 7] [(.r (.ex (pAndV (pOp2 (fun d e g => rb (cmpD .NotEq d e) g) (.nm 0) (.ex (pC (.int 0)))) (pOp2 (fun d e g => rb (cmpD .NotEq d e) g) (.nm 1) (.ex (pC (.int 0))))))), (.r (.ex (pOrV (pOp2 (fun d e g => rb (cmpD .NotEq d e) g) (.nm 0) (.ex (pC (.int 0)))) (pOp2 (fun d e g => rb (cmpD .NotEq d e) g) (.nm 1) (.ex (pC (.int 0)))))))]), (pSet 8 (pLst [(pV 6), (pV 6), (pV 7), (pV 7), (pOp2 (fun d e g => rb (cmpD .Eq d e) g) (.nm 0) (.nm 1)), (pOp2 (fun d e g => rb (cmpD .Lt d e) g) (.nm 0) (.nm 1)), (pOp2 (fun d e g => rb (cmpD .Eq d e) g) (.nm 0) (.nm 1)), (pOp2 (fun d e g => rb (cmpD .Lt d e) g) (.nm 0) (.nm 1))])), (pRet (pOp2 (fun d e g => rb (cmpD .Eq d e) g) (.ex (pOps (fun ds g => ro (reprA ds) g) [(.ex (pLc (pItV (pV 5)) (.nm 9) pYes (pMeth "at" [⟨"Value", f_Value_at, [], [.inl 0, .inl 1, .inl 2]⟩] (.v (pV 9)) [(.v (pV 3)), (.v (pV 4))]) [9]))])) (.ex (pOps (fun ds g => ro (reprA ds) g) [(.ex (pLc (pItV (pV 8)) (.nm 9) pYes (pOps (fun ds g => ro (intD ds) g) [(.nm 9)]) [9]))]))))])
def f_law_beside : List D → Cr := runF [] 5 m_law_beside
def m_law_take : PF := (pBlk [(pIf (pTest (pOp2 (fun d e g => rb (cmpD .Gt d e) g) (.ex (pOp2 (fun d e g => ro (ixD d e) g) (.nm 0) (.ex (pC (.int 0))))) (.ex (pC (.int 0))))) (pBlk [(pSet 3 (pOp2 (fun d e g => ro (binD .Mod d e) g) (.ex (pOps (fun ds g => ro (intD ds) g) [(.ex (pOp2 (fun d e g => ro (ixD d e) g) (.nm 0) (.ex (pC (.int 0)))))])) (.nm 1))), (pPut 0 (.ex (pC (.int 0))) (pOp2 (fun d e g => ro (binD .FloorDiv d e) g) (.ex (pOp2 (fun d e g => ro (ixD d e) g) (.nm 0) (.ex (pC (.int 0))))) (.nm 1))), (pRet (pV 3))]) (pBlk [])), (pPut 0 (.ex (pC (.int 2))) (pOp2 (fun d e g => ro (binD .Add d e) g) (.ex (pOp2 (fun d e g => ro (ixD d e) g) (.nm 0) (.ex (pC (.int 2))))) (.ex (pC (.int 1))))), (pSet 2 (pOp2 (fun d e g => ro (binD .Add d e) g) (.ex (pOp2 (fun d e g => ro (binD .Pow d e) g) (.ex (pOp2 (fun d e g => ro (binD .Add d e) g) (.ex (pOp2 (fun d e g => ro (ixD d e) g) (.nm 0) (.ex (pC (.int 1))))) (.ex (pOp2 (fun d e g => ro (binD .Mult d e) g) (.ex (pC (.int 6700417))) (.ex (pOp2 (fun d e g => ro (ixD d e) g) (.nm 0) (.ex (pC (.int 2))))))))) (.ex (pC (.int 3))))) (.ex (pOp2 (fun d e g => ro (binD .Mult d e) g) (.ex (pC (.int 97))) (.ex (pOp2 (fun d e g => ro (ixD d e) g) (.nm 0) (.ex (pC (.int 2))))))))), (pSet 2 (pOp2 (fun d e g => ro (binD .Add d e) g) (.ex (pOp2 (fun d e g => ro (binD .Mod d e) g) (.ex (pOps (fun ds g => ro (intD ds) g) [(.nm 2)])) (.ex (pC (.int 2305843009213693951))))) (.ex (pOp2 (fun d e g => ro (binD .Mult d e) g) (.ex (pC (.int 2971215073))) (.ex (pOp2 (fun d e g => ro (ixD d e) g) (.nm 0) (.ex (pC (.int 2))))))))), (pSet 2 (pOp2 (fun d e g => ro (binD .Mod d e) g) (.ex (pOps (fun ds g => ro (intD ds) g) [(.ex (pOp2 (fun d e g => ro (binD .Pow d e) g) (.nm 2) (.ex (pC (.int 3)))))])) (.ex (pC (.int 618970019642690137449562111))))), (pRet (pOp2 (fun d e g => ro (binD .Mod d e) g) (.ex (pOps (fun ds g => ro (intD ds) g) [(.ex (pOp2 (fun d e g => ro (binD .FloorDiv d e) g) (.nm 2) (.ex (pC (.int 131072)))))])) (.nm 1)))])
def f_law_take : List D → Cr := runF [0] 2 m_law_take
def m_law_number : PF := (pBlk [(pSet 1 (pCall f_law_take [0] [(.r (.nm 0)), (.v (pC (.int 4)))] [.inl 0, .inl 1])), (pSet 2 (pCall f_law_take [0] [(.r (.nm 0)), (.v (pOp2 (fun d e g => ro (ixD d e) g) (.ex (pLst [(pC (.int 13)), (pC (.int 60)), (pC (.int 1000)), (pOp2 (fun d e g => ro (binD .Pow d e) g) (.ex (pC (.int 10))) (.ex (pC (.int 15))))])) (.nm 1)))] [.inl 0, .inl 1])), (pIf (pTest (pOp2 (fun d e g => rb (cmpD .Eq d e) g) (.nm 1) (.ex (pC (.int 3))))) (pBlk [(pSet 2 (pOp2 (fun d e g => ro (binD .Add d e) g) (.ex (pOp2 (fun d e g => ro (binD .Mult d e) g) (.nm 2) (.ex (pOp2 (fun d e g => ro (binD .Pow d e) g) (.ex (pC (.int 10))) (.ex (pC (.int 15))))))) (.ex (pCall f_law_take [0] [(.r (.nm 0)), (.v (pOp2 (fun d e g => ro (binD .Pow d e) g) (.ex (pC (.int 10))) (.ex (pC (.int 15)))))] [.inl 0, .inl 1]))))]) (pBlk [])), (pRet (pOp2 (fun d e g => ro (binD .Mult d e) g) (.nm 2) (.ex (pOp2 (fun d e g => ro (binD .Sub d e) g) (.ex (pC (.int 1))) (.ex (pOp2 (fun d e g => ro (binD .Mult d e) g) (.ex (pC (.int 2))) (.ex (pCall f_law_take [0] [(.r (.nm 0)), (.v (pC (.int 2)))] [.inl 0, .inl 1]))))))))])
def f_law_number : List D → Cr := runF [0] 2 m_law_number
def m_law_near : PF := (pBlk [(pSet 2 (pLst [(pV 1), (pOp2 (fun d e g => ro (binD .Add d e) g) (.nm 1) (.ex (pC (.int 1)))), (pOp2 (fun d e g => ro (binD .Sub d e) g) (.nm 1) (.ex (pC (.int 1)))), (pC (.int 0)), (pOp1 (fun d g => ro (negD d) g) (.nm 1)), (pOp2 (fun d e g => ro (binD .Sub d e) g) (.ex (pOp2 (fun d e g => ro (binD .Mod d e) g) (.ex (pOps (fun ds g => ro (intD ds) g) [(.ex (pCall f_law_number [0] [(.r (.nm 0))] [.inl 0]))])) (.ex (pOp2 (fun d e g => ro (binD .Mult d e) g) (.ex (pC (.int 2))) (.ex (pOp2 (fun d e g => ro (binD .Pow d e) g) (.ex (pC (.int 10))) (.ex (pC (.int 15))))))))) (.ex (pOp2 (fun d e g => ro (binD .Pow d e) g) (.ex (pC (.int 10))) (.ex (pC (.int 15))))))])), (pRet (pOp2 (fun d e g => ro (ixD d e) g) (.nm 2) (.ex (pCall f_law_take [0] [(.r (.nm 0)), (.v (pC (.int 6)))] [.inl 0, .inl 1]))))])
def f_law_near : List D → Cr := runF [0] 1 m_law_near
def m_Value_invert : PF := (pBlk [(pRet (pNew "Value" f_Value_init [0] [(.v (pC (.str "~"))), (.v (pV 0)), (.v (pC .non))] [.inl 0, .inl 1, .inl 2, .inl 3]))])
def f_Value_invert : List D → Cr := runF [] 0 m_Value_invert
def m_law_two : PF := (pBlk [(pSet 6 (pLst [(pSl2 (binS .BitAnd [⟨"Value", f_Value_and, [], [.inl 0, .inl 1]⟩] [⟨"Value", f_Value_rand, [], [.inl 0, .inl 1]⟩]) (pV 2) (pV 3)), (pSl2 (binS .BitOr [⟨"Value", f_Value_or, [], [.inl 0, .inl 1]⟩] [⟨"Value", f_Value_ror, [], [.inl 0, .inl 1]⟩]) (pV 2) (pV 3)), (pMeth "same" [⟨"Value", f_Value_same, [], [.inl 0, .inl 1]⟩] (.v (pV 2)) [(.v (pV 3))]), (pMeth "less" [⟨"Value", f_Value_less, [], [.inl 0, .inl 1]⟩] (.v (pV 2)) [(.v (pV 3))]), (pSl1 (invS [⟨"Value", f_Value_invert, [], [.inl 0]⟩]) (pV 2)), (pSl1 (invS [⟨"Value", f_Value_invert, [], [.inl 0]⟩]) (pV 3)), (pSl1 (invS [⟨"Value", f_Value_invert, [], [.inl 0]⟩]) (pSl1 (invS [⟨"Value", f_Value_invert, [], [.inl 0]⟩]) (pV 2)))])), (pSet 7 (pLst [(pAndV (pOp2 (fun d e g => rb (cmpD .NotEq d e) g) (.nm 0) (.ex (pC (.int 0)))) (pOp2 (fun d e g => rb (cmpD .NotEq d e) g) (.nm 1) (.ex (pC (.int 0))))), (pOrV (pOp2 (fun d e g => rb (cmpD .NotEq d e) g) (.nm 0) (.ex (pC (.int 0)))) (pOp2 (fun d e g => rb (cmpD .NotEq d e) g) (.nm 1) (.ex (pC (.int 0))))), (pSl2 (eqS [⟨"Value", (f_Value_eq 8), [], [.inl 0, .inl 1]⟩]) (pV 0) (pV 1)), (pOp2 (fun d e g => rb (cmpD .Lt d e) g) (.nm 0) (.nm 1)), (pOp2 (fun d e g => rb (cmpD .Eq d e) g) (.nm 0) (.ex (pC (.int 0)))), (pOp2 (fun d e g => rb (cmpD .Eq d e) g) (.nm 1) (.ex (pC (.int 0)))), (pOp2 (fun d e g => rb (cmpD .NotEq d e) g) (.nm 0) (.ex (pC (.int 0))))])), (pRet (pOp2 (fun d e g => rb (cmpD .Eq d e) g) (.ex (pOps (fun ds g => ro (reprA ds) g) [(.ex (pLc (pItV (pV 6)) (.nm 8) pYes (pMeth "at" [⟨"Value", f_Value_at, [], [.inl 0, .inl 1, .inl 2]⟩] (.v (pV 8)) [(.v (pV 4)), (.v (pV 5))]) [8]))])) (.ex (pOps (fun ds g => ro (reprA ds) g) [(.ex (pLc (pItV (pV 7)) (.nm 8) pYes (pOps (fun ds g => ro (intD ds) g) [(.nm 8)]) [8]))]))))])
def f_law_two : List D → Cr := runF [] 3 m_law_two
def m_is_name : PF := (pBlk [(pRet (pAndV (pCh .LtE .LtE (.ex (pC (.int 1))) (.ex (pOps (fun ds g => ro (lenD ds) g) [(.nm 0)])) (.ex (pC (.int 8)))) (pOps (fun ds g => ro (allD ds) g) [(.ex (pLc (pItV (pV 0)) (.nm 1) pYes (pOp2 (fun d e g => rb (cmpD .In d e) g) (.nm 1) (.ex (pC (.str "abcdefghijklmnopqrstuvwxyz")))) [1]))])))])
def f_is_name : List D → Cr := runF [] 1 m_is_name
def m_check_name : PF := (pBlk [(pIf (pNot (pTr (.ex (pCall f_is_name [] [(.v (pV 0))] [.inl 0])))) (pBlk [(pRs "InvalidName" (pV 0))]) (pBlk []))])
def f_check_name : List D → Cr := runF [] 0 m_check_name
def m_cell : PF := (pBlk [(pDrop (pCall f_check_name [] [(.v (pV 0))] [.inl 0])), (pRet (pNew "Value" f_Value_init [0] [(.v (pC (.str "cell"))), (.v (pV 0)), (.v (pC .non))] [.inl 0, .inl 1, .inl 2, .inl 3]))])
def f_cell : List D → Cr := runF [] 0 m_cell
def m_passed : PF := (pBlk [(pRet (pNew "Value" f_Value_init [0] [(.v (pC (.str "passed"))), (.v (pC .non)), (.v (pC .non))] [.inl 0, .inl 1, .inl 2, .inl 3]))])
def f_passed : List D → Cr := runF [] 0 m_passed
def m_law_fits : PF := (pBlk [(pSet 1 (pOp2 (fun d e g => ro (ixD d e) g) (.ex (pLst [(pOp2 (fun d e g => ro (binD .Sub d e) g) (.ex (pCall f_law_take [0] [(.r (.nm 0)), (.v (pC (.int 5)))] [.inl 0, .inl 1])) (.ex (pC (.int 2)))), (pOp2 (fun d e g => ro (binD .Sub d e) g) (.ex (pOp2 (fun d e g => ro (binD .Mod d e) g) (.ex (pOps (fun ds g => ro (intD ds) g) [(.ex (pCall f_law_number [0] [(.r (.nm 0))] [.inl 0]))])) (.ex (pOp2 (fun d e g => ro (binD .Mult d e) g) (.ex (pC (.int 2))) (.ex (pOp2 (fun d e g => ro (binD .Pow d e) g) (.ex (pC (.int 10))) (.ex (pC (.int 15))))))))) (.ex (pOp2 (fun d e g => ro (binD .Pow d e) g) (.ex (pC (.int 10))) (.ex (pC (.int 15))))))])) (.ex (pCall f_law_take [0] [(.r (.nm 0)), (.v (pC (.int 2)))] [.inl 0, .inl 1])))), (pPar [2, 3] [(.r (.ex (pCall f_law_near [0] [(.r (.nm 0)), (.v (pV 1))] [.inl 0, .inl 1]))), (.r (.ex (pCall f_law_near [0] [(.r (.nm 0)), (.v (pV 1))] [.inl 0, .inl 1])))]), (pPar [4, 5] [(.r (.ex (pDic [((.inr "x"), (pV 1)), ((.inr "y"), (pV 2))]))), (.r (.ex (pOp2 (fun d e g => ro (binD .Sub d e) g) (.ex (pCall f_law_take [0] [(.r (.nm 0)), (.v (pC (.int 21)))] [.inl 0, .inl 1])) (.ex (pC (.int 10))))))]), (pPar [6, 7] [(.r (.ex (pCall f_cell [] [(.v (pC (.str "x")))] [.inl 0]))), (.r (.ex (pCall f_cell [] [(.v (pC (.str "y")))] [.inl 0])))]), (pFor (pItV (pLst [(pTup [(pV 6), (pV 7), (pV 1), (pV 2)]), (pTup [(pV 7), (pCall f_passed [] [] []), (pV 2), (pV 3)]), (pTup [(pCall f_passed [] [] []), (pV 6), (pV 3), (pV 1)])])) (.tp [8, 9, 10, 11]) (pBlk [(pIf (pNot (pTr (.ex (pCall f_law_two [] [(.v (pV 10)), (.v (pV 11)), (.v (pV 8)), (.v (pV 9)), (.v (pV 4)), (.v (pV 3))] [.inl 0, .inl 1, .inl 2, .inl 3, .inl 4, .inl 5])))) (pBlk [(pRet (pC (.bl false)))]) (pBlk []))])), (pSet 12 (pOps (fun ds g => ro (maxD ds) g) [(.ex (pOp1 (fun d g => ro (negD d) g) (.ex (pC (.int 1000))))), (.ex (pOps (fun ds g => ro (minD ds) g) [(.ex (pC (.int 1000))), (.nm 1)]))])), (pFor (pItV (pLst [(pV 5), (pC (.int 0)), (pV 12), (pOps (fun ds g => ro (maxD ds) g) [(.ex (pOp1 (fun d g => ro (negD d) g) (.ex (pC (.int 1000))))), (.ex (pOp2 (fun d e g => ro (binD .Sub d e) g) (.nm 12) (.ex (pC (.int 1)))))]), (pOps (fun ds g => ro (minD ds) g) [(.ex (pC (.int 1000))), (.ex (pOp2 (fun d e g => ro (binD .Add d e) g) (.nm 12) (.ex (pC (.int 1)))))])])) (.nm 13) (pBlk [(pIf (pNot (pTr (.ex (pCall f_law_beside [] [(.v (pV 1)), (.v (pV 13)), (.v (pV 6)), (.v (pV 4)), (.v (pV 3))] [.inl 0, .inl 1, .inl 2, .inl 3, .inl 4])))) (pBlk [(pRet (pC (.bl false)))]) (pBlk [])), (pIf (pNot (pTr (.ex (pCall f_law_beside [] [(.v (pV 3)), (.v (pV 13)), (.v (pCall f_passed [] [] [])), (.v (pV 4)), (.v (pV 3))] [.inl 0, .inl 1, .inl 2, .inl 3, .inl 4])))) (pBlk [(pRet (pC (.bl false)))]) (pBlk [])), (pIf (pNot (pTr (.ex (pCall f_law_two [] [(.v (pV 1)), (.v (pV 13)), (.v (pV 6)), (.v (pCall f_number [] [(.v (pV 13))] [.inl 0])), (.v (pV 4)), (.v (pV 3))] [.inl 0, .inl 1, .inl 2, .inl 3, .inl 4, .inl 5])))) (pBlk [(pRet (pC (.bl false)))]) (pBlk []))])), (pIf (pNot (pTr (.ex (pCall f_law_two [] [(.v (pOps (fun ds g => ro (intD ds) g) [(.ex (pOp2 (fun d e g => rb (cmpD .Lt d e) g) (.nm 1) (.nm 2)))])), (.v (pOps (fun ds g => ro (intD ds) g) [(.ex (pOp2 (fun d e g => rb (cmpD .Eq d e) g) (.nm 2) (.nm 3)))])), (.v (pMeth "less" [⟨"Value", f_Value_less, [], [.inl 0, .inl 1]⟩] (.v (pV 6)) [(.v (pV 7))])), (.v (pMeth "same" [⟨"Value", f_Value_same, [], [.inl 0, .inl 1]⟩] (.v (pV 7)) [(.v (pCall f_passed [] [] []))])), (.v (pV 4)), (.v (pV 3))] [.inl 0, .inl 1, .inl 2, .inl 3, .inl 4, .inl 5])))) (pBlk [(pRet (pC (.bl false)))]) (pBlk [])), (pRet (pCall f_law_two [] [(.v (pOps (fun ds g => ro (intD ds) g) [(.ex (pAndV (pOp2 (fun d e g => rb (cmpD .NotEq d e) g) (.nm 1) (.ex (pC (.int 0)))) (pOp2 (fun d e g => rb (cmpD .NotEq d e) g) (.nm 2) (.ex (pC (.int 0))))))])), (.v (pOp2 (fun d e g => ro (binD .Sub d e) g) (.nm 1) (.nm 2))), (.v (pSl2 (binS .BitAnd [⟨"Value", f_Value_and, [], [.inl 0, .inl 1]⟩] [⟨"Value", f_Value_rand, [], [.inl 0, .inl 1]⟩]) (pV 6) (pV 7))), (.v (pSl2 (binS .Sub [⟨"Value", f_Value_sub, [], [.inl 0, .inl 1]⟩] [⟨"Value", f_Value_rsub, [], [.inl 0, .inl 1]⟩]) (pV 6) (pV 7))), (.v (pV 4)), (.v (pV 3))] [.inl 0, .inl 1, .inl 2, .inl 3, .inl 4, .inl 5]))])
def f_law_fits : List D → Cr := runF [0] 13 m_law_fits
def m_law_well : PF := (pBlk [(pSet 2 (pC (.int 0))), (pIf (pTest (pOp2 (fun d e g => rb (cmpD .Lt d e) g) (.nm 1) (.ex (pOps (fun ds g => ro (lenD ds) g) [(.nm 0)])))) (pBlk [(pSet 2 (pOp2 (fun d e g => ro (ixD d e) g) (.nm 0) (.nm 1)))]) (pBlk [])), (pSet 3 (pOp2 (fun d e g => ro (binD .Mod d e) g) (.ex (pOps (fun ds g => ro (intD ds) g) [(.ex (pOp2 (fun d e g => ro (binD .Add d e) g) (.ex (pOp2 (fun d e g => ro (binD .Mult d e) g) (.ex (pOps (fun ds g => ro (absD ds) g) [(.nm 2)])) (.ex (pC (.int 2))))) (.ex (pOps (fun ds g => ro (intD ds) g) [(.ex (pOp2 (fun d e g => rb (cmpD .Lt d e) g) (.nm 2) (.ex (pC (.int 0)))))]))))])) (.ex (pC (.int 2305843009213693951))))), (pRet (pLst [(pOp2 (fun d e g => ro (binD .Mult d e) g) (.nm 2) (.ex (pOps (fun ds g => ro (intD ds) g) [(.ex (pOp2 (fun d e g => rb (cmpD .GtE d e) g) (.nm 2) (.ex (pOp2 (fun d e g => ro (binD .Pow d e) g) (.ex (pC (.int 10))) (.ex (pC (.int 18)))))))]))), (pOp2 (fun d e g => ro (binD .Add d e) g) (.nm 3) (.ex (pOp2 (fun d e g => ro (binD .Mult d e) g) (.ex (pC (.int 1000003))) (.nm 1)))), (pC (.int 0))]))])
def f_law_well : List D → Cr := runF [] 2 m_law_well
def m_law : PF := (pBlk [(pFor (pRng [(.ex (pOps (fun ds g => ro (maxD ds) g) [(.ex (pC (.int 1))), (.ex (pOps (fun ds g => ro (minD ds) g) [(.ex (pC (.int 24))), (.ex (pOps (fun ds g => ro (lenD ds) g) [(.nm 0)]))]))]))]) (.nm 1) (pBlk [(pSet 2 (pCall f_law_well [] [(.v (pV 0)), (.v (pV 1))] [.inl 0, .inl 1])), (pFor (pRng [(.ex (pC (.int 2)))]) (.nm 3) (pBlk [(pIf (pNot (pTr (.ex (pCall f_law_fits [0] [(.r (.nm 2))] [.inl 0])))) (pBlk [(pRet (pC (.bl false)))]) (pBlk []))]))])), (pRet (pC (.bl true)))])
def f_law : List D → Cr := runF [] 3 m_law
end A06

set_option linter.all false
set_option maxRecDepth 100000
set_option maxHeartbeats 1000000
namespace A06
open PI PySem
theorem take_ok (a b c m : Int) (ha : 0 ≤ a) (hb : 0 ≤ b) (hb2 : b < 2^62) (hc : 0 ≤ c) (hc2 : c < 2^20) (hm : 0 < m) (hm2 : m < 2^80) : ∃ t a' c', f_law_take [.lst true [.int a, .int b, .int c], .int m] = .ok (.int t) [.lst true [.int a', .int b, .int c']] ∧ 0 ≤ t ∧ t < m ∧ 0 ≤ a' ∧ c ≤ c' ∧ c' ≤ c+1 := by
  have e1 : mulOk 6700417 c = true := mulOk_l (by decide) (by decide)
  have e2 : mulOk 6700417 (c + 1) = true := mulOk_l (by decide) (by decide)
  have e3 : mulOk 97 (c + 1) = true := mulOk_l (by decide) (by decide)
  have e4 : mulOk 2971215073 (c + 1) = true := mulOk_l (by decide) (by decide)
  have e5 : powOk (b + 6700417 * (c + 1)) 3 = true := powOk_s (by omega) (by omega) (by decide) (by decide)
  have e6 : powOk (((b + 6700417 * (c + 1)) ^ 3 + 97 * (c + 1)) % 2305843009213693951 + 2971215073 * (c + 1)) 3 = true := by
    have := Int.emod_nonneg ((b + 6700417 * (c + 1)) ^ 3 + 97 * (c + 1)) (b := 2305843009213693951) (by decide)
    have := Int.emod_lt_of_pos ((b + 6700417 * (c + 1)) ^ 3 + 97 * (c + 1)) (b := 2305843009213693951) (by decide)
    exact powOk_s (by omega) (by omega) (by decide) (by decide)
  have e7 : m.natAbs.log2 < 9000 := Nat.lt_trans (log_lt hm hm2) (by decide)
  by_cases h : 0 < a
  · refine ⟨a % m, a / m, c, ?_, Int.emod_nonneg _ (by omega), Int.emod_lt_of_pos _ hm, Int.ediv_nonneg ha (by omega), Int.le_refl _, by omega⟩
    unfold f_law_take m_law_take
    simp [q_blkc, q_blk0, q_setc, q_set0, q_retc, q_ret0, q_dropc, q_drop0, q_ifc, q_if0, q_ifec, q_ife0, q_testc, q_test0, q_notc, q_not0, q_andc, q_and0, q_orc, q_or0, q_andvc, q_andv0, q_orvc, q_orv0, q_trc, q_tr0, q_op1c, q_op10, q_op2c, q_op20, q_opsc, q_ops0, q_evnmc, q_evnm0, q_evexc, q_evex0, q_evos0c, q_evos00, q_evoscc, q_evosc0, q_eva0c, q_eva00, q_evavc, q_evav0, q_evarc, q_evar0, q_callc, q_call0, q_newc, q_new0, q_methc, q_meth0, q_parc, q_par0, q_all0c, q_all00, q_allcc, q_allc0, q_tupc, q_tup0, q_lstc, q_lst0, q_sl2c, q_sl20, q_sl1c, q_sl10, q_putc, q_put0, q_fstc, q_fst0, PI.q_forc, q_for0, q_itvc, q_itv0, q_rngc, q_rng0, q_itac, q_ita0, q_lcc, q_lc0, q_dicc, q_dic0, q_evk0c, q_evk00, q_evkcc, q_evkc0, q_rsc, q_rs0, q_yesc, q_yes0, q_chc, q_ch0, q_nxc, q_nx0, q_retnc, q_retn0, q_setTc, q_setT0, k_ro, k_rb, k_rl, k_rt, k_asB, k_add, k_sub, k_mul, k_fdiv, k_mod, k_pow, k_addl, k_bini, k_binl, k_lt, k_le, k_gt, k_ge, k_ixl, k_ixt, k_inti, k_intb, k_abs, k_lenl, k_lent, k_max, k_min, k_s0, k_s1, k_s2, k_s3, k_s4, k_s5, k_s6, k_s7, k_t0, k_t1, k_t2, k_t4, k_eqi, k_nei, k_eqs, k_nes, k_itl, k_itt, k_run, k_for0, q_pVc, q_pC, q_blk, nxt, setK, retK, dropK, ifK, ifEK, notK, andK, orK, andVK, orVK, trK, op1K, op2E, op2K, opsK, nmK, exK, evosK, evvK, evrK, wbC, callK, newE, newK, methE, methK, parK, allK, tupK, lstK, sl2K, sl1K, itvK, rngK, itaK, dicK, evkK, rsK, setTK, put1, put2, putD, rdO, rdOs, rdA, finC, retL, r_0e, r_1e, r_1z, r_2e, r_2z, r_3e, r_3z, r_4e, r_4z, r_5e, r_5z, r_6e, r_6z, r_7e, r_7z, r_8e, r_8z, r_9e, r_9z, r_10e, r_10z, r_11e, r_11z, wbS, pmL, pmAt, nmA, L2.atI, L2.ixN, so_eq, h, hm, e7]
  · refine ⟨(((((b + 6700417 * (c + 1)) ^ 3 + 97 * (c + 1)) % 2305843009213693951 + 2971215073 * (c + 1)) ^ 3 % 618970019642690137449562111) / 131072) % m, a, c + 1, ?_, Int.emod_nonneg _ (by omega), Int.emod_lt_of_pos _ hm, ha, by omega, Int.le_refl _⟩
    unfold f_law_take m_law_take
    have e8 : (131072 : Nat).log2 < 9000 := by decide
    simp [q_blkc, q_blk0, q_setc, q_set0, q_retc, q_ret0, q_dropc, q_drop0, q_ifc, q_if0, q_ifec, q_ife0, q_testc, q_test0, q_notc, q_not0, q_andc, q_and0, q_orc, q_or0, q_andvc, q_andv0, q_orvc, q_orv0, q_trc, q_tr0, q_op1c, q_op10, q_op2c, q_op20, q_opsc, q_ops0, q_evnmc, q_evnm0, q_evexc, q_evex0, q_evos0c, q_evos00, q_evoscc, q_evosc0, q_eva0c, q_eva00, q_evavc, q_evav0, q_evarc, q_evar0, q_callc, q_call0, q_newc, q_new0, q_methc, q_meth0, q_parc, q_par0, q_all0c, q_all00, q_allcc, q_allc0, q_tupc, q_tup0, q_lstc, q_lst0, q_sl2c, q_sl20, q_sl1c, q_sl10, q_putc, q_put0, q_fstc, q_fst0, PI.q_forc, q_for0, q_itvc, q_itv0, q_rngc, q_rng0, q_itac, q_ita0, q_lcc, q_lc0, q_dicc, q_dic0, q_evk0c, q_evk00, q_evkcc, q_evkc0, q_rsc, q_rs0, q_yesc, q_yes0, q_chc, q_ch0, q_nxc, q_nx0, q_retnc, q_retn0, q_setTc, q_setT0, k_ro, k_rb, k_rl, k_rt, k_asB, k_add, k_sub, k_mul, k_fdiv, k_mod, k_pow, k_addl, k_bini, k_binl, k_lt, k_le, k_gt, k_ge, k_ixl, k_ixt, k_inti, k_intb, k_abs, k_lenl, k_lent, k_max, k_min, k_s0, k_s1, k_s2, k_s3, k_s4, k_s5, k_s6, k_s7, k_t0, k_t1, k_t2, k_t4, k_eqi, k_nei, k_eqs, k_nes, k_itl, k_itt, k_run, k_for0, q_pVc, q_pC, q_blk, nxt, setK, retK, dropK, ifK, ifEK, notK, andK, orK, andVK, orVK, trK, op1K, op2E, op2K, opsK, nmK, exK, evosK, evvK, evrK, wbC, callK, newE, newK, methE, methK, parK, allK, tupK, lstK, sl2K, sl1K, itvK, rngK, itaK, dicK, evkK, rsK, setTK, put1, put2, putD, rdO, rdOs, rdA, finC, retL, r_0e, r_1e, r_1z, r_2e, r_2z, r_3e, r_3z, r_4e, r_4z, r_5e, r_5z, r_6e, r_6z, r_7e, r_7z, r_8e, r_8z, r_9e, r_9z, r_10e, r_10z, r_11e, r_11z, wbS, pmL, pmAt, nmA, L2.atI, L2.ixN, so_eq, h, hm, e2, e3, e4, e5, e6, e8]
/-- a well that was asked at most n times past its figure -/
def Wl (n : Int) (d : D) : Prop := ∃ a b c, d = .lst true [.int a, .int b, .int c] ∧ 0 ≤ a ∧ 0 ≤ b ∧ b < 2^62 ∧ 0 ≤ c ∧ c ≤ n
theorem take_w {n m : Int} {u : D} (h : Wl n u) (hn : n < 2^20) (hm : 0 < m) (hm2 : m < 2^80) : ∃ t v, f_law_take [u, .int m] = .ok (.int t) [v] ∧ 0 ≤ t ∧ t < m ∧ Wl (n + 1) v := by
  obtain ⟨a, b, c, rfl, h1, h2, h3, h4, h5⟩ := h
  obtain ⟨t, a', c', e, k1, k2, k3, k4, k5⟩ := take_ok a b c m h1 h2 h3 h4 (by omega) hm hm2
  exact ⟨t, _, e, k1, k2, a', b, c', rfl, k3, h2, h3, by omega, by omega⟩
theorem p15 : powOk 10 15 = true := by decide
theorem m2 (t : Int) : mulOk 2 t = true := mulOk_l (by decide) (by decide)
theorem sgn {k t B : Int} (h0 : 0 ≤ k) (h1 : k < B) (h2 : 0 ≤ t) (h3 : t < 2) : -B < k * (1 - 2 * t) ∧ k * (1 - 2 * t) < B := by
  have : t = 0 ∨ t = 1 := by omega
  rcases this with rfl | rfl <;> constructor <;> omega
theorem number_w {n : Int} {u : D} (h : Wl n u) (hn : n + 5 < 2^20) : ∃ k v, f_law_number [u] = .ok (.int k) [v] ∧ -(10^31) < k ∧ k < 10^31 ∧ Wl (n + 4) v := by
  obtain ⟨t1, u1, e1, a1, b1, w1⟩ := take_w h (by omega) (m := 4) (by decide) (by decide)
  have low : ∀ (m : Int), 0 < m → m < 10 ^ 16 → ∃ t2 u2 t3 u3, f_law_take [u1, .int m] = .ok (.int t2) [u2] ∧ f_law_take [u2, .int 2] = .ok (.int t3) [u3] ∧ mulOk t2 (1 - 2 * t3) = true ∧ -(10^31) < t2 * (1 - 2 * t3) ∧ t2 * (1 - 2 * t3) < 10^31 ∧ Wl (n + 4) u3 := fun m hm hm2 => by
    obtain ⟨t2, u2, e2, a2, b2, w2⟩ := take_w w1 (by omega) hm (by omega)
    obtain ⟨t3, u3, e3, a3, b3, w3⟩ := take_w w2 (by omega) (m := 2) (by decide) (by decide)
    obtain ⟨k1, k2⟩ := sgn (B := 10 ^ 31) a2 (by omega) a3 b3
    obtain ⟨a, b, c, q, r1, r2, r3, r4, r5⟩ := w3
    exact ⟨t2, u2, t3, u3, e2, e3, mulOk_r (by omega) (by omega), k1, k2, a, b, c, q, r1, r2, r3, r4, by omega⟩
  have s1 : t1 = 0 ∨ t1 = 1 ∨ t1 = 2 ∨ t1 = 3 := by omega
  rcases s1 with rfl | rfl | rfl | rfl
  · obtain ⟨t2, u2, t3, u3, e2, e3, q1, q2, q3, w3⟩ := low 13 (by decide) (by decide)
    refine ⟨_, u3, ?_, q2, q3, w3⟩
    unfold f_law_number m_law_number
    simp [q_blkc, q_blk0, q_setc, q_set0, q_retc, q_ret0, q_dropc, q_drop0, q_ifc, q_if0, q_ifec, q_ife0, q_testc, q_test0, q_notc, q_not0, q_andc, q_and0, q_orc, q_or0, q_andvc, q_andv0, q_orvc, q_orv0, q_trc, q_tr0, q_op1c, q_op10, q_op2c, q_op20, q_opsc, q_ops0, q_evnmc, q_evnm0, q_evexc, q_evex0, q_evos0c, q_evos00, q_evoscc, q_evosc0, q_eva0c, q_eva00, q_evavc, q_evav0, q_evarc, q_evar0, q_callc, q_call0, q_newc, q_new0, q_methc, q_meth0, q_parc, q_par0, q_all0c, q_all00, q_allcc, q_allc0, q_tupc, q_tup0, q_lstc, q_lst0, q_sl2c, q_sl20, q_sl1c, q_sl10, q_putc, q_put0, q_fstc, q_fst0, PI.q_forc, q_for0, q_itvc, q_itv0, q_rngc, q_rng0, q_itac, q_ita0, q_lcc, q_lc0, q_dicc, q_dic0, q_evk0c, q_evk00, q_evkcc, q_evkc0, q_rsc, q_rs0, q_yesc, q_yes0, q_chc, q_ch0, q_nxc, q_nx0, q_retnc, q_retn0, q_setTc, q_setT0, k_ro, k_rb, k_rl, k_rt, k_asB, k_add, k_sub, k_mul, k_fdiv, k_mod, k_pow, k_addl, k_bini, k_binl, k_lt, k_le, k_gt, k_ge, k_ixl, k_ixt, k_inti, k_intb, k_abs, k_lenl, k_lent, k_max, k_min, k_s0, k_s1, k_s2, k_s3, k_s4, k_s5, k_s6, k_s7, k_t0, k_t1, k_t2, k_t4, k_eqi, k_nei, k_eqs, k_nes, k_itl, k_itt, k_run, k_for0, q_pVc, q_pC, q_blk, nxt, setK, retK, dropK, ifK, ifEK, notK, andK, orK, andVK, orVK, trK, op1K, op2E, op2K, opsK, nmK, exK, evosK, evvK, evrK, wbC, callK, newE, newK, methE, methK, parK, allK, tupK, lstK, sl2K, sl1K, itvK, rngK, itaK, dicK, evkK, rsK, setTK, put1, put2, putD, rdO, rdOs, rdA, finC, retL, r_0e, r_1e, r_1z, r_2e, r_2z, r_3e, r_3z, r_4e, r_4z, r_5e, r_5z, r_6e, r_6z, r_7e, r_7z, r_8e, r_8z, r_9e, r_9z, r_10e, r_10z, r_11e, r_11z, wbS, pmL, pmAt, nmA, L2.atI, L2.ixN, so_eq, e1, e2, e3, p15, m2, q1]
  · obtain ⟨t2, u2, t3, u3, e2, e3, q1, q2, q3, w3⟩ := low 60 (by decide) (by decide)
    refine ⟨_, u3, ?_, q2, q3, w3⟩
    unfold f_law_number m_law_number
    simp [q_blkc, q_blk0, q_setc, q_set0, q_retc, q_ret0, q_dropc, q_drop0, q_ifc, q_if0, q_ifec, q_ife0, q_testc, q_test0, q_notc, q_not0, q_andc, q_and0, q_orc, q_or0, q_andvc, q_andv0, q_orvc, q_orv0, q_trc, q_tr0, q_op1c, q_op10, q_op2c, q_op20, q_opsc, q_ops0, q_evnmc, q_evnm0, q_evexc, q_evex0, q_evos0c, q_evos00, q_evoscc, q_evosc0, q_eva0c, q_eva00, q_evavc, q_evav0, q_evarc, q_evar0, q_callc, q_call0, q_newc, q_new0, q_methc, q_meth0, q_parc, q_par0, q_all0c, q_all00, q_allcc, q_allc0, q_tupc, q_tup0, q_lstc, q_lst0, q_sl2c, q_sl20, q_sl1c, q_sl10, q_putc, q_put0, q_fstc, q_fst0, PI.q_forc, q_for0, q_itvc, q_itv0, q_rngc, q_rng0, q_itac, q_ita0, q_lcc, q_lc0, q_dicc, q_dic0, q_evk0c, q_evk00, q_evkcc, q_evkc0, q_rsc, q_rs0, q_yesc, q_yes0, q_chc, q_ch0, q_nxc, q_nx0, q_retnc, q_retn0, q_setTc, q_setT0, k_ro, k_rb, k_rl, k_rt, k_asB, k_add, k_sub, k_mul, k_fdiv, k_mod, k_pow, k_addl, k_bini, k_binl, k_lt, k_le, k_gt, k_ge, k_ixl, k_ixt, k_inti, k_intb, k_abs, k_lenl, k_lent, k_max, k_min, k_s0, k_s1, k_s2, k_s3, k_s4, k_s5, k_s6, k_s7, k_t0, k_t1, k_t2, k_t4, k_eqi, k_nei, k_eqs, k_nes, k_itl, k_itt, k_run, k_for0, q_pVc, q_pC, q_blk, nxt, setK, retK, dropK, ifK, ifEK, notK, andK, orK, andVK, orVK, trK, op1K, op2E, op2K, opsK, nmK, exK, evosK, evvK, evrK, wbC, callK, newE, newK, methE, methK, parK, allK, tupK, lstK, sl2K, sl1K, itvK, rngK, itaK, dicK, evkK, rsK, setTK, put1, put2, putD, rdO, rdOs, rdA, finC, retL, r_0e, r_1e, r_1z, r_2e, r_2z, r_3e, r_3z, r_4e, r_4z, r_5e, r_5z, r_6e, r_6z, r_7e, r_7z, r_8e, r_8z, r_9e, r_9z, r_10e, r_10z, r_11e, r_11z, wbS, pmL, pmAt, nmA, L2.atI, L2.ixN, so_eq, e1, e2, e3, p15, m2, q1]
  · obtain ⟨t2, u2, t3, u3, e2, e3, q1, q2, q3, w3⟩ := low 1000 (by decide) (by decide)
    refine ⟨_, u3, ?_, q2, q3, w3⟩
    unfold f_law_number m_law_number
    simp [q_blkc, q_blk0, q_setc, q_set0, q_retc, q_ret0, q_dropc, q_drop0, q_ifc, q_if0, q_ifec, q_ife0, q_testc, q_test0, q_notc, q_not0, q_andc, q_and0, q_orc, q_or0, q_andvc, q_andv0, q_orvc, q_orv0, q_trc, q_tr0, q_op1c, q_op10, q_op2c, q_op20, q_opsc, q_ops0, q_evnmc, q_evnm0, q_evexc, q_evex0, q_evos0c, q_evos00, q_evoscc, q_evosc0, q_eva0c, q_eva00, q_evavc, q_evav0, q_evarc, q_evar0, q_callc, q_call0, q_newc, q_new0, q_methc, q_meth0, q_parc, q_par0, q_all0c, q_all00, q_allcc, q_allc0, q_tupc, q_tup0, q_lstc, q_lst0, q_sl2c, q_sl20, q_sl1c, q_sl10, q_putc, q_put0, q_fstc, q_fst0, PI.q_forc, q_for0, q_itvc, q_itv0, q_rngc, q_rng0, q_itac, q_ita0, q_lcc, q_lc0, q_dicc, q_dic0, q_evk0c, q_evk00, q_evkcc, q_evkc0, q_rsc, q_rs0, q_yesc, q_yes0, q_chc, q_ch0, q_nxc, q_nx0, q_retnc, q_retn0, q_setTc, q_setT0, k_ro, k_rb, k_rl, k_rt, k_asB, k_add, k_sub, k_mul, k_fdiv, k_mod, k_pow, k_addl, k_bini, k_binl, k_lt, k_le, k_gt, k_ge, k_ixl, k_ixt, k_inti, k_intb, k_abs, k_lenl, k_lent, k_max, k_min, k_s0, k_s1, k_s2, k_s3, k_s4, k_s5, k_s6, k_s7, k_t0, k_t1, k_t2, k_t4, k_eqi, k_nei, k_eqs, k_nes, k_itl, k_itt, k_run, k_for0, q_pVc, q_pC, q_blk, nxt, setK, retK, dropK, ifK, ifEK, notK, andK, orK, andVK, orVK, trK, op1K, op2E, op2K, opsK, nmK, exK, evosK, evvK, evrK, wbC, callK, newE, newK, methE, methK, parK, allK, tupK, lstK, sl2K, sl1K, itvK, rngK, itaK, dicK, evkK, rsK, setTK, put1, put2, putD, rdO, rdOs, rdA, finC, retL, r_0e, r_1e, r_1z, r_2e, r_2z, r_3e, r_3z, r_4e, r_4z, r_5e, r_5z, r_6e, r_6z, r_7e, r_7z, r_8e, r_8z, r_9e, r_9z, r_10e, r_10z, r_11e, r_11z, wbS, pmL, pmAt, nmA, L2.atI, L2.ixN, so_eq, e1, e2, e3, p15, m2, q1]
  · obtain ⟨t2, u2, e2, a2, b2, w2⟩ := take_w w1 (by omega) (m := 1000000000000000) (by decide) (by decide)
    obtain ⟨t4, u4, e4, a4, b4, w4⟩ := take_w w2 (by omega) (m := 1000000000000000) (by decide) (by decide)
    obtain ⟨t3, u3, e3, a3, b3, w3⟩ := take_w w4 (by omega) (m := 2) (by decide) (by decide)
    obtain ⟨k1, k2⟩ := sgn (k := t2 * 1000000000000000 + t4) (B := 10 ^ 31) (by omega) (by omega) a3 b3
    have q1 : mulOk (t2 * 1000000000000000 + t4) (1 - 2 * t3) = true := mulOk_r (by omega) (by omega)
    have q2 : mulOk t2 1000000000000000 = true := mulOk_r (by decide) (by decide)
    obtain ⟨a, b, c, q, r1, r2, r3, r4, r5⟩ := w3
    refine ⟨_, u3, ?_, k1, k2, a, b, c, q, r1, r2, r3, r4, by omega⟩
    unfold f_law_number m_law_number
    simp [q_blkc, q_blk0, q_setc, q_set0, q_retc, q_ret0, q_dropc, q_drop0, q_ifc, q_if0, q_ifec, q_ife0, q_testc, q_test0, q_notc, q_not0, q_andc, q_and0, q_orc, q_or0, q_andvc, q_andv0, q_orvc, q_orv0, q_trc, q_tr0, q_op1c, q_op10, q_op2c, q_op20, q_opsc, q_ops0, q_evnmc, q_evnm0, q_evexc, q_evex0, q_evos0c, q_evos00, q_evoscc, q_evosc0, q_eva0c, q_eva00, q_evavc, q_evav0, q_evarc, q_evar0, q_callc, q_call0, q_newc, q_new0, q_methc, q_meth0, q_parc, q_par0, q_all0c, q_all00, q_allcc, q_allc0, q_tupc, q_tup0, q_lstc, q_lst0, q_sl2c, q_sl20, q_sl1c, q_sl10, q_putc, q_put0, q_fstc, q_fst0, PI.q_forc, q_for0, q_itvc, q_itv0, q_rngc, q_rng0, q_itac, q_ita0, q_lcc, q_lc0, q_dicc, q_dic0, q_evk0c, q_evk00, q_evkcc, q_evkc0, q_rsc, q_rs0, q_yesc, q_yes0, q_chc, q_ch0, q_nxc, q_nx0, q_retnc, q_retn0, q_setTc, q_setT0, k_ro, k_rb, k_rl, k_rt, k_asB, k_add, k_sub, k_mul, k_fdiv, k_mod, k_pow, k_addl, k_bini, k_binl, k_lt, k_le, k_gt, k_ge, k_ixl, k_ixt, k_inti, k_intb, k_abs, k_lenl, k_lent, k_max, k_min, k_s0, k_s1, k_s2, k_s3, k_s4, k_s5, k_s6, k_s7, k_t0, k_t1, k_t2, k_t4, k_eqi, k_nei, k_eqs, k_nes, k_itl, k_itt, k_run, k_for0, q_pVc, q_pC, q_blk, nxt, setK, retK, dropK, ifK, ifEK, notK, andK, orK, andVK, orVK, trK, op1K, op2E, op2K, opsK, nmK, exK, evosK, evvK, evrK, wbC, callK, newE, newK, methE, methK, parK, allK, tupK, lstK, sl2K, sl1K, itvK, rngK, itaK, dicK, evkK, rsK, setTK, put1, put2, putD, rdO, rdOs, rdA, finC, retL, r_0e, r_1e, r_1z, r_2e, r_2z, r_3e, r_3z, r_4e, r_4z, r_5e, r_5z, r_6e, r_6z, r_7e, r_7z, r_8e, r_8z, r_9e, r_9z, r_10e, r_10z, r_11e, r_11z, wbS, pmL, pmAt, nmA, L2.atI, L2.ixN, so_eq, e1, e2, e3, e4, p15, m2, q1, q2]
end A06

set_option linter.all false
set_option maxRecDepth 100000
set_option maxHeartbeats 1000000
namespace A06
open PI PySem
inductive T where
  | cell (x : Str) | pas | num (n : Int) | inv (a : T) | bin (s : Str) (a b : T)
abbrev NS : List Str := ["sign", "first", "second"]
def vals : T → List D
  | .cell x => [.str "cell", .str x, .non]
  | .pas => [.str "passed", .non, .non]
  | .num n => [.str "number", .int n, .non]
  | .inv a => [.str "~", .obj false "Value" NS (vals a), .non]
  | .bin s a b => [.str s, .obj false "Value" NS (vals a), .obj false "Value" NS (vals b)]
abbrev enc (t : T) : D := .obj false "Value" NS (vals t)
abbrev own (t : T) : D := .obj true "Value" NS (vals t)
theorem init_v (s f d : D) : f_Value_init [.obj true "Value" [] [], s, f, d] = .ok .non [.obj true "Value" NS [sealD s, sealD f, sealD d]] := by
  unfold f_Value_init m_Value_init
  simp [q_blkc, q_blk0, q_setc, q_set0, q_retc, q_ret0, q_dropc, q_drop0, q_ifc, q_if0, q_ifec, q_ife0, q_testc, q_test0, q_notc, q_not0, q_andc, q_and0, q_orc, q_or0, q_andvc, q_andv0, q_orvc, q_orv0, q_trc, q_tr0, q_op1c, q_op10, q_op2c, q_op20, q_opsc, q_ops0, q_evnmc, q_evnm0, q_evexc, q_evex0, q_evos0c, q_evos00, q_evoscc, q_evosc0, q_eva0c, q_eva00, q_evavc, q_evav0, q_evarc, q_evar0, q_callc, q_call0, q_newc, q_new0, q_methc, q_meth0, q_parc, q_par0, q_all0c, q_all00, q_allcc, q_allc0, q_tupc, q_tup0, q_lstc, q_lst0, q_sl2c, q_sl20, q_sl1c, q_sl10, q_putc, q_put0, q_fstc, q_fst0, PI.q_forc, q_for0, q_itvc, q_itv0, q_rngc, q_rng0, q_itac, q_ita0, q_lcc, q_lc0, q_dicc, q_dic0, q_evk0c, q_evk00, q_evkcc, q_evkc0, q_rsc, q_rs0, q_yesc, q_yes0, q_chc, q_ch0, q_nxc, q_nx0, q_retnc, q_retn0, q_setTc, q_setT0, k_ro, k_rb, k_rl, k_rt, k_asB, k_add, k_sub, k_mul, k_fdiv, k_mod, k_pow, k_addl, k_bini, k_binl, k_lt, k_le, k_gt, k_ge, k_ixl, k_ixt, k_inti, k_intb, k_abs, k_lenl, k_lent, k_max, k_min, k_s0, k_s1, k_s2, k_s3, k_s4, k_s5, k_s6, k_s7, k_t0, k_t1, k_t2, k_t4, k_eqi, k_nei, k_eqs, k_nes, k_itl, k_itt, k_run, k_for0, q_pVc, q_pC, q_blk, nxt, setK, retK, dropK, ifK, ifEK, notK, andK, orK, andVK, orVK, trK, op1K, op2E, op2K, opsK, nmK, exK, evosK, evvK, evrK, wbC, callK, newE, newK, methE, methK, parK, allK, tupK, lstK, sl2K, sl1K, itvK, rngK, itaK, dicK, evkK, rsK, setTK, put1, put2, putD, rdO, rdOs, rdA, finC, retL, r_0e, r_1e, r_1z, r_2e, r_2z, r_3e, r_3z, r_4e, r_4z, r_5e, r_5z, r_6e, r_6z, r_7e, r_7z, r_8e, r_8z, r_9e, r_9z, r_10e, r_10z, r_11e, r_11z, wbS, pmL, pmAt, nmA, L2.atI, L2.ixN, so_eq, fst2, putFD, sealD2]
theorem number_v (k : Int) : f_number [.int k] = .ok (own (.num k)) [] := by
  unfold f_number m_number
  simp [q_blkc, q_blk0, q_setc, q_set0, q_retc, q_ret0, q_dropc, q_drop0, q_ifc, q_if0, q_ifec, q_ife0, q_testc, q_test0, q_notc, q_not0, q_andc, q_and0, q_orc, q_or0, q_andvc, q_andv0, q_orvc, q_orv0, q_trc, q_tr0, q_op1c, q_op10, q_op2c, q_op20, q_opsc, q_ops0, q_evnmc, q_evnm0, q_evexc, q_evex0, q_evos0c, q_evos00, q_evoscc, q_evosc0, q_eva0c, q_eva00, q_evavc, q_evav0, q_evarc, q_evar0, q_callc, q_call0, q_newc, q_new0, q_methc, q_meth0, q_parc, q_par0, q_all0c, q_all00, q_allcc, q_allc0, q_tupc, q_tup0, q_lstc, q_lst0, q_sl2c, q_sl20, q_sl1c, q_sl10, q_putc, q_put0, q_fstc, q_fst0, PI.q_forc, q_for0, q_itvc, q_itv0, q_rngc, q_rng0, q_itac, q_ita0, q_lcc, q_lc0, q_dicc, q_dic0, q_evk0c, q_evk00, q_evkcc, q_evkc0, q_rsc, q_rs0, q_yesc, q_yes0, q_chc, q_ch0, q_nxc, q_nx0, q_retnc, q_retn0, q_setTc, q_setT0, k_ro, k_rb, k_rl, k_rt, k_asB, k_add, k_sub, k_mul, k_fdiv, k_mod, k_pow, k_addl, k_bini, k_binl, k_lt, k_le, k_gt, k_ge, k_ixl, k_ixt, k_inti, k_intb, k_abs, k_lenl, k_lent, k_max, k_min, k_s0, k_s1, k_s2, k_s3, k_s4, k_s5, k_s6, k_s7, k_t0, k_t1, k_t2, k_t4, k_eqi, k_nei, k_eqs, k_nes, k_itl, k_itt, k_run, k_for0, q_pVc, q_pC, q_blk, nxt, setK, retK, dropK, ifK, ifEK, notK, andK, orK, andVK, orVK, trK, op1K, op2E, op2K, opsK, nmK, exK, evosK, evvK, evrK, wbC, callK, newE, newK, methE, methK, parK, allK, tupK, lstK, sl2K, sl1K, itvK, rngK, itaK, dicK, evkK, rsK, setTK, put1, put2, putD, rdO, rdOs, rdA, finC, retL, r_0e, r_1e, r_1z, r_2e, r_2z, r_3e, r_3z, r_4e, r_4z, r_5e, r_5z, r_6e, r_6z, r_7e, r_7z, r_8e, r_8z, r_9e, r_9z, r_10e, r_10z, r_11e, r_11z, wbS, pmL, pmAt, nmA, L2.atI, L2.ixN, so_eq, init_v, vals]
theorem passed_v : f_passed [] = .ok (own .pas) [] := by
  unfold f_passed m_passed
  simp [q_blkc, q_blk0, q_setc, q_set0, q_retc, q_ret0, q_dropc, q_drop0, q_ifc, q_if0, q_ifec, q_ife0, q_testc, q_test0, q_notc, q_not0, q_andc, q_and0, q_orc, q_or0, q_andvc, q_andv0, q_orvc, q_orv0, q_trc, q_tr0, q_op1c, q_op10, q_op2c, q_op20, q_opsc, q_ops0, q_evnmc, q_evnm0, q_evexc, q_evex0, q_evos0c, q_evos00, q_evoscc, q_evosc0, q_eva0c, q_eva00, q_evavc, q_evav0, q_evarc, q_evar0, q_callc, q_call0, q_newc, q_new0, q_methc, q_meth0, q_parc, q_par0, q_all0c, q_all00, q_allcc, q_allc0, q_tupc, q_tup0, q_lstc, q_lst0, q_sl2c, q_sl20, q_sl1c, q_sl10, q_putc, q_put0, q_fstc, q_fst0, PI.q_forc, q_for0, q_itvc, q_itv0, q_rngc, q_rng0, q_itac, q_ita0, q_lcc, q_lc0, q_dicc, q_dic0, q_evk0c, q_evk00, q_evkcc, q_evkc0, q_rsc, q_rs0, q_yesc, q_yes0, q_chc, q_ch0, q_nxc, q_nx0, q_retnc, q_retn0, q_setTc, q_setT0, k_ro, k_rb, k_rl, k_rt, k_asB, k_add, k_sub, k_mul, k_fdiv, k_mod, k_pow, k_addl, k_bini, k_binl, k_lt, k_le, k_gt, k_ge, k_ixl, k_ixt, k_inti, k_intb, k_abs, k_lenl, k_lent, k_max, k_min, k_s0, k_s1, k_s2, k_s3, k_s4, k_s5, k_s6, k_s7, k_t0, k_t1, k_t2, k_t4, k_eqi, k_nei, k_eqs, k_nes, k_itl, k_itt, k_run, k_for0, q_pVc, q_pC, q_blk, nxt, setK, retK, dropK, ifK, ifEK, notK, andK, orK, andVK, orVK, trK, op1K, op2E, op2K, opsK, nmK, exK, evosK, evvK, evrK, wbC, callK, newE, newK, methE, methK, parK, allK, tupK, lstK, sl2K, sl1K, itvK, rngK, itaK, dicK, evkK, rsK, setTK, put1, put2, putD, rdO, rdOs, rdA, finC, retL, r_0e, r_1e, r_1z, r_2e, r_2z, r_3e, r_3z, r_4e, r_4z, r_5e, r_5z, r_6e, r_6z, r_7e, r_7z, r_8e, r_8z, r_9e, r_9z, r_10e, r_10z, r_11e, r_11z, wbS, pmL, pmAt, nmA, L2.atI, L2.ixN, so_eq, init_v, vals]
theorem value_v (t : T) : f_value_of [enc t] = .ok (enc t) [] := by
  unfold f_value_of m_value_of
  simp [q_blkc, q_blk0, q_setc, q_set0, q_retc, q_ret0, q_dropc, q_drop0, q_ifc, q_if0, q_ifec, q_ife0, q_testc, q_test0, q_notc, q_not0, q_andc, q_and0, q_orc, q_or0, q_andvc, q_andv0, q_orvc, q_orv0, q_trc, q_tr0, q_op1c, q_op10, q_op2c, q_op20, q_opsc, q_ops0, q_evnmc, q_evnm0, q_evexc, q_evex0, q_evos0c, q_evos00, q_evoscc, q_evosc0, q_eva0c, q_eva00, q_evavc, q_evav0, q_evarc, q_evar0, q_callc, q_call0, q_newc, q_new0, q_methc, q_meth0, q_parc, q_par0, q_all0c, q_all00, q_allcc, q_allc0, q_tupc, q_tup0, q_lstc, q_lst0, q_sl2c, q_sl20, q_sl1c, q_sl10, q_putc, q_put0, q_fstc, q_fst0, PI.q_forc, q_for0, q_itvc, q_itv0, q_rngc, q_rng0, q_itac, q_ita0, q_lcc, q_lc0, q_dicc, q_dic0, q_evk0c, q_evk00, q_evkcc, q_evkc0, q_rsc, q_rs0, q_yesc, q_yes0, q_chc, q_ch0, q_nxc, q_nx0, q_retnc, q_retn0, q_setTc, q_setT0, k_ro, k_rb, k_rl, k_rt, k_asB, k_add, k_sub, k_mul, k_fdiv, k_mod, k_pow, k_addl, k_bini, k_binl, k_lt, k_le, k_gt, k_ge, k_ixl, k_ixt, k_inti, k_intb, k_abs, k_lenl, k_lent, k_max, k_min, k_s0, k_s1, k_s2, k_s3, k_s4, k_s5, k_s6, k_s7, k_t0, k_t1, k_t2, k_t4, k_eqi, k_nei, k_eqs, k_nes, k_itl, k_itt, k_run, k_for0, q_pVc, q_pC, q_blk, nxt, setK, retK, dropK, ifK, ifEK, notK, andK, orK, andVK, orVK, trK, op1K, op2E, op2K, opsK, nmK, exK, evosK, evvK, evrK, wbC, callK, newE, newK, methE, methK, parK, allK, tupK, lstK, sl2K, sl1K, itvK, rngK, itaK, dicK, evkK, rsK, setTK, put1, put2, putD, rdO, rdOs, rdA, finC, retL, r_0e, r_1e, r_1z, r_2e, r_2z, r_3e, r_3z, r_4e, r_4z, r_5e, r_5z, r_6e, r_6z, r_7e, r_7z, r_8e, r_8z, r_9e, r_9z, r_10e, r_10z, r_11e, r_11z, wbS, pmL, pmAt, nmA, L2.atI, L2.ixN, so_eq, isS]
theorem value_i (k : Int) : f_value_of [.int k] = .ok (own (.num k)) [] := by
  unfold f_value_of m_value_of
  simp [q_blkc, q_blk0, q_setc, q_set0, q_retc, q_ret0, q_dropc, q_drop0, q_ifc, q_if0, q_ifec, q_ife0, q_testc, q_test0, q_notc, q_not0, q_andc, q_and0, q_orc, q_or0, q_andvc, q_andv0, q_orvc, q_orv0, q_trc, q_tr0, q_op1c, q_op10, q_op2c, q_op20, q_opsc, q_ops0, q_evnmc, q_evnm0, q_evexc, q_evex0, q_evos0c, q_evos00, q_evoscc, q_evosc0, q_eva0c, q_eva00, q_evavc, q_evav0, q_evarc, q_evar0, q_callc, q_call0, q_newc, q_new0, q_methc, q_meth0, q_parc, q_par0, q_all0c, q_all00, q_allcc, q_allc0, q_tupc, q_tup0, q_lstc, q_lst0, q_sl2c, q_sl20, q_sl1c, q_sl10, q_putc, q_put0, q_fstc, q_fst0, PI.q_forc, q_for0, q_itvc, q_itv0, q_rngc, q_rng0, q_itac, q_ita0, q_lcc, q_lc0, q_dicc, q_dic0, q_evk0c, q_evk00, q_evkcc, q_evkc0, q_rsc, q_rs0, q_yesc, q_yes0, q_chc, q_ch0, q_nxc, q_nx0, q_retnc, q_retn0, q_setTc, q_setT0, k_ro, k_rb, k_rl, k_rt, k_asB, k_add, k_sub, k_mul, k_fdiv, k_mod, k_pow, k_addl, k_bini, k_binl, k_lt, k_le, k_gt, k_ge, k_ixl, k_ixt, k_inti, k_intb, k_abs, k_lenl, k_lent, k_max, k_min, k_s0, k_s1, k_s2, k_s3, k_s4, k_s5, k_s6, k_s7, k_t0, k_t1, k_t2, k_t4, k_eqi, k_nei, k_eqs, k_nes, k_itl, k_itt, k_run, k_for0, q_pVc, q_pC, q_blk, nxt, setK, retK, dropK, ifK, ifEK, notK, andK, orK, andVK, orVK, trK, op1K, op2E, op2K, opsK, nmK, exK, evosK, evvK, evrK, wbC, callK, newE, newK, methE, methK, parK, allK, tupK, lstK, sl2K, sl1K, itvK, rngK, itaK, dicK, evkK, rsK, setTK, put1, put2, putD, rdO, rdOs, rdA, finC, retL, r_0e, r_1e, r_1z, r_2e, r_2z, r_3e, r_3z, r_4e, r_4z, r_5e, r_5z, r_6e, r_6z, r_7e, r_7z, r_8e, r_8z, r_9e, r_9z, r_10e, r_10z, r_11e, r_11z, wbS, pmL, pmAt, nmA, L2.atI, L2.ixN, so_eq, isS, number_v]
theorem sub_v (a b : T) : f_Value_sub [enc a, enc b] = .ok (own (.bin "-" a b)) [] := by
  unfold f_Value_sub m_Value_sub
  simp [q_blkc, q_blk0, q_setc, q_set0, q_retc, q_ret0, q_dropc, q_drop0, q_ifc, q_if0, q_ifec, q_ife0, q_testc, q_test0, q_notc, q_not0, q_andc, q_and0, q_orc, q_or0, q_andvc, q_andv0, q_orvc, q_orv0, q_trc, q_tr0, q_op1c, q_op10, q_op2c, q_op20, q_opsc, q_ops0, q_evnmc, q_evnm0, q_evexc, q_evex0, q_evos0c, q_evos00, q_evoscc, q_evosc0, q_eva0c, q_eva00, q_evavc, q_evav0, q_evarc, q_evar0, q_callc, q_call0, q_newc, q_new0, q_methc, q_meth0, q_parc, q_par0, q_all0c, q_all00, q_allcc, q_allc0, q_tupc, q_tup0, q_lstc, q_lst0, q_sl2c, q_sl20, q_sl1c, q_sl10, q_putc, q_put0, q_fstc, q_fst0, PI.q_forc, q_for0, q_itvc, q_itv0, q_rngc, q_rng0, q_itac, q_ita0, q_lcc, q_lc0, q_dicc, q_dic0, q_evk0c, q_evk00, q_evkcc, q_evkc0, q_rsc, q_rs0, q_yesc, q_yes0, q_chc, q_ch0, q_nxc, q_nx0, q_retnc, q_retn0, q_setTc, q_setT0, k_ro, k_rb, k_rl, k_rt, k_asB, k_add, k_sub, k_mul, k_fdiv, k_mod, k_pow, k_addl, k_bini, k_binl, k_lt, k_le, k_gt, k_ge, k_ixl, k_ixt, k_inti, k_intb, k_abs, k_lenl, k_lent, k_max, k_min, k_s0, k_s1, k_s2, k_s3, k_s4, k_s5, k_s6, k_s7, k_t0, k_t1, k_t2, k_t4, k_eqi, k_nei, k_eqs, k_nes, k_itl, k_itt, k_run, k_for0, q_pVc, q_pC, q_blk, nxt, setK, retK, dropK, ifK, ifEK, notK, andK, orK, andVK, orVK, trK, op1K, op2E, op2K, opsK, nmK, exK, evosK, evvK, evrK, wbC, callK, newE, newK, methE, methK, parK, allK, tupK, lstK, sl2K, sl1K, itvK, rngK, itaK, dicK, evkK, rsK, setTK, put1, put2, putD, rdO, rdOs, rdA, finC, retL, r_0e, r_1e, r_1z, r_2e, r_2z, r_3e, r_3z, r_4e, r_4z, r_5e, r_5z, r_6e, r_6z, r_7e, r_7z, r_8e, r_8z, r_9e, r_9z, r_10e, r_10z, r_11e, r_11z, wbS, pmL, pmAt, nmA, L2.atI, L2.ixN, so_eq, init_v, vals, value_v]
theorem and_v (a b : T) : f_Value_and [enc a, enc b] = .ok (own (.bin "&" a b)) [] := by
  unfold f_Value_and m_Value_and
  simp [q_blkc, q_blk0, q_setc, q_set0, q_retc, q_ret0, q_dropc, q_drop0, q_ifc, q_if0, q_ifec, q_ife0, q_testc, q_test0, q_notc, q_not0, q_andc, q_and0, q_orc, q_or0, q_andvc, q_andv0, q_orvc, q_orv0, q_trc, q_tr0, q_op1c, q_op10, q_op2c, q_op20, q_opsc, q_ops0, q_evnmc, q_evnm0, q_evexc, q_evex0, q_evos0c, q_evos00, q_evoscc, q_evosc0, q_eva0c, q_eva00, q_evavc, q_evav0, q_evarc, q_evar0, q_callc, q_call0, q_newc, q_new0, q_methc, q_meth0, q_parc, q_par0, q_all0c, q_all00, q_allcc, q_allc0, q_tupc, q_tup0, q_lstc, q_lst0, q_sl2c, q_sl20, q_sl1c, q_sl10, q_putc, q_put0, q_fstc, q_fst0, PI.q_forc, q_for0, q_itvc, q_itv0, q_rngc, q_rng0, q_itac, q_ita0, q_lcc, q_lc0, q_dicc, q_dic0, q_evk0c, q_evk00, q_evkcc, q_evkc0, q_rsc, q_rs0, q_yesc, q_yes0, q_chc, q_ch0, q_nxc, q_nx0, q_retnc, q_retn0, q_setTc, q_setT0, k_ro, k_rb, k_rl, k_rt, k_asB, k_add, k_sub, k_mul, k_fdiv, k_mod, k_pow, k_addl, k_bini, k_binl, k_lt, k_le, k_gt, k_ge, k_ixl, k_ixt, k_inti, k_intb, k_abs, k_lenl, k_lent, k_max, k_min, k_s0, k_s1, k_s2, k_s3, k_s4, k_s5, k_s6, k_s7, k_t0, k_t1, k_t2, k_t4, k_eqi, k_nei, k_eqs, k_nes, k_itl, k_itt, k_run, k_for0, q_pVc, q_pC, q_blk, nxt, setK, retK, dropK, ifK, ifEK, notK, andK, orK, andVK, orVK, trK, op1K, op2E, op2K, opsK, nmK, exK, evosK, evvK, evrK, wbC, callK, newE, newK, methE, methK, parK, allK, tupK, lstK, sl2K, sl1K, itvK, rngK, itaK, dicK, evkK, rsK, setTK, put1, put2, putD, rdO, rdOs, rdA, finC, retL, r_0e, r_1e, r_1z, r_2e, r_2z, r_3e, r_3z, r_4e, r_4z, r_5e, r_5z, r_6e, r_6z, r_7e, r_7z, r_8e, r_8z, r_9e, r_9z, r_10e, r_10z, r_11e, r_11z, wbS, pmL, pmAt, nmA, L2.atI, L2.ixN, so_eq, init_v, vals, value_v]
theorem and_i (a : T) (k : Int) : f_Value_and [enc a, .int k] = .ok (own (.bin "&" a (.num k))) [] := by
  unfold f_Value_and m_Value_and
  simp [q_blkc, q_blk0, q_setc, q_set0, q_retc, q_ret0, q_dropc, q_drop0, q_ifc, q_if0, q_ifec, q_ife0, q_testc, q_test0, q_notc, q_not0, q_andc, q_and0, q_orc, q_or0, q_andvc, q_andv0, q_orvc, q_orv0, q_trc, q_tr0, q_op1c, q_op10, q_op2c, q_op20, q_opsc, q_ops0, q_evnmc, q_evnm0, q_evexc, q_evex0, q_evos0c, q_evos00, q_evoscc, q_evosc0, q_eva0c, q_eva00, q_evavc, q_evav0, q_evarc, q_evar0, q_callc, q_call0, q_newc, q_new0, q_methc, q_meth0, q_parc, q_par0, q_all0c, q_all00, q_allcc, q_allc0, q_tupc, q_tup0, q_lstc, q_lst0, q_sl2c, q_sl20, q_sl1c, q_sl10, q_putc, q_put0, q_fstc, q_fst0, PI.q_forc, q_for0, q_itvc, q_itv0, q_rngc, q_rng0, q_itac, q_ita0, q_lcc, q_lc0, q_dicc, q_dic0, q_evk0c, q_evk00, q_evkcc, q_evkc0, q_rsc, q_rs0, q_yesc, q_yes0, q_chc, q_ch0, q_nxc, q_nx0, q_retnc, q_retn0, q_setTc, q_setT0, k_ro, k_rb, k_rl, k_rt, k_asB, k_add, k_sub, k_mul, k_fdiv, k_mod, k_pow, k_addl, k_bini, k_binl, k_lt, k_le, k_gt, k_ge, k_ixl, k_ixt, k_inti, k_intb, k_abs, k_lenl, k_lent, k_max, k_min, k_s0, k_s1, k_s2, k_s3, k_s4, k_s5, k_s6, k_s7, k_t0, k_t1, k_t2, k_t4, k_eqi, k_nei, k_eqs, k_nes, k_itl, k_itt, k_run, k_for0, q_pVc, q_pC, q_blk, nxt, setK, retK, dropK, ifK, ifEK, notK, andK, orK, andVK, orVK, trK, op1K, op2E, op2K, opsK, nmK, exK, evosK, evvK, evrK, wbC, callK, newE, newK, methE, methK, parK, allK, tupK, lstK, sl2K, sl1K, itvK, rngK, itaK, dicK, evkK, rsK, setTK, put1, put2, putD, rdO, rdOs, rdA, finC, retL, r_0e, r_1e, r_1z, r_2e, r_2z, r_3e, r_3z, r_4e, r_4z, r_5e, r_5z, r_6e, r_6z, r_7e, r_7z, r_8e, r_8z, r_9e, r_9z, r_10e, r_10z, r_11e, r_11z, wbS, pmL, pmAt, nmA, L2.atI, L2.ixN, so_eq, init_v, vals, value_i]
theorem rand_i (a : T) (k : Int) : f_Value_rand [enc a, .int k] = .ok (own (.bin "&" (.num k) a)) [] := by
  unfold f_Value_rand m_Value_rand
  simp [q_blkc, q_blk0, q_setc, q_set0, q_retc, q_ret0, q_dropc, q_drop0, q_ifc, q_if0, q_ifec, q_ife0, q_testc, q_test0, q_notc, q_not0, q_andc, q_and0, q_orc, q_or0, q_andvc, q_andv0, q_orvc, q_orv0, q_trc, q_tr0, q_op1c, q_op10, q_op2c, q_op20, q_opsc, q_ops0, q_evnmc, q_evnm0, q_evexc, q_evex0, q_evos0c, q_evos00, q_evoscc, q_evosc0, q_eva0c, q_eva00, q_evavc, q_evav0, q_evarc, q_evar0, q_callc, q_call0, q_newc, q_new0, q_methc, q_meth0, q_parc, q_par0, q_all0c, q_all00, q_allcc, q_allc0, q_tupc, q_tup0, q_lstc, q_lst0, q_sl2c, q_sl20, q_sl1c, q_sl10, q_putc, q_put0, q_fstc, q_fst0, PI.q_forc, q_for0, q_itvc, q_itv0, q_rngc, q_rng0, q_itac, q_ita0, q_lcc, q_lc0, q_dicc, q_dic0, q_evk0c, q_evk00, q_evkcc, q_evkc0, q_rsc, q_rs0, q_yesc, q_yes0, q_chc, q_ch0, q_nxc, q_nx0, q_retnc, q_retn0, q_setTc, q_setT0, k_ro, k_rb, k_rl, k_rt, k_asB, k_add, k_sub, k_mul, k_fdiv, k_mod, k_pow, k_addl, k_bini, k_binl, k_lt, k_le, k_gt, k_ge, k_ixl, k_ixt, k_inti, k_intb, k_abs, k_lenl, k_lent, k_max, k_min, k_s0, k_s1, k_s2, k_s3, k_s4, k_s5, k_s6, k_s7, k_t0, k_t1, k_t2, k_t4, k_eqi, k_nei, k_eqs, k_nes, k_itl, k_itt, k_run, k_for0, q_pVc, q_pC, q_blk, nxt, setK, retK, dropK, ifK, ifEK, notK, andK, orK, andVK, orVK, trK, op1K, op2E, op2K, opsK, nmK, exK, evosK, evvK, evrK, wbC, callK, newE, newK, methE, methK, parK, allK, tupK, lstK, sl2K, sl1K, itvK, rngK, itaK, dicK, evkK, rsK, setTK, put1, put2, putD, rdO, rdOs, rdA, finC, retL, r_0e, r_1e, r_1z, r_2e, r_2z, r_3e, r_3z, r_4e, r_4z, r_5e, r_5z, r_6e, r_6z, r_7e, r_7z, r_8e, r_8z, r_9e, r_9z, r_10e, r_10z, r_11e, r_11z, wbS, pmL, pmAt, nmA, L2.atI, L2.ixN, so_eq, init_v, vals, value_i]
theorem or_v (a b : T) : f_Value_or [enc a, enc b] = .ok (own (.bin "|" a b)) [] := by
  unfold f_Value_or m_Value_or
  simp [q_blkc, q_blk0, q_setc, q_set0, q_retc, q_ret0, q_dropc, q_drop0, q_ifc, q_if0, q_ifec, q_ife0, q_testc, q_test0, q_notc, q_not0, q_andc, q_and0, q_orc, q_or0, q_andvc, q_andv0, q_orvc, q_orv0, q_trc, q_tr0, q_op1c, q_op10, q_op2c, q_op20, q_opsc, q_ops0, q_evnmc, q_evnm0, q_evexc, q_evex0, q_evos0c, q_evos00, q_evoscc, q_evosc0, q_eva0c, q_eva00, q_evavc, q_evav0, q_evarc, q_evar0, q_callc, q_call0, q_newc, q_new0, q_methc, q_meth0, q_parc, q_par0, q_all0c, q_all00, q_allcc, q_allc0, q_tupc, q_tup0, q_lstc, q_lst0, q_sl2c, q_sl20, q_sl1c, q_sl10, q_putc, q_put0, q_fstc, q_fst0, PI.q_forc, q_for0, q_itvc, q_itv0, q_rngc, q_rng0, q_itac, q_ita0, q_lcc, q_lc0, q_dicc, q_dic0, q_evk0c, q_evk00, q_evkcc, q_evkc0, q_rsc, q_rs0, q_yesc, q_yes0, q_chc, q_ch0, q_nxc, q_nx0, q_retnc, q_retn0, q_setTc, q_setT0, k_ro, k_rb, k_rl, k_rt, k_asB, k_add, k_sub, k_mul, k_fdiv, k_mod, k_pow, k_addl, k_bini, k_binl, k_lt, k_le, k_gt, k_ge, k_ixl, k_ixt, k_inti, k_intb, k_abs, k_lenl, k_lent, k_max, k_min, k_s0, k_s1, k_s2, k_s3, k_s4, k_s5, k_s6, k_s7, k_t0, k_t1, k_t2, k_t4, k_eqi, k_nei, k_eqs, k_nes, k_itl, k_itt, k_run, k_for0, q_pVc, q_pC, q_blk, nxt, setK, retK, dropK, ifK, ifEK, notK, andK, orK, andVK, orVK, trK, op1K, op2E, op2K, opsK, nmK, exK, evosK, evvK, evrK, wbC, callK, newE, newK, methE, methK, parK, allK, tupK, lstK, sl2K, sl1K, itvK, rngK, itaK, dicK, evkK, rsK, setTK, put1, put2, putD, rdO, rdOs, rdA, finC, retL, r_0e, r_1e, r_1z, r_2e, r_2z, r_3e, r_3z, r_4e, r_4z, r_5e, r_5z, r_6e, r_6z, r_7e, r_7z, r_8e, r_8z, r_9e, r_9z, r_10e, r_10z, r_11e, r_11z, wbS, pmL, pmAt, nmA, L2.atI, L2.ixN, so_eq, init_v, vals, value_v]
theorem or_i (a : T) (k : Int) : f_Value_or [enc a, .int k] = .ok (own (.bin "|" a (.num k))) [] := by
  unfold f_Value_or m_Value_or
  simp [q_blkc, q_blk0, q_setc, q_set0, q_retc, q_ret0, q_dropc, q_drop0, q_ifc, q_if0, q_ifec, q_ife0, q_testc, q_test0, q_notc, q_not0, q_andc, q_and0, q_orc, q_or0, q_andvc, q_andv0, q_orvc, q_orv0, q_trc, q_tr0, q_op1c, q_op10, q_op2c, q_op20, q_opsc, q_ops0, q_evnmc, q_evnm0, q_evexc, q_evex0, q_evos0c, q_evos00, q_evoscc, q_evosc0, q_eva0c, q_eva00, q_evavc, q_evav0, q_evarc, q_evar0, q_callc, q_call0, q_newc, q_new0, q_methc, q_meth0, q_parc, q_par0, q_all0c, q_all00, q_allcc, q_allc0, q_tupc, q_tup0, q_lstc, q_lst0, q_sl2c, q_sl20, q_sl1c, q_sl10, q_putc, q_put0, q_fstc, q_fst0, PI.q_forc, q_for0, q_itvc, q_itv0, q_rngc, q_rng0, q_itac, q_ita0, q_lcc, q_lc0, q_dicc, q_dic0, q_evk0c, q_evk00, q_evkcc, q_evkc0, q_rsc, q_rs0, q_yesc, q_yes0, q_chc, q_ch0, q_nxc, q_nx0, q_retnc, q_retn0, q_setTc, q_setT0, k_ro, k_rb, k_rl, k_rt, k_asB, k_add, k_sub, k_mul, k_fdiv, k_mod, k_pow, k_addl, k_bini, k_binl, k_lt, k_le, k_gt, k_ge, k_ixl, k_ixt, k_inti, k_intb, k_abs, k_lenl, k_lent, k_max, k_min, k_s0, k_s1, k_s2, k_s3, k_s4, k_s5, k_s6, k_s7, k_t0, k_t1, k_t2, k_t4, k_eqi, k_nei, k_eqs, k_nes, k_itl, k_itt, k_run, k_for0, q_pVc, q_pC, q_blk, nxt, setK, retK, dropK, ifK, ifEK, notK, andK, orK, andVK, orVK, trK, op1K, op2E, op2K, opsK, nmK, exK, evosK, evvK, evrK, wbC, callK, newE, newK, methE, methK, parK, allK, tupK, lstK, sl2K, sl1K, itvK, rngK, itaK, dicK, evkK, rsK, setTK, put1, put2, putD, rdO, rdOs, rdA, finC, retL, r_0e, r_1e, r_1z, r_2e, r_2z, r_3e, r_3z, r_4e, r_4z, r_5e, r_5z, r_6e, r_6z, r_7e, r_7z, r_8e, r_8z, r_9e, r_9z, r_10e, r_10z, r_11e, r_11z, wbS, pmL, pmAt, nmA, L2.atI, L2.ixN, so_eq, init_v, vals, value_i]
theorem ror_i (a : T) (k : Int) : f_Value_ror [enc a, .int k] = .ok (own (.bin "|" (.num k) a)) [] := by
  unfold f_Value_ror m_Value_ror
  simp [q_blkc, q_blk0, q_setc, q_set0, q_retc, q_ret0, q_dropc, q_drop0, q_ifc, q_if0, q_ifec, q_ife0, q_testc, q_test0, q_notc, q_not0, q_andc, q_and0, q_orc, q_or0, q_andvc, q_andv0, q_orvc, q_orv0, q_trc, q_tr0, q_op1c, q_op10, q_op2c, q_op20, q_opsc, q_ops0, q_evnmc, q_evnm0, q_evexc, q_evex0, q_evos0c, q_evos00, q_evoscc, q_evosc0, q_eva0c, q_eva00, q_evavc, q_evav0, q_evarc, q_evar0, q_callc, q_call0, q_newc, q_new0, q_methc, q_meth0, q_parc, q_par0, q_all0c, q_all00, q_allcc, q_allc0, q_tupc, q_tup0, q_lstc, q_lst0, q_sl2c, q_sl20, q_sl1c, q_sl10, q_putc, q_put0, q_fstc, q_fst0, PI.q_forc, q_for0, q_itvc, q_itv0, q_rngc, q_rng0, q_itac, q_ita0, q_lcc, q_lc0, q_dicc, q_dic0, q_evk0c, q_evk00, q_evkcc, q_evkc0, q_rsc, q_rs0, q_yesc, q_yes0, q_chc, q_ch0, q_nxc, q_nx0, q_retnc, q_retn0, q_setTc, q_setT0, k_ro, k_rb, k_rl, k_rt, k_asB, k_add, k_sub, k_mul, k_fdiv, k_mod, k_pow, k_addl, k_bini, k_binl, k_lt, k_le, k_gt, k_ge, k_ixl, k_ixt, k_inti, k_intb, k_abs, k_lenl, k_lent, k_max, k_min, k_s0, k_s1, k_s2, k_s3, k_s4, k_s5, k_s6, k_s7, k_t0, k_t1, k_t2, k_t4, k_eqi, k_nei, k_eqs, k_nes, k_itl, k_itt, k_run, k_for0, q_pVc, q_pC, q_blk, nxt, setK, retK, dropK, ifK, ifEK, notK, andK, orK, andVK, orVK, trK, op1K, op2E, op2K, opsK, nmK, exK, evosK, evvK, evrK, wbC, callK, newE, newK, methE, methK, parK, allK, tupK, lstK, sl2K, sl1K, itvK, rngK, itaK, dicK, evkK, rsK, setTK, put1, put2, putD, rdO, rdOs, rdA, finC, retL, r_0e, r_1e, r_1z, r_2e, r_2z, r_3e, r_3z, r_4e, r_4z, r_5e, r_5z, r_6e, r_6z, r_7e, r_7z, r_8e, r_8z, r_9e, r_9z, r_10e, r_10z, r_11e, r_11z, wbS, pmL, pmAt, nmA, L2.atI, L2.ixN, so_eq, init_v, vals, value_i]
theorem same_v (a b : T) : f_Value_same [enc a, enc b] = .ok (own (.bin "=" a b)) [] := by
  unfold f_Value_same m_Value_same
  simp [q_blkc, q_blk0, q_setc, q_set0, q_retc, q_ret0, q_dropc, q_drop0, q_ifc, q_if0, q_ifec, q_ife0, q_testc, q_test0, q_notc, q_not0, q_andc, q_and0, q_orc, q_or0, q_andvc, q_andv0, q_orvc, q_orv0, q_trc, q_tr0, q_op1c, q_op10, q_op2c, q_op20, q_opsc, q_ops0, q_evnmc, q_evnm0, q_evexc, q_evex0, q_evos0c, q_evos00, q_evoscc, q_evosc0, q_eva0c, q_eva00, q_evavc, q_evav0, q_evarc, q_evar0, q_callc, q_call0, q_newc, q_new0, q_methc, q_meth0, q_parc, q_par0, q_all0c, q_all00, q_allcc, q_allc0, q_tupc, q_tup0, q_lstc, q_lst0, q_sl2c, q_sl20, q_sl1c, q_sl10, q_putc, q_put0, q_fstc, q_fst0, PI.q_forc, q_for0, q_itvc, q_itv0, q_rngc, q_rng0, q_itac, q_ita0, q_lcc, q_lc0, q_dicc, q_dic0, q_evk0c, q_evk00, q_evkcc, q_evkc0, q_rsc, q_rs0, q_yesc, q_yes0, q_chc, q_ch0, q_nxc, q_nx0, q_retnc, q_retn0, q_setTc, q_setT0, k_ro, k_rb, k_rl, k_rt, k_asB, k_add, k_sub, k_mul, k_fdiv, k_mod, k_pow, k_addl, k_bini, k_binl, k_lt, k_le, k_gt, k_ge, k_ixl, k_ixt, k_inti, k_intb, k_abs, k_lenl, k_lent, k_max, k_min, k_s0, k_s1, k_s2, k_s3, k_s4, k_s5, k_s6, k_s7, k_t0, k_t1, k_t2, k_t4, k_eqi, k_nei, k_eqs, k_nes, k_itl, k_itt, k_run, k_for0, q_pVc, q_pC, q_blk, nxt, setK, retK, dropK, ifK, ifEK, notK, andK, orK, andVK, orVK, trK, op1K, op2E, op2K, opsK, nmK, exK, evosK, evvK, evrK, wbC, callK, newE, newK, methE, methK, parK, allK, tupK, lstK, sl2K, sl1K, itvK, rngK, itaK, dicK, evkK, rsK, setTK, put1, put2, putD, rdO, rdOs, rdA, finC, retL, r_0e, r_1e, r_1z, r_2e, r_2z, r_3e, r_3z, r_4e, r_4z, r_5e, r_5z, r_6e, r_6z, r_7e, r_7z, r_8e, r_8z, r_9e, r_9z, r_10e, r_10z, r_11e, r_11z, wbS, pmL, pmAt, nmA, L2.atI, L2.ixN, so_eq, init_v, vals, value_v]
theorem same_i (a : T) (k : Int) : f_Value_same [enc a, .int k] = .ok (own (.bin "=" a (.num k))) [] := by
  unfold f_Value_same m_Value_same
  simp [q_blkc, q_blk0, q_setc, q_set0, q_retc, q_ret0, q_dropc, q_drop0, q_ifc, q_if0, q_ifec, q_ife0, q_testc, q_test0, q_notc, q_not0, q_andc, q_and0, q_orc, q_or0, q_andvc, q_andv0, q_orvc, q_orv0, q_trc, q_tr0, q_op1c, q_op10, q_op2c, q_op20, q_opsc, q_ops0, q_evnmc, q_evnm0, q_evexc, q_evex0, q_evos0c, q_evos00, q_evoscc, q_evosc0, q_eva0c, q_eva00, q_evavc, q_evav0, q_evarc, q_evar0, q_callc, q_call0, q_newc, q_new0, q_methc, q_meth0, q_parc, q_par0, q_all0c, q_all00, q_allcc, q_allc0, q_tupc, q_tup0, q_lstc, q_lst0, q_sl2c, q_sl20, q_sl1c, q_sl10, q_putc, q_put0, q_fstc, q_fst0, PI.q_forc, q_for0, q_itvc, q_itv0, q_rngc, q_rng0, q_itac, q_ita0, q_lcc, q_lc0, q_dicc, q_dic0, q_evk0c, q_evk00, q_evkcc, q_evkc0, q_rsc, q_rs0, q_yesc, q_yes0, q_chc, q_ch0, q_nxc, q_nx0, q_retnc, q_retn0, q_setTc, q_setT0, k_ro, k_rb, k_rl, k_rt, k_asB, k_add, k_sub, k_mul, k_fdiv, k_mod, k_pow, k_addl, k_bini, k_binl, k_lt, k_le, k_gt, k_ge, k_ixl, k_ixt, k_inti, k_intb, k_abs, k_lenl, k_lent, k_max, k_min, k_s0, k_s1, k_s2, k_s3, k_s4, k_s5, k_s6, k_s7, k_t0, k_t1, k_t2, k_t4, k_eqi, k_nei, k_eqs, k_nes, k_itl, k_itt, k_run, k_for0, q_pVc, q_pC, q_blk, nxt, setK, retK, dropK, ifK, ifEK, notK, andK, orK, andVK, orVK, trK, op1K, op2E, op2K, opsK, nmK, exK, evosK, evvK, evrK, wbC, callK, newE, newK, methE, methK, parK, allK, tupK, lstK, sl2K, sl1K, itvK, rngK, itaK, dicK, evkK, rsK, setTK, put1, put2, putD, rdO, rdOs, rdA, finC, retL, r_0e, r_1e, r_1z, r_2e, r_2z, r_3e, r_3z, r_4e, r_4z, r_5e, r_5z, r_6e, r_6z, r_7e, r_7z, r_8e, r_8z, r_9e, r_9z, r_10e, r_10z, r_11e, r_11z, wbS, pmL, pmAt, nmA, L2.atI, L2.ixN, so_eq, init_v, vals, value_i]
theorem less_v (a b : T) : f_Value_less [enc a, enc b] = .ok (own (.bin "<" a b)) [] := by
  unfold f_Value_less m_Value_less
  simp [q_blkc, q_blk0, q_setc, q_set0, q_retc, q_ret0, q_dropc, q_drop0, q_ifc, q_if0, q_ifec, q_ife0, q_testc, q_test0, q_notc, q_not0, q_andc, q_and0, q_orc, q_or0, q_andvc, q_andv0, q_orvc, q_orv0, q_trc, q_tr0, q_op1c, q_op10, q_op2c, q_op20, q_opsc, q_ops0, q_evnmc, q_evnm0, q_evexc, q_evex0, q_evos0c, q_evos00, q_evoscc, q_evosc0, q_eva0c, q_eva00, q_evavc, q_evav0, q_evarc, q_evar0, q_callc, q_call0, q_newc, q_new0, q_methc, q_meth0, q_parc, q_par0, q_all0c, q_all00, q_allcc, q_allc0, q_tupc, q_tup0, q_lstc, q_lst0, q_sl2c, q_sl20, q_sl1c, q_sl10, q_putc, q_put0, q_fstc, q_fst0, PI.q_forc, q_for0, q_itvc, q_itv0, q_rngc, q_rng0, q_itac, q_ita0, q_lcc, q_lc0, q_dicc, q_dic0, q_evk0c, q_evk00, q_evkcc, q_evkc0, q_rsc, q_rs0, q_yesc, q_yes0, q_chc, q_ch0, q_nxc, q_nx0, q_retnc, q_retn0, q_setTc, q_setT0, k_ro, k_rb, k_rl, k_rt, k_asB, k_add, k_sub, k_mul, k_fdiv, k_mod, k_pow, k_addl, k_bini, k_binl, k_lt, k_le, k_gt, k_ge, k_ixl, k_ixt, k_inti, k_intb, k_abs, k_lenl, k_lent, k_max, k_min, k_s0, k_s1, k_s2, k_s3, k_s4, k_s5, k_s6, k_s7, k_t0, k_t1, k_t2, k_t4, k_eqi, k_nei, k_eqs, k_nes, k_itl, k_itt, k_run, k_for0, q_pVc, q_pC, q_blk, nxt, setK, retK, dropK, ifK, ifEK, notK, andK, orK, andVK, orVK, trK, op1K, op2E, op2K, opsK, nmK, exK, evosK, evvK, evrK, wbC, callK, newE, newK, methE, methK, parK, allK, tupK, lstK, sl2K, sl1K, itvK, rngK, itaK, dicK, evkK, rsK, setTK, put1, put2, putD, rdO, rdOs, rdA, finC, retL, r_0e, r_1e, r_1z, r_2e, r_2z, r_3e, r_3z, r_4e, r_4z, r_5e, r_5z, r_6e, r_6z, r_7e, r_7z, r_8e, r_8z, r_9e, r_9z, r_10e, r_10z, r_11e, r_11z, wbS, pmL, pmAt, nmA, L2.atI, L2.ixN, so_eq, init_v, vals, value_v]
theorem less_i (a : T) (k : Int) : f_Value_less [enc a, .int k] = .ok (own (.bin "<" a (.num k))) [] := by
  unfold f_Value_less m_Value_less
  simp [q_blkc, q_blk0, q_setc, q_set0, q_retc, q_ret0, q_dropc, q_drop0, q_ifc, q_if0, q_ifec, q_ife0, q_testc, q_test0, q_notc, q_not0, q_andc, q_and0, q_orc, q_or0, q_andvc, q_andv0, q_orvc, q_orv0, q_trc, q_tr0, q_op1c, q_op10, q_op2c, q_op20, q_opsc, q_ops0, q_evnmc, q_evnm0, q_evexc, q_evex0, q_evos0c, q_evos00, q_evoscc, q_evosc0, q_eva0c, q_eva00, q_evavc, q_evav0, q_evarc, q_evar0, q_callc, q_call0, q_newc, q_new0, q_methc, q_meth0, q_parc, q_par0, q_all0c, q_all00, q_allcc, q_allc0, q_tupc, q_tup0, q_lstc, q_lst0, q_sl2c, q_sl20, q_sl1c, q_sl10, q_putc, q_put0, q_fstc, q_fst0, PI.q_forc, q_for0, q_itvc, q_itv0, q_rngc, q_rng0, q_itac, q_ita0, q_lcc, q_lc0, q_dicc, q_dic0, q_evk0c, q_evk00, q_evkcc, q_evkc0, q_rsc, q_rs0, q_yesc, q_yes0, q_chc, q_ch0, q_nxc, q_nx0, q_retnc, q_retn0, q_setTc, q_setT0, k_ro, k_rb, k_rl, k_rt, k_asB, k_add, k_sub, k_mul, k_fdiv, k_mod, k_pow, k_addl, k_bini, k_binl, k_lt, k_le, k_gt, k_ge, k_ixl, k_ixt, k_inti, k_intb, k_abs, k_lenl, k_lent, k_max, k_min, k_s0, k_s1, k_s2, k_s3, k_s4, k_s5, k_s6, k_s7, k_t0, k_t1, k_t2, k_t4, k_eqi, k_nei, k_eqs, k_nes, k_itl, k_itt, k_run, k_for0, q_pVc, q_pC, q_blk, nxt, setK, retK, dropK, ifK, ifEK, notK, andK, orK, andVK, orVK, trK, op1K, op2E, op2K, opsK, nmK, exK, evosK, evvK, evrK, wbC, callK, newE, newK, methE, methK, parK, allK, tupK, lstK, sl2K, sl1K, itvK, rngK, itaK, dicK, evkK, rsK, setTK, put1, put2, putD, rdO, rdOs, rdA, finC, retL, r_0e, r_1e, r_1z, r_2e, r_2z, r_3e, r_3z, r_4e, r_4z, r_5e, r_5z, r_6e, r_6z, r_7e, r_7z, r_8e, r_8z, r_9e, r_9z, r_10e, r_10z, r_11e, r_11z, wbS, pmL, pmAt, nmA, L2.atI, L2.ixN, so_eq, init_v, vals, value_i]
theorem inv_v (a : T) : f_Value_invert [enc a] = .ok (own (.inv a)) [] := by
  unfold f_Value_invert m_Value_invert
  simp [q_blkc, q_blk0, q_setc, q_set0, q_retc, q_ret0, q_dropc, q_drop0, q_ifc, q_if0, q_ifec, q_ife0, q_testc, q_test0, q_notc, q_not0, q_andc, q_and0, q_orc, q_or0, q_andvc, q_andv0, q_orvc, q_orv0, q_trc, q_tr0, q_op1c, q_op10, q_op2c, q_op20, q_opsc, q_ops0, q_evnmc, q_evnm0, q_evexc, q_evex0, q_evos0c, q_evos00, q_evoscc, q_evosc0, q_eva0c, q_eva00, q_evavc, q_evav0, q_evarc, q_evar0, q_callc, q_call0, q_newc, q_new0, q_methc, q_meth0, q_parc, q_par0, q_all0c, q_all00, q_allcc, q_allc0, q_tupc, q_tup0, q_lstc, q_lst0, q_sl2c, q_sl20, q_sl1c, q_sl10, q_putc, q_put0, q_fstc, q_fst0, PI.q_forc, q_for0, q_itvc, q_itv0, q_rngc, q_rng0, q_itac, q_ita0, q_lcc, q_lc0, q_dicc, q_dic0, q_evk0c, q_evk00, q_evkcc, q_evkc0, q_rsc, q_rs0, q_yesc, q_yes0, q_chc, q_ch0, q_nxc, q_nx0, q_retnc, q_retn0, q_setTc, q_setT0, k_ro, k_rb, k_rl, k_rt, k_asB, k_add, k_sub, k_mul, k_fdiv, k_mod, k_pow, k_addl, k_bini, k_binl, k_lt, k_le, k_gt, k_ge, k_ixl, k_ixt, k_inti, k_intb, k_abs, k_lenl, k_lent, k_max, k_min, k_s0, k_s1, k_s2, k_s3, k_s4, k_s5, k_s6, k_s7, k_t0, k_t1, k_t2, k_t4, k_eqi, k_nei, k_eqs, k_nes, k_itl, k_itt, k_run, k_for0, q_pVc, q_pC, q_blk, nxt, setK, retK, dropK, ifK, ifEK, notK, andK, orK, andVK, orVK, trK, op1K, op2E, op2K, opsK, nmK, exK, evosK, evvK, evrK, wbC, callK, newE, newK, methE, methK, parK, allK, tupK, lstK, sl2K, sl1K, itvK, rngK, itaK, dicK, evkK, rsK, setTK, put1, put2, putD, rdO, rdOs, rdA, finC, retL, r_0e, r_1e, r_1z, r_2e, r_2z, r_3e, r_3z, r_4e, r_4z, r_5e, r_5z, r_6e, r_6z, r_7e, r_7z, r_8e, r_8z, r_9e, r_9z, r_10e, r_10z, r_11e, r_11z, wbS, pmL, pmAt, nmA, L2.atI, L2.ixN, so_eq, init_v, vals]
end A06

set_option linter.all false
set_option maxRecDepth 100000
set_option maxHeartbeats 1000000
namespace A06
open PI PySem
def fldW (fl : List (Str × Str)) (f : Str) (d : D) (g : Sg) : Rs D := ro (if (clsD d).any fun c => fl.contains (c, f) then fldD f d else none) g
theorem q_fld {fl : List (Str × Str)} {f : Str} {a : Op} {x : Option D} {g : Sg} : pFld fl f a (x :: g) = (evO a (x :: g)).bind (op1K (fldW fl f) a) := rfl
theorem so_beq {a b : String} : (Str.ofString a == Str.ofString b) = decide (a = b) := by
  by_cases h : a = b
  · subst h; simp
  · rw [decide_eq_false h]
    exact beq_eq_false_iff_ne.mpr fun z => h (so_eq.mp z)
theorem w_s {b : Bool} {u v w : D} {g : Sg} : fldW [("Value", "sign")] "sign" (.obj b "Value" NS [u, v, w]) g = .ok u g := by
  simp [fldW, clsD, fldD, NS, List.lookup, so_beq, k_ro]
theorem w_f {b : Bool} {u v w : D} {g : Sg} : fldW [("Value", "first")] "first" (.obj b "Value" NS [u, v, w]) g = .ok v g := by
  simp [fldW, clsD, fldD, NS, List.lookup, so_beq, k_ro]
theorem w_d {b : Bool} {u v w : D} {g : Sg} : fldW [("Value", "second")] "second" (.obj b "Value" NS [u, v, w]) g = .ok w g := by
  simp [fldW, clsD, fldD, NS, List.lookup, so_beq, k_ro]
theorem k_ixd {b : Bool} {ks : List L2.Key} {xs : List D} {x : Str} : ixD (.dic b ks xs) (.str x) = valD ks xs (.inr x) := rfl
def b2 (b : Bool) : Int := if b then 1 else 0
def opI (s : Str) (i j : Int) : Int := if s = "-" then i - j else if s = "&" then b2 (i != 0 && j != 0) else if s = "|" then b2 (i != 0 || j != 0) else if s = "=" then b2 (i == j) else b2 (decide (i < j))
def opOk (s : Str) : Prop := s = "-" ∨ s = "&" ∨ s = "|" ∨ s = "=" ∨ s = "<"
theorem o0 : PyData.strOk "cell" = true := by kernel_rfl
theorem o1 : PyData.strOk "passed" = true := by kernel_rfl
theorem o2 : PyData.strOk "number" = true := by kernel_rfl
theorem o3 : PyData.strOk "~" = true := by kernel_rfl
theorem o4 : PyData.strOk "+" = true := by kernel_rfl
theorem o5 : PyData.strOk "-" = true := by kernel_rfl
theorem o6 : PyData.strOk "*" = true := by kernel_rfl
theorem o7 : PyData.strOk "//" = true := by kernel_rfl
theorem o8 : PyData.strOk "mod" = true := by kernel_rfl
theorem o9 : PyData.strOk "&" = true := by kernel_rfl
theorem o10 : PyData.strOk "|" = true := by kernel_rfl
theorem o11 : PyData.strOk "=" = true := by kernel_rfl
theorem o12 : PyData.strOk "<" = true := by kernel_rfl
theorem e_ii {es : List Cd} {i j : Int} {g : Sg} : eqS es (.int i) (.int j) g = .ok (.bl (i == j)) g := rfl
theorem paired_v {s : Str} {i j : Int} (h : opOk s) : f_paired [.str s, .int i, .int j] = .ok (.int (opI s i j)) [] := by
  unfold f_paired m_paired
  rcases h with rfl | rfl | rfl | rfl | rfl
  · simp [q_blkc, q_blk0, q_setc, q_set0, q_retc, q_ret0, q_dropc, q_drop0, q_ifc, q_if0, q_ifec, q_ife0, q_testc, q_test0, q_notc, q_not0, q_andc, q_and0, q_orc, q_or0, q_andvc, q_andv0, q_orvc, q_orv0, q_trc, q_tr0, q_op1c, q_op10, q_op2c, q_op20, q_opsc, q_ops0, q_evnmc, q_evnm0, q_evexc, q_evex0, q_evos0c, q_evos00, q_evoscc, q_evosc0, q_eva0c, q_eva00, q_evavc, q_evav0, q_evarc, q_evar0, q_callc, q_call0, q_newc, q_new0, q_methc, q_meth0, q_parc, q_par0, q_all0c, q_all00, q_allcc, q_allc0, q_tupc, q_tup0, q_lstc, q_lst0, q_sl2c, q_sl20, q_sl1c, q_sl10, q_putc, q_put0, q_fstc, q_fst0, PI.q_forc, q_for0, q_itvc, q_itv0, q_rngc, q_rng0, q_itac, q_ita0, q_lcc, q_lc0, q_dicc, q_dic0, q_evk0c, q_evk00, q_evkcc, q_evkc0, q_rsc, q_rs0, q_yesc, q_yes0, q_chc, q_ch0, q_nxc, q_nx0, q_retnc, q_retn0, q_setTc, q_setT0, k_ro, k_rb, k_rl, k_rt, k_asB, k_add, k_sub, k_mul, k_fdiv, k_mod, k_pow, k_addl, k_bini, k_binl, k_lt, k_le, k_gt, k_ge, k_ixl, k_ixt, k_inti, k_intb, k_abs, k_lenl, k_lent, k_max, k_min, k_s0, k_s1, k_s2, k_s3, k_s4, k_s5, k_s6, k_s7, k_t0, k_t1, k_t2, k_t4, k_eqi, k_nei, k_eqs, k_nes, k_itl, k_itt, k_run, k_for0, q_pVc, q_pC, q_blk, nxt, setK, retK, dropK, ifK, ifEK, notK, andK, orK, andVK, orVK, trK, op1K, op2E, op2K, opsK, nmK, exK, evosK, evvK, evrK, wbC, callK, newE, newK, methE, methK, parK, allK, tupK, lstK, sl2K, sl1K, itvK, rngK, itaK, dicK, evkK, rsK, setTK, put1, put2, putD, rdO, rdOs, rdA, finC, retL, r_0e, r_1e, r_1z, r_2e, r_2z, r_3e, r_3z, r_4e, r_4z, r_5e, r_5z, r_6e, r_6z, r_7e, r_7z, r_8e, r_8z, r_9e, r_9z, r_10e, r_10z, r_11e, r_11z, wbS, pmL, pmAt, nmA, L2.atI, L2.ixN, so_eq, o4, o5, opI]
  · by_cases h : i = 0
    · simp [q_blkc, q_blk0, q_setc, q_set0, q_retc, q_ret0, q_dropc, q_drop0, q_ifc, q_if0, q_ifec, q_ife0, q_testc, q_test0, q_notc, q_not0, q_andc, q_and0, q_orc, q_or0, q_andvc, q_andv0, q_orvc, q_orv0, q_trc, q_tr0, q_op1c, q_op10, q_op2c, q_op20, q_opsc, q_ops0, q_evnmc, q_evnm0, q_evexc, q_evex0, q_evos0c, q_evos00, q_evoscc, q_evosc0, q_eva0c, q_eva00, q_evavc, q_evav0, q_evarc, q_evar0, q_callc, q_call0, q_newc, q_new0, q_methc, q_meth0, q_parc, q_par0, q_all0c, q_all00, q_allcc, q_allc0, q_tupc, q_tup0, q_lstc, q_lst0, q_sl2c, q_sl20, q_sl1c, q_sl10, q_putc, q_put0, q_fstc, q_fst0, PI.q_forc, q_for0, q_itvc, q_itv0, q_rngc, q_rng0, q_itac, q_ita0, q_lcc, q_lc0, q_dicc, q_dic0, q_evk0c, q_evk00, q_evkcc, q_evkc0, q_rsc, q_rs0, q_yesc, q_yes0, q_chc, q_ch0, q_nxc, q_nx0, q_retnc, q_retn0, q_setTc, q_setT0, k_ro, k_rb, k_rl, k_rt, k_asB, k_add, k_sub, k_mul, k_fdiv, k_mod, k_pow, k_addl, k_bini, k_binl, k_lt, k_le, k_gt, k_ge, k_ixl, k_ixt, k_inti, k_intb, k_abs, k_lenl, k_lent, k_max, k_min, k_s0, k_s1, k_s2, k_s3, k_s4, k_s5, k_s6, k_s7, k_t0, k_t1, k_t2, k_t4, k_eqi, k_nei, k_eqs, k_nes, k_itl, k_itt, k_run, k_for0, q_pVc, q_pC, q_blk, nxt, setK, retK, dropK, ifK, ifEK, notK, andK, orK, andVK, orVK, trK, op1K, op2E, op2K, opsK, nmK, exK, evosK, evvK, evrK, wbC, callK, newE, newK, methE, methK, parK, allK, tupK, lstK, sl2K, sl1K, itvK, rngK, itaK, dicK, evkK, rsK, setTK, put1, put2, putD, rdO, rdOs, rdA, finC, retL, r_0e, r_1e, r_1z, r_2e, r_2z, r_3e, r_3z, r_4e, r_4z, r_5e, r_5z, r_6e, r_6z, r_7e, r_7z, r_8e, r_8z, r_9e, r_9z, r_10e, r_10z, r_11e, r_11z, wbS, pmL, pmAt, nmA, L2.atI, L2.ixN, so_eq, o4, o5, o6, o7, o8, o9, opI, b2, h]
    · have hb : (i != 0) = true := by simp [h]
      simp [q_blkc, q_blk0, q_setc, q_set0, q_retc, q_ret0, q_dropc, q_drop0, q_ifc, q_if0, q_ifec, q_ife0, q_testc, q_test0, q_notc, q_not0, q_andc, q_and0, q_orc, q_or0, q_andvc, q_andv0, q_orvc, q_orv0, q_trc, q_tr0, q_op1c, q_op10, q_op2c, q_op20, q_opsc, q_ops0, q_evnmc, q_evnm0, q_evexc, q_evex0, q_evos0c, q_evos00, q_evoscc, q_evosc0, q_eva0c, q_eva00, q_evavc, q_evav0, q_evarc, q_evar0, q_callc, q_call0, q_newc, q_new0, q_methc, q_meth0, q_parc, q_par0, q_all0c, q_all00, q_allcc, q_allc0, q_tupc, q_tup0, q_lstc, q_lst0, q_sl2c, q_sl20, q_sl1c, q_sl10, q_putc, q_put0, q_fstc, q_fst0, PI.q_forc, q_for0, q_itvc, q_itv0, q_rngc, q_rng0, q_itac, q_ita0, q_lcc, q_lc0, q_dicc, q_dic0, q_evk0c, q_evk00, q_evkcc, q_evkc0, q_rsc, q_rs0, q_yesc, q_yes0, q_chc, q_ch0, q_nxc, q_nx0, q_retnc, q_retn0, q_setTc, q_setT0, k_ro, k_rb, k_rl, k_rt, k_asB, k_add, k_sub, k_mul, k_fdiv, k_mod, k_pow, k_addl, k_bini, k_binl, k_lt, k_le, k_gt, k_ge, k_ixl, k_ixt, k_inti, k_intb, k_abs, k_lenl, k_lent, k_max, k_min, k_s0, k_s1, k_s2, k_s3, k_s4, k_s5, k_s6, k_s7, k_t0, k_t1, k_t2, k_t4, k_eqi, k_nei, k_eqs, k_nes, k_itl, k_itt, k_run, k_for0, q_pVc, q_pC, q_blk, nxt, setK, retK, dropK, ifK, ifEK, notK, andK, orK, andVK, orVK, trK, op1K, op2E, op2K, opsK, nmK, exK, evosK, evvK, evrK, wbC, callK, newE, newK, methE, methK, parK, allK, tupK, lstK, sl2K, sl1K, itvK, rngK, itaK, dicK, evkK, rsK, setTK, put1, put2, putD, rdO, rdOs, rdA, finC, retL, r_0e, r_1e, r_1z, r_2e, r_2z, r_3e, r_3z, r_4e, r_4z, r_5e, r_5z, r_6e, r_6z, r_7e, r_7z, r_8e, r_8z, r_9e, r_9z, r_10e, r_10z, r_11e, r_11z, wbS, pmL, pmAt, nmA, L2.atI, L2.ixN, so_eq, o4, o5, o6, o7, o8, o9, opI, b2, hb]
  · by_cases h : i = 0
    · simp [q_blkc, q_blk0, q_setc, q_set0, q_retc, q_ret0, q_dropc, q_drop0, q_ifc, q_if0, q_ifec, q_ife0, q_testc, q_test0, q_notc, q_not0, q_andc, q_and0, q_orc, q_or0, q_andvc, q_andv0, q_orvc, q_orv0, q_trc, q_tr0, q_op1c, q_op10, q_op2c, q_op20, q_opsc, q_ops0, q_evnmc, q_evnm0, q_evexc, q_evex0, q_evos0c, q_evos00, q_evoscc, q_evosc0, q_eva0c, q_eva00, q_evavc, q_evav0, q_evarc, q_evar0, q_callc, q_call0, q_newc, q_new0, q_methc, q_meth0, q_parc, q_par0, q_all0c, q_all00, q_allcc, q_allc0, q_tupc, q_tup0, q_lstc, q_lst0, q_sl2c, q_sl20, q_sl1c, q_sl10, q_putc, q_put0, q_fstc, q_fst0, PI.q_forc, q_for0, q_itvc, q_itv0, q_rngc, q_rng0, q_itac, q_ita0, q_lcc, q_lc0, q_dicc, q_dic0, q_evk0c, q_evk00, q_evkcc, q_evkc0, q_rsc, q_rs0, q_yesc, q_yes0, q_chc, q_ch0, q_nxc, q_nx0, q_retnc, q_retn0, q_setTc, q_setT0, k_ro, k_rb, k_rl, k_rt, k_asB, k_add, k_sub, k_mul, k_fdiv, k_mod, k_pow, k_addl, k_bini, k_binl, k_lt, k_le, k_gt, k_ge, k_ixl, k_ixt, k_inti, k_intb, k_abs, k_lenl, k_lent, k_max, k_min, k_s0, k_s1, k_s2, k_s3, k_s4, k_s5, k_s6, k_s7, k_t0, k_t1, k_t2, k_t4, k_eqi, k_nei, k_eqs, k_nes, k_itl, k_itt, k_run, k_for0, q_pVc, q_pC, q_blk, nxt, setK, retK, dropK, ifK, ifEK, notK, andK, orK, andVK, orVK, trK, op1K, op2E, op2K, opsK, nmK, exK, evosK, evvK, evrK, wbC, callK, newE, newK, methE, methK, parK, allK, tupK, lstK, sl2K, sl1K, itvK, rngK, itaK, dicK, evkK, rsK, setTK, put1, put2, putD, rdO, rdOs, rdA, finC, retL, r_0e, r_1e, r_1z, r_2e, r_2z, r_3e, r_3z, r_4e, r_4z, r_5e, r_5z, r_6e, r_6z, r_7e, r_7z, r_8e, r_8z, r_9e, r_9z, r_10e, r_10z, r_11e, r_11z, wbS, pmL, pmAt, nmA, L2.atI, L2.ixN, so_eq, o4, o5, o6, o7, o8, o9, o10, opI, b2, h]
    · have hb : (i != 0) = true := by simp [h]
      simp [q_blkc, q_blk0, q_setc, q_set0, q_retc, q_ret0, q_dropc, q_drop0, q_ifc, q_if0, q_ifec, q_ife0, q_testc, q_test0, q_notc, q_not0, q_andc, q_and0, q_orc, q_or0, q_andvc, q_andv0, q_orvc, q_orv0, q_trc, q_tr0, q_op1c, q_op10, q_op2c, q_op20, q_opsc, q_ops0, q_evnmc, q_evnm0, q_evexc, q_evex0, q_evos0c, q_evos00, q_evoscc, q_evosc0, q_eva0c, q_eva00, q_evavc, q_evav0, q_evarc, q_evar0, q_callc, q_call0, q_newc, q_new0, q_methc, q_meth0, q_parc, q_par0, q_all0c, q_all00, q_allcc, q_allc0, q_tupc, q_tup0, q_lstc, q_lst0, q_sl2c, q_sl20, q_sl1c, q_sl10, q_putc, q_put0, q_fstc, q_fst0, PI.q_forc, q_for0, q_itvc, q_itv0, q_rngc, q_rng0, q_itac, q_ita0, q_lcc, q_lc0, q_dicc, q_dic0, q_evk0c, q_evk00, q_evkcc, q_evkc0, q_rsc, q_rs0, q_yesc, q_yes0, q_chc, q_ch0, q_nxc, q_nx0, q_retnc, q_retn0, q_setTc, q_setT0, k_ro, k_rb, k_rl, k_rt, k_asB, k_add, k_sub, k_mul, k_fdiv, k_mod, k_pow, k_addl, k_bini, k_binl, k_lt, k_le, k_gt, k_ge, k_ixl, k_ixt, k_inti, k_intb, k_abs, k_lenl, k_lent, k_max, k_min, k_s0, k_s1, k_s2, k_s3, k_s4, k_s5, k_s6, k_s7, k_t0, k_t1, k_t2, k_t4, k_eqi, k_nei, k_eqs, k_nes, k_itl, k_itt, k_run, k_for0, q_pVc, q_pC, q_blk, nxt, setK, retK, dropK, ifK, ifEK, notK, andK, orK, andVK, orVK, trK, op1K, op2E, op2K, opsK, nmK, exK, evosK, evvK, evrK, wbC, callK, newE, newK, methE, methK, parK, allK, tupK, lstK, sl2K, sl1K, itvK, rngK, itaK, dicK, evkK, rsK, setTK, put1, put2, putD, rdO, rdOs, rdA, finC, retL, r_0e, r_1e, r_1z, r_2e, r_2z, r_3e, r_3z, r_4e, r_4z, r_5e, r_5z, r_6e, r_6z, r_7e, r_7z, r_8e, r_8z, r_9e, r_9z, r_10e, r_10z, r_11e, r_11z, wbS, pmL, pmAt, nmA, L2.atI, L2.ixN, so_eq, o4, o5, o6, o7, o8, o9, o10, opI, b2, hb]
  · simp [q_blkc, q_blk0, q_setc, q_set0, q_retc, q_ret0, q_dropc, q_drop0, q_ifc, q_if0, q_ifec, q_ife0, q_testc, q_test0, q_notc, q_not0, q_andc, q_and0, q_orc, q_or0, q_andvc, q_andv0, q_orvc, q_orv0, q_trc, q_tr0, q_op1c, q_op10, q_op2c, q_op20, q_opsc, q_ops0, q_evnmc, q_evnm0, q_evexc, q_evex0, q_evos0c, q_evos00, q_evoscc, q_evosc0, q_eva0c, q_eva00, q_evavc, q_evav0, q_evarc, q_evar0, q_callc, q_call0, q_newc, q_new0, q_methc, q_meth0, q_parc, q_par0, q_all0c, q_all00, q_allcc, q_allc0, q_tupc, q_tup0, q_lstc, q_lst0, q_sl2c, q_sl20, q_sl1c, q_sl10, q_putc, q_put0, q_fstc, q_fst0, PI.q_forc, q_for0, q_itvc, q_itv0, q_rngc, q_rng0, q_itac, q_ita0, q_lcc, q_lc0, q_dicc, q_dic0, q_evk0c, q_evk00, q_evkcc, q_evkc0, q_rsc, q_rs0, q_yesc, q_yes0, q_chc, q_ch0, q_nxc, q_nx0, q_retnc, q_retn0, q_setTc, q_setT0, k_ro, k_rb, k_rl, k_rt, k_asB, k_add, k_sub, k_mul, k_fdiv, k_mod, k_pow, k_addl, k_bini, k_binl, k_lt, k_le, k_gt, k_ge, k_ixl, k_ixt, k_inti, k_intb, k_abs, k_lenl, k_lent, k_max, k_min, k_s0, k_s1, k_s2, k_s3, k_s4, k_s5, k_s6, k_s7, k_t0, k_t1, k_t2, k_t4, k_eqi, k_nei, k_eqs, k_nes, k_itl, k_itt, k_run, k_for0, q_pVc, q_pC, q_blk, nxt, setK, retK, dropK, ifK, ifEK, notK, andK, orK, andVK, orVK, trK, op1K, op2E, op2K, opsK, nmK, exK, evosK, evvK, evrK, wbC, callK, newE, newK, methE, methK, parK, allK, tupK, lstK, sl2K, sl1K, itvK, rngK, itaK, dicK, evkK, rsK, setTK, put1, put2, putD, rdO, rdOs, rdA, finC, retL, r_0e, r_1e, r_1z, r_2e, r_2z, r_3e, r_3z, r_4e, r_4z, r_5e, r_5z, r_6e, r_6z, r_7e, r_7z, r_8e, r_8z, r_9e, r_9z, r_10e, r_10z, r_11e, r_11z, wbS, pmL, pmAt, nmA, L2.atI, L2.ixN, so_eq, o4, o5, o6, o7, o8, o9, o10, o11, opI, b2, e_ii]
  · simp [q_blkc, q_blk0, q_setc, q_set0, q_retc, q_ret0, q_dropc, q_drop0, q_ifc, q_if0, q_ifec, q_ife0, q_testc, q_test0, q_notc, q_not0, q_andc, q_and0, q_orc, q_or0, q_andvc, q_andv0, q_orvc, q_orv0, q_trc, q_tr0, q_op1c, q_op10, q_op2c, q_op20, q_opsc, q_ops0, q_evnmc, q_evnm0, q_evexc, q_evex0, q_evos0c, q_evos00, q_evoscc, q_evosc0, q_eva0c, q_eva00, q_evavc, q_evav0, q_evarc, q_evar0, q_callc, q_call0, q_newc, q_new0, q_methc, q_meth0, q_parc, q_par0, q_all0c, q_all00, q_allcc, q_allc0, q_tupc, q_tup0, q_lstc, q_lst0, q_sl2c, q_sl20, q_sl1c, q_sl10, q_putc, q_put0, q_fstc, q_fst0, PI.q_forc, q_for0, q_itvc, q_itv0, q_rngc, q_rng0, q_itac, q_ita0, q_lcc, q_lc0, q_dicc, q_dic0, q_evk0c, q_evk00, q_evkcc, q_evkc0, q_rsc, q_rs0, q_yesc, q_yes0, q_chc, q_ch0, q_nxc, q_nx0, q_retnc, q_retn0, q_setTc, q_setT0, k_ro, k_rb, k_rl, k_rt, k_asB, k_add, k_sub, k_mul, k_fdiv, k_mod, k_pow, k_addl, k_bini, k_binl, k_lt, k_le, k_gt, k_ge, k_ixl, k_ixt, k_inti, k_intb, k_abs, k_lenl, k_lent, k_max, k_min, k_s0, k_s1, k_s2, k_s3, k_s4, k_s5, k_s6, k_s7, k_t0, k_t1, k_t2, k_t4, k_eqi, k_nei, k_eqs, k_nes, k_itl, k_itt, k_run, k_for0, q_pVc, q_pC, q_blk, nxt, setK, retK, dropK, ifK, ifEK, notK, andK, orK, andVK, orVK, trK, op1K, op2E, op2K, opsK, nmK, exK, evosK, evvK, evrK, wbC, callK, newE, newK, methE, methK, parK, allK, tupK, lstK, sl2K, sl1K, itvK, rngK, itaK, dicK, evkK, rsK, setTK, put1, put2, putD, rdO, rdOs, rdA, finC, retL, r_0e, r_1e, r_1z, r_2e, r_2z, r_3e, r_3z, r_4e, r_4z, r_5e, r_5z, r_6e, r_6z, r_7e, r_7z, r_8e, r_8z, r_9e, r_9z, r_10e, r_10z, r_11e, r_11z, wbS, pmL, pmAt, nmA, L2.atI, L2.ixN, so_eq, o4, o5, o6, o7, o8, o9, o10, o11, o12, opI, b2]
def ev (ρ : Str → Int) (g : Int) : T → Int
  | .cell x => ρ x
  | .pas => g
  | .num n => n
  | .inv a => b2 (ev ρ g a == 0)
  | .bin s a b => opI s (ev ρ g a) (ev ρ g b)
def good (ρ : Str → Int) (g : Int) (ks : List L2.Key) (vs : List D) : T → Prop
  | .cell x => valD ks vs (.inr x) = some (.int (ρ x))
  | .pas => True
  | .num _ => True
  | .inv a => good ρ g ks vs a
  | .bin s a b => good ρ g ks vs a ∧ good ρ g ks vs b ∧ opOk s
def deep : T → Nat
  | .inv a => deep a + 1
  | .bin _ a b => max (deep a) (deep b) + 1
  | _ => 0
theorem worth_v {ρ : Str → Int} {g : Int} {ks : List L2.Key} {vs : List D} : ∀ (n : Nat) (t : T), deep t < n → good ρ g ks vs t → f_worth_of n [enc t, .dic false ks vs, .int g] = .ok (.int (ev ρ g t)) [] := by
  intro n
  induction n with
  | zero => intro t h; omega
  | succ n ih =>
    intro t hd hg
    unfold f_worth_of m_worth_of
    cases t with
    | cell x =>
      have e : valD ks vs (.inr x) = some (.int (ρ x)) := hg
      simp [q_blkc, q_blk0, q_setc, q_set0, q_retc, q_ret0, q_dropc, q_drop0, q_ifc, q_if0, q_ifec, q_ife0, q_testc, q_test0, q_notc, q_not0, q_andc, q_and0, q_orc, q_or0, q_andvc, q_andv0, q_orvc, q_orv0, q_trc, q_tr0, q_op1c, q_op10, q_op2c, q_op20, q_opsc, q_ops0, q_evnmc, q_evnm0, q_evexc, q_evex0, q_evos0c, q_evos00, q_evoscc, q_evosc0, q_eva0c, q_eva00, q_evavc, q_evav0, q_evarc, q_evar0, q_callc, q_call0, q_newc, q_new0, q_methc, q_meth0, q_parc, q_par0, q_all0c, q_all00, q_allcc, q_allc0, q_tupc, q_tup0, q_lstc, q_lst0, q_sl2c, q_sl20, q_sl1c, q_sl10, q_putc, q_put0, q_fstc, q_fst0, PI.q_forc, q_for0, q_itvc, q_itv0, q_rngc, q_rng0, q_itac, q_ita0, q_lcc, q_lc0, q_dicc, q_dic0, q_evk0c, q_evk00, q_evkcc, q_evkc0, q_rsc, q_rs0, q_yesc, q_yes0, q_chc, q_ch0, q_nxc, q_nx0, q_retnc, q_retn0, q_setTc, q_setT0, k_ro, k_rb, k_rl, k_rt, k_asB, k_add, k_sub, k_mul, k_fdiv, k_mod, k_pow, k_addl, k_bini, k_binl, k_lt, k_le, k_gt, k_ge, k_ixl, k_ixt, k_inti, k_intb, k_abs, k_lenl, k_lent, k_max, k_min, k_s0, k_s1, k_s2, k_s3, k_s4, k_s5, k_s6, k_s7, k_t0, k_t1, k_t2, k_t4, k_eqi, k_nei, k_eqs, k_nes, k_itl, k_itt, k_run, k_for0, q_pVc, q_pC, q_blk, nxt, setK, retK, dropK, ifK, ifEK, notK, andK, orK, andVK, orVK, trK, op1K, op2E, op2K, opsK, nmK, exK, evosK, evvK, evrK, wbC, callK, newE, newK, methE, methK, parK, allK, tupK, lstK, sl2K, sl1K, itvK, rngK, itaK, dicK, evkK, rsK, setTK, put1, put2, putD, rdO, rdOs, rdA, finC, retL, r_0e, r_1e, r_1z, r_2e, r_2z, r_3e, r_3z, r_4e, r_4z, r_5e, r_5z, r_6e, r_6z, r_7e, r_7z, r_8e, r_8z, r_9e, r_9z, r_10e, r_10z, r_11e, r_11z, wbS, pmL, pmAt, nmA, L2.atI, L2.ixN, so_eq, enc, q_fld, w_s, w_f, w_d, vals, o0, e, k_ixd, ev]
    | pas => simp [q_blkc, q_blk0, q_setc, q_set0, q_retc, q_ret0, q_dropc, q_drop0, q_ifc, q_if0, q_ifec, q_ife0, q_testc, q_test0, q_notc, q_not0, q_andc, q_and0, q_orc, q_or0, q_andvc, q_andv0, q_orvc, q_orv0, q_trc, q_tr0, q_op1c, q_op10, q_op2c, q_op20, q_opsc, q_ops0, q_evnmc, q_evnm0, q_evexc, q_evex0, q_evos0c, q_evos00, q_evoscc, q_evosc0, q_eva0c, q_eva00, q_evavc, q_evav0, q_evarc, q_evar0, q_callc, q_call0, q_newc, q_new0, q_methc, q_meth0, q_parc, q_par0, q_all0c, q_all00, q_allcc, q_allc0, q_tupc, q_tup0, q_lstc, q_lst0, q_sl2c, q_sl20, q_sl1c, q_sl10, q_putc, q_put0, q_fstc, q_fst0, PI.q_forc, q_for0, q_itvc, q_itv0, q_rngc, q_rng0, q_itac, q_ita0, q_lcc, q_lc0, q_dicc, q_dic0, q_evk0c, q_evk00, q_evkcc, q_evkc0, q_rsc, q_rs0, q_yesc, q_yes0, q_chc, q_ch0, q_nxc, q_nx0, q_retnc, q_retn0, q_setTc, q_setT0, k_ro, k_rb, k_rl, k_rt, k_asB, k_add, k_sub, k_mul, k_fdiv, k_mod, k_pow, k_addl, k_bini, k_binl, k_lt, k_le, k_gt, k_ge, k_ixl, k_ixt, k_inti, k_intb, k_abs, k_lenl, k_lent, k_max, k_min, k_s0, k_s1, k_s2, k_s3, k_s4, k_s5, k_s6, k_s7, k_t0, k_t1, k_t2, k_t4, k_eqi, k_nei, k_eqs, k_nes, k_itl, k_itt, k_run, k_for0, q_pVc, q_pC, q_blk, nxt, setK, retK, dropK, ifK, ifEK, notK, andK, orK, andVK, orVK, trK, op1K, op2E, op2K, opsK, nmK, exK, evosK, evvK, evrK, wbC, callK, newE, newK, methE, methK, parK, allK, tupK, lstK, sl2K, sl1K, itvK, rngK, itaK, dicK, evkK, rsK, setTK, put1, put2, putD, rdO, rdOs, rdA, finC, retL, r_0e, r_1e, r_1z, r_2e, r_2z, r_3e, r_3z, r_4e, r_4z, r_5e, r_5z, r_6e, r_6z, r_7e, r_7z, r_8e, r_8z, r_9e, r_9z, r_10e, r_10z, r_11e, r_11z, wbS, pmL, pmAt, nmA, L2.atI, L2.ixN, so_eq, enc, q_fld, w_s, w_f, w_d, vals, o0, o1, ev]
    | num k => simp [q_blkc, q_blk0, q_setc, q_set0, q_retc, q_ret0, q_dropc, q_drop0, q_ifc, q_if0, q_ifec, q_ife0, q_testc, q_test0, q_notc, q_not0, q_andc, q_and0, q_orc, q_or0, q_andvc, q_andv0, q_orvc, q_orv0, q_trc, q_tr0, q_op1c, q_op10, q_op2c, q_op20, q_opsc, q_ops0, q_evnmc, q_evnm0, q_evexc, q_evex0, q_evos0c, q_evos00, q_evoscc, q_evosc0, q_eva0c, q_eva00, q_evavc, q_evav0, q_evarc, q_evar0, q_callc, q_call0, q_newc, q_new0, q_methc, q_meth0, q_parc, q_par0, q_all0c, q_all00, q_allcc, q_allc0, q_tupc, q_tup0, q_lstc, q_lst0, q_sl2c, q_sl20, q_sl1c, q_sl10, q_putc, q_put0, q_fstc, q_fst0, PI.q_forc, q_for0, q_itvc, q_itv0, q_rngc, q_rng0, q_itac, q_ita0, q_lcc, q_lc0, q_dicc, q_dic0, q_evk0c, q_evk00, q_evkcc, q_evkc0, q_rsc, q_rs0, q_yesc, q_yes0, q_chc, q_ch0, q_nxc, q_nx0, q_retnc, q_retn0, q_setTc, q_setT0, k_ro, k_rb, k_rl, k_rt, k_asB, k_add, k_sub, k_mul, k_fdiv, k_mod, k_pow, k_addl, k_bini, k_binl, k_lt, k_le, k_gt, k_ge, k_ixl, k_ixt, k_inti, k_intb, k_abs, k_lenl, k_lent, k_max, k_min, k_s0, k_s1, k_s2, k_s3, k_s4, k_s5, k_s6, k_s7, k_t0, k_t1, k_t2, k_t4, k_eqi, k_nei, k_eqs, k_nes, k_itl, k_itt, k_run, k_for0, q_pVc, q_pC, q_blk, nxt, setK, retK, dropK, ifK, ifEK, notK, andK, orK, andVK, orVK, trK, op1K, op2E, op2K, opsK, nmK, exK, evosK, evvK, evrK, wbC, callK, newE, newK, methE, methK, parK, allK, tupK, lstK, sl2K, sl1K, itvK, rngK, itaK, dicK, evkK, rsK, setTK, put1, put2, putD, rdO, rdOs, rdA, finC, retL, r_0e, r_1e, r_1z, r_2e, r_2z, r_3e, r_3z, r_4e, r_4z, r_5e, r_5z, r_6e, r_6z, r_7e, r_7z, r_8e, r_8z, r_9e, r_9z, r_10e, r_10z, r_11e, r_11z, wbS, pmL, pmAt, nmA, L2.atI, L2.ixN, so_eq, enc, q_fld, w_s, w_f, w_d, vals, o0, o1, o2, ev]
    | inv a =>
      have da : deep a < n := by have : deep (.inv a) = deep a + 1 := rfl; omega
      have ea := ih a da hg
      simp [q_blkc, q_blk0, q_setc, q_set0, q_retc, q_ret0, q_dropc, q_drop0, q_ifc, q_if0, q_ifec, q_ife0, q_testc, q_test0, q_notc, q_not0, q_andc, q_and0, q_orc, q_or0, q_andvc, q_andv0, q_orvc, q_orv0, q_trc, q_tr0, q_op1c, q_op10, q_op2c, q_op20, q_opsc, q_ops0, q_evnmc, q_evnm0, q_evexc, q_evex0, q_evos0c, q_evos00, q_evoscc, q_evosc0, q_eva0c, q_eva00, q_evavc, q_evav0, q_evarc, q_evar0, q_callc, q_call0, q_newc, q_new0, q_methc, q_meth0, q_parc, q_par0, q_all0c, q_all00, q_allcc, q_allc0, q_tupc, q_tup0, q_lstc, q_lst0, q_sl2c, q_sl20, q_sl1c, q_sl10, q_putc, q_put0, q_fstc, q_fst0, PI.q_forc, q_for0, q_itvc, q_itv0, q_rngc, q_rng0, q_itac, q_ita0, q_lcc, q_lc0, q_dicc, q_dic0, q_evk0c, q_evk00, q_evkcc, q_evkc0, q_rsc, q_rs0, q_yesc, q_yes0, q_chc, q_ch0, q_nxc, q_nx0, q_retnc, q_retn0, q_setTc, q_setT0, k_ro, k_rb, k_rl, k_rt, k_asB, k_add, k_sub, k_mul, k_fdiv, k_mod, k_pow, k_addl, k_bini, k_binl, k_lt, k_le, k_gt, k_ge, k_ixl, k_ixt, k_inti, k_intb, k_abs, k_lenl, k_lent, k_max, k_min, k_s0, k_s1, k_s2, k_s3, k_s4, k_s5, k_s6, k_s7, k_t0, k_t1, k_t2, k_t4, k_eqi, k_nei, k_eqs, k_nes, k_itl, k_itt, k_run, k_for0, q_pVc, q_pC, q_blk, nxt, setK, retK, dropK, ifK, ifEK, notK, andK, orK, andVK, orVK, trK, op1K, op2E, op2K, opsK, nmK, exK, evosK, evvK, evrK, wbC, callK, newE, newK, methE, methK, parK, allK, tupK, lstK, sl2K, sl1K, itvK, rngK, itaK, dicK, evkK, rsK, setTK, put1, put2, putD, rdO, rdOs, rdA, finC, retL, r_0e, r_1e, r_1z, r_2e, r_2z, r_3e, r_3z, r_4e, r_4z, r_5e, r_5z, r_6e, r_6z, r_7e, r_7z, r_8e, r_8z, r_9e, r_9z, r_10e, r_10z, r_11e, r_11z, wbS, pmL, pmAt, nmA, L2.atI, L2.ixN, so_eq, enc, q_fld, w_s, w_f, w_d, vals, o0, o1, o2, o3, ev, ea, b2]
    | bin s a b =>
      obtain ⟨ga, gb, oo⟩ := hg
      have da : deep a < n := by have : deep (.bin s a b) = max (deep a) (deep b) + 1 := rfl; omega
      have db : deep b < n := by have : deep (.bin s a b) = max (deep a) (deep b) + 1 := rfl; omega
      have ea := ih a da ga
      have eb := ih b db gb
      have ep := paired_v (i := ev ρ g a) (j := ev ρ g b) oo
      rcases oo with rfl | rfl | rfl | rfl | rfl <;> simp [q_blkc, q_blk0, q_setc, q_set0, q_retc, q_ret0, q_dropc, q_drop0, q_ifc, q_if0, q_ifec, q_ife0, q_testc, q_test0, q_notc, q_not0, q_andc, q_and0, q_orc, q_or0, q_andvc, q_andv0, q_orvc, q_orv0, q_trc, q_tr0, q_op1c, q_op10, q_op2c, q_op20, q_opsc, q_ops0, q_evnmc, q_evnm0, q_evexc, q_evex0, q_evos0c, q_evos00, q_evoscc, q_evosc0, q_eva0c, q_eva00, q_evavc, q_evav0, q_evarc, q_evar0, q_callc, q_call0, q_newc, q_new0, q_methc, q_meth0, q_parc, q_par0, q_all0c, q_all00, q_allcc, q_allc0, q_tupc, q_tup0, q_lstc, q_lst0, q_sl2c, q_sl20, q_sl1c, q_sl10, q_putc, q_put0, q_fstc, q_fst0, PI.q_forc, q_for0, q_itvc, q_itv0, q_rngc, q_rng0, q_itac, q_ita0, q_lcc, q_lc0, q_dicc, q_dic0, q_evk0c, q_evk00, q_evkcc, q_evkc0, q_rsc, q_rs0, q_yesc, q_yes0, q_chc, q_ch0, q_nxc, q_nx0, q_retnc, q_retn0, q_setTc, q_setT0, k_ro, k_rb, k_rl, k_rt, k_asB, k_add, k_sub, k_mul, k_fdiv, k_mod, k_pow, k_addl, k_bini, k_binl, k_lt, k_le, k_gt, k_ge, k_ixl, k_ixt, k_inti, k_intb, k_abs, k_lenl, k_lent, k_max, k_min, k_s0, k_s1, k_s2, k_s3, k_s4, k_s5, k_s6, k_s7, k_t0, k_t1, k_t2, k_t4, k_eqi, k_nei, k_eqs, k_nes, k_itl, k_itt, k_run, k_for0, q_pVc, q_pC, q_blk, nxt, setK, retK, dropK, ifK, ifEK, notK, andK, orK, andVK, orVK, trK, op1K, op2E, op2K, opsK, nmK, exK, evosK, evvK, evrK, wbC, callK, newE, newK, methE, methK, parK, allK, tupK, lstK, sl2K, sl1K, itvK, rngK, itaK, dicK, evkK, rsK, setTK, put1, put2, putD, rdO, rdOs, rdA, finC, retL, r_0e, r_1e, r_1z, r_2e, r_2z, r_3e, r_3z, r_4e, r_4z, r_5e, r_5z, r_6e, r_6z, r_7e, r_7z, r_8e, r_8z, r_9e, r_9z, r_10e, r_10z, r_11e, r_11z, wbS, pmL, pmAt, nmA, L2.atI, L2.ixN, so_eq, enc, q_fld, w_s, w_f, w_d, vals, o0, o1, o2, o3, o4, o5, o6, o7, o8, o9, o10, o11, o12, ev, ea, eb, ep]
end A06

set_option linter.all false
set_option maxRecDepth 100000
set_option maxHeartbeats 1000000
namespace A06
open PI PySem
def forN (tg : Tg) (b : PF) (ds : List D) : Fl → Sg → Rs Fl
  | .nx, g => forK tg b ds g
  | .ct, g => forK tg b ds g
  | .bk, g => .ok .nx g
  | .rt d, g => .ok (.rt d) g
theorem q_forc {i : Nat} {b : PF} {d : D} {ds : List D} {x : Option D} {g : Sg} (h : i < (x :: g).length) : forK (.nm i) b (d :: ds) (x :: g) = (b ((x :: g).set i (some d))).bind (forN (.nm i) b ds) := by
  show (match (if i < (x :: g).length then some ((x :: g).set i (some d)) else none) with
    | none => Rs.bad
    | some g1 => (b g1).bind _) = _
  rw [if_pos h]
  dsimp only
  congr 1
  funext fl g2
  cases fl <;> rfl
def names : T → List Str
  | .cell x => [x]
  | .inv a => names a
  | .bin _ a b => names a ++ names b
  | _ => []
def small : T → Prop
  | .inv a => small a
  | .bin s a b => small a ∧ small b ∧ opOk s
  | _ => True
theorem s_beq {x y : Str} : (x == y) = decide (x = y) := by
  by_cases h : x = y
  · subst h; simp
  · rw [decide_eq_false h]; exact beq_eq_false_iff_ne.mpr h
theorem k_in3 {x a b c : Str} : cmpD .In (.str x) (.tup [.str a, .str b, .str c]) = some (decide (a = x) || (decide (b = x) || decide (c = x))) := by
  simp [cmpD, inD, flatD, eqF, s_beq]
theorem parts_0 {t : T} (h : ∀ s a b, t ≠ .bin s a b) (h2 : ∀ a, t ≠ .inv a) : f_parts_of [enc t] = .ok (.lst true []) [] := by
  unfold f_parts_of m_parts_of
  cases t with
  | cell x => simp [q_blkc, q_blk0, q_setc, q_set0, q_retc, q_ret0, q_dropc, q_drop0, q_ifc, q_if0, q_ifec, q_ife0, q_testc, q_test0, q_notc, q_not0, q_andc, q_and0, q_orc, q_or0, q_andvc, q_andv0, q_orvc, q_orv0, q_trc, q_tr0, q_op1c, q_op10, q_op2c, q_op20, q_opsc, q_ops0, q_evnmc, q_evnm0, q_evexc, q_evex0, q_evos0c, q_evos00, q_evoscc, q_evosc0, q_eva0c, q_eva00, q_evavc, q_evav0, q_evarc, q_evar0, q_callc, q_call0, q_newc, q_new0, q_methc, q_meth0, q_parc, q_par0, q_all0c, q_all00, q_allcc, q_allc0, q_tupc, q_tup0, q_lstc, q_lst0, q_sl2c, q_sl20, q_sl1c, q_sl10, q_putc, q_put0, q_fstc, q_fst0, PI.q_forc, q_for0, q_itvc, q_itv0, q_rngc, q_rng0, q_itac, q_ita0, q_lcc, q_lc0, q_dicc, q_dic0, q_evk0c, q_evk00, q_evkcc, q_evkc0, q_rsc, q_rs0, q_yesc, q_yes0, q_chc, q_ch0, q_nxc, q_nx0, q_retnc, q_retn0, q_setTc, q_setT0, k_ro, k_rb, k_rl, k_rt, k_asB, k_add, k_sub, k_mul, k_fdiv, k_mod, k_pow, k_addl, k_bini, k_binl, k_lt, k_le, k_gt, k_ge, k_ixl, k_ixt, k_inti, k_intb, k_abs, k_lenl, k_lent, k_max, k_min, k_s0, k_s1, k_s2, k_s3, k_s4, k_s5, k_s6, k_s7, k_t0, k_t1, k_t2, k_t4, k_eqi, k_nei, k_eqs, k_nes, k_itl, k_itt, k_run, k_for0, q_pVc, q_pC, q_blk, nxt, setK, retK, dropK, ifK, ifEK, notK, andK, orK, andVK, orVK, trK, op1K, op2E, op2K, opsK, nmK, exK, evosK, evvK, evrK, wbC, callK, newE, newK, methE, methK, parK, allK, tupK, lstK, sl2K, sl1K, itvK, rngK, itaK, dicK, evkK, rsK, setTK, put1, put2, putD, rdO, rdOs, rdA, finC, retL, r_0e, r_1e, r_1z, r_2e, r_2z, r_3e, r_3z, r_4e, r_4z, r_5e, r_5z, r_6e, r_6z, r_7e, r_7z, r_8e, r_8z, r_9e, r_9z, r_10e, r_10z, r_11e, r_11z, wbS, pmL, pmAt, nmA, L2.atI, L2.ixN, so_eq, enc, q_fld, w_s, w_f, w_d, vals, k_in3]
  | pas => simp [q_blkc, q_blk0, q_setc, q_set0, q_retc, q_ret0, q_dropc, q_drop0, q_ifc, q_if0, q_ifec, q_ife0, q_testc, q_test0, q_notc, q_not0, q_andc, q_and0, q_orc, q_or0, q_andvc, q_andv0, q_orvc, q_orv0, q_trc, q_tr0, q_op1c, q_op10, q_op2c, q_op20, q_opsc, q_ops0, q_evnmc, q_evnm0, q_evexc, q_evex0, q_evos0c, q_evos00, q_evoscc, q_evosc0, q_eva0c, q_eva00, q_evavc, q_evav0, q_evarc, q_evar0, q_callc, q_call0, q_newc, q_new0, q_methc, q_meth0, q_parc, q_par0, q_all0c, q_all00, q_allcc, q_allc0, q_tupc, q_tup0, q_lstc, q_lst0, q_sl2c, q_sl20, q_sl1c, q_sl10, q_putc, q_put0, q_fstc, q_fst0, PI.q_forc, q_for0, q_itvc, q_itv0, q_rngc, q_rng0, q_itac, q_ita0, q_lcc, q_lc0, q_dicc, q_dic0, q_evk0c, q_evk00, q_evkcc, q_evkc0, q_rsc, q_rs0, q_yesc, q_yes0, q_chc, q_ch0, q_nxc, q_nx0, q_retnc, q_retn0, q_setTc, q_setT0, k_ro, k_rb, k_rl, k_rt, k_asB, k_add, k_sub, k_mul, k_fdiv, k_mod, k_pow, k_addl, k_bini, k_binl, k_lt, k_le, k_gt, k_ge, k_ixl, k_ixt, k_inti, k_intb, k_abs, k_lenl, k_lent, k_max, k_min, k_s0, k_s1, k_s2, k_s3, k_s4, k_s5, k_s6, k_s7, k_t0, k_t1, k_t2, k_t4, k_eqi, k_nei, k_eqs, k_nes, k_itl, k_itt, k_run, k_for0, q_pVc, q_pC, q_blk, nxt, setK, retK, dropK, ifK, ifEK, notK, andK, orK, andVK, orVK, trK, op1K, op2E, op2K, opsK, nmK, exK, evosK, evvK, evrK, wbC, callK, newE, newK, methE, methK, parK, allK, tupK, lstK, sl2K, sl1K, itvK, rngK, itaK, dicK, evkK, rsK, setTK, put1, put2, putD, rdO, rdOs, rdA, finC, retL, r_0e, r_1e, r_1z, r_2e, r_2z, r_3e, r_3z, r_4e, r_4z, r_5e, r_5z, r_6e, r_6z, r_7e, r_7z, r_8e, r_8z, r_9e, r_9z, r_10e, r_10z, r_11e, r_11z, wbS, pmL, pmAt, nmA, L2.atI, L2.ixN, so_eq, enc, q_fld, w_s, w_f, w_d, vals, k_in3]
  | num k => simp [q_blkc, q_blk0, q_setc, q_set0, q_retc, q_ret0, q_dropc, q_drop0, q_ifc, q_if0, q_ifec, q_ife0, q_testc, q_test0, q_notc, q_not0, q_andc, q_and0, q_orc, q_or0, q_andvc, q_andv0, q_orvc, q_orv0, q_trc, q_tr0, q_op1c, q_op10, q_op2c, q_op20, q_opsc, q_ops0, q_evnmc, q_evnm0, q_evexc, q_evex0, q_evos0c, q_evos00, q_evoscc, q_evosc0, q_eva0c, q_eva00, q_evavc, q_evav0, q_evarc, q_evar0, q_callc, q_call0, q_newc, q_new0, q_methc, q_meth0, q_parc, q_par0, q_all0c, q_all00, q_allcc, q_allc0, q_tupc, q_tup0, q_lstc, q_lst0, q_sl2c, q_sl20, q_sl1c, q_sl10, q_putc, q_put0, q_fstc, q_fst0, PI.q_forc, q_for0, q_itvc, q_itv0, q_rngc, q_rng0, q_itac, q_ita0, q_lcc, q_lc0, q_dicc, q_dic0, q_evk0c, q_evk00, q_evkcc, q_evkc0, q_rsc, q_rs0, q_yesc, q_yes0, q_chc, q_ch0, q_nxc, q_nx0, q_retnc, q_retn0, q_setTc, q_setT0, k_ro, k_rb, k_rl, k_rt, k_asB, k_add, k_sub, k_mul, k_fdiv, k_mod, k_pow, k_addl, k_bini, k_binl, k_lt, k_le, k_gt, k_ge, k_ixl, k_ixt, k_inti, k_intb, k_abs, k_lenl, k_lent, k_max, k_min, k_s0, k_s1, k_s2, k_s3, k_s4, k_s5, k_s6, k_s7, k_t0, k_t1, k_t2, k_t4, k_eqi, k_nei, k_eqs, k_nes, k_itl, k_itt, k_run, k_for0, q_pVc, q_pC, q_blk, nxt, setK, retK, dropK, ifK, ifEK, notK, andK, orK, andVK, orVK, trK, op1K, op2E, op2K, opsK, nmK, exK, evosK, evvK, evrK, wbC, callK, newE, newK, methE, methK, parK, allK, tupK, lstK, sl2K, sl1K, itvK, rngK, itaK, dicK, evkK, rsK, setTK, put1, put2, putD, rdO, rdOs, rdA, finC, retL, r_0e, r_1e, r_1z, r_2e, r_2z, r_3e, r_3z, r_4e, r_4z, r_5e, r_5z, r_6e, r_6z, r_7e, r_7z, r_8e, r_8z, r_9e, r_9z, r_10e, r_10z, r_11e, r_11z, wbS, pmL, pmAt, nmA, L2.atI, L2.ixN, so_eq, enc, q_fld, w_s, w_f, w_d, vals, k_in3]
  | inv a => exact (h2 a rfl).elim
  | bin s a b => exact (h s a b rfl).elim
theorem parts_1 (a : T) : f_parts_of [enc (.inv a)] = .ok (.lst true [enc a]) [] := by
  unfold f_parts_of m_parts_of
  simp [q_blkc, q_blk0, q_setc, q_set0, q_retc, q_ret0, q_dropc, q_drop0, q_ifc, q_if0, q_ifec, q_ife0, q_testc, q_test0, q_notc, q_not0, q_andc, q_and0, q_orc, q_or0, q_andvc, q_andv0, q_orvc, q_orv0, q_trc, q_tr0, q_op1c, q_op10, q_op2c, q_op20, q_opsc, q_ops0, q_evnmc, q_evnm0, q_evexc, q_evex0, q_evos0c, q_evos00, q_evoscc, q_evosc0, q_eva0c, q_eva00, q_evavc, q_evav0, q_evarc, q_evar0, q_callc, q_call0, q_newc, q_new0, q_methc, q_meth0, q_parc, q_par0, q_all0c, q_all00, q_allcc, q_allc0, q_tupc, q_tup0, q_lstc, q_lst0, q_sl2c, q_sl20, q_sl1c, q_sl10, q_putc, q_put0, q_fstc, q_fst0, PI.q_forc, q_for0, q_itvc, q_itv0, q_rngc, q_rng0, q_itac, q_ita0, q_lcc, q_lc0, q_dicc, q_dic0, q_evk0c, q_evk00, q_evkcc, q_evkc0, q_rsc, q_rs0, q_yesc, q_yes0, q_chc, q_ch0, q_nxc, q_nx0, q_retnc, q_retn0, q_setTc, q_setT0, k_ro, k_rb, k_rl, k_rt, k_asB, k_add, k_sub, k_mul, k_fdiv, k_mod, k_pow, k_addl, k_bini, k_binl, k_lt, k_le, k_gt, k_ge, k_ixl, k_ixt, k_inti, k_intb, k_abs, k_lenl, k_lent, k_max, k_min, k_s0, k_s1, k_s2, k_s3, k_s4, k_s5, k_s6, k_s7, k_t0, k_t1, k_t2, k_t4, k_eqi, k_nei, k_eqs, k_nes, k_itl, k_itt, k_run, k_for0, q_pVc, q_pC, q_blk, nxt, setK, retK, dropK, ifK, ifEK, notK, andK, orK, andVK, orVK, trK, op1K, op2E, op2K, opsK, nmK, exK, evosK, evvK, evrK, wbC, callK, newE, newK, methE, methK, parK, allK, tupK, lstK, sl2K, sl1K, itvK, rngK, itaK, dicK, evkK, rsK, setTK, put1, put2, putD, rdO, rdOs, rdA, finC, retL, r_0e, r_1e, r_1z, r_2e, r_2z, r_3e, r_3z, r_4e, r_4z, r_5e, r_5z, r_6e, r_6z, r_7e, r_7z, r_8e, r_8z, r_9e, r_9z, r_10e, r_10z, r_11e, r_11z, wbS, pmL, pmAt, nmA, L2.atI, L2.ixN, so_eq, enc, q_fld, w_s, w_f, w_d, vals, k_in3, o3]
theorem parts_2 {s : Str} {a b : T} (os : opOk s) : f_parts_of [enc (.bin s a b)] = .ok (.lst true [enc a, enc b]) [] := by
  unfold f_parts_of m_parts_of
  rcases os with rfl | rfl | rfl | rfl | rfl <;> simp [q_blkc, q_blk0, q_setc, q_set0, q_retc, q_ret0, q_dropc, q_drop0, q_ifc, q_if0, q_ifec, q_ife0, q_testc, q_test0, q_notc, q_not0, q_andc, q_and0, q_orc, q_or0, q_andvc, q_andv0, q_orvc, q_orv0, q_trc, q_tr0, q_op1c, q_op10, q_op2c, q_op20, q_opsc, q_ops0, q_evnmc, q_evnm0, q_evexc, q_evex0, q_evos0c, q_evos00, q_evoscc, q_evosc0, q_eva0c, q_eva00, q_evavc, q_evav0, q_evarc, q_evar0, q_callc, q_call0, q_newc, q_new0, q_methc, q_meth0, q_parc, q_par0, q_all0c, q_all00, q_allcc, q_allc0, q_tupc, q_tup0, q_lstc, q_lst0, q_sl2c, q_sl20, q_sl1c, q_sl10, q_putc, q_put0, q_fstc, q_fst0, PI.q_forc, q_for0, q_itvc, q_itv0, q_rngc, q_rng0, q_itac, q_ita0, q_lcc, q_lc0, q_dicc, q_dic0, q_evk0c, q_evk00, q_evkcc, q_evkc0, q_rsc, q_rs0, q_yesc, q_yes0, q_chc, q_ch0, q_nxc, q_nx0, q_retnc, q_retn0, q_setTc, q_setT0, k_ro, k_rb, k_rl, k_rt, k_asB, k_add, k_sub, k_mul, k_fdiv, k_mod, k_pow, k_addl, k_bini, k_binl, k_lt, k_le, k_gt, k_ge, k_ixl, k_ixt, k_inti, k_intb, k_abs, k_lenl, k_lent, k_max, k_min, k_s0, k_s1, k_s2, k_s3, k_s4, k_s5, k_s6, k_s7, k_t0, k_t1, k_t2, k_t4, k_eqi, k_nei, k_eqs, k_nes, k_itl, k_itt, k_run, k_for0, q_pVc, q_pC, q_blk, nxt, setK, retK, dropK, ifK, ifEK, notK, andK, orK, andVK, orVK, trK, op1K, op2E, op2K, opsK, nmK, exK, evosK, evvK, evrK, wbC, callK, newE, newK, methE, methK, parK, allK, tupK, lstK, sl2K, sl1K, itvK, rngK, itaK, dicK, evkK, rsK, setTK, put1, put2, putD, rdO, rdOs, rdA, finC, retL, r_0e, r_1e, r_1z, r_2e, r_2z, r_3e, r_3z, r_4e, r_4z, r_5e, r_5z, r_6e, r_6z, r_7e, r_7z, r_8e, r_8z, r_9e, r_9z, r_10e, r_10z, r_11e, r_11z, wbS, pmL, pmAt, nmA, L2.atI, L2.ixN, so_eq, enc, q_fld, w_s, w_f, w_d, vals, k_in3, o3, o4, o5, o6, o7, o8, o9, o10, o11, o12]
theorem names_v : ∀ (n : Nat) (t : T), deep t < n → small t → (names t).length < 1000 → f_names_in n [enc t] = .ok (.lst false ((names t).map .str)) [] := by
  intro n
  induction n with
  | zero => intro t h; omega
  | succ n ih =>
    intro t hd hs hl
    have p0 := @parts_0 t
    unfold f_names_in m_names_in
    cases t with
    | cell x =>
      have p := p0 (fun _ _ _ z => by cases z) (fun _ z => by cases z)
      simp [q_blkc, q_blk0, q_setc, q_set0, q_retc, q_ret0, q_dropc, q_drop0, q_ifc, q_if0, q_ifec, q_ife0, q_testc, q_test0, q_notc, q_not0, q_andc, q_and0, q_orc, q_or0, q_andvc, q_andv0, q_orvc, q_orv0, q_trc, q_tr0, q_op1c, q_op10, q_op2c, q_op20, q_opsc, q_ops0, q_evnmc, q_evnm0, q_evexc, q_evex0, q_evos0c, q_evos00, q_evoscc, q_evosc0, q_eva0c, q_eva00, q_evavc, q_evav0, q_evarc, q_evar0, q_callc, q_call0, q_newc, q_new0, q_methc, q_meth0, q_parc, q_par0, q_all0c, q_all00, q_allcc, q_allc0, q_tupc, q_tup0, q_lstc, q_lst0, q_sl2c, q_sl20, q_sl1c, q_sl10, q_putc, q_put0, q_fstc, q_fst0, PI.q_forc, q_for0, q_itvc, q_itv0, q_rngc, q_rng0, q_itac, q_ita0, q_lcc, q_lc0, q_dicc, q_dic0, q_evk0c, q_evk00, q_evkcc, q_evkc0, q_rsc, q_rs0, q_yesc, q_yes0, q_chc, q_ch0, q_nxc, q_nx0, q_retnc, q_retn0, q_setTc, q_setT0, k_ro, k_rb, k_rl, k_rt, k_asB, k_add, k_sub, k_mul, k_fdiv, k_mod, k_pow, k_addl, k_bini, k_binl, k_lt, k_le, k_gt, k_ge, k_ixl, k_ixt, k_inti, k_intb, k_abs, k_lenl, k_lent, k_max, k_min, k_s0, k_s1, k_s2, k_s3, k_s4, k_s5, k_s6, k_s7, k_t0, k_t1, k_t2, k_t4, k_eqi, k_nei, k_eqs, k_nes, k_itl, k_itt, k_run, k_for0, q_pVc, q_pC, q_blk, nxt, setK, retK, dropK, ifK, ifEK, notK, andK, orK, andVK, orVK, trK, op1K, op2E, op2K, opsK, nmK, exK, evosK, evvK, evrK, wbC, callK, newE, newK, methE, methK, parK, allK, tupK, lstK, sl2K, sl1K, itvK, rngK, itaK, dicK, evkK, rsK, setTK, put1, put2, putD, rdO, rdOs, rdA, finC, retL, r_0e, r_1e, r_1z, r_2e, r_2z, r_3e, r_3z, r_4e, r_4z, r_5e, r_5z, r_6e, r_6z, r_7e, r_7z, r_8e, r_8z, r_9e, r_9z, r_10e, r_10z, r_11e, r_11z, wbS, pmL, pmAt, nmA, L2.atI, L2.ixN, so_eq, enc, q_fld, w_s, w_f, w_d, vals, o0, names] at p ⊢
      simp [q_blkc, q_blk0, q_setc, q_set0, q_retc, q_ret0, q_dropc, q_drop0, q_ifc, q_if0, q_ifec, q_ife0, q_testc, q_test0, q_notc, q_not0, q_andc, q_and0, q_orc, q_or0, q_andvc, q_andv0, q_orvc, q_orv0, q_trc, q_tr0, q_op1c, q_op10, q_op2c, q_op20, q_opsc, q_ops0, q_evnmc, q_evnm0, q_evexc, q_evex0, q_evos0c, q_evos00, q_evoscc, q_evosc0, q_eva0c, q_eva00, q_evavc, q_evav0, q_evarc, q_evar0, q_callc, q_call0, q_newc, q_new0, q_methc, q_meth0, q_parc, q_par0, q_all0c, q_all00, q_allcc, q_allc0, q_tupc, q_tup0, q_lstc, q_lst0, q_sl2c, q_sl20, q_sl1c, q_sl10, q_putc, q_put0, q_fstc, q_fst0, PI.q_forc, q_for0, q_itvc, q_itv0, q_rngc, q_rng0, q_itac, q_ita0, q_lcc, q_lc0, q_dicc, q_dic0, q_evk0c, q_evk00, q_evkcc, q_evkc0, q_rsc, q_rs0, q_yesc, q_yes0, q_chc, q_ch0, q_nxc, q_nx0, q_retnc, q_retn0, q_setTc, q_setT0, k_ro, k_rb, k_rl, k_rt, k_asB, k_add, k_sub, k_mul, k_fdiv, k_mod, k_pow, k_addl, k_bini, k_binl, k_lt, k_le, k_gt, k_ge, k_ixl, k_ixt, k_inti, k_intb, k_abs, k_lenl, k_lent, k_max, k_min, k_s0, k_s1, k_s2, k_s3, k_s4, k_s5, k_s6, k_s7, k_t0, k_t1, k_t2, k_t4, k_eqi, k_nei, k_eqs, k_nes, k_itl, k_itt, k_run, k_for0, q_pVc, q_pC, q_blk, nxt, setK, retK, dropK, ifK, ifEK, notK, andK, orK, andVK, orVK, trK, op1K, op2E, op2K, opsK, nmK, exK, evosK, evvK, evrK, wbC, callK, newE, newK, methE, methK, parK, allK, tupK, lstK, sl2K, sl1K, itvK, rngK, itaK, dicK, evkK, rsK, setTK, put1, put2, putD, rdO, rdOs, rdA, finC, retL, r_0e, r_1e, r_1z, r_2e, r_2z, r_3e, r_3z, r_4e, r_4z, r_5e, r_5z, r_6e, r_6z, r_7e, r_7z, r_8e, r_8z, r_9e, r_9z, r_10e, r_10z, r_11e, r_11z, wbS, pmL, pmAt, nmA, L2.atI, L2.ixN, so_eq, p, k_for0]
    | pas =>
      have p := p0 (fun _ _ _ z => by cases z) (fun _ z => by cases z)
      simp [q_blkc, q_blk0, q_setc, q_set0, q_retc, q_ret0, q_dropc, q_drop0, q_ifc, q_if0, q_ifec, q_ife0, q_testc, q_test0, q_notc, q_not0, q_andc, q_and0, q_orc, q_or0, q_andvc, q_andv0, q_orvc, q_orv0, q_trc, q_tr0, q_op1c, q_op10, q_op2c, q_op20, q_opsc, q_ops0, q_evnmc, q_evnm0, q_evexc, q_evex0, q_evos0c, q_evos00, q_evoscc, q_evosc0, q_eva0c, q_eva00, q_evavc, q_evav0, q_evarc, q_evar0, q_callc, q_call0, q_newc, q_new0, q_methc, q_meth0, q_parc, q_par0, q_all0c, q_all00, q_allcc, q_allc0, q_tupc, q_tup0, q_lstc, q_lst0, q_sl2c, q_sl20, q_sl1c, q_sl10, q_putc, q_put0, q_fstc, q_fst0, PI.q_forc, q_for0, q_itvc, q_itv0, q_rngc, q_rng0, q_itac, q_ita0, q_lcc, q_lc0, q_dicc, q_dic0, q_evk0c, q_evk00, q_evkcc, q_evkc0, q_rsc, q_rs0, q_yesc, q_yes0, q_chc, q_ch0, q_nxc, q_nx0, q_retnc, q_retn0, q_setTc, q_setT0, k_ro, k_rb, k_rl, k_rt, k_asB, k_add, k_sub, k_mul, k_fdiv, k_mod, k_pow, k_addl, k_bini, k_binl, k_lt, k_le, k_gt, k_ge, k_ixl, k_ixt, k_inti, k_intb, k_abs, k_lenl, k_lent, k_max, k_min, k_s0, k_s1, k_s2, k_s3, k_s4, k_s5, k_s6, k_s7, k_t0, k_t1, k_t2, k_t4, k_eqi, k_nei, k_eqs, k_nes, k_itl, k_itt, k_run, k_for0, q_pVc, q_pC, q_blk, nxt, setK, retK, dropK, ifK, ifEK, notK, andK, orK, andVK, orVK, trK, op1K, op2E, op2K, opsK, nmK, exK, evosK, evvK, evrK, wbC, callK, newE, newK, methE, methK, parK, allK, tupK, lstK, sl2K, sl1K, itvK, rngK, itaK, dicK, evkK, rsK, setTK, put1, put2, putD, rdO, rdOs, rdA, finC, retL, r_0e, r_1e, r_1z, r_2e, r_2z, r_3e, r_3z, r_4e, r_4z, r_5e, r_5z, r_6e, r_6z, r_7e, r_7z, r_8e, r_8z, r_9e, r_9z, r_10e, r_10z, r_11e, r_11z, wbS, pmL, pmAt, nmA, L2.atI, L2.ixN, so_eq, enc, q_fld, w_s, w_f, w_d, vals, o0, o1, names] at p ⊢
      simp [q_blkc, q_blk0, q_setc, q_set0, q_retc, q_ret0, q_dropc, q_drop0, q_ifc, q_if0, q_ifec, q_ife0, q_testc, q_test0, q_notc, q_not0, q_andc, q_and0, q_orc, q_or0, q_andvc, q_andv0, q_orvc, q_orv0, q_trc, q_tr0, q_op1c, q_op10, q_op2c, q_op20, q_opsc, q_ops0, q_evnmc, q_evnm0, q_evexc, q_evex0, q_evos0c, q_evos00, q_evoscc, q_evosc0, q_eva0c, q_eva00, q_evavc, q_evav0, q_evarc, q_evar0, q_callc, q_call0, q_newc, q_new0, q_methc, q_meth0, q_parc, q_par0, q_all0c, q_all00, q_allcc, q_allc0, q_tupc, q_tup0, q_lstc, q_lst0, q_sl2c, q_sl20, q_sl1c, q_sl10, q_putc, q_put0, q_fstc, q_fst0, PI.q_forc, q_for0, q_itvc, q_itv0, q_rngc, q_rng0, q_itac, q_ita0, q_lcc, q_lc0, q_dicc, q_dic0, q_evk0c, q_evk00, q_evkcc, q_evkc0, q_rsc, q_rs0, q_yesc, q_yes0, q_chc, q_ch0, q_nxc, q_nx0, q_retnc, q_retn0, q_setTc, q_setT0, k_ro, k_rb, k_rl, k_rt, k_asB, k_add, k_sub, k_mul, k_fdiv, k_mod, k_pow, k_addl, k_bini, k_binl, k_lt, k_le, k_gt, k_ge, k_ixl, k_ixt, k_inti, k_intb, k_abs, k_lenl, k_lent, k_max, k_min, k_s0, k_s1, k_s2, k_s3, k_s4, k_s5, k_s6, k_s7, k_t0, k_t1, k_t2, k_t4, k_eqi, k_nei, k_eqs, k_nes, k_itl, k_itt, k_run, k_for0, q_pVc, q_pC, q_blk, nxt, setK, retK, dropK, ifK, ifEK, notK, andK, orK, andVK, orVK, trK, op1K, op2E, op2K, opsK, nmK, exK, evosK, evvK, evrK, wbC, callK, newE, newK, methE, methK, parK, allK, tupK, lstK, sl2K, sl1K, itvK, rngK, itaK, dicK, evkK, rsK, setTK, put1, put2, putD, rdO, rdOs, rdA, finC, retL, r_0e, r_1e, r_1z, r_2e, r_2z, r_3e, r_3z, r_4e, r_4z, r_5e, r_5z, r_6e, r_6z, r_7e, r_7z, r_8e, r_8z, r_9e, r_9z, r_10e, r_10z, r_11e, r_11z, wbS, pmL, pmAt, nmA, L2.atI, L2.ixN, so_eq, p, k_for0]
    | num k =>
      have p := p0 (fun _ _ _ z => by cases z) (fun _ z => by cases z)
      simp [q_blkc, q_blk0, q_setc, q_set0, q_retc, q_ret0, q_dropc, q_drop0, q_ifc, q_if0, q_ifec, q_ife0, q_testc, q_test0, q_notc, q_not0, q_andc, q_and0, q_orc, q_or0, q_andvc, q_andv0, q_orvc, q_orv0, q_trc, q_tr0, q_op1c, q_op10, q_op2c, q_op20, q_opsc, q_ops0, q_evnmc, q_evnm0, q_evexc, q_evex0, q_evos0c, q_evos00, q_evoscc, q_evosc0, q_eva0c, q_eva00, q_evavc, q_evav0, q_evarc, q_evar0, q_callc, q_call0, q_newc, q_new0, q_methc, q_meth0, q_parc, q_par0, q_all0c, q_all00, q_allcc, q_allc0, q_tupc, q_tup0, q_lstc, q_lst0, q_sl2c, q_sl20, q_sl1c, q_sl10, q_putc, q_put0, q_fstc, q_fst0, PI.q_forc, q_for0, q_itvc, q_itv0, q_rngc, q_rng0, q_itac, q_ita0, q_lcc, q_lc0, q_dicc, q_dic0, q_evk0c, q_evk00, q_evkcc, q_evkc0, q_rsc, q_rs0, q_yesc, q_yes0, q_chc, q_ch0, q_nxc, q_nx0, q_retnc, q_retn0, q_setTc, q_setT0, k_ro, k_rb, k_rl, k_rt, k_asB, k_add, k_sub, k_mul, k_fdiv, k_mod, k_pow, k_addl, k_bini, k_binl, k_lt, k_le, k_gt, k_ge, k_ixl, k_ixt, k_inti, k_intb, k_abs, k_lenl, k_lent, k_max, k_min, k_s0, k_s1, k_s2, k_s3, k_s4, k_s5, k_s6, k_s7, k_t0, k_t1, k_t2, k_t4, k_eqi, k_nei, k_eqs, k_nes, k_itl, k_itt, k_run, k_for0, q_pVc, q_pC, q_blk, nxt, setK, retK, dropK, ifK, ifEK, notK, andK, orK, andVK, orVK, trK, op1K, op2E, op2K, opsK, nmK, exK, evosK, evvK, evrK, wbC, callK, newE, newK, methE, methK, parK, allK, tupK, lstK, sl2K, sl1K, itvK, rngK, itaK, dicK, evkK, rsK, setTK, put1, put2, putD, rdO, rdOs, rdA, finC, retL, r_0e, r_1e, r_1z, r_2e, r_2z, r_3e, r_3z, r_4e, r_4z, r_5e, r_5z, r_6e, r_6z, r_7e, r_7z, r_8e, r_8z, r_9e, r_9z, r_10e, r_10z, r_11e, r_11z, wbS, pmL, pmAt, nmA, L2.atI, L2.ixN, so_eq, enc, q_fld, w_s, w_f, w_d, vals, o0, o2, names] at p ⊢
      simp [q_blkc, q_blk0, q_setc, q_set0, q_retc, q_ret0, q_dropc, q_drop0, q_ifc, q_if0, q_ifec, q_ife0, q_testc, q_test0, q_notc, q_not0, q_andc, q_and0, q_orc, q_or0, q_andvc, q_andv0, q_orvc, q_orv0, q_trc, q_tr0, q_op1c, q_op10, q_op2c, q_op20, q_opsc, q_ops0, q_evnmc, q_evnm0, q_evexc, q_evex0, q_evos0c, q_evos00, q_evoscc, q_evosc0, q_eva0c, q_eva00, q_evavc, q_evav0, q_evarc, q_evar0, q_callc, q_call0, q_newc, q_new0, q_methc, q_meth0, q_parc, q_par0, q_all0c, q_all00, q_allcc, q_allc0, q_tupc, q_tup0, q_lstc, q_lst0, q_sl2c, q_sl20, q_sl1c, q_sl10, q_putc, q_put0, q_fstc, q_fst0, PI.q_forc, q_for0, q_itvc, q_itv0, q_rngc, q_rng0, q_itac, q_ita0, q_lcc, q_lc0, q_dicc, q_dic0, q_evk0c, q_evk00, q_evkcc, q_evkc0, q_rsc, q_rs0, q_yesc, q_yes0, q_chc, q_ch0, q_nxc, q_nx0, q_retnc, q_retn0, q_setTc, q_setT0, k_ro, k_rb, k_rl, k_rt, k_asB, k_add, k_sub, k_mul, k_fdiv, k_mod, k_pow, k_addl, k_bini, k_binl, k_lt, k_le, k_gt, k_ge, k_ixl, k_ixt, k_inti, k_intb, k_abs, k_lenl, k_lent, k_max, k_min, k_s0, k_s1, k_s2, k_s3, k_s4, k_s5, k_s6, k_s7, k_t0, k_t1, k_t2, k_t4, k_eqi, k_nei, k_eqs, k_nes, k_itl, k_itt, k_run, k_for0, q_pVc, q_pC, q_blk, nxt, setK, retK, dropK, ifK, ifEK, notK, andK, orK, andVK, orVK, trK, op1K, op2E, op2K, opsK, nmK, exK, evosK, evvK, evrK, wbC, callK, newE, newK, methE, methK, parK, allK, tupK, lstK, sl2K, sl1K, itvK, rngK, itaK, dicK, evkK, rsK, setTK, put1, put2, putD, rdO, rdOs, rdA, finC, retL, r_0e, r_1e, r_1z, r_2e, r_2z, r_3e, r_3z, r_4e, r_4z, r_5e, r_5z, r_6e, r_6z, r_7e, r_7z, r_8e, r_8z, r_9e, r_9z, r_10e, r_10z, r_11e, r_11z, wbS, pmL, pmAt, nmA, L2.atI, L2.ixN, so_eq, p, k_for0]
    | inv a =>
      have e : deep (.inv a) = deep a + 1 := rfl
      have en : names (.inv a) = names a := rfl
      rw [en] at hl
      have ea := ih a (by omega) hs hl
      have p := parts_1 a
      have l1 : (names a).length ≤ lim := by unfold lim; omega
      rw [en]
      simp only [enc, vals] at p
      simp [q_blkc, q_blk0, q_setc, q_set0, q_retc, q_ret0, q_dropc, q_drop0, q_ifc, q_if0, q_ifec, q_ife0, q_testc, q_test0, q_notc, q_not0, q_andc, q_and0, q_orc, q_or0, q_andvc, q_andv0, q_orvc, q_orv0, q_trc, q_tr0, q_op1c, q_op10, q_op2c, q_op20, q_opsc, q_ops0, q_evnmc, q_evnm0, q_evexc, q_evex0, q_evos0c, q_evos00, q_evoscc, q_evosc0, q_eva0c, q_eva00, q_evavc, q_evav0, q_evarc, q_evar0, q_callc, q_call0, q_newc, q_new0, q_methc, q_meth0, q_parc, q_par0, q_all0c, q_all00, q_allcc, q_allc0, q_tupc, q_tup0, q_lstc, q_lst0, q_sl2c, q_sl20, q_sl1c, q_sl10, q_putc, q_put0, q_fstc, q_fst0, PI.q_forc, q_for0, q_itvc, q_itv0, q_rngc, q_rng0, q_itac, q_ita0, q_lcc, q_lc0, q_dicc, q_dic0, q_evk0c, q_evk00, q_evkcc, q_evkc0, q_rsc, q_rs0, q_yesc, q_yes0, q_chc, q_ch0, q_nxc, q_nx0, q_retnc, q_retn0, q_setTc, q_setT0, k_ro, k_rb, k_rl, k_rt, k_asB, k_add, k_sub, k_mul, k_fdiv, k_mod, k_pow, k_addl, k_bini, k_binl, k_lt, k_le, k_gt, k_ge, k_ixl, k_ixt, k_inti, k_intb, k_abs, k_lenl, k_lent, k_max, k_min, k_s0, k_s1, k_s2, k_s3, k_s4, k_s5, k_s6, k_s7, k_t0, k_t1, k_t2, k_t4, k_eqi, k_nei, k_eqs, k_nes, k_itl, k_itt, k_run, k_for0, q_pVc, q_pC, q_blk, nxt, setK, retK, dropK, ifK, ifEK, notK, andK, orK, andVK, orVK, trK, op1K, op2E, op2K, opsK, nmK, exK, evosK, evvK, evrK, wbC, callK, newE, newK, methE, methK, parK, allK, tupK, lstK, sl2K, sl1K, itvK, rngK, itaK, dicK, evkK, rsK, setTK, put1, put2, putD, rdO, rdOs, rdA, finC, retL, r_0e, r_1e, r_1z, r_2e, r_2z, r_3e, r_3z, r_4e, r_4z, r_5e, r_5z, r_6e, r_6z, r_7e, r_7z, r_8e, r_8z, r_9e, r_9z, r_10e, r_10z, r_11e, r_11z, wbS, pmL, pmAt, nmA, L2.atI, L2.ixN, so_eq, enc, vals, q_fld, w_s, w_f, w_d, o0, o3, p, q_forc, forN, ea, k_for0, l1]
    | bin s a b =>
      obtain ⟨sa, sb, os⟩ := hs
      have e : deep (.bin s a b) = max (deep a) (deep b) + 1 := rfl
      have en : names (.bin s a b) = names a ++ names b := rfl
      rw [en, List.length_append] at hl
      have ea := ih a (by omega) sa (by omega)
      have eb := ih b (by omega) sb (by omega)
      have p := @parts_2 s a b os
      have l1 : (names a).length ≤ lim := by unfold lim; omega
      have l2 : (names a).length + (names b).length ≤ lim := by unfold lim; omega
      have os' := os
      rw [en]
      rcases os with rfl | rfl | rfl | rfl | rfl <;> simp only [enc, vals] at p <;> simp [q_blkc, q_blk0, q_setc, q_set0, q_retc, q_ret0, q_dropc, q_drop0, q_ifc, q_if0, q_ifec, q_ife0, q_testc, q_test0, q_notc, q_not0, q_andc, q_and0, q_orc, q_or0, q_andvc, q_andv0, q_orvc, q_orv0, q_trc, q_tr0, q_op1c, q_op10, q_op2c, q_op20, q_opsc, q_ops0, q_evnmc, q_evnm0, q_evexc, q_evex0, q_evos0c, q_evos00, q_evoscc, q_evosc0, q_eva0c, q_eva00, q_evavc, q_evav0, q_evarc, q_evar0, q_callc, q_call0, q_newc, q_new0, q_methc, q_meth0, q_parc, q_par0, q_all0c, q_all00, q_allcc, q_allc0, q_tupc, q_tup0, q_lstc, q_lst0, q_sl2c, q_sl20, q_sl1c, q_sl10, q_putc, q_put0, q_fstc, q_fst0, PI.q_forc, q_for0, q_itvc, q_itv0, q_rngc, q_rng0, q_itac, q_ita0, q_lcc, q_lc0, q_dicc, q_dic0, q_evk0c, q_evk00, q_evkcc, q_evkc0, q_rsc, q_rs0, q_yesc, q_yes0, q_chc, q_ch0, q_nxc, q_nx0, q_retnc, q_retn0, q_setTc, q_setT0, k_ro, k_rb, k_rl, k_rt, k_asB, k_add, k_sub, k_mul, k_fdiv, k_mod, k_pow, k_addl, k_bini, k_binl, k_lt, k_le, k_gt, k_ge, k_ixl, k_ixt, k_inti, k_intb, k_abs, k_lenl, k_lent, k_max, k_min, k_s0, k_s1, k_s2, k_s3, k_s4, k_s5, k_s6, k_s7, k_t0, k_t1, k_t2, k_t4, k_eqi, k_nei, k_eqs, k_nes, k_itl, k_itt, k_run, k_for0, q_pVc, q_pC, q_blk, nxt, setK, retK, dropK, ifK, ifEK, notK, andK, orK, andVK, orVK, trK, op1K, op2E, op2K, opsK, nmK, exK, evosK, evvK, evrK, wbC, callK, newE, newK, methE, methK, parK, allK, tupK, lstK, sl2K, sl1K, itvK, rngK, itaK, dicK, evkK, rsK, setTK, put1, put2, putD, rdO, rdOs, rdA, finC, retL, r_0e, r_1e, r_1z, r_2e, r_2z, r_3e, r_3z, r_4e, r_4z, r_5e, r_5z, r_6e, r_6z, r_7e, r_7z, r_8e, r_8z, r_9e, r_9z, r_10e, r_10z, r_11e, r_11z, wbS, pmL, pmAt, nmA, L2.atI, L2.ixN, so_eq, enc, vals, q_fld, w_s, w_f, w_d, o0, o4, o5, o6, o7, o8, o9, o10, o11, o12, p, q_forc, forN, ea, eb, k_for0, l1, l2]
end A06

set_option linter.all false
set_option maxRecDepth 100000
set_option maxHeartbeats 1000000
namespace A06
open PI PySem
theorem strsD_map : ∀ xs : List Str, strsD (xs.map .str) = some xs
  | [] => rfl
  | x :: xs => by
    show (strsD (xs.map .str)).map (x :: ·) = _
    rw [strsD_map xs] <;> rfl
def uniq (t : T) : List Str := sortS ((names t).foldl addS [])
theorem ss_v {t : T} (h : (names t).length < 1000) : ssD (.lst false ((names t).map .str)) = some (.lst true ((uniq t).map .str)) := by
  unfold ssD
  dsimp only
  rw [strsD_map, Option.bind_some, if_pos (by omega)]
  rfl
theorem prop_v {t : T} (hd : deep t < 8) (hs : small t) (hl : (names t).length < 1000) : f_Value_names [enc t] = .ok (.lst true ((uniq t).map .str)) [] := by
  unfold f_Value_names m_Value_names
  simp [q_blkc, q_blk0, q_setc, q_set0, q_retc, q_ret0, q_dropc, q_drop0, q_ifc, q_if0, q_ifec, q_ife0, q_testc, q_test0, q_notc, q_not0, q_andc, q_and0, q_orc, q_or0, q_andvc, q_andv0, q_orvc, q_orv0, q_trc, q_tr0, q_op1c, q_op10, q_op2c, q_op20, q_opsc, q_ops0, q_evnmc, q_evnm0, q_evexc, q_evex0, q_evos0c, q_evos00, q_evoscc, q_evosc0, q_eva0c, q_eva00, q_evavc, q_evav0, q_evarc, q_evar0, q_callc, q_call0, q_newc, q_new0, q_methc, q_meth0, q_parc, q_par0, q_all0c, q_all00, q_allcc, q_allc0, q_tupc, q_tup0, q_lstc, q_lst0, q_sl2c, q_sl20, q_sl1c, q_sl10, q_putc, q_put0, q_fstc, q_fst0, PI.q_forc, q_for0, q_itvc, q_itv0, q_rngc, q_rng0, q_itac, q_ita0, q_lcc, q_lc0, q_dicc, q_dic0, q_evk0c, q_evk00, q_evkcc, q_evkc0, q_rsc, q_rs0, q_yesc, q_yes0, q_chc, q_ch0, q_nxc, q_nx0, q_retnc, q_retn0, q_setTc, q_setT0, k_ro, k_rb, k_rl, k_rt, k_asB, k_add, k_sub, k_mul, k_fdiv, k_mod, k_pow, k_addl, k_bini, k_binl, k_lt, k_le, k_gt, k_ge, k_ixl, k_ixt, k_inti, k_intb, k_abs, k_lenl, k_lent, k_max, k_min, k_s0, k_s1, k_s2, k_s3, k_s4, k_s5, k_s6, k_s7, k_t0, k_t1, k_t2, k_t4, k_eqi, k_nei, k_eqs, k_nes, k_itl, k_itt, k_run, k_for0, q_pVc, q_pC, q_blk, nxt, setK, retK, dropK, ifK, ifEK, notK, andK, orK, andVK, orVK, trK, op1K, op2E, op2K, opsK, nmK, exK, evosK, evvK, evrK, wbC, callK, newE, newK, methE, methK, parK, allK, tupK, lstK, sl2K, sl1K, itvK, rngK, itaK, dicK, evkK, rsK, setTK, put1, put2, putD, rdO, rdOs, rdA, finC, retL, r_0e, r_1e, r_1z, r_2e, r_2z, r_3e, r_3z, r_4e, r_4z, r_5e, r_5z, r_6e, r_6z, r_7e, r_7z, r_8e, r_8z, r_9e, r_9z, r_10e, r_10z, r_11e, r_11z, wbS, pmL, pmAt, nmA, L2.atI, L2.ixN, so_eq, names_v 8 t hd hs hl, ss_v hl]
theorem addS_mem {zs : List Str} {z x : Str} (h : x ∈ addS zs z) : x = z ∨ x ∈ zs := by
  unfold addS at h
  split at h
  · exact .inr h
  · exact List.mem_cons.mp h
theorem foldS_mem : ∀ (xs zs : List Str) {x : Str}, x ∈ xs.foldl addS zs → x ∈ xs ∨ x ∈ zs
  | [], zs, x, h => .inr h
  | y :: xs, zs, x, h => by
    rcases foldS_mem xs (addS zs y) h with z | z
    · exact .inl (List.mem_cons_of_mem _ z)
    · rcases addS_mem z with e | e
      · exact .inl (by rw [e]; exact List.mem_cons_self ..)
      · exact .inr e
theorem uniq_mem {t : T} {x : Str} (h : x ∈ uniq t) : x ∈ names t := by
  have := (sortS_perm _).mem_iff.mp h
  rcases foldS_mem _ _ this with z | z
  · exact z
  · cases z
theorem val_any {x : Str} {d : D} : ∀ {ks : List L2.Key} {vs : List D}, valD ks vs (.inr x) = some d → (ks.any fun j => decide (j = .inr x)) = true
  | [], vs, h => by cases vs <;> cases h
  | k :: ks, [], h => by cases h
  | k :: ks, v :: vs, h => by
    rw [List.any_cons]
    by_cases e : k = .inr x
    · rw [e]; simp
    · have h' : valD ks vs (.inr x) = some d := by
        unfold valD at h
        rw [List.zip_cons_cons, List.find?_cons_of_neg (by simpa using e)] at h
        exact h
      rw [val_any h', Bool.or_true]
theorem good_any {ρ : Str → Int} {g : Int} {ks : List L2.Key} {vs : List D} : ∀ {t : T}, good ρ g ks vs t → ∀ x ∈ names t, (ks.any fun j => decide (j = .inr x)) = true
  | .cell y, h, x, hx => by
    rw [List.mem_singleton.mp hx]
    exact val_any h
  | .pas, _, x, hx => by cases hx
  | .num _, _, x, hx => by cases hx
  | .inv a, h, x, hx => good_any (t := a) h x hx
  | .bin s a b, h, x, hx => by
    obtain ⟨ha, hb, _⟩ := h
    rcases List.mem_append.mp hx with z | z
    · exact good_any ha x z
    · exact good_any hb x z
theorem k_nin {x : Str} {b : Bool} {ks : List L2.Key} {vs : List D} : cmpD .NotIn (.str x) (.dic b ks vs) = some (!(ks.any fun j => decide (j = .inr x))) := rfl
theorem loop_v {ks : List L2.Key} {vs : List D} {a b : Option D} : ∀ (xs : List Str) (o : Option D), (∀ x ∈ xs, (ks.any fun j => decide (j = .inr x)) = true) →
    ∃ o', forK (.nm 3) (pBlk [(pIf (pTest (pOp2 (fun d e g => rb (cmpD .NotIn d e) g) (.nm 3) (.nm 1))) (pBlk [(pRs "UnknownName" (pV 3))]) (pBlk []))]) (xs.map .str) [a, some (.dic false ks vs), b, o] = .ok .nx [a, some (.dic false ks vs), b, o']
  | [], o, h => ⟨o, rfl⟩
  | x :: xs, o, h => by
    obtain ⟨o', e⟩ := loop_v (ks := ks) (vs := vs) (a := a) (b := b) xs (some (.str x)) fun y hy => h y (List.mem_cons_of_mem _ hy)
    refine ⟨o', ?_⟩
    have hx := h x (List.mem_cons_self ..)
    rw [List.map_cons, q_forc (by simp)]
    have q : cmpD .NotIn (.str x) (.dic false ks vs) = some false := by rw [k_nin, hx] <;> rfl
    simp [q_blkc, q_blk0, q_setc, q_set0, q_retc, q_ret0, q_dropc, q_drop0, q_ifc, q_if0, q_ifec, q_ife0, q_testc, q_test0, q_notc, q_not0, q_andc, q_and0, q_orc, q_or0, q_andvc, q_andv0, q_orvc, q_orv0, q_trc, q_tr0, q_op1c, q_op10, q_op2c, q_op20, q_opsc, q_ops0, q_evnmc, q_evnm0, q_evexc, q_evex0, q_evos0c, q_evos00, q_evoscc, q_evosc0, q_eva0c, q_eva00, q_evavc, q_evav0, q_evarc, q_evar0, q_callc, q_call0, q_newc, q_new0, q_methc, q_meth0, q_parc, q_par0, q_all0c, q_all00, q_allcc, q_allc0, q_tupc, q_tup0, q_lstc, q_lst0, q_sl2c, q_sl20, q_sl1c, q_sl10, q_putc, q_put0, q_fstc, q_fst0, PI.q_forc, q_for0, q_itvc, q_itv0, q_rngc, q_rng0, q_itac, q_ita0, q_lcc, q_lc0, q_dicc, q_dic0, q_evk0c, q_evk00, q_evkcc, q_evkc0, q_rsc, q_rs0, q_yesc, q_yes0, q_chc, q_ch0, q_nxc, q_nx0, q_retnc, q_retn0, q_setTc, q_setT0, k_ro, k_rb, k_rl, k_rt, k_asB, k_add, k_sub, k_mul, k_fdiv, k_mod, k_pow, k_addl, k_bini, k_binl, k_lt, k_le, k_gt, k_ge, k_ixl, k_ixt, k_inti, k_intb, k_abs, k_lenl, k_lent, k_max, k_min, k_s0, k_s1, k_s2, k_s3, k_s4, k_s5, k_s6, k_s7, k_t0, k_t1, k_t2, k_t4, k_eqi, k_nei, k_eqs, k_nes, k_itl, k_itt, k_run, k_for0, q_pVc, q_pC, q_blk, nxt, setK, retK, dropK, ifK, ifEK, notK, andK, orK, andVK, orVK, trK, op1K, op2E, op2K, opsK, nmK, exK, evosK, evvK, evrK, wbC, callK, newE, newK, methE, methK, parK, allK, tupK, lstK, sl2K, sl1K, itvK, rngK, itaK, dicK, evkK, rsK, setTK, put1, put2, putD, rdO, rdOs, rdA, finC, retL, r_0e, r_1e, r_1z, r_2e, r_2z, r_3e, r_3z, r_4e, r_4z, r_5e, r_5z, r_6e, r_6z, r_7e, r_7z, r_8e, r_8z, r_9e, r_9z, r_10e, r_10z, r_11e, r_11z, wbS, pmL, pmAt, nmA, L2.atI, L2.ixN, so_eq, q, forN]
    exact e
theorem at_v {ρ : Str → Int} {g : Int} {ks : List L2.Key} {vs : List D} {t : T} (hd : deep t < 8) (hs : small t) (hl : (names t).length < 1000) (hg : good ρ g ks vs t) : f_Value_at [enc t, .dic false ks vs, .int g] = .ok (.int (ev ρ g t)) [] := by
  unfold f_Value_at m_Value_at
  obtain ⟨o, e⟩ := loop_v (ks := ks) (vs := vs) (a := some (enc t)) (b := some (.int g)) (uniq t) none fun x hx => good_any hg x (uniq_mem hx)
  have p := prop_v hd hs hl
  have w := worth_v 8 t hd hg
  have pr : propS [⟨"Value", f_Value_names, [], [.inl 0]⟩] (enc t) [some (enc t), some (.dic false ks vs), some (.int g), none] = .ok (.lst true ((uniq t).map .str)) [some (enc t), some (.dic false ks vs), some (.int g), none] := by
    simp [propS, findC, own1, callA, rdA, pmL, pmAt, nmA, callC, p, r_1e, wbS, noX]
  simp [q_blkc, q_blk0, q_setc, q_set0, q_retc, q_ret0, q_dropc, q_drop0, q_ifc, q_if0, q_ifec, q_ife0, q_testc, q_test0, q_notc, q_not0, q_andc, q_and0, q_orc, q_or0, q_andvc, q_andv0, q_orvc, q_orv0, q_trc, q_tr0, q_op1c, q_op10, q_op2c, q_op20, q_opsc, q_ops0, q_evnmc, q_evnm0, q_evexc, q_evex0, q_evos0c, q_evos00, q_evoscc, q_evosc0, q_eva0c, q_eva00, q_evavc, q_evav0, q_evarc, q_evar0, q_callc, q_call0, q_newc, q_new0, q_methc, q_meth0, q_parc, q_par0, q_all0c, q_all00, q_allcc, q_allc0, q_tupc, q_tup0, q_lstc, q_lst0, q_sl2c, q_sl20, q_sl1c, q_sl10, q_putc, q_put0, q_fstc, q_fst0, PI.q_forc, q_for0, q_itvc, q_itv0, q_rngc, q_rng0, q_itac, q_ita0, q_lcc, q_lc0, q_dicc, q_dic0, q_evk0c, q_evk00, q_evkcc, q_evkc0, q_rsc, q_rs0, q_yesc, q_yes0, q_chc, q_ch0, q_nxc, q_nx0, q_retnc, q_retn0, q_setTc, q_setT0, k_ro, k_rb, k_rl, k_rt, k_asB, k_add, k_sub, k_mul, k_fdiv, k_mod, k_pow, k_addl, k_bini, k_binl, k_lt, k_le, k_gt, k_ge, k_ixl, k_ixt, k_inti, k_intb, k_abs, k_lenl, k_lent, k_max, k_min, k_s0, k_s1, k_s2, k_s3, k_s4, k_s5, k_s6, k_s7, k_t0, k_t1, k_t2, k_t4, k_eqi, k_nei, k_eqs, k_nes, k_itl, k_itt, k_run, k_for0, q_pVc, q_pC, q_blk, nxt, setK, retK, dropK, ifK, ifEK, notK, andK, orK, andVK, orVK, trK, op1K, op2E, op2K, opsK, nmK, exK, evosK, evvK, evrK, wbC, callK, newE, newK, methE, methK, parK, allK, tupK, lstK, sl2K, sl1K, itvK, rngK, itaK, dicK, evkK, rsK, setTK, put1, put2, putD, rdO, rdOs, rdA, finC, retL, r_0e, r_1e, r_1z, r_2e, r_2z, r_3e, r_3z, r_4e, r_4z, r_5e, r_5z, r_6e, r_6z, r_7e, r_7z, r_8e, r_8z, r_9e, r_9z, r_10e, r_10z, r_11e, r_11z, wbS, pmL, pmAt, nmA, L2.atI, L2.ixN, so_eq, pr, e, w]
end A06

set_option linter.all false
set_option maxRecDepth 100000
set_option maxHeartbeats 1000000
namespace A06
open PI PySem
abbrev NL : List Cd := [⟨"Value", f_Value_and, [], [.inl 0, .inl 1]⟩]
abbrev NR : List Cd := [⟨"Value", f_Value_rand, [], [.inl 0, .inl 1]⟩]
abbrev OL : List Cd := [⟨"Value", f_Value_or, [], [.inl 0, .inl 1]⟩]
abbrev OR : List Cd := [⟨"Value", f_Value_ror, [], [.inl 0, .inl 1]⟩]
abbrev SL : List Cd := [⟨"Value", f_Value_sub, [], [.inl 0, .inl 1]⟩]
abbrev SR : List Cd := [⟨"Value", f_Value_rsub, [], [.inl 0, .inl 1]⟩]
theorem bN_vv (a b : T) (g : Sg) : binS .BitAnd NL NR (enc a) (enc b) g = .ok (own (.bin "&" a b)) g := by simp [binS, findC, own2, callA, rdA, pmL, pmAt, nmA, callC, r_2e, wbS, and_v a b]
theorem bN_vi (a : T) (k : Int) (g : Sg) : binS .BitAnd NL NR (enc a) (.int k) g = .ok (own (.bin "&" a (.num k))) g := by simp [binS, findC, own2, callA, rdA, pmL, pmAt, nmA, callC, r_2e, wbS, and_i a k]
theorem bN_iv (a : T) (k : Int) (g : Sg) : binS .BitAnd NL NR (.int k) (enc a) g = .ok (own (.bin "&" (.num k) a)) g := by simp [binS, findC, own2, callA, rdA, pmL, pmAt, nmA, callC, r_2e, wbS, rand_i a k]
theorem bO_vv (a b : T) (g : Sg) : binS .BitOr OL OR (enc a) (enc b) g = .ok (own (.bin "|" a b)) g := by simp [binS, findC, own2, callA, rdA, pmL, pmAt, nmA, callC, r_2e, wbS, or_v a b]
theorem bO_vi (a : T) (k : Int) (g : Sg) : binS .BitOr OL OR (enc a) (.int k) g = .ok (own (.bin "|" a (.num k))) g := by simp [binS, findC, own2, callA, rdA, pmL, pmAt, nmA, callC, r_2e, wbS, or_i a k]
theorem bO_iv (a : T) (k : Int) (g : Sg) : binS .BitOr OL OR (.int k) (enc a) g = .ok (own (.bin "|" (.num k) a)) g := by simp [binS, findC, own2, callA, rdA, pmL, pmAt, nmA, callC, r_2e, wbS, ror_i a k]
theorem bS_vv (a b : T) (g : Sg) : binS .Sub SL SR (enc a) (enc b) g = .ok (own (.bin "-" a b)) g := by simp [binS, findC, own2, callA, rdA, pmL, pmAt, nmA, callC, r_2e, wbS, sub_v a b]
theorem bI_v (a : T) (g : Sg) : invS [⟨"Value", f_Value_invert, [], [.inl 0]⟩] (enc a) g = .ok (own (.inv a)) g := by simp [invS, findC, own1, callA, rdA, pmL, pmAt, nmA, callC, inv_v, r_1e, wbS]
theorem pick_at {ff : List D → Cr} {rf : List Nat} {pm : Pm} {t : T} : pickC "at" [⟨"Value", ff, rf, pm⟩] (enc t) = some ⟨"Value", ff, rf, pm⟩ := by
  simp [pickC, so_eq]
theorem pick_sm {ff : List D → Cr} {rf : List Nat} {pm : Pm} {t : T} : pickC "same" [⟨"Value", ff, rf, pm⟩] (enc t) = some ⟨"Value", ff, rf, pm⟩ := by
  simp [pickC, so_eq]
theorem pick_ls {ff : List D → Cr} {rf : List Nat} {pm : Pm} {t : T} : pickC "less" [⟨"Value", ff, rf, pm⟩] (enc t) = some ⟨"Value", ff, rf, pm⟩ := by
  simp [pickC, so_eq]
def sm (x : Int) : Prop := x.natAbs.log2 < 1900
theorem sm_0 : sm 0 := by unfold sm; decide
theorem sm_1 : sm 1 := by unfold sm; decide
theorem sm_i {P : Prop} [Decidable P] : sm (if P then 1 else 0) := by
  split
  · exact sm_1
  · exact sm_0
theorem rp7 {b : Bool} {x1 x2 x3 x4 x5 x6 x7 : Int} (h1 : sm x1) (h2 : sm x2) (h3 : sm x3) (h4 : sm x4) (h5 : sm x5) (h6 : sm x6) (h7 : sm x7) : reprA [.lst b [.int x1, .int x2, .int x3, .int x4, .int x5, .int x6, .int x7]] = some (.str (reprI [x1, x2, x3, x4, x5, x6, x7])) :=
  reprA_ints (b := b) (ns := [x1, x2, x3, x4, x5, x6, x7]) (by
    intro i hi
    simp only [List.mem_cons, List.not_mem_nil, or_false] at hi
    rcases hi with rfl | rfl | rfl | rfl | rfl | rfl | rfl <;> assumption) (by simp)
theorem rp8 {b : Bool} {x1 x2 x3 x4 x5 x6 x7 x8 : Int} (h1 : sm x1) (h2 : sm x2) (h3 : sm x3) (h4 : sm x4) (h5 : sm x5) (h6 : sm x6) (h7 : sm x7) (h8 : sm x8) : reprA [.lst b [.int x1, .int x2, .int x3, .int x4, .int x5, .int x6, .int x7, .int x8]] = some (.str (reprI [x1, x2, x3, x4, x5, x6, x7, x8])) :=
  reprA_ints (b := b) (ns := [x1, x2, x3, x4, x5, x6, x7, x8]) (by
    intro i hi
    simp only [List.mem_cons, List.not_mem_nil, or_false] at hi
    rcases hi with rfl | rfl | rfl | rfl | rfl | rfl | rfl | rfl <;> assumption) (by simp)
theorem k_neg {i : Int} : negD (.int i) = some (.int (-i)) := rfl
end A06

set_option linter.all false
set_option maxRecDepth 100000
set_option maxHeartbeats 4000000
namespace A06
open PI PySem
theorem two_v (one two g : Int) (l r : T) (ks : List L2.Key) (vs : List D)
    (e1 : f_Value_at [enc (.bin "&" l r), .dic false ks vs, .int g] = .ok (.int (b2 (one != 0 && two != 0))) [])
    (e2 : f_Value_at [enc (.bin "|" l r), .dic false ks vs, .int g] = .ok (.int (b2 (one != 0 || two != 0))) [])
    (e3 : f_Value_at [enc (.bin "=" l r), .dic false ks vs, .int g] = .ok (.int (b2 (one == two))) [])
    (e4 : f_Value_at [enc (.bin "<" l r), .dic false ks vs, .int g] = .ok (.int (b2 (decide (one < two)))) [])
    (e5 : f_Value_at [enc (.inv l), .dic false ks vs, .int g] = .ok (.int (b2 (one == 0))) [])
    (e6 : f_Value_at [enc (.inv r), .dic false ks vs, .int g] = .ok (.int (b2 (two == 0))) [])
    (e7 : f_Value_at [enc (.inv (.inv l)), .dic false ks vs, .int g] = .ok (.int (b2 (one != 0))) []) :
    f_law_two [.int one, .int two, enc l, enc r, .dic false ks vs, .int g] = .ok (.bl true) [] := by
  unfold f_law_two m_law_two
  by_cases h1 : one = 0 <;> by_cases h2 : two = 0
  · subst h1; subst h2
    simp [b2] at e1 e2 e3 e4 e5 e6 e7
    simp [q_blkc, q_blk0, q_setc, q_set0, q_retc, q_ret0, q_dropc, q_drop0, q_ifc, q_if0, q_ifec, q_ife0, q_testc, q_test0, q_notc, q_not0, q_andc, q_and0, q_orc, q_or0, q_andvc, q_andv0, q_orvc, q_orv0, q_trc, q_tr0, q_op1c, q_op10, q_op2c, q_op20, q_opsc, q_ops0, q_evnmc, q_evnm0, q_evexc, q_evex0, q_evos0c, q_evos00, q_evoscc, q_evosc0, q_eva0c, q_eva00, q_evavc, q_evav0, q_evarc, q_evar0, q_callc, q_call0, q_newc, q_new0, q_methc, q_meth0, q_parc, q_par0, q_all0c, q_all00, q_allcc, q_allc0, q_tupc, q_tup0, q_lstc, q_lst0, q_sl2c, q_sl20, q_sl1c, q_sl10, q_putc, q_put0, q_fstc, q_fst0, PI.q_forc, q_for0, q_itvc, q_itv0, q_rngc, q_rng0, q_itac, q_ita0, q_lcc, q_lc0, q_dicc, q_dic0, q_evk0c, q_evk00, q_evkcc, q_evkc0, q_rsc, q_rs0, q_yesc, q_yes0, q_chc, q_ch0, q_nxc, q_nx0, q_retnc, q_retn0, q_setTc, q_setT0, k_ro, k_rb, k_rl, k_rt, k_asB, k_add, k_sub, k_mul, k_fdiv, k_mod, k_pow, k_addl, k_bini, k_binl, k_lt, k_le, k_gt, k_ge, k_ixl, k_ixt, k_inti, k_intb, k_abs, k_lenl, k_lent, k_max, k_min, k_s0, k_s1, k_s2, k_s3, k_s4, k_s5, k_s6, k_s7, k_t0, k_t1, k_t2, k_t4, k_eqi, k_nei, k_eqs, k_nes, k_itl, k_itt, k_run, k_for0, q_pVc, q_pC, q_blk, nxt, setK, retK, dropK, ifK, ifEK, notK, andK, orK, andVK, orVK, trK, op1K, op2E, op2K, opsK, nmK, exK, evosK, evvK, evrK, wbC, callK, newE, newK, methE, methK, parK, allK, tupK, lstK, sl2K, sl1K, itvK, rngK, itaK, dicK, evkK, rsK, setTK, put1, put2, putD, rdO, rdOs, rdA, finC, retL, r_0e, r_1e, r_1z, r_2e, r_2z, r_3e, r_3z, r_4e, r_4z, r_5e, r_5z, r_6e, r_6z, r_7e, r_7z, r_8e, r_8z, r_9e, r_9z, r_10e, r_10z, r_11e, r_11z, wbS, pmL, pmAt, nmA, L2.atI, L2.ixN, so_eq, bN_vv, bO_vv, bI_v, pick_sm, pick_ls, same_v, less_v, e_ii, lcK, freeG, lcD, asg, wipeG, pick_at, e1, e2, e3, e4, e5, e6, e7, rp7, sm_0, sm_1, sm_i, reprI_ok, lim]
  · have hb2 : (two != 0) = true := by simp [h2]
    subst h1
    simp [b2, h2, hb2] at e1 e2 e3 e4 e5 e6 e7
    simp [q_blkc, q_blk0, q_setc, q_set0, q_retc, q_ret0, q_dropc, q_drop0, q_ifc, q_if0, q_ifec, q_ife0, q_testc, q_test0, q_notc, q_not0, q_andc, q_and0, q_orc, q_or0, q_andvc, q_andv0, q_orvc, q_orv0, q_trc, q_tr0, q_op1c, q_op10, q_op2c, q_op20, q_opsc, q_ops0, q_evnmc, q_evnm0, q_evexc, q_evex0, q_evos0c, q_evos00, q_evoscc, q_evosc0, q_eva0c, q_eva00, q_evavc, q_evav0, q_evarc, q_evar0, q_callc, q_call0, q_newc, q_new0, q_methc, q_meth0, q_parc, q_par0, q_all0c, q_all00, q_allcc, q_allc0, q_tupc, q_tup0, q_lstc, q_lst0, q_sl2c, q_sl20, q_sl1c, q_sl10, q_putc, q_put0, q_fstc, q_fst0, PI.q_forc, q_for0, q_itvc, q_itv0, q_rngc, q_rng0, q_itac, q_ita0, q_lcc, q_lc0, q_dicc, q_dic0, q_evk0c, q_evk00, q_evkcc, q_evkc0, q_rsc, q_rs0, q_yesc, q_yes0, q_chc, q_ch0, q_nxc, q_nx0, q_retnc, q_retn0, q_setTc, q_setT0, k_ro, k_rb, k_rl, k_rt, k_asB, k_add, k_sub, k_mul, k_fdiv, k_mod, k_pow, k_addl, k_bini, k_binl, k_lt, k_le, k_gt, k_ge, k_ixl, k_ixt, k_inti, k_intb, k_abs, k_lenl, k_lent, k_max, k_min, k_s0, k_s1, k_s2, k_s3, k_s4, k_s5, k_s6, k_s7, k_t0, k_t1, k_t2, k_t4, k_eqi, k_nei, k_eqs, k_nes, k_itl, k_itt, k_run, k_for0, q_pVc, q_pC, q_blk, nxt, setK, retK, dropK, ifK, ifEK, notK, andK, orK, andVK, orVK, trK, op1K, op2E, op2K, opsK, nmK, exK, evosK, evvK, evrK, wbC, callK, newE, newK, methE, methK, parK, allK, tupK, lstK, sl2K, sl1K, itvK, rngK, itaK, dicK, evkK, rsK, setTK, put1, put2, putD, rdO, rdOs, rdA, finC, retL, r_0e, r_1e, r_1z, r_2e, r_2z, r_3e, r_3z, r_4e, r_4z, r_5e, r_5z, r_6e, r_6z, r_7e, r_7z, r_8e, r_8z, r_9e, r_9z, r_10e, r_10z, r_11e, r_11z, wbS, pmL, pmAt, nmA, L2.atI, L2.ixN, so_eq, bN_vv, bO_vv, bI_v, pick_sm, pick_ls, same_v, less_v, e_ii, lcK, freeG, lcD, asg, wipeG, pick_at, hb2, h2, e1, e2, e3, e4, e5, e6, e7, rp7, sm_0, sm_1, sm_i, reprI_ok, lim]
  · have hb1 : (one != 0) = true := by simp [h1]
    subst h2
    simp [b2, h1, hb1] at e1 e2 e3 e4 e5 e6 e7
    simp [q_blkc, q_blk0, q_setc, q_set0, q_retc, q_ret0, q_dropc, q_drop0, q_ifc, q_if0, q_ifec, q_ife0, q_testc, q_test0, q_notc, q_not0, q_andc, q_and0, q_orc, q_or0, q_andvc, q_andv0, q_orvc, q_orv0, q_trc, q_tr0, q_op1c, q_op10, q_op2c, q_op20, q_opsc, q_ops0, q_evnmc, q_evnm0, q_evexc, q_evex0, q_evos0c, q_evos00, q_evoscc, q_evosc0, q_eva0c, q_eva00, q_evavc, q_evav0, q_evarc, q_evar0, q_callc, q_call0, q_newc, q_new0, q_methc, q_meth0, q_parc, q_par0, q_all0c, q_all00, q_allcc, q_allc0, q_tupc, q_tup0, q_lstc, q_lst0, q_sl2c, q_sl20, q_sl1c, q_sl10, q_putc, q_put0, q_fstc, q_fst0, PI.q_forc, q_for0, q_itvc, q_itv0, q_rngc, q_rng0, q_itac, q_ita0, q_lcc, q_lc0, q_dicc, q_dic0, q_evk0c, q_evk00, q_evkcc, q_evkc0, q_rsc, q_rs0, q_yesc, q_yes0, q_chc, q_ch0, q_nxc, q_nx0, q_retnc, q_retn0, q_setTc, q_setT0, k_ro, k_rb, k_rl, k_rt, k_asB, k_add, k_sub, k_mul, k_fdiv, k_mod, k_pow, k_addl, k_bini, k_binl, k_lt, k_le, k_gt, k_ge, k_ixl, k_ixt, k_inti, k_intb, k_abs, k_lenl, k_lent, k_max, k_min, k_s0, k_s1, k_s2, k_s3, k_s4, k_s5, k_s6, k_s7, k_t0, k_t1, k_t2, k_t4, k_eqi, k_nei, k_eqs, k_nes, k_itl, k_itt, k_run, k_for0, q_pVc, q_pC, q_blk, nxt, setK, retK, dropK, ifK, ifEK, notK, andK, orK, andVK, orVK, trK, op1K, op2E, op2K, opsK, nmK, exK, evosK, evvK, evrK, wbC, callK, newE, newK, methE, methK, parK, allK, tupK, lstK, sl2K, sl1K, itvK, rngK, itaK, dicK, evkK, rsK, setTK, put1, put2, putD, rdO, rdOs, rdA, finC, retL, r_0e, r_1e, r_1z, r_2e, r_2z, r_3e, r_3z, r_4e, r_4z, r_5e, r_5z, r_6e, r_6z, r_7e, r_7z, r_8e, r_8z, r_9e, r_9z, r_10e, r_10z, r_11e, r_11z, wbS, pmL, pmAt, nmA, L2.atI, L2.ixN, so_eq, bN_vv, bO_vv, bI_v, pick_sm, pick_ls, same_v, less_v, e_ii, lcK, freeG, lcD, asg, wipeG, pick_at, hb1, h1, e1, e2, e3, e4, e5, e6, e7, rp7, sm_0, sm_1, sm_i, reprI_ok, lim]
  · have hb1 : (one != 0) = true := by simp [h1]
    have hb2 : (two != 0) = true := by simp [h2]
    simp [b2, h1, hb1, h2, hb2] at e1 e2 e3 e4 e5 e6 e7
    simp [q_blkc, q_blk0, q_setc, q_set0, q_retc, q_ret0, q_dropc, q_drop0, q_ifc, q_if0, q_ifec, q_ife0, q_testc, q_test0, q_notc, q_not0, q_andc, q_and0, q_orc, q_or0, q_andvc, q_andv0, q_orvc, q_orv0, q_trc, q_tr0, q_op1c, q_op10, q_op2c, q_op20, q_opsc, q_ops0, q_evnmc, q_evnm0, q_evexc, q_evex0, q_evos0c, q_evos00, q_evoscc, q_evosc0, q_eva0c, q_eva00, q_evavc, q_evav0, q_evarc, q_evar0, q_callc, q_call0, q_newc, q_new0, q_methc, q_meth0, q_parc, q_par0, q_all0c, q_all00, q_allcc, q_allc0, q_tupc, q_tup0, q_lstc, q_lst0, q_sl2c, q_sl20, q_sl1c, q_sl10, q_putc, q_put0, q_fstc, q_fst0, PI.q_forc, q_for0, q_itvc, q_itv0, q_rngc, q_rng0, q_itac, q_ita0, q_lcc, q_lc0, q_dicc, q_dic0, q_evk0c, q_evk00, q_evkcc, q_evkc0, q_rsc, q_rs0, q_yesc, q_yes0, q_chc, q_ch0, q_nxc, q_nx0, q_retnc, q_retn0, q_setTc, q_setT0, k_ro, k_rb, k_rl, k_rt, k_asB, k_add, k_sub, k_mul, k_fdiv, k_mod, k_pow, k_addl, k_bini, k_binl, k_lt, k_le, k_gt, k_ge, k_ixl, k_ixt, k_inti, k_intb, k_abs, k_lenl, k_lent, k_max, k_min, k_s0, k_s1, k_s2, k_s3, k_s4, k_s5, k_s6, k_s7, k_t0, k_t1, k_t2, k_t4, k_eqi, k_nei, k_eqs, k_nes, k_itl, k_itt, k_run, k_for0, q_pVc, q_pC, q_blk, nxt, setK, retK, dropK, ifK, ifEK, notK, andK, orK, andVK, orVK, trK, op1K, op2E, op2K, opsK, nmK, exK, evosK, evvK, evrK, wbC, callK, newE, newK, methE, methK, parK, allK, tupK, lstK, sl2K, sl1K, itvK, rngK, itaK, dicK, evkK, rsK, setTK, put1, put2, putD, rdO, rdOs, rdA, finC, retL, r_0e, r_1e, r_1z, r_2e, r_2z, r_3e, r_3z, r_4e, r_4z, r_5e, r_5z, r_6e, r_6z, r_7e, r_7z, r_8e, r_8z, r_9e, r_9z, r_10e, r_10z, r_11e, r_11z, wbS, pmL, pmAt, nmA, L2.atI, L2.ixN, so_eq, bN_vv, bO_vv, bI_v, pick_sm, pick_ls, same_v, less_v, e_ii, lcK, freeG, lcD, asg, wipeG, pick_at, hb1, hb2, h1, h2, e1, e2, e3, e4, e5, e6, e7, rp7, sm_0, sm_1, sm_i, reprI_ok, lim]
end A06

set_option linter.all false
set_option maxRecDepth 100000
set_option maxHeartbeats 4000000
namespace A06
open PI PySem
theorem beside_v (one k g : Int) (l : T) (ks : List L2.Key) (vs : List D)
    (e1 : f_Value_at [enc (.bin "&" l (.num k)), .dic false ks vs, .int g] = .ok (.int (b2 (one != 0 && k != 0))) [])
    (e2 : f_Value_at [enc (.bin "&" (.num k) l), .dic false ks vs, .int g] = .ok (.int (b2 (k != 0 && one != 0))) [])
    (e3 : f_Value_at [enc (.bin "|" l (.num k)), .dic false ks vs, .int g] = .ok (.int (b2 (one != 0 || k != 0))) [])
    (e4 : f_Value_at [enc (.bin "|" (.num k) l), .dic false ks vs, .int g] = .ok (.int (b2 (k != 0 || one != 0))) [])
    (e5 : f_Value_at [enc (.bin "=" l (.num k)), .dic false ks vs, .int g] = .ok (.int (b2 (one == k))) [])
    (e6 : f_Value_at [enc (.bin "<" l (.num k)), .dic false ks vs, .int g] = .ok (.int (b2 (decide (one < k)))) []) :
    f_law_beside [.int one, .int k, enc l, .dic false ks vs, .int g] = .ok (.bl true) [] := by
  unfold f_law_beside m_law_beside
  by_cases h1 : one = 0 <;> by_cases h2 : k = 0
  · subst h1
    subst h2
    simp [b2] at e1 e2 e3 e4 e5 e6
    simp [q_blkc, q_blk0, q_setc, q_set0, q_retc, q_ret0, q_dropc, q_drop0, q_ifc, q_if0, q_ifec, q_ife0, q_testc, q_test0, q_notc, q_not0, q_andc, q_and0, q_orc, q_or0, q_andvc, q_andv0, q_orvc, q_orv0, q_trc, q_tr0, q_op1c, q_op10, q_op2c, q_op20, q_opsc, q_ops0, q_evnmc, q_evnm0, q_evexc, q_evex0, q_evos0c, q_evos00, q_evoscc, q_evosc0, q_eva0c, q_eva00, q_evavc, q_evav0, q_evarc, q_evar0, q_callc, q_call0, q_newc, q_new0, q_methc, q_meth0, q_parc, q_par0, q_all0c, q_all00, q_allcc, q_allc0, q_tupc, q_tup0, q_lstc, q_lst0, q_sl2c, q_sl20, q_sl1c, q_sl10, q_putc, q_put0, q_fstc, q_fst0, PI.q_forc, q_for0, q_itvc, q_itv0, q_rngc, q_rng0, q_itac, q_ita0, q_lcc, q_lc0, q_dicc, q_dic0, q_evk0c, q_evk00, q_evkcc, q_evkc0, q_rsc, q_rs0, q_yesc, q_yes0, q_chc, q_ch0, q_nxc, q_nx0, q_retnc, q_retn0, q_setTc, q_setT0, k_ro, k_rb, k_rl, k_rt, k_asB, k_add, k_sub, k_mul, k_fdiv, k_mod, k_pow, k_addl, k_bini, k_binl, k_lt, k_le, k_gt, k_ge, k_ixl, k_ixt, k_inti, k_intb, k_abs, k_lenl, k_lent, k_max, k_min, k_s0, k_s1, k_s2, k_s3, k_s4, k_s5, k_s6, k_s7, k_t0, k_t1, k_t2, k_t4, k_eqi, k_nei, k_eqs, k_nes, k_itl, k_itt, k_run, k_for0, q_pVc, q_pC, q_blk, nxt, setK, retK, dropK, ifK, ifEK, notK, andK, orK, andVK, orVK, trK, op1K, op2E, op2K, opsK, nmK, exK, evosK, evvK, evrK, wbC, callK, newE, newK, methE, methK, parK, allK, tupK, lstK, sl2K, sl1K, itvK, rngK, itaK, dicK, evkK, rsK, setTK, put1, put2, putD, rdO, rdOs, rdA, finC, retL, r_0e, r_1e, r_1z, r_2e, r_2z, r_3e, r_3z, r_4e, r_4z, r_5e, r_5z, r_6e, r_6z, r_7e, r_7z, r_8e, r_8z, r_9e, r_9z, r_10e, r_10z, r_11e, r_11z, wbS, pmL, pmAt, nmA, L2.atI, L2.ixN, so_eq, bN_vi, bN_iv, bO_vi, bO_iv, pick_sm, pick_ls, same_i, less_i, e_ii, lcK, freeG, lcD, asg, wipeG, pick_at, setAll, e1, e2, e3, e4, e5, e6, rp8, sm_0, sm_1, sm_i, reprI_ok, lim]
  · subst h1
    have hb2 : (k != 0) = true := by simp [h2]
    simp [b2, hb2, h2] at e1 e2 e3 e4 e5 e6
    simp [q_blkc, q_blk0, q_setc, q_set0, q_retc, q_ret0, q_dropc, q_drop0, q_ifc, q_if0, q_ifec, q_ife0, q_testc, q_test0, q_notc, q_not0, q_andc, q_and0, q_orc, q_or0, q_andvc, q_andv0, q_orvc, q_orv0, q_trc, q_tr0, q_op1c, q_op10, q_op2c, q_op20, q_opsc, q_ops0, q_evnmc, q_evnm0, q_evexc, q_evex0, q_evos0c, q_evos00, q_evoscc, q_evosc0, q_eva0c, q_eva00, q_evavc, q_evav0, q_evarc, q_evar0, q_callc, q_call0, q_newc, q_new0, q_methc, q_meth0, q_parc, q_par0, q_all0c, q_all00, q_allcc, q_allc0, q_tupc, q_tup0, q_lstc, q_lst0, q_sl2c, q_sl20, q_sl1c, q_sl10, q_putc, q_put0, q_fstc, q_fst0, PI.q_forc, q_for0, q_itvc, q_itv0, q_rngc, q_rng0, q_itac, q_ita0, q_lcc, q_lc0, q_dicc, q_dic0, q_evk0c, q_evk00, q_evkcc, q_evkc0, q_rsc, q_rs0, q_yesc, q_yes0, q_chc, q_ch0, q_nxc, q_nx0, q_retnc, q_retn0, q_setTc, q_setT0, k_ro, k_rb, k_rl, k_rt, k_asB, k_add, k_sub, k_mul, k_fdiv, k_mod, k_pow, k_addl, k_bini, k_binl, k_lt, k_le, k_gt, k_ge, k_ixl, k_ixt, k_inti, k_intb, k_abs, k_lenl, k_lent, k_max, k_min, k_s0, k_s1, k_s2, k_s3, k_s4, k_s5, k_s6, k_s7, k_t0, k_t1, k_t2, k_t4, k_eqi, k_nei, k_eqs, k_nes, k_itl, k_itt, k_run, k_for0, q_pVc, q_pC, q_blk, nxt, setK, retK, dropK, ifK, ifEK, notK, andK, orK, andVK, orVK, trK, op1K, op2E, op2K, opsK, nmK, exK, evosK, evvK, evrK, wbC, callK, newE, newK, methE, methK, parK, allK, tupK, lstK, sl2K, sl1K, itvK, rngK, itaK, dicK, evkK, rsK, setTK, put1, put2, putD, rdO, rdOs, rdA, finC, retL, r_0e, r_1e, r_1z, r_2e, r_2z, r_3e, r_3z, r_4e, r_4z, r_5e, r_5z, r_6e, r_6z, r_7e, r_7z, r_8e, r_8z, r_9e, r_9z, r_10e, r_10z, r_11e, r_11z, wbS, pmL, pmAt, nmA, L2.atI, L2.ixN, so_eq, bN_vi, bN_iv, bO_vi, bO_iv, pick_sm, pick_ls, same_i, less_i, e_ii, lcK, freeG, lcD, asg, wipeG, pick_at, setAll, hb2, h2, e1, e2, e3, e4, e5, e6, rp8, sm_0, sm_1, sm_i, reprI_ok, lim]
  · have hb1 : (one != 0) = true := by simp [h1]
    subst h2
    simp [b2, hb1, h1] at e1 e2 e3 e4 e5 e6
    simp [q_blkc, q_blk0, q_setc, q_set0, q_retc, q_ret0, q_dropc, q_drop0, q_ifc, q_if0, q_ifec, q_ife0, q_testc, q_test0, q_notc, q_not0, q_andc, q_and0, q_orc, q_or0, q_andvc, q_andv0, q_orvc, q_orv0, q_trc, q_tr0, q_op1c, q_op10, q_op2c, q_op20, q_opsc, q_ops0, q_evnmc, q_evnm0, q_evexc, q_evex0, q_evos0c, q_evos00, q_evoscc, q_evosc0, q_eva0c, q_eva00, q_evavc, q_evav0, q_evarc, q_evar0, q_callc, q_call0, q_newc, q_new0, q_methc, q_meth0, q_parc, q_par0, q_all0c, q_all00, q_allcc, q_allc0, q_tupc, q_tup0, q_lstc, q_lst0, q_sl2c, q_sl20, q_sl1c, q_sl10, q_putc, q_put0, q_fstc, q_fst0, PI.q_forc, q_for0, q_itvc, q_itv0, q_rngc, q_rng0, q_itac, q_ita0, q_lcc, q_lc0, q_dicc, q_dic0, q_evk0c, q_evk00, q_evkcc, q_evkc0, q_rsc, q_rs0, q_yesc, q_yes0, q_chc, q_ch0, q_nxc, q_nx0, q_retnc, q_retn0, q_setTc, q_setT0, k_ro, k_rb, k_rl, k_rt, k_asB, k_add, k_sub, k_mul, k_fdiv, k_mod, k_pow, k_addl, k_bini, k_binl, k_lt, k_le, k_gt, k_ge, k_ixl, k_ixt, k_inti, k_intb, k_abs, k_lenl, k_lent, k_max, k_min, k_s0, k_s1, k_s2, k_s3, k_s4, k_s5, k_s6, k_s7, k_t0, k_t1, k_t2, k_t4, k_eqi, k_nei, k_eqs, k_nes, k_itl, k_itt, k_run, k_for0, q_pVc, q_pC, q_blk, nxt, setK, retK, dropK, ifK, ifEK, notK, andK, orK, andVK, orVK, trK, op1K, op2E, op2K, opsK, nmK, exK, evosK, evvK, evrK, wbC, callK, newE, newK, methE, methK, parK, allK, tupK, lstK, sl2K, sl1K, itvK, rngK, itaK, dicK, evkK, rsK, setTK, put1, put2, putD, rdO, rdOs, rdA, finC, retL, r_0e, r_1e, r_1z, r_2e, r_2z, r_3e, r_3z, r_4e, r_4z, r_5e, r_5z, r_6e, r_6z, r_7e, r_7z, r_8e, r_8z, r_9e, r_9z, r_10e, r_10z, r_11e, r_11z, wbS, pmL, pmAt, nmA, L2.atI, L2.ixN, so_eq, bN_vi, bN_iv, bO_vi, bO_iv, pick_sm, pick_ls, same_i, less_i, e_ii, lcK, freeG, lcD, asg, wipeG, pick_at, setAll, hb1, h1, e1, e2, e3, e4, e5, e6, rp8, sm_0, sm_1, sm_i, reprI_ok, lim]
  · have hb1 : (one != 0) = true := by simp [h1]
    have hb2 : (k != 0) = true := by simp [h2]
    simp [b2, hb1, h1, hb2, h2] at e1 e2 e3 e4 e5 e6
    simp [q_blkc, q_blk0, q_setc, q_set0, q_retc, q_ret0, q_dropc, q_drop0, q_ifc, q_if0, q_ifec, q_ife0, q_testc, q_test0, q_notc, q_not0, q_andc, q_and0, q_orc, q_or0, q_andvc, q_andv0, q_orvc, q_orv0, q_trc, q_tr0, q_op1c, q_op10, q_op2c, q_op20, q_opsc, q_ops0, q_evnmc, q_evnm0, q_evexc, q_evex0, q_evos0c, q_evos00, q_evoscc, q_evosc0, q_eva0c, q_eva00, q_evavc, q_evav0, q_evarc, q_evar0, q_callc, q_call0, q_newc, q_new0, q_methc, q_meth0, q_parc, q_par0, q_all0c, q_all00, q_allcc, q_allc0, q_tupc, q_tup0, q_lstc, q_lst0, q_sl2c, q_sl20, q_sl1c, q_sl10, q_putc, q_put0, q_fstc, q_fst0, PI.q_forc, q_for0, q_itvc, q_itv0, q_rngc, q_rng0, q_itac, q_ita0, q_lcc, q_lc0, q_dicc, q_dic0, q_evk0c, q_evk00, q_evkcc, q_evkc0, q_rsc, q_rs0, q_yesc, q_yes0, q_chc, q_ch0, q_nxc, q_nx0, q_retnc, q_retn0, q_setTc, q_setT0, k_ro, k_rb, k_rl, k_rt, k_asB, k_add, k_sub, k_mul, k_fdiv, k_mod, k_pow, k_addl, k_bini, k_binl, k_lt, k_le, k_gt, k_ge, k_ixl, k_ixt, k_inti, k_intb, k_abs, k_lenl, k_lent, k_max, k_min, k_s0, k_s1, k_s2, k_s3, k_s4, k_s5, k_s6, k_s7, k_t0, k_t1, k_t2, k_t4, k_eqi, k_nei, k_eqs, k_nes, k_itl, k_itt, k_run, k_for0, q_pVc, q_pC, q_blk, nxt, setK, retK, dropK, ifK, ifEK, notK, andK, orK, andVK, orVK, trK, op1K, op2E, op2K, opsK, nmK, exK, evosK, evvK, evrK, wbC, callK, newE, newK, methE, methK, parK, allK, tupK, lstK, sl2K, sl1K, itvK, rngK, itaK, dicK, evkK, rsK, setTK, put1, put2, putD, rdO, rdOs, rdA, finC, retL, r_0e, r_1e, r_1z, r_2e, r_2z, r_3e, r_3z, r_4e, r_4z, r_5e, r_5z, r_6e, r_6z, r_7e, r_7z, r_8e, r_8z, r_9e, r_9z, r_10e, r_10z, r_11e, r_11z, wbS, pmL, pmAt, nmA, L2.atI, L2.ixN, so_eq, bN_vi, bN_iv, bO_vi, bO_iv, pick_sm, pick_ls, same_i, less_i, e_ii, lcK, freeG, lcD, asg, wipeG, pick_at, setAll, hb1, h1, hb2, h2, e1, e2, e3, e4, e5, e6, rp8, sm_0, sm_1, sm_i, reprI_ok, lim]
end A06

set_option linter.all false
set_option maxRecDepth 100000
set_option maxHeartbeats 4000000
namespace A06
open PI PySem
theorem cell_x : f_cell [.str "x"] = .ok (own (.cell "x")) [] := by kernel_rfl
theorem cell_y : f_cell [.str "y"] = .ok (own (.cell "y")) [] := by kernel_rfl
abbrev KS : List L2.Key := [.inr "x", .inr "y"]
abbrev VS (one two : Int) : List D := [.int one, .int two]
def rho (one two : Int) (x : Str) : Int := if x = "x" then one else two
theorem gx {one two : Int} : valD KS (VS one two) (.inr "x") = some (.int (rho one two "x")) := by simp [valD, rho]
theorem gy {one two : Int} : valD KS (VS one two) (.inr "y") = some (.int (rho one two "y")) := by simp [valD, rho, so_eq]
abbrev X : T := .cell "x"
abbrev Y : T := .cell "y"
theorem ev_b {ρ : Str → Int} {g : Int} {s : Str} {a b : T} : ev ρ g (.bin s a b) = opI s (ev ρ g a) (ev ρ g b) := rfl
/-- a value that is fit: not deep, few names -/
structure Fit (one two g : Int) (t : T) (v : Int) (d : Nat) : Prop where
  deep : deep t ≤ d
  small : small t
  few : (names t).length ≤ 2 ^ d
  good : good (rho one two) g KS (VS one two) t
  ev : ev (rho one two) g t = v
section
variable {one two g : Int} {a b : T} {v u : Int} {d : Nat}
theorem Fit.at (f : Fit one two g a v d) (hd : d ≤ 7) : f_Value_at [enc a, .dic false KS (VS one two), .int g] = .ok (.int v) [] := by
  rw [← f.ev]
  exact at_v (by have := f.deep; omega) f.small (by have := f.few; have : 2 ^ d ≤ 2 ^ 7 := Nat.pow_le_pow_right (by decide) hd; omega) f.good
theorem Fit.bin {s : Str} (fa : Fit one two g a v d) (fb : Fit one two g b u d) (o : opOk s) : Fit one two g (.bin s a b) (opI s v u) (d + 1) := by
  refine ⟨?_, ⟨fa.small, fb.small, o⟩, ?_, ⟨fa.good, fb.good, o⟩, ?_⟩
  · have h1 := fa.deep
    have h2 := fb.deep
    show max (A06.deep a) (A06.deep b) + 1 ≤ d + 1
    omega
  · have h1 := fa.few
    have h2 := fb.few
    show (names a ++ names b).length ≤ 2 ^ (d + 1)
    rw [List.length_append, Nat.pow_succ]
    omega
  · rw [ev_b, fa.ev, fb.ev]
theorem Fit.inv (fa : Fit one two g a v d) : Fit one two g (.inv a) (b2 (v == 0)) (d + 1) := by
  refine ⟨?_, fa.small, Nat.le_trans fa.few (Nat.pow_le_pow_right (by decide) (Nat.le_succ d)), fa.good, ?_⟩
  · have h1 := fa.deep
    show A06.deep a + 1 ≤ d + 1
    omega
  · show b2 (A06.ev (rho one two) g a == 0) = _
    rw [fa.ev]
theorem Fit.up (fa : Fit one two g a v d) : Fit one two g a v (d + 1) :=
  ⟨Nat.le_succ_of_le fa.deep, fa.small, Nat.le_trans fa.few (Nat.pow_le_pow_right (by decide) (Nat.le_succ d)), fa.good, fa.ev⟩
theorem Fit.as {w : Int} (fa : Fit one two g a v d) (e : v = w) : Fit one two g a w d := e ▸ fa
theorem fX : Fit one two g X one 0 := ⟨by decide, trivial, by decide, gx, by simp [ev, rho]⟩
theorem fY : Fit one two g Y two 0 := ⟨by decide, trivial, by decide, gy, by simp [ev, rho, so_eq]⟩
theorem fP : Fit one two g .pas g 0 := ⟨by decide, trivial, by decide, trivial, rfl⟩
theorem fN (k : Int) : Fit one two g (.num k) k 0 := ⟨Nat.le_refl 0, trivial, Nat.zero_le _, trivial, rfl⟩
theorem oS (i j : Int) : opI "-" i j = i - j := by simp [opI, so_eq]
theorem oN (i j : Int) : opI "&" i j = b2 (i != 0 && j != 0) := by simp [opI, so_eq]
theorem oO (i j : Int) : opI "|" i j = b2 (i != 0 || j != 0) := by simp [opI, so_eq]
theorem oE (i j : Int) : opI "=" i j = b2 (i == j) := by simp [opI, so_eq]
theorem oL (i j : Int) : opI "<" i j = b2 (decide (i < j)) := by simp [opI, so_eq]
theorem nn (i : Int) : b2 (b2 (i == 0) == 0) = b2 (i != 0) := by
  by_cases h : i = 0 <;> simp [b2, h]
theorem Fit.tw {o t : Int} {l r : T} (fl : Fit one two g l o d) (fr : Fit one two g r t d) (hd : d ≤ 5) : f_law_two [.int o, .int t, enc l, enc r, .dic false KS (VS one two), .int g] = .ok (.bl true) [] :=
  two_v o t g l r KS (VS one two) (((fl.bin fr (.inr (.inl rfl))).as (oN o t)).at (by omega)) (((fl.bin fr (.inr (.inr (.inl rfl)))).as (oO o t)).at (by omega))
    (((fl.bin fr (.inr (.inr (.inr (.inl rfl))))).as (oE o t)).at (by omega)) (((fl.bin fr (.inr (.inr (.inr (.inr rfl))))).as (oL o t)).at (by omega)) (fl.inv.at (by omega)) (fr.inv.at (by omega)) ((fl.inv.inv.as (nn o)).at (by omega))
theorem Fit.beside {o : Int} {l : T} (fl : Fit one two g l o 0) (k : Int) : f_law_beside [.int o, .int k, enc l, .dic false KS (VS one two), .int g] = .ok (.bl true) [] :=
  beside_v o k g l KS (VS one two) (((fl.bin (fN k) (.inr (.inl rfl))).as (oN o k)).at (by omega)) ((((fN k).bin fl (.inr (.inl rfl))).as (oN k o)).at (by omega))
    (((fl.bin (fN k) (.inr (.inr (.inl rfl)))).as (oO o k)).at (by omega)) ((((fN k).bin fl (.inr (.inr (.inl rfl)))).as (oO k o)).at (by omega))
    (((fl.bin (fN k) (.inr (.inr (.inr (.inl rfl))))).as (oE o k)).at (by omega)) (((fl.bin (fN k) (.inr (.inr (.inr (.inr rfl))))).as (oL o k)).at (by omega))
end
theorem near_w {n : Int} {u : D} (h : Wl n u) (hn : n + 10 < 2^20) (k : Int) : ∃ r v, f_law_near [u, .int k] = .ok (.int r) [v] ∧ Wl (n + 5) v := by
  obtain ⟨m, u1, e1, a1, b1, w1⟩ := number_w h (by omega)
  obtain ⟨t, u2, e2, a2, b2', w2⟩ := take_w w1 (by omega) (m := 6) (by decide) (by decide)
  have q1 : mulOk 2 1000000000000000 = true := by decide
  have w3 : Wl (n + 5) u2 := by
    obtain ⟨a, b, c, q, r1, r2, r3, r4, r5⟩ := w2
    exact ⟨a, b, c, q, r1, r2, r3, r4, by omega⟩
  have s : t = 0 ∨ t = 1 ∨ t = 2 ∨ t = 3 ∨ t = 4 ∨ t = 5 := by omega
  rcases s with rfl | rfl | rfl | rfl | rfl | rfl
  · refine ⟨k, u2, ?_, w3⟩
    unfold f_law_near m_law_near
    simp [q_blkc, q_blk0, q_setc, q_set0, q_retc, q_ret0, q_dropc, q_drop0, q_ifc, q_if0, q_ifec, q_ife0, q_testc, q_test0, q_notc, q_not0, q_andc, q_and0, q_orc, q_or0, q_andvc, q_andv0, q_orvc, q_orv0, q_trc, q_tr0, q_op1c, q_op10, q_op2c, q_op20, q_opsc, q_ops0, q_evnmc, q_evnm0, q_evexc, q_evex0, q_evos0c, q_evos00, q_evoscc, q_evosc0, q_eva0c, q_eva00, q_evavc, q_evav0, q_evarc, q_evar0, q_callc, q_call0, q_newc, q_new0, q_methc, q_meth0, q_parc, q_par0, q_all0c, q_all00, q_allcc, q_allc0, q_tupc, q_tup0, q_lstc, q_lst0, q_sl2c, q_sl20, q_sl1c, q_sl10, q_putc, q_put0, q_fstc, q_fst0, PI.q_forc, q_for0, q_itvc, q_itv0, q_rngc, q_rng0, q_itac, q_ita0, q_lcc, q_lc0, q_dicc, q_dic0, q_evk0c, q_evk00, q_evkcc, q_evkc0, q_rsc, q_rs0, q_yesc, q_yes0, q_chc, q_ch0, q_nxc, q_nx0, q_retnc, q_retn0, q_setTc, q_setT0, k_ro, k_rb, k_rl, k_rt, k_asB, k_add, k_sub, k_mul, k_fdiv, k_mod, k_pow, k_addl, k_bini, k_binl, k_lt, k_le, k_gt, k_ge, k_ixl, k_ixt, k_inti, k_intb, k_abs, k_lenl, k_lent, k_max, k_min, k_s0, k_s1, k_s2, k_s3, k_s4, k_s5, k_s6, k_s7, k_t0, k_t1, k_t2, k_t4, k_eqi, k_nei, k_eqs, k_nes, k_itl, k_itt, k_run, k_for0, q_pVc, q_pC, q_blk, nxt, setK, retK, dropK, ifK, ifEK, notK, andK, orK, andVK, orVK, trK, op1K, op2E, op2K, opsK, nmK, exK, evosK, evvK, evrK, wbC, callK, newE, newK, methE, methK, parK, allK, tupK, lstK, sl2K, sl1K, itvK, rngK, itaK, dicK, evkK, rsK, setTK, put1, put2, putD, rdO, rdOs, rdA, finC, retL, r_0e, r_1e, r_1z, r_2e, r_2z, r_3e, r_3z, r_4e, r_4z, r_5e, r_5z, r_6e, r_6z, r_7e, r_7z, r_8e, r_8z, r_9e, r_9z, r_10e, r_10z, r_11e, r_11z, wbS, pmL, pmAt, nmA, L2.atI, L2.ixN, so_eq, e1, e2, p15, q1, k_neg, lim]
  · refine ⟨k + 1, u2, ?_, w3⟩
    unfold f_law_near m_law_near
    simp [q_blkc, q_blk0, q_setc, q_set0, q_retc, q_ret0, q_dropc, q_drop0, q_ifc, q_if0, q_ifec, q_ife0, q_testc, q_test0, q_notc, q_not0, q_andc, q_and0, q_orc, q_or0, q_andvc, q_andv0, q_orvc, q_orv0, q_trc, q_tr0, q_op1c, q_op10, q_op2c, q_op20, q_opsc, q_ops0, q_evnmc, q_evnm0, q_evexc, q_evex0, q_evos0c, q_evos00, q_evoscc, q_evosc0, q_eva0c, q_eva00, q_evavc, q_evav0, q_evarc, q_evar0, q_callc, q_call0, q_newc, q_new0, q_methc, q_meth0, q_parc, q_par0, q_all0c, q_all00, q_allcc, q_allc0, q_tupc, q_tup0, q_lstc, q_lst0, q_sl2c, q_sl20, q_sl1c, q_sl10, q_putc, q_put0, q_fstc, q_fst0, PI.q_forc, q_for0, q_itvc, q_itv0, q_rngc, q_rng0, q_itac, q_ita0, q_lcc, q_lc0, q_dicc, q_dic0, q_evk0c, q_evk00, q_evkcc, q_evkc0, q_rsc, q_rs0, q_yesc, q_yes0, q_chc, q_ch0, q_nxc, q_nx0, q_retnc, q_retn0, q_setTc, q_setT0, k_ro, k_rb, k_rl, k_rt, k_asB, k_add, k_sub, k_mul, k_fdiv, k_mod, k_pow, k_addl, k_bini, k_binl, k_lt, k_le, k_gt, k_ge, k_ixl, k_ixt, k_inti, k_intb, k_abs, k_lenl, k_lent, k_max, k_min, k_s0, k_s1, k_s2, k_s3, k_s4, k_s5, k_s6, k_s7, k_t0, k_t1, k_t2, k_t4, k_eqi, k_nei, k_eqs, k_nes, k_itl, k_itt, k_run, k_for0, q_pVc, q_pC, q_blk, nxt, setK, retK, dropK, ifK, ifEK, notK, andK, orK, andVK, orVK, trK, op1K, op2E, op2K, opsK, nmK, exK, evosK, evvK, evrK, wbC, callK, newE, newK, methE, methK, parK, allK, tupK, lstK, sl2K, sl1K, itvK, rngK, itaK, dicK, evkK, rsK, setTK, put1, put2, putD, rdO, rdOs, rdA, finC, retL, r_0e, r_1e, r_1z, r_2e, r_2z, r_3e, r_3z, r_4e, r_4z, r_5e, r_5z, r_6e, r_6z, r_7e, r_7z, r_8e, r_8z, r_9e, r_9z, r_10e, r_10z, r_11e, r_11z, wbS, pmL, pmAt, nmA, L2.atI, L2.ixN, so_eq, e1, e2, p15, q1, k_neg, lim]
  · refine ⟨k - 1, u2, ?_, w3⟩
    unfold f_law_near m_law_near
    simp [q_blkc, q_blk0, q_setc, q_set0, q_retc, q_ret0, q_dropc, q_drop0, q_ifc, q_if0, q_ifec, q_ife0, q_testc, q_test0, q_notc, q_not0, q_andc, q_and0, q_orc, q_or0, q_andvc, q_andv0, q_orvc, q_orv0, q_trc, q_tr0, q_op1c, q_op10, q_op2c, q_op20, q_opsc, q_ops0, q_evnmc, q_evnm0, q_evexc, q_evex0, q_evos0c, q_evos00, q_evoscc, q_evosc0, q_eva0c, q_eva00, q_evavc, q_evav0, q_evarc, q_evar0, q_callc, q_call0, q_newc, q_new0, q_methc, q_meth0, q_parc, q_par0, q_all0c, q_all00, q_allcc, q_allc0, q_tupc, q_tup0, q_lstc, q_lst0, q_sl2c, q_sl20, q_sl1c, q_sl10, q_putc, q_put0, q_fstc, q_fst0, PI.q_forc, q_for0, q_itvc, q_itv0, q_rngc, q_rng0, q_itac, q_ita0, q_lcc, q_lc0, q_dicc, q_dic0, q_evk0c, q_evk00, q_evkcc, q_evkc0, q_rsc, q_rs0, q_yesc, q_yes0, q_chc, q_ch0, q_nxc, q_nx0, q_retnc, q_retn0, q_setTc, q_setT0, k_ro, k_rb, k_rl, k_rt, k_asB, k_add, k_sub, k_mul, k_fdiv, k_mod, k_pow, k_addl, k_bini, k_binl, k_lt, k_le, k_gt, k_ge, k_ixl, k_ixt, k_inti, k_intb, k_abs, k_lenl, k_lent, k_max, k_min, k_s0, k_s1, k_s2, k_s3, k_s4, k_s5, k_s6, k_s7, k_t0, k_t1, k_t2, k_t4, k_eqi, k_nei, k_eqs, k_nes, k_itl, k_itt, k_run, k_for0, q_pVc, q_pC, q_blk, nxt, setK, retK, dropK, ifK, ifEK, notK, andK, orK, andVK, orVK, trK, op1K, op2E, op2K, opsK, nmK, exK, evosK, evvK, evrK, wbC, callK, newE, newK, methE, methK, parK, allK, tupK, lstK, sl2K, sl1K, itvK, rngK, itaK, dicK, evkK, rsK, setTK, put1, put2, putD, rdO, rdOs, rdA, finC, retL, r_0e, r_1e, r_1z, r_2e, r_2z, r_3e, r_3z, r_4e, r_4z, r_5e, r_5z, r_6e, r_6z, r_7e, r_7z, r_8e, r_8z, r_9e, r_9z, r_10e, r_10z, r_11e, r_11z, wbS, pmL, pmAt, nmA, L2.atI, L2.ixN, so_eq, e1, e2, p15, q1, k_neg, lim]
  · refine ⟨0, u2, ?_, w3⟩
    unfold f_law_near m_law_near
    simp [q_blkc, q_blk0, q_setc, q_set0, q_retc, q_ret0, q_dropc, q_drop0, q_ifc, q_if0, q_ifec, q_ife0, q_testc, q_test0, q_notc, q_not0, q_andc, q_and0, q_orc, q_or0, q_andvc, q_andv0, q_orvc, q_orv0, q_trc, q_tr0, q_op1c, q_op10, q_op2c, q_op20, q_opsc, q_ops0, q_evnmc, q_evnm0, q_evexc, q_evex0, q_evos0c, q_evos00, q_evoscc, q_evosc0, q_eva0c, q_eva00, q_evavc, q_evav0, q_evarc, q_evar0, q_callc, q_call0, q_newc, q_new0, q_methc, q_meth0, q_parc, q_par0, q_all0c, q_all00, q_allcc, q_allc0, q_tupc, q_tup0, q_lstc, q_lst0, q_sl2c, q_sl20, q_sl1c, q_sl10, q_putc, q_put0, q_fstc, q_fst0, PI.q_forc, q_for0, q_itvc, q_itv0, q_rngc, q_rng0, q_itac, q_ita0, q_lcc, q_lc0, q_dicc, q_dic0, q_evk0c, q_evk00, q_evkcc, q_evkc0, q_rsc, q_rs0, q_yesc, q_yes0, q_chc, q_ch0, q_nxc, q_nx0, q_retnc, q_retn0, q_setTc, q_setT0, k_ro, k_rb, k_rl, k_rt, k_asB, k_add, k_sub, k_mul, k_fdiv, k_mod, k_pow, k_addl, k_bini, k_binl, k_lt, k_le, k_gt, k_ge, k_ixl, k_ixt, k_inti, k_intb, k_abs, k_lenl, k_lent, k_max, k_min, k_s0, k_s1, k_s2, k_s3, k_s4, k_s5, k_s6, k_s7, k_t0, k_t1, k_t2, k_t4, k_eqi, k_nei, k_eqs, k_nes, k_itl, k_itt, k_run, k_for0, q_pVc, q_pC, q_blk, nxt, setK, retK, dropK, ifK, ifEK, notK, andK, orK, andVK, orVK, trK, op1K, op2E, op2K, opsK, nmK, exK, evosK, evvK, evrK, wbC, callK, newE, newK, methE, methK, parK, allK, tupK, lstK, sl2K, sl1K, itvK, rngK, itaK, dicK, evkK, rsK, setTK, put1, put2, putD, rdO, rdOs, rdA, finC, retL, r_0e, r_1e, r_1z, r_2e, r_2z, r_3e, r_3z, r_4e, r_4z, r_5e, r_5z, r_6e, r_6z, r_7e, r_7z, r_8e, r_8z, r_9e, r_9z, r_10e, r_10z, r_11e, r_11z, wbS, pmL, pmAt, nmA, L2.atI, L2.ixN, so_eq, e1, e2, p15, q1, k_neg, lim]
  · refine ⟨-k, u2, ?_, w3⟩
    unfold f_law_near m_law_near
    simp [q_blkc, q_blk0, q_setc, q_set0, q_retc, q_ret0, q_dropc, q_drop0, q_ifc, q_if0, q_ifec, q_ife0, q_testc, q_test0, q_notc, q_not0, q_andc, q_and0, q_orc, q_or0, q_andvc, q_andv0, q_orvc, q_orv0, q_trc, q_tr0, q_op1c, q_op10, q_op2c, q_op20, q_opsc, q_ops0, q_evnmc, q_evnm0, q_evexc, q_evex0, q_evos0c, q_evos00, q_evoscc, q_evosc0, q_eva0c, q_eva00, q_evavc, q_evav0, q_evarc, q_evar0, q_callc, q_call0, q_newc, q_new0, q_methc, q_meth0, q_parc, q_par0, q_all0c, q_all00, q_allcc, q_allc0, q_tupc, q_tup0, q_lstc, q_lst0, q_sl2c, q_sl20, q_sl1c, q_sl10, q_putc, q_put0, q_fstc, q_fst0, PI.q_forc, q_for0, q_itvc, q_itv0, q_rngc, q_rng0, q_itac, q_ita0, q_lcc, q_lc0, q_dicc, q_dic0, q_evk0c, q_evk00, q_evkcc, q_evkc0, q_rsc, q_rs0, q_yesc, q_yes0, q_chc, q_ch0, q_nxc, q_nx0, q_retnc, q_retn0, q_setTc, q_setT0, k_ro, k_rb, k_rl, k_rt, k_asB, k_add, k_sub, k_mul, k_fdiv, k_mod, k_pow, k_addl, k_bini, k_binl, k_lt, k_le, k_gt, k_ge, k_ixl, k_ixt, k_inti, k_intb, k_abs, k_lenl, k_lent, k_max, k_min, k_s0, k_s1, k_s2, k_s3, k_s4, k_s5, k_s6, k_s7, k_t0, k_t1, k_t2, k_t4, k_eqi, k_nei, k_eqs, k_nes, k_itl, k_itt, k_run, k_for0, q_pVc, q_pC, q_blk, nxt, setK, retK, dropK, ifK, ifEK, notK, andK, orK, andVK, orVK, trK, op1K, op2E, op2K, opsK, nmK, exK, evosK, evvK, evrK, wbC, callK, newE, newK, methE, methK, parK, allK, tupK, lstK, sl2K, sl1K, itvK, rngK, itaK, dicK, evkK, rsK, setTK, put1, put2, putD, rdO, rdOs, rdA, finC, retL, r_0e, r_1e, r_1z, r_2e, r_2z, r_3e, r_3z, r_4e, r_4z, r_5e, r_5z, r_6e, r_6z, r_7e, r_7z, r_8e, r_8z, r_9e, r_9z, r_10e, r_10z, r_11e, r_11z, wbS, pmL, pmAt, nmA, L2.atI, L2.ixN, so_eq, e1, e2, p15, q1, k_neg, lim]
  · refine ⟨m % 2000000000000000 - 1000000000000000, u2, ?_, w3⟩
    unfold f_law_near m_law_near
    simp [q_blkc, q_blk0, q_setc, q_set0, q_retc, q_ret0, q_dropc, q_drop0, q_ifc, q_if0, q_ifec, q_ife0, q_testc, q_test0, q_notc, q_not0, q_andc, q_and0, q_orc, q_or0, q_andvc, q_andv0, q_orvc, q_orv0, q_trc, q_tr0, q_op1c, q_op10, q_op2c, q_op20, q_opsc, q_ops0, q_evnmc, q_evnm0, q_evexc, q_evex0, q_evos0c, q_evos00, q_evoscc, q_evosc0, q_eva0c, q_eva00, q_evavc, q_evav0, q_evarc, q_evar0, q_callc, q_call0, q_newc, q_new0, q_methc, q_meth0, q_parc, q_par0, q_all0c, q_all00, q_allcc, q_allc0, q_tupc, q_tup0, q_lstc, q_lst0, q_sl2c, q_sl20, q_sl1c, q_sl10, q_putc, q_put0, q_fstc, q_fst0, PI.q_forc, q_for0, q_itvc, q_itv0, q_rngc, q_rng0, q_itac, q_ita0, q_lcc, q_lc0, q_dicc, q_dic0, q_evk0c, q_evk00, q_evkcc, q_evkc0, q_rsc, q_rs0, q_yesc, q_yes0, q_chc, q_ch0, q_nxc, q_nx0, q_retnc, q_retn0, q_setTc, q_setT0, k_ro, k_rb, k_rl, k_rt, k_asB, k_add, k_sub, k_mul, k_fdiv, k_mod, k_pow, k_addl, k_bini, k_binl, k_lt, k_le, k_gt, k_ge, k_ixl, k_ixt, k_inti, k_intb, k_abs, k_lenl, k_lent, k_max, k_min, k_s0, k_s1, k_s2, k_s3, k_s4, k_s5, k_s6, k_s7, k_t0, k_t1, k_t2, k_t4, k_eqi, k_nei, k_eqs, k_nes, k_itl, k_itt, k_run, k_for0, q_pVc, q_pC, q_blk, nxt, setK, retK, dropK, ifK, ifEK, notK, andK, orK, andVK, orVK, trK, op1K, op2E, op2K, opsK, nmK, exK, evosK, evvK, evrK, wbC, callK, newE, newK, methE, methK, parK, allK, tupK, lstK, sl2K, sl1K, itvK, rngK, itaK, dicK, evkK, rsK, setTK, put1, put2, putD, rdO, rdOs, rdA, finC, retL, r_0e, r_1e, r_1z, r_2e, r_2z, r_3e, r_3z, r_4e, r_4z, r_5e, r_5z, r_6e, r_6z, r_7e, r_7z, r_8e, r_8z, r_9e, r_9z, r_10e, r_10z, r_11e, r_11z, wbS, pmL, pmAt, nmA, L2.atI, L2.ixN, so_eq, e1, e2, p15, q1, k_neg, lim]
end A06

set_option linter.all false
set_option maxRecDepth 100000
set_option maxHeartbeats 4000000
namespace A06
open PI PySem
theorem q_fort4 {i j k l : Nat} {b : PF} {d e p q : D} {ds : List D} {x : Option D} {g : Sg} (h : i < (x :: g).length ∧ j < (x :: g).length ∧ k < (x :: g).length ∧ l < (x :: g).length) : forK (.tp [i, j, k, l]) b (.tup [d, e, p, q] :: ds) (x :: g) = (b (((((x :: g).set i (some d)).set j (some e)).set k (some p)).set l (some q))).bind (forN (.tp [i, j, k, l]) b ds) := by
  obtain ⟨h1, h2, h3, h4⟩ := h
  show (match (setAll [i, j, k, l] [d, e, p, q] (x :: g)) with
    | none => Rs.bad
    | some g1 => (b g1).bind _) = _
  have r : setAll [i, j, k, l] [d, e, p, q] (x :: g) = some (((((x :: g).set i (some d)).set j (some e)).set k (some p)).set l (some q)) := by
    unfold setAll
    rw [if_pos h1]
    unfold setAll
    rw [List.length_set, if_pos h2]
    unfold setAll
    rw [List.length_set, List.length_set, if_pos h3]
    unfold setAll
    rw [List.length_set, List.length_set, List.length_set, if_pos h4]
    rfl
  rw [r]
  dsimp only
  congr 1
  funext fl g2
  cases fl <;> rfl
theorem k_andv {b : PX} {c : Bool} {g : Sg} : andVK b (.bl c) g = if c = true then b g else .ok (.bl false) g := by cases c <;> rfl
theorem rs_if {c : Prop} [Decidable c] {p q : Bool} {g : Sg} : (if c then Rs.ok (D.bl p) g else Rs.ok (D.bl q) g) = Rs.ok (D.bl (if c then p else q)) g := by split <;> rfl
theorem one_w {n : Int} {u : D} (h : Wl n u) (hn : n + 10 < 2^20) : ∃ one v, (pSet 1 (pOp2 (fun d e g => ro (ixD d e) g) (.ex (pLst [(pOp2 (fun d e g => ro (binD .Sub d e) g) (.ex (pCall f_law_take [0] [(.r (.nm 0)), (.v (pC (.int 5)))] [.inl 0, .inl 1])) (.ex (pC (.int 2)))), (pOp2 (fun d e g => ro (binD .Sub d e) g) (.ex (pOp2 (fun d e g => ro (binD .Mod d e) g) (.ex (pOps (fun ds g => ro (intD ds) g) [(.ex (pCall f_law_number [0] [(.r (.nm 0))] [.inl 0]))])) (.ex (pOp2 (fun d e g => ro (binD .Mult d e) g) (.ex (pC (.int 2))) (.ex (pOp2 (fun d e g => ro (binD .Pow d e) g) (.ex (pC (.int 10))) (.ex (pC (.int 15))))))))) (.ex (pOp2 (fun d e g => ro (binD .Pow d e) g) (.ex (pC (.int 10))) (.ex (pC (.int 15))))))])) (.ex (pCall f_law_take [0] [(.r (.nm 0)), (.v (pC (.int 2)))] [.inl 0, .inl 1])))) [some u, none, none, none, none, none, none, none, none, none, none, none, none, none] = .ok .nx [some v, some (.int one), none, none, none, none, none, none, none, none, none, none, none, none] ∧ Wl (n + 6) v := by
  obtain ⟨t1, u1, e1, a1, b1, w1⟩ := take_w h (by omega) (m := 5) (by decide) (by decide)
  obtain ⟨m, u2, e2, a2, b2', w2⟩ := number_w w1 (by omega)
  obtain ⟨t3, u3, e3, a3, b3, w3⟩ := take_w w2 (by omega) (m := 2) (by decide) (by decide)
  have q1 : mulOk 2 1000000000000000 = true := by decide
  have w : Wl (n + 6) u3 := by
    obtain ⟨a, b, c, q, r1, r2, r3, r4, r5⟩ := w3
    exact ⟨a, b, c, q, r1, r2, r3, r4, by omega⟩
  have s : t3 = 0 ∨ t3 = 1 := by omega
  rcases s with rfl | rfl
  · refine ⟨t1 - 2, u3, ?_, w⟩
    simp [q_blkc, q_blk0, q_setc, q_set0, q_retc, q_ret0, q_dropc, q_drop0, q_ifc, q_if0, q_ifec, q_ife0, q_testc, q_test0, q_notc, q_not0, q_andc, q_and0, q_orc, q_or0, q_andvc, q_andv0, q_orvc, q_orv0, q_trc, q_tr0, q_op1c, q_op10, q_op2c, q_op20, q_opsc, q_ops0, q_evnmc, q_evnm0, q_evexc, q_evex0, q_evos0c, q_evos00, q_evoscc, q_evosc0, q_eva0c, q_eva00, q_evavc, q_evav0, q_evarc, q_evar0, q_callc, q_call0, q_newc, q_new0, q_methc, q_meth0, q_parc, q_par0, q_all0c, q_all00, q_allcc, q_allc0, q_tupc, q_tup0, q_lstc, q_lst0, q_sl2c, q_sl20, q_sl1c, q_sl10, q_putc, q_put0, q_fstc, q_fst0, PI.q_forc, q_for0, q_itvc, q_itv0, q_rngc, q_rng0, q_itac, q_ita0, q_lcc, q_lc0, q_dicc, q_dic0, q_evk0c, q_evk00, q_evkcc, q_evkc0, q_rsc, q_rs0, q_yesc, q_yes0, q_chc, q_ch0, q_nxc, q_nx0, q_retnc, q_retn0, q_setTc, q_setT0, k_ro, k_rb, k_rl, k_rt, k_asB, k_add, k_sub, k_mul, k_fdiv, k_mod, k_pow, k_addl, k_bini, k_binl, k_lt, k_le, k_gt, k_ge, k_ixl, k_ixt, k_inti, k_intb, k_abs, k_lenl, k_lent, k_max, k_min, k_s0, k_s1, k_s2, k_s3, k_s4, k_s5, k_s6, k_s7, k_t0, k_t1, k_t2, k_t4, k_eqi, k_nei, k_eqs, k_nes, k_itl, k_itt, k_run, k_for0, q_pVc, q_pC, q_blk, nxt, setK, retK, dropK, ifK, ifEK, notK, andK, orK, andVK, orVK, trK, op1K, op2E, op2K, opsK, nmK, exK, evosK, evvK, evrK, wbC, callK, newE, newK, methE, methK, parK, allK, tupK, lstK, sl2K, sl1K, itvK, rngK, itaK, dicK, evkK, rsK, setTK, put1, put2, putD, rdO, rdOs, rdA, finC, retL, r_0e, r_1e, r_1z, r_2e, r_2z, r_3e, r_3z, r_4e, r_4z, r_5e, r_5z, r_6e, r_6z, r_7e, r_7z, r_8e, r_8z, r_9e, r_9z, r_10e, r_10z, r_11e, r_11z, wbS, pmL, pmAt, nmA, L2.atI, L2.ixN, so_eq, e1, e2, e3, p15, q1, lim]
  · refine ⟨m % 2000000000000000 - 1000000000000000, u3, ?_, w⟩
    simp [q_blkc, q_blk0, q_setc, q_set0, q_retc, q_ret0, q_dropc, q_drop0, q_ifc, q_if0, q_ifec, q_ife0, q_testc, q_test0, q_notc, q_not0, q_andc, q_and0, q_orc, q_or0, q_andvc, q_andv0, q_orvc, q_orv0, q_trc, q_tr0, q_op1c, q_op10, q_op2c, q_op20, q_opsc, q_ops0, q_evnmc, q_evnm0, q_evexc, q_evex0, q_evos0c, q_evos00, q_evoscc, q_evosc0, q_eva0c, q_eva00, q_evavc, q_evav0, q_evarc, q_evar0, q_callc, q_call0, q_newc, q_new0, q_methc, q_meth0, q_parc, q_par0, q_all0c, q_all00, q_allcc, q_allc0, q_tupc, q_tup0, q_lstc, q_lst0, q_sl2c, q_sl20, q_sl1c, q_sl10, q_putc, q_put0, q_fstc, q_fst0, PI.q_forc, q_for0, q_itvc, q_itv0, q_rngc, q_rng0, q_itac, q_ita0, q_lcc, q_lc0, q_dicc, q_dic0, q_evk0c, q_evk00, q_evkcc, q_evkc0, q_rsc, q_rs0, q_yesc, q_yes0, q_chc, q_ch0, q_nxc, q_nx0, q_retnc, q_retn0, q_setTc, q_setT0, k_ro, k_rb, k_rl, k_rt, k_asB, k_add, k_sub, k_mul, k_fdiv, k_mod, k_pow, k_addl, k_bini, k_binl, k_lt, k_le, k_gt, k_ge, k_ixl, k_ixt, k_inti, k_intb, k_abs, k_lenl, k_lent, k_max, k_min, k_s0, k_s1, k_s2, k_s3, k_s4, k_s5, k_s6, k_s7, k_t0, k_t1, k_t2, k_t4, k_eqi, k_nei, k_eqs, k_nes, k_itl, k_itt, k_run, k_for0, q_pVc, q_pC, q_blk, nxt, setK, retK, dropK, ifK, ifEK, notK, andK, orK, andVK, orVK, trK, op1K, op2E, op2K, opsK, nmK, exK, evosK, evvK, evrK, wbC, callK, newE, newK, methE, methK, parK, allK, tupK, lstK, sl2K, sl1K, itvK, rngK, itaK, dicK, evkK, rsK, setTK, put1, put2, putD, rdO, rdOs, rdA, finC, retL, r_0e, r_1e, r_1z, r_2e, r_2z, r_3e, r_3z, r_4e, r_4z, r_5e, r_5z, r_6e, r_6z, r_7e, r_7z, r_8e, r_8z, r_9e, r_9z, r_10e, r_10z, r_11e, r_11z, wbS, pmL, pmAt, nmA, L2.atI, L2.ixN, so_eq, e1, e2, e3, p15, q1, lim]
theorem fits_w {n : Int} {u : D} (h : Wl n u) (hn : n + 50 < 2^20) : ∃ v, f_law_fits [u] = .ok (.bl true) [v] ∧ Wl (n + 30) v := by
  obtain ⟨one, u1, e1, w1⟩ := one_w h (by omega)
  obtain ⟨two, u2, e2, w2⟩ := near_w w1 (by omega) one
  obtain ⟨g, u3, e3, w3⟩ := near_w w2 (by omega) one
  obtain ⟨t4, u4, e4, a4, b4, w4⟩ := take_w w3 (by omega) (m := 21) (by decide) (by decide)
  have t1 := (fX (one := one) (two := two) (g := g)).tw fY (by decide)
  have t2 := (fY (one := one) (two := two) (g := g)).tw fP (by decide)
  have t3 := (fP (one := one) (two := two) (g := g)).tw fX (by decide)
  have s1 := (fX (one := one) (two := two) (g := g)).beside
  have s2 := (fP (one := one) (two := two) (g := g)).beside
  have t4' := fun k => (fX (one := one) (two := two) (g := g)).tw (fN k) (by decide)
  have t5 := (((fX (one := one) (two := two) (g := g)).bin fY (s := "<") (.inr (.inr (.inr (.inr rfl))))).as (oL one two)).tw (((fY.bin fP (s := "=") (.inr (.inr (.inr (.inl rfl))))).as (oE two g))) (by decide)
  have t6 := (((fX (one := one) (two := two) (g := g)).bin fY (s := "&") (.inr (.inl rfl))).as (oN one two)).tw (((fX.bin fY (s := "-") (.inl rfl)).as (oS one two))) (by decide)
  simp [b2] at t5 t6
  refine ⟨u4, ?_, ?_⟩
  · unfold f_law_fits m_law_fits
    rw [k_run]
    show finC [0] (pBlk _ [some u, none, none, none, none, none, none, none, none, none, none, none, none, none]) = _
    rw [q_blkc, e1]
    simp [q_blkc, q_blk0, q_setc, q_set0, q_retc, q_ret0, q_dropc, q_drop0, q_ifc, q_if0, q_ifec, q_ife0, q_testc, q_test0, q_notc, q_not0, q_andc, q_and0, q_orc, q_or0, q_andvc, q_andv0, q_orvc, q_orv0, q_trc, q_tr0, q_op1c, q_op10, q_op2c, q_op20, q_opsc, q_ops0, q_evnmc, q_evnm0, q_evexc, q_evex0, q_evos0c, q_evos00, q_evoscc, q_evosc0, q_eva0c, q_eva00, q_evavc, q_evav0, q_evarc, q_evar0, q_callc, q_call0, q_newc, q_new0, q_methc, q_meth0, q_parc, q_par0, q_all0c, q_all00, q_allcc, q_allc0, q_tupc, q_tup0, q_lstc, q_lst0, q_sl2c, q_sl20, q_sl1c, q_sl10, q_putc, q_put0, q_fstc, q_fst0, PI.q_forc, q_for0, q_itvc, q_itv0, q_rngc, q_rng0, q_itac, q_ita0, q_lcc, q_lc0, q_dicc, q_dic0, q_evk0c, q_evk00, q_evkcc, q_evkc0, q_rsc, q_rs0, q_yesc, q_yes0, q_chc, q_ch0, q_nxc, q_nx0, q_retnc, q_retn0, q_setTc, q_setT0, k_ro, k_rb, k_rl, k_rt, k_asB, k_add, k_sub, k_mul, k_fdiv, k_mod, k_pow, k_addl, k_bini, k_binl, k_lt, k_le, k_gt, k_ge, k_ixl, k_ixt, k_inti, k_intb, k_abs, k_lenl, k_lent, k_max, k_min, k_s0, k_s1, k_s2, k_s3, k_s4, k_s5, k_s6, k_s7, k_t0, k_t1, k_t2, k_t4, k_eqi, k_nei, k_eqs, k_nes, k_itl, k_itt, k_run, k_for0, q_pVc, q_pC, q_blk, nxt, setK, retK, dropK, ifK, ifEK, notK, andK, orK, andVK, orVK, trK, op1K, op2E, op2K, opsK, nmK, exK, evosK, evvK, evrK, wbC, callK, newE, newK, methE, methK, parK, allK, tupK, lstK, sl2K, sl1K, itvK, rngK, itaK, dicK, evkK, rsK, setTK, put1, put2, putD, rdO, rdOs, rdA, finC, retL, r_0e, r_1e, r_1z, r_2e, r_2z, r_3e, r_3z, r_4e, r_4z, r_5e, r_5z, r_6e, r_6z, r_7e, r_7z, r_8e, r_8z, r_9e, r_9z, r_10e, r_10z, r_11e, r_11z, wbS, pmL, pmAt, nmA, L2.atI, L2.ixN, so_eq, e2, e3, e4, cell_x, cell_y, passed_v, number_v, dispD, putKD, setAll, t1, t2, t3, s1, s2, t4', t5, t6, bS_vv, bN_vv, pick_sm, pick_ls, same_v, less_v, e_ii, q_fort4, q_forc, forN, k_for0, k_neg, lim]
    by_cases ho : one = 0
    · subst ho
      simp at t6
      simp [q_blkc, q_blk0, q_setc, q_set0, q_retc, q_ret0, q_dropc, q_drop0, q_ifc, q_if0, q_ifec, q_ife0, q_testc, q_test0, q_notc, q_not0, q_andc, q_and0, q_orc, q_or0, q_andvc, q_andv0, q_orvc, q_orv0, q_trc, q_tr0, q_op1c, q_op10, q_op2c, q_op20, q_opsc, q_ops0, q_evnmc, q_evnm0, q_evexc, q_evex0, q_evos0c, q_evos00, q_evoscc, q_evosc0, q_eva0c, q_eva00, q_evavc, q_evav0, q_evarc, q_evar0, q_callc, q_call0, q_newc, q_new0, q_methc, q_meth0, q_parc, q_par0, q_all0c, q_all00, q_allcc, q_allc0, q_tupc, q_tup0, q_lstc, q_lst0, q_sl2c, q_sl20, q_sl1c, q_sl10, q_putc, q_put0, q_fstc, q_fst0, PI.q_forc, q_for0, q_itvc, q_itv0, q_rngc, q_rng0, q_itac, q_ita0, q_lcc, q_lc0, q_dicc, q_dic0, q_evk0c, q_evk00, q_evkcc, q_evkc0, q_rsc, q_rs0, q_yesc, q_yes0, q_chc, q_ch0, q_nxc, q_nx0, q_retnc, q_retn0, q_setTc, q_setT0, k_ro, k_rb, k_rl, k_rt, k_asB, k_add, k_sub, k_mul, k_fdiv, k_mod, k_pow, k_addl, k_bini, k_binl, k_lt, k_le, k_gt, k_ge, k_ixl, k_ixt, k_inti, k_intb, k_abs, k_lenl, k_lent, k_max, k_min, k_s0, k_s1, k_s2, k_s3, k_s4, k_s5, k_s6, k_s7, k_t0, k_t1, k_t2, k_t4, k_eqi, k_nei, k_eqs, k_nes, k_itl, k_itt, k_run, k_for0, q_pVc, q_pC, q_blk, nxt, setK, retK, dropK, ifK, ifEK, notK, andK, orK, andVK, orVK, trK, op1K, op2E, op2K, opsK, nmK, exK, evosK, evvK, evrK, wbC, callK, newE, newK, methE, methK, parK, allK, tupK, lstK, sl2K, sl1K, itvK, rngK, itaK, dicK, evkK, rsK, setTK, put1, put2, putD, rdO, rdOs, rdA, finC, retL, r_0e, r_1e, r_1z, r_2e, r_2z, r_3e, r_3z, r_4e, r_4z, r_5e, r_5z, r_6e, r_6z, r_7e, r_7z, r_8e, r_8z, r_9e, r_9z, r_10e, r_10z, r_11e, r_11z, wbS, pmL, pmAt, nmA, L2.atI, L2.ixN, so_eq, t6, bS_vv, bN_vv]
    · have hb : (one != 0) = true := by simp [ho]
      simp [ho] at t6
      simp [q_blkc, q_blk0, q_setc, q_set0, q_retc, q_ret0, q_dropc, q_drop0, q_ifc, q_if0, q_ifec, q_ife0, q_testc, q_test0, q_notc, q_not0, q_andc, q_and0, q_orc, q_or0, q_andvc, q_andv0, q_orvc, q_orv0, q_trc, q_tr0, q_op1c, q_op10, q_op2c, q_op20, q_opsc, q_ops0, q_evnmc, q_evnm0, q_evexc, q_evex0, q_evos0c, q_evos00, q_evoscc, q_evosc0, q_eva0c, q_eva00, q_evavc, q_evav0, q_evarc, q_evar0, q_callc, q_call0, q_newc, q_new0, q_methc, q_meth0, q_parc, q_par0, q_all0c, q_all00, q_allcc, q_allc0, q_tupc, q_tup0, q_lstc, q_lst0, q_sl2c, q_sl20, q_sl1c, q_sl10, q_putc, q_put0, q_fstc, q_fst0, PI.q_forc, q_for0, q_itvc, q_itv0, q_rngc, q_rng0, q_itac, q_ita0, q_lcc, q_lc0, q_dicc, q_dic0, q_evk0c, q_evk00, q_evkcc, q_evkc0, q_rsc, q_rs0, q_yesc, q_yes0, q_chc, q_ch0, q_nxc, q_nx0, q_retnc, q_retn0, q_setTc, q_setT0, k_ro, k_rb, k_rl, k_rt, k_asB, k_add, k_sub, k_mul, k_fdiv, k_mod, k_pow, k_addl, k_bini, k_binl, k_lt, k_le, k_gt, k_ge, k_ixl, k_ixt, k_inti, k_intb, k_abs, k_lenl, k_lent, k_max, k_min, k_s0, k_s1, k_s2, k_s3, k_s4, k_s5, k_s6, k_s7, k_t0, k_t1, k_t2, k_t4, k_eqi, k_nei, k_eqs, k_nes, k_itl, k_itt, k_run, k_for0, q_pVc, q_pC, q_blk, nxt, setK, retK, dropK, ifK, ifEK, notK, andK, orK, andVK, orVK, trK, op1K, op2E, op2K, opsK, nmK, exK, evosK, evvK, evrK, wbC, callK, newE, newK, methE, methK, parK, allK, tupK, lstK, sl2K, sl1K, itvK, rngK, itaK, dicK, evkK, rsK, setTK, put1, put2, putD, rdO, rdOs, rdA, finC, retL, r_0e, r_1e, r_1z, r_2e, r_2z, r_3e, r_3z, r_4e, r_4z, r_5e, r_5z, r_6e, r_6z, r_7e, r_7z, r_8e, r_8z, r_9e, r_9z, r_10e, r_10z, r_11e, r_11z, wbS, pmL, pmAt, nmA, L2.atI, L2.ixN, so_eq, hb, t6, bS_vv, bN_vv]
  · obtain ⟨a, b, c, q, r1, r2, r3, r4, r5⟩ := w4
    exact ⟨a, b, c, q, r1, r2, r3, r4, by omega⟩
end A06

set_option linter.all false
set_option maxRecDepth 100000
set_option maxHeartbeats 4000000
namespace A06
open PI PySem
theorem well_w (ns : List Int) (p : Nat) (hp : p < 64) : ∃ w, f_law_well [.lst false (ns.map .int), .int p] = .ok w [] ∧ Wl 0 w := by
  have M : ∀ x : Int, 0 ≤ x % 2305843009213693951 ∧ x % 2305843009213693951 < 2305843009213693951 := fun x => ⟨Int.emod_nonneg _ (by decide), Int.emod_lt_of_pos _ (by decide)⟩
  have m1 : mulOk 1000003 (p : Int) = true := mulOk_l (by decide) (by decide)
  have m2 : ∀ x, mulOk x 2 = true := fun x => mulOk_r (by decide) (by decide)
  have m0 : ∀ x, mulOk x 0 = true := fun x => mulOk_r (by decide) (by decide)
  have m3 : ∀ x, mulOk x 1 = true := fun x => mulOk_r (by decide) (by decide)
  have pw : powOk 10 18 = true := by decide
  by_cases h : p < ns.length
  · obtain ⟨k, hk⟩ : ∃ k, ns[p] = k := ⟨_, rfl⟩
    refine ⟨.lst true [.int (k * (if 10 ^ 18 ≤ k then 1 else 0)), .int (((if k < 0 then -k else k) * 2 + (if k < 0 then 1 else 0)) % 2305843009213693951 + 1000003 * (p : Int)), .int 0], ?_, ?_⟩
    · unfold f_law_well m_law_well
      by_cases a1 : k < 0 <;> by_cases a2 : 1000000000000000000 ≤ k <;> simp [q_blkc, q_blk0, q_setc, q_set0, q_retc, q_ret0, q_dropc, q_drop0, q_ifc, q_if0, q_ifec, q_ife0, q_testc, q_test0, q_notc, q_not0, q_andc, q_and0, q_orc, q_or0, q_andvc, q_andv0, q_orvc, q_orv0, q_trc, q_tr0, q_op1c, q_op10, q_op2c, q_op20, q_opsc, q_ops0, q_evnmc, q_evnm0, q_evexc, q_evex0, q_evos0c, q_evos00, q_evoscc, q_evosc0, q_eva0c, q_eva00, q_evavc, q_evav0, q_evarc, q_evar0, q_callc, q_call0, q_newc, q_new0, q_methc, q_meth0, q_parc, q_par0, q_all0c, q_all00, q_allcc, q_allc0, q_tupc, q_tup0, q_lstc, q_lst0, q_sl2c, q_sl20, q_sl1c, q_sl10, q_putc, q_put0, q_fstc, q_fst0, PI.q_forc, q_for0, q_itvc, q_itv0, q_rngc, q_rng0, q_itac, q_ita0, q_lcc, q_lc0, q_dicc, q_dic0, q_evk0c, q_evk00, q_evkcc, q_evkc0, q_rsc, q_rs0, q_yesc, q_yes0, q_chc, q_ch0, q_nxc, q_nx0, q_retnc, q_retn0, q_setTc, q_setT0, k_ro, k_rb, k_rl, k_rt, k_asB, k_add, k_sub, k_mul, k_fdiv, k_mod, k_pow, k_addl, k_bini, k_binl, k_lt, k_le, k_gt, k_ge, k_ixl, k_ixt, k_inti, k_intb, k_abs, k_lenl, k_lent, k_max, k_min, k_s0, k_s1, k_s2, k_s3, k_s4, k_s5, k_s6, k_s7, k_t0, k_t1, k_t2, k_t4, k_eqi, k_nei, k_eqs, k_nes, k_itl, k_itt, k_run, k_for0, q_pVc, q_pC, q_blk, nxt, setK, retK, dropK, ifK, ifEK, notK, andK, orK, andVK, orVK, trK, op1K, op2E, op2K, opsK, nmK, exK, evosK, evvK, evrK, wbC, callK, newE, newK, methE, methK, parK, allK, tupK, lstK, sl2K, sl1K, itvK, rngK, itaK, dicK, evkK, rsK, setTK, put1, put2, putD, rdO, rdOs, rdA, finC, retL, r_0e, r_1e, r_1z, r_2e, r_2z, r_3e, r_3z, r_4e, r_4z, r_5e, r_5z, r_6e, r_6z, r_7e, r_7z, r_8e, r_8z, r_9e, r_9z, r_10e, r_10z, r_11e, r_11z, wbS, pmL, pmAt, nmA, L2.atI, L2.ixN, so_eq, h, hk, a1, a2, m0, m1, m2, m3, pw]
    · have := M ((if k < 0 then -k else k) * 2 + (if k < 0 then 1 else 0))
      refine ⟨_, _, _, rfl, ?_, by omega, by omega, by omega, by omega⟩
      split <;> omega
  · refine ⟨.lst true [.int 0, .int (1000003 * (p : Int)), .int 0], ?_, ?_⟩
    · unfold f_law_well m_law_well
      simp [q_blkc, q_blk0, q_setc, q_set0, q_retc, q_ret0, q_dropc, q_drop0, q_ifc, q_if0, q_ifec, q_ife0, q_testc, q_test0, q_notc, q_not0, q_andc, q_and0, q_orc, q_or0, q_andvc, q_andv0, q_orvc, q_orv0, q_trc, q_tr0, q_op1c, q_op10, q_op2c, q_op20, q_opsc, q_ops0, q_evnmc, q_evnm0, q_evexc, q_evex0, q_evos0c, q_evos00, q_evoscc, q_evosc0, q_eva0c, q_eva00, q_evavc, q_evav0, q_evarc, q_evar0, q_callc, q_call0, q_newc, q_new0, q_methc, q_meth0, q_parc, q_par0, q_all0c, q_all00, q_allcc, q_allc0, q_tupc, q_tup0, q_lstc, q_lst0, q_sl2c, q_sl20, q_sl1c, q_sl10, q_putc, q_put0, q_fstc, q_fst0, PI.q_forc, q_for0, q_itvc, q_itv0, q_rngc, q_rng0, q_itac, q_ita0, q_lcc, q_lc0, q_dicc, q_dic0, q_evk0c, q_evk00, q_evkcc, q_evkc0, q_rsc, q_rs0, q_yesc, q_yes0, q_chc, q_ch0, q_nxc, q_nx0, q_retnc, q_retn0, q_setTc, q_setT0, k_ro, k_rb, k_rl, k_rt, k_asB, k_add, k_sub, k_mul, k_fdiv, k_mod, k_pow, k_addl, k_bini, k_binl, k_lt, k_le, k_gt, k_ge, k_ixl, k_ixt, k_inti, k_intb, k_abs, k_lenl, k_lent, k_max, k_min, k_s0, k_s1, k_s2, k_s3, k_s4, k_s5, k_s6, k_s7, k_t0, k_t1, k_t2, k_t4, k_eqi, k_nei, k_eqs, k_nes, k_itl, k_itt, k_run, k_for0, q_pVc, q_pC, q_blk, nxt, setK, retK, dropK, ifK, ifEK, notK, andK, orK, andVK, orVK, trK, op1K, op2E, op2K, opsK, nmK, exK, evosK, evvK, evrK, wbC, callK, newE, newK, methE, methK, parK, allK, tupK, lstK, sl2K, sl1K, itvK, rngK, itaK, dicK, evkK, rsK, setTK, put1, put2, putD, rdO, rdOs, rdA, finC, retL, r_0e, r_1e, r_1z, r_2e, r_2z, r_3e, r_3z, r_4e, r_4z, r_5e, r_5z, r_6e, r_6z, r_7e, r_7z, r_8e, r_8z, r_9e, r_9z, r_10e, r_10z, r_11e, r_11z, wbS, pmL, pmAt, nmA, L2.atI, L2.ixN, so_eq, h, m0, m1, m2, m3, pw]
    · exact ⟨_, _, _, rfl, by omega, by omega, by omega, by omega, by omega⟩
theorem rng2 : rngA [.int 2] = some [.int 0, .int 1] := by kernel_rfl
theorem turn_w (ns : List Int) (p : Nat) (hp : p < 64) (y z : Option D) : ∃ w,
    (pBlk [(pSet 2 (pCall f_law_well [] [(.v (pV 0)), (.v (pV 1))] [.inl 0, .inl 1])), (pFor (pRng [(.ex (pC (.int 2)))]) (.nm 3) (pBlk [(pIf (pNot (pTr (.ex (pCall f_law_fits [0] [(.r (.nm 2))] [.inl 0])))) (pBlk [(pRet (pC (.bl false)))]) (pBlk []))]))]) [some (.lst false (ns.map .int)), some (.int p), y, z] = .ok .nx [some (.lst false (ns.map .int)), some (.int p), some w, some (.int 1)] := by
  obtain ⟨w, e, h⟩ := well_w ns p hp
  obtain ⟨w1, e1, h1⟩ := fits_w h (by omega)
  obtain ⟨w2, e2, h2⟩ := fits_w h1 (by omega)
  refine ⟨w2, ?_⟩
  simp [q_blkc, q_blk0, q_setc, q_set0, q_retc, q_ret0, q_dropc, q_drop0, q_ifc, q_if0, q_ifec, q_ife0, q_testc, q_test0, q_notc, q_not0, q_andc, q_and0, q_orc, q_or0, q_andvc, q_andv0, q_orvc, q_orv0, q_trc, q_tr0, q_op1c, q_op10, q_op2c, q_op20, q_opsc, q_ops0, q_evnmc, q_evnm0, q_evexc, q_evex0, q_evos0c, q_evos00, q_evoscc, q_evosc0, q_eva0c, q_eva00, q_evavc, q_evav0, q_evarc, q_evar0, q_callc, q_call0, q_newc, q_new0, q_methc, q_meth0, q_parc, q_par0, q_all0c, q_all00, q_allcc, q_allc0, q_tupc, q_tup0, q_lstc, q_lst0, q_sl2c, q_sl20, q_sl1c, q_sl10, q_putc, q_put0, q_fstc, q_fst0, PI.q_forc, q_for0, q_itvc, q_itv0, q_rngc, q_rng0, q_itac, q_ita0, q_lcc, q_lc0, q_dicc, q_dic0, q_evk0c, q_evk00, q_evkcc, q_evkc0, q_rsc, q_rs0, q_yesc, q_yes0, q_chc, q_ch0, q_nxc, q_nx0, q_retnc, q_retn0, q_setTc, q_setT0, k_ro, k_rb, k_rl, k_rt, k_asB, k_add, k_sub, k_mul, k_fdiv, k_mod, k_pow, k_addl, k_bini, k_binl, k_lt, k_le, k_gt, k_ge, k_ixl, k_ixt, k_inti, k_intb, k_abs, k_lenl, k_lent, k_max, k_min, k_s0, k_s1, k_s2, k_s3, k_s4, k_s5, k_s6, k_s7, k_t0, k_t1, k_t2, k_t4, k_eqi, k_nei, k_eqs, k_nes, k_itl, k_itt, k_run, k_for0, q_pVc, q_pC, q_blk, nxt, setK, retK, dropK, ifK, ifEK, notK, andK, orK, andVK, orVK, trK, op1K, op2E, op2K, opsK, nmK, exK, evosK, evvK, evrK, wbC, callK, newE, newK, methE, methK, parK, allK, tupK, lstK, sl2K, sl1K, itvK, rngK, itaK, dicK, evkK, rsK, setTK, put1, put2, putD, rdO, rdOs, rdA, finC, retL, r_0e, r_1e, r_1z, r_2e, r_2z, r_3e, r_3z, r_4e, r_4z, r_5e, r_5z, r_6e, r_6z, r_7e, r_7z, r_8e, r_8z, r_9e, r_9z, r_10e, r_10z, r_11e, r_11z, wbS, pmL, pmAt, nmA, L2.atI, L2.ixN, so_eq, e, e1, e2, rngK, rng2, A06.q_forc, forN, k_for0]
theorem loop_w (ns : List Int) : ∀ (ds : List D), (∀ d ∈ ds, ∃ p : Nat, p < 64 ∧ d = .int p) → ∀ x y z, ∃ x' y' z',
    forK (.nm 1) (pBlk [(pSet 2 (pCall f_law_well [] [(.v (pV 0)), (.v (pV 1))] [.inl 0, .inl 1])), (pFor (pRng [(.ex (pC (.int 2)))]) (.nm 3) (pBlk [(pIf (pNot (pTr (.ex (pCall f_law_fits [0] [(.r (.nm 2))] [.inl 0])))) (pBlk [(pRet (pC (.bl false)))]) (pBlk []))]))]) ds [some (.lst false (ns.map .int)), x, y, z] = .ok .nx [some (.lst false (ns.map .int)), x', y', z'] := by
  intro ds
  induction ds with
  | nil => intro _ x y z; exact ⟨x, y, z, rfl⟩
  | cons d ds ih =>
    intro hd x y z
    obtain ⟨p, hp, rfl⟩ := hd d (.head _)
    obtain ⟨w, e⟩ := turn_w ns p hp y z
    obtain ⟨x', y', z', e'⟩ := ih (fun d h => hd d (.tail _ h)) (some (.int p)) (some w) (some (.int 1))
    refine ⟨x', y', z', ?_⟩
    rw [A06.q_forc (by simp)]
    show (pBlk _ [some (.lst false (ns.map .int)), some (.int p), y, z]).bind _ = _
    rw [e]
    exact e'
theorem rngs (i : Int) (h0 : 0 ≤ i) (h : i ≤ 24) : ∃ ds, rngA [.int i] = some ds ∧ ∀ d ∈ ds, ∃ p : Nat, p < 64 ∧ d = .int p := by
  refine ⟨rngD 0 i, ?_, ?_⟩
  · show (if -lim ≤ i ∧ i ≤ lim then some (rngD 0 i) else none) = _
    rw [if_pos]
    have : (lim : Int) = 2^62 - 1 ∨ 1000 ≤ (lim : Int) := by decide
    omega
  · intro d hd
    unfold rngD at hd
    rw [List.mem_map] at hd
    obtain ⟨k, hk, rfl⟩ := hd
    rw [List.mem_range] at hk
    exact ⟨k, by omega, by simp⟩
theorem law_ok : ∀ ns : List Int, ns.length ≤ 63 → ∃ rs, f_law [.lst false (ns.map .int)] = .ok (.bl true) rs := by
  intro ns hn
  obtain ⟨m, hm⟩ : ∃ m : Int, maxD [.int 1, .int (if (ns.length : Int) < 24 then (ns.length : Int) else 24)] = some (.int m) ∧ 0 ≤ m ∧ m ≤ 24 := by
    refine ⟨_, rfl, ?_⟩
    split <;> split <;> omega
  obtain ⟨ds, e1, e2⟩ := rngs m hm.2.1 hm.2.2
  obtain ⟨x, y, z, e⟩ := loop_w ns ds e2 none none none
  refine ⟨[], ?_⟩
  have it : pRng [(.ex (pOps (fun ds g => ro (maxD ds) g) [(.ex (pC (.int 1))), (.ex (pOps (fun ds g => ro (minD ds) g) [(.ex (pC (.int 24))), (.ex (pOps (fun ds g => ro (lenD ds) g) [(.nm 0)]))]))]))] [some (.lst false (ns.map .int)), none, none, none] = .ok ds [some (.lst false (ns.map .int)), none, none, none] := by
    have hm1 := hm.1
    rw [k_max] at hm1
    injection hm1 with hm1
    injection hm1 with hm1
    simp [q_blkc, q_blk0, q_setc, q_set0, q_retc, q_ret0, q_dropc, q_drop0, q_ifc, q_if0, q_ifec, q_ife0, q_testc, q_test0, q_notc, q_not0, q_andc, q_and0, q_orc, q_or0, q_andvc, q_andv0, q_orvc, q_orv0, q_trc, q_tr0, q_op1c, q_op10, q_op2c, q_op20, q_opsc, q_ops0, q_evnmc, q_evnm0, q_evexc, q_evex0, q_evos0c, q_evos00, q_evoscc, q_evosc0, q_eva0c, q_eva00, q_evavc, q_evav0, q_evarc, q_evar0, q_callc, q_call0, q_newc, q_new0, q_methc, q_meth0, q_parc, q_par0, q_all0c, q_all00, q_allcc, q_allc0, q_tupc, q_tup0, q_lstc, q_lst0, q_sl2c, q_sl20, q_sl1c, q_sl10, q_putc, q_put0, q_fstc, q_fst0, PI.q_forc, q_for0, q_itvc, q_itv0, q_rngc, q_rng0, q_itac, q_ita0, q_lcc, q_lc0, q_dicc, q_dic0, q_evk0c, q_evk00, q_evkcc, q_evkc0, q_rsc, q_rs0, q_yesc, q_yes0, q_chc, q_ch0, q_nxc, q_nx0, q_retnc, q_retn0, q_setTc, q_setT0, k_ro, k_rb, k_rl, k_rt, k_asB, k_add, k_sub, k_mul, k_fdiv, k_mod, k_pow, k_addl, k_bini, k_binl, k_lt, k_le, k_gt, k_ge, k_ixl, k_ixt, k_inti, k_intb, k_abs, k_lenl, k_lent, k_max, k_min, k_s0, k_s1, k_s2, k_s3, k_s4, k_s5, k_s6, k_s7, k_t0, k_t1, k_t2, k_t4, k_eqi, k_nei, k_eqs, k_nes, k_itl, k_itt, k_run, k_for0, q_pVc, q_pC, q_blk, nxt, setK, retK, dropK, ifK, ifEK, notK, andK, orK, andVK, orVK, trK, op1K, op2E, op2K, opsK, nmK, exK, evosK, evvK, evrK, wbC, callK, newE, newK, methE, methK, parK, allK, tupK, lstK, sl2K, sl1K, itvK, rngK, itaK, dicK, evkK, rsK, setTK, put1, put2, putD, rdO, rdOs, rdA, finC, retL, r_0e, r_1e, r_1z, r_2e, r_2z, r_3e, r_3z, r_4e, r_4z, r_5e, r_5z, r_6e, r_6z, r_7e, r_7z, r_8e, r_8z, r_9e, r_9z, r_10e, r_10z, r_11e, r_11z, wbS, pmL, pmAt, nmA, L2.atI, L2.ixN, so_eq, rngK]
    rw [hm1, e1]
    rfl
  unfold f_law m_law
  rw [k_run]
  show finC [] (pBlk _ [some (.lst false (ns.map .int)), none, none, none]) = _
  rw [q_blkc, PI.q_forc, it]
  show finC [] ((forK _ _ ds _).bind _) = _
  rw [e]
  rfl
end A06

set_option Elab.async false
set_option linter.all false
set_option maxRecDepth 100000
set_option maxHeartbeats 4000000
namespace A06
open PI PySem PySem.Spec PyProof.Rows L2
open PySem.W (Frag)
def top (i : Nat) : Stmt := PySem.Challenge.pw_anyworker_k06_values_that_are_one_or_zer.main.body.getD i (.Pass ⟨0, 0, 0, 0⟩)
abbrev s_Value_init : Stmt := (clsB (top 19)).getD 0 (.Pass ⟨0, 0, 0, 0⟩)
def d_Value_init : DefA := ⟨maF "Value" "__init__", "__init__", "Value.__init__", defArgs s_Value_init, defBody s_Value_init, defScope s_Value_init, [], []⟩
abbrev s_number : Stmt := top 13
def d_number : DefA := ⟨gaF "number", "number", "number", defArgs s_number, defBody s_number, defScope s_number, [], []⟩
abbrev s_value_of : Stmt := top 14
def d_value_of : DefA := ⟨gaF "value_of", "value_of", "value_of", defArgs s_value_of, defBody s_value_of, defScope s_value_of, [], []⟩
abbrev s_Value_and : Stmt := (clsB (top 19)).getD 9 (.Pass ⟨0, 0, 0, 0⟩)
def d_Value_and : DefA := ⟨maF "Value" (dunder Operator.BitAnd.info.2), "__and__", "Value.__and__", defArgs s_Value_and, defBody s_Value_and, defScope s_Value_and, [], []⟩
abbrev s_Value_rand : Stmt := (clsB (top 19)).getD 10 (.Pass ⟨0, 0, 0, 0⟩)
def d_Value_rand : DefA := ⟨maF "Value" (dunderR Operator.BitAnd.info.2), "__rand__", "Value.__rand__", defArgs s_Value_rand, defBody s_Value_rand, defScope s_Value_rand, [], []⟩
abbrev s_Value_rsub : Stmt := (clsB (top 19)).getD 5 (.Pass ⟨0, 0, 0, 0⟩)
def d_Value_rsub : DefA := ⟨maF "Value" (dunderR Operator.Sub.info.2), "__rsub__", "Value.__rsub__", defArgs s_Value_rsub, defBody s_Value_rsub, defScope s_Value_rsub, [], []⟩
abbrev s_Value_sub : Stmt := (clsB (top 19)).getD 4 (.Pass ⟨0, 0, 0, 0⟩)
def d_Value_sub : DefA := ⟨maF "Value" (dunder Operator.Sub.info.2), "__sub__", "Value.__sub__", defArgs s_Value_sub, defBody s_Value_sub, defScope s_Value_sub, [], []⟩
abbrev s_Value_less : Stmt := (clsB (top 19)).getD 17 (.Pass ⟨0, 0, 0, 0⟩)
def d_Value_less : DefA := ⟨maF "Value" "less", "less", "Value.less", defArgs s_Value_less, defBody s_Value_less, defScope s_Value_less, [], []⟩
abbrev s_Value_same : Stmt := (clsB (top 19)).getD 16 (.Pass ⟨0, 0, 0, 0⟩)
def d_Value_same : DefA := ⟨maF "Value" "same", "same", "Value.same", defArgs s_Value_same, defBody s_Value_same, defScope s_Value_same, [], []⟩
abbrev s_Value_or : Stmt := (clsB (top 19)).getD 11 (.Pass ⟨0, 0, 0, 0⟩)
def d_Value_or : DefA := ⟨maF "Value" (dunder Operator.BitOr.info.2), "__or__", "Value.__or__", defArgs s_Value_or, defBody s_Value_or, defScope s_Value_or, [], []⟩
abbrev s_Value_ror : Stmt := (clsB (top 19)).getD 12 (.Pass ⟨0, 0, 0, 0⟩)
def d_Value_ror : DefA := ⟨maF "Value" (dunderR Operator.BitOr.info.2), "__ror__", "Value.__ror__", defArgs s_Value_ror, defBody s_Value_ror, defScope s_Value_ror, [], []⟩
abbrev s_parts_of : Stmt := top 15
def d_parts_of : DefA := ⟨gaF "parts_of", "parts_of", "parts_of", defArgs s_parts_of, defBody s_parts_of, defScope s_parts_of, [], []⟩
abbrev s_names_in : Stmt := top 16
def d_names_in : DefA := ⟨gaF "names_in", "names_in", "names_in", defArgs s_names_in, defBody s_names_in, defScope s_names_in, [], []⟩
abbrev s_Value_names : Stmt := (clsB (top 19)).getD 1 (.Pass ⟨0, 0, 0, 0⟩)
def d_Value_names : DefA := ⟨prF "Value" "names", "names", "Value.names", defArgs s_Value_names, defBody s_Value_names, defScope s_Value_names, [], []⟩
abbrev s_Value_add : Stmt := (clsB (top 19)).getD 2 (.Pass ⟨0, 0, 0, 0⟩)
def d_Value_add : DefA := ⟨maF "Value" (dunder Operator.Add.info.2), "__add__", "Value.__add__", defArgs s_Value_add, defBody s_Value_add, defScope s_Value_add, [], []⟩
abbrev s_Value_eq : Stmt := (clsB (top 19)).getD 14 (.Pass ⟨0, 0, 0, 0⟩)
def d_Value_eq : DefA := ⟨maF "Value" "__eq__", "__eq__", "Value.__eq__", defArgs s_Value_eq, defBody s_Value_eq, defScope s_Value_eq, [], []⟩
abbrev s_check_divisor : Stmt := top 10
def d_check_divisor : DefA := ⟨gaF "check_divisor", "check_divisor", "check_divisor", defArgs s_check_divisor, defBody s_check_divisor, defScope s_check_divisor, [], []⟩
abbrev s_Value_floordiv : Stmt := (clsB (top 19)).getD 8 (.Pass ⟨0, 0, 0, 0⟩)
def d_Value_floordiv : DefA := ⟨maF "Value" (dunder Operator.FloorDiv.info.2), "__floordiv__", "Value.__floordiv__", defArgs s_Value_floordiv, defBody s_Value_floordiv, defScope s_Value_floordiv, [], []⟩
abbrev s_Value_mul : Stmt := (clsB (top 19)).getD 6 (.Pass ⟨0, 0, 0, 0⟩)
def d_Value_mul : DefA := ⟨maF "Value" (dunder Operator.Mult.info.2), "__mul__", "Value.__mul__", defArgs s_Value_mul, defBody s_Value_mul, defScope s_Value_mul, [], []⟩
abbrev s_Value_radd : Stmt := (clsB (top 19)).getD 3 (.Pass ⟨0, 0, 0, 0⟩)
def d_Value_radd : DefA := ⟨maF "Value" (dunderR Operator.Add.info.2), "__radd__", "Value.__radd__", defArgs s_Value_radd, defBody s_Value_radd, defScope s_Value_radd, [], []⟩
abbrev s_Value_rmul : Stmt := (clsB (top 19)).getD 7 (.Pass ⟨0, 0, 0, 0⟩)
def d_Value_rmul : DefA := ⟨maF "Value" (dunderR Operator.Mult.info.2), "__rmul__", "Value.__rmul__", defArgs s_Value_rmul, defBody s_Value_rmul, defScope s_Value_rmul, [], []⟩
abbrev s_paired : Stmt := top 17
def d_paired : DefA := ⟨gaF "paired", "paired", "paired", defArgs s_paired, defBody s_paired, defScope s_paired, [], []⟩
abbrev s_worth_of : Stmt := top 18
def d_worth_of : DefA := ⟨gaF "worth_of", "worth_of", "worth_of", defArgs s_worth_of, defBody s_worth_of, defScope s_worth_of, [], []⟩
abbrev s_Value_at : Stmt := (clsB (top 19)).getD 18 (.Pass ⟨0, 0, 0, 0⟩)
def d_Value_at : DefA := ⟨maF "Value" "at", "at", "Value.at", defArgs s_Value_at, defBody s_Value_at, defScope s_Value_at, [], []⟩
abbrev s_law_beside : Stmt := top 26
def d_law_beside : DefA := ⟨gaF "_law_beside", "_law_beside", "_law_beside", defArgs s_law_beside, defBody s_law_beside, defScope s_law_beside, [], []⟩
abbrev s_law_take : Stmt := top 22
def d_law_take : DefA := ⟨gaF "_law_take", "_law_take", "_law_take", defArgs s_law_take, defBody s_law_take, defScope s_law_take, [], []⟩
abbrev s_law_number : Stmt := top 23
def d_law_number : DefA := ⟨gaF "_law_number", "_law_number", "_law_number", defArgs s_law_number, defBody s_law_number, defScope s_law_number, [], []⟩
abbrev s_law_near : Stmt := top 24
def d_law_near : DefA := ⟨gaF "_law_near", "_law_near", "_law_near", defArgs s_law_near, defBody s_law_near, defScope s_law_near, [], []⟩
abbrev s_Value_invert : Stmt := (clsB (top 19)).getD 13 (.Pass ⟨0, 0, 0, 0⟩)
def d_Value_invert : DefA := ⟨maF "Value" "__invert__", "__invert__", "Value.__invert__", defArgs s_Value_invert, defBody s_Value_invert, defScope s_Value_invert, [], []⟩
abbrev s_law_two : Stmt := top 25
def d_law_two : DefA := ⟨gaF "_law_two", "_law_two", "_law_two", defArgs s_law_two, defBody s_law_two, defScope s_law_two, [], []⟩
abbrev s_is_name : Stmt := top 8
def d_is_name : DefA := ⟨gaF "is_name", "is_name", "is_name", defArgs s_is_name, defBody s_is_name, defScope s_is_name, [], []⟩
abbrev s_check_name : Stmt := top 9
def d_check_name : DefA := ⟨gaF "check_name", "check_name", "check_name", defArgs s_check_name, defBody s_check_name, defScope s_check_name, [], []⟩
abbrev s_cell : Stmt := top 11
def d_cell : DefA := ⟨gaF "cell", "cell", "cell", defArgs s_cell, defBody s_cell, defScope s_cell, [], []⟩
abbrev s_passed : Stmt := top 12
def d_passed : DefA := ⟨gaF "passed", "passed", "passed", defArgs s_passed, defBody s_passed, defScope s_passed, [], []⟩
abbrev s_law_fits : Stmt := top 27
def d_law_fits : DefA := ⟨gaF "_law_fits", "_law_fits", "_law_fits", defArgs s_law_fits, defBody s_law_fits, defScope s_law_fits, [], []⟩
abbrev s_law_well : Stmt := top 21
def d_law_well : DefA := ⟨gaF "_law_well", "_law_well", "_law_well", defArgs s_law_well, defBody s_law_well, defScope s_law_well, [], []⟩
abbrev s_law : Stmt := top 28
def d_law : DefA := ⟨gaF "law", "law", "law", defArgs s_law, defBody s_law, defScope s_law, [], []⟩
abbrev s_WorkError_init : Stmt := (clsB (top 2)).getD 0 (.Pass ⟨0, 0, 0, 0⟩)
def d_WorkError_init : DefA := ⟨maF "WorkError" "__init__", "__init__", "WorkError.__init__", defArgs s_WorkError_init, defBody s_WorkError_init, defScope s_WorkError_init, [], []⟩
def fn : List DefA := [d_Value_init, d_number, d_value_of, d_Value_and, d_Value_rand, d_Value_rsub, d_Value_sub, d_Value_less, d_Value_same, d_Value_or, d_Value_ror, d_parts_of, d_names_in, d_Value_names, d_Value_add, d_Value_eq, d_check_divisor, d_Value_floordiv, d_Value_mul, d_Value_radd, d_Value_rmul, d_paired, d_worth_of, d_Value_at, d_law_beside, d_law_take, d_law_number, d_law_near, d_Value_invert, d_law_two, d_is_name, d_check_name, d_cell, d_passed, d_law_fits, d_law_well, d_law, d_WorkError_init]
def fc : List Fc := [kExc "InvalidDivisor", kInit "InvalidDivisor" "WorkError", kNo "InvalidDivisor" "value", kExc "InvalidName", kInit "InvalidName" "WorkError", kNo "InvalidName" "value", kExc "UnknownName", kInit "UnknownName" "WorkError", kNo "UnknownName" "value", kCls "Value", kNo "Value" "sign", kNo "Value" "first", kNo "Value" "second", kMk "Value", kGlo "Value", kIs [("Value", true)] "Value", kFree "isinstance", kGlo "number", kGlo "value_of", kGlo "parts_of", kGlo "names_in", kFree "sorted", kFree "set", kEq "Value", kGlo "InvalidDivisor", kGlo "check_divisor", kOpL .Add "Value", kOpR .Add "Value", kOpL .Sub "Value", kOpR .Sub "Value", kOpL .Mult "Value", kOpR .Mult "Value", kOpL .FloorDiv "Value", kFree "int", kGlo "worth_of", kGlo "paired", kProp "Value" "names", kGlo "UnknownName", kOpL .BitAnd "Value", kOpR .BitAnd "Value", kOpL .BitOr "Value", kOpR .BitOr "Value", kMeth "Value" "same", kMeth "Value" "less", kMeth "Value" "at", kFree "repr", kGlo "_law_take", kGlo "_law_number", kInv "Value", kFree "len", kStr "LETTERS" "abcdefghijklmnopqrstuvwxyz", kFree "all", kGlo "is_name", kGlo "InvalidName", kGlo "check_name", kGlo "_law_near", kGlo "cell", kGlo "passed", kGlo "_law_two", kFree "min", kFree "max", kGlo "_law_beside", kFree "abs", kFree "range", kGlo "_law_well", kGlo "_law_fits", kGlo "law"]
abbrev FA := Fa fc fn
section
variable {P : Program} {w : World} {K : Frag} {mg : Str → Option Value} {base : Heap}
theorem ra_InvalidDivisor (Y : FA P w K mg base) : RaF P w K mg base 1 "InvalidDivisor" := by
  obtain ⟨fd, F⟩ := Y.says.def_ 37 rfl
  exact raF_of Y 0 1 2 rfl rfl rfl F ⟨rfl, rfl, rfl, by decide +kernel, rfl, by decide +kernel, by decide +kernel⟩ fun _ _ _ _ _ _ us h => match us, h with
    | [_, _], _ => by kernel_rfl
theorem ra_InvalidName (Y : FA P w K mg base) : RaF P w K mg base 1 "InvalidName" := by
  obtain ⟨fd, F⟩ := Y.says.def_ 37 rfl
  exact raF_of Y 3 4 5 rfl rfl rfl F ⟨rfl, rfl, rfl, by decide +kernel, rfl, by decide +kernel, by decide +kernel⟩ fun _ _ _ _ _ _ us h => match us, h with
    | [_, _], _ => by kernel_rfl
theorem ra_UnknownName (Y : FA P w K mg base) : RaF P w K mg base 1 "UnknownName" := by
  obtain ⟨fd, F⟩ := Y.says.def_ 37 rfl
  exact raF_of Y 6 7 8 rfl rfl rfl F ⟨rfl, rfl, rfl, by decide +kernel, rfl, by decide +kernel, by decide +kernel⟩ fun _ _ _ _ _ _ us h => match us, h with
    | [_, _], _ => by kernel_rfl
abbrev N_Value_init : List Str := ["self", "sign", "first", "second"]
theorem w_Value_init (Y : FA P w K mg base) {X : Cx} {W : WX} (c : Bd P w K mg base N_Value_init d_Value_init.scope 0 X W) : PSs X d_Value_init.body (tF X.K Memo.no [0] W m_Value_init) :=
  (pss_c (sFst c (fldOk_c (Y.cls 9 rfl) (Y.no 10 rfl) fldOk_0) (by kernel_rfl) (wV c.ct (by kernel_rfl)) rfl)
    (pss_c (sFst c (fldOk_c (Y.cls 9 rfl) (Y.no 11 rfl) fldOk_0) (by kernel_rfl) (wV c.ct (by kernel_rfl)) rfl)
    (pss_c (sFst c (fldOk_c (Y.cls 9 rfl) (Y.no 12 rfl) fldOk_0) (by kernel_rfl) (wV c.ct (by kernel_rfl)) rfl)
    pss_0)))
theorem g_Value_init (Y : FA P w K mg base) : GdF P w K Memo.no mg base d_Value_init ["self", "sign", "first", "second"] [0] 1 f_Value_init :=
  GdF.mk' Y 0 rfl (N := N_Value_init) ⟨rfl, rfl, rfl, by decide +kernel, rfl, by decide +kernel, by decide +kernel⟩ rfl (by decide) fun _ _ c => w_Value_init Y c
theorem b_Value_init_4 {j : Nat} {ff : List D → Cr} (h : GdF P w K Memo.no mg base d_Value_init ["self", "sign", "first", "second"] [0] j ff) : FnB P w K Memo.no mg base j (d_Value_init.at_ K) ff [0] 4 [] [.inl 0, .inl 1, .inl 2, .inl 3] :=
  h.b 4 [] [0, 1, 2, 3] rfl rfl fun _ _ _ _ _ _ us ws h1 h2 => match us, ws, h1, h2 with
    | [u0, u1, u2, u3], [], _, _ => ⟨[u0, u1, u2, u3], rfl, by kernel_rfl⟩
abbrev N_number : List Str := ["n"]
theorem w_number (Y : FA P w K mg base) {X : Cx} {W : WX} (c : Bd P w K mg base N_number d_number.scope 2 X W) : PSs X d_number.body (tF X.K Memo.no [] W m_number) :=
  (pss_c (ps_Ret (wNew0 c.ct (Y.mkc 13 rfl) (b_Value_init_4 (g_Value_init Y)) (by omega) (by kernel_rfl) (Y.glo 14 rfl) (fun _ _ => trivial) (paV kS (paV (wV c.ct (by kernel_rfl)) (paV kN pa_A0 rfl) rfl) rfl) rfl rfl))
    pss_0)
theorem g_number (Y : FA P w K mg base) : GdF P w K Memo.no mg base d_number ["n"] [] 3 f_number :=
  GdF.mk' Y 1 rfl (N := N_number) ⟨rfl, rfl, rfl, by decide +kernel, rfl, by decide +kernel, by decide +kernel⟩ rfl (by decide) fun _ _ c => w_number Y c
theorem b_number_1 {j : Nat} {ff : List D → Cr} (h : GdF P w K Memo.no mg base d_number ["n"] [] j ff) : FnB P w K Memo.no mg base j (d_number.at_ K) ff [] 1 [] [.inl 0] :=
  h.b 1 [] [0] rfl rfl fun _ _ _ _ _ _ us ws h1 h2 => match us, ws, h1, h2 with
    | [u0], [], _, _ => ⟨[u0], rfl, by kernel_rfl⟩
abbrev N_value_of : List Str := ["part"]
theorem w_value_of (Y : FA P w K mg base) {X : Cx} {W : WX} (c : Bd P w K mg base N_value_of d_value_of.scope 3 X W) : PSs X d_value_of.body (tF X.K Memo.no [] W m_value_of) :=
  (pss_c (ps_Ret (pe_IfE (pt_Tr (wX (wIsi c.ct (Y.is 15 rfl) (by kernel_rfl) (Y.free 16 rfl) (by kernel_rfl) (Y.glo 14 rfl) (wN c.ct (by kernel_rfl)) rfl)) (fun _ => rfl)) (wV c.ct (by kernel_rfl)) (wCall0 c.ct (b_number_1 (g_number Y)) (by omega) (by kernel_rfl) (Y.glo 17 rfl) (paV (wV c.ct (by kernel_rfl)) pa_A0 rfl) rfl)))
    pss_0)
theorem g_value_of (Y : FA P w K mg base) : GdF P w K Memo.no mg base d_value_of ["part"] [] 4 f_value_of :=
  GdF.mk' Y 2 rfl (N := N_value_of) ⟨rfl, rfl, rfl, by decide +kernel, rfl, by decide +kernel, by decide +kernel⟩ rfl (by decide) fun _ _ c => w_value_of Y c
theorem b_value_of_1 {j : Nat} {ff : List D → Cr} (h : GdF P w K Memo.no mg base d_value_of ["part"] [] j ff) : FnB P w K Memo.no mg base j (d_value_of.at_ K) ff [] 1 [] [.inl 0] :=
  h.b 1 [] [0] rfl rfl fun _ _ _ _ _ _ us ws h1 h2 => match us, ws, h1, h2 with
    | [u0], [], _, _ => ⟨[u0], rfl, by kernel_rfl⟩
abbrev N_Value_and : List Str := ["self", "other"]
theorem w_Value_and (Y : FA P w K mg base) {X : Cx} {W : WX} (c : Bd P w K mg base N_Value_and d_Value_and.scope 4 X W) : PSs X d_Value_and.body (tF X.K Memo.no [] W m_Value_and) :=
  (pss_c (ps_Ret (wNew0 c.ct (Y.mkc 13 rfl) (b_Value_init_4 (g_Value_init Y)) (by omega) (by kernel_rfl) (Y.glo 14 rfl) (fun _ _ => trivial) (paV kS (paV (wV c.ct (by kernel_rfl)) (paV (wCall0 c.ct (b_value_of_1 (g_value_of Y)) (by omega) (by kernel_rfl) (Y.glo 18 rfl) (paV (wV c.ct (by kernel_rfl)) pa_A0 rfl) rfl) pa_A0 rfl) rfl) rfl) rfl rfl))
    pss_0)
theorem g_Value_and (Y : FA P w K mg base) : GdF P w K Memo.no mg base d_Value_and ["self", "other"] [] 5 f_Value_and :=
  GdF.mk' Y 3 rfl (N := N_Value_and) ⟨rfl, rfl, rfl, by decide +kernel, rfl, by decide +kernel, by decide +kernel⟩ rfl (by decide) fun _ _ c => w_Value_and Y c
abbrev N_Value_rand : List Str := ["self", "other"]
theorem w_Value_rand (Y : FA P w K mg base) {X : Cx} {W : WX} (c : Bd P w K mg base N_Value_rand d_Value_rand.scope 4 X W) : PSs X d_Value_rand.body (tF X.K Memo.no [] W m_Value_rand) :=
  (pss_c (ps_Ret (wNew0 c.ct (Y.mkc 13 rfl) (b_Value_init_4 (g_Value_init Y)) (by omega) (by kernel_rfl) (Y.glo 14 rfl) (fun _ _ => trivial) (paV kS (paV (wCall0 c.ct (b_value_of_1 (g_value_of Y)) (by omega) (by kernel_rfl) (Y.glo 18 rfl) (paV (wV c.ct (by kernel_rfl)) pa_A0 rfl) rfl) (paV (wV c.ct (by kernel_rfl)) pa_A0 rfl) rfl) rfl) rfl rfl))
    pss_0)
theorem g_Value_rand (Y : FA P w K mg base) : GdF P w K Memo.no mg base d_Value_rand ["self", "other"] [] 5 f_Value_rand :=
  GdF.mk' Y 4 rfl (N := N_Value_rand) ⟨rfl, rfl, rfl, by decide +kernel, rfl, by decide +kernel, by decide +kernel⟩ rfl (by decide) fun _ _ c => w_Value_rand Y c
abbrev N_Value_rsub : List Str := ["self", "other"]
theorem w_Value_rsub (Y : FA P w K mg base) {X : Cx} {W : WX} (c : Bd P w K mg base N_Value_rsub d_Value_rsub.scope 4 X W) : PSs X d_Value_rsub.body (tF X.K Memo.no [] W m_Value_rsub) :=
  (pss_c (ps_Ret (wNew0 c.ct (Y.mkc 13 rfl) (b_Value_init_4 (g_Value_init Y)) (by omega) (by kernel_rfl) (Y.glo 14 rfl) (fun _ _ => trivial) (paV kS (paV (wCall0 c.ct (b_value_of_1 (g_value_of Y)) (by omega) (by kernel_rfl) (Y.glo 18 rfl) (paV (wV c.ct (by kernel_rfl)) pa_A0 rfl) rfl) (paV (wV c.ct (by kernel_rfl)) pa_A0 rfl) rfl) rfl) rfl rfl))
    pss_0)
theorem g_Value_rsub (Y : FA P w K mg base) : GdF P w K Memo.no mg base d_Value_rsub ["self", "other"] [] 5 f_Value_rsub :=
  GdF.mk' Y 5 rfl (N := N_Value_rsub) ⟨rfl, rfl, rfl, by decide +kernel, rfl, by decide +kernel, by decide +kernel⟩ rfl (by decide) fun _ _ c => w_Value_rsub Y c
abbrev N_Value_sub : List Str := ["self", "other"]
theorem w_Value_sub (Y : FA P w K mg base) {X : Cx} {W : WX} (c : Bd P w K mg base N_Value_sub d_Value_sub.scope 4 X W) : PSs X d_Value_sub.body (tF X.K Memo.no [] W m_Value_sub) :=
  (pss_c (ps_Ret (wNew0 c.ct (Y.mkc 13 rfl) (b_Value_init_4 (g_Value_init Y)) (by omega) (by kernel_rfl) (Y.glo 14 rfl) (fun _ _ => trivial) (paV kS (paV (wV c.ct (by kernel_rfl)) (paV (wCall0 c.ct (b_value_of_1 (g_value_of Y)) (by omega) (by kernel_rfl) (Y.glo 18 rfl) (paV (wV c.ct (by kernel_rfl)) pa_A0 rfl) rfl) pa_A0 rfl) rfl) rfl) rfl rfl))
    pss_0)
theorem g_Value_sub (Y : FA P w K mg base) : GdF P w K Memo.no mg base d_Value_sub ["self", "other"] [] 5 f_Value_sub :=
  GdF.mk' Y 6 rfl (N := N_Value_sub) ⟨rfl, rfl, rfl, by decide +kernel, rfl, by decide +kernel, by decide +kernel⟩ rfl (by decide) fun _ _ c => w_Value_sub Y c
abbrev N_Value_less : List Str := ["self", "other"]
theorem w_Value_less (Y : FA P w K mg base) {X : Cx} {W : WX} (c : Bd P w K mg base N_Value_less d_Value_less.scope 4 X W) : PSs X d_Value_less.body (tF X.K Memo.no [] W m_Value_less) :=
  (pss_c (ps_Ret (wNew0 c.ct (Y.mkc 13 rfl) (b_Value_init_4 (g_Value_init Y)) (by omega) (by kernel_rfl) (Y.glo 14 rfl) (fun _ _ => trivial) (paV kS (paV (wV c.ct (by kernel_rfl)) (paV (wCall0 c.ct (b_value_of_1 (g_value_of Y)) (by omega) (by kernel_rfl) (Y.glo 18 rfl) (paV (wV c.ct (by kernel_rfl)) pa_A0 rfl) rfl) pa_A0 rfl) rfl) rfl) rfl rfl))
    pss_0)
theorem g_Value_less (Y : FA P w K mg base) : GdF P w K Memo.no mg base d_Value_less ["self", "other"] [] 5 f_Value_less :=
  GdF.mk' Y 7 rfl (N := N_Value_less) ⟨rfl, rfl, rfl, by decide +kernel, rfl, by decide +kernel, by decide +kernel⟩ rfl (by decide) fun _ _ c => w_Value_less Y c
abbrev N_Value_same : List Str := ["self", "other"]
theorem w_Value_same (Y : FA P w K mg base) {X : Cx} {W : WX} (c : Bd P w K mg base N_Value_same d_Value_same.scope 4 X W) : PSs X d_Value_same.body (tF X.K Memo.no [] W m_Value_same) :=
  (pss_c (ps_Ret (wNew0 c.ct (Y.mkc 13 rfl) (b_Value_init_4 (g_Value_init Y)) (by omega) (by kernel_rfl) (Y.glo 14 rfl) (fun _ _ => trivial) (paV kS (paV (wV c.ct (by kernel_rfl)) (paV (wCall0 c.ct (b_value_of_1 (g_value_of Y)) (by omega) (by kernel_rfl) (Y.glo 18 rfl) (paV (wV c.ct (by kernel_rfl)) pa_A0 rfl) rfl) pa_A0 rfl) rfl) rfl) rfl rfl))
    pss_0)
theorem g_Value_same (Y : FA P w K mg base) : GdF P w K Memo.no mg base d_Value_same ["self", "other"] [] 5 f_Value_same :=
  GdF.mk' Y 8 rfl (N := N_Value_same) ⟨rfl, rfl, rfl, by decide +kernel, rfl, by decide +kernel, by decide +kernel⟩ rfl (by decide) fun _ _ c => w_Value_same Y c
abbrev N_Value_or : List Str := ["self", "other"]
theorem w_Value_or (Y : FA P w K mg base) {X : Cx} {W : WX} (c : Bd P w K mg base N_Value_or d_Value_or.scope 4 X W) : PSs X d_Value_or.body (tF X.K Memo.no [] W m_Value_or) :=
  (pss_c (ps_Ret (wNew0 c.ct (Y.mkc 13 rfl) (b_Value_init_4 (g_Value_init Y)) (by omega) (by kernel_rfl) (Y.glo 14 rfl) (fun _ _ => trivial) (paV kS (paV (wV c.ct (by kernel_rfl)) (paV (wCall0 c.ct (b_value_of_1 (g_value_of Y)) (by omega) (by kernel_rfl) (Y.glo 18 rfl) (paV (wV c.ct (by kernel_rfl)) pa_A0 rfl) rfl) pa_A0 rfl) rfl) rfl) rfl rfl))
    pss_0)
theorem g_Value_or (Y : FA P w K mg base) : GdF P w K Memo.no mg base d_Value_or ["self", "other"] [] 5 f_Value_or :=
  GdF.mk' Y 9 rfl (N := N_Value_or) ⟨rfl, rfl, rfl, by decide +kernel, rfl, by decide +kernel, by decide +kernel⟩ rfl (by decide) fun _ _ c => w_Value_or Y c
abbrev N_Value_ror : List Str := ["self", "other"]
theorem w_Value_ror (Y : FA P w K mg base) {X : Cx} {W : WX} (c : Bd P w K mg base N_Value_ror d_Value_ror.scope 4 X W) : PSs X d_Value_ror.body (tF X.K Memo.no [] W m_Value_ror) :=
  (pss_c (ps_Ret (wNew0 c.ct (Y.mkc 13 rfl) (b_Value_init_4 (g_Value_init Y)) (by omega) (by kernel_rfl) (Y.glo 14 rfl) (fun _ _ => trivial) (paV kS (paV (wCall0 c.ct (b_value_of_1 (g_value_of Y)) (by omega) (by kernel_rfl) (Y.glo 18 rfl) (paV (wV c.ct (by kernel_rfl)) pa_A0 rfl) rfl) (paV (wV c.ct (by kernel_rfl)) pa_A0 rfl) rfl) rfl) rfl rfl))
    pss_0)
theorem g_Value_ror (Y : FA P w K mg base) : GdF P w K Memo.no mg base d_Value_ror ["self", "other"] [] 5 f_Value_ror :=
  GdF.mk' Y 10 rfl (N := N_Value_ror) ⟨rfl, rfl, rfl, by decide +kernel, rfl, by decide +kernel, by decide +kernel⟩ rfl (by decide) fun _ _ c => w_Value_ror Y c
abbrev N_parts_of : List Str := ["value"]
theorem w_parts_of (Y : FA P w K mg base) {X : Cx} {W : WX} (c : Bd P w K mg base N_parts_of d_parts_of.scope 0 X W) : PSs X d_parts_of.body (tF X.K Memo.no [] W m_parts_of) :=
  (pss_c (ps_If (tCmp c.ct (wX (wFld c.ct (fldOk_c (Y.cls 9 rfl) (Y.no 10 rfl) fldOk_0) (wN c.ct (by kernel_rfl)) rfl)) (wX (pe_Tup (wLc kS (wLc kS (wLc kS wL0 rfl) rfl) rfl))) rfl) (pss_c (ps_Ret (pe_Lst wL0))
    pss_0) pss_0)
    (pss_c (ps_Ret (pe_IfE (tCmp c.ct (wX (wFld c.ct (fldOk_c (Y.cls 9 rfl) (Y.no 10 rfl) fldOk_0) (wN c.ct (by kernel_rfl)) rfl)) (wX kS) rfl) (pe_Lst (wLc (wFld c.ct (fldOk_c (Y.cls 9 rfl) (Y.no 11 rfl) fldOk_0) (wN c.ct (by kernel_rfl)) rfl) wL0 rfl)) (pe_Lst (wLc (wFld c.ct (fldOk_c (Y.cls 9 rfl) (Y.no 11 rfl) fldOk_0) (wN c.ct (by kernel_rfl)) rfl) (wLc (wFld c.ct (fldOk_c (Y.cls 9 rfl) (Y.no 12 rfl) fldOk_0) (wN c.ct (by kernel_rfl)) rfl) wL0 rfl) rfl))))
    pss_0))
theorem g_parts_of (Y : FA P w K mg base) : GdF P w K Memo.no mg base d_parts_of ["value"] [] 1 f_parts_of :=
  GdF.mk' Y 11 rfl (N := N_parts_of) ⟨rfl, rfl, rfl, by decide +kernel, rfl, by decide +kernel, by decide +kernel⟩ rfl (by decide) fun _ _ c => w_parts_of Y c
theorem b_parts_of_1 {j : Nat} {ff : List D → Cr} (h : GdF P w K Memo.no mg base d_parts_of ["value"] [] j ff) : FnB P w K Memo.no mg base j (d_parts_of.at_ K) ff [] 1 [] [.inl 0] :=
  h.b 1 [] [0] rfl rfl fun _ _ _ _ _ _ us ws h1 h2 => match us, ws, h1, h2 with
    | [u0], [], _, _ => ⟨[u0], rfl, by kernel_rfl⟩
theorem b_names_in_1 {j : Nat} {ff : List D → Cr} (h : GdF P w K Memo.no mg base d_names_in ["value"] [] j ff) : FnB P w K Memo.no mg base j (d_names_in.at_ K) ff [] 1 [] [.inl 0] :=
  h.b 1 [] [0] rfl rfl fun _ _ _ _ _ _ us ws h1 h2 => match us, ws, h1, h2 with
    | [u0], [], _, _ => ⟨[u0], rfl, by kernel_rfl⟩
abbrev N_names_in : List Str := ["value", "found", "part"]
theorem w_names_in (Y : FA P w K mg base) {n : Nat} (H_names_in : GdF P w K Memo.no mg base d_names_in ["value"] [] (1 + 2 * n) (f_names_in n)) {X : Cx} {W : WX} (c : Bd P w K mg base N_names_in d_names_in.scope (1 + 2 * n + 1) X W) : PSs X d_names_in.body (tF X.K Memo.no [] W (m_names_in (f_names_in n))) :=
  (pss_c (sSet c (by kernel_rfl) (pe_IfE (tCmp c.ct (wX (wFld c.ct (fldOk_c (Y.cls 9 rfl) (Y.no 10 rfl) fldOk_0) (wN c.ct (by kernel_rfl)) rfl)) (wX kS) rfl) (pe_Lst (wLc (wFld c.ct (fldOk_c (Y.cls 9 rfl) (Y.no 11 rfl) fldOk_0) (wN c.ct (by kernel_rfl)) rfl) wL0 rfl)) (pe_Lst wL0)) (by kernel_rfl) rfl)
    (pss_c (sFor c (pi_V (wCall0 c.ct (b_parts_of_1 (g_parts_of Y)) (by omega) (by kernel_rfl) (Y.glo 19 rfl) (paV (wV c.ct (by kernel_rfl)) pa_A0 rfl) rfl)) (wTn c.ct (by kernel_rfl) (.inl c.fn)) (by kernel_rfl) (pss_c (sSet c (by kernel_rfl) (wOp c.ct (wN c.ct (by kernel_rfl)) (wX (wCall0 c.ct (b_names_in_1 H_names_in) (by omega) (by kernel_rfl) (Y.glo 20 rfl) (paV (wV c.ct (by kernel_rfl)) pa_A0 rfl) rfl))) (by kernel_rfl) rfl)
    pss_0) (fun _ => rfl))
    (pss_c (ps_Ret (wV c.ct (by kernel_rfl)))
    pss_0)))
theorem g_names_in (Y : FA P w K mg base) : ∀ n : Nat, GdF P w K Memo.no mg base d_names_in ["value"] [] (1 + 2 * n) (f_names_in n)
  | 0 => GdF.no Y 12 rfl
  | n + 1 => GdF.mk' Y 12 rfl (N := N_names_in) ⟨rfl, rfl, rfl, by decide +kernel, rfl, by decide +kernel, by decide +kernel⟩ rfl (by decide) fun _ _ c => w_names_in Y (g_names_in Y n) c
abbrev N_Value_names : List Str := ["self"]
theorem w_Value_names (Y : FA P w K mg base) {X : Cx} {W : WX} (c : Bd P w K mg base N_Value_names d_Value_names.scope 17 X W) : PSs X d_Value_names.body (tF X.K Memo.no [] W m_Value_names) :=
  (pss_c (ps_Ret (wSS c.ct (by kernel_rfl) (Y.free 21 rfl) (by kernel_rfl) (Y.free 22 rfl) (wX (wCall0 c.ct (b_names_in_1 (g_names_in Y 8)) (by omega) (by kernel_rfl) (Y.glo 20 rfl) (paV (wV c.ct (by kernel_rfl)) pa_A0 rfl) rfl)) rfl))
    pss_0)
theorem g_Value_names (Y : FA P w K mg base) : GdF P w K Memo.no mg base d_Value_names ["self"] [] 18 f_Value_names :=
  GdF.mk' Y 13 rfl (N := N_Value_names) ⟨rfl, rfl, rfl, by decide +kernel, rfl, by decide +kernel, by decide +kernel⟩ rfl (by decide) fun _ _ c => w_Value_names Y c
abbrev N_Value_add : List Str := ["self", "other"]
theorem w_Value_add (Y : FA P w K mg base) {X : Cx} {W : WX} (c : Bd P w K mg base N_Value_add d_Value_add.scope 4 X W) : PSs X d_Value_add.body (tF X.K Memo.no [] W m_Value_add) :=
  (pss_c (ps_Ret (wNew0 c.ct (Y.mkc 13 rfl) (b_Value_init_4 (g_Value_init Y)) (by omega) (by kernel_rfl) (Y.glo 14 rfl) (fun _ _ => trivial) (paV kS (paV (wV c.ct (by kernel_rfl)) (paV (wCall0 c.ct (b_value_of_1 (g_value_of Y)) (by omega) (by kernel_rfl) (Y.glo 18 rfl) (paV (wV c.ct (by kernel_rfl)) pa_A0 rfl) rfl) pa_A0 rfl) rfl) rfl) rfl rfl))
    pss_0)
theorem g_Value_add (Y : FA P w K mg base) : GdF P w K Memo.no mg base d_Value_add ["self", "other"] [] 5 f_Value_add :=
  GdF.mk' Y 14 rfl (N := N_Value_add) ⟨rfl, rfl, rfl, by decide +kernel, rfl, by decide +kernel, by decide +kernel⟩ rfl (by decide) fun _ _ c => w_Value_add Y c
theorem b_Value_eq_2 {j : Nat} {ff : List D → Cr} (h : GdF P w K Memo.no mg base d_Value_eq ["self", "other"] [] j ff) : FnB P w K Memo.no mg base j (d_Value_eq.at_ K) ff [] 2 [] [.inl 0, .inl 1] :=
  h.b 2 [] [0, 1] rfl rfl fun _ _ _ _ _ _ us ws h1 h2 => match us, ws, h1, h2 with
    | [u0, u1], [], _, _ => ⟨[u0, u1], rfl, by kernel_rfl⟩
abbrev N_Value_eq : List Str := ["self", "other"]
theorem w_Value_eq (Y : FA P w K mg base) {n : Nat} (H_Value_eq : GdF P w K Memo.no mg base d_Value_eq ["self", "other"] [] (0 + 2 * n) (f_Value_eq n)) {X : Cx} {W : WX} (c : Bd P w K mg base N_Value_eq d_Value_eq.scope (0 + 2 * n + 1) X W) : PSs X d_Value_eq.body (tF X.K Memo.no [] W (m_Value_eq (f_Value_eq n))) :=
  (pss_c (ps_If ((pw_Oc (pt_not' (pt_Tr (wX (wIsi c.ct (Y.is 15 rfl) (by kernel_rfl) (Y.free 16 rfl) (by kernel_rfl) (Y.glo 14 rfl) (wN c.ct (by kernel_rfl)) rfl)) (fun _ => rfl))) (pw_O1 (tCmp c.ct (wX (wFld c.ct (fldOk_c (Y.cls 9 rfl) (Y.no 10 rfl) fldOk_0) (wN c.ct (by kernel_rfl)) rfl)) (wX (wFld c.ct (fldOk_c (Y.cls 9 rfl) (Y.no 10 rfl) fldOk_0) (wN c.ct (by kernel_rfl)) rfl)) rfl)))).pt (pss_c (ps_Ret kB)
    pss_0) pss_0)
    (pss_c (ps_Ret (pe_And (wEq c.ct (all_c ⟨_, ⟨(0 + 2 * n), by omega, b_Value_eq_2 H_Value_eq, rfl⟩, Y.eq 23 rfl⟩ all_0) (wFld c.ct (fldOk_c (Y.cls 9 rfl) (Y.no 11 rfl) fldOk_0) (wN c.ct (by kernel_rfl)) rfl) (wFld c.ct (fldOk_c (Y.cls 9 rfl) (Y.no 11 rfl) fldOk_0) (wN c.ct (by kernel_rfl)) rfl) rfl) (pe_one (wEq c.ct (all_c ⟨_, ⟨(0 + 2 * n), by omega, b_Value_eq_2 H_Value_eq, rfl⟩, Y.eq 23 rfl⟩ all_0) (wFld c.ct (fldOk_c (Y.cls 9 rfl) (Y.no 12 rfl) fldOk_0) (wN c.ct (by kernel_rfl)) rfl) (wFld c.ct (fldOk_c (Y.cls 9 rfl) (Y.no 12 rfl) fldOk_0) (wN c.ct (by kernel_rfl)) rfl) rfl))))
    pss_0))
theorem g_Value_eq (Y : FA P w K mg base) : ∀ n : Nat, GdF P w K Memo.no mg base d_Value_eq ["self", "other"] [] (0 + 2 * n) (f_Value_eq n)
  | 0 => GdF.no Y 15 rfl
  | n + 1 => GdF.mk' Y 15 rfl (N := N_Value_eq) ⟨rfl, rfl, rfl, by decide +kernel, rfl, by decide +kernel, by decide +kernel⟩ rfl (by decide) fun _ _ c => w_Value_eq Y (g_Value_eq Y n) c
abbrev N_check_divisor : List Str := ["number"]
theorem w_check_divisor (Y : FA P w K mg base) {X : Cx} {W : WX} (c : Bd P w K mg base N_check_divisor d_check_divisor.scope 2 X W) : PSs X d_check_divisor.body (tF X.K Memo.no [] W m_check_divisor) :=
  (pss_c (ps_If (tCmp c.ct (wN c.ct (by kernel_rfl)) (wX kI) rfl) (pss_c (sRaise c (ra_InvalidDivisor Y) (by omega) (by kernel_rfl) (Y.glo 24 rfl) (wV c.ct (by kernel_rfl)) rfl)
    pss_0) pss_0)
    pss_0)
theorem g_check_divisor (Y : FA P w K mg base) : GdF P w K Memo.no mg base d_check_divisor ["number"] [] 3 f_check_divisor :=
  GdF.mk' Y 16 rfl (N := N_check_divisor) ⟨rfl, rfl, rfl, by decide +kernel, rfl, by decide +kernel, by decide +kernel⟩ rfl (by decide) fun _ _ c => w_check_divisor Y c
theorem b_check_divisor_1 {j : Nat} {ff : List D → Cr} (h : GdF P w K Memo.no mg base d_check_divisor ["number"] [] j ff) : FnB P w K Memo.no mg base j (d_check_divisor.at_ K) ff [] 1 [] [.inl 0] :=
  h.b 1 [] [0] rfl rfl fun _ _ _ _ _ _ us ws h1 h2 => match us, ws, h1, h2 with
    | [u0], [], _, _ => ⟨[u0], rfl, by kernel_rfl⟩
abbrev N_Value_floordiv : List Str := ["self", "other"]
theorem w_Value_floordiv (Y : FA P w K mg base) {X : Cx} {W : WX} (c : Bd P w K mg base N_Value_floordiv d_Value_floordiv.scope 3 X W) : PSs X d_Value_floordiv.body (tF X.K Memo.no [] W m_Value_floordiv) :=
  (pss_c (ps_Drop (wCall0 c.ct (b_check_divisor_1 (g_check_divisor Y)) (by omega) (by kernel_rfl) (Y.glo 25 rfl) (paV (wV c.ct (by kernel_rfl)) pa_A0 rfl) rfl) rfl)
    (pss_c (ps_Ret (wNew0 c.ct (Y.mkc 13 rfl) (b_Value_init_4 (g_Value_init Y)) (by omega) (by kernel_rfl) (Y.glo 14 rfl) (fun _ _ => trivial) (paV kS (paV (wV c.ct (by kernel_rfl)) (paV (wCall0 c.ct (b_number_1 (g_number Y)) (by omega) (by kernel_rfl) (Y.glo 17 rfl) (paV (wV c.ct (by kernel_rfl)) pa_A0 rfl) rfl) pa_A0 rfl) rfl) rfl) rfl rfl))
    pss_0))
theorem g_Value_floordiv (Y : FA P w K mg base) : GdF P w K Memo.no mg base d_Value_floordiv ["self", "other"] [] 4 f_Value_floordiv :=
  GdF.mk' Y 17 rfl (N := N_Value_floordiv) ⟨rfl, rfl, rfl, by decide +kernel, rfl, by decide +kernel, by decide +kernel⟩ rfl (by decide) fun _ _ c => w_Value_floordiv Y c
abbrev N_Value_mul : List Str := ["self", "other"]
theorem w_Value_mul (Y : FA P w K mg base) {X : Cx} {W : WX} (c : Bd P w K mg base N_Value_mul d_Value_mul.scope 4 X W) : PSs X d_Value_mul.body (tF X.K Memo.no [] W m_Value_mul) :=
  (pss_c (ps_Ret (wNew0 c.ct (Y.mkc 13 rfl) (b_Value_init_4 (g_Value_init Y)) (by omega) (by kernel_rfl) (Y.glo 14 rfl) (fun _ _ => trivial) (paV kS (paV (wV c.ct (by kernel_rfl)) (paV (wCall0 c.ct (b_value_of_1 (g_value_of Y)) (by omega) (by kernel_rfl) (Y.glo 18 rfl) (paV (wV c.ct (by kernel_rfl)) pa_A0 rfl) rfl) pa_A0 rfl) rfl) rfl) rfl rfl))
    pss_0)
theorem g_Value_mul (Y : FA P w K mg base) : GdF P w K Memo.no mg base d_Value_mul ["self", "other"] [] 5 f_Value_mul :=
  GdF.mk' Y 18 rfl (N := N_Value_mul) ⟨rfl, rfl, rfl, by decide +kernel, rfl, by decide +kernel, by decide +kernel⟩ rfl (by decide) fun _ _ c => w_Value_mul Y c
abbrev N_Value_radd : List Str := ["self", "other"]
theorem w_Value_radd (Y : FA P w K mg base) {X : Cx} {W : WX} (c : Bd P w K mg base N_Value_radd d_Value_radd.scope 4 X W) : PSs X d_Value_radd.body (tF X.K Memo.no [] W m_Value_radd) :=
  (pss_c (ps_Ret (wNew0 c.ct (Y.mkc 13 rfl) (b_Value_init_4 (g_Value_init Y)) (by omega) (by kernel_rfl) (Y.glo 14 rfl) (fun _ _ => trivial) (paV kS (paV (wCall0 c.ct (b_value_of_1 (g_value_of Y)) (by omega) (by kernel_rfl) (Y.glo 18 rfl) (paV (wV c.ct (by kernel_rfl)) pa_A0 rfl) rfl) (paV (wV c.ct (by kernel_rfl)) pa_A0 rfl) rfl) rfl) rfl rfl))
    pss_0)
theorem g_Value_radd (Y : FA P w K mg base) : GdF P w K Memo.no mg base d_Value_radd ["self", "other"] [] 5 f_Value_radd :=
  GdF.mk' Y 19 rfl (N := N_Value_radd) ⟨rfl, rfl, rfl, by decide +kernel, rfl, by decide +kernel, by decide +kernel⟩ rfl (by decide) fun _ _ c => w_Value_radd Y c
abbrev N_Value_rmul : List Str := ["self", "other"]
theorem w_Value_rmul (Y : FA P w K mg base) {X : Cx} {W : WX} (c : Bd P w K mg base N_Value_rmul d_Value_rmul.scope 4 X W) : PSs X d_Value_rmul.body (tF X.K Memo.no [] W m_Value_rmul) :=
  (pss_c (ps_Ret (wNew0 c.ct (Y.mkc 13 rfl) (b_Value_init_4 (g_Value_init Y)) (by omega) (by kernel_rfl) (Y.glo 14 rfl) (fun _ _ => trivial) (paV kS (paV (wCall0 c.ct (b_value_of_1 (g_value_of Y)) (by omega) (by kernel_rfl) (Y.glo 18 rfl) (paV (wV c.ct (by kernel_rfl)) pa_A0 rfl) rfl) (paV (wV c.ct (by kernel_rfl)) pa_A0 rfl) rfl) rfl) rfl rfl))
    pss_0)
theorem g_Value_rmul (Y : FA P w K mg base) : GdF P w K Memo.no mg base d_Value_rmul ["self", "other"] [] 5 f_Value_rmul :=
  GdF.mk' Y 20 rfl (N := N_Value_rmul) ⟨rfl, rfl, rfl, by decide +kernel, rfl, by decide +kernel, by decide +kernel⟩ rfl (by decide) fun _ _ c => w_Value_rmul Y c
theorem b_Value_add_2 {j : Nat} {ff : List D → Cr} (h : GdF P w K Memo.no mg base d_Value_add ["self", "other"] [] j ff) : FnB P w K Memo.no mg base j (d_Value_add.at_ K) ff [] 2 [] [.inl 0, .inl 1] :=
  h.b 2 [] [0, 1] rfl rfl fun _ _ _ _ _ _ us ws h1 h2 => match us, ws, h1, h2 with
    | [u0, u1], [], _, _ => ⟨[u0, u1], rfl, by kernel_rfl⟩
theorem b_Value_radd_2 {j : Nat} {ff : List D → Cr} (h : GdF P w K Memo.no mg base d_Value_radd ["self", "other"] [] j ff) : FnB P w K Memo.no mg base j (d_Value_radd.at_ K) ff [] 2 [] [.inl 0, .inl 1] :=
  h.b 2 [] [0, 1] rfl rfl fun _ _ _ _ _ _ us ws h1 h2 => match us, ws, h1, h2 with
    | [u0, u1], [], _, _ => ⟨[u0, u1], rfl, by kernel_rfl⟩
theorem b_Value_sub_2 {j : Nat} {ff : List D → Cr} (h : GdF P w K Memo.no mg base d_Value_sub ["self", "other"] [] j ff) : FnB P w K Memo.no mg base j (d_Value_sub.at_ K) ff [] 2 [] [.inl 0, .inl 1] :=
  h.b 2 [] [0, 1] rfl rfl fun _ _ _ _ _ _ us ws h1 h2 => match us, ws, h1, h2 with
    | [u0, u1], [], _, _ => ⟨[u0, u1], rfl, by kernel_rfl⟩
theorem b_Value_rsub_2 {j : Nat} {ff : List D → Cr} (h : GdF P w K Memo.no mg base d_Value_rsub ["self", "other"] [] j ff) : FnB P w K Memo.no mg base j (d_Value_rsub.at_ K) ff [] 2 [] [.inl 0, .inl 1] :=
  h.b 2 [] [0, 1] rfl rfl fun _ _ _ _ _ _ us ws h1 h2 => match us, ws, h1, h2 with
    | [u0, u1], [], _, _ => ⟨[u0, u1], rfl, by kernel_rfl⟩
theorem b_Value_mul_2 {j : Nat} {ff : List D → Cr} (h : GdF P w K Memo.no mg base d_Value_mul ["self", "other"] [] j ff) : FnB P w K Memo.no mg base j (d_Value_mul.at_ K) ff [] 2 [] [.inl 0, .inl 1] :=
  h.b 2 [] [0, 1] rfl rfl fun _ _ _ _ _ _ us ws h1 h2 => match us, ws, h1, h2 with
    | [u0, u1], [], _, _ => ⟨[u0, u1], rfl, by kernel_rfl⟩
theorem b_Value_rmul_2 {j : Nat} {ff : List D → Cr} (h : GdF P w K Memo.no mg base d_Value_rmul ["self", "other"] [] j ff) : FnB P w K Memo.no mg base j (d_Value_rmul.at_ K) ff [] 2 [] [.inl 0, .inl 1] :=
  h.b 2 [] [0, 1] rfl rfl fun _ _ _ _ _ _ us ws h1 h2 => match us, ws, h1, h2 with
    | [u0, u1], [], _, _ => ⟨[u0, u1], rfl, by kernel_rfl⟩
theorem b_Value_floordiv_2 {j : Nat} {ff : List D → Cr} (h : GdF P w K Memo.no mg base d_Value_floordiv ["self", "other"] [] j ff) : FnB P w K Memo.no mg base j (d_Value_floordiv.at_ K) ff [] 2 [] [.inl 0, .inl 1] :=
  h.b 2 [] [0, 1] rfl rfl fun _ _ _ _ _ _ us ws h1 h2 => match us, ws, h1, h2 with
    | [u0, u1], [], _, _ => ⟨[u0, u1], rfl, by kernel_rfl⟩
abbrev N_paired : List Str := ["sign", "one", "other"]
theorem w_paired (Y : FA P w K mg base) {X : Cx} {W : WX} (c : Bd P w K mg base N_paired d_paired.scope 16 X W) : PSs X d_paired.body (tF X.K Memo.no [] W m_paired) :=
  (pss_c (ps_If (tCmp c.ct (wN c.ct (by kernel_rfl)) (wX kS) rfl) (pss_c (ps_Ret (wBin c.ct ⟨(all_c ⟨_, ⟨5, by omega, b_Value_add_2 (g_Value_add Y), rfl⟩, Y.opL 26 rfl⟩ all_0), (all_c ⟨_, ⟨5, by omega, b_Value_radd_2 (g_Value_radd Y), rfl⟩, Y.opR 27 rfl⟩ all_0), fun _ => opI_Add⟩ (wV c.ct (by kernel_rfl)) (wV c.ct (by kernel_rfl))))
    pss_0) pss_0)
    (pss_c (ps_If (tCmp c.ct (wN c.ct (by kernel_rfl)) (wX kS) rfl) (pss_c (ps_Ret (wBin c.ct ⟨(all_c ⟨_, ⟨5, by omega, b_Value_sub_2 (g_Value_sub Y), rfl⟩, Y.opL 28 rfl⟩ all_0), (all_c ⟨_, ⟨5, by omega, b_Value_rsub_2 (g_Value_rsub Y), rfl⟩, Y.opR 29 rfl⟩ all_0), fun _ => opI_Sub⟩ (wV c.ct (by kernel_rfl)) (wV c.ct (by kernel_rfl))))
    pss_0) pss_0)
    (pss_c (ps_If (tCmp c.ct (wN c.ct (by kernel_rfl)) (wX kS) rfl) (pss_c (ps_Ret (wBin c.ct ⟨(all_c ⟨_, ⟨5, by omega, b_Value_mul_2 (g_Value_mul Y), rfl⟩, Y.opL 30 rfl⟩ all_0), (all_c ⟨_, ⟨5, by omega, b_Value_rmul_2 (g_Value_rmul Y), rfl⟩, Y.opR 31 rfl⟩ all_0), fun _ => opI_Mult⟩ (wV c.ct (by kernel_rfl)) (wV c.ct (by kernel_rfl))))
    pss_0) pss_0)
    (pss_c (ps_If (tCmp c.ct (wN c.ct (by kernel_rfl)) (wX kS) rfl) (pss_c (ps_Ret (wBin c.ct ⟨(all_c ⟨_, ⟨4, by omega, b_Value_floordiv_2 (g_Value_floordiv Y), rfl⟩, Y.opL 32 rfl⟩ all_0), all_0, fun z => (z rfl).elim⟩ (wV c.ct (by kernel_rfl)) (wV c.ct (by kernel_rfl))))
    pss_0) pss_0)
    (pss_c (ps_If (tCmp c.ct (wN c.ct (by kernel_rfl)) (wX kS) rfl) (pss_c (ps_Ret (wOp c.ct (wX (wCT c.ct (by kernel_rfl) (Y.free 33 rfl) c_int (wOc (wN c.ct (by kernel_rfl)) wO0 rfl) rfl)) (wN c.ct (by kernel_rfl))))
    pss_0) pss_0)
    (pss_c (ps_If (tCmp c.ct (wN c.ct (by kernel_rfl)) (wX kS) rfl) (pss_c (ps_Ret (wCT c.ct (by kernel_rfl) (Y.free 33 rfl) c_int (wOc (wX (pe_And (wCmp c.ct (wN c.ct (by kernel_rfl)) (wX kI) rfl) (pe_one (wCmp c.ct (wN c.ct (by kernel_rfl)) (wX kI) rfl)))) wO0 rfl) rfl))
    pss_0) pss_0)
    (pss_c (ps_If (tCmp c.ct (wN c.ct (by kernel_rfl)) (wX kS) rfl) (pss_c (ps_Ret (wCT c.ct (by kernel_rfl) (Y.free 33 rfl) c_int (wOc (wX (pe_Or (wCmp c.ct (wN c.ct (by kernel_rfl)) (wX kI) rfl) (pe_one (wCmp c.ct (wN c.ct (by kernel_rfl)) (wX kI) rfl)))) wO0 rfl) rfl))
    pss_0) pss_0)
    (pss_c (ps_Ret (pe_IfE (tCmp c.ct (wN c.ct (by kernel_rfl)) (wX kS) rfl) (wCT c.ct (by kernel_rfl) (Y.free 33 rfl) c_int (wOc (wX (wEq c.ct (all_c ⟨_, ⟨16, by omega, b_Value_eq_2 (g_Value_eq Y 8), rfl⟩, Y.eq 23 rfl⟩ all_0) (wV c.ct (by kernel_rfl)) (wV c.ct (by kernel_rfl)) rfl)) wO0 rfl) rfl) (wCT c.ct (by kernel_rfl) (Y.free 33 rfl) c_int (wOc (wX (wCmp c.ct (wN c.ct (by kernel_rfl)) (wN c.ct (by kernel_rfl)) rfl)) wO0 rfl) rfl)))
    pss_0))))))))
theorem g_paired (Y : FA P w K mg base) : GdF P w K Memo.no mg base d_paired ["sign", "one", "other"] [] 17 f_paired :=
  GdF.mk' Y 21 rfl (N := N_paired) ⟨rfl, rfl, rfl, by decide +kernel, rfl, by decide +kernel, by decide +kernel⟩ rfl (by decide) fun _ _ c => w_paired Y c
theorem b_worth_of_3 {j : Nat} {ff : List D → Cr} (h : GdF P w K Memo.no mg base d_worth_of ["value", "held", "argument"] [] j ff) : FnB P w K Memo.no mg base j (d_worth_of.at_ K) ff [] 3 [] [.inl 0, .inl 1, .inl 2] :=
  h.b 3 [] [0, 1, 2] rfl rfl fun _ _ _ _ _ _ us ws h1 h2 => match us, ws, h1, h2 with
    | [u0, u1, u2], [], _, _ => ⟨[u0, u1, u2], rfl, by kernel_rfl⟩
theorem b_paired_3 {j : Nat} {ff : List D → Cr} (h : GdF P w K Memo.no mg base d_paired ["sign", "one", "other"] [] j ff) : FnB P w K Memo.no mg base j (d_paired.at_ K) ff [] 3 [] [.inl 0, .inl 1, .inl 2] :=
  h.b 3 [] [0, 1, 2] rfl rfl fun _ _ _ _ _ _ us ws h1 h2 => match us, ws, h1, h2 with
    | [u0, u1, u2], [], _, _ => ⟨[u0, u1, u2], rfl, by kernel_rfl⟩
abbrev N_worth_of : List Str := ["value", "held", "argument", "one"]
theorem w_worth_of (Y : FA P w K mg base) {n : Nat} (H_worth_of : GdF P w K Memo.no mg base d_worth_of ["value", "held", "argument"] [] (17 + 2 * n) (f_worth_of n)) {X : Cx} {W : WX} (c : Bd P w K mg base N_worth_of d_worth_of.scope (17 + 2 * n + 1) X W) : PSs X d_worth_of.body (tF X.K Memo.no [] W (m_worth_of (f_worth_of n))) :=
  (pss_c (ps_If (tCmp c.ct (wX (wFld c.ct (fldOk_c (Y.cls 9 rfl) (Y.no 10 rfl) fldOk_0) (wN c.ct (by kernel_rfl)) rfl)) (wX kS) rfl) (pss_c (ps_Ret (wIx c.ct (wN c.ct (by kernel_rfl)) (wX (wFld c.ct (fldOk_c (Y.cls 9 rfl) (Y.no 11 rfl) fldOk_0) (wN c.ct (by kernel_rfl)) rfl)) (fun _ _ => rfl)))
    pss_0) pss_0)
    (pss_c (ps_If (tCmp c.ct (wX (wFld c.ct (fldOk_c (Y.cls 9 rfl) (Y.no 10 rfl) fldOk_0) (wN c.ct (by kernel_rfl)) rfl)) (wX kS) rfl) (pss_c (ps_Ret (wV c.ct (by kernel_rfl)))
    pss_0) pss_0)
    (pss_c (ps_If (tCmp c.ct (wX (wFld c.ct (fldOk_c (Y.cls 9 rfl) (Y.no 10 rfl) fldOk_0) (wN c.ct (by kernel_rfl)) rfl)) (wX kS) rfl) (pss_c (ps_Ret (wFld c.ct (fldOk_c (Y.cls 9 rfl) (Y.no 11 rfl) fldOk_0) (wN c.ct (by kernel_rfl)) rfl))
    pss_0) pss_0)
    (pss_c (sSet c (by kernel_rfl) (wCall0 c.ct (b_worth_of_3 H_worth_of) (by omega) (by kernel_rfl) (Y.glo 34 rfl) (paV (wFld c.ct (fldOk_c (Y.cls 9 rfl) (Y.no 11 rfl) fldOk_0) (wN c.ct (by kernel_rfl)) rfl) (paV (wV c.ct (by kernel_rfl)) (paV (wV c.ct (by kernel_rfl)) pa_A0 rfl) rfl) rfl) rfl) (by kernel_rfl) rfl)
    (pss_c (ps_If (tCmp c.ct (wX (wFld c.ct (fldOk_c (Y.cls 9 rfl) (Y.no 10 rfl) fldOk_0) (wN c.ct (by kernel_rfl)) rfl)) (wX kS) rfl) (pss_c (ps_Ret (wCT c.ct (by kernel_rfl) (Y.free 33 rfl) c_int (wOc (wX (wCmp c.ct (wN c.ct (by kernel_rfl)) (wX kI) rfl)) wO0 rfl) rfl))
    pss_0) pss_0)
    (pss_c (ps_Ret (wCall0 c.ct (b_paired_3 (g_paired Y)) (by omega) (by kernel_rfl) (Y.glo 35 rfl) (paV (wFld c.ct (fldOk_c (Y.cls 9 rfl) (Y.no 10 rfl) fldOk_0) (wN c.ct (by kernel_rfl)) rfl) (paV (wV c.ct (by kernel_rfl)) (paV (wCall0 c.ct (b_worth_of_3 H_worth_of) (by omega) (by kernel_rfl) (Y.glo 34 rfl) (paV (wFld c.ct (fldOk_c (Y.cls 9 rfl) (Y.no 12 rfl) fldOk_0) (wN c.ct (by kernel_rfl)) rfl) (paV (wV c.ct (by kernel_rfl)) (paV (wV c.ct (by kernel_rfl)) pa_A0 rfl) rfl) rfl) rfl) pa_A0 rfl) rfl) rfl) rfl))
    pss_0))))))
theorem g_worth_of (Y : FA P w K mg base) : ∀ n : Nat, GdF P w K Memo.no mg base d_worth_of ["value", "held", "argument"] [] (17 + 2 * n) (f_worth_of n)
  | 0 => GdF.no Y 22 rfl
  | n + 1 => GdF.mk' Y 22 rfl (N := N_worth_of) ⟨rfl, rfl, rfl, by decide +kernel, rfl, by decide +kernel, by decide +kernel⟩ rfl (by decide) fun _ _ c => w_worth_of Y (g_worth_of Y n) c
theorem b_Value_names_1 {j : Nat} {ff : List D → Cr} (h : GdF P w K Memo.no mg base d_Value_names ["self"] [] j ff) : FnB P w K Memo.no mg base j (d_Value_names.at_ K) ff [] 1 [] [.inl 0] :=
  h.b 1 [] [0] rfl rfl fun _ _ _ _ _ _ us ws h1 h2 => match us, ws, h1, h2 with
    | [u0], [], _, _ => ⟨[u0], rfl, by kernel_rfl⟩
abbrev N_Value_at : List Str := ["self", "held", "argument", "name"]
theorem w_Value_at (Y : FA P w K mg base) {X : Cx} {W : WX} (c : Bd P w K mg base N_Value_at d_Value_at.scope 33 X W) : PSs X d_Value_at.body (tF X.K Memo.no [] W m_Value_at) :=
  (pss_c (sFor c (pi_V (wProp c.ct (all_c ⟨18, _, _, by omega, b_Value_names_1 (g_Value_names Y), (Y.cls 9 rfl), Y.prop 36 rfl, rfl⟩ all_0) (wV c.ct (by kernel_rfl)) rfl)) (wTn c.ct (by kernel_rfl) (.inl c.fn)) (by kernel_rfl) (pss_c (ps_If (tCmp c.ct (wN c.ct (by kernel_rfl)) (wN c.ct (by kernel_rfl)) rfl) (pss_c (sRaise c (ra_UnknownName Y) (by omega) (by kernel_rfl) (Y.glo 37 rfl) (wV c.ct (by kernel_rfl)) rfl)
    pss_0) pss_0)
    pss_0) (fun _ => rfl))
    (pss_c (ps_Ret (wCall0 c.ct (b_worth_of_3 (g_worth_of Y 8)) (by omega) (by kernel_rfl) (Y.glo 34 rfl) (paV (wV c.ct (by kernel_rfl)) (paV (wV c.ct (by kernel_rfl)) (paV (wV c.ct (by kernel_rfl)) pa_A0 rfl) rfl) rfl) rfl))
    pss_0))
theorem g_Value_at (Y : FA P w K mg base) : GdF P w K Memo.no mg base d_Value_at ["self", "held", "argument"] [] 34 f_Value_at :=
  GdF.mk' Y 23 rfl (N := N_Value_at) ⟨rfl, rfl, rfl, by decide +kernel, rfl, by decide +kernel, by decide +kernel⟩ rfl (by decide) fun _ _ c => w_Value_at Y c
theorem b_Value_and_2 {j : Nat} {ff : List D → Cr} (h : GdF P w K Memo.no mg base d_Value_and ["self", "other"] [] j ff) : FnB P w K Memo.no mg base j (d_Value_and.at_ K) ff [] 2 [] [.inl 0, .inl 1] :=
  h.b 2 [] [0, 1] rfl rfl fun _ _ _ _ _ _ us ws h1 h2 => match us, ws, h1, h2 with
    | [u0, u1], [], _, _ => ⟨[u0, u1], rfl, by kernel_rfl⟩
theorem b_Value_rand_2 {j : Nat} {ff : List D → Cr} (h : GdF P w K Memo.no mg base d_Value_rand ["self", "other"] [] j ff) : FnB P w K Memo.no mg base j (d_Value_rand.at_ K) ff [] 2 [] [.inl 0, .inl 1] :=
  h.b 2 [] [0, 1] rfl rfl fun _ _ _ _ _ _ us ws h1 h2 => match us, ws, h1, h2 with
    | [u0, u1], [], _, _ => ⟨[u0, u1], rfl, by kernel_rfl⟩
theorem b_Value_or_2 {j : Nat} {ff : List D → Cr} (h : GdF P w K Memo.no mg base d_Value_or ["self", "other"] [] j ff) : FnB P w K Memo.no mg base j (d_Value_or.at_ K) ff [] 2 [] [.inl 0, .inl 1] :=
  h.b 2 [] [0, 1] rfl rfl fun _ _ _ _ _ _ us ws h1 h2 => match us, ws, h1, h2 with
    | [u0, u1], [], _, _ => ⟨[u0, u1], rfl, by kernel_rfl⟩
theorem b_Value_ror_2 {j : Nat} {ff : List D → Cr} (h : GdF P w K Memo.no mg base d_Value_ror ["self", "other"] [] j ff) : FnB P w K Memo.no mg base j (d_Value_ror.at_ K) ff [] 2 [] [.inl 0, .inl 1] :=
  h.b 2 [] [0, 1] rfl rfl fun _ _ _ _ _ _ us ws h1 h2 => match us, ws, h1, h2 with
    | [u0, u1], [], _, _ => ⟨[u0, u1], rfl, by kernel_rfl⟩
theorem b_Value_same_2 {j : Nat} {ff : List D → Cr} (h : GdF P w K Memo.no mg base d_Value_same ["self", "other"] [] j ff) : FnB P w K Memo.no mg base j (d_Value_same.at_ K) ff [] 2 [] [.inl 0, .inl 1] :=
  h.b 2 [] [0, 1] rfl rfl fun _ _ _ _ _ _ us ws h1 h2 => match us, ws, h1, h2 with
    | [u0, u1], [], _, _ => ⟨[u0, u1], rfl, by kernel_rfl⟩
theorem b_Value_less_2 {j : Nat} {ff : List D → Cr} (h : GdF P w K Memo.no mg base d_Value_less ["self", "other"] [] j ff) : FnB P w K Memo.no mg base j (d_Value_less.at_ K) ff [] 2 [] [.inl 0, .inl 1] :=
  h.b 2 [] [0, 1] rfl rfl fun _ _ _ _ _ _ us ws h1 h2 => match us, ws, h1, h2 with
    | [u0, u1], [], _, _ => ⟨[u0, u1], rfl, by kernel_rfl⟩
theorem b_Value_same_1_other {j : Nat} {ff : List D → Cr} (h : GdF P w K Memo.no mg base d_Value_same ["self", "other"] [] j ff) : FnB P w K Memo.no mg base j (d_Value_same.at_ K) ff [] 1 ["other"] [.inl 0, .inl 1] :=
  h.b 1 ["other"] [0, 1] rfl rfl fun _ _ _ _ _ _ us ws h1 h2 => match us, ws, h1, h2 with
    | [u0], [w0], _, _ => ⟨[u0, w0], rfl, by kernel_rfl⟩
theorem b_Value_less_1_other {j : Nat} {ff : List D → Cr} (h : GdF P w K Memo.no mg base d_Value_less ["self", "other"] [] j ff) : FnB P w K Memo.no mg base j (d_Value_less.at_ K) ff [] 1 ["other"] [.inl 0, .inl 1] :=
  h.b 1 ["other"] [0, 1] rfl rfl fun _ _ _ _ _ _ us ws h1 h2 => match us, ws, h1, h2 with
    | [u0], [w0], _, _ => ⟨[u0, w0], rfl, by kernel_rfl⟩
theorem b_Value_at_3 {j : Nat} {ff : List D → Cr} (h : GdF P w K Memo.no mg base d_Value_at ["self", "held", "argument"] [] j ff) : FnB P w K Memo.no mg base j (d_Value_at.at_ K) ff [] 3 [] [.inl 0, .inl 1, .inl 2] :=
  h.b 3 [] [0, 1, 2] rfl rfl fun _ _ _ _ _ _ us ws h1 h2 => match us, ws, h1, h2 with
    | [u0, u1, u2], [], _, _ => ⟨[u0, u1, u2], rfl, by kernel_rfl⟩
abbrev N_law_beside : List Str := ["one", "number_here", "left", "table", "asked", "made", "both", "some", "owed", "part"]
theorem w_law_beside (Y : FA P w K mg base) {X : Cx} {W : WX} (c : Bd P w K mg base N_law_beside d_law_beside.scope 34 X W) : PSs X d_law_beside.body (tF X.K Memo.no [] W m_law_beside) :=
  (pss_c (sSet c (by kernel_rfl) (pe_Lst (wLc (wBin c.ct ⟨(all_c ⟨_, ⟨5, by omega, b_Value_and_2 (g_Value_and Y), rfl⟩, Y.opL 38 rfl⟩ all_0), (all_c ⟨_, ⟨5, by omega, b_Value_rand_2 (g_Value_rand Y), rfl⟩, Y.opR 39 rfl⟩ all_0), fun _ => opI_BitAnd⟩ (wV c.ct (by kernel_rfl)) (wV c.ct (by kernel_rfl))) (wLc (wBin c.ct ⟨(all_c ⟨_, ⟨5, by omega, b_Value_and_2 (g_Value_and Y), rfl⟩, Y.opL 38 rfl⟩ all_0), (all_c ⟨_, ⟨5, by omega, b_Value_rand_2 (g_Value_rand Y), rfl⟩, Y.opR 39 rfl⟩ all_0), fun _ => opI_BitAnd⟩ (wV c.ct (by kernel_rfl)) (wV c.ct (by kernel_rfl))) (wLc (wBin c.ct ⟨(all_c ⟨_, ⟨5, by omega, b_Value_or_2 (g_Value_or Y), rfl⟩, Y.opL 40 rfl⟩ all_0), (all_c ⟨_, ⟨5, by omega, b_Value_ror_2 (g_Value_ror Y), rfl⟩, Y.opR 41 rfl⟩ all_0), fun _ => opI_BitOr⟩ (wV c.ct (by kernel_rfl)) (wV c.ct (by kernel_rfl))) (wLc (wBin c.ct ⟨(all_c ⟨_, ⟨5, by omega, b_Value_or_2 (g_Value_or Y), rfl⟩, Y.opL 40 rfl⟩ all_0), (all_c ⟨_, ⟨5, by omega, b_Value_ror_2 (g_Value_ror Y), rfl⟩, Y.opR 41 rfl⟩ all_0), fun _ => opI_BitOr⟩ (wV c.ct (by kernel_rfl)) (wV c.ct (by kernel_rfl))) (wLc (wMeth0 c.ct (all_c ⟨5, _, by omega, b_Value_same_2 (g_Value_same Y), (Y.cls 9 rfl), Y.meth 42 rfl, rfl⟩ all_0) (prV (wV c.ct (by kernel_rfl))) (paV (wV c.ct (by kernel_rfl)) pa_A0 rfl) rfl rfl) wL0 rfl) rfl) rfl) rfl) rfl)) (by kernel_rfl) rfl)
    (pss_c (sSet c (by kernel_rfl) (wOp c.ct (wN c.ct (by kernel_rfl)) (wX (pe_Lst (wLc (wMeth0 c.ct (all_c ⟨5, _, by omega, b_Value_less_2 (g_Value_less Y), (Y.cls 9 rfl), Y.meth 43 rfl, rfl⟩ all_0) (prV (wV c.ct (by kernel_rfl))) (paV (wV c.ct (by kernel_rfl)) pa_A0 rfl) rfl rfl) (wLc (wMeth c.ct (as := []) (bs := [(.v (pV 1))]) (a0 := (.v (pV 2))) (all_c ⟨5, _, by omega, b_Value_same_1_other (g_Value_same Y), (Y.cls 9 rfl), Y.meth 42 rfl, rfl⟩ all_0) (prV (wV c.ct (by kernel_rfl))) pa_A0 (pkV (wV c.ct (by kernel_rfl)) pk_A0) rfl rfl) (wLc (wMeth c.ct (as := []) (bs := [(.v (pV 1))]) (a0 := (.v (pV 2))) (all_c ⟨5, _, by omega, b_Value_less_1_other (g_Value_less Y), (Y.cls 9 rfl), Y.meth 43 rfl, rfl⟩ all_0) (prV (wV c.ct (by kernel_rfl))) pa_A0 (pkV (wV c.ct (by kernel_rfl)) pk_A0) rfl rfl) wL0 rfl) rfl) rfl)))) (by kernel_rfl) rfl)
    (pss_c (sPar2 c (by kernel_rfl) (by kernel_rfl) (by kernel_rfl) (by kernel_rfl) (paR (wX (pe_And (wCmp c.ct (wN c.ct (by kernel_rfl)) (wX kI) rfl) (pe_one (wCmp c.ct (wN c.ct (by kernel_rfl)) (wX kI) rfl)))) (paR (wX (pe_Or (wCmp c.ct (wN c.ct (by kernel_rfl)) (wX kI) rfl) (pe_one (wCmp c.ct (wN c.ct (by kernel_rfl)) (wX kI) rfl)))) pa_A0 rfl) rfl) rfl (by kernel_rfl) rfl)
    (pss_c (sSet c (by kernel_rfl) (pe_Lst (wLc (wV c.ct (by kernel_rfl)) (wLc (wV c.ct (by kernel_rfl)) (wLc (wV c.ct (by kernel_rfl)) (wLc (wV c.ct (by kernel_rfl)) (wLc (wCmp c.ct (wN c.ct (by kernel_rfl)) (wN c.ct (by kernel_rfl)) rfl) (wLc (wCmp c.ct (wN c.ct (by kernel_rfl)) (wN c.ct (by kernel_rfl)) rfl) (wLc (wCmp c.ct (wN c.ct (by kernel_rfl)) (wN c.ct (by kernel_rfl)) rfl) (wLc (wCmp c.ct (wN c.ct (by kernel_rfl)) (wN c.ct (by kernel_rfl)) rfl) wL0 rfl) rfl) rfl) rfl) rfl) rfl) rfl) rfl)) (by kernel_rfl) rfl)
    (pss_c (ps_Ret (wCmp c.ct (wX (wCB c.ct (by kernel_rfl) (Y.free 45 rfl) (wRepr c.ct) (wOc (wX (wLcp c.ct [("part", 9)] (pi_V (wV c.ct (by kernel_rfl))) (by kernel_rfl) rfl rfl (fun _ _ c1 => (wTn c1 (by kernel_rfl) (.inr (by kernel_rfl)))) (fun _ _ c1 => pts_0) (fun _ _ c1 => (wMeth0 c1 (all_c ⟨34, _, by omega, b_Value_at_3 (g_Value_at Y), (Y.cls 9 rfl), Y.meth 44 rfl, rfl⟩ all_0) (prV (wV c1 (by kernel_rfl))) (paV (wV c1 (by kernel_rfl)) (paV (wV c1 (by kernel_rfl)) pa_A0 rfl) rfl) rfl rfl)) (fun _ => rfl))) wO0 rfl) rfl)) (wX (wCB c.ct (by kernel_rfl) (Y.free 45 rfl) (wRepr c.ct) (wOc (wX (wLcp c.ct [("part", 9)] (pi_V (wV c.ct (by kernel_rfl))) (by kernel_rfl) rfl rfl (fun _ _ c2 => (wTn c2 (by kernel_rfl) (.inr (by kernel_rfl)))) (fun _ _ c2 => pts_0) (fun _ _ c2 => (wCT c2 (by kernel_rfl) (Y.free 33 rfl) c_int (wOc (wN c2 (by kernel_rfl)) wO0 rfl) rfl)) (fun _ => rfl))) wO0 rfl) rfl)) rfl))
    pss_0)))))
theorem g_law_beside (Y : FA P w K mg base) : GdF P w K Memo.no mg base d_law_beside ["one", "number_here", "left", "table", "asked"] [] 35 f_law_beside :=
  GdF.mk' Y 24 rfl (N := N_law_beside) ⟨rfl, rfl, rfl, by decide +kernel, rfl, by decide +kernel, by decide +kernel⟩ rfl (by decide) fun _ _ c => w_law_beside Y c
abbrev N_law_take : List Str := ["well", "many", "mixed", "taken"]
theorem w_law_take (Y : FA P w K mg base) {X : Cx} {W : WX} (c : Bd P w K mg base N_law_take d_law_take.scope 0 X W) : PSs X d_law_take.body (tF X.K Memo.no [0] W m_law_take) :=
  (pss_c (ps_If (tCmp c.ct (wX (wIx c.ct (wN c.ct (by kernel_rfl)) (wX kI) (fun _ _ => rfl))) (wX kI) rfl) (pss_c (sSet c (by kernel_rfl) (wOp c.ct (wX (wCT c.ct (by kernel_rfl) (Y.free 33 rfl) c_int (wOc (wX (wIx c.ct (wN c.ct (by kernel_rfl)) (wX kI) (fun _ _ => rfl))) wO0 rfl) rfl)) (wN c.ct (by kernel_rfl))) (by kernel_rfl) rfl)
    (pss_c (sPut c (by kernel_rfl) (wX kI) (wOp c.ct (wX (wIx c.ct (wN c.ct (by kernel_rfl)) (wX kI) (fun _ _ => rfl))) (wN c.ct (by kernel_rfl))) (fun _ => rfl) rfl rfl rfl)
    (pss_c (ps_Ret (wV c.ct (by kernel_rfl)))
    pss_0))) pss_0)
    (pss_c (sPut c (by kernel_rfl) (wX kI) (wOp c.ct (wX (wIx c.ct (wN c.ct (by kernel_rfl)) (wX kI) (fun _ _ => rfl))) (wX kI)) (fun _ => rfl) rfl rfl rfl)
    (pss_c (sSet c (by kernel_rfl) (wOp c.ct (wX (wOp c.ct (wX (wOp c.ct (wX (wIx c.ct (wN c.ct (by kernel_rfl)) (wX kI) (fun _ _ => rfl))) (wX (wOp c.ct (wX kI) (wX (wIx c.ct (wN c.ct (by kernel_rfl)) (wX kI) (fun _ _ => rfl))))))) (wX kI))) (wX (wOp c.ct (wX kI) (wX (wIx c.ct (wN c.ct (by kernel_rfl)) (wX kI) (fun _ _ => rfl)))))) (by kernel_rfl) rfl)
    (pss_c (sSet c (by kernel_rfl) (wOp c.ct (wX (wOp c.ct (wX (wCT c.ct (by kernel_rfl) (Y.free 33 rfl) c_int (wOc (wN c.ct (by kernel_rfl)) wO0 rfl) rfl)) (wX kI))) (wX (wOp c.ct (wX kI) (wX (wIx c.ct (wN c.ct (by kernel_rfl)) (wX kI) (fun _ _ => rfl)))))) (by kernel_rfl) rfl)
    (pss_c (sSet c (by kernel_rfl) (wOp c.ct (wX (wCT c.ct (by kernel_rfl) (Y.free 33 rfl) c_int (wOc (wX (wOp c.ct (wN c.ct (by kernel_rfl)) (wX kI))) wO0 rfl) rfl)) (wX kI)) (by kernel_rfl) rfl)
    (pss_c (ps_Ret (wOp c.ct (wX (wCT c.ct (by kernel_rfl) (Y.free 33 rfl) c_int (wOc (wX (wOp c.ct (wN c.ct (by kernel_rfl)) (wX kI))) wO0 rfl) rfl)) (wN c.ct (by kernel_rfl))))
    pss_0))))))
theorem g_law_take (Y : FA P w K mg base) : GdF P w K Memo.no mg base d_law_take ["well", "many"] [0] 1 f_law_take :=
  GdF.mk' Y 25 rfl (N := N_law_take) ⟨rfl, rfl, rfl, by decide +kernel, rfl, by decide +kernel, by decide +kernel⟩ rfl (by decide) fun _ _ c => w_law_take Y c
theorem b_law_take_2 {j : Nat} {ff : List D → Cr} (h : GdF P w K Memo.no mg base d_law_take ["well", "many"] [0] j ff) : FnB P w K Memo.no mg base j (d_law_take.at_ K) ff [0] 2 [] [.inl 0, .inl 1] :=
  h.b 2 [] [0, 1] rfl rfl fun _ _ _ _ _ _ us ws h1 h2 => match us, ws, h1, h2 with
    | [u0, u1], [], _, _ => ⟨[u0, u1], rfl, by kernel_rfl⟩
abbrev N_law_number : List Str := ["well", "way", "found"]
theorem w_law_number (Y : FA P w K mg base) {X : Cx} {W : WX} (c : Bd P w K mg base N_law_number d_law_number.scope 1 X W) : PSs X d_law_number.body (tF X.K Memo.no [0] W m_law_number) :=
  (pss_c (sSet c (by kernel_rfl) (wCall0 c.ct (b_law_take_2 (g_law_take Y)) (by omega) (by kernel_rfl) (Y.glo 46 rfl) (paR (wN c.ct (by kernel_rfl)) (paV kI pa_A0 rfl) rfl) rfl) (by kernel_rfl) rfl)
    (pss_c (sSet c (by kernel_rfl) (wCall0 c.ct (b_law_take_2 (g_law_take Y)) (by omega) (by kernel_rfl) (Y.glo 46 rfl) (paR (wN c.ct (by kernel_rfl)) (paV (wIx c.ct (wX (pe_Lst (wLc kI (wLc kI (wLc kI (wLc (wOp c.ct (wX kI) (wX kI)) wL0 rfl) rfl) rfl) rfl))) (wN c.ct (by kernel_rfl)) (fun _ _ => rfl)) pa_A0 rfl) rfl) rfl) (by kernel_rfl) rfl)
    (pss_c (ps_If (tCmp c.ct (wN c.ct (by kernel_rfl)) (wX kI) rfl) (pss_c (sSet c (by kernel_rfl) (wOp c.ct (wX (wOp c.ct (wN c.ct (by kernel_rfl)) (wX (wOp c.ct (wX kI) (wX kI))))) (wX (wCall0 c.ct (b_law_take_2 (g_law_take Y)) (by omega) (by kernel_rfl) (Y.glo 46 rfl) (paR (wN c.ct (by kernel_rfl)) (paV (wOp c.ct (wX kI) (wX kI)) pa_A0 rfl) rfl) rfl))) (by kernel_rfl) rfl)
    pss_0) pss_0)
    (pss_c (ps_Ret (wOp c.ct (wN c.ct (by kernel_rfl)) (wX (wOp c.ct (wX kI) (wX (wOp c.ct (wX kI) (wX (wCall0 c.ct (b_law_take_2 (g_law_take Y)) (by omega) (by kernel_rfl) (Y.glo 46 rfl) (paR (wN c.ct (by kernel_rfl)) (paV kI pa_A0 rfl) rfl) rfl))))))))
    pss_0))))
theorem g_law_number (Y : FA P w K mg base) : GdF P w K Memo.no mg base d_law_number ["well"] [0] 2 f_law_number :=
  GdF.mk' Y 26 rfl (N := N_law_number) ⟨rfl, rfl, rfl, by decide +kernel, rfl, by decide +kernel, by decide +kernel⟩ rfl (by decide) fun _ _ c => w_law_number Y c
theorem b_law_number_1 {j : Nat} {ff : List D → Cr} (h : GdF P w K Memo.no mg base d_law_number ["well"] [0] j ff) : FnB P w K Memo.no mg base j (d_law_number.at_ K) ff [0] 1 [] [.inl 0] :=
  h.b 1 [] [0] rfl rfl fun _ _ _ _ _ _ us ws h1 h2 => match us, ws, h1, h2 with
    | [u0], [], _, _ => ⟨[u0], rfl, by kernel_rfl⟩
abbrev N_law_near : List Str := ["well", "worth", "ways"]
theorem w_law_near (Y : FA P w K mg base) {X : Cx} {W : WX} (c : Bd P w K mg base N_law_near d_law_near.scope 2 X W) : PSs X d_law_near.body (tF X.K Memo.no [0] W m_law_near) :=
  (pss_c (sSet c (by kernel_rfl) (pe_Lst (wLc (wV c.ct (by kernel_rfl)) (wLc (wOp c.ct (wN c.ct (by kernel_rfl)) (wX kI)) (wLc (wOp c.ct (wN c.ct (by kernel_rfl)) (wX kI)) (wLc kI (wLc (pe_Neg (wN c.ct (by kernel_rfl))) (wLc (wOp c.ct (wX (wOp c.ct (wX (wCT c.ct (by kernel_rfl) (Y.free 33 rfl) c_int (wOc (wX (wCall0 c.ct (b_law_number_1 (g_law_number Y)) (by omega) (by kernel_rfl) (Y.glo 47 rfl) (paR (wN c.ct (by kernel_rfl)) pa_A0 rfl) rfl)) wO0 rfl) rfl)) (wX (wOp c.ct (wX kI) (wX (wOp c.ct (wX kI) (wX kI))))))) (wX (wOp c.ct (wX kI) (wX kI)))) wL0 rfl) rfl) rfl) rfl) rfl) rfl)) (by kernel_rfl) rfl)
    (pss_c (ps_Ret (wIx c.ct (wN c.ct (by kernel_rfl)) (wX (wCall0 c.ct (b_law_take_2 (g_law_take Y)) (by omega) (by kernel_rfl) (Y.glo 46 rfl) (paR (wN c.ct (by kernel_rfl)) (paV kI pa_A0 rfl) rfl) rfl)) (fun _ _ => rfl)))
    pss_0))
theorem g_law_near (Y : FA P w K mg base) : GdF P w K Memo.no mg base d_law_near ["well", "worth"] [0] 3 f_law_near :=
  GdF.mk' Y 27 rfl (N := N_law_near) ⟨rfl, rfl, rfl, by decide +kernel, rfl, by decide +kernel, by decide +kernel⟩ rfl (by decide) fun _ _ c => w_law_near Y c
abbrev N_Value_invert : List Str := ["self"]
theorem w_Value_invert (Y : FA P w K mg base) {X : Cx} {W : WX} (c : Bd P w K mg base N_Value_invert d_Value_invert.scope 2 X W) : PSs X d_Value_invert.body (tF X.K Memo.no [] W m_Value_invert) :=
  (pss_c (ps_Ret (wNew0 c.ct (Y.mkc 13 rfl) (b_Value_init_4 (g_Value_init Y)) (by omega) (by kernel_rfl) (Y.glo 14 rfl) (fun _ _ => trivial) (paV kS (paV (wV c.ct (by kernel_rfl)) (paV kN pa_A0 rfl) rfl) rfl) rfl rfl))
    pss_0)
theorem g_Value_invert (Y : FA P w K mg base) : GdF P w K Memo.no mg base d_Value_invert ["self"] [] 3 f_Value_invert :=
  GdF.mk' Y 28 rfl (N := N_Value_invert) ⟨rfl, rfl, rfl, by decide +kernel, rfl, by decide +kernel, by decide +kernel⟩ rfl (by decide) fun _ _ c => w_Value_invert Y c
theorem b_Value_invert_1 {j : Nat} {ff : List D → Cr} (h : GdF P w K Memo.no mg base d_Value_invert ["self"] [] j ff) : FnB P w K Memo.no mg base j (d_Value_invert.at_ K) ff [] 1 [] [.inl 0] :=
  h.b 1 [] [0] rfl rfl fun _ _ _ _ _ _ us ws h1 h2 => match us, ws, h1, h2 with
    | [u0], [], _, _ => ⟨[u0], rfl, by kernel_rfl⟩
abbrev N_law_two : List Str := ["one", "two", "left", "right", "table", "asked", "made", "owed", "part"]
theorem w_law_two (Y : FA P w K mg base) {X : Cx} {W : WX} (c : Bd P w K mg base N_law_two d_law_two.scope 34 X W) : PSs X d_law_two.body (tF X.K Memo.no [] W m_law_two) :=
  (pss_c (sSet c (by kernel_rfl) (pe_Lst (wLc (wBin c.ct ⟨(all_c ⟨_, ⟨5, by omega, b_Value_and_2 (g_Value_and Y), rfl⟩, Y.opL 38 rfl⟩ all_0), (all_c ⟨_, ⟨5, by omega, b_Value_rand_2 (g_Value_rand Y), rfl⟩, Y.opR 39 rfl⟩ all_0), fun _ => opI_BitAnd⟩ (wV c.ct (by kernel_rfl)) (wV c.ct (by kernel_rfl))) (wLc (wBin c.ct ⟨(all_c ⟨_, ⟨5, by omega, b_Value_or_2 (g_Value_or Y), rfl⟩, Y.opL 40 rfl⟩ all_0), (all_c ⟨_, ⟨5, by omega, b_Value_ror_2 (g_Value_ror Y), rfl⟩, Y.opR 41 rfl⟩ all_0), fun _ => opI_BitOr⟩ (wV c.ct (by kernel_rfl)) (wV c.ct (by kernel_rfl))) (wLc (wMeth0 c.ct (all_c ⟨5, _, by omega, b_Value_same_2 (g_Value_same Y), (Y.cls 9 rfl), Y.meth 42 rfl, rfl⟩ all_0) (prV (wV c.ct (by kernel_rfl))) (paV (wV c.ct (by kernel_rfl)) pa_A0 rfl) rfl rfl) (wLc (wMeth0 c.ct (all_c ⟨5, _, by omega, b_Value_less_2 (g_Value_less Y), (Y.cls 9 rfl), Y.meth 43 rfl, rfl⟩ all_0) (prV (wV c.ct (by kernel_rfl))) (paV (wV c.ct (by kernel_rfl)) pa_A0 rfl) rfl rfl) (wLc (wInv c.ct (all_c ⟨_, ⟨3, by omega, b_Value_invert_1 (g_Value_invert Y), rfl⟩, Y.inv 48 rfl⟩ all_0) (wV c.ct (by kernel_rfl))) (wLc (wInv c.ct (all_c ⟨_, ⟨3, by omega, b_Value_invert_1 (g_Value_invert Y), rfl⟩, Y.inv 48 rfl⟩ all_0) (wV c.ct (by kernel_rfl))) (wLc (wInv c.ct (all_c ⟨_, ⟨3, by omega, b_Value_invert_1 (g_Value_invert Y), rfl⟩, Y.inv 48 rfl⟩ all_0) (wInv c.ct (all_c ⟨_, ⟨3, by omega, b_Value_invert_1 (g_Value_invert Y), rfl⟩, Y.inv 48 rfl⟩ all_0) (wV c.ct (by kernel_rfl)))) wL0 rfl) rfl) rfl) rfl) rfl) rfl) rfl)) (by kernel_rfl) rfl)
    (pss_c (sSet c (by kernel_rfl) (pe_Lst (wLc (pe_And (wCmp c.ct (wN c.ct (by kernel_rfl)) (wX kI) rfl) (pe_one (wCmp c.ct (wN c.ct (by kernel_rfl)) (wX kI) rfl))) (wLc (pe_Or (wCmp c.ct (wN c.ct (by kernel_rfl)) (wX kI) rfl) (pe_one (wCmp c.ct (wN c.ct (by kernel_rfl)) (wX kI) rfl))) (wLc (wEq c.ct (all_c ⟨_, ⟨16, by omega, b_Value_eq_2 (g_Value_eq Y 8), rfl⟩, Y.eq 23 rfl⟩ all_0) (wV c.ct (by kernel_rfl)) (wV c.ct (by kernel_rfl)) rfl) (wLc (wCmp c.ct (wN c.ct (by kernel_rfl)) (wN c.ct (by kernel_rfl)) rfl) (wLc (wCmp c.ct (wN c.ct (by kernel_rfl)) (wX kI) rfl) (wLc (wCmp c.ct (wN c.ct (by kernel_rfl)) (wX kI) rfl) (wLc (wCmp c.ct (wN c.ct (by kernel_rfl)) (wX kI) rfl) wL0 rfl) rfl) rfl) rfl) rfl) rfl) rfl)) (by kernel_rfl) rfl)
    (pss_c (ps_Ret (wCmp c.ct (wX (wCB c.ct (by kernel_rfl) (Y.free 45 rfl) (wRepr c.ct) (wOc (wX (wLcp c.ct [("part", 8)] (pi_V (wV c.ct (by kernel_rfl))) (by kernel_rfl) rfl rfl (fun _ _ c1 => (wTn c1 (by kernel_rfl) (.inr (by kernel_rfl)))) (fun _ _ c1 => pts_0) (fun _ _ c1 => (wMeth0 c1 (all_c ⟨34, _, by omega, b_Value_at_3 (g_Value_at Y), (Y.cls 9 rfl), Y.meth 44 rfl, rfl⟩ all_0) (prV (wV c1 (by kernel_rfl))) (paV (wV c1 (by kernel_rfl)) (paV (wV c1 (by kernel_rfl)) pa_A0 rfl) rfl) rfl rfl)) (fun _ => rfl))) wO0 rfl) rfl)) (wX (wCB c.ct (by kernel_rfl) (Y.free 45 rfl) (wRepr c.ct) (wOc (wX (wLcp c.ct [("part", 8)] (pi_V (wV c.ct (by kernel_rfl))) (by kernel_rfl) rfl rfl (fun _ _ c2 => (wTn c2 (by kernel_rfl) (.inr (by kernel_rfl)))) (fun _ _ c2 => pts_0) (fun _ _ c2 => (wCT c2 (by kernel_rfl) (Y.free 33 rfl) c_int (wOc (wN c2 (by kernel_rfl)) wO0 rfl) rfl)) (fun _ => rfl))) wO0 rfl) rfl)) rfl))
    pss_0)))
theorem g_law_two (Y : FA P w K mg base) : GdF P w K Memo.no mg base d_law_two ["one", "two", "left", "right", "table", "asked"] [] 35 f_law_two :=
  GdF.mk' Y 29 rfl (N := N_law_two) ⟨rfl, rfl, rfl, by decide +kernel, rfl, by decide +kernel, by decide +kernel⟩ rfl (by decide) fun _ _ c => w_law_two Y c
abbrev N_is_name : List Str := ["name", "letter"]
theorem w_is_name (Y : FA P w K mg base) {X : Cx} {W : WX} (c : Bd P w K mg base N_is_name d_is_name.scope 0 X W) : PSs X d_is_name.body (tF X.K Memo.no [] W m_is_name) :=
  (pss_c (ps_Ret (pe_And (wCh c.ct (wX kI) (wX (wCB c.ct (by kernel_rfl) (Y.free 49 rfl) c_len (wOc (wN c.ct (by kernel_rfl)) wO0 rfl) rfl)) (wX kI) rfl) (pe_one (wCB c.ct (by kernel_rfl) (Y.free 51 rfl) (c_all c.ct.calm) (wOc (wX (wLcp c.ct [("letter", 1)] (pi_V (wV c.ct (by kernel_rfl))) (by kernel_rfl) rfl rfl (fun _ _ c1 => (wTn c1 (by kernel_rfl) (.inr (by kernel_rfl)))) (fun _ _ c1 => pts_0) (fun _ _ c1 => (wCmp c1 (wN c1 (by kernel_rfl)) (wX (wGS c1 (by kernel_rfl) (Y.str 50 rfl))) rfl)) (fun _ => rfl))) wO0 rfl) rfl))))
    pss_0)
theorem g_is_name (Y : FA P w K mg base) : GdF P w K Memo.no mg base d_is_name ["name"] [] 1 f_is_name :=
  GdF.mk' Y 30 rfl (N := N_is_name) ⟨rfl, rfl, rfl, by decide +kernel, rfl, by decide +kernel, by decide +kernel⟩ rfl (by decide) fun _ _ c => w_is_name Y c
theorem b_is_name_1 {j : Nat} {ff : List D → Cr} (h : GdF P w K Memo.no mg base d_is_name ["name"] [] j ff) : FnB P w K Memo.no mg base j (d_is_name.at_ K) ff [] 1 [] [.inl 0] :=
  h.b 1 [] [0] rfl rfl fun _ _ _ _ _ _ us ws h1 h2 => match us, ws, h1, h2 with
    | [u0], [], _, _ => ⟨[u0], rfl, by kernel_rfl⟩
abbrev N_check_name : List Str := ["name"]
theorem w_check_name (Y : FA P w K mg base) {X : Cx} {W : WX} (c : Bd P w K mg base N_check_name d_check_name.scope 2 X W) : PSs X d_check_name.body (tF X.K Memo.no [] W m_check_name) :=
  (pss_c (ps_If (pt_not' (pt_Tr (wX (wCall0 c.ct (b_is_name_1 (g_is_name Y)) (by omega) (by kernel_rfl) (Y.glo 52 rfl) (paV (wV c.ct (by kernel_rfl)) pa_A0 rfl) rfl)) (fun _ => rfl))) (pss_c (sRaise c (ra_InvalidName Y) (by omega) (by kernel_rfl) (Y.glo 53 rfl) (wV c.ct (by kernel_rfl)) rfl)
    pss_0) pss_0)
    pss_0)
theorem g_check_name (Y : FA P w K mg base) : GdF P w K Memo.no mg base d_check_name ["name"] [] 3 f_check_name :=
  GdF.mk' Y 31 rfl (N := N_check_name) ⟨rfl, rfl, rfl, by decide +kernel, rfl, by decide +kernel, by decide +kernel⟩ rfl (by decide) fun _ _ c => w_check_name Y c
theorem b_check_name_1 {j : Nat} {ff : List D → Cr} (h : GdF P w K Memo.no mg base d_check_name ["name"] [] j ff) : FnB P w K Memo.no mg base j (d_check_name.at_ K) ff [] 1 [] [.inl 0] :=
  h.b 1 [] [0] rfl rfl fun _ _ _ _ _ _ us ws h1 h2 => match us, ws, h1, h2 with
    | [u0], [], _, _ => ⟨[u0], rfl, by kernel_rfl⟩
abbrev N_cell : List Str := ["name"]
theorem w_cell (Y : FA P w K mg base) {X : Cx} {W : WX} (c : Bd P w K mg base N_cell d_cell.scope 3 X W) : PSs X d_cell.body (tF X.K Memo.no [] W m_cell) :=
  (pss_c (ps_Drop (wCall0 c.ct (b_check_name_1 (g_check_name Y)) (by omega) (by kernel_rfl) (Y.glo 54 rfl) (paV (wV c.ct (by kernel_rfl)) pa_A0 rfl) rfl) rfl)
    (pss_c (ps_Ret (wNew0 c.ct (Y.mkc 13 rfl) (b_Value_init_4 (g_Value_init Y)) (by omega) (by kernel_rfl) (Y.glo 14 rfl) (fun _ _ => trivial) (paV kS (paV (wV c.ct (by kernel_rfl)) (paV kN pa_A0 rfl) rfl) rfl) rfl rfl))
    pss_0))
theorem g_cell (Y : FA P w K mg base) : GdF P w K Memo.no mg base d_cell ["name"] [] 4 f_cell :=
  GdF.mk' Y 32 rfl (N := N_cell) ⟨rfl, rfl, rfl, by decide +kernel, rfl, by decide +kernel, by decide +kernel⟩ rfl (by decide) fun _ _ c => w_cell Y c
abbrev N_passed : List Str := []
theorem w_passed (Y : FA P w K mg base) {X : Cx} {W : WX} (c : Bd P w K mg base N_passed d_passed.scope 2 X W) : PSs X d_passed.body (tF X.K Memo.no [] W m_passed) :=
  (pss_c (ps_Ret (wNew0 c.ct (Y.mkc 13 rfl) (b_Value_init_4 (g_Value_init Y)) (by omega) (by kernel_rfl) (Y.glo 14 rfl) (fun _ _ => trivial) (paV kS (paV kN (paV kN pa_A0 rfl) rfl) rfl) rfl rfl))
    pss_0)
theorem g_passed (Y : FA P w K mg base) : GdF P w K Memo.no mg base d_passed [] [] 3 f_passed :=
  GdF.mk' Y 33 rfl (N := N_passed) ⟨rfl, rfl, rfl, by decide +kernel, rfl, by decide +kernel, by decide +kernel⟩ rfl (by decide) fun _ _ c => w_passed Y c
theorem b_law_near_2 {j : Nat} {ff : List D → Cr} (h : GdF P w K Memo.no mg base d_law_near ["well", "worth"] [0] j ff) : FnB P w K Memo.no mg base j (d_law_near.at_ K) ff [0] 2 [] [.inl 0, .inl 1] :=
  h.b 2 [] [0, 1] rfl rfl fun _ _ _ _ _ _ us ws h1 h2 => match us, ws, h1, h2 with
    | [u0, u1], [], _, _ => ⟨[u0, u1], rfl, by kernel_rfl⟩
theorem b_cell_1 {j : Nat} {ff : List D → Cr} (h : GdF P w K Memo.no mg base d_cell ["name"] [] j ff) : FnB P w K Memo.no mg base j (d_cell.at_ K) ff [] 1 [] [.inl 0] :=
  h.b 1 [] [0] rfl rfl fun _ _ _ _ _ _ us ws h1 h2 => match us, ws, h1, h2 with
    | [u0], [], _, _ => ⟨[u0], rfl, by kernel_rfl⟩
theorem b_passed_0 {j : Nat} {ff : List D → Cr} (h : GdF P w K Memo.no mg base d_passed [] [] j ff) : FnB P w K Memo.no mg base j (d_passed.at_ K) ff [] 0 [] [] :=
  h.b 0 [] [] rfl rfl fun _ _ _ _ _ _ us ws h1 h2 => match us, ws, h1, h2 with
    | [], [], _, _ => ⟨[], rfl, by kernel_rfl⟩
theorem b_law_two_6 {j : Nat} {ff : List D → Cr} (h : GdF P w K Memo.no mg base d_law_two ["one", "two", "left", "right", "table", "asked"] [] j ff) : FnB P w K Memo.no mg base j (d_law_two.at_ K) ff [] 6 [] [.inl 0, .inl 1, .inl 2, .inl 3, .inl 4, .inl 5] :=
  h.b 6 [] [0, 1, 2, 3, 4, 5] rfl rfl fun _ _ _ _ _ _ us ws h1 h2 => match us, ws, h1, h2 with
    | [u0, u1, u2, u3, u4, u5], [], _, _ => ⟨[u0, u1, u2, u3, u4, u5], rfl, by kernel_rfl⟩
theorem b_law_beside_5 {j : Nat} {ff : List D → Cr} (h : GdF P w K Memo.no mg base d_law_beside ["one", "number_here", "left", "table", "asked"] [] j ff) : FnB P w K Memo.no mg base j (d_law_beside.at_ K) ff [] 5 [] [.inl 0, .inl 1, .inl 2, .inl 3, .inl 4] :=
  h.b 5 [] [0, 1, 2, 3, 4] rfl rfl fun _ _ _ _ _ _ us ws h1 h2 => match us, ws, h1, h2 with
    | [u0, u1, u2, u3, u4], [], _, _ => ⟨[u0, u1, u2, u3, u4], rfl, by kernel_rfl⟩
abbrev N_law_fits : List Str := ["well", "one", "two", "asked", "table", "few", "x", "y", "left", "right", "worth", "worth_behind", "near", "number_here"]
theorem w_law_fits (Y : FA P w K mg base) {X : Cx} {W : WX} (c : Bd P w K mg base N_law_fits d_law_fits.scope 35 X W) : PSs X d_law_fits.body (tF X.K Memo.no [0] W m_law_fits) :=
  (pss_c (sSet c (by kernel_rfl) (wIx c.ct (wX (pe_Lst (wLc (wOp c.ct (wX (wCall0 c.ct (b_law_take_2 (g_law_take Y)) (by omega) (by kernel_rfl) (Y.glo 46 rfl) (paR (wN c.ct (by kernel_rfl)) (paV kI pa_A0 rfl) rfl) rfl)) (wX kI)) (wLc (wOp c.ct (wX (wOp c.ct (wX (wCT c.ct (by kernel_rfl) (Y.free 33 rfl) c_int (wOc (wX (wCall0 c.ct (b_law_number_1 (g_law_number Y)) (by omega) (by kernel_rfl) (Y.glo 47 rfl) (paR (wN c.ct (by kernel_rfl)) pa_A0 rfl) rfl)) wO0 rfl) rfl)) (wX (wOp c.ct (wX kI) (wX (wOp c.ct (wX kI) (wX kI))))))) (wX (wOp c.ct (wX kI) (wX kI)))) wL0 rfl) rfl))) (wX (wCall0 c.ct (b_law_take_2 (g_law_take Y)) (by omega) (by kernel_rfl) (Y.glo 46 rfl) (paR (wN c.ct (by kernel_rfl)) (paV kI pa_A0 rfl) rfl) rfl)) (fun _ _ => rfl)) (by kernel_rfl) rfl)
    (pss_c (sPar2 c (by kernel_rfl) (by kernel_rfl) (by kernel_rfl) (by kernel_rfl) (paR (wX (wCall0 c.ct (b_law_near_2 (g_law_near Y)) (by omega) (by kernel_rfl) (Y.glo 55 rfl) (paR (wN c.ct (by kernel_rfl)) (paV (wV c.ct (by kernel_rfl)) pa_A0 rfl) rfl) rfl)) (paR (wX (wCall0 c.ct (b_law_near_2 (g_law_near Y)) (by omega) (by kernel_rfl) (Y.glo 55 rfl) (paR (wN c.ct (by kernel_rfl)) (paV (wV c.ct (by kernel_rfl)) pa_A0 rfl) rfl) rfl)) pa_A0 rfl) rfl) rfl (by kernel_rfl) rfl)
    (pss_c (sPar2 c (by kernel_rfl) (by kernel_rfl) (by kernel_rfl) (by kernel_rfl) (paR (wX (pe_Dic (pps_c pe_str (wV c.ct (by kernel_rfl)) (pps_c pe_str (wV c.ct (by kernel_rfl)) pps_0)) rfl rfl (fun z => nomatch z) (by decide))) (paR (wX (wOp c.ct (wX (wCall0 c.ct (b_law_take_2 (g_law_take Y)) (by omega) (by kernel_rfl) (Y.glo 46 rfl) (paR (wN c.ct (by kernel_rfl)) (paV kI pa_A0 rfl) rfl) rfl)) (wX kI))) pa_A0 rfl) rfl) rfl (by kernel_rfl) rfl)
    (pss_c (sPar2 c (by kernel_rfl) (by kernel_rfl) (by kernel_rfl) (by kernel_rfl) (paR (wX (wCall0 c.ct (b_cell_1 (g_cell Y)) (by omega) (by kernel_rfl) (Y.glo 56 rfl) (paV kS pa_A0 rfl) rfl)) (paR (wX (wCall0 c.ct (b_cell_1 (g_cell Y)) (by omega) (by kernel_rfl) (Y.glo 56 rfl) (paV kS pa_A0 rfl) rfl)) pa_A0 rfl) rfl) rfl (by kernel_rfl) rfl)
    (pss_c (sFor c (pi_V (pe_Lst (wLc (pe_Tup (wLc (wV c.ct (by kernel_rfl)) (wLc (wV c.ct (by kernel_rfl)) (wLc (wV c.ct (by kernel_rfl)) (wLc (wV c.ct (by kernel_rfl)) wL0 rfl) rfl) rfl) rfl)) (wLc (pe_Tup (wLc (wV c.ct (by kernel_rfl)) (wLc (wCall0 c.ct (b_passed_0 (g_passed Y)) (by omega) (by kernel_rfl) (Y.glo 57 rfl) pa_A0 rfl) (wLc (wV c.ct (by kernel_rfl)) (wLc (wV c.ct (by kernel_rfl)) wL0 rfl) rfl) rfl) rfl)) (wLc (pe_Tup (wLc (wCall0 c.ct (b_passed_0 (g_passed Y)) (by omega) (by kernel_rfl) (Y.glo 57 rfl) pa_A0 rfl) (wLc (wV c.ct (by kernel_rfl)) (wLc (wV c.ct (by kernel_rfl)) (wLc (wV c.ct (by kernel_rfl)) wL0 rfl) rfl) rfl) rfl)) wL0 rfl) rfl) rfl))) (wTt c.ct (wTc c.ct (by kernel_rfl) (.inl c.fn) (wTc c.ct (by kernel_rfl) (.inl c.fn) (wTc c.ct (by kernel_rfl) (.inl c.fn) (wTc c.ct (by kernel_rfl) (.inl c.fn) wT0)))) rfl rfl) (by kernel_rfl) (pss_c (ps_If (pt_not' (pt_Tr (wX (wCall0 c.ct (b_law_two_6 (g_law_two Y)) (by omega) (by kernel_rfl) (Y.glo 58 rfl) (paV (wV c.ct (by kernel_rfl)) (paV (wV c.ct (by kernel_rfl)) (paV (wV c.ct (by kernel_rfl)) (paV (wV c.ct (by kernel_rfl)) (paV (wV c.ct (by kernel_rfl)) (paV (wV c.ct (by kernel_rfl)) pa_A0 rfl) rfl) rfl) rfl) rfl) rfl) rfl)) (fun _ => rfl))) (pss_c (ps_Ret kB)
    pss_0) pss_0)
    pss_0) (fun _ => rfl))
    (pss_c (sSet c (by kernel_rfl) (wCB c.ct (by kernel_rfl) (Y.free 60 rfl) (c_max c.ct.calm) (wOc (wX (pe_Neg (wX kI))) (wOc (wX (wCB c.ct (by kernel_rfl) (Y.free 59 rfl) (c_min c.ct.calm) (wOc (wX kI) (wOc (wN c.ct (by kernel_rfl)) wO0 rfl) rfl) rfl)) wO0 rfl) rfl) rfl) (by kernel_rfl) rfl)
    (pss_c (sFor c (pi_V (pe_Lst (wLc (wV c.ct (by kernel_rfl)) (wLc kI (wLc (wV c.ct (by kernel_rfl)) (wLc (wCB c.ct (by kernel_rfl) (Y.free 60 rfl) (c_max c.ct.calm) (wOc (wX (pe_Neg (wX kI))) (wOc (wX (wOp c.ct (wN c.ct (by kernel_rfl)) (wX kI))) wO0 rfl) rfl) rfl) (wLc (wCB c.ct (by kernel_rfl) (Y.free 59 rfl) (c_min c.ct.calm) (wOc (wX kI) (wOc (wX (wOp c.ct (wN c.ct (by kernel_rfl)) (wX kI))) wO0 rfl) rfl) rfl) wL0 rfl) rfl) rfl) rfl) rfl))) (wTn c.ct (by kernel_rfl) (.inl c.fn)) (by kernel_rfl) (pss_c (ps_If (pt_not' (pt_Tr (wX (wCall0 c.ct (b_law_beside_5 (g_law_beside Y)) (by omega) (by kernel_rfl) (Y.glo 61 rfl) (paV (wV c.ct (by kernel_rfl)) (paV (wV c.ct (by kernel_rfl)) (paV (wV c.ct (by kernel_rfl)) (paV (wV c.ct (by kernel_rfl)) (paV (wV c.ct (by kernel_rfl)) pa_A0 rfl) rfl) rfl) rfl) rfl) rfl)) (fun _ => rfl))) (pss_c (ps_Ret kB)
    pss_0) pss_0)
    (pss_c (ps_If (pt_not' (pt_Tr (wX (wCall0 c.ct (b_law_beside_5 (g_law_beside Y)) (by omega) (by kernel_rfl) (Y.glo 61 rfl) (paV (wV c.ct (by kernel_rfl)) (paV (wV c.ct (by kernel_rfl)) (paV (wCall0 c.ct (b_passed_0 (g_passed Y)) (by omega) (by kernel_rfl) (Y.glo 57 rfl) pa_A0 rfl) (paV (wV c.ct (by kernel_rfl)) (paV (wV c.ct (by kernel_rfl)) pa_A0 rfl) rfl) rfl) rfl) rfl) rfl)) (fun _ => rfl))) (pss_c (ps_Ret kB)
    pss_0) pss_0)
    (pss_c (ps_If (pt_not' (pt_Tr (wX (wCall0 c.ct (b_law_two_6 (g_law_two Y)) (by omega) (by kernel_rfl) (Y.glo 58 rfl) (paV (wV c.ct (by kernel_rfl)) (paV (wV c.ct (by kernel_rfl)) (paV (wV c.ct (by kernel_rfl)) (paV (wCall0 c.ct (b_number_1 (g_number Y)) (by omega) (by kernel_rfl) (Y.glo 17 rfl) (paV (wV c.ct (by kernel_rfl)) pa_A0 rfl) rfl) (paV (wV c.ct (by kernel_rfl)) (paV (wV c.ct (by kernel_rfl)) pa_A0 rfl) rfl) rfl) rfl) rfl) rfl) rfl)) (fun _ => rfl))) (pss_c (ps_Ret kB)
    pss_0) pss_0)
    pss_0))) (fun _ => rfl))
    (pss_c (ps_If (pt_not' (pt_Tr (wX (wCall0 c.ct (b_law_two_6 (g_law_two Y)) (by omega) (by kernel_rfl) (Y.glo 58 rfl) (paV (wCT c.ct (by kernel_rfl) (Y.free 33 rfl) c_int (wOc (wX (wCmp c.ct (wN c.ct (by kernel_rfl)) (wN c.ct (by kernel_rfl)) rfl)) wO0 rfl) rfl) (paV (wCT c.ct (by kernel_rfl) (Y.free 33 rfl) c_int (wOc (wX (wCmp c.ct (wN c.ct (by kernel_rfl)) (wN c.ct (by kernel_rfl)) rfl)) wO0 rfl) rfl) (paV (wMeth0 c.ct (all_c ⟨5, _, by omega, b_Value_less_2 (g_Value_less Y), (Y.cls 9 rfl), Y.meth 43 rfl, rfl⟩ all_0) (prV (wV c.ct (by kernel_rfl))) (paV (wV c.ct (by kernel_rfl)) pa_A0 rfl) rfl rfl) (paV (wMeth0 c.ct (all_c ⟨5, _, by omega, b_Value_same_2 (g_Value_same Y), (Y.cls 9 rfl), Y.meth 42 rfl, rfl⟩ all_0) (prV (wV c.ct (by kernel_rfl))) (paV (wCall0 c.ct (b_passed_0 (g_passed Y)) (by omega) (by kernel_rfl) (Y.glo 57 rfl) pa_A0 rfl) pa_A0 rfl) rfl rfl) (paV (wV c.ct (by kernel_rfl)) (paV (wV c.ct (by kernel_rfl)) pa_A0 rfl) rfl) rfl) rfl) rfl) rfl) rfl)) (fun _ => rfl))) (pss_c (ps_Ret kB)
    pss_0) pss_0)
    (pss_c (ps_Ret (wCall0 c.ct (b_law_two_6 (g_law_two Y)) (by omega) (by kernel_rfl) (Y.glo 58 rfl) (paV (wCT c.ct (by kernel_rfl) (Y.free 33 rfl) c_int (wOc (wX (pe_And (wCmp c.ct (wN c.ct (by kernel_rfl)) (wX kI) rfl) (pe_one (wCmp c.ct (wN c.ct (by kernel_rfl)) (wX kI) rfl)))) wO0 rfl) rfl) (paV (wOp c.ct (wN c.ct (by kernel_rfl)) (wN c.ct (by kernel_rfl))) (paV (wBin c.ct ⟨(all_c ⟨_, ⟨5, by omega, b_Value_and_2 (g_Value_and Y), rfl⟩, Y.opL 38 rfl⟩ all_0), (all_c ⟨_, ⟨5, by omega, b_Value_rand_2 (g_Value_rand Y), rfl⟩, Y.opR 39 rfl⟩ all_0), fun _ => opI_BitAnd⟩ (wV c.ct (by kernel_rfl)) (wV c.ct (by kernel_rfl))) (paV (wBin c.ct ⟨(all_c ⟨_, ⟨5, by omega, b_Value_sub_2 (g_Value_sub Y), rfl⟩, Y.opL 28 rfl⟩ all_0), (all_c ⟨_, ⟨5, by omega, b_Value_rsub_2 (g_Value_rsub Y), rfl⟩, Y.opR 29 rfl⟩ all_0), fun _ => opI_Sub⟩ (wV c.ct (by kernel_rfl)) (wV c.ct (by kernel_rfl))) (paV (wV c.ct (by kernel_rfl)) (paV (wV c.ct (by kernel_rfl)) pa_A0 rfl) rfl) rfl) rfl) rfl) rfl) rfl))
    pss_0)))))))))
theorem g_law_fits (Y : FA P w K mg base) : GdF P w K Memo.no mg base d_law_fits ["well"] [0] 36 f_law_fits :=
  GdF.mk' Y 34 rfl (N := N_law_fits) ⟨rfl, rfl, rfl, by decide +kernel, rfl, by decide +kernel, by decide +kernel⟩ rfl (by decide) fun _ _ c => w_law_fits Y c
abbrev N_law_well : List Str := ["script", "place", "figure", "seed"]
theorem w_law_well (Y : FA P w K mg base) {X : Cx} {W : WX} (c : Bd P w K mg base N_law_well d_law_well.scope 0 X W) : PSs X d_law_well.body (tF X.K Memo.no [] W m_law_well) :=
  (pss_c (sSet c (by kernel_rfl) kI (by kernel_rfl) rfl)
    (pss_c (ps_If (tCmp c.ct (wN c.ct (by kernel_rfl)) (wX (wCB c.ct (by kernel_rfl) (Y.free 49 rfl) c_len (wOc (wN c.ct (by kernel_rfl)) wO0 rfl) rfl)) rfl) (pss_c (sSet c (by kernel_rfl) (wIx c.ct (wN c.ct (by kernel_rfl)) (wN c.ct (by kernel_rfl)) (fun _ _ => rfl)) (by kernel_rfl) rfl)
    pss_0) pss_0)
    (pss_c (sSet c (by kernel_rfl) (wOp c.ct (wX (wCT c.ct (by kernel_rfl) (Y.free 33 rfl) c_int (wOc (wX (wOp c.ct (wX (wOp c.ct (wX (wCB c.ct (by kernel_rfl) (Y.free 62 rfl) c_abs (wOc (wN c.ct (by kernel_rfl)) wO0 rfl) rfl)) (wX kI))) (wX (wCT c.ct (by kernel_rfl) (Y.free 33 rfl) c_int (wOc (wX (wCmp c.ct (wN c.ct (by kernel_rfl)) (wX kI) rfl)) wO0 rfl) rfl)))) wO0 rfl) rfl)) (wX kI)) (by kernel_rfl) rfl)
    (pss_c (ps_Ret (pe_Lst (wLc (wOp c.ct (wN c.ct (by kernel_rfl)) (wX (wCT c.ct (by kernel_rfl) (Y.free 33 rfl) c_int (wOc (wX (wCmp c.ct (wN c.ct (by kernel_rfl)) (wX (wOp c.ct (wX kI) (wX kI))) rfl)) wO0 rfl) rfl))) (wLc (wOp c.ct (wN c.ct (by kernel_rfl)) (wX (wOp c.ct (wX kI) (wN c.ct (by kernel_rfl))))) (wLc kI wL0 rfl) rfl) rfl)))
    pss_0))))
theorem g_law_well (Y : FA P w K mg base) : GdF P w K Memo.no mg base d_law_well ["script", "place"] [] 1 f_law_well :=
  GdF.mk' Y 35 rfl (N := N_law_well) ⟨rfl, rfl, rfl, by decide +kernel, rfl, by decide +kernel, by decide +kernel⟩ rfl (by decide) fun _ _ c => w_law_well Y c
theorem b_law_well_2 {j : Nat} {ff : List D → Cr} (h : GdF P w K Memo.no mg base d_law_well ["script", "place"] [] j ff) : FnB P w K Memo.no mg base j (d_law_well.at_ K) ff [] 2 [] [.inl 0, .inl 1] :=
  h.b 2 [] [0, 1] rfl rfl fun _ _ _ _ _ _ us ws h1 h2 => match us, ws, h1, h2 with
    | [u0, u1], [], _, _ => ⟨[u0, u1], rfl, by kernel_rfl⟩
theorem b_law_fits_1 {j : Nat} {ff : List D → Cr} (h : GdF P w K Memo.no mg base d_law_fits ["well"] [0] j ff) : FnB P w K Memo.no mg base j (d_law_fits.at_ K) ff [0] 1 [] [.inl 0] :=
  h.b 1 [] [0] rfl rfl fun _ _ _ _ _ _ us ws h1 h2 => match us, ws, h1, h2 with
    | [u0], [], _, _ => ⟨[u0], rfl, by kernel_rfl⟩
abbrev N_law : List Str := ["script", "place", "well", "turn"]
theorem w_law (Y : FA P w K mg base) {X : Cx} {W : WX} (c : Bd P w K mg base N_law d_law.scope 36 X W) : PSs X d_law.body (tF X.K Memo.no [] W m_law) :=
  (pss_c (sFor c (iRng1 c.ct (by kernel_rfl) (Y.free 63 rfl) (wOc (wX (wCB c.ct (by kernel_rfl) (Y.free 60 rfl) (c_max c.ct.calm) (wOc (wX kI) (wOc (wX (wCB c.ct (by kernel_rfl) (Y.free 59 rfl) (c_min c.ct.calm) (wOc (wX kI) (wOc (wX (wCB c.ct (by kernel_rfl) (Y.free 49 rfl) c_len (wOc (wN c.ct (by kernel_rfl)) wO0 rfl) rfl)) wO0 rfl) rfl) rfl)) wO0 rfl) rfl) rfl)) wO0 rfl) rfl) (wTn c.ct (by kernel_rfl) (.inl c.fn)) (by kernel_rfl) (pss_c (sSet c (by kernel_rfl) (wCall0 c.ct (b_law_well_2 (g_law_well Y)) (by omega) (by kernel_rfl) (Y.glo 64 rfl) (paV (wV c.ct (by kernel_rfl)) (paV (wV c.ct (by kernel_rfl)) pa_A0 rfl) rfl) rfl) (by kernel_rfl) rfl)
    (pss_c (sFor c (iRng1 c.ct (by kernel_rfl) (Y.free 63 rfl) (wOc (wX kI) wO0 rfl) rfl) (wTn c.ct (by kernel_rfl) (.inl c.fn)) (by kernel_rfl) (pss_c (ps_If (pt_not' (pt_Tr (wX (wCall0 c.ct (b_law_fits_1 (g_law_fits Y)) (by omega) (by kernel_rfl) (Y.glo 65 rfl) (paR (wN c.ct (by kernel_rfl)) pa_A0 rfl) rfl)) (fun _ => rfl))) (pss_c (ps_Ret kB)
    pss_0) pss_0)
    pss_0) (fun _ => rfl))
    pss_0)) (fun _ => rfl))
    (pss_c (ps_Ret kB)
    pss_0))
theorem g_law (Y : FA P w K mg base) : GdF P w K Memo.no mg base d_law ["script"] [] 37 f_law :=
  GdF.mk' Y 36 rfl (N := N_law) ⟨rfl, rfl, rfl, by decide +kernel, rfl, by decide +kernel, by decide +kernel⟩ rfl (by decide) fun _ _ c => w_law Y c
end
def lawlev : Nat := 37
end A06

set_option Elab.async false
set_option linter.all false
set_option maxRecDepth 100000
set_option maxHeartbeats 0
namespace A06
open PI PySem PySem.Spec PyProof.Rows L2
abbrev R : PySem.W.OpenRow := PySem.W.OpenLaw.row PySem.Challenge.rw_anyworker_k06_values_that_are_one_or_zer
abbrev hk : PySem.W.Hook := hookP 5 fc fn
def ob (s : PySem.W.SharedT) : He.AlD := obsPG 5 fc fn (HandSHeadRun.getT s)
theorem ob_eq (s : PySem.W.SharedT) : ob s = hk.obs s.abs := obsPG_eq (HandSHeadRun.getT_eq s)
def loose0 : List PySem.Str := ["_wall", "WorkError", "InvalidName", "UnknownName", "InvalidDivisor", "LETTERS", "is_name", "check_name", "check_divisor", "cell", "passed", "number", "value_of", "parts_of", "names_in", "paired", "worth_of", "Value", "_law_well", "_law_take", "_law_number", "_law_near", "_law_two", "_law_beside", "_law_fits"]
def loose : List PySem.Str := loose0
theorem run (w : World) : HandSHeadRun.RunEq R (PySem.W.view R.prog [28]) hk ob 12000 loose w := by
  intro os
  kernel_rfl
end A06

set_option Elab.async false
set_option linter.all false
set_option maxRecDepth 100000
set_option maxHeartbeats 0
open PySem PySem.W PySem.Calls PyProof.Rows
theorem PySem.Challenge.cw_anyworker_k06_values_that_are_one_or_zer_holds : PySem.Challenge.rw_anyworker_k06_values_that_are_one_or_zer.Holds := by
  w_on; o_law
  refine HandSHeadRun.head_any (r := OpenLaw.row PySem.Challenge.rw_anyworker_k06_values_that_are_one_or_zer) (q := view (OpenLaw.row PySem.Challenge.rw_anyworker_k06_values_that_are_one_or_zer).prog [28]) (H := A06.hk) (ob := A06.ob) (M := 12000) (loose := A06.loose) (d := HandSHeadRun.topDef (OpenLaw.row PySem.Challenge.rw_anyworker_k06_values_that_are_one_or_zer).prog 28) (kwd := []) A06.ob_eq
    (by kernel_rfl) (fun s => by kernel_rfl) A06.run (by kernel_rfl) (by kernel_rfl) (by kernel_rfl) (by rfl) (by first | assumption | decide +kernel) (by decide +kernel) ⟨rfl, rfl, rfl, rfl, rfl, by decide +kernel⟩ ?hw ?hc
  case hw => w_witness2
  case hc =>
    refine PI.walkG (l := PySem.Challenge.rw_anyworker_k06_values_that_are_one_or_zer) (n := 63) (k := A06.lawlev) (x := "script") (M := PI.Memo.no) (ff := A06.f_law) (fun _ => trivial) rfl (by decide) (by kernel_rfl) ⟨rfl, by decide, by decide⟩ ?F A06.law_ok
    intro w mg fa h Y G hmg0
    obtain ⟨K, KX, c⟩ := Y
    have hmg : mg ("law" : PySem.Str) = some (.ref fa) := by
      have e : (HandSHeadRun.topDef (OpenLaw.row PySem.Challenge.rw_anyworker_k06_values_that_are_one_or_zer).prog 28).name = ("law" : PySem.Str) := by kernel_rfl
      rw [← e]
      exact hmg0
    have Y : ∀ base, A06.FA PySem.Challenge.rw_anyworker_k06_values_that_are_one_or_zer.prog w K mg base := fun base => ⟨⟨h, KX, G⟩, c⟩
    have ea : A06.d_law.at_ K = fa := by
      have g := (Y h).glo (x := "law") 66 rfl
      rw [hmg] at g
      cases g
      rfl
    obtain ⟨fd, hb, hF⟩ := PI.lawFd h (fun base => A06.g_law (Y base)) ea rfl (fun _ _ _ _ _ _ _ => by kernel_rfl)
    exact ⟨K, fd, KX, hb, fun base _ _ => hF base⟩
