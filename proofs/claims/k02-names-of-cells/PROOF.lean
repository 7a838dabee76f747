import PyProof.Rows.All
import Wide.All
import OpenK.AllK
import Wide.FinOn
import HandS.ForMost
import HandS.ForExc
import HandS.ExcInit
import HandS.ExcField
import HandS.Property
import HandS.IsInst
import HandS.Defaults
import HandS.MakeKw
import HandS.HeadHook2
import HandS.HeadEnd
import HandS.Wide
import HandS.TupAny
import HandS.Text
import HandS.Flow
import HandS.Iter
import HandS.Zip
import HandS.TryOnly
import HandS.List
import HandS.Small
import KE.KOpsOwn
import HandS.DictComp
import HandS.RaiseMore
import HandS.More
import HandS.Comp
import HandS.Dict
import HandS.Ends
import HandS.HeadNt
import HandS.Strs
import HandS.SetFor
import PyProof.Rows.SortShellAny
import HandS.Codes
import HandS.Words
import HandS.Style
import PyProof.ReprLen
import PyProof.Rows.RegStrFacts
import HandS.ExcIs
import HandS.Exc
import PyProof.StrLawsRepr
import HandS.Head0
import HandS.Head1
import HandS.Head2
import HandS.HeadHook1
import PySem.Challenge.RW_anyworker_k02_names_of_cells
set_option Elab.async false
set_option linter.all false
set_option maxRecDepth 100000
set_option maxHeartbeats 1000000
namespace PI
open PySem PySem.Spec PyProof.Rows L2
open PySem.W (Frag)

/-! ### values without addresses: m marks a list, a dict, an object that its one holder may still change -/
inductive D where
  | non | bl (b : Bool) | int (i : Int) | str (x : Str)
  | lst (m : Bool) (xs : List D) | tup (xs : List D)
  | dic (m : Bool) (ks : List Key) (vs : List D)
  | obj (m : Bool) (c : Str) (ns : List Str) (vs : List D)
  deriving Inhabited
abbrev Sg := List (Option D)

/-! ### how a value that is no longer changed lies in the part G of the heap that stands still -/
mutual
def Rep (K : Frag) (G : Hp) : D → V → Prop
  | .non, v => v = .non
  | .bl b, v => v = .bl b
  | .int i, v => v = .int i
  | .str x, v => v = .str x
  | .lst m xs, v => m = false ∧ ∃ a vs, v = .ref a ∧ SqL K G a vs ∧ RepL K G xs vs
  | .tup xs, v => ∃ a vs, v = .ref a ∧ SqT K G a vs ∧ RepL K G xs vs
  | .dic m ks ds, v => m = false ∧ ∃ a vs, v = .ref a ∧ G a = some (.dK (ks.zip vs)) ∧ ks.length = vs.length ∧ RepL K G ds vs
  | .obj m c ns ds, v => m = false ∧ ∃ a dx vs, v = .ref a ∧ G a = some (.ins (He.ga K c) dx (ns.zip vs)) ∧ ns.length = vs.length ∧ RepL K G ds vs
def RepL (K : Frag) (G : Hp) : List D → List V → Prop
  | [], vs => vs = []
  | d :: ds, vs => ∃ v r, vs = v :: r ∧ Rep K G d v ∧ RepL K G ds r
end
/-- G grows -/
def Sub (G G' : Hp) : Prop := ∀ a o, G a = some o → G' a = some o
theorem Sub.refl (G : Hp) : Sub G G := fun _ _ h => h
theorem Sub.trans {G G1 G2 : Hp} (a : Sub G G1) (b : Sub G1 G2) : Sub G G2 := fun x o h => b x o (a x o h)
theorem Sub.rd {G G' : Hp} (e : Sub G G') {a : Addr} {u : HO} (h : Rd G a u) : Rd G' a u := by
  rcases h with h | ⟨o, h⟩
  · exact .inl (e _ _ h)
  · exact .inr ⟨o, e _ _ h⟩
theorem Sub.sqL {K : Frag} {G G' : Hp} (e : Sub G G') {a : Addr} {xs : List V} (h : SqL K G a xs) : SqL K G' a xs := by
  rcases h with h | h
  · exact .inl (e.rd h)
  · exact .inr h
theorem Sub.sqT {K : Frag} {G G' : Hp} (e : Sub G G') {a : Addr} {xs : List V} (h : SqT K G a xs) : SqT K G' a xs := by
  rcases h with h | h
  · exact .inl (e.rd h)
  · exact .inr h
theorem Sub.new {G : Hp} {p : Addr} {o : HO} (h : G p = none) : Sub G (upd G p o) := fun a u e => by
  rw [upd_ne (ne_of_none e h)]; exact e
mutual
theorem Rep.mono {K : Frag} {G G' : Hp} (e : Sub G G') : ∀ (d : D) (v : V), Rep K G d v → Rep K G' d v
  | .non, v, h => h
  | .bl b, v, h => h
  | .int i, v, h => h
  | .str x, v, h => h
  | .lst m xs, v, h => by
    obtain ⟨hm, a, vs, rfl, hs, hr⟩ := h
    exact ⟨hm, a, vs, rfl, e.sqL hs, RepL.mono e xs vs hr⟩
  | .tup xs, v, h => by
    obtain ⟨a, vs, rfl, hs, hr⟩ := h
    exact ⟨a, vs, rfl, e.sqT hs, RepL.mono e xs vs hr⟩
  | .dic m ks ds, v, h => by
    obtain ⟨hm, a, vs, rfl, hs, hl, hr⟩ := h
    exact ⟨hm, a, vs, rfl, e _ _ hs, hl, RepL.mono e ds vs hr⟩
  | .obj m c ns ds, v, h => by
    obtain ⟨hm, a, dx, vs, rfl, hs, hl, hr⟩ := h
    exact ⟨hm, a, dx, vs, rfl, e _ _ hs, hl, RepL.mono e ds vs hr⟩
theorem RepL.mono {K : Frag} {G G' : Hp} (e : Sub G G') : ∀ (ds : List D) (vs : List V), RepL K G ds vs → RepL K G' ds vs
  | [], vs, h => h
  | d :: ds, vs, h => by
    obtain ⟨v, r, rfl, h1, h2⟩ := h
    exact ⟨v, r, rfl, Rep.mono e d v h1, RepL.mono e ds r h2⟩
end
theorem RepL.len {K : Frag} {G : Hp} : ∀ {ds : List D} {vs : List V}, RepL K G ds vs → ds.length = vs.length
  | [], vs, h => by cases (show vs = [] from h); rfl
  | d :: ds, vs, h => by
    obtain ⟨v, r, rfl, h1, h2⟩ := h
    simp [RepL.len h2]
theorem RepL.get {K : Frag} {G : Hp} : ∀ {ds : List D} {vs : List V} (i : Nat) {d : D}, RepL K G ds vs → ds[i]? = some d → ∃ v, vs[i]? = some v ∧ Rep K G d v
  | [], vs, i, d, h, e => by simp at e
  | d :: ds, vs, 0, d', h, e => by
    obtain ⟨v, r, rfl, h1, h2⟩ := h
    simp at e; subst e
    exact ⟨v, rfl, h1⟩
  | d :: ds, vs, i + 1, d', h, e => by
    obtain ⟨v, r, rfl, h1, h2⟩ := h
    obtain ⟨v', e1, e2⟩ := RepL.get i h2 (by simpa using e)
    exact ⟨v', by simpa using e1, e2⟩
theorem RepL.append {K : Frag} {G : Hp} : ∀ {ds es : List D} {vs us : List V}, RepL K G ds vs → RepL K G es us → RepL K G (ds ++ es) (vs ++ us)
  | [], es, vs, us, h, h' => by cases (show vs = [] from h); exact h'
  | d :: ds, es, vs, us, h, h' => by
    obtain ⟨v, r, rfl, h1, h2⟩ := h
    exact ⟨v, r ++ us, rfl, h1, RepL.append h2 h'⟩
theorem RepL.one {K : Frag} {G : Hp} {d : D} {v : V} (h : Rep K G d v) : RepL K G [d] [v] := ⟨v, [], rfl, h, rfl⟩

/-! ### what changes behind the proof's back: memos -/
structure Memo where
  vol : Hp → Addr → Prop
  inv : Hp → Hp → Prop
  plain : HO → Prop
  lst : ∀ xs, plain (.lst xs)
  tup : ∀ xs, plain (.tup xs)
  dK : ∀ xs, plain (.dK xs)
  grow : ∀ G a o, G a = none → plain o → ∀ b, vol (upd G a o) b ↔ vol G b
  keep : ∀ G H G' H', inv G H → Sub G G' → (∀ x o, G' x = some o → G x = some o ∨ plain o) → (∀ b o, H b = some o → vol G b → H' b = some o) → inv G' H'
  there : ∀ G H a, inv G H → vol G a → (∃ o, H a = some o) ∧ G a = none
def Memo.no : Memo where
  vol := fun _ _ => False
  inv := fun _ _ => True
  plain := fun _ => True
  lst := fun _ => trivial
  tup := fun _ => trivial
  dK := fun _ => trivial
  grow := fun _ _ _ _ _ _ => Iff.rfl
  keep := fun _ _ _ _ _ _ _ _ => trivial
  there := fun _ _ _ _ h => h.elim

/-- what stands at the address of a value that may be changed -/
def OwnAt (K : Frag) (M : Memo) (G H : Hp) (a : Addr) : D → Prop
  | .lst m xs => m = true ∧ ∃ vs, H a = some (.lst vs) ∧ RepL K G xs vs
  | .dic m ks ds => m = true ∧ ∃ vs, H a = some (.dK (ks.zip vs)) ∧ ks.length = vs.length ∧ RepL K G ds vs
  | .obj m c ns ds => m = true ∧ (∀ dx fs, M.plain (.ins (He.ga K c) dx fs)) ∧ ∃ dx vs, H a = some (.ins (He.ga K c) dx (ns.zip vs)) ∧ ns.length = vs.length ∧ RepL K G ds vs
  | _ => False
/-- a value and what it alone holds (S) -/
def Own (K : Frag) (M : Memo) (G H : Hp) (d : D) (v : V) (S : Addr → Prop) : Prop :=
  (Rep K G d v ∧ ∀ a, ¬ S a) ∨ ∃ a, v = .ref a ∧ G a = none ∧ (∀ b, S b ↔ b = a) ∧ OwnAt K M G H a d
def sealD : D → D
  | .lst _ xs => .lst false xs
  | .dic _ ks vs => .dic false ks vs
  | .obj _ c ns vs => .obj false c ns vs
  | d => d
theorem OwnAt.keep {K : Frag} {M : Memo} {G G' H H' : Hp} {a : Addr} {d : D} (e : Sub G G') (k : ∀ o, H a = some o → H' a = some o) (h : OwnAt K M G H a d) : OwnAt K M G' H' a d := by
  cases d with
  | lst m xs => obtain ⟨hm, vs, ha, hr⟩ := h; exact ⟨hm, vs, k _ ha, RepL.mono e _ _ hr⟩
  | dic m ks ds => obtain ⟨hm, vs, ha, hl, hr⟩ := h; exact ⟨hm, vs, k _ ha, hl, RepL.mono e _ _ hr⟩
  | obj m c ns ds => obtain ⟨hm, pl, dx, vs, ha, hl, hr⟩ := h; exact ⟨hm, pl, dx, vs, k _ ha, hl, RepL.mono e _ _ hr⟩
  | _ => exact (show False from h).elim
theorem OwnAt.there {K : Frag} {M : Memo} {G H : Hp} {a : Addr} {d : D} (h : OwnAt K M G H a d) : ∃ o, H a = some o := by
  cases d with
  | lst m xs => obtain ⟨_, vs, ha, _⟩ := h; exact ⟨_, ha⟩
  | dic m ks ds => obtain ⟨_, vs, ha, _⟩ := h; exact ⟨_, ha⟩
  | obj m c ns ds => obtain ⟨_, _, dx, vs, ha, _⟩ := h; exact ⟨_, ha⟩
  | _ => exact (show False from h).elim
theorem Own.keep {K : Frag} {M : Memo} {G G' H H' : Hp} {d : D} {v : V} {S : Addr → Prop} (h : Own K M G H d v S) (e : Sub G G') (k : ∀ a o, S a → H a = some o → H' a = some o) (n : ∀ a, S a → G' a = none) : Own K M G' H' d v S := by
  rcases h with ⟨h, hs⟩ | ⟨a, rfl, hg, hs, ho⟩
  · exact .inl ⟨Rep.mono e d v h, hs⟩
  · exact .inr ⟨a, rfl, n a ((hs a).mpr rfl), hs, ho.keep e fun o q => k a o ((hs a).mpr rfl) q⟩
theorem Own.there {K : Frag} {M : Memo} {G H : Hp} {d : D} {v : V} {S : Addr → Prop} (h : Own K M G H d v S) {a : Addr} (ha : S a) : (∃ o, H a = some o) ∧ G a = none := by
  rcases h with ⟨h, hs⟩ | ⟨b, rfl, hg, hs, ho⟩
  · exact (hs a ha).elim
  · cases (hs a).mp ha; exact ⟨ho.there, hg⟩
def none_ : Addr → Prop := fun _ => False
theorem Own.of {K : Frag} {M : Memo} {G H : Hp} {d : D} {v : V} (h : Rep K G d v) : Own K M G H d v none_ := .inl ⟨h, fun _ z => z⟩

/-! ### the state: slots, the heap, its part that stands still, what each slot alone holds -/
structure Mt (K : Frag) (M : Memo) (g : Sg) (σ : L2.St) (H G : Hp) (S : Nat → Addr → Prop) : Prop where
  len : g.length = σ.length
  own : ∀ i d, g[i]? = some (some d) → ∃ v, σ[i]? = some (some v) ∧ Own K M G H d v (S i)
  nil : ∀ i, (∀ d, g[i]? ≠ some (some d)) → ∀ a, ¬ S i a
  dis : ∀ i j a, S i a → S j a → i = j
  sub : Sub G H
  mem : M.inv G H
  vol : ∀ i a, S i a → ¬ M.vol G a
/-- what may change -/
def Vl (M : Memo) (G : Hp) (S : Nat → Addr → Prop) (a : Addr) : Prop := (∃ i, S i a) ∨ M.vol G a
/-- from one state to a later one -/
structure Stp (M : Memo) (H G : Hp) (S : Nat → Addr → Prop) (H' G' : Hp) (S' : Nat → Addr → Prop) : Prop where
  gr : Sub G G'
  fr : ∀ a o, H a = some o → ¬ Vl M G S a → H' a = some o
  th : ∀ a o, H a = some o → ∃ o', H' a = some o'
  vl : ∀ a, Vl M G' S' a → Vl M G S a ∨ H a = none
  fg : ∀ a o, G' a = some o → G a = some o ∨ H a = none ∨ Vl M G S a
theorem Stp.refl {M : Memo} {H G : Hp} {S : Nat → Addr → Prop} : Stp M H G S H G S := ⟨Sub.refl _, fun _ _ h _ => h, fun _ o h => ⟨o, h⟩, fun _ h => .inl h, fun _ _ h => .inl h⟩
theorem Stp.back {M : Memo} {H G H1 G1 : Hp} {S S1 : Nat → Addr → Prop} (a : Stp M H G S H1 G1 S1) {x : Addr} (h : H1 x = none) : H x = none := by
  cases q : H x with
  | none => rfl
  | some o =>
    obtain ⟨o', e⟩ := a.th x o q
    rw [h] at e; cases e
theorem Stp.trans {M : Memo} {H G H1 G1 H2 G2 : Hp} {S S1 S2 : Nat → Addr → Prop} (a : Stp M H G S H1 G1 S1) (b : Stp M H1 G1 S1 H2 G2 S2) : Stp M H G S H2 G2 S2 := by
  have vb : ∀ x o, H x = some o → ¬ Vl M G S x → ¬ Vl M G1 S1 x := fun x o q z y => by
    rcases a.vl x y with y | y
    · exact z y
    · rw [q] at y; cases y
  refine ⟨a.gr.trans b.gr, fun x o q z => b.fr x o (a.fr x o q z) (vb x o q z), fun x o q => ?_, fun x h => ?_, fun x o h => ?_⟩
  · obtain ⟨o1, q1⟩ := a.th x o q
    exact b.th x o1 q1
  · rcases b.vl x h with h | h
    · exact a.vl x h
    · exact .inr (a.back h)
  · rcases b.fg x o h with h | h | h
    · exact a.fg x o h
    · exact .inr (.inl (a.back h))
    · rcases a.vl x h with h | h
      · exact .inr (.inr h)
      · exact .inr (.inl h)
/-- what lies apart from the slots stays as it was -/
theorem Own.stp {K : Frag} {M : Memo} {H G H' G' : Hp} {S S' : Nat → Addr → Prop} {d : D} {v : V} {T : Addr → Prop} (h : Own K M G H d v T) (st : Stp M H G S H' G' S') (ap : ∀ a, T a → ¬ Vl M G S a) : Own K M G' H' d v T := by
  refine h.keep st.gr (fun a o ta q => st.fr a o q (ap a ta)) fun a ta => ?_
  obtain ⟨⟨o, ho⟩, hg⟩ := h.there ta
  cases q : G' a with
  | none => rfl
  | some u =>
    rcases st.fg a u q with z | z | z
    · rw [hg] at z; cases z
    · rw [ho] at z; cases z
    · exact (ap a ta z).elim
theorem Stp.apart {M : Memo} {H G H' G' : Hp} {S S' : Nat → Addr → Prop} (st : Stp M H G S H' G' S') {a : Addr} {o : HO} (ho : H a = some o) (ap : ¬ Vl M G S a) : ¬ Vl M G' S' a := fun z => by
  rcases st.vl a z with z | z
  · exact ap z
  · rw [ho] at z; cases z
end PI

set_option Elab.async false
set_option linter.all false
set_option maxRecDepth 100000
set_option maxHeartbeats 1000000
namespace PI
open PySem PySem.Spec PyProof.Rows L2
open PySem.W (Frag)
/-! ### what a piece of text does to the slots -/
inductive Rs (α : Type) where
  | bad | ok (a : α) (g : Sg) | exc (c : Str) (d : D) (g : Sg)
def Rs.bind {α β : Type} (r : Rs α) (k : α → Sg → Rs β) : Rs β := match r with
  | .bad => .bad
  | .ok a g => k a g
  | .exc c d g => .exc c d g
@[simp] theorem Rs.bind_bad {α β : Type} (k : α → Sg → Rs β) : (Rs.bad : Rs α).bind k = .bad := rfl
@[simp] theorem Rs.bind_ok {α β : Type} (a : α) (g : Sg) (k : α → Sg → Rs β) : (Rs.ok a g).bind k = k a g := rfl
@[simp] theorem Rs.bind_exc {α β : Type} (c : Str) (d : D) (g : Sg) (k : α → Sg → Rs β) : (Rs.exc c d g : Rs α).bind k = .exc c d g := rfl
inductive Cr where
  | bad | ok (d : D) (rs : List D) | exc (c : Str) (d : D) (rs : List D)
abbrev CT := Str → List D → Cr
abbrev PX := Sg → Rs D
abbrev PT' := Sg → Rs Bool
inductive Fl where
  | nx | rt (d : D) | bk | ct
abbrev PF := Sg → Rs Fl

section
variable (K : Frag) (M : Memo)
/-- what is wanted of an exception -/
def EndX (W : WX) (σ : L2.St) (H G : Hp) (S : Nat → Addr → Prop) (c : Str) (d : D) (g' : Sg) : Prop :=
  ∀ v H' G' S' dd, Mt K M g' σ H' G' S' → Rep K G' d v → Stp M H G S H' G' S' → H' dd = some (.xd [("value", v)]) → W (.ref (He.ga K c)) (some dd) σ H'
/-- a value, with what it alone holds: new, apart from the slots -/
def Got (H : Hp) (g' : Sg) (σ : L2.St) (H' G' : Hp) (S' : Nat → Addr → Prop) (d : D) (v : V) (T : Addr → Prop) : Prop :=
  Mt K M g' σ H' G' S' ∧ Own K M G' H' d v T ∧ ∀ a, T a → ¬ Vl M G' S' a ∧ H a = none
def EndE (W : WX) (σ : L2.St) (H G : Hp) (S : Nat → Addr → Prop) (r : Rs D) (Q : VK) : Prop := match r with
  | .bad => False
  | .ok d g' => ∀ v H' G' S' T, Got K M H g' σ H' G' S' d v T → Stp M H G S H' G' S' → Q v H'
  | .exc c d g' => EndX K M W σ H G S c d g'
def EndB (W : WX) (σ : L2.St) (H G : Hp) (S : Nat → Addr → Prop) (r : Rs Bool) (Q : Bool → Hp → Prop) : Prop := match r with
  | .bad => False
  | .ok b g' => ∀ H' G' S', Mt K M g' σ H' G' S' → Stp M H G S H' G' S' → Q b H'
  | .exc c d g' => EndX K M W σ H G S c d g'
def tP (W : WX) (m : PX) : TE := fun σ H Q => ∃ g G S, Mt K M g σ H G S ∧ EndE K M W σ H G S (m g) Q
def tB' (W : WX) (m : PT') : TT := fun σ H Q => ∃ g G S, Mt K M g σ H G S ∧ EndB K M W σ H G S (m g) Q
/-- a list of values that are no longer changed -/
def EndL (W : WX) (σ : L2.St) (H G : Hp) (S : Nat → Addr → Prop) (r : Rs (List D)) (Q : List V → Hp → Prop) : Prop := match r with
  | .bad => False
  | .ok ds g' => ∀ vs H' G' S', Mt K M g' σ H' G' S' → RepL K G' ds vs → Stp M H G S H' G' S' → Q vs H'
  | .exc c d g' => EndX K M W σ H G S c d g'
def tL (W : WX) (m : Sg → Rs (List D)) : TA := fun σ H Q => ∃ g G S, Mt K M g σ H G S ∧ EndL K M W σ H G S (m g) Q
end

section
variable {K : Frag} {M : Memo} {W : WX} {σ : L2.St} {H G H1 G1 : Hp} {S S1 : Nat → Addr → Prop} {g g1 : Sg}
theorem EndX.of {c : Str} {d : D} (h : EndX K M W σ H G S c d g) (st : Stp M H G S H1 G1 S1) : EndX K M W σ H1 G1 S1 c d g :=
  fun v H' G' S' dd m r s x => h v H' G' S' dd m r (st.trans s) x
theorem EndE.of {r : Rs D} {Q : VK} (h : EndE K M W σ H G S r Q) (st : Stp M H G S H1 G1 S1) : EndE K M W σ H1 G1 S1 r Q := by
  cases r with
  | bad => exact h
  | ok d g' => exact fun v H' G' S' T ⟨m, o, a⟩ s => h v H' G' S' T ⟨m, o, fun x hx => ⟨(a x hx).1, st.back (a x hx).2⟩⟩ (st.trans s)
  | exc c d g' => exact EndX.of h st
theorem EndB.of {r : Rs Bool} {Q : Bool → Hp → Prop} (h : EndB K M W σ H G S r Q) (st : Stp M H G S H1 G1 S1) : EndB K M W σ H1 G1 S1 r Q := by
  cases r with
  | bad => exact h
  | ok d g' => exact fun H' G' S' m s => h H' G' S' m (st.trans s)
  | exc c d g' => exact EndX.of h st
theorem EndL.of {r : Rs (List D)} {Q : List V → Hp → Prop} (h : EndL K M W σ H G S r Q) (st : Stp M H G S H1 G1 S1) : EndL K M W σ H1 G1 S1 r Q := by
  cases r with
  | bad => exact h
  | ok d g' => exact fun vs H' G' S' m r s => h vs H' G' S' m r (st.trans s)
  | exc c d g' => exact EndX.of h st
theorem EndE.imp {r : Rs D} {Q Q' : VK} (h : EndE K M W σ H G S r Q) (k : ∀ v H', Q v H' → Q' v H') : EndE K M W σ H G S r Q' := by
  cases r with
  | bad => exact h
  | ok d g' => exact fun v H' G' S' T m s => k _ _ (h v H' G' S' T m s)
  | exc c d g' => exact h
/-- a bind: first an expression -/
theorem EndE.bind {r : Rs D} {k : D → Sg → Rs D} {Q : VK} (h : EndE K M W σ H G S (r.bind k) Q) :
    EndE K M W σ H G S r fun v H' => ∃ d g' G' S' T, r = .ok d g' ∧ Got K M H g' σ H' G' S' d v T ∧ Stp M H G S H' G' S' ∧ EndE K M W σ H G S (k d g') Q := by
  cases r with
  | bad => exact h
  | ok d g' => exact fun v H' G' S' T m s => ⟨d, g', G', S', T, rfl, m, s, h⟩
  | exc c d g' => exact h
theorem EndL.bindE {r : Rs D} {k : D → Sg → Rs (List D)} {Q : List V → Hp → Prop} (h : EndL K M W σ H G S (r.bind k) Q) :
    EndE K M W σ H G S r fun v H' => ∃ d g' G' S' T, r = .ok d g' ∧ Got K M H g' σ H' G' S' d v T ∧ Stp M H G S H' G' S' ∧ EndL K M W σ H G S (k d g') Q := by
  cases r with
  | bad => exact h
  | ok d g' => exact fun v H' G' S' T m s => ⟨d, g', G', S', T, rfl, m, s, h⟩
  | exc c d g' => exact h
theorem EndE.bindL {r : Rs (List D)} {k : List D → Sg → Rs D} {Q : VK} (h : EndE K M W σ H G S (r.bind k) Q) :
    EndL K M W σ H G S r fun vs H' => ∃ ds g' G' S', r = .ok ds g' ∧ Mt K M g' σ H' G' S' ∧ RepL K G' ds vs ∧ Stp M H G S H' G' S' ∧ EndE K M W σ H G S (k ds g') Q := by
  cases r with
  | bad => exact h
  | ok d g' => exact fun v H' G' S' m rr s => ⟨d, g', G', S', rfl, m, rr, s, h⟩
  | exc c d g' => exact h
theorem EndE.bindB {r : Rs Bool} {k : Bool → Sg → Rs D} {Q : VK} (h : EndE K M W σ H G S (r.bind k) Q) :
    EndB K M W σ H G S r fun b H' => ∃ g' G' S', r = .ok b g' ∧ Mt K M g' σ H' G' S' ∧ Stp M H G S H' G' S' ∧ EndE K M W σ H G S (k b g') Q := by
  cases r with
  | bad => exact h
  | ok d g' => exact fun H' G' S' m s => ⟨g', G', S', rfl, m, s, h⟩
  | exc c d g' => exact h
theorem EndB.bindB {r : Rs Bool} {k : Bool → Sg → Rs Bool} {Q : Bool → Hp → Prop} (h : EndB K M W σ H G S (r.bind k) Q) :
    EndB K M W σ H G S r fun b H' => ∃ g' G' S', r = .ok b g' ∧ Mt K M g' σ H' G' S' ∧ Stp M H G S H' G' S' ∧ EndB K M W σ H G S (k b g') Q := by
  cases r with
  | bad => exact h
  | ok d g' => exact fun H' G' S' m s => ⟨g', G', S', rfl, m, s, h⟩
  | exc c d g' => exact h
theorem EndB.bindE {r : Rs D} {k : D → Sg → Rs Bool} {Q : Bool → Hp → Prop} (h : EndB K M W σ H G S (r.bind k) Q) :
    EndE K M W σ H G S r fun v H' => ∃ d g' G' S' T, r = .ok d g' ∧ Got K M H g' σ H' G' S' d v T ∧ Stp M H G S H' G' S' ∧ EndB K M W σ H G S (k d g') Q := by
  cases r with
  | bad => exact h
  | ok d g' => exact fun v H' G' S' T m s => ⟨d, g', G', S', T, rfl, m, s, h⟩
  | exc c d g' => exact h

theorem EndL.imp {r : Rs (List D)} {Q Q' : List V → Hp → Prop} (h : EndL K M W σ H G S r Q) (k : ∀ v H', Q v H' → Q' v H') : EndL K M W σ H G S r Q' := by
  cases r with
  | bad => exact h
  | ok d g' => exact fun v H' G' S' m rr s => k _ _ (h v H' G' S' m rr s)
  | exc c d g' => exact h
theorem EndB.imp {r : Rs Bool} {Q Q' : Bool → Hp → Prop} (h : EndB K M W σ H G S r Q) (k : ∀ v H', Q v H' → Q' v H') : EndB K M W σ H G S r Q' := by
  cases r with
  | bad => exact h
  | ok d g' => exact fun H' G' S' m s => k _ _ (h H' G' S' m s)
  | exc c d g' => exact h
theorem EndL.bindL {r : Rs (List D)} {k : List D → Sg → Rs (List D)} {Q : List V → Hp → Prop} (h : EndL K M W σ H G S (r.bind k) Q) :
    EndL K M W σ H G S r fun vs H' => ∃ ds g' G' S', r = .ok ds g' ∧ Mt K M g' σ H' G' S' ∧ RepL K G' ds vs ∧ Stp M H G S H' G' S' ∧ EndL K M W σ H G S (k ds g') Q := by
  cases r with
  | bad => exact h
  | ok d g' => exact fun v H' G' S' m rr s => ⟨d, g', G', S', rfl, m, rr, s, h⟩
  | exc c d g' => exact h
theorem EndB.bindL {r : Rs (List D)} {k : List D → Sg → Rs Bool} {Q : Bool → Hp → Prop} (h : EndB K M W σ H G S (r.bind k) Q) :
    EndL K M W σ H G S r fun vs H' => ∃ ds g' G' S', r = .ok ds g' ∧ Mt K M g' σ H' G' S' ∧ RepL K G' ds vs ∧ Stp M H G S H' G' S' ∧ EndB K M W σ H G S (k ds g') Q := by
  cases r with
  | bad => exact h
  | ok d g' => exact fun v H' G' S' m rr s => ⟨d, g', G', S', rfl, m, rr, s, h⟩
  | exc c d g' => exact h

/-! ### the heap's steps -/
/-- a new object that stands still -/
theorem Mt.new {p : Addr} {o : HO} (h : Mt K M g σ H G S) (hp : H p = none) (pl : M.plain o) : Mt K M g σ (upd H p o) (upd G p o) S := by
  have gp : G p = none := by
    cases q : G p with
    | none => rfl
    | some u => rw [h.sub p u q] at hp; cases hp
  have sg : Sub G (upd G p o) := Sub.new gp
  have sh : Sub H (upd H p o) := Sub.new hp
  have sp : ∀ i a, S i a → a ≠ p := fun i a ha z => by
    by_cases e : ∃ d, g[i]? = some (some d)
    · obtain ⟨d, e⟩ := e
      obtain ⟨v, _, ow⟩ := h.own i d e
      obtain ⟨⟨o', ho⟩, _⟩ := ow.there ha
      rw [z, hp] at ho; cases ho
    · exact h.nil i (fun d q => e ⟨d, q⟩) a ha
  refine ⟨h.len, fun i d e => ?_, h.nil, h.dis, fun a u e => ?_, ?_, fun i a ha hv => ?_⟩
  · obtain ⟨v, e1, ow⟩ := h.own i d e
    refine ⟨v, e1, ow.keep sg (fun a u _ q => sh a u q) fun a ha => ?_⟩
    rw [upd_ne (sp i a ha)]
    exact (ow.there ha).2
  · by_cases z : a = p
    · subst z; rw [upd_same] at e; rw [upd_same]; exact e
    · rw [upd_ne z] at e; rw [upd_ne z]; exact h.sub a u e
  · refine M.keep G H _ _ h.mem sg (fun x u e => ?_) fun b u e _ => sh b u e
    by_cases z : x = p
    · subst z; rw [upd_same] at e; cases e; exact .inr pl
    · rw [upd_ne z] at e; exact .inl e
  · exact h.vol i a ha ((M.grow G p o gp pl a).mp hv)
theorem Mt.gnone (h : Mt K M g σ H G S) {p : Addr} (hp : H p = none) : G p = none := by
  cases q : G p with
  | none => rfl
  | some u => rw [h.sub p u q] at hp; cases hp
theorem Mt.snone (h : Mt K M g σ H G S) {p : Addr} (hp : H p = none) : ¬ Vl M G S p := by
  rintro (⟨i, hi⟩ | hv)
  · by_cases e : ∃ d, g[i]? = some (some d)
    · obtain ⟨d, e⟩ := e
      obtain ⟨v, _, ow⟩ := h.own i d e
      obtain ⟨⟨o', ho⟩, _⟩ := ow.there hi
      rw [hp] at ho; cases ho
    · exact h.nil i (fun d q => e ⟨d, q⟩) p hi
  · obtain ⟨⟨o, ho⟩, _⟩ := M.there G H p h.mem hv
    rw [hp] at ho; cases ho
theorem Mt.newStp {p : Addr} {o : HO} (h : Mt K M g σ H G S) (hp : H p = none) (pl : M.plain o) : Stp M H G S (upd H p o) (upd G p o) S := by
  have gp := h.gnone hp
  refine ⟨Sub.new gp, fun a u q _ => by rw [upd_ne (ne_of_none q hp)]; exact q, fun a u q => ⟨u, by rw [upd_ne (ne_of_none q hp)]; exact q⟩, fun a z => .inl ?_, fun a u q => ?_⟩
  · rcases z with z | z
    · exact .inl z
    · exact .inr ((M.grow G p o gp pl a).mp z)
  · by_cases z : a = p
    · subst z; exact .inr (.inl hp)
    · rw [upd_ne z] at q; exact .inl q
/-- a new object that its holder may still change: tracked, not still -/
theorem Mt.newOwn {p : Addr} {o : HO} (h : Mt K M g σ H G S) (hp : H p = none) : Mt K M g σ (upd H p o) G S := by
  have sh : Sub H (upd H p o) := Sub.new hp
  refine ⟨h.len, fun i d e => ?_, h.nil, h.dis, fun a u e => sh a u (h.sub a u e), ?_, h.vol⟩
  · obtain ⟨v, e1, ow⟩ := h.own i d e
    exact ⟨v, e1, ow.keep (Sub.refl _) (fun a u _ q => sh a u q) fun a ha => (ow.there ha).2⟩
  · exact M.keep G H _ _ h.mem (Sub.refl _) (fun x u e => .inl e) fun b u e _ => sh b u e
theorem Mt.newOwnStp {p : Addr} {o : HO} (h : Mt K M g σ H G S) (hp : H p = none) : Stp M H G S (upd H p o) G S :=
  ⟨Sub.refl _, fun a u q _ => by rw [upd_ne (ne_of_none q hp)]; exact q, fun a u q => ⟨u, by rw [upd_ne (ne_of_none q hp)]; exact q⟩, fun a z => .inl z, fun a u q => .inl q⟩
end
end PI

set_option Elab.async false
set_option linter.all false
set_option maxRecDepth 100000
set_option maxHeartbeats 1000000
namespace PI
open PySem PySem.Spec PyProof.Rows L2
open PySem.W (Frag)
/-! ### sealing: what is held alone is from now on still -/
section
variable {K : Frag} {M : Memo} {W : WX} {σ : L2.St} {H H0 G H1 G1 : Hp} {S S1 : Nat → Addr → Prop} {g g1 : Sg} {X : Cx}
theorem PE.imp {e : Expr} {t t' : TE} (h : PE X e t) (k : ∀ σ H Q, t' σ H Q → t σ H Q) : PE X e t' := ⟨fun pins s σ H Q I q => h.run pins s σ H Q I (k σ H Q q)⟩
theorem PT.imp {e : Expr} {t t' : TT} (h : PT X e t) (k : ∀ σ H Q, t' σ H Q → t σ H Q) : PT X e t' := ⟨fun pins s σ H Q I q => h.run pins s σ H Q I (k σ H Q q)⟩
theorem PA.imp {es : List Expr} {t t' : TA} (h : PA X es t) (k : ∀ σ H Q, t' σ H Q → t σ H Q) : PA X es t' := ⟨fun pos pins s σ H Q I q => h.run pos pins s σ H Q I (k σ H Q q)⟩
theorem PS.imp {st : Stmt} {t t' : TS} (h : PS X st t) (k : ∀ D σ H, t' D σ H → t D σ H) : PS X st t' := ⟨fun pins s σ H D I q => h.run pins s σ H D I (k D σ H q)⟩
theorem PSs.imp {st : List Stmt} {t t' : TS} (h : PSs X st t) (k : ∀ D σ H, t' D σ H → t D σ H) : PSs X st t' := ⟨fun pins s σ H D I q => h.run pins s σ H D I (k D σ H q)⟩
theorem Rep.seal {d : D} {v : V} (h : Rep K G d v) : sealD d = d := by
  cases d with
  | lst m xs => cases (show m = false from h.1); rfl
  | dic m ks ds => cases (show m = false from h.1); rfl
  | obj m c ns ds => cases (show m = false from h.1); rfl
  | _ => rfl
/-- the object of an owned value, and that it may stand still -/
theorem OwnAt.sealed {a : Addr} {d : D} (h : OwnAt K M G H a d) (ga : G a = none) : ∃ o, H a = some o ∧ M.plain o ∧ Rep K (upd G a o) (sealD d) (.ref a) := by
  cases d with
  | lst m xs =>
    obtain ⟨hm, vs, ha, hr⟩ := h
    exact ⟨_, ha, M.lst _, rfl, a, vs, rfl, SqL.of upd_same, RepL.mono (Sub.new ga) _ _ hr⟩
  | dic m ks ds =>
    obtain ⟨hm, vs, ha, hl, hr⟩ := h
    exact ⟨_, ha, M.dK _, rfl, a, vs, rfl, upd_same, hl, RepL.mono (Sub.new ga) _ _ hr⟩
  | obj m c ns ds =>
    obtain ⟨hm, pl, dx, vs, ha, hl, hr⟩ := h
    exact ⟨_, ha, pl _ _, rfl, a, dx, vs, rfl, upd_same, hl, RepL.mono (Sub.new ga) _ _ hr⟩
  | _ => exact (show False from h).elim
/-- G grows by an object that lies apart -/
theorem Mt.still {a : Addr} {o : HO} (h : Mt K M g σ H G S) (ha : H a = some o) (ga : G a = none) (ap : ∀ i, ¬ S i a) (pl : M.plain o) : Mt K M g σ H (upd G a o) S := by
  have sg : Sub G (upd G a o) := Sub.new ga
  refine ⟨h.len, fun i d e => ?_, h.nil, h.dis, fun b u e => ?_, ?_, fun i b hb hv => h.vol i b hb ((M.grow G a o ga pl b).mp hv)⟩
  · obtain ⟨v, e1, ow⟩ := h.own i d e
    refine ⟨v, e1, ow.keep sg (fun b u _ q => q) fun b hb => ?_⟩
    have ne : b ≠ a := fun z => ap i (z ▸ hb)
    rw [upd_ne ne]
    exact (ow.there hb).2
  · by_cases z : b = a
    · subst z; rw [upd_same] at e; cases e; exact ha
    · rw [upd_ne z] at e; exact h.sub b u e
  · refine M.keep G H _ _ h.mem sg (fun x u e => ?_) fun b u e _ => e
    by_cases z : x = a
    · subst z; rw [upd_same] at e; cases e; exact .inr pl
    · rw [upd_ne z] at e; exact .inl e
/-- a new thing that someone alone held is now still -/
theorem Got.seal {d : D} {v : V} {T : Addr → Prop} (h : Got K M H0 g σ H G S d v T) : ∃ G', Mt K M g σ H G' S ∧ Rep K G' (sealD d) v ∧ Sub G G' ∧ (∀ a o, G' a = some o → G a = some o ∨ H0 a = none) ∧ ∀ a, Vl M G' S a ↔ Vl M G S a := by
  obtain ⟨m, ow, ap⟩ := h
  rcases ow with ⟨r, _⟩ | ⟨a, rfl, ga, hs, oa⟩
  · exact ⟨G, m, by rw [r.seal]; exact r, Sub.refl _, fun _ _ e => .inl e, fun _ => Iff.rfl⟩
  · obtain ⟨o, ha, pl, rp⟩ := oa.sealed ga
    have hT := ap a ((hs a).mpr rfl)
    refine ⟨upd G a o, m.still ha ga (fun i z => hT.1 (.inl ⟨i, z⟩)) pl, rp, Sub.new ga, fun b u e => ?_, fun b => ?_⟩
    · by_cases z : b = a
      · subst z; exact .inr hT.2
      · rw [upd_ne z] at e; exact .inl e
    · exact ⟨fun z => z.elim .inl fun z => .inr ((M.grow G a o ga pl b).mp z), fun z => z.elim .inl fun z => .inr ((M.grow G a o ga pl b).mpr z)⟩
theorem Stp.sealed {G' : Hp} (st : Stp M H0 G S H1 G1 S1) (sb : Sub G1 G') (hg : ∀ a o, G' a = some o → G1 a = some o ∨ H0 a = none) (hv : ∀ a, Vl M G' S1 a ↔ Vl M G1 S1 a) : Stp M H0 G S H1 G' S1 := by
  refine ⟨st.gr.trans sb, st.fr, st.th, fun a z => st.vl a ((hv a).mp z), fun a o e => ?_⟩
  rcases hg a o e with e | e
  · exact st.fg a o e
  · exact .inr (.inl e)
/-- the slot i is sealed -/
theorem Mt.sealSlot {i : Nat} {d : D} (h : Mt K M g σ H G S) (e : g[i]? = some (some d)) :
    ∃ v G' S', σ[i]? = some (some v) ∧ Mt K M (g.set i (some (sealD d))) σ H G' S' ∧ Rep K G' (sealD d) v ∧ Stp M H G S H G' S' := by
  obtain ⟨v, ev, ow⟩ := h.own i d e
  have hi : i < g.length := (List.getElem?_eq_some_iff.mp e).1
  have hlen : (g.set i (some (sealD d))).length = σ.length := by rw [List.length_set]; exact h.len
  have oth : ∀ j, j ≠ i → (g.set i (some (sealD d)))[j]? = g[j]? := fun j hj => List.getElem?_set_ne (Ne.symm hj)
  have slf : (g.set i (some (sealD d)))[i]? = some (some (sealD d)) := List.getElem?_set_self hi
  rcases ow with ⟨r, hn⟩ | ⟨a, rfl, ga, hs, oa⟩
  · have es : g.set i (some (sealD d)) = g := by
      rw [r.seal]
      exact List.ext_getElem? fun j => by
        by_cases hj : j = i
        · subst hj; rw [List.getElem?_set_self hi, e]
        · exact List.getElem?_set_ne (Ne.symm hj)
    exact ⟨v, G, S, ev, by rw [es]; exact h, by rw [r.seal]; exact r, Stp.refl⟩
  · obtain ⟨o, ha, pl, rp⟩ := oa.sealed ga
    have sia : S i a := (hs a).mpr rfl
    have sg : Sub G (upd G a o) := Sub.new ga
    refine ⟨.ref a, upd G a o, fun j b => j ≠ i ∧ S j b, ev, ⟨hlen, fun j d' e' => ?_, fun j q b z => ?_, fun j k b z z' => h.dis j k b z.2 z'.2, fun b u q => ?_, ?_, fun j b z hv => h.vol j b z.2 ((M.grow G a o ga pl b).mp hv)⟩, rp, ⟨sg, fun b u q _ => q, fun b u q => ⟨u, q⟩, fun b z => ?_, fun b u q => ?_⟩⟩
    · by_cases hj : j = i
      · subst hj
        rw [slf] at e'; cases e'
        exact ⟨.ref a, ev, .inl ⟨rp, fun b z => z.1 rfl⟩⟩
      · rw [oth j hj] at e'
        obtain ⟨v', e1, ow'⟩ := h.own j d' e'
        have q1 := ow'.keep (H' := H) sg (fun b u _ q => q) fun b hb => by
          have ne : b ≠ a := fun z => hj (h.dis j i b hb (z ▸ sia))
          rw [upd_ne ne]
          exact (ow'.there hb).2
        have q2 : (fun b => j ≠ i ∧ S j b) = S j := funext fun b => propext ⟨fun z => z.2, fun z => ⟨hj, z⟩⟩
        exact ⟨v', e1, by rw [q2]; exact q1⟩
    · by_cases hj : j = i
      · exact z.1 hj
      · rw [oth j hj] at q; exact h.nil j q b z.2
    · by_cases z : b = a
      · subst z; rw [upd_same] at q; cases q; exact ha
      · rw [upd_ne z] at q; exact h.sub b u q
    · refine M.keep G H _ _ h.mem sg (fun x u q => ?_) fun b u q _ => q
      by_cases z : x = a
      · subst z; rw [upd_same] at q; cases q; exact .inr pl
      · rw [upd_ne z] at q; exact .inl q
    · rcases z with ⟨j, _, z⟩ | z
      · exact .inl (.inl ⟨j, z⟩)
      · exact .inl (.inr ((M.grow G a o ga pl b).mp z))
    · by_cases z : b = a
      · subst z; exact .inr (.inr (.inl ⟨i, sia⟩))
      · rw [upd_ne z] at q; exact .inl q
end

/-! ### the words: constants, names, displays -/
def pC (d : D) : PX := fun g => .ok d g
def pV (i : Nat) : PX := fun g => match g[i]? with
  | some (some d) => .ok (sealD d) (g.set i (some (sealD d)))
  | _ => .bad
def pBad : PX := fun _ => .bad
/-- sealed, one behind another -/
def pAll : List PX → Sg → Rs (List D)
  | [], g => .ok [] g
  | m :: ms, g => (m g).bind fun d g1 => (pAll ms g1).bind fun ds g2 => .ok (sealD d :: ds) g2
def pTup (ms : List PX) : PX := fun g => (pAll ms g).bind fun ds g1 => if ds.length ≤ 1000 then .ok (.tup ds) g1 else .bad
def pLst (ms : List PX) : PX := fun g => (pAll ms g).bind fun ds g1 => if ds.length ≤ 1000 then .ok (.lst true ds) g1 else .bad
section
variable {K : Frag} {M : Memo} {W : WX} {X : Cx}
theorem pe_bad {e : Expr} : PE X e (tP K M W pBad) := ⟨fun pins s σ H Q I h => by obtain ⟨g, G, S, m, z⟩ := h; exact (show False from z).elim⟩
theorem pe_C {e : Expr} {d : D} {v : V} (h : PE X e (tC v)) (r : ∀ G, Rep K G d v) : PE X e (tP K M W (pC d)) := by
  refine PE.imp h fun σ H Q q => ?_
  obtain ⟨g, G, S, m, q⟩ := q
  exact (show EndE K M W σ H G S (.ok d g) Q from q) v H G S none_ ⟨m, Own.of (r G), fun a z => z.elim⟩ Stp.refl
theorem pe_V {e : Expr} {i : Nat} (h : PE X e (tVar i)) : PE X e (tP K M W (pV i)) := by
  refine PE.imp h fun σ H Q q => ?_
  obtain ⟨g, G, S, m, q⟩ := q
  unfold pV at q
  split at q
  · rename_i d e
    obtain ⟨v, G', S', ev, m', r, st⟩ := m.sealSlot e
    exact ⟨v, ev, q v H G' S' none_ ⟨m', Own.of r, fun a z => z.elim⟩ st⟩
  · exact (show False from q).elim
theorem pa_all0 : PA X [] (tL K M W (pAll [])) := by
  refine PA.imp pa_nil fun σ H Q q => ?_
  obtain ⟨g, G, S, m, q⟩ := q
  exact (show EndL K M W σ H G S (.ok [] g) Q from q) [] H G S m rfl Stp.refl
theorem pa_allc {e : Expr} {es : List Expr} {m : PX} {ms : List PX} (hp : PE X e (tP K M W m)) (hr : PA X es (tL K M W (pAll ms))) (hs : starEach (e :: es) X.env = (false, eval e X.env) :: starEach es X.env) : PA X (e :: es) (tL K M W (pAll (m :: ms))) := by
  refine PA.imp (pa_cons hp hr hs) fun σ H Q q => ?_
  obtain ⟨g, G, S, mt, q⟩ := q
  have q1 := EndL.bindE (show EndL K M W σ H G S ((m g).bind _) Q from q)
  refine ⟨g, G, S, mt, EndE.imp q1 fun v H1 ⟨d, g1, G1, S1, T, er, got, st, q2⟩ => ?_⟩
  obtain ⟨G1', m1, r1, sb, hg, hv⟩ := got.seal
  have st1 := st.sealed sb hg hv
  refine ⟨g1, G1', S1, m1, ?_⟩
  have q3 := EndL.bindL (EndL.of q2 st1)
  refine EndL.imp q3 fun vs H2 ⟨ds, g2, G2, S2, er2, m2, rr, st2, q4⟩ => ?_
  exact (show EndL K M W σ H1 G1' S1 (.ok (sealD d :: ds) g2) Q from q4) (v :: vs) H2 G2 S2 m2 ⟨v, vs, rfl, Rep.mono st2.gr _ _ r1, rr⟩ st2
theorem sz1000 {n : Nat} (h : n ≤ 1000) : n ≤ sizeLine := by rw [sizeLine_eq]; omega
theorem pe_Tup {es : List Expr} {x1 : Nat} {pos : Pos} {ms : List PX} (h : PA X es (tL K M W (pAll ms))) : PE X (.Tuple es x1 pos) (tP K M W (pTup ms)) := by
  refine PE.imp (pe_tup h) fun σ H Q q => ?_
  obtain ⟨g, G, S, mt, q⟩ := q
  refine ⟨g, G, S, mt, EndL.imp (EndE.bindL q) fun vs H1 ⟨ds, g1, G1, S1, er, m1, rr, st, q2⟩ => ?_⟩
  split at q2
  · rename_i hl
    refine ⟨sz1000 (by rw [← rr.len]; exact hl), fun p hp => ?_⟩
    have m2 := m1.new hp (M.tup vs)
    have gp := m1.gnone hp
    refine (show EndE K M W σ H G S (.ok (.tup ds) g1) Q from q2) (.ref p) _ _ S1 none_ ⟨m2, Own.of ⟨p, vs, rfl, SqT.of upd_same, RepL.mono (Sub.new gp) _ _ rr⟩, fun a z => z.elim⟩ (st.trans (m1.newStp hp (M.tup vs)))
  · exact (show False from q2).elim
theorem pe_Lst {es : List Expr} {pos : Pos} {ms : List PX} (h : PA X es (tL K M W (pAll ms))) : PE X (.List es pos) (tP K M W (pLst ms)) := by
  refine PE.imp (pe_lst h) fun σ H Q q => ?_
  obtain ⟨g, G, S, mt, q⟩ := q
  refine ⟨g, G, S, mt, EndL.imp (EndE.bindL q) fun vs H1 ⟨ds, g1, G1, S1, er, m1, rr, st, q2⟩ => ?_⟩
  split at q2
  · rename_i hl
    refine ⟨sz1000 (by rw [← rr.len]; exact hl), fun p hp => ?_⟩
    have gp := m1.gnone hp
    refine (show EndE K M W σ H G S (.ok (.lst true ds) g1) Q from q2) (.ref p) _ _ S1 (fun a => a = p) ⟨m1.newOwn hp, .inr ⟨p, rfl, gp, fun b => Iff.rfl, rfl, vs, upd_same, rr⟩, fun a z => ?_⟩ (st.trans (m1.newOwnStp hp))
    cases z
    exact ⟨m1.snone hp, st.back hp⟩
  · exact (show False from q2).elim
end
end PI

set_option Elab.async false
set_option linter.all false
set_option maxRecDepth 100000
set_option maxHeartbeats 1000000
namespace PI
open PySem PySem.Spec PyProof.Rows L2
open PySem.W (Frag)
/-! ### operands: a name, which is only looked at; anything else -/
inductive Op where
  | nm (i : Nat) | ex (m : PX)
def evO (o : Op) (g : Sg) : Rs (Option D) := match o with
  | .nm i => (match g[i]? with
    | some (some _) => .ok none g
    | _ => .bad)
  | .ex m => (m g).bind fun d g1 => .ok (some d) g1
def rdO (g : Sg) (o : Op) (x : Option D) : Option D := match o with
  | .nm i => (g[i]?).join
  | .ex _ => x
def pOp1 (f : D → Sg → Rs D) (a : Op) : PX := fun g => (evO a g).bind fun x g1 => match rdO g1 a x with
  | some d => f d g1
  | none => .bad
def pOp2 (f : D → D → Sg → Rs D) (a b : Op) : PX := fun g => (evO a g).bind fun x g1 => (evO b g1).bind fun y g2 => match rdO g2 a x, rdO g2 b y with
  | some d, some e => f d e g2
  | _, _ => .bad
def evOs : List Op → Sg → Rs (List (Option D))
  | [], g => .ok [] g
  | o :: os, g => (evO o g).bind fun x g1 => (evOs os g1).bind fun xs g2 => .ok (x :: xs) g2
def rdOs (g : Sg) : List Op → List (Option D) → Option (List D)
  | [], _ => some []
  | o :: os, x :: xs => (match rdO g o x, rdOs g os xs with
    | some d, some ds => some (d :: ds)
    | _, _ => none)
  | _ :: _, [] => none
def pOps (f : List D → Sg → Rs D) (os : List Op) : PX := fun g => (evOs os g).bind fun xs g1 => match rdOs g1 os xs with
  | some ds => f ds g1
  | none => .bad
section
variable (K : Frag) (M : Memo)
/-- looked at -/
def Seen (G H : Hp) (d : D) (v : V) : Prop := ∃ T, Own K M G H d v T
def SeenL (G H : Hp) : List D → List V → Prop
  | [], vs => vs = []
  | d :: ds, vs => ∃ v r, vs = v :: r ∧ Seen K M G H d v ∧ SeenL G H ds r
/-- an operand behind its reckoning -/
def OpR' (H0 : Hp) (g : Sg) (σ : L2.St) (H G : Hp) (S : Nat → Addr → Prop) (o : Op) (x : Option D) (v : V) : Prop := match o with
  | .nm i => σ[i]? = some (some v)
  | .ex _ => ∃ d T, x = some d ∧ Own K M G H d v T ∧ ∀ a, T a → ¬ Vl M G S a ∧ H0 a = none
def OpRs (H0 : Hp) (g : Sg) (σ : L2.St) (H G : Hp) (S : Nat → Addr → Prop) : List Op → List (Option D) → List V → Prop
  | [], xs, vs => xs = [] ∧ vs = []
  | o :: os, xs, vs => ∃ x xr v vr, xs = x :: xr ∧ vs = v :: vr ∧ OpR' K M H0 g σ H G S o x v ∧ OpRs H0 g σ H G S os xr vr
def EndO (W : WX) (σ : L2.St) (H G : Hp) (S : Nat → Addr → Prop) (o : Op) (r : Rs (Option D)) (Q : VK) : Prop := match r with
  | .bad => False
  | .ok x g' => ∀ v H' G' S', Mt K M g' σ H' G' S' → OpR' K M H g' σ H' G' S' o x v → Stp M H G S H' G' S' → Q v H'
  | .exc c d g' => EndX K M W σ H G S c d g'
def EndOs (W : WX) (σ : L2.St) (H G : Hp) (S : Nat → Addr → Prop) (os : List Op) (r : Rs (List (Option D))) (Q : List V → Hp → Prop) : Prop := match r with
  | .bad => False
  | .ok xs g' => ∀ vs H' G' S', Mt K M g' σ H' G' S' → OpRs K M H g' σ H' G' S' os xs vs → Stp M H G S H' G' S' → Q vs H'
  | .exc c d g' => EndX K M W σ H G S c d g'
def tO (W : WX) (o : Op) : TE := fun σ H Q => ∃ g G S, Mt K M g σ H G S ∧ EndO K M W σ H G S o (evO o g) Q
def tOs (W : WX) (os : List Op) : TA := fun σ H Q => ∃ g G S, Mt K M g σ H G S ∧ EndOs K M W σ H G S os (evOs os g) Q
end
section
variable {K : Frag} {M : Memo} {W : WX} {X : Cx} {σ : L2.St} {H H0 G H1 G1 : Hp} {S S1 : Nat → Addr → Prop} {g g1 : Sg} {Q : VK}
theorem Seen.of {d : D} {v : V} (r : Rep K G d v) : Seen K M G H d v := ⟨_, Own.of r⟩
theorem EndO.imp {o : Op} {r : Rs (Option D)} {Q Q' : VK} (h : EndO K M W σ H G S o r Q) (k : ∀ v H', Q v H' → Q' v H') : EndO K M W σ H G S o r Q' := by
  cases r with
  | bad => exact h
  | ok x g' => exact fun v H' G' S' m rr s => k _ _ (h v H' G' S' m rr s)
  | exc c d g' => exact h
theorem EndOs.imp {os : List Op} {r : Rs (List (Option D))} {Q Q' : List V → Hp → Prop} (h : EndOs K M W σ H G S os r Q) (k : ∀ v H', Q v H' → Q' v H') : EndOs K M W σ H G S os r Q' := by
  cases r with
  | bad => exact h
  | ok x g' => exact fun v H' G' S' m rr s => k _ _ (h v H' G' S' m rr s)
  | exc c d g' => exact h
theorem OpR'.base {o : Op} {x : Option D} {v : V} (h : OpR' K M H1 g σ H G S o x v) (b : ∀ a, H1 a = none → H0 a = none) : OpR' K M H0 g σ H G S o x v := by
  cases o with
  | nm i => exact h
  | ex m => obtain ⟨d, T, e, ow, ap⟩ := h; exact ⟨d, T, e, ow, fun a ha => ⟨(ap a ha).1, b a (ap a ha).2⟩⟩
theorem OpRs.base : ∀ {os : List Op} {xs : List (Option D)} {vs : List V}, OpRs K M H1 g σ H G S os xs vs → (∀ a, H1 a = none → H0 a = none) → OpRs K M H0 g σ H G S os xs vs
  | [], _, _, h, _ => h
  | o :: os, _, _, h, b => by
    obtain ⟨x, xr, v, vr, rfl, rfl, h1, h2⟩ := h
    exact ⟨x, xr, v, vr, rfl, rfl, h1.base b, h2.base b⟩
theorem EndO.of {o : Op} {r : Rs (Option D)} {Q : VK} (h : EndO K M W σ H G S o r Q) (st : Stp M H G S H1 G1 S1) : EndO K M W σ H1 G1 S1 o r Q := by
  cases r with
  | bad => exact h
  | ok x g' => exact fun v H' G' S' m rr s => h v H' G' S' m (rr.base fun a => st.back) (st.trans s)
  | exc c d g' => exact EndX.of h st
theorem EndOs.of {os : List Op} {r : Rs (List (Option D))} {Q : List V → Hp → Prop} (h : EndOs K M W σ H G S os r Q) (st : Stp M H G S H1 G1 S1) : EndOs K M W σ H1 G1 S1 os r Q := by
  cases r with
  | bad => exact h
  | ok x g' => exact fun v H' G' S' m rr s => h v H' G' S' m (rr.base fun a => st.back) (st.trans s)
  | exc c d g' => exact EndX.of h st
/-- from an operand's reckoning to what comes -/
theorem EndE.bindO {o : Op} {r : Rs (Option D)} {k : Option D → Sg → Rs D} {Q : VK} (h : EndE K M W σ H G S (r.bind k) Q) :
    EndO K M W σ H G S o r fun v H' => ∃ x g' G' S', r = .ok x g' ∧ Mt K M g' σ H' G' S' ∧ OpR' K M H g' σ H' G' S' o x v ∧ Stp M H G S H' G' S' ∧ EndE K M W σ H G S (k x g') Q := by
  cases r with
  | bad => exact h
  | ok x g' => exact fun v H' G' S' m rr s => ⟨x, g', G', S', rfl, m, rr, s, h⟩
  | exc c d g' => exact h
theorem EndOs.bindO {o : Op} {os : List Op} {r : Rs (Option D)} {k : Option D → Sg → Rs (List (Option D))} {Q : List V → Hp → Prop} (h : EndOs K M W σ H G S os (r.bind k) Q) :
    EndO K M W σ H G S o r fun v H' => ∃ x g' G' S', r = .ok x g' ∧ Mt K M g' σ H' G' S' ∧ OpR' K M H g' σ H' G' S' o x v ∧ Stp M H G S H' G' S' ∧ EndOs K M W σ H G S os (k x g') Q := by
  cases r with
  | bad => exact h
  | ok x g' => exact fun v H' G' S' m rr s => ⟨x, g', G', S', rfl, m, rr, s, h⟩
  | exc c d g' => exact h
theorem EndOs.bindOs {os os' : List Op} {r : Rs (List (Option D))} {k : List (Option D) → Sg → Rs (List (Option D))} {Q : List V → Hp → Prop} (h : EndOs K M W σ H G S os' (r.bind k) Q) :
    EndOs K M W σ H G S os r fun vs H' => ∃ xs g' G' S', r = .ok xs g' ∧ Mt K M g' σ H' G' S' ∧ OpRs K M H g' σ H' G' S' os xs vs ∧ Stp M H G S H' G' S' ∧ EndOs K M W σ H G S os' (k xs g') Q := by
  cases r with
  | bad => exact h
  | ok x g' => exact fun v H' G' S' m rr s => ⟨x, g', G', S', rfl, m, rr, s, h⟩
  | exc c d g' => exact h
theorem EndE.bindOs {os : List Op} {r : Rs (List (Option D))} {k : List (Option D) → Sg → Rs D} {Q : VK} (h : EndE K M W σ H G S (r.bind k) Q) :
    EndOs K M W σ H G S os r fun vs H' => ∃ xs g' G' S', r = .ok xs g' ∧ Mt K M g' σ H' G' S' ∧ OpRs K M H g' σ H' G' S' os xs vs ∧ Stp M H G S H' G' S' ∧ EndE K M W σ H G S (k xs g') Q := by
  cases r with
  | bad => exact h
  | ok x g' => exact fun v H' G' S' m rr s => ⟨x, g', G', S', rfl, m, rr, s, h⟩
  | exc c d g' => exact h
theorem pe_Onm {e : Expr} {i : Nat} (h : PE X e (tVar i)) : PE X e (tO K M W (.nm i)) := by
  refine PE.imp h fun σ H Q q => ?_
  obtain ⟨g, G, S, m, q⟩ := q
  unfold evO at q
  dsimp only at q
  split at q
  · rename_i d e
    obtain ⟨v, ev, _⟩ := m.own i d e
    exact ⟨v, ev, q v H G S m ev Stp.refl⟩
  · exact (show False from q).elim
theorem pe_Oex {e : Expr} {m : PX} (h : PE X e (tP K M W m)) : PE X e (tO K M W (.ex m)) := by
  refine PE.imp h fun σ H Q q => ?_
  obtain ⟨g, G, S, mt, q⟩ := q
  refine ⟨g, G, S, mt, ?_⟩
  unfold evO at q
  dsimp only at q
  cases er : m g with
  | bad => rw [er] at q; exact (show False from q).elim
  | ok d g' => rw [er] at q; exact fun v H' G' S' T ⟨m', ow, ap⟩ s => q v H' G' S' m' ⟨d, T, rfl, ow, ap⟩ s
  | exc c d g' => rw [er] at q; exact q
/-- an operand later on -/
theorem OpR'.stp {o : Op} {x : Option D} {v : V} (h : OpR' K M H0 g σ H G S o x v) (st : Stp M H G S H1 G1 S1) : OpR' K M H0 g1 σ H1 G1 S1 o x v := by
  cases o with
  | nm i => exact h
  | ex m =>
    obtain ⟨d, T, e, ow, ap⟩ := h
    refine ⟨d, T, e, ow.stp st fun a ha => (ap a ha).1, fun a ha => ⟨?_, (ap a ha).2⟩⟩
    obtain ⟨⟨o, ho⟩, _⟩ := ow.there ha
    exact st.apart ho (ap a ha).1
theorem OpR'.seen {o : Op} {x : Option D} {v : V} {d : D} (h : OpR' K M H0 g σ H G S o x v) (m : Mt K M g σ H G S) (e : rdO g o x = some d) : Seen K M G H d v := by
  cases o with
  | nm i =>
    have e1 : g[i]? = some (some d) := by
      unfold rdO at e
      dsimp only at e
      cases q : g[i]? with
      | none => rw [q] at e; cases e
      | some z => rw [q] at e; exact congrArg some e
    obtain ⟨v', ev, ow⟩ := m.own i d e1
    have h' : σ[i]? = some (some v) := h
    rw [h'] at ev; cases ev
    exact ⟨_, ow⟩
  | ex q =>
    obtain ⟨d', T, e', ow, _⟩ := h
    unfold rdO at e
    dsimp only at e
    rw [e'] at e; cases e
    exact ⟨T, ow⟩
theorem OpRs.seen : ∀ {os : List Op} {xs : List (Option D)} {vs : List V} {ds : List D}, OpRs K M H0 g σ H G S os xs vs → Mt K M g σ H G S → rdOs g os xs = some ds → SeenL K M G H ds vs
  | [], xs, vs, ds, h, m, e => by
    obtain ⟨_, rfl⟩ := h
    cases (show some ([] : List D) = some ds from e)
    rfl
  | o :: os, xs, vs, ds, h, m, e => by
    obtain ⟨x, xr, v, vr, rfl, rfl, h1, h2⟩ := h
    unfold rdOs at e
    cases e1 : rdO g o x with
    | none => rw [e1] at e; cases e
    | some d =>
      cases e2 : rdOs g os xr with
      | none => rw [e1, e2] at e; cases e
      | some dr =>
        rw [e1, e2] at e; cases e
        exact ⟨v, vr, rfl, h1.seen m e1, OpRs.seen h2 m e2⟩
theorem pa_O0 : PA X [] (tOs K M W []) := by
  refine PA.imp pa_nil fun σ H Q q => ?_
  obtain ⟨g, G, S, m, q⟩ := q
  exact (show EndOs K M W σ H G S [] (.ok [] g) Q from q) [] H G S m ⟨rfl, rfl⟩ Stp.refl
theorem pa_Oc {e : Expr} {es : List Expr} {o : Op} {os : List Op} (hp : PE X e (tO K M W o)) (hr : PA X es (tOs K M W os)) (hs : starEach (e :: es) X.env = (false, eval e X.env) :: starEach es X.env) : PA X (e :: es) (tOs K M W (o :: os)) := by
  refine PA.imp (pa_cons hp hr hs) fun σ H Q q => ?_
  obtain ⟨g, G, S, mt, q⟩ := q
  refine ⟨g, G, S, mt, EndO.imp (EndOs.bindO q) fun v H1 ⟨x, g1, G1, S1, er, m1, r1, st, q2⟩ => ?_⟩
  refine ⟨g1, G1, S1, m1, ?_⟩
  cases er2 : evOs os g1 with
  | bad => rw [er2] at q2; exact q2
  | exc c d g' => rw [er2] at q2; exact EndX.of q2 st
  | ok xs g2 =>
    rw [er2] at q2
    intro vs H2 G2 S2 m2 r2 st2
    exact (show EndOs K M W σ H G S (o :: os) (.ok (x :: xs) g2) Q from q2) (v :: vs) H2 G2 S2 m2 ⟨x, xs, v, vs, rfl, rfl, r1.stp st2, r2.base fun a => st.back⟩ (st.trans st2)
/-- what an operation on values asks -/
def rF (K : Frag) (M : Memo) (W : WX) (f : D → D → Sg → Rs D) : L2.St → R2 := fun σ x y H Q => ∃ g G S d e, Mt K M g σ H G S ∧ Seen K M G H d x ∧ Seen K M G H e y ∧ EndE K M W σ H G S (f d e g) Q
def rF1 (K : Frag) (M : Memo) (W : WX) (f : D → Sg → Rs D) : L2.St → V → Hp → VK → Prop := fun σ x H Q => ∃ g G S d, Mt K M g σ H G S ∧ Seen K M G H d x ∧ EndE K M W σ H G S (f d g) Q
def rFN (K : Frag) (M : Memo) (W : WX) (f : List D → Sg → Rs D) : L2.St → List V → Hp → VK → Prop := fun σ xs H Q => ∃ g G S ds, Mt K M g σ H G S ∧ SeenL K M G H ds xs ∧ EndE K M W σ H G S (f ds g) Q
theorem op1_t {f : D → Sg → Rs D} {a : Op} : tP K M W (pOp1 f a) σ H Q → tUn (rF1 K M W f σ) (tO K M W a) σ H Q := fun q => by
  obtain ⟨g, G, S, mt, q⟩ := q
  refine ⟨g, G, S, mt, ?_⟩
  unfold pOp1 at q
  cases er : evO a g with
  | bad => rw [er] at q; exact q
  | exc c d g' => rw [er] at q; exact q
  | ok x g1 =>
    rw [er] at q
    intro v H1 G1 S1 m1 r1 st
    have q := EndE.of q st
    rw [Rs.bind_ok] at q
    cases e1 : rdO g1 a x with
    | none => rw [e1] at q; exact q.elim
    | some d => rw [e1] at q; exact ⟨g1, G1, S1, d, m1, r1.seen m1 e1, q⟩
theorem op2_t {f : D → D → Sg → Rs D} {a b : Op} : tP K M W (pOp2 f a b) σ H Q → tOp (rF K M W f σ) (tO K M W a) (tO K M W b) σ H Q := fun q => by
  obtain ⟨g, G, S, mt, q⟩ := q
  refine ⟨g, G, S, mt, ?_⟩
  unfold pOp2 at q
  cases er : evO a g with
  | bad => rw [er] at q; exact q
  | exc c d g' => rw [er] at q; exact q
  | ok x g1 =>
    rw [er] at q
    intro v H1 G1 S1 m1 r1 st
    refine ⟨g1, G1, S1, m1, ?_⟩
    rw [Rs.bind_ok] at q
    cases er2 : evO b g1 with
    | bad => rw [er2] at q; exact q
    | exc c d g' => rw [er2] at q; exact EndX.of q st
    | ok y g2 =>
      rw [er2] at q
      intro u H2 G2 S2 m2 r2 st2
      have q := EndE.of q (st.trans st2)
      rw [Rs.bind_ok] at q
      cases e1 : rdO g2 a x with
      | none => rw [e1] at q; exact q.elim
      | some d =>
        cases e2 : rdO g2 b y with
        | none => rw [e1, e2] at q; exact q.elim
        | some e => rw [e1, e2] at q; exact ⟨g2, G2, S2, d, e, m2, (r1.stp st2).seen m2 e1, r2.seen m2 e2, q⟩
theorem opN_t {f : List D → Sg → Rs D} {os : List Op} : tP K M W (pOps f os) σ H Q → tCB (rFN K M W f σ) (tOs K M W os) σ H Q := fun q => by
  obtain ⟨g, G, S, mt, q⟩ := q
  refine ⟨g, G, S, mt, ?_⟩
  unfold pOps at q
  cases er : evOs os g with
  | bad => rw [er] at q; exact q
  | exc c d g' => rw [er] at q; exact q
  | ok x g1 =>
    rw [er] at q
    intro v H1 G1 S1 m1 r1 st
    have q := EndE.of q st
    rw [Rs.bind_ok] at q
    cases e1 : rdOs g1 os x with
    | none => rw [e1] at q; exact q.elim
    | some d => rw [e1] at q; exact ⟨g1, G1, S1, d, m1, r1.seen m1 e1, q⟩
end
end PI

set_option Elab.async false
set_option linter.all false
set_option maxRecDepth 100000
set_option maxHeartbeats 1000000
namespace PI
open PySem PySem.Spec PyProof.Rows L2
open PySem.W (Frag)
/-! ### operations with the slots in sight -/
abbrev RS := L2.St → R2
def OpS (X : Cx) (f : Value → Value → Sem Value) (r : RS) : Prop :=
  ∀ (pins : List (Addr × Obj)) (s : Shared) (σ : L2.St) (H : Hp) (x y : V) (v u : Value) (Q : VK), Inv X pins σ H s → RelV x v → RelV y u → r σ x y H Q → wpAny (model X.prog X.w) X.A (f v u) (EP X pins σ Q) X.xe s
def UnS (X : Cx) (f : Value → Sem Value) (r : L2.St → V → Hp → VK → Prop) : Prop :=
  ∀ (pins : List (Addr × Obj)) (s : Shared) (σ : L2.St) (H : Hp) (x : V) (v : Value) (Q : VK), Inv X pins σ H s → RelV x v → r σ x H Q → wpAny (model X.prog X.w) X.A (f v) (EP X pins σ Q) X.xe s
def CallS (X : Cx) (f : Value) (r : L2.St → List V → Hp → VK → Prop) : Prop :=
  ∀ (pins : List (Addr × Obj)) (s : Shared) (σ : L2.St) (H : Hp) (xs : List V) (us : List Value) (Q : VK), Inv X pins σ H s → Vals xs us → r σ xs H Q → wpAny (model X.prog X.w) X.A (call f us) (EP X pins σ Q) X.xe s
theorem OpR.s {X : Cx} {f : Value → Value → Sem Value} {r : R2} (h : OpR X f r) : OpS X f fun _ => r := h
def ro (o : Option D) (g : Sg) : Rs D := match o with
  | some d => .ok d g
  | none => .bad
section
variable {K : Frag} {M : Memo} {W : WX} {X : Cx} {σ : L2.St} {H H0 G H1 G1 : Hp} {S S1 : Nat → Addr → Prop} {g g1 : Sg} {Q : VK} {pos : Pos}
theorem pe_opS {op : Operator} {f : D → D → Sg → Rs D} {a b : Expr} {oa ob : Op} (ho : OpS X (binaryOp op) (rF K M W f)) (ha : PE X a (tO K M W oa)) (hb : PE X b (tO K M W ob)) : PE X (.BinOp a op b pos) (tP K M W (pOp2 f oa ob)) :=
  ⟨fun pins s σ H Q I q => wpAny_BinOp (binT (R := fun x y H2 => rF K M W f σ x y H2 Q) ha hb I (op2_t q) fun v u s2 x y H2 I2 rx ry q => ho pins s2 σ H2 x y v u Q I2 rx ry q)⟩
theorem pe_cmpS {op : CmpOp} {f : D → D → Sg → Rs D} {a b : Expr} {oa ob : Op} (ho : OpS X (compareOp op) (rF K M W f)) (ha : PE X a (tO K M W oa)) (hb : PE X b (tO K M W ob)) (hm : behindInMarks op b = false) : PE X (.Compare a [op] [b] pos) (tP K M W (pOp2 f oa ob)) :=
  ⟨fun pins s σ H Q I q => wpAny_Compare1 (binT (R := fun x y H2 => rF K M W f σ x y H2 Q) ha hb I (op2_t q) fun v u s2 x y H2 I2 rx ry q => ho pins s2 σ H2 x y v u Q I2 rx ry q) hm⟩
theorem pe_unS {op : UnaryOp} {f : D → Sg → Rs D} {a : Expr} {oa : Op} (ho : UnS X (unaryOp op) (rF1 K M W f)) (ha : PE X a (tO K M W oa)) : PE X (.UnaryOp op a pos) (tP K M W (pOp1 f oa)) :=
  ⟨fun pins s σ H Q I q => UnaryOp_ (thn (ha.run pins s σ H _ I (op1_t q)) fun v s1 ⟨x, H1, I1, r1, q1⟩ => ho pins s1 σ H1 x v Q I1 r1 q1)⟩
/-- a built-in called by its name -/
theorem pe_callBS {x : Str} {id : String} {f : List D → Sg → Rs D} {p : Pos} {e : Expr} {es : List Expr} {os : List Op} (hc : CallS X (.builtin id) (rFN K M W f)) (hg : Gl X x) (hm : X.mg x = none) (hv : bootBuiltins x = some (.builtin id))
    (ha : PA X (e :: es) (tOs K M W os)) (hn : x ≠ "__name__") (hdb : (x == ("__debug__" : Str)) = false) (he : starEach (e :: es) X.env = (false, eval e X.env) :: starEach es X.env) (hpl : (backTo pos (starEach es X.env)).any (·.1) = false) :
    PE X (.Call (.Name x p) (e :: es) [] pos) (tP K M W (pOps f os)) := by
  refine ⟨fun pins s σ H Q I q => ?_⟩
  exact wpAny_Call_Name_kw (ld_blt I hg hm hv (PyProof.Rows.callWith_builtin1 (thn (ha.run pos pins s σ H _ I (opN_t q)) fun ws s1 ⟨zs, H1, I1, r1, q1⟩ => hc pins s1 σ H1 zs ws Q I1 r1 q1) he hpl) hn hdb)
theorem pe_callTS {x : Str} {T : String} {f : List D → Sg → Rs D} {p : Pos} {e : Expr} {es : List Expr} {os : List Op} (hc : CallS X (.type T) (rFN K M W f)) (hg : Gl X x) (hm : X.mg x = none) (hv : bootBuiltins x = some (.type T))
    (ha : PA X (e :: es) (tOs K M W os)) (hn : x ≠ "__name__") (hdb : (x == ("__debug__" : Str)) = false) (he : starEach (e :: es) X.env = (false, eval e X.env) :: starEach es X.env) (hpl : (backTo pos (starEach es X.env)).any (·.1) = false) :
    PE X (.Call (.Name x p) (e :: es) [] pos) (tP K M W (pOps f os)) := by
  refine ⟨fun pins s σ H Q I q => ?_⟩
  exact wpAny_Call_Name_kw (ld_blt I hg hm hv (PyProof.Rows.callWith_type1 (thn (ha.run pos pins s σ H _ I (opN_t q)) fun ws s1 ⟨zs, H1, I1, r1, q1⟩ => hc pins s1 σ H1 zs ws Q I1 r1 q1) he hpl) hn hdb)
/-! ### what is looked at -/
theorem Seen.cases {d : D} {v : V} (h : Seen K M G H d v) : Rep K G d v ∨ ∃ a, v = .ref a ∧ OwnAt K M G H a d := by
  obtain ⟨T, ⟨r, _⟩ | ⟨a, e, _, _, o⟩⟩ := h
  · exact .inl r
  · exact .inr ⟨a, e, o⟩
theorem Seen.int {i : Int} {v : V} (h : Seen K M G H (.int i) v) : v = .int i := by
  rcases h.cases with r | ⟨a, _, o⟩
  · exact r
  · exact (show False from o).elim
theorem Seen.str {x : Str} {v : V} (h : Seen K M G H (.str x) v) : v = .str x := by
  rcases h.cases with r | ⟨a, _, o⟩
  · exact r
  · exact (show False from o).elim
theorem Seen.bl {b : Bool} {v : V} (h : Seen K M G H (.bl b) v) : v = .bl b := by
  rcases h.cases with r | ⟨a, _, o⟩
  · exact r
  · exact (show False from o).elim
theorem Seen.non {v : V} (h : Seen K M G H .non v) : v = .non := by
  rcases h.cases with r | ⟨a, _, o⟩
  · exact r
  · exact (show False from o).elim
theorem Seen.lst {b : Bool} {xs : List D} {v : V} (h : Seen K M G H (.lst b xs) v) (sb : Sub G H) : ∃ a vs, v = .ref a ∧ SqL K H a vs ∧ RepL K G xs vs := by
  rcases h.cases with r | ⟨a, rfl, o⟩
  · obtain ⟨_, a, vs, e, h1, h2⟩ := r
    exact ⟨a, vs, e, sb.sqL h1, h2⟩
  · obtain ⟨_, vs, h1, h2⟩ := o
    exact ⟨a, vs, rfl, SqL.of h1, h2⟩
theorem Seen.tup {xs : List D} {v : V} (h : Seen K M G H (.tup xs) v) (sb : Sub G H) : ∃ a vs, v = .ref a ∧ SqT K H a vs ∧ RepL K G xs vs := by
  rcases h.cases with r | ⟨a, _, o⟩
  · obtain ⟨a, vs, e, h1, h2⟩ := r
    exact ⟨a, vs, e, sb.sqT h1, h2⟩
  · exact (show False from o).elim
theorem Seen.dic {b : Bool} {ks : List Key} {ds : List D} {v : V} (h : Seen K M G H (.dic b ks ds) v) (sb : Sub G H) : ∃ a vs, v = .ref a ∧ H a = some (.dK (ks.zip vs)) ∧ ks.length = vs.length ∧ RepL K G ds vs := by
  rcases h.cases with r | ⟨a, rfl, o⟩
  · obtain ⟨_, a, vs, e, h1, h2⟩ := r
    exact ⟨a, vs, e, sb _ _ h1, h2⟩
  · obtain ⟨_, vs, h1, h2⟩ := o
    exact ⟨a, vs, rfl, h1, h2⟩
theorem Seen.obj {b : Bool} {c : Str} {ns : List Str} {ds : List D} {v : V} (h : Seen K M G H (.obj b c ns ds) v) (sb : Sub G H) : ∃ a dx vs, v = .ref a ∧ H a = some (.ins (He.ga K c) dx (ns.zip vs)) ∧ ns.length = vs.length ∧ RepL K G ds vs := by
  rcases h.cases with r | ⟨a, rfl, o⟩
  · obtain ⟨_, a, dx, vs, e, h1, h2⟩ := r
    exact ⟨a, dx, vs, e, sb _ _ h1, h2⟩
  · obtain ⟨_, _, dx, vs, h1, h2⟩ := o
    exact ⟨a, dx, vs, rfl, h1, h2⟩
/-! ### how an operation ends -/
theorem fin_sc {d : D} {v : V} (q : EndE K M W σ H G S (.ok d g) Q) (m : Mt K M g σ H G S) (r : Rep K G d v) : Q v H :=
  q v H G S none_ ⟨m, Own.of r, fun a z => z.elim⟩ Stp.refl
theorem fin_lst {ds : List D} {vs : List V} (q : EndE K M W σ H G S (.ok (.lst true ds) g) Q) (m : Mt K M g σ H G S) (r : RepL K G ds vs) (p : Addr) (hp : H p = none) : Q (.ref p) (upd H p (.lst vs)) :=
  q (.ref p) _ _ S (fun a => a = p) ⟨m.newOwn hp, .inr ⟨p, rfl, m.gnone hp, fun b => Iff.rfl, rfl, vs, upd_same, r⟩, fun a z => by cases z; exact ⟨m.snone hp, hp⟩⟩ (m.newOwnStp hp)
theorem fin_tup {ds : List D} {vs : List V} (q : EndE K M W σ H G S (.ok (.tup ds) g) Q) (m : Mt K M g σ H G S) (r : RepL K G ds vs) (p : Addr) (hp : H p = none) : Q (.ref p) (upd H p (.tup vs)) :=
  q (.ref p) _ _ S none_ ⟨m.new hp (M.tup vs), Own.of ⟨p, vs, rfl, SqT.of upd_same, RepL.mono (Sub.new (m.gnone hp)) _ _ r⟩, fun a z => z.elim⟩ (m.newStp hp (M.tup vs))
end
/-! ### arithmetic and its like -/
def lim : Nat := 1000000
theorem lim_ok {n : Nat} (h : n ≤ lim) : n ≤ sizeLine := by rw [sizeLine_eq]; unfold lim at h; omega
def mulOk (i j : Int) : Bool := decide ((-(2 ^ 64) < i ∧ i < 2 ^ 64) ∨ (-(2 ^ 64) < j ∧ j < 2 ^ 64)) || decide (i.natAbs.log2 + j.natAbs.log2 < 1000000)
def powOk (i j : Int) : Bool := decide (0 ≤ j) && (decide (j ≤ 1000000 ∧ i.natAbs < 2 ^ 64) || decide ((Builtin.Int.intBits i : Int) * j ≤ 2 ^ 27))
def addD : D → D → Option D
  | .int i, .int j => some (.int (i + j))
  | .str x, .str y => if x.length + y.length ≤ lim then some (.str (x ++ y)) else none
  | .lst _ xs, .lst _ ys => if xs.length + ys.length ≤ lim then some (.lst true (xs ++ ys)) else none
  | .tup xs, .tup ys => if xs.length + ys.length ≤ lim then some (.tup (xs ++ ys)) else none
  | _, _ => none
def subD : D → D → Option D
  | .int i, .int j => some (.int (i - j))
  | _, _ => none
def mulD : D → D → Option D
  | .int i, .int j => if mulOk i j then some (.int (i * j)) else none
  | .str x, .int n => if 0 ≤ n ∧ n ≤ 1000 ∧ x.length ≤ 1000 then some (.str ⟨((List.replicate n.toNat x.cps.toList).flatten).toArray⟩) else none
  | .lst true xs, .int n => if 0 ≤ n ∧ n ≤ 1000 ∧ xs.length ≤ 1000 then some (.lst true (List.replicate n.toNat xs).flatten) else none
  | _, _ => none
def fdivD : D → D → Option D
  | .int i, .int j => if 0 < j ∧ j.natAbs.log2 < 9000 then some (.int (i / j)) else none
  | _, _ => none
def modD : D → D → Option D
  | .int i, .int j => if 0 < j then some (.int (i % j)) else none
  | _, _ => none
def powD : D → D → Option D
  | .int i, .int j => if powOk i j then some (.int (i ^ j.toNat)) else none
  | _, _ => none
def binD : Operator → D → D → Option D
  | .Add => addD
  | .Sub => subD
  | .Mult => mulD
  | .FloorDiv => fdivD
  | .Mod => modD
  | .Pow => powD
  | _ => fun _ _ => none
end PI

set_option Elab.async false
set_option linter.all false
set_option maxRecDepth 100000
set_option maxHeartbeats 1000000
namespace PI
open PySem PySem.Spec PyProof.Rows L2
open PySem.W (Frag)
section
variable {K : Frag} {M : Memo} {W : WX} {X : Cx} {σ : L2.St} {H G : Hp} {S : Nat → Addr → Prop} {g : Sg} {Q : VK}
theorem foldl_app (x : Array Nat) : ∀ (n : Nat) (acc : Array Nat), (List.replicate n x).foldl (· ++ ·) acc = acc ++ ((List.replicate n x.toList).flatten).toArray
  | 0, acc => by simp
  | n + 1, acc => by
    rw [List.replicate_succ, List.foldl_cons, foldl_app x n, List.replicate_succ, List.flatten_cons]
    apply Array.ext'
    simp
theorem flat_len {α : Type} (l : List α) : ∀ n : Nat, ((List.replicate n l).flatten).length = n * l.length
  | 0 => by simp
  | n + 1 => by rw [List.replicate_succ, List.flatten_cons, List.length_append, flat_len l n, Nat.succ_mul, Nat.add_comm]
theorem Seen.tupR {xs : List D} {v : V} (h : Seen K M G H (.tup xs) v) : Rep K G (.tup xs) v := by
  rcases h.cases with r | ⟨a, _, o⟩
  · exact r
  · exact (show False from o).elim
theorem RepL.rep {ds : List D} {vs : List V} (h : RepL K G ds vs) : ∀ n, RepL K G (List.replicate n ds).flatten (List.replicate n vs).flatten
  | 0 => rfl
  | n + 1 => by
    rw [List.replicate_succ, List.replicate_succ, List.flatten_cons, List.flatten_cons]
    exact h.append (RepL.rep h n)
theorem add_ok : OpS X (binaryOp .Add) (rF X.K M W fun d e g => ro (addD d e) g) := by
  rintro pins s σ H x y v u Q I rx ry ⟨g, G, S, d, e, m, sd, se, q⟩
  dsimp only at q
  unfold addD at q
  split at q
  · rename_i i j
    cases sd.int; cases se.int
    exact op_add pins s σ H _ _ v u Q I rx ry ⟨i, j, rfl, rfl, fin_sc q m rfl⟩
  · rename_i i j
    cases sd.str; cases se.str
    split at q
    · rename_i hl
      exact op_add_str pins s σ H _ _ v u Q I rx ry ⟨i, j, rfl, rfl, lim_ok hl, fin_sc q m rfl⟩
    · exact (show False from q).elim
  · rename_i b1 xs b2 ys
    obtain ⟨a, vs, rfl, h1, r1⟩ := sd.lst m.sub
    obtain ⟨b, us, rfl, h2, r2⟩ := se.lst m.sub
    split at q
    · rename_i hl
      cases rx; cases ry
      obtain ⟨its, rv, p1, z1⟩ := I.list h1
      obtain ⟨its2, rv2, p2, z2⟩ := I.list h2
      have l1 := rv.length
      have l2 := rv2.length
      have l3 := r1.len
      have l4 := r2.len
      have hz := lim_ok hl
      obtain ⟨⟨ca, da, ta, sa⟩, e1, c1, n1, t1⟩ := p1.isList
      obtain ⟨⟨cb, db, tb, sb⟩, e2, c2, n2, t2⟩ := p2.isList
      simp only at c1 c2 t1 t2
      subst c1 c2 t1 t2
      refine concat_meets ⟨_, e1, rfl⟩ ⟨_, e2, rfl⟩ noFill_list_add seq_list_add PySem.F.slot_list_add PySem.F.entry_list_add (PySem.F.args_list_add_2 _ _)
        (list_addW a b its.toArray its2.toArray n1 n2 da db sa sb (by rw [List.size_toArray, List.size_toArray, ← l1, ← l2, ← l3, ← l4]; exact hz)) ⟨e1, e2, ?_⟩
      rw [show its.toArray ++ its2.toArray = (its ++ its2).toArray by simp]
      have hn : H s.heap.objs.size = none := I.hok.fresh (Nat.le_refl _)
      refine ⟨.ref s.heap.objs.size, upd H s.heap.objs.size (.lst (vs ++ us)), I.laid (t' := s.toks) (fun c o z => Heap.get?_push_of_some _ z) (Nat.le_refl _) ?_, rfl, fin_lst q m (r1.append r2) _ hn⟩
      exact ⟨by rw [List.length_append, ← l3, ← l4]; exact hz, its ++ its2, _, rv.append rv2, Heap.get?_push_size _ rfl⟩
    · exact (show False from q).elim
  · rename_i xs ys
    have r1 := sd.tupR
    have r2 := se.tupR
    obtain ⟨a, vs, rfl, h1, q1⟩ := sd.tup m.sub
    obtain ⟨b, us, rfl, h2, q2⟩ := se.tup m.sub
    split at q
    · rename_i hl
      have l3 := q1.len
      have l4 := q2.len
      refine op_catA pins s σ H _ _ v u Q I rx ry ⟨a, b, vs, us, rfl, rfl, h1, h2, by rw [← l3, ← l4]; exact lim_ok hl, fun z => ?_, fun z0 z => ?_, fun z0 z p hp => fin_tup q m (q1.append q2) p hp⟩
      · subst z
        cases xs with
        | nil => exact fin_sc q m r2
        | cons x xr => cases l3
      · subst z
        cases ys with
        | nil => exact fin_sc q m (by rw [List.append_nil]; exact r1)
        | cons x xr => cases l4
    · exact (show False from q).elim
  · exact (show False from q).elim
theorem sub_ok : OpS X (binaryOp .Sub) (rF X.K M W fun d e g => ro (subD d e) g) := by
  rintro pins s σ H x y v u Q I rx ry ⟨g, G, S, d, e, m, sd, se, q⟩
  dsimp only at q
  unfold subD at q
  split at q
  · rename_i i j
    cases sd.int; cases se.int
    exact op_sub pins s σ H _ _ v u Q I rx ry ⟨i, j, rfl, rfl, fin_sc q m rfl⟩
  · exact (show False from q).elim
theorem mul_ok : OpS X (binaryOp .Mult) (rF X.K M W fun d e g => ro (mulD d e) g) := by
  rintro pins s σ H x y v u Q I rx ry ⟨g, G, S, d, e, m, sd, se, q⟩
  dsimp only at q
  unfold mulD at q
  split at q
  · rename_i i j
    cases sd.int; cases se.int
    split at q
    · rename_i hc
      unfold mulOk at hc
      rcases Bool.or_eq_true_iff.mp hc with h | h
      · exact op_mul pins s σ H _ _ v u Q I rx ry ⟨i, j, rfl, rfl, (by have h' := of_decide_eq_true h; exact h'), fin_sc q m rfl⟩
      · exact op_mulW pins s σ H _ _ v u Q I rx ry ⟨i, j, rfl, rfl, (by have h' := of_decide_eq_true h; exact h'), fin_sc q m rfl⟩
    · exact (show False from q).elim
  · rename_i z n
    cases sd.str; cases se.int
    split at q
    · rename_i hc
      obtain ⟨h0, h1, h2⟩ := hc
      obtain ⟨t, rfl⟩ := rx
      obtain ⟨t', rfl⟩ := ry
      have hm : z.length * n.toNat ≤ 1000000 := by
        have : n.toNat ≤ 1000 := by omega
        calc z.length * n.toNat ≤ 1000 * 1000 := Nat.mul_le_mul h2 this
          _ ≤ 1000000 := by decide
      have hl : sizeLine = 16777216 := sizeLine_eq
      refine PySem.P.mul_str (by rw [decide_eq_false (by omega), decide_eq_false (by omega)] <;> rfl) (fun a1 a2 => ?_) (fun a1 a2 => ?_) ?_
      · have hp : (0 : Int) < n := by omega
        have : ((2 : Int) ^ 63 - 1) / n ≥ ((2 : Int) ^ 63 - 1) / 1000 := by
          apply Int.le_ediv_of_mul_le hp
          have e : ((2 : Int) ^ 63 - 1) / 1000 = 9223372036854775 := by decide
          rw [e]
          have : (9223372036854775 : Int) * n ≤ 9223372036854775 * 1000 := Int.mul_le_mul_of_nonneg_left h1 (by decide)
          omega
        have e : ((2 : Int) ^ 63 - 1) / 1000 = 9223372036854775 := by decide
        omega
      · unfold PySem.Builtin.Str.tooLong
        exact decide_eq_false (by omega)
      · have key : Q (.str ⟨((List.replicate n.toNat z.cps.toList).flatten).toArray⟩) H := fin_sc q m rfl
        by_cases c1 : n < 1
        · rw [if_pos c1]
          have e0 : n.toNat = 0 := by omega
          rw [e0] at key
          exact ⟨by decide, .str Str.empty, H, I.tok _, ⟨_, rfl⟩, key⟩
        · rw [if_neg c1]
          by_cases c2 : (n == 1 || z.length == 0) = true
          · rw [if_pos c2]
            have e0 : (⟨((List.replicate n.toNat z.cps.toList).flatten).toArray⟩ : Str) = z := by
              rcases Bool.or_eq_true_iff.mp c2 with c | c
              · have : n = 1 := eq_of_beq c
                subst this
                simp
              · have : z.length = 0 := eq_of_beq c
                have hz : z.cps = #[] := Array.eq_empty_of_size_eq_zero this
                obtain ⟨zc⟩ := z
                simp only at hz
                subst hz
                simp
            rw [e0] at key
            exact ⟨.str z, H, I, ⟨_, rfl⟩, key⟩
          · rw [if_neg c2, foldl_app]
            simp only [Array.empty_append]
            refine ⟨?_, .str _, H, I.tok _, ⟨_, rfl⟩, key⟩
            show (List.replicate n.toNat z.cps.toList).flatten.toArray.size ≤ sizeLine
            rw [List.size_toArray, flat_len, hl, Array.length_toList, Nat.mul_comm]
            show z.length * n.toNat ≤ _
            omega
    · exact (show False from q).elim
  · rename_i xs n
    cases se.int
    split at q
    · rename_i hc
      obtain ⟨h0, h1, h2⟩ := hc
      have hm : xs.length * n.toNat ≤ 1000000 := by
        have : n.toNat ≤ 1000 := by omega
        calc xs.length * n.toNat ≤ 1000 * 1000 := Nat.mul_le_mul h2 this
          _ ≤ 1000000 := by decide
      rcases sd.cases with r | ⟨a, rfl, o⟩
      · cases r.1
      · obtain ⟨_, vs, ha, r1⟩ := o
        exact op_rep pins s σ H _ _ v u Q I rx ry ⟨a, n, vs, rfl, rfl, ha, by omega, by omega, by rw [← r1.len, sizeLine_eq]; omega, fun p hp => fin_lst q m (r1.rep _) p hp⟩
    · exact (show False from q).elim
  · exact (show False from q).elim
theorem fdiv_ok : OpS X (binaryOp .FloorDiv) (rF X.K M W fun d e g => ro (fdivD d e) g) := by
  rintro pins s σ H x y v u Q I rx ry ⟨g, G, S, d, e, m, sd, se, q⟩
  dsimp only at q
  unfold fdivD at q
  split at q
  · rename_i i j
    cases sd.int; cases se.int
    split at q
    · rename_i hc
      exact op_fdivW pins s σ H _ _ v u Q I rx ry ⟨i, j, rfl, rfl, hc, fin_sc q m rfl⟩
    · exact (show False from q).elim
  · exact (show False from q).elim
theorem mod_ok : OpS X (binaryOp .Mod) (rF X.K M W fun d e g => ro (modD d e) g) := by
  rintro pins s σ H x y v u Q I rx ry ⟨g, G, S, d, e, m, sd, se, q⟩
  dsimp only at q
  unfold modD at q
  split at q
  · rename_i i j
    cases sd.int; cases se.int
    split at q
    · rename_i hc
      exact op_mod pins s σ H _ _ v u Q I rx ry ⟨i, j, rfl, rfl, hc, fin_sc q m rfl⟩
    · exact (show False from q).elim
  · exact (show False from q).elim
theorem pow_ok : OpS X (binaryOp .Pow) (rF X.K M W fun d e g => ro (powD d e) g) := by
  rintro pins s σ H x y v u Q I rx ry ⟨g, G, S, d, e, m, sd, se, q⟩
  dsimp only at q
  unfold powD at q
  split at q
  · rename_i i j
    cases sd.int; cases se.int
    split at q
    · rename_i hc
      unfold powOk at hc
      obtain ⟨h0, hc⟩ := Bool.and_eq_true_iff.mp hc
      have h0 := of_decide_eq_true h0
      rcases Bool.or_eq_true_iff.mp hc with h | h
      · have h := of_decide_eq_true h
        exact op_pow pins s σ H _ _ v u Q I rx ry ⟨i, j, rfl, rfl, ⟨h0, h.1, h.2⟩, fin_sc q m rfl⟩
      · obtain ⟨t, rfl⟩ := rx
        obtain ⟨t', rfl⟩ := ry
        exact PyProof.Rows.pow_int h0 (of_decide_eq_true h) ⟨.int _, H, I.tok _, ⟨_, rfl⟩, fin_sc q m rfl⟩
    · exact (show False from q).elim
  · exact (show False from q).elim
theorem bin_ok : ∀ op, OpS X (binaryOp op) (rF X.K M W fun d e g => ro (binD op d e) g)
  | .Add => add_ok
  | .Sub => sub_ok
  | .Mult => mul_ok
  | .FloorDiv => fdiv_ok
  | .Mod => mod_ok
  | .Pow => pow_ok
  | .MatMult => fun _ _ _ _ _ _ _ _ _ _ _ _ ⟨_, _, _, _, _, _, _, _, q⟩ => (show False from q).elim
  | .Div => fun _ _ _ _ _ _ _ _ _ _ _ _ ⟨_, _, _, _, _, _, _, _, q⟩ => (show False from q).elim
  | .LShift => fun _ _ _ _ _ _ _ _ _ _ _ _ ⟨_, _, _, _, _, _, _, _, q⟩ => (show False from q).elim
  | .RShift => fun _ _ _ _ _ _ _ _ _ _ _ _ ⟨_, _, _, _, _, _, _, _, q⟩ => (show False from q).elim
  | .BitOr => fun _ _ _ _ _ _ _ _ _ _ _ _ ⟨_, _, _, _, _, _, _, _, q⟩ => (show False from q).elim
  | .BitXor => fun _ _ _ _ _ _ _ _ _ _ _ _ ⟨_, _, _, _, _, _, _, _, q⟩ => (show False from q).elim
  | .BitAnd => fun _ _ _ _ _ _ _ _ _ _ _ _ ⟨_, _, _, _, _, _, _, _, q⟩ => (show False from q).elim
end
end PI

set_option Elab.async false
set_option linter.all false
set_option maxRecDepth 100000
set_option maxHeartbeats 1000000
namespace PI
open PySem PySem.Spec PyProof.Rows L2
open PySem.W (Frag)
/-! ### plain data -/
mutual
def pyOf : D → Option PyData
  | .non => some .none
  | .bl b => some (.bool b)
  | .int i => some (.int i)
  | .str x => some (.str x)
  | .lst _ xs => (pyAll xs).map .list
  | .tup xs => (pyAll xs).map .tuple
  | .dic .. => none
  | .obj .. => none
def pyAll : List D → Option (List PyData)
  | [] => some []
  | d :: ds => (match pyOf d, pyAll ds with
    | some p, some ps => some (p :: ps)
    | _, _ => none)
end
section
variable {K : Frag} {M : Memo} {W : WX} {X : Cx} {σ : L2.St} {H G : Hp} {S : Nat → Addr → Prop} {g : Sg} {Q : VK}
mutual
theorem Rep.dp (sb : Sub G H) : ∀ (d : D) (v : V) (p : PyData), Rep K G d v → pyOf d = some p → Dp K H v p
  | .non, v, p, r, e => by cases (show v = .non from r); cases e; exact .non
  | .bl b, v, p, r, e => by cases (show v = .bl b from r); cases e; exact .bl b
  | .int i, v, p, r, e => by cases (show v = .int i from r); cases e; exact .int i
  | .str x, v, p, r, e => by cases (show v = .str x from r); cases e; exact .str x
  | .lst b xs, v, p, r, e => by
    obtain ⟨_, a, vs, rfl, h1, h2⟩ := r
    unfold pyOf at e
    cases q : pyAll xs with
    | none => rw [q] at e; cases e
    | some ps => rw [q] at e; cases e; exact .lst (sb.sqL h1) (RepL.dp sb xs vs ps h2 q)
  | .tup xs, v, p, r, e => by
    obtain ⟨a, vs, rfl, h1, h2⟩ := r
    unfold pyOf at e
    cases q : pyAll xs with
    | none => rw [q] at e; cases e
    | some ps => rw [q] at e; cases e; exact .tup (sb.sqT h1) (RepL.dp sb xs vs ps h2 q)
  | .dic .., v, p, r, e => by unfold pyOf at e; cases e
  | .obj .., v, p, r, e => by unfold pyOf at e; cases e
theorem RepL.dp (sb : Sub G H) : ∀ (ds : List D) (vs : List V) (ps : List PyData), RepL K G ds vs → pyAll ds = some ps → DpAll K H vs ps
  | [], vs, ps, r, e => by
    cases (show vs = [] from r)
    unfold pyAll at e
    cases e; exact .nil
  | d :: ds, vs, ps, r, e => by
    obtain ⟨v, vr, rfl, h1, h2⟩ := r
    unfold pyAll at e
    cases q1 : pyOf d with
    | none => rw [q1] at e; cases e
    | some p =>
      cases q2 : pyAll ds with
      | none => rw [q1, q2] at e; cases e
      | some pr => rw [q1, q2] at e; cases e; exact .cons (Rep.dp sb d v p h1 q1) (RepL.dp sb ds vr pr h2 q2)
end
theorem Seen.dp {d : D} {v : V} {p : PyData} (h : Seen K M G H d v) (sb : Sub G H) (e : pyOf d = some p) : Dp K H v p := by
  rcases h.cases with r | ⟨a, rfl, o⟩
  · exact r.dp sb d v p e
  · cases d with
    | lst b xs =>
      obtain ⟨_, vs, h1, h2⟩ := o
      unfold pyOf at e
      cases q : pyAll xs with
      | none => rw [q] at e; cases e
      | some ps => rw [q] at e; cases e; exact .lst (SqL.of h1) (RepL.dp sb xs vs ps h2 q)
    | dic b ks ds => unfold pyOf at e; cases e
    | obj b c ns ds => unfold pyOf at e; cases e
    | _ => exact (show False from o).elim
end
/-- == of plain data -/
def eqP (d e : D) : Option Bool := match pyOf d, pyOf e with
  | some p, some q => if SeqAt.shaped p = true ∧ SeqAt.shaped q = true then some (PyData.eqv p q) else none
  | _, _ => none
def flatD : D → Bool
  | .non | .bl _ | .int _ | .str _ => true
  | _ => false
def eqF : D → D → Bool
  | .non, .non => true
  | .bl a, .bl b => a == b
  | .bl a, .int b => (if a then 1 else 0) == b
  | .int a, .bl b => a == (if b then 1 else 0)
  | .int a, .int b => a == b
  | .str a, .str b => a == b
  | _, _ => false
def keyOf : D → Option Key
  | .int i => some (.inl i)
  | .str x => some (.inr x)
  | _ => none
/-- x in y -/
def inD : D → D → Option Bool
  | .str x, .str y => some (match x.cps.toList with
    | [c] => decide (c ∈ y.cps.toList)
    | _ => !(Builtin.Str.occurrences y x 0 y.length 1).isEmpty)
  | d, .lst _ xs => if flatD d && xs.all flatD then some (xs.any fun y => eqF y d) else none
  | d, .tup xs => if flatD d && xs.all flatD then some (xs.any fun y => eqF y d) else none
  | d, .dic _ ks _ => (keyOf d).map fun k => ks.any fun j => decide (j = k)
  | _, _ => none
def ltS (x y : Str) : Bool := decide (x.cps.toList < y.cps.toList)
def cmpD (op : CmpOp) (d e : D) : Option Bool := match op with
  | .Lt => (match d, e with
    | .int i, .int j => some (decide (i < j))
    | .str x, .str y => some (ltS x y)
    | _, _ => none)
  | .LtE => (match d, e with
    | .int i, .int j => some (decide (i ≤ j))
    | .str x, .str y => some (!ltS y x)
    | _, _ => none)
  | .Gt => (match d, e with
    | .int i, .int j => some (decide (j < i))
    | .str x, .str y => some (ltS y x)
    | _, _ => none)
  | .GtE => (match d, e with
    | .int i, .int j => some (decide (j ≤ i))
    | .str x, .str y => some (!ltS x y)
    | _, _ => none)
  | .Eq => eqP d e
  | .NotEq => (eqP d e).map (!·)
  | .In => inD d e
  | .NotIn => (inD d e).map (!·)
  | .Is => (match e with
    | .non => some (match d with
      | .non => true
      | _ => false)
    | _ => none)
  | .IsNot => (match e with
    | .non => some (match d with
      | .non => false
      | _ => true)
    | _ => none)
def rb (o : Option Bool) (g : Sg) : Rs D := match o with
  | some b => .ok (.bl b) g
  | none => .bad
section
variable {M : Memo} {W : WX} {X : Cx} {K : Frag} {σ : L2.St} {H G : Hp} {S : Nat → Addr → Prop} {g : Sg} {Q : VK}
theorem fin_b {o : Option Bool} {b : Bool} (q : EndE K M W σ H G S (rb o g) Q) (e : o = some b) (m : Mt K M g σ H G S) : Q (.bl b) H := by
  subst e
  exact fin_sc q m rfl
theorem fin_no (q : EndE K M W σ H G S (rb none g) Q) : False := q
theorem eqV_F {d e : D} {x y : V} (hd : flatD d = true) (he : flatD e = true) (rd : Rep K G d x) (re : Rep K G e y) : eqV x y = eqF d e ∧ flatV x = true ∧ flatV y = true := by
  cases d <;> first | cases hd | skip
  all_goals (cases e <;> first | cases he | skip)
  all_goals (cases rd; cases re; exact ⟨rfl, rfl, rfl⟩)
theorem flat_rep {d : D} {x : V} (hd : flatD d = true) (h : Seen K M G H d x) : Rep K G d x := by
  cases d <;> first | cases hd | skip
  · exact h.non
  · exact h.bl
  · exact h.int
  · exact h.str
theorem inV_F {d : D} {x : V} (hd : flatD d = true) (rd : Rep K G d x) : ∀ {ds : List D} {vs : List V}, ds.all flatD = true → RepL K G ds vs → inV x vs = (ds.any fun y => eqF y d) ∧ vs.all flatV = true
  | [], vs, _, r => by cases (show vs = [] from r); exact ⟨rfl, rfl⟩
  | e :: ds, vs, ha, r => by
    obtain ⟨v, vr, rfl, h1, h2⟩ := r
    rw [List.all_cons, Bool.and_eq_true] at ha
    obtain ⟨i1, i2⟩ := inV_F hd rd ha.2 h2
    obtain ⟨e1, e2, _⟩ := eqV_F ha.1 hd h1 rd
    refine ⟨?_, by rw [List.all_cons, e2, i2] <;> rfl⟩
    unfold inV at i1 ⊢
    rw [List.any_cons, List.any_cons, e1, i1]
theorem lt_ok : OpS X (compareOp .Lt) (rF X.K M W fun d e g => rb (cmpD .Lt d e) g) := by
  rintro pins s σ H x y v u Q I rx ry ⟨g, G, S, d, e, m, sd, se, q⟩
  dsimp only [cmpD] at q
  split at q
  · rename_i i j
    cases sd.int; cases se.int
    exact op_lt pins s σ H _ _ v u Q I rx ry ⟨i, j, rfl, rfl, fin_b q rfl m⟩
  · rename_i i j
    cases sd.str; cases se.str
    exact op_lt_str pins s σ H _ _ v u Q I rx ry ⟨i, j, rfl, rfl, fin_b q rfl m⟩
  · exact (fin_no q).elim
theorem le_ok : OpS X (compareOp .LtE) (rF X.K M W fun d e g => rb (cmpD .LtE d e) g) := by
  rintro pins s σ H x y v u Q I rx ry ⟨g, G, S, d, e, m, sd, se, q⟩
  dsimp only [cmpD] at q
  split at q
  · rename_i i j
    cases sd.int; cases se.int
    exact op_le pins s σ H _ _ v u Q I rx ry ⟨i, j, rfl, rfl, fin_b q rfl m⟩
  · rename_i i j
    cases sd.str; cases se.str
    exact op_le_str pins s σ H _ _ v u Q I rx ry ⟨i, j, rfl, rfl, fin_b q rfl m⟩
  · exact (fin_no q).elim
theorem gt_ok : OpS X (compareOp .Gt) (rF X.K M W fun d e g => rb (cmpD .Gt d e) g) := by
  rintro pins s σ H x y v u Q I rx ry ⟨g, G, S, d, e, m, sd, se, q⟩
  dsimp only [cmpD] at q
  split at q
  · rename_i i j
    cases sd.int; cases se.int
    exact op_gt pins s σ H _ _ v u Q I rx ry ⟨i, j, rfl, rfl, fin_b q rfl m⟩
  · rename_i i j
    cases sd.str; cases se.str
    exact op_gt_str pins s σ H _ _ v u Q I rx ry ⟨i, j, rfl, rfl, fin_b q rfl m⟩
  · exact (fin_no q).elim
theorem ge_ok : OpS X (compareOp .GtE) (rF X.K M W fun d e g => rb (cmpD .GtE d e) g) := by
  rintro pins s σ H x y v u Q I rx ry ⟨g, G, S, d, e, m, sd, se, q⟩
  dsimp only [cmpD] at q
  split at q
  · rename_i i j
    cases sd.int; cases se.int
    exact op_ge pins s σ H _ _ v u Q I rx ry ⟨i, j, rfl, rfl, fin_b q rfl m⟩
  · rename_i i j
    cases sd.str; cases se.str
    exact op_ge_str pins s σ H _ _ v u Q I rx ry ⟨i, j, rfl, rfl, fin_b q rfl m⟩
  · exact (fin_no q).elim
theorem eq_ok (hu : X.A.units + 64 < cLine) : OpS X (compareOp .Eq) (rF X.K M W fun d e g => rb (cmpD .Eq d e) g) := by
  rintro pins s σ H x y v u Q I rx ry ⟨g, G, S, d, e, m, sd, se, q⟩
  dsimp only [cmpD] at q
  unfold eqP at q
  split at q
  · rename_i p p' e1 e2
    split at q
    · rename_i hs
      exact op_eqD hu pins s σ H _ _ v u Q I rx ry ⟨p, p', sd.dp m.sub e1, se.dp m.sub e2, hs.1, hs.2, fin_b q rfl m⟩
    · exact (fin_no q).elim
  · exact (fin_no q).elim
theorem ne_ok (hu : X.A.units + 64 < cLine) : OpS X (compareOp .NotEq) (rF X.K M W fun d e g => rb (cmpD .NotEq d e) g) := by
  rintro pins s σ H x y v u Q I rx ry ⟨g, G, S, d, e, m, sd, se, q⟩
  dsimp only [cmpD] at q
  unfold eqP at q
  split at q
  · rename_i p p' e1 e2
    split at q
    · rename_i hs
      exact op_neD hu pins s σ H _ _ v u Q I rx ry ⟨p, p', sd.dp m.sub e1, se.dp m.sub e2, hs.1, hs.2, fin_b q rfl m⟩
    · exact (fin_no q).elim
  · exact (fin_no q).elim
theorem is_ok : OpS X (compareOp .Is) (rF X.K M W fun d e g => rb (cmpD .Is d e) g) := by
  rintro pins s σ H x y v u Q I rx ry ⟨g, G, S, d, e, m, sd, se, q⟩
  dsimp only [cmpD] at q
  split at q
  · cases se.non
    refine op_isN pins s σ H _ _ v u Q I rx ry ⟨rfl, ?_⟩
    have key := fin_b q rfl m
    cases d with
    | non => cases sd.non; exact key
    | bl b => cases sd.bl; exact key
    | int i => cases sd.int; exact key
    | str z => cases sd.str; exact key
    | lst b xs => obtain ⟨a, vs, rfl, _⟩ := sd.lst m.sub; exact key
    | tup xs => obtain ⟨a, vs, rfl, _⟩ := sd.tup m.sub; exact key
    | dic b ks ds => obtain ⟨a, vs, rfl, _⟩ := sd.dic m.sub; exact key
    | obj b c ns ds => obtain ⟨a, dx, vs, rfl, _⟩ := sd.obj m.sub; exact key
  · exact (fin_no q).elim
theorem isnot_ok : OpS X (compareOp .IsNot) (rF X.K M W fun d e g => rb (cmpD .IsNot d e) g) := by
  rintro pins s σ H x y v u Q I rx ry ⟨g, G, S, d, e, m, sd, se, q⟩
  dsimp only [cmpD] at q
  split at q
  · cases se.non
    refine op_notN pins s σ H _ _ v u Q I rx ry ⟨rfl, ?_⟩
    have key := fin_b q rfl m
    cases d with
    | non => cases sd.non; exact key
    | bl b => cases sd.bl; exact key
    | int i => cases sd.int; exact key
    | str z => cases sd.str; exact key
    | lst b xs => obtain ⟨a, vs, rfl, _⟩ := sd.lst m.sub; exact key
    | tup xs => obtain ⟨a, vs, rfl, _⟩ := sd.tup m.sub; exact key
    | dic b ks ds => obtain ⟨a, vs, rfl, _⟩ := sd.dic m.sub; exact key
    | obj b c ns ds => obtain ⟨a, dx, vs, rfl, _⟩ := sd.obj m.sub; exact key
  · exact (fin_no q).elim
end
end PI

set_option Elab.async false
set_option linter.all false
set_option maxRecDepth 100000
set_option maxHeartbeats 1000000
namespace PI
open PySem PySem.Spec PyProof.Rows L2
open PySem.W (Frag)
/-! ### the value of a key -/
def valD (ks : List Key) (ds : List D) (k : Key) : Option D := ((ks.zip ds).find? fun kv => decide (kv.1 = k)).map (·.2)
section
variable {M : Memo} {W : WX} {X : Cx} {K : Frag} {σ : L2.St} {H G : Hp} {S : Nat → Addr → Prop} {g : Sg} {Q : VK}
theorem val_rep {k : Key} : ∀ {ks : List Key} {ds : List D} {vs : List V}, ks.length = vs.length → RepL K G ds vs →
    (∀ d, valD ks ds k = some d → ∃ v, valV (ks.zip vs) k = some v ∧ Rep K G d v) ∧ (valD ks ds k = none → valV (ks.zip vs) k = none) ∧ ((valV (ks.zip vs) k).isSome = ks.any fun j => decide (j = k))
  | [], ds, vs, hl, r => by
    refine ⟨fun d h => ?_, fun h => ?_, rfl⟩
    · unfold valD at h; simp at h
    · rfl
  | j :: ks, ds, [], hl, r => by simp at hl
  | j :: ks, [], v :: vs, hl, r => by cases (show v :: vs = [] from r)
  | j :: ks, d :: ds, v :: vs, hl, r => by
    obtain ⟨v', vr, e, h1, h2⟩ := r
    cases e
    have ih := val_rep (k := k) (by simpa using hl) h2
    by_cases hj : j = k
    · refine ⟨fun d' h => ?_, fun h => ?_, ?_⟩
      · refine ⟨v, by unfold valV; simp [hj], ?_⟩
        unfold valD at h
        simp [hj] at h
        subst h
        exact h1
      · unfold valD at h; simp [hj] at h
      · unfold valV; simp [hj]
    · have e1 : valV ((j :: ks).zip (v :: vs)) k = valV (ks.zip vs) k := by unfold valV; simp [hj]
      have e2 : valD (j :: ks) (d :: ds) k = valD ks ds k := by unfold valD; simp [hj]
      rw [e1, e2, List.any_cons, decide_eq_false hj, Bool.false_or]
      exact ih
theorem key_rep {d : D} {k : Key} {x : V} (e : keyOf d = some k) (r : Rep K G d x) : x = kV k := by
  cases d <;> first | (cases e; done) | skip
  · cases e; exact r
  · cases e; exact r
theorem key_seen {d : D} {k : Key} {x : V} (e : keyOf d = some k) (h : Seen K M G H d x) : x = kV k := by
  cases d <;> first | (cases e; done) | skip
  · cases e; exact h.int
  · cases e; exact h.str
theorem sign_of {x : Str} {c : Nat} (h : x.cps.toList = [c]) : x = ⟨#[c]⟩ := by
  obtain ⟨⟨l⟩⟩ := x
  simp only at h
  subst h
  rfl
theorem in_ok (hu : X.A.units + 1 < cLine) : OpS X (compareOp .In) (rF X.K M W fun d e g => rb (cmpD .In d e) g) := by
  rintro pins s σ H x y v u Q I rx ry ⟨g, G, S, d, e, m, sd, se, q⟩
  dsimp only [cmpD] at q
  unfold inD at q
  split at q
  · rename_i i j
    cases sd.str; cases se.str
    split at q
    · rename_i c hc
      cases sign_of hc
      exact op_in_sign pins s σ H _ _ v u Q I rx ry ⟨c, j, rfl, rfl, fin_b q rfl m⟩
    · exact op_in_str pins s σ H _ _ v u Q I rx ry ⟨i, j, rfl, rfl, fin_b q rfl m⟩
  · rename_i b xs _
    obtain ⟨a, vs, rfl, h1, r1⟩ := se.lst m.sub
    split at q
    · rename_i hf
      rw [Bool.and_eq_true] at hf
      have rd := flat_rep hf.1 sd
      obtain ⟨i1, i2⟩ := inV_F hf.1 rd hf.2 r1
      obtain ⟨_, i3, _⟩ := eqV_F hf.1 hf.1 rd rd
      exact op_in_seq pins s σ H _ _ v u Q I rx ry ⟨a, vs, rfl, .inl h1, i3, i2, by rw [i1]; exact fin_b q rfl m⟩
    · exact (fin_no q).elim
  · rename_i xs _
    obtain ⟨a, vs, rfl, h1, r1⟩ := se.tup m.sub
    split at q
    · rename_i hf
      rw [Bool.and_eq_true] at hf
      have rd := flat_rep hf.1 sd
      obtain ⟨i1, i2⟩ := inV_F hf.1 rd hf.2 r1
      obtain ⟨_, i3, _⟩ := eqV_F hf.1 hf.1 rd rd
      exact op_in_seq pins s σ H _ _ v u Q I rx ry ⟨a, vs, rfl, .inr h1, i3, i2, by rw [i1]; exact fin_b q rfl m⟩
    · exact (fin_no q).elim
  · rename_i b ks ds _
    obtain ⟨a, vs, rfl, h1, hl, r1⟩ := se.dic m.sub
    cases ek : keyOf d with
    | none => rw [ek] at q; exact (fin_no q).elim
    | some k =>
      rw [ek] at q
      cases key_seen ek sd
      cases ry
      refine d_in hu I (DGet.k h1) rx fun s1 I1 => ⟨.bl _, H, I1, rfl, ?_⟩
      rw [(val_rep hl r1).2.2]
      exact fin_b q rfl m
  · exact (fin_no q).elim
theorem notin_ok (hu : X.A.units + 1 < cLine) : OpS X (compareOp .NotIn) (rF X.K M W fun d e g => rb (cmpD .NotIn d e) g) := by
  rintro pins s σ H x y v u Q I rx ry ⟨g, G, S, d, e, m, sd, se, q⟩
  dsimp only [cmpD] at q
  unfold inD at q
  split at q
  · rename_i i j
    cases sd.str; cases se.str
    split at q
    · rename_i c hc
      cases sign_of hc
      exact op_notIn_sign pins s σ H _ _ v u Q I rx ry ⟨c, j, rfl, rfl, fin_b q rfl m⟩
    · exact op_notin_str pins s σ H _ _ v u Q I rx ry ⟨i, j, rfl, rfl, fin_b q rfl m⟩
  · rename_i b xs _
    obtain ⟨a, vs, rfl, h1, r1⟩ := se.lst m.sub
    split at q
    · rename_i hf
      rw [Bool.and_eq_true] at hf
      have rd := flat_rep hf.1 sd
      obtain ⟨i1, i2⟩ := inV_F hf.1 rd hf.2 r1
      obtain ⟨_, i3, _⟩ := eqV_F hf.1 hf.1 rd rd
      exact op_notIn_seq pins s σ H _ _ v u Q I rx ry ⟨a, vs, rfl, .inl h1, i3, i2, by rw [i1]; exact fin_b q rfl m⟩
    · exact (fin_no q).elim
  · rename_i xs _
    obtain ⟨a, vs, rfl, h1, r1⟩ := se.tup m.sub
    split at q
    · rename_i hf
      rw [Bool.and_eq_true] at hf
      have rd := flat_rep hf.1 sd
      obtain ⟨i1, i2⟩ := inV_F hf.1 rd hf.2 r1
      obtain ⟨_, i3, _⟩ := eqV_F hf.1 hf.1 rd rd
      exact op_notIn_seq pins s σ H _ _ v u Q I rx ry ⟨a, vs, rfl, .inr h1, i3, i2, by rw [i1]; exact fin_b q rfl m⟩
    · exact (fin_no q).elim
  · rename_i b ks ds _
    obtain ⟨a, vs, rfl, h1, hl, r1⟩ := se.dic m.sub
    cases ek : keyOf d with
    | none => rw [ek] at q; exact (fin_no q).elim
    | some k =>
      rw [ek] at q
      cases key_seen ek sd
      cases ry
      refine d_notIn hu I (DGet.k h1) rx fun s1 I1 => ⟨.bl _, H, I1, rfl, ?_⟩
      rw [(val_rep hl r1).2.2]
      exact fin_b q rfl m
  · exact (fin_no q).elim
theorem cmp_ok (hu : X.A.units + 64 < cLine) : ∀ op, OpS X (compareOp op) (rF X.K M W fun d e g => rb (cmpD op d e) g)
  | .Lt => lt_ok
  | .LtE => le_ok
  | .Gt => gt_ok
  | .GtE => ge_ok
  | .Eq => eq_ok hu
  | .NotEq => ne_ok hu
  | .In => in_ok (by omega)
  | .NotIn => notin_ok (by omega)
  | .Is => is_ok
  | .IsNot => isnot_ok
end

/-! ### subscripts -/
def ixD : D → D → Option D
  | .lst _ xs, .int i => atI xs i
  | .tup xs, .int i => atI xs i
  | .str z, .int i => if z.length ≤ lim then (atI z.cps.toList i).map fun c => .str ⟨#[c]⟩ else none
  | .dic _ ks ds, e => (keyOf e).bind fun k => valD ks ds k
  | _, _ => none
def cutD (xs : List D) (lo hi : Option Int) : List D := (xs.drop (HT.sIx xs.length 0 lo)).take (HT.sIx xs.length xs.length hi - HT.sIx xs.length 0 lo)
def slD (d : D) (lo hi : Option Int) : Option D := match d with
  | .lst _ xs => some (.lst true (cutD xs lo hi))
  | .tup xs => some (.tup (cutD xs lo hi))
  | .str z => if z.length ≤ lim then some (.str (cutS z lo hi)) else none
  | _ => none
section
variable {M : Memo} {W : WX} {X : Cx} {K : Frag} {σ : L2.St} {H G : Hp} {S : Nat → Addr → Prop} {g : Sg} {Q : VK} {pos p2 : Pos}
def IxS (X : Cx) (r : RS) : Prop :=
  ∀ (o i : Expr) (pins : List (Addr × Obj)) (s : Shared) (σ : L2.St) (H : Hp) (x y : V) (v u : Value) (Q : VK), Inv X pins σ H s → RelV x v → RelV y u → r σ x y H Q →
    subscripted i false v u = operate [v, u] (getItem v u) → wpAny (model X.prog X.w) X.A (subscriptTail o i v u) (EP X pins σ Q) X.xe s
theorem pe_ixS {f : D → D → Sg → Rs D} {a b : Expr} {oa ob : Op} (ho : IxS X (rF K M W f)) (ha : PE X a (tO K M W oa)) (hb : PE X b (tO K M W ob)) (hs : PlainIx b) : PE X (.Subscript a b pos) (tP K M W (pOp2 f oa ob)) :=
  ⟨fun pins s σ H Q I q => Subscript_ (binT (R := fun x y H2 => rF K M W f σ x y H2 Q) ha hb I (op2_t q) fun v u s2 x y H2 I2 rx ry q => ho a b pins s2 σ H2 x y v u Q I2 rx ry q (hs _ _))⟩
theorem atI_rep {ds : List D} {vs : List V} {i : Int} {d : D} (r : RepL K G ds vs) (h : atI ds i = some d) : ∃ v, atI vs i = some v ∧ Rep K G d v := by
  unfold atI at h ⊢
  rw [← r.len]
  cases e : ixN ds.length i with
  | none => rw [e] at h; cases h
  | some j =>
    rw [e] at h
    obtain ⟨v, h1, h2⟩ := r.get j h
    exact ⟨v, h1, h2⟩
theorem ix_ok (hu : X.A.units + 1 < cLine) : IxS X (rF X.K M W fun d e g => ro (ixD d e) g) := by
  rintro o i pins s σ H x y v u Q I rx ry ⟨g, G, S, d, e, m, sd, se, q⟩ hs
  dsimp only at q
  unfold ixD at q
  split at q
  · rename_i b xs j
    cases se.int
    obtain ⟨a, vs, rfl, h1, r1⟩ := sd.lst m.sub
    cases h : atI xs j with
    | none => rw [h] at q; exact (show False from q).elim
    | some d' =>
      rw [h] at q
      obtain ⟨w, h2, r2⟩ := atI_rep r1 h
      exact ix_list o i pins s σ H _ _ v u Q I rx ry ⟨a, vs, j, w, rfl, rfl, h1, h2, fin_sc q m r2⟩ hs
  · rename_i xs j
    cases se.int
    obtain ⟨a, vs, rfl, h1, r1⟩ := sd.tup m.sub
    cases h : atI xs j with
    | none => rw [h] at q; exact (show False from q).elim
    | some d' =>
      rw [h] at q
      obtain ⟨w, h2, r2⟩ := atI_rep r1 h
      exact ix_tup o i pins s σ H _ _ v u Q I rx ry ⟨a, vs, j, w, rfl, rfl, h1, h2, fin_sc q m r2⟩ hs
  · rename_i z j
    cases sd.str; cases se.int
    split at q
    · rename_i hl
      cases h : atI z.cps.toList j with
      | none => rw [h] at q; exact (show False from q).elim
      | some c =>
        rw [h] at q
        exact ix_str o i pins s σ H _ _ v u Q I rx ry ⟨z, j, c, rfl, rfl, lim_ok hl, h, fin_sc q m rfl⟩ hs
    · exact (show False from q).elim
  · rename_i b ks ds
    obtain ⟨a, vs, rfl, h1, hl, r1⟩ := sd.dic m.sub
    cases ek : keyOf e with
    | none => rw [ek] at q; exact (show False from q).elim
    | some k =>
      rw [ek] at q
      cases key_seen ek se
      cases hv : valD ks ds k with
      | none => rw [Option.bind_some, hv] at q; exact (show False from q).elim
      | some d' =>
        rw [Option.bind_some, hv] at q
        obtain ⟨w, e2, r2⟩ := (val_rep hl r1).1 d' hv
        cases rx
        have gt : DGet H a (kV k) (some w) := by rw [← e2]; exact DGet.k h1
        exact tail_any (dict_typeIs I gt) PySem.F.slot_dict_getitem.lookup (d_getItem hu I gt ry fun w' s3 I3 rw' => ⟨w, H, I3, rw', fin_sc q m r2⟩) hs
  · exact (show False from q).elim
end
end PI

set_option Elab.async false
set_option linter.all false
set_option maxRecDepth 100000
set_option maxHeartbeats 1000000
namespace PI
open PySem PySem.Spec PyProof.Rows L2
open PySem.W (Frag)
/-! ### slices -/
def evP (p : Option PX) (g : Sg) : Rs (Option Int) := match p with
  | none => .ok none g
  | some m => (m g).bind fun d g1 => match d with
    | .int i => .ok (some i) g1
    | _ => .bad
def pSl (a : Op) (lo hi : Option PX) : PX := fun g => (evO a g).bind fun x g1 => (evP lo g1).bind fun l g2 => (evP hi g2).bind fun h g3 => match rdO g3 a x with
  | some d => ro (slD d l h) g3
  | none => .bad
section
variable {M : Memo} {W : WX} {X : Cx} {K : Frag} {σ : L2.St} {H G : Hp} {S : Nat → Addr → Prop} {g : Sg} {Q : VK} {pos p2 : Pos}
def EndP (K : Frag) (M : Memo) (W : WX) (σ : L2.St) (H G : Hp) (S : Nat → Addr → Prop) (r : Rs (Option Int)) (Q : Option Int → Hp → Prop) : Prop := match r with
  | .bad => False
  | .ok x g' => ∀ H' G' S', Mt K M g' σ H' G' S' → Stp M H G S H' G' S' → Q x H'
  | .exc c d g' => EndX K M W σ H G S c d g'
def tPo (K : Frag) (M : Memo) (W : WX) (p : Option PX) : TO := fun σ H Q => ∃ g G S, Mt K M g σ H G S ∧ EndP K M W σ H G S (evP p g) Q
theorem po_0 : PO X none (tPo K M W none) := ⟨fun pins s σ H Q I h => by
  obtain ⟨g, G, S, m, q⟩ := h
  exact po_none.run pins s σ H Q I ((show EndP K M W σ H G S (.ok none g) Q from q) H G S m Stp.refl)⟩
theorem po_1 {e : Expr} {mm : PX} (he : PE X e (tP K M W mm)) : PO X (some e) (tPo K M W (some mm)) := ⟨fun pins s σ H Q I h => by
  refine (po_some he).run pins s σ H Q I ?_
  obtain ⟨g, G, S, m, q⟩ := h
  refine ⟨g, G, S, m, ?_⟩
  unfold evP at q
  dsimp only at q
  cases er : mm g with
  | bad => rw [er] at q; exact q
  | exc c d g' => rw [er] at q; exact q
  | ok d g1 =>
    rw [er, Rs.bind_ok] at q
    intro v H1 G1 S1 T ⟨m1, ow, ap⟩ st
    cases d with
    | int i =>
      have hv : v = .int i := Seen.int (K := K) (M := M) (G := G1) (H := H1) ⟨T, ow⟩
      exact ⟨i, hv, (show EndP K M W σ H G S (.ok (some i) g1) Q from q) H1 G1 S1 m1 st⟩
    | _ => exact (show False from q).elim⟩
def rSl (K : Frag) (M : Memo) : V → Option Int → Option Int → Hp → VK → Prop := fun x lo hi H Q => ∃ W σ g G S d, Mt K M g σ H G S ∧ Seen K M G H d x ∧ EndE K M W σ H G S (ro (slD d lo hi) g) Q
theorem RepL.cut {ds : List D} {vs : List V} (r : RepL K G ds vs) (lo hi : Option Int) : RepL K G (cutD ds lo hi) (cutV vs lo hi) := by
  have dr : ∀ (n : Nat) {ds : List D} {vs : List V}, RepL K G ds vs → RepL K G (ds.drop n) (vs.drop n) := by
    intro n
    induction n with
    | zero => intro ds vs r; exact r
    | succ n ih =>
      intro ds vs r
      cases ds with
      | nil => cases (show vs = [] from r); exact rfl
      | cons d ds =>
        obtain ⟨v, vr, rfl, h1, h2⟩ := r
        exact ih h2
  have tk : ∀ (n : Nat) {ds : List D} {vs : List V}, RepL K G ds vs → RepL K G (ds.take n) (vs.take n) := by
    intro n
    induction n with
    | zero => intro ds vs r; simp only [List.take_zero]; rfl
    | succ n ih =>
      intro ds vs r
      cases ds with
      | nil => cases (show vs = [] from r); exact rfl
      | cons d ds =>
        obtain ⟨v, vr, rfl, h1, h2⟩ := r
        exact ⟨v, vr.take n, rfl, h1, ih h2⟩
  unfold cutD cutV
  rw [← r.len]
  exact tk _ (dr _ r)
theorem cut_all {α : Type} (xs : List α) (a b : Nat) (h0 : a = 0) (h1 : b = xs.length) : (xs.drop a).take (b - a) = xs := by
  subst h0 h1
  simp
theorem sl_ok : SlR X (rSl X.K M) := by
  rintro pins s σ H x v vl vu lo hi sl Q I rx hs pl pu ⟨W, σ', g, G, S, d, m, sd, q⟩
  unfold slD at q
  split at q
  · rename_i b xs
    obtain ⟨a, vs, rfl, h1, r1⟩ := sd.lst m.sub
    exact sl_list pins s σ H _ v vl vu lo hi sl Q I rx hs pl pu ⟨a, vs, rfl, h1, fun p hp => fin_lst q m (r1.cut lo hi) p hp⟩
  · rename_i xs
    have rt := sd.tupR
    obtain ⟨a, vs, rfl, h1, r1⟩ := sd.tup m.sub
    refine sl_tupA pins s σ H _ v vl vu lo hi sl Q I rx hs pl pu ⟨a, vs, rfl, h1, fun hw => ?_, fun hw p hp => fin_tup q m (r1.cut lo hi) p hp⟩
    have e : cutD xs lo hi = xs := by
      rw [← r1.len] at hw
      exact cut_all xs _ _ hw.1 hw.2
    rw [e] at q
    exact fin_sc q m rt
  · rename_i z
    cases sd.str
    split at q
    · rename_i hl
      exact sl_str pins s σ H _ v vl vu lo hi sl Q I rx hs pl pu ⟨z, rfl, lim_ok hl, fin_sc q m rfl⟩
    · exact (show False from q).elim
  · exact (show False from q).elim
theorem pe_Sl {e : Expr} {lo hi : Option Expr} {oa : Op} {pl ph : Option PX} (ha : PE X e (tO X.K M W oa)) (hl : PO X lo (tPo X.K M W pl)) (hh : PO X hi (tPo X.K M W ph)) : PE X (.Subscript e (.Slice lo hi none p2) pos) (tP X.K M W (pSl oa pl ph)) := by
  refine PE.imp (pe_slice (sl_ok (M := M)) ha hl hh) fun σ H Q q => ?_
  obtain ⟨g, G, S, m, q⟩ := q
  refine ⟨g, G, S, m, ?_⟩
  unfold pSl at q
  cases er : evO oa g with
  | bad => rw [er] at q; exact q
  | exc c d g' => rw [er] at q; exact q
  | ok x g1 =>
    rw [er, Rs.bind_ok] at q
    intro v H1 G1 S1 m1 r1 st
    refine ⟨g1, G1, S1, m1, ?_⟩
    cases er2 : evP pl g1 with
    | bad => rw [er2] at q; exact q
    | exc c d g' => rw [er2] at q; exact EndX.of q st
    | ok l g2 =>
      rw [er2, Rs.bind_ok] at q
      intro H2 G2 S2 m2 st2
      refine ⟨g2, G2, S2, m2, ?_⟩
      cases er3 : evP ph g2 with
      | bad => rw [er3] at q; exact q
      | exc c d g' => rw [er3] at q; exact EndX.of q (st.trans st2)
      | ok h g3 =>
        rw [er3, Rs.bind_ok] at q
        intro H3 G3 S3 m3 st3
        have q := EndE.of q ((st.trans st2).trans st3)
        cases e1 : rdO g3 oa x with
        | none => rw [e1] at q; exact q.elim
        | some d => rw [e1] at q; exact ⟨W, σ, g3, G3, S3, d, m3, (r1.stp (st2.trans st3)).seen m3 e1, q⟩
end

/-! ### fields -/
def fldD (f : Str) : D → Option D
  | .obj _ _ ns ds => (ns.zip ds).lookup f
  | _ => none
def clsD : D → Option Str
  | .obj _ c _ _ => some c
  | _ => none
section
variable {M : Memo} {W : WX} {X : Cx} {K : Frag} {σ : L2.St} {H G : Hp} {S : Nat → Addr → Prop} {g : Sg} {Q : VK} {pos p2 : Pos}
theorem lookup_rep {f : Str} : ∀ {ns : List Str} {ds : List D} {vs : List V}, ns.length = vs.length → RepL K G ds vs →
    (∀ d, (ns.zip ds).lookup f = some d → ∃ v, (ns.zip vs).lookup f = some v ∧ Rep K G d v) ∧ ((ns.zip ds).lookup f = none → (ns.zip vs).lookup f = none)
  | [], ds, vs, hl, r => ⟨fun d h => by simp at h, fun _ => rfl⟩
  | j :: ks, ds, [], hl, r => by simp at hl
  | j :: ks, [], v :: vs, hl, r => by cases (show v :: vs = [] from r)
  | j :: ks, d :: ds, v :: vs, hl, r => by
    obtain ⟨v', vr, e, h1, h2⟩ := r
    cases e
    have ih := lookup_rep (f := f) (by simpa using hl) h2
    by_cases hj : f = j
    · have hb : (f == j) = true := beq_iff_eq.mpr hj
      refine ⟨fun d' h => ⟨v, by simp [List.lookup, hb], ?_⟩, fun h => by simp [List.lookup, hb] at h⟩
      simp [List.lookup, hb] at h
      subst h
      exact h1
    · have hb : (f == j) = false := beq_eq_false_iff_ne.mpr hj
      simp only [List.zip_cons_cons, List.lookup, hb]
      exact ih
/-- what the text has of the attributes of the classes -/
def FldOk (K : Frag) (fl : List (Str × Str)) : Prop := ∀ p ∈ fl, Cls K (He.ga K p.1) ∧ NoAttr K (He.ga K p.1) p.2
def pFld (fl : List (Str × Str)) (f : Str) (a : Op) : PX := pOp1 (fun d g => ro (if (clsD d).any fun c => fl.contains (c, f) then fldD f d else none) g) a
theorem pe_Fld {fl : List (Str × Str)} {e : Expr} {f : Str} {oa : Op} (T : FldOk X.K fl) (ha : PE X e (tO X.K M W oa)) (hb : attributeBase e f X.env (eval e X.env) = eval e X.env) : PE X (.Attribute e f pos) (tP X.K M W (pFld fl f oa)) := by
  refine PE.imp (pe_fld ha hb) fun σ H Q q => ?_
  obtain ⟨g, G, S, m, q⟩ := op1_t q
  refine ⟨g, G, S, m, EndO.imp q fun x H1 h => ?_⟩
  obtain ⟨g1, G1, S1, d, m1, sd, q1⟩ := h
  dsimp only at q1
  split at q1
  · rename_i hc
    cases d with
    | obj b c ns ds =>
      obtain ⟨a, dx, vs, rfl, h1, hl, r1⟩ := sd.obj m1.sub
      have hm : (c, f) ∈ fl := by
        have : fl.contains (c, f) = true := by simpa [clsD] using hc
        exact List.contains_iff_mem.mp this
      obtain ⟨t1, t2⟩ := T _ hm
      cases hv : (ns.zip ds).lookup f with
      | none =>
        dsimp only [fldD] at q1
        rw [hv] at q1
        exact (show False from q1).elim
      | some d' =>
        dsimp only [fldD] at q1
        rw [hv] at q1
        obtain ⟨w, e2, r2⟩ := (lookup_rep hl r1).1 d' hv
        exact ⟨a, _, dx, _, w, rfl, h1, t1, t2, e2, fin_sc q1 m1 r2⟩
    | _ => simp [clsD] at hc
  · exact (show False from q1).elim
end
end PI

set_option Elab.async false
set_option linter.all false
set_option maxRecDepth 100000
set_option maxHeartbeats 1000000
namespace PI
open PySem PySem.Spec PyProof.Rows L2
open PySem.W (Frag)
/-! ### defs: what they promise where no repr is under way -/
structure FnG (P : Program) (w : World) (K : Frag) (mg : Str → Option Value) (base : Heap) (k : Nat) (f : Addr) (fd : FuncData) (ps : List Str) (sp : Sp) : Prop where
  len : ∀ vs H Q E, sp vs H Q E → vs.length = ps.length
  run : ∀ (A : Around) (outer : List Env) (s : Shared) (H : Hp) (args : Args) (us : List Value) (vs : List V) (Q : VK) (E : XK), Room k A → A.guards = some [] → Env0 P w K mg base A outer s H →
    BindsTo s fd args (ps.zip us) → Vals vs us → sp vs H Q E → codeAny (model P w) A (.call (.ref f) args) (CR (L2.CX P w) outer P w H s Q E) s
section
variable {P : Program} {w : World} {K : Frag} {mg : Str → Option Value} {base : Heap} {k : Nat} {f : Addr} {fd : FuncData} {ps N : List Str} {sp : Sp}
/-- a def's body keeps the promise -/
theorem fnG_of {x qual : Str} {params : Arguments} {body : List Stmt} {scope : Scope} {dvs : List V} {kws : List (Str × V)} (F : FunD K x qual params body scope dvs kws f fd) (Z : FnScope N ps scope) (len : ∀ vs H Q E, sp vs H Q E → vs.length = ps.length)
    (hbody : ∀ (cdv : Value) (A : Around) (outer : List Env) (s : Shared) (H : Hp) (vs : List V) (Q : VK) (E : XK), Room k (A.deeper (envOfC qual scope s.heap.objs.size f cdv)) → (A.deeper (envOfC qual scope s.heap.objs.size f cdv)).guards = some [] → sp vs H Q E →
      ∃ t, PSs (cxOf (L2.CX P w) P w K mg base N qual scope f cdv A outer s H E) body t ∧ t { nx := fun _ H' => Q .non H', rt := Q } (start N vs) H) :
    FnG P w K mg base (k + 1) f fd ps sp := by
  obtain ⟨oc, od, dV, kV, doc, pm, an, cdv, ct, osl, rfl, lk, hcd, _, _⟩ := F.ex
  refine ⟨len, fun A outer s H args us vs Q E room gu e0 bind rv want => ?_⟩
  have inK : K.In s.heap := e0.mod.kin.keeps fun b o z => (e0.bs b o z).1
  have nol : s.heap.NoLimit := e0.mod.nolimit.keeps fun b o z => (e0.bs b o z).1
  have kinds : ∀ y ∈ ps.zip us, scope.names.lookup y.1 = some .local ∨ (scope.names.lookup y.1 = some .cell ∧ ((cellsFrom (s.heap.objs.size + 1) scope.names []).lookup y.1).isSome = true) := by
    rintro ⟨n, z⟩ hy
    rcases Z.par n (List.of_mem_zip hy).1 with c | c
    · exact .inl c
    · exact .inr ⟨c, PySem.W.cellsFrom_some _ _ _ (.inl c)⟩
  refine codeAny_call_function room.depth (inK _ _ lk) rfl Z.co Z.gen rfl (PySem.W.codeRec_of inK hcd) (bind _ _ _ _ (wpAny_newFunctionEnv_cells Z.kind kinds fun env he s1 ic => ?_))
  subst he
  refine ⟨nol.keeps ic.toInCall.keep, codeAny_func ?_⟩
  obtain ⟨t, ht, hq⟩ := hbody cdv A outer s H vs Q E (room.deeper _) gu want
  have J0 := inv_start (CX := L2.CX P w) (N := N) (f := f) (E := E) Z room.hd e0 (len _ _ _ _ want) rv ic
  refine wpAny_mono (ht.run [] s1 _ H _ J0 hq) (fun fl s2 hs => ?_) fun _ _ hs => hs
  cases fl with
  | ret u =>
    obtain ⟨z, σ2, H2, J, rz, q⟩ := hs
    exact ⟨z, H2, J.os, J.bare, J.base, J.hok, rz, q⟩
  | next =>
    obtain ⟨σ2, H2, J, q⟩ := hs
    exact ⟨V.non, H2, J.os, J.bare, J.base, J.hok, rfl, q⟩
  | brk => obtain ⟨_, _, _, q⟩ := hs; exact q.elim
  | cont => obtain ⟨_, _, _, q⟩ := hs; exact q.elim
end
section
variable {X : Cx} {W : WX} {k : Nat} {f : Addr} {fd : FuncData} {ps : List Str} {sp : Sp} {pins : List (Addr × Obj)} {σ : L2.St} {H : Hp} {s : Shared} {Q : VK}
/-- where one of the running body's calls ends -/
theorem ends_ok {A : Around} {us : List Value} {args : Args} (tk : Takes X W) (I : Inv X pins σ H s) (h : codeAny (model X.prog X.w) A (.call (.ref f) args) (CR (L2.CX X.prog X.w) X.stack X.prog X.w H s Q (WE W σ)) s) :
    codeAny (model X.prog X.w) A (.call (.ref f) args) (fun r s' => match r with
      | .ok (.ret u) => EP X pins σ Q u s'
      | .ok _ => False
      | .error e => X.xe e s') s := by
  refine codeAny_mono h fun r s' z => ?_
  cases r with
  | error e => exact passAt tk σ pins H s e s' I z
  | ok fl =>
    cases fl with
    | ret u => exact I.after z
    | next => exact z.elim
    | brk => exact z.elim
    | cont => exact z.elim
/-- a def called with keywords and positional values -/
theorem runG {args : List Value} {kw : List (Str × Value)} {us : List Value} {vs : List V} (F : FnG X.prog X.w X.K X.mg X.base k f fd ps sp) (hr : Room k X.A) (gu : X.A.guards = some []) (tk : Takes X W) (I : Inv X pins σ H s)
    (hb : BindsTo s fd ⟨args, kw⟩ (ps.zip us)) (r : Vals vs us) (h : sp vs H Q (WE W σ)) : wpAny (model X.prog X.w) X.A (call (.ref f) args kw) (EP X pins σ Q) X.xe s := by
  refine wpAny_call (codeAny_mono (ends_ok (us := us) tk I (F.run X.A X.stack s H ⟨args, kw⟩ us vs Q (WE W σ) hr gu I.env0 hb r h)) fun r s' z => ?_)
  cases r with
  | error e => exact z
  | ok fl =>
    cases fl with
    | ret u => exact z
    | next => exact z
    | brk => exact z
    | cont => exact z
end
end PI

set_option Elab.async false
set_option linter.all false
set_option maxRecDepth 100000
set_option maxHeartbeats 1000000
namespace PI
open PySem PySem.Spec PyProof.Rows L2
open PySem.W (Frag)
/-! ### calls: an argument by its value (sealed), or as it is held (looked at, changed in place) -/
inductive Ar where
  | v (m : PX) | r (o : Op)
def evA : List Ar → Sg → Rs (List (Option D))
  | [], g => .ok [] g
  | .v m :: as, g => (m g).bind fun d g1 => (evA as g1).bind fun xs g2 => .ok (some (sealD d) :: xs) g2
  | .r o :: as, g => (evO o g).bind fun x g1 => (evA as g1).bind fun xs g2 => .ok (x :: xs) g2
def rdA (g : Sg) : List Ar → List (Option D) → Option (List D)
  | [], _ => some []
  | .v _ :: as, some d :: xs => (rdA g as xs).map (d :: ·)
  | .r o :: as, x :: xs => (match rdO g o x, rdA g as xs with
    | some d, some ds => some (d :: ds)
    | _, _ => none)
  | _, _ => none
/-- the slot that is handed in as it is held -/
def nmA : Ar → Option Nat
  | .r (.nm i) => some i
  | _ => none
/-- behind the call: what was held is as the call left it -/
def wbS : List (Option Nat) → Sg → Sg → Sg
  | some n :: ns, x :: xs, g => wbS ns xs (g.set n x)
  | none :: ns, _ :: xs, g => wbS ns xs g
  | _, _, g => g
/-- parameters: the i-th argument, or a default -/
abbrev Pm := List (Sum Nat D)
def pmAt {α : Type} (xs : List α) (k : D → α) (p : Sum Nat D) : Option α := match p with
  | .inl i => xs[i]?
  | .inr d => some (k d)
def pmL {α : Type} (xs : List α) (k : D → α) : Pm → Option (List α)
  | [] => some []
  | p :: ps => (match pmAt xs k p, pmL xs k ps with
    | some x, some r => some (x :: r)
    | _, _ => none)
def distinct (l : List (Option Nat)) : Bool := decide ((l.filterMap id).Nodup)
/-- what the parameters that were handed in as held are worth behind the call -/
def retG (n : Nat) (rf : List Nat) (rs : List D) : Sg := (List.range n).map fun j => (rf.idxOf? j).bind fun k => rs[k]?
def callC (f : List D → Cr) (ns : List (Option Nat)) (ds : List D) (rf : List Nat) (g : Sg) : Rs D := match f ds with
  | .bad => .bad
  | .ok d rs => .ok d (wbS ns (retG ds.length rf rs) g)
  | .exc c d rs => .exc c d (wbS ns (retG ds.length rf rs) g)
def pCall (f : List D → Cr) (rf : List Nat) (as : List Ar) (pm : Pm) : PX := fun g => (evA as g).bind fun xs g1 => match rdA g1 as xs with
  | none => .bad
  | some ds => match pmL ds id pm, pmL (as.map nmA) (fun _ => none) pm with
    | some es, some ns => callC f ns es rf g1
    | _, _ => .bad
section
variable (K : Frag) (M : Memo)
/-- what stands at an argument's place: its value, what it alone holds, the slot that it is -/
structure En where
  d : D
  v : V
  B : Addr → Prop
  s : Option Nat
def EnOk (H0 : Hp) (g : Sg) (σ : L2.St) (H G : Hp) (S : Nat → Addr → Prop) (e : En) : Prop := Own K M G H e.d e.v e.B ∧ match e.s with
  | some n => e.B = S n ∧ g[n]? = some (some e.d) ∧ σ[n]? = some (some e.v)
  | none => ∀ a, e.B a → ¬ Vl M G S a ∧ H0 a = none
def Apart (es : List En) : Prop := ∀ (i j : Nat) (e e' : En) (a : Addr), es[i]? = some e → es[j]? = some e' → e.B a → e'.B a → i = j
def bOf (es : List En) (j : Nat) (a : Addr) : Prop := ∃ e, es[j]? = some e ∧ e.B a
end
section
variable {K : Frag} {M : Memo} {W : WX} {X : Cx} {σ : L2.St} {H H0 G G0 H1 G1 H' G' : Hp} {S S0 S1 B' : Nat → Addr → Prop} {g g1 gr : Sg}
/-- the callee's state -/
theorem callee_mt {es : List En} (m : Mt K M g σ H G S) (h : ∀ e ∈ es, EnOk K M H0 g σ H G S e) (ap : Apart es) : Mt K M (es.map fun e => some e.d) (es.map fun e => some e.v) H G (bOf es) := by
  refine ⟨by rw [List.length_map, List.length_map], fun i d e1 => ?_, fun i q a z => ?_, fun i j a ⟨e, e1, e2⟩ ⟨e', e3, e4⟩ => ap i j e e' a e1 e3 e2 e4, m.sub, m.mem, fun i a ⟨e, e1, e2⟩ => ?_⟩
  · rw [List.getElem?_map] at e1
    cases q : es[i]? with
    | none => rw [q] at e1; cases e1
    | some e =>
      rw [q] at e1
      cases e1
      refine ⟨e.v, by rw [List.getElem?_map, q] <;> rfl, ?_⟩
      have eb : bOf es i = e.B := funext fun a => propext ⟨fun ⟨e', e1, e2⟩ => by rw [q] at e1; cases e1; exact e2, fun z => ⟨e, q, z⟩⟩
      rw [eb]
      exact (h e (List.mem_of_getElem? q)).1
  · obtain ⟨e, e1, e2⟩ := z
    exact q e.d (by rw [List.getElem?_map, e1] <;> rfl)
  · obtain ⟨_, hh⟩ := h e (List.mem_of_getElem? e1)
    cases q : e.s with
    | some n =>
      rw [q] at hh
      rw [hh.1] at e2
      exact m.vol n a e2
    | none =>
      rw [q] at hh
      exact fun z => (hh a e2).1 (.inr z)
theorem wbS_len : ∀ (ns : List (Option Nat)) (xs g : Sg), (wbS ns xs g).length = g.length
  | [], xs, g => by cases xs <;> rfl
  | some n :: ns, [], g => rfl
  | none :: ns, [], g => rfl
  | some n :: ns, x :: xs, g => by
    show (wbS ns xs (g.set n x)).length = _
    rw [wbS_len ns xs, List.length_set]
  | none :: ns, x :: xs, g => wbS_len ns xs g
theorem wbS_out {n : Nat} : ∀ (ns : List (Option Nat)) (xs g : Sg), (∀ j : Nat, ns[j]? ≠ some (some n)) → (wbS ns xs g)[n]? = g[n]?
  | [], xs, g, _ => by cases xs <;> rfl
  | some k :: ns, [], g, _ => rfl
  | none :: ns, [], g, _ => rfl
  | some k :: ns, x :: xs, g, h => by
    show (wbS ns xs (g.set k x))[n]? = _
    rw [wbS_out ns xs _ fun j => h (j + 1)]
    exact List.getElem?_set_ne fun z => h 0 (by rw [z] <;> rfl)
  | none :: ns, x :: xs, g, h => wbS_out ns xs g fun j => h (j + 1)
theorem wbS_in {n : Nat} : ∀ (ns : List (Option Nat)) (xs g : Sg) (j : Nat) (x : Option D), (∀ (i k m : Nat), ns[i]? = some (some m) → ns[k]? = some (some m) → i = k) → ns[j]? = some (some n) → xs[j]? = some x → n < g.length → (wbS ns xs g)[n]? = some x
  | [], xs, g, j, x, _, h, _, _ => by simp at h
  | k :: ns, [], g, j, x, _, _, h, _ => by simp at h
  | some k :: ns, y :: xs, g, 0, x, nd, h, hx, hn => by
    simp at h hx
    subst h hx
    show (wbS ns xs (g.set k y))[k]? = _
    rw [wbS_out ns xs _ fun j z => by have := nd 0 (j + 1) k rfl z; omega]
    exact List.getElem?_set_self hn
  | none :: ns, y :: xs, g, 0, x, nd, h, hx, hn => by simp at h
  | some k :: ns, y :: xs, g, j + 1, x, nd, h, hx, hn => by
    show (wbS ns xs (g.set k y))[n]? = _
    exact wbS_in ns xs _ j x (fun a b m ha hb => by have := nd (a + 1) (b + 1) m ha hb; omega) (by simpa using h) (by simpa using hx) (by rw [List.length_set]; exact hn)
  | none :: ns, y :: xs, g, j + 1, x, nd, h, hx, hn => by
    show (wbS ns xs g)[n]? = _
    exact wbS_in ns xs _ j x (fun a b m ha hb => by have := nd (a + 1) (b + 1) m ha hb; omega) (by simpa using h) (by simpa using hx) hn
/-- what each slot holds behind the call -/
def backS (es : List En) (S B' : Nat → Addr → Prop) (n : Nat) (a : Addr) : Prop := (∃ (j : Nat) (e : En), es[j]? = some e ∧ e.s = some n ∧ B' j a) ∨ ((∀ e ∈ es, e.s ≠ some n) ∧ S n a)
theorem back_mt {es : List En} (m : Mt K M g σ H G S) (st0 : Stp M H0 G0 S0 H G S) (h : ∀ e ∈ es, EnOk K M H0 g σ H G S e) (ap : Apart es) (inj : ∀ (i j : Nat) (e e' : En) (n : Nat), es[i]? = some e → es[j]? = some e' → e.s = some n → e'.s = some n → i = j)
    (lr : gr.length = es.length) (m' : Mt K M gr (es.map fun e => some e.v) H' G' B') (st : Stp M H G (bOf es) H' G' B') :
    Mt K M (wbS (es.map fun e => e.s) gr g) σ H' G' (backS es S B') ∧ Stp M H0 G0 S0 H' G' (backS es S B') ∧ ∀ a, H a = none → ¬ Vl M G' B' a → ¬ Vl M G' (backS es S B') a := by
  have there : ∀ n a, S n a → ∃ o, H a = some o := fun n a z => by
    by_cases e : ∃ d, g[n]? = some (some d)
    · obtain ⟨d, e⟩ := e
      obtain ⟨v, _, ow⟩ := m.own n d e
      exact (ow.there z).1
    · exact (m.nil n (fun d q => e ⟨d, q⟩) a z).elim
  have outB : ∀ n a, (∀ e ∈ es, e.s ≠ some n) → S n a → ¬ Vl M G (bOf es) a := fun n a hn z y => by
    rcases y with ⟨j, e, e1, e2⟩ | y
    · obtain ⟨_, hh⟩ := h e (List.mem_of_getElem? e1)
      cases q : e.s with
      | some k =>
        rw [q] at hh
        rw [hh.1] at e2
        have := m.dis n k a z e2
        subst this
        exact hn e (List.mem_of_getElem? e1) q
      | none =>
        rw [q] at hh
        exact (hh a e2).1 (.inl ⟨n, z⟩)
    · exact m.vol n a z y
  have outB' : ∀ n a, (∀ e ∈ es, e.s ≠ some n) → S n a → ¬ Vl M G' B' a := fun n a hn z y => by
    rcases st.vl a y with y | y
    · exact outB n a hn z y
    · obtain ⟨o, ho⟩ := there n a z
      rw [ho] at y; cases y
  have nsj : ∀ (j n : Nat), (es.map fun e => En.s e)[j]? = some (some n) ↔ ∃ e : En, es[j]? = some e ∧ e.s = some n := fun j n => by
    rw [List.getElem?_map]
    cases q : es[j]? with
    | none => exact ⟨fun z => (by cases z), fun ⟨e, z, _⟩ => (by cases z)⟩
    | some e => exact ⟨fun z => ⟨e, rfl, Option.some.inj z⟩, fun ⟨e', z, z2⟩ => by cases z; exact congrArg some z2⟩
  have vB : ∀ a, Vl M G (bOf es) a → Vl M G S a ∨ H0 a = none := fun a y => by
    rcases y with ⟨j, e, e1, e2⟩ | y
    · obtain ⟨_, hh⟩ := h e (List.mem_of_getElem? e1)
      cases q : e.s with
      | some k =>
        rw [q] at hh
        rw [hh.1] at e2
        exact .inl (.inl ⟨k, e2⟩)
      | none =>
        rw [q] at hh
        exact .inr (hh a e2).2
    · exact .inl (.inr y)
  refine ⟨⟨by rw [wbS_len]; exact m.len, fun n d e1 => ?_, fun n q a z => ?_, fun n k a z y => ?_, m'.sub, m'.mem, fun n a z => ?_⟩, ⟨st0.gr.trans st.gr, fun a o q z => ?_, fun a o q => ?_, fun a z => ?_, fun a o q => ?_⟩, fun a hn nv z => ?_⟩
  · by_cases c : ∃ (j : Nat) (e : En), es[j]? = some e ∧ e.s = some n
    · obtain ⟨j, e, ej, es'⟩ := c
      have hb : backS es S B' n = B' j := funext fun a => propext ⟨fun z => by
        rcases z with ⟨j', e', h1, h2, h3⟩ | ⟨h1, _⟩
        · have := inj j j' e e' n ej h1 es' h2
          subst this
          exact h3
        · exact (h1 e (List.mem_of_getElem? ej) es').elim, fun z => .inl ⟨j, e, ej, es', z⟩⟩
      rw [hb]
      obtain ⟨_, hh⟩ := h e (List.mem_of_getElem? ej)
      rw [es'] at hh
      have hj : j < gr.length := by rw [lr]; exact (List.getElem?_eq_some_iff.mp ej).1
      have hn : n < g.length := (List.getElem?_eq_some_iff.mp hh.2.1).1
      have w := wbS_in (n := n) (es.map fun e => e.s) gr g j gr[j] (fun a b k ha hb => by
        obtain ⟨ea, z1, z2⟩ := (nsj a k).mp ha
        obtain ⟨eb, z3, z4⟩ := (nsj b k).mp hb
        exact inj a b ea eb k z1 z3 z2 z4) ((nsj j n).mpr ⟨e, ej, es'⟩) (List.getElem?_eq_getElem hj) hn
      rw [w] at e1
      have e2 : gr[j]? = some (some d) := by rw [List.getElem?_eq_getElem hj]; exact e1
      obtain ⟨v, ev, ow⟩ := m'.own j d e2
      refine ⟨v, ?_, ow⟩
      rw [List.getElem?_map, ej] at ev
      rw [hh.2.2]
      exact ev
    · have c' : ∀ e ∈ es, e.s ≠ some n := fun e he z => by
        obtain ⟨j, ej⟩ := List.getElem?_of_mem he
        exact c ⟨j, e, ej, z⟩
      have hb : backS es S B' n = S n := funext fun a => propext ⟨fun z => by
        rcases z with ⟨j', e', h1, h2, h3⟩ | ⟨_, h1⟩
        · exact (c ⟨j', e', h1, h2⟩).elim
        · exact h1, fun z => .inr ⟨c', z⟩⟩
      rw [hb]
      rw [wbS_out _ _ _ fun j z => c (let ⟨e, z1, z2⟩ := (nsj j n).mp z; ⟨j, e, z1, z2⟩)] at e1
      obtain ⟨v, ev, ow⟩ := m.own n d e1
      exact ⟨v, ev, ow.stp st fun a z => outB n a c' z⟩
  · rcases z with ⟨j, e, ej, es', hb⟩ | ⟨c', z⟩
    · obtain ⟨_, hh⟩ := h e (List.mem_of_getElem? ej)
      rw [es'] at hh
      have hj : j < gr.length := by rw [lr]; exact (List.getElem?_eq_some_iff.mp ej).1
      have hn : n < g.length := (List.getElem?_eq_some_iff.mp hh.2.1).1
      have w := wbS_in (n := n) (es.map fun e => e.s) gr g j gr[j] (fun a b k ha hb => by
        obtain ⟨ea, z1, z2⟩ := (nsj a k).mp ha
        obtain ⟨eb, z3, z4⟩ := (nsj b k).mp hb
        exact inj a b ea eb k z1 z3 z2 z4) ((nsj j n).mpr ⟨e, ej, es'⟩) (List.getElem?_eq_getElem hj) hn
      refine m'.nil j (fun d y => q d ?_) a hb
      rw [w, ← List.getElem?_eq_getElem hj]
      exact y
    · rw [wbS_out _ _ _ fun j z => by
        obtain ⟨e, z1, z2⟩ := (nsj j n).mp z
        exact c' e (List.mem_of_getElem? z1) z2] at q
      exact m.nil n q a z
  · rcases z with ⟨j, e, ej, es', hb⟩ | ⟨c', z⟩
    · rcases y with ⟨j2, e2, ej2, es2, hb2⟩ | ⟨c2, y⟩
      · have := m'.dis j j2 a hb hb2
        subst this
        rw [ej] at ej2; cases ej2
        rw [es'] at es2
        exact Option.some.inj es2
      · exact (outB' k a c2 y (.inl ⟨j, hb⟩)).elim
    · rcases y with ⟨j2, e2, ej2, es2, hb2⟩ | ⟨c2, y⟩
      · exact (outB' n a c' z (.inl ⟨j2, hb2⟩)).elim
      · exact m.dis n k a z y
  · rcases z with ⟨j, e, ej, es', hb⟩ | ⟨c', z⟩
    · exact m'.vol j a hb
    · exact fun y => outB' n a c' z (.inr y)
  · refine st.fr a o (st0.fr a o q z) fun y => ?_
    rcases vB a y with y | y
    · rcases st0.vl a y with y | y
      · exact z y
      · rw [q] at y; cases y
    · rw [q] at y; cases y
  · obtain ⟨o1, q1⟩ := st0.th a o q
    exact st.th a o1 q1
  · have key : Vl M G' B' a ∨ ∃ n, S n a := by
      rcases z with ⟨n, ⟨j, e, ej, es', hb⟩ | ⟨c', z⟩⟩ | z
      · exact .inl (.inl ⟨j, hb⟩)
      · exact .inr ⟨n, z⟩
      · exact .inl (.inr z)
    rcases key with y | ⟨n, y⟩
    · rcases st.vl a y with y | y
      · rcases vB a y with y | y
        · exact st0.vl a y
        · exact .inr y
      · exact .inr (st0.back y)
    · exact st0.vl a (.inl ⟨n, y⟩)
  · rcases st.fg a o q with y | y | y
    · exact st0.fg a o y
    · exact .inr (.inl (st0.back y))
    · rcases vB a y with y | y
      · rcases st0.vl a y with y | y
        · exact .inr (.inr y)
        · exact .inr (.inl y)
      · exact .inr (.inl y)
  · rcases z with ⟨n, ⟨j, e, ej, es', hb⟩ | ⟨c', z⟩⟩ | z
    · exact nv (.inl ⟨j, hb⟩)
    · obtain ⟨o, ho⟩ := there n a z
      rw [hn] at ho; cases ho
    · exact nv (.inr z)
end
end PI

set_option Elab.async false
set_option linter.all false
set_option maxRecDepth 100000
set_option maxHeartbeats 1000000
namespace PI
open PySem PySem.Spec PyProof.Rows L2
open PySem.W (Frag)
/-! ### looks at the text -/
def noStar : Expr → Bool
  | .Starred .. => false
  | _ => true
theorem star_of {e : Expr} {es : List Expr} {env : Env} (h : noStar e = true) : starEach (e :: es) env = (false, eval e env) :: starEach es env := by
  cases e <;> first | rfl | cases h
theorem stars_of {pos : Pos} {env : Env} : ∀ {es : List Expr}, es.all noStar = true → (backTo pos (starEach es env)).any (·.1) = false
  | [], _ => rfl
  | e :: es, h => by
    rw [List.all_cons, Bool.and_eq_true] at h
    rw [star_of h.1]
    show (false || (backTo pos (starEach es env)).any (·.1)) = false
    rw [stars_of h.2] <;> rfl
def kwNames (ks : List Keyword) : List Str := ks.filterMap (·.arg)
theorem kws_all {pos : Pos} {env : Env} : ∀ {ks : List Keyword}, ks.all (·.arg.isSome) = true → (backToKw pos (keywordEach ks env)).all (·.1.isSome) = true
  | [], _ => rfl
  | ⟨n, v, p⟩ :: ks, h => by
    rw [List.all_cons, Bool.and_eq_true] at h
    show (n.isSome && (backToKw pos (keywordEach ks env)).all (·.1.isSome)) = true
    rw [kws_all h.2, Bool.and_true]
    exact h.1
theorem kws_none {pos : Pos} {env : Env} : ∀ {ks : List Keyword}, ks.all (·.arg.isSome) = true → (backToKw pos (keywordEach ks env)).any (·.1.isNone) = false
  | [], _ => rfl
  | ⟨n, v, p⟩ :: ks, h => by
    rw [List.all_cons, Bool.and_eq_true] at h
    show (n.isNone || (backToKw pos (keywordEach ks env)).any (·.1.isNone)) = false
    rw [kws_none h.2, Bool.or_false]
    have h1 : n.isSome = true := h.1
    cases n with
    | none => cases h1
    | some x => rfl
theorem kws_names {pos : Pos} {env : Env} : ∀ {ks : List Keyword}, (backToKw pos (keywordEach ks env)).filterMap (·.1) = kwNames ks
  | [] => rfl
  | ⟨n, v, p⟩ :: ks => by
    show List.filterMap (·.1) ((n, _) :: backToKw pos (keywordEach ks env)) = _
    unfold kwNames
    rw [List.filterMap_cons, List.filterMap_cons]
    dsimp only
    cases n with
    | none => exact kws_names
    | some x => exact congrArg (x :: ·) kws_names
/-! ### arguments -/
section
variable (K : Frag) (M : Memo)
def ArR (H0 : Hp) (g : Sg) (σ : L2.St) (H G : Hp) (S : Nat → Addr → Prop) (a : Ar) (x : Option D) (v : V) (T : Addr → Prop) : Prop := match a with
  | .v _ => (∃ d, x = some d ∧ Rep K G d v) ∧ ∀ b, ¬ T b
  | .r (.nm i) => σ[i]? = some (some v) ∧ ∀ b, ¬ T b
  | .r (.ex _) => ∃ d, x = some d ∧ Own K M G H d v T ∧ ∀ b, T b → ¬ Vl M G S b ∧ H0 b = none
/-- U: what the new things among them hold -/
def ArRs (H0 : Hp) (g : Sg) (σ : L2.St) (H G : Hp) (S : Nat → Addr → Prop) : List Ar → List (Option D) → List V → (Addr → Prop) → Prop
  | [], xs, vs, U => xs = [] ∧ vs = [] ∧ ∀ b, ¬ U b
  | a :: as, xs, vs, U => ∃ x xr v vr T U', xs = x :: xr ∧ vs = v :: vr ∧ ArR K M H0 g σ H G S a x v T ∧ ArRs H0 g σ H G S as xr vr U' ∧ (∀ b, U b ↔ T b ∨ U' b) ∧ ∀ b, T b → ¬ U' b
def EndA (W : WX) (σ : L2.St) (H G : Hp) (S : Nat → Addr → Prop) (as : List Ar) (r : Rs (List (Option D))) (Q : List V → Hp → Prop) : Prop := match r with
  | .bad => False
  | .ok xs g' => ∀ vs H' G' S' U, Mt K M g' σ H' G' S' → ArRs K M H g' σ H' G' S' as xs vs U → Stp M H G S H' G' S' → Q vs H'
  | .exc c d g' => EndX K M W σ H G S c d g'
def tA (W : WX) (as : List Ar) : TA := fun σ H Q => ∃ g G S, Mt K M g σ H G S ∧ EndA K M W σ H G S as (evA as g) Q
end
section
variable {K : Frag} {M : Memo} {W : WX} {X : Cx} {σ : L2.St} {H H0 G G0 H1 G1 : Hp} {S S0 S1 : Nat → Addr → Prop} {g g1 : Sg} {T U : Addr → Prop}
theorem ArR.base {a : Ar} {x : Option D} {v : V} (h : ArR K M H1 g σ H G S a x v T) (b : ∀ a, H1 a = none → H0 a = none) : ArR K M H0 g σ H G S a x v T := by
  cases a with
  | v m => exact h
  | r o =>
    cases o with
    | nm i => exact h
    | ex m => obtain ⟨d, e, ow, ap⟩ := h; exact ⟨d, e, ow, fun a ha => ⟨(ap a ha).1, b a (ap a ha).2⟩⟩
theorem ArRs.base : ∀ {as : List Ar} {xs : List (Option D)} {vs : List V} {U : Addr → Prop}, ArRs K M H1 g σ H G S as xs vs U → (∀ a, H1 a = none → H0 a = none) → ArRs K M H0 g σ H G S as xs vs U
  | [], _, _, _, h, _ => h
  | a :: as, _, _, _, h, b => by
    obtain ⟨x, xr, v, vr, T, U', e1, e2, h1, h2, h3⟩ := h
    exact ⟨x, xr, v, vr, T, U', e1, e2, h1.base b, h2.base b, h3⟩
theorem ArR.stp {a : Ar} {x : Option D} {v : V} (h : ArR K M H0 g σ H G S a x v T) (st : Stp M H G S H1 G1 S1) : ArR K M H0 g1 σ H1 G1 S1 a x v T := by
  cases a with
  | v m => obtain ⟨⟨d, e, r⟩, n⟩ := h; exact ⟨⟨d, e, Rep.mono st.gr _ _ r⟩, n⟩
  | r o =>
    cases o with
    | nm i => exact h
    | ex m =>
      obtain ⟨d, e, ow, ap⟩ := h
      refine ⟨d, e, ow.stp st fun a ha => (ap a ha).1, fun a ha => ⟨?_, (ap a ha).2⟩⟩
      obtain ⟨⟨o, ho⟩, _⟩ := ow.there ha
      exact st.apart ho (ap a ha).1
theorem ArRs.stp (st : Stp M H G S H1 G1 S1) : ∀ {as : List Ar} {xs : List (Option D)} {vs : List V} {U : Addr → Prop}, ArRs K M H0 g σ H G S as xs vs U → ArRs K M H0 g1 σ H1 G1 S1 as xs vs U
  | [], _, _, _, h => h
  | a :: as, _, _, _, h => by
    obtain ⟨x, xr, v, vr, T, U', e1, e2, h1, h2, h3⟩ := h
    exact ⟨x, xr, v, vr, T, U', e1, e2, h1.stp st, h2.stp st, h3⟩
theorem ArR.there {a : Ar} {x : Option D} {v : V} (h : ArR K M H0 g σ H G S a x v T) {b : Addr} (hb : T b) : (∃ o, H b = some o) ∧ ¬ Vl M G S b ∧ H0 b = none := by
  cases a with
  | v m => exact (h.2 b hb).elim
  | r o =>
    cases o with
    | nm i => exact (h.2 b hb).elim
    | ex m => obtain ⟨d, e, ow, ap⟩ := h; exact ⟨(ow.there hb).1, ap b hb⟩
theorem ArRs.there : ∀ {as : List Ar} {xs : List (Option D)} {vs : List V} {U : Addr → Prop}, ArRs K M H0 g σ H G S as xs vs U → ∀ {b : Addr}, U b → (∃ o, H b = some o) ∧ ¬ Vl M G S b ∧ H0 b = none
  | [], _, _, _, h, b, hb => (h.2.2 b hb).elim
  | a :: as, _, _, _, h, b, hb => by
    obtain ⟨x, xr, v, vr, T, U', e1, e2, h1, h2, h3, h4⟩ := h
    rcases (h3 b).mp hb with z | z
    · exact h1.there z
    · exact h2.there z
/-- two rows of arguments, one behind the other -/
theorem ArRs.app : ∀ {as bs : List Ar} {xs ys : List (Option D)} {vs us : List V} {U U2 : Addr → Prop}, ArRs K M H0 g σ H G S as xs vs U → ArRs K M H0 g σ H G S bs ys us U2 → (∀ b, U b → ¬ U2 b) → ArRs K M H0 g σ H G S (as ++ bs) (xs ++ ys) (vs ++ us) fun b => U b ∨ U2 b
  | [], bs, _, ys, _, us, U, U2, h, h2, ap => by
    obtain ⟨rfl, rfl, n⟩ := h
    have e : (fun b => U b ∨ U2 b) = U2 := funext fun b => propext ⟨fun z => z.elim (fun y => (n b y).elim) id, .inr⟩
    rw [e]
    exact h2
  | a :: as, bs, _, ys, _, us, U, U2, h, h2, ap => by
    obtain ⟨x, xr, v, vr, T, U', rfl, rfl, q1, q2, q3, q4⟩ := h
    refine ⟨x, xr ++ ys, v, vr ++ us, T, fun b => U' b ∨ U2 b, rfl, rfl, q1, ArRs.app q2 h2 fun b z => ap b ((q3 b).mpr (.inr z)), fun b => ?_, fun b hb z => ?_⟩
    · show U b ∨ U2 b ↔ T b ∨ (U' b ∨ U2 b)
      rw [q3 b, or_assoc]
    · rcases z with z | z
      · exact q4 b hb z
      · exact ap b ((q3 b).mpr (.inl hb)) z
theorem EndA.of {as : List Ar} {r : Rs (List (Option D))} {Q : List V → Hp → Prop} (h : EndA K M W σ H G S as r Q) (st : Stp M H G S H1 G1 S1) : EndA K M W σ H1 G1 S1 as r Q := by
  cases r with
  | bad => exact h
  | ok x g' => exact fun v H' G' S' U m rr s => h v H' G' S' U m (rr.base fun a => st.back) (st.trans s)
  | exc c d g' => exact EndX.of h st
theorem pa_A0 : PA X [] (tA K M W []) := by
  refine PA.imp pa_nil fun σ H Q q => ?_
  obtain ⟨g, G, S, m, q⟩ := q
  exact (show EndA K M W σ H G S [] (.ok [] g) Q from q) [] H G S none_ m ⟨rfl, rfl, fun b z => z⟩ Stp.refl
/-- an argument's expression -/
def PAr (K : Frag) (M : Memo) (W : WX) (X : Cx) (e : Expr) : Ar → Prop
  | .v m => PE X e (tP K M W m)
  | .r o => PE X e (tO K M W o)
/-- what the reading of the first argument is -/
def tAr (K : Frag) (M : Memo) (W : WX) : Ar → TE
  | .v m => tP K M W m
  | .r o => tO K M W o
theorem PAr.pe {e : Expr} {a : Ar} (h : PAr K M W X e a) : PE X e (tAr K M W a) := by cases a <;> exact h
theorem cons_A {a : Ar} {as : List Ar} {Q : List V → Hp → Prop} (q : tA K M W (a :: as) σ H Q) : tCons (tAr K M W a) (tA K M W as) σ H Q := by
  obtain ⟨g, G, S, mt, q⟩ := q
  cases a with
  | v m =>
    refine ⟨g, G, S, mt, ?_⟩
    unfold evA at q
    cases er : m g with
    | bad => rw [er] at q; exact q
    | exc c d g' => rw [er] at q; exact q
    | ok d g1 =>
      rw [er, Rs.bind_ok] at q
      intro v H1 G1 S1 T got st
      obtain ⟨G1', m1, r1, sb, hg, hv⟩ := got.seal
      have st1 := st.sealed sb hg hv
      refine ⟨g1, G1', S1, m1, ?_⟩
      cases er2 : evA as g1 with
      | bad => rw [er2] at q; exact q
      | exc c d g' => rw [er2] at q; exact EndX.of q st1
      | ok xs g2 =>
        rw [er2] at q
        intro vs H2 G2 S2 U m2 r2 st2
        exact (show EndA K M W σ H G S _ (.ok (some (sealD d) :: xs) g2) Q from q) (v :: vs) H2 G2 S2 U m2
          ⟨_, xs, v, vs, none_, U, rfl, rfl, ⟨⟨_, rfl, Rep.mono st2.gr _ _ r1⟩, fun b z => z⟩, r2.base fun a => st1.back, fun b => ⟨.inr, fun z => z.elim (fun y => y.elim) id⟩, fun b z => z.elim⟩ (st1.trans st2)
  | r o =>
    refine ⟨g, G, S, mt, ?_⟩
    unfold evA at q
    cases er : evO o g with
    | bad => rw [er] at q; exact q
    | exc c d g' => rw [er] at q; exact q
    | ok x g1 =>
      rw [er, Rs.bind_ok] at q
      intro v H1 G1 S1 m1 r1 st
      refine ⟨g1, G1, S1, m1, ?_⟩
      cases er2 : evA as g1 with
      | bad => rw [er2] at q; exact q
      | exc c d g' => rw [er2] at q; exact EndX.of q st
      | ok xs g2 =>
        rw [er2] at q
        intro vs H2 G2 S2 U m2 r2 st2
        have fin := (show EndA K M W σ H G S _ (.ok (x :: xs) g2) Q from q) (v :: vs) H2 G2 S2
        cases o with
        | nm i => exact fin U m2 ⟨x, xs, v, vs, none_, U, rfl, rfl, ⟨r1, fun b z => z⟩, r2.base fun a => st.back, fun b => ⟨.inr, fun z => z.elim (fun y => y.elim) id⟩, fun b z => z.elim⟩ (st.trans st2)
        | ex mm =>
          obtain ⟨d, T, e, ow, ap⟩ := r1
          refine fin (fun b => T b ∨ U b) m2 ⟨x, xs, v, vs, T, U, rfl, rfl, ⟨d, e, ow.stp st2 fun b hb => (ap b hb).1, fun b hb => ⟨?_, (ap b hb).2⟩⟩, r2.base fun a => st.back, fun b => Iff.rfl, fun b hb z => ?_⟩ (st.trans st2)
          · obtain ⟨⟨o, ho⟩, _⟩ := ow.there hb
            exact st2.apart ho (ap b hb).1
          · have h1 := (r2.there z).2.2
            obtain ⟨⟨o1, h2⟩, _⟩ := ow.there hb
            rw [h1] at h2; cases h2
theorem pa_Ac {e : Expr} {es : List Expr} {a : Ar} {as : List Ar} (hp : PAr K M W X e a) (hr : PA X es (tA K M W as)) (hs : noStar e = true) : PA X (e :: es) (tA K M W (a :: as)) :=
  PA.imp (pa_cons hp.pe hr (star_of hs)) fun σ H Q q => cons_A q
theorem pk_A0 : PK X [] (tA K M W []) := ⟨fun pos pins s σ H Q I q => by
  obtain ⟨g, G, S, m, q⟩ := q
  exact pk_nil.run pos pins s σ H Q I ((show EndA K M W σ H G S [] (.ok [] g) Q from q) [] H G S none_ m ⟨rfl, rfl, fun b z => z⟩ Stp.refl)⟩
theorem pk_Ac {nm : Option Str} {kp : Pos} {e : Expr} {ks : List Keyword} {a : Ar} {as : List Ar} (hp : PAr K M W X e a) (hr : PK X ks (tA K M W as)) : PK X (⟨nm, e, kp⟩ :: ks) (tA K M W (a :: as)) :=
  ⟨fun pos pins s σ H Q I q => (pk_cons hp.pe hr).run pos pins s σ H Q I (cons_A q)⟩
end
end PI

set_option Elab.async false
set_option linter.all false
set_option maxRecDepth 100000
set_option maxHeartbeats 1000000
namespace PI
open PySem PySem.Spec PyProof.Rows L2
open PySem.W (Frag)
/-! ### from arguments to parameters -/
section
variable {K : Frag} {M : Memo} {W : WX} {X : Cx} {σ : L2.St} {H H0 G G0 H1 G1 : Hp} {S S0 S1 : Nat → Addr → Prop} {g g1 : Sg} {T U : Addr → Prop}
theorem evA_app : ∀ (as bs : List Ar) (g : Sg), evA (as ++ bs) g = (evA as g).bind fun xs g1 => (evA bs g1).bind fun ys g2 => .ok (xs ++ ys) g2
  | [], bs, g => by
    show evA bs g = (Rs.ok [] g).bind _
    rw [Rs.bind_ok]
    cases evA bs g <;> rfl
  | .v m :: as, bs, g => by
    show (m g).bind (fun d g1 => (evA (as ++ bs) g1).bind fun xs g2 => .ok (some (sealD d) :: xs) g2) = ((m g).bind _).bind _
    cases m g with
    | bad => rfl
    | exc c d g' => rfl
    | ok d g1 =>
      rw [Rs.bind_ok, Rs.bind_ok, evA_app as bs g1]
      cases evA as g1 with
      | bad => rfl
      | exc c d g' => rfl
      | ok xs g2 =>
        rw [Rs.bind_ok, Rs.bind_ok, Rs.bind_ok]
        cases evA bs g2 <;> rfl
  | .r o :: as, bs, g => by
    show (evO o g).bind (fun x g1 => (evA (as ++ bs) g1).bind fun xs g2 => .ok (x :: xs) g2) = ((evO o g).bind _).bind _
    cases evO o g with
    | bad => rfl
    | exc c d g' => rfl
    | ok d g1 =>
      rw [Rs.bind_ok, Rs.bind_ok, evA_app as bs g1]
      cases evA as g1 with
      | bad => rfl
      | exc c d g' => rfl
      | ok xs g2 =>
        rw [Rs.bind_ok, Rs.bind_ok, Rs.bind_ok]
        cases evA bs g2 <;> rfl
theorem dist_c {o : Option Nat} {l : List (Option Nat)} (h : distinct (o :: l) = true) : distinct l = true ∧ ∀ n, o = some n → some n ∉ l := by
  unfold distinct at h ⊢
  have h := of_decide_eq_true h
  cases o with
  | none => exact ⟨decide_eq_true h, fun n z => by cases z⟩
  | some k =>
    have h : (k :: l.filterMap id).Nodup := h
    rw [List.nodup_cons] at h
    refine ⟨decide_eq_true h.2, fun n z q => h.1 ?_⟩
    cases z
    exact List.mem_filterMap.mpr ⟨some k, q, rfl⟩
theorem apart_c {e : En} {es : List En} (h : ∀ e' ∈ es, ∀ a, e.B a → ¬ e'.B a) (hs : Apart es) : Apart (e :: es)
  | 0, 0, _, _, _, _, _, _, _ => rfl
  | 0, j + 1, x, y, a, h1, h2, b1, b2 => by
    simp at h1 h2; subst h1
    exact (h y (List.mem_of_getElem? h2) a b1 b2).elim
  | i + 1, 0, x, y, a, h1, h2, b1, b2 => by
    simp at h1 h2; subst h2
    exact (h x (List.mem_of_getElem? h1) a b2 b1).elim
  | i + 1, j + 1, x, y, a, h1, h2, b1, b2 => by
    simp at h1 h2
    exact congrArg Nat.succ (hs i j x y a h1 h2 b1 b2)
theorem ens_of (m : Mt K M g σ H G S) : ∀ {as : List Ar} {xs : List (Option D)} {vs : List V} {U : Addr → Prop} {ds : List D}, ArRs K M H0 g σ H G S as xs vs U → rdA g as xs = some ds → distinct (as.map nmA) = true →
    ∃ es : List En, es.map (·.d) = ds ∧ es.map (·.v) = vs ∧ es.map (·.s) = as.map nmA ∧ (∀ e ∈ es, EnOk K M H0 g σ H G S e) ∧ Apart es ∧ ∀ e ∈ es, e.s = none → ∀ a, e.B a → U a
  | [], xs, vs, U, ds, h, e, dn => by
    obtain ⟨rfl, rfl, n⟩ := h
    cases (show some ([] : List D) = some ds from e)
    exact ⟨[], rfl, rfl, rfl, fun e z => (List.not_mem_nil z).elim, fun i j e e' a z => (by simp at z), fun e z => (List.not_mem_nil z).elim⟩
  | a :: as, xs, vs, U, ds, h, e, dn => by
    obtain ⟨x, xr, v, vr, T, U', rfl, rfl, h1, h2, h3, h4⟩ := h
    obtain ⟨d1, d2⟩ := dist_c dn
    -- the first one's entry
    have key : ∃ d dr, ds = d :: dr ∧ rdA g as xr = some dr ∧ ∃ B, EnOk K M H0 g σ H G S ⟨d, v, B, nmA a⟩ ∧ (nmA a = none → ∀ b, B b → T b) := by
      cases a with
      | v mm =>
        obtain ⟨⟨d, rfl, r⟩, n⟩ := h1
        change (rdA g as xr).map _ = _ at e
        cases e1 : rdA g as xr with
        | none => rw [e1] at e; cases e
        | some dr =>
          rw [e1] at e; cases e
          exact ⟨d, dr, rfl, rfl, none_, ⟨Own.of r, fun b z => z.elim⟩, fun _ b z => z.elim⟩
      | r o =>
        have e' : (match rdO g o x, rdA g as xr with
          | some d, some ds => some (d :: ds)
          | _, _ => none) = some ds := e
        cases e0 : rdO g o x with
        | none => rw [e0] at e'; cases e'
        | some d =>
          cases e1 : rdA g as xr with
          | none => rw [e0, e1] at e'; cases e'
          | some dr =>
            rw [e0, e1] at e'; cases e'
            cases o with
            | nm i =>
              obtain ⟨hv, n⟩ := h1
              have e2 : g[i]? = some (some d) := by
                unfold rdO at e0
                dsimp only at e0
                cases q : g[i]? with
                | none => rw [q] at e0; cases e0
                | some z => rw [q] at e0; exact congrArg some e0
              obtain ⟨v', ev, ow⟩ := m.own i d e2
              rw [hv] at ev; cases ev
              exact ⟨d, dr, rfl, rfl, S i, ⟨ow, rfl, e2, hv⟩, fun z => by cases z⟩
            | ex mm =>
              obtain ⟨d', e3, ow, ap⟩ := h1
              unfold rdO at e0
              dsimp only at e0
              rw [e3] at e0; cases e0
              exact ⟨d, dr, rfl, rfl, T, ⟨ow, ap⟩, fun _ b z => z⟩
    obtain ⟨d, dr, rfl, er, B, eo, eT⟩ := key
    obtain ⟨es, q1, q2, q3, q4, q5, q6⟩ := ens_of m h2 er d1
    refine ⟨⟨d, v, B, nmA a⟩ :: es, by rw [List.map_cons, q1], by rw [List.map_cons, q2], by rw [List.map_cons, List.map_cons, q3], fun e z => ?_, apart_c (fun e' he b hb hb' => ?_) q5, fun e z z2 b hb => ?_⟩
    · rcases List.mem_cons.mp z with z | z
      · rw [z]; exact eo
      · exact q4 e z
    · obtain ⟨_, o1⟩ := eo
      obtain ⟨_, o2⟩ := q4 e' he
      cases c1 : nmA a with
      | none =>
        have hT := eT c1 b hb
        cases c2 : e'.s with
        | none => exact h4 b hT (q6 e' he c2 b hb')
        | some j =>
          rw [c2] at o2
          rw [o2.1] at hb'
          rw [c1] at o1
          exact (o1 b hb).1 (.inl ⟨j, hb'⟩)
      | some i =>
        rw [c1] at o1
        rw [o1.1] at hb
        cases c2 : e'.s with
        | none =>
          rw [c2] at o2
          exact (o2 b hb').1 (.inl ⟨i, hb⟩)
        | some j =>
          rw [c2] at o2
          rw [o2.1] at hb'
          have := m.dis i j b hb hb'
          subst this
          refine d2 i c1 ?_
          rw [← q3, ← c2]
          exact List.mem_map_of_mem he
    · rcases List.mem_cons.mp z with z | z
      · subst z
        exact (h3 b).mpr (.inl (eT z2 b hb))
      · exact (h3 b).mpr (.inr (q6 e z z2 b hb))
/-! ### parameters -/
def inlOf : Sum Nat D → Option Nat
  | .inl i => some i
  | .inr _ => none
theorem pmL_get {α : Type} {xs : List α} {k : D → α} : ∀ {pm : Pm} {r : List α}, pmL xs k pm = some r → r.length = pm.length ∧ ∀ (j : Nat) (x : α), r[j]? = some x → ∃ p, pm[j]? = some p ∧ pmAt xs k p = some x
  | [], r, h => by
    cases (show some ([] : List α) = some r from h)
    exact ⟨rfl, fun j x z => by simp at z⟩
  | p :: ps, r, h => by
    unfold pmL at h
    cases e1 : pmAt xs k p with
    | none => rw [e1] at h; cases h
    | some y =>
      cases e2 : pmL xs k ps with
      | none => rw [e1, e2] at h; cases h
      | some r' =>
        rw [e1, e2] at h; cases h
        obtain ⟨l, q⟩ := pmL_get e2
        refine ⟨congrArg Nat.succ l, fun j x z => ?_⟩
        cases j with
        | zero => simp at z; subst z; exact ⟨p, rfl, e1⟩
        | succ j => exact q j x (by simpa using z)
theorem pmL_map {α β : Type} (f : α → β) {xs : List α} {k : D → α} {k' : D → β} (hk : ∀ d, f (k d) = k' d) : ∀ (pm : Pm), pmL (xs.map f) k' pm = (pmL xs k pm).map (List.map f)
  | [] => rfl
  | p :: ps => by
    unfold pmL
    rw [pmL_map f hk ps]
    have e : pmAt (xs.map f) k' p = (pmAt xs k p).map f := by
      cases p with
      | inl i => exact List.getElem?_map
      | inr d => exact congrArg some (hk d).symm
    rw [e]
    cases pmAt xs k p with
    | none => rfl
    | some x => cases pmL xs k ps <;> rfl
theorem dist_inl {pm : Pm} (h : distinct (pm.map inlOf) = true) : ∀ (i j k : Nat), pm[i]? = some (.inl k) → pm[j]? = some (.inl k) → i = j := by
  induction pm with
  | nil => intro i j k z; simp at z
  | cons p ps ih =>
    obtain ⟨d1, d2⟩ := dist_c (show distinct (inlOf p :: ps.map inlOf) = true from h)
    intro i j k h1 h2
    cases i with
    | zero =>
      cases j with
      | zero => rfl
      | succ j =>
        simp at h1 h2; subst h1
        exact (d2 k rfl (List.mem_map.mpr ⟨_, List.mem_of_getElem? h2, rfl⟩)).elim
    | succ i =>
      cases j with
      | zero =>
        simp at h1 h2; subst h2
        exact (d2 k rfl (List.mem_map.mpr ⟨_, List.mem_of_getElem? h1, rfl⟩)).elim
      | succ j => exact congrArg Nat.succ (ih d1 i j k (by simpa using h1) (by simpa using h2))
theorem pmL_some {α β : Type} {xs : List α} {ys : List β} {k : D → α} {k' : D → β} (hl : xs.length = ys.length) : ∀ {pm : Pm} {r : List α}, pmL xs k pm = some r → ∃ q, pmL ys k' pm = some q
  | [], r, h => ⟨[], rfl⟩
  | p :: ps, r, h => by
    unfold pmL at h ⊢
    cases e1 : pmAt xs k p with
    | none => rw [e1] at h; cases h
    | some y =>
      cases e2 : pmL xs k ps with
      | none => rw [e1, e2] at h; cases h
      | some r' =>
        obtain ⟨q, eq⟩ := pmL_some (k' := k') hl e2
        cases p with
        | inl i =>
          have : i < ys.length := by rw [← hl]; exact (List.getElem?_eq_some_iff.mp e1).1
          refine ⟨ys[i] :: q, ?_⟩
          show (match ys[i]?, pmL ys k' ps with
            | some x, some r => some (x :: r)
            | _, _ => none) = _
          rw [eq, List.getElem?_eq_getElem this]
        | inr d =>
          refine ⟨k' d :: q, ?_⟩
          show (match some (k' d), pmL ys k' ps with
            | some x, some r => some (x :: r)
            | _, _ => none) = _
          rw [eq]
end
end PI

set_option Elab.async false
set_option linter.all false
set_option maxRecDepth 100000
set_option maxHeartbeats 1000000
namespace PI
open PySem PySem.Spec PyProof.Rows L2
open PySem.W (Frag)
/-! ### what a def promises: the pure function f, the parameters rf handed back -/
section
variable (K : Frag) (M : Memo)
def EndC (n : Nat) (rf : List Nat) (σ : L2.St) (H G : Hp) (B : Nat → Addr → Prop) (r : Cr) (Q : VK) (E : XK) : Prop := match r with
  | .bad => False
  | .ok d rs => ∀ v H' G' B' T, Got K M H (retG n rf rs) σ H' G' B' d v T → Stp M H G B H' G' B' → Q v H'
  | .exc c d rs => ∀ v H' G' B' dd, Mt K M (retG n rf rs) σ H' G' B' → Rep K G' d v → Stp M H G B H' G' B' → H' dd = some (.xd [("value", v)]) → E (.ref (He.ga K c)) (some dd) H'
def spF (f : List D → Cr) (rf : List Nat) (n : Nat) : Sp := fun vs H Q E => vs.length = n ∧ ∃ ds G B, Mt K M (ds.map some) (vs.map some) H G B ∧ EndC K M n rf (vs.map some) H G B (f ds) Q E
end
section
variable {K : Frag} {M : Memo} {W : WX} {X : Cx} {σ : L2.St} {H H0 G G0 H1 G1 : Hp} {S S0 S1 : Nat → Addr → Prop} {g g1 : Sg} {T U : Addr → Prop} {Q : VK}
theorem retG_len {n : Nat} {rf : List Nat} {rs : List D} : (retG n rf rs).length = n := by unfold retG; rw [List.length_map, List.length_range]
theorem nodup_at {l : List (Option Nat)} (h : distinct l = true) {i j n : Nat} (h1 : l[i]? = some (some n)) (h2 : l[j]? = some (some n)) : i = j := by
  induction l generalizing i j with
  | nil => simp at h1
  | cons o l ih =>
    obtain ⟨d1, d2⟩ := dist_c h
    cases i with
    | zero =>
      cases j with
      | zero => rfl
      | succ j =>
        simp at h1 h2
        exact (d2 n h1 (List.mem_of_getElem? h2)).elim
    | succ i =>
      cases j with
      | zero =>
        simp at h1 h2
        exact (d2 n h2 (List.mem_of_getElem? h1)).elim
      | succ j => exact congrArg Nat.succ (ih d1 (by simpa using h1) (by simpa using h2))
theorem call_core {as : List Ar} {pm : Pm} {xs : List (Option D)} {vs ws : List V} {ds es : List D} {ns : List (Option Nat)} {kv : D → V}
    (m : Mt K M g σ H G S) (h : ArRs K M H0 g σ H G S as xs vs U) (e1 : rdA g as xs = some ds) (e2 : pmL ds id pm = some es) (e3 : pmL (as.map nmA) (fun _ => none) pm = some ns)
    (dn : distinct (as.map nmA) = true) (dp : distinct (pm.map inlOf) = true) (hk : ∀ d, Sum.inr d ∈ pm → ∀ G, Rep K G d (kv d)) (e4 : pmL vs kv pm = some ws) :
    ∃ pe : List En, pe.map (·.d) = es ∧ pe.map (·.v) = ws ∧ pe.map (·.s) = ns ∧ pe.length = pm.length ∧ (∀ e ∈ pe, EnOk K M H0 g σ H G S e) ∧ Apart pe ∧
      (∀ (i j : Nat) (e e' : En) (n : Nat), pe[i]? = some e → pe[j]? = some e' → e.s = some n → e'.s = some n → i = j) := by
  obtain ⟨ens, q1, q2, q3, q4, q5, q6⟩ := ens_of m h e1 dn
  have hle : ens.length = vs.length := by rw [← q2, List.length_map]
  obtain ⟨pe, ep⟩ := pmL_some (k' := fun d => (⟨d, kv d, none_, none⟩ : En)) hle.symm e4
  obtain ⟨lp, gp⟩ := pmL_get ep
  have d1 : pe.map (·.d) = es := by
    have := pmL_map (f := En.d) (xs := ens) (k := fun d => (⟨d, kv d, none_, none⟩ : En)) (k' := id) (fun d => rfl) pm
    rw [q1, ep, e2] at this
    exact (Option.some.inj this).symm
  have d2 : pe.map (·.v) = ws := by
    have := pmL_map (f := En.v) (xs := ens) (k := fun d => (⟨d, kv d, none_, none⟩ : En)) (k' := kv) (fun d => rfl) pm
    rw [q2, ep, e4] at this
    exact (Option.some.inj this).symm
  have d3 : pe.map (·.s) = ns := by
    have := pmL_map (f := En.s) (xs := ens) (k := fun d => (⟨d, kv d, none_, none⟩ : En)) (k' := fun _ => none) (fun d => rfl) pm
    rw [q3, ep, e3] at this
    exact (Option.some.inj this).symm
  -- each parameter's entry
  have pick : ∀ (j : Nat) (e : En), pe[j]? = some e → (∃ i, pm[j]? = some (.inl i) ∧ ens[i]? = some e) ∨ ((∀ a, ¬ e.B a) ∧ e.s = none ∧ Rep K G e.d e.v) := fun j e z => by
    obtain ⟨p, z1, z2⟩ := gp j e z
    cases p with
    | inl i => exact .inl ⟨i, z1, z2⟩
    | inr d =>
      cases (show some (⟨d, kv d, none_, none⟩ : En) = some e from z2)
      exact .inr ⟨fun a z => z, rfl, hk d (List.mem_of_getElem? z1) G⟩
  have ok : ∀ e ∈ pe, EnOk K M H0 g σ H G S e := fun e he => by
    obtain ⟨j, ej⟩ := List.getElem?_of_mem he
    rcases pick j e ej with ⟨i, _, z⟩ | ⟨z1, z2, z3⟩
    · exact q4 e (List.mem_of_getElem? z)
    · refine ⟨.inl ⟨z3, z1⟩, ?_⟩
      rw [z2]
      exact fun a z => (z1 a z).elim
  have ap : Apart pe := fun i j e e' a h1 h2 b1 b2 => by
    rcases pick i e h1 with ⟨k, z1, z2⟩ | ⟨z, _⟩
    · rcases pick j e' h2 with ⟨l, y1, y2⟩ | ⟨y, _⟩
      · have := q5 k l e e' a z2 y2 b1 b2
        subst this
        exact dist_inl dp i j k z1 y1
      · exact (y a b2).elim
    · exact (z a b1).elim
  have inj : ∀ (i j : Nat) (e e' : En) (n : Nat), pe[i]? = some e → pe[j]? = some e' → e.s = some n → e'.s = some n → i = j := fun i j e e' n h1 h2 b1 b2 => by
    rcases pick i e h1 with ⟨k, z1, z2⟩ | ⟨_, z, _⟩
    · rcases pick j e' h2 with ⟨l, y1, y2⟩ | ⟨_, y, _⟩
      · have a1 : (as.map nmA)[k]? = some (some n) := by rw [← q3, List.getElem?_map, z2]; exact congrArg some b1
        have a2 : (as.map nmA)[l]? = some (some n) := by rw [← q3, List.getElem?_map, y2]; exact congrArg some b2
        have : k = l := nodup_at dn a1 a2
        subst this
        exact dist_inl dp i j k z1 y1
      · rw [y] at b2; cases b2
    · rw [z] at b1; cases b1
  exact ⟨pe, d1, d2, d3, lp, ok, ap, inj⟩
theorem call_fin {f : List D → Cr} {rf : List Nat} {as : List Ar} {pm : Pm} {xs : List (Option D)} {vs ws : List V} {ds es : List D} {ns : List (Option Nat)} {kv : D → V}
    (m : Mt K M g σ H G S) (st0 : Stp M H0 G0 S0 H G S) (h : ArRs K M H0 g σ H G S as xs vs U) (e1 : rdA g as xs = some ds) (e2 : pmL ds id pm = some es) (e3 : pmL (as.map nmA) (fun _ => none) pm = some ns)
    (dn : distinct (as.map nmA) = true) (dp : distinct (pm.map inlOf) = true) (hk : ∀ d, Sum.inr d ∈ pm → ∀ G, Rep K G d (kv d)) (e4 : pmL vs kv pm = some ws) (q : EndE K M W σ H0 G0 S0 (callC f ns es rf g) Q) : spF K M f rf pm.length ws H Q (WE W σ) := by
  obtain ⟨pe, d1, d2, d3, lp, ok, ap, inj⟩ := call_core m h e1 e2 e3 dn dp hk e4
  have cm := callee_mt (H0 := H0) m ok ap
  have eD : (pe.map fun e => some e.d) = es.map some := by rw [← d1, List.map_map]; rfl
  have eV : (pe.map fun e => some e.v) = ws.map some := by rw [← d2, List.map_map]; rfl
  rw [eD, eV] at cm
  have lw : ws.length = pm.length := by rw [← d2, List.length_map, lp]
  have ls : es.length = pm.length := by rw [← d1, List.length_map, lp]
  refine ⟨lw, es, G, bOf pe, cm, ?_⟩
  unfold callC at q
  cases er : f es with
  | bad => rw [er] at q; exact q
  | ok d rs =>
    rw [er] at q
    intro v H' G' B' T ⟨m', ow, at_⟩ st
    rw [ls] at q
    have lr : (retG pm.length rf rs).length = pe.length := by rw [retG_len, lp]
    rw [← eV] at m'
    obtain ⟨b1, b2, b3⟩ := back_mt (H0 := H0) m st0 ok ap inj lr m' st
    rw [d3] at b1
    refine q v H' G' (backS pe S B') T ⟨b1, ow, fun a ha => ?_⟩ b2
    obtain ⟨c1, c2⟩ := at_ a ha
    exact ⟨b3 a c2 c1, st0.back c2⟩
  | exc c d rs =>
    rw [er] at q
    intro v H' G' B' dd m' r st x
    rw [ls] at q
    have lr : (retG pm.length rf rs).length = pe.length := by rw [retG_len, lp]
    rw [← eV] at m'
    obtain ⟨b1, b2, b3⟩ := back_mt (H0 := H0) m st0 ok ap inj lr m' st
    rw [d3] at b1
    exact q v H' G' (backS pe S B') dd b1 r b2 x
end
end PI

set_option Elab.async false
set_option linter.all false
set_option maxRecDepth 100000
set_option maxHeartbeats 1000000
namespace PI
open PySem PySem.Spec PyProof.Rows L2
open PySem.W (Frag)
/-! ### binding: n positional values, keywords ks; pm tells where each parameter's value comes from -/
def BindP (K : Frag) (fd : FuncData) (ps : List Str) (n : Nat) (ks : List Str) (pm : Pm) : Prop :=
  pm.length = ps.length ∧ ∃ (kv : D → V) (kk : D → Value), (∀ d, Sum.inr d ∈ pm → (∀ G, Rep K G d (kv d)) ∧ RelV (kv d) (kk d)) ∧
    ∀ (s : Shared) (us ws : List Value), K.In s.heap → us.length = n → ws.length = ks.length → ∃ zs, pmL (us ++ ws) kk pm = some zs ∧ BindsTo s fd ⟨us, ks.zip ws⟩ (ps.zip zs)
section
variable {K : Frag} {x qual : Str} {params : Arguments} {body : List Stmt} {scope : Scope} {dvs : List V} {kws : List (Str × V)} {f : Addr} {fd : FuncData} {ps : List Str}
/-- no defaults -/
theorem bindP_0 (F : FunD K x qual params body scope [] kws f fd) (n : Nat) (ks : List Str) (l : List Nat) (hl : l.length = ps.length)
    (h : ∀ (kV doc pm : Value) (an : Option Addr) (cdv ct : Value) (us ws : List Value), us.length = n → ws.length = ks.length → ∃ zs, pmL (us ++ ws) (fun _ => Value.none) (l.map Sum.inl) = some zs ∧ bindArgs (PySem.W.fnOf x qual params body scope .none kV doc pm an cdv ct) ⟨us, ks.zip ws⟩ = pure (ps.zip zs)) :
    BindP K fd ps n ks (l.map Sum.inl) := by
  obtain ⟨oc, od, dV, kV, doc, pm, an, cdv, ct, osl, rfl, lk, hcd, hD, hK⟩ := F.ex
  rcases hD with ⟨_, rfl⟩ | ⟨e, _⟩
  · refine ⟨by rw [List.length_map]; exact hl, fun _ => .non, fun _ => Value.none, fun d hd => ?_, fun s us ws _ l1 l2 => ?_⟩
    · obtain ⟨i, _, z⟩ := List.mem_map.mp hd
      cases z
    · obtain ⟨zs, e1, e2⟩ := h kV doc pm an cdv ct us ws l1 l2
      exact ⟨zs, e1, .of_eq e2⟩
  · exact absurd rfl e
/-- defaults: dd their values -/
theorem bindP_d (F : FunD K x qual params body scope dvs kws f fd) (n : Nat) (ks : List Str) (pm : Pm) (kv : D → V) (ix : D → Nat) (hl : pm.length = ps.length) (hd : dvs ≠ [])
    (hk : ∀ d, Sum.inr d ∈ pm → (∀ G, Rep K G d (kv d)) ∧ dvs[ix d]? = some (kv d))
    (h : ∀ (T : Addr) (kV doc p : Value) (an : Option Addr) (cdv ct : Value) (us its ws : List Value), us.length = n → its.length = dvs.length → ws.length = ks.length →
      ∃ k zs, bindArgs (PySem.W.fnOf x qual params body scope (.ref T) kV doc p an cdv ct) ⟨us, ks.zip ws⟩ = seqItems? (.ref T) >>= k ∧ k (some its.toArray) = pure (ps.zip zs) ∧ pmL (us ++ ws) (fun d => its.getD (ix d) Value.none) pm = some zs) :
    BindP K fd ps n ks pm := by
  obtain ⟨oc, od, dV, kV, doc, p, an, cdv, ct, osl, rfl, lk, hcd, hD, hK⟩ := F.ex
  rcases hD with ⟨e, _⟩ | ⟨_, T, o, its, m, rfl, lT, oT, rT⟩
  · exact absurd e hd
  · refine ⟨hl, kv, fun d => its.getD (ix d) Value.none, fun d z => ⟨(hk d z).1, ?_⟩, fun s us ws Xi l1 l2 => ?_⟩
    · have := (hk d z).2
      have l1 : its.length = dvs.length := rT.length.symm
      have li : ix d < its.length := by rw [l1]; exact (List.getElem?_eq_some_iff.mp this).1
      show L2.RelV (kv d) (its.getD (ix d) Value.none)
      rw [List.getD_eq_getElem?_getD, List.getElem?_eq_getElem li]
      exact vals_at rT this (List.getElem?_eq_getElem li)
    · obtain ⟨k, zs, e1, e2, e3⟩ := h T kV doc p an cdv ct us its ws l1 rT.length.symm l2
      refine ⟨zs, e3, BindsTo.of_looks fun M => ?_⟩
      rw [e1]
      exact looks_items Xi lT oT (.of_pure e2)
where
  vals_at {vs : List V} {us : List Value} (r : Vals vs us) {i : Nat} {v : V} {u : Value} (h1 : vs[i]? = some v) (h2 : us[i]? = some u) : RelV v u := by
    induction r generalizing i with
    | nil => simp at h1
    | cons h _ ih =>
      cases i with
      | zero => simp at h1 h2; subst h1 h2; exact h
      | succ i => exact ih (by simpa using h1) (by simpa using h2)
end
theorem pmL_c {α : Type} {xs : List α} {k : D → α} {p : Sum Nat D} {ps : Pm} {x : α} {r : List α} (h1 : pmAt xs k p = some x) (h2 : pmL xs k ps = some r) : pmL xs k (p :: ps) = some (x :: r) := by
  unfold pmL
  rw [h1, h2]
theorem vals_pm {vs : List V} {us : List Value} (r : Vals vs us) {kv : D → V} {kk : D → Value} : ∀ {pm : Pm}, (∀ d, Sum.inr d ∈ pm → RelV (kv d) (kk d)) → ∀ {zs : List Value}, pmL us kk pm = some zs → ∃ ws, pmL vs kv pm = some ws ∧ Vals ws zs
  | [], hk, zs, h => by
    cases (show some ([] : List Value) = some zs from h)
    exact ⟨[], rfl, .nil⟩
  | p :: ps, hk, zs, h => by
    unfold pmL at h
    cases e1 : pmAt us kk p with
    | none => rw [e1] at h; cases h
    | some y =>
      cases e2 : pmL us kk ps with
      | none => rw [e1, e2] at h; cases h
      | some r' =>
        rw [e1, e2] at h; cases h
        obtain ⟨ws, q1, q2⟩ := vals_pm r (fun d hd => hk d (List.mem_cons_of_mem _ hd)) e2
        cases p with
        | inl i =>
          have e1 : us[i]? = some y := e1
          have hi : i < vs.length := by rw [r.length]; exact (List.getElem?_eq_some_iff.mp e1).1
          refine ⟨vs[i] :: ws, ?_, .cons (bindP_d.vals_at r (List.getElem?_eq_getElem hi) e1) q2⟩
          exact pmL_c (show pmAt vs kv (.inl i) = some vs[i] from List.getElem?_eq_getElem hi) q1
        | inr d =>
          cases (show some (kk d) = some y from e1)
          refine ⟨kv d :: ws, ?_, .cons (hk d (List.mem_cons_self ..)) q2⟩
          exact pmL_c (show pmAt vs kv (.inr d) = some (kv d) from rfl) q1
/-! ### a def called by its name -/
section
variable {K : Frag} {M : Memo} {W : WX} {X : Cx} {k : Nat} {f : Addr} {fd : FuncData} {ps : List Str} {ff : List D → Cr} {rf : List Nat} {pm : Pm} {n : Nat} {ks : List Str} {σ : L2.St} {H : Hp} {s : Shared} {Q : VK} {pins : List (Addr × Obj)}
/-- where all arguments are reckoned -/
def CallR (K : Frag) (M : Memo) (W : WX) (ff : List D → Cr) (rf : List Nat) (as : List Ar) (pm : Pm) (σ : L2.St) (H : Hp) (vs : List V) (Q : VK) : Prop :=
  ∃ g G S xs U H0 G0 S0 ds es ns, Mt K M g σ H G S ∧ Stp M H0 G0 S0 H G S ∧ ArRs K M H0 g σ H G S as xs vs U ∧ rdA g as xs = some ds ∧ pmL ds id pm = some es ∧ pmL (as.map nmA) (fun _ => none) pm = some ns ∧ EndE K M W σ H0 G0 S0 (callC ff ns es rf g) Q
theorem callR_of {as : List Ar} (q : tP K M W (pCall ff rf as pm) σ H Q) : tA K M W as σ H fun vs H1 => CallR K M W ff rf as pm σ H1 vs Q := by
  obtain ⟨g, G, S, mt, q⟩ := q
  refine ⟨g, G, S, mt, ?_⟩
  unfold pCall at q
  cases er : evA as g with
  | bad => rw [er] at q; exact q
  | exc c d g' => rw [er] at q; exact q
  | ok xs g1 =>
    rw [er, Rs.bind_ok] at q
    intro vs H1 G1 S1 U m1 r1 st
    cases e1 : rdA g1 as xs with
    | none => rw [e1] at q; exact q.elim
    | some ds =>
      rw [e1] at q
      dsimp only at q
      cases e2 : pmL ds id pm with
      | none => rw [e2] at q; exact q.elim
      | some es =>
        cases e3 : pmL (as.map nmA) (fun _ => (none : Option Nat)) pm with
        | none => rw [e2, e3] at q; exact q.elim
        | some ns =>
          rw [e2, e3] at q
          exact ⟨g1, G1, S1, xs, U, H, G, S, ds, es, ns, m1, st, r1, e1, e2, e3, q⟩
theorem ArRs.len {g : Sg} {σ : L2.St} {H0 H G : Hp} {S : Nat → Addr → Prop} : ∀ {as : List Ar} {xs : List (Option D)} {vs : List V} {U : Addr → Prop}, ArRs K M H0 g σ H G S as xs vs U → vs.length = as.length
  | [], _, _, _, h => by rw [h.2.1]; rfl
  | a :: as, _, _, _, h => by
    obtain ⟨x, xr, v, vr, T, U', rfl, rfl, h1, h2, h3⟩ := h
    exact congrArg Nat.succ (ArRs.len h2)
/-- positional ones first, then those by name -/
theorem tA_app {as bs : List Ar} {R : List V → Hp → Prop} (q : tA K M W (as ++ bs) σ H R) : tA K M W as σ H fun vs H1 => tA K M W bs σ H1 fun us H2 => vs.length = as.length ∧ us.length = bs.length ∧ R (vs ++ us) H2 := by
  obtain ⟨g, G, S, mt, q⟩ := q
  refine ⟨g, G, S, mt, ?_⟩
  rw [evA_app] at q
  cases er : evA as g with
  | bad => rw [er] at q; exact q
  | exc c d g' => rw [er] at q; exact q
  | ok xs g1 =>
    rw [er, Rs.bind_ok] at q
    intro vs H1 G1 S1 U m1 r1 st
    refine ⟨g1, G1, S1, m1, ?_⟩
    cases er2 : evA bs g1 with
    | bad => rw [er2] at q; exact q
    | exc c d g' => rw [er2] at q; exact EndX.of q st
    | ok ys g2 =>
      rw [er2, Rs.bind_ok] at q
      intro us H2 G2 S2 U2 m2 r2 st2
      refine ⟨r1.len, r2.len, q (vs ++ us) H2 G2 S2 _ m2 ((r1.stp st2).app (r2.base fun a => st.back) fun b hb z => ?_) (st.trans st2)⟩
      have h1 := (r2.there z).2.2
      obtain ⟨o, h2⟩ := (r1.there hb).1
      rw [h1] at h2; cases h2
/-- the call itself -/
theorem callR_run {as : List Ar} {us ws : List Value} {vs zs : List V} (F : FnG X.prog X.w X.K X.mg X.base k f fd ps (spF X.K M ff rf ps.length)) (hr : Room k X.A) (gu : X.A.guards = some []) (tk : Takes X W) (hb : BindP X.K fd ps n ks pm)
    (dn : distinct (as.map nmA) = true) (dp : distinct (pm.map inlOf) = true) (I : Inv X pins σ H s) (r : Vals vs us) (rz : Vals zs ws) (l1 : us.length = n) (l2 : ws.length = ks.length) (q : CallR X.K M W ff rf as pm σ H (vs ++ zs) Q) :
    wpAny (model X.prog X.w) X.A (call (.ref f) us (ks.zip ws)) (EP X pins σ Q) X.xe s := by
  obtain ⟨g, G, S, xs, U, H0, G0, S0, ds, es, nn, m, st0, h, e1, e2, e3, q⟩ := q
  obtain ⟨lp, kv, kk, hk, hb⟩ := hb
  obtain ⟨ys, b1, b2⟩ := hb s us ws I.kIn l1 l2
  obtain ⟨vv, c1, c2⟩ := vals_pm (r.append rz) (fun d hd => (hk d hd).2) b1
  have sp := call_fin m st0 h e1 e2 e3 dn dp (fun d hd => (hk d hd).1) c1 q
  rw [lp] at sp
  exact runG F hr gu tk I b2 c2 sp
end
section
variable {K : Frag} {M : Memo} {W : WX} {X : Cx} {k : Nat} {f : Addr} {fd : FuncData} {ps : List Str} {ff : List D → Cr} {rf : List Nat} {pm : Pm} {n : Nat} {σ : L2.St} {H : Hp} {s : Shared} {Q : VK} {pins : List (Addr × Obj)} {x : Str} {p pos : Pos} {es : List Expr} {kws : List Keyword} {as bs : List Ar}
theorem pe_Call (F : FnG X.prog X.w X.K X.mg X.base k f fd ps (spF X.K M ff rf ps.length)) (hr : Room k X.A) (gu : X.A.guards = some []) (tk : Takes X W) (hg : Gl X x) (hm : X.mg x = some (.ref f)) (hkp : PySem.W.keepIn X.K (.ref f) = true) (hb : BindP X.K fd ps as.length (kwNames kws) pm)
    (ha : PA X es (tA X.K M W as)) (hkw : PK X kws (tA X.K M W bs)) (hla : as.length = es.length) (hl : bs.length = (kwNames kws).length) (dn : distinct ((as ++ bs).map nmA) = true) (dp : distinct (pm.map inlOf) = true)
    (hes : es.all noStar = true) (hks : kws.all (·.arg.isSome) = true) (hdb : (x == ("__debug__" : Str)) = false) : PE X (.Call (.Name x p) es kws pos) (tP X.K M W (pCall ff rf (as ++ bs) pm)) := by
  refine ⟨fun pins s σ H Q I h => ?_⟩
  refine wpAny_Call_Name_kw (ld_glob I hg hm ?_ hdb)
  have q := tA_app (callR_of h)
  have hall := kws_all (pos := pos) (env := X.env) hks
  have hnm := kws_names (pos := pos) (env := X.env) (ks := kws)
  have hpl : ((backTo pos (starEach es X.env)).any (·.1) || (backToKw pos (keywordEach kws X.env)).any (·.1.isNone)) = false := by rw [stars_of hes, kws_none hks] <;> rfl
  cases es with
  | nil =>
    refine PySem.W.callWith_KW0 (h₀ := X.base) I.ok.mod.kin hkp hall ?_ hpl
    cases as with
    | cons a as => simp at hla
    | nil =>
      obtain ⟨g, G, S, m, q⟩ := q
      have q := (show EndA X.K M W σ H G S [] (.ok [] g) _ from q) [] H G S none_ m ⟨rfl, rfl, fun b z => z⟩ Stp.refl
      refine thn (hkw.run pos pins s σ H _ I q) fun ws s2 ⟨zs, H2, I2, rz, l1, l2, q2⟩ => ⟨I2.kIn, ?_⟩
      rw [hnm]
      exact callR_run F hr gu tk hb dn dp I2 .nil rz rfl (rz.length.symm.trans (l2.trans hl)) q2
  | cons e es =>
    rw [List.all_cons, Bool.and_eq_true] at hes
    refine PySem.W.callWith_KW (h₀ := X.base) I.ok.mod.kin hkp hall (thn (ha.run pos pins s σ H _ I q) fun us s1 ⟨vs, H1, I1, r, q⟩ => ?_) hpl (star_of hes.1)
    refine thn (hkw.run pos pins s1 σ H1 _ I1 q) fun ws s2 ⟨zs, H2, I2, rz, l1, l2, q2⟩ => ⟨I2.kIn, ?_⟩
    rw [hnm]
    exact callR_run F hr gu tk hb dn dp I2 r rz (r.length.symm.trans l1) (rz.length.symm.trans (l2.trans hl)) q2
end
end PI

set_option Elab.async false
set_option linter.all false
set_option maxRecDepth 100000
set_option maxHeartbeats 1000000
namespace PI
open PySem PySem.Spec PyProof.Rows L2
open PySem.W (Frag)
/-! ### statements -/
def Fx (fx : List Nat) (σ σ' : L2.St) : Prop := ∀ i ∈ fx, σ'[i]? = σ[i]?
theorem Fx.refl {fx : List Nat} {σ : L2.St} : Fx fx σ σ := fun _ _ => rfl
theorem Fx.trans {fx : List Nat} {σ σ1 σ2 : L2.St} (a : Fx fx σ σ1) (b : Fx fx σ1 σ2) : Fx fx σ σ2 := fun i h => (b i h).trans (a i h)
theorem Fx.set {fx : List Nat} {σ : L2.St} {i : Nat} {x : Option V} (h : i ∉ fx) : Fx fx σ (σ.set i x) := fun j hj => List.getElem?_set_ne fun z => h (by rw [z]; exact hj)
section
variable (K : Frag) (M : Memo)
def EndXs (fx : List Nat) (W : WX) (σ : L2.St) (H G : Hp) (S : Nat → Addr → Prop) (c : Str) (d : D) (g' : Sg) : Prop :=
  ∀ v σ' H' G' S' dd, Fx fx σ σ' → Mt K M g' σ' H' G' S' → Rep K G' d v → Stp M H G S H' G' S' → H' dd = some (.xd [("value", v)]) → W (.ref (He.ga K c)) (some dd) σ' H'
def EndN (fx : List Nat) (σ : L2.St) (H G : Hp) (S : Nat → Addr → Prop) (g' : Sg) (Q : L2.St → Hp → Prop) : Prop :=
  ∀ σ' H' G' S', Fx fx σ σ' → Mt K M g' σ' H' G' S' → Stp M H G S H' G' S' → Q σ' H'
def EndF (fx : List Nat) (W : WX) (σ : L2.St) (H G : Hp) (S : Nat → Addr → Prop) (r : Rs Fl) (N : Ends) : Prop := match r with
  | .bad => False
  | .ok .nx g' => EndN K M fx σ H G S g' N.nx
  | .ok (.rt d) g' => ∀ σ' v H' G' S' T, Fx fx σ σ' → Got K M H g' σ' H' G' S' d v T → Stp M H G S H' G' S' → N.rt v H'
  | .ok .bk g' => EndN K M fx σ H G S g' N.bk
  | .ok .ct g' => EndN K M fx σ H G S g' N.ct
  | .exc c d g' => EndXs K M fx W σ H G S c d g'
def tF (fx : List Nat) (W : WX) (m : PF) : TS := fun N σ H => ∃ g G S, Mt K M g σ H G S ∧ EndF K M fx W σ H G S (m g) N
end
section
variable {K : Frag} {M : Memo} {W : WX} {X : Cx} {fx : List Nat} {σ σ1 : L2.St} {H H0 G G0 H1 G1 : Hp} {S S0 S1 : Nat → Addr → Prop} {g g1 : Sg} {T : Addr → Prop} {N : Ends} {pos p2 : Pos}
theorem EndN.of {Q : L2.St → Hp → Prop} (h : EndN K M fx σ H G S g Q) (f : Fx fx σ σ1) (st : Stp M H G S H1 G1 S1) : EndN K M fx σ1 H1 G1 S1 g Q :=
  fun σ' H' G' S' f' m s => h σ' H' G' S' (f.trans f') m (st.trans s)
theorem EndXs.of {c : Str} {d : D} (h : EndXs K M fx W σ H G S c d g) (f : Fx fx σ σ1) (st : Stp M H G S H1 G1 S1) : EndXs K M fx W σ1 H1 G1 S1 c d g :=
  fun v σ' H' G' S' dd f' m r s => h v σ' H' G' S' dd (f.trans f') m r (st.trans s)
theorem EndXs.x {c : Str} {d : D} (h : EndXs K M fx W σ H G S c d g) : EndX K M W σ H G S c d g := fun v H' G' S' dd m r s x => h v σ H' G' S' dd Fx.refl m r s x
theorem EndF.of {r : Rs Fl} (h : EndF K M fx W σ H G S r N) (f : Fx fx σ σ1) (st : Stp M H G S H1 G1 S1) : EndF K M fx W σ1 H1 G1 S1 r N := by
  cases r with
  | bad => exact h
  | exc c d g' => exact EndXs.of h f st
  | ok fl g' =>
    cases fl with
    | nx => exact EndN.of h f st
    | bk => exact EndN.of h f st
    | ct => exact EndN.of h f st
    | rt d => exact fun σ' v H' G' S' T f' ⟨m, o, a⟩ s => h σ' v H' G' S' T (f.trans f') ⟨m, o, fun x hx => ⟨(a x hx).1, st.back (a x hx).2⟩⟩ (st.trans s)
theorem EndF.bindE {r : Rs D} {k : D → Sg → Rs Fl} (h : EndF K M fx W σ H G S (r.bind k) N) :
    EndE K M W σ H G S r fun v H' => ∃ d g' G' S' T, r = .ok d g' ∧ Got K M H g' σ H' G' S' d v T ∧ Stp M H G S H' G' S' ∧ EndF K M fx W σ H G S (k d g') N := by
  cases r with
  | bad => exact h
  | ok d g' => exact fun v H' G' S' T m s => ⟨d, g', G', S', T, rfl, m, s, h⟩
  | exc c d g' => exact EndXs.x h
theorem EndF.bindB {r : Rs Bool} {k : Bool → Sg → Rs Fl} (h : EndF K M fx W σ H G S (r.bind k) N) :
    EndB K M W σ H G S r fun b H' => ∃ g' G' S', r = .ok b g' ∧ Mt K M g' σ H' G' S' ∧ Stp M H G S H' G' S' ∧ EndF K M fx W σ H G S (k b g') N := by
  cases r with
  | bad => exact h
  | ok d g' => exact fun H' G' S' m s => ⟨g', G', S', rfl, m, s, h⟩
  | exc c d g' => exact EndXs.x h
theorem EndF.bindA {as : List Ar} {r : Rs (List (Option D))} {k : List (Option D) → Sg → Rs Fl} (h : EndF K M fx W σ H G S (r.bind k) N) :
    EndA K M W σ H G S as r fun vs H' => ∃ xs g' G' S' U, r = .ok xs g' ∧ Mt K M g' σ H' G' S' ∧ ArRs K M H g' σ H' G' S' as xs vs U ∧ Stp M H G S H' G' S' ∧ EndF K M fx W σ H G S (k xs g') N := by
  cases r with
  | bad => exact h
  | ok d g' => exact fun vs H' G' S' U m r s => ⟨d, g', G', S', U, rfl, m, r, s, h⟩
  | exc c d g' => exact EndXs.x h
/-- one behind another -/
def pNx : PF := fun g => .ok .nx g
def pSeq (a b : PF) : PF := fun g => (a g).bind fun fl g1 => match fl with
  | .nx => b g1
  | o => .ok o g1
def pBlk : List PF → PF
  | [] => pNx
  | a :: as => pSeq a (pBlk as)
theorem nx_0 : tF K M fx W pNx N σ H → tNext N σ H := fun ⟨g, G, S, m, q⟩ => (show EndN K M fx σ H G S g N.nx from q) σ H G S Fx.refl m Stp.refl
theorem pss_0 : PSs X [] (tF K M fx W (pBlk [])) := PSs.imp pss_nil fun N σ H q => nx_0 q
theorem seq_t {a b : PF} (q : tF K M fx W (pSeq a b) N σ H) : tSeq (tF K M fx W a) (tF K M fx W b) N σ H := by
  obtain ⟨g, G, S, m, q⟩ := q
  refine ⟨g, G, S, m, ?_⟩
  unfold pSeq at q
  cases er : a g with
  | bad => rw [er] at q; exact q
  | exc c d g' => rw [er] at q; exact q
  | ok fl g1 =>
    rw [er, Rs.bind_ok] at q
    cases fl with
    | nx => exact fun σ' H' G' S' f m' st => ⟨g1, G', S', m', EndF.of q f st⟩
    | bk => exact q
    | ct => exact q
    | rt d => exact q
theorem pss_c {st : Stmt} {rest : List Stmt} {a : PF} {as : List PF} (h1 : PS X st (tF K M fx W a)) (h2 : PSs X rest (tF K M fx W (pBlk as))) : PSs X (st :: rest) (tF K M fx W (pBlk (a :: as))) :=
  PSs.imp (pss_cons h1 h2) fun N σ H q => seq_t q
theorem ps_Pass : PS X (.Pass pos) (tF K M fx W pNx) := PS.imp ps_pass fun N σ H q => nx_0 q
def pBk : PF := fun g => .ok .bk g
def pCt : PF := fun g => .ok .ct g
theorem ps_Break : PS X (.Break pos) (tF K M fx W pBk) := PS.imp ps_break fun N σ H ⟨g, G, S, m, q⟩ => (show EndN K M fx σ H G S g N.bk from q) σ H G S Fx.refl m Stp.refl
theorem ps_Cont : PS X (.Continue pos) (tF K M fx W pCt) := PS.imp ps_continue fun N σ H ⟨g, G, S, m, q⟩ => (show EndN K M fx σ H G S g N.ct from q) σ H G S Fx.refl m Stp.refl
def pBadF : PF := fun _ => .bad
theorem ps_Bad {st : Stmt} : PS X st (tF K M fx W pBadF) := PS.imp ps_never fun N σ H ⟨g, G, S, m, q⟩ => q
/-- if -/
def pIf (c : PT') (a b : PF) : PF := fun g => (c g).bind fun t g1 => if t = true then a g1 else b g1
theorem ps_If {c : Expr} {a b : List Stmt} {mc : PT'} {ma mb : PF} (hc : PT X c (tB' K M W mc)) (ha : PSs X a (tF K M fx W ma)) (hb : PSs X b (tF K M fx W mb)) : PS X (.If c a b pos) (tF K M fx W (pIf mc ma mb)) := by
  refine PS.imp (ps_if hc ha hb) fun N σ H q => ?_
  obtain ⟨g, G, S, m, q⟩ := q
  refine ⟨g, G, S, m, EndB.imp (EndF.bindB q) fun t H1 ⟨g1, G1, S1, er, m1, st, q⟩ => ?_⟩
  split at q
  · rename_i h
    subst h
    exact ⟨g1, G1, S1, m1, EndF.of q Fx.refl st⟩
  · rename_i h
    rw [if_neg h]
    exact ⟨g1, G1, S1, m1, EndF.of q Fx.refl st⟩
/-- return -/
def pRet (e : PX) : PF := fun g => (e g).bind fun d g1 => .ok (.rt d) g1
theorem ps_Ret {e : Expr} {m : PX} (he : PE X e (tP K M W m)) : PS X (.Return (some e) pos) (tF K M fx W (pRet m)) := by
  refine PS.imp (ps_ret he) fun N σ H q => ?_
  obtain ⟨g, G, S, m, q⟩ := q
  refine ⟨g, G, S, m, EndE.imp (EndF.bindE q) fun v H1 ⟨d, g1, G1, S1, T, er, got, st, q⟩ => ?_⟩
  exact (show ∀ σ' v H' G' S' T, Fx fx σ σ' → Got K M H g1 σ' H' G' S' d v T → Stp M H G S H' G' S' → N.rt v H' from q) σ v H1 G1 S1 T Fx.refl got st
def pRetN : PF := fun g => .ok (.rt .non) g
theorem ps_RetN : PS X (.Return none pos) (tF K M fx W pRetN) := PS.imp ps_retN fun N σ H ⟨g, G, S, m, q⟩ =>
  (show ∀ σ' v H' G' S' T, Fx fx σ σ' → Got K M H g σ' H' G' S' .non v T → Stp M H G S H' G' S' → N.rt v H' from q) σ .non H G S none_ Fx.refl ⟨m, Own.of rfl, fun a z => z.elim⟩ Stp.refl
/-- a value that is dropped -/
def pDrop (e : PX) : PF := fun g => (e g).bind fun d g1 => .ok .nx g1
theorem ps_Drop {e : Expr} {m : PX} (he : PE X e (tP K M W m)) (hs : swapsWith e none pos.line X.env = pure false) : PS X (.Expr e pos) (tF K M fx W (pDrop m)) := by
  refine PS.imp (ps_expr he hs) fun N σ H q => ?_
  obtain ⟨g, G, S, m, q⟩ := q
  refine ⟨g, G, S, m, EndE.imp (EndF.bindE q) fun v H1 ⟨d, g1, G1, S1, T, er, got, st, q⟩ => ?_⟩
  exact (show EndN K M fx σ H G S g1 N.nx from q) σ H1 G1 S1 Fx.refl got.1 st
/-- a slot takes a value -/
def setS (S : Nat → Addr → Prop) (i : Nat) (T : Addr → Prop) (j : Nat) (a : Addr) : Prop := (j = i ∧ T a) ∨ (j ≠ i ∧ S j a)
theorem Mt.set {i : Nat} {d : D} {v : V} (m : Mt K M g σ H G S) (ow : Own K M G H d v T) (ap : ∀ a, T a → ¬ Vl M G S a) (hi : i < g.length) : Mt K M (g.set i (some d)) (σ.set i (some v)) H G (setS S i T) := by
  have es : setS S i T i = T := funext fun a => propext ⟨fun z => z.elim (·.2) fun z => (z.1 rfl).elim, fun z => .inl ⟨rfl, z⟩⟩
  have eo : ∀ j, j ≠ i → setS S i T j = S j := fun j hj => funext fun a => propext ⟨fun z => z.elim (fun z => (hj z.1).elim) (·.2), fun z => .inr ⟨hj, z⟩⟩
  have hi' : i < σ.length := by rw [← m.len]; exact hi
  refine ⟨by rw [List.length_set, List.length_set]; exact m.len, fun j e h => ?_, fun j q a z => ?_, fun j k a z z' => ?_, m.sub, m.mem, fun j a z => ?_⟩
  · by_cases hj : j = i
    · subst hj
      rw [List.getElem?_set_self hi] at h; cases h
      exact ⟨v, List.getElem?_set_self hi', by rw [es]; exact ow⟩
    · rw [List.getElem?_set_ne (Ne.symm hj)] at h
      obtain ⟨w, e1, o⟩ := m.own j e h
      exact ⟨w, by rw [List.getElem?_set_ne (Ne.symm hj)]; exact e1, by rw [eo j hj]; exact o⟩
  · by_cases hj : j = i
    · subst hj
      exact q d (List.getElem?_set_self hi)
    · rw [List.getElem?_set_ne (Ne.symm hj)] at q
      rw [eo j hj] at z
      exact m.nil j q a z
  · rcases z with ⟨rfl, z⟩ | ⟨n1, z⟩
    · rcases z' with ⟨rfl, z'⟩ | ⟨n2, z'⟩
      · rfl
      · exact (ap a z (.inl ⟨k, z'⟩)).elim
    · rcases z' with ⟨rfl, z'⟩ | ⟨n2, z'⟩
      · exact (ap a z' (.inl ⟨j, z⟩)).elim
      · exact m.dis j k a z z'
  · rcases z with ⟨rfl, z⟩ | ⟨n1, z⟩
    · exact fun y => ap a z (.inr y)
    · exact m.vol j a z
theorem Stp.set {i : Nat} (st : Stp M H0 G0 S0 H G S) (n : ∀ a, T a → H0 a = none) : Stp M H0 G0 S0 H G (setS S i T) := by
  refine ⟨st.gr, st.fr, st.th, fun a z => ?_, st.fg⟩
  rcases z with ⟨j, ⟨rfl, z⟩ | ⟨_, z⟩⟩ | z
  · exact .inr (n a z)
  · exact st.vl a (.inl ⟨j, z⟩)
  · exact st.vl a (.inr z)
def pSet (i : Nat) (e : PX) : PF := fun g => (e g).bind fun d g1 => if i < g1.length then .ok .nx (g1.set i (some d)) else .bad
theorem ps_Set {i : Nat} {x : Str} {e : Expr} {m : PX} {pos' : Pos} (hN : X.N.Nodup) (hi : X.N[i]? = some x) (hx : Loc X.env.scope x) (hfn : X.fn x = true ∨ X.env.scope.names.lookup x = some .local) (he : PE X e (tP K M W m)) (hf : i ∉ fx) (hs : swapsWith e (some (.Name x pos')) pos.line X.env = pure false) :
    PS X (.Assign [.Name x pos'] e pos) (tF K M fx W (pSet i m)) := by
  refine PS.imp (ps_set hN hi hx he hs hfn) fun N σ H q => ?_
  obtain ⟨g, G, S, m, q⟩ := q
  refine ⟨g, G, S, m, EndE.imp (EndF.bindE q) fun v H1 ⟨d, g1, G1, S1, T, er, got, st, q⟩ => ?_⟩
  split at q
  · rename_i hl
    exact (show EndN K M fx σ H G S (g1.set i (some d)) N.nx from q) _ H1 G1 _ (Fx.set hf) (got.1.set got.2.1 (fun a z => (got.2.2 a z).1) hl) (st.set fun a z => (got.2.2 a z).2)
  · exact q.elim
/-- a slot gives up its value -/
def pMv (i : Nat) : PX := fun g => match g[i]? with
  | some (some d) => .ok d (g.set i none)
  | _ => .bad
theorem Mt.drop {i : Nat} {d : D} (m : Mt K M g σ H G S) (e : g[i]? = some (some d)) : ∃ v S' T, σ[i]? = some (some v) ∧ Mt K M (g.set i none) σ H G S' ∧ Own K M G H d v T ∧ (∀ a, T a → ¬ Vl M G S' a) ∧ (∀ a, Vl M G S' a → Vl M G S a) ∧ ∀ a, T a → Vl M G S a := by
  obtain ⟨v, ev, ow⟩ := m.own i d e
  have hi : i < g.length := (List.getElem?_eq_some_iff.mp e).1
  refine ⟨v, fun j a => j ≠ i ∧ S j a, S i, ev, ⟨by rw [List.length_set]; exact m.len, fun j e' h => ?_, fun j q a z => ?_, fun j k a z z' => m.dis j k a z.2 z'.2, m.sub, m.mem, fun j a z => m.vol j a z.2⟩, ow, fun a z y => ?_, fun a z => ?_, fun a z => .inl ⟨i, z⟩⟩
  · by_cases hj : j = i
    · subst hj
      rw [List.getElem?_set_self hi] at h; cases h
    · rw [List.getElem?_set_ne (Ne.symm hj)] at h
      obtain ⟨w, e1, o⟩ := m.own j e' h
      have q2 : (fun b => j ≠ i ∧ S j b) = S j := funext fun b => propext ⟨fun z => z.2, fun z => ⟨hj, z⟩⟩
      exact ⟨w, e1, by rw [q2]; exact o⟩
  · rw [List.getElem?_set_ne (Ne.symm z.1)] at q
    exact m.nil j q a z.2
  · rcases y with ⟨j, hj, y⟩ | y
    · exact hj (m.dis j i a y z)
    · exact m.vol i a z y
  · rcases z with ⟨j, hj, z⟩ | z
    · exact .inl ⟨j, z⟩
    · exact .inr z
end
end PI

set_option Elab.async false
set_option linter.all false
set_option maxRecDepth 100000
set_option maxHeartbeats 1000000
namespace PI
open PySem PySem.Spec PyProof.Rows L2
open PySem.W (Frag)
/-! ### tests -/
def trD : D → Option Bool
  | .non => some false
  | .bl b => some b
  | .int i => some (i != 0)
  | .str x => if x.length ≤ lim then some ((x.length : Int) != 0) else none
  | .lst _ xs => some (!xs.isEmpty)
  | .tup xs => some (!xs.isEmpty)
  | .dic _ ks _ => some (!ks.isEmpty)
  | .obj .. => none
def rt2 (o : Option Bool) (g : Sg) : Rs Bool := match o with
  | some b => .ok b g
  | none => .bad
def asB (d : D) (g : Sg) : Rs Bool := match d with
  | .bl b => .ok b g
  | _ => .bad
def pTr (a : Op) : PT' := fun g => (evO a g).bind fun x g1 => match rdO g1 a x with
  | some d => rt2 (trD d) g1
  | none => .bad
def pTest (m : PX) : PT' := fun g => (m g).bind asB
def pNot (t : PT') : PT' := fun g => (t g).bind fun b g1 => .ok (!b) g1
def pAnd (a b : PT') : PT' := fun g => (a g).bind fun t g1 => if t = true then b g1 else .ok false g1
def pOr (a b : PT') : PT' := fun g => (a g).bind fun t g1 => if t = true then .ok true g1 else b g1
def pNotV (a : Op) : PX := pOp1 (fun d g => rb ((trD d).map (!·)) g) a
def pAndV (a b : PX) : PX := fun g => (a g).bind fun d g1 => match trD d with
  | some true => b g1
  | some false => .ok d g1
  | none => .bad
def pOrV (a b : PX) : PX := fun g => (a g).bind fun d g1 => match trD d with
  | some true => .ok d g1
  | some false => b g1
  | none => .bad
def pIfE (c : PT') (a b : PX) : PX := fun g => (c g).bind fun t g1 => if t = true then a g1 else b g1
def pCh3 (op' : CmpOp) (b c : Op) (y : Option D) (g2 : Sg) : Rs D := (evO c g2).bind fun z g3 => match rdO g3 b y, rdO g3 c z with
  | some e, some f => rb (cmpD op' e f) g3
  | _, _ => .bad
def pCh2 (op op' : CmpOp) (a b c : Op) (x : Option D) (g1 : Sg) : Rs D := (evO b g1).bind fun y g2 => match rdO g2 a x, rdO g2 b y with
  | some d, some e => (match cmpD op d e with
    | some true => pCh3 op' b c y g2
    | some false => .ok (.bl false) g2
    | none => .bad)
  | _, _ => .bad
def pCh (op op' : CmpOp) (a b c : Op) : PX := fun g => (evO a g).bind fun x g1 => pCh2 op op' a b c x g1
section
variable {K : Frag} {M : Memo} {W : WX} {X : Cx} {σ : L2.St} {H H0 G G0 H1 G1 : Hp} {S S0 S1 : Nat → Addr → Prop} {g g1 : Sg} {pos p2 : Pos} {a b c : Expr} {rest : List Expr}
theorem zip_isE {ks : List Key} {vs : List V} (h : ks.length = vs.length) : (!(ks.zip vs).isEmpty) = !ks.isEmpty := by
  cases ks with
  | nil => rfl
  | cons k ks =>
    cases vs with
    | nil => simp at h
    | cons v vs => rfl
theorem isE_len {xs : List D} {vs : List V} (h : RepL K G xs vs) : (!xs.isEmpty) = !vs.isEmpty := by
  have := h.len
  cases xs with
  | nil => cases vs with
    | nil => rfl
    | cons v vs => simp at this
  | cons x xs => cases vs with
    | nil => simp at this
    | cons v vs => rfl
theorem tru_seen {d : D} {v : V} {k : Bool} (h : Seen K M G H d v) (sb : Sub G H) (e : trD d = some k) : TruV K v H k := by
  cases d with
  | non => cases h.non; cases e; rfl
  | bl b => cases h.bl; cases e; rfl
  | int i => cases h.int; cases e; rfl
  | str x =>
    cases h.str
    have e : (if x.length ≤ lim then some ((x.length : Int) != 0) else none) = some k := e
    split at e
    · rename_i hl
      cases e
      exact ⟨lim_ok hl, rfl⟩
    · cases e
  | lst m xs =>
    obtain ⟨p, vs, rfl, h1, h2⟩ := h.lst sb
    cases e
    exact .inl ⟨vs, h1, isE_len h2⟩
  | tup xs =>
    obtain ⟨p, vs, rfl, h1, h2⟩ := h.tup sb
    cases e
    exact .inr (.inl ⟨vs, h1, isE_len h2⟩)
  | dic m ks ds =>
    obtain ⟨p, vs, rfl, h1, hl, h2⟩ := h.dic sb
    cases e
    exact .inr (.inr ⟨_, h1, (zip_isE hl).symm⟩)
  | obj m c ns ds => cases e
theorem EndE.trans {r : Rs D} {Q Q' : VK} (h : EndE K M W σ H G S r Q) (k : ∀ d g' v H' G' S' T, r = .ok d g' → Got K M H g' σ H' G' S' d v T → Stp M H G S H' G' S' → Q v H' → Q' v H') : EndE K M W σ H G S r Q' := by
  cases r with
  | bad => exact h
  | exc c d g' => exact h
  | ok d g' => exact fun v H' G' S' T m s => k d g' v H' G' S' T rfl m s (h v H' G' S' T m s)
theorem pt_Tr {oa : Op} (ha : PE X a (tO X.K M W oa)) (he : ∀ whole, isTrue a X.env whole = (do let v ← whole; standAt a.pos; holding [v] (truthy v))) : PT X a (tB' X.K M W (pTr oa)) := by
  refine PT.imp (pt_truth ha he) fun σ H Q q => ?_
  obtain ⟨g, G, S, m, q⟩ := q
  refine ⟨g, G, S, m, ?_⟩
  unfold pTr at q
  cases er : evO oa g with
  | bad => rw [er] at q; exact q
  | exc c d g' => rw [er] at q; exact q
  | ok x g1 =>
    rw [er, Rs.bind_ok] at q
    intro v H1 G1 S1 m1 r1 st
    cases e1 : rdO g1 oa x with
    | none => rw [e1] at q; exact q.elim
    | some d =>
      rw [e1] at q
      dsimp only at q
      cases e2 : trD d with
      | none => rw [e2] at q; exact q.elim
      | some k =>
        rw [e2] at q
        exact ⟨k, tru_seen (r1.seen m1 e1) m1.sub e2, (show EndB X.K M W σ H G S (.ok k g1) Q from q) H1 G1 S1 m1 st⟩
/-- an expression whose value is a bool, by its own test -/
theorem test_t {m : PX} {Q : Bool → Hp → Prop} (q : tB' K M W (pTest m) σ H Q) : tP K M W m σ H fun v H1 => ∃ k, v = .bl k ∧ Q k H1 := by
  obtain ⟨g, G, S, mt, q⟩ := q
  refine ⟨g, G, S, mt, ?_⟩
  unfold pTest at q
  cases er : m g with
  | bad => rw [er] at q; exact q
  | exc c d g' => rw [er] at q; exact q
  | ok d g1 =>
    rw [er, Rs.bind_ok] at q
    intro v H1 G1 S1 T got st
    cases d with
    | bl k => exact ⟨k, Seen.bl (K := K) (M := M) (G := G1) (H := H1) ⟨T, got.2.1⟩, (show EndB K M W σ H G S (.ok k g1) Q from q) H1 G1 S1 got.1 st⟩
    | _ => exact (show False from q).elim
theorem pt_cmpS {op : CmpOp} {f : D → D → Sg → Rs D} {oa ob : Op} (ho : OpS X (compareOp op) (rF K M W f)) (ha : PE X a (tO K M W oa)) (hb : PE X b (tO K M W ob)) (hm : behindInMarks op b = false) : PT X (.Compare a [op] [b] pos) (tB' K M W (pTest (pOp2 f oa ob))) := by
  refine ⟨fun pins s σ H Q I q => ?_⟩
  refine wpAny_isTrue_Compare1 (binT (R := fun x y H2 => rF K M W f σ x y H2 fun v H1 => ∃ k, v = .bl k ∧ Q k H1) ha hb I (op2_t (test_t q)) fun v u s2 x y H2 I2 rx ry q => thn (ho pins s2 σ H2 x y v u _ I2 rx ry q) fun w s3 ⟨z, H3, I3, r3, k, e, q3⟩ => ?_) hm
  subst e
  cases r3
  exact wpAny_truthy_bool ⟨H3, I3, q3⟩
theorem pt_not' {mt : PT'} (ha : PT X a (tB' K M W mt)) : PT X (.UnaryOp .Not a pos) (tB' K M W (pNot mt)) := by
  refine PT.imp (pt_not ha) fun σ H Q q => ?_
  obtain ⟨g, G, S, m, q⟩ := q
  refine ⟨g, G, S, m, EndB.imp (EndB.bindB q) fun t H1 ⟨g1, G1, S1, er, m1, st, q⟩ => ?_⟩
  exact (show EndB K M W σ H G S (.ok (!t) g1) Q from q) H1 G1 S1 m1 st
theorem and_t {ma mb : PT'} {Q : Bool → Hp → Prop} (q : tB' K M W (pAnd ma mb) σ H Q) : tAnd (tB' K M W ma) (tB' K M W mb) σ H Q := by
  obtain ⟨g, G, S, m, q⟩ := q
  refine ⟨g, G, S, m, EndB.imp (EndB.bindB q) fun t H1 ⟨g1, G1, S1, er, m1, st, q⟩ => ?_⟩
  cases t with
  | true => exact ⟨g1, G1, S1, m1, EndB.of q st⟩
  | false => exact (show EndB K M W σ H G S (.ok false g1) Q from q) H1 G1 S1 m1 st
theorem or_t {ma mb : PT'} {Q : Bool → Hp → Prop} (q : tB' K M W (pOr ma mb) σ H Q) : tOr (tB' K M W ma) (tB' K M W mb) σ H Q := by
  obtain ⟨g, G, S, m, q⟩ := q
  refine ⟨g, G, S, m, EndB.imp (EndB.bindB q) fun t H1 ⟨g1, G1, S1, er, m1, st, q⟩ => ?_⟩
  cases t with
  | false => exact ⟨g1, G1, S1, m1, EndB.of q st⟩
  | true => exact (show EndB K M W σ H G S (.ok true g1) Q from q) H1 G1 S1 m1 st
theorem PW.imp {e : Expr} {t t' : TT} (h : PW X e t) (k : ∀ σ H Q, t' σ H Q → t σ H Q) : PW X e t' := ⟨fun wh pins s σ H Q I q => h.run wh pins s σ H Q I (k σ H Q q)⟩
theorem pw_A1 {mt : PT'} (ha : PT X a (tB' K M W mt)) : PW X (.BoolOp .And [a] pos) (tB' K M W mt) := pw_and1 ha
theorem pw_O1 {mt : PT'} (ha : PT X a (tB' K M W mt)) : PW X (.BoolOp .Or [a] pos) (tB' K M W mt) := pw_or1 ha
theorem pw_Ac {ma mb : PT'} (ha : PT X a (tB' K M W ma)) (hb : PW X (.BoolOp .And (b :: rest) pos) (tB' K M W mb)) : PW X (.BoolOp .And (a :: b :: rest) pos) (tB' K M W (pAnd ma mb)) := PW.imp (pw_and ha hb) fun σ H Q q => and_t q
theorem pw_Oc {ma mb : PT'} (ha : PT X a (tB' K M W ma)) (hb : PW X (.BoolOp .Or (b :: rest) pos) (tB' K M W mb)) : PW X (.BoolOp .Or (a :: b :: rest) pos) (tB' K M W (pOr ma mb)) := PW.imp (pw_or ha hb) fun σ H Q q => or_t q
/-! as values -/
theorem pe_Or {ma mb : PX} (ha : PE X a (tP X.K M W ma)) (hb : PE X (.BoolOp .Or (b :: rest) pos) (tP X.K M W mb)) : PE X (.BoolOp .Or (a :: b :: rest) pos) (tP X.K M W (pOrV ma mb)) := by
  refine PE.imp (pe_orT ha hb) fun σ H Q q => ?_
  obtain ⟨g, G, S, m, q⟩ := q
  refine ⟨g, G, S, m, EndE.imp (EndE.bind q) fun v H1 ⟨d, g1, G1, S1, T, er, got, st, q⟩ => ?_⟩
  cases e : trD d with
  | none => rw [e] at q; exact (show False from q).elim
  | some k =>
    rw [e] at q
    refine ⟨k, tru_seen ⟨T, got.2.1⟩ got.1.sub e, ?_⟩
    cases k with
    | true => exact (show EndE X.K M W σ H G S (.ok d g1) Q from q) v H1 G1 S1 T got st
    | false => exact ⟨g1, G1, S1, got.1, EndE.of q st⟩
theorem pe_And {ma mb : PX} (ha : PE X a (tP X.K M W ma)) (hb : PE X (.BoolOp .And (b :: rest) pos) (tP X.K M W mb)) : PE X (.BoolOp .And (a :: b :: rest) pos) (tP X.K M W (pAndV ma mb)) := by
  refine PE.imp (pe_andT ha hb) fun σ H Q q => ?_
  obtain ⟨g, G, S, m, q⟩ := q
  refine ⟨g, G, S, m, EndE.imp (EndE.bind q) fun v H1 ⟨d, g1, G1, S1, T, er, got, st, q⟩ => ?_⟩
  cases e : trD d with
  | none => rw [e] at q; exact (show False from q).elim
  | some k =>
    rw [e] at q
    refine ⟨k, tru_seen ⟨T, got.2.1⟩ got.1.sub e, ?_⟩
    cases k with
    | false => exact (show EndE X.K M W σ H G S (.ok d g1) Q from q) v H1 G1 S1 T got st
    | true => exact ⟨g1, G1, S1, got.1, EndE.of q st⟩
theorem pe_Not {oa : Op} (ha : PE X a (tO X.K M W oa)) : PE X (.UnaryOp .Not a pos) (tP X.K M W (pNotV oa)) := by
  refine PE.imp (pe_notT ha) fun σ H Q q => ?_
  obtain ⟨g, G, S, m, q⟩ := op1_t q
  refine ⟨g, G, S, m, EndO.imp q fun v H1 ⟨g1, G1, S1, d, m1, sd, q⟩ => ?_⟩
  dsimp only at q
  cases e : trD d with
  | none => rw [e] at q; exact (show False from q).elim
  | some k =>
    rw [e] at q
    exact ⟨k, tru_seen sd m1.sub e, fin_sc q m1 rfl⟩
theorem pe_IfE {mc : PT'} {ma mb : PX} (hc : PT X c (tB' K M W mc)) (ha : PE X a (tP K M W ma)) (hb : PE X b (tP K M W mb)) : PE X (.IfExp c a b pos) (tP K M W (pIfE mc ma mb)) := by
  refine PE.imp (pe_ifExp hc ha hb) fun σ H Q q => ?_
  obtain ⟨g, G, S, m, q⟩ := q
  refine ⟨g, G, S, m, EndB.imp (EndE.bindB q) fun t H1 ⟨g1, G1, S1, er, m1, st, q⟩ => ?_⟩
  cases t with
  | true => exact ⟨g1, G1, S1, m1, EndE.of q st⟩
  | false => exact ⟨g1, G1, S1, m1, EndE.of q st⟩
/-! a chain -/
theorem ch_t {op op' : CmpOp} {oa ob oc : Op} {Q : VK} (q : tP K M W (pCh op op' oa ob oc) σ H Q) :
    tO K M W oa σ H fun x H1 => tO K M W ob σ H1 fun y H2 => rF K M W (fun d e g => rb (cmpD op d e) g) σ x y H2 fun z H3 => ∃ k, z = .bl k ∧
      (if k = true then tO K M W oc σ H3 fun w H4 => rF K M W (fun d e g => rb (cmpD op' d e) g) σ y w H4 Q else Q (.bl false) H3) := by
  obtain ⟨g, G, S, m, q⟩ := q
  unfold pCh at q
  refine ⟨g, G, S, m, ?_⟩
  cases er : evO oa g with
  | bad => rw [er] at q; exact q
  | exc c d g' => rw [er] at q; exact q
  | ok xx g1 =>
    rw [er, Rs.bind_ok] at q
    intro x H1 G1 S1 m1 r1 st
    refine ⟨g1, G1, S1, m1, ?_⟩
    unfold pCh2 at q
    cases er2 : evO ob g1 with
    | bad => rw [er2] at q; exact q
    | exc c d g' => rw [er2] at q; exact EndX.of q st
    | ok yy g2 =>
      rw [er2, Rs.bind_ok] at q
      intro y H2 G2 S2 m2 r2 st2
      cases e1 : rdO g2 oa xx with
      | none => rw [e1] at q; exact q.elim
      | some d =>
        cases e2 : rdO g2 ob yy with
        | none => rw [e1, e2] at q; exact q.elim
        | some e =>
          rw [e1, e2] at q
          dsimp only at q
          refine ⟨g2, G2, S2, d, e, m2, (r1.stp (g1 := g2) st2).seen m2 e1, r2.seen m2 e2, ?_⟩
          cases e3 : cmpD op d e with
          | none => rw [e3] at q; exact q.elim
          | some k =>
            rw [e3] at q
            show EndE K M W σ H2 G2 S2 (rb (cmpD op d e) g2) _
            rw [e3]
            intro z H3 G3 S3 T got st3
            refine ⟨k, Seen.bl (K := K) (M := M) (G := G3) (H := H3) ⟨T, got.2.1⟩, ?_⟩
            cases k with
            | false => exact (show EndE K M W σ H G S (.ok (.bl false) g2) Q from q) (.bl false) H3 G3 S3 none_ ⟨got.1, Own.of rfl, fun a z => z.elim⟩ ((st.trans st2).trans st3)
            | true =>
              refine ⟨g2, G3, S3, got.1, ?_⟩
              dsimp only [pCh3] at q
              cases er3 : evO oc g2 with
              | bad => rw [er3] at q; exact q
              | exc c d g' => rw [er3] at q; exact EndX.of q ((st.trans st2).trans st3)
              | ok zz g4 =>
                rw [er3, Rs.bind_ok] at q
                intro w H4 G4 S4 m4 r4 st4
                have q := EndE.of q (((st.trans st2).trans st3).trans st4)
                cases e4 : rdO g4 ob yy with
                | none => rw [e4] at q; exact (show False from q).elim
                | some e' =>
                  cases e5 : rdO g4 oc zz with
                  | none => rw [e4, e5] at q; exact (show False from q).elim
                  | some f' =>
                    rw [e4, e5] at q
                    exact ⟨g4, G4, S4, e', f', m4, (r2.stp (g1 := g4) (st3.trans st4)).seen m4 e4, r4.seen m4 e5, q⟩
theorem pe_Ch (hu : X.A.units + 64 < cLine) {op op' : CmpOp} {oa ob oc : Op} (ha : PE X a (tO X.K M W oa)) (hb : PE X b (tO X.K M W ob)) (hc : PE X c (tO X.K M W oc)) (hm : lastMarks [op, op'] [b, c] = false) :
    PE X (.Compare a [op, op'] [b, c] pos) (tP X.K M W (pCh op op' oa ob oc)) := ⟨fun pins s σ H Q I q => by
  refine Compare_chain (thn (ha.run pins s σ H _ I (ch_t q)) fun v s1 ⟨x, H1, I1, rx, q⟩ => chain_link (thn (hb.run pins s1 σ H1 _ I1 q) fun u s2 ⟨y, H2, I2, ry, q⟩ => thn (cmp_ok hu op pins s2 σ H2 x y v u _ I2 rx ry q) fun w s3 ⟨z, H3, I3, rz, k, e, q⟩ => ?_)) hm
  subst e
  cases rz
  cases k with
  | false => exact wpAny_truthy_bool (ite_ff ⟨.bl false, H3, I3, rfl, q⟩)
  | true => exact wpAny_truthy_bool (ite_tt (chain_last (thn (hc.run pins s3 σ H3 _ I3 q) fun w4 s4 ⟨z, H4, I4, rz, q⟩ => cmp_ok hu op' pins s4 σ H4 y z u w4 Q I4 ry rz q)))⟩
theorem pt_Ch (hu : X.A.units + 64 < cLine) {op op' : CmpOp} {oa ob oc : Op} (ha : PE X a (tO X.K M W oa)) (hb : PE X b (tO X.K M W ob)) (hc : PE X c (tO X.K M W oc)) (hm : lastMarks [op, op'] [b, c] = false) :
    PT X (.Compare a [op, op'] [b, c] pos) (tB' X.K M W (pTest (pCh op op' oa ob oc))) := ⟨fun pins s σ H Q I q => by
  refine isTrue_chain (thn (ha.run pins s σ H _ I (ch_t (test_t q))) fun v s1 ⟨x, H1, I1, rx, q⟩ => test_link (thn (hb.run pins s1 σ H1 _ I1 q) fun u s2 ⟨y, H2, I2, ry, q⟩ => thn (cmp_ok hu op pins s2 σ H2 x y v u _ I2 rx ry q) fun w s3 ⟨z, H3, I3, rz, k, e, q⟩ => ?_)) hm
  subst e
  cases rz
  cases k with
  | false =>
    obtain ⟨k, e, q⟩ := q
    cases e
    exact wpAny_truthy_bool (ite_ff ⟨H3, I3, q⟩)
  | true =>
    refine wpAny_truthy_bool (ite_tt (test_last (thn (hc.run pins s3 σ H3 _ I3 q) fun w4 s4 ⟨z, H4, I4, rz, q⟩ => thn (cmp_ok hu op' pins s4 σ H4 y z u w4 _ I4 ry rz q) fun w5 s5 ⟨z5, H5, I5, r5, k5, e5, q5⟩ => ?_)))
    subst e5
    cases r5
    exact wpAny_truthy_bool ⟨H5, I5, q5⟩⟩
end
end PI

set_option Elab.async false
set_option linter.all false
set_option maxRecDepth 100000
set_option maxHeartbeats 1000000
namespace PI
open PySem PySem.Spec PyProof.Rows L2
open PySem.W (Frag)
/-! ### targets: a name, names in a row -/
inductive Tg where
  | nm (i : Nat) | tp (is : List Nat)
def setAll : List Nat → List D → Sg → Option Sg
  | [], [], g => some g
  | i :: is, d :: ds, g => if i < g.length then setAll is ds (g.set i (some d)) else none
  | _, _, _ => none
def seqD : D → Option (List D)
  | .lst _ xs => some xs
  | .tup xs => some xs
  | _ => none
def asg : Tg → D → Sg → Option Sg
  | .nm i, d, g => if i < g.length then some (g.set i (some d)) else none
  | .tp is, d, g => (seqD d).bind fun xs => setAll is xs g
def sets : List Nat → List V → L2.St → L2.St
  | i :: is, v :: vs, σ => sets is vs (σ.set i (some v))
  | _, _, σ => σ
def gNs (is : List Nat) : TGs := fun vs σ H Q => vs.length = is.length ∧ Q (sets is vs σ) H
/-- the whole of a tuple or list of names -/
def gT (K : Frag) (is : List Nat) : TG := fun v σ H Q => ∃ a xs, v = .ref a ∧ (SqT K H a xs ∨ SqL K H a xs) ∧ xs.length = is.length ∧ Q (sets is xs σ) H
section
variable {K : Frag} {M : Memo} {W : WX} {X : Cx} {fx : List Nat} {σ σ1 : L2.St} {H H0 G G0 H1 G1 : Hp} {S S0 S1 : Nat → Addr → Prop} {g g1 : Sg} {pos p2 : Pos} {N : Ends}
theorem PGs.imp {es : List Expr} {t t' : TGs} (h : PGs X es t) (k : ∀ vs σ H Q, t' vs σ H Q → t vs σ H Q) : PGs X es t' := ⟨fun pins s σ H vs us Q I r q => h.run pins s σ H vs us Q I r (k vs σ H Q q)⟩
theorem PG.imp {e : Expr} {t t' : TG} (h : PG X e t) (k : ∀ v σ H Q, t' v σ H Q → t v σ H Q) : PG X e t' := ⟨fun pins s σ H v u Q I r q => h.run pins s σ H v u Q I r (k v σ H Q q)⟩
theorem pgs_n0 : PGs X [] (gNs []) := PGs.imp pgs_nil fun vs σ H Q ⟨hl, q⟩ => by
  cases vs with
  | nil => exact ⟨rfl, q⟩
  | cons v vs => simp at hl
theorem pgs_nc {i : Nat} {x : Str} {es : List Expr} {is : List Nat} (hN : X.N.Nodup) (hi : X.N[i]? = some x) (hx : Loc X.env.scope x) (hfn : X.fn x = true ∨ X.env.scope.names.lookup x = some .local) (h : PGs X es (gNs is)) : PGs X (.Name x pos :: es) (gNs (i :: is)) :=
  PGs.imp (pgs_cons (pg_name hN hi hx hfn) h rfl) fun vs σ H Q ⟨hl, q⟩ => by
    cases vs with
    | nil => simp at hl
    | cons v vs => exact ⟨v, vs, rfl, by simpa using hl, q⟩
theorem pg_T {es : List Expr} {k : Nat} {is : List Nat} (hc : X.calm = true) (h : PGs X es (gNs is)) (hn : (assignEach es X.env).length = is.length) (hst : (assignEach es X.env).findIdx? (·.1) = none) : PG X (.Tuple es k pos) (gT X.K is) :=
  ⟨fun pins s σ H v u Q I r ⟨a, xs, e, hq, hl, q⟩ => by
    rcases hq with hq | hq
    · exact (pg_tup hc h hn hst).run pins s σ H v u Q I r ⟨a, xs, e, hq, hl, hl, q⟩
    · exact (pg_lst hc h hn hst).run pins s σ H v u Q I r ⟨a, xs, e, hq, hl, hl, q⟩⟩
theorem seq_seen {d : D} {v : V} {xs : List D} (h : Seen K M G H d v) (sb : Sub G H) (e : seqD d = some xs) : ∃ a vs, v = .ref a ∧ (SqT K H a vs ∨ SqL K H a vs) ∧ RepL K G xs vs := by
  cases d with
  | lst m ys =>
    cases e
    obtain ⟨a, vs, e, h1, h2⟩ := h.lst sb
    exact ⟨a, vs, e, .inr h1, h2⟩
  | tup ys =>
    cases e
    obtain ⟨a, vs, e, h1, h2⟩ := h.tup sb
    exact ⟨a, vs, e, .inl h1, h2⟩
  | _ => cases e
theorem setAll_mt : ∀ {is : List Nat} {ds : List D} {vs : List V} {g g' : Sg} {σ : L2.St} {S : Nat → Addr → Prop}, setAll is ds g = some g' → RepL K G ds vs → Mt K M g σ H G S → (∀ i ∈ is, i ∉ fx) → Stp M H0 G0 S0 H G S →
    ∃ S', Mt K M g' (sets is vs σ) H G S' ∧ Stp M H0 G0 S0 H G S' ∧ Fx fx σ (sets is vs σ) ∧ vs.length = is.length
  | [], [], vs, g, g', σ, S, e, r, m, _, st => by
    cases (show vs = [] from r)
    cases (show some g = some g' from e)
    exact ⟨S, m, st, Fx.refl, rfl⟩
  | [], d :: ds, _, _, _, _, _, e, _, _, _, _ => by cases e
  | i :: is, [], _, _, _, _, _, e, _, _, _, _ => by cases e
  | i :: is, d :: ds, vs, g, g', σ, S, e, r, m, nf, st => by
    obtain ⟨v, vr, rfl, r1, r2⟩ := r
    have e : (if i < g.length then setAll is ds (g.set i (some d)) else none) = some g' := e
    split at e
    · rename_i hl
      have m1 := m.set (Own.of r1) (fun a z => z.elim) hl
      obtain ⟨S', m2, st2, f2, l2⟩ := setAll_mt e r2 m1 (fun j hj => nf j (List.mem_cons_of_mem _ hj)) (st.set fun a z => z.elim)
      exact ⟨S', m2, st2, (Fx.set (nf i (List.mem_cons_self ..))).trans f2, congrArg Nat.succ l2⟩
    · cases e
/-- a sealed value goes into a target -/
def gP (K : Frag) : Tg → TG
  | .nm i => gName i
  | .tp is => gT K is
def tgOk (fx : List Nat) : Tg → Prop
  | .nm i => i ∉ fx
  | .tp is => ∀ i ∈ is, i ∉ fx
theorem asg_g {tg : Tg} {d : D} {v : V} {g' : Sg} {Q : L2.St → Hp → Prop} (ht : tgOk fx tg) (e : asg tg d g = some g') (m : Mt K M g σ H G S) (r : Rep K G d v) (st : Stp M H0 G0 S0 H G S) (q : ∀ σ' S', Fx fx σ σ' → Mt K M g' σ' H G S' → Stp M H0 G0 S0 H G S' → Q σ' H) : gP K tg v σ H Q := by
  cases tg with
  | nm i =>
    have e : (if i < g.length then some (g.set i (some d)) else none) = some g' := e
    split at e
    · rename_i hl
      cases e
      exact q _ _ (Fx.set ht) (m.set (Own.of r) (fun a z => z.elim) hl) (st.set fun a z => z.elim)
    · cases e
  | tp is =>
    have e : ((seqD d).bind fun xs => setAll is xs g) = some g' := e
    cases e1 : seqD d with
    | none => rw [e1] at e; cases e
    | some xs =>
      rw [e1] at e
      obtain ⟨a, vs, rfl, hq, hr⟩ := seq_seen (Seen.of r : Seen K M G H d v) m.sub e1
      obtain ⟨S', m', st', f', hl⟩ := setAll_mt e hr m ht st
      exact ⟨a, vs, rfl, hq, hl, q _ _ f' m' st'⟩
/-- names in a row = an expression -/
def pSetT (is : List Nat) (e : PX) : PF := fun g => (e g).bind fun d g1 => match (seqD d).bind fun xs => setAll is xs g1 with
  | some g2 => .ok .nx g2
  | none => .bad
theorem ps_SetT {es : List Expr} {k : Nat} {is : List Nat} {e : Expr} {me : PX} (hc : X.calm = true) (he : PE X e (tP X.K M W me)) (h : PGs X es (gNs is)) (hf : ∀ i ∈ is, i ∉ fx) (hn : (assignEach es X.env).length = is.length) (hst : (assignEach es X.env).findIdx? (·.1) = none)
    (hs : swapsWithSole [.Tuple es k p2] e pos.line X.env = pure false) (hw : swappedStores [.Tuple es k p2] e X.env = pure none) (h1 : (assignEach [.Tuple es k p2] X.env).map (·.2) = [assign (.Tuple es k p2) X.env]) :
    PS X (.Assign [.Tuple es k p2] e pos) (tF X.K M fx W (pSetT is me)) := by
  refine PS.imp (ps_asg he (pg_T hc h hn hst) hs hw h1) fun N σ H q => ?_
  obtain ⟨g, G, S, m, q⟩ := q
  refine ⟨g, G, S, m, EndE.imp (EndF.bindE q) fun v H1 ⟨d, g1, G1, S1, T, er, got, st, q⟩ => ?_⟩
  cases e1 : seqD d with
  | none => rw [e1] at q; exact (show False from q).elim
  | some xs =>
    rw [e1, Option.bind_some] at q
    cases e2 : setAll is xs g1 with
    | none => rw [e2] at q; exact (show False from q).elim
    | some g2 =>
      rw [e2] at q
      obtain ⟨a, vs, rfl, hq, hr⟩ := seq_seen ⟨T, got.2.1⟩ got.1.sub e1
      obtain ⟨S', m', st', f', hl⟩ := setAll_mt e2 hr got.1 hf st
      exact ⟨a, vs, rfl, hq, hl, (show EndN X.K M fx σ H G S g2 N.nx from q) _ _ _ _ f' m' st'⟩
/-! ### walks -/
def Walk (K : Frag) (M : Memo) (J : It) (ds : List D) (G : Hp) : Prop := ∀ (g : Sg) (σ : L2.St) (H G' : Hp) (S : Nat → Addr → Prop), Sub G G' → Mt K M g σ H G' S → ∀ i : Nat,
  (∀ d, ds[i]? = some d → J.go i H ∧ ∀ x H', J.yld i H x H' → ∃ G'', Mt K M g σ H' G'' S ∧ Rep K G'' d x ∧ Stp M H G' S H' G'' S) ∧ (ds.length ≤ i → J.stop i H)
def EndI (K : Frag) (M : Memo) (W : WX) (σ : L2.St) (H G : Hp) (S : Nat → Addr → Prop) (r : Rs (List D)) (R : It → Hp → Prop) : Prop := match r with
  | .bad => False
  | .ok ds g' => ∀ J H' G' S', Mt K M g' σ H' G' S' → Walk K M J ds G' → Stp M H G S H' G' S' → R J H'
  | .exc c d g' => EndX K M W σ H G S c d g'
abbrev PIt := Sg → Rs (List D)
def tI (K : Frag) (M : Memo) (W : WX) (m : PIt) : TI := fun σ H R => ∃ g G S, Mt K M g σ H G S ∧ EndI K M W σ H G S (m g) R
def forD (tg : Tg) (body : PF) : List D → PF
  | [], g => .ok .nx g
  | d :: ds, g => match asg tg d g with
    | none => .bad
    | some g1 => (body g1).bind fun fl g2 => match fl with
      | .nx => forD tg body ds g2
      | .ct => forD tg body ds g2
      | .bk => .ok .nx g2
      | .rt d => .ok (.rt d) g2
def pFor (it : PIt) (tg : Tg) (body : PF) : PF := fun g => (it g).bind fun ds g1 => forD tg body ds g1
theorem ps_For {iter tge : Expr} {body : List Stmt} {mi : PIt} {tg : Tg} {mb : PF} (hp : PassesOwn (model X.prog X.w) X.A X.env X.xe) (hc : X.calm = true) (hi : PI X tge iter (tI X.K M W mi)) (hg : PG X tge (gP X.K tg)) (ht : tgOk fx tg) (hb : PSs X body (tF X.K M fx W mb))
    (hs : ∀ x, foldedSetIterable iter X.env x = pure x) : PS X (.For tge iter body [] pos) (tF X.K M fx W (pFor mi tg mb)) := by
  refine PS.imp (ps_for hp hc hi hg hb hs) fun N σ H q => ?_
  obtain ⟨g, G, S, m, q⟩ := q
  refine ⟨g, G, S, m, ?_⟩
  unfold pFor at q
  cases er : mi g with
  | bad => rw [er] at q; exact q
  | exc c d g' => rw [er] at q; exact EndXs.x q
  | ok ds g1 =>
    rw [er, Rs.bind_ok] at q
    intro J H1 G1 S1 m1 wk st1
    refine ⟨fun i mm σ' H' => mm = ds.length - i ∧ i ≤ ds.length ∧ ∃ g' G' S', Fx fx σ σ' ∧ Mt X.K M g' σ' H' G' S' ∧ Stp M H G S H' G' S' ∧ Sub G1 G' ∧ EndF X.K M fx W σ H G S (forD tg mb (ds.drop i) g') N, ⟨ds.length, rfl, Nat.zero_le _, g1, G1, S1, Fx.refl, m1, st1, Sub.refl _, q⟩, ?_⟩
    rintro i mm σ' H' ⟨rfl, hi, g', G', S', f', m', st', sb, q⟩
    obtain ⟨w1, w2⟩ := wk g' σ' H' G' S' sb m' i
    by_cases hlt : i < ds.length
    · obtain ⟨go, yl⟩ := w1 ds[i] (List.getElem?_eq_getElem hlt)
      refine .inr ⟨go, fun σ2 H2 => ∃ g2 G2 S2, Fx fx σ σ2 ∧ Mt X.K M g2 σ2 H2 G2 S2 ∧ Stp M H G S H2 G2 S2 ∧ Sub G1 G2 ∧ EndF X.K M fx W σ H G S (forD tg mb (ds.drop (i + 1)) g2) N, fun σ2 H2 z => ⟨ds.length - (i + 1), by omega, rfl, hlt, z⟩, fun x H2 hy => ?_⟩
      obtain ⟨G2, m2, r2, st2⟩ := yl x H2 hy
      rw [List.drop_eq_getElem_cons hlt] at q
      have q : EndF X.K M fx W σ H G S (match asg tg ds[i] g' with
        | none => .bad
        | some g1 => (mb g1).bind fun fl g2 => match fl with
          | .nx => forD tg mb (ds.drop (i + 1)) g2
          | .ct => forD tg mb (ds.drop (i + 1)) g2
          | .bk => .ok .nx g2
          | .rt d => .ok (.rt d) g2) N := q
      cases e1 : asg tg ds[i] g' with
      | none => rw [e1] at q; exact (show False from q).elim
      | some g3 =>
        rw [e1] at q
        refine asg_g ht e1 m2 r2 (st'.trans st2) fun σ3 S3 f3 m3 st3 => ?_
        refine ⟨g3, G2, S3, m3, ?_⟩
        have sb3 : Sub G1 G2 := sb.trans st2.gr
        dsimp only at q
        cases e2 : mb g3 with
        | bad => rw [e2] at q; exact q
        | exc c d g4 => rw [e2] at q; exact EndXs.of q (f'.trans f3) st3
        | ok fl g4 =>
          rw [e2, Rs.bind_ok] at q
          cases fl with
          | nx => exact fun σ4 H4 G4 S4 f4 m4 st4 => ⟨g4, G4, S4, (f'.trans f3).trans f4, m4, st3.trans st4, sb3.trans st4.gr, q⟩
          | ct => exact fun σ4 H4 G4 S4 f4 m4 st4 => ⟨g4, G4, S4, (f'.trans f3).trans f4, m4, st3.trans st4, sb3.trans st4.gr, q⟩
          | bk => exact EndN.of q (f'.trans f3) st3
          | rt d => exact EndF.of (r := .ok (.rt d) g4) q (f'.trans f3) st3
    · have e : i = ds.length := by omega
      subst e
      rw [List.drop_length] at q
      exact .inl ⟨w2 (Nat.le_refl _), (show EndN X.K M fx σ H G S g' N.nx from q) σ' H' G' S' f' m' st'⟩
end
end PI

set_option Elab.async false
set_option linter.all false
set_option maxRecDepth 100000
set_option maxHeartbeats 1000000
namespace PI
open PySem PySem.Spec PyProof.Rows L2
open PySem.W (Frag)
open RZ (ItzT pi_zipA)
/-! ### what is walked: lists, tuples, strs, ranges, enumerate, zip -/
def itmD : D → Option (List D)
  | .lst _ xs => some xs
  | .tup xs => some xs
  | .str x => some (x.cps.toList.map fun c => .str ⟨#[c]⟩)
  | _ => none
def rl (o : Option (List D)) (g : Sg) : Rs (List D) := match o with
  | some ds => .ok ds g
  | none => .bad
def pItV (m : PX) : PIt := fun g => (m g).bind fun d g1 => rl (itmD d) g1
def rngD (i j : Int) : List D := (List.range (j - i).toNat).map fun k => .int (i + (k : Nat))
def rngA : List D → Option (List D)
  | [.int j] => if -lim ≤ j ∧ j ≤ lim then some (rngD 0 j) else none
  | [.int i, .int j] => if -lim ≤ i ∧ i ≤ lim ∧ -lim ≤ j ∧ j ≤ lim then some (rngD i j) else none
  | _ => none
def pRng (os : List Op) : PIt := fun g => (evOs os g).bind fun xs g1 => rl ((rdOs g1 os xs).bind rngA) g1
def enumD : Nat → List D → List D
  | _, [] => []
  | k, x :: xs => .tup [.int (k : Nat), x] :: enumD (k + 1) xs
def enumA : List D → Option (List D)
  | [.lst _ xs] => some (enumD 0 xs)
  | _ => none
def zipD (xs ys : List D) : List D := List.zipWith (fun x y => .tup [x, y]) xs ys
def zipA : List D → Option (List D)
  | [.lst _ xs, .lst _ ys] => some (zipD xs ys)
  | [.tup xs, .tup ys] => some (zipD xs ys)
  | _ => none
def pItA (f : List D → Option (List D)) (ms : List PX) : PIt := fun g => (pAll ms g).bind fun ds g1 => rl (f ds) g1
section
variable {K : Frag} {M : Memo} {W : WX} {X : Cx} {fx : List Nat} {σ σ1 : L2.St} {H H0 G G0 H1 G1 : Hp} {S S0 S1 : Nat → Addr → Prop} {g g1 : Sg} {pos p p2 tpos : Pos} {tg : Expr}
theorem walk_l {a : Addr} {ds : List D} {vs : List V} (h : SqL K G a vs) (r : RepL K G ds vs) : Walk K M (Itl K a) ds G := fun g σ H G' S sb m i => by
  have h' : SqL K H a vs := m.sub.sqL (sb.sqL h)
  refine ⟨fun d hd => ?_, fun hl => ⟨vs, h', by rw [← r.len]; exact hl⟩⟩
  obtain ⟨v, hv, rv⟩ := r.get i hd
  refine ⟨⟨vs, v, h', hv⟩, fun x H' y => ?_⟩
  obtain ⟨rfl, y⟩ := y
  have := y vs h'
  rw [hv] at this; cases this
  exact ⟨G', m, Rep.mono sb _ _ rv, Stp.refl⟩
theorem walk_t {a : Addr} {ds : List D} {vs : List V} (h : SqT K G a vs) (r : RepL K G ds vs) : Walk K M (Itt K a) ds G := fun g σ H G' S sb m i => by
  have h' : SqT K H a vs := m.sub.sqT (sb.sqT h)
  refine ⟨fun d hd => ?_, fun hl => ⟨vs, h', by rw [← r.len]; exact hl⟩⟩
  obtain ⟨v, hv, rv⟩ := r.get i hd
  refine ⟨⟨vs, v, h', hv⟩, fun x H' y => ?_⟩
  obtain ⟨rfl, y⟩ := y
  have := y vs h'
  rw [hv] at this; cases this
  exact ⟨G', m, Rep.mono sb _ _ rv, Stp.refl⟩
theorem walk_s {z : Str} : Walk K M (Its z) (z.cps.toList.map fun c => .str ⟨#[c]⟩) G := fun g σ H G' S sb m i => by
  refine ⟨fun d hd => ?_, fun hl => ?_⟩
  · rw [List.getElem?_map] at hd
    cases e : z.cps.toList[i]? with
    | none => rw [e] at hd; cases hd
    | some c =>
      rw [e] at hd
      cases hd
      refine ⟨by have := (List.getElem?_eq_some_iff.mp e).1; rw [Array.length_toList] at this; exact this, fun x H' y => ?_⟩
      obtain ⟨rfl, c', e', rfl⟩ := y
      have : z.cps.toList[i]? = some c' := by rw [Array.getElem?_toList]; exact e'
      rw [e] at this; cases this
      exact ⟨G', m, rfl, Stp.refl⟩
  · rw [List.length_map, Array.length_toList] at hl
    exact hl
theorem walk_r {lo : Int} {n : Nat} : Walk K M (Itr lo n) ((List.range n).map fun k => .int (lo + (k : Nat))) G := fun g σ H G' S sb m i => by
  refine ⟨fun d hd => ?_, fun hl => ?_⟩
  · rw [List.getElem?_map] at hd
    by_cases hi : i < n
    · rw [List.getElem?_range hi] at hd
      cases hd
      exact ⟨hi, fun x H' y => by obtain ⟨rfl, rfl⟩ := y; exact ⟨G', m, rfl, Stp.refl⟩⟩
    · rw [List.getElem?_eq_none (by rw [List.length_range]; omega)] at hd; cases hd
  · rw [List.length_map, List.length_range] at hl
    exact hl
theorem Mt.pair {T : Addr} {x y : V} {d e : D} (m : Mt K M g σ H G S) (hT : H T = none) (rx : Rep K G d x) (ry : Rep K G e y) :
    ∃ G'', Mt K M g σ (upd H T (.tup [x, y])) G'' S ∧ Rep K G'' (.tup [d, e]) (.ref T) ∧ Stp M H G S (upd H T (.tup [x, y])) G'' S :=
  ⟨_, m.new hT (M.tup _), ⟨T, [x, y], rfl, SqT.of upd_same, ⟨x, [y], rfl, Rep.mono (Sub.new (m.gnone hT)) _ _ rx, ⟨y, [], rfl, Rep.mono (Sub.new (m.gnone hT)) _ _ ry, rfl⟩⟩⟩, m.newStp hT (M.tup _)⟩
theorem enum_at : ∀ (xs : List D) (k i : Nat), (enumD k xs)[i]? = xs[i]?.map fun x => .tup [.int ((k + i : Nat) : Int), x]
  | [], k, i => rfl
  | x :: xs, k, 0 => rfl
  | x :: xs, k, i + 1 => by
    show (enumD (k + 1) xs)[i]? = _
    rw [enum_at xs (k + 1) i, show k + 1 + i = k + (i + 1) by omega] <;> rfl
theorem enum_len : ∀ (xs : List D) (k : Nat), (enumD k xs).length = xs.length
  | [], k => rfl
  | x :: xs, k => congrArg Nat.succ (enum_len xs (k + 1))
theorem walk_e {a : Addr} {ds : List D} {vs : List V} (h : SqL K G a vs) (r : RepL K G ds vs) : Walk K M (Ite K a) (enumD 0 ds) G := fun g σ H G' S sb m i => by
  have h' : SqL K H a vs := m.sub.sqL (sb.sqL h)
  refine ⟨fun d hd => ?_, fun hl => ⟨vs, h', by rw [← r.len, ← enum_len ds 0]; exact hl⟩⟩
  rw [enum_at] at hd
  cases e : ds[i]? with
  | none => rw [e] at hd; cases hd
  | some d0 =>
    rw [e] at hd
    cases hd
    obtain ⟨v, hv, rv⟩ := r.get i e
    refine ⟨⟨vs, v, h', hv⟩, fun x H' y => ?_⟩
    obtain ⟨T, x0, rfl, hT, rfl, y⟩ := y
    have := y vs h'
    rw [hv] at this; cases this
    rw [Nat.zero_add]
    exact m.pair (d := .int (i : Nat)) hT rfl (Rep.mono sb _ _ rv)
theorem zip_at (xs ys : List D) (i : Nat) : (zipD xs ys)[i]? = (match xs[i]?, ys[i]? with
    | some x, some y => some (.tup [x, y])
    | _, _ => none) := by
  unfold zipD
  rw [List.getElem?_zipWith]
  cases xs[i]? <;> cases ys[i]? <;> rfl
theorem walk_z {a b : Addr} {ds es : List D} {vs us : List V} (h : SqL K G a vs) (r : RepL K G ds vs) (h2 : SqL K G b us) (r2 : RepL K G es us) : Walk K M (Itz K a b) (zipD ds es) G := fun g σ H G' S sb m i => by
  have h' : SqL K H a vs := m.sub.sqL (sb.sqL h)
  have h2' : SqL K H b us := m.sub.sqL (sb.sqL h2)
  refine ⟨fun d hd => ?_, fun hl => ⟨vs, us, h', h2', ?_⟩⟩
  · rw [zip_at] at hd
    cases e : ds[i]? with
    | none => rw [e] at hd; cases hd
    | some d0 =>
      cases e2 : es[i]? with
      | none => rw [e, e2] at hd; cases hd
      | some d1 =>
        rw [e, e2] at hd
        cases hd
        obtain ⟨v, hv, rv⟩ := r.get i e
        obtain ⟨u, hu, ru⟩ := r2.get i e2
        refine ⟨⟨vs, us, v, u, h', h2', hv, hu⟩, fun x H' y => ?_⟩
        obtain ⟨T, x0, y0, rfl, hT, rfl, y1, y2⟩ := y
        have e1 := y1 vs h'
        have e2 := y2 us h2'
        rw [hv] at e1; cases e1
        rw [hu] at e2; cases e2
        exact m.pair hT (Rep.mono sb _ _ rv) (Rep.mono sb _ _ ru)
  · have hl : (zipD ds es).length ≤ i := hl
    unfold zipD at hl
    rw [List.length_zipWith, r.len, r2.len] at hl
    omega
theorem walk_zT {a b : Addr} {ds es : List D} {vs us : List V} (h : SqT K G a vs) (r : RepL K G ds vs) (h2 : SqT K G b us) (r2 : RepL K G es us) : Walk K M (ItzT K a b) (zipD ds es) G := fun g σ H G' S sb m i => by
  have h' : SqT K H a vs := m.sub.sqT (sb.sqT h)
  have h2' : SqT K H b us := m.sub.sqT (sb.sqT h2)
  refine ⟨fun d hd => ?_, fun hl => ⟨vs, us, h', h2', ?_⟩⟩
  · rw [zip_at] at hd
    cases e : ds[i]? with
    | none => rw [e] at hd; cases hd
    | some d0 =>
      cases e2 : es[i]? with
      | none => rw [e, e2] at hd; cases hd
      | some d1 =>
        rw [e, e2] at hd
        cases hd
        obtain ⟨v, hv, rv⟩ := r.get i e
        obtain ⟨u, hu, ru⟩ := r2.get i e2
        refine ⟨⟨vs, us, v, u, h', h2', hv, hu⟩, fun x H' y => ?_⟩
        obtain ⟨T, x0, y0, rfl, hT, rfl, y1, y2⟩ := y
        have e1 := y1 vs h'
        have e2 := y2 us h2'
        rw [hv] at e1; cases e1
        rw [hu] at e2; cases e2
        exact m.pair hT (Rep.mono sb _ _ rv) (Rep.mono sb _ _ ru)
  · have hl : (zipD ds es).length ≤ i := hl
    unfold zipD at hl
    rw [List.length_zipWith, r.len, r2.len] at hl
    omega
/-- a value -/
theorem itv_t {m : PX} {R : It → Hp → Prop} (q : tI K M W (pItV m) σ H R) : (iList K (tP K M W m) σ H R) ∨ (iTup K (tP K M W m) σ H R) ∨ iStr (tP K M W m) σ H R := by
  obtain ⟨g, G, S, mt, q⟩ := q
  unfold pItV at q
  cases er : m g with
  | bad => rw [er] at q; exact (show False from q).elim
  | exc c d g' =>
    rw [er] at q
    refine .inl ⟨g, G, S, mt, ?_⟩
    rw [er]
    exact q
  | ok d g1 =>
    rw [er, Rs.bind_ok] at q
    cases d with
    | lst b xs =>
      refine .inl ⟨g, G, S, mt, ?_⟩
      rw [er]
      intro v H1 G1 S1 T got st
      obtain ⟨G2, m2, r2, sb, hg, hv⟩ := got.seal
      obtain ⟨_, a, vs, e, h1, h2⟩ := r2
      exact ⟨a, e, ⟨vs, m2.sub.sqL h1⟩, (show EndI K M W σ H G S (.ok xs g1) R from q) _ H1 G2 S1 m2 (walk_l h1 h2) (st.sealed sb hg hv)⟩
    | tup xs =>
      refine .inr (.inl ⟨g, G, S, mt, ?_⟩)
      rw [er]
      intro v H1 G1 S1 T got st
      obtain ⟨G2, m2, r2, sb, hg, hv⟩ := got.seal
      obtain ⟨a, vs, e, h1, h2⟩ := r2
      exact ⟨a, e, ⟨vs, m2.sub.sqT h1⟩, (show EndI K M W σ H G S (.ok xs g1) R from q) _ H1 G2 S1 m2 (walk_t h1 h2) (st.sealed sb hg hv)⟩
    | str z =>
      refine .inr (.inr ⟨g, G, S, mt, ?_⟩)
      rw [er]
      intro v H1 G1 S1 T got st
      exact ⟨z, Seen.str (K := K) (M := M) (G := G1) (H := H1) ⟨T, got.2.1⟩, (show EndI K M W σ H G S (.ok _ g1) R from q) _ H1 G1 S1 got.1 walk_s st⟩
    | _ => exact (show False from q).elim
theorem pi_V {e : Expr} {m : PX} (he : PE X e (tP X.K M W m)) : PI X tg e (tI X.K M W (pItV m)) := ⟨fun pins s σ H R I q => by
  rcases itv_t q with q | q | q
  · exact (pi_list he).run pins s σ H R I q
  · exact (pi_tup he).run pins s σ H R I q
  · exact (pi_str he).run pins s σ H R I q⟩
theorem PI.imp {e : Expr} {t t' : TI} (h : PI X tg e t) (k : ∀ σ H R, t' σ H R → t σ H R) : PI X tg e t' := ⟨fun pins s σ H R I q => h.run pins s σ H R I (k σ H R q)⟩
/-- what stands behind operands, arguments that are walked -/
theorem rng_t {os : List Op} {R : It → Hp → Prop} (q : tI K M W (pRng os) σ H R) : tOs K M W os σ H fun vs H1 => ∃ ds g G0 H0 S0 G1 S1, Mt K M g σ H1 G1 S1 ∧ SeenL K M G1 H1 ds vs ∧ Stp M H0 G0 S0 H1 G1 S1 ∧ EndI K M W σ H0 G0 S0 (rl (rngA ds) g) R := by
  obtain ⟨g, G, S, mt, q⟩ := q
  refine ⟨g, G, S, mt, ?_⟩
  unfold pRng at q
  cases er : evOs os g with
  | bad => rw [er] at q; exact q
  | exc c d g' => rw [er] at q; exact q
  | ok xs g1 =>
    rw [er, Rs.bind_ok] at q
    intro vs H1 G1 S1 m1 r1 st
    cases e1 : rdOs g1 os xs with
    | none => rw [e1] at q; exact (show False from q).elim
    | some ds => rw [e1] at q; exact ⟨ds, g1, G, H, S, G1, S1, m1, r1.seen m1 e1, st, q⟩
theorem pi_Rng1 {a : Expr} {oa : Op} (hg : Gl X "range") (hm : X.mg "range" = none) (ha : PA X [a] (tOs X.K M W [oa])) (hs : noStar a = true) : PI X tg (.Call (.Name "range" p) [a] [] pos) (tI X.K M W (pRng [oa])) := by
  refine PI.imp (pi_range1 hg hm ha (star_of hs)) fun σ H R q => ?_
  obtain ⟨g, G, S, mt, q⟩ := rng_t q
  refine ⟨g, G, S, mt, ?_⟩
  cases er : evOs [oa] g with
  | bad => rw [er] at q; exact q
  | exc c d g' => rw [er] at q; exact q
  | ok xs g1 =>
    rw [er] at q
    intro vs H1 G1 S1 m1 r1 st
    obtain ⟨ds, g2, G0, H0, S0, G2, S2, m2, sl, st2, q⟩ := q vs H1 G1 S1 m1 r1 st
    unfold rngA at q
    split at q
    · rename_i j
      obtain ⟨v, r, rfl, h1, rfl⟩ := sl
      cases h1.int
      split at q
      · rename_i hj
        have hl : (lim : Int) = 1000000 := rfl
        rw [hl] at hj
        refine ⟨j, rfl, by omega, by omega, ?_⟩
        have := (show EndI X.K M W σ H0 G0 S0 (.ok (rngD 0 j) g2) R from q) (Itr 0 (j - 0).toNat) H1 G2 S2 m2 walk_r st2
        rw [Int.sub_zero] at this
        exact this
      · exact (show False from q).elim
    · rename_i i j
      obtain ⟨v, r, rfl, h1, h2⟩ := sl
      obtain ⟨v2, r2, rfl, h3, rfl⟩ := h2
      obtain ⟨x, xr, w, wr, e1, e2, e3, e4⟩ := r1
      cases e2
      cases (e4 : _ ∧ _).2
    · exact (show False from q).elim
theorem pi_Rng2 {a b : Expr} {oa ob : Op} (hg : Gl X "range") (hm : X.mg "range" = none) (ha : PA X [a, b] (tOs X.K M W [oa, ob])) (hs : noStar a = true) (hs2 : noStar b = true) : PI X tg (.Call (.Name "range" p) [a, b] [] pos) (tI X.K M W (pRng [oa, ob])) := by
  refine PI.imp (pi_range2 hg hm ha (by rw [star_of hs, star_of hs2]; rfl) (star_of hs2)) fun σ H R q => ?_
  obtain ⟨g, G, S, mt, q⟩ := rng_t q
  refine ⟨g, G, S, mt, ?_⟩
  cases er : evOs [oa, ob] g with
  | bad => rw [er] at q; exact q
  | exc c d g' => rw [er] at q; exact q
  | ok xs g1 =>
    rw [er] at q
    intro vs H1 G1 S1 m1 r1 st
    obtain ⟨ds, g2, G0, H0, S0, G2, S2, m2, sl, st2, q⟩ := q vs H1 G1 S1 m1 r1 st
    unfold rngA at q
    split at q
    · rename_i j
      obtain ⟨v, r, rfl, h1, rfl⟩ := sl
      obtain ⟨x, xr, w, wr, e1, e2, e3, e4⟩ := r1
      cases e2
      obtain ⟨x, xr, w, wr, e1, e2, e3, e4⟩ := e4
      cases e2
    · rename_i i j
      obtain ⟨v, r, rfl, h1, h2⟩ := sl
      obtain ⟨v2, r2, rfl, h3, rfl⟩ := h2
      cases h1.int
      cases h3.int
      split at q
      · rename_i hj
        have hl : (lim : Int) = 1000000 := rfl
        rw [hl] at hj
        exact ⟨i, j, rfl, by omega, (show EndI X.K M W σ H0 G0 S0 (.ok (rngD i j) g2) R from q) (Itr i (j - i).toNat) H1 G2 S2 m2 walk_r st2⟩
      · exact (show False from q).elim
    · exact (show False from q).elim
theorem ita_t {f : List D → Option (List D)} {ms : List PX} {R : It → Hp → Prop} (q : tI K M W (pItA f ms) σ H R) : tL K M W (pAll ms) σ H fun vs H1 => ∃ ds g G0 H0 S0 G1 S1, Mt K M g σ H1 G1 S1 ∧ RepL K G1 ds vs ∧ Stp M H0 G0 S0 H1 G1 S1 ∧ EndI K M W σ H0 G0 S0 (rl (f ds) g) R := by
  obtain ⟨g, G, S, mt, q⟩ := q
  refine ⟨g, G, S, mt, ?_⟩
  unfold pItA at q
  cases er : pAll ms g with
  | bad => rw [er] at q; exact q
  | exc c d g' => rw [er] at q; exact q
  | ok ds g1 =>
    rw [er, Rs.bind_ok] at q
    exact fun vs H1 G1 S1 m1 r1 st => ⟨ds, g1, G, H, S, G1, S1, m1, r1, st, q⟩
theorem pi_Enum {a : Expr} {m : PX} {elts : List Expr} {kk : Nat} (hg : Gl X "enumerate") (hm : X.mg "enumerate" = none) (ha : PA X [a] (tL X.K M W (pAll [m]))) (hs : noStar a = true) : PI X (.Tuple elts kk tpos) (.Call (.Name "enumerate" p) [a] [] pos) (tI X.K M W (pItA enumA [m])) := by
  refine PI.imp (pi_enum hg hm ha (star_of hs)) fun σ H R q => ?_
  obtain ⟨g, G, S, mt, q⟩ := ita_t q
  refine ⟨g, G, S, mt, EndL.imp q fun vs H1 ⟨ds, g2, G0, H0, S0, G2, S2, m2, sl, st2, q⟩ => ?_⟩
  unfold enumA at q
  split at q
  · obtain ⟨v, r, rfl, h1, rfl⟩ := sl
    obtain ⟨_, a, vs, rfl, h2, h3⟩ := h1
    exact ⟨a, vs, rfl, m2.sub.sqL h2, (show EndI X.K M W σ H0 G0 S0 (.ok _ g2) R from q) _ H1 G2 S2 m2 (walk_e h2 h3) st2⟩
  · exact (show False from q).elim
theorem pi_Zip {a b : Expr} {ma mb : PX} {elts : List Expr} {kk : Nat} (hg : Gl X "zip") (hm : X.mg "zip" = none) (ha : PA X [a, b] (tL X.K M W (pAll [ma, mb]))) (hs : noStar a = true) (hs2 : noStar b = true) :
    PI X (.Tuple elts kk tpos) (.Call (.Name "zip" p) [a, b] [] pos) (tI X.K M W (pItA zipA [ma, mb])) := by
  refine PI.imp (pi_zipA hg hm ha (star_of hs) (stars_of (by rw [List.all_cons, hs2] <;> rfl))) fun σ H R q => ?_
  obtain ⟨g, G, S, mt, q⟩ := ita_t q
  refine ⟨g, G, S, mt, EndL.imp q fun vs H1 ⟨ds, g2, G0, H0, S0, G2, S2, m2, sl, st2, q⟩ => ?_⟩
  unfold zipA at q
  split at q
  · obtain ⟨v, r, rfl, h1, v2, r2, rfl, h4, rfl⟩ := sl
    obtain ⟨_, a, vs, rfl, h2, h3⟩ := h1
    obtain ⟨_, b, us, rfl, h5, h6⟩ := h4
    exact ⟨a, b, vs, us, rfl, .inl ⟨m2.sub.sqL h2, m2.sub.sqL h5, (show EndI X.K M W σ H0 G0 S0 (.ok _ g2) R from q) _ H1 G2 S2 m2 (walk_z h2 h3 h5 h6) st2⟩⟩
  · obtain ⟨v, r, rfl, h1, v2, r2, rfl, h4, rfl⟩ := sl
    obtain ⟨a, vs, rfl, h2, h3⟩ := h1
    obtain ⟨b, us, rfl, h5, h6⟩ := h4
    exact ⟨a, b, vs, us, rfl, .inr ⟨m2.sub.sqT h2, m2.sub.sqT h5, (show EndI X.K M W σ H0 G0 S0 (.ok _ g2) R from q) _ H1 G2 S2 m2 (walk_zT h2 h3 h5 h6) st2⟩⟩
  · exact (show False from q).elim
end
end PI

set_option Elab.async false
set_option linter.all false
set_option maxRecDepth 100000
set_option maxHeartbeats 1000000
namespace PI
open PySem PySem.Spec PyProof.Rows L2
open PySem.W (Frag)
/-! ### changes in place, by the one holder -/
section
variable {K : Frag} {M : Memo} {W : WX} {X : Cx} {fx : List Nat} {σ σ1 : L2.St} {H H0 G G0 H1 G1 : Hp} {S S0 S1 : Nat → Addr → Prop} {g g1 : Sg} {pos p p2 tpos : Pos} {n : Nat}
theorem Mt.upd {a : Addr} {o : HO} {d d' : D} (m : Mt K M g σ H G S) (e : g[n]? = some (some d)) (ev : σ[n]? = some (some (.ref a))) (ga : G a = none) (hs : ∀ b, S n b ↔ b = a) (ow : OwnAt K M G (L2.upd H a o) a d') :
    Mt K M (g.set n (some d')) σ (L2.upd H a o) G S ∧ Stp M H G S (L2.upd H a o) G S := by
  have hi : n < g.length := (List.getElem?_eq_some_iff.mp e).1
  have sna : S n a := (hs a).mpr rfl
  have ho : ∃ u, H a = some u := by
    obtain ⟨v, e1, o1⟩ := m.own n d e
    exact (o1.there sna).1
  obtain ⟨u, hu⟩ := ho
  have keep : ∀ b v, b ≠ a → H b = some v → L2.upd H a o b = some v := fun b v hb q => by rw [upd_ne hb]; exact q
  refine ⟨⟨by rw [List.length_set]; exact m.len, fun j e' h => ?_, fun j q b z => ?_, m.dis, fun b v q => ?_, ?_, m.vol⟩, ⟨Sub.refl _, fun b v q z => ?_, fun b v q => ?_, fun b z => .inl z, fun b v q => .inl q⟩⟩
  · by_cases hj : j = n
    · subst hj
      rw [List.getElem?_set_self hi] at h; cases h
      exact ⟨.ref a, ev, .inr ⟨a, rfl, ga, hs, ow⟩⟩
    · rw [List.getElem?_set_ne (Ne.symm hj)] at h
      obtain ⟨v, e1, o1⟩ := m.own j e' h
      exact ⟨v, e1, o1.keep (Sub.refl _) (fun b v sb q => keep b v (fun z => hj (m.dis j n b sb (z ▸ sna))) q) fun b sb => (o1.there sb).2⟩
  · by_cases hj : j = n
    · subst hj
      exact q d' (List.getElem?_set_self hi)
    · rw [List.getElem?_set_ne (Ne.symm hj)] at q
      exact m.nil j q b z
  · exact keep b v (fun z => by rw [z, ga] at q; cases q) (m.sub b v q)
  · exact M.keep G H _ _ m.mem (Sub.refl _) (fun x u e => .inl e) fun b v q hv => keep b v (fun z => m.vol n a sna (z ▸ hv)) q
  · exact keep b v (fun y => z (.inl ⟨n, y ▸ sna⟩)) q
  · by_cases hb : b = a
    · exact ⟨o, by rw [hb, upd_same]⟩
    · exact ⟨v, keep b v hb q⟩
/-- where an owned slot stands -/
theorem Mt.at {d : D} (m : Mt K M g σ H G S) (e : g[n]? = some (some d)) (h : ∀ G v, ¬ Rep K G d v) : ∃ a, σ[n]? = some (some (.ref a)) ∧ G a = none ∧ (∀ b, S n b ↔ b = a) ∧ OwnAt K M G H a d := by
  obtain ⟨v, ev, ow⟩ := m.own n d e
  rcases ow with ⟨r, _⟩ | ⟨a, rfl, ga, hs, oa⟩
  · exact (h _ _ r).elim
  · exact ⟨a, ev, ga, hs, oa⟩
theorem noRep_l {xs : List D} (G : Hp) (v : V) : ¬ Rep K G (.lst true xs) v := fun z => by cases z.1
theorem noRep_d {ks : List Key} {xs : List D} (G : Hp) (v : V) : ¬ Rep K G (.dic true ks xs) v := fun z => by cases z.1
theorem noRep_o {c : Str} {ns : List Str} {xs : List D} (G : Hp) (v : V) : ¬ Rep K G (.obj true c ns xs) v := fun z => by cases z.1
/-- x.append(e), x.pop(), x.clear(), x.reverse(): n the slot of x -/
def isL (o : Option (Option D)) : Option (List D) := match o with
  | some (some (.lst true xs)) => some xs
  | _ => none
def app2 (n : Nat) (ds : List D) (g1 : Sg) : Rs D := match isL g1[n]?, ds with
  | some xs, [d] => if xs.length < lim then .ok .non (g1.set n (some (.lst true (xs ++ [d])))) else .bad
  | _, _ => .bad
def pApp (n : Nat) (m : PX) : PX := fun g => match isL g[n]? with
  | some _ => (pAll [m] g).bind fun ds g1 => app2 n ds g1
  | none => .bad
def pPop (n : Nat) : PX := fun g => match isL g[n]? with
  | some xs => (match xs[xs.length - 1]? with
    | some d => .ok d (g.set n (some (.lst true xs.dropLast)))
    | none => .bad)
  | none => .bad
def pClr (n : Nat) : PX := fun g => match isL g[n]? with
  | some xs => .ok .non (g.set n (some (.lst true [])))
  | none => .bad
def pRev (n : Nat) : PX := fun g => match isL g[n]? with
  | some xs => .ok .non (g.set n (some (.lst true xs.reverse)))
  | none => .bad
theorem isL_at {o : Option (Option D)} {xs : List D} (h : isL o = some xs) : o = some (some (.lst true xs)) := by
  unfold isL at h
  split at h
  · cases h; rfl
  · cases h
theorem RepL.dropLast : ∀ {ds : List D} {vs : List V}, RepL K G ds vs → RepL K G ds.dropLast vs.dropLast
  | [], vs, r => by cases (show vs = [] from r); rfl
  | [d], vs, r => by
    obtain ⟨v, r, rfl, h1, h2⟩ := r
    cases (show r = [] from h2)
    rfl
  | d :: e :: ds, vs, r => by
    obtain ⟨v, r, rfl, h1, h2⟩ := r
    have h3 := RepL.dropLast h2
    obtain ⟨v2, r2, rfl, h4, h5⟩ := h2
    exact ⟨v, (v2 :: r2).dropLast, rfl, h1, h3⟩
theorem RepL.rev {ds : List D} : ∀ {vs : List V}, RepL K G ds vs → RepL K G ds.reverse vs.reverse := by
  induction ds with
  | nil => intro vs r; cases (show vs = [] from r); rfl
  | cons d ds ih =>
    intro vs r
    obtain ⟨v, r, rfl, h1, h2⟩ := r
    rw [List.reverse_cons, List.reverse_cons]
    exact (ih h2).append (RepL.one h1)
/-- an owned list is what its type says -/
theorem ty_l {xs : List D} {a : Addr} (h : OwnAt K M G H a (.lst true xs)) : tyV K "list" (.ref a) H := by
  obtain ⟨_, vs, ha, _⟩ := h
  exact .inl ⟨rfl, vs, SqL.of ha⟩
/-- a list that a slot alone holds -/
theorem Mt.lst {xs : List D} (m : Mt K M g σ H G S) (e : isL g[n]? = some xs) : ∃ a vs, σ[n]? = some (some (.ref a)) ∧ H a = some (.lst vs) ∧ RepL K G xs vs ∧ tyV K "list" (.ref a) H ∧
    ∀ (ys : List D) (us : List V), RepL K G ys us → Mt K M (g.set n (some (.lst true ys))) σ (L2.upd H a (.lst us)) G S ∧ Stp M H G S (L2.upd H a (.lst us)) G S := by
  obtain ⟨a, ev, ga, hs, oa⟩ := m.at (isL_at e) noRep_l
  obtain ⟨_, vs, ha, r⟩ := id oa
  exact ⟨a, vs, ev, ha, r, ty_l oa, fun ys us r' => m.upd (isL_at e) ev ga hs ⟨rfl, us, upd_same, r'⟩⟩
variable {x : Str} {e : Expr} {apos cpos : Pos} {m : PX}
theorem pe_App (ho : PE X (.Name x p) (tVar n)) (ha : PA X [e] (tL X.K M W (pAll [m]))) (hs : noStar e = true) (hbase : attributeBase (.Name x p) "append" X.env (eval (.Name x p) X.env) = eval (.Name x p) X.env)
    (hfew : ((backTo cpos (starEach [e] X.env)).all (fun x => !x.1) && (backToKw cpos (keywordEach [] X.env)).all (fun x => x.1.isSome)
      && decide ([e].length + ([] : List Keyword).length + (if ([] : List Keyword).isEmpty then 0 else 1) < 30)) = true)
    (hline : (apos.endLine == cpos.line) = true) : PE X (.Call (.Attribute (.Name x p) "append" apos) [e] [] cpos) (tP X.K M W (pApp n m)) := by
  refine PE.imp (pe_bm PySem.F.plainAttrs_list PySem.F.slot_list_append PySem.F.type_list_append mt_append ho ha hbase hfew hline (star_of hs)) fun σ H Q q => ?_
  obtain ⟨g, G, S, mt, q⟩ := q
  unfold pApp at q
  cases e1 : isL g[n]? with
  | none => rw [e1] at q; exact (show False from q).elim
  | some xs0 =>
    rw [e1] at q
    obtain ⟨a, _, ev, _, _, ty, _⟩ := mt.lst e1
    refine ⟨.ref a, ev, ty, g, G, S, mt, EndL.imp (EndE.bindL q) fun vs H1 ⟨ds, g1, G1, S1, er, m1, rr, st, q⟩ => ?_⟩
    unfold app2 at q
    split at q
    · rename_i xs d e2
      obtain ⟨v, r, rfl, h1, rfl⟩ := rr
      obtain ⟨a', us, ev', ha, hr, _, up⟩ := m1.lst e2
      rw [ev] at ev'; cases ev'
      split at q
      · rename_i hl
        obtain ⟨m2, st2⟩ := up (xs ++ [d]) (us ++ [v]) (hr.append (RepL.one h1))
        refine ⟨a, us, v, rfl, rfl, ha, ?_, (show EndE X.K M W σ H G S (.ok .non _) Q from q) .non _ _ _ none_ ⟨m2, Own.of rfl, fun a z => z.elim⟩ (st.trans st2)⟩
        have := lim_ok (Nat.le_of_lt hl)
        rw [← hr.len]
        have h2 : sizeLine = 16777216 := sizeLine_eq
        unfold lim at hl
        omega
      · exact (show False from q).elim
    · exact (show False from q).elim
theorem pe_Pop (ho : PE X (.Name x p) (tVar n)) (hbase : attributeBase (.Name x p) "pop" X.env (eval (.Name x p) X.env) = eval (.Name x p) X.env) (hline : (apos.endLine == cpos.line) = true) :
    PE X (.Call (.Attribute (.Name x p) "pop" apos) [] [] cpos) (tP X.K M W (pPop n)) := by
  refine PE.imp (pe_bm0 PySem.F.plainAttrs_list PySem.F.slot_list_pop PySem.F.type_list_pop mt_pop ho hbase hline) fun σ H Q q => ?_
  obtain ⟨g, G, S, mt, q⟩ := q
  unfold pPop at q
  cases e1 : isL g[n]? with
  | none => rw [e1] at q; exact (show False from q).elim
  | some xs =>
    rw [e1] at q
    dsimp only at q
    obtain ⟨a, vs, ev, ha, hr, ty, up⟩ := mt.lst e1
    cases e2 : xs[xs.length - 1]? with
    | none => rw [e2] at q; exact (show False from q).elim
    | some d =>
      rw [e2] at q
      obtain ⟨v, hv, rv⟩ := hr.get _ e2
      rw [hr.len] at hv
      obtain ⟨m2, st2⟩ := up _ _ hr.dropLast
      exact ⟨.ref a, ev, ty, a, vs, v, rfl, rfl, ha, hv, (show EndE X.K M W σ H G S (.ok d _) Q from q) v _ _ _ none_ ⟨m2, Own.of rv, fun a z => z.elim⟩ st2⟩
theorem pe_Clr (ho : PE X (.Name x p) (tVar n)) (hbase : attributeBase (.Name x p) "clear" X.env (eval (.Name x p) X.env) = eval (.Name x p) X.env) (hline : (apos.endLine == cpos.line) = true) :
    PE X (.Call (.Attribute (.Name x p) "clear" apos) [] [] cpos) (tP X.K M W (pClr n)) := by
  refine PE.imp (pe_bm0 PySem.F.plainAttrs_list PySem.F.slot_list_clear PySem.F.type_list_clear mt_clear ho hbase hline) fun σ H Q q => ?_
  obtain ⟨g, G, S, mt, q⟩ := q
  unfold pClr at q
  cases e1 : isL g[n]? with
  | none => rw [e1] at q; exact (show False from q).elim
  | some xs =>
    rw [e1] at q
    obtain ⟨a, vs, ev, ha, hr, ty, up⟩ := mt.lst e1
    obtain ⟨m2, st2⟩ := up [] [] rfl
    exact ⟨.ref a, ev, ty, a, vs, rfl, rfl, ha, (show EndE X.K M W σ H G S (.ok .non _) Q from q) .non _ _ _ none_ ⟨m2, Own.of rfl, fun a z => z.elim⟩ st2⟩
theorem pe_Rev (ho : PE X (.Name x p) (tVar n)) (hbase : attributeBase (.Name x p) "reverse" X.env (eval (.Name x p) X.env) = eval (.Name x p) X.env) (hline : (apos.endLine == cpos.line) = true) :
    PE X (.Call (.Attribute (.Name x p) "reverse" apos) [] [] cpos) (tP X.K M W (pRev n)) := by
  refine PE.imp (pe_bm0 PySem.F.plainAttrs_list PySem.F.slot_list_reverse PySem.F.type_list_reverse mt_reverse ho hbase hline) fun σ H Q q => ?_
  obtain ⟨g, G, S, mt, q⟩ := q
  unfold pRev at q
  cases e1 : isL g[n]? with
  | none => rw [e1] at q; exact (show False from q).elim
  | some xs =>
    rw [e1] at q
    obtain ⟨a, vs, ev, ha, hr, ty, up⟩ := mt.lst e1
    obtain ⟨m2, st2⟩ := up _ _ hr.rev
    exact ⟨.ref a, ev, ty, a, vs, rfl, rfl, ha, (show EndE X.K M W σ H G S (.ok .non _) Q from q) .non _ _ _ none_ ⟨m2, Own.of rfl, fun a z => z.elim⟩ st2⟩
/-! ### x[i] = e -/
def putKD (ks : List Key) (ds : List D) (k : Key) (d : D) : List Key × List D :=
  if (ks.any fun j => decide (j = k)) = true then (ks, List.zipWith (fun j e => if j = k then d else e) ks ds) else (ks ++ [k], ds ++ [d])
def putD : D → D → D → Option D
  | .lst true xs, .int i, d => (ixN xs.length i).map fun j => .lst true (xs.set j d)
  | .dic true ks ds, i, d => (keyOf i).bind fun k => if ks.length < lim then some (.dic true (putKD ks ds k d).1 (putKD ks ds k d).2) else none
  | _, _, _ => none
def put2 (n : Nat) (d i : D) (g : Sg) : Rs Fl := match g[n]? with
  | some (some t) => (match putD t i (sealD d) with
    | some t' => .ok .nx (g.set n (some t'))
    | none => .bad)
  | _ => .bad
def put1 (n : Nat) (mi : Op) (d : D) (g1 : Sg) : Rs Fl := match g1[n]? with
  | some (some _) => (evO mi g1).bind fun x g2 => (match rdO g2 mi x with
    | some i => put2 n (sealD d) i g2
    | none => .bad)
  | _ => .bad
def pPut (n : Nat) (mi : Op) (mv : PX) : PF := fun g => (mv g).bind (put1 n mi)
theorem sealD2 (d : D) : sealD (sealD d) = sealD d := by cases d <;> rfl
theorem RepL.set : ∀ {ds : List D} {vs : List V} {d : D} {v : V} (j : Nat), RepL K G ds vs → Rep K G d v → RepL K G (ds.set j d) (vs.set j v)
  | [], vs, d, v, j, r, _ => by cases (show vs = [] from r); rfl
  | e :: ds, vs, d, v, 0, r, h => by
    obtain ⟨w, r, rfl, h1, h2⟩ := r
    exact ⟨v, r, rfl, h, h2⟩
  | e :: ds, vs, d, v, j + 1, r, h => by
    obtain ⟨w, r, rfl, h1, h2⟩ := r
    exact ⟨w, r.set j v, rfl, h1, RepL.set j h2 h⟩
theorem put_rep {k : Key} {d : D} {v : V} (h : Rep K G d v) : ∀ {ks : List Key} {ds : List D} {vs : List V}, ks.length = vs.length → RepL K G ds vs →
    ∃ us, putK (ks.zip vs) k v = (putKD ks ds k d).1.zip us ∧ (putKD ks ds k d).1.length = us.length ∧ RepL K G (putKD ks ds k d).2 us := by
  intro ks ds vs hl r
  have ea : ((ks.zip vs).any fun kv => decide (kv.1 = k)) = ks.any fun j => decide (j = k) := by
    clear r
    induction ks generalizing vs with
    | nil => rfl
    | cons j ks ih =>
      cases vs with
      | nil => simp at hl
      | cons w vs => rw [List.zip_cons_cons, List.any_cons, List.any_cons, ih (by simpa using hl)]
  unfold putK putKD
  rw [ea]
  by_cases c : (ks.any fun j => decide (j = k)) = true
  · rw [if_pos c, if_pos c]
    clear ea c
    induction ks generalizing vs ds with
    | nil => cases vs with
      | nil =>
        cases ds with
        | nil => exact ⟨[], rfl, rfl, rfl⟩
        | cons e ds => obtain ⟨w, r, z, _⟩ := r; cases z
      | cons w vs => simp at hl
    | cons j ks ih =>
      cases vs with
      | nil => simp at hl
      | cons w vs =>
        cases ds with
        | nil => cases (show w :: vs = [] from r)
        | cons e ds =>
          obtain ⟨w', r', z, h1, h2⟩ := r
          cases z
          obtain ⟨us, e1, e2, e3⟩ := ih (by simpa using hl) h2
          refine ⟨(if j = k then v else w) :: us, ?_, by simpa using e2, (if j = k then v else w), us, rfl, ?_, e3⟩
          · rw [List.zip_cons_cons, List.map_cons]
            have e1' : List.map (fun kv => if kv.1 = k then (kv.1, v) else kv) (ks.zip vs) = ks.zip us := e1
            rw [e1']
            show _ = (j, if j = k then v else w) :: ks.zip us
            by_cases hj : j = k
            · rw [if_pos hj, if_pos hj]
            · rw [if_neg hj, if_neg hj]
          · show Rep K G (if j = k then d else e) (if j = k then v else w)
            by_cases hj : j = k
            · rw [if_pos hj, if_pos hj]; exact h
            · rw [if_neg hj, if_neg hj]; exact h1
  · rw [if_neg c, if_neg c]
    refine ⟨vs ++ [v], ?_, ?_, r.append (RepL.one h)⟩
    · rw [List.zip_append hl]; rfl
    · rw [List.length_append, List.length_append, hl] <;> rfl
theorem pset_or {t t' : TSet} (h : PSet X t) (h' : PSet X t') : PSet X fun o i v H Q => t o i v H Q ∨ t' o i v H Q := by
  intro pins s σ H o i v ov iv u Q I ro ri rv q
  rcases q with q | q
  · exact h pins s σ H o i v ov iv u Q I ro ri rv q
  · exact h' pins s σ H o i v ov iv u Q I ro ri rv q
theorem ps_Put (hu : X.A.units + 1 < cLine) {i : Expr} {mi : Op} {mv : PX} (ho : PE X (.Name x p) (tVar n)) (hi : PE X i (tO X.K M W mi)) (hv : PE X e (tP X.K M W mv))
    (ha : ∀ v, assign (.Subscript (.Name x p) i p2) X.env v = (do
      let ov ← holding [v] (eval (.Name x p) X.env)
      let iv ← holding [v, ov] (eval i X.env)
      standAt p2
      holding [v, ov, iv] (setItem ov iv v)
      release [v, ov, iv] []))
    (hs : swapsWithSole [.Subscript (.Name x p) i p2] e pos.line X.env = pure false) (hw : swappedStores [.Subscript (.Name x p) i p2] e X.env = pure none)
    (h1 : (assignEach [.Subscript (.Name x p) i p2] X.env).map (·.2) = [assign (.Subscript (.Name x p) i p2) X.env]) : PS X (.Assign [.Subscript (.Name x p) i p2] e pos) (tF X.K M fx W (pPut n mi mv)) := by
  refine PS.imp (ps_asg hv (pg_sub ho hi (pset_or set_list (set_dict hu)) ha) hs hw h1) fun N σ H q => ?_
  obtain ⟨g, G, S, m, q⟩ := q
  refine ⟨g, G, S, m, EndE.imp (EndF.bindE q) fun v H1 ⟨d, g1, G1, S1, T, er, got, st, q⟩ => ?_⟩
  obtain ⟨G2, m2, r2, sb, hg, hv⟩ := got.seal
  have st2 := st.sealed sb hg hv
  unfold put1 at q
  split at q
  · rename_i t0 et0
    obtain ⟨v0, ea, _⟩ := m2.own n t0 et0
    refine ⟨v0, ea, g1, G2, S1, m2, ?_⟩
    cases er2 : evO mi g1 with
    | bad => rw [er2] at q; exact q
    | exc c d g' => rw [er2] at q; exact EndX.of (EndXs.x q) st2
    | ok xx g2 =>
      rw [er2, Rs.bind_ok] at q
      intro iv H3 G3 S3 m3 r3 st3
      cases e1 : rdO g2 mi xx with
      | none => rw [e1] at q; exact (show False from q).elim
      | some di =>
        rw [e1] at q
        have si := r3.seen m3 e1
        have q : EndF X.K M fx W σ H G S (put2 n (sealD d) di g2) N := q
        unfold put2 at q
        split at q
        · rename_i t et
          rw [sealD2] at q
          split at q
          · rename_i t' et'
            have fin2 : ∀ (H4 : Hp) (S4 : Nat → Addr → Prop), Mt X.K M (g2.set n (some t')) σ H4 G3 S4 → Stp M H3 G3 S3 H4 G3 S4 → N.nx σ H4 := fun H4 S4 m4 st4 =>
              (show EndN X.K M fx σ H G S (g2.set n (some t')) N.nx from q) σ H4 G3 S4 Fx.refl m4 ((st2.trans st3).trans st4)
            cases t with
            | lst b xs =>
              cases b with
              | false => cases et'
              | true =>
                cases di with
                | int j =>
                  obtain ⟨a, ev, ga, hs', oa⟩ := m3.at et noRep_l
                  rw [ea] at ev; cases ev
                  obtain ⟨_, vs, ha', hr⟩ := id oa
                  cases si.int
                  have et' : ((ixN xs.length j).map fun j => D.lst true (xs.set j (sealD d))) = some t' := et'
                  cases ej : ixN xs.length j with
                  | none => rw [ej] at et'; cases et'
                  | some jj =>
                    rw [ej] at et'; cases et'
                    obtain ⟨m4, st4⟩ := m3.upd (o := .lst (vs.set jj v)) (d' := .lst true (xs.set jj (sealD d))) et ea ga hs' ⟨rfl, _, upd_same, hr.set jj (Rep.mono st3.gr _ _ r2)⟩
                    exact .inl ⟨a, vs, j, jj, rfl, rfl, ha', by rw [← hr.len]; exact ej, fin2 _ _ m4 st4⟩
                | _ => cases et'
            | dic b ks ds =>
              cases b with
              | false => cases di <;> cases et'
              | true =>
                have et' : ((keyOf di).bind fun k => if ks.length < lim then some (D.dic true (putKD ks ds k (sealD d)).1 (putKD ks ds k (sealD d)).2) else none) = some t' := by cases di <;> exact et'
                obtain ⟨a, ev, ga, hs', oa⟩ := m3.at et noRep_d
                rw [ea] at ev; cases ev
                obtain ⟨_, vs, ha', hl, hr⟩ := id oa
                cases ek : keyOf di with
                | none => rw [ek] at et'; cases et'
                | some k =>
                  rw [ek, Option.bind_some] at et'
                  split at et'
                  · rename_i hlt
                    cases et'
                    cases key_seen ek si
                    obtain ⟨us, u1, u2, u3⟩ := put_rep (k := k) (Rep.mono st3.gr _ _ r2) hl hr
                    obtain ⟨m4, st4⟩ := m3.upd (o := .dK (putK (ks.zip vs) k v)) (d' := .dic true (putKD ks ds k (sealD d)).1 (putKD ks ds k (sealD d)).2) et ea ga hs' ⟨rfl, us, by rw [upd_same, u1], u2, u3⟩
                    refine .inr ⟨a, _, rfl, DPut.k ha' ?_, fin2 _ _ m4 st4⟩
                    rw [List.length_zip, ← hl, Nat.min_self]
                    have h2 : sizeLine = 16777216 := sizeLine_eq
                    unfold lim at hlt
                    omega
                  · cases et'
            | _ => cases di <;> cases et'
          · exact (show False from q).elim
        · exact (show False from q).elim
  · exact (show False from q).elim
end
end PI

set_option Elab.async false
set_option linter.all false
set_option maxRecDepth 100000
set_option maxHeartbeats 1000000
namespace PI
open PySem PySem.Spec PyProof.Rows L2
open PySem.W (Frag)
/-! ### a new instance of an own class -/
def newC (f : List D → Cr) (ns : List (Option Nat)) (ds : List D) (rf : List Nat) (g : Sg) : Rs D := match f ds with
  | .bad => .bad
  | .ok .non rs => (match (retG ds.length rf rs)[0]? with
    | some (some d) => .ok d (wbS ns (retG ds.length rf rs) g)
    | _ => .bad)
  | .ok _ _ => .bad
  | .exc c d rs => .exc c d (wbS ns (retG ds.length rf rs) g)
def pNew (c : Str) (f : List D → Cr) (rf : List Nat) (as : List Ar) (pm : Pm) : PX := fun g => (evA as g).bind fun xs g1 => match rdA g1 as xs with
  | none => .bad
  | some ds => match pmL (.obj true c [] [] :: ds) id pm, pmL (none :: as.map nmA) (fun _ => none) pm with
    | some es, some ns => newC f ns es rf g1
    | _, _ => .bad
section
variable {K : Frag} {M : Memo} {W : WX} {X : Cx} {σ : L2.St} {H H0 G G0 H1 G1 H' G' : Hp} {S S0 S1 B' : Nat → Addr → Prop} {g g1 gr : Sg} {T U : Addr → Prop} {Q : VK}
theorem back_apart {es : List En} (m : Mt K M g σ H G S) (h : ∀ e ∈ es, EnOk K M H0 g σ H G S e) (m' : Mt K M gr (es.map fun e => some e.v) H' G' B') (st : Stp M H G (bOf es) H' G' B')
    {j : Nat} {e : En} {a : Addr} (ej : es[j]? = some e) (hs : e.s = none) (hb : B' j a) : ¬ Vl M G' (backS es S B') a := fun z => by
  have there : ∀ n a, S n a → ∃ o, H a = some o := fun n a z => by
    by_cases e : ∃ d, g[n]? = some (some d)
    · obtain ⟨d, e⟩ := e
      obtain ⟨v, _, ow⟩ := m.own n d e
      exact (ow.there z).1
    · exact (m.nil n (fun d q => e ⟨d, q⟩) a z).elim
  rcases z with ⟨n, ⟨j2, e2, ej2, es2, hb2⟩ | ⟨c', z⟩⟩ | z
  · have := m'.dis j j2 a hb hb2
    subst this
    rw [ej] at ej2; cases ej2
    rw [hs] at es2; cases es2
  · rcases st.vl a (.inl ⟨j, hb⟩) with y | y
    · rcases y with ⟨j3, e3, h3, b3⟩ | y
      · obtain ⟨_, hh⟩ := h e3 (List.mem_of_getElem? h3)
        cases q : e3.s with
        | some k =>
          rw [q] at hh
          rw [hh.1] at b3
          have := m.dis n k a z b3
          subst this
          exact c' e3 (List.mem_of_getElem? h3) q
        | none =>
          rw [q] at hh
          exact (hh a b3).1 (.inl ⟨n, z⟩)
      · exact m.vol n a z y
    · obtain ⟨o, ho⟩ := there n a z
      rw [ho] at y; cases y
  · exact m'.vol j a hb z
/-- the new instance among the arguments -/
theorem mk_self {as : List Ar} {xs : List (Option D)} {vs : List V} {c : Str} {x dx : Addr} (m : Mt K M g σ H G S) (st0 : Stp M H0 G0 S0 H G S) (h : ArRs K M H0 g σ H G S as xs vs U) (pl : ∀ dx fs, M.plain (.ins (He.ga K c) dx fs))
    (hx : H x = none) (hd : H dx = none) (ne : dx ≠ x) : ∃ U', Mt K M g σ (L2.upd (L2.upd H dx (.own x)) x (.ins (He.ga K c) dx [])) G S ∧ Stp M H0 G0 S0 (L2.upd (L2.upd H dx (.own x)) x (.ins (He.ga K c) dx [])) G S ∧
      ArRs K M H0 g σ (L2.upd (L2.upd H dx (.own x)) x (.ins (He.ga K c) dx [])) G S (.r (.ex pBad) :: as) (some (.obj true c [] []) :: xs) (.ref x :: vs) U' := by
  have m1 := m.newOwn (o := .own x) hd
  have s1 := m.newOwnStp (o := .own x) hd
  have hx1 : L2.upd H dx (.own x) x = none := by rw [upd_ne (Ne.symm ne)]; exact hx
  have m2 := m1.newOwn (o := .ins (He.ga K c) dx []) hx1
  have s2 := m1.newOwnStp (o := .ins (He.ga K c) dx []) hx1
  refine ⟨fun a => a = x ∨ U a, m2, (st0.trans s1).trans s2, some (.obj true c [] []), xs, .ref x, vs, fun a => a = x, U, rfl, rfl, ⟨_, rfl, .inr ⟨x, rfl, m.gnone hx, fun b => Iff.rfl, rfl, pl, dx, [], by rw [upd_same]; rfl, rfl, rfl⟩, fun b hb => ?_⟩, (h.stp (g1 := g) s1).stp (g1 := g) s2, fun b => Iff.rfl, fun b hb z => ?_⟩
  · cases hb
    exact ⟨m.snone hx, st0.back hx⟩
  · cases hb
    obtain ⟨⟨o, ho⟩, _⟩ := h.there z
    rw [hx] at ho; cases ho
theorem own_ref {d : D} {x : Addr} (h : Own K M G H d (.ref x) T) {a : Addr} (ha : T a) : a = x := by
  rcases h with ⟨_, n⟩ | ⟨b, e, _, hs, _⟩
  · exact (n a ha).elim
  · cases e
    exact (hs a).mp ha
theorem new_fin {f : List D → Cr} {rf : List Nat} {as : List Ar} {pm : Pm} {xs : List (Option D)} {vs ws : List V} {ds es : List D} {ns : List (Option Nat)} {kv : D → V} {c : Str} {x dx : Addr}
    (m : Mt K M g σ H G S) (st0 : Stp M H0 G0 S0 H G S) (h : ArRs K M H0 g σ H G S as xs vs U) (pl : ∀ dx fs, M.plain (.ins (He.ga K c) dx fs)) (hx : H x = none) (hd : H dx = none) (ne : dx ≠ x)
    (e1 : rdA g as xs = some ds) (e2 : pmL (.obj true c [] [] :: ds) id pm = some es) (e3 : pmL (none :: as.map nmA) (fun _ => none) pm = some ns)
    (dn : distinct (as.map nmA) = true) (dp : distinct (pm.map inlOf) = true) (hk : ∀ d, Sum.inr d ∈ pm → ∀ G, Rep K G d (kv d)) (h0 : pm[0]? = some (.inl 0)) (e4 : pmL (.ref x :: vs) kv pm = some ws) (q : EndE K M W σ H0 G0 S0 (newC f ns es rf g) Q) :
    spF K M f rf pm.length ws (L2.upd (L2.upd H dx (.own x)) x (.ins (He.ga K c) dx [])) (fun v H3 => v = .non ∧ Q (.ref x) H3) (WE W σ) := by
  obtain ⟨U', m, st, h', _⟩ : ∃ U', Mt K M g σ (L2.upd (L2.upd H dx (.own x)) x (.ins (He.ga K c) dx [])) G S ∧ Stp M H0 G0 S0 (L2.upd (L2.upd H dx (.own x)) x (.ins (He.ga K c) dx [])) G S ∧
      ArRs K M H0 g σ (L2.upd (L2.upd H dx (.own x)) x (.ins (He.ga K c) dx [])) G S (.r (.ex pBad) :: as) (some (.obj true c [] []) :: xs) (.ref x :: vs) U' ∧ True := by
    obtain ⟨U', a, b, c⟩ := mk_self m st0 h pl hx hd ne
    exact ⟨U', a, b, c, trivial⟩
  have hx0 : H0 x = none := st0.back hx
  have e1' : rdA g (.r (.ex pBad) :: as) (some (.obj true c [] []) :: xs) = some (.obj true c [] [] :: ds) := by
    show (match some (D.obj true c [] []), rdA g as xs with
      | some d, some ds => some (d :: ds)
      | _, _ => none) = _
    rw [e1]
  obtain ⟨pe, d1, d2, d3, lp, ok, ap, inj⟩ := call_core m h' e1' e2 e3 dn dp hk e4
  have cm := callee_mt (H0 := H0) m ok ap
  have eD : (pe.map fun e => some e.d) = es.map some := by rw [← d1, List.map_map]; rfl
  have eV : (pe.map fun e => some e.v) = ws.map some := by rw [← d2, List.map_map]; rfl
  rw [eD, eV] at cm
  have lw : ws.length = pm.length := by rw [← d2, List.length_map, lp]
  have ls : es.length = pm.length := by rw [← d1, List.length_map, lp]
  -- the first parameter is the instance
  have hw0 : ws[0]? = some (.ref x) := by
    obtain ⟨l, gp⟩ := pmL_get e4
    cases hw : ws[0]? with
    | none =>
      have := List.getElem?_eq_none_iff.mp hw
      have := (List.getElem?_eq_some_iff.mp h0).1
      omega
    | some w =>
      obtain ⟨p, z1, z2⟩ := gp 0 w hw
      rw [h0] at z1; cases z1
      exact z2.symm
  have hn0 : ns[0]? = some none := by
    obtain ⟨l, gp⟩ := pmL_get e3
    cases hw : ns[0]? with
    | none =>
      have := List.getElem?_eq_none_iff.mp hw
      have := (List.getElem?_eq_some_iff.mp h0).1
      omega
    | some w =>
      obtain ⟨p, z1, z2⟩ := gp 0 w hw
      rw [h0] at z1; cases z1
      exact congrArg some (Option.some.inj z2).symm
  obtain ⟨e0, he0, hs0⟩ : ∃ e0 : En, pe[0]? = some e0 ∧ e0.s = none := by
    rw [← d3, List.getElem?_map] at hn0
    cases q : pe[0]? with
    | none => rw [q] at hn0; cases hn0
    | some e => rw [q] at hn0; exact ⟨e, rfl, Option.some.inj hn0⟩
  refine ⟨lw, es, G, bOf pe, cm, ?_⟩
  unfold newC at q
  cases er : f es with
  | bad => rw [er] at q; exact q
  | exc c d rs =>
    rw [er] at q
    intro v H' G' B' dd m' r st2 xx
    rw [ls] at q
    have lr : (retG pm.length rf rs).length = pe.length := by rw [retG_len, lp]
    rw [← eV] at m'
    obtain ⟨b1, b2, b3⟩ := back_mt (H0 := H0) m st ok ap inj lr m' st2
    rw [d3] at b1
    exact q v H' G' (backS pe S B') dd b1 r b2 xx
  | ok d rs =>
    rw [er] at q
    cases d with
    | non =>
      dsimp only at q
      rw [ls] at q
      intro v H' G' B' T ⟨m', ow, at_⟩ st2
      have hv : v = .non := Seen.non (K := K) (M := M) (G := G') (H := H') ⟨T, ow⟩
      refine ⟨hv, ?_⟩
      have lr : (retG pm.length rf rs).length = pe.length := by rw [retG_len, lp]
      cases e5 : (retG pm.length rf rs)[0]? with
      | none => rw [e5] at q; exact (show False from q).elim
      | some o =>
        cases o with
        | none => rw [e5] at q; exact (show False from q).elim
        | some d' =>
          rw [e5] at q
          obtain ⟨v', ev, ow'⟩ := m'.own 0 d' e5
          rw [List.getElem?_map, hw0] at ev
          cases ev
          rw [← eV] at m'
          obtain ⟨b1, b2, b3⟩ := back_mt (H0 := H0) m st ok ap inj lr m' st2
          rw [d3] at b1
          exact (show EndE K M W σ H0 G0 S0 (.ok d' _) Q from q) (.ref x) H' G' (backS pe S B') (B' 0) ⟨b1, ow', fun a ha => ⟨back_apart m ok m' st2 he0 hs0 ha, by rw [own_ref ow' ha]; exact hx0⟩⟩ b2
    | _ => exact (show False from q).elim
end
/-! ### C(e, .., k = v, ..) -/
def NewR (K : Frag) (M : Memo) (W : WX) (c : Str) (ff : List D → Cr) (rf : List Nat) (as : List Ar) (pm : Pm) (σ : L2.St) (H : Hp) (vs : List V) (Q : VK) : Prop :=
  ∃ g G S xs U H0 G0 S0 ds es ns, Mt K M g σ H G S ∧ Stp M H0 G0 S0 H G S ∧ ArRs K M H0 g σ H G S as xs vs U ∧ rdA g as xs = some ds ∧ pmL (.obj true c [] [] :: ds) id pm = some es ∧ pmL (none :: as.map nmA) (fun _ => none) pm = some ns ∧ EndE K M W σ H0 G0 S0 (newC ff ns es rf g) Q
section
variable {K : Frag} {M : Memo} {W : WX} {X : Cx} {k : Nat} {f : Addr} {fd : FuncData} {ps : List Str} {ff : List D → Cr} {rf : List Nat} {pm : Pm} {n : Nat} {ks : List Str} {σ : L2.St} {H : Hp} {s : Shared} {Q : VK} {pins : List (Addr × Obj)} {x c : Str} {p pos : Pos} {es : List Expr} {kws : List Keyword} {as bs : List Ar}
theorem newR_of {as : List Ar} (q : tP K M W (pNew c ff rf as pm) σ H Q) : tA K M W as σ H fun vs H1 => NewR K M W c ff rf as pm σ H1 vs Q := by
  obtain ⟨g, G, S, mt, q⟩ := q
  refine ⟨g, G, S, mt, ?_⟩
  unfold pNew at q
  cases er : evA as g with
  | bad => rw [er] at q; exact q
  | exc c d g' => rw [er] at q; exact q
  | ok xs g1 =>
    rw [er, Rs.bind_ok] at q
    intro vs H1 G1 S1 U m1 r1 st
    cases e1 : rdA g1 as xs with
    | none => rw [e1] at q; exact q.elim
    | some ds =>
      rw [e1] at q
      dsimp only at q
      cases e2 : pmL (D.obj true c [] [] :: ds) id pm with
      | none => rw [e2] at q; exact q.elim
      | some es =>
        cases e3 : pmL (none :: as.map nmA) (fun _ => (none : Option Nat)) pm with
        | none => rw [e2, e3] at q; exact q.elim
        | some ns =>
          rw [e2, e3] at q
          exact ⟨g1, G1, S1, xs, U, H, G, S, ds, es, ns, m1, st, r1, e1, e2, e3, q⟩
theorem newR_run {as : List Ar} {us ws : List Value} {vs zs : List V} (C : Mk X.K (He.ga X.K c) f) (F : FnG X.prog X.w X.K X.mg X.base k f fd ps (spF X.K M ff rf ps.length)) (hr : Room (k + 1) X.A) (gu : X.A.guards = some []) (tk : Takes X W) (hb : BindP X.K fd ps (n + 1) ks pm) (h0 : pm[0]? = some (.inl 0))
    (pl : ∀ dx fs, M.plain (.ins (He.ga X.K c) dx fs)) (dn : distinct (as.map nmA) = true) (dp : distinct (pm.map inlOf) = true) (I : Inv X pins σ H s) (r : Vals vs us) (rz : Vals zs ws) (l1 : us.length = n) (l2 : ws.length = ks.length) (q : NewR X.K M W c ff rf as pm σ H (vs ++ zs) Q) :
    wpAny (model X.prog X.w) X.A (call (.ref (He.ga X.K c)) us (ks.zip ws)) (EP X pins σ Q) X.xe s := by
  obtain ⟨g, G, S, xs, U, H0, G0, S0, ds, es, nn, m, st0, h, e1, e2, e3, q⟩ := q
  obtain ⟨lp, kv, kk, hk, hb⟩ := hb
  have I2 := Inv.made (C := He.ga X.K c) I
  obtain ⟨ys, b1, b2⟩ := hb _ (.ref (s.heap.objs.size + 1) :: us) ws I2.kIn (congrArg Nat.succ l1) l2
  have r1 : Vals (V.ref (s.heap.objs.size + 1) :: (vs ++ zs)) (Value.ref (s.heap.objs.size + 1) :: us ++ ws) := .cons rfl (r.append rz)
  obtain ⟨vv, c1, c2⟩ := vals_pm r1 (fun d hd => (hk d hd).2) b1
  have sp := new_fin m st0 h pl (I.hok.fresh (Nat.le_succ _)) (I.hok.fresh (Nat.le_refl _)) (Nat.ne_of_lt (Nat.lt_succ_self _)) e1 e2 e3 dn dp (fun d hd => (hk d hd).1) h0 c1 q
  rw [lp] at sp
  have gu2 : (X.A.under (.builtin "type.__call__" ⟨.ref (He.ga X.K c) :: us, ks.zip ws⟩)).guards = some [] := gu
  refine wpAny_call (make_map (f := f) I.kIn C.makes C.init (beq_iff_eq.mp C.fn) (codeAny_mono (F.run _ X.stack _ _ _ _ _ _ (WE W σ) (hr.make _ us (ks.zip ws)) gu2 (I2.env0.make _ us (ks.zip ws)) b2 c2 sp) fun r s' z => ?_))
  cases r with
  | error e => exact passAt tk σ pins _ _ e s' I2 z
  | ok fl =>
    cases fl with
    | ret u =>
      obtain ⟨v, H', I3, rv, ev, q3⟩ := I2.after z
      subst ev
      exact ⟨rv, ⟨V.ref (s.heap.objs.size + 1), H', I3, rfl, q3⟩⟩
    | next => exact False.elim z
    | brk => exact False.elim z
    | cont => exact False.elim z
end
end PI

set_option Elab.async false
set_option linter.all false
set_option maxRecDepth 100000
set_option maxHeartbeats 1000000
namespace PI
open PySem PySem.Spec PyProof.Rows L2
open PySem.W (Frag)
section
variable {K : Frag} {M : Memo} {W : WX} {X : Cx} {k : Nat} {f : Addr} {fd : FuncData} {ps : List Str} {ff : List D → Cr} {rf : List Nat} {pm : Pm} {n : Nat} {ks : List Str} {σ : L2.St} {H : Hp} {s : Shared} {Q : VK} {pins : List (Addr × Obj)} {x c : Str} {p pos : Pos} {es : List Expr} {kws : List Keyword} {as bs : List Ar}
/-- arguments: positional, by name -/
theorem args_run {f : Value} {first : List Value} {e0 : Expr} {Qv : Value → Shared → Prop} {R : List V → Hp → Prop} (hkp : PySem.W.keepIn X.K f = true) (ha : PA X es (tA X.K M W as)) (hkw : PK X kws (tA X.K M W bs)) (hla : as.length = es.length) (hl : bs.length = (kwNames kws).length)
    (hes : es.all noStar = true) (hks : kws.all (·.arg.isSome) = true) (I : Inv X pins σ H s) (q : tA X.K M W (as ++ bs) σ H R)
    (fin : ∀ (us ws : List Value) (vs zs : List V) (s2 : Shared) (H2 : Hp), Inv X pins σ H2 s2 → Vals vs us → Vals zs ws → us.length = as.length → ws.length = (kwNames kws).length → R (vs ++ zs) H2 → wpAny (model X.prog X.w) X.A (call f (first ++ us) ((kwNames kws).zip ws)) Qv X.xe s2) :
    wpAny (model X.prog X.w) X.A (callWith pos f first (backTo pos (starEach es X.env)) (backToKw pos (keywordEach kws X.env))) Qv X.xe s := by
  have q := tA_app q
  have hall := kws_all (pos := pos) (env := X.env) hks
  have hnm := kws_names (pos := pos) (env := X.env) (ks := kws)
  have hpl : ((backTo pos (starEach es X.env)).any (·.1) || (backToKw pos (keywordEach kws X.env)).any (·.1.isNone)) = false := by rw [stars_of hes, kws_none hks] <;> rfl
  cases es with
  | nil =>
    refine PySem.W.callWith_KW0 (h₀ := X.base) I.ok.mod.kin hkp hall ?_ hpl
    cases as with
    | cons a as => simp at hla
    | nil =>
      obtain ⟨g, G, S, m, q⟩ := q
      have q := (show EndA X.K M W σ H G S [] (.ok [] g) _ from q) [] H G S none_ m ⟨rfl, rfl, fun b z => z⟩ Stp.refl
      refine thn (hkw.run pos pins s σ H _ I q) fun ws s2 ⟨zs, H2, I2, rz, l1, l2, q2⟩ => ⟨I2.kIn, ?_⟩
      rw [hnm]
      exact fin [] ws [] zs s2 H2 I2 .nil rz rfl (rz.length.symm.trans (l2.trans hl)) q2
  | cons e es =>
    rw [List.all_cons, Bool.and_eq_true] at hes
    refine PySem.W.callWith_KW (h₀ := X.base) I.ok.mod.kin hkp hall (thn (ha.run pos pins s σ H _ I q) fun us s1 ⟨vs, H1, I1, r, q⟩ => ?_) hpl (star_of hes.1)
    refine thn (hkw.run pos pins s1 σ H1 _ I1 q) fun ws s2 ⟨zs, H2, I2, rz, l1, l2, q2⟩ => ⟨I2.kIn, ?_⟩
    rw [hnm]
    exact fin us ws vs zs s2 H2 I2 r rz (r.length.symm.trans l1) (rz.length.symm.trans (l2.trans hl)) q2
/-- C(..) by the class's name -/
theorem pe_New (C : Mk X.K (He.ga X.K c) f) (F : FnG X.prog X.w X.K X.mg X.base k f fd ps (spF X.K M ff rf ps.length)) (hr : Room (k + 1) X.A) (gu : X.A.guards = some []) (tk : Takes X W) (hg : Gl X x) (hm : X.mg x = some (.ref (He.ga X.K c))) (hb : BindP X.K fd ps (as.length + 1) (kwNames kws) pm) (h0 : pm[0]? = some (.inl 0))
    (pl : ∀ dx fs, M.plain (.ins (He.ga X.K c) dx fs)) (ha : PA X es (tA X.K M W as)) (hkw : PK X kws (tA X.K M W bs)) (hla : as.length = es.length) (hl : bs.length = (kwNames kws).length) (dn : distinct ((as ++ bs).map nmA) = true) (dp : distinct (pm.map inlOf) = true)
    (hes : es.all noStar = true) (hks : kws.all (·.arg.isSome) = true) (hdb : (x == ("__debug__" : Str)) = false) : PE X (.Call (.Name x p) es kws pos) (tP X.K M W (pNew c ff rf (as ++ bs) pm)) := by
  refine ⟨fun pins s σ H Q I h => ?_⟩
  refine wpAny_Call_Name_kw (ld_glob I hg hm ?_ hdb)
  refine args_run (first := []) (e0 := .Name x p) C.kp ha hkw hla hl hes hks I (newR_of h) fun us ws vs zs s2 H2 I2 r rz l1 l2 q => ?_
  exact newR_run C F hr gu tk hb h0 pl dn dp I2 r rz l1 l2 q
/-! ### methods -/
structure Cd where
  c : Str
  ff : List D → Cr
  rf : List Nat
  pm : Pm
def pickC (m : Str) (cs : List Cd) : D → Option Cd
  | .obj _ c ns _ => if ns.contains m = true then none else cs.find? fun cd => decide (cd.c = c)
  | _ => none
def callA (cd : Cd) (as : List Ar) (xs : List (Option D)) (g : Sg) : Rs D := match rdA g as xs with
  | none => .bad
  | some ds => match pmL ds id cd.pm, pmL (as.map nmA) (fun _ => none) cd.pm with
    | some es, some ns => callC cd.ff ns es cd.rf g
    | _, _ => .bad
def pMeth (m : Str) (cs : List Cd) (a0 : Ar) (as : List Ar) : PX := fun g => (evA [a0] g).bind fun xs g1 => match rdA g1 [a0] xs with
  | some [d] => (match pickC m cs d with
    | some cd => (evA as g1).bind fun ys g2 => callA cd (a0 :: as) (xs ++ ys) g2
    | none => .bad)
  | _ => .bad
theorem a1_t {H G : Hp} {S : Nat → Addr → Prop} {g : Sg} {a0 : Ar} {kk : List (Option D) → Sg → Rs D} (mt : Mt K M g σ H G S) (q : EndE K M W σ H G S ((evA [a0] g).bind kk) Q) : tAr K M W a0 σ H fun v H1 => ∃ x g1 G1 S1 U, Mt K M g1 σ H1 G1 S1 ∧ ArRs K M H g1 σ H1 G1 S1 [a0] [x] [v] U ∧ Stp M H G S H1 G1 S1 ∧ EndE K M W σ H G S (kk [x] g1) Q := by
  cases a0 with
  | v mm =>
    refine ⟨g, G, S, mt, ?_⟩
    have q : EndE K M W σ H G S (((mm g).bind fun d g1 => (Rs.ok [] g1).bind fun xs g2 => .ok (some (sealD d) :: xs) g2).bind kk) Q := q
    cases er : mm g with
    | bad => rw [er] at q; exact q
    | exc c d g' => rw [er] at q; exact q
    | ok d g1 =>
      rw [er] at q
      intro v H1 G1 S1 T got st
      obtain ⟨G1', m1, r1, sb, hg, hv⟩ := got.seal
      exact ⟨_, g1, G1', S1, none_, m1, ⟨_, [], v, [], none_, none_, rfl, rfl, ⟨⟨_, rfl, r1⟩, fun b z => z⟩, ⟨rfl, rfl, fun b z => z⟩, fun b => ⟨.inl, fun z => z.elim id id⟩, fun b z => z.elim⟩, st.sealed sb hg hv, q⟩
  | r o =>
    refine ⟨g, G, S, mt, ?_⟩
    have q : EndE K M W σ H G S (((evO o g).bind fun x g1 => (Rs.ok [] g1).bind fun xs g2 => .ok (x :: xs) g2).bind kk) Q := q
    cases er : evO o g with
    | bad => rw [er] at q; exact q
    | exc c d g' => rw [er] at q; exact q
    | ok x g1 =>
      have q2 : EndE K M W σ H G S (kk [x] g1) Q := by rw [er] at q; exact q
      intro v H1 G1 S1 m1 r1 st
      clear q
      cases o with
      | nm i => exact ⟨x, g1, G1, S1, none_, m1, ⟨_, [], v, [], none_, none_, rfl, rfl, ⟨r1, fun b z => z⟩, ⟨rfl, rfl, fun b z => z⟩, fun b => ⟨.inl, fun z => z.elim id id⟩, fun b z => z.elim⟩, st, q2⟩
      | ex mm =>
        obtain ⟨d, T, e, ow, ap⟩ := r1
        exact ⟨x, g1, G1, S1, T, m1, ⟨_, [], v, [], T, none_, rfl, rfl, ⟨d, e, ow, ap⟩, ⟨rfl, rfl, fun b z => z⟩, fun b => ⟨.inl, fun z => z.elim id fun y => y.elim⟩, fun b z y => y.elim⟩, st, q2⟩
/-- the one value of a row of one -/
theorem one_seen {H0 H G : Hp} {S : Nat → Addr → Prop} {g : Sg} {U : Addr → Prop} {a0 : Ar} {o : Option D} {v : V} {d : D} (m : Mt K M g σ H G S) (h : ArRs K M H0 g σ H G S [a0] [o] [v] U) (e : rdA g [a0] [o] = some [d]) : Seen K M G H d v := by
  obtain ⟨x, xr, v', vr, T, U', e1, e2, h1, _, _⟩ := h
  cases e1
  cases e2
  cases a0 with
  | v mm =>
    obtain ⟨⟨d', rfl, r⟩, _⟩ := h1
    cases e
    exact Seen.of r
  | r oo =>
    have e' : (match rdO g oo o, rdA g [] [] with
      | some d, some ds => some (d :: ds)
      | _, _ => none) = some [d] := e
    cases e0 : rdO g oo o with
    | none => rw [e0] at e'; cases e'
    | some d' =>
      rw [e0] at e'
      cases e'
      cases oo with
      | nm i =>
        have e2 : g[i]? = some (some d) := by
          unfold rdO at e0
          dsimp only at e0
          cases q : g[i]? with
          | none => rw [q] at e0; cases e0
          | some z => rw [q] at e0; exact congrArg some e0
        obtain ⟨v', ev, ow⟩ := m.own i d e2
        have : σ[i]? = some (some v) := h1.1
        rw [this] at ev; cases ev
        exact ⟨_, ow⟩
      | ex mm =>
        obtain ⟨d', e3, ow, ap⟩ := h1
        unfold rdO at e0
        dsimp only at e0
        rw [e3] at e0; cases e0
        exact ⟨T, ow⟩
theorem lk_none {m : Str} : ∀ {ns : List Str} {vs : List V}, ¬ ns.contains m = true → (ns.zip vs).lookup m = none
  | [], _, _ => rfl
  | _ :: _, [], _ => rfl
  | j :: ns, w :: vs, hn => by
    rw [List.contains_cons, Bool.or_eq_true, not_or] at hn
    have hj : (m == j) = false := by
      cases q : (m == j) with
      | false => rfl
      | true => exact (hn.1 q).elim
    rw [List.zip_cons_cons, List.lookup_cons, hj]
    exact lk_none hn.2
theorem pick_seen {H G : Hp} {m : Str} {cs : List Cd} {d : D} {v : V} {cd : Cd} (h : Seen K M G H d v) (sb : Sub G H) (e : pickC m cs d = some cd) : ∃ a dx fs, v = .ref a ∧ H a = some (.ins (He.ga K cd.c) dx fs) ∧ fs.lookup m = none ∧ cd ∈ cs := by
  cases d with
  | obj b c ns ds =>
    have e : (if ns.contains m = true then none else cs.find? fun cd => decide (cd.c = c)) = some cd := e
    split at e
    · cases e
    · rename_i hn
      obtain ⟨a, dx, vs, rfl, h1, hl, r1⟩ := h.obj sb
      have hc := List.find?_some e
      have hc : cd.c = c := of_decide_eq_true hc
      subst hc
      exact ⟨a, dx, ns.zip vs, rfl, h1, lk_none hn, List.mem_of_find?_eq_some e⟩
  | _ => cases e
theorem meth_t {m : Str} {cs : List Cd} {a0 : Ar} {as : List Ar} (q : tP K M W (pMeth m cs a0 as) σ H Q) :
    tAr K M W a0 σ H fun x H1 => ∃ a dx fs cd, x = .ref a ∧ H1 a = some (.ins (He.ga K cd.c) dx fs) ∧ fs.lookup m = none ∧ cd ∈ cs ∧ tA K M W as σ H1 fun vs H2 => CallR K M W cd.ff cd.rf (a0 :: as) cd.pm σ H2 (.ref a :: vs) Q := by
  obtain ⟨g, G, S, mt, q⟩ := q
  have fin : ∀ (v : V) (H1 : Hp), (∃ x g1 G1 S1 U, Mt K M g1 σ H1 G1 S1 ∧ ArRs K M H g1 σ H1 G1 S1 [a0] [x] [v] U ∧ Stp M H G S H1 G1 S1 ∧ EndE K M W σ H G S (match rdA g1 [a0] [x] with
    | some [d] => (match pickC m cs d with
      | some cd => (evA as g1).bind fun ys g2 => callA cd (a0 :: as) ([x] ++ ys) g2
      | none => .bad)
    | _ => .bad) Q) → ∃ a dx fs cd, v = .ref a ∧ H1 a = some (.ins (He.ga K cd.c) dx fs) ∧ fs.lookup m = none ∧ cd ∈ cs ∧ tA K M W as σ H1 fun vs H2 => CallR K M W cd.ff cd.rf (a0 :: as) cd.pm σ H2 (.ref a :: vs) Q := by
    rintro v H1 ⟨x, g1, G1, S1, U, m1, ar, st, q⟩
    split at q
    · rename_i d ed
      split at q
      · rename_i cd ep
        obtain ⟨a, dx, fs, rfl, h1, h2, h3⟩ := pick_seen (one_seen m1 ar ed) m1.sub ep
        refine ⟨a, dx, fs, cd, rfl, h1, h2, h3, g1, G1, S1, m1, ?_⟩
        cases er : evA as g1 with
        | bad => rw [er] at q; exact q
        | exc c d g' => rw [er] at q; exact EndX.of q st
        | ok ys g2 =>
          rw [er, Rs.bind_ok] at q
          intro vs H2 G2 S2 U2 m2 r2 st2
          have ar2 : ArRs K M H g2 σ H2 G2 S2 ([a0] ++ as) ([x] ++ ys) ([.ref a] ++ vs) fun b => U b ∨ U2 b := (ar.stp st2).app (r2.base fun a => st.back) fun b hb z => by
            have h1 := (r2.there z).2.2
            obtain ⟨o, h2⟩ := (ar.there hb).1
            rw [h1] at h2; cases h2
          unfold callA at q
          cases e1 : rdA g2 (a0 :: as) ([x] ++ ys) with
          | none => rw [e1] at q; exact (show False from q).elim
          | some ds =>
            rw [e1] at q
            dsimp only at q
            cases e2 : pmL ds id cd.pm with
            | none => rw [e2] at q; exact (show False from q).elim
            | some es =>
              cases e3 : pmL ((a0 :: as).map nmA) (fun _ => (none : Option Nat)) cd.pm with
              | none => rw [e2, e3] at q; exact (show False from q).elim
              | some ns =>
                rw [e2, e3] at q
                exact ⟨g2, G2, S2, _, _, H, G, S, ds, es, ns, m2, st.trans st2, ar2, e1, e2, e3, q⟩
      · exact (show False from q).elim
    · exact (show False from q).elim
  have q2 := a1_t mt q
  cases a0 with
  | v mm => obtain ⟨g', G', S', m', q2⟩ := q2; exact ⟨g', G', S', m', EndE.imp q2 fin⟩
  | r o => obtain ⟨g', G', S', m', q2⟩ := q2; exact ⟨g', G', S', m', EndO.imp q2 fin⟩
/-- what each class's method must be -/
def CdOk (X : Cx) (M : Memo) (m : Str) (n : Nat) (ks : List Str) (cs : List Cd) : Prop := ∀ cd ∈ cs, ∃ k f fd ps, FnG X.prog X.w X.K X.mg X.base k f fd ps (spF X.K M cd.ff cd.rf ps.length) ∧ Room k X.A ∧ Cls X.K (He.ga X.K cd.c) ∧ Meth X.K (He.ga X.K cd.c) m f ∧ BindP X.K fd ps n ks cd.pm ∧ distinct (cd.pm.map inlOf) = true
theorem pe_Meth {o : Expr} {m : Str} {cs : List Cd} {a0 : Ar} {apos : Pos} {pl : Sem Bool} (C : CdOk X M m (as.length + 1) (kwNames kws) cs) (gu : X.A.guards = some []) (tk : Takes X W) (ho : PAr X.K M W X o a0)
    (ha : PA X es (tA X.K M W as)) (hkw : PK X kws (tA X.K M W bs)) (hla : as.length = es.length) (hl : bs.length = (kwNames kws).length) (dn : distinct ((a0 :: (as ++ bs)).map nmA) = true) (hes : es.all noStar = true) (hks : kws.all (·.arg.isSome) = true)
    (ht : eval (.Call (.Attribute o m apos) es kws pos) X.env = (do
      let ov ← eval o X.env
      standAt apos.atName
      let (f, first) ← holding [ov] (getMethod ov m pl)
      callWith pos f first (backTo pos (starEach es X.env)) (backToKw pos (keywordEach kws X.env)))) : PE X (.Call (.Attribute o m apos) es kws pos) (tP X.K M W (pMeth m cs a0 (as ++ bs))) := by
  refine ⟨fun pins s σ H Q I h => ?_⟩
  refine PySem.W.methodCall_KW (pl := pl) (thn (ho.pe.run pins s σ H _ I (meth_t h)) fun u s1 ⟨x, H1, I1, rx, a, dx, fs, cd, ex, ea, l, hc, q⟩ => ?_) ht
  subst ex
  obtain rfl : u = Value.ref a := rx
  obtain ⟨k, f, fd, ps, F, hr, cl, mt, hb, dp⟩ := C cd hc
  refine getmeth_ok I1 ea cl mt l ?_
  refine args_run (first := [.ref a]) (e0 := o) mt.kp ha hkw hla hl hes hks I1 q fun us ws vs zs s2 H2 I2 r rz l1 l2 q => ?_
  exact callR_run (as := a0 :: (as ++ bs)) (us := .ref a :: us) (vs := .ref a :: vs) F hr gu tk hb dn dp I2 (.cons rfl r) rz (congrArg Nat.succ l1) l2 q
end
end PI

set_option Elab.async false
set_option linter.all false
set_option maxRecDepth 100000
set_option maxHeartbeats 1000000
namespace PI
open PySem PySem.Spec PyProof.Rows L2
open PySem.W (Frag InstAt findIn isFn selfFirst subIn Looks)
/-! ### an own operator behind an int: int's own method lets it pass -/
section
variable {prog : Program} {w : World} {A : Around} {E : Value → Shared → Prop} {s : Shared}
theorem dec_bin {name : String} {f : Int → Int → Sem Fin} {id : String} {mt : Str} {i : Int} {t : Tok} {x : Addr} {o : Obj} {Q : Value → Shared → Prop} (slot : Slot "int" mt id) (entry : entryFor table id = some (Builtin.Int.intBinary name f)) (args : argsOk id ⟨[.int i t, .ref x], []⟩)
    (ho : s.heap.get? x = some o) (hd : ∀ v, o.data ≠ .prim v) (h : Q .notImplemented s) : wpAny (model prog w) A (call (.builtin id) [.int i t, .ref x]) Q E s := by
  refine wpAny_call_entry slot (typeIs_int s i t) entry ?_ args
  unfold Builtin.Int.intBinary
  refine wpAny_bind (wpAny_pure (a := (Value.int i t, [Value.ref x])) ?_)
  refine wpAny_bind (wpAny_bind (wpAny_pure (a := some i) ?_))
  refine wpAny_pure ?_
  show wpAny _ _ (asInt? (.ref x) >>= _) _ _ _
  unfold asInt?
  refine wpAny_bind (wpAny_bind (wpAny_load ho ?_))
  cases q : o.data <;> first | exact (hd _ q).elim | exact wpAny_pure (wpAny_bind (wpAny_rule (wpAny_pure ⟨_, rfl, h⟩)))
theorem ref_bin {K : Frag} {op : Operator} {i : Int} {t : Tok} {x C fl f : Addr} {ox : Obj} {od : Option Obj} {id : String} {Q : Value → Shared → Prop} (X : K.In s.heap) (I : InstAt s.heap x ox C od) (hc : selfFirst K C = true)
    (hs : findIn K (.ref C) (dunder op.info.2) = some (some (.ref fl))) (hr : findIn K (.ref C) (dunderR op.info.2) = some (some (.ref f))) (hf : isFn K (.ref f) = true) (fills : fillsNumberSlot (.type "int") op.info.2 = pure true)
    (slot : Slot "int" (dunder op.info.2) id) (hsub : subIn K (.ref C) (.type "int") = some false) (dec : ∀ Q : Value → Shared → Prop, Q .notImplemented s → wpAny (model prog w) A (call (.builtin id) [.int i t, .ref x]) Q E s)
    (h : wpAny (model prog w) A (call (.ref f) [.ref x, .int i t]) (PySem.W.CmpBack Q) E s) : wpAny (model prog w) A (binaryOp op (.int i t) (.ref x)) Q E s := by
  obtain ⟨cd, rest, hcd, hm⟩ := PySem.W.ksp_first hc
  rcases hi : op.info with ⟨sym, nm'⟩
  rw [hi] at hs hr fills slot
  dsimp only at hs hr fills slot
  have hne : (Value.type "int" == Value.ref C) = false := Bool.eq_false_iff.mpr fun q => by cases beq_iff_eq.mp q
  simp only [binaryOp, hi]
  refine wpAny_holding (wpAny_bind ?_)
  unfold binaryOp1
  refine wpAny_bind (wpAny_typeOf (typeIs_int s i t) (wpAny_bind (I.type.here (wpAny_bind (wpAny_of_eq fills ?_)))))
  simp only [hne, Bool.false_eq_true, if_false]
  refine wpAny_bind ((PySem.W.fills_K X hcd hm hs).here ?_)
  simp only [Bool.and_self, if_true]
  refine wpAny_bind ((PySem.W.looks_subIn X hsub).here ?_)
  have hpy : numberSlotInPython (.type "int") nm' = pure false := rfl
  simp only [Bool.false_eq_true, if_false, pure_bind, Bool.not_false, Bool.and_self, if_true, hpy]
  refine wpAny_bind (wpAny_tryMethod_declines (typeIs_int s i t) slot (dec _ ⟨rfl, ?_⟩))
  refine wpAny_bind (wpAny_mono (PySem.W.ksp_try X I hr hf h) (fun r s' hr' => ?_) fun _ _ e => e)
  obtain ⟨v, rfl, hq⟩ := hr'
  exact wpAny_bind (wpAny_rule (wpAny_pure (wpAny_pure hq)))
end
end PI

set_option Elab.async false
set_option linter.all false
set_option maxRecDepth 100000
set_option maxHeartbeats 1000000
namespace PI
open PySem PySem.Spec PyProof.Rows L2
open PySem.W (Frag InstAt findIn isFn selfFirst subIn Looks)
/-! ### own operators -/
def own2 (cd : Cd) (d e : D) (g : Sg) : Rs D := callA cd [.v pBad, .v pBad] [some d, some e] g
def own1 (cd : Cd) (d : D) (g : Sg) : Rs D := callA cd [.v pBad] [some d] g
def findC (cs : List Cd) (c : Str) : Option Cd := cs.find? fun cd => decide (cd.c = c)
def binS (op : Operator) (ls rs : List Cd) (d e : D) (g : Sg) : Rs D := match d, e with
  | .obj b c ns ds, .int i => (match findC ls c with
    | some cd => own2 cd (.obj b c ns ds) (.int i) g
    | none => .bad)
  | .obj b c ns ds, .obj b' c' ns' ds' => if c = c' then (match findC ls c with
    | some cd => own2 cd (.obj b c ns ds) (.obj b' c' ns' ds') g
    | none => .bad) else .bad
  | .int i, .obj b c ns ds => (match findC rs c with
    | some cd => own2 cd (.obj b c ns ds) (.int i) g
    | none => .bad)
  | d, e => ro (binD op d e) g
def pSl2 (f : D → D → Sg → Rs D) (ma mb : PX) : PX := fun g => (ma g).bind fun d g1 => (mb g1).bind fun e g2 => f (sealD d) (sealD e) g2
def pSl1 (f : D → Sg → Rs D) (ma : PX) : PX := fun g => (ma g).bind fun d g1 => f (sealD d) g1
def rS2 (K : Frag) (M : Memo) (W : WX) (f : D → D → Sg → Rs D) : RS := fun σ x y H Q => ∃ g G S d e, Mt K M g σ H G S ∧ Rep K G d x ∧ Rep K G e y ∧ EndE K M W σ H G S (f d e g) Q
def rS1 (K : Frag) (M : Memo) (W : WX) (f : D → Sg → Rs D) : L2.St → V → Hp → VK → Prop := fun σ x H Q => ∃ g G S d, Mt K M g σ H G S ∧ Rep K G d x ∧ EndE K M W σ H G S (f d g) Q
structure OpL (K : Frag) (op : Operator) (C f : Addr) : Prop where
  first : selfFirst K C = true
  at_ : findIn K (.ref C) (dunder op.info.2) = some (some (.ref f))
  fn : isFn K (.ref f) = true
  rc : ∃ rc, findIn K (.ref C) (dunderR op.info.2) = some rc ∧ (rc = none ∨ ∃ g : Addr, rc = some (.ref g))
  i1 : ∃ fo, findIn K (.type "int") (dunder op.info.2) = some fo
  i2 : ∃ ro, findIn K (.type "int") (dunderR op.info.2) = some ro
  sub : subIn K (.type "int") (.ref C) = some false
structure OpI (op : Operator) : Prop where
  ex : ∃ (id name : String) (f : Int → Int → Sem Fin), Slot "int" (dunder op.info.2) id ∧ entryFor table id = some (Builtin.Int.intBinary name f) ∧ (∀ i t x, argsOk id ⟨[.int i t, .ref x], []⟩) ∧ fillsNumberSlot (.type "int") op.info.2 = pure true
structure OpRv (K : Frag) (op : Operator) (C f : Addr) : Prop where
  first : selfFirst K C = true
  at_ : ∃ fl : Addr, findIn K (.ref C) (dunder op.info.2) = some (some (.ref fl))
  r : findIn K (.ref C) (dunderR op.info.2) = some (some (.ref f))
  fn : isFn K (.ref f) = true
  sub : subIn K (.ref C) (.type "int") = some false
section
variable {K : Frag} {M : Memo} {W : WX} {X : Cx} {σ : L2.St} {H H0 G G0 H1 G1 : Hp} {S S0 S1 : Nat → Addr → Prop} {g g1 : Sg} {Q : VK} {pos p2 : Pos} {k : Nat} {f : Addr} {fd : FuncData} {ps : List Str} {pins : List (Addr × Obj)} {s : Shared} {cd : Cd}
/-- a def's facts for calls by values -/
def CaOk (X : Cx) (M : Memo) (n : Nat) (cd : Cd) (f : Addr) : Prop := ∃ k fd ps, FnG X.prog X.w X.K X.mg X.base k f fd ps (spF X.K M cd.ff cd.rf ps.length) ∧ Room k X.A ∧ BindP X.K fd ps n [] cd.pm ∧ distinct (cd.pm.map inlOf) = true
theorem own2_run {d e : D} {x y : V} {v u : Value} (C : CaOk X M 2 cd f) (gu : X.A.guards = some []) (tk : Takes X W) (I : Inv X pins σ H s) (rx : RelV x v) (ry : RelV y u) (m : Mt X.K M g σ H G S) (r1 : Rep X.K G d x) (r2 : Rep X.K G e y)
    (q : EndE X.K M W σ H G S (own2 cd d e g) Q) : wpAny (model X.prog X.w) X.A (call (.ref f) [v, u]) (EP X pins σ Q) X.xe s := by
  obtain ⟨k, fd, ps, F, hr, hb, dp⟩ := C
  unfold own2 callA at q
  have e1 : rdA g [.v pBad, .v pBad] [some d, some e] = some [d, e] := rfl
  rw [e1] at q
  dsimp only at q
  cases e2 : pmL [d, e] id cd.pm with
  | none => rw [e2] at q; exact (show False from q).elim
  | some es =>
    cases e3 : pmL (([.v pBad, .v pBad] : List Ar).map nmA) (fun _ => (none : Option Nat)) cd.pm with
    | none => rw [e2, e3] at q; exact (show False from q).elim
    | some ns =>
      rw [e2, e3] at q
      exact callR_run (as := [.v pBad, .v pBad]) (us := [v, u]) (ws := []) (vs := [x, y]) (zs := []) F hr gu tk hb rfl dp I (.cons rx (.cons ry .nil)) .nil rfl rfl
        ⟨g, G, S, [some d, some e], none_, H, G, S, [d, e], es, ns, m, Stp.refl, ⟨_, _, _, _, none_, none_, rfl, rfl, ⟨⟨d, rfl, r1⟩, fun b z => z⟩, ⟨_, _, _, _, none_, none_, rfl, rfl, ⟨⟨e, rfl, r2⟩, fun b z => z⟩, ⟨rfl, rfl, fun b z => z⟩, fun b => ⟨.inl, fun z => z.elim id id⟩, fun b z => z.elim⟩, fun b => ⟨.inl, fun z => z.elim id id⟩, fun b z => z.elim⟩, e1, e2, e3, q⟩
theorem own1_run {d : D} {x : V} {v : Value} (C : CaOk X M 1 cd f) (gu : X.A.guards = some []) (tk : Takes X W) (I : Inv X pins σ H s) (rx : RelV x v) (m : Mt X.K M g σ H G S) (r1 : Rep X.K G d x)
    (q : EndE X.K M W σ H G S (own1 cd d g) Q) : wpAny (model X.prog X.w) X.A (call (.ref f) [v]) (EP X pins σ Q) X.xe s := by
  obtain ⟨k, fd, ps, F, hr, hb, dp⟩ := C
  unfold own1 callA at q
  have e1 : rdA g [.v pBad] [some d] = some [d] := rfl
  rw [e1] at q
  dsimp only at q
  cases e2 : pmL [d] id cd.pm with
  | none => rw [e2] at q; exact (show False from q).elim
  | some es =>
    cases e3 : pmL (([.v pBad] : List Ar).map nmA) (fun _ => (none : Option Nat)) cd.pm with
    | none => rw [e2, e3] at q; exact (show False from q).elim
    | some ns =>
      rw [e2, e3] at q
      exact callR_run (as := [.v pBad]) (us := [v]) (ws := []) (vs := [x]) (zs := []) F hr gu tk hb rfl dp I (.cons rx .nil) .nil rfl rfl
        ⟨g, G, S, [some d], none_, H, G, S, [d], es, ns, m, Stp.refl, ⟨_, _, _, _, none_, none_, rfl, rfl, ⟨⟨d, rfl, r1⟩, fun b z => z⟩, ⟨rfl, rfl, fun b z => z⟩, fun b => ⟨.inl, fun z => z.elim id id⟩, fun b z => z.elim⟩, e1, e2, e3, q⟩
theorem cmpb {v : Value} {s' : Shared} (h : EP X pins σ Q v s') : PySem.W.CmpBack (EP X pins σ Q) v s' := by
  cases v with
  | notImplemented =>
    obtain ⟨x, H', I, r, q⟩ := h
    cases x <;> first | (cases r; done) | (obtain ⟨t, e⟩ := r; cases e)
  | _ => exact h
/-- the instance behind a value -/
theorem inst_rep {b : Bool} {c : Str} {ns : List Str} {ds : List D} {x : V} {v : Value} (I : Inv X pins σ H s) (sb : Sub G H) (r : Rep X.K G (.obj b c ns ds) x) (rx : RelV x v) :
    ∃ a ox od, x = .ref a ∧ v = .ref a ∧ InstAt s.heap a ox (He.ga X.K c) (some od) ∧ ox.data = .plain := by
  obtain ⟨_, a, dx, vs, rfl, h1, _, _⟩ := r
  obtain ⟨mA, O, _⟩ := ins_get I.hok (sb _ _ h1)
  obtain ⟨od, J, _⟩ := O.look
  exact ⟨a, _, od, rfl, rx, J, rfl⟩
def OpsOk (X : Cx) (M : Memo) (op : Operator) (ls rs : List Cd) : Prop := (∀ cd ∈ ls, ∃ f, CaOk X M 2 cd f ∧ OpL X.K op (He.ga X.K cd.c) f) ∧ (∀ cd ∈ rs, ∃ f, CaOk X M 2 cd f ∧ OpRv X.K op (He.ga X.K cd.c) f) ∧ (rs ≠ [] → OpI op)
theorem findC_c {cs : List Cd} {c : Str} {cd : Cd} (h : findC cs c = some cd) : cd.c = c ∧ cd ∈ cs := ⟨of_decide_eq_true (List.find?_some (p := fun cd : Cd => decide (cd.c = c)) h), List.mem_of_find?_eq_some h⟩
theorem binS_ok {op : Operator} {ls rs : List Cd} (C : OpsOk X M op ls rs) (gu : X.A.guards = some []) (tk : Takes X W) : OpS X (binaryOp op) (rS2 X.K M W (binS op ls rs)) := by
  rintro pins s σ H x y v u Q I rx ry ⟨g, G, S, d, e, m, r1, r2, q⟩
  unfold binS at q
  obtain ⟨m0, F⟩ := I.fr
  split at q
  · rename_i b c ns ds i
    obtain ⟨a, ox, od, rfl, rfl, J, hp⟩ := inst_rep I m.sub r1 rx
    split at q
    · rename_i cd hc
      obtain ⟨rfl, hin⟩ := findC_c hc
      obtain ⟨f, ca, L⟩ := C.1 cd hin
      obtain ⟨rc, l1, l2⟩ := L.rc
      obtain ⟨fo, l3⟩ := L.i1
      obtain ⟨ro, l4⟩ := L.i2
      cases (show y = .int i from r2)
      obtain ⟨t, rfl⟩ := id ry
      exact PySem.W.ksp_binT F I.ok.mod.kin J rfl L.first L.at_ L.fn l1 l2 l3 l4 L.sub (thn (own2_run ca gu tk I rx ry m r1 r2 q) fun v s' h => cmpb h)
    · exact (show False from q).elim
  · rename_i b c ns ds b' c' ns' ds'
    split at q
    · rename_i hcc
      subst hcc
      obtain ⟨a, ox, od, rfl, rfl, J, hp⟩ := inst_rep I m.sub r1 rx
      obtain ⟨a2, ox2, od2, rfl, rfl, J2, hp2⟩ := inst_rep I m.sub r2 ry
      split at q
      · rename_i cd hc
        obtain ⟨rfl, hin⟩ := findC_c hc
        obtain ⟨f, ca, L⟩ := C.1 cd hin
        exact PySem.W.binop_K F I.ok.mod.kin J J2.type L.first L.at_ L.fn (thn (own2_run ca gu tk I rx ry m r1 r2 q) fun v s' h => cmpb h)
      · exact (show False from q).elim
    · exact (show False from q).elim
  · rename_i i b c ns ds
    obtain ⟨a, ox, od, rfl, rfl, J, hp⟩ := inst_rep I m.sub r2 ry
    split at q
    · rename_i cd hc
      obtain ⟨rfl, hin⟩ := findC_c hc
      obtain ⟨f, ca, L⟩ := C.2.1 cd hin
      obtain ⟨fl, l1⟩ := L.at_
      obtain ⟨idn, name, ff, i1, i2, i3, i4⟩ := (C.2.2 (List.ne_nil_of_mem hin)).ex
      cases (show x = .int i from r1)
      obtain ⟨t, rfl⟩ := id rx
      exact ref_bin I.kIn J L.first l1 L.r L.fn i4 i1 L.sub (fun Q hq => dec_bin i1 i2 (i3 i t a) J.at_ (fun v => by rw [hp]; exact fun z => nomatch z) hq) (thn (own2_run ca gu tk I ry rx m r2 r1 q) fun v s' h => cmpb h)
    · exact (show False from q).elim
  · exact bin_ok op pins s σ H x y v u Q I rx ry ⟨g, G, S, d, e, m, Seen.of r1, Seen.of r2, q⟩
theorem sl2_t {fn : D → D → Sg → Rs D} {ma mb : PX} (q : tP K M W (pSl2 fn ma mb) σ H Q) : tOp (rS2 K M W fn σ) (tP K M W ma) (tP K M W mb) σ H Q := by
  obtain ⟨g, G, S, mt, q⟩ := q
  refine ⟨g, G, S, mt, EndE.imp (EndE.bind q) fun v H1 ⟨d, g1, G1, S1, T, er, got, st, q⟩ => ?_⟩
  obtain ⟨G2, m2, r2, sb, hg, hv⟩ := got.seal
  have st2 := st.sealed sb hg hv
  refine ⟨g1, G2, S1, m2, EndE.imp (EndE.bind (EndE.of q st2)) fun u H3 ⟨e, g3, G3, S3, T3, er3, got3, st3, q⟩ => ?_⟩
  obtain ⟨G4, m4, r4, sb4, hg4, hv4⟩ := got3.seal
  have st4 := st3.sealed sb4 hg4 hv4
  exact ⟨g3, G4, S3, _, _, m4, Rep.mono st4.gr _ _ r2, r4, EndE.of q st4⟩
theorem sl1_t {fn : D → Sg → Rs D} {ma : PX} (q : tP K M W (pSl1 fn ma) σ H Q) : tUn (rS1 K M W fn σ) (tP K M W ma) σ H Q := by
  obtain ⟨g, G, S, mt, q⟩ := q
  refine ⟨g, G, S, mt, EndE.imp (EndE.bind q) fun v H1 ⟨d, g1, G1, S1, T, er, got, st, q⟩ => ?_⟩
  obtain ⟨G2, m2, r2, sb, hg, hv⟩ := got.seal
  have st2 := st.sealed sb hg hv
  exact ⟨g1, G2, S1, _, m2, r2, EndE.of q st2⟩
theorem pe_Bin {op : Operator} {ls rs : List Cd} {a b : Expr} {ma mb : PX} (C : OpsOk X M op ls rs) (gu : X.A.guards = some []) (tk : Takes X W) (ha : PE X a (tP X.K M W ma)) (hb : PE X b (tP X.K M W mb)) : PE X (.BinOp a op b pos) (tP X.K M W (pSl2 (binS op ls rs) ma mb)) :=
  ⟨fun pins s σ H Q I q => wpAny_BinOp (binT (R := fun x y H2 => rS2 X.K M W (binS op ls rs) σ x y H2 Q) ha hb I (sl2_t q) fun v u s2 x y H2 I2 rx ry q => binS_ok C gu tk pins s2 σ H2 x y v u Q I2 rx ry q)⟩
theorem ops_nil {op : Operator} : OpsOk X M op [] [] := ⟨fun _ z => (List.not_mem_nil z).elim, fun _ z => (List.not_mem_nil z).elim, fun z => (z rfl).elim⟩
/-! ### ~ and - -/
def invS (cs : List Cd) (d : D) (g : Sg) : Rs D := match d with
  | .obj b c ns ds => (match findC cs c with
    | some cd => own1 cd (.obj b c ns ds) g
    | none => .bad)
  | _ => .bad
structure OpU (K : Frag) (C f : Addr) : Prop where
  at_ : findIn K (.ref C) "__invert__" = some (some (.ref f))
  fn : isFn K (.ref f) = true
theorem pe_Inv {cs : List Cd} {a : Expr} {ma : PX} (C : ∀ cd ∈ cs, ∃ f, CaOk X M 1 cd f ∧ OpU X.K (He.ga X.K cd.c) f) (gu : X.A.guards = some []) (tk : Takes X W) (ha : PE X a (tP X.K M W ma)) : PE X (.UnaryOp .Invert a pos) (tP X.K M W (pSl1 (invS cs) ma)) :=
  ⟨fun pins s σ H Q I q => UnaryOp_ (thn (ha.run pins s σ H _ I (sl1_t q)) fun v s1 ⟨x, H1, I1, rx, q1⟩ => by
    obtain ⟨g, G, S, d, m, r1, q⟩ := q1
    unfold invS at q
    split at q
    · obtain ⟨a, ox, od, rfl, rfl, J, hp⟩ := inst_rep I1 m.sub r1 rx
      obtain ⟨m0, F⟩ := I1.fr
      split at q
      · rename_i cd hc
        obtain ⟨rfl, hin⟩ := findC_c hc
        obtain ⟨f, ca, L⟩ := C cd hin
        exact PySem.W.ksp_inv F I1.ok.mod.kin J L.at_ L.fn (own1_run ca gu tk I1 rx m r1 q)
      · exact (show False from q).elim
    · exact (show False from q).elim)⟩
def negD : D → Option D
  | .int i => some (.int (-i))
  | _ => none
theorem pe_Neg {a : Expr} {oa : Op} (ha : PE X a (tO X.K M W oa)) : PE X (.UnaryOp .USub a pos) (tP X.K M W (pOp1 (fun d g => ro (negD d) g) oa)) := by
  refine pe_unS ?_ ha
  rintro pins s σ H x v Q I rx ⟨g, G, S, d, m, sd, q⟩
  dsimp only at q
  unfold negD at q
  split at q
  · rename_i i
    cases sd.int
    exact un_neg pins s σ H _ v Q I rx ⟨i, rfl, fin_sc q m rfl⟩
  · exact (show False from q).elim
end
end PI

set_option Elab.async false
set_option linter.all false
set_option maxRecDepth 100000
set_option maxHeartbeats 1000000
namespace PI
open PySem PySem.Spec PyProof.Rows L2
open PySem.W (Frag InstAt findIn isFn selfFirst subIn Looks)
/-! ### own == -/
def kindD : D → Option String
  | .non => some "NoneType"
  | .bl _ => some "bool"
  | .int _ => some "int"
  | .str _ => some "str"
  | .lst _ _ => some "list"
  | .tup _ => some "tuple"
  | _ => none
def sameF : D → D → Bool
  | .non, .non => true
  | .bl a, .bl b => a == b
  | .int a, .int b => decide (a = b)
  | .str a, .str b => decide (a = b)
  | _, _ => false
def sameD (ks : List Key) (ds : List D) (ls : List Key) (es : List D) : Bool := (List.zipWith (fun k d => decide (flatD d = true) && (match valD ls es k with
  | some e => sameF d e
  | none => false)) ks ds).all id
def eqL (d e : D) : Option Bool := match d, e with
  | .dic _ ks ds, .dic _ ls es => if ks.length = ls.length ∧ sameD ks ds ls es = true then some true else none
  | d, e => eqP d e
def eqS (es : List Cd) (d e : D) (g : Sg) : Rs D := match d with
  | .obj b c ns ds => (match findC es c with
    | some cd => (match e with
      | .obj _ c' _ _ => if c' = c then own2 cd (.obj b c ns ds) e g else .bad
      | _ => if (kindD e).isSome = true then own2 cd (.obj b c ns ds) e g else .bad)
    | none => .bad)
  | d => (match e with
    | .obj .. => .bad
    | e => rb (eqL d e) g)
structure OpE (K : Frag) (C f : Addr) : Prop where
  at_ : findIn K (.ref C) "__eq__" = some (some (.ref f))
  fn : isFn K (.ref f) = true
  nf : ∀ T ∈ ["NoneType", "bool", "int", "str", "list", "tuple"], subIn K (.type T) (.ref C) = some false
section
variable {K : Frag} {M : Memo} {W : WX} {X : Cx} {σ : L2.St} {H H0 G G0 H1 G1 : Hp} {S S0 S1 : Nat → Addr → Prop} {g g1 : Sg} {Q : VK} {pos p2 : Pos} {k : Nat} {f : Addr} {fd : FuncData} {ps : List Str} {pins : List (Addr × Obj)} {s : Shared} {cd : Cd}
theorem looks_cls {Mo : Model} {h : Heap} {a : Addr} {o : Obj} (e : h.get? a = some o) : Looks Mo h (typeOf (.ref a)) o.cls := (Looks.ld (part := none) e).andThen .now
theorem kind_looks {Mo : Model} {e : D} {T : String} {y : V} {u : Value} (I : Inv X pins σ H s) (sb : Sub G H) (r : Rep X.K G e y) (ry : RelV y u) (h : kindD e = some T) : Looks Mo s.heap (typeOf u) (.type T) ∧ T ∈ ["NoneType", "bool", "int", "str", "list", "tuple"] := by
  cases e <;> first | (cases h; done) | skip
  · cases h; cases (show y = _ from r); cases ry; exact ⟨Looks.of_pure rfl, by decide⟩
  · cases h; cases (show y = _ from r); cases ry; exact ⟨Looks.of_pure rfl, by decide⟩
  · cases h; cases (show y = _ from r); obtain ⟨t, rfl⟩ := ry; exact ⟨Looks.of_pure rfl, by decide⟩
  · cases h; cases (show y = _ from r); obtain ⟨t, rfl⟩ := ry; exact ⟨Looks.of_pure rfl, by decide⟩
  · cases h
    obtain ⟨_, a, vs, rfl, h1, _⟩ := r
    cases ry
    obtain ⟨its, rv, ⟨o, n, e, hc, _⟩, _⟩ := I.list (sb.sqL h1)
    refine ⟨?_, by decide⟩
    rw [← hc]
    exact looks_cls e
  · cases h
    obtain ⟨a, vs, rfl, h1, _⟩ := r
    cases ry
    obtain ⟨its, rv, ⟨o, e, hc, _⟩, _⟩ := I.tuple (sb.sqT h1)
    refine ⟨?_, by decide⟩
    rw [← hc]
    exact looks_cls e
theorem same_rep {ls : List Key} {es : List D} {us : List V} (hl2 : ls.length = us.length) (r2 : RepL K G es us) : ∀ {ks : List Key} {ds : List D} {vs : List V}, ks.length = vs.length → RepL K G ds vs → sameD ks ds ls es = true → ∀ p ∈ ks.zip vs, valV (ls.zip us) p.1 = some p.2 ∧ flatB p.2 = true
  | [], ds, vs, hl, r, h => fun p hp => by simp at hp
  | k :: ks, ds, [], hl, r, h => fun p hp => by simp at hp
  | k :: ks, [], w :: vs, hl, r, h => by cases (show w :: vs = [] from r)
  | k :: ks, d :: ds, w :: vs, hl, r, h => by
    obtain ⟨w', r', z, h1, h2⟩ := r
    cases z
    have h : ((decide (flatD d = true) && (match valD ls es k with
      | some e => sameF d e
      | none => false)) && sameD ks ds ls es) = true := h
    obtain ⟨h3, h4⟩ := Bool.and_eq_true_iff.mp h
    obtain ⟨h5, h6⟩ := Bool.and_eq_true_iff.mp h3
    intro p hp
    rw [List.zip_cons_cons] at hp
    rcases List.mem_cons.mp hp with hp | hp
    · subst hp
      cases e1 : valD ls es k with
      | none => rw [e1] at h6; cases h6
      | some e =>
        rw [e1] at h6
        obtain ⟨v, ev, rv⟩ := (val_rep hl2 r2).1 e e1
        show valV (ls.zip us) k = some w ∧ flatB w = true
        rw [ev]
        cases d <;> cases e <;> first | (cases h6; done) | skip
        · cases (show w = _ from h1); cases (show v = _ from rv); exact ⟨rfl, rfl⟩
        · cases (show w = _ from h1); cases (show v = _ from rv); cases eq_of_beq h6; exact ⟨rfl, rfl⟩
        · cases (show w = _ from h1); cases (show v = _ from rv); cases of_decide_eq_true h6; exact ⟨rfl, rfl⟩
        · cases (show w = _ from h1); cases (show v = _ from rv); cases of_decide_eq_true h6; exact ⟨rfl, rfl⟩
    · exact same_rep hl2 r2 (by simpa using hl) h2 h4 p hp
theorem eqL_ok (hu : X.A.units + 64 < cLine) : OpS X (compareOp .Eq) (rF X.K M W fun d e g => rb (eqL d e) g) := by
  rintro pins s σ H x y v u Q I rx ry ⟨g, G, S, d, e, m, sd, se, q⟩
  dsimp only at q
  unfold eqL at q
  split at q
  · rename_i b ks ds b' ls es
    obtain ⟨a, vs, rfl, h1, hl, r1⟩ := sd.dic m.sub
    obtain ⟨a2, us, rfl, h2, hl2, r2⟩ := se.dic m.sub
    split at q
    · rename_i hc
      refine op_eq_dictA (by omega) pins s σ H _ _ v u Q I rx ry ⟨a, a2, _, _, rfl, rfl, h1, h2, ?_, same_rep hl2 r2 hl r1 hc.2, fin_b q rfl m⟩
      rw [List.length_zip, List.length_zip, ← hl, ← hl2, Nat.min_self, Nat.min_self]
      exact hc.1
    · exact (fin_no q).elim
  · exact cmp_ok hu .Eq pins s σ H x y v u Q I rx ry ⟨g, G, S, d, e, m, sd, se, q⟩
theorem eqS_ok {es : List Cd} (hu : X.A.units + 64 < cLine) (C : ∀ cd ∈ es, ∃ f, CaOk X M 2 cd f ∧ OpE X.K (He.ga X.K cd.c) f) (gu : X.A.guards = some []) (tk : Takes X W) : OpS X (compareOp .Eq) (rS2 X.K M W (eqS es)) := by
  rintro pins s σ H x y v u Q I rx ry ⟨g, G, S, d, e, m, r1, r2, q⟩
  unfold eqS at q
  obtain ⟨m0, F⟩ := I.fr
  have hu' : X.A.units < cLine := by omega
  split at q
  · rename_i b c ns ds
    obtain ⟨a, ox, od, rfl, rfl, J, hp⟩ := inst_rep I m.sub r1 rx
    split at q
    · rename_i cd hc
      obtain ⟨rfl, hin⟩ := findC_c hc
      obtain ⟨f, ca, L⟩ := C cd hin
      split at q
      · rename_i b' c' ns' ds'
        obtain ⟨a2, ox2, od2, rfl, rfl, J2, hp2⟩ := inst_rep I m.sub r2 ry
        split at q
        · rename_i hcc
          subst hcc
          exact PySem.W.cmp_K (op := .Eq) hu' F I.ok.mod.kin J J2.type (by simp [PySem.W.notFirst]) L.at_ L.fn (thn (own2_run ca gu tk I rx ry m r1 r2 q) fun v s' h => cmpb h)
        · exact (show False from q).elim
      · split at q
        · rename_i hk
          obtain ⟨T, hT⟩ := Option.isSome_iff_exists.mp hk
          obtain ⟨L2, hm⟩ := kind_looks (Mo := model X.prog X.w) I m.sub r2 ry hT
          refine PySem.W.cmp_K (op := .Eq) hu' F I.ok.mod.kin J L2 ?_ L.at_ L.fn (thn (own2_run ca gu tk I rx ry m r1 r2 q) fun v s' h => cmpb h)
          unfold PySem.W.notFirst
          rw [L.nf T hm]
          exact Bool.or_true _
        · exact (show False from q).elim
    · exact (show False from q).elim
  · split at q
    · exact (show False from q).elim
    · exact eqL_ok hu pins s σ H x y v u Q I rx ry ⟨g, G, S, d, e, m, Seen.of r1, Seen.of r2, q⟩
theorem pe_Eq {es : List Cd} {a b : Expr} {ma mb : PX} (hu : X.A.units + 64 < cLine) (C : ∀ cd ∈ es, ∃ f, CaOk X M 2 cd f ∧ OpE X.K (He.ga X.K cd.c) f) (gu : X.A.guards = some []) (tk : Takes X W) (ha : PE X a (tP X.K M W ma)) (hb : PE X b (tP X.K M W mb)) (hm : behindInMarks .Eq b = false) : PE X (.Compare a [.Eq] [b] pos) (tP X.K M W (pSl2 (eqS es) ma mb)) :=
  ⟨fun pins s σ H Q I q => wpAny_Compare1 (binT (R := fun x y H2 => rS2 X.K M W (eqS es) σ x y H2 Q) ha hb I (sl2_t q) fun v u s2 x y H2 I2 rx ry q => eqS_ok hu C gu tk pins s2 σ H2 x y v u Q I2 rx ry q) hm⟩
theorem pt_Eq {es : List Cd} {a b : Expr} {ma mb : PX} (hu : X.A.units + 64 < cLine) (C : ∀ cd ∈ es, ∃ f, CaOk X M 2 cd f ∧ OpE X.K (He.ga X.K cd.c) f) (gu : X.A.guards = some []) (tk : Takes X W) (ha : PE X a (tP X.K M W ma)) (hb : PE X b (tP X.K M W mb)) (hm : behindInMarks .Eq b = false) : PT X (.Compare a [.Eq] [b] pos) (tB' X.K M W (pTest (pSl2 (eqS es) ma mb))) := by
  refine ⟨fun pins s σ H Q I q => ?_⟩
  refine wpAny_isTrue_Compare1 (binT (R := fun x y H2 => rS2 X.K M W (eqS es) σ x y H2 fun v H1 => ∃ k, v = .bl k ∧ Q k H1) ha hb I (sl2_t (test_t q)) fun v u s2 x y H2 I2 rx ry q => thn (eqS_ok hu C gu tk pins s2 σ H2 x y v u _ I2 rx ry q) fun w s3 ⟨z, H3, I3, r3, k, e, q3⟩ => ?_) hm
  subst e
  cases r3
  exact wpAny_truthy_bool ⟨H3, I3, q3⟩
/-! ### properties -/
def noX (r : Rs D) : Rs D := match r with
  | .exc _ _ _ => .bad
  | r => r
def propS (cs : List Cd) (d : D) (g : Sg) : Rs D := match d with
  | .obj b c ns ds => (match findC cs c with
    | some cd => noX (own1 cd (.obj b c ns ds) g)
    | none => .bad)
  | _ => .bad
def W0 : WX := fun _ _ _ _ => False
theorem noX_e {r : Rs D} (q : EndE K M W σ H G S (noX r) Q) : EndE K M W0 σ H G S r Q := by
  cases r with
  | bad => exact q
  | exc c d g => exact (show False from q).elim
  | ok d g => exact q
def PdOk (X : Cx) (M : Memo) (f : Str) (cs : List Cd) : Prop := ∀ cd ∈ cs, ∃ k p ga fd ps, FnG X.prog X.w X.K X.mg X.base k ga fd ps (spF X.K M cd.ff cd.rf ps.length) ∧ Room (k + 1) X.A ∧ BindP X.K fd ps 1 [] cd.pm ∧ distinct (cd.pm.map inlOf) = true ∧ Cls X.K (He.ga X.K cd.c) ∧ PropOf X.K (He.ga X.K cd.c) f p ga
theorem getP_ok {cs : List Cd} {f : Str} {d : D} {x : V} {v : Value} {b : Bool} (C : PdOk X M f cs) (gu : X.A.guards = some []) (I : Inv X pins σ H s) (rx : RelV x v) (m : Mt X.K M g σ H G S) (r1 : Rep X.K G d x) (q : EndE X.K M W σ H G S (propS cs d g) Q) :
    wpAny (model X.prog X.w) X.A (getAttr v f b) (EP X pins σ Q) X.xe s := by
  unfold propS at q
  split at q
  · rename_i b' c ns ds
    split at q
    · rename_i cd hc
      obtain ⟨rfl, hin⟩ := findC_c hc
      obtain ⟨k, p, ga, fd, ps, F, hr, hb, dp, cl, hp⟩ := C cd hin
      obtain ⟨_, a, dx, vs, rfl, ea, _⟩ := id r1
      cases rx
      have ea := m.sub _ _ ea
      have q := noX_e q
      unfold own1 callA at q
      have e1 : rdA g [.v pBad] [some (.obj b' cd.c ns ds)] = some [.obj b' cd.c ns ds] := rfl
      rw [e1] at q
      dsimp only at q
      cases e2 : pmL [D.obj b' cd.c ns ds] id cd.pm with
      | none => rw [e2] at q; exact (show False from q).elim
      | some es =>
        cases e3 : pmL (([.v pBad] : List Ar).map nmA) (fun _ => (none : Option Nat)) cd.pm with
        | none => rw [e2, e3] at q; exact (show False from q).elim
        | some nn =>
          rw [e2, e3] at q
          obtain ⟨mA, O, _, _, _, _⟩ := ins_get I.hok ea
          obtain ⟨od, J, _⟩ := O.look
          obtain ⟨rest, hrec⟩ := hp.rec_
          have I1 := I.tok (s.toks + 1)
          have hcl : (PySem.W.clsIn X.K (He.ga X.K cd.c)).isSome = true := by
            obtain ⟨cda, hc, _⟩ := PySem.W.any_some cl.hd
            rw [hc] <;> rfl
          obtain ⟨lp, kv, kk, hk, hb⟩ := hb
          obtain ⟨ys, b1, b2⟩ := hb { s with toks := s.toks + 1 } [.ref a] [] I1.kIn rfl rfl
          obtain ⟨vv, c1, c2⟩ := vals_pm (show Vals [V.ref a] ([Value.ref a] ++ []) from .cons rfl .nil) (fun d hd => (hk d hd).2) b1
          have sp := call_fin (W := W0) (as := [.v pBad]) (xs := [some (.obj b' cd.c ns ds)]) (U := none_) m Stp.refl ⟨_, _, _, _, none_, none_, rfl, rfl, ⟨⟨_, rfl, r1⟩, fun b z => z⟩, ⟨rfl, rfl, fun b z => z⟩, fun b => ⟨.inl, fun z => z.elim (fun y => y) (fun y => y)⟩, fun b z => z.elim⟩ e1 e2 e3 rfl dp (fun d hd => (hk d hd).1) c1 q
          rw [lp] at sp
          refine PySem.W.get_bind I.kIn J (PySem.W.plainGet_of (cl.get f)).1 (PySem.W.findObj_data hcl hp.at_ hp.get hp.tak) (PySem.W.plainGet_of (cl.get f)).2 (wpAny_call (PySem.W.prop_get (s := { s with toks := s.toks + 1 }) I.kIn hrec ?_))
          refine codeAny_mono (F.run X.A.in1 X.stack { s with toks := s.toks + 1 } H ⟨[.ref a], []⟩ ys vv Q (WE W0 σ) hr.in1 gu I1.env0.in1 b2 c2 sp) fun r s' hq => ?_
          cases r with
          | error er => obtain ⟨_, _, _, _, _, _, _, _, _, _, _, _, z⟩ := hq; exact z.elim
          | ok fl =>
            cases fl with
            | ret u =>
              obtain ⟨v, H', I3, rv, q3⟩ := I1.after hq
              show wpAny _ _ (handedOut u) _ _ _
              rw [PySem.W.handedOut_of (handed_of rv)]
              exact wpAny_pure ⟨v, H', I3, rv, q3⟩
            | next => exact False.elim hq
            | brk => exact False.elim hq
            | cont => exact False.elim hq
    · exact (show False from q).elim
  · exact (show False from q).elim
theorem pe_Prop {cs : List Cd} {f : Str} {e : Expr} {me : PX} (C : PdOk X M f cs) (gu : X.A.guards = some []) (he : PE X e (tP X.K M W me)) (hab : attributeBase e f X.env (eval e X.env) = eval e X.env) : PE X (.Attribute e f pos) (tP X.K M W (pSl1 (propS cs) me)) :=
  ⟨fun pins s σ H Q I q => attr_of hab (thn (he.run pins s σ H _ I (sl1_t q)) fun v s1 ⟨x, H1, I1, rx, g, G, S, d, m, r1, q1⟩ => getP_ok C gu I1 rx m r1 q1)⟩
/-! ### self.f = e -/
def putFD (f : Str) (d : D) : List Str → List D → List Str × List D
  | n :: ns, e :: ds => if n = f then (n :: ns, d :: ds) else (n :: (putFD f d ns ds).1, e :: (putFD f d ns ds).2)
  | _, _ => ([f], [d])
def fst2 (fl : List (Str × Str)) (f : Str) (n : Nat) (d : D) (g : Sg) : Rs Fl := match g[n]? with
  | some (some (.obj true c ns ds)) => if fl.contains (c, f) = true ∧ ns.length < 900 then .ok .nx (g.set n (some (.obj true c (putFD f (sealD d) ns ds).1 (putFD f (sealD d) ns ds).2))) else .bad
  | _ => .bad
def pFst (fl : List (Str × Str)) (f : Str) (n : Nat) (m : PX) : PF := fun g => (m g).bind (fst2 fl f n)
theorem putF_rep {f : Str} {d : D} {v : V} (h : Rep K G d v) : ∀ {ns : List Str} {ds : List D} {vs : List V}, ns.length = vs.length → RepL K G ds vs →
    ∃ us, putF f v (ns.zip vs) = (putFD f d ns ds).1.zip us ∧ (putFD f d ns ds).1.length = us.length ∧ RepL K G (putFD f d ns ds).2 us
  | [], ds, [], hl, r => by
    cases ds with
    | nil => exact ⟨[v], rfl, rfl, RepL.one h⟩
    | cons e ds => obtain ⟨w, r', z, _⟩ := r; cases z
  | n :: ns, ds, [], hl, r => by simp at hl
  | [], ds, v :: vs, hl, r => by simp at hl
  | n :: ns, [], w :: vs, hl, r => by cases (show w :: vs = [] from r)
  | n :: ns, e :: ds, w :: vs, hl, r => by
    obtain ⟨w', r', z, h1, h2⟩ := r
    cases z
    by_cases hn : n = f
    · refine ⟨v :: vs, ?_, ?_, ?_⟩
      · unfold putFD; rw [if_pos hn, List.zip_cons_cons]; unfold putF; rw [if_pos hn] <;> rfl
      · unfold putFD; rw [if_pos hn]; simpa using hl
      · unfold putFD; rw [if_pos hn]; exact ⟨v, vs, rfl, h, h2⟩
    · obtain ⟨us, e1, e2, e3⟩ := putF_rep (f := f) h (by simpa using hl) h2
      refine ⟨w :: us, ?_, ?_, ?_⟩
      · unfold putFD; rw [if_neg hn, List.zip_cons_cons]; unfold putF; rw [if_neg hn, e1] <;> rfl
      · unfold putFD; rw [if_neg hn]; simpa using e2
      · unfold putFD; rw [if_neg hn]; exact ⟨w, us, rfl, h1, e3⟩
theorem ps_Fst {fl : List (Str × Str)} {f x : Str} {n : Nat} {fx : List Nat} {p pos' : Pos} {e : Expr} {me : PX} (T : FldOk X.K fl) (ho : PE X (.Name x p) (tVar n)) (he : PE X e (tP X.K M W me)) (hs : swapsWith e (some (.Attribute (.Name x p) f pos')) pos.line X.env = pure false) :
    PS X (.Assign [.Attribute (.Name x p) f pos'] e pos) (tF X.K M fx W (pFst fl f n me)) := by
  refine PS.imp (ps_fld ho he hs) fun N σ H q => ?_
  obtain ⟨g, G, S, m, q⟩ := q
  refine ⟨g, G, S, m, EndE.imp (EndF.bindE q) fun v H1 ⟨d, g1, G1, S1, T1, er, got, st, q⟩ => ?_⟩
  obtain ⟨G2, m2, r2, sb, hg, hv⟩ := got.seal
  have st2 := st.sealed sb hg hv
  unfold fst2 at q
  split at q
  · rename_i c ns ds et
    split at q
    · rename_i hc
      obtain ⟨a, ev, ga, hs', oa⟩ := m2.at et noRep_o
      obtain ⟨_, pl, dx, vs, ha', hl, hr⟩ := id oa
      obtain ⟨t1, t2⟩ := T _ (List.contains_iff_mem.mp hc.1)
      obtain ⟨us, u1, u2, u3⟩ := putF_rep (f := f) r2 hl hr
      obtain ⟨m4, st4⟩ := m2.upd (o := .ins (He.ga X.K c) dx (putF f v (ns.zip vs))) (d' := .obj true c (putFD f (sealD d) ns ds).1 (putFD f (sealD d) ns ds).2) et ev ga hs' ⟨rfl, pl, dx, us, by rw [upd_same, u1], u2, u3⟩
      refine ⟨.ref a, ev, a, _, dx, _, rfl, ha', t1, t2, ?_, (show EndN X.K M fx σ H G S _ N.nx from q) σ _ G2 S1 Fx.refl m4 (st2.trans st4)⟩
      rw [List.length_zip, ← hl, Nat.min_self]
      omega
    · exact (show False from q).elim
  · exact (show False from q).elim
end
end PI

set_option Elab.async false
set_option linter.all false
set_option maxRecDepth 100000
set_option maxHeartbeats 1000000
namespace PI
open PySem PySem.Spec PyProof.Rows L2
open PySem.W (Frag InstAt findIn isFn selfFirst subIn Looks)
/-! ### built-ins -/
def intsD : List D → Option (List Int)
  | [] => some []
  | .int i :: ds => (intsD ds).map (i :: ·)
  | _ => none
def blsD : List D → Option (List Bool)
  | [] => some []
  | .bl i :: ds => (blsD ds).map (i :: ·)
  | _ => none
def strsD : List D → Option (List Str)
  | [] => some []
  | .str i :: ds => (strsD ds).map (i :: ·)
  | _ => none
def lenD : List D → Option D
  | [.str z] => if z.length ≤ lim then some (.int z.length) else none
  | [.lst _ xs] => some (.int xs.length)
  | [.tup xs] => some (.int xs.length)
  | _ => none
def absD : List D → Option D
  | [.int i] => some (.int (if i < 0 then -i else i))
  | _ => none
def intD : List D → Option D
  | [.int i] => some (.int i)
  | [.bl b] => some (.int (if b then 1 else 0))
  | _ => none
def maxL : List Int → Option Int
  | [] => none
  | i :: is => some (is.foldl (fun a b => if b > a then b else a) i)
def minL : List Int → Option Int
  | [] => none
  | i :: is => some (is.foldl (fun a b => if b < a then b else a) i)
def maxD : List D → Option D
  | [.int i, .int j] => some (.int (if j > i then j else i))
  | [.lst _ xs] => ((intsD xs).bind maxL).map .int
  | _ => none
def minD : List D → Option D
  | [.int i, .int j] => some (.int (if j < i then j else i))
  | [.lst _ xs] => ((intsD xs).bind minL).map .int
  | _ => none
def sumD : List D → Option D
  | [.lst _ xs] => (intsD xs).map fun ns => .int ns.sum
  | _ => none
def allD : List D → Option D
  | [.lst _ xs] => (blsD xs).map fun bs => .bl (bs.all id)
  | _ => none
def anyD : List D → Option D
  | [.lst _ xs] => (blsD xs).map fun bs => .bl (bs.any id)
  | _ => none
def insS (x : Str) : List Str → List Str
  | [] => [x]
  | y :: ys => if ltS y x then y :: insS x ys else x :: y :: ys
def insI (x : Int) : List Int → List Int
  | [] => [x]
  | y :: ys => if y < x then y :: insI x ys else x :: y :: ys
def listD : List D → Option D
  | [.lst _ xs] => some (.lst true xs)
  | [.tup xs] => some (.lst true xs)
  | _ => none
def tupD : List D → Option D
  | [.lst _ xs] => some (.tup xs)
  | [.tup xs] => some (.tup xs)
  | _ => none
def reprP (p : PyData) : Option Str := if p.showable = true ∧ p.hasDict = false ∧ p.depth ≤ 40 ∧ p.shown.length ≤ lim then some p.shown else none
def reprD : List D → Option D
  | [d] => ((pyOf d).bind reprP).map .str
  | _ => none
section
variable {K : Frag} {M : Memo} {W : WX} {X : Cx} {σ : L2.St} {H H0 G G0 H1 G1 : Hp} {S S0 S1 : Nat → Addr → Prop} {g g1 : Sg} {Q : VK} {pos p2 : Pos}
theorem ints_rep : ∀ {ds : List D} {vs : List V} {ns : List Int}, RepL K G ds vs → intsD ds = some ns → vs = ns.map V.int
  | [], vs, ns, r, e => by cases (show vs = [] from r); cases e; rfl
  | d :: ds, vs, ns, r, e => by
    obtain ⟨v, r, rfl, h1, h2⟩ := r
    cases d <;> first | (cases e; done) | skip
    rename_i i
    have e : (intsD ds).map (i :: ·) = some ns := e
    cases q : intsD ds with
    | none => rw [q] at e; cases e
    | some ms => rw [q] at e; cases e; cases (show v = .int i from h1); rw [ints_rep h2 q] <;> rfl
theorem bls_rep : ∀ {ds : List D} {vs : List V} {ns : List Bool}, RepL K G ds vs → blsD ds = some ns → vs = ns.map V.bl
  | [], vs, ns, r, e => by cases (show vs = [] from r); cases e; rfl
  | d :: ds, vs, ns, r, e => by
    obtain ⟨v, r, rfl, h1, h2⟩ := r
    cases d <;> first | (cases e; done) | skip
    rename_i i
    have e : (blsD ds).map (i :: ·) = some ns := e
    cases q : blsD ds with
    | none => rw [q] at e; cases e
    | some ms => rw [q] at e; cases e; cases (show v = .bl i from h1); rw [bls_rep h2 q] <;> rfl
theorem strs_rep : ∀ {ds : List D} {vs : List V} {ns : List Str}, RepL K G ds vs → strsD ds = some ns → vs = ns.map V.str
  | [], vs, ns, r, e => by cases (show vs = [] from r); cases e; rfl
  | d :: ds, vs, ns, r, e => by
    obtain ⟨v, r, rfl, h1, h2⟩ := r
    cases d <;> first | (cases e; done) | skip
    rename_i i
    have e : (strsD ds).map (i :: ·) = some ns := e
    cases q : strsD ds with
    | none => rw [q] at e; cases e
    | some ms => rw [q] at e; cases e; cases (show v = .str i from h1); rw [strs_rep h2 q] <;> rfl
theorem rep_ints : ∀ (ns : List Int), RepL K G (ns.map D.int) (ns.map V.int)
  | [] => rfl
  | n :: ns => ⟨_, _, rfl, rfl, rep_ints ns⟩
theorem rep_strs : ∀ (ns : List Str), RepL K G (ns.map D.str) (ns.map V.str)
  | [] => rfl
  | n :: ns => ⟨_, _, rfl, rfl, rep_strs ns⟩
theorem max_of {ns : List Int} {m k : Int} (e : maxL ns = some k) (h1 : m ∈ ns) (h2 : ∀ y ∈ ns, y ≤ m) : m = k := by
  cases ns with
  | nil => cases e
  | cons i is =>
    cases e
    have key : ∀ (l : List Int) (a : Int), (a ≤ l.foldl (fun a b => if b > a then b else a) a ∧ (∀ y ∈ l, y ≤ l.foldl (fun a b => if b > a then b else a) a)) ∧ (l.foldl (fun a b => if b > a then b else a) a = a ∨ l.foldl (fun a b => if b > a then b else a) a ∈ l) := by
      intro l
      induction l with
      | nil => intro a; exact ⟨⟨Int.le_refl _, fun y z => by cases z⟩, .inl rfl⟩
      | cons b l ih =>
        intro a
        rw [List.foldl_cons]
        obtain ⟨⟨h1, h2⟩, h3⟩ := ih (if b > a then b else a)
        have e1 : a ≤ (if b > a then b else a) := by split <;> omega
        have e2 : b ≤ (if b > a then b else a) := by split <;> omega
        refine ⟨⟨Int.le_trans e1 h1, fun y hy => ?_⟩, ?_⟩
        · rcases List.mem_cons.mp hy with z | z
          · rw [z]; exact Int.le_trans e2 h1
          · exact h2 y z
        · rcases h3 with z | z
          · rw [z]; split
            · exact .inr (List.mem_cons_self ..)
            · exact .inl rfl
          · exact .inr (List.mem_cons_of_mem _ z)
    obtain ⟨⟨k1, k2⟩, k3⟩ := key is i
    have a1 : is.foldl (fun a b => if b > a then b else a) i ≤ m := by
      rcases k3 with z | z
      · rw [z]; exact h2 i (List.mem_cons_self ..)
      · exact h2 _ (List.mem_cons_of_mem _ z)
    have a2 : m ≤ is.foldl (fun a b => if b > a then b else a) i := by
      rcases List.mem_cons.mp h1 with z | z
      · rw [z]; exact k1
      · exact k2 m z
    omega
theorem min_of {ns : List Int} {m k : Int} (e : minL ns = some k) (h1 : m ∈ ns) (h2 : ∀ y ∈ ns, m ≤ y) : m = k := by
  cases ns with
  | nil => cases e
  | cons i is =>
    cases e
    have key : ∀ (l : List Int) (a : Int), (l.foldl (fun a b => if b < a then b else a) a ≤ a ∧ (∀ y ∈ l, l.foldl (fun a b => if b < a then b else a) a ≤ y)) ∧ (l.foldl (fun a b => if b < a then b else a) a = a ∨ l.foldl (fun a b => if b < a then b else a) a ∈ l) := by
      intro l
      induction l with
      | nil => intro a; exact ⟨⟨Int.le_refl _, fun y z => by cases z⟩, .inl rfl⟩
      | cons b l ih =>
        intro a
        rw [List.foldl_cons]
        obtain ⟨⟨h1, h2⟩, h3⟩ := ih (if b < a then b else a)
        have e1 : (if b < a then b else a) ≤ a := by split <;> omega
        have e2 : (if b < a then b else a) ≤ b := by split <;> omega
        refine ⟨⟨Int.le_trans h1 e1, fun y hy => ?_⟩, ?_⟩
        · rcases List.mem_cons.mp hy with z | z
          · rw [z]; exact Int.le_trans h1 e2
          · exact h2 y z
        · rcases h3 with z | z
          · rw [z]; split
            · exact .inr (List.mem_cons_self ..)
            · exact .inl rfl
          · exact .inr (List.mem_cons_of_mem _ z)
    obtain ⟨⟨k1, k2⟩, k3⟩ := key is i
    have a1 : m ≤ is.foldl (fun a b => if b < a then b else a) i := by
      rcases k3 with z | z
      · rw [z]; exact h2 i (List.mem_cons_self ..)
      · exact h2 _ (List.mem_cons_of_mem _ z)
    have a2 : is.foldl (fun a b => if b < a then b else a) i ≤ m := by
      rcases List.mem_cons.mp h1 with z | z
      · rw [z]; exact k1
      · exact k2 m z
    omega
theorem seen1 {ds : List D} {d : D} {vs : List V} (h : SeenL K M G H [d] vs) : ∃ v, vs = [v] ∧ Seen K M G H d v := by
  obtain ⟨v, r, rfl, h1, h2⟩ := h
  cases (show r = [] from h2)
  exact ⟨v, rfl, h1⟩
theorem seen2 {d e : D} {vs : List V} (h : SeenL K M G H [d, e] vs) : ∃ v u, vs = [v, u] ∧ Seen K M G H d v ∧ Seen K M G H e u := by
  obtain ⟨v, r, rfl, h1, h2⟩ := h
  obtain ⟨u, r2, rfl, h3, h4⟩ := h2
  cases (show r2 = [] from h4)
  exact ⟨v, u, rfl, h1, h3⟩
theorem c_len : CallS X (.builtin "len") (rFN X.K M W fun ds g => ro (lenD ds) g) := by
  rintro pins s σ H xs us Q I r ⟨g, G, S, ds, m, sd, q⟩
  dsimp only at q
  unfold lenD at q
  split at q
  · rename_i z
    obtain ⟨v, rfl, h1⟩ := seen1 (ds := []) sd
    cases h1.str
    split at q
    · rename_i hl
      exact call_len pins s σ H _ us Q I r ⟨_, _, rfl, ⟨lim_ok hl, rfl⟩, fin_sc q m rfl⟩
    · exact (show False from q).elim
  · rename_i b xs
    obtain ⟨v, rfl, h1⟩ := seen1 (ds := []) sd
    obtain ⟨a, vs, rfl, h2, h3⟩ := h1.lst m.sub
    rw [h3.len] at q
    exact call_len pins s σ H _ us Q I r ⟨_, _, rfl, .inl ⟨vs, h2, rfl⟩, fin_sc q m rfl⟩
  · rename_i xs
    obtain ⟨v, rfl, h1⟩ := seen1 (ds := []) sd
    obtain ⟨a, vs, rfl, h2, h3⟩ := h1.tup m.sub
    rw [h3.len] at q
    exact call_len pins s σ H _ us Q I r ⟨_, _, rfl, .inr ⟨vs, h2, rfl⟩, fin_sc q m rfl⟩
  · exact (show False from q).elim
theorem c_abs : CallS X (.builtin "abs") (rFN X.K M W fun ds g => ro (absD ds) g) := by
  rintro pins s σ H xs us Q I r ⟨g, G, S, ds, m, sd, q⟩
  dsimp only at q
  unfold absD at q
  split at q
  · rename_i i
    obtain ⟨v, rfl, h1⟩ := seen1 (ds := []) sd
    cases h1.int
    exact call_abs pins s σ H _ us Q I r ⟨i, rfl, fin_sc q m rfl⟩
  · exact (show False from q).elim
theorem c_int : CallS X (.type "int") (rFN X.K M W fun ds g => ro (intD ds) g) := by
  rintro pins s σ H xs us Q I r ⟨g, G, S, ds, m, sd, q⟩
  dsimp only at q
  unfold intD at q
  split at q
  · rename_i i
    obtain ⟨v, rfl, h1⟩ := seen1 (ds := []) sd
    cases h1.int
    exact call_int1 pins s σ H _ us Q I r (.inl ⟨i, rfl, fin_sc q m rfl⟩)
  · rename_i b
    obtain ⟨v, rfl, h1⟩ := seen1 (ds := []) sd
    cases h1.bl
    exact call_int1 pins s σ H _ us Q I r (.inr ⟨b, rfl, fin_sc q m rfl⟩)
  · exact (show False from q).elim
theorem c_max (hc : X.calm = true) : CallS X (.builtin "max") (rFN X.K M W fun ds g => ro (maxD ds) g) := by
  rintro pins s σ H xs us Q I r ⟨g, G, S, ds, m, sd, q⟩
  dsimp only at q
  unfold maxD at q
  split at q
  · rename_i i j
    obtain ⟨v, u, rfl, h1, h2⟩ := seen2 sd
    cases h1.int; cases h2.int
    exact call_max2 hc pins s σ H _ us Q I r ⟨i, j, rfl, fin_sc q m rfl⟩
  · rename_i b xs
    obtain ⟨v, rfl, h1⟩ := seen1 (ds := []) sd
    obtain ⟨a, vs, rfl, h2, h3⟩ := h1.lst m.sub
    cases e : intsD xs with
    | none => rw [e] at q; exact (show False from q).elim
    | some ns =>
      rw [e, Option.bind_some] at q
      cases e2 : maxL ns with
      | none => rw [e2] at q; exact (show False from q).elim
      | some k =>
        rw [e2] at q
        cases ints_rep h3 e
        refine cr_max hc pins s σ H _ us Q I r ⟨a, ns, rfl, h2, ?_, fun mm z1 z2 => ?_⟩
        · cases ns with
          | nil => cases e2
          | cons n ns => exact Nat.succ_pos _
        · rw [max_of e2 z1 z2]
          exact fin_sc q m rfl
  · exact (show False from q).elim
theorem c_min (hc : X.calm = true) : CallS X (.builtin "min") (rFN X.K M W fun ds g => ro (minD ds) g) := by
  rintro pins s σ H xs us Q I r ⟨g, G, S, ds, m, sd, q⟩
  dsimp only at q
  unfold minD at q
  split at q
  · rename_i i j
    obtain ⟨v, u, rfl, h1, h2⟩ := seen2 sd
    cases h1.int; cases h2.int
    exact call_min2 hc pins s σ H _ us Q I r ⟨i, j, rfl, fin_sc q m rfl⟩
  · rename_i b xs
    obtain ⟨v, rfl, h1⟩ := seen1 (ds := []) sd
    obtain ⟨a, vs, rfl, h2, h3⟩ := h1.lst m.sub
    cases e : intsD xs with
    | none => rw [e] at q; exact (show False from q).elim
    | some ns =>
      rw [e, Option.bind_some] at q
      cases e2 : minL ns with
      | none => rw [e2] at q; exact (show False from q).elim
      | some k =>
        rw [e2] at q
        cases ints_rep h3 e
        refine cr_min hc pins s σ H _ us Q I r ⟨a, ns, rfl, h2, ?_, fun mm z1 z2 => ?_⟩
        · cases ns with
          | nil => cases e2
          | cons n ns => exact Nat.succ_pos _
        · rw [min_of e2 z1 z2]
          exact fin_sc q m rfl
  · exact (show False from q).elim
theorem c_sum (hc : X.calm = true) : CallS X (.builtin "sum") (rFN X.K M W fun ds g => ro (sumD ds) g) := by
  rintro pins s σ H xs us Q I r ⟨g, G, S, ds, m, sd, q⟩
  dsimp only at q
  unfold sumD at q
  split at q
  · rename_i b xs
    obtain ⟨v, rfl, h1⟩ := seen1 (ds := []) sd
    obtain ⟨a, vs, rfl, h2, h3⟩ := h1.lst m.sub
    cases e : intsD xs with
    | none => rw [e] at q; exact (show False from q).elim
    | some ns =>
      rw [e] at q
      cases ints_rep h3 e
      exact cr_sum hc pins s σ H _ us Q I r ⟨a, ns, rfl, h2, fin_sc q m rfl⟩
  · exact (show False from q).elim
theorem c_all (hc : X.calm = true) : CallS X (.builtin "all") (rFN X.K M W fun ds g => ro (allD ds) g) := by
  rintro pins s σ H xs us Q I r ⟨g, G, S, ds, m, sd, q⟩
  dsimp only at q
  unfold allD at q
  split at q
  · rename_i b xs
    obtain ⟨v, rfl, h1⟩ := seen1 (ds := []) sd
    obtain ⟨a, vs, rfl, h2, h3⟩ := h1.lst m.sub
    cases e : blsD xs with
    | none => rw [e] at q; exact (show False from q).elim
    | some ns =>
      rw [e] at q
      cases bls_rep h3 e
      exact cr_all hc pins s σ H _ us Q I r ⟨a, ns, rfl, h2, fin_sc q m rfl⟩
  · exact (show False from q).elim
theorem c_any (hc : X.calm = true) : CallS X (.builtin "any") (rFN X.K M W fun ds g => ro (anyD ds) g) := by
  rintro pins s σ H xs us Q I r ⟨g, G, S, ds, m, sd, q⟩
  dsimp only at q
  unfold anyD at q
  split at q
  · rename_i b xs
    obtain ⟨v, rfl, h1⟩ := seen1 (ds := []) sd
    obtain ⟨a, vs, rfl, h2, h3⟩ := h1.lst m.sub
    cases e : blsD xs with
    | none => rw [e] at q; exact (show False from q).elim
    | some ns =>
      rw [e] at q
      cases bls_rep h3 e
      exact cr_any hc pins s σ H _ us Q I r ⟨a, ns, rfl, h2, fin_sc q m rfl⟩
  · exact (show False from q).elim
theorem c_list : CallS X (.type "list") (rFN X.K M W fun ds g => ro (listD ds) g) := by
  rintro pins s σ H xs us Q I r ⟨g, G, S, ds, m, sd, q⟩
  dsimp only at q
  unfold listD at q
  split at q
  · rename_i b xs
    obtain ⟨v, rfl, h1⟩ := seen1 (ds := []) sd
    obtain ⟨a, vs, rfl, h2, h3⟩ := h1.lst m.sub
    exact call_list_of pins s σ H _ us Q I r ⟨a, vs, rfl, .inl h2, fun p hp => fin_lst q m h3 p hp⟩
  · rename_i xs
    obtain ⟨v, rfl, h1⟩ := seen1 (ds := []) sd
    obtain ⟨a, vs, rfl, h2, h3⟩ := h1.tup m.sub
    exact call_list_of pins s σ H _ us Q I r ⟨a, vs, rfl, .inr h2, fun p hp => fin_lst q m h3 p hp⟩
  · exact (show False from q).elim
theorem c_tup : CallS X (.type "tuple") (rFN X.K M W fun ds g => ro (tupD ds) g) := by
  rintro pins s σ H xs us Q I r ⟨g, G, S, ds, m, sd, q⟩
  dsimp only at q
  unfold tupD at q
  split at q
  · rename_i b xs
    obtain ⟨v, rfl, h1⟩ := seen1 (ds := []) sd
    obtain ⟨a, vs, rfl, h2, h3⟩ := h1.lst m.sub
    exact call_tuple_of pins s σ H _ us Q I r ⟨a, vs, rfl, .inl ⟨h2, fun p hp => fin_tup q m h3 p hp⟩⟩
  · rename_i xs
    obtain ⟨v, rfl, h1⟩ := seen1 (ds := []) sd
    have rt := h1.tupR
    obtain ⟨a, vs, rfl, h2, h3⟩ := h1.tup m.sub
    exact call_tuple_of pins s σ H _ us Q I r ⟨a, vs, rfl, .inr ⟨h2, fin_sc q m rt⟩⟩
  · exact (show False from q).elim
end
end PI

set_option Elab.async false
set_option linter.all false
set_option maxRecDepth 100000
set_option maxHeartbeats 1000000
namespace PI
open PySem PySem.Spec PyProof.Rows L2
open PySem.W (Frag InstAt findIn isFn selfFirst subIn Looks)
/-! ### repr, sorted, isinstance -/
def reprA : List D → Option D
  | [.int i] => if i.natAbs.log2 < 1920 then some (.str (toString i)) else none
  | [.lst b xs] => ((pyOf (.lst b xs)).bind reprP).map .str
  | [.tup xs] => ((pyOf (.tup xs)).bind reprP).map .str
  | _ => none
section
variable {K : Frag} {M : Memo} {W : WX} {X : Cx} {σ : L2.St} {H H0 G G0 H1 G1 : Hp} {S S0 S1 : Nat → Addr → Prop} {g g1 : Sg} {Q : VK} {pos p2 : Pos} {pins : List (Addr × Obj)} {s : Shared}
theorem repr_ref {d : D} {p : PyData} {x : Str} {a : Addr} {u : Value} (hu : X.A.units + 64 < cLine) (gu : X.A.guards = some []) (I : Inv X pins σ H s) (m : Mt X.K M g σ H G S) (sd : Seen X.K M G H d (.ref a)) (rx : RelV (.ref a) u) (e : pyOf d = some p) (e2 : reprP p = some x) (q : EndE X.K M W σ H G S (.ok (.str x) g) Q) :
    wpAny (model X.prog X.w) X.A (call (.builtin "repr") [u]) (EP X pins σ Q) X.xe s := by
  cases rx
  unfold reprP at e2
  split at e2
  · rename_i hc
    obtain ⟨h1, h2, h3, h4⟩ := hc
    cases e2
    obtain ⟨as, r⟩ := Dp.reads I p (.ref a) (.ref a) (sd.dp m.sub e) rfl
    exact repr_of_reads' r h1 (fun z => by rw [h2] at z; cases z) gu (by omega) (fun _ _ z => z) (fun h' u tk hk => ⟨.str _, H, I.kept hk, ⟨u, rfl⟩, fin_sc q m rfl⟩) (lim_ok h4)
  · cases e2
theorem c_repr (hu : X.A.units + 64 < cLine) (gu : X.A.guards = some []) : CallS X (.builtin "repr") (rFN X.K M W fun ds g => ro (reprA ds) g) := by
  rintro pins s σ H xs us Q I r ⟨g, G, S, ds, m, sd, q⟩
  dsimp only at q
  unfold reprA at q
  split at q
  · rename_i i
    obtain ⟨v, rfl, h1⟩ := seen1 (ds := []) sd
    cases h1.int
    split at q
    · rename_i hl
      exact SkE.call_repr_int pins s σ H _ us Q I r ⟨i, rfl, hl, fin_sc q m rfl⟩
    · exact (show False from q).elim
  · rename_i b xs
    obtain ⟨v, rfl, h1⟩ := seen1 (ds := []) sd
    obtain ⟨a, vs, rfl, h2, h3⟩ := id (h1.lst m.sub)
    cases e : pyOf (.lst b xs) with
    | none => rw [e] at q; exact (show False from q).elim
    | some p =>
      rw [e, Option.bind_some] at q
      cases e2 : reprP p with
      | none => rw [e2] at q; exact (show False from q).elim
      | some x =>
        rw [e2] at q
        cases r with
        | cons r rr =>
          cases rr
          exact repr_ref hu gu I m h1 r e e2 q
  · rename_i xs
    obtain ⟨v, rfl, h1⟩ := seen1 (ds := []) sd
    obtain ⟨a, vs, rfl, h2, h3⟩ := id (h1.tup m.sub)
    cases e : pyOf (.tup xs) with
    | none => rw [e] at q; exact (show False from q).elim
    | some p =>
      rw [e, Option.bind_some] at q
      cases e2 : reprP p with
      | none => rw [e2] at q; exact (show False from q).elim
      | some x =>
        rw [e2] at q
        cases r with
        | cons r rr =>
          cases rr
          exact repr_ref hu gu I m h1 r e e2 q
  · exact (show False from q).elim
end
/-! sorted -/
def sortI (ns : List Int) : List Int := ns.foldr insI []
def leS (x y : Str) : Bool := !ltS y x
theorem insI_perm (x : Int) : ∀ ys, (insI x ys).Perm (x :: ys)
  | [] => List.Perm.refl _
  | y :: ys => by
    unfold insI
    split
    · exact ((insI_perm x ys).cons y).trans (List.Perm.swap x y ys)
    · exact List.Perm.refl _
theorem sortI_perm : ∀ ns : List Int, (sortI ns).Perm ns
  | [] => List.Perm.refl _
  | n :: ns => (insI_perm n (sortI ns)).trans ((sortI_perm ns).cons n)
theorem insI_rise (x : Int) : ∀ ys : List Int, ys.Pairwise (· ≤ ·) → (insI x ys).Pairwise (· ≤ ·)
  | [], _ => List.pairwise_singleton _ _
  | y :: ys, h => by
    obtain ⟨h1, h2⟩ := List.pairwise_cons.mp h
    unfold insI
    split
    · rename_i c
      refine List.pairwise_cons.mpr ⟨fun z hz => ?_, insI_rise x ys h2⟩
      rcases List.mem_cons.mp ((insI_perm x ys).mem_iff.mp hz) with e | e
      · omega
      · exact h1 z e
    · rename_i c
      refine List.pairwise_cons.mpr ⟨fun z hz => ?_, h⟩
      rcases List.mem_cons.mp hz with e | e
      · omega
      · have := h1 z e; omega
theorem sortI_rise : ∀ ns : List Int, (sortI ns).Pairwise (· ≤ ·)
  | [] => List.Pairwise.nil
  | n :: ns => insI_rise n _ (sortI_rise ns)
theorem sortI_eq {ns ms : List Int} (p : ms.Perm ns) (h : ms.Pairwise (· ≤ ·)) : ms = sortI ns :=
  List.Perm.eq_of_pairwise (le := (· ≤ ·)) (fun _ _ _ _ a b => Int.le_antisymm a b) h (sortI_rise ns) (p.trans (sortI_perm ns).symm)
/-! texts -/
def sortS (xs : List Str) : List Str := xs.foldr insS []
theorem ltS_irr (x : Str) : ltS x x = false := decide_eq_false (List.lt_irrefl _)
theorem leS_trans {x y z : Str} (a : leS x y = true) (b : leS y z = true) : leS x z = true := by
  unfold leS ltS at *
  rw [Bool.not_eq_true', decide_eq_false_iff_not] at *
  rw [List.not_lt] at *
  exact List.le_trans a b
theorem leS_tot {x y : Str} (a : ltS x y = true) : leS x y = true := by
  unfold leS ltS at *
  rw [Bool.not_eq_true', decide_eq_false_iff_not]
  exact List.lt_asymm (of_decide_eq_true a)
theorem leS_anti {x y : Str} (a : leS x y = true) (b : leS y x = true) : x = y := by
  unfold leS ltS at *
  rw [Bool.not_eq_true', decide_eq_false_iff_not] at *
  rw [List.not_lt] at *
  have := List.le_antisymm a b
  obtain ⟨⟨x⟩⟩ := x
  obtain ⟨⟨y⟩⟩ := y
  cases this
  rfl
theorem insS_perm (x : Str) : ∀ ys, (insS x ys).Perm (x :: ys)
  | [] => List.Perm.refl _
  | y :: ys => by
    unfold insS
    split
    · exact ((insS_perm x ys).cons y).trans (List.Perm.swap x y ys)
    · exact List.Perm.refl _
theorem sortS_perm : ∀ ns : List Str, (sortS ns).Perm ns
  | [] => List.Perm.refl _
  | n :: ns => (insS_perm n (sortS ns)).trans ((sortS_perm ns).cons n)
theorem insS_rise (x : Str) : ∀ ys : List Str, ys.Pairwise (fun a b => leS a b = true) → (insS x ys).Pairwise (fun a b => leS a b = true)
  | [], _ => List.pairwise_singleton _ _
  | y :: ys, h => by
    obtain ⟨h1, h2⟩ := List.pairwise_cons.mp h
    unfold insS
    split
    · rename_i c
      refine List.pairwise_cons.mpr ⟨fun z hz => ?_, insS_rise x ys h2⟩
      rcases List.mem_cons.mp ((insS_perm x ys).mem_iff.mp hz) with e | e
      · rw [e]; exact leS_tot c
      · exact h1 z e
    · rename_i c
      have c : leS x y = true := by unfold leS; cases q : ltS y x with
        | true => exact (c q).elim
        | false => rfl
      refine List.pairwise_cons.mpr ⟨fun z hz => ?_, h⟩
      rcases List.mem_cons.mp hz with e | e
      · rw [e]; exact c
      · exact leS_trans c (h1 z e)
theorem sortS_rise : ∀ ns : List Str, (sortS ns).Pairwise (fun a b => leS a b = true)
  | [] => List.Pairwise.nil
  | n :: ns => insS_rise n _ (sortS_rise ns)
theorem sortS_eq {ns ms : List Str} (p : ms.Perm ns) (h : ms.Pairwise (fun a b => leS a b = true)) : ms = sortS ns :=
  List.Perm.eq_of_pairwise (le := fun a b => leS a b = true) (fun _ _ _ _ a b => leS_anti a b) h (sortS_rise ns) (p.trans (sortS_perm ns).symm)
theorem ltCps_eq : ∀ a b : List Nat, ltCps a b = decide (a < b)
  | [], [] => rfl
  | [], y :: b => rfl
  | x :: a, [] => rfl
  | x :: a, y :: b => by
    show (decide (x < y) || (x == y && ltCps a b)) = _
    rw [ltCps_eq a b, Bool.eq_iff_iff, decide_eq_true_eq, List.cons_lt_cons_iff]
    simp
theorem rise_of : ∀ (xs : List Str) (x : Str), risingS x xs = true → (x :: xs).Pairwise (fun a b => leS a b = true)
  | [], x, _ => List.pairwise_singleton _ _
  | y :: ys, x, h => by
    obtain ⟨h1, h2⟩ := Bool.and_eq_true_iff.mp (show (!ltCps y.cps.toList x.cps.toList && risingS y ys) = true from h)
    have h1 : leS x y = true := by
      unfold leS ltS
      rw [← ltCps_eq]
      exact h1
    have ih := rise_of ys y h2
    refine List.pairwise_cons.mpr ⟨fun z hz => ?_, ih⟩
    rcases List.mem_cons.mp hz with e | e
    · rw [e]; exact h1
    · exact leS_trans h1 ((List.pairwise_cons.mp ih).1 z e)
theorem sortedS_of {xs : List Str} (h : sortedS xs = true) : xs.Pairwise (fun a b => leS a b = true) := by
  cases xs with
  | nil => exact List.Pairwise.nil
  | cons x xs => exact rise_of xs x h
def sortD : List D → Option D
  | [.lst _ xs] => if xs.length < 64 then (match intsD xs with
    | some ns => some (.lst true ((sortI ns).map .int))
    | none => (strsD xs).map fun ns => .lst true ((sortS ns).map .str)) else none
  | _ => none
section
variable {K : Frag} {M : Memo} {W : WX} {X : Cx} {σ : L2.St} {H H0 G G0 H1 G1 : Hp} {S S0 S1 : Nat → Addr → Prop} {g g1 : Sg} {Q : VK} {pos p2 : Pos} {pins : List (Addr × Obj)} {s : Shared}
theorem c_sorted : CallS X (.builtin "sorted") (rFN X.K M W fun ds g => ro (sortD ds) g) := by
  rintro pins s σ H xs us Q I r ⟨g, G, S, ds, m, sd, q⟩
  dsimp only at q
  unfold sortD at q
  split at q
  · rename_i b xs
    obtain ⟨v, rfl, h1⟩ := seen1 (ds := []) sd
    obtain ⟨a, vs, rfl, h2, h3⟩ := h1.lst m.sub
    split at q
    · rename_i hl
      cases e : intsD xs with
      | some ns =>
        rw [e] at q
        have l := h3.len
        cases ints_rep h3 e
        rw [List.length_map] at l
        refine cr_sorted pins s σ H _ us Q I r ⟨a, ns, rfl, h2, by rw [← l]; exact hl, fun ms p z1 z2 hp => ?_⟩
        rw [sortI_eq z1 z2]
        exact fin_lst q m (rep_ints _) p hp
      | none =>
        rw [e] at q
        cases e2 : strsD xs with
        | none => rw [e2] at q; exact (show False from q).elim
        | some ns =>
          rw [e2] at q
          have l := h3.len
          cases strs_rep h3 e2
          rw [List.length_map] at l
          refine cr_sortedS pins s σ H _ us Q I r ⟨a, ns, rfl, h2, by rw [← l]; exact hl, fun ms p z1 z2 hp => ?_⟩
          rw [sortS_eq z1 (sortedS_of z2)]
          exact fin_lst q m (rep_strs _) p hp
    · exact (show False from q).elim
  · exact (show False from q).elim
/-! isinstance(e, C), C an own class -/
def isS (tab : List (Str × Bool)) : D → Option Bool
  | .obj _ c _ _ => tab.lookup c
  | .non | .bl _ | .int _ | .str _ | .lst _ _ | .tup _ | .dic .. => some false
structure IsOk (K : Frag) (tab : List (Str × Bool)) (C : Addr) : Prop where
  obj : ∀ c b, tab.lookup c = some b → Cls K (He.ga K c) ∧ findIn K (.ref (He.ga K c)) "__class__" = some (some (.builtin "object.__class__")) ∧ PySem.W.mroIn K (He.ga K c) (.type "object") = some true ∧ PySem.W.kitOne K (.ref (He.ga K c)) (.ref C) = some b
  sp : PySem.W.specialIn K (.builtin "object.__class__") "__get__" = some (some (.builtin "getset_descriptor.__get__"))
  tk : PySem.W.takesIn K (.builtin "object.__class__") = some true
  oth : ∀ T ∈ ["NoneType", "bool", "int", "str", "list", "tuple", "dict"], PySem.W.kitOne K (.type T) (.ref C) = some false
theorem sq_tyL {H : Hp} {a : Addr} {vs : List V} (h : SqL K H a vs) : TyX K H (.ref a) (.type "list") := by
  rcases h with (h | ⟨o, h⟩) | ⟨o, its, n, hk, hc, _⟩
  · exact .base (.lst h)
  · exact .base (.frz h)
  · exact .kList hk hc
theorem sq_tyT {H : Hp} {a : Addr} {vs : List V} (h : SqT K H a vs) : TyX K H (.ref a) (.type "tuple") := by
  rcases h with (h | ⟨o, h⟩) | ⟨o, its, n, hk, hc, _⟩
  · exact .base (.tup h)
  · exact .fTuple h
  · exact .kTuple hk hc
theorem is_ty {tab : List (Str × Bool)} {C : Addr} {d : D} {v : V} {b : Bool} (T : IsOk K tab C) (sd : Seen K M G H d v) (sb : Sub G H) (e : isS tab d = some b) : ∃ t, TyX K H v t ∧ PySem.W.kitOne K t (.ref C) = some b := by
  cases d with
  | non => cases e; cases sd.non; exact ⟨_, .base .non, T.oth _ (by decide)⟩
  | bl x => cases e; cases sd.bl; exact ⟨_, .base (.bl x), T.oth _ (by decide)⟩
  | int x => cases e; cases sd.int; exact ⟨_, .base (.int x), T.oth _ (by decide)⟩
  | str x => cases e; cases sd.str; exact ⟨_, .base (.str x), T.oth _ (by decide)⟩
  | lst m xs => cases e; obtain ⟨a, vs, rfl, h1, _⟩ := sd.lst sb; exact ⟨_, sq_tyL h1, T.oth _ (by decide)⟩
  | tup xs => cases e; obtain ⟨a, vs, rfl, h1, _⟩ := sd.tup sb; exact ⟨_, sq_tyT h1, T.oth _ (by decide)⟩
  | dic m ks ds => cases e; obtain ⟨a, vs, rfl, h1, _⟩ := sd.dic sb; exact ⟨_, .base (.dK h1), T.oth _ (by decide)⟩
  | obj m c ns ds =>
    obtain ⟨a, dx, vs, rfl, h1, _⟩ := sd.obj sb
    obtain ⟨t1, t2, t3, t4⟩ := T.obj c b e
    exact ⟨_, .base (.ins h1 t1 t2 T.sp T.tk t3), t4⟩
theorem pe_Isi {tab : List (Str × Bool)} {x c : Str} {C : Addr} {p p3 : Pos} {e : Expr} {oa : Op} (T : IsOk X.K tab C) (hg : Gl X "isinstance") (hm : X.mg "isinstance" = none) (hg2 : Gl X c) (hm2 : X.mg c = some (.ref C)) (he : PE X e (tO X.K M W oa)) (hs : noStar e = true) (hdb : (c == ("__debug__" : Str)) = false) :
    PE X (.Call (.Name "isinstance" p) [e, .Name c p3] [] pos) (tP X.K M W (pOp1 (fun d g => rb (isS tab d) g) oa)) := by
  refine ⟨fun pins s σ H Q I q => ?_⟩
  have hst : starEach [e, .Name c p3] X.env = (false, eval e X.env) :: starEach [.Name c p3] X.env := star_of hs
  refine wpAny_Call_Name_kw (ld_blt I hg hm PyProof.Rows.Boot.«isinstance» (PyProof.Rows.callWith_builtin1 (Q := EP X pins σ Q) ?_ hst rfl))
  rw [hst]
  refine Calls.spliced_cons (thn (he.run pins s σ H _ I (op1_t q)) fun v s1 ⟨y, H1, I1, r1, g, G, S, d, m, sd, q⟩ => ?_)
  refine Calls.spliced_cons (ld_glob I1 hg2 hm2 (Calls.spliced_nil ?_) hdb)
  dsimp only at q
  cases e2 : isS tab d with
  | none => rw [e2] at q; exact (show False from q).elim
  | some b =>
    rw [e2] at q
    obtain ⟨t, t1, t2⟩ := is_ty T sd m.sub e2
    exact call_isi pins s1 σ H1 [y, .ref C] [v, .ref C] Q I1 (.cons r1 (.cons rfl .nil)) ⟨y, .ref C, t, .ref C, b, rfl, .own C, t1, t2, fin_sc q m rfl⟩
end
end PI

set_option Elab.async false
set_option linter.all false
set_option maxRecDepth 100000
set_option maxHeartbeats 1000000
namespace PI
open PySem PySem.Spec PyProof.Rows L2
open PySem.W (Frag InstAt findIn isFn selfFirst subIn Looks)
/-! ### comprehensions -/
def wipeG (vs : List Nat) (g : Sg) : Sg := vs.foldl (fun g i => g.set i none) g
def freeG (vs : List Nat) (g : Sg) : Bool := vs.all fun i => match g[i]? with
  | some (some _) => false
  | _ => true
def pYes : PT' := fun g => .ok true g
def lcD (tg : Tg) (c : PT') (e : PX) (vs : List Nat) : List D → List D → Sg → Rs (List D)
  | [], acc, g => .ok acc g
  | d :: ds, acc, g => match asg tg d g with
    | none => .bad
    | some g1 => (match c g1 with
      | .ok true g2 => (match e g2 with
        | .ok y g3 => if acc.length < lim then lcD tg c e vs ds (acc ++ [sealD y]) (wipeG vs g3) else .bad
        | _ => .bad)
      | .ok false g2 => lcD tg c e vs ds acc (wipeG vs g2)
      | _ => .bad)
def pLc (it : PIt) (tg : Tg) (c : PT') (e : PX) (vs : List Nat) : PX := fun g => (it g).bind fun ds g1 => if freeG vs g1 = true then (lcD tg c e vs ds [] g1).bind fun acc g2 => .ok (.lst true acc) g2 else .bad
section
variable {K : Frag} {M : Memo} {W : WX} {X : Cx} {σ : L2.St} {H H0 G G0 H1 G1 : Hp} {S S0 S1 : Nat → Addr → Prop} {g g1 : Sg} {Q : VK} {pos p2 : Pos} {vs : List Nat}
theorem takes0 {X : Cx} : Takes X W0 := fun u s' ⟨_, _, _, _, _, _, _, _, _, _, _, _, _, _, _, _, w⟩ => w.elim
/-- an object that lies apart -/
def Ap (M : Memo) (G H : Hp) (S : Nat → Addr → Prop) (p : Addr) (o : HO) : Prop := H p = some o ∧ G p = none ∧ ¬ Vl M G S p
theorem Ap.stp {p : Addr} {o : HO} (a : Ap M G H S p o) (st : Stp M H G S H1 G1 S1) : Ap M G1 H1 S1 p o := by
  obtain ⟨h1, h2, h3⟩ := a
  refine ⟨st.fr p o h1 h3, ?_, st.apart h1 h3⟩
  cases q : G1 p with
  | none => rfl
  | some u =>
    rcases st.fg p u q with z | z | z
    · rw [h2] at z; cases z
    · rw [h1] at z; cases z
    · exact (h3 z).elim
/-- it is written -/
theorem Mt.put {p : Addr} {o o' : HO} (m : Mt K M g σ H G S) (a : Ap M G H S p o) : Mt K M g σ (L2.upd H p o') G S := by
  obtain ⟨h1, h2, h3⟩ := a
  have keep : ∀ b v, b ≠ p → H b = some v → L2.upd H p o' b = some v := fun b v hb q => by rw [upd_ne hb]; exact q
  refine ⟨m.len, fun i d e => ?_, m.nil, m.dis, fun b v q => keep b v (fun z => by rw [z, h2] at q; cases q) (m.sub b v q), ?_, m.vol⟩
  · obtain ⟨v, ev, ow⟩ := m.own i d e
    exact ⟨v, ev, ow.keep (Sub.refl _) (fun b v sb q => keep b v (fun z => h3 (.inl ⟨i, z ▸ sb⟩)) q) fun b sb => (ow.there sb).2⟩
  · exact M.keep G H _ _ m.mem (Sub.refl _) (fun x u e => .inl e) fun b v q hv => keep b v (fun z => h3 (.inr (z ▸ hv))) q
theorem Stp.put {p : Addr} {o' : HO} (st : Stp M H0 G0 S0 H G S) (hp : H0 p = none) : Stp M H0 G0 S0 (L2.upd H p o') G S := by
  have keep : ∀ b v, b ≠ p → H b = some v → L2.upd H p o' b = some v := fun b v hb q => by rw [upd_ne hb]; exact q
  refine ⟨st.gr, fun b v q z => keep b v (fun e => by rw [e, hp] at q; cases q) (st.fr b v q z), fun b v q => ?_, st.vl, st.fg⟩
  obtain ⟨v', q'⟩ := st.th b v q
  exact ⟨v', keep b v' (fun e => by rw [e, hp] at q; cases q) q'⟩
theorem wipe_at {σ : L2.St} {i : Nat} : ∀ {vs : List Nat}, i ∉ vs → (wipe σ vs)[i]? = σ[i]?
  | [], _ => rfl
  | v :: vs, h => by
    rw [List.mem_cons, not_or] at h
    show ((wipe σ vs).set v none)[i]? = _
    rw [List.getElem?_set_ne (Ne.symm h.1), wipe_at h.2]
theorem free_at {i : Nat} (h : freeG vs g = true) (hi : i ∈ vs) : ∀ d, g[i]? ≠ some (some d) := fun d e => by
  have := List.all_eq_true.mp h i hi
  rw [e] at this
  cases this
theorem Mt.wipe (m : Mt K M g σ H G S) (h : freeG vs g = true) : Mt K M g (wipe σ vs) H G S := by
  refine ⟨by rw [wipe_length]; exact m.len, fun i d e => ?_, m.nil, m.dis, m.sub, m.mem, m.vol⟩
  obtain ⟨v, ev, ow⟩ := m.own i d e
  exact ⟨v, by rw [wipe_at fun z => free_at h z d e]; exact ev, ow⟩
theorem Mt.unwipe (m : Mt K M g (L2.wipe σ vs) H G S) (h : freeG vs g = true) : Mt K M g σ H G S := by
  refine ⟨by rw [← wipe_length σ vs]; exact m.len, fun i d e => ?_, m.nil, m.dis, m.sub, m.mem, m.vol⟩
  obtain ⟨v, ev, ow⟩ := m.own i d e
  exact ⟨v, by rw [← wipe_at (vs := vs) fun z => free_at h z d e]; exact ev, ow⟩
/-- slots given up; what stood in them no longer matters -/
theorem Mt.shed1 {i : Nat} {x : Option V} (m : Mt K M g σ H G S) : ∃ S', Mt K M (g.set i none) (σ.set i x) H G S' ∧ ∀ a, Vl M G S' a → Vl M G S a := by
  refine ⟨fun j a => j ≠ i ∧ S j a, ⟨by rw [List.length_set, List.length_set]; exact m.len, fun j e' h => ?_, fun j q a z => ?_, fun j k a z z' => m.dis j k a z.2 z'.2, m.sub, m.mem, fun j a z => m.vol j a z.2⟩, fun a z => ?_⟩
  · by_cases hj : j = i
    · subst hj
      by_cases hl : j < g.length
      · rw [List.getElem?_set_self hl] at h; cases h
      · rw [List.getElem?_eq_none (by rw [List.length_set]; omega)] at h; cases h
    · rw [List.getElem?_set_ne (Ne.symm hj)] at h
      obtain ⟨w, e1, o⟩ := m.own j e' h
      have q2 : (fun b => j ≠ i ∧ S j b) = S j := funext fun b => propext ⟨fun z => z.2, fun z => ⟨hj, z⟩⟩
      exact ⟨w, by rw [List.getElem?_set_ne (Ne.symm hj)]; exact e1, by rw [q2]; exact o⟩
  · rw [List.getElem?_set_ne (Ne.symm z.1)] at q
    exact m.nil j q a z.2
  · rcases z with ⟨j, hj, z⟩ | z
    · exact .inl ⟨j, z⟩
    · exact .inr z
theorem wipeG_len : ∀ (vs : List Nat) (g : Sg), (wipeG vs g).length = g.length
  | [], g => rfl
  | v :: vs, g => by
    show (wipeG vs (g.set v none)).length = _
    rw [wipeG_len, List.length_set]
theorem wipeG_none : ∀ (vs : List Nat) (g : Sg) (i : Nat), (∀ d, g[i]? ≠ some (some d)) → ∀ d, (wipeG vs g)[i]? ≠ some (some d)
  | [], g, i, h => h
  | v :: vs, g, i, h => wipeG_none vs (g.set v none) i fun d e => by
    by_cases hj : i = v
    · subst hj
      by_cases hl : i < g.length
      · rw [List.getElem?_set_self hl] at e; cases e
      · rw [List.getElem?_eq_none (by rw [List.length_set]; omega)] at e; cases e
    · rw [List.getElem?_set_ne (Ne.symm hj)] at e
      exact h d e
theorem wipeG_free : ∀ (vs : List Nat) (g : Sg) (i : Nat), i ∈ vs → ∀ d, (wipeG vs g)[i]? ≠ some (some d)
  | v :: vs, g, i, h => by
    rcases List.mem_cons.mp h with h | h
    · subst h
      refine wipeG_none vs (g.set i none) i fun d e => ?_
      by_cases hl : i < g.length
      · rw [List.getElem?_set_self hl] at e; cases e
      · rw [List.getElem?_eq_none (by rw [List.length_set]; omega)] at e; cases e
    · exact wipeG_free vs (g.set v none) i h
theorem wipe_free (vs : List Nat) (g : Sg) : freeG vs (wipeG vs g) = true := by
  refine List.all_eq_true.mpr fun i hi => ?_
  have h := wipeG_free vs g i hi
  split
  · rename_i d e
    exact (h d e).elim
  · rfl
def wipe2 (σ : L2.St) : List Nat → L2.St
  | [] => σ
  | v :: vs => wipe2 (σ.set v none) vs
theorem Mt.shed : ∀ (vs : List Nat) {g : Sg} {σ2 : L2.St} {S : Nat → Addr → Prop}, Mt K M g σ2 H G S → ∃ S', Mt K M (wipeG vs g) (wipe2 σ2 vs) H G S' ∧ ∀ a, Vl M G S' a → Vl M G S a
  | [], g, σ2, S, m => ⟨S, m, fun a z => z⟩
  | v :: vs, g, σ2, S, m => by
    obtain ⟨S1, m1, h1⟩ := m.shed1 (i := v) (x := none)
    obtain ⟨S2, m2, h2⟩ := Mt.shed vs m1
    exact ⟨S2, m2, fun a z => h1 a (h2 a z)⟩
theorem wipe2_eq (σ : L2.St) : ∀ vs : List Nat, wipe2 σ vs = wipe σ vs := by
  have key : ∀ (vs : List Nat) (σ : L2.St) (v : Nat), (wipe σ vs).set v none = wipe (σ.set v none) vs := by
    intro vs
    induction vs with
    | nil => intro σ v; rfl
    | cons w vs ih =>
      intro σ v
      show ((wipe σ vs).set w none).set v none = (wipe (σ.set v none) vs).set w none
      rw [← ih]
      by_cases h : w = v
      · subst h; rfl
      · rw [List.set_comm _ _ h]
  intro vs
  induction vs generalizing σ with
  | nil => rfl
  | cons v vs ih =>
    show wipe2 (σ.set v none) vs = (wipe σ vs).set v none
    rw [ih, key]
theorem Stp.less {S' : Nat → Addr → Prop} (st : Stp M H0 G0 S0 H G S) (h : ∀ a, Vl M G S' a → Vl M G S a) : Stp M H0 G0 S0 H G S' := ⟨st.gr, st.fr, st.th, fun a z => st.vl a (h a z), st.fg⟩
theorem Ap.less {S' : Nat → Addr → Prop} {p : Addr} {o : HO} (a : Ap M G H S p o) (h : ∀ a, Vl M G S' a → Vl M G S a) : Ap M G H S' p o := ⟨a.1, a.2.1, fun z => a.2.2 (h p z)⟩
/-- what a target stores is no other slot's -/
def tgIn (vs : List Nat) : Tg → Prop
  | .nm i => i ∈ vs
  | .tp is => ∀ i ∈ is, i ∈ vs
theorem wipe_set {i : Nat} {x : Option V} : ∀ {vs : List Nat} {σ : L2.St}, i ∈ vs → wipe (σ.set i x) vs = wipe σ vs
  | v :: vs, σ, h => by
    show (wipe (σ.set i x) vs).set v none = (wipe σ vs).set v none
    by_cases hi : i ∈ vs
    · rw [wipe_set hi]
    · have hv : i = v := by
        rcases List.mem_cons.mp h with z | z
        · exact z
        · exact (hi z).elim
      subst hv
      rw [← wipe_out hi, List.set_set]
where
  wipe_out {i : Nat} {x : Option V} : ∀ {vs : List Nat} {σ : L2.St}, i ∉ vs → (wipe σ vs).set i x = wipe (σ.set i x) vs
  | [], σ, h => rfl
  | v :: vs, σ, h => by
    rw [List.mem_cons, not_or] at h
    show ((wipe σ vs).set v none).set i x = (wipe (σ.set i x) vs).set v none
    rw [← wipe_out h.2, List.set_comm _ _ (Ne.symm h.1)]
theorem wipe_sets : ∀ {is : List Nat} {xs : List V} {σ : L2.St}, (∀ i ∈ is, i ∈ vs) → wipe (sets is xs σ) vs = wipe σ vs
  | [], xs, σ, h => by cases xs <;> rfl
  | i :: is, [], σ, h => rfl
  | i :: is, x :: xs, σ, h => by
    show wipe (sets is xs (σ.set i (some x))) vs = _
    rw [wipe_sets fun j hj => h j (List.mem_cons_of_mem _ hj), wipe_set (h i (List.mem_cons_self ..))]
theorem asg_w {tg : Tg} {d : D} {v : V} {g' : Sg} {Q : L2.St → Hp → Prop} (ht : tgIn vs tg) (e : asg tg d g = some g') (m : Mt K M g σ H G S) (r : Rep K G d v) (st : Stp M H0 G0 S0 H G S) (q : ∀ σ' S', wipe σ' vs = wipe σ vs → Mt K M g' σ' H G S' → Stp M H0 G0 S0 H G S' → (∀ a, Vl M G S' a → Vl M G S a) → Q σ' H) : gP K tg v σ H Q := by
  have q : ∀ σ' S', wipe σ' vs = wipe σ vs → Mt K M g' σ' H G S' → Stp M H0 G0 S0 H G S' → (∀ a, Vl M G S' a → Vl M G S a) → Q σ' H := q
  cases tg with
  | nm i =>
    have e : (if i < g.length then some (g.set i (some d)) else none) = some g' := e
    split at e
    · rename_i hl
      cases e
      refine q _ _ (wipe_set ht) (m.set (Own.of r) (fun a z => z.elim) hl) (st.set fun a z => z.elim) fun a z => ?_
      rcases z with ⟨j, ⟨_, z⟩ | ⟨_, z⟩⟩ | z
      · exact z.elim
      · exact .inl ⟨j, z⟩
      · exact .inr z
    · cases e
  | tp is =>
    have e : ((seqD d).bind fun xs => setAll is xs g) = some g' := e
    cases e1 : seqD d with
    | none => rw [e1] at e; cases e
    | some xs =>
      rw [e1] at e
      obtain ⟨a, vs', rfl, hq, hr⟩ := seq_seen (Seen.of r : Seen K M G H d v) m.sub e1
      obtain ⟨S', m', st', f', hl, hv⟩ := all_w e hr m st
      exact ⟨a, vs', rfl, hq, hl, q _ _ (wipe_sets ht) m' st' hv⟩
where
  all_w {is : List Nat} {ds : List D} {us : List V} {g g' : Sg} {σ : L2.St} {S : Nat → Addr → Prop} (e : setAll is ds g = some g') (r : RepL K G ds us) (m : Mt K M g σ H G S) (st : Stp M H0 G0 S0 H G S) :
      ∃ S', Mt K M g' (sets is us σ) H G S' ∧ Stp M H0 G0 S0 H G S' ∧ True ∧ us.length = is.length ∧ ∀ a, Vl M G S' a → Vl M G S a := by
    induction is generalizing ds us g σ S with
    | nil =>
      cases ds with
      | nil =>
        cases (show us = [] from r)
        cases (show some g = some g' from e)
        exact ⟨S, m, st, trivial, rfl, fun a z => z⟩
      | cons d ds => cases e
    | cons i is ih =>
      cases ds with
      | nil => cases e
      | cons d ds =>
        obtain ⟨v, vr, rfl, r1, r2⟩ := r
        have e : (if i < g.length then setAll is ds (g.set i (some d)) else none) = some g' := e
        split at e
        · rename_i hl
          have m1 := m.set (Own.of r1) (fun a z => z.elim) hl
          obtain ⟨S', m2, st2, _, l2, h2⟩ := ih e r2 m1 (st.set fun a z => z.elim)
          refine ⟨S', m2, st2, trivial, congrArg Nat.succ l2, fun a z => ?_⟩
          rcases h2 a z with ⟨j, ⟨_, y⟩ | ⟨_, y⟩⟩ | y
          · exact y.elim
          · exact .inl ⟨j, y⟩
          · exact .inr y
        · cases e
theorem lc_t {it : PIt} {tg : Tg} {c : PT'} {e : PX} (ht : tgIn vs tg) (q : tP K M W (pLc it tg c e vs) σ H Q) : tLc (tI K M W it) (gP K tg) (tB' K M W0 c) (tP K M W0 e) vs σ H Q := by
  obtain ⟨g, G, S, m, q⟩ := q
  refine ⟨g, G, S, m, ?_⟩
  unfold pLc at q
  cases er : it g with
  | bad => rw [er] at q; exact q
  | exc c d g' => rw [er] at q; exact q
  | ok ds g1 =>
    rw [er, Rs.bind_ok] at q
    split at q
    · rename_i hf
      intro J H1 G1 S1 m1 wk st1 D hD
      have a0 : Ap M G1 (L2.upd H1 D (.lst [])) S1 D (.lst []) := ⟨upd_same, m1.gnone hD, m1.snone hD⟩
      have hD0 : H D = none := st1.back hD
      refine ⟨fun i mm H' => mm = ds.length - i ∧ i ≤ ds.length ∧ ∃ acc us g' G' S', Mt K M g' (wipe σ vs) H' G' S' ∧ freeG vs g' = true ∧ Ap M G' H' S' D (.lst us) ∧ RepL K G' acc us ∧ Stp M H G S H' G' S' ∧ Sub G1 G' ∧ EndE K M W σ H G S ((lcD tg c e vs (ds.drop i) acc g').bind fun acc g2 => .ok (.lst true acc) g2) Q,
        ⟨ds.length, rfl, Nat.zero_le _, [], [], g1, G1, S1, (m1.newOwn hD).wipe hf, hf, a0, rfl, st1.trans (m1.newOwnStp hD), Sub.refl _, q⟩, ?_⟩
      rintro i mm H' ⟨rfl, hi, acc, us, g', G', S', m', hf', ap', ra, st', sb, q⟩
      obtain ⟨w1, w2⟩ := wk g' (wipe σ vs) H' G' S' sb m' i
      by_cases hlt : i < ds.length
      · obtain ⟨go, yl⟩ := w1 ds[i] (List.getElem?_eq_getElem hlt)
        refine .inr ⟨go, fun H2 => ∃ acc us g2 G2 S2, Mt K M g2 (wipe σ vs) H2 G2 S2 ∧ freeG vs g2 = true ∧ Ap M G2 H2 S2 D (.lst us) ∧ RepL K G2 acc us ∧ Stp M H G S H2 G2 S2 ∧ Sub G1 G2 ∧ EndE K M W σ H G S ((lcD tg c e vs (ds.drop (i + 1)) acc g2).bind fun acc g2 => .ok (.lst true acc) g2) Q, fun H2 z => ⟨ds.length - (i + 1), by omega, rfl, hlt, z⟩, fun x H2 hy => ?_⟩
        obtain ⟨G2, m2, r2, st2⟩ := yl x H2 hy
        rw [List.drop_eq_getElem_cons hlt] at q
        have q : EndE K M W σ H G S ((match asg tg ds[i] g' with
          | none => Rs.bad
          | some g1 => (match c g1 with
            | .ok true g2 => (match e g2 with
              | .ok y g3 => if acc.length < lim then lcD tg c e vs (ds.drop (i + 1)) (acc ++ [sealD y]) (wipeG vs g3) else .bad
              | _ => .bad)
            | .ok false g2 => lcD tg c e vs (ds.drop (i + 1)) acc (wipeG vs g2)
            | _ => .bad)).bind fun acc g2 => .ok (.lst true acc) g2) Q := q
        cases e1 : asg tg ds[i] g' with
        | none => rw [e1] at q; exact (show False from q).elim
        | some g3 =>
          rw [e1] at q
          refine asg_w ht e1 m2 r2 (st'.trans st2) fun σ3 S3 f3 m3 st3 hv3 => ?_
          rw [wipe_wipe] at f3
          refine ⟨f3, g3, G2, S3, m3, ?_⟩
          have ap3 := (ap'.stp st2).less hv3
          dsimp only at q
          cases e2 : c g3 with
          | bad => rw [e2] at q; exact (show False from q).elim
          | exc c d g4 => rw [e2] at q; exact (show False from q).elim
          | ok b g4 =>
            intro H4 G4 S4 m4 st4
            have ap4 := ap3.stp st4
            cases b with
            | false =>
              rw [e2] at q
              obtain ⟨S5, m5, h5⟩ := m4.shed vs
              rw [wipe2_eq, f3] at m5
              exact ⟨acc, us, _, G4, S5, m5, wipe_free vs g4, ap4.less h5, RepL.mono (st2.gr.trans st4.gr) _ _ ra, (st3.trans st4).less h5, (sb.trans st2.gr).trans st4.gr, q⟩
            | true =>
              rw [e2] at q
              dsimp only at q
              refine ⟨g4, G4, S4, m4, ?_⟩
              cases e3 : e g4 with
              | bad => rw [e3] at q; exact (show False from q).elim
              | exc c d g5 => rw [e3] at q; exact (show False from q).elim
              | ok y g5 =>
                rw [e3] at q
                dsimp only at q
                intro v H5 G5 S5 T got st5
                obtain ⟨G6, m6, r6, sb6, hg6, hv6⟩ := got.seal
                have st6 := st5.sealed sb6 hg6 hv6
                have ap6 := ap4.stp st6
                split at q
                · rename_i hl
                  refine ⟨us, ap6.1, ?_, ?_⟩
                  · rw [← ra.len, sizeLine_eq]; unfold lim at hl; omega
                  · have m7 := m6.put (o' := .lst (us ++ [v])) ap6
                    obtain ⟨S8, m8, h8⟩ := m7.shed vs
                    rw [wipe2_eq, f3] at m8
                    have sg : Sub G' G6 := (st2.gr.trans st4.gr).trans st6.gr
                    refine ⟨acc ++ [sealD y], us ++ [v], _, G6, S8, m8, wipe_free vs g5, ⟨upd_same, ap6.2.1, fun z => ap6.2.2 (h8 D z)⟩, (RepL.mono sg _ _ ra).append (RepL.one r6), (((st3.trans st4).trans st6).put hD0).less h8, sb.trans sg, q⟩
                · exact (show False from q).elim
      · have ei : i = ds.length := by omega
        subst ei
        rw [List.drop_length] at q
        refine .inl ⟨w2 (Nat.le_refl _), (show EndE K M W σ H G S (.ok (.lst true acc) g') Q from q) (.ref D) H' G' S' (fun a => a = D) ⟨m'.unwipe hf', .inr ⟨D, rfl, ap'.2.1, fun b => Iff.rfl, rfl, us, ap'.1, ra⟩, fun a z => ?_⟩ st'⟩
        cases z
        exact ⟨ap'.2.2, hD0⟩
    · exact (show False from q).elim
where
  wipe_wipe {σ : L2.St} {vs : List Nat} : wipe (wipe σ vs) vs = wipe σ vs := by
    have key : ∀ (ws vs : List Nat) (σ : L2.St), (∀ i ∈ ws, i ∈ vs) → wipe (wipe σ ws) vs = wipe σ vs := by
      intro ws
      induction ws with
      | nil => intro vs σ _; rfl
      | cons w ws ih =>
        intro vs σ h
        show wipe ((wipe σ ws).set w none) vs = _
        rw [wipe_set (h w (List.mem_cons_self ..)), ih vs σ fun i hi => h i (List.mem_cons_of_mem _ hi)]
    exact key vs vs σ fun i hi => hi
theorem PTs.imp {es : List Expr} {t t' : TT} (h : PTs X es t) (k : ∀ σ H Q, t' σ H Q → t σ H Q) : PTs X es t' := ⟨fun pins s σ H Q I q => h.run pins s σ H Q I (k σ H Q q)⟩
theorem pts_0 : PTs X [] (tB' K M W pYes) := PTs.imp pts_nil fun σ H Q ⟨g, G, S, m, q⟩ => (show EndB K M W σ H G S (.ok true g) Q from q) H G S m Stp.refl
theorem pts_1 {c : Expr} {mc : PT'} (h : PT X c (tB' K M W mc)) : PTs X [c] (tB' K M W mc) := pts_one h
theorem pe_Lc {elt tge iter : Expr} {ifs : List Expr} {scope : Scope} {own : List (Str × Nat)} {mi : PIt} {tg : Tg} {mc : PT'} {me : PX} (hc : X.calm = true) (hN : X.N.Nodup) (hi : PI X tge iter (tI X.K M W mi)) (ok : BlkOk X.N X.env.scope scope own) (hvs : own.map (·.2) = vs) (ht : tgIn vs tg)
    (hg : ∀ (s : Shared) (H : Hp) (C : Addr) (cl : List (Str × Addr)) (fp : List Addr), PG (X.blk s H scope (compEnvC scope cl C X.env) fp) tge (gP X.K tg))
    (hcd : ∀ (s : Shared) (H : Hp) (C : Addr) (cl : List (Str × Addr)) (fp : List Addr), PTs (X.blk s H scope (compEnvC scope cl C X.env) fp) ifs (tB' X.K M W0 mc))
    (he : ∀ (s : Shared) (H : Hp) (C : Addr) (cl : List (Str × Addr)) (fp : List Addr), PE (X.blk s H scope (compEnvC scope cl C X.env) fp) elt (tP X.K M W0 me)) (hs : ∀ x, foldedSetIterable iter X.env x = pure x) :
    PE X (.ListComp elt [⟨tge, iter, ifs, 0⟩] scope pos) (tP X.K M W (pLc mi tg mc me vs)) := by
  subst hvs
  exact PE.imp (pe_lc hc hN hi ok hg hcd he hs) fun σ H Q q => lc_t ht q
theorem ps_SetLc {i : Nat} {y : Str} {py spos : Pos} {fx : List Nat} {elt tge iter : Expr} {ifs : List Expr} {scope : Scope} {own : List (Str × Nat)} {mi : PIt} {tg : Tg} {mc : PT'} {me : PX} (hc : X.calm = true) (hN : X.N.Nodup) (hy : X.N[i]? = some y) (hyl : X.env.scope.names.lookup y = some .local)
    (hsw : swapsWith (.ListComp elt [⟨tge, iter, ifs, 0⟩] scope pos) (some (.Name y py)) spos.line X.env = pure true) (hi : PI X tge iter (tI X.K M W mi)) (ok : BlkOk X.N X.env.scope scope own) (hvs : own.map (·.2) = vs) (ht : tgIn vs tg) (hfx : i ∉ fx)
    (hg : ∀ (s : Shared) (H : Hp) (C : Addr) (cl : List (Str × Addr)) (fp : List Addr), PG (X.blk s H scope (compEnvC scope cl C X.env) fp) tge (gP X.K tg))
    (hcd : ∀ (s : Shared) (H : Hp) (C : Addr) (cl : List (Str × Addr)) (fp : List Addr), PTs (X.blk s H scope (compEnvC scope cl C X.env) fp) ifs (tB' X.K M W0 mc))
    (he : ∀ (s : Shared) (H : Hp) (C : Addr) (cl : List (Str × Addr)) (fp : List Addr), PE (X.blk s H scope (compEnvC scope cl C X.env) fp) elt (tP X.K M W0 me)) (hs : ∀ x, foldedSetIterable iter X.env x = pure x) :
    PS X (.Assign [.Name y py] (.ListComp elt [⟨tge, iter, ifs, 0⟩] scope pos) spos) (tF X.K M fx W (pSet i (pLc mi tg mc me vs))) := by
  subst hvs
  refine PS.imp (ps_setLc hc hN hy hyl hsw hi ok hg hcd he hs) fun N σ H q => ?_
  refine lc_t ht (Q := fun x H1 => gName i x σ H1 N.nx) ?_
  obtain ⟨g, G, S, m, q⟩ := q
  refine ⟨g, G, S, m, EndE.imp (EndF.bindE q) fun v H1 ⟨d, g1, G1, S1, T, er, got, st, q⟩ => ?_⟩
  split at q
  · rename_i hl
    exact (show EndN X.K M fx σ H G S (g1.set i (some d)) N.nx from q) _ H1 G1 _ (Fx.set hfx) (got.1.set got.2.1 (fun a z => (got.2.2 a z).1) hl) (st.set fun a z => (got.2.2 a z).2)
  · exact q.elim
end
end PI

set_option Elab.async false
set_option linter.all false
set_option maxRecDepth 100000
set_option maxHeartbeats 1000000
namespace PI
open PySem PySem.Spec PyProof.Rows L2
open PySem.W (Frag InstAt findIn isFn selfFirst subIn Looks)
/-! ### {k: e, ..}: texts and ints as keys -/
def evK : List (Key × PX) → Sg → Rs (List (Key × D))
  | [], g => .ok [] g
  | (k, m) :: r, g => (m g).bind fun d g1 => (evK r g1).bind fun ps g2 => .ok ((k, sealD d) :: ps) g2
def dispD (ps : List (Key × D)) : List Key × List D := ps.foldl (fun a p => putKD a.1 a.2 p.1 p.2) ([], [])
def pDic (kms : List (Key × PX)) : PX := fun g => (evK kms g).bind fun ps g1 => if ps.length ≤ 15 then .ok (.dic true (dispD ps).1 (dispD ps).2) g1 else .bad
section
variable {K : Frag} {M : Memo} {W : WX} {X : Cx} {σ : L2.St} {H H0 G G0 H1 G1 : Hp} {S S0 S1 : Nat → Addr → Prop} {g g1 : Sg} {Q : VK} {pos p2 : Pos} {fx : List Nat}
def tyK (M : Memo) (K : Frag) (W : WX) (kms : List (Key × PX)) : List (TE × TE) := kms.map fun km => (tC (kV km.1), tP K M W km.2)
/-- the rows of a display -/
def RwL (K : Frag) (G : Hp) (ps : List (Key × D)) (kvs : List (Key × V)) : Prop := ps.map (·.1) = kvs.map (·.1) ∧ RepL K G (ps.map (·.2)) (kvs.map (·.2))
theorem rwl_put {ps : List (Key × D)} : ∀ {kvs : List (Key × V)} {ks : List Key} {ds : List D} {vs : List V}, RwL K G ps kvs → ks.length = vs.length → RepL K G ds vs →
    ∃ us, mergeK (ks.zip vs) kvs = (ps.foldl (fun a p => putKD a.1 a.2 p.1 p.2) (ks, ds)).1.zip us ∧ (ps.foldl (fun a p => putKD a.1 a.2 p.1 p.2) (ks, ds)).1.length = us.length ∧ RepL K G (ps.foldl (fun a p => putKD a.1 a.2 p.1 p.2) (ks, ds)).2 us := by
  induction ps with
  | nil =>
    intro kvs ks ds vs h hl r
    cases kvs with
    | nil => exact ⟨vs, rfl, hl, r⟩
    | cons q kvs => cases h.1
  | cons p ps ih =>
    intro kvs ks ds vs h hl r
    cases kvs with
    | nil => cases h.1
    | cons q kvs =>
      obtain ⟨h1, v, vr, e, h2, h3⟩ := h
      cases e
      have hk : p.1 = q.1 := (List.cons.inj h1).1
      obtain ⟨us, u1, u2, u3⟩ := put_rep (k := p.1) h2 hl r
      obtain ⟨ws, w1, w2, w3⟩ := ih ⟨(List.cons.inj h1).2, h3⟩ u2 u3
      refine ⟨ws, ?_, w2, w3⟩
      show mergeK (putK (ks.zip vs) q.1 q.2) kvs = _
      rw [← hk, u1]
      exact w1
theorem RwL.mono {ps : List (Key × D)} {kvs : List (Key × V)} {G' : Hp} (e : Sub G G') (h : RwL K G ps kvs) : RwL K G' ps kvs := ⟨h.1, RepL.mono e _ _ h.2⟩
theorem evK_t {p : Addr} {o : HO} : ∀ {kms : List (Key × PX)} {g : Sg} {H G : Hp} {S : Nat → Addr → Prop} {kk : List (Key × D) → Sg → Rs D} {R : List (V × V) → Hp → Prop}, Mt K M g σ H G S → Ap M G H S p o → Stp M H0 G0 S0 H G S → EndE K M W σ H0 G0 S0 ((evK kms g).bind kk) Q →
    (∀ (kvs : List (Key × V)) ps g' H' G' S', Mt K M g' σ H' G' S' → Ap M G' H' S' p o → RwL K G' ps kvs → Stp M H0 G0 S0 H' G' S' → Sub G G' → EndE K M W σ H0 G0 S0 (kk ps g') Q → R (kvs.map fun kv => (kV kv.1, kv.2)) H') → tPairs (tyK M K W kms) σ H R
  | [], g, H, G, S, kk, R, m, ap, st, q, fin => fin [] [] g H G S m ap ⟨rfl, rfl⟩ st (Sub.refl _) q
  | (k, mm) :: r, g, H, G, S, kk, R, m, ap, st, q, fin => by
    show tP K M W mm σ H _
    refine ⟨g, G, S, m, ?_⟩
    have q : EndE K M W σ H0 G0 S0 (((mm g).bind fun d g1 => (evK r g1).bind fun ps g2 => .ok ((k, sealD d) :: ps) g2).bind kk) Q := q
    cases er : mm g with
    | bad => rw [er] at q; exact q
    | exc c d g' => rw [er] at q; exact EndX.of q st
    | ok d g1 =>
      rw [er, Rs.bind_ok] at q
      intro v H1 G1 S1 T got st1
      obtain ⟨G2, m2, r2, sb, hg, hv⟩ := got.seal
      have st2 := st1.sealed sb hg hv
      have q : EndE K M W σ H0 G0 S0 ((evK r g1).bind fun ps g2 => kk ((k, sealD d) :: ps) g2) Q := by
        cases er2 : evK r g1 with
        | bad => rw [er2] at q; exact q
        | exc c d g' => rw [er2] at q; exact q
        | ok ps g2 => rw [er2] at q; exact q
      refine evK_t (H := H1) m2 (ap.stp st2) (st.trans st2) q fun kvs ps g' H' G' S' m' ap' rw' st' sg q' => ?_
      exact fin ((k, v) :: kvs) ((k, sealD d) :: ps) g' H' G' S' m' ap' ⟨congrArg (k :: ·) rw'.1, v, _, rfl, Rep.mono sg _ _ r2, rw'.2⟩ st' (st2.gr.trans sg) q'
theorem pe_Dic {keys : List (Option Expr)} {values : List Expr} {kms : List (Key × PX)} (h : PPs X pos keys values (tyK M X.K W kms)) (hall : keys.all (·.isSome) = true) (hl : keys.length = values.length) (h0 : keys ≠ []) (h15 : keys.length ≤ 15) :
    PE X (.Dict keys values pos) (tP X.K M W (pDic kms)) := by
  refine PE.imp (pe_disp h hall hl h0 h15) fun σ H Q q => ?_
  obtain ⟨g, G, S, m, q⟩ := q
  intro p hp
  have a0 : Ap M G (L2.upd H p (.dK [])) S p (.dK []) := ⟨upd_same, m.gnone hp, m.snone hp⟩
  refine evK_t (m.newOwn hp) a0 (m.newOwnStp hp) q fun kvs ps g' H' G' S' m' ap' rw' st' _ q' => ⟨ap'.1, kvs, rfl, ?_⟩
  split at q'
  · rename_i hl
    have hlen : ps.length = kvs.length := by have := congrArg List.length rw'.1; simpa using this
    refine ⟨by rw [← hlen]; exact hl, ?_⟩
    obtain ⟨us, u1, u2, u3⟩ := rwl_put rw' (ks := []) (ds := []) (vs := []) rfl rfl
    have m2 := m'.put (o' := .dK (mergeK [] kvs)) ap'
    refine (show EndE X.K M W σ H G S (.ok (.dic true (dispD ps).1 (dispD ps).2) g') Q from q') (.ref p) _ G' S' (fun a => a = p) ⟨m2, .inr ⟨p, rfl, ap'.2.1, fun b => Iff.rfl, rfl, us, by rw [upd_same]; exact congrArg (fun z => some (HO.dK z)) u1, u2, u3⟩, fun a z => ?_⟩ (st'.put hp)
    cases z
    exact ⟨ap'.2.2, hp⟩
  · exact (show False from q').elim
theorem pps_0 : PPs X pos [] [] (tyK M K W []) := pps_nil
theorem pps_c {k v : Expr} {ks : List (Option Expr)} {vs : List Expr} {key : Key} {mv : PX} {kms : List (Key × PX)} (hk : PE X k (tC (kV key))) (hv : PE X v (tP K M W mv)) (hr : PPs X pos ks vs (tyK M K W kms)) : PPs X pos (some k :: ks) (v :: vs) (tyK M K W ((key, mv) :: kms)) := pps_cons hk hv hr
theorem pe_Dic0 : PE X (.Dict [] [] pos) (tP X.K M W (pDic [])) := by
  refine PE.imp pe_dnewK fun σ H Q q => ?_
  obtain ⟨g, G, S, m, q⟩ := q
  intro p hp
  exact (show EndE X.K M W σ H G S (.ok (.dic true [] []) g) Q from q) (.ref p) _ G S (fun a => a = p) ⟨m.newOwn hp, .inr ⟨p, rfl, m.gnone hp, fun b => Iff.rfl, rfl, [], by rw [upd_same] <;> rfl, rfl, rfl⟩, fun a z => by cases z; exact ⟨m.snone hp, hp⟩⟩ (m.newOwnStp hp)
/-! ### raise C(e) -/
def pRs (c : Str) (m : PX) : PF := fun g => (pAll [m] g).bind fun ds g1 => match ds with
  | [d] => .exc c d g1
  | _ => .bad
def spInit (K : Frag) : Sp := fun vs H Q _ => ∃ a C v, vs = [V.ref a, v] ∧ OexC K C ∧ findIn K (.ref C) "value" = some none ∧ H a = some (exo a C none) ∧ ∀ dx, H dx = none → dx ≠ a → Q .non (L2.upd (L2.upd H dx (exd dx [("value", v)])) a (exo a C (some dx)))
theorem init_ok {P : Program} {w : World} {K : Frag} {mg : Str → Option Value} {base : Heap} {k : Nat} {f : Addr} {fd : FuncData} {qual : Str} {params : Arguments} {scope : Scope} {dvs : List V} {kws : List (Str × V)} {p1 p3 p4 p5 : Pos}
    (F : FunD K "__init__" qual params [.Assign [.Attribute (.Name "self" p1) "value" p3] (.Name "value" p4) p5] scope dvs kws f fd) (Z : FnScope ["self", "value"] ["self", "value"] scope) :
    FnOk P w K mg base (L2.CX P w) (k + 1) f fd ["self", "value"] (spInit K) := by
  refine F.ok Z (fun vs H Q E h => ?_) fun cdv A outer s H vs Q E hr h => ?_
  · obtain ⟨a, C, v, e, _⟩ := h; rw [e] <;> rfl
  · obtain ⟨a, C, v, rfl, T, hn, ha, q⟩ := h
    refine ⟨_, pss_one (ps_ost (pe_var (i := 0) rfl ((Z.par "self" (List.Mem.head _)).elim (fun z => .inl z) (fun z => .inr (.inl z)))) (pe_var (i := 1) rfl ((Z.par "value" (List.Mem.tail _ (List.Mem.head _))).elim (fun z => .inl z) (fun z => .inr (.inl z)))) rfl), ?_⟩
    exact ⟨v, rfl, .ref a, rfl, a, C, rfl, T, hn, .inl ⟨ha, q⟩⟩
theorem ps_Raise {x c : Str} {fI : Addr} {k : Nat} {fd : FuncData} {ds : List Value} {p pos' : Pos} {e : Expr} {m : PX} (hc : X.calm = true) (tk : Takes X W) (T : OexC X.K (He.ga X.K c)) (iC : findIn X.K (.ref (He.ga X.K c)) "__init__" = some (some (.ref fI))) (tI : PySem.W.typeIn X.K (.ref fI) = some (.type "function"))
    (hno : findIn X.K (.ref (He.ga X.K c)) "value" = some none) (F : FnOk X.prog X.w X.K X.mg X.base (L2.CX X.prog X.w) k fI fd ["self", "value"] (spInit X.K)) (hr : Room (k + 1) X.A) (hb : Binds X.K fd ["self", "value"] []) (hg : Gl X x) (hm : X.mg x = some (.ref (He.ga X.K c)))
    (ha : PA X [e] (tL X.K M W (pAll [m]))) (hs : noStar e = true) (hdb : (x == ("__debug__" : Str)) = false) : PS X (.Raise (some (.Call (.Name x p) [e] [] pos)) none pos') (tF X.K M fx W (pRs c m)) := by
  refine PS.imp (ps_raise hc tk (pmk_oex T iC tI F hr hb .nil (fun _ _ _ _ _ _ _ z => by obtain ⟨_, _, _, _, _, _, _, _, _, _, _, _, z⟩ := z; exact z.elim) hg hm ha hdb (star_of hs) rfl)) fun N σ H q => ?_
  obtain ⟨g, G, S, mt, q⟩ := q
  refine ⟨g, G, S, mt, ?_⟩
  unfold pRs at q
  cases er : pAll [m] g with
  | bad => rw [er] at q; exact q
  | exc c d g' => rw [er] at q; exact EndXs.x q
  | ok dl g1 =>
    rw [er, Rs.bind_ok] at q
    intro vs H1 G1 S1 m1 rr st
    split at q
    · rename_i d
      obtain ⟨v, r, rfl, h1, rfl⟩ := rr
      refine ⟨by show 1 ≤ 1000; decide, fun a hn => ⟨a, _, v, rfl, T, hno, upd_same, fun dx hd hne => ⟨rfl, dx, _, upd_same, by rw [upd_ne hne, upd_same], by rw [upd_ne hne] at hd; exact hd, ?_⟩⟩⟩
      have hd1 : H1 dx = none := by rw [upd_ne hne] at hd; exact hd
      have eh : L2.upd (L2.del (L2.upd (L2.upd (L2.upd H1 a (exo a (He.ga X.K c) none)) dx (exd dx [("value", v)])) a (exo a (He.ga X.K c) (some dx))) a) dx (.xd [("value", v)]) = L2.upd H1 dx (.xd [("value", v)]) := by
        funext b
        by_cases hb : b = dx
        · subst hb; rw [upd_same, upd_same]
        · rw [upd_ne hb, upd_ne hb]
          by_cases hba : b = a
          · subst hba; rw [del_same, hn]
          · rw [del_ne hba, upd_ne hba, upd_ne hb, upd_ne hba]
      rw [eh]
      exact (show EndXs X.K M fx W σ H G S c d g1 from q) v σ _ G1 S1 dx Fx.refl (m1.newOwn hd1) h1 (st.trans (m1.newOwnStp hd1)) upd_same
    · exact (show False from q).elim
end
end PI

set_option Elab.async false
set_option linter.all false
set_option maxRecDepth 100000
set_option maxHeartbeats 1000000
namespace PI
open PySem PySem.Spec PyProof.Rows L2
open PySem.W (Frag InstAt findIn isFn selfFirst subIn Looks)
/-! ### a def as a pure function: rf the parameters handed back, n the parameters, z the other names -/
def retL (g : Sg) : List Nat → Option (List D)
  | [] => some []
  | j :: js => (match g[j]?, retL g js with
    | some (some d), some r => some (d :: r)
    | _, _ => none)
def finC (rf : List Nat) (r : Rs Fl) : Cr := match r with
  | .bad => .bad
  | .exc c d g => (match retL g rf with
    | some rs => .exc c d rs
    | none => .bad)
  | .ok fl g => (match retL g rf with
    | some rs => (match fl with
      | .nx => .ok .non rs
      | .rt d => .ok d rs
      | _ => .bad)
    | none => .bad)
def runF (rf : List Nat) (z : Nat) (m : PF) (ds : List D) : Cr := finC rf (m (ds.map some ++ List.replicate z none))
section
variable {K : Frag} {M : Memo} {W : WX} {X : Cx} {σ : L2.St} {H H0 G G0 H1 G1 : Hp} {S S0 S1 : Nat → Addr → Prop} {g g1 : Sg} {Q : VK}
theorem retL_at {g : Sg} : ∀ {js : List Nat} {rs : List D}, retL g js = some rs → rs.length = js.length ∧ ∀ (k : Nat) (d : D), rs[k]? = some d → ∃ j, js[k]? = some j ∧ g[j]? = some (some d)
  | [], rs, h => by cases (show some ([] : List D) = some rs from h); exact ⟨rfl, fun k d z => by simp at z⟩
  | j :: js, rs, h => by
    unfold retL at h
    cases e1 : g[j]? with
    | none => rw [e1] at h; cases h
    | some o =>
      cases o with
      | none => rw [e1] at h; cases h
      | some d0 =>
        cases e2 : retL g js with
        | none => rw [e1, e2] at h; cases h
        | some r =>
          rw [e1, e2] at h; cases h
          obtain ⟨l, q⟩ := retL_at e2
          refine ⟨congrArg Nat.succ l, fun k d z => ?_⟩
          cases k with
          | zero => simp at z; subst z; exact ⟨j, rfl, e1⟩
          | succ k => exact q k d (by simpa using z)
/-- the parameters' state behind the body: only what is handed back is still known -/
theorem ret_mt {n : Nat} {rf : List Nat} {rs : List D} {σ0 : L2.St} (m : Mt K M g σ H G S) (e : retL g rf = some rs) (l0 : σ0.length = n) (fx : ∀ i ∈ rf, i < n ∧ σ[i]? = σ0[i]?) :
    ∃ B, Mt K M (retG n rf rs) σ0 H G B ∧ ∀ a, Vl M G B a → Vl M G S a := by
  have at_ : ∀ (i : Nat) (d : D), (retG n rf rs)[i]? = some (some d) → i ∈ rf ∧ g[i]? = some (some d) := fun i d h => by
    unfold retG at h
    rw [List.getElem?_map] at h
    cases q : (List.range n)[i]? with
    | none => rw [q] at h; cases h
    | some j =>
      rw [q] at h
      have hi : i < n := by
        have := (List.getElem?_eq_some_iff.mp q).1
        rwa [List.length_range] at this
      rw [List.getElem?_range hi] at q
      cases q
      have h : (rf.idxOf? i).bind (fun k => rs[k]?) = some d := Option.some.inj h
      cases q2 : rf.idxOf? i with
      | none => rw [q2] at h; cases h
      | some k =>
        rw [q2, Option.bind_some] at h
        obtain ⟨j, e1, e2⟩ := (retL_at e).2 k d h
        have hk : rf[k]? = some i := idx_at q2
        rw [hk] at e1; cases e1
        exact ⟨List.mem_of_getElem? hk, e2⟩
  refine ⟨fun i a => (∃ d, (retG n rf rs)[i]? = some (some d)) ∧ S i a, ⟨by rw [retG_len, l0], fun i d h => ?_, fun i h a z => ?_, fun i j a z z' => m.dis i j a z.2 z'.2, m.sub, m.mem, fun i a z => m.vol i a z.2⟩, fun a z => ?_⟩
  · obtain ⟨h1, h2⟩ := at_ i d h
    obtain ⟨v, ev, ow⟩ := m.own i d h2
    have eb : (fun a => (∃ d, (retG n rf rs)[i]? = some (some d)) ∧ S i a) = S i := funext fun a => propext ⟨fun z => z.2, fun z => ⟨⟨d, h⟩, z⟩⟩
    exact ⟨v, by rw [← (fx i h1).2]; exact ev, by rw [eb]; exact ow⟩
  · obtain ⟨⟨d, z⟩, _⟩ := z
    exact h d z
  · rcases z with ⟨i, _, z⟩ | z
    · exact .inl ⟨i, z⟩
    · exact .inr z
where
  idx_at {l : List Nat} {x k : Nat} (h : l.idxOf? x = some k) : l[k]? = some x := by
    unfold List.idxOf? at h
    obtain ⟨h1, h2, _⟩ := List.findIdx?_eq_some_iff_getElem.mp h
    rw [List.getElem?_eq_getElem h1]
    exact congrArg some (eq_of_beq h2)
end
section
variable {P : Program} {w : World} {K : Frag} {M : Memo} {mg : Str → Option Value} {base : Heap} {k : Nat} {f : Addr} {fd : FuncData} {ps N : List Str}
theorem FnG.mono {sp : Sp} {j : Nat} (F : FnG P w K mg base k f fd ps sp) (h : k ≤ j) : FnG P w K mg base j f fd ps sp := ⟨F.len, fun A outer s H args us vs Q E hr => F.run A outer s H args us vs Q E (hr.mono h)⟩
/-- the context of a def's body -/
structure BodyX (P : Program) (w : World) (K : Frag) (mg : Str → Option Value) (base : Heap) (N : List Str) (scope : Scope) (k : Nat) (X : Cx) (W : WX) : Prop where
  prog : X.prog = P
  w : X.w = w
  K : X.K = K
  mg : X.mg = mg
  base : X.base = base
  N : X.N = N
  sc : X.env.scope = scope
  room : Room k X.A
  gu : X.A.guards = some []
  tk : Takes X W
  hp : PassesOwn (model X.prog X.w) X.A X.env X.xe
  calm : X.calm = true
  fn : ∀ x, X.fn x = true
  stack : X.stack = X.env :: X.outer
  frame : X.env.frame = some X.env.locals
  ex : X.ex = []
theorem fnG_body {x qual : Str} {params : Arguments} {body : List Stmt} {scope : Scope} {dvs : List V} {kws : List (Str × V)} {rf : List Nat} {z : Nat} {m : PF} (F : FunD K x qual params body scope dvs kws f fd) (Z : FnScope N ps scope) (hz : N.length = ps.length + z) (hrf : ∀ i ∈ rf, i < ps.length)
    (hb : ∀ (X : Cx) (W : WX), BodyX P w K mg base N scope k X W → PSs X body (tF K M rf W m)) : FnG P w K mg base (k + 1) f fd ps (spF K M (runF rf z m) rf ps.length) := by
  refine fnG_of F Z (fun vs H Q E h => h.1) fun cdv A outer s H vs Q E hr gu h => ?_
  obtain ⟨hl, ds, G, B, mt, q⟩ := h
  refine ⟨_, hb _ (fun c d _ H => E c d H) ⟨rfl, rfl, rfl, rfl, rfl, rfl, rfl, hr, gu, takes_of rfl rfl rfl rfl, passes_of rfl, rfl, fun _ => rfl, rfl, rfl, rfl⟩, ?_⟩
  have hdl : ds.length = ps.length := by have := mt.len; rw [List.length_map, List.length_map] at this; omega
  have est : L2.start N vs = vs.map some ++ List.replicate z none := by unfold L2.start; rw [hl, hz, Nat.add_sub_cancel_left]
  -- the locals behind the parameters
  have m0 : Mt K M (ds.map some ++ List.replicate z none) (L2.start N vs) H G B := by
    rw [est]
    have nn : ∀ (i : Nat) (d : D), (ds.map some ++ List.replicate z none)[i]? = some (some d) → (ds.map some)[i]? = some (some d) := fun i d h => by
      by_cases hi : i < (ds.map some).length
      · rwa [List.getElem?_append_left hi] at h
      · rw [List.getElem?_append_right (by omega)] at h
        have := List.mem_of_getElem? h
        rw [List.mem_replicate] at this
        cases this.2
    refine ⟨by rw [List.length_append, List.length_append, mt.len, List.length_replicate, List.length_replicate], fun i d h => ?_, fun i h => mt.nil i fun d e => h d ?_, mt.dis, mt.sub, mt.mem, mt.vol⟩
    · obtain ⟨v, ev, ow⟩ := mt.own i d (nn i d h)
      exact ⟨v, by rw [List.getElem?_append_left (List.getElem?_eq_some_iff.mp ev).1]; exact ev, ow⟩
    · rw [List.getElem?_append_left (List.getElem?_eq_some_iff.mp e).1]; exact e
  refine ⟨_, G, B, m0, ?_⟩
  have fin : ∀ (g' : Sg) (rs : List D) (σ' : L2.St) (H' G' : Hp) (S' : Nat → Addr → Prop), retL g' rf = some rs → Fx rf (L2.start N vs) σ' → Mt K M g' σ' H' G' S' → ∃ B', Mt K M (retG ps.length rf rs) (vs.map some) H' G' B' ∧ ∀ a, Vl M G' B' a → Vl M G' S' a := fun g' rs σ' H' G' S' e fx m' => by
    refine ret_mt m' e (by rw [List.length_map]; exact hl) fun i hi => ⟨hrf i hi, ?_⟩
    · rw [fx i hi, est, List.getElem?_append_left (by rw [List.length_map, hl]; exact hrf i hi)]
  unfold runF at q
  cases er : m (ds.map some ++ List.replicate z none) with
  | bad => rw [er] at q; exact q
  | exc c d g' =>
    rw [er] at q
    unfold finC at q
    dsimp only at q
    cases e : retL g' rf with
    | none => rw [e] at q; exact (show False from q).elim
    | some rs =>
      rw [e] at q
      intro v σ' H' G' S' dd fx m' r st xx
      obtain ⟨B', mb, hv⟩ := fin g' rs σ' H' G' S' e fx m'
      exact q v H' G' B' dd mb r (st.less hv) xx
  | ok fl g' =>
    rw [er] at q
    unfold finC at q
    dsimp only at q
    cases e : retL g' rf with
    | none => rw [e] at q; exact (show False from q).elim
    | some rs =>
      rw [e] at q
      cases fl with
      | nx =>
        intro σ' H' G' S' fx m' st
        obtain ⟨B', mb, hv⟩ := fin g' rs σ' H' G' S' e fx m'
        exact q .non H' G' B' none_ ⟨mb, Own.of rfl, fun a z => z.elim⟩ (st.less hv)
      | rt d =>
        intro σ' v H' G' S' T fx ⟨m', ow, ap⟩ st
        obtain ⟨B', mb, hv⟩ := fin g' rs σ' H' G' S' e fx m'
        exact q v H' G' B' T ⟨mb, ow, fun a ha => ⟨fun y => (ap a ha).1 (hv a y), (ap a ha).2⟩⟩ (st.less hv)
      | bk => exact (show False from q).elim
      | ct => exact (show False from q).elim
end
end PI

set_option Elab.async false
set_option linter.all false
set_option maxRecDepth 100000
set_option maxHeartbeats 1000000
namespace PI
open PySem PySem.Spec PyProof.Rows L2
open PySem.W (Frag InstAt findIn isFn selfFirst subIn Looks)
/-! ### the law's call -/
/-- what the law's def must answer -/
def LawOk (K : Frag) (n : Nat) (ff : List D → Cr) : Prop := ∀ ns : List Int, ns.length ≤ n → ∃ rs, ff [.lst false (ns.map .int)] = .ok (.bl true) rs
theorem lawSp {K : Frag} {M : Memo} {ff : List D → Cr} {H : Hp} {a : Addr} {ns : List Int} (hM : M.inv H H) (hS : SqL K H a (ns.map V.int)) (h : ∃ rs, ff [.lst false (ns.map .int)] = .ok (.bl true) rs) :
    spF K M ff [] 1 [.ref a] H (fun v _ => v = .bl true) fun _ _ _ => False := by
  refine ⟨rfl, [.lst false (ns.map .int)], H, fun _ _ => False, ⟨rfl, fun i d e => ?_, fun i q b z => z, fun i j b z => z.elim, Sub.refl _, hM, fun i b z => z.elim⟩, ?_⟩
  · cases i with
    | zero =>
      cases e
      exact ⟨.ref a, rfl, .inl ⟨⟨rfl, a, _, rfl, hS, rep_ints ns⟩, fun b z => z⟩⟩
    | succ i => simp at e
  · obtain ⟨rs, e⟩ := h
    rw [e]
    intro v H' G' B' T got st
    exact Seen.bl (K := K) (M := M) (G := G') (H := H') ⟨T, got.2.1⟩
section
variable {P : Program} {w : World} {K : Frag} {M : Memo} {mg mb : Str → Option Value} {k : Nat} {fa a : Addr} {fd : FuncData} {x : Str} {s : Shared} {vs : List Value} {ns : List Int} {ff : List D → Cr}
/-- at the heap behind the top, the script's list hidden from the ground if it is no part of K -/
theorem lawGo (hM : ∀ H, M.inv H H) (KX : K.In s.heap) (hns : s.heap.Ns mainGlobals mg) (hb : s.heap.Ns builtinsNs mb) (hbb : ∀ y : Str, y ≠ "__name__" → mb y = bootBuiltins y) (hlim : s.heap.NoLimit) (hg : s.gens = #[])
    (ha : s.heap.get? a = some { cls := .type "list", data := .seq vs.toArray }) (hi : IntsAre vs ns) (hl : ns.length ≤ sizeLine) (hr : Room k callerA)
    (F : ∀ base : Heap, K.In base → base.Ns mainGlobals mg → FnG P w K mg base k fa fd [x] (spF K M ff [] 1)) (hbind : ∀ (s : Shared) (u : Value), BindsTo s fd ⟨[u], []⟩ [(x, u)]) (ok : ∃ rs, ff [.lst false (ns.map .int)] = .ok (.bl true) rs) :
    codeAny (model P w) callerA (.call (.ref fa) ⟨[.ref a], []⟩) (fun r t => r = .ok (.ret (.bool true)) ∧ OldK s.heap t.heap ∧ t.os = s.os ∧ AllBare t.gens) s := by
  have rv : Vals (ns.map V.int) vs := vals_ints hi
  have lv : vs.length = ns.length := hi.length
  have go : ∀ H : Hp, Only H → SqL K H a (ns.map V.int) → HOk P w H s.heap → (∀ b, H b ≠ none → b = a ∧ K.lookup a = none) →
      codeAny (model P w) callerA (.call (.ref fa) ⟨[.ref a], []⟩) (fun r t => r = .ok (.ret (.bool true)) ∧ OldK s.heap t.heap ∧ t.os = s.os ∧ AllBare t.gens) s := fun H hO hS hok hA => by
    have none_at : ∀ {b : Addr} {o : Obj}, s.heap.get? b = some o → (b = a → False) → H b = none := fun {b o} e n => by
      cases q : H b with
      | none => rfl
      | some u => exact (n (hA b (by rw [q]; exact fun z => nomatch z)).1).elim
    have inBase : ∀ {b : Addr} {o : Obj}, s.heap.get? b = some o → H b = none → (hidT s.heap H).get? b = some o := fun e n => hidT_get e n
    have kIn : K.In (hidT s.heap H) := fun b o e => by
      refine inBase (KX b o e) ?_
      cases q : H b with
      | none => rfl
      | some u =>
        obtain ⟨rfl, z⟩ := hA b (by rw [q]; exact fun z => nomatch z)
        rw [z] at e; cases e
    have keepNs : ∀ {b : Addr} {m : Str → Option Value}, s.heap.Ns b m → (hidT s.heap H).Ns b m := fun {b m} ⟨o, es, ep, e, d, r⟩ => by
      refine ⟨o, es, ep, inBase e (none_at e fun z => ?_), d, r⟩
      subst z
      rw [ha] at e
      cases e
      exact nomatch (show Data.seq vs.toArray _ = Data.dict es ep from d)
    have hMod : Mod K mg (hidT s.heap H) := ⟨kIn, keepNs hns, ⟨mb, keepNs hb, hbb⟩, let ⟨mc, z1, z2⟩ := hlim; ⟨mc, keepNs z1, z2⟩⟩
    have e0 : Env0 P w K mg (hidT s.heap H) callerA [] s H := ⟨rfl, hMod, fun b o e => of_hidT e, Nat.le_of_eq (hidT_size _ _), trivial, fun b z => absurd (show b ∈ ([] : List Addr) from z) (List.not_mem_nil), hok, .of_eq hg⟩
    refine codeAny_mono ((F _ kIn (keepNs hns)).run callerA [] s H ⟨[.ref a], []⟩ [.ref a] [.ref a] _ _ hr rfl e0 (hbind s (.ref a)) (.cons rfl .nil) (lawSp (hM H) hS ok)) fun r t z => ?_
    cases r with
    | error e => obtain ⟨_, _, _, _, _, _, _, _, _, _, _, _, z⟩ := z; exact z.elim
    | ok fl =>
      cases fl with
      | ret u =>
        obtain ⟨v, H', os, bare, un, hok', r', q⟩ := z
        cases (show v = .bl true from q)
        cases (show u = Value.bool true from r')
        refine ⟨rfl, OldK.of_keep fun b o e => ?_, os, bare⟩
        rcases hO b with q | ⟨ob, xs, q⟩
        · exact un.keep b o e q (fun y => absurd (show b ∈ ([] : List Addr) from y) List.not_mem_nil) List.not_mem_nil
        · obtain ⟨e1, _⟩ := hok b _ q
          obtain ⟨e2, _⟩ := hok' b _ (un.frzs b ob _ q)
          rw [e] at e1; cases e1
          exact e2
      | next => exact z.elim
      | brk => exact z.elim
      | cont => exact z.elim
  cases hk : K.lookup a with
  | some o =>
    have e := KX a o hk
    rw [ha] at e
    cases e
    refine go (fun _ => none) (fun _ => .inl rfl) (.inr ⟨_, vs.toArray, _, hk, rfl, rfl, rfl, ?_, by simpa using rv⟩) (fun b u z => nomatch (show (none : Option HO) = some u from z)) fun b z => absurd rfl z
    rw [List.size_toArray, lv]; exact hl
  | none =>
    refine go (fun b => if b = a then some (.frz { cls := .type "list", data := .seq vs.toArray } (.lst (ns.map V.int))) else none) (fun b => ?_) (.inl (.inr ⟨_, if_pos rfl⟩)) (fun b u z => ?_) fun b z => ?_
    · show (if b = a then _ else _) = none ∨ ∃ o xs, (if b = a then _ else _) = some (HO.frz o (HO.lst xs))
      split
      · exact .inr ⟨_, _, rfl⟩
      · exact .inl rfl
    · have z : (if b = a then some (HO.frz { cls := .type "list", data := .seq vs.toArray } (.lst (ns.map V.int))) else none) = some u := z
      split at z
      · rename_i hb
        cases z
        subst hb
        exact ⟨ha, by rw [List.length_map]; exact hl, vs, _, rv, ha⟩
      · cases z
    · have z : (if b = a then some (HO.frz { cls := .type "list", data := .seq vs.toArray } (.lst (ns.map V.int))) else none) ≠ none := z
      split at z
      · rename_i hb; exact ⟨hb, hk⟩
      · exact absurd rfl z
end
theorem walkG {l : PySem.W.OpenLaw} {n k : Nat} {q : Program} {loose : List Str} {XP : (Str → Option Value) → Heap → Prop} {YP : World → Heap → Prop} {d : DefRec} {M : Memo} {ff : List D → Cr} {x : Str}
    (hM : ∀ H, M.inv H H) (hn : l.most = some n) (hn2 : n ≤ sizeLine) (hdf : d.params.defaults = []) (hr : Room k callerA)
    (F : ∀ (w : World) (mg : Str → Option Value) (fa : Addr) (h : Heap), YP w h → h.Ns mainGlobals mg → mg d.name = some (.ref fa) →
      ∃ (K : Frag) (fd : FuncData), K.In h ∧ (∀ (s : Shared) (u : Value), BindsTo s fd ⟨[u], []⟩ [(x, u)]) ∧ ∀ base : Heap, K.In base → base.Ns mainGlobals mg → FnG l.prog w K mg base k fa fd [x] (spF K M ff [] 1))
    (ok : ∀ ns : List Int, ns.length ≤ n → ∃ rs, ff [.lst false (ns.map .int)] = .ok (.bl true) rs) :
    PySem.W.WalkO q loose XP YP l.row.toRowW d [] (fun f vs => PySem.call f vs) := by
  refine Att.attach_call hn hdf fun w s₀ s₁ mg mb fa o pm cd doc a vs ns G Y ho hd hcd hmg hobj hints hlen hg => ?_
  obtain ⟨K, fd, KX, hb, hF⟩ := F w mg fa _ Y G.T.g hmg
  exact lawGo hM KX G.T.g G.T.b G.T.builtins G.T.nolimit hg hobj hints (Nat.le_trans hlen hn2) hr hF hb (ok ns hlen)
end PI

set_option Elab.async false
set_option linter.all false
set_option maxRecDepth 100000
set_option maxHeartbeats 1000000
namespace PI
open PySem PySem.Spec PyProof.Rows L2
open PySem.W (Frag InstAt findIn isFn selfFirst subIn Looks)
open He (ga ma eqO eqO_ok ba)
/-! ### facts of the written part, by a look -/
def prAt (K : Frag) (C : Addr) (f : Str) : Addr := match PySem.W.recIn K (ma K C f) "property" with
  | some (.ref g :: _) => g
  | _ => 0
/-- where a def stands -/
def gaF (x : Str) (K : Frag) : Addr := ga K x
def maF (c m : Str) (K : Frag) : Addr := ma K (ga K c) m
def prF (c f : Str) (K : Frag) : Addr := prAt K (ga K c) f
abbrev Fc : Type := Frag → Bool
def isSm {α : Type} : Option α → Bool
  | some _ => true
  | none => false
def kGlo (x : Str) : Fc := fun K => eqO (PySem.W.nsIn K mainGlobals x) (some (some (.ref (ga K x))))
def kFree (x : Str) : Fc := fun K => eqO (PySem.W.nsIn K mainGlobals x) (some none)
def kStr (x z : Str) : Fc := fun K => match PySem.W.nsIn K mainGlobals x with
  | some (some (.str y _)) => decide (y = z)
  | _ => false
def kCls (c : Str) : Fc := fun K => PySem.W.plainGet K (ga K c) Str.empty && (PySem.W.hasDictIn K (ga K c) && (PySem.W.plainOver K (ga K c) && eqO (findIn K (.ref (ga K c)) "__setattr__") (some (some (.builtin "object.__setattr__")))))
def kNo (c f : Str) : Fc := fun K => eqO (findIn K (.ref (ga K c)) f) (some none)
def kMeth (c m : Str) : Fc := fun K => eqO (findIn K (.ref (ga K c)) m) (some (some (.ref (maF c m K)))) && (isFn K (.ref (maF c m K)) && PySem.W.keepIn K (.ref (maF c m K)))
def kMk (c : Str) : Fc := fun K => PySem.W.makesIn K (ga K c) && (eqO (findIn K (.ref (ga K c)) "__init__") (some (some (.ref (maF c "__init__" K)))) && (isFn K (.ref (maF c "__init__" K)) && PySem.W.keepIn K (.ref (ga K c))))
def kProp (c f : Str) : Fc := fun K => eqO (findIn K (.ref (ga K c)) f) (some (some (.ref (maF c f K)))) && (eqO (PySem.W.specialIn K (.ref (maF c f K)) "__get__") (some (some (.builtin "property.__get__"))) &&
  (decide (PySem.W.takesIn K (.ref (maF c f K)) = some true) && (match PySem.W.recIn K (maF c f K) "property" with
    | some (.ref _ :: _) => true
    | _ => false)))
def kOpL (op : Operator) (c : Str) : Fc := fun K => selfFirst K (ga K c) && (eqO (findIn K (.ref (ga K c)) (dunder op.info.2)) (some (some (.ref (maF c (dunder op.info.2) K)))) && (isFn K (.ref (maF c (dunder op.info.2) K)) &&
  ((match findIn K (.ref (ga K c)) (dunderR op.info.2) with
    | some none => true
    | some (some (.ref _)) => true
    | _ => false) && (isSm (findIn K (.type "int") (dunder op.info.2)) && (isSm (findIn K (.type "int") (dunderR op.info.2)) && decide (subIn K (.type "int") (.ref (ga K c)) = some false))))))
def kOpR (op : Operator) (c : Str) : Fc := fun K => selfFirst K (ga K c) && ((match findIn K (.ref (ga K c)) (dunder op.info.2) with
    | some (some (.ref _)) => true
    | _ => false) && (eqO (findIn K (.ref (ga K c)) (dunderR op.info.2)) (some (some (.ref (maF c (dunderR op.info.2) K)))) && (isFn K (.ref (maF c (dunderR op.info.2) K)) && decide (subIn K (.ref (ga K c)) (.type "int") = some false))))
def kInv (c : Str) : Fc := fun K => eqO (findIn K (.ref (ga K c)) "__invert__") (some (some (.ref (maF c "__invert__" K)))) && isFn K (.ref (maF c "__invert__" K))
def kEq (c : Str) : Fc := fun K => eqO (findIn K (.ref (ga K c)) "__eq__") (some (some (.ref (maF c "__eq__" K)))) && (isFn K (.ref (maF c "__eq__" K)) && ["NoneType", "bool", "int", "str", "list", "tuple"].all fun T => decide (subIn K (.type T) (.ref (ga K c)) = some false))
def kIs (tab : List (Str × Bool)) (c : Str) : Fc := fun K => (tab.all fun p => kCls p.1 K && (eqO (findIn K (.ref (ga K p.1)) "__class__") (some (some (.builtin "object.__class__"))) && (decide (PySem.W.mroIn K (ga K p.1) (.type "object") = some true) && decide (PySem.W.kitOne K (.ref (ga K p.1)) (.ref (ga K c)) = some p.2)))) &&
  (eqO (PySem.W.specialIn K (.builtin "object.__class__") "__get__") (some (some (.builtin "getset_descriptor.__get__"))) && (decide (PySem.W.takesIn K (.builtin "object.__class__") = some true) &&
    ["NoneType", "bool", "int", "str", "list", "tuple", "dict"].all fun T => decide (PySem.W.kitOne K (.type T) (.ref (ga K c)) = some false)))
/-- an own exception class with its own __init__, over ValueError -/
def kExc (c : Str) : Fc := fun K => (match K.lookup (ga K c) with
    | some ⟨.type t, _, .cls cd, sl⟩ => decide (t = "type") && ((match cd.mro, sl.toList with
      | .ref C' :: bm, [_, _, _, _, some (.builtin n), _] => decide (C' = ga K c) && (decide (n = "ValueError.__new__") && PySem.HandSPX.refsVE bm)
      | _, _ => false) && (cd.hasDict && !cd.hasDel))
    | _ => false) && (eqO (findIn K (.ref (ga K c)) "__setattr__") (some (some (.builtin "object.__setattr__"))) && (decide (subIn K (.ref (ga K c)) (.type "BaseException") = some true) && (decide (PySem.W.typeIn K (.ref (ga K c)) = some (.type "type")) && PySem.W.keepIn K (.ref (ga K c)))))
def kInit (c d : Str) : Fc := fun K => eqO (findIn K (.ref (ga K c)) "__init__") (some (some (.ref (maF d "__init__" K)))) && decide (PySem.W.typeIn K (.ref (maF d "__init__" K)) = some (.type "function"))
section
variable {K : Frag} {h : Heap} {mg : Str → Option Value} {c m f x : Str}
theorem glo_of (X : K.In h) (G : h.Ns mainGlobals mg) (e : kGlo x K = true) : mg x = some (.ref (ga K x)) := PySem.W.mg_of X G (eqO_ok e)
theorem free_of (X : K.In h) (G : h.Ns mainGlobals mg) (e : kFree x K = true) : mg x = none := PySem.W.mg_none_of X G (eqO_ok e)
theorem str_of {z : Str} (X : K.In h) (G : h.Ns mainGlobals mg) (e : kStr x z K = true) : ∃ t, mg x = some (.str z t) := by
  unfold kStr at e
  split at e
  · rename_i y t q
    cases of_decide_eq_true e
    exact ⟨t, PySem.W.mg_of X G q⟩
  · cases e
theorem cls_of (e : kCls c K = true) : Cls K (ga K c) := by
  obtain ⟨a, e⟩ := ba e
  obtain ⟨b, e⟩ := ba e
  obtain ⟨d, e⟩ := ba e
  exact ⟨a, b, d, eqO_ok e⟩
theorem no_of (e : kNo c f K = true) : NoAttr K (ga K c) f := eqO_ok e
theorem meth_of (e : kMeth c m K = true) : Meth K (ga K c) m (maF c m K) := by
  obtain ⟨a, e⟩ := ba e
  obtain ⟨b, e⟩ := ba e
  exact ⟨eqO_ok a, b, e⟩
theorem mk_of' (e : kMk c K = true) : Mk K (ga K c) (maF c "__init__" K) := by
  obtain ⟨a, e⟩ := ba e
  obtain ⟨b, e⟩ := ba e
  obtain ⟨d, e⟩ := ba e
  exact ⟨a, eqO_ok b, d, e⟩
theorem prop_of (e : kProp c f K = true) : PropOf K (ga K c) f (maF c f K) (prF c f K) := by
  obtain ⟨a, e⟩ := ba e
  obtain ⟨b, e⟩ := ba e
  obtain ⟨d, e⟩ := ba e
  refine ⟨eqO_ok a, eqO_ok b, of_decide_eq_true d, ?_⟩
  split at e
  · rename_i g r q
    refine ⟨r, ?_⟩
    have : prF c f K = g := by
      show prAt K (ga K c) f = g
      unfold prAt
      have q' : PySem.W.recIn K (ma K (ga K c) f) "property" = some (.ref g :: r) := q
      rw [q']
    rw [this]
    exact q
  · cases e
theorem opL_of {op : Operator} (e : kOpL op c K = true) : OpL K op (ga K c) (maF c (dunder op.info.2) K) := by
  obtain ⟨a1, e⟩ := ba e
  obtain ⟨a2, e⟩ := ba e
  obtain ⟨a3, e⟩ := ba e
  obtain ⟨a4, e⟩ := ba e
  obtain ⟨a5, e⟩ := ba e
  obtain ⟨a6, e⟩ := ba e
  refine ⟨a1, eqO_ok a2, a3, ?_, ?_, ?_, of_decide_eq_true e⟩
  · split at a4
    · rename_i q; exact ⟨_, q, .inl rfl⟩
    · rename_i g q; exact ⟨_, q, .inr ⟨g, rfl⟩⟩
    · cases a4
  · cases q : findIn K (.type "int") (dunder op.info.2) with
    | none => rw [q] at a5; cases a5
    | some r => exact ⟨r, rfl⟩
  · cases q : findIn K (.type "int") (dunderR op.info.2) with
    | none => rw [q] at a6; cases a6
    | some r => exact ⟨r, rfl⟩
theorem opR_of {op : Operator} (e : kOpR op c K = true) : OpRv K op (ga K c) (maF c (dunderR op.info.2) K) := by
  obtain ⟨a1, e⟩ := ba e
  obtain ⟨a2, e⟩ := ba e
  obtain ⟨a3, e⟩ := ba e
  obtain ⟨a4, e⟩ := ba e
  refine ⟨a1, ?_, eqO_ok a3, a4, of_decide_eq_true e⟩
  split at a2
  · rename_i g q; exact ⟨g, q⟩
  · cases a2
theorem inv_of (e : kInv c K = true) : OpU K (ga K c) (maF c "__invert__" K) := by
  obtain ⟨a1, e⟩ := ba e
  exact ⟨eqO_ok a1, e⟩
theorem eq_of (e : kEq c K = true) : OpE K (ga K c) (maF c "__eq__" K) := by
  obtain ⟨a1, e⟩ := ba e
  obtain ⟨a2, e⟩ := ba e
  exact ⟨eqO_ok a1, a2, fun T hT => of_decide_eq_true (List.all_eq_true.mp e T hT)⟩
theorem is_of {tab : List (Str × Bool)} (e : kIs tab c K = true) : IsOk K tab (ga K c) := by
  obtain ⟨a1, e⟩ := ba e
  obtain ⟨a2, e⟩ := ba e
  obtain ⟨a3, e⟩ := ba e
  refine ⟨fun d b q => ?_, eqO_ok a2, of_decide_eq_true a3, fun T hT => of_decide_eq_true (List.all_eq_true.mp e T hT)⟩
  have h := List.all_eq_true.mp a1 (d, b) (lk_mem q)
  obtain ⟨b1, h⟩ := ba h
  obtain ⟨b2, h⟩ := ba h
  obtain ⟨b3, h⟩ := ba h
  exact ⟨cls_of b1, eqO_ok b2, of_decide_eq_true b3, of_decide_eq_true h⟩
where
  lk_mem {l : List (Str × Bool)} {d : Str} {b : Bool} (q : l.lookup d = some b) : (d, b) ∈ l := by
    induction l with
    | nil => cases q
    | cons p l ih =>
      obtain ⟨k, v⟩ := p
      rw [List.lookup_cons] at q
      split at q
      · rename_i hb
        cases q
        rw [eq_of_beq hb]
        exact List.mem_cons_self ..
      · exact List.mem_cons_of_mem _ (ih q)
theorem exc_of (e : kExc c K = true) : OexC K (ga K c) := by
  obtain ⟨a1, e⟩ := ba e
  obtain ⟨a2, e⟩ := ba e
  obtain ⟨a3, e⟩ := ba e
  obtain ⟨a4, e⟩ := ba e
  refine ⟨?_, eqO_ok a2, of_decide_eq_true a3, of_decide_eq_true a4, e⟩
  split at a1
  · rename_i t dd cd sl ho
    obtain ⟨b1, a1⟩ := ba a1
    obtain ⟨b2, a1⟩ := ba a1
    obtain ⟨b3, b4⟩ := ba a1
    cases of_decide_eq_true b1
    split at b2
    · rename_i C' bm k0 k1 k2 k3 n k5 hm hs
      obtain ⟨c1, b2⟩ := ba b2
      obtain ⟨c2, c3⟩ := ba b2
      have c1 := of_decide_eq_true c1
      have c2 := of_decide_eq_true c2
      obtain ⟨nm, bs, mro, ns, qn, hd, sn, sub, ab, col, del⟩ := cd
      dsimp only at hm b3 b4
      subst hm b3 c2
      have hdel : del = false := by
        cases del with
        | false => rfl
        | true => cases b4
      subst hdel
      have hsl : sl = #[k0, k1, k2, k3, some (.builtin "ValueError.__new__"), k5] := by
        apply Array.ext'
        rw [hs]
      subst hsl
      rw [c1] at ho
      exact ⟨nm, qn, ns, bs, bm, sn, sub, ab, col, dd, k0, k1, k2, k3, k5, ho, c3⟩
    · cases b2
  · cases a1
theorem init_of {d : Str} (e : kInit c d K = true) : findIn K (.ref (ga K c)) "__init__" = some (some (.ref (maF d "__init__" K))) ∧ PySem.W.typeIn K (.ref (maF d "__init__" K)) = some (.type "function") := by
  obtain ⟨a1, e⟩ := ba e
  exact ⟨eqO_ok a1, of_decide_eq_true e⟩
end
/-! ### the Hook -/
abbrev DefA := He5.DefA
def obsP (fc : List Fc) (fn : List DefA) (K : Frag) : He.AlD := ((fc.all fun f => f K) && fn.all fun d => d.ok K, fn.map fun d => He5.fnA K (d.at_ K))
def valP (fn : List DefA) : He.AlD := (true, fn.map He5.DefA.val)
def SaysP (fc : List Fc) (fn : List DefA) (K : Frag) : Prop := obsP fc fn K = valP fn
def asP (g : Addr → Option Obj) (n : Nat) : List Addr := He.asD g n ++ [cStatics]
def obsPG (n : Nat) (fc : List Fc) (fn : List DefA) (g : Addr → Option Obj) : He.AlD := obsP fc fn (He.frG g (asP g n))
def hookP (n : Nat) (fc : List Fc) (fn : List DefA) : PySem.W.Hook where
  α := He.AlD
  obs := fun s => obsPG n fc fn s.heap.get?
  val := fun _ => valP fn
  says := fun _ h => ∃ K : Frag, K.In h ∧ SaysP fc fn K
  of := fun _ _ e => ⟨_, He.frG_in, e⟩
  keeps := fun _ _ _ ⟨K, hK, c⟩ k => ⟨K, Frag.In.keeps hK k, c⟩
theorem obsPG_eq {n : Nat} {fc : List Fc} {fn : List DefA} {g : Addr → Option Obj} {s : Shared} (h : ∀ a, g a = s.heap.get? a) : obsPG n fc fn g = (hookP n fc fn).obs s := by
  have e : g = s.heap.get? := funext h
  rw [e] <;> rfl
section
variable {fc : List Fc} {fn : List DefA} {K : Frag}
theorem SaysP.fact (c : SaysP fc fn K) (i : Nat) {f : Fc} (h : fc[i]? = some f) : f K = true := by
  have c1 := (ba (show ((fc.all fun f => f K) && fn.all fun d => d.ok K) = true from congrArg (fun z : He.AlD => z.1) c)).1
  exact List.all_eq_true.mp c1 f (List.mem_of_getElem? h)
theorem SaysP.def_ (c : SaysP fc fn K) (i : Nat) {d : DefA} (h : fn[i]? = some d) : ∃ fd, FunD K d.name d.qual d.params d.body d.scope (d.dvs K) (d.kws K) (d.at_ K) fd := by
  have c2 := (ba (show ((fc.all fun f => f K) && fn.all fun d => d.ok K) = true from congrArg (fun z : He.AlD => z.1) c)).2
  have e : fn.map (fun d => He5.fnA K (d.at_ K)) = fn.map He5.DefA.val := congrArg (fun z : He.AlD => z.2) c
  have e2 : (fn.map fun d => He5.fnA K (d.at_ K))[i]? = (fn.map He5.DefA.val)[i]? := by rw [e]
  rw [List.getElem?_map, List.getElem?_map, h] at e2
  exact He5.DefA.funD (Option.some.inj e2) (List.all_eq_true.mp c2 d (List.mem_of_getElem? h))
end
end PI

set_option Elab.async false
set_option linter.all false
set_option maxRecDepth 100000
set_option maxHeartbeats 1000000
namespace PI
open PySem PySem.Spec PyProof.Rows L2
open PySem.W (Frag InstAt findIn isFn selfFirst subIn Looks)
/-! ### words over a def's context -/
structure Ct (P : Program) (w : World) (K : Frag) (mg : Str → Option Value) (base : Heap) (N : List Str) (sc : Scope) (k : Nat) (X : Cx) (W : WX) : Prop where
  prog : X.prog = P
  w : X.w = w
  K : X.K = K
  mg : X.mg = mg
  base : X.base = base
  N : X.N = N
  sc : X.env.scope = sc
  room : Room k X.A
  gu : X.A.guards = some []
  tk : Takes X W
  calm : X.calm = true
  nd : X.N.Nodup
def visB (sc : Scope) (x : Str) : Bool := match sc.names.lookup x with
  | some .local => true
  | some .cell => true
  | some .free => true
  | _ => false
def locB (sc : Scope) (x : Str) : Bool := match sc.names.lookup x with
  | some .local => true
  | some .cell => true
  | _ => false
def isLoc (sc : Scope) (x : Str) : Bool := match sc.names.lookup x with
  | some .local => true
  | _ => false
def glB (sc : Scope) (x : Str) : Bool := match sc.names.lookup x with
  | some .globalImplicit => true
  | _ => false
/-- a local's name: its place, and that it may be read -/
def okV (N : List Str) (sc : Scope) (i : Nat) (x : Str) : Bool := decide (N[i]? = some x) && (visB sc x && (!(x == ("__debug__" : Str)) && !(x == ("__classdict__" : Str))))
def okL (N : List Str) (sc : Scope) (i : Nat) (x : Str) : Bool := decide (N[i]? = some x) && locB sc x
def okG (sc : Scope) (x : Str) : Bool := glB sc x && !(x == ("__debug__" : Str))
def bootB (x : Str) (u : Value) : Bool := match bootBuiltins x, u with
  | some (.builtin a), .builtin b => decide (a = b)
  | some (.type a), .type b => decide (a = b)
  | _, _ => false
def okB (sc : Scope) (x : Str) (u : Value) : Bool := glB sc x && (!(x == ("__debug__" : Str)) && (!(x == ("__name__" : Str)) && bootB x u))
section
variable {P : Program} {w : World} {K : Frag} {M : Memo} {mg : Str → Option Value} {base : Heap} {N : List Str} {sc : Scope} {k : Nat} {X : Cx} {W : WX} {x y z f m c : Str} {p pos p1 p2 p3 apos : Pos} {e a b : Expr} {fx : List Nat} {i j l : Nat}
theorem Ct.hu (c : Ct P w K mg base N sc k X W) : X.A.units + 64 < cLine := c.room.units
theorem vis_of (h : visB sc x = true) : Vis sc x := by
  unfold visB at h
  split at h
  · rename_i q; exact .inl q
  · rename_i q; exact .inr (.inl q)
  · rename_i q; exact .inr (.inr q)
  · cases h
theorem loc_of (h : locB sc x = true) : Loc sc x := by
  unfold locB at h
  split at h
  · rename_i q; exact .inl q
  · rename_i q; exact .inr q
  · cases h
theorem isLoc_of (h : isLoc sc x = true) : sc.names.lookup x = some .local := by
  unfold isLoc at h
  split at h
  · rename_i q; exact q
  · cases h
theorem gl_of (h : glB sc x = true) : sc.names.lookup x = some .globalImplicit := by
  unfold glB at h
  split at h
  · rename_i q; exact q
  · cases h
theorem notT {b : Bool} (h : (!b) = true) : b = false := by cases b <;> first | rfl | cases h
theorem wVar (c : Ct P w K mg base N sc k X W) (h : okV N sc i x = true) : PE X (.Name x p) (tVar i) := by
  obtain ⟨h1, h⟩ := He.ba h
  obtain ⟨h2, h⟩ := He.ba h
  obtain ⟨h3, h4⟩ := He.ba h
  exact pe_var (by rw [c.N]; exact of_decide_eq_true h1) (by rw [c.sc]; exact vis_of h2) (notT h3) (notT h4)
theorem wV (c : Ct P w K mg base N sc k X W) (h : okV N sc i x = true) : PE X (.Name x p) (tP X.K M W (pV i)) := pe_V (wVar c h)
theorem wN (c : Ct P w K mg base N sc k X W) (h : okV N sc i x = true) : PE X (.Name x p) (tO X.K M W (.nm i)) := pe_Onm (wVar c h)
theorem wX {mm : PX} (h : PE X e (tP X.K M W mm)) : PE X e (tO X.K M W (.ex mm)) := pe_Oex h
theorem kI {n : Int} {j : Nat} : PE X (.Constant (.int n) j p) (tP X.K M W (pC (.int n))) := pe_C pe_int fun _ => rfl
theorem kS {n : Str} {j : Nat} : PE X (.Constant (.str n) j p) (tP X.K M W (pC (.str n))) := pe_C pe_str fun _ => rfl
theorem kB {n : Bool} {j : Nat} : PE X (.Constant (.bool n) j p) (tP X.K M W (pC (.bl n))) := pe_C pe_bl fun _ => rfl
theorem kN {j : Nat} : PE X (.Constant .none j p) (tP X.K M W (pC .non)) := pe_C pe_non fun _ => rfl
theorem Ct.gl (c : Ct P w K mg base N sc k X W) (h : glB sc x = true) : Gl X x := by
  show X.env.scope.names.lookup x = _
  rw [c.sc]
  exact gl_of h
theorem wGS (c : Ct P w K mg base N sc k X W) (h : okG sc x = true) (hm : ∃ t, mg x = some (.str z t)) : PE X (.Name x p) (tP X.K M W (pC (.str z))) := by
  obtain ⟨h1, h2⟩ := He.ba h
  obtain ⟨t, ht⟩ := hm
  exact pe_C (pe_glob (c.gl h1) (by rw [c.mg]; exact ht) (show RelV (.str z) (.str z t) from ⟨t, rfl⟩) (notT h2)) fun _ => rfl
/-! arguments, lists -/
theorem wL0 : PA X [] (tL X.K M W (pAll [])) := pa_all0
theorem wLc {es : List Expr} {mm : PX} {ms : List PX} (hp : PE X e (tP X.K M W mm)) (hr : PA X es (tL X.K M W (pAll ms))) (hs : noStar e = true) : PA X (e :: es) (tL X.K M W (pAll (mm :: ms))) := pa_allc hp hr (star_of hs)
theorem wO0 : PA X [] (tOs X.K M W []) := pa_O0
theorem wOc {es : List Expr} {o : Op} {os : List Op} (hp : PE X e (tO X.K M W o)) (hr : PA X es (tOs X.K M W os)) (hs : noStar e = true) : PA X (e :: es) (tOs X.K M W (o :: os)) := pa_Oc hp hr (star_of hs)
/-! built-ins -/
theorem bootB_of {u : Value} (h : bootB x u = true) : bootBuiltins x = some u := by
  unfold bootB at h
  split at h
  · rename_i q; cases of_decide_eq_true h; exact q
  · rename_i q; cases of_decide_eq_true h; exact q
  · cases h
theorem okB_b {u : Value} (h : okB sc x u = true) : glB sc x = true ∧ (x == ("__debug__" : Str)) = false ∧ x ≠ "__name__" ∧ bootBuiltins x = some u := by
  obtain ⟨h1, h⟩ := He.ba h
  obtain ⟨h2, h⟩ := He.ba h
  obtain ⟨h3, h⟩ := He.ba h
  refine ⟨h1, notT h2, fun z => ?_, ?_⟩
  · rw [z] at h3; cases h3
  · exact bootB_of h
theorem wCB (c : Ct P w K mg base N sc k X W) {id : String} {ff : List D → Sg → Rs D} {es : List Expr} {os : List Op} (h : okB sc x (.builtin id) = true) (hm : mg x = none) (hc : CallS X (.builtin id) (rFN X.K M W ff)) (ha : PA X (e :: es) (tOs X.K M W os)) (hes : (e :: es).all noStar = true) :
    PE X (.Call (.Name x p) (e :: es) [] pos) (tP X.K M W (pOps ff os)) := by
  obtain ⟨h1, h2, h3, h4⟩ := okB_b h
  rw [List.all_cons, Bool.and_eq_true] at hes
  exact pe_callBS hc (c.gl h1) (by rw [c.mg]; exact hm) h4 ha h3 h2 (star_of hes.1) (stars_of hes.2)
theorem wCT (c : Ct P w K mg base N sc k X W) {T : String} {ff : List D → Sg → Rs D} {es : List Expr} {os : List Op} (h : okB sc x (.type T) = true) (hm : mg x = none) (hc : CallS X (.type T) (rFN X.K M W ff)) (ha : PA X (e :: es) (tOs X.K M W os)) (hes : (e :: es).all noStar = true) :
    PE X (.Call (.Name x p) (e :: es) [] pos) (tP X.K M W (pOps ff os)) := by
  obtain ⟨h1, h2, h3, h4⟩ := okB_b h
  rw [List.all_cons, Bool.and_eq_true] at hes
  exact pe_callTS hc (c.gl h1) (by rw [c.mg]; exact hm) h4 ha h3 h2 (star_of hes.1) (stars_of hes.2)
/-! own defs, by name: level j -/
/-- a def of the text, at level j, by n positional values and the names ks -/
def FnC (P : Program) (w : World) (K : Frag) (M : Memo) (mg : Str → Option Value) (base : Heap) (j : Nat) (f : Addr) (ps : List Str) (ff : List D → Cr) (rf : List Nat) : Prop :=
  ∃ fd, FnG P w K mg base j f fd ps (spF K M ff rf ps.length) ∧ PySem.W.keepIn K (.ref f) = true
/-- the same with how it is bound -/
def FnB (P : Program) (w : World) (K : Frag) (M : Memo) (mg : Str → Option Value) (base : Heap) (j : Nat) (f : Addr) (ff : List D → Cr) (rf : List Nat) (n : Nat) (ks : List Str) (pm : Pm) : Prop :=
  ∃ fd ps, FnG P w K mg base j f fd ps (spF K M ff rf ps.length) ∧ PySem.W.keepIn K (.ref f) = true ∧ BindP K fd ps n ks pm
theorem wCall (c : Ct P w K mg base N sc k X W) {f : Addr} {ff : List D → Cr} {rf : List Nat} {pm : Pm} {es : List Expr} {kws : List Keyword} {as bs : List Ar} (F : FnB P w K M mg base j f ff rf as.length (kwNames kws) pm) (hj : j ≤ k) (h : okG sc x = true) (hm : mg x = some (.ref f))
    (ha : PA X es (tA X.K M W as)) (hkw : PK X kws (tA X.K M W bs)) (hck : (decide (as.length = es.length) && (decide (bs.length = (kwNames kws).length) && (distinct ((as ++ bs).map nmA) && (distinct (pm.map inlOf) && (es.all noStar && kws.all (·.arg.isSome)))))) = true) :
    PE X (.Call (.Name x p) es kws pos) (tP X.K M W (pCall ff rf (as ++ bs) pm)) := by
  obtain ⟨h1, h2⟩ := He.ba h
  obtain ⟨k1, hck⟩ := He.ba hck
  obtain ⟨k2, hck⟩ := He.ba hck
  obtain ⟨k3, hck⟩ := He.ba hck
  obtain ⟨k4, hck⟩ := He.ba hck
  obtain ⟨k5, k6⟩ := He.ba hck
  obtain ⟨fd, ps, G, kp, hb⟩ := F
  have gl := c.gl h1
  obtain ⟨rfl, rfl, rfl, rfl, rfl, rfl, rfl, room, gu, tk, calm, nd⟩ := c
  exact pe_Call G (room.mono hj) gu tk gl hm kp hb ha hkw (of_decide_eq_true k1) (of_decide_eq_true k2) k3 k4 k5 k6 (notT h2)
theorem wNew (c : Ct P w K mg base N sc k X W) {cn : Str} {ff : List D → Cr} {rf : List Nat} {pm : Pm} {es : List Expr} {kws : List Keyword} {as bs : List Ar} (C : Mk K (He.ga K cn) (maF cn "__init__" K)) (F : FnB P w K M mg base j (maF cn "__init__" K) ff rf (as.length + 1) (kwNames kws) pm) (hj : j + 1 ≤ k) (h : okG sc x = true) (hm : mg x = some (.ref (He.ga K cn)))
    (pl : ∀ dx fs, M.plain (.ins (He.ga K cn) dx fs)) (ha : PA X es (tA X.K M W as)) (hkw : PK X kws (tA X.K M W bs)) (h0 : pm[0]? = some (.inl 0)) (hck : (decide (as.length = es.length) && (decide (bs.length = (kwNames kws).length) && (distinct ((as ++ bs).map nmA) && (distinct (pm.map inlOf) && (es.all noStar && kws.all (·.arg.isSome)))))) = true) :
    PE X (.Call (.Name x p) es kws pos) (tP X.K M W (pNew cn ff rf (as ++ bs) pm)) := by
  obtain ⟨h1, h2⟩ := He.ba h
  obtain ⟨k1, hck⟩ := He.ba hck
  obtain ⟨k2, hck⟩ := He.ba hck
  obtain ⟨k3, hck⟩ := He.ba hck
  obtain ⟨k4, hck⟩ := He.ba hck
  obtain ⟨k5, k6⟩ := He.ba hck
  obtain ⟨fd, ps, G, kp, hb⟩ := F
  have gl := c.gl h1
  obtain ⟨rfl, rfl, rfl, rfl, rfl, rfl, rfl, room, gu, tk, calm, nd⟩ := c
  exact pe_New C G (room.mono hj) gu tk gl hm hb h0 pl ha hkw (of_decide_eq_true k1) (of_decide_eq_true k2) k3 k4 k5 k6 (notT h2)
end
end PI

set_option Elab.async false
set_option linter.all false
set_option maxRecDepth 100000
set_option maxHeartbeats 1000000
namespace PI
open PySem PySem.Spec PyProof.Rows L2
open PySem.W (Frag InstAt findIn isFn selfFirst subIn Looks)
section
variable {P : Program} {w : World} {K : Frag} {M : Memo} {mg : Str → Option Value} {base : Heap} {N : List Str} {sc : Scope} {k : Nat} {X : Cx} {W : WX} {x y z f m cn : Str} {p pos p1 p2 p3 apos : Pos} {e a b o : Expr} {fx : List Nat} {i j l : Nat} {es : List Expr} {kws : List Keyword} {as bs : List Ar}
/-! methods, properties, fields, own operators: what the written part must say, level by level -/
def CdF (P : Program) (w : World) (K : Frag) (M : Memo) (mg : Str → Option Value) (base : Heap) (k : Nat) (m : Str) (n : Nat) (ks : List Str) (cs : List Cd) : Prop :=
  ∀ cd ∈ cs, ∃ j f, j ≤ k ∧ FnB P w K M mg base j f cd.ff cd.rf n ks cd.pm ∧ Cls K (He.ga K cd.c) ∧ Meth K (He.ga K cd.c) m f ∧ distinct (cd.pm.map inlOf) = true
def PdF (P : Program) (w : World) (K : Frag) (M : Memo) (mg : Str → Option Value) (base : Heap) (k : Nat) (f : Str) (cs : List Cd) : Prop :=
  ∀ cd ∈ cs, ∃ j g pa, j + 1 ≤ k ∧ FnB P w K M mg base j g cd.ff cd.rf 1 [] cd.pm ∧ Cls K (He.ga K cd.c) ∧ PropOf K (He.ga K cd.c) f pa g ∧ distinct (cd.pm.map inlOf) = true
def CaF (P : Program) (w : World) (K : Frag) (M : Memo) (mg : Str → Option Value) (base : Heap) (k n : Nat) (cd : Cd) (f : Addr) : Prop :=
  ∃ j, j ≤ k ∧ FnB P w K M mg base j f cd.ff cd.rf n [] cd.pm ∧ distinct (cd.pm.map inlOf) = true
def OpF (P : Program) (w : World) (K : Frag) (M : Memo) (mg : Str → Option Value) (base : Heap) (k : Nat) (op : Operator) (ls rs : List Cd) : Prop :=
  (∀ cd ∈ ls, ∃ f, CaF P w K M mg base k 2 cd f ∧ OpL K op (He.ga K cd.c) f) ∧ (∀ cd ∈ rs, ∃ f, CaF P w K M mg base k 2 cd f ∧ OpRv K op (He.ga K cd.c) f) ∧ (rs ≠ [] → OpI op)
def EqF (P : Program) (w : World) (K : Frag) (M : Memo) (mg : Str → Option Value) (base : Heap) (k : Nat) (es : List Cd) : Prop := ∀ cd ∈ es, ∃ f, CaF P w K M mg base k 2 cd f ∧ OpE K (He.ga K cd.c) f
def InF (P : Program) (w : World) (K : Frag) (M : Memo) (mg : Str → Option Value) (base : Heap) (k : Nat) (cs : List Cd) : Prop := ∀ cd ∈ cs, ∃ f, CaF P w K M mg base k 1 cd f ∧ OpU K (He.ga K cd.c) f
theorem ca_of {n : Nat} {cd : Cd} {fa : Addr} (hr : Room k X.A) (h : CaF X.prog X.w X.K M X.mg X.base k n cd fa) : CaOk X M n cd fa := by
  obtain ⟨j, hj, ⟨fd, ps, G, kp, hb⟩, hd⟩ := h
  exact ⟨j, fd, ps, G, hr.mono hj, hb, hd⟩
theorem wMeth (c : Ct P w K mg base N sc k X W) {cs : List Cd} {a0 : Ar} {pl : Sem Bool} (C : CdF P w K M mg base k m (as.length + 1) (kwNames kws) cs) (ho : PAr X.K M W X o a0) (ha : PA X es (tA X.K M W as)) (hkw : PK X kws (tA X.K M W bs))
    (hck : (decide (as.length = es.length) && (decide (bs.length = (kwNames kws).length) && (distinct ((a0 :: (as ++ bs)).map nmA) && (es.all noStar && kws.all (·.arg.isSome))))) = true)
    (ht : eval (.Call (.Attribute o m apos) es kws pos) X.env = (do
      let ov ← eval o X.env
      standAt apos.atName
      let (f, first) ← holding [ov] (getMethod ov m pl)
      callWith pos f first (backTo pos (starEach es X.env)) (backToKw pos (keywordEach kws X.env)))) : PE X (.Call (.Attribute o m apos) es kws pos) (tP X.K M W (pMeth m cs a0 (as ++ bs))) := by
  obtain ⟨k1, hck⟩ := He.ba hck
  obtain ⟨k2, hck⟩ := He.ba hck
  obtain ⟨k3, hck⟩ := He.ba hck
  obtain ⟨k5, k6⟩ := He.ba hck
  obtain ⟨rfl, rfl, rfl, rfl, rfl, rfl, rfl, room, gu, tk, calm, nd⟩ := c
  refine pe_Meth (pl := pl) (fun cd hcd => ?_) gu tk ho ha hkw (of_decide_eq_true k1) (of_decide_eq_true k2) k3 k5 k6 ht
  obtain ⟨j, fa, hj, ⟨fd, ps, G, kp, hb⟩, h2, h3, h4⟩ := C cd hcd
  exact ⟨j, fa, fd, ps, G, room.mono hj, h2, h3, hb, h4⟩
theorem wProp (c : Ct P w K mg base N sc k X W) {cs : List Cd} {me : PX} (C : PdF P w K M mg base k f cs) (he : PE X e (tP X.K M W me)) (hab : attributeBase e f X.env (eval e X.env) = eval e X.env) : PE X (.Attribute e f pos) (tP X.K M W (pSl1 (propS cs) me)) := by
  obtain ⟨rfl, rfl, rfl, rfl, rfl, rfl, rfl, room, gu, tk, calm, nd⟩ := c
  refine pe_Prop (fun cd hcd => ?_) gu he hab
  obtain ⟨j, g, pa, hj, ⟨fd, ps, G, kp, hb⟩, h2, h3, h4⟩ := C cd hcd
  exact ⟨j, pa, g, fd, ps, G, room.mono hj, hb, h4, h2, h3⟩
theorem wFld (c : Ct P w K mg base N sc k X W) {fl : List (Str × Str)} {oa : Op} (T : FldOk K fl) (ha : PE X e (tO X.K M W oa)) (hb : attributeBase e f X.env (eval e X.env) = eval e X.env) : PE X (.Attribute e f pos) (tP X.K M W (pFld fl f oa)) := by
  obtain ⟨rfl, rfl, rfl, rfl, rfl, rfl, rfl, room, gu, tk, calm, nd⟩ := c
  exact pe_Fld T ha hb
/-- a field of some classes, a property of others: looked at first -/
def pFP (fl : List (Str × Str)) (cs : List Cd) (f : Str) (me : PX) : PX := fun g => match me g with
  | .ok d g1 => if ((clsD d).any fun c => fl.contains (c, f)) = true then pFld fl f (.ex me) g else pSl1 (propS cs) me g
  | .exc c d g1 => .exc c d g1
  | .bad => .bad
theorem wBin (c : Ct P w K mg base N sc k X W) {op : Operator} {ls rs : List Cd} {ma mb : PX} (C : OpF P w K M mg base k op ls rs) (ha : PE X a (tP X.K M W ma)) (hb : PE X b (tP X.K M W mb)) : PE X (.BinOp a op b pos) (tP X.K M W (pSl2 (binS op ls rs) ma mb)) := by
  obtain ⟨rfl, rfl, rfl, rfl, rfl, rfl, rfl, room, gu, tk, calm, nd⟩ := c
  refine pe_Bin ⟨fun cd hcd => ?_, fun cd hcd => ?_, C.2.2⟩ gu tk ha hb
  · obtain ⟨fa, h1, h2⟩ := C.1 cd hcd; exact ⟨fa, ca_of room h1, h2⟩
  · obtain ⟨fa, h1, h2⟩ := C.2.1 cd hcd; exact ⟨fa, ca_of room h1, h2⟩
theorem opF0 {op : Operator} : OpF P w K M mg base k op [] [] := ⟨fun _ z => (List.not_mem_nil z).elim, fun _ z => (List.not_mem_nil z).elim, fun z => (z rfl).elim⟩
theorem wOp (c : Ct P w K mg base N sc k X W) {op : Operator} {oa ob : Op} (ha : PE X a (tO X.K M W oa)) (hb : PE X b (tO X.K M W ob)) : PE X (.BinOp a op b pos) (tP X.K M W (pOp2 (fun d e g => ro (binD op d e) g) oa ob)) := pe_opS (bin_ok op) ha hb
theorem wInv (c : Ct P w K mg base N sc k X W) {cs : List Cd} {ma : PX} (C : InF P w K M mg base k cs) (ha : PE X a (tP X.K M W ma)) : PE X (.UnaryOp .Invert a pos) (tP X.K M W (pSl1 (invS cs) ma)) := by
  obtain ⟨rfl, rfl, rfl, rfl, rfl, rfl, rfl, room, gu, tk, calm, nd⟩ := c
  refine pe_Inv (fun cd hcd => ?_) gu tk ha
  obtain ⟨fa, h1, h2⟩ := C cd hcd; exact ⟨fa, ca_of room h1, h2⟩
/-! comparisons -/
theorem wCmp (c : Ct P w K mg base N sc k X W) {op : CmpOp} {oa ob : Op} (ha : PE X a (tO X.K M W oa)) (hb : PE X b (tO X.K M W ob)) (hm : behindInMarks op b = false) : PE X (.Compare a [op] [b] pos) (tP X.K M W (pOp2 (fun d e g => rb (cmpD op d e) g) oa ob)) := pe_cmpS (cmp_ok c.hu op) ha hb hm
theorem tCmp (c : Ct P w K mg base N sc k X W) {op : CmpOp} {oa ob : Op} (ha : PE X a (tO X.K M W oa)) (hb : PE X b (tO X.K M W ob)) (hm : behindInMarks op b = false) : PT X (.Compare a [op] [b] pos) (tB' X.K M W (pTest (pOp2 (fun d e g => rb (cmpD op d e) g) oa ob))) := pt_cmpS (cmp_ok c.hu op) ha hb hm
/-- == of what is looked at, dicts too -/
theorem wEqL (c : Ct P w K mg base N sc k X W) {oa ob : Op} (ha : PE X a (tO X.K M W oa)) (hb : PE X b (tO X.K M W ob)) (hm : behindInMarks .Eq b = false) : PE X (.Compare a [.Eq] [b] pos) (tP X.K M W (pOp2 (fun d e g => rb (eqL d e) g) oa ob)) := pe_cmpS (eqL_ok c.hu) ha hb hm
theorem tEqL (c : Ct P w K mg base N sc k X W) {oa ob : Op} (ha : PE X a (tO X.K M W oa)) (hb : PE X b (tO X.K M W ob)) (hm : behindInMarks .Eq b = false) : PT X (.Compare a [.Eq] [b] pos) (tB' X.K M W (pTest (pOp2 (fun d e g => rb (eqL d e) g) oa ob))) := pt_cmpS (eqL_ok c.hu) ha hb hm
theorem wEq (c : Ct P w K mg base N sc k X W) {es : List Cd} {ma mb : PX} (C : EqF P w K M mg base k es) (ha : PE X a (tP X.K M W ma)) (hb : PE X b (tP X.K M W mb)) (hm : behindInMarks .Eq b = false) : PE X (.Compare a [.Eq] [b] pos) (tP X.K M W (pSl2 (eqS es) ma mb)) := by
  have hu := c.hu
  obtain ⟨rfl, rfl, rfl, rfl, rfl, rfl, rfl, room, gu, tk, calm, nd⟩ := c
  refine pe_Eq hu (fun cd hcd => ?_) gu tk ha hb hm
  obtain ⟨fa, h1, h2⟩ := C cd hcd; exact ⟨fa, ca_of room h1, h2⟩
theorem tEq (c : Ct P w K mg base N sc k X W) {es : List Cd} {ma mb : PX} (C : EqF P w K M mg base k es) (ha : PE X a (tP X.K M W ma)) (hb : PE X b (tP X.K M W mb)) (hm : behindInMarks .Eq b = false) : PT X (.Compare a [.Eq] [b] pos) (tB' X.K M W (pTest (pSl2 (eqS es) ma mb))) := by
  have hu := c.hu
  obtain ⟨rfl, rfl, rfl, rfl, rfl, rfl, rfl, room, gu, tk, calm, nd⟩ := c
  refine pt_Eq hu (fun cd hcd => ?_) gu tk ha hb hm
  obtain ⟨fa, h1, h2⟩ := C cd hcd; exact ⟨fa, ca_of room h1, h2⟩
theorem eqF0 : EqF P w K M mg base k [] := fun _ z => (List.not_mem_nil z).elim
theorem wCh (c : Ct P w K mg base N sc k X W) {op op' : CmpOp} {e3 : Expr} {oa ob oc : Op} (ha : PE X a (tO X.K M W oa)) (hb : PE X b (tO X.K M W ob)) (hc : PE X e3 (tO X.K M W oc)) (hm : lastMarks [op, op'] [b, e3] = false) :
    PE X (.Compare a [op, op'] [b, e3] pos) (tP X.K M W (pCh op op' oa ob oc)) := pe_Ch c.hu ha hb hc hm
theorem tCh (c : Ct P w K mg base N sc k X W) {op op' : CmpOp} {e3 : Expr} {oa ob oc : Op} (ha : PE X a (tO X.K M W oa)) (hb : PE X b (tO X.K M W ob)) (hc : PE X e3 (tO X.K M W oc)) (hm : lastMarks [op, op'] [b, e3] = false) :
    PT X (.Compare a [op, op'] [b, e3] pos) (tB' X.K M W (pTest (pCh op op' oa ob oc))) := pt_Ch c.hu ha hb hc hm
theorem wIsi (c : Ct P w K mg base N sc k X W) {tab : List (Str × Bool)} {oa : Op} (T : IsOk K tab (He.ga K cn)) (h : okB sc "isinstance" (.builtin "isinstance") = true) (hm : mg "isinstance" = none) (h2 : okG sc cn = true) (hm2 : mg cn = some (.ref (He.ga K cn))) (he : PE X e (tO X.K M W oa)) (hs : noStar e = true) :
    PE X (.Call (.Name "isinstance" p) [e, .Name cn p3] [] pos) (tP X.K M W (pOp1 (fun d g => rb (isS tab d) g) oa)) := by
  obtain ⟨h1, _⟩ := okB_b h
  obtain ⟨h3, h4⟩ := He.ba h2
  have g1 := c.gl h1
  have g2 := c.gl h3
  obtain ⟨rfl, rfl, rfl, rfl, rfl, rfl, rfl, room, gu, tk, calm, nd⟩ := c
  exact pe_Isi (x := cn) T g1 hm g2 hm2 he hs (notT h4)
/-! ranges, enumerate, zip -/
variable {tg : Expr}
theorem iRng1 (c : Ct P w K mg base N sc k X W) {oa : Op} (h : okB sc "range" (.type "range") = true) (hm : mg "range" = none) (ha : PA X [a] (tOs X.K M W [oa])) (hs : noStar a = true) : PI X tg (.Call (.Name "range" p) [a] [] pos) (tI X.K M W (pRng [oa])) := pi_Rng1 (c.gl (okB_b h).1) (by rw [c.mg]; exact hm) ha hs
theorem iRng2 (c : Ct P w K mg base N sc k X W) {oa ob : Op} (h : okB sc "range" (.type "range") = true) (hm : mg "range" = none) (ha : PA X [a, b] (tOs X.K M W [oa, ob])) (hs : (noStar a && noStar b) = true) : PI X tg (.Call (.Name "range" p) [a, b] [] pos) (tI X.K M W (pRng [oa, ob])) :=
  pi_Rng2 (c.gl (okB_b h).1) (by rw [c.mg]; exact hm) ha (He.ba hs).1 (He.ba hs).2
theorem iEnum (c : Ct P w K mg base N sc k X W) {mm : PX} {elts : List Expr} {kk : Nat} (h : okB sc "enumerate" (.type "enumerate") = true) (hm : mg "enumerate" = none) (ha : PA X [a] (tL X.K M W (pAll [mm]))) (hs : noStar a = true) : PI X (.Tuple elts kk p2) (.Call (.Name "enumerate" p) [a] [] pos) (tI X.K M W (pItA enumA [mm])) := pi_Enum (c.gl (okB_b h).1) (by rw [c.mg]; exact hm) ha hs
theorem iZip (c : Ct P w K mg base N sc k X W) {ma mb : PX} {elts : List Expr} {kk : Nat} (h : okB sc "zip" (.type "zip") = true) (hm : mg "zip" = none) (ha : PA X [a, b] (tL X.K M W (pAll [ma, mb]))) (hs : (noStar a && noStar b) = true) : PI X (.Tuple elts kk p2) (.Call (.Name "zip" p) [a, b] [] pos) (tI X.K M W (pItA zipA [ma, mb])) :=
  pi_Zip (c.gl (okB_b h).1) (by rw [c.mg]; exact hm) ha (He.ba hs).1 (He.ba hs).2
/-! the targets -/
theorem wT0 : PGs X [] (gNs []) := pgs_n0
theorem fn_or (hf : (∀ y, X.fn y = true) ∨ isLoc X.env.scope x = true) : X.fn x = true ∨ X.env.scope.names.lookup x = some .local := hf.elim (fun h => .inl (h x)) fun h => .inr (isLoc_of h)
theorem wTc (c : Ct P w K mg base N sc k X W) {is : List Nat} (h : okL N sc i x = true) (hf : (∀ y, X.fn y = true) ∨ isLoc sc x = true) (hr : PGs X es (gNs is)) : PGs X (.Name x pos :: es) (gNs (i :: is)) := by
  obtain ⟨h1, h2⟩ := He.ba h
  rw [← c.sc] at h2 hf
  exact pgs_nc c.nd (by rw [c.N]; exact of_decide_eq_true h1) (loc_of h2) (fn_or hf) hr
theorem wTn (c : Ct P w K mg base N sc k X W) (h : okL N sc i x = true) (hf : (∀ y, X.fn y = true) ∨ isLoc sc x = true) : PG X (.Name x pos) (gP X.K (.nm i)) := by
  obtain ⟨h1, h2⟩ := He.ba h
  rw [← c.sc] at h2 hf
  exact pg_name c.nd (by rw [c.N]; exact of_decide_eq_true h1) (loc_of h2) (fn_or hf)
theorem wTt (c : Ct P w K mg base N sc k X W) {is : List Nat} {kk : Nat} (h : PGs X es (gNs is)) (hn : (assignEach es X.env).length = is.length) (hst : (assignEach es X.env).findIdx? (·.1) = none) : PG X (.Tuple es kk pos) (gP X.K (.tp is)) := pg_T c.calm h hn hst
end
/-! ### statements -/
structure Bd (P : Program) (w : World) (K : Frag) (mg : Str → Option Value) (base : Heap) (N : List Str) (sc : Scope) (k : Nat) (X : Cx) (W : WX) : Prop where
  ct : Ct P w K mg base N sc k X W
  hp : PassesOwn (model X.prog X.w) X.A X.env X.xe
  fn : ∀ x, X.fn x = true
theorem bd_of {P : Program} {w : World} {K : Frag} {mg : Str → Option Value} {base : Heap} {N : List Str} {sc : Scope} {k : Nat} {X : Cx} {W : WX} (nd : N.Nodup) (b : BodyX P w K mg base N sc k X W) : Bd P w K mg base N sc k X W :=
  ⟨⟨b.prog, b.w, b.K, b.mg, b.base, b.N, b.sc, b.room, b.gu, b.tk, b.calm, by rw [b.N]; exact nd⟩, b.hp, b.fn⟩
/-- within a comprehension -/
theorem Ct.blk {P : Program} {w : World} {K : Frag} {mg : Str → Option Value} {base : Heap} {N : List Str} {sc scope : Scope} {k : Nat} {X : Cx} {W : WX} (c : Ct P w K mg base N sc k X W) (s : Shared) (H : Hp) (C : Addr) (cl : List (Str × Addr)) (fp : List Addr) : Ct P w K mg base N (relS scope sc) k (X.blk s H scope (compEnvC scope cl C X.env) fp) W0 :=
  ⟨c.prog, c.w, c.K, c.mg, c.base, c.N, (by show relS scope X.env.scope = relS scope sc; rw [c.sc]), c.room, c.gu, takes0, c.calm, c.nd⟩
section
variable {P : Program} {w : World} {K : Frag} {M : Memo} {mg : Str → Option Value} {base : Heap} {N : List Str} {sc : Scope} {k : Nat} {X : Cx} {W : WX} {x y z f m cn : Str} {p pos p1 p2 p3 apos : Pos} {e a b o : Expr} {fx : List Nat} {i j l : Nat} {es : List Expr} {kws : List Keyword} {as bs : List Ar}
def notIn (i : Nat) (fx : List Nat) : Bool := !(fx.contains i)
theorem notIn_of (h : notIn i fx = true) : i ∉ fx := fun z => by
  unfold notIn at h
  rw [List.contains_iff_mem.mpr z] at h
  cases h
theorem sSet (c : Bd P w K mg base N sc k X W) {mm : PX} (h : okL N sc i x = true) (he : PE X e (tP X.K M W mm)) (hf : notIn i fx = true) (hs : swapsWith e (some (.Name x p1)) pos.line X.env = pure false) : PS X (.Assign [.Name x p1] e pos) (tF X.K M fx W (pSet i mm)) := by
  obtain ⟨h1, h2⟩ := He.ba h
  rw [← c.ct.sc] at h2
  exact ps_Set c.ct.nd (by rw [c.ct.N]; exact of_decide_eq_true h1) (loc_of h2) (.inl (c.fn x)) he (notIn_of hf) hs
theorem sSetT (c : Bd P w K mg base N sc k X W) {is : List Nat} {kk : Nat} {me : PX} (he : PE X e (tP X.K M W me)) (h : PGs X es (gNs is)) (hf : is.all (fun i => notIn i fx) = true) (hn : (assignEach es X.env).length = is.length) (hst : (assignEach es X.env).findIdx? (·.1) = none)
    (hs : swapsWithSole [.Tuple es kk p2] e pos.line X.env = pure false) (hw : swappedStores [.Tuple es kk p2] e X.env = pure none) (h1 : (assignEach [.Tuple es kk p2] X.env).map (·.2) = [assign (.Tuple es kk p2) X.env]) :
    PS X (.Assign [.Tuple es kk p2] e pos) (tF X.K M fx W (pSetT is me)) := ps_SetT c.ct.calm he h (fun i hi => notIn_of (List.all_eq_true.mp hf i hi)) hn hst hs hw h1
theorem sFst (c : Bd P w K mg base N sc k X W) {fl : List (Str × Str)} {me : PX} (T : FldOk K fl) (h : okV N sc i x = true) (he : PE X e (tP X.K M W me)) (hs : swapsWith e (some (.Attribute (.Name x p) f p1)) pos.line X.env = pure false) : PS X (.Assign [.Attribute (.Name x p) f p1] e pos) (tF X.K M fx W (pFst fl f i me)) :=
  ps_Fst (by rw [c.ct.K]; exact T) (wVar c.ct h) he hs
def okTg (fx : List Nat) : Tg → Bool
  | .nm i => notIn i fx
  | .tp is => is.all fun i => notIn i fx
theorem okTg_of {tg : Tg} (h : okTg fx tg = true) : tgOk fx tg := by
  cases tg with
  | nm i => exact notIn_of h
  | tp is => exact fun i hi => notIn_of (List.all_eq_true.mp h i hi)
theorem sFor (c : Bd P w K mg base N sc k X W) {iter tge : Expr} {body : List Stmt} {mi : PIt} {tg : Tg} {mb : PF} (hi : PI X tge iter (tI X.K M W mi)) (hg : PG X tge (gP X.K tg)) (ht : okTg fx tg = true) (hb : PSs X body (tF X.K M fx W mb))
    (hs : ∀ x, foldedSetIterable iter X.env x = pure x) : PS X (.For tge iter body [] pos) (tF X.K M fx W (pFor mi tg mb)) := ps_For c.hp c.ct.calm hi hg (okTg_of ht) hb hs
def inTg (vs : List Nat) : Tg → Bool
  | .nm i => vs.contains i
  | .tp is => is.all fun i => vs.contains i
theorem inTg_of {vs : List Nat} {tg : Tg} (h : inTg vs tg = true) : tgIn vs tg := by
  cases tg with
  | nm i => exact List.contains_iff_mem.mp h
  | tp is => exact fun i hi => List.contains_iff_mem.mp (List.all_eq_true.mp h i hi)
theorem wLcp (c : Ct P w K mg base N sc k X W) {elt tge iter : Expr} {ifs : List Expr} {scope : Scope} {vs : List Nat} (own : List (Str × Nat)) {mi : PIt} {tg : Tg} {mc : PT'} {me : PX} (hi : PI X tge iter (tI X.K M W mi)) (ok : blkC N sc scope own = true) (hvs : own.map (·.2) = vs) (ht : inTg vs tg = true)
    (hg : ∀ X' : Cx, X'.K = X.K → Ct P w K mg base N (relS scope sc) k X' W0 → PG X' tge (gP X'.K tg))
    (hcd : ∀ X' : Cx, X'.K = X.K → Ct P w K mg base N (relS scope sc) k X' W0 → PTs X' ifs (tB' X'.K M W0 mc))
    (he : ∀ X' : Cx, X'.K = X.K → Ct P w K mg base N (relS scope sc) k X' W0 → PE X' elt (tP X'.K M W0 me)) (hs : ∀ x, foldedSetIterable iter X.env x = pure x) :
    PE X (.ListComp elt [⟨tge, iter, ifs, 0⟩] scope pos) (tP X.K M W (pLc mi tg mc me vs)) :=
  pe_Lc c.calm c.nd hi (by rw [c.N, c.sc]; exact blkOk_by ok) hvs (inTg_of ht) (fun s H C cl fp => hg _ rfl (c.blk s H C cl fp)) (fun s H C cl fp => hcd _ rfl (c.blk s H C cl fp)) (fun s H C cl fp => he _ rfl (c.blk s H C cl fp)) hs
theorem sSetLc (c : Bd P w K mg base N sc k X W) {elt tge iter : Expr} {ifs : List Expr} {scope : Scope} {vs : List Nat} (own : List (Str × Nat)) {mi : PIt} {tg : Tg} {mc : PT'} {me : PX} (hy : okL N sc i y = true) (hyl : isLoc sc y = true)
    (hk : (match sc.kind with | .function => true | _ => false) = true) (hsa : (scope.names.any fun (n, k) => n == y && (k == .local || k == .cell)) = false) (hln : (p1.line == pos.line) = true)
    (hi : PI X tge iter (tI X.K M W mi)) (ok : blkC N sc scope own = true) (hvs : own.map (·.2) = vs) (ht : inTg vs tg = true) (hfx : notIn i fx = true)
    (hg : ∀ X' : Cx, X'.K = X.K → Ct P w K mg base N (relS scope sc) k X' W0 → PG X' tge (gP X'.K tg))
    (hcd : ∀ X' : Cx, X'.K = X.K → Ct P w K mg base N (relS scope sc) k X' W0 → PTs X' ifs (tB' X'.K M W0 mc))
    (he : ∀ X' : Cx, X'.K = X.K → Ct P w K mg base N (relS scope sc) k X' W0 → PE X' elt (tP X'.K M W0 me)) (hs : ∀ x, foldedSetIterable iter X.env x = pure x) :
    PS X (.Assign [.Name y p1] (.ListComp elt [⟨tge, iter, ifs, 0⟩] scope pos) p2) (tF X.K M fx W (pSet i (pLc mi tg mc me vs))) := by
  obtain ⟨h1, h2⟩ := He.ba hy
  have hyl' : X.env.scope.names.lookup y = some .local := by rw [c.ct.sc]; exact isLoc_of hyl
  refine ps_SetLc c.ct.calm c.ct.nd (by rw [c.ct.N]; exact of_decide_eq_true h1) hyl' ?_ hi (by rw [c.ct.N, c.ct.sc]; exact blkOk_by ok) hvs (inTg_of ht) (notIn_of hfx) (fun s H C cl fp => hg _ rfl (c.ct.blk s H C cl fp)) (fun s H C cl fp => hcd _ rfl (c.ct.blk s H C cl fp)) (fun s H C cl fp => he _ rfl (c.ct.blk s H C cl fp)) hs
  refine sw_true ?_ hyl' hln hsa
  rw [c.ct.sc]
  cases q : sc.kind <;> first | rfl | (rw [q] at hk; cases hk)
end
end PI

set_option Elab.async false
set_option linter.all false
set_option maxRecDepth 100000
set_option maxHeartbeats 1000000
namespace PI
open PySem PySem.Spec PyProof.Rows L2
open PySem.W (Frag InstAt findIn isFn selfFirst subIn Looks)
/-! ### sets of texts -/
def nmE (q : Int × Value) : Str := match q with
  | (_, .str z _) => z
  | _ => ⟨#[]⟩
def TxE (w : World) (q : Int × Value) : Prop := ∃ z u, q = (hashStr w z, Value.str z u)
/-- the set at b, whose members are zs -/
structure TxSet (w : World) (hp : Heap) (b : Addr) (zs : List Str) : Prop where
  ex : ∃ ob rows ep tab, hp.get? b = some ob ∧ ob.ExactSet ∧ ob.data = .set rows ep tab ∧ (∀ q ∈ rows.toList, TxE w q) ∧ (rows.toList.map nmE).Perm zs ∧ zs.Nodup ∧ zs.length < scanBound ∧ tab.fits rows.size = true ∧ Ris tab.place.toList ∧
    (w.params.followText "set-order" = true ∨ tab.led = true)
theorem nmE_of {w : World} {q : Int × Value} (h : TxE w q) : ∃ u, q.2 = Value.str (nmE q) u ∧ q.1 = hashStr w (nmE q) := by
  obtain ⟨z, u, rfl⟩ := h
  exact ⟨u, rfl, rfl⟩
theorem tx_elems {P : Program} {w : World} {l : List (Int × Value)} (g : ∀ q ∈ l, TxE w q) : ElemsOf (PySem.strKind P w) l := fun q hq => by
  obtain ⟨u, h1, h2⟩ := nmE_of (g q hq)
  exact ⟨⟨nmE q, by rw [h1]; exact strKind_is P w (nmE q) u, h2⟩, by rw [h1] <;> rfl⟩
theorem tx_is {P : Program} {w : World} {q : Int × Value} (g : TxE w q) (z : Str) : (PySem.strKind P w).is z q.2 = true ↔ nmE q = z := by
  obtain ⟨u, h1, _⟩ := nmE_of g
  rw [h1]
  show ((nmE q == z) = true) ↔ nmE q = z
  exact beq_iff_eq
theorem TxSet.mv {w : World} {hp hp' : Heap} {b : Addr} {zs : List Str} (R : TxSet w hp b zs) (k : ∀ ob, hp.get? b = some ob → hp'.get? b = some ob) : TxSet w hp' b zs := by
  obtain ⟨ob, rows, ep, tab, ho, r⟩ := R.ex
  exact ⟨ob, rows, ep, tab, k ob ho, r⟩
def addS (zs : List Str) (z : Str) : List Str := if z ∈ zs then zs else z :: zs
section
variable {P : Program} {w : World} {A : Around} {E : Value → Shared → Prop} {s : Shared} {b : Addr} {zs : List Str}
theorem tx_tail {g : Bool → Sem Unit} (hg : ∀ (c : Bool) (s₁ : Shared) (Q' : Unit → Shared → Prop), Q' () s₁ → wpAny (model P w) A (g c) Q' E s₁) {dum : Bool} {Q : Option Bool → Shared → Prop}
    {ob : Obj} {rows rows1 : Array (Int × Value)} {ep : Nat} {tab tab1 : SetTable} (ho : s.heap.get? b = some ob) (hx : ob.ExactSet) (hd : ob.data = .set rows ep tab)
    (g1 : ∀ q ∈ rows1.toList, TxE w q) (pm : (rows1.toList.map nmE).Perm zs) (nd : zs.Nodup) (hb : zs.length < scanBound) (hf : tab1.fits rows1.size = true) (hr : Ris tab1.place.toList) (hl : w.params.followText "set-order" = true ∨ tab1.led = true)
    (hQ : ∀ hp, Heap.SameBut b s.heap hp → TxSet w hp b zs → Q (some true) { s with heap := hp }) :
    wpAny (model P w) A (do
        storeSet b rows1 tab1
        if (!dum && tab1.tooFull) = true then do
            g (relayAll tab1 rows1 (SetTable.grown rows1.size)).2.2
            storeSet b (relayAll tab1 rows1 (SetTable.grown rows1.size)).1 (relayAll tab1 rows1 (SetTable.grown rows1.size)).2.1
            pure (some true)
          else pure (some true)) Q E s := by
  have ln : rows1.size = zs.length := by rw [← pm.length_eq, List.length_map, Array.length_toList]
  refine wpAny_bind (wpAny_storeSet_of ho hd ?_ (fits_of_scanBound (by rw [ln]; exact hb)))
  have at1 := store_at (es' := rows1) (t' := tab1) ho hd
  have but1 := Heap.SameBut.update s.heap b (Obj.putSet rows1 tab1)
  split
  · have p2 := relayAll_perm tab1 rows1 (SetTable.grown rows1.size)
    have f2 := relayAll_fits tab1 rows1 (SetTable.grown rows1.size)
    have r2 := relayAll_ris tab1 rows1 (SetTable.grown rows1.size)
    have l2 := relayAll_led tab1 rows1 (SetTable.grown rows1.size)
    generalize relayAll tab1 rows1 (SetTable.grown rows1.size) = Y at p2 f2 r2 l2 ⊢
    obtain ⟨rows2, tab2, way⟩ := Y
    dsimp only at p2 f2 r2 l2 ⊢
    have pm2 : (rows2.toList.map nmE).Perm zs := (p2.map nmE).trans pm
    have ln2 : rows2.size = zs.length := by rw [← pm2.length_eq, List.length_map, Array.length_toList]
    refine wpAny_bind (hg _ _ _ (wpAny_bind (wpAny_storeSet_of at1 rfl ?_ (fits_of_scanBound (by rw [ln2]; exact hb)))))
    have at2 := store_at (es' := rows2) (t' := tab2) at1 rfl
    exact wpAny_pure (hQ _ (but1.trans (Heap.SameBut.update _ b _)) ⟨_, rows2, _, tab2, at2, hx, rfl, fun q hq => g1 q (p2.mem_iff.mp hq), pm2, nd, hb, f2, r2, hl.imp id fun y => by rw [l2]; exact y⟩)
  · exact wpAny_pure (hQ _ but1 ⟨_, rows1, _, tab1, at1, hx, rfl, g1, pm, nd, hb, hf, hr, hl⟩)
theorem tx_add {z : Str} {u : Tok} {Q : Bool → Shared → Prop} (R : TxSet w s.heap b zs) (room : zs.length + 1 < scanBound)
    (hQ : ∀ hp c, Heap.SameBut b s.heap hp → TxSet w hp b (addS zs z) → Q c { s with heap := hp }) :
    wpAny (model P w) A (setAddHashed b (.str z u) ((PySem.strKind P w).hash z)) Q E s := by
  obtain ⟨ob, rows, ep, tab, ho, hx, hd, g, pm, nd, hb, hf, hr, hl⟩ := R.ex
  have el : ElemsOf (PySem.strKind P w) rows.toList := tx_elems g
  have sc : (Value.str z u).scannable = true := rfl
  have ln : rows.size = zs.length := by rw [← pm.length_eq, List.length_map, Array.length_toList]
  unfold setAddHashed setAddHashedIn
  refine wpAny_holding (wpAny_bind (wpAny_setState_of ho hd hf ?_))
  dsimp only
  rw [byScan_of sc (by rw [ln]; exact hb) el]
  simp only [↓reduceIte]
  unfold setAddByScan
  refine wpAny_bind (wpAny_bind (wpAny_rule (wpAny_bind (wpAny_setScan_of (strKind_is P w z u) ho hd hf el ?_))))
  cases hfi : List.findIdx? (fun q => (PySem.strKind P w).is z q.2) rows.toList with
  | some j =>
    obtain ⟨hj, pj, _⟩ := List.findIdx?_eq_some_iff_getElem.mp hfi
    have hz : z ∈ zs := pm.mem_iff.mp (List.mem_map.mpr ⟨_, List.getElem_mem hj, (tx_is (g _ (List.getElem_mem hj)) z).mp pj⟩)
    have e : addS zs z = zs := if_pos hz
    dsimp only
    refine wpAny_pure (wpAny_pure ?_)
    exact hQ s.heap _ (Heap.SameBut.refl b s.heap) (by rw [e]; exact ⟨ob, rows, ep, tab, ho, hx, hd, g, pm, nd, hb, hf, hr, hl⟩)
  | none =>
    have hz : z ∉ zs := fun y => by
      obtain ⟨q, hq, e⟩ := List.mem_map.mp (pm.mem_iff.mpr y)
      have c := List.findIdx?_eq_none_iff.mp hfi q hq
      rw [(tx_is (g q hq) z).mpr e] at c
      cases c
    have e : addS zs z = z :: zs := if_neg hz
    rw [e] at hQ
    dsimp only
    have way : ∀ (c : Bool) {s₁ : Shared} {Q' : Unit → Shared → Prop}, Q' () s₁ → wpAny (model P w) A (match c with | true => rule "set.scan.the-table-gave-way" | false => pure ()) Q' E s₁ :=
      fun c s₁ Q' y => by cases c <;> first | exact wpAny_pure y | exact wpAny_rule y
    have p1 := layNew_perm tab rows ((PySem.strKind P w).hash z) (.str z u)
    have f1 := layNew_fits tab rows ((PySem.strKind P w).hash z) (.str z u)
    have r1 := layNew_ris tab rows ((PySem.strKind P w).hash z) (.str z u) hr
    have l1 := layNew_led tab rows ((PySem.strKind P w).hash z) (.str z u)
    generalize layNew tab rows ((PySem.strKind P w).hash z) (.str z u) = Y at p1 f1 r1 l1 ⊢
    obtain ⟨rows1, tab1, dum, gave⟩ := Y
    dsimp only at p1 f1 r1 l1 ⊢
    rw [Array.toList_push] at p1
    have p1 : rows1.toList.Perm (((PySem.strKind P w).hash z, Value.str z u) :: rows.toList) := p1.trans (List.perm_append_singleton _ _)
    have pm1 : (rows1.toList.map nmE).Perm (z :: zs) := (p1.map nmE).trans (pm.cons z)
    have g1 : ∀ q ∈ rows1.toList, TxE w q := fun q hq => (List.mem_cons.mp (p1.mem_iff.mp hq)).elim (fun y => by rw [y]; exact ⟨z, u, rfl⟩) (g q)
    have nd1 : (z :: zs).Nodup := List.nodup_cons.mpr ⟨hz, nd⟩
    have led1 : w.params.followText "set-order" = true ∨ tab1.led = true := hl.imp id fun y => by rw [l1]; exact y
    refine wpAny_bind (way _ ?_)
    split
    · refine wpAny_bind ?_
      rw [hashByValue_scannable 8 sc]
      refine wpAny_pure (tx_tail ?_ ho hx hd g1 pm1 nd1 room ?_ ?_ ?_ ?_)
      · intro c s₁ Q' y; cases c <;> first | exact wpAny_pure y | exact wpAny_rule y
      · first | (split <;> first | exact f1 | exact SetTable.fits_plain_off f1) | exact f1
      · first | (split <;> exact r1) | exact r1
      · first | (split <;> exact led1) | exact led1
      · intro hp sb r; dsimp only; exact wpAny_pure (hQ hp _ sb r)
    · refine wpAny_bind (wpAny_pure ?_)
      simp only [↓reduceIte]
      refine tx_tail ?_ ho hx hd g1 pm1 nd1 room f1 r1 led1 ?_
      · intro c s₁ Q' y; cases c <;> first | exact wpAny_pure y | exact wpAny_rule y
      · intro hp sb r; dsimp only; exact wpAny_pure (hQ hp _ sb r)
theorem addS_len (zs : List Str) (z : Str) : (addS zs z).length ≤ zs.length + 1 := by
  unfold addS
  split <;> simp
theorem tx_loop {I : Addr} {fp wr : List Addr} {G : Array GenState → Array GenState → Prop} {n : Nat} {Pv : Nat → Value → Prop} {St : Nat → Shared → Prop} {R : Result → Shared → Prop}
    (Wk : WalksS P w A.in1 I fp wr G n Pv St) (hbf : b ∉ fp) (xs : List Str) (hn : n = xs.length) (hbd : xs.length + 1 < scanBound) (hval : ∀ i v, Pv i v → ∃ x t, xs[i]? = some x ∧ v = .str x t) :
    ∀ (k i : Nat) (s : Shared) (zs : List Str), n - i = k → i ≤ n → St i s → TxSet w s.heap b zs → zs.length ≤ i →
      (∀ s' , Moved (b :: wr) G s s' → TxSet w s'.heap b ((xs.drop i).foldl addS zs) → R (.ok (.ret .none)) s') →
      codeAny (model P w) A (.builtin "set.update.loop" ⟨[.ref b, .ref I], []⟩) R s := by
  have nwr : b ∉ wr := fun y => hbf (Wk.sub _ y)
  have inc : ∀ c ∈ wr, c ∈ b :: wr := fun c hc => List.mem_cons_of_mem _ hc
  intro k
  induction k with
  | zero =>
    intro i s zs hk hi st R1 hz hR
    have hin : i = n := by omega
    refine codeAny_builtin F.entry_set_update_loop ?_
    rw [Around.under_plainId F.plain_set_update_loop _]
    show wpAny _ A.in1 (pyNext (.ref I) >>= _) _ _ s
    refine wpAny_bind (Wk.done s _ _ (hin ▸ st) fun s' hm => ?_)
    show wpAny _ A.in1 (ret Value.none) _ _ s'
    have q := hR s' (hm.mono inc)
    rw [List.drop_of_length_le (by omega)] at q
    exact wpAny_pure (q (R1.mv fun o e => hm.heap b o nwr e))
  | succ k ih =>
    intro i s zs hk hi st R1 hz hR
    have lt : i < n := by omega
    refine codeAny_builtin F.entry_set_update_loop ?_
    rw [Around.under_plainId F.plain_set_update_loop _]
    show wpAny _ A.in1 (pyNext (.ref I) >>= _) _ _ s
    refine wpAny_bind (Wk.item i s _ _ lt st fun v s' hP st' hm => ?_)
    obtain ⟨x, t, hx, rfl⟩ := hval i v hP
    have R2 : TxSet w s'.heap b zs := R1.mv fun o e => hm.heap b o nwr e
    show wpAny _ A.in1 (holding [Value.str x t] (setAdd b (.str x t)) >>= _) _ _ s'
    refine wpAny_bind (wpAny_holding ?_)
    unfold setAdd
    refine wpAny_holding (wpAny_bind ((PySem.strKind P w).pyHash (k := x) (strKind_is _ _ _ _) ?_))
    refine tx_add (s := { s' with toks := s'.toks + 1 }) R2 (by omega) fun hp c sb R3 => ?_
    refine wpAny_pure ⟨plainId_quiet F.plain_set_update_loop _, ih (i + 1) _ _ (by omega) lt (Wk.frame _ s' _ _ st' (Nat.le_succ _) fun c hc o e => ?_) R3 (Nat.le_trans (addS_len zs x) (by omega)) fun s'' hm2 R4 => ?_⟩
    · rw [sb.2 c (fun y : c = b => hbf (y ▸ hc))]; exact e
    · refine hR s'' (Moved.trans Wk.gtrans ((hm.mono inc).then_heap (Nat.le_succ _) fun c o hc e => ?_) hm2) ?_
      · rw [sb.2 c (fun y : c = b => hc (by rw [y]; exact List.mem_cons_self))]; exact e
      · have hl : i < xs.length := by omega
        have ex : x = xs[i] := by rw [List.getElem?_eq_getElem hl] at hx; exact (Option.some.inj hx).symm
        rw [List.drop_eq_getElem_cons hl, List.foldl_cons, ← ex]
        exact R4
theorem tx_new {w : World} {hp : Heap} {b : Addr} (ho : hp.get? b = some { cls := .type "set", dict := none, data := .set #[] 0 (.fresh 0 0 (!w.params.followText "set-order")) }) : TxSet w hp b [] :=
  ⟨_, #[], 0, _, ho, ⟨rfl, rfl, rfl⟩, rfl, (fun q hq => by simp at hq), (List.Perm.refl _), List.nodup_nil, (by decide), (by rfl), List.Pairwise.nil, by
    cases h : w.params.followText "set-order"
    · exact .inr rfl
    · exact .inl rfl⟩
end
end PI

set_option Elab.async false
set_option linter.all false
set_option maxRecDepth 100000
set_option maxHeartbeats 3200000
namespace PI
open PySem PySem.Spec PyProof.Rows L2
open PySem.W (Frag InstAt findIn isFn selfFirst subIn Looks)
section
variable {P : Program} {w : World} {A : Around} {E : Value → Shared → Prop} {s : Shared} {b : Addr} {zs : List Str}
theorem strs_ix : ∀ {us : List Value} {xs : List Str}, StrsAre us xs → ∀ (i : Nat) (v : Value), us[i]? = some v → ∃ x t, xs[i]? = some x ∧ v = .str x t
  | _, _, .nil, i, v, h => by simp at h
  | _, _, .cons n t hr, 0, v, h => by simp at h; exact ⟨n, t, rfl, h.symm⟩
  | _, _, .cons n t hr, i + 1, v, h => by
    rw [List.getElem?_cons_succ] at h
    exact strs_ix hr i v h
/-- a new set -/
abbrev nSet (w : World) : Obj := { cls := .type "set", dict := none, data := .set #[] 0 (.fresh 0 0 (!w.params.followText "set-order")) }
theorem tx_call {l : Addr} {us : Array Value} {xs : List Str} {Q : Value → Shared → Prop} (hh : A.handled = none) (hl : s.heap.IsList l us) (hi : StrsAre us.toList xs) (hb : xs.length + 1 < scanBound)
    (k : ∀ (hp : Heap) (tk : Nat), TxSet w hp s.heap.objs.size (xs.foldl addS []) → (∀ c o, s.heap.get? c = some o → hp.get? c = some o) → Q (.ref s.heap.objs.size) { s with heap := hp, toks := tk }) :
    wpAny (model P w) A (call (.type "set") [.ref l]) Q E s := by
  have sz : us.size = xs.length := by rw [← StrsAre.len_eq hi, Array.length_toList]
  obtain ⟨_, _, mro⟩ := F.called_set.mro
  have made := F.called_set.made
  have sub := F.called_set.sub
  refine wpAny_call (codeAny_of_tree ?_)
  show wpAny _ _ (callAny (.type "set") _) _ _ _
  refine wpAny_pure ⟨Code.quiet_builtin _ (by decide +kernel), codeAny_builtin F.entry_type_call ?_⟩
  rw [Around.under_plain (weight_type_call_type "set" [.ref l] []) rfl]
  have notT := F.called_set.notType
  have canC := F.called_set.canCreate
  have tcall := F.typeCall_set_1 (.ref l)
  repeat (any_goals (first | assumption | wp_step))
  refine codeAny_mono (code_set_led1 (.ref l) (E := E) (Q₁ := fun v s₁ => v = .ref s.heap.objs.size ∧ s₁ = { s with heap := s.heap.push (nSet w) }) ⟨rfl, rfl⟩) fun r s₁ hr => ?_
  rcases r with er | fl
  · exact hr
  cases fl <;> first | exact hr.elim | skip
  obtain ⟨rfl, rfl⟩ := hr
  have at0 : (s.heap.push (nSet w)).get? s.heap.objs.size = some (nSet w) := Heap.get?_push_size _ rfl
  have ty0 : Shared.TypeIs { s with heap := s.heap.push (nSet w) } (.ref s.heap.objs.size) "set" := ⟨_, at0, rfl⟩
  have ini := F.called_set.init.lookup
  have bnd := F.called_set.init.bind (.ref s.heap.objs.size)
  repeat (any_goals (first | assumption | wp_step))
  refine codeAny_mono (codeAny_call_builtin (R := wants (fun r s₂ => r = .none ∧ ∃ hp tk, s₂ = { s with heap := hp, toks := tk } ∧ TxSet w hp s.heap.objs.size (xs.foldl addS []) ∧ (∀ c o, s.heap.get? c = some o → hp.get? c = some o)) E)
    F.called_set.init.plain F.entry_set_init (check_set_init_1 ty0 ?_)) fun r₂ s₂ hr₂ => ?_
  · obtain ⟨⟨lc, ld, lt, ls⟩, hol, lc1, m, lt1⟩ := hl
    simp only at lc1 lt1
    subst lc1; subst lt1
    have hol' := Heap.get?_push_of_some (nSet w) hol
    have a1 := F.sub_list_set
    have a2 := F.sub_list_frozenset
    have a3 : (Value.type "list" == Value.type "dict") = false := by decide
    have il : (s.heap.push (nSet w)).IsList l us := ⟨_, hol', rfl, m, rfl⟩
    unfold Builtin.«set.__init__» noKeywords Builtin.Frozenset.updateFrom
    generalize hPI : pyIter = PI
    wp_walk
    subst hPI
    refine wpAny_pyIter_list (s := { s with heap := s.heap.push (nSet w) }) il ?_
    refine wpAny_bind (wpAny_runValue ?_)
    have lS : l < s.heap.objs.size := Heap.lt_size hol
    have h3 : A.in1.in1.in1.handled = none := by simp [hh]
    have pz : (s.heap.push (nSet w)).objs.size = s.heap.objs.size + 1 := Heap.size_push ..
    have nI : l ≠ (s.heap.push (nSet w)).objs.size := by rw [pz]; exact Nat.ne_of_lt (Nat.lt_succ_of_lt lS)
    have nS : s.heap.objs.size ∉ [(s.heap.push (nSet w)).objs.size, l] := by
      rw [pz]; simp only [List.mem_cons, List.not_mem_nil, or_false, not_or]
      exact ⟨Nat.ne_of_lt (Nat.lt_succ_self _), Nat.ne_of_gt lS⟩
    refine tx_loop ((Walks.list h3 _ l nI us).toS) nS xs sz hb (fun i v hv => strs_ix hi i v (by rw [Array.getElem?_toList]; exact hv)) us.size 0 _ [] (by omega) (Nat.zero_le _)
      ⟨⟨_, Heap.get?_push_size _ rfl, rfl, rfl⟩, (il.push _)⟩ ?start (Nat.zero_le _) ?done
    case start => exact tx_new (Heap.get?_push_of_some _ at0)
    case done =>
      intro s' hm S2
      obtain ⟨hp, gn, dr, tk, os⟩ := s'
      cases (hm.gens : gn = s.gens)
      cases (hm.drawn : dr = s.drawn)
      cases (hm.os : os = s.os)
      show wpAny _ _ _ _ _ _
      refine wpAny_pure ?_
      show wpAny _ _ (ret Value.none) _ _ _
      refine wpAny_pure ⟨rfl, hp, tk, rfl, S2, fun c o e => ?_⟩
      have cl : c < s.heap.objs.size := Heap.lt_size e
      exact hm.heap c o (by rw [pz]; simp only [List.mem_cons, List.not_mem_nil, or_false, not_or]; exact ⟨Nat.ne_of_lt cl, Nat.ne_of_lt (Nat.lt_succ_of_lt cl)⟩) (Heap.get?_push_of_some _ (Heap.get?_push_of_some _ e))
  · rcases r₂ with er | fl₂
    · exact hr₂
    cases fl₂ <;> first | exact hr₂.elim | skip
    obtain ⟨rfl, hp, tk, rfl, S2, kp⟩ := hr₂
    repeat (any_goals (first | assumption | wp_step))
    exact k _ _ S2 kp
/-- sorted of a set of texts -/
theorem tx_strs {w : World} : ∀ {l : List (Int × Value)}, (∀ q ∈ l, TxE w q) → ∀ {vs : List Value}, vs.Perm (l.map (·.2)) → StrsAre vs (vs.map PyProof.Rows.strOf) := fun g vs pm => strsAre_map vs fun v hv => by
  obtain ⟨q, hq, e⟩ := List.mem_map.mp (pm.mem_iff.mp hv)
  obtain ⟨u, h1, _⟩ := nmE_of (g q hq)
  exact ⟨_, u, by rw [← e]; exact h1⟩
theorem tx_sorted {Q : Value → Shared → Prop} (R : TxSet w s.heap b zs) (hh : A.handled = none)
    (hQ : ∀ s' p (out : Array Value) (c : Nat), (∀ c o, s.heap.get? c = some o → s'.heap.get? c = some o) → s'.gens = s.gens → s'.os = s.os → s.heap.objs.size ≤ p → s'.heap.get? p = some (seqObj "list" out c) → StrsAre out.toList (sortS zs) → Q (.ref p) s') :
    wpAny (model P w) A (call (.builtin "sorted") [.ref b]) Q E s := by
  obtain ⟨ob, rows, ep, tab, ho, hx, hd, g, pm, nd, hb, hf, hr, hl⟩ := R.ex
  have ln : rows.size = zs.length := by rw [← pm.length_eq, List.length_map, Array.length_toList]
  refine Calls.call_function_entry kind_sorted plain_sorted entry_sorted (args_sorted1 _) ?_
  unfold Builtin.«sorted»
  refine wpAny_bind (m := checkCount "sorted" 1 1 _) (wpAny_pure ?_)
  refine wpAny_bind (collect_set (A := A.in1) hh ⟨ob, ho, hx.1, hd⟩ hf (by rw [ln]; exact hb) hr hl fun s1 vs k1 hz g1 o1 p1 => ?_)
  have vl : vs.length = zs.length := by rw [p1.length_eq, List.length_map, Array.length_toList]; exact ln
  have st := tx_strs g p1
  have pz : (vs.map PyProof.Rows.strOf).Perm zs := by
    refine List.Perm.trans ?_ pm
    have q := p1.map PyProof.Rows.strOf
    rw [List.map_map] at q
    refine q.trans (List.Perm.of_eq (List.map_congr_left fun q hq => ?_))
    obtain ⟨u, h1, _⟩ := nmE_of (g q hq)
    show PyProof.Rows.strOf q.2 = nmE q
    rw [h1] <;> rfl
  have small : vs.length ≤ sizeLine := by rw [vl, sizeLine_eq]; unfold scanBound at hb; omega
  refine wpAny_bind (wpAny_newList ?_ small)
  have at1 : (s1.heap.push (seqObj "list" vs.toArray 0)).get? s1.heap.objs.size = some (seqObj "list" vs.toArray 0) := Heap.get?_push_size _ rfl
  refine wpAny_bind (wpAny_holding (wpAny_call_entry slot_list_sort ⟨_, at1, rfl⟩ entry_list_sort (list_sort_treeKAny strKind_oneLt at1 st.keysOf (fun v₁ v₂ rest e => keyKind_strs (by rw [← e]; exact st)) small fun so a1 a2 => ⟨_, rfl, ?_⟩) (args_list_sort _)))
  obtain ⟨ss, b1, b2, b3⟩ := sorted_out_str st a1 a2
  have es : ss = sortS zs := sortS_eq (b2.trans pz) (sortedS_of b3)
  obtain ⟨c, hc⟩ := sortedHeap_at (vs := vs) (out := (arrOf so).map (·.2)) at1
  refine wpAny_pure ⟨_, rfl, hQ _ s1.heap.objs.size _ c (fun c u e => ?_) g1 o1 hz hc (es ▸ b1)⟩
  have q := k1 c u e
  have lt := Heap.lt_size q
  show (sortedHeap (s1.heap.push (seqObj "list" vs.toArray 0)) s1.heap.objs.size vs _).get? c = some u
  rw [sortedHeap_old (Nat.ne_of_lt lt) (by rw [size_push']; exact Nat.lt_succ_of_lt lt)]
  exact Heap.get?_push_of_some _ q
end
/-! sorted(set(a)) -/
def ssD : D → Option D
  | .lst _ xs => (strsD xs).bind fun ss => if ss.length < 4000 then some (.lst true ((sortS (ss.foldl addS [])).map .str)) else none
  | _ => none
section
variable {K : Frag} {M : Memo} {W : WX} {X : Cx}
theorem foldS_len : ∀ (xs zs : List Str), (xs.foldl addS zs).length ≤ zs.length + xs.length
  | [], zs => Nat.le_refl _
  | x :: xs, zs => by
    have h1 := foldS_len xs (addS zs x)
    have h2 := addS_len zs x
    show (xs.foldl addS (addS zs x)).length ≤ _
    rw [List.length_cons]
    omega
theorem pe_SS {a : Expr} {oa : Op} {p p2 q pos : Pos} (hc : X.calm = true) (hg : Gl X "sorted") (hm : X.mg "sorted" = none) (hg2 : Gl X "set") (hm2 : X.mg "set" = none) (ha : PE X a (tO X.K M W oa))
    (na : starEach [a] X.env = (false, eval a X.env) :: starEach [] X.env) : PE X (.Call (.Name "sorted" p) [.Call (.Name "set" p2) [a] [] q] [] pos) (tP X.K M W (pOp1 (fun d g => ro (ssD d) g) oa)) := by
  refine ⟨fun pins s σ H Q I h => ?_⟩
  refine Call_ (ld_blt I hg hm boot_sorted ?_)
  refine PyProof.Rows.callWith_builtin1 (PyProof.Rows.args_cons ?_ rfl) rfl rfl
  refine Call_ (ld_blt I hg2 hm2 boot_set ?_)
  refine PyProof.Rows.callWith_type1 (PyProof.Rows.args_cons (thn (ha.run pins s σ H _ I (op1_t h)) fun v s1 ⟨x, H1, I1, r1, q1⟩ => PyProof.Rows.args_nil ?_) na) na rfl
  obtain ⟨g, G, S, d, m, sd, q1⟩ := q1
  dsimp only at q1
  cases d <;> first | exact (show False from q1).elim | skip
  rename_i bo xs
  unfold ssD at q1
  dsimp only at q1
  cases e : strsD xs with
  | none => rw [e] at q1; exact (show False from q1).elim
  | some ss =>
    rw [e, Option.bind_some] at q1
    split at q1
    · rename_i h4
      obtain ⟨l, vs, rfl, h2, h3⟩ := sd.lst m.sub
      cases strs_rep h3 e
      cases r1
      obtain ⟨its, r, pl, hz⟩ := I1.list h2
      refine tx_call (I1.ok.hd hc) pl.isList (by simpa using strsAre_of r) (by unfold scanBound; omega) fun hp tk R kp => ?_
      refine PyProof.Rows.args_nil ?_
      have I2 : Inv X pins σ H1 { s1 with heap := hp, toks := tk } := I1.kept kp
      refine tx_sorted (s := { s1 with heap := hp, toks := tk }) R (I1.ok.hd hc) fun s' p out c k gg o hpz hgt st => ?_
      have small : ((sortS (ss.foldl addS [])).map V.str).length ≤ sizeLine := by
        rw [List.length_map, (sortS_perm _).length_eq, sizeLine_eq]
        have := foldS_len ss []
        rw [List.length_nil] at this
        omega
      have hn : H1 p = none := I2.hok.fresh hpz
      exact ⟨.ref p, upd H1 p (.lst ((sortS (ss.foldl addS [])).map V.str)), I2.call' o (ch := []) (Un.laid k hpz hn) (I2.hok.laid k hpz ⟨small, out.toList, c, vals_of_strs st, hgt⟩) (by rw [gg]; exact I2.bare) (fun _ z => nomatch z), rfl, fin_lst q1 m (rep_strs _) p hn⟩
    · exact (show False from q1).elim
end
end PI

set_option Elab.async false
set_option linter.all false
set_option maxRecDepth 100000
set_option maxHeartbeats 1000000
namespace PI
open PySem PySem.Spec PyProof.Rows L2
open PySem.W (Frag InstAt findIn isFn selfFirst subIn Looks)
/-! ### what a law's text knows -/
structure Fa (fc : List Fc) (fn : List DefA) (P : Program) (w : World) (K : Frag) (mg : Str → Option Value) (base : Heap) : Prop where
  at_ : ∃ h : Heap, K.In h ∧ h.Ns mainGlobals mg
  says : SaysP fc fn K
section
variable {fc : List Fc} {fn : List DefA} {P : Program} {w : World} {K : Frag} {M : Memo} {mg : Str → Option Value} {base : Heap} {N : List Str} {sc : Scope} {k : Nat} {X : Cx} {W : WX} {x y z f m cn : Str} {p pos p1 p2 p3 apos q : Pos} {e a b o : Expr} {fx : List Nat} {i j l n : Nat} {es : List Expr} {kws : List Keyword} {as bs : List Ar}
theorem Fa.glo (Y : Fa fc fn P w K mg base) (i : Nat) (h : fc[i]? = some (kGlo x)) : mg x = some (.ref (He.ga K x)) := by
  obtain ⟨h0, k0, g0⟩ := Y.at_
  exact glo_of k0 g0 (Y.says.fact i h)
theorem Fa.free (Y : Fa fc fn P w K mg base) (i : Nat) (h : fc[i]? = some (kFree x)) : mg x = none := by
  obtain ⟨h0, k0, g0⟩ := Y.at_
  exact free_of k0 g0 (Y.says.fact i h)
theorem Fa.str (Y : Fa fc fn P w K mg base) (i : Nat) (h : fc[i]? = some (kStr x z)) : ∃ t, mg x = some (.str z t) := by
  obtain ⟨h0, k0, g0⟩ := Y.at_
  exact str_of k0 g0 (Y.says.fact i h)
theorem Fa.cls (Y : Fa fc fn P w K mg base) (i : Nat) (h : fc[i]? = some (kCls x)) : Cls K (He.ga K x) := cls_of (Y.says.fact i h)
theorem Fa.no (Y : Fa fc fn P w K mg base) (i : Nat) (h : fc[i]? = some (kNo x f)) : NoAttr K (He.ga K x) f := no_of (Y.says.fact i h)
theorem Fa.meth (Y : Fa fc fn P w K mg base) (i : Nat) (h : fc[i]? = some (kMeth x m)) : Meth K (He.ga K x) m (maF x m K) := meth_of (Y.says.fact i h)
theorem Fa.mkc (Y : Fa fc fn P w K mg base) (i : Nat) (h : fc[i]? = some (kMk x)) : Mk K (He.ga K x) (maF x "__init__" K) := mk_of' (Y.says.fact i h)
theorem Fa.prop (Y : Fa fc fn P w K mg base) (i : Nat) (h : fc[i]? = some (kProp x f)) : PropOf K (He.ga K x) f (maF x f K) (prF x f K) := prop_of (Y.says.fact i h)
theorem Fa.opL (Y : Fa fc fn P w K mg base) {op : Operator} (i : Nat) (h : fc[i]? = some (kOpL op x)) : OpL K op (He.ga K x) (maF x (dunder op.info.2) K) := opL_of (Y.says.fact i h)
theorem Fa.opR (Y : Fa fc fn P w K mg base) {op : Operator} (i : Nat) (h : fc[i]? = some (kOpR op x)) : OpRv K op (He.ga K x) (maF x (dunderR op.info.2) K) := opR_of (Y.says.fact i h)
theorem Fa.inv (Y : Fa fc fn P w K mg base) (i : Nat) (h : fc[i]? = some (kInv x)) : OpU K (He.ga K x) (maF x "__invert__" K) := inv_of (Y.says.fact i h)
theorem Fa.eq (Y : Fa fc fn P w K mg base) (i : Nat) (h : fc[i]? = some (kEq x)) : OpE K (He.ga K x) (maF x "__eq__" K) := eq_of (Y.says.fact i h)
theorem Fa.is (Y : Fa fc fn P w K mg base) {tab : List (Str × Bool)} (i : Nat) (h : fc[i]? = some (kIs tab x)) : IsOk K tab (He.ga K x) := is_of (Y.says.fact i h)
/-! raise -/
def RaF (P : Program) (w : World) (K : Frag) (mg : Str → Option Value) (base : Heap) (j : Nat) (c : Str) : Prop :=
  ∃ fI fd, OexC K (He.ga K c) ∧ findIn K (.ref (He.ga K c)) "__init__" = some (some (.ref fI)) ∧ PySem.W.typeIn K (.ref fI) = some (.type "function") ∧ findIn K (.ref (He.ga K c)) "value" = some none ∧ FnOk P w K mg base (L2.CX P w) j fI fd ["self", "value"] (spInit K) ∧ Binds K fd ["self", "value"] []
theorem sRaise (c : Bd P w K mg base N sc k X W) {mm : PX} (R : RaF P w K mg base j cn) (hj : j + 1 ≤ k) (h : okG sc cn = true) (hm : mg cn = some (.ref (He.ga K cn))) (he : PE X e (tP X.K M W mm)) (hs : noStar e = true) :
    PS X (.Raise (some (.Call (.Name cn p) [e] [] pos)) none p2) (tF X.K M fx W (pRs cn mm)) := by
  obtain ⟨h1, h2⟩ := He.ba h
  have gl := c.ct.gl h1
  obtain ⟨fI, fd, r1, r2, r3, r4, r5, r6⟩ := R
  obtain ⟨⟨rfl, rfl, rfl, rfl, rfl, rfl, rfl, room, gu, tk, calm, nd⟩, hp, hfn⟩ := c
  exact ps_Raise (ds := []) calm tk r1 r2 r3 r4 r5 (room.mono hj) r6 gl hm (pa_allc he pa_all0 (star_of hs)) hs (notT h2)
theorem raF_of {d : Str} {qual : Str} {params : Arguments} {scope : Scope} {fd : FuncData} {pp1 pp3 pp4 pp5 : Pos} (Y : Fa fc fn P w K mg base) (i1 i2 i3 : Nat) (e1 : fc[i1]? = some (kExc cn)) (e2 : fc[i2]? = some (kInit cn d)) (e3 : fc[i3]? = some (kNo cn "value"))
    (F : FunD K "__init__" qual params [.Assign [.Attribute (.Name "self" pp1) "value" pp3] (.Name "value" pp4) pp5] scope [] [] (maF d "__init__" K) fd) (Z : FnScope ["self", "value"] ["self", "value"] scope)
    (hb : ∀ (kV doc pm : Value) (an : Option Addr) (cdv ct : Value) (us : List Value), us.length = 2 → bindArgs (PySem.W.fnOf "__init__" qual params [.Assign [.Attribute (.Name "self" pp1) "value" pp3] (.Name "value" pp4) pp5] scope .none kV doc pm an cdv ct) ⟨us, []⟩ = pure (List.zip (["self", "value"] : List Str) us)) : RaF P w K mg base 1 cn := by
  obtain ⟨q1, q2⟩ := init_of (Y.says.fact i2 e2)
  exact ⟨_, fd, exc_of (Y.says.fact i1 e1), q1, q2, no_of (Y.says.fact i3 e3), init_ok F Z, F.bindsN (by exact hb)⟩
/-! the rest -/
theorem wSS (c : Ct P w K mg base N sc k X W) {oa : Op} (h : okB sc "sorted" (.builtin "sorted") = true) (hm : mg "sorted" = none) (h2 : okB sc "set" (.type "set") = true) (hm2 : mg "set" = none) (ha : PE X a (tO X.K M W oa)) (hs : noStar a = true) :
    PE X (.Call (.Name "sorted" p) [.Call (.Name "set" p2) [a] [] q] [] pos) (tP X.K M W (pOp1 (fun d g => ro (ssD d) g) oa)) :=
  pe_SS c.calm (c.gl (okB_b h).1) (by rw [c.mg]; exact hm) (c.gl (okB_b h2).1) (by rw [c.mg]; exact hm2) ha (star_of hs)
theorem sPut (c : Bd P w K mg base N sc k X W) {ix : Expr} {mi : Op} {mv : PX} (h : okV N sc i x = true) (hi : PE X ix (tO X.K M W mi)) (hv : PE X e (tP X.K M W mv))
    (ha : ∀ v, assign (.Subscript (.Name x p) ix p2) X.env v = (do
      let o1 ← holding [v] (eval (.Name x p) X.env)
      let i1 ← holding [v, o1] (eval ix X.env)
      standAt p2
      holding [v, o1, i1] (setItem o1 i1 v)
      release [v, o1, i1] []))
    (hs : swapsWithSole [.Subscript (.Name x p) ix p2] e pos.line X.env = pure false) (hw : swappedStores [.Subscript (.Name x p) ix p2] e X.env = pure none)
    (h1 : (assignEach [.Subscript (.Name x p) ix p2] X.env).map (·.2) = [assign (.Subscript (.Name x p) ix p2) X.env]) : PS X (.Assign [.Subscript (.Name x p) ix p2] e pos) (tF X.K M fx W (pPut i mi mv)) := by
  have hu := c.ct.hu
  exact ps_Put (by omega) (wVar c.ct h) hi hv ha hs hw h1
theorem bd_fin {ss : List Stmt} {mm : PF} (b : BodyX P w K mg base N sc k X W) (h : PSs X ss (tF X.K M fx W mm)) : PSs X ss (tF K M fx W mm) := by
  have e := b.K
  rw [e] at h
  exact h
theorem fnG_bad {fd : FuncData} {fa : Addr} {ps : List Str} {rf : List Nat} : FnG P w K mg base k fa fd ps (spF K M (fun _ => .bad) rf ps.length) :=
  ⟨fun vs H Q E h => h.1, fun A outer s H args us vs Q E hr gu e0 hb rv h => by obtain ⟨_, ds, G, B, _, z⟩ := h; exact (show False from z).elim⟩
end
end PI

set_option Elab.async false
set_option linter.all false
set_option maxRecDepth 100000
set_option maxHeartbeats 1000000
namespace PI
open PySem PySem.Spec PyProof.Rows L2
open PySem.W (Frag InstAt findIn isFn selfFirst subIn Looks)
/-! ### a, b = x, y: each keeps what it alone holds -/
def newA : Ar → Bool
  | .r (.nm _) => false
  | _ => true
def pPar (is : List Nat) (as : List Ar) : PF := fun g => (evA as g).bind fun xs g1 => match (rdA g1 as xs).bind fun ds => setAll is ds g1 with
  | some g2 => .ok .nx g2
  | none => .bad
section
variable {K : Frag} {M : Memo} {W : WX} {X : Cx} {σ : L2.St} {H H0 Ha G G0 H1 G1 : Hp} {S S0 S1 : Nat → Addr → Prop} {g ga g1 : Sg} {Q : VK} {fx : List Nat} {pos : Pos} {σa : L2.St}
theorem ArRs.reS : ∀ {as : List Ar} {xs : List (Option D)} {vs : List V} {U : Addr → Prop}, ArRs K M Ha ga σa H G S as xs vs U → (∀ b, U b → ¬ Vl M G S1 b) → ArRs K M Ha ga σa H G S1 as xs vs U
  | [], _, _, _, h, _ => h
  | a :: as, _, _, _, h, k => by
    obtain ⟨x, xr, v, vr, T, U', rfl, rfl, h1, h2, h3, h4⟩ := h
    refine ⟨x, xr, v, vr, T, U', rfl, rfl, ?_, h2.reS fun b hb => k b ((h3 b).mpr (.inr hb)), h3, h4⟩
    cases a with
    | v m => exact h1
    | r o =>
      cases o with
      | nm i => exact h1
      | ex m =>
        obtain ⟨d, e, ow, ap⟩ := h1
        exact ⟨d, e, ow, fun b hb => ⟨k b ((h3 b).mpr (.inl hb)), (ap b hb).2⟩⟩
theorem par_mt : ∀ {as : List Ar} {is : List Nat} {xs : List (Option D)} {vs : List V} {U : Addr → Prop} {ds : List D} {g g' : Sg} {σ : L2.St} {S : Nat → Addr → Prop}, as.all newA = true → Mt K M g σ H G S → ArRs K M Ha ga σa H G S as xs vs U → rdA ga as xs = some ds →
    setAll is ds g = some g' → (∀ i ∈ is, i ∉ fx) → (∀ a, Ha a = none → H0 a = none) → Stp M H0 G0 S0 H G S → ∃ S', Mt K M g' (sets is vs σ) H G S' ∧ Stp M H0 G0 S0 H G S' ∧ Fx fx σ (sets is vs σ) ∧ vs.length = is.length
  | [], is, xs, vs, U, ds, g, g', σ, S, _, m, h, e1, e2, _, _, st => by
    obtain ⟨rfl, rfl, _⟩ := h
    cases (show some ([] : List D) = some ds from e1)
    cases is with
    | nil => cases (show some g = some g' from e2); exact ⟨S, m, st, Fx.refl, rfl⟩
    | cons i is => cases e2
  | a :: as, is, xs, vs, U, ds, g, g', σ, S, na, m, h, e1, e2, nf, bk, st => by
    obtain ⟨na1, na2⟩ := He.ba (show (newA a && as.all newA) = true from na)
    obtain ⟨x, xr, v, vr, T, U', rfl, rfl, h1, h2, h3, h4⟩ := h
    have key : ∃ d dr, ds = d :: dr ∧ rdA ga as xr = some dr ∧ Own K M G H d v T ∧ ∀ b, T b → ¬ Vl M G S b ∧ Ha b = none := by
      cases a with
      | v m =>
        obtain ⟨⟨d, rfl, r⟩, nT⟩ := h1
        have e1 : (rdA ga as xr).map (d :: ·) = some ds := e1
        cases q : rdA ga as xr with
        | none => rw [q] at e1; cases e1
        | some dr =>
          rw [q] at e1; cases e1
          exact ⟨d, dr, rfl, rfl, .inl ⟨r, nT⟩, fun b hb => (nT b hb).elim⟩
      | r o =>
        cases o with
        | nm i => cases na1
        | ex m =>
          obtain ⟨d, rfl, ow, ap⟩ := h1
          have e1 : (match some d, rdA ga as xr with
            | some d, some ds => some (d :: ds)
            | _, _ => none) = some ds := e1
          cases q : rdA ga as xr with
          | none => rw [q] at e1; cases e1
          | some dr =>
            rw [q] at e1; cases e1
            exact ⟨d, dr, rfl, rfl, ow, ap⟩
    obtain ⟨d, dr, rfl, q, ow, ap⟩ := key
    cases is with
    | nil => cases e2
    | cons i is =>
      have e2 : (if i < g.length then setAll is dr (g.set i (some d)) else none) = some g' := e2
      split at e2
      · rename_i hl
        have m1 := m.set ow (fun b hb => (ap b hb).1) hl
        have h2' : ArRs K M Ha ga σa H G (setS S i T) as xr vr U' := by
          have base : ∀ b, U' b → ¬ Vl M G S b := fun b hb => (h2.there hb).2.1
          refine h2.reS fun b hb z => ?_
          rcases z with ⟨j, ⟨_, z⟩ | ⟨_, z⟩⟩ | z
          · exact h4 b z hb
          · exact base b hb (.inl ⟨j, z⟩)
          · exact base b hb (.inr z)
        obtain ⟨S', m2, st2, f2, l2⟩ := par_mt na2 m1 h2' q e2 (fun j hj => nf j (List.mem_cons_of_mem _ hj)) bk (st.set fun a z => bk a (ap a z).2)
        exact ⟨S', m2, st2, (Fx.set (nf i (List.mem_cons_self ..))).trans f2, congrArg Nat.succ l2⟩
      · cases e2
theorem EndA.imp' {as : List Ar} {r : Rs (List (Option D))} {Q Q' : List V → Hp → Prop} (h : EndA K M W σ H G S as r Q) (k : ∀ v H', Q v H' → Q' v H') : EndA K M W σ H G S as r Q' := by
  cases r with
  | bad => exact h
  | ok x g' => exact fun v H' G' S' U m rr s => k _ _ (h v H' G' S' U m rr s)
  | exc c d g' => exact h
theorem par_end {as : List Ar} {is : List Nat} {N : Ends} {σ : L2.St} (na : as.all newA = true) (nf : ∀ i ∈ is, i ∉ fx) (q : tF K M fx W (pPar is as) N σ H) :
    tA K M W as σ H fun vs H1 => vs.length = is.length ∧ N.nx (sets is vs σ) H1 := by
  obtain ⟨g, G, S, m, q⟩ := q
  refine ⟨g, G, S, m, ?_⟩
  have q := EndF.bindA (as := as) q
  cases er : evA as g with
  | bad => rw [er] at q; exact q
  | exc c d g' => rw [er] at q; exact q
  | ok xs g1 =>
    rw [er] at q
    intro vs H1 G1 S1 U m1 r1 st
    obtain ⟨xs', g', G', S', U', e, m', r', st', q'⟩ := q vs H1 G1 S1 U m1 r1 st
    cases e
    cases e1 : rdA g1 as xs with
    | none => rw [e1] at q'; exact (show False from q').elim
    | some ds =>
      rw [e1, Option.bind_some] at q'
      cases e2 : setAll is ds g1 with
      | none => rw [e2] at q'; exact (show False from q').elim
      | some g2 =>
        rw [e2] at q'
        obtain ⟨S2, m2, st2, f2, l2⟩ := par_mt na m' r' e1 e2 nf (fun a z => z) st'
        exact ⟨l2, (show EndN K M fx σ H G S g2 N.nx from q') _ _ _ _ f2 m2 st2⟩
/-- what stores are swapped hangs on the scope alone -/
def envS (sc : Scope) : Env := { scope := sc, locals := 0, globals := 0, cells := [] }
theorem sw_env {ts : List Expr} {v : Expr} {env : Env} {sc : Scope} (h : env.scope = sc) : swappedStores ts v env = swappedStores ts v (envS sc) := by
  subst h
  rfl
theorem sPar2 {P : Program} {w : World} {mg : Str → Option Value} {base : Heap} {N : List Str} {sc : Scope} {k : Nat} (c : Bd P w K mg base N sc k X W) {i j : Nat} {x y : Str} {a b : Expr} {as : List Ar} {px py pt : Pos} {kt k2 pt2}
    (hx : (okL N sc i x && isLoc sc x) = true) (hy : (okL N sc j y && isLoc sc y) = true) (hij : (i != j) = true) (hf : (notIn i fx && notIn j fx) = true) (ha : PA X [a, b] (tA X.K M W as)) (na : as.all newA = true)
    (hw : swappedStores [.Tuple [.Name x px, .Name y py] kt pt] (.Tuple [a, b] k2 pt2) (envS sc) = pure (some [x, y])) (hs : swapsWithSole [.Tuple [.Name x px, .Name y py] kt pt] (.Tuple [a, b] k2 pt2) pos.line X.env = pure false) :
    PS X (.Assign [.Tuple [.Name x px, .Name y py] kt pt] (.Tuple [a, b] k2 pt2) pos) (tF X.K M fx W (pPar [i, j] as)) := by
  obtain ⟨hx1, hx2⟩ := He.ba hx
  obtain ⟨hy1, hy2⟩ := He.ba hy
  obtain ⟨f1, f2⟩ := He.ba hf
  have e := c.ct.sc
  refine PS.imp (ps_par c.ct.calm c.ct.nd (by rw [c.ct.N]; exact of_decide_eq_true (He.ba hx1).1) (by rw [c.ct.N]; exact of_decide_eq_true (He.ba hy1).1) (by simpa using hij) (by rw [e]; exact isLoc_of hx2) (by rw [e]; exact isLoc_of hy2) ha ((sw_env e).trans hw) hs) fun N σ H q => ?_
  have nf : ∀ z ∈ [i, j], z ∉ fx := fun z hz => by
    rcases List.mem_cons.mp hz with h | h
    · rw [h]; exact notIn_of f1
    · rw [List.mem_singleton.mp h]; exact notIn_of f2
  obtain ⟨g, G, S, m, q⟩ := par_end na nf q
  refine ⟨g, G, S, m, EndA.imp' q fun vs H1 ⟨l, q⟩ => ?_⟩
  match vs, l with
  | [v, u], _ => exact ⟨v, u, rfl, q⟩
theorem sPar3 {P : Program} {w : World} {mg : Str → Option Value} {base : Heap} {N : List Str} {sc : Scope} {k : Nat} (c : Bd P w K mg base N sc k X W) {i j l : Nat} {x y z : Str} {a b d : Expr} {as : List Ar} {px py pz pt : Pos} {kt k2 pt2}
    (hx : (okL N sc i x && isLoc sc x) = true) (hy : (okL N sc j y && isLoc sc y) = true) (hz : (okL N sc l z && isLoc sc z) = true) (hij : ((i != j) && ((i != l) && (j != l))) = true) (hf : (notIn i fx && (notIn j fx && notIn l fx)) = true) (ha : PA X [a, b, d] (tA X.K M W as)) (na : as.all newA = true)
    (hw : swappedStores [.Tuple [.Name x px, .Name y py, .Name z pz] kt pt] (.Tuple [a, b, d] k2 pt2) (envS sc) = pure (some [x, y, z])) (hs : swapsWithSole [.Tuple [.Name x px, .Name y py, .Name z pz] kt pt] (.Tuple [a, b, d] k2 pt2) pos.line X.env = pure false) :
    PS X (.Assign [.Tuple [.Name x px, .Name y py, .Name z pz] kt pt] (.Tuple [a, b, d] k2 pt2) pos) (tF X.K M fx W (pPar [i, j, l] as)) := by
  obtain ⟨hx1, hx2⟩ := He.ba hx
  obtain ⟨hy1, hy2⟩ := He.ba hy
  obtain ⟨hz1, hz2⟩ := He.ba hz
  obtain ⟨f1, ff⟩ := He.ba hf
  obtain ⟨f2, f3⟩ := He.ba ff
  obtain ⟨n1, nn⟩ := He.ba hij
  obtain ⟨n2, n3⟩ := He.ba nn
  have e := c.ct.sc
  refine PS.imp (ps_par3 c.ct.calm c.ct.nd (by rw [c.ct.N]; exact of_decide_eq_true (He.ba hx1).1) (by rw [c.ct.N]; exact of_decide_eq_true (He.ba hy1).1) (by rw [c.ct.N]; exact of_decide_eq_true (He.ba hz1).1) (by simpa using n1) (by simpa using n2) (by simpa using n3)
    (by rw [e]; exact isLoc_of hx2) (by rw [e]; exact isLoc_of hy2) (by rw [e]; exact isLoc_of hz2) ha ((sw_env e).trans hw) hs) fun N σ H q => ?_
  have nf : ∀ u ∈ [i, j, l], u ∉ fx := fun u hu => by
    rcases List.mem_cons.mp hu with h | h
    · rw [h]; exact notIn_of f1
    · rcases List.mem_cons.mp h with h | h
      · rw [h]; exact notIn_of f2
      · rw [List.mem_singleton.mp h]; exact notIn_of f3
  obtain ⟨g, G, S, m, q⟩ := par_end na nf q
  refine ⟨g, G, S, m, EndA.imp' q fun vs H1 ⟨l, q⟩ => ?_⟩
  match vs, l with
  | [v, u, t], _ => exact ⟨v, u, t, rfl, q⟩
end
/-! the rows of a class's fields -/
theorem fldOk_0 {K : Frag} : FldOk K [] := fun _ z => (List.not_mem_nil z).elim
theorem fldOk_c {K : Frag} {c f : Str} {r : List (Str × Str)} (h1 : Cls K (He.ga K c)) (h2 : NoAttr K (He.ga K c) f) (h : FldOk K r) : FldOk K ((c, f) :: r) := fun p z => by
  rcases List.mem_cons.mp z with e | e
  · rw [e]; exact ⟨h1, h2⟩
  · exact h p e
theorem all_0 {α : Type} {p : α → Prop} : ∀ x ∈ ([] : List α), p x := fun _ z => (List.not_mem_nil z).elim
theorem all_c {α : Type} {p : α → Prop} {a : α} {r : List α} (h1 : p a) (h : ∀ x ∈ r, p x) : ∀ x ∈ a :: r, p x := fun x z => by
  rcases List.mem_cons.mp z with e | e
  · rw [e]; exact h1
  · exact h x e
end PI

set_option Elab.async false
set_option linter.all false
set_option maxRecDepth 100000
set_option maxHeartbeats 1000000
namespace PI
open PySem PySem.Spec PyProof.Rows L2
open PySem.W (Frag InstAt findIn isFn selfFirst subIn Looks)
/-! ### a def as a datum -/
def GdF (P : Program) (w : World) (K : Frag) (M : Memo) (mg : Str → Option Value) (base : Heap) (d : DefA) (ps : List Str) (rf : List Nat) (j : Nat) (ff : List D → Cr) : Prop :=
  ∃ fd, FunD K d.name d.qual d.params d.body d.scope (d.dvs K) (d.kws K) (d.at_ K) fd ∧ FnG P w K mg base j (d.at_ K) fd ps (spF K M ff rf ps.length)
section
variable {fc : List Fc} {fn : List DefA} {P : Program} {w : World} {K : Frag} {M : Memo} {mg : Str → Option Value} {base : Heap} {d : DefA} {ps N : List Str} {rf : List Nat} {j k z : Nat} {ff : List D → Cr} {m : PF} {X : Cx} {W : WX} {sc : Scope} {e1 e2 : Expr} {pos : Pos}
theorem GdF.b (h : GdF P w K M mg base d ps rf j ff) (n : Nat) (ks : List Str) (l : List Nat) (hd : d.dfl = []) (hl : l.length = ps.length)
    (hb : ∀ (kV doc pm : Value) (an : Option Addr) (cdv ct : Value) (us ws : List Value), us.length = n → ws.length = ks.length → ∃ zs, pmL (us ++ ws) (fun _ => Value.none) (l.map Sum.inl) = some zs ∧ bindArgs (PySem.W.fnOf d.name d.qual d.params d.body d.scope .none kV doc pm an cdv ct) ⟨us, ks.zip ws⟩ = pure (ps.zip zs)) :
    FnB P w K M mg base j (d.at_ K) ff rf n ks (l.map Sum.inl) := by
  obtain ⟨fd, F, G⟩ := h
  have e : d.dvs K = [] := by unfold He5.DefA.dvs; rw [hd]; rfl
  rw [e] at F
  exact ⟨fd, ps, G, F.kp, bindP_0 F n ks l hl hb⟩
theorem GdF.mk' (Y : Fa fc fn P w K mg base) (i : Nat) (h : fn[i]? = some d) (Z : FnScope N ps d.scope) (hz : N.length = ps.length + z) (hrf : ∀ i ∈ rf, i < ps.length) (hb : ∀ (X : Cx) (W : WX), Bd P w K mg base N d.scope k X W → PSs X d.body (tF X.K M rf W m)) :
    GdF P w K M mg base d ps rf (k + 1) (runF rf z m) := by
  obtain ⟨fd, F⟩ := Y.says.def_ i h
  exact ⟨fd, F, fnG_body F Z hz hrf fun X W b => bd_fin b (hb X W (bd_of Z.nd b))⟩
theorem GdF.no (Y : Fa fc fn P w K mg base) (i : Nat) (h : fn[i]? = some d) : GdF P w K M mg base d ps rf j (fun _ => .bad) := by
  obtain ⟨fd, F⟩ := Y.says.def_ i h
  exact ⟨fd, F, fnG_bad⟩
theorem wIx (c : Ct P w K mg base N sc k X W) {oa ob : Op} (ha : PE X e1 (tO X.K M W oa)) (hb : PE X e2 (tO X.K M W ob)) (hs : PlainIx e2) : PE X (.Subscript e1 e2 pos) (tP X.K M W (pOp2 (fun d e g => ro (ixD d e) g) oa ob)) := by
  have hu := c.hu
  exact pe_ixS (ix_ok (by omega)) ha hb hs
theorem wRepr (c : Ct P w K mg base N sc k X W) : CallS X (.builtin "repr") (rFN X.K M W fun ds g => ro (reprA ds) g) := c_repr c.hu c.gu
end
/-! the whole numbers' own operators -/
theorem opI_Add : OpI .Add := ⟨_, _, _, PySem.F.slot_int_add, PySem.F.entry_int_add, fun _ _ _ => PySem.F.args_int_add_2 _ _, PySem.F.fills_int_add⟩
theorem opI_Sub : OpI .Sub := ⟨_, _, _, PySem.F.slot_int_sub, PySem.F.entry_int_sub, fun _ _ _ => PySem.F.args_int_sub_2 _ _, PySem.F.fills_int_sub⟩
theorem opI_Mult : OpI .Mult := ⟨_, _, _, PySem.F.slot_int_mul, PySem.F.entry_int_mul, fun _ _ _ => PySem.F.args_int_mul_2 _ _, PySem.F.fills_int_mul⟩
theorem opI_BitAnd : OpI .BitAnd := ⟨_, _, _, PySem.F.slot_int_and, PySem.F.entry_int_and, fun _ _ _ => PySem.F.args_int_and_2 _ _, PySem.F.fills_int_and⟩
theorem opI_BitOr : OpI .BitOr := ⟨_, _, _, PySem.F.slot_int_or, PySem.F.entry_int_or, fun _ _ _ => PySem.F.args_int_or_2 _ _, PySem.F.fills_int_or⟩
end PI

set_option Elab.async false
set_option linter.all false
set_option maxRecDepth 100000
set_option maxHeartbeats 1000000
namespace PI
open PySem PySem.Spec PyProof.Rows L2
open PySem.W (Frag InstAt findIn isFn selfFirst subIn Looks)
/-- what stands within a class's block -/
def clsB (s : Stmt) : List Stmt := match s with
  | .ClassDef (body := ss) .. => ss
  | _ => []
/-! ### calls without names: the arguments as they are listed -/
section
variable {P : Program} {w : World} {K : Frag} {M : Memo} {mg : Str → Option Value} {base : Heap} {N : List Str} {sc : Scope} {k j : Nat} {X : Cx} {W : WX} {x m cn : Str} {p pos apos : Pos} {o : Expr} {es : List Expr} {as : List Ar}
theorem paV {e : Expr} {m : PX} (hp : PE X e (tP X.K M W m)) (hr : PA X es (tA X.K M W as)) (hs : noStar e = true) : PA X (e :: es) (tA X.K M W (.v m :: as)) := pa_Ac (a := .v m) hp hr hs
theorem paR {e : Expr} {u : Op} (hp : PE X e (tO X.K M W u)) (hr : PA X es (tA X.K M W as)) (hs : noStar e = true) : PA X (e :: es) (tA X.K M W (.r u :: as)) := pa_Ac (a := .r u) hp hr hs
theorem pkV {nm : Option Str} {kp : Pos} {ks : List Keyword} {e : Expr} {m : PX} (hp : PE X e (tP X.K M W m)) (hr : PK X ks (tA X.K M W as)) : PK X (⟨nm, e, kp⟩ :: ks) (tA X.K M W (.v m :: as)) := pk_Ac (a := .v m) hp hr
theorem pkR {nm : Option Str} {kp : Pos} {ks : List Keyword} {e : Expr} {u : Op} (hp : PE X e (tO X.K M W u)) (hr : PK X ks (tA X.K M W as)) : PK X (⟨nm, e, kp⟩ :: ks) (tA X.K M W (.r u :: as)) := pk_Ac (a := .r u) hp hr
theorem prV {e : Expr} {m : PX} (hp : PE X e (tP X.K M W m)) : PAr X.K M W X e (.v m) := hp
theorem prR {e : Expr} {u : Op} (hp : PE X e (tO X.K M W u)) : PAr X.K M W X e (.r u) := hp
theorem wCall0 (c : Ct P w K mg base N sc k X W) {f : Addr} {ff : List D → Cr} {rf : List Nat} {pm : Pm} (F : FnB P w K M mg base j f ff rf as.length [] pm) (hj : j ≤ k) (h : okG sc x = true) (hm : mg x = some (.ref f)) (ha : PA X es (tA X.K M W as))
    (hck : (decide (as.length = es.length) && (distinct (as.map nmA) && (distinct (pm.map inlOf) && es.all noStar))) = true) : PE X (.Call (.Name x p) es [] pos) (tP X.K M W (pCall ff rf as pm)) := by
  obtain ⟨k1, hck⟩ := He.ba hck
  obtain ⟨k2, hck⟩ := He.ba hck
  obtain ⟨k3, k4⟩ := He.ba hck
  have q := wCall (M := M) (pos := pos) (p := p) (kws := []) (as := as) (bs := []) c F hj h hm ha pk_A0 (by rw [k1, List.append_nil, k2, k3, k4]; rfl)
  rw [List.append_nil] at q
  exact q
theorem wNew0 (c : Ct P w K mg base N sc k X W) {ff : List D → Cr} {rf : List Nat} {pm : Pm} (C : Mk K (He.ga K cn) (maF cn "__init__" K)) (F : FnB P w K M mg base j (maF cn "__init__" K) ff rf (as.length + 1) [] pm) (hj : j + 1 ≤ k) (h : okG sc cn = true) (hm : mg cn = some (.ref (He.ga K cn)))
    (pl : ∀ dx fs, M.plain (.ins (He.ga K cn) dx fs)) (ha : PA X es (tA X.K M W as)) (h0 : pm[0]? = some (.inl 0)) (hck : (decide (as.length = es.length) && (distinct (as.map nmA) && (distinct (pm.map inlOf) && es.all noStar))) = true) : PE X (.Call (.Name cn p) es [] pos) (tP X.K M W (pNew cn ff rf as pm)) := by
  obtain ⟨k1, hck⟩ := He.ba hck
  obtain ⟨k2, hck⟩ := He.ba hck
  obtain ⟨k3, k4⟩ := He.ba hck
  have q := wNew (M := M) (pos := pos) (p := p) (kws := []) (as := as) (bs := []) c C F hj h hm pl ha pk_A0 h0 (by rw [k1, List.append_nil, k2, k3, k4]; rfl)
  rw [List.append_nil] at q
  exact q
theorem wMeth0 (c : Ct P w K mg base N sc k X W) {cs : List Cd} {a0 : Ar} {pl : Sem Bool} (C : CdF P w K M mg base k m (as.length + 1) [] cs) (ho : PAr X.K M W X o a0) (ha : PA X es (tA X.K M W as))
    (hck : (decide (as.length = es.length) && (distinct ((a0 :: as).map nmA) && es.all noStar)) = true)
    (ht : eval (.Call (.Attribute o m apos) es [] pos) X.env = (do
      let ov ← eval o X.env
      standAt apos.atName
      let (f, first) ← holding [ov] (getMethod ov m pl)
      callWith pos f first (backTo pos (starEach es X.env)) (backToKw pos (keywordEach [] X.env)))) : PE X (.Call (.Attribute o m apos) es [] pos) (tP X.K M W (pMeth m cs a0 as)) := by
  obtain ⟨k1, hck⟩ := He.ba hck
  obtain ⟨k2, k3⟩ := He.ba hck
  have q := wMeth (M := M) (kws := []) (as := as) (bs := []) c C ho ha pk_A0 (by rw [k1, List.append_nil, k2, k3]; rfl) ht
  rw [List.append_nil] at q
  exact q
end
end PI

set_option Elab.async false
set_option linter.all false
set_option maxRecDepth 100000
set_option maxHeartbeats 1000000
namespace PI
open PySem PySem.Spec PyProof.Rows L2
open PySem.W (Frag InstAt findIn isFn selfFirst subIn Looks)
/-! ### the law's own def -/
section
variable {fc : List Fc} {fn : List DefA} {P : Program} {w : World} {K : Frag} {M : Memo} {mg : Str → Option Value} {d : DefA} {x : Str} {j : Nat} {ff : List D → Cr} {fa : Addr}
theorem funD_one {q1 q2 : Str} {pr : Arguments} {bd : List Stmt} {sc : Scope} {dv : List V} {kw : List (Str × V)} {f : Addr} {f1 f2 : FuncData} (a : FunD K q1 q2 pr bd sc dv kw f f1) (b : FunD K q1 q2 pr bd sc dv kw f f2) : f2 = f1 := by
  obtain ⟨_, _, _, _, _, _, _, _, _, _, _, l1, _⟩ := a.ex
  obtain ⟨_, _, _, _, _, _, _, _, _, _, _, l2, _⟩ := b.ex
  rw [l1] at l2
  cases l2
  rfl
theorem lawFd (h : Heap) (hG : ∀ base, GdF P w K M mg base d [x] [] j ff) (he : d.at_ K = fa) (hd : d.dfl = [])
    (hb : ∀ (kV doc pm : Value) (an : Option Addr) (cdv ct u : Value), bindArgs (PySem.W.fnOf d.name d.qual d.params d.body d.scope .none kV doc pm an cdv ct) ⟨[u], []⟩ = pure [(x, u)]) :
    ∃ fd, (∀ (s : Shared) (u : Value), BindsTo s fd ⟨[u], []⟩ [(x, u)]) ∧ ∀ base : Heap, FnG P w K mg base j fa fd [x] (spF K M ff [] 1) := by
  obtain ⟨fd, F, _⟩ := hG h
  have e : d.dvs K = [] := by unfold He5.DefA.dvs; rw [hd]; rfl
  refine ⟨fd, ?_, fun base => ?_⟩
  · rw [e] at F
    have b := FunD.bindsA (ps := [x]) F (fun kV doc pm an cdv ct us hl => match us, hl with
      | [u], _ => by exact hb kV doc pm an cdv ct u)
    exact fun s u => b s [u] rfl
  · obtain ⟨fd', F', G'⟩ := hG base
    cases funD_one F F'
    exact he ▸ G'
end
end PI

set_option Elab.async false
set_option linter.all false
set_option maxRecDepth 100000
set_option maxHeartbeats 1000000
namespace PI
open PySem PySem.Spec PyProof.Rows L2
open PySem.W (Frag)
/-! ### reckoning with the words at a state that is written out -/
def nxt (as : List PF) : Fl → Sg → Rs Fl
  | .nx, g => pBlk as g
  | fl, g => .ok fl g
def setK (i : Nat) (d : D) (g : Sg) : Rs Fl := if i < g.length then .ok .nx (g.set i (some d)) else .bad
def retK (d : D) (g : Sg) : Rs Fl := .ok (.rt d) g
def dropK (_ : D) (g : Sg) : Rs Fl := .ok .nx g
def ifK (a b : PF) (t : Bool) (g : Sg) : Rs Fl := if t = true then a g else b g
def ifEK (a b : PX) (t : Bool) (g : Sg) : Rs D := if t = true then a g else b g
def notK (b : Bool) (g : Sg) : Rs Bool := .ok (!b) g
def andK (u : PT') (t : Bool) (g : Sg) : Rs Bool := if t = true then u g else .ok false g
def orK (u : PT') (t : Bool) (g : Sg) : Rs Bool := if t = true then .ok true g else u g
def andVK (b : PX) (d : D) (g : Sg) : Rs D := match trD d with
  | some true => b g
  | some false => .ok d g
  | none => .bad
def orVK (b : PX) (d : D) (g : Sg) : Rs D := match trD d with
  | some true => .ok d g
  | some false => b g
  | none => .bad
def trK (o : Op) (x : Option D) (g : Sg) : Rs Bool := match rdO g o x with
  | some d => rt2 (trD d) g
  | none => .bad
def op1K (f : D → Sg → Rs D) (a : Op) (x : Option D) (g : Sg) : Rs D := match rdO g a x with
  | some d => f d g
  | none => .bad
def op2E (f : D → D → Sg → Rs D) (a b : Op) (x y : Option D) (g : Sg) : Rs D := match rdO g a x, rdO g b y with
  | some d, some e => f d e g
  | _, _ => .bad
def op2K (f : D → D → Sg → Rs D) (a b : Op) (x : Option D) (g : Sg) : Rs D := (evO b g).bind fun y g2 => op2E f a b x y g2
def opsK (f : List D → Sg → Rs D) (os : List Op) (xs : List (Option D)) (g : Sg) : Rs D := match rdOs g os xs with
  | some ds => f ds g
  | none => .bad
def nmK (i : Nat) (g : Sg) : Rs (Option D) := match g[i]? with
  | some (some _) => .ok none g
  | _ => .bad
def exK (d : D) (g : Sg) : Rs (Option D) := .ok (some d) g
def evosK (os : List Op) (x : Option D) (g : Sg) : Rs (List (Option D)) := (evOs os g).bind fun xs g2 => .ok (x :: xs) g2
def evvK (as : List Ar) (d : D) (g : Sg) : Rs (List (Option D)) := (evA as g).bind fun xs g2 => .ok (some (sealD d) :: xs) g2
def evrK (as : List Ar) (x : Option D) (g : Sg) : Rs (List (Option D)) := (evA as g).bind fun xs g2 => .ok (x :: xs) g2
def wbC (ns : List (Option Nat)) (n : Nat) (rf : List Nat) (r : Cr) (g : Sg) : Rs D := match r with
  | .bad => .bad
  | .ok d rs => .ok d (wbS ns (retG n rf rs) g)
  | .exc c d rs => .exc c d (wbS ns (retG n rf rs) g)
def callK (f : List D → Cr) (rf : List Nat) (as : List Ar) (pm : Pm) (xs : List (Option D)) (g : Sg) : Rs D := match rdA g as xs with
  | none => .bad
  | some ds => match pmL ds id pm, pmL (as.map nmA) (fun _ => none) pm with
    | some es, some ns => wbC ns es.length rf (f es) g
    | _, _ => .bad
def newE (ns : List (Option Nat)) (n : Nat) (rf : List Nat) (r : Cr) (g : Sg) : Rs D := match r with
  | .bad => .bad
  | .ok .non rs => (match (retG n rf rs)[0]? with
    | some (some d) => .ok d (wbS ns (retG n rf rs) g)
    | _ => .bad)
  | .ok _ _ => .bad
  | .exc c d rs => .exc c d (wbS ns (retG n rf rs) g)
def newK (c : Str) (f : List D → Cr) (rf : List Nat) (as : List Ar) (pm : Pm) (xs : List (Option D)) (g : Sg) : Rs D := match rdA g as xs with
  | none => .bad
  | some ds => match pmL (.obj true c [] [] :: ds) id pm, pmL (none :: as.map nmA) (fun _ => none) pm with
    | some es, some ns => newE ns es.length rf (f es) g
    | _, _ => .bad
def methE (cd : Cd) (as : List Ar) (xs : List (Option D)) (g : Sg) : Rs D := callK cd.ff cd.rf as cd.pm xs g
def methK (m : Str) (cs : List Cd) (a0 : Ar) (as : List Ar) (xs : List (Option D)) (g : Sg) : Rs D := match rdA g [a0] xs with
  | some [d] => (match pickC m cs d with
    | some cd => (evA as g).bind fun ys g2 => methE cd (a0 :: as) (xs ++ ys) g2
    | none => .bad)
  | _ => .bad
def parK (is : List Nat) (as : List Ar) (xs : List (Option D)) (g : Sg) : Rs Fl := match (rdA g as xs).bind fun ds => setAll is ds g with
  | some g2 => .ok .nx g2
  | none => .bad
def allK (ms : List PX) (d : D) (g : Sg) : Rs (List D) := (pAll ms g).bind fun ds g2 => .ok (sealD d :: ds) g2
def tupK (ds : List D) (g : Sg) : Rs D := if ds.length ≤ 1000 then .ok (.tup ds) g else .bad
def lstK (ds : List D) (g : Sg) : Rs D := if ds.length ≤ 1000 then .ok (.lst true ds) g else .bad
def sl2K (f : D → D → Sg → Rs D) (b : PX) (d : D) (g : Sg) : Rs D := (b g).bind fun e g2 => f (sealD d) (sealD e) g2
def sl1K (f : D → Sg → Rs D) (d : D) (g : Sg) : Rs D := f (sealD d) g
def forK (tg : Tg) (b : PF) (ds : List D) (g : Sg) : Rs Fl := forD tg b ds g
def itvK (d : D) (g : Sg) : Rs (List D) := rl (itmD d) g
def rngK (os : List Op) (xs : List (Option D)) (g : Sg) : Rs (List D) := rl ((rdOs g os xs).bind rngA) g
def itaK (f : List D → Option (List D)) (ds : List D) (g : Sg) : Rs (List D) := rl (f ds) g
def lcK (tg : Tg) (c : PT') (e : PX) (vs : List Nat) (ds : List D) (g : Sg) : Rs D := if freeG vs g = true then (lcD tg c e vs ds [] g).bind fun acc g2 => .ok (.lst true acc) g2 else .bad
def dicK (ps : List (Key × D)) (g : Sg) : Rs D := if ps.length ≤ 15 then .ok (.dic true (dispD ps).1 (dispD ps).2) g else .bad
def evkK (k : Key) (r : List (Key × PX)) (d : D) (g : Sg) : Rs (List (Key × D)) := (evK r g).bind fun ps g2 => .ok ((k, sealD d) :: ps) g2
def rsK (c : Str) (ds : List D) (g : Sg) : Rs Fl := match ds with
  | [d] => .exc c d g
  | _ => .bad
def setTK (is : List Nat) (d : D) (g : Sg) : Rs Fl := match (seqD d).bind fun xs => setAll is xs g with
  | some g2 => .ok .nx g2
  | none => .bad
section
variable {x : Option D} {g : Sg} {d : D} {xs : List (Option D)}
theorem q_blkc {a : PF} {as : List PF} : pBlk (a :: as) (x :: g) = (a (x :: g)).bind (nxt as) := by
  show pSeq a (pBlk as) _ = _
  unfold pSeq
  congr 1
  funext fl g1
  cases fl <;> rfl
theorem q_blk0 {a : PF} {as : List PF} : pBlk (a :: as) ([] : Sg) = (a ([] : Sg)).bind (nxt as) := by
  show pSeq a (pBlk as) _ = _
  unfold pSeq
  congr 1
  funext fl g1
  cases fl <;> rfl
theorem q_setc {i : Nat} {e : PX} : pSet i e (x :: g) = (e (x :: g)).bind (setK i) := rfl
theorem q_set0 {i : Nat} {e : PX} : pSet i e ([] : Sg) = (e ([] : Sg)).bind (setK i) := rfl
theorem q_retc {e : PX} : pRet e (x :: g) = (e (x :: g)).bind retK := rfl
theorem q_ret0 {e : PX} : pRet e ([] : Sg) = (e ([] : Sg)).bind retK := rfl
theorem q_dropc {e : PX} : pDrop e (x :: g) = (e (x :: g)).bind dropK := rfl
theorem q_drop0 {e : PX} : pDrop e ([] : Sg) = (e ([] : Sg)).bind dropK := rfl
theorem q_ifc {c : PT'} {a b : PF} : pIf c a b (x :: g) = (c (x :: g)).bind (ifK a b) := rfl
theorem q_if0 {c : PT'} {a b : PF} : pIf c a b ([] : Sg) = (c ([] : Sg)).bind (ifK a b) := rfl
theorem q_ifec {c : PT'} {a b : PX} : pIfE c a b (x :: g) = (c (x :: g)).bind (ifEK a b) := rfl
theorem q_ife0 {c : PT'} {a b : PX} : pIfE c a b ([] : Sg) = (c ([] : Sg)).bind (ifEK a b) := rfl
theorem q_testc {e : PX} : pTest e (x :: g) = (e (x :: g)).bind asB := rfl
theorem q_test0 {e : PX} : pTest e ([] : Sg) = (e ([] : Sg)).bind asB := rfl
theorem q_notc {t : PT'} : pNot t (x :: g) = (t (x :: g)).bind notK := rfl
theorem q_not0 {t : PT'} : pNot t ([] : Sg) = (t ([] : Sg)).bind notK := rfl
theorem q_andc {t u : PT'} : pAnd t u (x :: g) = (t (x :: g)).bind (andK u) := rfl
theorem q_and0 {t u : PT'} : pAnd t u ([] : Sg) = (t ([] : Sg)).bind (andK u) := rfl
theorem q_orc {t u : PT'} : pOr t u (x :: g) = (t (x :: g)).bind (orK u) := rfl
theorem q_or0 {t u : PT'} : pOr t u ([] : Sg) = (t ([] : Sg)).bind (orK u) := rfl
theorem q_andvc {a b : PX} : pAndV a b (x :: g) = (a (x :: g)).bind (andVK b) := rfl
theorem q_andv0 {a b : PX} : pAndV a b ([] : Sg) = (a ([] : Sg)).bind (andVK b) := rfl
theorem q_orvc {a b : PX} : pOrV a b (x :: g) = (a (x :: g)).bind (orVK b) := rfl
theorem q_orv0 {a b : PX} : pOrV a b ([] : Sg) = (a ([] : Sg)).bind (orVK b) := rfl
theorem q_trc {o : Op} : pTr o (x :: g) = (evO o (x :: g)).bind (trK o) := rfl
theorem q_tr0 {o : Op} : pTr o ([] : Sg) = (evO o ([] : Sg)).bind (trK o) := rfl
theorem q_op1c {f : D → Sg → Rs D} {a : Op} : pOp1 f a (x :: g) = (evO a (x :: g)).bind (op1K f a) := rfl
theorem q_op10 {f : D → Sg → Rs D} {a : Op} : pOp1 f a ([] : Sg) = (evO a ([] : Sg)).bind (op1K f a) := rfl
theorem q_op2c {f : D → D → Sg → Rs D} {a b : Op} : pOp2 f a b (x :: g) = (evO a (x :: g)).bind (op2K f a b) := rfl
theorem q_op20 {f : D → D → Sg → Rs D} {a b : Op} : pOp2 f a b ([] : Sg) = (evO a ([] : Sg)).bind (op2K f a b) := rfl
theorem q_opsc {f : List D → Sg → Rs D} {os : List Op} : pOps f os (x :: g) = (evOs os (x :: g)).bind (opsK f os) := rfl
theorem q_ops0 {f : List D → Sg → Rs D} {os : List Op} : pOps f os ([] : Sg) = (evOs os ([] : Sg)).bind (opsK f os) := rfl
theorem q_evnmc {i : Nat} : evO (.nm i) (x :: g) = nmK i (x :: g) := rfl
theorem q_evnm0 {i : Nat} : evO (.nm i) ([] : Sg) = nmK i ([] : Sg) := rfl
theorem q_evexc {m : PX} : evO (.ex m) (x :: g) = (m (x :: g)).bind exK := rfl
theorem q_evex0 {m : PX} : evO (.ex m) ([] : Sg) = (m ([] : Sg)).bind exK := rfl
theorem q_evos0c  : evOs [] (x :: g) = .ok [] (x :: g) := rfl
theorem q_evos00  : evOs [] ([] : Sg) = .ok [] ([] : Sg) := rfl
theorem q_evoscc {o : Op} {os : List Op} : evOs (o :: os) (x :: g) = (evO o (x :: g)).bind (evosK os) := rfl
theorem q_evosc0 {o : Op} {os : List Op} : evOs (o :: os) ([] : Sg) = (evO o ([] : Sg)).bind (evosK os) := rfl
theorem q_eva0c  : evA [] (x :: g) = .ok [] (x :: g) := rfl
theorem q_eva00  : evA [] ([] : Sg) = .ok [] ([] : Sg) := rfl
theorem q_evavc {m : PX} {as : List Ar} : evA (.v m :: as) (x :: g) = (m (x :: g)).bind (evvK as) := rfl
theorem q_evav0 {m : PX} {as : List Ar} : evA (.v m :: as) ([] : Sg) = (m ([] : Sg)).bind (evvK as) := rfl
theorem q_evarc {o : Op} {as : List Ar} : evA (.r o :: as) (x :: g) = (evO o (x :: g)).bind (evrK as) := rfl
theorem q_evar0 {o : Op} {as : List Ar} : evA (.r o :: as) ([] : Sg) = (evO o ([] : Sg)).bind (evrK as) := rfl
theorem q_callc {f : List D → Cr} {rf : List Nat} {as : List Ar} {pm : Pm} : pCall f rf as pm (x :: g) = (evA as (x :: g)).bind (callK f rf as pm) := rfl
theorem q_call0 {f : List D → Cr} {rf : List Nat} {as : List Ar} {pm : Pm} : pCall f rf as pm ([] : Sg) = (evA as ([] : Sg)).bind (callK f rf as pm) := rfl
theorem q_newc {c : Str} {f : List D → Cr} {rf : List Nat} {as : List Ar} {pm : Pm} : pNew c f rf as pm (x :: g) = (evA as (x :: g)).bind (newK c f rf as pm) := rfl
theorem q_new0 {c : Str} {f : List D → Cr} {rf : List Nat} {as : List Ar} {pm : Pm} : pNew c f rf as pm ([] : Sg) = (evA as ([] : Sg)).bind (newK c f rf as pm) := rfl
theorem q_methc {m : Str} {cs : List Cd} {a0 : Ar} {as : List Ar} : pMeth m cs a0 as (x :: g) = (evA [a0] (x :: g)).bind (methK m cs a0 as) := rfl
theorem q_meth0 {m : Str} {cs : List Cd} {a0 : Ar} {as : List Ar} : pMeth m cs a0 as ([] : Sg) = (evA [a0] ([] : Sg)).bind (methK m cs a0 as) := rfl
theorem q_parc {is : List Nat} {as : List Ar} : pPar is as (x :: g) = (evA as (x :: g)).bind (parK is as) := rfl
theorem q_par0 {is : List Nat} {as : List Ar} : pPar is as ([] : Sg) = (evA as ([] : Sg)).bind (parK is as) := rfl
theorem q_all0c  : pAll [] (x :: g) = .ok [] (x :: g) := rfl
theorem q_all00  : pAll [] ([] : Sg) = .ok [] ([] : Sg) := rfl
theorem q_allcc {m : PX} {ms : List PX} : pAll (m :: ms) (x :: g) = (m (x :: g)).bind (allK ms) := rfl
theorem q_allc0 {m : PX} {ms : List PX} : pAll (m :: ms) ([] : Sg) = (m ([] : Sg)).bind (allK ms) := rfl
theorem q_tupc {ms : List PX} : pTup ms (x :: g) = (pAll ms (x :: g)).bind tupK := rfl
theorem q_tup0 {ms : List PX} : pTup ms ([] : Sg) = (pAll ms ([] : Sg)).bind tupK := rfl
theorem q_lstc {ms : List PX} : pLst ms (x :: g) = (pAll ms (x :: g)).bind lstK := rfl
theorem q_lst0 {ms : List PX} : pLst ms ([] : Sg) = (pAll ms ([] : Sg)).bind lstK := rfl
theorem q_sl2c {f : D → D → Sg → Rs D} {a b : PX} : pSl2 f a b (x :: g) = (a (x :: g)).bind (sl2K f b) := rfl
theorem q_sl20 {f : D → D → Sg → Rs D} {a b : PX} : pSl2 f a b ([] : Sg) = (a ([] : Sg)).bind (sl2K f b) := rfl
theorem q_sl1c {f : D → Sg → Rs D} {a : PX} : pSl1 f a (x :: g) = (a (x :: g)).bind (sl1K f) := rfl
theorem q_sl10 {f : D → Sg → Rs D} {a : PX} : pSl1 f a ([] : Sg) = (a ([] : Sg)).bind (sl1K f) := rfl
theorem q_putc {n : Nat} {mi : Op} {mv : PX} : pPut n mi mv (x :: g) = (mv (x :: g)).bind (put1 n mi) := rfl
theorem q_put0 {n : Nat} {mi : Op} {mv : PX} : pPut n mi mv ([] : Sg) = (mv ([] : Sg)).bind (put1 n mi) := rfl
theorem q_fstc {fl : List (Str × Str)} {f : Str} {n : Nat} {m : PX} : pFst fl f n m (x :: g) = (m (x :: g)).bind (fst2 fl f n) := rfl
theorem q_fst0 {fl : List (Str × Str)} {f : Str} {n : Nat} {m : PX} : pFst fl f n m ([] : Sg) = (m ([] : Sg)).bind (fst2 fl f n) := rfl
theorem q_forc {it : PIt} {tg : Tg} {b : PF} : pFor it tg b (x :: g) = (it (x :: g)).bind (forK tg b) := rfl
theorem q_for0 {it : PIt} {tg : Tg} {b : PF} : pFor it tg b ([] : Sg) = (it ([] : Sg)).bind (forK tg b) := rfl
theorem q_itvc {m : PX} : pItV m (x :: g) = (m (x :: g)).bind itvK := rfl
theorem q_itv0 {m : PX} : pItV m ([] : Sg) = (m ([] : Sg)).bind itvK := rfl
theorem q_rngc {os : List Op} : pRng os (x :: g) = (evOs os (x :: g)).bind (rngK os) := rfl
theorem q_rng0 {os : List Op} : pRng os ([] : Sg) = (evOs os ([] : Sg)).bind (rngK os) := rfl
theorem q_itac {f : List D → Option (List D)} {ms : List PX} : pItA f ms (x :: g) = (pAll ms (x :: g)).bind (itaK f) := rfl
theorem q_ita0 {f : List D → Option (List D)} {ms : List PX} : pItA f ms ([] : Sg) = (pAll ms ([] : Sg)).bind (itaK f) := rfl
theorem q_lcc {it : PIt} {tg : Tg} {c : PT'} {e : PX} {vs : List Nat} : pLc it tg c e vs (x :: g) = (it (x :: g)).bind (lcK tg c e vs) := rfl
theorem q_lc0 {it : PIt} {tg : Tg} {c : PT'} {e : PX} {vs : List Nat} : pLc it tg c e vs ([] : Sg) = (it ([] : Sg)).bind (lcK tg c e vs) := rfl
theorem q_dicc {kms : List (Key × PX)} : pDic kms (x :: g) = (evK kms (x :: g)).bind dicK := rfl
theorem q_dic0 {kms : List (Key × PX)} : pDic kms ([] : Sg) = (evK kms ([] : Sg)).bind dicK := rfl
theorem q_evk0c  : evK [] (x :: g) = .ok [] (x :: g) := rfl
theorem q_evk00  : evK [] ([] : Sg) = .ok [] ([] : Sg) := rfl
theorem q_evkcc {k : Key} {m : PX} {r : List (Key × PX)} : evK ((k, m) :: r) (x :: g) = (m (x :: g)).bind (evkK k r) := rfl
theorem q_evkc0 {k : Key} {m : PX} {r : List (Key × PX)} : evK ((k, m) :: r) ([] : Sg) = (m ([] : Sg)).bind (evkK k r) := rfl
theorem q_rsc {c : Str} {m : PX} : pRs c m (x :: g) = (pAll [m] (x :: g)).bind (rsK c) := rfl
theorem q_rs0 {c : Str} {m : PX} : pRs c m ([] : Sg) = (pAll [m] ([] : Sg)).bind (rsK c) := rfl
theorem q_yesc  : pYes (x :: g) = .ok true (x :: g) := rfl
theorem q_yes0  : pYes ([] : Sg) = .ok true ([] : Sg) := rfl
theorem q_chc {op op' : CmpOp} {a b c : Op} : pCh op op' a b c (x :: g) = (evO a (x :: g)).bind (pCh2 op op' a b c) := rfl
theorem q_ch0 {op op' : CmpOp} {a b c : Op} : pCh op op' a b c ([] : Sg) = (evO a ([] : Sg)).bind (pCh2 op op' a b c) := rfl
theorem q_nxc  : pNx (x :: g) = .ok .nx (x :: g) := rfl
theorem q_nx0  : pNx ([] : Sg) = .ok .nx ([] : Sg) := rfl
theorem q_retnc  : pRetN (x :: g) = .ok (.rt .non) (x :: g) := rfl
theorem q_retn0  : pRetN ([] : Sg) = .ok (.rt .non) ([] : Sg) := rfl
theorem q_setTc {is : List Nat} {e : PX} : pSetT is e (x :: g) = (e (x :: g)).bind (setTK is) := rfl
theorem q_setT0 {is : List Nat} {e : PX} : pSetT is e ([] : Sg) = (e ([] : Sg)).bind (setTK is) := rfl
theorem q_pVc {i : Nat} : pV i (x :: g) = match (x :: g)[i]? with
  | some (some d) => .ok (sealD d) ((x :: g).set i (some (sealD d)))
  | _ => .bad := rfl
theorem q_pC {d : D} : pC d g = .ok d g := rfl
theorem q_blk : pBlk [] g = .ok .nx g := rfl
end
end PI

set_option Elab.async false
set_option linter.all false
set_option maxRecDepth 100000
set_option maxHeartbeats 1000000
namespace PI
open PySem PySem.Spec PyProof.Rows L2
open PySem.W (Frag)
/-! ### the operations at known values, for simp -/
section
variable {g : Sg} {d : D} {b c m : Bool} {i j : Int} {x y : Str} {xs ys : List D} {ls rs es : List Cd}
theorem k_ro : ro (some d) g = .ok d g := rfl
theorem k_rb : rb (some b) g = .ok (.bl b) g := rfl
theorem k_rl : rl (some xs) g = .ok xs g := rfl
theorem k_rt : rt2 (some b) g = .ok b g := rfl
theorem k_asB : asB (.bl b) g = .ok b g := rfl
theorem k_add : binD .Add (.int i) (.int j) = some (.int (i + j)) := rfl
theorem k_sub : binD .Sub (.int i) (.int j) = some (.int (i - j)) := rfl
theorem k_mul : binD .Mult (.int i) (.int j) = if mulOk i j then some (.int (i * j)) else none := rfl
theorem k_fdiv : binD .FloorDiv (.int i) (.int j) = if 0 < j ∧ j.natAbs.log2 < 9000 then some (.int (i / j)) else none := rfl
theorem k_mod : binD .Mod (.int i) (.int j) = if 0 < j then some (.int (i % j)) else none := rfl
theorem k_pow : binD .Pow (.int i) (.int j) = if powOk i j then some (.int (i ^ j.toNat)) else none := rfl
theorem k_addl : binD .Add (.lst b xs) (.lst c ys) = if xs.length + ys.length ≤ lim then some (.lst true (xs ++ ys)) else none := rfl
theorem k_bini {op : Operator} : binS op ls rs (.int i) (.int j) g = ro (binD op (.int i) (.int j)) g := rfl
theorem k_binl {op : Operator} : binS op ls rs (.lst b xs) (.lst c ys) g = ro (binD op (.lst b xs) (.lst c ys)) g := rfl
theorem k_lt : cmpD .Lt (.int i) (.int j) = some (decide (i < j)) := rfl
theorem k_le : cmpD .LtE (.int i) (.int j) = some (decide (i ≤ j)) := rfl
theorem k_gt : cmpD .Gt (.int i) (.int j) = some (decide (j < i)) := rfl
theorem k_ge : cmpD .GtE (.int i) (.int j) = some (decide (j ≤ i)) := rfl
theorem k_ixl : ixD (.lst b xs) (.int i) = atI xs i := rfl
theorem k_ixt : ixD (.tup xs) (.int i) = atI xs i := rfl
theorem k_inti : intD [.int i] = some (.int i) := rfl
theorem k_intb : intD [.bl b] = some (.int (if b then 1 else 0)) := rfl
theorem k_abs : absD [.int i] = some (.int (if i < 0 then -i else i)) := rfl
theorem k_lenl : lenD [.lst b xs] = some (.int xs.length) := rfl
theorem k_lent : lenD [.tup xs] = some (.int xs.length) := rfl
theorem k_max : maxD [.int i, .int j] = some (.int (if j > i then j else i)) := rfl
theorem k_min : minD [.int i, .int j] = some (.int (if j < i then j else i)) := rfl
theorem k_s0 : sealD .non = .non := rfl
theorem k_s1 : sealD (.bl b) = .bl b := rfl
theorem k_s2 : sealD (.int i) = .int i := rfl
theorem k_s3 : sealD (.str x) = .str x := rfl
theorem k_s4 : sealD (.lst b xs) = .lst false xs := rfl
theorem k_s5 : sealD (.tup xs) = .tup xs := rfl
theorem k_s6 {ks : List Key} : sealD (.dic b ks xs) = .dic false ks xs := rfl
theorem k_s7 {k : Str} {ns : List Str} : sealD (.obj b k ns xs) = .obj false k ns xs := rfl
theorem k_t0 : trD .non = some false := rfl
theorem k_t1 : trD (.bl b) = some b := rfl
theorem k_t2 : trD (.int i) = some (i != 0) := rfl
theorem k_t4 : trD (.lst b xs) = some (!xs.isEmpty) := rfl
theorem k_eqi : cmpD .Eq (.int i) (.int j) = some (i == j) := rfl
theorem k_nei : cmpD .NotEq (.int i) (.int j) = some (i != j) := rfl
theorem k_eqs : cmpD .Eq (.str x) (.str y) = if (PyData.strOk x && PyData.strOk y) = true then some (decide (x = y)) else none := by
  by_cases e : x = y
  · subst e; simp [cmpD, eqP, pyOf, SeqAt.shaped, PyData.eqv, PyData.canLay0, PyData.layable0, PyData.depth]
  · have eb : (x == y) = false := beq_eq_false_iff_ne.mpr e
    simp [cmpD, eqP, pyOf, SeqAt.shaped, PyData.eqv, e, eb, PyData.canLay0, PyData.layable0, PyData.depth]
theorem k_nes : cmpD .NotEq (.str x) (.str y) = if (PyData.strOk x && PyData.strOk y) = true then some (!decide (x = y)) else none := by
  show (cmpD .Eq (.str x) (.str y)).map (!·) = _
  rw [k_eqs]
  split <;> rfl
theorem k_itl : itmD (.lst b xs) = some xs := rfl
theorem k_itt : itmD (.tup xs) = some xs := rfl
theorem k_run {rf : List Nat} {z : Nat} {mm : PF} {ds : List D} : runF rf z mm ds = finC rf (mm (ds.map some ++ List.replicate z none)) := rfl
theorem k_finr {rf : List Nat} {rs : List D} (h : retL g rf = some rs) : finC rf (.ok (.rt d) g) = .ok d rs := by
  show (match retL g rf with
    | some rs => Cr.ok d rs
    | none => .bad) = _
  rw [h]
theorem k_for0 {tg : Tg} {bd : PF} : forK tg bd [] g = .ok .nx g := rfl
end
end PI
namespace PI
theorem mulOk_l {i j : Int} (h1 : -(2 ^ 64) < i) (h2 : i < 2 ^ 64) : mulOk i j = true := by
  unfold mulOk
  rw [Bool.or_eq_true]
  exact .inl (decide_eq_true (.inl ⟨h1, h2⟩))
theorem mulOk_r {i j : Int} (h1 : -(2 ^ 64) < j) (h2 : j < 2 ^ 64) : mulOk i j = true := by
  unfold mulOk
  rw [Bool.or_eq_true]
  exact .inl (decide_eq_true (.inr ⟨h1, h2⟩))
theorem powOk_s {i j : Int} (h1 : -(2 ^ 64) < i) (h2 : i < 2 ^ 64) (h3 : 0 ≤ j) (h4 : j ≤ 1000000) : powOk i j = true := by
  unfold powOk
  rw [Bool.and_eq_true, Bool.or_eq_true]
  exact ⟨decide_eq_true h3, .inl (decide_eq_true ⟨h4, by omega⟩)⟩
theorem log_lt {j : Int} {k : Nat} (h0 : 0 < j) (h : j < 2 ^ k) : j.natAbs.log2 < k := by
  have e : j.natAbs ≠ 0 := by omega
  rw [Nat.log2_lt e]
  have : ((j.natAbs : Nat) : Int) < ((2 ^ k : Nat) : Int) := by
    rw [Int.natAbs_of_nonneg (by omega)]
    push_cast
    exact h
  exact_mod_cast this
end PI
namespace PI
theorem r_0e : retG 0 [] [] = [] := rfl
theorem r_1e : retG 1 [] [] = [none] := rfl
theorem r_1z {d : D} : retG 1 [0] [d] = [some d] := rfl
theorem r_2e : retG 2 [] [] = [none, none] := rfl
theorem r_2z {d : D} : retG 2 [0] [d] = [some d, none] := rfl
theorem r_3e : retG 3 [] [] = [none, none, none] := rfl
theorem r_3z {d : D} : retG 3 [0] [d] = [some d, none, none] := rfl
theorem r_4e : retG 4 [] [] = [none, none, none, none] := rfl
theorem r_4z {d : D} : retG 4 [0] [d] = [some d, none, none, none] := rfl
theorem r_5e : retG 5 [] [] = [none, none, none, none, none] := rfl
theorem r_5z {d : D} : retG 5 [0] [d] = [some d, none, none, none, none] := rfl
theorem r_6e : retG 6 [] [] = [none, none, none, none, none, none] := rfl
theorem r_6z {d : D} : retG 6 [0] [d] = [some d, none, none, none, none, none] := rfl
theorem r_7e : retG 7 [] [] = [none, none, none, none, none, none, none] := rfl
theorem r_7z {d : D} : retG 7 [0] [d] = [some d, none, none, none, none, none, none] := rfl
theorem r_8e : retG 8 [] [] = [none, none, none, none, none, none, none, none] := rfl
theorem r_8z {d : D} : retG 8 [0] [d] = [some d, none, none, none, none, none, none, none] := rfl
theorem r_9e : retG 9 [] [] = [none, none, none, none, none, none, none, none, none] := rfl
theorem r_9z {d : D} : retG 9 [0] [d] = [some d, none, none, none, none, none, none, none, none] := rfl
theorem r_10e : retG 10 [] [] = [none, none, none, none, none, none, none, none, none, none] := rfl
theorem r_10z {d : D} : retG 10 [0] [d] = [some d, none, none, none, none, none, none, none, none, none] := rfl
theorem r_11e : retG 11 [] [] = [none, none, none, none, none, none, none, none, none, none, none] := rfl
theorem r_11z {d : D} : retG 11 [0] [d] = [some d, none, none, none, none, none, none, none, none, none, none] := rfl
end PI
namespace PI
open PySem
theorem so_eq {a b : String} : (Str.ofString a = Str.ofString b) ↔ a = b := by
  constructor
  · intro h
    rw [Str.ofString_eq_toList, Str.ofString_eq_toList] at h
    have h1 : a.toList.map Char.toNat = b.toList.map Char.toNat := by
      have := congrArg (fun z : Str => z.cps.toList) h
      simpa using this
    have inj : ∀ x y : Char, x.toNat = y.toNat → x = y := fun x y e => Char.ext (UInt32.toNat.inj e)
    have h2 : ∀ (l m : List Char), l.map Char.toNat = m.map Char.toNat → l = m := by
      intro l
      induction l with
      | nil => intro m e; cases m with
        | nil => rfl
        | cons y m => cases e
      | cons x l ih => intro m e; cases m with
        | nil => cases e
        | cons y m =>
          simp only [List.map_cons, List.cons.injEq] at e
          rw [inj x y e.1, ih m e.2]
    exact String.toList_inj.mp (h2 _ _ h1)
  · intro h; rw [h]
end PI

set_option Elab.async false
set_option linter.all false
set_option maxRecDepth 100000
set_option maxHeartbeats 1000000
namespace PI
open PySem PySem.Spec PyProof.Rows L2
open PySem.W (Frag)
/-! ### repr of a list of whole numbers -/
def reprI (ns : List Int) : Str := listText (ns.map fun i => Str.ofString (toString i))
theorem strOk_app {x y : Str} (h1 : PyData.strOk x = true) (h2 : PyData.strOk y = true) : PyData.strOk (x ++ y) = true := by
  unfold PyData.strOk at *
  show ((x.cps ++ y.cps).all fun c => decide (c < 0x110000)) = true
  rw [Array.all_append, h1, h2] <;> rfl
theorem strOk_of (s : String) : PyData.strOk (Str.ofString s) = true := by
  rw [Str.ofString_eq_toList]
  unfold PyData.strOk
  rw [List.all_toArray, List.all_eq_true]
  intro c hc
  obtain ⟨ch, _, rfl⟩ := List.mem_map.mp hc
  refine decide_eq_true ?_
  have := ch.valid
  have e : ch.toNat = ch.val.toNat := rfl
  rcases this with h | ⟨_, h⟩
  · rw [e]; exact Nat.lt_trans h (by decide)
  · rw [e]; exact h
theorem strOk_from : ∀ (ts : List Str) (k : Nat) (acc : Str), PyData.strOk acc = true → (∀ t ∈ ts, PyData.strOk t = true) → PyData.strOk (textFrom k acc ts) = true
  | [], k, acc, h, _ => h
  | t :: r, k, acc, h, ht => by
    refine strOk_from r (k + 1) _ (strOk_app (strOk_app h (strOk_of _)) (ht t (List.mem_cons_self ..))) fun u hu => ht u (List.mem_cons_of_mem _ hu)
theorem reprI_ok (ns : List Int) : PyData.strOk (reprI ns) = true := by
  refine strOk_app (strOk_from _ 0 _ (strOk_of _) fun t ht => ?_) (strOk_of _)
  obtain ⟨i, _, rfl⟩ := List.mem_map.mp ht
  exact strOk_of _
theorem pyAll_ints : ∀ ns : List Int, pyAll (ns.map .int) = some (ns.map .int)
  | [] => by simp [pyAll]
  | i :: ns => by simp [pyAll, pyOf, pyAll_ints ns]
theorem shownAll_ints : ∀ ns : List Int, PyData.shownAll (ns.map .int) = ns.map fun i => Str.ofString (toString i)
  | [] => by simp [PyData.shownAll]
  | i :: ns => by simp only [List.map_cons, PyData.shownAll, PyData.shown, shownAll_ints ns]
theorem showAll_ints : ∀ ns : List Int, (∀ i ∈ ns, i.natAbs.log2 < 1900) → PyData.showableAll (ns.map .int) = true ∧ PyData.hasDictAll (ns.map .int) = false
  | [], _ => by simp [PyData.showableAll, PyData.hasDictAll]
  | i :: ns, h => by
    have ih := showAll_ints ns fun j hj => h j (List.mem_cons_of_mem _ hj)
    have := h i (List.mem_cons_self ..)
    simp [PyData.showableAll, PyData.hasDictAll, PyData.showable, PyData.hasDict, ih.1, ih.2]
    omega
theorem sum_ints : ∀ ns : List Int, (∀ i ∈ ns, i.natAbs.log2 < 1900) → ((ns.map fun i => Str.ofString (toString i)).map (·.length)).sum ≤ 1921 * ns.length
  | [], _ => by simp
  | i :: ns, h => by
    have ih := sum_ints ns fun j hj => h j (List.mem_cons_of_mem _ hj)
    have := int_text_len_1921 (i := i) (Nat.lt_trans (h i (List.mem_cons_self ..)) (by decide))
    simp only [List.map_cons, List.sum_cons, List.length_cons] at ih ⊢
    omega
theorem depth_ints : ∀ ns : List Int, PyData.depthAll (ns.map .int) = 0
  | [] => by simp [PyData.depthAll]
  | i :: ns => by simp [PyData.depthAll, PyData.depth, depth_ints ns]
theorem reprA_ints {b : Bool} {ns : List Int} (h : ∀ i ∈ ns, i.natAbs.log2 < 1900) (hl : ns.length ≤ 400) : reprA [.lst b (ns.map .int)] = some (.str (reprI ns)) := by
  have e1 : pyOf (.lst b (ns.map .int)) = some (.list (ns.map .int)) := by simp [pyOf, pyAll_ints]
  show ((pyOf (.lst b (ns.map .int))).bind reprP).map D.str = _
  rw [e1, Option.bind_some]
  have e2 : (PyData.list (ns.map .int)).shown = reprI ns := by simp only [PyData.shown, shownAll_ints, reprI]
  have e3 : (reprI ns).length ≤ lim := by
    have := listText_len_le (ns.map fun i => Str.ofString (toString i))
    have := sum_ints ns h
    rw [List.length_map] at *
    unfold reprI lim
    omega
  have e4 := showAll_ints ns h
  have e5 : (PyData.list (ns.map .int)).showable = true := by simp only [PyData.showable]; exact e4.1
  have e6 : (PyData.list (ns.map .int)).hasDict = false := by simp only [PyData.hasDict]; exact e4.2
  have hd : (PyData.list (ns.map .int)).depth ≤ 40 := by simp [PyData.depth, depth_ints]
  unfold reprP
  rw [if_pos ⟨e5, e6, hd, by rw [e2]; exact e3⟩, e2] <;> rfl
end PI

set_option Elab.async false
set_option linter.all false
set_option maxRecDepth 100000
set_option maxHeartbeats 1000000
namespace PI
open PySem PySem.Spec PyProof.Rows L2
open PySem.W (Frag)
/-! ### a text that joins a list of texts -/
def joinL' (z : Str) (xs : List D) : Option D := (strsD xs).bind fun ys => if (ys.map (·.length)).sum + ys.length * z.length ≤ lim then some (.str (Str.join z ys)) else none
def joinD (z : Str) (d : D) : Option D := (seqD d).bind (joinL' z)
section
variable {K : Frag} {M : Memo} {W : WX} {X : Cx} {p apos pos : Pos} {j : Nat}
theorem pe_Join {z : Str} {e : Expr} {oe : Op} (he : PE X e (tO X.K M W oe)) (hs : starEach [e] X.env = [(false, eval e X.env)])
    (hbase : attributeBase (.Constant (.str z) j p) "join" X.env (eval (.Constant (.str z) j p) X.env) = eval (.Constant (.str z) j p) X.env) (hline : (apos.endLine == pos.line) = true) :
    PE X (.Call (.Attribute (.Constant (.str z) j p) "join" apos) [e] [] pos) (tP X.K M W (pOp1 (fun d g => ro (joinD z d) g) oe)) := by
  refine PE.imp (pe_join pe_str he hs hbase hline) fun σ H Q q => ?_
  refine ⟨⟨z, rfl⟩, ?_⟩
  obtain ⟨g, G, S, mt, q⟩ := op1_t q
  refine ⟨g, G, S, mt, EndO.imp q fun v H' q => ?_⟩
  obtain ⟨g, G, S, d, m, sd, q⟩ := q
  dsimp only at q
  unfold joinD at q
  cases e1 : seqD d with
  | none => rw [e1] at q; exact (show False from q).elim
  | some xs =>
    rw [e1, Option.bind_some] at q
    obtain ⟨a, vs, rfl, h2, h3⟩ := seq_seen sd m.sub e1
    unfold joinL' at q
    cases e2 : strsD xs with
    | none => rw [e2] at q; exact (show False from q).elim
    | some ys =>
      rw [e2, Option.bind_some] at q
      cases strs_rep h3 e2
      split at q
      · rename_i hl
        refine ⟨z, a, ys, rfl, rfl, h2.symm, ?_, ?_⟩
        · unfold lim at hl
          omega
        · rw [TL.join_eq]
          exact fin_sc q m rfl
      · exact (show False from q).elim
end
end PI

set_option Elab.async false
set_option linter.all false
set_option maxRecDepth 100000
set_option maxHeartbeats 1000000
namespace PI
open PySem PySem.Spec PyProof.Rows L2
open PySem.W (Frag)
section
variable {P : Program} {w : World} {K : Frag} {M : Memo} {mg : Str → Option Value} {base : Heap} {N : List Str} {sc : Scope} {k : Nat} {X : Cx} {W : WX} {fx : List Nat} {e : Expr} {es : List Expr} {p2 pos : Pos}
/-- names in a row, of which some are cells -/
theorem sSetTc (c : Bd P w K mg base N sc k X W) {is : List Nat} {kk : Nat} {me : PX} (he : PE X e (tP X.K M W me)) (h : PGs X es (gNs is)) (hf : is.all (fun i => notIn i fx) = true) (hn : (assignEach es X.env).length = is.length) (hst : (assignEach es X.env).findIdx? (·.1) = none)
    (hs : swapsWithSole [.Tuple es kk p2] e pos.line X.env = pure false) (hw : swappedStores [.Tuple es kk p2] e (envS sc) = pure none) (h1 : (assignEach [.Tuple es kk p2] X.env).map (·.2) = [assign (.Tuple es kk p2) X.env]) :
    PS X (.Assign [.Tuple es kk p2] e pos) (tF X.K M fx W (pSetT is me)) := sSetT c he h hf hn hst hs ((sw_env c.ct.sc).trans hw) h1
end
end PI

set_option Elab.async false
set_option linter.all false
set_option maxRecDepth 100000
set_option maxHeartbeats 1000000
namespace PI
open PySem PySem.Spec PyProof.Rows L2
open PySem.W (Frag InstAt findIn isFn selfFirst subIn Looks mroIn)
/-! ### an own thing's sign of unlike -/
section
variable {prog : Program} {w : World} {A : Around} {E : Value → Shared → Prop} {s : Shared} {K : Frag} {x C f L : Addr} {ox : Obj} {od : Option Obj} {b tb : Value} {h₀ : Heap} {m : Str → Option Value}
theorem bound_ne {M : Model} {args : List Value} {Q : Option Value → Shared → Prop} (X : K.In s.heap) (I : InstAt s.heap x ox C od) (hs : findIn K (.ref C) "__ne__" = some (some (.builtin "object.__ne__")))
    (h : wpAny M A (call (.builtin "object.__ne__") (.ref x :: args)) (fun v => Q (some v)) E s) : wpAny M A (callSpecialIfBound? (.ref x) "__ne__" args) Q E s := by
  simp only [callSpecialIfBound?, bindSpecialIfBound?]
  refine wpAny_holding (wpAny_bind (wpAny_bind (wpAny_bind (I.type.here ((PySem.W.looks_findIn X hs).here ?_)))))
  refine wpAny_bind (wpAny_askSetting (wpAny_ite ?_))
  have fin : wpAny M A (call (.builtin "object.__ne__") ([.ref x] ++ args) >>= fun v => pure (some v)) Q E s := wpAny_bind (wpAny_mono h (fun v s' h' => wpAny_pure h') fun _ _ h' => h')
  split
  · exact wpAny_bind (wpAny_of_eq (F.cmp_object.ne.bind _) (wpAny_pure (by exact fin)))
  · exact wpAny_tryCatch (wpAny_bind (wpAny_of_eq (F.cmp_object.ne.bind _) (wpAny_pure (by exact fin))))
theorem entry_ne (hu : A.units < cLine) (X : K.In s.heap) (I : InstAt s.heap x ox C od) (hs : findIn K (.ref C) "__eq__" = some (some (.ref f))) (hf : isFn K (.ref f) = true) {Q : Fin → Shared → Prop}
    (h : wpAny (model prog w) A (call (.ref f) [.ref x, b]) (fun v s' => ∃ c, v = .bool c ∧ Q (.done (.ret (.bool (!c)))) s') E s) : wpAny (model prog w) A (Builtin.«object.__ne__» ⟨[.ref x, b], []⟩) Q E s := by
  unfold Builtin.«object.__ne__»
  repeat (first
    | with_reducible refine wpAny_cRoomFor hu ?_
    | (refine wpAny_bind (m := callSpecialIfBound? (.ref x) (Str.ofString "__eq__") [b])
        (PySem.W.ifBound_K X I hs hf (wpAny_mono h (fun r s' hr => by
          obtain ⟨c, rfl, hq⟩ := hr
          repeat (first | exact hq | exact wpAny_pure hq | exact wpAny_truthy_bool hq | (refine wpAny_bind (m := truthy (.bool _)) (wpAny_truthy_bool ?_)) | wp_step)) fun _ _ e => e)))
    | wp_step)
theorem ne_K {Q : Value → Shared → Prop} (hu : A.units + 1 < cLine) (F' : Fr h₀ L s.heap m) (X₀ : K.In h₀) (I : InstAt s.heap x ox C od) (hb : Looks (model prog w) s.heap (typeOf b) tb) (hn : PySem.W.notFirst K C tb = true)
    (hm : mroIn K C (.type "object") = some true) (hne : findIn K (.ref C) "__ne__" = some (some (.builtin "object.__ne__"))) (hs : findIn K (.ref C) "__eq__" = some (some (.ref f))) (hf : isFn K (.ref f) = true)
    (h : wpAny (model prog w) A.in1 (call (.ref f) [.ref x, b]) (fun v s' => ∃ c, v = .bool c ∧ Q (.bool (!c)) s') E s) : wpAny (model prog w) A (richCompare .NotEq (.ref x) b) Q E s := by
  have X := X₀.keeps F'.keep
  have one : wpAny (model prog w) A (tryCompare (.ref x) "__ne__" b) (fun r s' => ∃ v, r = some v ∧ Q v s') E s := by
    unfold tryCompare
    refine wpAny_bind (bound_ne X I hne (wpAny_call (codeAny_call_builtin F.cmp_object.ne.plain F.cmpEntry_ne (PySem.W.check_slot F.cmpKind_ne F.cmpSplit_ne (I.type.andThen (PySem.W.looks_mroIn X hm)) (F.cmpArgs_ne _ _)
      (entry_ne (A := A.in1) hu X I hs hf (wpAny_mono h (fun v s' hv => ?_) fun _ _ e => e))))))
    obtain ⟨c, rfl, hq⟩ := hv
    first | exact ⟨c, rfl, wpAny_pure ⟨_, rfl, hq⟩⟩ | exact ⟨c, rfl, wpAny_pure (wpAny_pure ⟨_, rfl, hq⟩)⟩ | exact ⟨c, rfl, ⟨_, rfl, hq⟩⟩
  unfold richCompare
  simp only [oneThing_ref, cmpInfo_NotEq]
  refine wpAny_holding (wpAny_bind (wpAny_cRoomFor (by omega) ?_))
  refine wpAny_bind (I.type.here (wpAny_bind (hb.here ?_)))
  split
  · rename_i q
    have e : subIn K tb (.ref C) = some false := by
      rcases Bool.or_eq_true_iff.mp hn with e | e
      · rw [beq_iff_eq.mp e] at q; simp at q
      · exact beq_iff_eq.mp e
    refine wpAny_bind ((PySem.W.looks_subIn X e).here ?_)
    simp only [Bool.false_eq_true, if_false]
    refine wpAny_bind (wpAny_mono one (fun r s' z => ?_) fun _ _ e => e)
    obtain ⟨v, rfl, hq⟩ := z
    exact wpAny_pure hq
  · refine wpAny_bind (wpAny_pure ?_)
    simp only [Bool.false_eq_true, if_false]
    refine wpAny_bind (wpAny_mono one (fun r s' z => ?_) fun _ _ e => e)
    obtain ⟨v, rfl, hq⟩ := z
    exact wpAny_pure hq
end
/-! ### the same context, one call further in -/
def inX (X : Cx) : Cx := { X with A := X.A.in1 }
section
variable {K : Frag} {M : Memo} {W : WX} {X : Cx} {σ : L2.St} {H H0 G G0 H1 G1 : Hp} {S S0 S1 : Nat → Addr → Prop} {g g1 : Sg} {Q : VK} {pos p2 : Pos} {k : Nat} {f : Addr} {pins : List (Addr × Obj)} {s : Shared} {cd : Cd}
theorem ok_in (o : X.Ok) : (inX X).Ok := ⟨o.mod, o.kind, o.glob, o.blt, o.above, o.inj, o.has, o.cab, o.hd, o.frames, o.stk, o.exf, o.bs, o.bsz, o.noex, o.exfs, o.funs, o.frf⟩
theorem inv_in (I : Inv X pins σ H s) : Inv (inX X) pins σ H s := ⟨ok_in I.ok, I.os, I.bare, I.base, I.loc, I.cell, I.free, I.freeC, I.pin, I.hok, I.len⟩
theorem inv_out (o : X.Ok) (I : Inv (inX X) pins σ H s) : Inv X pins σ H s := ⟨o, I.os, I.bare, I.base, I.loc, I.cell, I.free, I.freeC, I.pin, I.hok, I.len⟩
theorem takes_in (o : X.Ok) (t : Takes X W) : Takes (inX X) W := fun u s' ⟨a, B, sI, pins, σ, H, cls, d, e, I, nb, up, sky, na, os, ag, w⟩ => t u s' ⟨a, B, sI, pins, σ, H, cls, d, e, inv_out o I, nb, up, sky, na, os, ag, w⟩
def negB : D → Sg → Rs D
  | .bl b, g => .ok (.bl (!b)) g
  | _, _ => .bad
def neS (es : List Cd) (d e : D) (g : Sg) : Rs D := match d with
  | .obj b c ns ds => (match findC es c with
    | some cd => (match e with
      | .obj _ c' _ _ => if c' = c then (own2 cd (.obj b c ns ds) e g).bind negB else .bad
      | _ => if (kindD e).isSome = true then (own2 cd (.obj b c ns ds) e g).bind negB else .bad)
    | none => .bad)
  | d => (match e with
    | .obj .. => .bad
    | e => rb (cmpD .NotEq d e) g)
/-- what an own thing's sign of unlike wants of its class -/
structure OpN (K : Frag) (C : Addr) : Prop where
  ne : findIn K (.ref C) "__ne__" = some (some (.builtin "object.__ne__"))
  mro : mroIn K C (.type "object") = some true
def CaN (X : Cx) (M : Memo) (cd : Cd) (f : Addr) : Prop := ∃ k fd ps, FnG X.prog X.w X.K X.mg X.base k f fd ps (spF X.K M cd.ff cd.rf ps.length) ∧ Room (k + 1) X.A ∧ BindP X.K fd ps 2 [] cd.pm ∧ distinct (cd.pm.map inlOf) = true
theorem ne_run {d e : D} {x y : V} {v u : Value} (C : CaN X M cd f) (gu : X.A.guards = some []) (tk : Takes X W) (I : Inv X pins σ H s) (rx : RelV x v) (ry : RelV y u) (m : Mt X.K M g σ H G S) (r1 : Rep X.K G d x) (r2 : Rep X.K G e y)
    (q : EndE X.K M W σ H G S ((own2 cd d e g).bind negB) Q) : wpAny (model X.prog X.w) X.A.in1 (call (.ref f) [v, u]) (fun v s' => ∃ c, v = .bool c ∧ EP X pins σ Q (.bool (!c)) s') X.xe s := by
  obtain ⟨k, fd, ps, F, hr, hb, dp⟩ := C
  have ca : CaOk (inX X) M 2 cd f := ⟨k, fd, ps, F, hr.in1, hb, dp⟩
  refine wpAny_mono (own2_run (X := inX X) (Q := fun v H1 => ∃ c, v = .bl c ∧ Q (.bl (!c)) H1) ca gu (takes_in I.ok tk) (inv_in I) rx ry m r1 r2 ?_) (fun v s' ⟨z, H', I', rz, c, e, q⟩ => ?_) fun _ _ e => e
  · refine EndE.imp (EndE.bind q) fun v H1 ⟨d, g1, G1, S1, T, er, got, st, q⟩ => ?_
    unfold negB at q
    obtain ⟨G2, m2, r2, sb, hg, hv⟩ := got.seal
    have st2 := st.sealed sb hg hv
    split at q
    · rename_i g' b
      cases (show v = .bl b from r2)
      exact ⟨b, rfl, fin_sc (EndE.of q st2) m2 rfl⟩
    · exact (show False from q).elim
  · subst e
    cases rz
    exact ⟨c, rfl, .bl (!c), H', inv_out I.ok I', rfl, q⟩
theorem neS_ok {es : List Cd} (hu : X.A.units + 64 < cLine) (C : ∀ cd ∈ es, ∃ f, CaN X M cd f ∧ OpE X.K (He.ga X.K cd.c) f ∧ OpN X.K (He.ga X.K cd.c)) (gu : X.A.guards = some []) (tk : Takes X W) : OpS X (compareOp .NotEq) (rS2 X.K M W (neS es)) := by
  rintro pins s σ H x y v u Q I rx ry ⟨g, G, S, d, e, m, r1, r2, q⟩
  unfold neS at q
  obtain ⟨m0, F⟩ := I.fr
  have hu' : X.A.units + 1 < cLine := by omega
  split at q
  · rename_i b c ns ds
    obtain ⟨a, ox, od, rfl, rfl, J, hp⟩ := inst_rep I m.sub r1 rx
    split at q
    · rename_i cd hc
      obtain ⟨rfl, hin⟩ := findC_c hc
      obtain ⟨f, ca, L, N⟩ := C cd hin
      split at q
      · rename_i b' c' ns' ds'
        obtain ⟨a2, ox2, od2, rfl, rfl, J2, hp2⟩ := inst_rep I m.sub r2 ry
        split at q
        · rename_i hcc
          subst hcc
          exact ne_K hu' F I.ok.mod.kin J J2.type (by simp [PySem.W.notFirst]) N.mro N.ne L.at_ L.fn (ne_run ca gu tk I rx ry m r1 r2 q)
        · exact (show False from q).elim
      · split at q
        · rename_i hk
          obtain ⟨T, hT⟩ := Option.isSome_iff_exists.mp hk
          obtain ⟨L2, hm⟩ := kind_looks (Mo := model X.prog X.w) I m.sub r2 ry hT
          refine ne_K hu' F I.ok.mod.kin J L2 ?_ N.mro N.ne L.at_ L.fn (ne_run ca gu tk I rx ry m r1 r2 q)
          unfold PySem.W.notFirst
          rw [L.nf T hm]
          exact Bool.or_true _
        · exact (show False from q).elim
    · exact (show False from q).elim
  · split at q
    · exact (show False from q).elim
    · exact cmp_ok hu .NotEq pins s σ H x y v u Q I rx ry ⟨g, G, S, d, e, m, Seen.of r1, Seen.of r2, q⟩
theorem pe_Ne {es : List Cd} {a b : Expr} {ma mb : PX} (hu : X.A.units + 64 < cLine) (C : ∀ cd ∈ es, ∃ f, CaN X M cd f ∧ OpE X.K (He.ga X.K cd.c) f ∧ OpN X.K (He.ga X.K cd.c)) (gu : X.A.guards = some []) (tk : Takes X W) (ha : PE X a (tP X.K M W ma)) (hb : PE X b (tP X.K M W mb)) (hm : behindInMarks .NotEq b = false) : PE X (.Compare a [.NotEq] [b] pos) (tP X.K M W (pSl2 (neS es) ma mb)) :=
  ⟨fun pins s σ H Q I q => wpAny_Compare1 (binT (R := fun x y H2 => rS2 X.K M W (neS es) σ x y H2 Q) ha hb I (sl2_t q) fun v u s2 x y H2 I2 rx ry q => neS_ok hu C gu tk pins s2 σ H2 x y v u Q I2 rx ry q) hm⟩
theorem pt_Ne {es : List Cd} {a b : Expr} {ma mb : PX} (hu : X.A.units + 64 < cLine) (C : ∀ cd ∈ es, ∃ f, CaN X M cd f ∧ OpE X.K (He.ga X.K cd.c) f ∧ OpN X.K (He.ga X.K cd.c)) (gu : X.A.guards = some []) (tk : Takes X W) (ha : PE X a (tP X.K M W ma)) (hb : PE X b (tP X.K M W mb)) (hm : behindInMarks .NotEq b = false) : PT X (.Compare a [.NotEq] [b] pos) (tB' X.K M W (pTest (pSl2 (neS es) ma mb))) := by
  refine ⟨fun pins s σ H Q I q => ?_⟩
  refine wpAny_isTrue_Compare1 (binT (R := fun x y H2 => rS2 X.K M W (neS es) σ x y H2 fun v H1 => ∃ k, v = .bl k ∧ Q k H1) ha hb I (sl2_t (test_t q)) fun v u s2 x y H2 I2 rx ry q => thn (neS_ok hu C gu tk pins s2 σ H2 x y v u _ I2 rx ry q) fun w s3 ⟨z, H3, I3, r3, k, e, q3⟩ => ?_) hm
  subst e
  cases r3
  exact wpAny_truthy_bool ⟨H3, I3, q3⟩
end
end PI

set_option Elab.async false
set_option linter.all false
set_option maxRecDepth 100000
set_option maxHeartbeats 1000000
namespace PI
open PySem PySem.Spec PyProof.Rows L2
open PySem.W (Frag InstAt findIn isFn selfFirst subIn Looks mroIn clsIn)
/-! ### a sign that sets a name, of own things -/
section
variable {prog : Program} {w : World} {M : Model} {A : Around} {E : Value → Shared → Prop} {s : Shared} {K : Frag} {x C f L : Addr} {ox : Obj} {od : Option Obj} {b tb : Value} {h₀ : Heap} {m : Str → Option Value}
theorem fillsI_no {h : Heap} {cd : ClassData} {nm : String} {add : Bool} (X : K.In h) (hc : clsIn K C = some cd) (hm : cd.mro = [.ref C, .type "object"]) (h1 : findIn K (.ref C) (dunderI nm) = some none) (h2 : findIn K (.type "object") (dunderI nm) = some none) :
    Looks M h (fillsInplaceSlot (.ref C) nm add) false := by
  intro A Q E s k q
  have Lm : Looks M h (mroOf (.ref C)) cd.mro := (PySem.W.looks_clsIn X hc).andThen (f := fun cd => pure cd.mro) .now
  have Lm' := Lm.keeps k
  obtain ⟨hh, g, d, tt, os⟩ := s
  have X' : K.In hh := X.keeps k
  have L1 : Looks M hh (typeLookup (.ref C) (dunderI nm)) none := PySem.W.looks_findIn X' h1
  have L2 : Looks M hh (typeLookup (.type "object") (dunderI nm)) none := PySem.W.looks_findIn X' h2
  unfold fillsInplaceSlot
  refine wpAny_bind (Lm'.at ?_)
  rw [hm, List.anyM_cons, List.anyM_cons, List.anyM_nil]
  refine wpAny_bind (wpAny_bind (L1.at (wpAny_pure ?_)))
  simp only [Bool.false_eq_true, if_false]
  refine wpAny_bind (wpAny_bind (L2.at (wpAny_pure ?_)))
  simp only [Bool.false_eq_true, if_false]
  exact wpAny_pure q
theorem bin1_same {op : Operator} {Q : Value → Shared → Prop} (X : K.In s.heap) (I : InstAt s.heap x ox C od) (hb : Looks (model prog w) s.heap (typeOf b) (.ref C)) (hc : selfFirst K C = true)
    (hs : findIn K (.ref C) (PySem.dunder op.info.2) = some (some (.ref f))) (hf : isFn K (.ref f) = true)
    (h : wpAny (model prog w) A (call (.ref f) [.ref x, b]) (PySem.W.CmpBack Q) E s) : wpAny (model prog w) A (binaryOp1 op.info.2 (.ref x) b) (fun r s' => ∃ v, r = some v ∧ Q v s') E s := by
  obtain ⟨cd, rest, hcd, hm⟩ := PySem.W.ksp_first hc
  unfold binaryOp1
  refine wpAny_bind (I.type.here (wpAny_bind (hb.here (wpAny_bind ((PySem.W.fills_K X hcd hm hs).here ?_)))))
  simp only [beq_self_eq_true, if_true]
  refine wpAny_bind (wpAny_pure ?_)
  simp only [Bool.and_false, Bool.false_eq_true, if_false, Bool.false_and]
  refine wpAny_bind (wpAny_pure ?_)
  simp only [Bool.false_eq_true, if_false]
  refine wpAny_bind (m := tryMethod (.ref x) _ b) ?_
  unfold tryMethod
  refine wpAny_bind (PySem.W.special_fn X I hs (beq_iff_eq.mp hf) (wpAny_mono h (fun v s' hv => ?_) fun _ _ e => e))
  cases v <;> first | exact hv.elim | exact wpAny_pure (wpAny_pure ⟨_, rfl, hv⟩)
theorem bin1_T {op : Operator} {T : String} {fo ro rc : Option Value} {Q : Value → Shared → Prop} (X : K.In s.heap) (I : InstAt s.heap x ox C od) (hb : typeOf b = pure (.type T)) (hc : selfFirst K C = true)
    (hs : findIn K (.ref C) (PySem.dunder op.info.2) = some (some (.ref f))) (hf : isFn K (.ref f) = true) (hr : findIn K (.ref C) (dunderR op.info.2) = some rc) (hp : rc = none ∨ ∃ g : Addr, rc = some (.ref g))
    (h1 : findIn K (.type T) (PySem.dunder op.info.2) = some fo) (h2 : findIn K (.type T) (dunderR op.info.2) = some ro) (hsub : subIn K (.type T) (.ref C) = some false)
    (h : wpAny (model prog w) A (call (.ref f) [.ref x, b]) (PySem.W.CmpBack Q) E s) : wpAny (model prog w) A (binaryOp1 op.info.2 (.ref x) b) (fun r s' => ∃ v, r = some v ∧ Q v s') E s := by
  obtain ⟨cd, rest, hcd, hm⟩ := PySem.W.ksp_first hc
  rcases hi : op.info with ⟨sym, nm'⟩
  rw [hi] at hs hr h1 h2
  dsimp only at hs hr h1 h2 ⊢
  have one := PySem.W.ksp_try X I hs hf h
  obtain ⟨hh, g, d, tt, os⟩ := s
  have L1 : Looks (model prog w) hh (typeOf (.ref x)) (.ref C) := I.type
  have L2 : Looks (model prog w) hh (typeOf b) (.type T) := Looks.of_pure hb
  have L3 : Looks (model prog w) hh (fillsNumberSlot (.ref C) nm') true := PySem.W.fills_K X hcd hm hs
  have L4 : Looks (model prog w) hh (fillsNumberSlot (.type T) nm') ((fo.isSome && !isSeqSlot fo) || (ro.isSome && !isSeqSlot ro)) := PySem.W.ksp_fillsT X h1 h2
  have L5 : Looks (model prog w) hh (isSubtype (.type T) (.ref C)) false := PySem.W.looks_subIn X hsub
  have L6 : Looks (model prog w) hh (numberSlotInPython (.ref C) nm') true := PySem.W.ksp_inPy X hs hr hp
  have L7 : Looks (model prog w) hh (numberSlotInPython (.type T) nm') false := Looks.of_pure rfl
  have L8 : Looks (model prog w) hh (typeLookup (.type T) (dunderR nm')) ro := PySem.W.looks_findIn X h2
  generalize ((fo.isSome && !isSeqSlot fo) || (ro.isSome && !isSeqSlot ro)) = right at L4
  have hne : (Value.ref C == Value.type T) = false := Bool.eq_false_iff.mpr fun q => by cases beq_iff_eq.mp q
  unfold binaryOp1
  refine wpAny_bind (L1.at (wpAny_bind (L2.at (wpAny_bind (L3.at ?_)))))
  simp only [hne, Bool.false_eq_true, if_false]
  cases right with
  | false =>
    ksp_lk
    refine wpAny_mono one (fun r s' hr' => ?_) fun _ _ e => e
    obtain ⟨v, rfl, hq⟩ := hr'
    repeat lk
    exact ⟨v, rfl, hq⟩
  | true =>
    ksp_lk
    refine wpAny_mono one (fun r s' hr' => ?_) fun _ _ e => e
    obtain ⟨v, rfl, hq⟩ := hr'
    repeat lk
    exact ⟨v, rfl, hq⟩
theorem ip_of {op : Operator} {cd : ClassData} {Q : Value → Shared → Prop} (X : K.In s.heap) (I : InstAt s.heap x ox C od) (hc : clsIn K C = some cd) (hm : cd.mro = [.ref C, .type "object"]) (h1 : findIn K (.ref C) (dunderI op.info.2) = some none) (h2 : findIn K (.type "object") (dunderI op.info.2) = some none)
    (h : wpAny (model prog w) A (binaryOp1 op.info.2 (.ref x) b) (fun r s' => ∃ v, r = some v ∧ Q v s') E s) : wpAny (model prog w) A (inplaceOp op (.ref x) b) Q E s := by
  unfold inplaceOp
  refine wpAny_holding ?_
  refine wpAny_bind (I.type.here (wpAny_bind ((fillsI_no X hc hm h1 h2).here ?_)))
  simp only [Bool.false_eq_true, if_false]
  refine wpAny_bind (wpAny_mono h (fun r s' z => ?_) fun _ _ e => e)
  obtain ⟨v, rfl, hq⟩ := z
  exact wpAny_pure hq
end
end PI

set_option Elab.async false
set_option linter.all false
set_option maxRecDepth 100000
set_option maxHeartbeats 1000000
namespace PI
open PySem PySem.Spec PyProof.Rows L2
open PySem.W (Frag InstAt findIn isFn selfFirst subIn Looks mroIn clsIn)
/-- what a sign that sets a name wants of an own class: none of its own, nor of its base -/
structure OpA (K : Frag) (op : Operator) (C : Addr) : Prop where
  cls : ∃ cd, clsIn K C = some cd ∧ cd.mro = [.ref C, .type "object"]
  n1 : findIn K (.ref C) (dunderI op.info.2) = some none
  n2 : findIn K (.type "object") (dunderI op.info.2) = some none
def augS (ls : List Cd) (d e : D) (g : Sg) : Rs D := match d, e with
  | .obj b c ns ds, .int i => (match findC ls c with
    | some cd => own2 cd (.obj b c ns ds) (.int i) g
    | none => .bad)
  | .obj b c ns ds, .obj b' c' ns' ds' => if c = c' then (match findC ls c with
    | some cd => own2 cd (.obj b c ns ds) (.obj b' c' ns' ds') g
    | none => .bad) else .bad
  | _, _ => .bad
section
variable {K : Frag} {M : Memo} {W : WX} {X : Cx} {σ : L2.St} {H H0 G G0 H1 G1 : Hp} {S S0 S1 : Nat → Addr → Prop} {g g1 : Sg} {Q : VK} {pos p2 pos' : Pos} {k : Nat} {f : Addr} {pins : List (Addr × Obj)} {s : Shared} {cd : Cd} {fx : List Nat}
theorem augS_ok {op : Operator} {ls : List Cd} (C : ∀ cd ∈ ls, ∃ f, CaOk X M 2 cd f ∧ OpL X.K op (He.ga X.K cd.c) f ∧ OpA X.K op (He.ga X.K cd.c)) (gu : X.A.guards = some []) (tk : Takes X W) : OpS X (inplaceOp op) (rS2 X.K M W (augS ls)) := by
  rintro pins s σ H x y v u Q I rx ry ⟨g, G, S, d, e, m, r1, r2, q⟩
  unfold augS at q
  split at q
  · rename_i b c ns ds i
    obtain ⟨a, ox, od, rfl, rfl, J, hp⟩ := inst_rep I m.sub r1 rx
    split at q
    · rename_i cd hc
      obtain ⟨rfl, hin⟩ := findC_c hc
      obtain ⟨f, ca, L, N⟩ := C cd hin
      obtain ⟨cl, c1, c2⟩ := N.cls
      obtain ⟨rc, l1, l2⟩ := L.rc
      obtain ⟨fo, l3⟩ := L.i1
      obtain ⟨ro, l4⟩ := L.i2
      cases (show y = .int i from r2)
      obtain ⟨t, rfl⟩ := id ry
      exact ip_of I.kIn J c1 c2 N.n1 N.n2 (bin1_T I.kIn J rfl L.first L.at_ L.fn l1 l2 l3 l4 L.sub (thn (own2_run ca gu tk I rx ry m r1 r2 q) fun v s' h => cmpb h))
    · exact (show False from q).elim
  · rename_i b c ns ds b' c' ns' ds'
    split at q
    · rename_i hcc
      subst hcc
      obtain ⟨a, ox, od, rfl, rfl, J, hp⟩ := inst_rep I m.sub r1 rx
      obtain ⟨a2, ox2, od2, rfl, rfl, J2, hp2⟩ := inst_rep I m.sub r2 ry
      split at q
      · rename_i cd hc
        obtain ⟨rfl, hin⟩ := findC_c hc
        obtain ⟨f, ca, L, N⟩ := C cd hin
        obtain ⟨cl, c1, c2⟩ := N.cls
        exact ip_of I.kIn J c1 c2 N.n1 N.n2 (bin1_same I.kIn J J2.type L.first L.at_ L.fn (thn (own2_run ca gu tk I rx ry m r1 r2 q) fun v s' h => cmpb h))
      · exact (show False from q).elim
    · exact (show False from q).elim
  · exact (show False from q).elim
theorem ps_AugO {op : Operator} {ls : List Cd} {i : Nat} {x : Str} {e : Expr} {me : PX} (C : ∀ cd ∈ ls, ∃ f, CaOk X M 2 cd f ∧ OpL X.K op (He.ga X.K cd.c) f ∧ OpA X.K op (He.ga X.K cd.c)) (gu : X.A.guards = some []) (tk : Takes X W)
    (hN : X.N.Nodup) (hi : X.N[i]? = some x) (hx : Loc X.env.scope x) (hf : X.fn x = true ∨ X.env.scope.names.lookup x = some .local) (he : PE X e (tP X.K M W me)) (hfx : i ∉ fx) :
    PS X (.AugAssign (.Name x pos') op e pos) (tF X.K M fx W (pSet i (pSl2 (augS ls) (pV i) me))) := by
  refine ⟨fun pins s σ H D I h => ?_⟩
  have h1 : tP X.K M W (pSl2 (augS ls) (pV i) me) σ H (fun z H2 => D.nx (σ.set i (some z)) H2) := by
    obtain ⟨g, G, S, m, q⟩ := h
    refine ⟨g, G, S, m, EndE.imp (EndF.bindE q) fun v H1 ⟨d, g1, G1, S1, T, er, got, st, q⟩ => ?_⟩
    split at q
    · rename_i hl
      exact (show EndN X.K M fx σ H G S (g1.set i (some d)) D.nx from q) _ H1 G1 _ (Fx.set hfx) (got.1.set got.2.1 (fun a z => (got.2.2 a z).1) hl) (st.set fun a z => (got.2.2 a z).2)
    · exact q.elim
  have h2 := sl2_t h1
  obtain ⟨v, e1, h⟩ : tVar i σ H (fun x H1 => tP X.K M W me σ H1 fun y H2 => rS2 X.K M W (augS ls) σ x y H2 fun z H2 => D.nx (σ.set i (some z)) H2) := by
    obtain ⟨g, G, S, m, q⟩ := h2
    unfold pV at q
    split at q
    · rename_i d e
      obtain ⟨v, G', S', ev, m', r, st⟩ := m.sealSlot e
      exact ⟨v, ev, q v H G' S' none_ ⟨m', Own.of r, fun a z => z.elim⟩ st⟩
    · exact (show False from q).elim
  obtain ⟨m, hn, hl⟩ := I.loc
  have vis : Vis X.env.scope x := by rcases hx with k | k; exact .inl k; exact .inr (.inl k)
  obtain ⟨u, r, l⟩ := hl i x v hi e1 vis
  refine wpAny_AugAssign_Name ?_
  have go : wpAny (model X.prog X.w) X.A (eval e X.env) (fun w s₂ => wpAny (model X.prog X.w) X.A (inplaceOp op u w) (fun r s₃ => wpAny (model X.prog X.w) X.A (storeName X.env x r) (fun _ => SP X pins D .next) X.xe s₃) X.xe s₂) X.xe s := by
    refine thn (he.run pins s σ H _ I h) fun w s1 ⟨y, H1, I1, r1, q1⟩ => ?_
    refine thn (augS_ok C gu tk pins s1 σ H1 v y u w _ I1 r r1 q1) fun z s2 ⟨zv, H2, I2, r2, q2⟩ => ?_
    exact store_ok I2 hN hi hx r2 (fun s3 I3 => ⟨_, H2, I3, q2⟩) hf
  rcases l with ⟨hk, hm⟩ | ⟨hk, c, hc, hcell⟩
  · exact wpAny_loadName_local I.ok.kind hk hn hm go
  · rcases hk with hk | hk
    · exact wpAny_loadName_cell I.ok.kind hk hc hcell go
    · rcases hx with k | k
      · have : X.env.scope.names.lookup x = some .free := hk
        rw [k] at this; cases this
      · have : X.env.scope.names.lookup x = some .free := hk
        rw [k] at this; cases this
/-! ### isinstance(e, tuple) -/
def isT : D → Option Bool
  | .tup _ => some true
  | .non | .bl _ | .int _ | .str _ | .lst _ _ | .dic .. => some false
  | .obj .. => none
theorem isT_ty {d : D} {v : V} {b : Bool} (sd : Seen K M G H d v) (sb : Sub G H) (e : isT d = some b) : ∃ t, TyX K H v t ∧ PySem.W.kitOne K t (.type "tuple") = some b := by
  cases d with
  | non => cases e; cases sd.non; exact ⟨_, .base .non, kit_ty (by decide +kernel)⟩
  | bl x => cases e; cases sd.bl; exact ⟨_, .base (.bl x), kit_ty (by decide +kernel)⟩
  | int x => cases e; cases sd.int; exact ⟨_, .base (.int x), kit_ty (by decide +kernel)⟩
  | str x => cases e; cases sd.str; exact ⟨_, .base (.str x), kit_ty (by decide +kernel)⟩
  | lst m xs => cases e; obtain ⟨a, vs, rfl, h1, _⟩ := sd.lst sb; exact ⟨_, sq_tyL h1, kit_ty (by decide +kernel)⟩
  | tup xs => cases e; obtain ⟨a, vs, rfl, h1, _⟩ := sd.tup sb; exact ⟨_, sq_tyT h1, kit_ty (by decide +kernel)⟩
  | dic m ks ds => cases e; obtain ⟨a, vs, rfl, h1, _⟩ := sd.dic sb; exact ⟨_, .base (.dK h1), kit_ty (by decide +kernel)⟩
  | obj m c ns ds => cases e
theorem pe_IsiT {p p3 : Pos} {e : Expr} {oa : Op} (hg : Gl X "isinstance") (hm : X.mg "isinstance" = none) (hg2 : Gl X "tuple") (hm2 : X.mg "tuple" = none) (he : PE X e (tO X.K M W oa)) (hs : noStar e = true) :
    PE X (.Call (.Name "isinstance" p) [e, .Name "tuple" p3] [] pos) (tP X.K M W (pOp1 (fun d g => rb (isT d) g) oa)) := by
  refine ⟨fun pins s σ H Q I q => ?_⟩
  have hst : starEach [e, .Name "tuple" p3] X.env = (false, eval e X.env) :: starEach [.Name "tuple" p3] X.env := star_of hs
  refine wpAny_Call_Name_kw (ld_blt I hg hm PyProof.Rows.Boot.«isinstance» (PyProof.Rows.callWith_builtin1 (Q := EP X pins σ Q) ?_ hst rfl))
  rw [hst]
  refine Calls.spliced_cons (thn (he.run pins s σ H _ I (op1_t q)) fun v s1 ⟨y, H1, I1, r1, g, G, S, d, m, sd, q⟩ => ?_)
  refine Calls.spliced_cons (ld_blt I1 hg2 hm2 PyProof.Rows.boot_tuple (Calls.spliced_nil ?_))
  dsimp only at q
  cases e2 : isT d with
  | none => rw [e2] at q; exact (show False from q).elim
  | some b =>
    rw [e2] at q
    obtain ⟨t, t1, t2⟩ := isT_ty sd m.sub e2
    exact call_isi pins s1 σ H1 [y, .ty "tuple"] [v, .type "tuple"] Q I1 (.cons r1 (.cons rfl .nil)) ⟨y, .ty "tuple", t, .type "tuple", b, rfl, .ty "tuple", t1, t2, fin_sc q m rfl⟩
end
/-! ### facts, wrappers -/
def kNe (c : Str) : Fc := fun K => He.eqO (findIn K (.ref (He.ga K c)) "__ne__") (some (some (.builtin "object.__ne__"))) && decide (mroIn K (He.ga K c) (.type "object") = some true)
def kAug (op : Operator) (c : Str) : Fc := fun K => (match clsIn K (He.ga K c) with
    | some cd => (match cd.mro with
      | [.ref C', .type t] => decide (C' = He.ga K c) && decide (t = "object")
      | _ => false)
    | none => false) && (He.eqO (findIn K (.ref (He.ga K c)) (dunderI op.info.2)) (some none) && He.eqO (findIn K (.type "object") (dunderI op.info.2)) (some none))
theorem ne_of' {K : Frag} {c : Str} (e : kNe c K = true) : OpN K (He.ga K c) := by
  obtain ⟨a1, a2⟩ := He.ba e
  exact ⟨He.eqO_ok a1, of_decide_eq_true a2⟩
theorem aug_of {K : Frag} {op : Operator} {c : Str} (e : kAug op c K = true) : OpA K op (He.ga K c) := by
  obtain ⟨a1, e⟩ := He.ba e
  obtain ⟨a2, a3⟩ := He.ba e
  refine ⟨?_, He.eqO_ok a2, He.eqO_ok a3⟩
  split at a1
  · rename_i cd h1
    split at a1
    · rename_i C' t h2
      obtain ⟨b1, b2⟩ := He.ba a1
      refine ⟨cd, h1, ?_⟩
      rw [h2, of_decide_eq_true b1, of_decide_eq_true b2]
    · cases a1
  · cases a1
end PI

set_option Elab.async false
set_option linter.all false
set_option maxRecDepth 100000
set_option maxHeartbeats 1000000
namespace PI
open PySem PySem.Spec PyProof.Rows L2
open PySem.W (Frag)
section
variable {fc : List Fc} {fn : List DefA} {P : Program} {w : World} {K : Frag} {M : Memo} {mg : Str → Option Value} {base : Heap} {N : List Str} {sc : Scope} {k i : Nat} {X : Cx} {W : WX} {x cn : Str} {p pos p1 p2 p3 : Pos} {e a b : Expr} {fx : List Nat}
theorem Fa.ne (Y : Fa fc fn P w K mg base) (i : Nat) (h : fc[i]? = some (kNe x)) : OpN K (He.ga K x) := ne_of' (Y.says.fact i h)
theorem Fa.aug (Y : Fa fc fn P w K mg base) {op : Operator} (i : Nat) (h : fc[i]? = some (kAug op x)) : OpA K op (He.ga K x) := aug_of (Y.says.fact i h)
def NeF (P : Program) (w : World) (K : Frag) (M : Memo) (mg : Str → Option Value) (base : Heap) (k : Nat) (es : List Cd) : Prop :=
  ∀ cd ∈ es, ∃ f, (∃ j, j + 1 ≤ k ∧ FnB P w K M mg base j f cd.ff cd.rf 2 [] cd.pm ∧ distinct (cd.pm.map inlOf) = true) ∧ OpE K (He.ga K cd.c) f ∧ OpN K (He.ga K cd.c)
theorem can_of {cd : Cd} {fa : Addr} (hr : Room k X.A) (h : ∃ j, j + 1 ≤ k ∧ FnB X.prog X.w X.K M X.mg X.base j fa cd.ff cd.rf 2 [] cd.pm ∧ distinct (cd.pm.map inlOf) = true) : CaN X M cd fa := by
  obtain ⟨j, hj, ⟨fd, ps, G, kp, hb⟩, hd⟩ := h
  exact ⟨j, fd, ps, G, hr.mono hj, hb, hd⟩
theorem wNe (c : Ct P w K mg base N sc k X W) {es : List Cd} {ma mb : PX} (C : NeF P w K M mg base k es) (ha : PE X a (tP X.K M W ma)) (hb : PE X b (tP X.K M W mb)) (hm : behindInMarks .NotEq b = false) : PE X (.Compare a [.NotEq] [b] pos) (tP X.K M W (pSl2 (neS es) ma mb)) := by
  have hu := c.hu
  obtain ⟨rfl, rfl, rfl, rfl, rfl, rfl, rfl, room, gu, tk, calm, nd⟩ := c
  refine pe_Ne hu (fun cd hcd => ?_) gu tk ha hb hm
  obtain ⟨fa, h1, h2⟩ := C cd hcd; exact ⟨fa, can_of room h1, h2⟩
theorem tNe (c : Ct P w K mg base N sc k X W) {es : List Cd} {ma mb : PX} (C : NeF P w K M mg base k es) (ha : PE X a (tP X.K M W ma)) (hb : PE X b (tP X.K M W mb)) (hm : behindInMarks .NotEq b = false) : PT X (.Compare a [.NotEq] [b] pos) (tB' X.K M W (pTest (pSl2 (neS es) ma mb))) := by
  have hu := c.hu
  obtain ⟨rfl, rfl, rfl, rfl, rfl, rfl, rfl, room, gu, tk, calm, nd⟩ := c
  refine pt_Ne hu (fun cd hcd => ?_) gu tk ha hb hm
  obtain ⟨fa, h1, h2⟩ := C cd hcd; exact ⟨fa, can_of room h1, h2⟩
def AuF (P : Program) (w : World) (K : Frag) (M : Memo) (mg : Str → Option Value) (base : Heap) (k : Nat) (op : Operator) (ls : List Cd) : Prop :=
  ∀ cd ∈ ls, ∃ f, CaF P w K M mg base k 2 cd f ∧ OpL K op (He.ga K cd.c) f ∧ OpA K op (He.ga K cd.c)
theorem sAug (c : Bd P w K mg base N sc k X W) {op : Operator} {ls : List Cd} {me : PX} (C : AuF P w K M mg base k op ls) (h : okL N sc i x = true) (hf : notIn i fx = true) (he : PE X e (tP X.K M W me)) :
    PS X (.AugAssign (.Name x p1) op e pos) (tF X.K M fx W (pSet i (pSl2 (augS ls) (pV i) me))) := by
  obtain ⟨h1, h2⟩ := He.ba h
  rw [← c.ct.sc] at h2
  have hN : X.N[i]? = some x := by rw [c.ct.N]; exact of_decide_eq_true h1
  obtain ⟨⟨rfl, rfl, rfl, rfl, rfl, rfl, rfl, room, gu, tk, calm, nd⟩, hp, hfn⟩ := c
  refine ps_AugO (fun cd hcd => ?_) gu tk nd hN (loc_of h2) (.inl (hfn x)) he (notIn_of hf)
  obtain ⟨fa, a1, a2⟩ := C cd hcd; exact ⟨fa, ca_of room a1, a2⟩
theorem wIsT (c : Ct P w K mg base N sc k X W) {oa : Op} (h : okB sc "isinstance" (.builtin "isinstance") = true) (hm : mg "isinstance" = none) (h2 : okB sc "tuple" (.type "tuple") = true) (hm2 : mg "tuple" = none) (he : PE X e (tO X.K M W oa)) (hs : noStar e = true) :
    PE X (.Call (.Name "isinstance" p) [e, .Name "tuple" p3] [] pos) (tP X.K M W (pOp1 (fun d g => rb (isT d) g) oa)) :=
  pe_IsiT (c.gl (okB_b h).1) (by rw [c.mg]; exact hm) (c.gl (okB_b h2).1) (by rw [c.mg]; exact hm2) he hs
end
end PI

set_option Elab.async false
set_option linter.all false
set_option maxRecDepth 100000
set_option maxHeartbeats 1000000
namespace PI
open PySem PySem.Spec PyProof.Rows L2 PySem.Calls
open PySem.W (Frag InstAt findIn isFn subIn Looks mroIn clsIn specialIn takesIn hasDictIn typeIn kitOne)
/-! ### isinstance of a caught error that has a field -/
section
variable {prog : Program} {w : World} {A : Around} {E : Value → Shared → Prop} {s : Shared} {K : Frag} {x D : Addr} {ox od : Obj}
theorem xclass {Q : Option Value → Shared → Prop} (C : ExcC K D) (X : K.In s.heap) (I : InstAt s.heap x ox D (some od)) (h : Q (some (.ref D)) { s with toks := s.toks + 1 }) : wpAny (model prog w) A (getAttr? (.ref x) "__class__") Q E s := by
  obtain ⟨c1, c2, c3, c4, c5, c6, c7, c8⟩ := C
  have ff : PySem.W.findObj K D (some od) "__class__" = some (.bind (.builtin "getset_descriptor.__get__") (.builtin "object.__class__")) :=
    PySem.W.findObj_data (by obtain ⟨z, hz, _⟩ := PySem.W.any_some c4; rw [hz]; rfl) c5 c6 c7
  obtain ⟨hp, gg, dd, tt, oo⟩ := s
  have M0 := I.type (M := model prog w)
  have M1 := PySem.W.looks_findIn (M := model prog w) X c1
  have M2 := PySem.W.looks_findIn (M := model prog w) X c2
  have M3 := PySem.W.looks_find (M := model prog w) X I ff
  have sb : Looks (model prog w) hp (isInstance (.ref x) (.type "BaseException")) true := M0.andThen (PySem.W.looks_subIn X c3)
  have n0 : (false && onTheHeap (Value.builtin "BaseException.__getattribute__")) = false := rfl
  have n2 : (Value.builtin "BaseException.__getattribute__" == Value.builtin "object.__getattribute__") = false := by decide +kernel
  have n1 : (onTheHeap (Value.ref D) && Value.builtin "BaseException.__getattribute__" == Value.builtin "object.__getattribute__") = false := by rw [n2]; rfl
  unfold getAttr? getAttrBy? getAttrBy
  refine wpAny_bind (wpAny_mkText (wpAny_bind (wpAny_attempt (wpAny_holding (wpAny_bind (M0.at (wpAny_bind (M1.at ?_))))))))
  show wpAny (model prog w) _ (if (onTheHeap (Value.ref D) && Value.builtin "BaseException.__getattribute__" == Value.builtin "object.__getattribute__") = true then _ else _) _ _ _
  rw [n1, if_neg Bool.false_ne_true]
  unfold getAttrByItsOwn hookBefore
  refine wpAny_bind ?_
  rw [if_pos (show onTheHeap (.ref D) = true from rfl)]
  refine M2.at ?_
  refine wpAny_bind (wpAny_attempt (wpAny_holding ?_))
  unfold callGetattribute
  rw [n0, if_neg Bool.false_ne_true]
  unfold boundAndCalled
  rw [F.excAttr_ValueError.ga.bind (Value.ref x)]
  refine wpAny_bind (wpAny_pure ?_)
  show wpAny (model prog w) _ (call (.builtin "BaseException.__getattribute__") [.ref x, .str "__class__" tt]) _ _ _
  refine wpAny_call (codeAny_call_builtin F.excAttr_ValueError.ga.plain F.entry_bexc_ga ?_)
  refine @PySem.W.check_slot (model prog w) _ _ ⟨hp, gg, dd, tt + 1, oo⟩ "BaseException.__getattribute__" "BaseException" "__getattribute__" (.ref x) [.str "__class__" tt] [] _ (by decide +kernel) (by decide +kernel) sb (F.args_bexc_ga (.ref x) (.str "__class__" tt)) ?_
  unfold Builtin.«object.__getattribute__»
  refine wpAny_bind (wpAny_of_eq (a := ((Value.ref x : Value), [Value.str "__class__" tt])) (by first | rfl | (simp only [slotArgs]; rfl)) ?_)
  refine wpAny_bind (wpAny_pure (wpAny_bind (M0.at (wpAny_bind (M3.at ?_)))))
  show wpAny (model prog w) _ (holding [Value.builtin "object.__class__"] (call (.builtin "getset_descriptor.__get__") [.builtin "object.__class__", .ref x, .ref D]) >>= ret) _ _ _
  refine wpAny_bind (wpAny_holding (wpAny_call (PySem.W.class_get (s := ⟨hp, gg, dd, tt + 1, oo⟩) (ox := ox) (od := some od) X I c8 ?_)))
  refine wpAny_pure ?_
  show wpAny (model prog w) _ (handedOut (.ref D)) _ _ _
  rw [PySem.W.handedOut_of (v := .ref D) rfl]
  first
    | exact wpAny_pure (wpAny_pure h)
    | exact wpAny_pure h
    | exact wpAny_pure (wpAny_bind (wpAny_pure (wpAny_pure h)))
theorem kitx (C : ExcC K D) : PySem.W.KitX K (.ref x) (.ref D) (fun h => ∃ o, InstAt h x ox D (some o)) where
  ty := fun _ _ _ ⟨_, I⟩ => I.type
  it := fun _ _ X _ => by
    obtain ⟨cz, hz, _⟩ := PySem.W.any_some C.hd
    unfold clsIn at hz
    split at hz
    · rename_i c1 d1 cd1 sl1 ho
      intro A' Q' E' s1 kk q
      unfold isType loadHead
      exact wpAny_bind (wpAny_loadPart (kk _ _ (X _ _ ho)) (wpAny_pure q))
    · cases hz
  ne := fun h tp dd its n sl X htp => by
    obtain ⟨cz, hz, _⟩ := PySem.W.any_some C.hd
    refine Bool.eq_false_iff.mpr fun q => ?_
    have e1 : D = tp := Value.ref.inj (beq_iff_eq.mp q)
    subst e1
    unfold clsIn at hz
    split at hz
    · rename_i c1 d1 cd1 sl1 ho
      have z1 := (X _ _ ho).symm.trans htp
      cases z1
    · cases hz
  ca := fun X ⟨_, I⟩ k => xclass C X I k
end
theorem call_isX {X : Cx} {a D dd : Addr} {oe : Obj} {pn : List (Addr × Obj)} (C : ExcC X.K D) (hz : Zc (.ref D) (some dd) oe) (hf : ∃ vs, oe.data = .fields vs) :
    ∀ (pins : List (Addr × Obj)) (s : Shared) (σ : L2.St) (H : Hp) (xs : List V) (us : List Value) (Q : VK), Inv (X.suite a ((a, oe) :: pn)) pins σ H s → Vals xs us → (∃ fs, H dd = some (.xd fs)) → rIsE X.K D a xs H Q →
      wpAny (model X.prog X.w) (X.suite a ((a, oe) :: pn)).A (call (.builtin "isinstance") us) (EP (X.suite a ((a, oe) :: pn)) pins σ Q) (X.suite a ((a, oe) :: pn)).xe s := by
  intro pins s σ H xs us Q I r ⟨fs, hd⟩ h
  obtain ⟨c, cv, b, rfl, hcv, e, q⟩ := h
  cases r with
  | cons rx rr =>
    cases rr with
    | cons rt rr =>
      cases rr
      cases rx
      have ec := hcv _ rt
      subst ec
      obtain ⟨hget, _⟩ := I.pin (a, oe) (List.mem_append.mpr (.inl List.mem_cons_self))
      obtain ⟨vs, hv⟩ := hf
      have hx : ObjOk X.prog X.w H s.heap dd (.xd fs) := I.hok dd _ hd
      obtain ⟨mA, hns, hr⟩ := hx
      obtain ⟨od, ho, hl⟩ := lookIn_ns hns
      have J : ∃ o, InstAt s.heap a oe D (some o) := ⟨od, hget, hz.1, by unfold PySem.W.notCls; rw [hv] <;> rfl, by rw [hz.2]; exact ho⟩
      exact PySem.W.kia_one (kitx C) I.kIn J e (fun z => nomatch z) fun tk => ⟨.bl b, H, I.kept (t' := tk) fun _ _ z => z, rfl, q⟩
end PI

set_option Elab.async false
set_option linter.all false
set_option maxRecDepth 100000
set_option maxHeartbeats 1000000
namespace PI
open PySem PySem.Spec PyProof.Rows L2
open PySem.W (Frag)
/-! ### try: .., except C as e: name = [what is told of e] -/
inductive XIt where
  | is (tab : List (Str × Bool)) | val | str (z : Str)
def xit (c : Str) (d : D) : XIt → Option D
  | .is tab => (tab.lookup c).map .bl
  | .val => some d
  | .str z => some (.str z)
def xits (c : Str) (d : D) : List XIt → Option (List D)
  | [] => some []
  | t :: ts => match xit c d t, xits c d ts with
    | some x, some xs => some (x :: xs)
    | _, _ => none
def xitV (c : Str) (v : V) : XIt → Option V
  | .is tab => (tab.lookup c).map .bl
  | .val => some v
  | .str z => some (.str z)
def xitsV (c : Str) (v : V) : List XIt → Option (List V)
  | [] => some []
  | t :: ts => match xitV c v t, xitsV c v ts with
    | some x, some xs => some (x :: xs)
    | _, _ => none
def pTry (mb : PF) (tab : List (Str × Bool)) (i j : Nat) (its : List XIt) : PF := fun g => match mb g with
  | .exc c d g1 => (match tab.lookup c with
    | some true => (match xits c d its with
      | some ds => if j < g1.length ∧ i < g1.length ∧ ds.length ≤ 1000 then .ok .nx ((g1.set i none).set j (some (.lst true ds))) else .bad
      | none => .bad)
    | some false => .exc c d g1
    | none => .bad)
  | .ok fl g1 => .ok fl g1
  | .bad => .bad
section
variable {K : Frag} {M : Memo} {W : WX} {X : Cx} {σ : L2.St} {H H0 G G0 H1 G1 : Hp} {S S0 S1 : Nat → Addr → Prop} {g g1 : Sg} {Q : VK} {pos pos' np py lp ap p p2 p3 : Pos} {i j : Nat} {fx : List Nat} {n x y cc : Str} {c : Str}
theorem xit_rep {d : D} {v : V} (r : Rep K G d v) : ∀ {t : XIt} {e : D}, xit c d t = some e → ∃ w, xitV c v t = some w ∧ Rep K G e w
  | .is tab, e, h => by
    cases hl : tab.lookup c with
    | none => rw [show xit c d (.is tab) = (tab.lookup c).map .bl from rfl, hl] at h; cases h
    | some b =>
      rw [show xit c d (.is tab) = (tab.lookup c).map .bl from rfl, hl] at h
      cases h
      exact ⟨.bl b, by show (tab.lookup c).map V.bl = _; rw [hl]; rfl, rfl⟩
  | .val, e, h => by cases h; exact ⟨v, rfl, r⟩
  | .str z, e, h => by cases h; exact ⟨.str z, rfl, rfl⟩
theorem xits_rep {d : D} {v : V} (r : Rep K G d v) : ∀ {ts : List XIt} {ds : List D}, xits c d ts = some ds → ∃ ws, xitsV c v ts = some ws ∧ RepL K G ds ws
  | [], ds, h => by cases h; exact ⟨[], rfl, rfl⟩
  | t :: ts, ds, h => by
    unfold xits at h
    cases h1 : xit c d t with
    | none => rw [h1] at h; cases h
    | some e =>
      cases h2 : xits c d ts with
      | none => rw [h1, h2] at h; cases h
      | some es =>
        rw [h1, h2] at h
        cases h
        obtain ⟨w, e1, r1⟩ := xit_rep r h1
        obtain ⟨ws, e2, r2⟩ := xits_rep r h2
        refine ⟨w :: ws, ?_, w, ws, rfl, r1, r2⟩
        unfold xitsV
        rw [e1, e2]
def preX (a dd : Addr) (i : Nat) (v : V) (σ : L2.St) (H : Hp) : Prop := σ[i]? = some (some (.ref a)) ∧ H dd = some (.xd [("value", v)])
def ItOk (X : Cx) (i : Nat) (c : Str) (e : Expr) (t : XIt) : Prop := ∀ (a : Addr) (oe : Obj) (pn : List (Addr × Obj)) (dd : Addr) (v : V), Zc (.ref (He.ga X.K c)) (some dd) oe → (∃ vs, oe.data = .fields vs) →
  PE (X.suite a ((a, oe) :: pn)) e (fun σ H Q => ∃ w, xitV c v t = some w ∧ preX a dd i v σ H ∧ Q w H)
def ItsOk (X : Cx) (i : Nat) (c : Str) : List Expr → List XIt → Prop
  | [], [] => True
  | e :: es, t :: ts => noStar e = true ∧ ItOk X i c e t ∧ ItsOk X i c es ts
  | _, _ => False
theorem its_pa {a : Addr} {oe : Obj} {pn : List (Addr × Obj)} {dd : Addr} {v : V} (hz : Zc (.ref (He.ga X.K c)) (some dd) oe) (hf : ∃ vs, oe.data = .fields vs) : ∀ {es : List Expr} {ts : List XIt}, ItsOk X i c es ts →
    PA (X.suite a ((a, oe) :: pn)) es (fun σ H Q => ∃ ws, xitsV c v ts = some ws ∧ preX a dd i v σ H ∧ Q ws H)
  | [], [], _ => PA.imp pa_nil fun σ H Q ⟨ws, e, pr, q⟩ => by cases e; exact q
  | e :: es, t :: ts, ⟨h1, h2, h3⟩ => PA.imp (pa_cons (h2 a oe pn dd v hz hf) (its_pa hz hf h3) (star_of h1)) fun σ H Q ⟨ws, e, pr, q⟩ => by
    unfold xitsV at e
    cases e1 : xitV c v t with
    | none => rw [e1] at e; cases e
    | some w =>
      cases e2 : xitsV c v ts with
      | none => rw [e1, e2] at e; cases e
      | some r =>
        rw [e1, e2] at e
        cases e
        exact ⟨w, rfl, pr, r, rfl, pr, q⟩
  | [], _ :: _, h => h.elim
  | _ :: _, [], h => h.elim
/-- what the clause does -/
def tsX (K : Frag) (tab : List (Str × Bool)) (i j : Nat) (its : List XIt) (a : Addr) (cls : Value) (d : Option Addr) : TS := fun N σ H =>
  ∃ c dd v ws, cls = .ref (He.ga K c) ∧ d = some dd ∧ tab.lookup c = some true ∧ xitsV c v its = some ws ∧ ws.length ≤ sizeLine ∧ preX a dd i v σ H ∧ ∀ p, H p = none → N.nx (σ.set j (some (.ref p))) (upd H p (.lst ws))
theorem ps_TryX {tab : List (Str × Bool)} {its : List XIt} {body : List Stmt} {mb : PF} {es : List Expr} (hs : X.stack = X.env :: X.outer) (hf : X.env.frame = some X.env.locals) (hN : X.N.Nodup) (hi : X.N[i]? = some n) (hln : X.env.kindOf n = some .local)
    (hc : Names X x (.ref (He.ga X.K x))) (tk : Takes X W) (hj : X.N[j]? = some y) (hy : Loc X.env.scope y) (hfn : X.fn y = true ∨ X.env.scope.names.lookup y = some .local) (hij : i ≠ j) (h1 : i ∉ fx) (h2 : j ∉ fx)
    (hsw : swapsWith (.List es lp) (some (.Name y py)) ap.line X.env = pure false)
    (T : ∀ c b, tab.lookup c = some b → PySem.W.exmOne X.K (.ref (He.ga X.K c)) (.ref (He.ga X.K x)) = some b) (It : ∀ c, tab.lookup c = some true → ItsOk X i c es its)
    (hb : ∀ (W' : WX) (pn : List (Addr × Obj)) (xe : Value → Shared → Prop), Takes (X.tr pn xe) W' → PassesOwn (model X.prog X.w) X.A X.env xe → PSs (X.tr pn xe) body (tF X.K M fx W' mb)) :
    PS X (.Try body [.ExceptHandler (some (.Name x np)) (some n) [.Assign [.Name y py] (.List es lp) ap] pos'] [] [] pos) (tF X.K M fx W (pTry mb tab i j its)) := by
  refine PS.imp (ps_try_as (ts := tsX X.K tab i j its) hs hf hN hi hln hc tk hb fun a oe cls d pn hz hd => ⟨fun pins s σ H D I h => ?_⟩) fun N σ H q => ?_
  · obtain ⟨c, dd, v, ws, rfl, rfl, hl, e, sz, pr, k⟩ := h
    refine (pss_one (ps_set (X := X.suite a ((a, oe) :: pn)) hN hj hy (pe_lst (its_pa (v := v) hz hd (It c hl))) hsw hfn)).run pins s σ H D I ?_
    exact ⟨ws, e, pr, sz, k⟩
  · obtain ⟨g, G, S, m, q⟩ := q
    refine ⟨g, G, S, m, ?_⟩
    unfold pTry at q
    cases er : mb g with
    | bad => rw [er] at q; exact q
    | ok fl g1 =>
      rw [er] at q
      cases fl <;> exact q
    | exc c d g1 =>
      rw [er] at q
      dsimp only at q
      intro v σ' H' G' S' dd f m' r st hx
      cases hl : tab.lookup c with
      | none => rw [hl] at q; exact q.elim
      | some b =>
        rw [hl] at q
        refine ⟨b, T c b hl, fun hb' a ha => ?_, fun hb' => ?_⟩
        · subst hb'
          dsimp only at q
          cases hi' : xits c d its with
          | none => rw [hi'] at q; exact q.elim
          | some ds =>
            rw [hi'] at q
            dsimp only at q
            split at q
            · rename_i hl2
              obtain ⟨ws, e2, rr⟩ := xits_rep r hi'
              have lσ : i < σ'.length := by rw [← m'.len]; exact hl2.2.1
              refine ⟨c, dd, v, ws, rfl, rfl, hl, e2, by rw [← rr.len]; exact sz1000 hl2.2.2, ⟨by rw [List.getElem?_set_self lσ], hx⟩, fun p hp => ?_⟩
              obtain ⟨S1, m1, sub⟩ := m'.shed1 (i := i) (x := none)
              have st1 : Stp M H G S H' G' S1 := ⟨st.gr, st.fr, st.th, fun a z => st.vl a (sub a z), st.fg⟩
              have m2 := m1.newOwn (o := .lst ws) hp
              have st2 := st1.trans (m1.newOwnStp (o := .lst ws) hp)
              have m3 := m2.set (i := j) (d := .lst true ds) (v := .ref p) (T := fun a => a = p) (.inr ⟨p, rfl, m1.gnone hp, fun b => Iff.rfl, rfl, ws, upd_same, rr⟩) (fun a z => by cases z; exact m1.snone hp) (by rw [List.length_set]; exact hl2.1)
              have st3 := st2.set (i := j) (T := fun a => a = p) fun a z => by cases z; exact st.back hp
              have eσ : (((σ'.set i (some (.ref a))).set j (some (.ref p))).set i none) = ((σ'.set i none).set j (some (.ref p))) := by
                rw [List.set_comm _ _ (Ne.symm hij), List.set_set]
              show N.nx (((σ'.set i (some (.ref a))).set j (some (.ref p))).set i none) _
              rw [eσ]
              exact (show EndN X.K M fx σ H G S _ N.nx from q) _ _ _ _ ((f.trans (Fx.set h1)).trans (Fx.set h2)) m3 st3
            · exact q.elim
        · subst hb'
          exact (show EndXs X.K M fx W σ H G S c d g1 from q) v σ' H' G' S' dd f m' r st hx
theorem it_str {z : Str} {k : Nat} : ItOk X i c (.Constant (.str z) k p) (.str z) := fun a oe pn dd v hz hf => PE.imp pe_str fun σ H Q ⟨w, e, pr, q⟩ => by
  cases e
  exact q
theorem it_val (F : XfC X.K (He.ga X.K c)) (hno : PySem.W.findIn X.K (.ref (He.ga X.K c)) "value" = some none) (hi : X.N[i]? = some n) (hv : Vis X.env.scope n) (hd : (n == ("__debug__" : Str)) = false) (hcd : (n == ("__classdict__" : Str)) = false)
    (hb : attributeBase (.Name n p) "value" X.env (eval (.Name n p) X.env) = eval (.Name n p) X.env) : ItOk X i c (.Attribute (.Name n p) "value" pos) .val := fun a oe pn dd v hz hf =>
  PE.imp (pe_xf F hno hz hf (pe_var (X := X.suite a ((a, oe) :: pn)) hi hv hd hcd) hb) fun σ H Q ⟨w, e, pr, q⟩ => by
    cases e
    exact ⟨.ref a, pr.1, rfl, rfl, dd, _, v, rfl, pr.2, rfl, q⟩
theorem it_is {tab : List (Str × Bool)} {C : Addr} (E : ExcC X.K (He.ga X.K c)) (hk : ∀ b, tab.lookup c = some b → PySem.W.kitOne X.K (.ref (He.ga X.K c)) (.ref C) = some b) (hg : Gl X "isinstance") (hm : X.mg "isinstance" = none) (hg2 : Gl X cc) (hm2 : X.mg cc = some (.ref C)) (hdb : (cc == ("__debug__" : Str)) = false)
    (hi : X.N[i]? = some n) (hv : Vis X.env.scope n) (hd : (n == ("__debug__" : Str)) = false) (hcd : (n == ("__classdict__" : Str)) = false) : ItOk X i c (.Call (.Name "isinstance" p) [.Name n p2, .Name cc p3] [] pos) (.is tab) := fun a oe pn dd v hz hf => by
  refine ⟨fun pins s σ H Q I ⟨w, e, pr, q⟩ => ?_⟩
  have hst : starEach [.Name n p2, .Name cc p3] X.env = (false, eval (.Name n p2) X.env) :: starEach [.Name cc p3] X.env := rfl
  refine wpAny_Call_Name_kw (ld_blt (X := X.suite a ((a, oe) :: pn)) I hg hm PyProof.Rows.Boot.«isinstance» (PyProof.Rows.callWith_builtin1 (Q := EP (X.suite a ((a, oe) :: pn)) pins σ Q) ?_ hst rfl))
  rw [hst]
  refine Calls.spliced_cons (thn ((pe_var (X := X.suite a ((a, oe) :: pn)) hi hv hd hcd).run pins s σ H (fun x H1 => x = .ref a ∧ H1 = H) I ⟨.ref a, pr.1, rfl, rfl⟩) fun v1 s1 ⟨y, H1, I1, r1, e1, e2⟩ => ?_)
  subst e1
  subst e2
  refine Calls.spliced_cons (ld_glob (X := X.suite a ((a, oe) :: pn)) I1 hg2 hm2 (Calls.spliced_nil ?_) hdb)
  cases hl : tab.lookup c with
  | none => rw [show xitV c v (.is tab) = (tab.lookup c).map .bl from rfl, hl] at e; cases e
  | some b =>
    rw [show xitV c v (.is tab) = (tab.lookup c).map .bl from rfl, hl] at e
    cases e
    exact call_isX E hz hf pins s1 σ H1 [.ref a, .ref C] [v1, .ref C] Q I1 (.cons r1 (.cons rfl .nil)) ⟨_, pr.2⟩ ⟨.ref C, .ref C, b, rfl, fun u hu => hu, hk b hl, q⟩
end
/-! ### facts, contexts, wrappers -/
def kXc (c : Str) : Fc := fun K => decide (PySem.W.findIn K (.ref (He.ga K c)) "__getattribute__" = some (some (.builtin "BaseException.__getattribute__"))) && (decide (PySem.W.findIn K (.ref (He.ga K c)) "__getattr__" = some none) && (decide (PySem.W.subIn K (.ref (He.ga K c)) (.type "BaseException") = some true) &&
  (PySem.W.hasDictIn K (He.ga K c) && (decide (PySem.W.findIn K (.ref (He.ga K c)) "__class__" = some (some (.builtin "object.__class__"))) && (decide (PySem.W.specialIn K (.builtin "object.__class__") "__get__" = some (some (.builtin "getset_descriptor.__get__"))) &&
  (decide (PySem.W.takesIn K (.builtin "object.__class__") = some true) && (decide (PySem.W.mroIn K (He.ga K c) (.type "object") = some true) && decide (PySem.W.findIn K (.ref (He.ga K c)) "value" = some none))))))))
def kXm (x : Str) (tab : List (Str × Bool)) : Fc := fun K => tab.all fun p => decide (PySem.W.exmOne K (.ref (He.ga K p.1)) (.ref (He.ga K x)) = some p.2)
def kXi (x : Str) (tab : List (Str × Bool)) : Fc := fun K => tab.all fun p => decide (PySem.W.kitOne K (.ref (He.ga K p.1)) (.ref (He.ga K x)) = some p.2)
structure Xcl (K : Frag) (D : Addr) : Prop where
  ec : ExcC K D
  xf : XfC K D
  no : PySem.W.findIn K (.ref D) "value" = some none
theorem xc_of {K : Frag} {c : Str} (e : kXc c K = true) : Xcl K (He.ga K c) := by
  obtain ⟨a1, e⟩ := He.ba e
  obtain ⟨a2, e⟩ := He.ba e
  obtain ⟨a3, e⟩ := He.ba e
  obtain ⟨a4, e⟩ := He.ba e
  obtain ⟨a5, e⟩ := He.ba e
  obtain ⟨a6, e⟩ := He.ba e
  obtain ⟨a7, e⟩ := He.ba e
  obtain ⟨a8, a9⟩ := He.ba e
  exact ⟨⟨of_decide_eq_true a1, of_decide_eq_true a2, of_decide_eq_true a3, a4, of_decide_eq_true a5, of_decide_eq_true a6, of_decide_eq_true a7, of_decide_eq_true a8⟩, ⟨of_decide_eq_true a1, of_decide_eq_true a2, of_decide_eq_true a3, a4⟩, of_decide_eq_true a9⟩
theorem look_mem {c : Str} {b : Bool} : ∀ {tab : List (Str × Bool)}, tab.lookup c = some b → (c, b) ∈ tab
  | [], h => by cases h
  | (k, v) :: r, h => by
    rw [List.lookup_cons] at h
    by_cases e : c = k
    · subst e
      rw [beq_self_eq_true] at h
      cases h
      exact .head _
    · rw [show (c == k) = false from beq_eq_false_iff_ne.mpr e] at h
      exact .tail _ (look_mem h)
structure BdT (P : Program) (w : World) (K : Frag) (mg : Str → Option Value) (base : Heap) (N : List Str) (sc : Scope) (k : Nat) (X : Cx) (W : WX) : Prop where
  bd : Bd P w K mg base N sc k X W
  stack : X.stack = X.env :: X.outer
  frame : X.env.frame = some X.env.locals
end PI

set_option Elab.async false
set_option linter.all false
set_option maxRecDepth 100000
set_option maxHeartbeats 1000000
namespace PI
open PySem PySem.Spec PyProof.Rows L2
open PySem.W (Frag)
def kXs (tab : List (Str × Bool)) : Fc := fun K => tab.all fun p => !p.2 || kXc p.1 K
section
variable {fc : List Fc} {fn : List DefA} {P : Program} {w : World} {K : Frag} {M : Memo} {mg : Str → Option Value} {base : Heap} {N ps : List Str} {sc : Scope} {k i j : Nat} {X : Cx} {W : WX} {x y n cc : Str} {p p2 p3 pos pos' np py lp ap : Pos} {e : Expr} {es : List Expr} {fx rf : List Nat} {d : DefA} {m : PF}
theorem Fa.xs (Y : Fa fc fn P w K mg base) {tab : List (Str × Bool)} (i : Nat) (h : fc[i]? = some (kXs tab)) : ∀ c, tab.lookup c = some true → Xcl K (He.ga K c) := fun c hc => by
  have := List.all_eq_true.mp (Y.says.fact i h) (c, true) (look_mem hc)
  exact xc_of this
theorem Fa.xm (Y : Fa fc fn P w K mg base) {tab : List (Str × Bool)} (i : Nat) (h : fc[i]? = some (kXm x tab)) : ∀ c b, tab.lookup c = some b → PySem.W.exmOne K (.ref (He.ga K c)) (.ref (He.ga K x)) = some b := fun c b hc =>
  of_decide_eq_true (List.all_eq_true.mp (Y.says.fact i h) (c, b) (look_mem hc))
theorem Fa.xi (Y : Fa fc fn P w K mg base) {tab : List (Str × Bool)} (i : Nat) (h : fc[i]? = some (kXi x tab)) : ∀ c b, tab.lookup c = some b → PySem.W.kitOne K (.ref (He.ga K c)) (.ref (He.ga K x)) = some b := fun c b hc =>
  of_decide_eq_true (List.all_eq_true.mp (Y.says.fact i h) (c, b) (look_mem hc))
def ItF (X : Cx) (i : Nat) (tab : List (Str × Bool)) (e : Expr) (t : XIt) : Prop := ∀ c, tab.lookup c = some true → ItOk X i c e t
def ItsF (X : Cx) (i : Nat) (tab : List (Str × Bool)) (es : List Expr) (ts : List XIt) : Prop := ∀ c, tab.lookup c = some true → ItsOk X i c es ts
theorem its0 {tab : List (Str × Bool)} : ItsF X i tab [] [] := fun _ _ => trivial
theorem itsc {tab : List (Str × Bool)} {t : XIt} {ts : List XIt} (h : ItF X i tab e t) (hr : ItsF X i tab es ts) (hs : noStar e = true) : ItsF X i tab (e :: es) (t :: ts) := fun c hc => ⟨hs, h c hc, hr c hc⟩
theorem xStr {tab : List (Str × Bool)} {z : Str} {q : Nat} : ItF X i tab (.Constant (.str z) q p) (.str z) := fun _ _ => it_str
theorem xVal {tab : List (Str × Bool)} (c : Ct P w K mg base N sc k X W) (F : ∀ c, tab.lookup c = some true → Xcl K (He.ga K c)) (h : okV N sc i n = true) (hb : attributeBase (.Name n p) "value" X.env (eval (.Name n p) X.env) = eval (.Name n p) X.env) : ItF X i tab (.Attribute (.Name n p) "value" pos) .val := fun cl hc => by
  obtain ⟨h1, h⟩ := He.ba h
  obtain ⟨h2, h⟩ := He.ba h
  obtain ⟨h3, h4⟩ := He.ba h
  have f := F cl hc
  rw [← c.K] at f
  exact it_val f.xf f.no (by rw [c.N]; exact of_decide_eq_true h1) (by rw [c.sc]; exact vis_of h2) (notT h3) (notT h4) hb
theorem xIs {tab tab2 : List (Str × Bool)} (c : Ct P w K mg base N sc k X W) (F : ∀ c, tab.lookup c = some true → Xcl K (He.ga K c)) (G : ∀ c b, tab2.lookup c = some b → PySem.W.kitOne K (.ref (He.ga K c)) (.ref (He.ga K cc)) = some b)
    (hi : okB sc "isinstance" (.builtin "isinstance") = true) (hm : mg "isinstance" = none) (h2 : okG sc cc = true) (hm2 : mg cc = some (.ref (He.ga K cc))) (h : okV N sc i n = true) : ItF X i tab (.Call (.Name "isinstance" p) [.Name n p2, .Name cc p3] [] pos) (.is tab2) := fun cl hc => by
  obtain ⟨h1, h⟩ := He.ba h
  obtain ⟨h2', h⟩ := He.ba h
  obtain ⟨h3, h4⟩ := He.ba h
  obtain ⟨g1, g2⟩ := He.ba h2
  have f := F cl hc
  have gg := G cl
  rw [← c.K] at f gg hm2
  exact it_is f.ec (fun b hb => gg b hb) (c.gl (okB_b hi).1) (by rw [c.mg]; exact hm) (c.gl g1) (by rw [c.mg]; exact hm2) (notT g2) (by rw [c.N]; exact of_decide_eq_true h1) (by rw [c.sc]; exact vis_of h2') (notT h3) (notT h4)
theorem sTry (t : BdT P w K mg base N sc k X W) {tab : List (Str × Bool)} {its : List XIt} {body : List Stmt} {mb : PF} (hn : (okL N sc i n && isLoc sc n) = true) (h : okG sc x = true) (hm : mg x = some (.ref (He.ga K x))) (hy : okL N sc j y = true) (hij : (i != j) = true) (hf : (notIn i fx && notIn j fx) = true)
    (hsw : swapsWith (.List es lp) (some (.Name y py)) ap.line X.env = pure false) (T : ∀ c b, tab.lookup c = some b → PySem.W.exmOne K (.ref (He.ga K c)) (.ref (He.ga K x)) = some b) (It : ItsF X i tab es its)
    (hb : ∀ (X' : Cx) (W' : WX), X'.K = X.K → Bd P w K mg base N sc k X' W' → PSs X' body (tF X'.K M fx W' mb)) :
    PS X (.Try body [.ExceptHandler (some (.Name x np)) (some n) [.Assign [.Name y py] (.List es lp) ap] pos'] [] [] pos) (tF X.K M fx W (pTry mb tab i j its)) := by
  obtain ⟨n1, n2⟩ := He.ba hn
  obtain ⟨n3, _⟩ := He.ba n1
  obtain ⟨g1, g2⟩ := He.ba h
  obtain ⟨y1, y2⟩ := He.ba hy
  obtain ⟨f1, f2⟩ := He.ba hf
  have c := t.bd.ct
  have hfn := t.bd.fn y
  have T' := T
  rw [← c.K] at T' hm
  refine ps_TryX t.stack t.frame c.nd (by rw [c.N]; exact of_decide_eq_true n3) (by show X.env.scope.names.lookup n = _; rw [c.sc]; exact isLoc_of n2) ⟨c.gl g1, notT g2, .inl (by rw [c.mg]; exact hm)⟩ c.tk (by rw [c.N]; exact of_decide_eq_true y1) (by rw [c.sc]; exact loc_of y2) (.inl hfn)
    (by simpa using hij) (notIn_of f1) (notIn_of f2) hsw T' It fun W' pn xe tk' pa => ?_
  exact hb (X.tr pn xe) W' rfl ⟨⟨c.prog, c.w, c.K, c.mg, c.base, c.N, c.sc, c.room, c.gu, tk', c.calm, c.nd⟩, pa, t.bd.fn⟩
theorem GdF.mkT (Y : Fa fc fn P w K mg base) (i : Nat) {z : Nat} (h : fn[i]? = some d) (Z : FnScope N ps d.scope) (hz : N.length = ps.length + z) (hrf : ∀ i ∈ rf, i < ps.length) (hb : ∀ (X : Cx) (W : WX), BdT P w K mg base N d.scope k X W → PSs X d.body (tF X.K M rf W m)) :
    GdF P w K M mg base d ps rf (k + 1) (runF rf z m) := by
  obtain ⟨fd, F⟩ := Y.says.def_ i h
  exact ⟨fd, F, fnG_body F Z hz hrf fun X W b => bd_fin b (hb X W ⟨bd_of Z.nd b, b.stack, b.frame⟩)⟩
end
end PI

set_option Elab.async false
set_option linter.all false
set_option maxRecDepth 100000
set_option maxHeartbeats 1000000
namespace PI
open PySem PySem.Spec PyProof.Rows L2
open PySem.W (Frag)
/-! ### repr of None, of a truth, of a text -/
def reprB : List D → Option D
  | [.non] => some (.str "None")
  | [.bl b] => some (.str (if b then "True" else "False"))
  | [.str x] => if PyData.strOk x = true ∧ x.length ≤ 1000 then some (.str (reprText x)) else none
  | ds => reprA ds
section
variable {K : Frag} {M : Memo} {W : WX} {X : Cx} {P : Program} {w : World} {mg : Str → Option Value} {base : Heap} {N : List Str} {sc : Scope} {k : Nat}
theorem c_reprB (hu : X.A.units + 64 < cLine) (gu : X.A.guards = some []) : CallS X (.builtin "repr") (rFN X.K M W fun ds g => ro (reprB ds) g) := by
  rintro pins s σ H xs us Q I r ⟨g, G, S, ds, m, sd, q⟩
  dsimp only at q
  unfold reprB at q
  split at q
  · obtain ⟨v, rfl, h1⟩ := seen1 (ds := []) sd
    cases h1.non
    cases r with
    | cons r1 rr =>
      cases rr
      cases r1
      exact PySem.P.repr_of_none ⟨.str "None", H, I.tok _, ⟨_, rfl⟩, fin_sc q m rfl⟩
  · rename_i b
    obtain ⟨v, rfl, h1⟩ := seen1 (ds := []) sd
    cases h1.bl
    cases r with
    | cons r1 rr =>
      cases rr
      cases r1
      exact PySem.P.repr_of_bool ⟨.str (if b then "True" else "False"), H, I.tok _, ⟨_, by cases b <;> rfl⟩, fin_sc q m rfl⟩
  · rename_i x
    obtain ⟨v, rfl, h1⟩ := seen1 (ds := []) sd
    cases h1.str
    split at q
    · rename_i hc
      cases r with
      | cons r1 rr =>
        cases rr
        obtain ⟨t, rfl⟩ := id r1
        have hx : ∀ c ∈ x.cps.toList, c < 16 ^ 8 := fun c hc' => by
          have h := hc.1
          unfold PyData.strOk at h
          rw [← Array.all_toList, List.all_eq_true] at h
          have := of_decide_eq_true (h c hc')
          omega
        have hl := PySem.StrLaws.reprText_len x hx
        exact PySem.P.repr_of_str ⟨.str (reprText x), H, I.tok _, ⟨_, rfl⟩, fin_sc q m rfl⟩ (by rw [sizeLine_eq]; omega)
    · exact (show False from q).elim
  · exact c_repr hu gu pins s σ H xs us Q I r ⟨g, G, S, ds, m, sd, q⟩
theorem wReprB (c : Ct P w K mg base N sc k X W) : CallS X (.builtin "repr") (rFN X.K M W fun ds g => ro (reprB ds) g) := c_reprB c.hu c.gu
theorem rb_lst {b : Bool} {xs : List D} : reprB [.lst b xs] = reprA [.lst b xs] := rfl
theorem rb_int {i : Int} : reprB [.int i] = reprA [.int i] := rfl
theorem rb_non : reprB [.non] = some (.str "None") := rfl
theorem rb_tup {xs : List D} : reprB [.tup xs] = reprA [.tup xs] := rfl
end
end PI

set_option Elab.async false
set_option linter.all false
set_option maxRecDepth 100000
set_option maxHeartbeats 1000000
namespace PI
open PySem PySem.Spec PyProof.Rows L2
/-! ### repr of what is built of texts, numbers, truths and lists: a law about the text alone -/
def ss (l : List Nat) : Str := ⟨l.toArray⟩
def asc (l : List Nat) : Prop := ∀ c ∈ l, c < 128
theorem rc_ok : ∀ i : Fin 128, ((Builtin.Str.reprChar 34 i.val).all fun c => decide (c < 128)) = true ∧ ((Builtin.Str.reprChar 39 i.val).all fun c => decide (c < 128)) = true := by decide +kernel
theorem asc_app {l m : List Nat} (h1 : asc l) (h2 : asc m) : asc (l ++ m) := fun c hc => by
  rcases List.mem_append.mp hc with h | h
  · exact h1 c h
  · exact h2 c h
theorem fold_asc {q : Nat} (hq : q = 34 ∨ q = 39) : ∀ (l : List Nat) (acc : Array Nat), asc l → asc acc.toList → asc (l.foldl (fun out c => out ++ (Builtin.Str.reprChar q c).toArray) acc).toList
  | [], acc, _, h => h
  | c :: l, acc, hl, h => by
    rw [List.foldl_cons]
    refine fold_asc hq l _ (fun d hd => hl d (.tail _ hd)) ?_
    rw [Array.toList_append]
    refine asc_app h fun d hd => ?_
    have := rc_ok ⟨c, hl c (.head _)⟩
    rcases hq with rfl | rfl
    · exact of_decide_eq_true (List.all_eq_true.mp this.1 d (by simpa using hd))
    · exact of_decide_eq_true (List.all_eq_true.mp this.2 d (by simpa using hd))
theorem rquote (x : Str) : reprQuote x = 34 ∨ reprQuote x = 39 := by
  unfold reprQuote
  split
  · exact .inl rfl
  · exact .inr rfl
theorem strOk_asc {l : List Nat} (h : asc l) : PyData.strOk (ss l) = true := by
  unfold PyData.strOk ss
  rw [List.all_toArray, List.all_eq_true]
  intro c hc
  have := h c hc
  exact decide_eq_true (by omega)
theorem rtext_asc {l : List Nat} (h : asc l) : ∃ m, reprText (ss l) = ss m ∧ asc m := by
  have hq := rquote (ss l)
  have h34 : asc [reprQuote (ss l)] := fun c hc => by
    rw [List.mem_singleton] at hc
    omega
  refine ⟨(reprText (ss l)).cps.toList, by simp [ss], ?_⟩
  unfold reprText
  rw [← Array.foldl_toList]
  show asc ((List.foldl (fun out c => out ++ (Builtin.Str.reprChar (reprQuote (ss l)) c).toArray) #[reprQuote (ss l)] l).push (reprQuote (ss l))).toList
  rw [Array.toList_push]
  exact asc_app (fold_asc hq l _ h (by simpa using h34)) h34
theorem rtext_len {l : List Nat} (h : asc l) : (reprText (ss l)).length ≤ 10 * l.length + 2 := by
  have := PySem.StrLaws.reprText_len (ss l) (fun c hc => by have := h c (by simpa [ss] using hc); omega)
  simpa [ss, Str.length] using this
/-- a thing whose text can be told -/
structure Tl (n d : Nat) (p : PyData) : Prop where
  sh : p.showable = true
  hd : p.hasDict = false
  dp : p.depth ≤ d
  ok : PyData.strOk p.shown = true
  ln : p.shown.length ≤ n
theorem Tl.up {n d m e : Nat} {p : PyData} (h : Tl n d p) (h1 : n ≤ m) (h2 : d ≤ e) : Tl m e p := ⟨h.sh, h.hd, Nat.le_trans h.dp h2, h.ok, Nat.le_trans h.ln h1⟩
theorem len_of (s : String) : (Str.ofString s).length = s.length := by
  rw [Str.ofString_eq_toList]
  simp [Str.length, String.length]
theorem tl_bool (b : Bool) : Tl 5 0 (.bool b) := by
  cases b
  · exact ⟨rfl, rfl, Nat.le_refl _, by kernel_rfl, by decide +kernel⟩
  · exact ⟨rfl, rfl, Nat.le_refl _, by kernel_rfl, by decide +kernel⟩
theorem tl_str {l : List Nat} (h : asc l) : Tl (10 * l.length + 2) 0 (.str (ss l)) := by
  obtain ⟨m, e, hm⟩ := rtext_asc h
  refine ⟨rfl, rfl, Nat.le_refl _, ?_, rtext_len h⟩
  show PyData.strOk (reprText (ss l)) = true
  rw [e]
  exact strOk_asc hm
theorem tl_int {i : Int} (h : i.natAbs.log2 < 1900) : Tl 1921 0 (.int i) := by
  refine ⟨?_, rfl, Nat.le_refl _, strOk_of _, PyProof.Rows.int_text_len_1921 (i := i) (Nat.lt_trans h (by decide))⟩
  show decide (i.natAbs.log2 < 1920) = true
  exact decide_eq_true (by omega)
theorem tl_all {n d : Nat} : ∀ {ps : List PyData}, (∀ p ∈ ps, Tl n d p) → PyData.showableAll ps = true ∧ PyData.hasDictAll ps = false ∧ PyData.depthAll ps ≤ d ∧ (∀ t ∈ PyData.shownAll ps, PyData.strOk t = true ∧ t.length ≤ n) ∧ (PyData.shownAll ps).length = ps.length
  | [], _ => ⟨rfl, rfl, Nat.zero_le _, fun _ h => (nomatch h), rfl⟩
  | p :: ps, h => by
    obtain ⟨a1, a2, a3, a4, a5⟩ := tl_all (ps := ps) fun q hq => h q (.tail _ hq)
    obtain ⟨b1, b2, b3, b4, b5⟩ := h p (.head _)
    refine ⟨?_, ?_, ?_, ?_, ?_⟩
    · show (p.showable && PyData.showableAll ps) = true
      rw [a1, b1] <;> rfl
    · show (p.hasDict || PyData.hasDictAll ps) = false
      rw [a2, b2] <;> rfl
    · exact Nat.max_le.mpr ⟨b3, a3⟩
    · intro t ht
      rcases List.mem_cons.mp (show t ∈ p.shown :: PyData.shownAll ps from ht) with rfl | ht
      · exact ⟨b4, b5⟩
      · exact a4 t ht
    · show (PyData.shownAll ps).length + 1 = _
      rw [a5, List.length_cons]
theorem sum_le {n : Nat} : ∀ {ts : List Str}, (∀ t ∈ ts, t.length ≤ n) → (ts.map (·.length)).sum ≤ n * ts.length
  | [], _ => Nat.zero_le _
  | t :: ts, h => by
    have h1 := h t (.head _)
    have h2 := sum_le (ts := ts) fun u hu => h u (.tail _ hu)
    rw [List.map_cons, List.sum_cons, List.length_cons, Nat.mul_add]
    omega
theorem tl_list {n d : Nat} {ps : List PyData} (h : ∀ p ∈ ps, Tl n d p) : Tl (n * ps.length + 2 * ps.length + 3) (d + 1) (.list ps) := by
  obtain ⟨a1, a2, a3, a4, a5⟩ := tl_all h
  refine ⟨a1, a2, Nat.succ_le_succ a3, ?_, ?_⟩
  · show PyData.strOk (listText (PyData.shownAll ps)) = true
    exact strOk_app (strOk_from _ 0 _ (strOk_of _) fun t ht => (a4 t ht).1) (strOk_of _)
  · show (listText (PyData.shownAll ps)).length ≤ _
    have h1 := listText_len_le (PyData.shownAll ps)
    have h2 := sum_le (n := n) fun t ht => (a4 t ht).2
    rw [a5] at *
    omega
theorem tl_rep {n d : Nat} {b : Bool} {ds : List D} {ps : List PyData} (h : Tl n d (.list ps)) (hn : n ≤ 100000) (hd : d ≤ 40) (e : pyAll ds = some ps) : reprA [.lst b ds] = some (.str (PyData.list ps).shown) := by
  show ((pyOf (.lst b ds)).bind reprP).map D.str = _
  have e1 : pyOf (.lst b ds) = some (.list ps) := by
    show (pyAll ds).map _ = _
    rw [e] <;> rfl
  rw [e1, Option.bind_some]
  unfold reprP
  rw [if_pos ⟨h.sh, h.hd, Nat.le_trans h.dp hd, Nat.le_trans h.ln (by unfold lim; omega)⟩]
  rfl
end PI

set_option Elab.async false
set_option linter.all false
set_option maxRecDepth 100000
set_option maxHeartbeats 4000000
namespace A02
open PI PySem PySem.Spec PyProof.Rows L2
def m_Value_eq (r_Value_eq : List D → Cr) (r_Step_eq : List D → Cr) : PF := (pBlk [(pIf (pOr (pNot (pTr (.ex (pOp1 (fun d g => rb (isS [("Value", true), ("Step", false)] d) g) (.nm 1))))) (pTest (pOp2 (fun d e g => rb (cmpD .NotEq d e) g) (.ex (pFld [("Value", "sign"), ("Step", "sign")] "sign" (.nm 0))) (.ex (pFld [("Value", "sign"), ("Step", "sign")] "sign" (.nm 1)))))) (pBlk [(pRet (pC (.bl false)))]) (pBlk [])), (pRet (pAndV (pSl2 (eqS [⟨"Value", r_Value_eq, [], [.inl 0, .inl 1]⟩, ⟨"Step", r_Step_eq, [], [.inl 0, .inl 1]⟩]) (pFld [("Value", "first")] "first" (.nm 0)) (pFld [("Value", "first")] "first" (.nm 1))) (pSl2 (eqS [⟨"Value", r_Value_eq, [], [.inl 0, .inl 1]⟩, ⟨"Step", r_Step_eq, [], [.inl 0, .inl 1]⟩]) (pFld [("Value", "second")] "second" (.nm 0)) (pFld [("Value", "second")] "second" (.nm 1)))))])
def m_Step_eq (r_Value_eq : List D → Cr) (r_Step_eq : List D → Cr) : PF := (pBlk [(pIf (pOr (pNot (pTr (.ex (pOp1 (fun d g => rb (isS [("Value", false), ("Step", true)] d) g) (.nm 1))))) (pTest (pOp2 (fun d e g => rb (cmpD .NotEq d e) g) (.ex (pFld [("Value", "sign"), ("Step", "sign")] "sign" (.nm 0))) (.ex (pFld [("Value", "sign"), ("Step", "sign")] "sign" (.nm 1)))))) (pBlk [(pRet (pC (.bl false)))]) (pBlk [])), (pIf (pOr (pTest (pOp2 (fun d e g => rb (cmpD .NotEq d e) g) (.ex (pFld [("Step", "name")] "name" (.nm 0))) (.ex (pFld [("Step", "name")] "name" (.nm 1))))) (pTest (pSl2 (neS [⟨"Value", r_Value_eq, [], [.inl 0, .inl 1]⟩, ⟨"Step", r_Step_eq, [], [.inl 0, .inl 1]⟩]) (pFld [("Step", "value")] "value" (.nm 0)) (pFld [("Step", "value")] "value" (.nm 1))))) (pBlk [(pRet (pC (.bl false)))]) (pBlk [])), (pRet (pAndV (pOp2 (fun d e g => rb (cmpD .Eq d e) g) (.ex (pFld [("Step", "steps")] "steps" (.nm 0))) (.ex (pFld [("Step", "steps")] "steps" (.nm 1)))) (pOp2 (fun d e g => rb (cmpD .Eq d e) g) (.ex (pFld [("Step", "others")] "others" (.nm 0))) (.ex (pFld [("Step", "others")] "others" (.nm 1))))))])
def F_Value_eq_Step_eq : Nat → (List D → Cr) × (List D → Cr)
  | 0 => (fun _ => .bad, fun _ => .bad)
  | n + 1 => (runF [] 0 (m_Value_eq (F_Value_eq_Step_eq n).1 (F_Value_eq_Step_eq n).2), runF [] 0 (m_Step_eq (F_Value_eq_Step_eq n).1 (F_Value_eq_Step_eq n).2))
def f_Value_eq (n : Nat) : List D → Cr := (F_Value_eq_Step_eq n).1
theorem u_Value_eq0 : f_Value_eq 0 = fun _ => .bad := rfl
def f_Step_eq (n : Nat) : List D → Cr := (F_Value_eq_Step_eq n).2
theorem u_Step_eq0 : f_Step_eq 0 = fun _ => .bad := rfl
theorem u_Value_eq (n : Nat) : f_Value_eq (n + 1) = runF [] 0 (m_Value_eq (f_Value_eq n) (f_Step_eq n)) := rfl
theorem u_Step_eq (n : Nat) : f_Step_eq (n + 1) = runF [] 0 (m_Step_eq (f_Value_eq n) (f_Step_eq n)) := rfl
def m_parts_of : PF := (pBlk [(pIf (pTest (pOp2 (fun d e g => rb (cmpD .In d e) g) (.ex (pFld [("Value", "sign"), ("Step", "sign")] "sign" (.nm 0))) (.ex (pTup [(pC (.str "cell")), (pC (.str "passed")), (pC (.str "number"))])))) (pBlk [(pRet (pLst []))]) (pBlk [])), (pRet (pIfE (pTest (pOp2 (fun d e g => rb (cmpD .Eq d e) g) (.ex (pFld [("Value", "sign"), ("Step", "sign")] "sign" (.nm 0))) (.ex (pC (.str "~"))))) (pLst [(pFld [("Value", "first")] "first" (.nm 0))]) (pLst [(pFld [("Value", "first")] "first" (.nm 0)), (pFld [("Value", "second")] "second" (.nm 0))])))])
def f_parts_of : List D → Cr := runF [] 0 m_parts_of
def m_names_in (r_names_in : List D → Cr) : PF := (pBlk [(pSet 1 (pIfE (pTest (pOp2 (fun d e g => rb (cmpD .Eq d e) g) (.ex (pFld [("Value", "sign"), ("Step", "sign")] "sign" (.nm 0))) (.ex (pC (.str "cell"))))) (pLst [(pFld [("Value", "first")] "first" (.nm 0))]) (pLst []))), (pFor (pItV (pCall f_parts_of [] [(.v (pV 0))] [.inl 0])) (.nm 2) (pBlk [(pSet 1 (pOp2 (fun d e g => ro (binD .Add d e) g) (.nm 1) (.ex (pCall r_names_in [] [(.v (pV 2))] [.inl 0]))))])), (pRet (pV 1))])
def f_names_in : Nat → List D → Cr
  | 0 => fun _ => .bad
  | n + 1 => runF [] 2 (m_names_in (f_names_in n))
def m_names_of_step (r_names_of_step : List D → Cr) : PF := (pBlk [(pSet 1 (pCall (f_names_in 8) [] [(.v (pFld [("Step", "value")] "value" (.nm 0)))] [.inl 0])), (pIf (pTest (pOp2 (fun d e g => rb (cmpD .Eq d e) g) (.ex (pFld [("Value", "sign"), ("Step", "sign")] "sign" (.nm 0))) (.ex (pC (.str "put"))))) (pBlk [(pSet 1 (pOp2 (fun d e g => ro (binD .Add d e) g) (.ex (pLst [(pFld [("Step", "name")] "name" (.nm 0))])) (.nm 1)))]) (pBlk [])), (pFor (pItV (pOp2 (fun d e g => ro (binD .Add d e) g) (.ex (pFld [("Step", "steps")] "steps" (.nm 0))) (.ex (pFld [("Step", "others")] "others" (.nm 0))))) (.nm 2) (pBlk [(pSet 1 (pOp2 (fun d e g => ro (binD .Add d e) g) (.nm 1) (.ex (pCall r_names_of_step [] [(.v (pV 2))] [.inl 0]))))])), (pRet (pV 1))])
def f_names_of_step : Nat → List D → Cr
  | 0 => fun _ => .bad
  | n + 1 => runF [] 2 (m_names_of_step (f_names_of_step n))
def m_Step_names : PF := (pBlk [(pRet (pOp1 (fun d g => ro (ssD d) g) (.ex (pCall (f_names_of_step 8) [] [(.v (pV 0))] [.inl 0]))))])
def f_Step_names : List D → Cr := runF [] 0 m_Step_names
def m_Value_names : PF := (pBlk [(pRet (pOp1 (fun d g => ro (ssD d) g) (.ex (pCall (f_names_in 8) [] [(.v (pV 0))] [.inl 0]))))])
def f_Value_names : List D → Cr := runF [] 0 m_Value_names
def m_Value_init : PF := (pBlk [(pFst [("Value", "sign"), ("Step", "sign")] "sign" 0 (pV 1)), (pFst [("Value", "first")] "first" 0 (pV 2)), (pFst [("Value", "second")] "second" 0 (pV 3))])
def f_Value_init : List D → Cr := runF [0] 0 m_Value_init
def m_is_name : PF := (pBlk [(pRet (pAndV (pCh .LtE .LtE (.ex (pC (.int 1))) (.ex (pOps (fun ds g => ro (lenD ds) g) [(.nm 0)])) (.ex (pC (.int 8)))) (pOps (fun ds g => ro (allD ds) g) [(.ex (pLc (pItV (pV 0)) (.nm 1) pYes (pOp2 (fun d e g => rb (cmpD .In d e) g) (.nm 1) (.ex (pC (.str "abcdefghijklmnopqrstuvwxyz")))) [1]))])))])
def f_is_name : List D → Cr := runF [] 1 m_is_name
def m_check_name : PF := (pBlk [(pIf (pNot (pTr (.ex (pCall f_is_name [] [(.v (pV 0))] [.inl 0])))) (pBlk [(pRs "InvalidName" (pV 0))]) (pBlk []))])
def f_check_name : List D → Cr := runF [] 0 m_check_name
def m_cell : PF := (pBlk [(pDrop (pCall f_check_name [] [(.v (pV 0))] [.inl 0])), (pRet (pNew "Value" f_Value_init [0] [(.v (pC (.str "cell"))), (.v (pV 0)), (.v (pC .non))] [.inl 0, .inl 1, .inl 2, .inl 3]))])
def f_cell : List D → Cr := runF [] 0 m_cell
def m_number : PF := (pBlk [(pRet (pNew "Value" f_Value_init [0] [(.v (pC (.str "number"))), (.v (pV 0)), (.v (pC .non))] [.inl 0, .inl 1, .inl 2, .inl 3]))])
def f_number : List D → Cr := runF [] 0 m_number
def m_Step_init : PF := (pBlk [(pFst [("Value", "sign"), ("Step", "sign")] "sign" 0 (pV 1)), (pFst [("Step", "name")] "name" 0 (pV 2)), (pFst [("Step", "value")] "value" 0 (pV 3)), (pFst [("Step", "steps")] "steps" 0 (pV 4)), (pFst [("Step", "others")] "others" 0 (pV 5))])
def f_Step_init : List D → Cr := runF [0] 0 m_Step_init
def m_value_of : PF := (pBlk [(pRet (pIfE (pTr (.ex (pOp1 (fun d g => rb (isS [("Value", true), ("Step", false)] d) g) (.nm 0)))) (pV 0) (pCall f_number [] [(.v (pV 0))] [.inl 0])))])
def f_value_of : List D → Cr := runF [] 0 m_value_of
def m_put : PF := (pBlk [(pDrop (pCall f_check_name [] [(.v (pV 0))] [.inl 0])), (pRet (pNew "Step" f_Step_init [0] [(.v (pC (.str "put"))), (.v (pV 0)), (.v (pCall f_value_of [] [(.v (pV 1))] [.inl 0])), (.v (pTup [])), (.v (pTup []))] [.inl 0, .inl 1, .inl 2, .inl 3, .inl 4, .inl 5]))])
def f_put : List D → Cr := runF [] 0 m_put
def m_law_caught : PF := (pBlk [(pSetT [2, 3] (pTup [(pC .non), (pC .non)])), (pTry (pBlk [(pIf (pTest (pOp2 (fun d e g => rb (cmpD .Eq d e) g) (.nm 1) (.ex (pC (.int 0))))) (pBlk [(pSet 3 (pCall f_cell [] [(.v (pV 0))] [.inl 0]))]) (pBlk [(pIf (pTest (pOp2 (fun d e g => rb (cmpD .Eq d e) g) (.nm 1) (.ex (pC (.int 1))))) (pBlk [(pSet 3 (pCall f_cell [] [(.v (pV 0))] [.inl 0]))]) (pBlk [(pIf (pTest (pOp2 (fun d e g => rb (cmpD .Eq d e) g) (.nm 1) (.ex (pC (.int 2))))) (pBlk [(pSet 3 (pCall f_put [] [(.v (pV 0)), (.v (pC (.int 5)))] [.inl 0, .inl 1]))]) (pBlk [(pSet 3 (pCall f_put [] [(.v (pCall f_number [] [(.v (pC (.int 0)))] [.inl 0])), (.v (pV 0))] [.inl 1, .inl 0]))]))]))]))]) [("WorkError", true), ("InvalidName", true), ("UnknownName", true), ("InvalidDivisor", true)] 4 2 [.is [("WorkError", false), ("InvalidName", true), ("UnknownName", false), ("InvalidDivisor", false)], .val]), (pRet (pIfE (pTest (pOp2 (fun d e g => rb (cmpD .Is d e) g) (.nm 3) (.ex (pC .non)))) (pV 2) (pSl1 (propS [⟨"Value", f_Value_names, [], [.inl 0]⟩, ⟨"Step", f_Step_names, [], [.inl 0]⟩]) (pV 3))))])
def f_law_caught : List D → Cr := runF [] 3 m_law_caught
def m_law_take : PF := (pBlk [(pIf (pTest (pOp2 (fun d e g => rb (cmpD .Gt d e) g) (.ex (pOp2 (fun d e g => ro (ixD d e) g) (.nm 0) (.ex (pC (.int 0))))) (.ex (pC (.int 0))))) (pBlk [(pSet 3 (pOp2 (fun d e g => ro (binD .Mod d e) g) (.ex (pOps (fun ds g => ro (intD ds) g) [(.ex (pOp2 (fun d e g => ro (ixD d e) g) (.nm 0) (.ex (pC (.int 0)))))])) (.nm 1))), (pPut 0 (.ex (pC (.int 0))) (pOp2 (fun d e g => ro (binD .FloorDiv d e) g) (.ex (pOp2 (fun d e g => ro (ixD d e) g) (.nm 0) (.ex (pC (.int 0))))) (.nm 1))), (pRet (pV 3))]) (pBlk [])), (pPut 0 (.ex (pC (.int 2))) (pOp2 (fun d e g => ro (binD .Add d e) g) (.ex (pOp2 (fun d e g => ro (ixD d e) g) (.nm 0) (.ex (pC (.int 2))))) (.ex (pC (.int 1))))), (pSet 2 (pOp2 (fun d e g => ro (binD .Add d e) g) (.ex (pOp2 (fun d e g => ro (binD .Pow d e) g) (.ex (pOp2 (fun d e g => ro (binD .Add d e) g) (.ex (pOp2 (fun d e g => ro (ixD d e) g) (.nm 0) (.ex (pC (.int 1))))) (.ex (pOp2 (fun d e g => ro (binD .Mult d e) g) (.ex (pC (.int 6700417))) (.ex (pOp2 (fun d e g => ro (ixD d e) g) (.nm 0) (.ex (pC (.int 2))))))))) (.ex (pC (.int 3))))) (.ex (pOp2 (fun d e g => ro (binD .Mult d e) g) (.ex (pC (.int 97))) (.ex (pOp2 (fun d e g => ro (ixD d e) g) (.nm 0) (.ex (pC (.int 2))))))))), (pSet 2 (pOp2 (fun d e g => ro (binD .Add d e) g) (.ex (pOp2 (fun d e g => ro (binD .Mod d e) g) (.ex (pOps (fun ds g => ro (intD ds) g) [(.nm 2)])) (.ex (pC (.int 2305843009213693951))))) (.ex (pOp2 (fun d e g => ro (binD .Mult d e) g) (.ex (pC (.int 2971215073))) (.ex (pOp2 (fun d e g => ro (ixD d e) g) (.nm 0) (.ex (pC (.int 2))))))))), (pSet 2 (pOp2 (fun d e g => ro (binD .Mod d e) g) (.ex (pOps (fun ds g => ro (intD ds) g) [(.ex (pOp2 (fun d e g => ro (binD .Pow d e) g) (.nm 2) (.ex (pC (.int 3)))))])) (.ex (pC (.int 618970019642690137449562111))))), (pRet (pOp2 (fun d e g => ro (binD .Mod d e) g) (.ex (pOps (fun ds g => ro (intD ds) g) [(.ex (pOp2 (fun d e g => ro (binD .FloorDiv d e) g) (.nm 2) (.ex (pC (.int 131072)))))])) (.nm 1)))])
def f_law_take : List D → Cr := runF [0] 2 m_law_take
def m_law_cells : PF := (pBlk [(pSetT [2, 3, 4] (pTup [(pC (.str "abcdefghijklmnopqrstuvwxyz")), (pCall f_law_take [0] [(.r (.nm 0)), (.v (pC (.int 4)))] [.inl 0, .inl 1]), (pCall f_law_take [0] [(.r (.nm 0)), (.v (pC (.int 26)))] [.inl 0, .inl 1])])), (pIf (pTest (pOp2 (fun d e g => rb (cmpD .Eq d e) g) (.nm 3) (.ex (pC (.int 0))))) (pBlk [(pRet (pLc (pRng [(.nm 1)]) (.nm 9) pYes (pOp2 (fun d e g => ro (binD .Mult d e) g) (.ex (pOp2 (fun d e g => ro (ixD d e) g) (.nm 2) (.nm 4))) (.ex (pOp2 (fun d e g => ro (binD .Add d e) g) (.nm 9) (.ex (pC (.int 1)))))) [9]))]) (pBlk [])), (pIf (pTest (pOp2 (fun d e g => rb (cmpD .Eq d e) g) (.nm 3) (.ex (pC (.int 1))))) (pBlk [(pSet 8 (pLst [(pC (.str "put")), (pC (.str "when")), (pC (.str "answer")), (pC (.str "else")), (pC (.str "own")), (pC (.str "common")), (pC (.str "kind")), (pC (.str "mod")), (pC (.str "argument")), (pC (.str "passed")), (pC (.str "names")), (pC (.str "held"))])), (pRet (pLc (pRng [(.nm 1)]) (.nm 9) pYes (pOp2 (fun d e g => ro (ixD d e) g) (.nm 8) (.ex (pOp2 (fun d e g => ro (binD .Mod d e) g) (.ex (pOps (fun ds g => ro (intD ds) g) [(.ex (pOp2 (fun d e g => ro (binD .Add d e) g) (.nm 4) (.nm 9)))])) (.ex (pC (.int 12)))))) [9]))]) (pBlk [])), (pSet 5 (pOp1 (fun d g => ro (joinD "" d) g) (.ex (pLc (pRng [(.ex (pOp2 (fun d e g => ro (binD .Add d e) g) (.ex (pC (.int 1))) (.ex (pCall f_law_take [0] [(.r (.nm 0)), (.v (pC (.int 8)))] [.inl 0, .inl 1]))))]) (.nm 10) pYes (pOp2 (fun d e g => ro (ixD d e) g) (.nm 2) (.ex (pCall f_law_take [0] [(.r (.nm 0)), (.v (pC (.int 26)))] [.inl 0, .inl 1]))) [10])))), (pSetT [6, 7] (pTup [(pCall f_law_take [0] [(.r (.nm 0)), (.v (pOps (fun ds g => ro (lenD ds) g) [(.nm 5)]))] [.inl 0, .inl 1]), (pOp2 (fun d e g => ro (ixD d e) g) (.ex (pLst [(pC (.int 1)), (pC (.int 3)), (pC (.int 5)), (pC (.int 7)), (pC (.int 11))])) (.ex (pCall f_law_take [0] [(.r (.nm 0)), (.v (pC (.int 5)))] [.inl 0, .inl 1])))])), (pRet (pLc (pRng [(.nm 1)]) (.nm 9) pYes (pOp2 (fun d e g => ro (binD .Add d e) g) (.ex (pOp2 (fun d e g => ro (binD .Add d e) g) (.ex (pSl (.nm 5) none (some (pV 6)))) (.ex (pOp2 (fun d e g => ro (ixD d e) g) (.nm 2) (.ex (pOp2 (fun d e g => ro (binD .Mod d e) g) (.ex (pOps (fun ds g => ro (intD ds) g) [(.ex (pOp2 (fun d e g => ro (binD .Add d e) g) (.nm 4) (.ex (pOp2 (fun d e g => ro (binD .Mult d e) g) (.nm 7) (.nm 9)))))])) (.ex (pC (.int 26))))))))) (.ex (pSl (.nm 5) (some (pOp2 (fun d e g => ro (binD .Add d e) g) (.nm 6) (.ex (pC (.int 1))))) none))) [9]))])
def f_law_cells : List D → Cr := runF [0] 9 m_law_cells
def m_law_text : PF := (pBlk [(pSet 1 (pC (.str "abcdefghijklmnopqrstuvwxyz"))), (pSet 2 (pOp1 (fun d g => ro (joinD "" d) g) (.ex (pLc (pRng [(.ex (pCall f_law_take [0] [(.r (.nm 0)), (.v (pOp2 (fun d e g => ro (ixD d e) g) (.ex (pLst [(pC (.int 10)), (pC (.int 13))])) (.ex (pCall f_law_take [0] [(.r (.nm 0)), (.v (pC (.int 2)))] [.inl 0, .inl 1]))))] [.inl 0, .inl 1]))]) (.nm 5) pYes (pOp2 (fun d e g => ro (ixD d e) g) (.nm 1) (.ex (pCall f_law_take [0] [(.r (.nm 0)), (.v (pC (.int 26)))] [.inl 0, .inl 1]))) [5])))), (pIf (pTest (pOp2 (fun d e g => rb (cmpD .Eq d e) g) (.ex (pCall f_law_take [0] [(.r (.nm 0)), (.v (pC (.int 2)))] [.inl 0, .inl 1])) (.ex (pC (.int 0))))) (pBlk [(pRet (pV 2))]) (pBlk [])), (pSet 3 (pOp2 (fun d e g => ro (ixD d e) g) (.ex (pC (.str "`{AZ09_ ~!@-.:?"))) (.ex (pCall f_law_take [0] [(.r (.nm 0)), (.v (pC (.int 15)))] [.inl 0, .inl 1])))), (pSet 4 (pCall f_law_take [0] [(.r (.nm 0)), (.v (pOp2 (fun d e g => ro (binD .Add d e) g) (.ex (pOps (fun ds g => ro (lenD ds) g) [(.nm 2)])) (.ex (pC (.int 1)))))] [.inl 0, .inl 1])), (pRet (pOp2 (fun d e g => ro (binD .Add d e) g) (.ex (pOp2 (fun d e g => ro (binD .Add d e) g) (.ex (pSl (.nm 2) none (some (pV 4)))) (.nm 3))) (.ex (pSl (.nm 2) (some (pOp2 (fun d e g => ro (binD .Add d e) g) (.nm 4) (.ex (pCall f_law_take [0] [(.r (.nm 0)), (.v (pC (.int 2)))] [.inl 0, .inl 1])))) none))))])
def f_law_text : List D → Cr := runF [0] 5 m_law_text
def m_law_fits : PF := (pBlk [(pFor (pRng [(.ex (pC (.int 4)))]) (.nm 1) (pBlk [(pSet 7 (pCall f_law_text [0] [(.r (.nm 0))] [.inl 0])), (pSet 8 (pAndV (pCh .LtE .LtE (.ex (pC (.int 1))) (.ex (pOps (fun ds g => ro (lenD ds) g) [(.nm 7)])) (.ex (pC (.int 8)))) (pOp2 (fun d e g => rb (cmpD .Eq d e) g) (.ex (pLc (pItV (pV 7)) (.nm 11) (pOr (pTest (pOp2 (fun d e g => rb (cmpD .Lt d e) g) (.nm 11) (.ex (pC (.str "a"))))) (pTest (pOp2 (fun d e g => rb (cmpD .Gt d e) g) (.nm 11) (.ex (pC (.str "z")))))) (pV 11) [11])) (.ex (pLst []))))), (pSet 9 (pIfE (pTr (.nm 8)) (pLst [(pV 7)]) (pLst [(pC (.bl true)), (pV 7)]))), (pIf (pTest (pOp2 (fun d e g => rb (cmpD .NotEq d e) g) (.ex (pLc (pRng [(.ex (pC (.int 4)))]) (.nm 10) (pTest (pOp2 (fun d e g => rb (cmpD .NotEq d e) g) (.ex (pOps (fun ds g => ro (reprB ds) g) [(.ex (pCall f_law_caught [] [(.v (pV 7)), (.v (pV 10))] [.inl 0, .inl 1]))])) (.ex (pOps (fun ds g => ro (reprB ds) g) [(.nm 9)])))) (pV 10) [10])) (.ex (pLst [])))) (pBlk [(pRet (pC (.bl false)))]) (pBlk []))])), (pSet 2 (pCall f_law_cells [0] [(.r (.nm 0)), (.v (pC (.int 5)))] [.inl 0, .inl 1])), (pPar [3, 4] [(.r (.ex (pOp2 (fun d e g => ro (ixD d e) g) (.nm 2) (.ex (pCall f_law_take [0] [(.r (.nm 0)), (.v (pC (.int 5)))] [.inl 0, .inl 1]))))), (.r (.ex (pOp2 (fun d e g => ro (ixD d e) g) (.nm 2) (.ex (pCall f_law_take [0] [(.r (.nm 0)), (.v (pC (.int 5)))] [.inl 0, .inl 1])))))]), (pSet 5 (pLst [(pSl2 (eqS [⟨"Value", (f_Value_eq 8), [], [.inl 0, .inl 1]⟩, ⟨"Step", (f_Step_eq 8), [], [.inl 0, .inl 1]⟩]) (pCall f_cell [] [(.v (pV 3))] [.inl 0]) (pCall f_cell [] [(.v (pV 4))] [.inl 0])), (pSl2 (neS [⟨"Value", (f_Value_eq 8), [], [.inl 0, .inl 1]⟩, ⟨"Step", (f_Step_eq 8), [], [.inl 0, .inl 1]⟩]) (pCall f_cell [] [(.v (pV 3))] [.inl 0]) (pCall f_cell [] [(.v (pV 4))] [.inl 0])), (pSl2 (eqS [⟨"Value", (f_Value_eq 8), [], [.inl 0, .inl 1]⟩, ⟨"Step", (f_Step_eq 8), [], [.inl 0, .inl 1]⟩]) (pCall f_put [] [(.v (pV 3)), (.v (pC (.int 3)))] [.inl 0, .inl 1]) (pCall f_put [] [(.v (pV 4)), (.v (pC (.int 3)))] [.inl 0, .inl 1])), (pSl2 (neS [⟨"Value", (f_Value_eq 8), [], [.inl 0, .inl 1]⟩, ⟨"Step", (f_Step_eq 8), [], [.inl 0, .inl 1]⟩]) (pCall f_put [] [(.v (pV 3)), (.v (pC (.int 3)))] [.inl 0, .inl 1]) (pCall f_put [] [(.v (pV 4)), (.v (pC (.int 3)))] [.inl 0, .inl 1]))])), (pSet 6 (pOp2 (fun d e g => rb (cmpD .Eq d e) g) (.nm 3) (.nm 4))), (pRet (pOp2 (fun d e g => rb (cmpD .Eq d e) g) (.ex (pOps (fun ds g => ro (reprB ds) g) [(.ex (pOp2 (fun d e g => ro (binD .Add d e) g) (.nm 5) (.ex (pLst [(pSl1 (propS [⟨"Value", f_Value_names, [], [.inl 0]⟩, ⟨"Step", f_Step_names, [], [.inl 0]⟩]) (pCall f_cell [] [(.v (pV 3))] [.inl 0]))]))))])) (.ex (pOps (fun ds g => ro (reprB ds) g) [(.ex (pLst [(pV 6), (pNotV (.nm 6)), (pV 6), (pNotV (.nm 6)), (pLst [(pV 3)])]))]))))])
def f_law_fits : List D → Cr := runF [0] 11 m_law_fits
def m_law_well : PF := (pBlk [(pSet 2 (pC (.int 0))), (pIf (pTest (pOp2 (fun d e g => rb (cmpD .Lt d e) g) (.nm 1) (.ex (pOps (fun ds g => ro (lenD ds) g) [(.nm 0)])))) (pBlk [(pSet 2 (pOp2 (fun d e g => ro (ixD d e) g) (.nm 0) (.nm 1)))]) (pBlk [])), (pSet 3 (pOp2 (fun d e g => ro (binD .Mod d e) g) (.ex (pOps (fun ds g => ro (intD ds) g) [(.ex (pOp2 (fun d e g => ro (binD .Add d e) g) (.ex (pOp2 (fun d e g => ro (binD .Mult d e) g) (.ex (pOps (fun ds g => ro (absD ds) g) [(.nm 2)])) (.ex (pC (.int 2))))) (.ex (pOps (fun ds g => ro (intD ds) g) [(.ex (pOp2 (fun d e g => rb (cmpD .Lt d e) g) (.nm 2) (.ex (pC (.int 0)))))]))))])) (.ex (pC (.int 2305843009213693951))))), (pRet (pLst [(pOp2 (fun d e g => ro (binD .Mult d e) g) (.nm 2) (.ex (pOps (fun ds g => ro (intD ds) g) [(.ex (pOp2 (fun d e g => rb (cmpD .GtE d e) g) (.nm 2) (.ex (pOp2 (fun d e g => ro (binD .Pow d e) g) (.ex (pC (.int 10))) (.ex (pC (.int 18)))))))]))), (pOp2 (fun d e g => ro (binD .Add d e) g) (.nm 3) (.ex (pOp2 (fun d e g => ro (binD .Mult d e) g) (.ex (pC (.int 1000003))) (.nm 1)))), (pC (.int 0))]))])
def f_law_well : List D → Cr := runF [] 2 m_law_well
def m_law : PF := (pBlk [(pFor (pRng [(.ex (pOps (fun ds g => ro (maxD ds) g) [(.ex (pC (.int 1))), (.ex (pOps (fun ds g => ro (minD ds) g) [(.ex (pC (.int 24))), (.ex (pOps (fun ds g => ro (lenD ds) g) [(.nm 0)]))]))]))]) (.nm 1) (pBlk [(pSet 2 (pCall f_law_well [] [(.v (pV 0)), (.v (pV 1))] [.inl 0, .inl 1])), (pFor (pRng [(.ex (pC (.int 2)))]) (.nm 3) (pBlk [(pIf (pNot (pTr (.ex (pCall f_law_fits [0] [(.r (.nm 2))] [.inl 0])))) (pBlk [(pRet (pC (.bl false)))]) (pBlk []))]))])), (pRet (pC (.bl true)))])
def f_law : List D → Cr := runF [] 3 m_law
end A02

set_option linter.all false
set_option maxRecDepth 100000
set_option maxHeartbeats 1000000
namespace A02
open PI PySem
theorem take_ok (a b c m : Int) (ha : 0 ≤ a) (hb : 0 ≤ b) (hb2 : b < 2^62) (hc : 0 ≤ c) (hc2 : c < 2^20) (hm : 0 < m) (hm2 : m < 2^80) : ∃ t a' c', f_law_take [.lst true [.int a, .int b, .int c], .int m] = .ok (.int t) [.lst true [.int a', .int b, .int c']] ∧ 0 ≤ t ∧ t < m ∧ 0 ≤ a' ∧ c ≤ c' ∧ c' ≤ c+1 := by
  have e1 : mulOk 6700417 c = true := mulOk_l (by decide) (by decide)
  have e2 : mulOk 6700417 (c + 1) = true := mulOk_l (by decide) (by decide)
  have e3 : mulOk 97 (c + 1) = true := mulOk_l (by decide) (by decide)
  have e4 : mulOk 2971215073 (c + 1) = true := mulOk_l (by decide) (by decide)
  have e5 : powOk (b + 6700417 * (c + 1)) 3 = true := powOk_s (by omega) (by omega) (by decide) (by decide)
  have e6 : powOk (((b + 6700417 * (c + 1)) ^ 3 + 97 * (c + 1)) % 2305843009213693951 + 2971215073 * (c + 1)) 3 = true := by
    have := Int.emod_nonneg ((b + 6700417 * (c + 1)) ^ 3 + 97 * (c + 1)) (b := 2305843009213693951) (by decide)
    have := Int.emod_lt_of_pos ((b + 6700417 * (c + 1)) ^ 3 + 97 * (c + 1)) (b := 2305843009213693951) (by decide)
    exact powOk_s (by omega) (by omega) (by decide) (by decide)
  have e7 : m.natAbs.log2 < 9000 := Nat.lt_trans (log_lt hm hm2) (by decide)
  by_cases h : 0 < a
  · refine ⟨a % m, a / m, c, ?_, Int.emod_nonneg _ (by omega), Int.emod_lt_of_pos _ hm, Int.ediv_nonneg ha (by omega), Int.le_refl _, by omega⟩
    unfold f_law_take m_law_take
    simp [q_blkc, q_blk0, q_setc, q_set0, q_retc, q_ret0, q_dropc, q_drop0, q_ifc, q_if0, q_ifec, q_ife0, q_testc, q_test0, q_notc, q_not0, q_andc, q_and0, q_orc, q_or0, q_andvc, q_andv0, q_orvc, q_orv0, q_trc, q_tr0, q_op1c, q_op10, q_op2c, q_op20, q_opsc, q_ops0, q_evnmc, q_evnm0, q_evexc, q_evex0, q_evos0c, q_evos00, q_evoscc, q_evosc0, q_eva0c, q_eva00, q_evavc, q_evav0, q_evarc, q_evar0, q_callc, q_call0, q_newc, q_new0, q_methc, q_meth0, q_parc, q_par0, q_all0c, q_all00, q_allcc, q_allc0, q_tupc, q_tup0, q_lstc, q_lst0, q_sl2c, q_sl20, q_sl1c, q_sl10, q_putc, q_put0, q_fstc, q_fst0, PI.q_forc, q_for0, q_itvc, q_itv0, q_rngc, q_rng0, q_itac, q_ita0, q_lcc, q_lc0, q_dicc, q_dic0, q_evk0c, q_evk00, q_evkcc, q_evkc0, q_rsc, q_rs0, q_yesc, q_yes0, q_chc, q_ch0, q_nxc, q_nx0, q_retnc, q_retn0, q_setTc, q_setT0, k_ro, k_rb, k_rl, k_rt, k_asB, k_add, k_sub, k_mul, k_fdiv, k_mod, k_pow, k_addl, k_bini, k_binl, k_lt, k_le, k_gt, k_ge, k_ixl, k_ixt, k_inti, k_intb, k_abs, k_lenl, k_lent, k_max, k_min, k_s0, k_s1, k_s2, k_s3, k_s4, k_s5, k_s6, k_s7, k_t0, k_t1, k_t2, k_t4, k_eqi, k_nei, k_eqs, k_nes, k_itl, k_itt, k_run, k_for0, q_pVc, q_pC, q_blk, nxt, setK, retK, dropK, ifK, ifEK, notK, andK, orK, andVK, orVK, trK, op1K, op2E, op2K, opsK, nmK, exK, evosK, evvK, evrK, wbC, callK, newE, newK, methE, methK, parK, allK, tupK, lstK, sl2K, sl1K, itvK, rngK, itaK, dicK, evkK, rsK, setTK, put1, put2, putD, rdO, rdOs, rdA, finC, retL, r_0e, r_1e, r_1z, r_2e, r_2z, r_3e, r_3z, r_4e, r_4z, r_5e, r_5z, r_6e, r_6z, r_7e, r_7z, r_8e, r_8z, r_9e, r_9z, r_10e, r_10z, r_11e, r_11z, wbS, pmL, pmAt, nmA, L2.atI, L2.ixN, so_eq, h, hm, e7]
  · refine ⟨(((((b + 6700417 * (c + 1)) ^ 3 + 97 * (c + 1)) % 2305843009213693951 + 2971215073 * (c + 1)) ^ 3 % 618970019642690137449562111) / 131072) % m, a, c + 1, ?_, Int.emod_nonneg _ (by omega), Int.emod_lt_of_pos _ hm, ha, by omega, Int.le_refl _⟩
    unfold f_law_take m_law_take
    have e8 : (131072 : Nat).log2 < 9000 := by decide
    simp [q_blkc, q_blk0, q_setc, q_set0, q_retc, q_ret0, q_dropc, q_drop0, q_ifc, q_if0, q_ifec, q_ife0, q_testc, q_test0, q_notc, q_not0, q_andc, q_and0, q_orc, q_or0, q_andvc, q_andv0, q_orvc, q_orv0, q_trc, q_tr0, q_op1c, q_op10, q_op2c, q_op20, q_opsc, q_ops0, q_evnmc, q_evnm0, q_evexc, q_evex0, q_evos0c, q_evos00, q_evoscc, q_evosc0, q_eva0c, q_eva00, q_evavc, q_evav0, q_evarc, q_evar0, q_callc, q_call0, q_newc, q_new0, q_methc, q_meth0, q_parc, q_par0, q_all0c, q_all00, q_allcc, q_allc0, q_tupc, q_tup0, q_lstc, q_lst0, q_sl2c, q_sl20, q_sl1c, q_sl10, q_putc, q_put0, q_fstc, q_fst0, PI.q_forc, q_for0, q_itvc, q_itv0, q_rngc, q_rng0, q_itac, q_ita0, q_lcc, q_lc0, q_dicc, q_dic0, q_evk0c, q_evk00, q_evkcc, q_evkc0, q_rsc, q_rs0, q_yesc, q_yes0, q_chc, q_ch0, q_nxc, q_nx0, q_retnc, q_retn0, q_setTc, q_setT0, k_ro, k_rb, k_rl, k_rt, k_asB, k_add, k_sub, k_mul, k_fdiv, k_mod, k_pow, k_addl, k_bini, k_binl, k_lt, k_le, k_gt, k_ge, k_ixl, k_ixt, k_inti, k_intb, k_abs, k_lenl, k_lent, k_max, k_min, k_s0, k_s1, k_s2, k_s3, k_s4, k_s5, k_s6, k_s7, k_t0, k_t1, k_t2, k_t4, k_eqi, k_nei, k_eqs, k_nes, k_itl, k_itt, k_run, k_for0, q_pVc, q_pC, q_blk, nxt, setK, retK, dropK, ifK, ifEK, notK, andK, orK, andVK, orVK, trK, op1K, op2E, op2K, opsK, nmK, exK, evosK, evvK, evrK, wbC, callK, newE, newK, methE, methK, parK, allK, tupK, lstK, sl2K, sl1K, itvK, rngK, itaK, dicK, evkK, rsK, setTK, put1, put2, putD, rdO, rdOs, rdA, finC, retL, r_0e, r_1e, r_1z, r_2e, r_2z, r_3e, r_3z, r_4e, r_4z, r_5e, r_5z, r_6e, r_6z, r_7e, r_7z, r_8e, r_8z, r_9e, r_9z, r_10e, r_10z, r_11e, r_11z, wbS, pmL, pmAt, nmA, L2.atI, L2.ixN, so_eq, h, hm, e2, e3, e4, e5, e6, e8]
/-- a well that was asked at most n times past its figure -/
def Wl (n : Int) (d : D) : Prop := ∃ a b c, d = .lst true [.int a, .int b, .int c] ∧ 0 ≤ a ∧ 0 ≤ b ∧ b < 2^62 ∧ 0 ≤ c ∧ c ≤ n
theorem take_w {n m : Int} {u : D} (h : Wl n u) (hn : n < 2^20) (hm : 0 < m) (hm2 : m < 2^80) : ∃ t v, f_law_take [u, .int m] = .ok (.int t) [v] ∧ 0 ≤ t ∧ t < m ∧ Wl (n + 1) v := by
  obtain ⟨a, b, c, rfl, h1, h2, h3, h4, h5⟩ := h
  obtain ⟨t, a', c', e, k1, k2, k3, k4, k5⟩ := take_ok a b c m h1 h2 h3 h4 (by omega) hm hm2
  exact ⟨t, _, e, k1, k2, a', b, c', rfl, k3, h2, h3, by omega, by omega⟩
end A02

set_option linter.all false
set_option maxRecDepth 100000
set_option maxHeartbeats 1000000
namespace A02
open PI PySem
def fldW (fl : List (Str × Str)) (f : Str) (d : D) (g : Sg) : Rs D := ro (if (clsD d).any fun c => fl.contains (c, f) then fldD f d else none) g
theorem q_fld {fl : List (Str × Str)} {f : Str} {a : Op} {x : Option D} {g : Sg} : pFld fl f a (x :: g) = (evO a (x :: g)).bind (op1K (fldW fl f) a) := rfl
theorem so_beq {a b : String} : (Str.ofString a == Str.ofString b) = decide (a = b) := by
  by_cases h : a = b
  · subst h; simp
  · rw [decide_eq_false h]
    exact beq_eq_false_iff_ne.mpr fun z => h (so_eq.mp z)
def forN (tg : Tg) (b : PF) (ds : List D) : Fl → Sg → Rs Fl
  | .nx, g => forK tg b ds g
  | .ct, g => forK tg b ds g
  | .bk, g => .ok .nx g
  | .rt d, g => .ok (.rt d) g
theorem q_forc {i : Nat} {b : PF} {d : D} {ds : List D} {x : Option D} {g : Sg} (h : i < (x :: g).length) : forK (.nm i) b (d :: ds) (x :: g) = (b ((x :: g).set i (some d))).bind (forN (.nm i) b ds) := by
  show (match (if i < (x :: g).length then some ((x :: g).set i (some d)) else none) with
    | none => Rs.bad
    | some g1 => (b g1).bind _) = _
  rw [if_pos h]
  dsimp only
  congr 1
  funext fl g2
  cases fl <;> rfl
theorem s_beq {x y : Str} : (x == y) = decide (x = y) := by
  by_cases h : x = y
  · subst h; simp
  · rw [decide_eq_false h]; exact beq_eq_false_iff_ne.mpr h
theorem k_in3 {x a b c : Str} : cmpD .In (.str x) (.tup [.str a, .str b, .str c]) = some (decide (a = x) || (decide (b = x) || decide (c = x))) := by
  simp [cmpD, inD, flatD, eqF, s_beq]
theorem strsD_map : ∀ xs : List Str, strsD (xs.map .str) = some xs
  | [] => rfl
  | x :: xs => by
    show (strsD (xs.map .str)).map (x :: ·) = _
    rw [strsD_map xs] <;> rfl
/-! ### words: slices, chains, texts -/
def slK (a : Op) (hi : Option PX) (x : Option D) (l : Option Int) (g2 : Sg) : Rs D := (evP hi g2).bind fun h g3 => match rdO g3 a x with
  | some d => ro (slD d l h) g3
  | none => .bad
def slK0 (a : Op) (lo hi : Option PX) (x : Option D) (g : Sg) : Rs D := (evP lo g).bind (slK a hi x)
theorem q_slc {a : Op} {lo hi : Option PX} {x : Option D} {g : Sg} : pSl a lo hi (x :: g) = (evO a (x :: g)).bind (slK0 a lo hi) := rfl
def evPK (d : D) (g1 : Sg) : Rs (Option Int) := match d with
  | .int i => .ok (some i) g1
  | _ => .bad
theorem q_evp1 {m : PX} {x : Option D} {g : Sg} : evP (some m) (x :: g) = (m (x :: g)).bind evPK := rfl
theorem q_evp0 {g : Sg} : evP none g = .ok none g := rfl
theorem k_adds {x y : Str} : binD .Add (.str x) (.str y) = if x.length + y.length ≤ lim then some (.str (x ++ y)) else none := rfl
def az (l : List Nat) : Prop := ∀ c ∈ l, 97 ≤ c ∧ c ≤ 122
def NmOk (x : Str) : Prop := ∃ l, x = ss l ∧ 1 ≤ l.length ∧ l.length ≤ 8 ∧ az l
theorem ss_len (l : List Nat) : (ss l).length = l.length := by simp [ss, Str.length]
theorem ss_app (l m : List Nat) : ss l ++ ss m = ss (l ++ m) := by
  show (⟨(ss l).cps ++ (ss m).cps⟩ : Str) = _
  simp [ss]
abbrev LT : Str := "abcdefghijklmnopqrstuvwxyz"
theorem lt_cps : LT = ss ((List.range 26).map (97 + ·)) := by kernel_rfl
theorem k_ixs {l : List Nat} {i : Int} (hl : l.length ≤ 1000) : ixD (.str (ss l)) (.int i) = (L2.atI l i).map fun c => .str (ss [c]) := by
  show (if (ss l).length ≤ lim then (L2.atI (ss l).cps.toList i).map fun c => D.str ⟨#[c]⟩ else none) = _
  rw [ss_len, if_pos (by unfold lim; omega)]
  rfl
theorem letter {i : Int} (h0 : 0 ≤ i) (h1 : i < 26) : ixD (.str LT) (.int i) = some (.str (ss [97 + i.toNat])) := by
  rw [lt_cps, k_ixs (by simp)]
  simp [L2.atI, L2.ixN, h0, h1]
theorem letter_nm {i : Int} (h0 : 0 ≤ i) (h1 : i < 26) : az [97 + i.toNat] := by
  intro c hc
  rw [List.mem_singleton] at hc
  omega
theorem az_app {l m : List Nat} (h1 : az l) (h2 : az m) : az (l ++ m) := fun c hc => by
  rcases List.mem_append.mp hc with h | h
  · exact h1 c h
  · exact h2 c h
/-- a list made of what a range tells, with a state that may change -/
theorem lc_inv {tg : Tg} {e : PX} {vs : List Nat} {R : D → Prop} : ∀ (ds : List D) (I : Nat → Sg → Prop) (acc : List D) (g : Sg),
    (∀ n g d, n < ds.length → I n g → d ∈ ds → ∃ g1 y g2, asg tg d g = some g1 ∧ e g1 = .ok y g2 ∧ R (sealD y) ∧ I (n + 1) (wipeG vs g2)) → I 0 g → acc.length + ds.length ≤ lim →
    ∃ ys g', lcD tg pYes e vs ds acc g = .ok (acc ++ ys) g' ∧ ys.length = ds.length ∧ (∀ y ∈ ys, R y) ∧ I ds.length g'
  | [], I, acc, g, h, h0, hl => ⟨[], g, by rw [List.append_nil]; rfl, rfl, fun y hy => (nomatch hy), h0⟩
  | d :: ds, I, acc, g, h, h0, hl => by
    obtain ⟨g1, y, g2, a1, a2, a3, a4⟩ := h 0 g d (Nat.zero_lt_succ _) h0 (.head _)
    rw [List.length_cons] at hl
    obtain ⟨ys, g', b1, b2, b3, b4⟩ := lc_inv ds (fun n => I (n + 1)) (acc ++ [sealD y]) (wipeG vs g2) (fun n g d hn hI hd => h (n + 1) g d (Nat.succ_lt_succ hn) hI (.tail _ hd)) a4 (by rw [List.length_append]; simp; omega)
    refine ⟨sealD y :: ys, g', ?_, by rw [List.length_cons, b2, List.length_cons], ?_, b4⟩
    · unfold lcD
      rw [a1]
      dsimp only
      show (match e g1 with
        | .ok y g3 => if acc.length < lim then lcD tg pYes e vs ds (acc ++ [sealD y]) (wipeG vs g3) else .bad
        | _ => .bad) = _
      rw [a2]
      dsimp only
      rw [if_pos (by omega), b1, List.append_assoc]
      rfl
    · intro z hz
      rcases List.mem_cons.mp hz with rfl | hz
      · exact a3
      · exact b3 z hz
theorem lc_run {tg : Tg} {e : PX} {vs : List Nat} {R : D → Prop} {ds : List D} (I : Nat → Sg → Prop) {g : Sg} (fr : freeG vs g = true)
    (h : ∀ n g d, n < ds.length → I n g → d ∈ ds → ∃ g1 y g2, asg tg d g = some g1 ∧ e g1 = .ok y g2 ∧ R (sealD y) ∧ I (n + 1) (wipeG vs g2)) (h0 : I 0 g) (hl : ds.length ≤ 1000) :
    ∃ ys g', lcK tg pYes e vs ds g = .ok (.lst true ys) g' ∧ ys.length = ds.length ∧ (∀ y ∈ ys, R y) ∧ I ds.length g' := by
  obtain ⟨ys, g', b1, b2, b3, b4⟩ := lc_inv (tg := tg) (e := e) (vs := vs) (R := R) ds I [] g h h0 (by unfold lim; simp; omega)
  refine ⟨ys, g', ?_, b2, b3, b4⟩
  show (if freeG vs g = true then (lcD tg pYes e vs ds [] g).bind fun acc g2 => Rs.ok (D.lst true acc) g2 else Rs.bad) = _
  rw [if_pos fr, b1]
  rfl
theorem rng_mem {i : Int} (h0 : 0 ≤ i) (h : i ≤ 1000) : ∃ ds, rngA [.int i] = some ds ∧ ds.length = i.toNat ∧ ∀ d ∈ ds, ∃ k : Int, d = .int k ∧ 0 ≤ k ∧ k < i := by
  refine ⟨rngD 0 i, ?_, ?_, ?_⟩
  · show (if -lim ≤ i ∧ i ≤ lim then some (rngD 0 i) else none) = _
    rw [if_pos]
    unfold lim
    omega
  · unfold rngD
    simp
  · intro d hd
    unfold rngD at hd
    rw [List.mem_map] at hd
    obtain ⟨k, hk, rfl⟩ := hd
    rw [List.mem_range] at hk
    exact ⟨_, rfl, by omega, by omega⟩
theorem strs_of : ∀ {ys : List D}, (∀ y ∈ ys, ∃ x, y = .str x ∧ NmOk x) → ∃ xs : List Str, ys = xs.map .str ∧ ∀ x ∈ xs, NmOk x
  | [], _ => ⟨[], rfl, fun _ h => (nomatch h)⟩
  | y :: ys, h => by
    obtain ⟨x, rfl, hx⟩ := h y (.head _)
    obtain ⟨xs, rfl, hxs⟩ := strs_of (ys := ys) fun y hy => h y (.tail _ hy)
    refine ⟨x :: xs, rfl, fun z hz => ?_⟩
    rcases List.mem_cons.mp hz with rfl | hz
    · exact hx
    · exact hxs z hz
theorem strOk_ss {l : List Nat} (h : az l) : PyData.strOk (ss l) = true := by
  unfold PyData.strOk ss
  rw [List.all_toArray, List.all_eq_true]
  intro c hc
  have := h c hc
  exact decide_eq_true (by omega)
theorem strOk_nm {x : Str} (h : NmOk x) : PyData.strOk x = true := by
  obtain ⟨l, rfl, _, _, ha⟩ := h
  exact strOk_ss ha
theorem pyAll_s : ∀ xs : List Str, pyAll (xs.map .str) = some (xs.map .str)
  | [] => rfl
  | x :: xs => by
    show (match pyOf (.str x), pyAll (xs.map .str) with
      | some p, some ps => some (p :: ps)
      | _, _ => none) = _
    rw [pyAll_s xs]
    rfl
theorem lay_s : ∀ {xs : List Str}, (∀ x ∈ xs, PyData.strOk x = true) → PyData.canLayAll0 (xs.map .str) = true
  | [], _ => rfl
  | x :: xs, h => by
    show (PyData.strOk x && PyData.canLayAll0 (xs.map .str)) = true
    rw [h x (.head _), lay_s fun y hy => h y (.tail _ hy)]
    rfl
theorem dep_s : ∀ xs : List Str, PyData.depthAll (xs.map .str) = 0
  | [] => rfl
  | x :: xs => by
    show max (PyData.depth (.str x)) (PyData.depthAll (xs.map .str)) = 0
    rw [dep_s xs]
    rfl
theorem shaped_s {xs : List Str} (h : ∀ x ∈ xs, PyData.strOk x = true) : SeqAt.shaped (.list (xs.map .str)) = true := by
  unfold SeqAt.shaped
  rw [Bool.and_eq_true]
  refine ⟨lay_s h, decide_eq_true ?_⟩
  show PyData.depthAll (xs.map .str) + 1 ≤ 64
  rw [dep_s]
  decide

/-! ### values and steps of this law -/
abbrev NV : List Str := ["sign", "first", "second"]
abbrev NP : List Str := ["sign", "name", "value", "steps", "others"]
abbrev vC (b : Bool) (x : Str) : D := .obj b "Value" NV [.str "cell", .str x, .non]
abbrev vN (b : Bool) (k : Int) : D := .obj b "Value" NV [.str "number", .int k, .non]
abbrev vS (b : Bool) (x : Str) (k : Int) : D := .obj b "Step" NP [.str "put", .str x, vN false k, .tup [], .tup []]
abbrev FS : List (Str × Str) := [("Value", "sign"), ("Step", "sign")]
theorem x_s {b : Bool} {u v w : D} {g : Sg} : fldW FS "sign" (.obj b "Value" NV [u, v, w]) g = .ok u g := by
  simp [fldW, clsD, fldD, NV, List.lookup, so_beq, k_ro]
theorem x_f {b : Bool} {u v w : D} {g : Sg} : fldW [("Value", "first")] "first" (.obj b "Value" NV [u, v, w]) g = .ok v g := by
  simp [fldW, clsD, fldD, NV, List.lookup, so_beq, k_ro]
theorem x_d {b : Bool} {u v w : D} {g : Sg} : fldW [("Value", "second")] "second" (.obj b "Value" NV [u, v, w]) g = .ok w g := by
  simp [fldW, clsD, fldD, NV, List.lookup, so_beq, k_ro]
theorem y_s {b : Bool} {u v w x y : D} {g : Sg} : fldW FS "sign" (.obj b "Step" NP [u, v, w, x, y]) g = .ok u g := by
  simp [fldW, clsD, fldD, NP, List.lookup, so_beq, k_ro]
theorem y_n {b : Bool} {u v w x y : D} {g : Sg} : fldW [("Step", "name")] "name" (.obj b "Step" NP [u, v, w, x, y]) g = .ok v g := by
  simp [fldW, clsD, fldD, NP, List.lookup, so_beq, k_ro]
theorem y_v {b : Bool} {u v w x y : D} {g : Sg} : fldW [("Step", "value")] "value" (.obj b "Step" NP [u, v, w, x, y]) g = .ok w g := by
  simp [fldW, clsD, fldD, NP, List.lookup, so_beq, k_ro]
theorem y_t {b : Bool} {u v w x y : D} {g : Sg} : fldW [("Step", "steps")] "steps" (.obj b "Step" NP [u, v, w, x, y]) g = .ok x g := by
  simp [fldW, clsD, fldD, NP, List.lookup, so_beq, k_ro]
theorem y_o {b : Bool} {u v w x y : D} {g : Sg} : fldW [("Step", "others")] "others" (.obj b "Step" NP [u, v, w, x, y]) g = .ok y g := by
  simp [fldW, clsD, fldD, NP, List.lookup, so_beq, k_ro]
theorem init_v (s f d : D) : f_Value_init [.obj true "Value" [] [], s, f, d] = .ok .non [.obj true "Value" NV [sealD s, sealD f, sealD d]] := by
  unfold f_Value_init m_Value_init
  simp [q_blkc, q_blk0, q_setc, q_set0, q_retc, q_ret0, q_dropc, q_drop0, q_ifc, q_if0, q_ifec, q_ife0, q_testc, q_test0, q_notc, q_not0, q_andc, q_and0, q_orc, q_or0, q_andvc, q_andv0, q_orvc, q_orv0, q_trc, q_tr0, q_op1c, q_op10, q_op2c, q_op20, q_opsc, q_ops0, q_evnmc, q_evnm0, q_evexc, q_evex0, q_evos0c, q_evos00, q_evoscc, q_evosc0, q_eva0c, q_eva00, q_evavc, q_evav0, q_evarc, q_evar0, q_callc, q_call0, q_newc, q_new0, q_methc, q_meth0, q_parc, q_par0, q_all0c, q_all00, q_allcc, q_allc0, q_tupc, q_tup0, q_lstc, q_lst0, q_sl2c, q_sl20, q_sl1c, q_sl10, q_putc, q_put0, q_fstc, q_fst0, PI.q_forc, q_for0, q_itvc, q_itv0, q_rngc, q_rng0, q_itac, q_ita0, q_lcc, q_lc0, q_dicc, q_dic0, q_evk0c, q_evk00, q_evkcc, q_evkc0, q_rsc, q_rs0, q_yesc, q_yes0, q_chc, q_ch0, q_nxc, q_nx0, q_retnc, q_retn0, q_setTc, q_setT0, k_ro, k_rb, k_rl, k_rt, k_asB, k_add, k_sub, k_mul, k_fdiv, k_mod, k_pow, k_addl, k_bini, k_binl, k_lt, k_le, k_gt, k_ge, k_ixl, k_ixt, k_inti, k_intb, k_abs, k_lenl, k_lent, k_max, k_min, k_s0, k_s1, k_s2, k_s3, k_s4, k_s5, k_s6, k_s7, k_t0, k_t1, k_t2, k_t4, k_eqi, k_nei, k_eqs, k_nes, k_itl, k_itt, k_run, k_for0, q_pVc, q_pC, q_blk, nxt, setK, retK, dropK, ifK, ifEK, notK, andK, orK, andVK, orVK, trK, op1K, op2E, op2K, opsK, nmK, exK, evosK, evvK, evrK, wbC, callK, newE, newK, methE, methK, parK, allK, tupK, lstK, sl2K, sl1K, itvK, rngK, itaK, dicK, evkK, rsK, setTK, put1, put2, putD, rdO, rdOs, rdA, finC, retL, r_0e, r_1e, r_1z, r_2e, r_2z, r_3e, r_3z, r_4e, r_4z, r_5e, r_5z, r_6e, r_6z, r_7e, r_7z, r_8e, r_8z, r_9e, r_9z, r_10e, r_10z, r_11e, r_11z, wbS, pmL, pmAt, nmA, L2.atI, L2.ixN, so_eq, fst2, putFD, sealD2]
theorem init_s (s f d x y : D) : f_Step_init [.obj true "Step" [] [], s, f, d, x, y] = .ok .non [.obj true "Step" NP [sealD s, sealD f, sealD d, sealD x, sealD y]] := by
  unfold f_Step_init m_Step_init
  simp [q_blkc, q_blk0, q_setc, q_set0, q_retc, q_ret0, q_dropc, q_drop0, q_ifc, q_if0, q_ifec, q_ife0, q_testc, q_test0, q_notc, q_not0, q_andc, q_and0, q_orc, q_or0, q_andvc, q_andv0, q_orvc, q_orv0, q_trc, q_tr0, q_op1c, q_op10, q_op2c, q_op20, q_opsc, q_ops0, q_evnmc, q_evnm0, q_evexc, q_evex0, q_evos0c, q_evos00, q_evoscc, q_evosc0, q_eva0c, q_eva00, q_evavc, q_evav0, q_evarc, q_evar0, q_callc, q_call0, q_newc, q_new0, q_methc, q_meth0, q_parc, q_par0, q_all0c, q_all00, q_allcc, q_allc0, q_tupc, q_tup0, q_lstc, q_lst0, q_sl2c, q_sl20, q_sl1c, q_sl10, q_putc, q_put0, q_fstc, q_fst0, PI.q_forc, q_for0, q_itvc, q_itv0, q_rngc, q_rng0, q_itac, q_ita0, q_lcc, q_lc0, q_dicc, q_dic0, q_evk0c, q_evk00, q_evkcc, q_evkc0, q_rsc, q_rs0, q_yesc, q_yes0, q_chc, q_ch0, q_nxc, q_nx0, q_retnc, q_retn0, q_setTc, q_setT0, k_ro, k_rb, k_rl, k_rt, k_asB, k_add, k_sub, k_mul, k_fdiv, k_mod, k_pow, k_addl, k_bini, k_binl, k_lt, k_le, k_gt, k_ge, k_ixl, k_ixt, k_inti, k_intb, k_abs, k_lenl, k_lent, k_max, k_min, k_s0, k_s1, k_s2, k_s3, k_s4, k_s5, k_s6, k_s7, k_t0, k_t1, k_t2, k_t4, k_eqi, k_nei, k_eqs, k_nes, k_itl, k_itt, k_run, k_for0, q_pVc, q_pC, q_blk, nxt, setK, retK, dropK, ifK, ifEK, notK, andK, orK, andVK, orVK, trK, op1K, op2E, op2K, opsK, nmK, exK, evosK, evvK, evrK, wbC, callK, newE, newK, methE, methK, parK, allK, tupK, lstK, sl2K, sl1K, itvK, rngK, itaK, dicK, evkK, rsK, setTK, put1, put2, putD, rdO, rdOs, rdA, finC, retL, r_0e, r_1e, r_1z, r_2e, r_2z, r_3e, r_3z, r_4e, r_4z, r_5e, r_5z, r_6e, r_6z, r_7e, r_7z, r_8e, r_8z, r_9e, r_9z, r_10e, r_10z, r_11e, r_11z, wbS, pmL, pmAt, nmA, L2.atI, L2.ixN, so_eq, fst2, putFD, sealD2]
theorem number_v (k : Int) : f_number [.int k] = .ok (vN true k) [] := by
  unfold f_number m_number
  simp [q_blkc, q_blk0, q_setc, q_set0, q_retc, q_ret0, q_dropc, q_drop0, q_ifc, q_if0, q_ifec, q_ife0, q_testc, q_test0, q_notc, q_not0, q_andc, q_and0, q_orc, q_or0, q_andvc, q_andv0, q_orvc, q_orv0, q_trc, q_tr0, q_op1c, q_op10, q_op2c, q_op20, q_opsc, q_ops0, q_evnmc, q_evnm0, q_evexc, q_evex0, q_evos0c, q_evos00, q_evoscc, q_evosc0, q_eva0c, q_eva00, q_evavc, q_evav0, q_evarc, q_evar0, q_callc, q_call0, q_newc, q_new0, q_methc, q_meth0, q_parc, q_par0, q_all0c, q_all00, q_allcc, q_allc0, q_tupc, q_tup0, q_lstc, q_lst0, q_sl2c, q_sl20, q_sl1c, q_sl10, q_putc, q_put0, q_fstc, q_fst0, PI.q_forc, q_for0, q_itvc, q_itv0, q_rngc, q_rng0, q_itac, q_ita0, q_lcc, q_lc0, q_dicc, q_dic0, q_evk0c, q_evk00, q_evkcc, q_evkc0, q_rsc, q_rs0, q_yesc, q_yes0, q_chc, q_ch0, q_nxc, q_nx0, q_retnc, q_retn0, q_setTc, q_setT0, k_ro, k_rb, k_rl, k_rt, k_asB, k_add, k_sub, k_mul, k_fdiv, k_mod, k_pow, k_addl, k_bini, k_binl, k_lt, k_le, k_gt, k_ge, k_ixl, k_ixt, k_inti, k_intb, k_abs, k_lenl, k_lent, k_max, k_min, k_s0, k_s1, k_s2, k_s3, k_s4, k_s5, k_s6, k_s7, k_t0, k_t1, k_t2, k_t4, k_eqi, k_nei, k_eqs, k_nes, k_itl, k_itt, k_run, k_for0, q_pVc, q_pC, q_blk, nxt, setK, retK, dropK, ifK, ifEK, notK, andK, orK, andVK, orVK, trK, op1K, op2E, op2K, opsK, nmK, exK, evosK, evvK, evrK, wbC, callK, newE, newK, methE, methK, parK, allK, tupK, lstK, sl2K, sl1K, itvK, rngK, itaK, dicK, evkK, rsK, setTK, put1, put2, putD, rdO, rdOs, rdA, finC, retL, r_0e, r_1e, r_1z, r_2e, r_2z, r_3e, r_3z, r_4e, r_4z, r_5e, r_5z, r_6e, r_6z, r_7e, r_7z, r_8e, r_8z, r_9e, r_9z, r_10e, r_10z, r_11e, r_11z, wbS, pmL, pmAt, nmA, L2.atI, L2.ixN, so_eq, init_v]
theorem value_i (k : Int) : f_value_of [.int k] = .ok (vN true k) [] := by
  unfold f_value_of m_value_of
  simp [q_blkc, q_blk0, q_setc, q_set0, q_retc, q_ret0, q_dropc, q_drop0, q_ifc, q_if0, q_ifec, q_ife0, q_testc, q_test0, q_notc, q_not0, q_andc, q_and0, q_orc, q_or0, q_andvc, q_andv0, q_orvc, q_orv0, q_trc, q_tr0, q_op1c, q_op10, q_op2c, q_op20, q_opsc, q_ops0, q_evnmc, q_evnm0, q_evexc, q_evex0, q_evos0c, q_evos00, q_evoscc, q_evosc0, q_eva0c, q_eva00, q_evavc, q_evav0, q_evarc, q_evar0, q_callc, q_call0, q_newc, q_new0, q_methc, q_meth0, q_parc, q_par0, q_all0c, q_all00, q_allcc, q_allc0, q_tupc, q_tup0, q_lstc, q_lst0, q_sl2c, q_sl20, q_sl1c, q_sl10, q_putc, q_put0, q_fstc, q_fst0, PI.q_forc, q_for0, q_itvc, q_itv0, q_rngc, q_rng0, q_itac, q_ita0, q_lcc, q_lc0, q_dicc, q_dic0, q_evk0c, q_evk00, q_evkcc, q_evkc0, q_rsc, q_rs0, q_yesc, q_yes0, q_chc, q_ch0, q_nxc, q_nx0, q_retnc, q_retn0, q_setTc, q_setT0, k_ro, k_rb, k_rl, k_rt, k_asB, k_add, k_sub, k_mul, k_fdiv, k_mod, k_pow, k_addl, k_bini, k_binl, k_lt, k_le, k_gt, k_ge, k_ixl, k_ixt, k_inti, k_intb, k_abs, k_lenl, k_lent, k_max, k_min, k_s0, k_s1, k_s2, k_s3, k_s4, k_s5, k_s6, k_s7, k_t0, k_t1, k_t2, k_t4, k_eqi, k_nei, k_eqs, k_nes, k_itl, k_itt, k_run, k_for0, q_pVc, q_pC, q_blk, nxt, setK, retK, dropK, ifK, ifEK, notK, andK, orK, andVK, orVK, trK, op1K, op2E, op2K, opsK, nmK, exK, evosK, evvK, evrK, wbC, callK, newE, newK, methE, methK, parK, allK, tupK, lstK, sl2K, sl1K, itvK, rngK, itaK, dicK, evkK, rsK, setTK, put1, put2, putD, rdO, rdOs, rdA, finC, retL, r_0e, r_1e, r_1z, r_2e, r_2z, r_3e, r_3z, r_4e, r_4z, r_5e, r_5z, r_6e, r_6z, r_7e, r_7z, r_8e, r_8z, r_9e, r_9z, r_10e, r_10z, r_11e, r_11z, wbS, pmL, pmAt, nmA, L2.atI, L2.ixN, so_eq, isS, number_v]
theorem value_v (k : Int) : f_value_of [vN false k] = .ok (vN false k) [] := by
  unfold f_value_of m_value_of
  simp [q_blkc, q_blk0, q_setc, q_set0, q_retc, q_ret0, q_dropc, q_drop0, q_ifc, q_if0, q_ifec, q_ife0, q_testc, q_test0, q_notc, q_not0, q_andc, q_and0, q_orc, q_or0, q_andvc, q_andv0, q_orvc, q_orv0, q_trc, q_tr0, q_op1c, q_op10, q_op2c, q_op20, q_opsc, q_ops0, q_evnmc, q_evnm0, q_evexc, q_evex0, q_evos0c, q_evos00, q_evoscc, q_evosc0, q_eva0c, q_eva00, q_evavc, q_evav0, q_evarc, q_evar0, q_callc, q_call0, q_newc, q_new0, q_methc, q_meth0, q_parc, q_par0, q_all0c, q_all00, q_allcc, q_allc0, q_tupc, q_tup0, q_lstc, q_lst0, q_sl2c, q_sl20, q_sl1c, q_sl10, q_putc, q_put0, q_fstc, q_fst0, PI.q_forc, q_for0, q_itvc, q_itv0, q_rngc, q_rng0, q_itac, q_ita0, q_lcc, q_lc0, q_dicc, q_dic0, q_evk0c, q_evk00, q_evkcc, q_evkc0, q_rsc, q_rs0, q_yesc, q_yes0, q_chc, q_ch0, q_nxc, q_nx0, q_retnc, q_retn0, q_setTc, q_setT0, k_ro, k_rb, k_rl, k_rt, k_asB, k_add, k_sub, k_mul, k_fdiv, k_mod, k_pow, k_addl, k_bini, k_binl, k_lt, k_le, k_gt, k_ge, k_ixl, k_ixt, k_inti, k_intb, k_abs, k_lenl, k_lent, k_max, k_min, k_s0, k_s1, k_s2, k_s3, k_s4, k_s5, k_s6, k_s7, k_t0, k_t1, k_t2, k_t4, k_eqi, k_nei, k_eqs, k_nes, k_itl, k_itt, k_run, k_for0, q_pVc, q_pC, q_blk, nxt, setK, retK, dropK, ifK, ifEK, notK, andK, orK, andVK, orVK, trK, op1K, op2E, op2K, opsK, nmK, exK, evosK, evvK, evrK, wbC, callK, newE, newK, methE, methK, parK, allK, tupK, lstK, sl2K, sl1K, itvK, rngK, itaK, dicK, evkK, rsK, setTK, put1, put2, putD, rdO, rdOs, rdA, finC, retL, r_0e, r_1e, r_1z, r_2e, r_2z, r_3e, r_3z, r_4e, r_4z, r_5e, r_5z, r_6e, r_6z, r_7e, r_7z, r_8e, r_8z, r_9e, r_9z, r_10e, r_10z, r_11e, r_11z, wbS, pmL, pmAt, nmA, L2.atI, L2.ixN, so_eq, isS]
/-! ### lists made of what a list tells, some left out -/
theorem lc_fm {tg : Tg} {c : PT'} {e : PX} {vs : List Nat} {G : Sg} (b : D → Bool) (F : D → D) : ∀ (ds acc : List D),
    (∀ d ∈ ds, ∃ g1 g2 g3, asg tg d G = some g1 ∧ c g1 = .ok (b d) g2 ∧ (b d = true → e g2 = .ok (F d) g3 ∧ wipeG vs g3 = G) ∧ (b d = false → wipeG vs g2 = G)) → acc.length + ds.length ≤ lim →
    lcD tg c e vs ds acc G = .ok (acc ++ (ds.filter b).map fun d => sealD (F d)) G
  | [], acc, _, _ => by simp [lcD]
  | d :: ds, acc, h, hl => by
    obtain ⟨g1, g2, g3, a1, a2, a3, a4⟩ := h d (.head _)
    rw [List.length_cons] at hl
    unfold lcD
    rw [a1]
    dsimp only
    rw [a2]
    cases hb : b d with
    | true =>
      obtain ⟨b1, b2⟩ := a3 hb
      dsimp only
      rw [b1]
      dsimp only
      rw [if_pos (by omega), b2, lc_fm b F ds _ (fun d hd => h d (.tail _ hd)) (by rw [List.length_append]; simp; omega)]
      rw [List.filter_cons_of_pos hb, List.map_cons, List.append_assoc]
      rfl
    | false =>
      dsimp only
      rw [a4 hb, lc_fm b F ds _ (fun d hd => h d (.tail _ hd)) (by omega), List.filter_cons_of_neg (by rw [hb]; simp)]
theorem lcK_fm {tg : Tg} {c : PT'} {e : PX} {vs : List Nat} {G : Sg} (b : D → Bool) (F : D → D) {ds : List D} (fr : freeG vs G = true)
    (h : ∀ d ∈ ds, ∃ g1 g2 g3, asg tg d G = some g1 ∧ c g1 = .ok (b d) g2 ∧ (b d = true → e g2 = .ok (F d) g3 ∧ wipeG vs g3 = G) ∧ (b d = false → wipeG vs g2 = G)) (hl : ds.length ≤ 1000) :
    lcK tg c e vs ds G = .ok (.lst true ((ds.filter b).map fun d => sealD (F d))) G := by
  show (if freeG vs G = true then (lcD tg c e vs ds [] G).bind fun acc g2 => Rs.ok (D.lst true acc) g2 else Rs.bad) = _
  rw [if_pos fr, lc_fm b F ds [] h (by unfold lim; simp; omega)]
  rfl
def ok1 (c : Nat) : Bool := decide (97 ≤ c ∧ c ≤ 122)
def gd (l : List Nat) : Bool := decide (1 ≤ l.length ∧ l.length ≤ 8) && l.all ok1
def chk : D → Bool
  | .str s => (match s.cps.toList with
    | [c] => ok1 c
    | _ => false)
  | _ => false
theorem chk_c (c : Nat) : chk (.str (ss [c])) = ok1 c := rfl
theorem in_lt (c : Nat) : cmpD .In (.str (ss [c])) (.str LT) = some (ok1 c) := by
  show some (decide (c ∈ LT.cps.toList)) = _
  rw [lt_cps]
  show some (decide (c ∈ (List.range 26).map (97 + ·))) = some (decide (97 ≤ c ∧ c ≤ 122))
  congr 1
  refine decide_eq_decide.mpr ⟨fun h => ?_, fun h => List.mem_map.mpr ⟨c - 97, List.mem_range.mpr (by omega), by omega⟩⟩
  obtain ⟨k, hk, rfl⟩ := List.mem_map.mp h
  have := List.mem_range.mp hk
  omega
theorem len_s {l : List Nat} (h : l.length ≤ 1000) : lenD [.str (ss l)] = some (.int l.length) := by
  show (if (ss l).length ≤ lim then _ else _) = _
  rw [ss_len, if_pos (by unfold lim; omega)]
theorem bls_map : ∀ bs : List Bool, blsD (bs.map .bl) = some bs
  | [] => rfl
  | b :: bs => by
    show (blsD (bs.map .bl)).map _ = _
    rw [bls_map bs]
    rfl
theorem chain {l : List Nat} (hl : l.length ≤ 1000) (x : Option D) (g : Sg) (i : Nat) (h : (x :: g)[i]? = some (some (.str (ss l)))) : pCh .LtE .LtE (.ex (pC (.int 1))) (.ex (pOps (fun ds g => ro (lenD ds) g) [(.nm i)])) (.ex (pC (.int 8))) (x :: g) = .ok (.bl (decide (1 ≤ l.length ∧ l.length ≤ 8))) (x :: g) := by
  have len := len_s hl
  by_cases b1 : (1 : Int) ≤ l.length
  · by_cases b2 : (l.length : Int) ≤ 8
    · have e : decide (1 ≤ l.length ∧ l.length ≤ 8) = true := decide_eq_true (by omega)
      rw [e]
      simp [q_blkc, q_blk0, q_setc, q_set0, q_retc, q_ret0, q_dropc, q_drop0, q_ifc, q_if0, q_ifec, q_ife0, q_testc, q_test0, q_notc, q_not0, q_andc, q_and0, q_orc, q_or0, q_andvc, q_andv0, q_orvc, q_orv0, q_trc, q_tr0, q_op1c, q_op10, q_op2c, q_op20, q_opsc, q_ops0, q_evnmc, q_evnm0, q_evexc, q_evex0, q_evos0c, q_evos00, q_evoscc, q_evosc0, q_eva0c, q_eva00, q_evavc, q_evav0, q_evarc, q_evar0, q_callc, q_call0, q_newc, q_new0, q_methc, q_meth0, q_parc, q_par0, q_all0c, q_all00, q_allcc, q_allc0, q_tupc, q_tup0, q_lstc, q_lst0, q_sl2c, q_sl20, q_sl1c, q_sl10, q_putc, q_put0, q_fstc, q_fst0, PI.q_forc, q_for0, q_itvc, q_itv0, q_rngc, q_rng0, q_itac, q_ita0, q_lcc, q_lc0, q_dicc, q_dic0, q_evk0c, q_evk00, q_evkcc, q_evkc0, q_rsc, q_rs0, q_yesc, q_yes0, q_chc, q_ch0, q_nxc, q_nx0, q_retnc, q_retn0, q_setTc, q_setT0, k_ro, k_rb, k_rl, k_rt, k_asB, k_add, k_sub, k_mul, k_fdiv, k_mod, k_pow, k_addl, k_bini, k_binl, k_lt, k_le, k_gt, k_ge, k_ixl, k_ixt, k_inti, k_intb, k_abs, k_lenl, k_lent, k_max, k_min, k_s0, k_s1, k_s2, k_s3, k_s4, k_s5, k_s6, k_s7, k_t0, k_t1, k_t2, k_t4, k_eqi, k_nei, k_eqs, k_nes, k_itl, k_itt, k_run, k_for0, q_pVc, q_pC, q_blk, nxt, setK, retK, dropK, ifK, ifEK, notK, andK, orK, andVK, orVK, trK, op1K, op2E, op2K, opsK, nmK, exK, evosK, evvK, evrK, wbC, callK, newE, newK, methE, methK, parK, allK, tupK, lstK, sl2K, sl1K, itvK, rngK, itaK, dicK, evkK, rsK, setTK, put1, put2, putD, rdO, rdOs, rdA, finC, retL, r_0e, r_1e, r_1z, r_2e, r_2z, r_3e, r_3z, r_4e, r_4z, r_5e, r_5z, r_6e, r_6z, r_7e, r_7z, r_8e, r_8z, r_9e, r_9z, r_10e, r_10z, r_11e, r_11z, wbS, pmL, pmAt, nmA, L2.atI, L2.ixN, so_eq, pCh2, pCh3, h, len, b1, b2]
    · have e : decide (1 ≤ l.length ∧ l.length ≤ 8) = false := decide_eq_false (by omega)
      rw [e]
      simp [q_blkc, q_blk0, q_setc, q_set0, q_retc, q_ret0, q_dropc, q_drop0, q_ifc, q_if0, q_ifec, q_ife0, q_testc, q_test0, q_notc, q_not0, q_andc, q_and0, q_orc, q_or0, q_andvc, q_andv0, q_orvc, q_orv0, q_trc, q_tr0, q_op1c, q_op10, q_op2c, q_op20, q_opsc, q_ops0, q_evnmc, q_evnm0, q_evexc, q_evex0, q_evos0c, q_evos00, q_evoscc, q_evosc0, q_eva0c, q_eva00, q_evavc, q_evav0, q_evarc, q_evar0, q_callc, q_call0, q_newc, q_new0, q_methc, q_meth0, q_parc, q_par0, q_all0c, q_all00, q_allcc, q_allc0, q_tupc, q_tup0, q_lstc, q_lst0, q_sl2c, q_sl20, q_sl1c, q_sl10, q_putc, q_put0, q_fstc, q_fst0, PI.q_forc, q_for0, q_itvc, q_itv0, q_rngc, q_rng0, q_itac, q_ita0, q_lcc, q_lc0, q_dicc, q_dic0, q_evk0c, q_evk00, q_evkcc, q_evkc0, q_rsc, q_rs0, q_yesc, q_yes0, q_chc, q_ch0, q_nxc, q_nx0, q_retnc, q_retn0, q_setTc, q_setT0, k_ro, k_rb, k_rl, k_rt, k_asB, k_add, k_sub, k_mul, k_fdiv, k_mod, k_pow, k_addl, k_bini, k_binl, k_lt, k_le, k_gt, k_ge, k_ixl, k_ixt, k_inti, k_intb, k_abs, k_lenl, k_lent, k_max, k_min, k_s0, k_s1, k_s2, k_s3, k_s4, k_s5, k_s6, k_s7, k_t0, k_t1, k_t2, k_t4, k_eqi, k_nei, k_eqs, k_nes, k_itl, k_itt, k_run, k_for0, q_pVc, q_pC, q_blk, nxt, setK, retK, dropK, ifK, ifEK, notK, andK, orK, andVK, orVK, trK, op1K, op2E, op2K, opsK, nmK, exK, evosK, evvK, evrK, wbC, callK, newE, newK, methE, methK, parK, allK, tupK, lstK, sl2K, sl1K, itvK, rngK, itaK, dicK, evkK, rsK, setTK, put1, put2, putD, rdO, rdOs, rdA, finC, retL, r_0e, r_1e, r_1z, r_2e, r_2z, r_3e, r_3z, r_4e, r_4z, r_5e, r_5z, r_6e, r_6z, r_7e, r_7z, r_8e, r_8z, r_9e, r_9z, r_10e, r_10z, r_11e, r_11z, wbS, pmL, pmAt, nmA, L2.atI, L2.ixN, so_eq, pCh2, pCh3, h, len, b1, b2]
  · have e : decide (1 ≤ l.length ∧ l.length ≤ 8) = false := decide_eq_false (by omega)
    rw [e]
    simp [q_blkc, q_blk0, q_setc, q_set0, q_retc, q_ret0, q_dropc, q_drop0, q_ifc, q_if0, q_ifec, q_ife0, q_testc, q_test0, q_notc, q_not0, q_andc, q_and0, q_orc, q_or0, q_andvc, q_andv0, q_orvc, q_orv0, q_trc, q_tr0, q_op1c, q_op10, q_op2c, q_op20, q_opsc, q_ops0, q_evnmc, q_evnm0, q_evexc, q_evex0, q_evos0c, q_evos00, q_evoscc, q_evosc0, q_eva0c, q_eva00, q_evavc, q_evav0, q_evarc, q_evar0, q_callc, q_call0, q_newc, q_new0, q_methc, q_meth0, q_parc, q_par0, q_all0c, q_all00, q_allcc, q_allc0, q_tupc, q_tup0, q_lstc, q_lst0, q_sl2c, q_sl20, q_sl1c, q_sl10, q_putc, q_put0, q_fstc, q_fst0, PI.q_forc, q_for0, q_itvc, q_itv0, q_rngc, q_rng0, q_itac, q_ita0, q_lcc, q_lc0, q_dicc, q_dic0, q_evk0c, q_evk00, q_evkcc, q_evkc0, q_rsc, q_rs0, q_yesc, q_yes0, q_chc, q_ch0, q_nxc, q_nx0, q_retnc, q_retn0, q_setTc, q_setT0, k_ro, k_rb, k_rl, k_rt, k_asB, k_add, k_sub, k_mul, k_fdiv, k_mod, k_pow, k_addl, k_bini, k_binl, k_lt, k_le, k_gt, k_ge, k_ixl, k_ixt, k_inti, k_intb, k_abs, k_lenl, k_lent, k_max, k_min, k_s0, k_s1, k_s2, k_s3, k_s4, k_s5, k_s6, k_s7, k_t0, k_t1, k_t2, k_t4, k_eqi, k_nei, k_eqs, k_nes, k_itl, k_itt, k_run, k_for0, q_pVc, q_pC, q_blk, nxt, setK, retK, dropK, ifK, ifEK, notK, andK, orK, andVK, orVK, trK, op1K, op2E, op2K, opsK, nmK, exK, evosK, evvK, evrK, wbC, callK, newE, newK, methE, methK, parK, allK, tupK, lstK, sl2K, sl1K, itvK, rngK, itaK, dicK, evkK, rsK, setTK, put1, put2, putD, rdO, rdOs, rdA, finC, retL, r_0e, r_1e, r_1z, r_2e, r_2z, r_3e, r_3z, r_4e, r_4z, r_5e, r_5z, r_6e, r_6z, r_7e, r_7z, r_8e, r_8z, r_9e, r_9z, r_10e, r_10z, r_11e, r_11z, wbS, pmL, pmAt, nmA, L2.atI, L2.ixN, so_eq, pCh2, pCh3, h, len, b1]
theorem isname {l : List Nat} (hl : l.length ≤ 100) : f_is_name [.str (ss l)] = .ok (.bl (gd l)) [] := by
  have it : itmD (.str (ss l)) = some (l.map fun c => .str (ss [c])) := rfl
  have e1 := lcK_fm (tg := .nm 1) (c := pYes) (e := (pOp2 (fun d e g => rb (cmpD .In d e) g) (.nm 1) (.ex (pC (.str LT))))) (vs := [1]) (G := [some (.str (ss l)), none]) (fun _ => true) (fun d => .bl (chk d)) (ds := l.map fun c => .str (ss [c])) rfl (fun d hd => by
    obtain ⟨c, hc, rfl⟩ := List.mem_map.mp hd
    have hb := in_lt c
    refine ⟨[some (.str (ss l)), some (.str (ss [c]))], [some (.str (ss l)), some (.str (ss [c]))], [some (.str (ss l)), some (.str (ss [c]))], rfl, rfl, fun _ => ⟨?_, rfl⟩, fun z => by cases z⟩
    rw [chk_c]
    simp [q_blkc, q_blk0, q_setc, q_set0, q_retc, q_ret0, q_dropc, q_drop0, q_ifc, q_if0, q_ifec, q_ife0, q_testc, q_test0, q_notc, q_not0, q_andc, q_and0, q_orc, q_or0, q_andvc, q_andv0, q_orvc, q_orv0, q_trc, q_tr0, q_op1c, q_op10, q_op2c, q_op20, q_opsc, q_ops0, q_evnmc, q_evnm0, q_evexc, q_evex0, q_evos0c, q_evos00, q_evoscc, q_evosc0, q_eva0c, q_eva00, q_evavc, q_evav0, q_evarc, q_evar0, q_callc, q_call0, q_newc, q_new0, q_methc, q_meth0, q_parc, q_par0, q_all0c, q_all00, q_allcc, q_allc0, q_tupc, q_tup0, q_lstc, q_lst0, q_sl2c, q_sl20, q_sl1c, q_sl10, q_putc, q_put0, q_fstc, q_fst0, PI.q_forc, q_for0, q_itvc, q_itv0, q_rngc, q_rng0, q_itac, q_ita0, q_lcc, q_lc0, q_dicc, q_dic0, q_evk0c, q_evk00, q_evkcc, q_evkc0, q_rsc, q_rs0, q_yesc, q_yes0, q_chc, q_ch0, q_nxc, q_nx0, q_retnc, q_retn0, q_setTc, q_setT0, k_ro, k_rb, k_rl, k_rt, k_asB, k_add, k_sub, k_mul, k_fdiv, k_mod, k_pow, k_addl, k_bini, k_binl, k_lt, k_le, k_gt, k_ge, k_ixl, k_ixt, k_inti, k_intb, k_abs, k_lenl, k_lent, k_max, k_min, k_s0, k_s1, k_s2, k_s3, k_s4, k_s5, k_s6, k_s7, k_t0, k_t1, k_t2, k_t4, k_eqi, k_nei, k_eqs, k_nes, k_itl, k_itt, k_run, k_for0, q_pVc, q_pC, q_blk, nxt, setK, retK, dropK, ifK, ifEK, notK, andK, orK, andVK, orVK, trK, op1K, op2E, op2K, opsK, nmK, exK, evosK, evvK, evrK, wbC, callK, newE, newK, methE, methK, parK, allK, tupK, lstK, sl2K, sl1K, itvK, rngK, itaK, dicK, evkK, rsK, setTK, put1, put2, putD, rdO, rdOs, rdA, finC, retL, r_0e, r_1e, r_1z, r_2e, r_2z, r_3e, r_3z, r_4e, r_4z, r_5e, r_5z, r_6e, r_6z, r_7e, r_7z, r_8e, r_8z, r_9e, r_9z, r_10e, r_10z, r_11e, r_11z, wbS, pmL, pmAt, nmA, L2.atI, L2.ixN, so_eq, hb]) (by simp; omega)
  have e2 : (List.filter (fun _ => true) (l.map fun c => D.str (ss [c]))).map (fun d => sealD (.bl (chk d))) = (l.map ok1).map .bl := by
    rw [List.filter_eq_self.mpr fun _ _ => rfl, List.map_map, List.map_map]
    rfl
  rw [e2] at e1
  have ha : allD [.lst true ((l.map ok1).map .bl)] = some (.bl (l.all ok1)) := by
    show (blsD ((l.map ok1).map .bl)).map _ = _
    rw [bls_map]
    simp [List.all_map]
  have ch := chain (l := l) (by omega) (some (.str (ss l))) [none] 0 rfl
  unfold f_is_name m_is_name
  rw [k_run]
  show finC [] (pBlk _ [some (.str (ss l)), none]) = _
  rw [q_blkc, q_retc, q_andvc, ch]
  unfold gd
  by_cases hb : 1 ≤ l.length ∧ l.length ≤ 8
  · rw [decide_eq_true hb]
    generalize D.lst true ((l.map ok1).map .bl) = q at e1 ha
    simp [q_blkc, q_blk0, q_setc, q_set0, q_retc, q_ret0, q_dropc, q_drop0, q_ifc, q_if0, q_ifec, q_ife0, q_testc, q_test0, q_notc, q_not0, q_andc, q_and0, q_orc, q_or0, q_andvc, q_andv0, q_orvc, q_orv0, q_trc, q_tr0, q_op1c, q_op10, q_op2c, q_op20, q_opsc, q_ops0, q_evnmc, q_evnm0, q_evexc, q_evex0, q_evos0c, q_evos00, q_evoscc, q_evosc0, q_eva0c, q_eva00, q_evavc, q_evav0, q_evarc, q_evar0, q_callc, q_call0, q_newc, q_new0, q_methc, q_meth0, q_parc, q_par0, q_all0c, q_all00, q_allcc, q_allc0, q_tupc, q_tup0, q_lstc, q_lst0, q_sl2c, q_sl20, q_sl1c, q_sl10, q_putc, q_put0, q_fstc, q_fst0, PI.q_forc, q_for0, q_itvc, q_itv0, q_rngc, q_rng0, q_itac, q_ita0, q_lcc, q_lc0, q_dicc, q_dic0, q_evk0c, q_evk00, q_evkcc, q_evkc0, q_rsc, q_rs0, q_yesc, q_yes0, q_chc, q_ch0, q_nxc, q_nx0, q_retnc, q_retn0, q_setTc, q_setT0, k_ro, k_rb, k_rl, k_rt, k_asB, k_add, k_sub, k_mul, k_fdiv, k_mod, k_pow, k_addl, k_bini, k_binl, k_lt, k_le, k_gt, k_ge, k_ixl, k_ixt, k_inti, k_intb, k_abs, k_lenl, k_lent, k_max, k_min, k_s0, k_s1, k_s2, k_s3, k_s4, k_s5, k_s6, k_s7, k_t0, k_t1, k_t2, k_t4, k_eqi, k_nei, k_eqs, k_nes, k_itl, k_itt, k_run, k_for0, q_pVc, q_pC, q_blk, nxt, setK, retK, dropK, ifK, ifEK, notK, andK, orK, andVK, orVK, trK, op1K, op2E, op2K, opsK, nmK, exK, evosK, evvK, evrK, wbC, callK, newE, newK, methE, methK, parK, allK, tupK, lstK, sl2K, sl1K, itvK, rngK, itaK, dicK, evkK, rsK, setTK, put1, put2, putD, rdO, rdOs, rdA, finC, retL, r_0e, r_1e, r_1z, r_2e, r_2z, r_3e, r_3z, r_4e, r_4z, r_5e, r_5z, r_6e, r_6z, r_7e, r_7z, r_8e, r_8z, r_9e, r_9z, r_10e, r_10z, r_11e, r_11z, wbS, pmL, pmAt, nmA, L2.atI, L2.ixN, so_eq, it, e1, ha]
  · rw [decide_eq_false hb]
    simp [q_blkc, q_blk0, q_setc, q_set0, q_retc, q_ret0, q_dropc, q_drop0, q_ifc, q_if0, q_ifec, q_ife0, q_testc, q_test0, q_notc, q_not0, q_andc, q_and0, q_orc, q_or0, q_andvc, q_andv0, q_orvc, q_orv0, q_trc, q_tr0, q_op1c, q_op10, q_op2c, q_op20, q_opsc, q_ops0, q_evnmc, q_evnm0, q_evexc, q_evex0, q_evos0c, q_evos00, q_evoscc, q_evosc0, q_eva0c, q_eva00, q_evavc, q_evav0, q_evarc, q_evar0, q_callc, q_call0, q_newc, q_new0, q_methc, q_meth0, q_parc, q_par0, q_all0c, q_all00, q_allcc, q_allc0, q_tupc, q_tup0, q_lstc, q_lst0, q_sl2c, q_sl20, q_sl1c, q_sl10, q_putc, q_put0, q_fstc, q_fst0, PI.q_forc, q_for0, q_itvc, q_itv0, q_rngc, q_rng0, q_itac, q_ita0, q_lcc, q_lc0, q_dicc, q_dic0, q_evk0c, q_evk00, q_evkcc, q_evkc0, q_rsc, q_rs0, q_yesc, q_yes0, q_chc, q_ch0, q_nxc, q_nx0, q_retnc, q_retn0, q_setTc, q_setT0, k_ro, k_rb, k_rl, k_rt, k_asB, k_add, k_sub, k_mul, k_fdiv, k_mod, k_pow, k_addl, k_bini, k_binl, k_lt, k_le, k_gt, k_ge, k_ixl, k_ixt, k_inti, k_intb, k_abs, k_lenl, k_lent, k_max, k_min, k_s0, k_s1, k_s2, k_s3, k_s4, k_s5, k_s6, k_s7, k_t0, k_t1, k_t2, k_t4, k_eqi, k_nei, k_eqs, k_nes, k_itl, k_itt, k_run, k_for0, q_pVc, q_pC, q_blk, nxt, setK, retK, dropK, ifK, ifEK, notK, andK, orK, andVK, orVK, trK, op1K, op2E, op2K, opsK, nmK, exK, evosK, evvK, evrK, wbC, callK, newE, newK, methE, methK, parK, allK, tupK, lstK, sl2K, sl1K, itvK, rngK, itaK, dicK, evkK, rsK, setTK, put1, put2, putD, rdO, rdOs, rdA, finC, retL, r_0e, r_1e, r_1z, r_2e, r_2z, r_3e, r_3z, r_4e, r_4z, r_5e, r_5z, r_6e, r_6z, r_7e, r_7z, r_8e, r_8z, r_9e, r_9z, r_10e, r_10z, r_11e, r_11z, wbS, pmL, pmAt, nmA, L2.atI, L2.ixN, so_eq]
theorem chk_g {l : List Nat} (hl : l.length ≤ 100) (h : gd l = true) : f_check_name [.str (ss l)] = .ok .non [] := by
  have := isname hl
  rw [h] at this
  unfold f_check_name m_check_name
  simp [q_blkc, q_blk0, q_setc, q_set0, q_retc, q_ret0, q_dropc, q_drop0, q_ifc, q_if0, q_ifec, q_ife0, q_testc, q_test0, q_notc, q_not0, q_andc, q_and0, q_orc, q_or0, q_andvc, q_andv0, q_orvc, q_orv0, q_trc, q_tr0, q_op1c, q_op10, q_op2c, q_op20, q_opsc, q_ops0, q_evnmc, q_evnm0, q_evexc, q_evex0, q_evos0c, q_evos00, q_evoscc, q_evosc0, q_eva0c, q_eva00, q_evavc, q_evav0, q_evarc, q_evar0, q_callc, q_call0, q_newc, q_new0, q_methc, q_meth0, q_parc, q_par0, q_all0c, q_all00, q_allcc, q_allc0, q_tupc, q_tup0, q_lstc, q_lst0, q_sl2c, q_sl20, q_sl1c, q_sl10, q_putc, q_put0, q_fstc, q_fst0, PI.q_forc, q_for0, q_itvc, q_itv0, q_rngc, q_rng0, q_itac, q_ita0, q_lcc, q_lc0, q_dicc, q_dic0, q_evk0c, q_evk00, q_evkcc, q_evkc0, q_rsc, q_rs0, q_yesc, q_yes0, q_chc, q_ch0, q_nxc, q_nx0, q_retnc, q_retn0, q_setTc, q_setT0, k_ro, k_rb, k_rl, k_rt, k_asB, k_add, k_sub, k_mul, k_fdiv, k_mod, k_pow, k_addl, k_bini, k_binl, k_lt, k_le, k_gt, k_ge, k_ixl, k_ixt, k_inti, k_intb, k_abs, k_lenl, k_lent, k_max, k_min, k_s0, k_s1, k_s2, k_s3, k_s4, k_s5, k_s6, k_s7, k_t0, k_t1, k_t2, k_t4, k_eqi, k_nei, k_eqs, k_nes, k_itl, k_itt, k_run, k_for0, q_pVc, q_pC, q_blk, nxt, setK, retK, dropK, ifK, ifEK, notK, andK, orK, andVK, orVK, trK, op1K, op2E, op2K, opsK, nmK, exK, evosK, evvK, evrK, wbC, callK, newE, newK, methE, methK, parK, allK, tupK, lstK, sl2K, sl1K, itvK, rngK, itaK, dicK, evkK, rsK, setTK, put1, put2, putD, rdO, rdOs, rdA, finC, retL, r_0e, r_1e, r_1z, r_2e, r_2z, r_3e, r_3z, r_4e, r_4z, r_5e, r_5z, r_6e, r_6z, r_7e, r_7z, r_8e, r_8z, r_9e, r_9z, r_10e, r_10z, r_11e, r_11z, wbS, pmL, pmAt, nmA, L2.atI, L2.ixN, so_eq, this]
theorem chk_b {l : List Nat} (hl : l.length ≤ 100) (h : gd l = false) : f_check_name [.str (ss l)] = .exc "InvalidName" (.str (ss l)) [] := by
  have := isname hl
  rw [h] at this
  unfold f_check_name m_check_name
  simp [q_blkc, q_blk0, q_setc, q_set0, q_retc, q_ret0, q_dropc, q_drop0, q_ifc, q_if0, q_ifec, q_ife0, q_testc, q_test0, q_notc, q_not0, q_andc, q_and0, q_orc, q_or0, q_andvc, q_andv0, q_orvc, q_orv0, q_trc, q_tr0, q_op1c, q_op10, q_op2c, q_op20, q_opsc, q_ops0, q_evnmc, q_evnm0, q_evexc, q_evex0, q_evos0c, q_evos00, q_evoscc, q_evosc0, q_eva0c, q_eva00, q_evavc, q_evav0, q_evarc, q_evar0, q_callc, q_call0, q_newc, q_new0, q_methc, q_meth0, q_parc, q_par0, q_all0c, q_all00, q_allcc, q_allc0, q_tupc, q_tup0, q_lstc, q_lst0, q_sl2c, q_sl20, q_sl1c, q_sl10, q_putc, q_put0, q_fstc, q_fst0, PI.q_forc, q_for0, q_itvc, q_itv0, q_rngc, q_rng0, q_itac, q_ita0, q_lcc, q_lc0, q_dicc, q_dic0, q_evk0c, q_evk00, q_evkcc, q_evkc0, q_rsc, q_rs0, q_yesc, q_yes0, q_chc, q_ch0, q_nxc, q_nx0, q_retnc, q_retn0, q_setTc, q_setT0, k_ro, k_rb, k_rl, k_rt, k_asB, k_add, k_sub, k_mul, k_fdiv, k_mod, k_pow, k_addl, k_bini, k_binl, k_lt, k_le, k_gt, k_ge, k_ixl, k_ixt, k_inti, k_intb, k_abs, k_lenl, k_lent, k_max, k_min, k_s0, k_s1, k_s2, k_s3, k_s4, k_s5, k_s6, k_s7, k_t0, k_t1, k_t2, k_t4, k_eqi, k_nei, k_eqs, k_nes, k_itl, k_itt, k_run, k_for0, q_pVc, q_pC, q_blk, nxt, setK, retK, dropK, ifK, ifEK, notK, andK, orK, andVK, orVK, trK, op1K, op2E, op2K, opsK, nmK, exK, evosK, evvK, evrK, wbC, callK, newE, newK, methE, methK, parK, allK, tupK, lstK, sl2K, sl1K, itvK, rngK, itaK, dicK, evkK, rsK, setTK, put1, put2, putD, rdO, rdOs, rdA, finC, retL, r_0e, r_1e, r_1z, r_2e, r_2z, r_3e, r_3z, r_4e, r_4z, r_5e, r_5z, r_6e, r_6z, r_7e, r_7z, r_8e, r_8z, r_9e, r_9z, r_10e, r_10z, r_11e, r_11z, wbS, pmL, pmAt, nmA, L2.atI, L2.ixN, so_eq, this]
theorem cell_g {l : List Nat} (hl : l.length ≤ 100) (h : gd l = true) : f_cell [.str (ss l)] = .ok (vC true (ss l)) [] := by
  unfold f_cell m_cell
  simp [q_blkc, q_blk0, q_setc, q_set0, q_retc, q_ret0, q_dropc, q_drop0, q_ifc, q_if0, q_ifec, q_ife0, q_testc, q_test0, q_notc, q_not0, q_andc, q_and0, q_orc, q_or0, q_andvc, q_andv0, q_orvc, q_orv0, q_trc, q_tr0, q_op1c, q_op10, q_op2c, q_op20, q_opsc, q_ops0, q_evnmc, q_evnm0, q_evexc, q_evex0, q_evos0c, q_evos00, q_evoscc, q_evosc0, q_eva0c, q_eva00, q_evavc, q_evav0, q_evarc, q_evar0, q_callc, q_call0, q_newc, q_new0, q_methc, q_meth0, q_parc, q_par0, q_all0c, q_all00, q_allcc, q_allc0, q_tupc, q_tup0, q_lstc, q_lst0, q_sl2c, q_sl20, q_sl1c, q_sl10, q_putc, q_put0, q_fstc, q_fst0, PI.q_forc, q_for0, q_itvc, q_itv0, q_rngc, q_rng0, q_itac, q_ita0, q_lcc, q_lc0, q_dicc, q_dic0, q_evk0c, q_evk00, q_evkcc, q_evkc0, q_rsc, q_rs0, q_yesc, q_yes0, q_chc, q_ch0, q_nxc, q_nx0, q_retnc, q_retn0, q_setTc, q_setT0, k_ro, k_rb, k_rl, k_rt, k_asB, k_add, k_sub, k_mul, k_fdiv, k_mod, k_pow, k_addl, k_bini, k_binl, k_lt, k_le, k_gt, k_ge, k_ixl, k_ixt, k_inti, k_intb, k_abs, k_lenl, k_lent, k_max, k_min, k_s0, k_s1, k_s2, k_s3, k_s4, k_s5, k_s6, k_s7, k_t0, k_t1, k_t2, k_t4, k_eqi, k_nei, k_eqs, k_nes, k_itl, k_itt, k_run, k_for0, q_pVc, q_pC, q_blk, nxt, setK, retK, dropK, ifK, ifEK, notK, andK, orK, andVK, orVK, trK, op1K, op2E, op2K, opsK, nmK, exK, evosK, evvK, evrK, wbC, callK, newE, newK, methE, methK, parK, allK, tupK, lstK, sl2K, sl1K, itvK, rngK, itaK, dicK, evkK, rsK, setTK, put1, put2, putD, rdO, rdOs, rdA, finC, retL, r_0e, r_1e, r_1z, r_2e, r_2z, r_3e, r_3z, r_4e, r_4z, r_5e, r_5z, r_6e, r_6z, r_7e, r_7z, r_8e, r_8z, r_9e, r_9z, r_10e, r_10z, r_11e, r_11z, wbS, pmL, pmAt, nmA, L2.atI, L2.ixN, so_eq, chk_g hl h, init_v]
theorem cell_b {l : List Nat} (hl : l.length ≤ 100) (h : gd l = false) : f_cell [.str (ss l)] = .exc "InvalidName" (.str (ss l)) [] := by
  unfold f_cell m_cell
  simp [q_blkc, q_blk0, q_setc, q_set0, q_retc, q_ret0, q_dropc, q_drop0, q_ifc, q_if0, q_ifec, q_ife0, q_testc, q_test0, q_notc, q_not0, q_andc, q_and0, q_orc, q_or0, q_andvc, q_andv0, q_orvc, q_orv0, q_trc, q_tr0, q_op1c, q_op10, q_op2c, q_op20, q_opsc, q_ops0, q_evnmc, q_evnm0, q_evexc, q_evex0, q_evos0c, q_evos00, q_evoscc, q_evosc0, q_eva0c, q_eva00, q_evavc, q_evav0, q_evarc, q_evar0, q_callc, q_call0, q_newc, q_new0, q_methc, q_meth0, q_parc, q_par0, q_all0c, q_all00, q_allcc, q_allc0, q_tupc, q_tup0, q_lstc, q_lst0, q_sl2c, q_sl20, q_sl1c, q_sl10, q_putc, q_put0, q_fstc, q_fst0, PI.q_forc, q_for0, q_itvc, q_itv0, q_rngc, q_rng0, q_itac, q_ita0, q_lcc, q_lc0, q_dicc, q_dic0, q_evk0c, q_evk00, q_evkcc, q_evkc0, q_rsc, q_rs0, q_yesc, q_yes0, q_chc, q_ch0, q_nxc, q_nx0, q_retnc, q_retn0, q_setTc, q_setT0, k_ro, k_rb, k_rl, k_rt, k_asB, k_add, k_sub, k_mul, k_fdiv, k_mod, k_pow, k_addl, k_bini, k_binl, k_lt, k_le, k_gt, k_ge, k_ixl, k_ixt, k_inti, k_intb, k_abs, k_lenl, k_lent, k_max, k_min, k_s0, k_s1, k_s2, k_s3, k_s4, k_s5, k_s6, k_s7, k_t0, k_t1, k_t2, k_t4, k_eqi, k_nei, k_eqs, k_nes, k_itl, k_itt, k_run, k_for0, q_pVc, q_pC, q_blk, nxt, setK, retK, dropK, ifK, ifEK, notK, andK, orK, andVK, orVK, trK, op1K, op2E, op2K, opsK, nmK, exK, evosK, evvK, evrK, wbC, callK, newE, newK, methE, methK, parK, allK, tupK, lstK, sl2K, sl1K, itvK, rngK, itaK, dicK, evkK, rsK, setTK, put1, put2, putD, rdO, rdOs, rdA, finC, retL, r_0e, r_1e, r_1z, r_2e, r_2z, r_3e, r_3z, r_4e, r_4z, r_5e, r_5z, r_6e, r_6z, r_7e, r_7z, r_8e, r_8z, r_9e, r_9z, r_10e, r_10z, r_11e, r_11z, wbS, pmL, pmAt, nmA, L2.atI, L2.ixN, so_eq, chk_b hl h]
theorem put_g {l : List Nat} (hl : l.length ≤ 100) (h : gd l = true) (k : Int) : f_put [.str (ss l), .int k] = .ok (vS true (ss l) k) [] := by
  unfold f_put m_put
  simp [q_blkc, q_blk0, q_setc, q_set0, q_retc, q_ret0, q_dropc, q_drop0, q_ifc, q_if0, q_ifec, q_ife0, q_testc, q_test0, q_notc, q_not0, q_andc, q_and0, q_orc, q_or0, q_andvc, q_andv0, q_orvc, q_orv0, q_trc, q_tr0, q_op1c, q_op10, q_op2c, q_op20, q_opsc, q_ops0, q_evnmc, q_evnm0, q_evexc, q_evex0, q_evos0c, q_evos00, q_evoscc, q_evosc0, q_eva0c, q_eva00, q_evavc, q_evav0, q_evarc, q_evar0, q_callc, q_call0, q_newc, q_new0, q_methc, q_meth0, q_parc, q_par0, q_all0c, q_all00, q_allcc, q_allc0, q_tupc, q_tup0, q_lstc, q_lst0, q_sl2c, q_sl20, q_sl1c, q_sl10, q_putc, q_put0, q_fstc, q_fst0, PI.q_forc, q_for0, q_itvc, q_itv0, q_rngc, q_rng0, q_itac, q_ita0, q_lcc, q_lc0, q_dicc, q_dic0, q_evk0c, q_evk00, q_evkcc, q_evkc0, q_rsc, q_rs0, q_yesc, q_yes0, q_chc, q_ch0, q_nxc, q_nx0, q_retnc, q_retn0, q_setTc, q_setT0, k_ro, k_rb, k_rl, k_rt, k_asB, k_add, k_sub, k_mul, k_fdiv, k_mod, k_pow, k_addl, k_bini, k_binl, k_lt, k_le, k_gt, k_ge, k_ixl, k_ixt, k_inti, k_intb, k_abs, k_lenl, k_lent, k_max, k_min, k_s0, k_s1, k_s2, k_s3, k_s4, k_s5, k_s6, k_s7, k_t0, k_t1, k_t2, k_t4, k_eqi, k_nei, k_eqs, k_nes, k_itl, k_itt, k_run, k_for0, q_pVc, q_pC, q_blk, nxt, setK, retK, dropK, ifK, ifEK, notK, andK, orK, andVK, orVK, trK, op1K, op2E, op2K, opsK, nmK, exK, evosK, evvK, evrK, wbC, callK, newE, newK, methE, methK, parK, allK, tupK, lstK, sl2K, sl1K, itvK, rngK, itaK, dicK, evkK, rsK, setTK, put1, put2, putD, rdO, rdOs, rdA, finC, retL, r_0e, r_1e, r_1z, r_2e, r_2z, r_3e, r_3z, r_4e, r_4z, r_5e, r_5z, r_6e, r_6z, r_7e, r_7z, r_8e, r_8z, r_9e, r_9z, r_10e, r_10z, r_11e, r_11z, wbS, pmL, pmAt, nmA, L2.atI, L2.ixN, so_eq, chk_g hl h, init_s, value_i]
theorem put_v {l : List Nat} (hl : l.length ≤ 100) (h : gd l = true) (k : Int) : f_put [.str (ss l), vN false k] = .ok (vS true (ss l) k) [] := by
  unfold f_put m_put
  simp [q_blkc, q_blk0, q_setc, q_set0, q_retc, q_ret0, q_dropc, q_drop0, q_ifc, q_if0, q_ifec, q_ife0, q_testc, q_test0, q_notc, q_not0, q_andc, q_and0, q_orc, q_or0, q_andvc, q_andv0, q_orvc, q_orv0, q_trc, q_tr0, q_op1c, q_op10, q_op2c, q_op20, q_opsc, q_ops0, q_evnmc, q_evnm0, q_evexc, q_evex0, q_evos0c, q_evos00, q_evoscc, q_evosc0, q_eva0c, q_eva00, q_evavc, q_evav0, q_evarc, q_evar0, q_callc, q_call0, q_newc, q_new0, q_methc, q_meth0, q_parc, q_par0, q_all0c, q_all00, q_allcc, q_allc0, q_tupc, q_tup0, q_lstc, q_lst0, q_sl2c, q_sl20, q_sl1c, q_sl10, q_putc, q_put0, q_fstc, q_fst0, PI.q_forc, q_for0, q_itvc, q_itv0, q_rngc, q_rng0, q_itac, q_ita0, q_lcc, q_lc0, q_dicc, q_dic0, q_evk0c, q_evk00, q_evkcc, q_evkc0, q_rsc, q_rs0, q_yesc, q_yes0, q_chc, q_ch0, q_nxc, q_nx0, q_retnc, q_retn0, q_setTc, q_setT0, k_ro, k_rb, k_rl, k_rt, k_asB, k_add, k_sub, k_mul, k_fdiv, k_mod, k_pow, k_addl, k_bini, k_binl, k_lt, k_le, k_gt, k_ge, k_ixl, k_ixt, k_inti, k_intb, k_abs, k_lenl, k_lent, k_max, k_min, k_s0, k_s1, k_s2, k_s3, k_s4, k_s5, k_s6, k_s7, k_t0, k_t1, k_t2, k_t4, k_eqi, k_nei, k_eqs, k_nes, k_itl, k_itt, k_run, k_for0, q_pVc, q_pC, q_blk, nxt, setK, retK, dropK, ifK, ifEK, notK, andK, orK, andVK, orVK, trK, op1K, op2E, op2K, opsK, nmK, exK, evosK, evvK, evrK, wbC, callK, newE, newK, methE, methK, parK, allK, tupK, lstK, sl2K, sl1K, itvK, rngK, itaK, dicK, evkK, rsK, setTK, put1, put2, putD, rdO, rdOs, rdA, finC, retL, r_0e, r_1e, r_1z, r_2e, r_2z, r_3e, r_3z, r_4e, r_4z, r_5e, r_5z, r_6e, r_6z, r_7e, r_7z, r_8e, r_8z, r_9e, r_9z, r_10e, r_10z, r_11e, r_11z, wbS, pmL, pmAt, nmA, L2.atI, L2.ixN, so_eq, chk_g hl h, init_s, value_v]
theorem put_b {l : List Nat} (hl : l.length ≤ 100) (h : gd l = false) (d : D) : f_put [.str (ss l), d] = .exc "InvalidName" (.str (ss l)) [] := by
  unfold f_put m_put
  simp [q_blkc, q_blk0, q_setc, q_set0, q_retc, q_ret0, q_dropc, q_drop0, q_ifc, q_if0, q_ifec, q_ife0, q_testc, q_test0, q_notc, q_not0, q_andc, q_and0, q_orc, q_or0, q_andvc, q_andv0, q_orvc, q_orv0, q_trc, q_tr0, q_op1c, q_op10, q_op2c, q_op20, q_opsc, q_ops0, q_evnmc, q_evnm0, q_evexc, q_evex0, q_evos0c, q_evos00, q_evoscc, q_evosc0, q_eva0c, q_eva00, q_evavc, q_evav0, q_evarc, q_evar0, q_callc, q_call0, q_newc, q_new0, q_methc, q_meth0, q_parc, q_par0, q_all0c, q_all00, q_allcc, q_allc0, q_tupc, q_tup0, q_lstc, q_lst0, q_sl2c, q_sl20, q_sl1c, q_sl10, q_putc, q_put0, q_fstc, q_fst0, PI.q_forc, q_for0, q_itvc, q_itv0, q_rngc, q_rng0, q_itac, q_ita0, q_lcc, q_lc0, q_dicc, q_dic0, q_evk0c, q_evk00, q_evkcc, q_evkc0, q_rsc, q_rs0, q_yesc, q_yes0, q_chc, q_ch0, q_nxc, q_nx0, q_retnc, q_retn0, q_setTc, q_setT0, k_ro, k_rb, k_rl, k_rt, k_asB, k_add, k_sub, k_mul, k_fdiv, k_mod, k_pow, k_addl, k_bini, k_binl, k_lt, k_le, k_gt, k_ge, k_ixl, k_ixt, k_inti, k_intb, k_abs, k_lenl, k_lent, k_max, k_min, k_s0, k_s1, k_s2, k_s3, k_s4, k_s5, k_s6, k_s7, k_t0, k_t1, k_t2, k_t4, k_eqi, k_nei, k_eqs, k_nes, k_itl, k_itt, k_run, k_for0, q_pVc, q_pC, q_blk, nxt, setK, retK, dropK, ifK, ifEK, notK, andK, orK, andVK, orVK, trK, op1K, op2E, op2K, opsK, nmK, exK, evosK, evvK, evrK, wbC, callK, newE, newK, methE, methK, parK, allK, tupK, lstK, sl2K, sl1K, itvK, rngK, itaK, dicK, evkK, rsK, setTK, put1, put2, putD, rdO, rdOs, rdA, finC, retL, r_0e, r_1e, r_1z, r_2e, r_2z, r_3e, r_3z, r_4e, r_4z, r_5e, r_5z, r_6e, r_6z, r_7e, r_7z, r_8e, r_8z, r_9e, r_9z, r_10e, r_10z, r_11e, r_11z, wbS, pmL, pmAt, nmA, L2.atI, L2.ixN, so_eq, chk_b hl h]
end A02

set_option linter.all false
set_option maxRecDepth 100000
set_option maxHeartbeats 2000000
namespace A02
open PI PySem
theorem blk_step {a : PF} {as : List PF} {g g' : Sg} (h : a g = .ok .nx g') : pBlk (a :: as) g = pBlk as g' := by
  show pSeq a (pBlk as) g = _
  unfold pSeq
  rw [h]
  rfl
theorem blk_ret {a : PF} {as : List PF} {g g' : Sg} {d : D} (h : a g = .ok (.rt d) g') : pBlk (a :: as) g = .ok (.rt d) g' := by
  show pSeq a (pBlk as) g = _
  unfold pSeq
  rw [h]
  rfl
theorem k_muls {c : Nat} {n : Int} (h0 : 0 ≤ n) (h : n ≤ 1000) : binD .Mult (.str (ss [c])) (.int n) = some (.str (ss (List.replicate n.toNat c))) := by
  show (if 0 ≤ n ∧ n ≤ 1000 ∧ (ss [c]).length ≤ 1000 then some (D.str ⟨((List.replicate n.toNat (ss [c]).cps.toList).flatten).toArray⟩) else none) = _
  rw [ss_len, if_pos ⟨h0, h, by simp⟩]
  have : (List.replicate n.toNat (ss [c]).cps.toList).flatten = List.replicate n.toNat c := by
    show (List.replicate n.toNat [c]).flatten = _
    induction n.toNat with
    | zero => rfl
    | succ k ih => rw [List.replicate_succ, List.flatten_cons, ih]; rfl
  rw [this]
  rfl
theorem az_rep {c k : Nat} (h : az [c]) : az (List.replicate k c) := fun d hd => by
  rw [(List.mem_replicate.mp hd).2]
  exact h c (List.mem_singleton.mpr rfl)
abbrev W12 : List D := [.str "put", .str "when", .str "answer", .str "else", .str "own", .str "common", .str "kind", .str "mod", .str "argument", .str "passed", .str "names", .str "held"]
theorem word {i : Int} (h0 : 0 ≤ i) (h1 : i < 12) : ∃ x, NmOk x ∧ ∀ b, ixD (.lst b W12) (.int i) = some (.str x) := by
  have : i = 0 ∨ i = 1 ∨ i = 2 ∨ i = 3 ∨ i = 4 ∨ i = 5 ∨ i = 6 ∨ i = 7 ∨ i = 8 ∨ i = 9 ∨ i = 10 ∨ i = 11 := by omega
  rcases this with rfl | rfl | rfl | rfl | rfl | rfl | rfl | rfl | rfl | rfl | rfl | rfl
  · exact ⟨"put", ⟨[112, 117, 116], by kernel_rfl, by decide, by decide, by unfold az; decide⟩, fun b => rfl⟩
  · exact ⟨"when", ⟨[119, 104, 101, 110], by kernel_rfl, by decide, by decide, by unfold az; decide⟩, fun b => rfl⟩
  · exact ⟨"answer", ⟨[97, 110, 115, 119, 101, 114], by kernel_rfl, by decide, by decide, by unfold az; decide⟩, fun b => rfl⟩
  · exact ⟨"else", ⟨[101, 108, 115, 101], by kernel_rfl, by decide, by decide, by unfold az; decide⟩, fun b => rfl⟩
  · exact ⟨"own", ⟨[111, 119, 110], by kernel_rfl, by decide, by decide, by unfold az; decide⟩, fun b => rfl⟩
  · exact ⟨"common", ⟨[99, 111, 109, 109, 111, 110], by kernel_rfl, by decide, by decide, by unfold az; decide⟩, fun b => rfl⟩
  · exact ⟨"kind", ⟨[107, 105, 110, 100], by kernel_rfl, by decide, by decide, by unfold az; decide⟩, fun b => rfl⟩
  · exact ⟨"mod", ⟨[109, 111, 100], by kernel_rfl, by decide, by decide, by unfold az; decide⟩, fun b => rfl⟩
  · exact ⟨"argument", ⟨[97, 114, 103, 117, 109, 101, 110, 116], by kernel_rfl, by decide, by decide, by unfold az; decide⟩, fun b => rfl⟩
  · exact ⟨"passed", ⟨[112, 97, 115, 115, 101, 100], by kernel_rfl, by decide, by decide, by unfold az; decide⟩, fun b => rfl⟩
  · exact ⟨"names", ⟨[110, 97, 109, 101, 115], by kernel_rfl, by decide, by decide, by unfold az; decide⟩, fun b => rfl⟩
  · exact ⟨"held", ⟨[104, 101, 108, 100], by kernel_rfl, by decide, by decide, by unfold az; decide⟩, fun b => rfl⟩
theorem join_ok : ∀ (cs : List Nat), Str.join "" (cs.map fun c => ss [c]) = ss cs
  | [] => by kernel_rfl
  | [c] => rfl
  | c :: d :: cs => by
    show ss [c] ++ ("" : Str) ++ Str.join "" ((d :: cs).map fun c => ss [c]) = _
    rw [join_ok (d :: cs), show ("" : Str) = ss [] from by kernel_rfl, ss_app, ss_app]
    rfl
theorem joinD_ok {b : Bool} {cs : List Nat} (h : cs.length ≤ 1000) : joinD "" (.lst b (cs.map fun c => .str (ss [c]))) = some (.str (ss cs)) := by
  have e : strsD (cs.map fun c => D.str (ss [c])) = some (cs.map fun c => ss [c]) := by
    clear h
    induction cs with
    | nil => rfl
    | cons c cs ih =>
      show (strsD (cs.map fun c => D.str (ss [c]))).map _ = _
      rw [ih]
      rfl
  have s : ((cs.map fun c => ss [c]).map (·.length)).sum = cs.length := by
    clear h e
    induction cs with
    | nil => rfl
    | cons c cs ih =>
      rw [List.map_cons, List.map_cons, List.sum_cons, ih, ss_len, List.length_cons]
      simp
      omega
  show (strsD (cs.map fun c => D.str (ss [c]))).bind _ = _
  rw [e, Option.bind_some, s, show ("" : Str).length = 0 from by kernel_rfl, if_pos (by unfold lim; omega), join_ok]
theorem cps_of : ∀ {ys : List D}, (∀ y ∈ ys, ∃ c, y = .str (ss [c]) ∧ 97 ≤ c ∧ c ≤ 122) → ∃ cs : List Nat, ys = cs.map (fun c => .str (ss [c])) ∧ az cs
  | [], _ => ⟨[], rfl, fun _ h => (nomatch h)⟩
  | y :: ys, h => by
    obtain ⟨c, rfl, hc⟩ := h y (.head _)
    obtain ⟨cs, rfl, hcs⟩ := cps_of (ys := ys) fun y hy => h y (.tail _ hy)
    refine ⟨c :: cs, rfl, fun z hz => ?_⟩
    rcases List.mem_cons.mp hz with rfl | hz
    · exact hc
    · exact hcs z hz
theorem cut_lo {l : List Nat} {k : Int} (h0 : 0 ≤ k) (hl : l.length ≤ 1000) : slD (.str (ss l)) none (some k) = some (.str (ss (l.take k.toNat))) := by
  show (if (ss l).length ≤ lim then some (D.str (L2.cutS (ss l) none (some k))) else none) = _
  rw [ss_len, if_pos (by unfold lim; omega)]
  unfold L2.cutS HT.sIx
  rw [ss_len]
  show some (D.str ⟨((l.drop 0).take ((if k < 0 then (k + (l.length : Int)).toNat else min k.toNat l.length) - 0)).toArray⟩) = _
  rw [if_neg (by omega), List.drop_zero, Nat.sub_zero]
  have : l.take (min k.toNat l.length) = l.take k.toNat := by
    rcases Nat.le_total k.toNat l.length with h | h
    · rw [Nat.min_eq_left h]
    · rw [Nat.min_eq_right h, List.take_of_length_le (Nat.le_refl _), List.take_of_length_le h]
  rw [this]
  rfl
theorem cut_hi {l : List Nat} {k : Int} (h0 : 0 ≤ k) (h1 : k ≤ l.length) (hl : l.length ≤ 1000) : slD (.str (ss l)) (some k) none = some (.str (ss (l.drop k.toNat))) := by
  show (if (ss l).length ≤ lim then some (D.str (L2.cutS (ss l) (some k) none)) else none) = _
  rw [ss_len, if_pos (by unfold lim; omega)]
  unfold L2.cutS HT.sIx
  rw [ss_len]
  show some (D.str ⟨((l.drop (if k < 0 then (k + (l.length : Int)).toNat else min k.toNat l.length)).take (l.length - (if k < 0 then (k + (l.length : Int)).toNat else min k.toNat l.length))).toArray⟩) = _
  rw [if_neg (by omega), Nat.min_eq_left (by omega), List.take_of_length_le (by rw [List.length_drop]; exact Nat.le_refl _)]
  rfl
theorem pace_ok {t : Int} (h0 : 0 ≤ t) (h1 : t < 5) : ∃ p : Int, 0 ≤ p ∧ p ≤ 11 ∧ ∀ b, ixD (.lst b [.int 1, .int 3, .int 5, .int 7, .int 11]) (.int t) = some (.int p) := by
  have : t = 0 ∨ t = 1 ∨ t = 2 ∨ t = 3 ∨ t = 4 := by omega
  rcases this with rfl | rfl | rfl | rfl | rfl
  · exact ⟨1, by decide, by decide, fun b => rfl⟩
  · exact ⟨3, by decide, by decide, fun b => rfl⟩
  · exact ⟨5, by decide, by decide, fun b => rfl⟩
  · exact ⟨7, by decide, by decide, fun b => rfl⟩
  · exact ⟨11, by decide, by decide, fun b => rfl⟩
/-- one name a number -/
theorem way0_w {u : D} {m t : Int} (hm0 : 0 ≤ m) (hm : m ≤ 8) (h0 : 0 ≤ t) (h1 : t < 26) : ∃ xs : List Str, (pIf (pTest (pOp2 (fun d e g => rb (cmpD .Eq d e) g) (.nm 3) (.ex (pC (.int 0))))) (pBlk [(pRet (pLc (pRng [(.nm 1)]) (.nm 9) pYes (pOp2 (fun d e g => ro (binD .Mult d e) g) (.ex (pOp2 (fun d e g => ro (ixD d e) g) (.nm 2) (.nm 4))) (.ex (pOp2 (fun d e g => ro (binD .Add d e) g) (.nm 9) (.ex (pC (.int 1)))))) [9]))]) (pBlk [])) [some u, some (.int m), some (.str LT), some (.int 0), some (.int t), none, none, none, none, none, none] = .ok (.rt (.lst true (xs.map .str))) [some u, some (.int m), some (.str LT), some (.int 0), some (.int t), none, none, none, none, none, none] ∧ xs.length = m.toNat ∧ ∀ x ∈ xs, NmOk x := by
  obtain ⟨ds, r1, r2, r3⟩ := rng_mem hm0 (by omega)
  obtain ⟨ys, g', e1, e2, e3, e4⟩ := lc_run (tg := .nm 9) (e := (pOp2 (fun d e g => ro (binD .Mult d e) g) (.ex (pOp2 (fun d e g => ro (ixD d e) g) (.nm 2) (.nm 4))) (.ex (pOp2 (fun d e g => ro (binD .Add d e) g) (.nm 9) (.ex (pC (.int 1))))))) (vs := [9]) (R := fun y => ∃ x, y = .str x ∧ NmOk x) (ds := ds)
    (fun _ g => g = [some u, some (.int m), some (.str LT), some (.int 0), some (.int t), none, none, none, none, none, none]) (g := [some u, some (.int m), some (.str LT), some (.int 0), some (.int t), none, none, none, none, none, none]) rfl (fun n g d _ hI hd => by
      subst hI
      obtain ⟨k, rfl, k0, k1⟩ := r3 d hd
      have l1 := letter h0 h1
      refine ⟨_, .str (ss (List.replicate (k + 1).toNat (97 + t.toNat))), [some u, some (.int m), some (.str LT), some (.int 0), some (.int t), none, none, none, none, some (.int k), none], rfl, ?_, ⟨_, rfl, _, rfl, ?_, ?_, ?_⟩, rfl⟩
      · simp [q_blkc, q_blk0, q_setc, q_set0, q_retc, q_ret0, q_dropc, q_drop0, q_ifc, q_if0, q_ifec, q_ife0, q_testc, q_test0, q_notc, q_not0, q_andc, q_and0, q_orc, q_or0, q_andvc, q_andv0, q_orvc, q_orv0, q_trc, q_tr0, q_op1c, q_op10, q_op2c, q_op20, q_opsc, q_ops0, q_evnmc, q_evnm0, q_evexc, q_evex0, q_evos0c, q_evos00, q_evoscc, q_evosc0, q_eva0c, q_eva00, q_evavc, q_evav0, q_evarc, q_evar0, q_callc, q_call0, q_newc, q_new0, q_methc, q_meth0, q_parc, q_par0, q_all0c, q_all00, q_allcc, q_allc0, q_tupc, q_tup0, q_lstc, q_lst0, q_sl2c, q_sl20, q_sl1c, q_sl10, q_putc, q_put0, q_fstc, q_fst0, PI.q_forc, q_for0, q_itvc, q_itv0, q_rngc, q_rng0, q_itac, q_ita0, q_lcc, q_lc0, q_dicc, q_dic0, q_evk0c, q_evk00, q_evkcc, q_evkc0, q_rsc, q_rs0, q_yesc, q_yes0, q_chc, q_ch0, q_nxc, q_nx0, q_retnc, q_retn0, q_setTc, q_setT0, k_ro, k_rb, k_rl, k_rt, k_asB, k_add, k_sub, k_mul, k_fdiv, k_mod, k_pow, k_addl, k_bini, k_binl, k_lt, k_le, k_gt, k_ge, k_ixl, k_ixt, k_inti, k_intb, k_abs, k_lenl, k_lent, k_max, k_min, k_s0, k_s1, k_s2, k_s3, k_s4, k_s5, k_s6, k_s7, k_t0, k_t1, k_t2, k_t4, k_eqi, k_nei, k_eqs, k_nes, k_itl, k_itt, k_run, k_for0, q_pVc, q_pC, q_blk, nxt, setK, retK, dropK, ifK, ifEK, notK, andK, orK, andVK, orVK, trK, op1K, op2E, op2K, opsK, nmK, exK, evosK, evvK, evrK, wbC, callK, newE, newK, methE, methK, parK, allK, tupK, lstK, sl2K, sl1K, itvK, rngK, itaK, dicK, evkK, rsK, setTK, put1, put2, putD, rdO, rdOs, rdA, finC, retL, r_0e, r_1e, r_1z, r_2e, r_2z, r_3e, r_3z, r_4e, r_4z, r_5e, r_5z, r_6e, r_6z, r_7e, r_7z, r_8e, r_8z, r_9e, r_9z, r_10e, r_10z, r_11e, r_11z, wbS, pmL, pmAt, nmA, L2.atI, L2.ixN, so_eq, l1, k_muls (c := 97 + t.toNat) (n := k + 1) (by omega) (by omega)]
      · rw [List.length_replicate]; omega
      · rw [List.length_replicate]; omega
      · exact az_rep (letter_nm h0 h1)) rfl (by omega)
  subst e4
  obtain ⟨xs, rfl, hx⟩ := strs_of e3
  refine ⟨xs, ?_, by rw [← r2, ← e2, List.length_map], hx⟩
  simp [q_blkc, q_blk0, q_setc, q_set0, q_retc, q_ret0, q_dropc, q_drop0, q_ifc, q_if0, q_ifec, q_ife0, q_testc, q_test0, q_notc, q_not0, q_andc, q_and0, q_orc, q_or0, q_andvc, q_andv0, q_orvc, q_orv0, q_trc, q_tr0, q_op1c, q_op10, q_op2c, q_op20, q_opsc, q_ops0, q_evnmc, q_evnm0, q_evexc, q_evex0, q_evos0c, q_evos00, q_evoscc, q_evosc0, q_eva0c, q_eva00, q_evavc, q_evav0, q_evarc, q_evar0, q_callc, q_call0, q_newc, q_new0, q_methc, q_meth0, q_parc, q_par0, q_all0c, q_all00, q_allcc, q_allc0, q_tupc, q_tup0, q_lstc, q_lst0, q_sl2c, q_sl20, q_sl1c, q_sl10, q_putc, q_put0, q_fstc, q_fst0, PI.q_forc, q_for0, q_itvc, q_itv0, q_rngc, q_rng0, q_itac, q_ita0, q_lcc, q_lc0, q_dicc, q_dic0, q_evk0c, q_evk00, q_evkcc, q_evkc0, q_rsc, q_rs0, q_yesc, q_yes0, q_chc, q_ch0, q_nxc, q_nx0, q_retnc, q_retn0, q_setTc, q_setT0, k_ro, k_rb, k_rl, k_rt, k_asB, k_add, k_sub, k_mul, k_fdiv, k_mod, k_pow, k_addl, k_bini, k_binl, k_lt, k_le, k_gt, k_ge, k_ixl, k_ixt, k_inti, k_intb, k_abs, k_lenl, k_lent, k_max, k_min, k_s0, k_s1, k_s2, k_s3, k_s4, k_s5, k_s6, k_s7, k_t0, k_t1, k_t2, k_t4, k_eqi, k_nei, k_eqs, k_nes, k_itl, k_itt, k_run, k_for0, q_pVc, q_pC, q_blk, nxt, setK, retK, dropK, ifK, ifEK, notK, andK, orK, andVK, orVK, trK, op1K, op2E, op2K, opsK, nmK, exK, evosK, evvK, evrK, wbC, callK, newE, newK, methE, methK, parK, allK, tupK, lstK, sl2K, sl1K, itvK, rngK, itaK, dicK, evkK, rsK, setTK, put1, put2, putD, rdO, rdOs, rdA, finC, retL, r_0e, r_1e, r_1z, r_2e, r_2z, r_3e, r_3z, r_4e, r_4z, r_5e, r_5z, r_6e, r_6z, r_7e, r_7z, r_8e, r_8z, r_9e, r_9z, r_10e, r_10z, r_11e, r_11z, wbS, pmL, pmAt, nmA, L2.atI, L2.ixN, so_eq, rngK, r1, e1]
theorem way1_w {u : D} {m t : Int} (hm0 : 0 ≤ m) (hm : m ≤ 8) (h0 : 0 ≤ t) (h1 : t < 26) : ∃ (xs : List Str) (g : Sg), (pIf (pTest (pOp2 (fun d e g => rb (cmpD .Eq d e) g) (.nm 3) (.ex (pC (.int 1))))) (pBlk [(pSet 8 (pLst [(pC (.str "put")), (pC (.str "when")), (pC (.str "answer")), (pC (.str "else")), (pC (.str "own")), (pC (.str "common")), (pC (.str "kind")), (pC (.str "mod")), (pC (.str "argument")), (pC (.str "passed")), (pC (.str "names")), (pC (.str "held"))])), (pRet (pLc (pRng [(.nm 1)]) (.nm 9) pYes (pOp2 (fun d e g => ro (ixD d e) g) (.nm 8) (.ex (pOp2 (fun d e g => ro (binD .Mod d e) g) (.ex (pOps (fun ds g => ro (intD ds) g) [(.ex (pOp2 (fun d e g => ro (binD .Add d e) g) (.nm 4) (.nm 9)))])) (.ex (pC (.int 12)))))) [9]))]) (pBlk [])) [some u, some (.int m), some (.str LT), some (.int 1), some (.int t), none, none, none, none, none, none] = .ok (.rt (.lst true (xs.map .str))) (some u :: g) ∧ xs.length = m.toNat ∧ ∀ x ∈ xs, NmOk x := by
  obtain ⟨ds, r1, r2, r3⟩ := rng_mem hm0 (by omega)
  obtain ⟨ys, g', e1, e2, e3, e4⟩ := lc_run (tg := .nm 9) (e := (pOp2 (fun d e g => ro (ixD d e) g) (.nm 8) (.ex (pOp2 (fun d e g => ro (binD .Mod d e) g) (.ex (pOps (fun ds g => ro (intD ds) g) [(.ex (pOp2 (fun d e g => ro (binD .Add d e) g) (.nm 4) (.nm 9)))])) (.ex (pC (.int 12))))))) (vs := [9]) (R := fun y => ∃ x, y = .str x ∧ NmOk x) (ds := ds)
    (fun _ g => g = [some u, some (.int m), some (.str LT), some (.int 1), some (.int t), none, none, none, some (.lst true W12), none, none]) (g := [some u, some (.int m), some (.str LT), some (.int 1), some (.int t), none, none, none, some (.lst true W12), none, none]) rfl (fun n g d _ hI hd => by
      subst hI
      obtain ⟨k, rfl, k0, k1⟩ := r3 d hd
      obtain ⟨x, hx, ex⟩ := word (i := (t + k) % 12) (Int.emod_nonneg _ (by decide)) (Int.emod_lt_of_pos _ (by decide))
      refine ⟨_, .str x, [some u, some (.int m), some (.str LT), some (.int 1), some (.int t), none, none, none, some (.lst true W12), some (.int k), none], rfl, ?_, ⟨_, rfl, hx⟩, rfl⟩
      have ex' := ex true
      have st : ∀ (z : D) (G : Sg), (if (0 : Int) < 12 then some (D.int ((t + k) % 12)) else none) = some (D.int ((t + k) % 12)) := fun _ _ => if_pos (by decide)
      simp only [q_op2c, q_evnmc, q_evexc, q_opsc, q_evoscc, q_evos0c, nmK, exK, op2K, op2E, opsK, evosK, Rs.bind, rdO, rdOs, q_pC, List.getElem?_cons_succ, List.getElem?_cons_zero, k_add, k_mod, k_inti, k_ro, st, List.set_cons_succ, List.set_cons_zero]
      simp [q_blkc, q_blk0, q_setc, q_set0, q_retc, q_ret0, q_dropc, q_drop0, q_ifc, q_if0, q_ifec, q_ife0, q_testc, q_test0, q_notc, q_not0, q_andc, q_and0, q_orc, q_or0, q_andvc, q_andv0, q_orvc, q_orv0, q_trc, q_tr0, q_op1c, q_op10, q_op2c, q_op20, q_opsc, q_ops0, q_evnmc, q_evnm0, q_evexc, q_evex0, q_evos0c, q_evos00, q_evoscc, q_evosc0, q_eva0c, q_eva00, q_evavc, q_evav0, q_evarc, q_evar0, q_callc, q_call0, q_newc, q_new0, q_methc, q_meth0, q_parc, q_par0, q_all0c, q_all00, q_allcc, q_allc0, q_tupc, q_tup0, q_lstc, q_lst0, q_sl2c, q_sl20, q_sl1c, q_sl10, q_putc, q_put0, q_fstc, q_fst0, PI.q_forc, q_for0, q_itvc, q_itv0, q_rngc, q_rng0, q_itac, q_ita0, q_lcc, q_lc0, q_dicc, q_dic0, q_evk0c, q_evk00, q_evkcc, q_evkc0, q_rsc, q_rs0, q_yesc, q_yes0, q_chc, q_ch0, q_nxc, q_nx0, q_retnc, q_retn0, q_setTc, q_setT0, k_ro, k_rb, k_rl, k_rt, k_asB, k_add, k_sub, k_mul, k_fdiv, k_mod, k_pow, k_addl, k_bini, k_binl, k_lt, k_le, k_gt, k_ge, k_ixl, k_ixt, k_inti, k_intb, k_abs, k_lenl, k_lent, k_max, k_min, k_s0, k_s1, k_s2, k_s3, k_s4, k_s5, k_s6, k_s7, k_t0, k_t1, k_t2, k_t4, k_eqi, k_nei, k_eqs, k_nes, k_itl, k_itt, k_run, k_for0, q_pVc, q_pC, q_blk, nxt, setK, retK, dropK, ifK, ifEK, notK, andK, orK, andVK, orVK, trK, op1K, op2E, op2K, opsK, nmK, exK, evosK, evvK, evrK, wbC, callK, newE, newK, methE, methK, parK, allK, tupK, lstK, sl2K, sl1K, itvK, rngK, itaK, dicK, evkK, rsK, setTK, put1, put2, putD, rdO, rdOs, rdA, finC, retL, r_0e, r_1e, r_1z, r_2e, r_2z, r_3e, r_3z, r_4e, r_4z, r_5e, r_5z, r_6e, r_6z, r_7e, r_7z, r_8e, r_8z, r_9e, r_9z, r_10e, r_10z, r_11e, r_11z, wbS, pmL, pmAt, nmA, L2.atI, L2.ixN, so_eq, ex']) rfl (by omega)
  subst e4
  obtain ⟨xs, rfl, hx⟩ := strs_of e3
  refine ⟨xs, [some (.int m), some (.str LT), some (.int 1), some (.int t), none, none, none, some (.lst true W12), none, none], ?_, by rw [← r2, ← e2, List.length_map], hx⟩
  simp [q_blkc, q_blk0, q_setc, q_set0, q_retc, q_ret0, q_dropc, q_drop0, q_ifc, q_if0, q_ifec, q_ife0, q_testc, q_test0, q_notc, q_not0, q_andc, q_and0, q_orc, q_or0, q_andvc, q_andv0, q_orvc, q_orv0, q_trc, q_tr0, q_op1c, q_op10, q_op2c, q_op20, q_opsc, q_ops0, q_evnmc, q_evnm0, q_evexc, q_evex0, q_evos0c, q_evos00, q_evoscc, q_evosc0, q_eva0c, q_eva00, q_evavc, q_evav0, q_evarc, q_evar0, q_callc, q_call0, q_newc, q_new0, q_methc, q_meth0, q_parc, q_par0, q_all0c, q_all00, q_allcc, q_allc0, q_tupc, q_tup0, q_lstc, q_lst0, q_sl2c, q_sl20, q_sl1c, q_sl10, q_putc, q_put0, q_fstc, q_fst0, PI.q_forc, q_for0, q_itvc, q_itv0, q_rngc, q_rng0, q_itac, q_ita0, q_lcc, q_lc0, q_dicc, q_dic0, q_evk0c, q_evk00, q_evkcc, q_evkc0, q_rsc, q_rs0, q_yesc, q_yes0, q_chc, q_ch0, q_nxc, q_nx0, q_retnc, q_retn0, q_setTc, q_setT0, k_ro, k_rb, k_rl, k_rt, k_asB, k_add, k_sub, k_mul, k_fdiv, k_mod, k_pow, k_addl, k_bini, k_binl, k_lt, k_le, k_gt, k_ge, k_ixl, k_ixt, k_inti, k_intb, k_abs, k_lenl, k_lent, k_max, k_min, k_s0, k_s1, k_s2, k_s3, k_s4, k_s5, k_s6, k_s7, k_t0, k_t1, k_t2, k_t4, k_eqi, k_nei, k_eqs, k_nes, k_itl, k_itt, k_run, k_for0, q_pVc, q_pC, q_blk, nxt, setK, retK, dropK, ifK, ifEK, notK, andK, orK, andVK, orVK, trK, op1K, op2E, op2K, opsK, nmK, exK, evosK, evvK, evrK, wbC, callK, newE, newK, methE, methK, parK, allK, tupK, lstK, sl2K, sl1K, itvK, rngK, itaK, dicK, evkK, rsK, setTK, put1, put2, putD, rdO, rdOs, rdA, finC, retL, r_0e, r_1e, r_1z, r_2e, r_2z, r_3e, r_3z, r_4e, r_4z, r_5e, r_5z, r_6e, r_6z, r_7e, r_7z, r_8e, r_8z, r_9e, r_9z, r_10e, r_10z, r_11e, r_11z, wbS, pmL, pmAt, nmA, L2.atI, L2.ixN, so_eq, rngK, r1, e1]
end A02

set_option linter.all false
set_option maxRecDepth 100000
set_option maxHeartbeats 2000000
namespace A02
open PI PySem
theorem base_w {n : Int} {u : D} (h : Wl n u) (hn : n + 30 < 2^20) {m t y : Int} : ∃ (l : List Nat) (v : D), (pSet 5 (pOp1 (fun d g => ro (joinD "" d) g) (.ex (pLc (pRng [(.ex (pOp2 (fun d e g => ro (binD .Add d e) g) (.ex (pC (.int 1))) (.ex (pCall f_law_take [0] [(.r (.nm 0)), (.v (pC (.int 8)))] [.inl 0, .inl 1]))))]) (.nm 10) pYes (pOp2 (fun d e g => ro (ixD d e) g) (.nm 2) (.ex (pCall f_law_take [0] [(.r (.nm 0)), (.v (pC (.int 26)))] [.inl 0, .inl 1]))) [10])))) [some u, some (.int m), some (.str LT), some (.int y), some (.int t), none, none, none, none, none, none] = .ok .nx [some v, some (.int m), some (.str LT), some (.int y), some (.int t), some (.str (ss l)), none, none, none, none, none] ∧ 1 ≤ l.length ∧ l.length ≤ 8 ∧ az l ∧ Wl (n + 9) v := by
  obtain ⟨t3, u3, e3, a3, b3, w3⟩ := take_w h (by omega) (m := 8) (by decide) (by decide)
  obtain ⟨ds, r1, r2, r3⟩ := rng_mem (i := 1 + t3) (by omega) (by omega)
  obtain ⟨ys, g', c1, c2, c3, c4⟩ := lc_run (tg := .nm 10) (e := (pOp2 (fun d e g => ro (ixD d e) g) (.nm 2) (.ex (pCall f_law_take [0] [(.r (.nm 0)), (.v (pC (.int 26)))] [.inl 0, .inl 1])))) (vs := [10]) (R := fun z => ∃ c, z = .str (ss [c]) ∧ 97 ≤ c ∧ c ≤ 122) (ds := ds)
    (fun k g => ∃ v, g = [some v, some (.int m), some (.str LT), some (.int y), some (.int t), none, none, none, none, none, none] ∧ Wl (n + 1 + k) v) (g := [some u3, some (.int m), some (.str LT), some (.int y), some (.int t), none, none, none, none, none, none]) rfl (fun k g d hk hI hd => by
      obtain ⟨v, rfl, hv⟩ := hI
      obtain ⟨q, rfl, q0, q1⟩ := r3 d hd
      rw [r2] at hk
      have hk8 : k < 8 := by omega
      obtain ⟨t4, u4, e4, a4, b4, w4⟩ := take_w hv (by omega) (m := 26) (by decide) (by decide)
      have l1 := letter a4 b4
      refine ⟨_, .str (ss [97 + t4.toNat]), [some u4, some (.int m), some (.str LT), some (.int y), some (.int t), none, none, none, none, none, some (.int q)], rfl, ?_, ⟨_, rfl, by omega, by omega⟩, u4, rfl, ?_⟩
      · simp [q_blkc, q_blk0, q_setc, q_set0, q_retc, q_ret0, q_dropc, q_drop0, q_ifc, q_if0, q_ifec, q_ife0, q_testc, q_test0, q_notc, q_not0, q_andc, q_and0, q_orc, q_or0, q_andvc, q_andv0, q_orvc, q_orv0, q_trc, q_tr0, q_op1c, q_op10, q_op2c, q_op20, q_opsc, q_ops0, q_evnmc, q_evnm0, q_evexc, q_evex0, q_evos0c, q_evos00, q_evoscc, q_evosc0, q_eva0c, q_eva00, q_evavc, q_evav0, q_evarc, q_evar0, q_callc, q_call0, q_newc, q_new0, q_methc, q_meth0, q_parc, q_par0, q_all0c, q_all00, q_allcc, q_allc0, q_tupc, q_tup0, q_lstc, q_lst0, q_sl2c, q_sl20, q_sl1c, q_sl10, q_putc, q_put0, q_fstc, q_fst0, PI.q_forc, q_for0, q_itvc, q_itv0, q_rngc, q_rng0, q_itac, q_ita0, q_lcc, q_lc0, q_dicc, q_dic0, q_evk0c, q_evk00, q_evkcc, q_evkc0, q_rsc, q_rs0, q_yesc, q_yes0, q_chc, q_ch0, q_nxc, q_nx0, q_retnc, q_retn0, q_setTc, q_setT0, k_ro, k_rb, k_rl, k_rt, k_asB, k_add, k_sub, k_mul, k_fdiv, k_mod, k_pow, k_addl, k_bini, k_binl, k_lt, k_le, k_gt, k_ge, k_ixl, k_ixt, k_inti, k_intb, k_abs, k_lenl, k_lent, k_max, k_min, k_s0, k_s1, k_s2, k_s3, k_s4, k_s5, k_s6, k_s7, k_t0, k_t1, k_t2, k_t4, k_eqi, k_nei, k_eqs, k_nes, k_itl, k_itt, k_run, k_for0, q_pVc, q_pC, q_blk, nxt, setK, retK, dropK, ifK, ifEK, notK, andK, orK, andVK, orVK, trK, op1K, op2E, op2K, opsK, nmK, exK, evosK, evvK, evrK, wbC, callK, newE, newK, methE, methK, parK, allK, tupK, lstK, sl2K, sl1K, itvK, rngK, itaK, dicK, evkK, rsK, setTK, put1, put2, putD, rdO, rdOs, rdA, finC, retL, r_0e, r_1e, r_1z, r_2e, r_2z, r_3e, r_3z, r_4e, r_4z, r_5e, r_5z, r_6e, r_6z, r_7e, r_7z, r_8e, r_8z, r_9e, r_9z, r_10e, r_10z, r_11e, r_11z, wbS, pmL, pmAt, nmA, L2.atI, L2.ixN, so_eq, e4, l1]
      · have e : n + 1 + (k : Int) + 1 = n + 1 + ((k + 1 : Nat) : Int) := by omega
        rw [← e]
        exact w4) ⟨u3, rfl, by simpa using w3⟩ (by omega)
  obtain ⟨v, rfl, hv⟩ := c4
  obtain ⟨cs, rfl, hc⟩ := cps_of c3
  rw [List.length_map] at c2
  have j := joinD_ok (b := true) (cs := cs) (by omega)
  refine ⟨cs, v, ?_, by omega, by omega, hc, ?_⟩
  · simp [q_blkc, q_blk0, q_setc, q_set0, q_retc, q_ret0, q_dropc, q_drop0, q_ifc, q_if0, q_ifec, q_ife0, q_testc, q_test0, q_notc, q_not0, q_andc, q_and0, q_orc, q_or0, q_andvc, q_andv0, q_orvc, q_orv0, q_trc, q_tr0, q_op1c, q_op10, q_op2c, q_op20, q_opsc, q_ops0, q_evnmc, q_evnm0, q_evexc, q_evex0, q_evos0c, q_evos00, q_evoscc, q_evosc0, q_eva0c, q_eva00, q_evavc, q_evav0, q_evarc, q_evar0, q_callc, q_call0, q_newc, q_new0, q_methc, q_meth0, q_parc, q_par0, q_all0c, q_all00, q_allcc, q_allc0, q_tupc, q_tup0, q_lstc, q_lst0, q_sl2c, q_sl20, q_sl1c, q_sl10, q_putc, q_put0, q_fstc, q_fst0, PI.q_forc, q_for0, q_itvc, q_itv0, q_rngc, q_rng0, q_itac, q_ita0, q_lcc, q_lc0, q_dicc, q_dic0, q_evk0c, q_evk00, q_evkcc, q_evkc0, q_rsc, q_rs0, q_yesc, q_yes0, q_chc, q_ch0, q_nxc, q_nx0, q_retnc, q_retn0, q_setTc, q_setT0, k_ro, k_rb, k_rl, k_rt, k_asB, k_add, k_sub, k_mul, k_fdiv, k_mod, k_pow, k_addl, k_bini, k_binl, k_lt, k_le, k_gt, k_ge, k_ixl, k_ixt, k_inti, k_intb, k_abs, k_lenl, k_lent, k_max, k_min, k_s0, k_s1, k_s2, k_s3, k_s4, k_s5, k_s6, k_s7, k_t0, k_t1, k_t2, k_t4, k_eqi, k_nei, k_eqs, k_nes, k_itl, k_itt, k_run, k_for0, q_pVc, q_pC, q_blk, nxt, setK, retK, dropK, ifK, ifEK, notK, andK, orK, andVK, orVK, trK, op1K, op2E, op2K, opsK, nmK, exK, evosK, evvK, evrK, wbC, callK, newE, newK, methE, methK, parK, allK, tupK, lstK, sl2K, sl1K, itvK, rngK, itaK, dicK, evkK, rsK, setTK, put1, put2, putD, rdO, rdOs, rdA, finC, retL, r_0e, r_1e, r_1z, r_2e, r_2z, r_3e, r_3z, r_4e, r_4z, r_5e, r_5z, r_6e, r_6z, r_7e, r_7z, r_8e, r_8z, r_9e, r_9z, r_10e, r_10z, r_11e, r_11z, wbS, pmL, pmAt, nmA, L2.atI, L2.ixN, so_eq, e3, rngK, r1, c1, j]
  · obtain ⟨a, b, c, q, r1', r2', r3', r4', r5'⟩ := hv
    exact ⟨a, b, c, q, r1', r2', r3', r4', by omega⟩
theorem spot_w {n : Int} {u : D} (h : Wl n u) (hn : n + 30 < 2^20) {m t y : Int} {l : List Nat} (l1 : 1 ≤ l.length) (l2 : l.length ≤ 8) : ∃ (s p : Int) (v : D), (pSetT [6, 7] (pTup [(pCall f_law_take [0] [(.r (.nm 0)), (.v (pOps (fun ds g => ro (lenD ds) g) [(.nm 5)]))] [.inl 0, .inl 1]), (pOp2 (fun d e g => ro (ixD d e) g) (.ex (pLst [(pC (.int 1)), (pC (.int 3)), (pC (.int 5)), (pC (.int 7)), (pC (.int 11))])) (.ex (pCall f_law_take [0] [(.r (.nm 0)), (.v (pC (.int 5)))] [.inl 0, .inl 1])))])) [some u, some (.int m), some (.str LT), some (.int y), some (.int t), some (.str (ss l)), none, none, none, none, none] = .ok .nx [some v, some (.int m), some (.str LT), some (.int y), some (.int t), some (.str (ss l)), some (.int s), some (.int p), none, none, none] ∧ 0 ≤ s ∧ s < l.length ∧ 0 ≤ p ∧ p ≤ 11 ∧ Wl (n + 2) v := by
  obtain ⟨s, u1, e1, a1, b1, w1⟩ := take_w h (by omega) (m := l.length) (by omega) (by omega)
  obtain ⟨t2, u2, e2, a2, b2, w2⟩ := take_w w1 (by omega) (m := 5) (by decide) (by decide)
  obtain ⟨p, p0, p1, hp⟩ := pace_ok a2 b2
  have len := len_s (l := l) (by omega)
  refine ⟨s, p, u2, ?_, a1, b1, p0, p1, ?_⟩
  · have hp' := hp true
    have lk : lstK [.int 1, .int 3, .int 5, .int 7, .int 11] [some u1, some (.int m), some (.str LT), some (.int y), some (.int t), some (.str (ss l)), none, none, none, none, none] = .ok (.lst true [.int 1, .int 3, .int 5, .int 7, .int 11]) [some u1, some (.int m), some (.str LT), some (.int y), some (.int t), some (.str (ss l)), none, none, none, none, none] := rfl
    generalize hq : D.lst true [.int 1, .int 3, .int 5, .int 7, .int 11] = q at lk hp'
    have se : seqD (.tup [.int s, .int p]) = some [.int s, .int p] := rfl
    simp [q_setTc, q_tupc, q_allcc, q_all0c, q_callc, q_evarc, q_evavc, q_eva0c, q_opsc, q_evoscc, q_evos0c, q_evnmc, q_evexc, q_op2c, q_lstc, q_pC, q_pVc, nmK, exK, opsK, evosK, evrK, evvK, callK, rdA, rdO, rdOs, pmL, pmAt, nmA, wbC, r_2z, wbS, Rs.bind, allK, tupK, setTK, setAll, op2K, op2E, k_ro, k_s2, len, e1, e2, lk, hp', se]
  · obtain ⟨a, b, c, q, r1', r2', r3', r4', r5'⟩ := w2
    exact ⟨a, b, c, q, r1', r2', r3', r4', by omega⟩
theorem way2_w {v : D} {m t y s p : Int} (hm0 : 0 ≤ m) (hm : m ≤ 8) (h0 : 0 ≤ t) (h1 : t < 26) {l : List Nat} (l1 : 1 ≤ l.length) (l2 : l.length ≤ 8) (hl : az l) (s0 : 0 ≤ s) (s1 : s < l.length) (p0 : 0 ≤ p) (p1 : p ≤ 11) :
    ∃ (xs : List Str) (g : Sg), (pRet (pLc (pRng [(.nm 1)]) (.nm 9) pYes (pOp2 (fun d e g => ro (binD .Add d e) g) (.ex (pOp2 (fun d e g => ro (binD .Add d e) g) (.ex (pSl (.nm 5) none (some (pV 6)))) (.ex (pOp2 (fun d e g => ro (ixD d e) g) (.nm 2) (.ex (pOp2 (fun d e g => ro (binD .Mod d e) g) (.ex (pOps (fun ds g => ro (intD ds) g) [(.ex (pOp2 (fun d e g => ro (binD .Add d e) g) (.nm 4) (.ex (pOp2 (fun d e g => ro (binD .Mult d e) g) (.nm 7) (.nm 9)))))])) (.ex (pC (.int 26))))))))) (.ex (pSl (.nm 5) (some (pOp2 (fun d e g => ro (binD .Add d e) g) (.nm 6) (.ex (pC (.int 1))))) none))) [9])) [some v, some (.int m), some (.str LT), some (.int y), some (.int t), some (.str (ss l)), some (.int s), some (.int p), none, none, none] = .ok (.rt (.lst true (xs.map .str))) (some v :: g) ∧ xs.length = m.toNat ∧ ∀ x ∈ xs, NmOk x := by
  obtain ⟨ds, r1, r2, r3⟩ := rng_mem hm0 (by omega)
  have d1 := cut_lo (l := l) s0 (by omega)
  have d2 := cut_hi (l := l) (k := s + 1) (by omega) (by omega) (by omega)
  obtain ⟨ys, g', e1, e2, e3, e4⟩ := lc_run (tg := .nm 9) (e := (pOp2 (fun d e g => ro (binD .Add d e) g) (.ex (pOp2 (fun d e g => ro (binD .Add d e) g) (.ex (pSl (.nm 5) none (some (pV 6)))) (.ex (pOp2 (fun d e g => ro (ixD d e) g) (.nm 2) (.ex (pOp2 (fun d e g => ro (binD .Mod d e) g) (.ex (pOps (fun ds g => ro (intD ds) g) [(.ex (pOp2 (fun d e g => ro (binD .Add d e) g) (.nm 4) (.ex (pOp2 (fun d e g => ro (binD .Mult d e) g) (.nm 7) (.nm 9)))))])) (.ex (pC (.int 26))))))))) (.ex (pSl (.nm 5) (some (pOp2 (fun d e g => ro (binD .Add d e) g) (.nm 6) (.ex (pC (.int 1))))) none)))) (vs := [9]) (R := fun y => ∃ x, y = .str x ∧ NmOk x) (ds := ds)
    (fun _ g => g = [some v, some (.int m), some (.str LT), some (.int y), some (.int t), some (.str (ss l)), some (.int s), some (.int p), none, none, none]) (g := [some v, some (.int m), some (.str LT), some (.int y), some (.int t), some (.str (ss l)), some (.int s), some (.int p), none, none, none]) rfl (fun n g d _ hI hd => by
      subst hI
      obtain ⟨k, rfl, k0, k1⟩ := r3 d hd
      have i0 := Int.emod_nonneg (t + p * k) (b := 26) (by decide)
      have i1 := Int.emod_lt_of_pos (t + p * k) (b := 26) (by decide)
      have le := letter i0 i1
      have mo : mulOk p k = true := mulOk_l (by omega) (by omega)
      refine ⟨_, .str (ss ((l.take s.toNat ++ [97 + ((t + p * k) % 26).toNat]) ++ l.drop (s + 1).toNat)), [some v, some (.int m), some (.str LT), some (.int y), some (.int t), some (.str (ss l)), some (.int s), some (.int p), none, some (.int k), none], rfl, ?_, ⟨_, rfl, _, rfl, ?_, ?_, ?_⟩, rfl⟩
      · have c1 : (ss (l.take s.toNat)).length + (ss [97 + ((t + p * k) % 26).toNat]).length ≤ lim := by
          rw [ss_len, ss_len, List.length_take]
          unfold lim
          simp
          omega
        have c2 : (ss (l.take s.toNat ++ [97 + ((t + p * k) % 26).toNat])).length + (ss (l.drop (s + 1).toNat)).length ≤ lim := by
          rw [ss_len, ss_len, List.length_append, List.length_take, List.length_drop]
          unfold lim
          simp
          omega
        generalize h97 : 97 + ((t + p * k) % 26).toNat = z at le c1 c2 ⊢
        generalize hz : (t + p * k) % 26 = z2 at le
        simp [q_blkc, q_blk0, q_setc, q_set0, q_retc, q_ret0, q_dropc, q_drop0, q_ifc, q_if0, q_ifec, q_ife0, q_testc, q_test0, q_notc, q_not0, q_andc, q_and0, q_orc, q_or0, q_andvc, q_andv0, q_orvc, q_orv0, q_trc, q_tr0, q_op1c, q_op10, q_op2c, q_op20, q_opsc, q_ops0, q_evnmc, q_evnm0, q_evexc, q_evex0, q_evos0c, q_evos00, q_evoscc, q_evosc0, q_eva0c, q_eva00, q_evavc, q_evav0, q_evarc, q_evar0, q_callc, q_call0, q_newc, q_new0, q_methc, q_meth0, q_parc, q_par0, q_all0c, q_all00, q_allcc, q_allc0, q_tupc, q_tup0, q_lstc, q_lst0, q_sl2c, q_sl20, q_sl1c, q_sl10, q_putc, q_put0, q_fstc, q_fst0, PI.q_forc, q_for0, q_itvc, q_itv0, q_rngc, q_rng0, q_itac, q_ita0, q_lcc, q_lc0, q_dicc, q_dic0, q_evk0c, q_evk00, q_evkcc, q_evkc0, q_rsc, q_rs0, q_yesc, q_yes0, q_chc, q_ch0, q_nxc, q_nx0, q_retnc, q_retn0, q_setTc, q_setT0, k_ro, k_rb, k_rl, k_rt, k_asB, k_add, k_sub, k_mul, k_fdiv, k_mod, k_pow, k_addl, k_bini, k_binl, k_lt, k_le, k_gt, k_ge, k_ixl, k_ixt, k_inti, k_intb, k_abs, k_lenl, k_lent, k_max, k_min, k_s0, k_s1, k_s2, k_s3, k_s4, k_s5, k_s6, k_s7, k_t0, k_t1, k_t2, k_t4, k_eqi, k_nei, k_eqs, k_nes, k_itl, k_itt, k_run, k_for0, q_pVc, q_pC, q_blk, nxt, setK, retK, dropK, ifK, ifEK, notK, andK, orK, andVK, orVK, trK, op1K, op2E, op2K, opsK, nmK, exK, evosK, evvK, evrK, wbC, callK, newE, newK, methE, methK, parK, allK, tupK, lstK, sl2K, sl1K, itvK, rngK, itaK, dicK, evkK, rsK, setTK, put1, put2, putD, rdO, rdOs, rdA, finC, retL, r_0e, r_1e, r_1z, r_2e, r_2z, r_3e, r_3z, r_4e, r_4z, r_5e, r_5z, r_6e, r_6z, r_7e, r_7z, r_8e, r_8z, r_9e, r_9z, r_10e, r_10z, r_11e, r_11z, wbS, pmL, pmAt, nmA, L2.atI, L2.ixN, so_eq, q_slc, slK0, slK, q_evp1, q_evp0, evPK, d1, d2, hz, le, mo, k_adds, c1, c2, ss_app]
      · rw [List.length_append, List.length_append, List.length_take, List.length_drop]
        simp
        omega
      · rw [List.length_append, List.length_append, List.length_take, List.length_drop]
        simp
        omega
      · exact az_app (az_app (fun c hc => hl c (List.mem_of_mem_take hc)) (letter_nm i0 i1)) (fun c hc => hl c (List.mem_of_mem_drop hc))) rfl (by omega)
  subst e4
  obtain ⟨xs, rfl, hx⟩ := strs_of e3
  refine ⟨xs, [some (.int m), some (.str LT), some (.int y), some (.int t), some (.str (ss l)), some (.int s), some (.int p), none, none, none], ?_, by rw [← r2, ← e2, List.length_map], hx⟩
  simp [q_blkc, q_blk0, q_setc, q_set0, q_retc, q_ret0, q_dropc, q_drop0, q_ifc, q_if0, q_ifec, q_ife0, q_testc, q_test0, q_notc, q_not0, q_andc, q_and0, q_orc, q_or0, q_andvc, q_andv0, q_orvc, q_orv0, q_trc, q_tr0, q_op1c, q_op10, q_op2c, q_op20, q_opsc, q_ops0, q_evnmc, q_evnm0, q_evexc, q_evex0, q_evos0c, q_evos00, q_evoscc, q_evosc0, q_eva0c, q_eva00, q_evavc, q_evav0, q_evarc, q_evar0, q_callc, q_call0, q_newc, q_new0, q_methc, q_meth0, q_parc, q_par0, q_all0c, q_all00, q_allcc, q_allc0, q_tupc, q_tup0, q_lstc, q_lst0, q_sl2c, q_sl20, q_sl1c, q_sl10, q_putc, q_put0, q_fstc, q_fst0, PI.q_forc, q_for0, q_itvc, q_itv0, q_rngc, q_rng0, q_itac, q_ita0, q_lcc, q_lc0, q_dicc, q_dic0, q_evk0c, q_evk00, q_evkcc, q_evkc0, q_rsc, q_rs0, q_yesc, q_yes0, q_chc, q_ch0, q_nxc, q_nx0, q_retnc, q_retn0, q_setTc, q_setT0, k_ro, k_rb, k_rl, k_rt, k_asB, k_add, k_sub, k_mul, k_fdiv, k_mod, k_pow, k_addl, k_bini, k_binl, k_lt, k_le, k_gt, k_ge, k_ixl, k_ixt, k_inti, k_intb, k_abs, k_lenl, k_lent, k_max, k_min, k_s0, k_s1, k_s2, k_s3, k_s4, k_s5, k_s6, k_s7, k_t0, k_t1, k_t2, k_t4, k_eqi, k_nei, k_eqs, k_nes, k_itl, k_itt, k_run, k_for0, q_pVc, q_pC, q_blk, nxt, setK, retK, dropK, ifK, ifEK, notK, andK, orK, andVK, orVK, trK, op1K, op2E, op2K, opsK, nmK, exK, evosK, evvK, evrK, wbC, callK, newE, newK, methE, methK, parK, allK, tupK, lstK, sl2K, sl1K, itvK, rngK, itaK, dicK, evkK, rsK, setTK, put1, put2, putD, rdO, rdOs, rdA, finC, retL, r_0e, r_1e, r_1z, r_2e, r_2z, r_3e, r_3z, r_4e, r_4z, r_5e, r_5z, r_6e, r_6z, r_7e, r_7z, r_8e, r_8z, r_9e, r_9z, r_10e, r_10z, r_11e, r_11z, wbS, pmL, pmAt, nmA, L2.atI, L2.ixN, so_eq, rngK, r1, e1]
/-- the names of cells that a law draws -/
theorem cells_w {n : Int} {u : D} (h : Wl n u) (hn : n + 50 < 2^20) {m : Int} (hm0 : 0 ≤ m) (hm : m ≤ 8) : ∃ (xs : List Str) (v : D), f_law_cells [u, .int m] = .ok (.lst true (xs.map .str)) [v] ∧ xs.length = m.toNat ∧ (∀ x ∈ xs, NmOk x) ∧ Wl (n + 20) v := by
  obtain ⟨y, u1, e1, a1, b1, w1⟩ := take_w h (by omega) (m := 4) (by decide) (by decide)
  obtain ⟨t, u2, e2, a2, b2, w2⟩ := take_w w1 (by omega) (m := 26) (by decide) (by decide)
  have s0 : (pSetT [2, 3, 4] (pTup [(pC (.str "abcdefghijklmnopqrstuvwxyz")), (pCall f_law_take [0] [(.r (.nm 0)), (.v (pC (.int 4)))] [.inl 0, .inl 1]), (pCall f_law_take [0] [(.r (.nm 0)), (.v (pC (.int 26)))] [.inl 0, .inl 1])])) [some u, some (.int m), none, none, none, none, none, none, none, none, none] = .ok .nx [some u2, some (.int m), some (.str LT), some (.int y), some (.int t), none, none, none, none, none, none] := by
    simp [q_blkc, q_blk0, q_setc, q_set0, q_retc, q_ret0, q_dropc, q_drop0, q_ifc, q_if0, q_ifec, q_ife0, q_testc, q_test0, q_notc, q_not0, q_andc, q_and0, q_orc, q_or0, q_andvc, q_andv0, q_orvc, q_orv0, q_trc, q_tr0, q_op1c, q_op10, q_op2c, q_op20, q_opsc, q_ops0, q_evnmc, q_evnm0, q_evexc, q_evex0, q_evos0c, q_evos00, q_evoscc, q_evosc0, q_eva0c, q_eva00, q_evavc, q_evav0, q_evarc, q_evar0, q_callc, q_call0, q_newc, q_new0, q_methc, q_meth0, q_parc, q_par0, q_all0c, q_all00, q_allcc, q_allc0, q_tupc, q_tup0, q_lstc, q_lst0, q_sl2c, q_sl20, q_sl1c, q_sl10, q_putc, q_put0, q_fstc, q_fst0, PI.q_forc, q_for0, q_itvc, q_itv0, q_rngc, q_rng0, q_itac, q_ita0, q_lcc, q_lc0, q_dicc, q_dic0, q_evk0c, q_evk00, q_evkcc, q_evkc0, q_rsc, q_rs0, q_yesc, q_yes0, q_chc, q_ch0, q_nxc, q_nx0, q_retnc, q_retn0, q_setTc, q_setT0, k_ro, k_rb, k_rl, k_rt, k_asB, k_add, k_sub, k_mul, k_fdiv, k_mod, k_pow, k_addl, k_bini, k_binl, k_lt, k_le, k_gt, k_ge, k_ixl, k_ixt, k_inti, k_intb, k_abs, k_lenl, k_lent, k_max, k_min, k_s0, k_s1, k_s2, k_s3, k_s4, k_s5, k_s6, k_s7, k_t0, k_t1, k_t2, k_t4, k_eqi, k_nei, k_eqs, k_nes, k_itl, k_itt, k_run, k_for0, q_pVc, q_pC, q_blk, nxt, setK, retK, dropK, ifK, ifEK, notK, andK, orK, andVK, orVK, trK, op1K, op2E, op2K, opsK, nmK, exK, evosK, evvK, evrK, wbC, callK, newE, newK, methE, methK, parK, allK, tupK, lstK, sl2K, sl1K, itvK, rngK, itaK, dicK, evkK, rsK, setTK, put1, put2, putD, rdO, rdOs, rdA, finC, retL, r_0e, r_1e, r_1z, r_2e, r_2z, r_3e, r_3z, r_4e, r_4z, r_5e, r_5z, r_6e, r_6z, r_7e, r_7z, r_8e, r_8z, r_9e, r_9z, r_10e, r_10z, r_11e, r_11z, wbS, pmL, pmAt, nmA, L2.atI, L2.ixN, so_eq, e1, e2, setAll, seqD]
  unfold f_law_cells m_law_cells
  have up : ∀ {k : Int} {v : D}, Wl (n + 2 + k) v → k ≤ 18 → Wl (n + 20) v := fun hv hk => by
    obtain ⟨a, b, c, q, r1', r2', r3', r4', r5'⟩ := hv
    exact ⟨a, b, c, q, r1', r2', r3', r4', by omega⟩
  have w2' : Wl (n + 2) u2 := by
    obtain ⟨a, b, c, q, r1', r2', r3', r4', r5'⟩ := w2
    exact ⟨a, b, c, q, r1', r2', r3', r4', by omega⟩
  by_cases y0 : y = 0
  · subst y0
    obtain ⟨xs, f1, f2, f3⟩ := way0_w (u := u2) hm0 hm a2 b2
    refine ⟨xs, u2, ?_, f2, f3, up (k := 0) (by simpa using w2') (by decide)⟩
    rw [k_run]
    show finC [0] (pBlk _ [some u, some (.int m), none, none, none, none, none, none, none, none, none]) = _
    rw [blk_step s0, blk_ret f1]
    rfl
  by_cases y1 : y = 1
  · subst y1
    obtain ⟨xs, g, f1, f2, f3⟩ := way1_w (u := u2) hm0 hm a2 b2
    refine ⟨xs, u2, ?_, f2, f3, up (k := 0) (by simpa using w2') (by decide)⟩
    have z1 : (pIf (pTest (pOp2 (fun d e g => rb (cmpD .Eq d e) g) (.nm 3) (.ex (pC (.int 0))))) (pBlk [(pRet (pLc (pRng [(.nm 1)]) (.nm 9) pYes (pOp2 (fun d e g => ro (binD .Mult d e) g) (.ex (pOp2 (fun d e g => ro (ixD d e) g) (.nm 2) (.nm 4))) (.ex (pOp2 (fun d e g => ro (binD .Add d e) g) (.nm 9) (.ex (pC (.int 1)))))) [9]))]) (pBlk [])) [some u2, some (.int m), some (.str LT), some (.int 1), some (.int t), none, none, none, none, none, none] = .ok .nx [some u2, some (.int m), some (.str LT), some (.int 1), some (.int t), none, none, none, none, none, none] := by
      simp [q_blkc, q_blk0, q_setc, q_set0, q_retc, q_ret0, q_dropc, q_drop0, q_ifc, q_if0, q_ifec, q_ife0, q_testc, q_test0, q_notc, q_not0, q_andc, q_and0, q_orc, q_or0, q_andvc, q_andv0, q_orvc, q_orv0, q_trc, q_tr0, q_op1c, q_op10, q_op2c, q_op20, q_opsc, q_ops0, q_evnmc, q_evnm0, q_evexc, q_evex0, q_evos0c, q_evos00, q_evoscc, q_evosc0, q_eva0c, q_eva00, q_evavc, q_evav0, q_evarc, q_evar0, q_callc, q_call0, q_newc, q_new0, q_methc, q_meth0, q_parc, q_par0, q_all0c, q_all00, q_allcc, q_allc0, q_tupc, q_tup0, q_lstc, q_lst0, q_sl2c, q_sl20, q_sl1c, q_sl10, q_putc, q_put0, q_fstc, q_fst0, PI.q_forc, q_for0, q_itvc, q_itv0, q_rngc, q_rng0, q_itac, q_ita0, q_lcc, q_lc0, q_dicc, q_dic0, q_evk0c, q_evk00, q_evkcc, q_evkc0, q_rsc, q_rs0, q_yesc, q_yes0, q_chc, q_ch0, q_nxc, q_nx0, q_retnc, q_retn0, q_setTc, q_setT0, k_ro, k_rb, k_rl, k_rt, k_asB, k_add, k_sub, k_mul, k_fdiv, k_mod, k_pow, k_addl, k_bini, k_binl, k_lt, k_le, k_gt, k_ge, k_ixl, k_ixt, k_inti, k_intb, k_abs, k_lenl, k_lent, k_max, k_min, k_s0, k_s1, k_s2, k_s3, k_s4, k_s5, k_s6, k_s7, k_t0, k_t1, k_t2, k_t4, k_eqi, k_nei, k_eqs, k_nes, k_itl, k_itt, k_run, k_for0, q_pVc, q_pC, q_blk, nxt, setK, retK, dropK, ifK, ifEK, notK, andK, orK, andVK, orVK, trK, op1K, op2E, op2K, opsK, nmK, exK, evosK, evvK, evrK, wbC, callK, newE, newK, methE, methK, parK, allK, tupK, lstK, sl2K, sl1K, itvK, rngK, itaK, dicK, evkK, rsK, setTK, put1, put2, putD, rdO, rdOs, rdA, finC, retL, r_0e, r_1e, r_1z, r_2e, r_2z, r_3e, r_3z, r_4e, r_4z, r_5e, r_5z, r_6e, r_6z, r_7e, r_7z, r_8e, r_8z, r_9e, r_9z, r_10e, r_10z, r_11e, r_11z, wbS, pmL, pmAt, nmA, L2.atI, L2.ixN, so_eq]
    rw [k_run]
    show finC [0] (pBlk _ [some u, some (.int m), none, none, none, none, none, none, none, none, none]) = _
    rw [blk_step s0, blk_step z1, blk_ret f1]
    rfl
  obtain ⟨l, u3, f3, l1, l2, l3, w3⟩ := base_w w2' (by omega) (m := m) (t := t) (y := y)
  obtain ⟨s, p, u4, f4, q1, q2, q3, q4, w4⟩ := spot_w w3 (by omega) (m := m) (t := t) (y := y) l1 l2
  obtain ⟨xs, g, f5, f6, f7⟩ := way2_w (v := u4) (y := y) hm0 hm a2 b2 l1 l2 l3 q1 q2 q3 q4
  refine ⟨xs, u4, ?_, f6, f7, up (k := 11) (by
    obtain ⟨a, b, c, q, r1', r2', r3', r4', r5'⟩ := w4
    exact ⟨a, b, c, q, r1', r2', r3', r4', by omega⟩) (by decide)⟩
  have z1 : (pIf (pTest (pOp2 (fun d e g => rb (cmpD .Eq d e) g) (.nm 3) (.ex (pC (.int 0))))) (pBlk [(pRet (pLc (pRng [(.nm 1)]) (.nm 9) pYes (pOp2 (fun d e g => ro (binD .Mult d e) g) (.ex (pOp2 (fun d e g => ro (ixD d e) g) (.nm 2) (.nm 4))) (.ex (pOp2 (fun d e g => ro (binD .Add d e) g) (.nm 9) (.ex (pC (.int 1)))))) [9]))]) (pBlk [])) [some u2, some (.int m), some (.str LT), some (.int y), some (.int t), none, none, none, none, none, none] = .ok .nx [some u2, some (.int m), some (.str LT), some (.int y), some (.int t), none, none, none, none, none, none] := by
    simp [q_blkc, q_blk0, q_setc, q_set0, q_retc, q_ret0, q_dropc, q_drop0, q_ifc, q_if0, q_ifec, q_ife0, q_testc, q_test0, q_notc, q_not0, q_andc, q_and0, q_orc, q_or0, q_andvc, q_andv0, q_orvc, q_orv0, q_trc, q_tr0, q_op1c, q_op10, q_op2c, q_op20, q_opsc, q_ops0, q_evnmc, q_evnm0, q_evexc, q_evex0, q_evos0c, q_evos00, q_evoscc, q_evosc0, q_eva0c, q_eva00, q_evavc, q_evav0, q_evarc, q_evar0, q_callc, q_call0, q_newc, q_new0, q_methc, q_meth0, q_parc, q_par0, q_all0c, q_all00, q_allcc, q_allc0, q_tupc, q_tup0, q_lstc, q_lst0, q_sl2c, q_sl20, q_sl1c, q_sl10, q_putc, q_put0, q_fstc, q_fst0, PI.q_forc, q_for0, q_itvc, q_itv0, q_rngc, q_rng0, q_itac, q_ita0, q_lcc, q_lc0, q_dicc, q_dic0, q_evk0c, q_evk00, q_evkcc, q_evkc0, q_rsc, q_rs0, q_yesc, q_yes0, q_chc, q_ch0, q_nxc, q_nx0, q_retnc, q_retn0, q_setTc, q_setT0, k_ro, k_rb, k_rl, k_rt, k_asB, k_add, k_sub, k_mul, k_fdiv, k_mod, k_pow, k_addl, k_bini, k_binl, k_lt, k_le, k_gt, k_ge, k_ixl, k_ixt, k_inti, k_intb, k_abs, k_lenl, k_lent, k_max, k_min, k_s0, k_s1, k_s2, k_s3, k_s4, k_s5, k_s6, k_s7, k_t0, k_t1, k_t2, k_t4, k_eqi, k_nei, k_eqs, k_nes, k_itl, k_itt, k_run, k_for0, q_pVc, q_pC, q_blk, nxt, setK, retK, dropK, ifK, ifEK, notK, andK, orK, andVK, orVK, trK, op1K, op2E, op2K, opsK, nmK, exK, evosK, evvK, evrK, wbC, callK, newE, newK, methE, methK, parK, allK, tupK, lstK, sl2K, sl1K, itvK, rngK, itaK, dicK, evkK, rsK, setTK, put1, put2, putD, rdO, rdOs, rdA, finC, retL, r_0e, r_1e, r_1z, r_2e, r_2z, r_3e, r_3z, r_4e, r_4z, r_5e, r_5z, r_6e, r_6z, r_7e, r_7z, r_8e, r_8z, r_9e, r_9z, r_10e, r_10z, r_11e, r_11z, wbS, pmL, pmAt, nmA, L2.atI, L2.ixN, so_eq, y0]
  have z2 : (pIf (pTest (pOp2 (fun d e g => rb (cmpD .Eq d e) g) (.nm 3) (.ex (pC (.int 1))))) (pBlk [(pSet 8 (pLst [(pC (.str "put")), (pC (.str "when")), (pC (.str "answer")), (pC (.str "else")), (pC (.str "own")), (pC (.str "common")), (pC (.str "kind")), (pC (.str "mod")), (pC (.str "argument")), (pC (.str "passed")), (pC (.str "names")), (pC (.str "held"))])), (pRet (pLc (pRng [(.nm 1)]) (.nm 9) pYes (pOp2 (fun d e g => ro (ixD d e) g) (.nm 8) (.ex (pOp2 (fun d e g => ro (binD .Mod d e) g) (.ex (pOps (fun ds g => ro (intD ds) g) [(.ex (pOp2 (fun d e g => ro (binD .Add d e) g) (.nm 4) (.nm 9)))])) (.ex (pC (.int 12)))))) [9]))]) (pBlk [])) [some u2, some (.int m), some (.str LT), some (.int y), some (.int t), none, none, none, none, none, none] = .ok .nx [some u2, some (.int m), some (.str LT), some (.int y), some (.int t), none, none, none, none, none, none] := by
    simp [q_blkc, q_blk0, q_setc, q_set0, q_retc, q_ret0, q_dropc, q_drop0, q_ifc, q_if0, q_ifec, q_ife0, q_testc, q_test0, q_notc, q_not0, q_andc, q_and0, q_orc, q_or0, q_andvc, q_andv0, q_orvc, q_orv0, q_trc, q_tr0, q_op1c, q_op10, q_op2c, q_op20, q_opsc, q_ops0, q_evnmc, q_evnm0, q_evexc, q_evex0, q_evos0c, q_evos00, q_evoscc, q_evosc0, q_eva0c, q_eva00, q_evavc, q_evav0, q_evarc, q_evar0, q_callc, q_call0, q_newc, q_new0, q_methc, q_meth0, q_parc, q_par0, q_all0c, q_all00, q_allcc, q_allc0, q_tupc, q_tup0, q_lstc, q_lst0, q_sl2c, q_sl20, q_sl1c, q_sl10, q_putc, q_put0, q_fstc, q_fst0, PI.q_forc, q_for0, q_itvc, q_itv0, q_rngc, q_rng0, q_itac, q_ita0, q_lcc, q_lc0, q_dicc, q_dic0, q_evk0c, q_evk00, q_evkcc, q_evkc0, q_rsc, q_rs0, q_yesc, q_yes0, q_chc, q_ch0, q_nxc, q_nx0, q_retnc, q_retn0, q_setTc, q_setT0, k_ro, k_rb, k_rl, k_rt, k_asB, k_add, k_sub, k_mul, k_fdiv, k_mod, k_pow, k_addl, k_bini, k_binl, k_lt, k_le, k_gt, k_ge, k_ixl, k_ixt, k_inti, k_intb, k_abs, k_lenl, k_lent, k_max, k_min, k_s0, k_s1, k_s2, k_s3, k_s4, k_s5, k_s6, k_s7, k_t0, k_t1, k_t2, k_t4, k_eqi, k_nei, k_eqs, k_nes, k_itl, k_itt, k_run, k_for0, q_pVc, q_pC, q_blk, nxt, setK, retK, dropK, ifK, ifEK, notK, andK, orK, andVK, orVK, trK, op1K, op2E, op2K, opsK, nmK, exK, evosK, evvK, evrK, wbC, callK, newE, newK, methE, methK, parK, allK, tupK, lstK, sl2K, sl1K, itvK, rngK, itaK, dicK, evkK, rsK, setTK, put1, put2, putD, rdO, rdOs, rdA, finC, retL, r_0e, r_1e, r_1z, r_2e, r_2z, r_3e, r_3z, r_4e, r_4z, r_5e, r_5z, r_6e, r_6z, r_7e, r_7z, r_8e, r_8z, r_9e, r_9z, r_10e, r_10z, r_11e, r_11z, wbS, pmL, pmAt, nmA, L2.atI, L2.ixN, so_eq, y1]
  rw [k_run]
  show finC [0] (pBlk _ [some u, some (.int m), none, none, none, none, none, none, none, none, none]) = _
  rw [blk_step s0, blk_step z1, blk_step z2, blk_step f3, blk_step f4, blk_ret f5]
  rfl
end A02

set_option linter.all false
set_option maxRecDepth 100000
set_option maxHeartbeats 1000000
namespace A02
open PI PySem
/-! ### names of a cell, of a step -/
theorem o0 : PyData.strOk "cell" = true := by kernel_rfl
theorem o1 : PyData.strOk "number" = true := by kernel_rfl
theorem o2 : PyData.strOk "put" = true := by kernel_rfl
theorem ta : binD .Add (.tup []) (.tup []) = some (.tup []) := by kernel_rfl
theorem is_c (b : Bool) (x : Str) : cmpD .Is (vC b x) .non = some false := rfl
theorem is_s (b : Bool) (x : Str) (k : Int) : cmpD .Is (vS b x k) .non = some false := rfl
theorem is_n : cmpD .Is .non .non = some true := rfl
theorem parts_c (x : Str) : f_parts_of [vC false x] = .ok (.lst true []) [] := by
  unfold f_parts_of m_parts_of
  simp [q_blkc, q_blk0, q_setc, q_set0, q_retc, q_ret0, q_dropc, q_drop0, q_ifc, q_if0, q_ifec, q_ife0, q_testc, q_test0, q_notc, q_not0, q_andc, q_and0, q_orc, q_or0, q_andvc, q_andv0, q_orvc, q_orv0, q_trc, q_tr0, q_op1c, q_op10, q_op2c, q_op20, q_opsc, q_ops0, q_evnmc, q_evnm0, q_evexc, q_evex0, q_evos0c, q_evos00, q_evoscc, q_evosc0, q_eva0c, q_eva00, q_evavc, q_evav0, q_evarc, q_evar0, q_callc, q_call0, q_newc, q_new0, q_methc, q_meth0, q_parc, q_par0, q_all0c, q_all00, q_allcc, q_allc0, q_tupc, q_tup0, q_lstc, q_lst0, q_sl2c, q_sl20, q_sl1c, q_sl10, q_putc, q_put0, q_fstc, q_fst0, PI.q_forc, q_for0, q_itvc, q_itv0, q_rngc, q_rng0, q_itac, q_ita0, q_lcc, q_lc0, q_dicc, q_dic0, q_evk0c, q_evk00, q_evkcc, q_evkc0, q_rsc, q_rs0, q_yesc, q_yes0, q_chc, q_ch0, q_nxc, q_nx0, q_retnc, q_retn0, q_setTc, q_setT0, k_ro, k_rb, k_rl, k_rt, k_asB, k_add, k_sub, k_mul, k_fdiv, k_mod, k_pow, k_addl, k_bini, k_binl, k_lt, k_le, k_gt, k_ge, k_ixl, k_ixt, k_inti, k_intb, k_abs, k_lenl, k_lent, k_max, k_min, k_s0, k_s1, k_s2, k_s3, k_s4, k_s5, k_s6, k_s7, k_t0, k_t1, k_t2, k_t4, k_eqi, k_nei, k_eqs, k_nes, k_itl, k_itt, k_run, k_for0, q_pVc, q_pC, q_blk, nxt, setK, retK, dropK, ifK, ifEK, notK, andK, orK, andVK, orVK, trK, op1K, op2E, op2K, opsK, nmK, exK, evosK, evvK, evrK, wbC, callK, newE, newK, methE, methK, parK, allK, tupK, lstK, sl2K, sl1K, itvK, rngK, itaK, dicK, evkK, rsK, setTK, put1, put2, putD, rdO, rdOs, rdA, finC, retL, r_0e, r_1e, r_1z, r_2e, r_2z, r_3e, r_3z, r_4e, r_4z, r_5e, r_5z, r_6e, r_6z, r_7e, r_7z, r_8e, r_8z, r_9e, r_9z, r_10e, r_10z, r_11e, r_11z, wbS, pmL, pmAt, nmA, L2.atI, L2.ixN, so_eq, q_fld, x_s, x_f, x_d, k_in3]
theorem parts_n (k : Int) : f_parts_of [vN false k] = .ok (.lst true []) [] := by
  unfold f_parts_of m_parts_of
  simp [q_blkc, q_blk0, q_setc, q_set0, q_retc, q_ret0, q_dropc, q_drop0, q_ifc, q_if0, q_ifec, q_ife0, q_testc, q_test0, q_notc, q_not0, q_andc, q_and0, q_orc, q_or0, q_andvc, q_andv0, q_orvc, q_orv0, q_trc, q_tr0, q_op1c, q_op10, q_op2c, q_op20, q_opsc, q_ops0, q_evnmc, q_evnm0, q_evexc, q_evex0, q_evos0c, q_evos00, q_evoscc, q_evosc0, q_eva0c, q_eva00, q_evavc, q_evav0, q_evarc, q_evar0, q_callc, q_call0, q_newc, q_new0, q_methc, q_meth0, q_parc, q_par0, q_all0c, q_all00, q_allcc, q_allc0, q_tupc, q_tup0, q_lstc, q_lst0, q_sl2c, q_sl20, q_sl1c, q_sl10, q_putc, q_put0, q_fstc, q_fst0, PI.q_forc, q_for0, q_itvc, q_itv0, q_rngc, q_rng0, q_itac, q_ita0, q_lcc, q_lc0, q_dicc, q_dic0, q_evk0c, q_evk00, q_evkcc, q_evkc0, q_rsc, q_rs0, q_yesc, q_yes0, q_chc, q_ch0, q_nxc, q_nx0, q_retnc, q_retn0, q_setTc, q_setT0, k_ro, k_rb, k_rl, k_rt, k_asB, k_add, k_sub, k_mul, k_fdiv, k_mod, k_pow, k_addl, k_bini, k_binl, k_lt, k_le, k_gt, k_ge, k_ixl, k_ixt, k_inti, k_intb, k_abs, k_lenl, k_lent, k_max, k_min, k_s0, k_s1, k_s2, k_s3, k_s4, k_s5, k_s6, k_s7, k_t0, k_t1, k_t2, k_t4, k_eqi, k_nei, k_eqs, k_nes, k_itl, k_itt, k_run, k_for0, q_pVc, q_pC, q_blk, nxt, setK, retK, dropK, ifK, ifEK, notK, andK, orK, andVK, orVK, trK, op1K, op2E, op2K, opsK, nmK, exK, evosK, evvK, evrK, wbC, callK, newE, newK, methE, methK, parK, allK, tupK, lstK, sl2K, sl1K, itvK, rngK, itaK, dicK, evkK, rsK, setTK, put1, put2, putD, rdO, rdOs, rdA, finC, retL, r_0e, r_1e, r_1z, r_2e, r_2z, r_3e, r_3z, r_4e, r_4z, r_5e, r_5z, r_6e, r_6z, r_7e, r_7z, r_8e, r_8z, r_9e, r_9z, r_10e, r_10z, r_11e, r_11z, wbS, pmL, pmAt, nmA, L2.atI, L2.ixN, so_eq, q_fld, x_s, x_f, x_d, k_in3]
theorem names_c (n : Nat) (x : Str) : f_names_in (n + 1) [vC false x] = .ok (.lst false [.str x]) [] := by
  have p := parts_c x
  unfold f_names_in m_names_in
  simp [q_blkc, q_blk0, q_setc, q_set0, q_retc, q_ret0, q_dropc, q_drop0, q_ifc, q_if0, q_ifec, q_ife0, q_testc, q_test0, q_notc, q_not0, q_andc, q_and0, q_orc, q_or0, q_andvc, q_andv0, q_orvc, q_orv0, q_trc, q_tr0, q_op1c, q_op10, q_op2c, q_op20, q_opsc, q_ops0, q_evnmc, q_evnm0, q_evexc, q_evex0, q_evos0c, q_evos00, q_evoscc, q_evosc0, q_eva0c, q_eva00, q_evavc, q_evav0, q_evarc, q_evar0, q_callc, q_call0, q_newc, q_new0, q_methc, q_meth0, q_parc, q_par0, q_all0c, q_all00, q_allcc, q_allc0, q_tupc, q_tup0, q_lstc, q_lst0, q_sl2c, q_sl20, q_sl1c, q_sl10, q_putc, q_put0, q_fstc, q_fst0, PI.q_forc, q_for0, q_itvc, q_itv0, q_rngc, q_rng0, q_itac, q_ita0, q_lcc, q_lc0, q_dicc, q_dic0, q_evk0c, q_evk00, q_evkcc, q_evkc0, q_rsc, q_rs0, q_yesc, q_yes0, q_chc, q_ch0, q_nxc, q_nx0, q_retnc, q_retn0, q_setTc, q_setT0, k_ro, k_rb, k_rl, k_rt, k_asB, k_add, k_sub, k_mul, k_fdiv, k_mod, k_pow, k_addl, k_bini, k_binl, k_lt, k_le, k_gt, k_ge, k_ixl, k_ixt, k_inti, k_intb, k_abs, k_lenl, k_lent, k_max, k_min, k_s0, k_s1, k_s2, k_s3, k_s4, k_s5, k_s6, k_s7, k_t0, k_t1, k_t2, k_t4, k_eqi, k_nei, k_eqs, k_nes, k_itl, k_itt, k_run, k_for0, q_pVc, q_pC, q_blk, nxt, setK, retK, dropK, ifK, ifEK, notK, andK, orK, andVK, orVK, trK, op1K, op2E, op2K, opsK, nmK, exK, evosK, evvK, evrK, wbC, callK, newE, newK, methE, methK, parK, allK, tupK, lstK, sl2K, sl1K, itvK, rngK, itaK, dicK, evkK, rsK, setTK, put1, put2, putD, rdO, rdOs, rdA, finC, retL, r_0e, r_1e, r_1z, r_2e, r_2z, r_3e, r_3z, r_4e, r_4z, r_5e, r_5z, r_6e, r_6z, r_7e, r_7z, r_8e, r_8z, r_9e, r_9z, r_10e, r_10z, r_11e, r_11z, wbS, pmL, pmAt, nmA, L2.atI, L2.ixN, so_eq, q_fld, x_s, x_f, x_d, p, k_for0, o0]
theorem names_n (n : Nat) (k : Int) : f_names_in (n + 1) [vN false k] = .ok (.lst false []) [] := by
  have p := parts_n k
  unfold f_names_in m_names_in
  simp [q_blkc, q_blk0, q_setc, q_set0, q_retc, q_ret0, q_dropc, q_drop0, q_ifc, q_if0, q_ifec, q_ife0, q_testc, q_test0, q_notc, q_not0, q_andc, q_and0, q_orc, q_or0, q_andvc, q_andv0, q_orvc, q_orv0, q_trc, q_tr0, q_op1c, q_op10, q_op2c, q_op20, q_opsc, q_ops0, q_evnmc, q_evnm0, q_evexc, q_evex0, q_evos0c, q_evos00, q_evoscc, q_evosc0, q_eva0c, q_eva00, q_evavc, q_evav0, q_evarc, q_evar0, q_callc, q_call0, q_newc, q_new0, q_methc, q_meth0, q_parc, q_par0, q_all0c, q_all00, q_allcc, q_allc0, q_tupc, q_tup0, q_lstc, q_lst0, q_sl2c, q_sl20, q_sl1c, q_sl10, q_putc, q_put0, q_fstc, q_fst0, PI.q_forc, q_for0, q_itvc, q_itv0, q_rngc, q_rng0, q_itac, q_ita0, q_lcc, q_lc0, q_dicc, q_dic0, q_evk0c, q_evk00, q_evkcc, q_evkc0, q_rsc, q_rs0, q_yesc, q_yes0, q_chc, q_ch0, q_nxc, q_nx0, q_retnc, q_retn0, q_setTc, q_setT0, k_ro, k_rb, k_rl, k_rt, k_asB, k_add, k_sub, k_mul, k_fdiv, k_mod, k_pow, k_addl, k_bini, k_binl, k_lt, k_le, k_gt, k_ge, k_ixl, k_ixt, k_inti, k_intb, k_abs, k_lenl, k_lent, k_max, k_min, k_s0, k_s1, k_s2, k_s3, k_s4, k_s5, k_s6, k_s7, k_t0, k_t1, k_t2, k_t4, k_eqi, k_nei, k_eqs, k_nes, k_itl, k_itt, k_run, k_for0, q_pVc, q_pC, q_blk, nxt, setK, retK, dropK, ifK, ifEK, notK, andK, orK, andVK, orVK, trK, op1K, op2E, op2K, opsK, nmK, exK, evosK, evvK, evrK, wbC, callK, newE, newK, methE, methK, parK, allK, tupK, lstK, sl2K, sl1K, itvK, rngK, itaK, dicK, evkK, rsK, setTK, put1, put2, putD, rdO, rdOs, rdA, finC, retL, r_0e, r_1e, r_1z, r_2e, r_2z, r_3e, r_3z, r_4e, r_4z, r_5e, r_5z, r_6e, r_6z, r_7e, r_7z, r_8e, r_8z, r_9e, r_9z, r_10e, r_10z, r_11e, r_11z, wbS, pmL, pmAt, nmA, L2.atI, L2.ixN, so_eq, q_fld, x_s, x_f, x_d, p, k_for0, o0, o1]
theorem names_s (n : Nat) (x : Str) (k : Int) : f_names_of_step (n + 1) [vS false x k] = .ok (.lst false [.str x]) [] := by
  have p := names_n 7 k
  unfold f_names_of_step m_names_of_step
  have l1 : 1 ≤ lim := by unfold lim; omega
  simp [q_blkc, q_blk0, q_setc, q_set0, q_retc, q_ret0, q_dropc, q_drop0, q_ifc, q_if0, q_ifec, q_ife0, q_testc, q_test0, q_notc, q_not0, q_andc, q_and0, q_orc, q_or0, q_andvc, q_andv0, q_orvc, q_orv0, q_trc, q_tr0, q_op1c, q_op10, q_op2c, q_op20, q_opsc, q_ops0, q_evnmc, q_evnm0, q_evexc, q_evex0, q_evos0c, q_evos00, q_evoscc, q_evosc0, q_eva0c, q_eva00, q_evavc, q_evav0, q_evarc, q_evar0, q_callc, q_call0, q_newc, q_new0, q_methc, q_meth0, q_parc, q_par0, q_all0c, q_all00, q_allcc, q_allc0, q_tupc, q_tup0, q_lstc, q_lst0, q_sl2c, q_sl20, q_sl1c, q_sl10, q_putc, q_put0, q_fstc, q_fst0, PI.q_forc, q_for0, q_itvc, q_itv0, q_rngc, q_rng0, q_itac, q_ita0, q_lcc, q_lc0, q_dicc, q_dic0, q_evk0c, q_evk00, q_evkcc, q_evkc0, q_rsc, q_rs0, q_yesc, q_yes0, q_chc, q_ch0, q_nxc, q_nx0, q_retnc, q_retn0, q_setTc, q_setT0, k_ro, k_rb, k_rl, k_rt, k_asB, k_add, k_sub, k_mul, k_fdiv, k_mod, k_pow, k_addl, k_bini, k_binl, k_lt, k_le, k_gt, k_ge, k_ixl, k_ixt, k_inti, k_intb, k_abs, k_lenl, k_lent, k_max, k_min, k_s0, k_s1, k_s2, k_s3, k_s4, k_s5, k_s6, k_s7, k_t0, k_t1, k_t2, k_t4, k_eqi, k_nei, k_eqs, k_nes, k_itl, k_itt, k_run, k_for0, q_pVc, q_pC, q_blk, nxt, setK, retK, dropK, ifK, ifEK, notK, andK, orK, andVK, orVK, trK, op1K, op2E, op2K, opsK, nmK, exK, evosK, evvK, evrK, wbC, callK, newE, newK, methE, methK, parK, allK, tupK, lstK, sl2K, sl1K, itvK, rngK, itaK, dicK, evkK, rsK, setTK, put1, put2, putD, rdO, rdOs, rdA, finC, retL, r_0e, r_1e, r_1z, r_2e, r_2z, r_3e, r_3z, r_4e, r_4z, r_5e, r_5z, r_6e, r_6z, r_7e, r_7z, r_8e, r_8z, r_9e, r_9z, r_10e, r_10z, r_11e, r_11z, wbS, pmL, pmAt, nmA, L2.atI, L2.ixN, so_eq, q_fld, y_s, y_n, y_v, y_t, y_o, p, k_for0, o2, l1, ta]
theorem ss_1 (b : Bool) (x : Str) : ssD (.lst b [.str x]) = some (.lst true [.str x]) := by
  show ssD (.lst b (([x] : List Str).map .str)) = _
  unfold ssD
  dsimp only
  rw [strsD_map, Option.bind_some, if_pos (by simp)]
  rfl
theorem nm_c (b : Bool) (x : Str) : f_Value_names [vC b x] = .ok (.lst true [.str x]) [] := by
  unfold f_Value_names m_Value_names
  simp [q_blkc, q_blk0, q_setc, q_set0, q_retc, q_ret0, q_dropc, q_drop0, q_ifc, q_if0, q_ifec, q_ife0, q_testc, q_test0, q_notc, q_not0, q_andc, q_and0, q_orc, q_or0, q_andvc, q_andv0, q_orvc, q_orv0, q_trc, q_tr0, q_op1c, q_op10, q_op2c, q_op20, q_opsc, q_ops0, q_evnmc, q_evnm0, q_evexc, q_evex0, q_evos0c, q_evos00, q_evoscc, q_evosc0, q_eva0c, q_eva00, q_evavc, q_evav0, q_evarc, q_evar0, q_callc, q_call0, q_newc, q_new0, q_methc, q_meth0, q_parc, q_par0, q_all0c, q_all00, q_allcc, q_allc0, q_tupc, q_tup0, q_lstc, q_lst0, q_sl2c, q_sl20, q_sl1c, q_sl10, q_putc, q_put0, q_fstc, q_fst0, PI.q_forc, q_for0, q_itvc, q_itv0, q_rngc, q_rng0, q_itac, q_ita0, q_lcc, q_lc0, q_dicc, q_dic0, q_evk0c, q_evk00, q_evkcc, q_evkc0, q_rsc, q_rs0, q_yesc, q_yes0, q_chc, q_ch0, q_nxc, q_nx0, q_retnc, q_retn0, q_setTc, q_setT0, k_ro, k_rb, k_rl, k_rt, k_asB, k_add, k_sub, k_mul, k_fdiv, k_mod, k_pow, k_addl, k_bini, k_binl, k_lt, k_le, k_gt, k_ge, k_ixl, k_ixt, k_inti, k_intb, k_abs, k_lenl, k_lent, k_max, k_min, k_s0, k_s1, k_s2, k_s3, k_s4, k_s5, k_s6, k_s7, k_t0, k_t1, k_t2, k_t4, k_eqi, k_nei, k_eqs, k_nes, k_itl, k_itt, k_run, k_for0, q_pVc, q_pC, q_blk, nxt, setK, retK, dropK, ifK, ifEK, notK, andK, orK, andVK, orVK, trK, op1K, op2E, op2K, opsK, nmK, exK, evosK, evvK, evrK, wbC, callK, newE, newK, methE, methK, parK, allK, tupK, lstK, sl2K, sl1K, itvK, rngK, itaK, dicK, evkK, rsK, setTK, put1, put2, putD, rdO, rdOs, rdA, finC, retL, r_0e, r_1e, r_1z, r_2e, r_2z, r_3e, r_3z, r_4e, r_4z, r_5e, r_5z, r_6e, r_6z, r_7e, r_7z, r_8e, r_8z, r_9e, r_9z, r_10e, r_10z, r_11e, r_11z, wbS, pmL, pmAt, nmA, L2.atI, L2.ixN, so_eq, names_c 7 x, ss_1]
theorem nm_s (b : Bool) (x : Str) (k : Int) : f_Step_names [vS b x k] = .ok (.lst true [.str x]) [] := by
  unfold f_Step_names m_Step_names
  simp [q_blkc, q_blk0, q_setc, q_set0, q_retc, q_ret0, q_dropc, q_drop0, q_ifc, q_if0, q_ifec, q_ife0, q_testc, q_test0, q_notc, q_not0, q_andc, q_and0, q_orc, q_or0, q_andvc, q_andv0, q_orvc, q_orv0, q_trc, q_tr0, q_op1c, q_op10, q_op2c, q_op20, q_opsc, q_ops0, q_evnmc, q_evnm0, q_evexc, q_evex0, q_evos0c, q_evos00, q_evoscc, q_evosc0, q_eva0c, q_eva00, q_evavc, q_evav0, q_evarc, q_evar0, q_callc, q_call0, q_newc, q_new0, q_methc, q_meth0, q_parc, q_par0, q_all0c, q_all00, q_allcc, q_allc0, q_tupc, q_tup0, q_lstc, q_lst0, q_sl2c, q_sl20, q_sl1c, q_sl10, q_putc, q_put0, q_fstc, q_fst0, PI.q_forc, q_for0, q_itvc, q_itv0, q_rngc, q_rng0, q_itac, q_ita0, q_lcc, q_lc0, q_dicc, q_dic0, q_evk0c, q_evk00, q_evkcc, q_evkc0, q_rsc, q_rs0, q_yesc, q_yes0, q_chc, q_ch0, q_nxc, q_nx0, q_retnc, q_retn0, q_setTc, q_setT0, k_ro, k_rb, k_rl, k_rt, k_asB, k_add, k_sub, k_mul, k_fdiv, k_mod, k_pow, k_addl, k_bini, k_binl, k_lt, k_le, k_gt, k_ge, k_ixl, k_ixt, k_inti, k_intb, k_abs, k_lenl, k_lent, k_max, k_min, k_s0, k_s1, k_s2, k_s3, k_s4, k_s5, k_s6, k_s7, k_t0, k_t1, k_t2, k_t4, k_eqi, k_nei, k_eqs, k_nes, k_itl, k_itt, k_run, k_for0, q_pVc, q_pC, q_blk, nxt, setK, retK, dropK, ifK, ifEK, notK, andK, orK, andVK, orVK, trK, op1K, op2E, op2K, opsK, nmK, exK, evosK, evvK, evrK, wbC, callK, newE, newK, methE, methK, parK, allK, tupK, lstK, sl2K, sl1K, itvK, rngK, itaK, dicK, evkK, rsK, setTK, put1, put2, putD, rdO, rdOs, rdA, finC, retL, r_0e, r_1e, r_1z, r_2e, r_2z, r_3e, r_3z, r_4e, r_4z, r_5e, r_5z, r_6e, r_6z, r_7e, r_7z, r_8e, r_8z, r_9e, r_9z, r_10e, r_10z, r_11e, r_11z, wbS, pmL, pmAt, nmA, L2.atI, L2.ixN, so_eq, names_s 7 x k, ss_1]
abbrev PRS : List Cd := [⟨"Value", f_Value_names, [], [.inl 0]⟩, ⟨"Step", f_Step_names, [], [.inl 0]⟩]
theorem pr_c (b : Bool) (x : Str) (g : Sg) : propS PRS (vC b x) g = .ok (.lst true [.str x]) g := by
  cases b <;> simp [propS, findC, own1, callA, rdA, pmL, pmAt, nmA, callC, nm_c, r_1e, wbS, noX]
theorem pr_s (b : Bool) (x : Str) (k : Int) (g : Sg) : propS PRS (vS b x k) g = .ok (.lst true [.str x]) g := by
  have e : ¬ PySem.Str.ofString "Value" = PySem.Str.ofString "Step" := by simp [so_eq]
  cases b <;> simp [propS, findC, own1, callA, rdA, pmL, pmAt, nmA, callC, nm_s, r_1e, wbS, noX, e, s_beq]
/-! ### what is caught -/
def tryK (tab : List (Str × Bool)) (i j : Nat) (its : List XIt) : Rs Fl → Rs Fl
  | .exc c d g1 => (match tab.lookup c with
    | some true => (match xits c d its with
      | some ds => if j < g1.length ∧ i < g1.length ∧ ds.length ≤ 1000 then .ok .nx ((g1.set i none).set j (some (.lst true ds))) else .bad
      | none => .bad)
    | some false => .exc c d g1
    | none => .bad)
  | .ok fl g1 => .ok fl g1
  | .bad => .bad
theorem q_try {mb : PF} {tab : List (Str × Bool)} {i j : Nat} {its : List XIt} {x : Option D} {g : Sg} : pTry mb tab i j its (x :: g) = tryK tab i j its (mb (x :: g)) := by
  unfold pTry tryK
  cases mb (x :: g) <;> rfl
abbrev TB : List (Str × Bool) := [("WorkError", true), ("InvalidName", true), ("UnknownName", true), ("InvalidDivisor", true)]
abbrev TC : List (Str × Bool) := [("WorkError", false), ("InvalidName", true), ("UnknownName", false), ("InvalidDivisor", false)]
theorem lk_b : List.lookup (PySem.Str.ofString "InvalidName") TB = some true := by kernel_rfl
theorem lk_c : List.lookup (PySem.Str.ofString "InvalidName") TC = some true := by kernel_rfl
theorem xs_k {x : Str} : xits "InvalidName" (.str x) [.is TC, .val] = some [.bl true, .str x] := by
  show (match (List.lookup (PySem.Str.ofString "InvalidName") TC).map D.bl, some [D.str x] with
    | some x, some xs => some (x :: xs)
    | _, _ => none) = _
  rw [lk_c]
  rfl
theorem caught_g {l : List Nat} (hl : l.length ≤ 100) (h : gd l = true) {way : Int} (hw : way = 0 ∨ way = 1 ∨ way = 2 ∨ way = 3) : f_law_caught [.str (ss l), .int way] = .ok (.lst true [.str (ss l)]) [] := by
  have c1 := cell_g hl h
  have c2 := fun k => put_g hl h k
  have c3 := fun k => put_v hl h k
  have p1 := fun b g => pr_c b (ss l) g
  have p2 := fun b k g => pr_s b (ss l) k g
  unfold f_law_caught m_law_caught
  rcases hw with rfl | rfl | rfl | rfl <;> simp [q_blkc, q_blk0, q_setc, q_set0, q_retc, q_ret0, q_dropc, q_drop0, q_ifc, q_if0, q_ifec, q_ife0, q_testc, q_test0, q_notc, q_not0, q_andc, q_and0, q_orc, q_or0, q_andvc, q_andv0, q_orvc, q_orv0, q_trc, q_tr0, q_op1c, q_op10, q_op2c, q_op20, q_opsc, q_ops0, q_evnmc, q_evnm0, q_evexc, q_evex0, q_evos0c, q_evos00, q_evoscc, q_evosc0, q_eva0c, q_eva00, q_evavc, q_evav0, q_evarc, q_evar0, q_callc, q_call0, q_newc, q_new0, q_methc, q_meth0, q_parc, q_par0, q_all0c, q_all00, q_allcc, q_allc0, q_tupc, q_tup0, q_lstc, q_lst0, q_sl2c, q_sl20, q_sl1c, q_sl10, q_putc, q_put0, q_fstc, q_fst0, PI.q_forc, q_for0, q_itvc, q_itv0, q_rngc, q_rng0, q_itac, q_ita0, q_lcc, q_lc0, q_dicc, q_dic0, q_evk0c, q_evk00, q_evkcc, q_evkc0, q_rsc, q_rs0, q_yesc, q_yes0, q_chc, q_ch0, q_nxc, q_nx0, q_retnc, q_retn0, q_setTc, q_setT0, k_ro, k_rb, k_rl, k_rt, k_asB, k_add, k_sub, k_mul, k_fdiv, k_mod, k_pow, k_addl, k_bini, k_binl, k_lt, k_le, k_gt, k_ge, k_ixl, k_ixt, k_inti, k_intb, k_abs, k_lenl, k_lent, k_max, k_min, k_s0, k_s1, k_s2, k_s3, k_s4, k_s5, k_s6, k_s7, k_t0, k_t1, k_t2, k_t4, k_eqi, k_nei, k_eqs, k_nes, k_itl, k_itt, k_run, k_for0, q_pVc, q_pC, q_blk, nxt, setK, retK, dropK, ifK, ifEK, notK, andK, orK, andVK, orVK, trK, op1K, op2E, op2K, opsK, nmK, exK, evosK, evvK, evrK, wbC, callK, newE, newK, methE, methK, parK, allK, tupK, lstK, sl2K, sl1K, itvK, rngK, itaK, dicK, evkK, rsK, setTK, put1, put2, putD, rdO, rdOs, rdA, finC, retL, r_0e, r_1e, r_1z, r_2e, r_2z, r_3e, r_3z, r_4e, r_4z, r_5e, r_5z, r_6e, r_6z, r_7e, r_7z, r_8e, r_8z, r_9e, r_9z, r_10e, r_10z, r_11e, r_11z, wbS, pmL, pmAt, nmA, L2.atI, L2.ixN, so_eq, seqD, setAll, q_try, tryK, c1, c2, c3, number_v, p1, p2, is_c, is_s]
theorem caught_b {l : List Nat} (hl : l.length ≤ 100) (h : gd l = false) {way : Int} (hw : way = 0 ∨ way = 1 ∨ way = 2 ∨ way = 3) : f_law_caught [.str (ss l), .int way] = .ok (.lst false [.bl true, .str (ss l)]) [] := by
  have c1 := cell_b hl h
  have c2 := fun d => put_b hl h d
  unfold f_law_caught m_law_caught
  rcases hw with rfl | rfl | rfl | rfl <;> simp [q_blkc, q_blk0, q_setc, q_set0, q_retc, q_ret0, q_dropc, q_drop0, q_ifc, q_if0, q_ifec, q_ife0, q_testc, q_test0, q_notc, q_not0, q_andc, q_and0, q_orc, q_or0, q_andvc, q_andv0, q_orvc, q_orv0, q_trc, q_tr0, q_op1c, q_op10, q_op2c, q_op20, q_opsc, q_ops0, q_evnmc, q_evnm0, q_evexc, q_evex0, q_evos0c, q_evos00, q_evoscc, q_evosc0, q_eva0c, q_eva00, q_evavc, q_evav0, q_evarc, q_evar0, q_callc, q_call0, q_newc, q_new0, q_methc, q_meth0, q_parc, q_par0, q_all0c, q_all00, q_allcc, q_allc0, q_tupc, q_tup0, q_lstc, q_lst0, q_sl2c, q_sl20, q_sl1c, q_sl10, q_putc, q_put0, q_fstc, q_fst0, PI.q_forc, q_for0, q_itvc, q_itv0, q_rngc, q_rng0, q_itac, q_ita0, q_lcc, q_lc0, q_dicc, q_dic0, q_evk0c, q_evk00, q_evkcc, q_evkc0, q_rsc, q_rs0, q_yesc, q_yes0, q_chc, q_ch0, q_nxc, q_nx0, q_retnc, q_retn0, q_setTc, q_setT0, k_ro, k_rb, k_rl, k_rt, k_asB, k_add, k_sub, k_mul, k_fdiv, k_mod, k_pow, k_addl, k_bini, k_binl, k_lt, k_le, k_gt, k_ge, k_ixl, k_ixt, k_inti, k_intb, k_abs, k_lenl, k_lent, k_max, k_min, k_s0, k_s1, k_s2, k_s3, k_s4, k_s5, k_s6, k_s7, k_t0, k_t1, k_t2, k_t4, k_eqi, k_nei, k_eqs, k_nes, k_itl, k_itt, k_run, k_for0, q_pVc, q_pC, q_blk, nxt, setK, retK, dropK, ifK, ifEK, notK, andK, orK, andVK, orVK, trK, op1K, op2E, op2K, opsK, nmK, exK, evosK, evvK, evrK, wbC, callK, newE, newK, methE, methK, parK, allK, tupK, lstK, sl2K, sl1K, itvK, rngK, itaK, dicK, evkK, rsK, setTK, put1, put2, putD, rdO, rdOs, rdA, finC, retL, r_0e, r_1e, r_1z, r_2e, r_2z, r_3e, r_3z, r_4e, r_4z, r_5e, r_5z, r_6e, r_6z, r_7e, r_7z, r_8e, r_8z, r_9e, r_9z, r_10e, r_10z, r_11e, r_11z, wbS, pmL, pmAt, nmA, L2.atI, L2.ixN, so_eq, seqD, setAll, q_try, tryK, c1, c2, number_v, lk_b, xs_k, is_n]
end A02

set_option linter.all false
set_option maxRecDepth 100000
set_option maxHeartbeats 1000000
namespace A02
open PI PySem
theorem e_ii {es : List Cd} {i j : Int} {g : Sg} : eqS es (.int i) (.int j) g = .ok (.bl (i == j)) g := by
  show rb (eqP (.int i) (.int j)) g = _
  have : eqP (.int i) (.int j) = some (i == j) := by
    by_cases e : i = j
    · subst e; simp [eqP, pyOf, SeqAt.shaped, PyData.eqv, PyData.canLay0, PyData.layable0, PyData.depth]
    · have eb : (i == j) = false := beq_eq_false_iff_ne.mpr e
      simp [eqP, pyOf, SeqAt.shaped, PyData.eqv, e, eb, PyData.canLay0, PyData.layable0, PyData.depth]
  rw [this] <;> rfl
theorem e_nn {es : List Cd} {g : Sg} : eqS es .non .non g = .ok (.bl true) g := by
  have : eqP .non .non = some true := by kernel_rfl
  show rb (eqP .non .non) g = _
  rw [this] <;> rfl
theorem e_ss {es : List Cd} {x y : Str} {g : Sg} (h : PyData.strOk x = true) (h2 : PyData.strOk y = true) : eqS es (.str x) (.str y) g = .ok (.bl (decide (x = y))) g := by
  show rb (eqP (.str x) (.str y)) g = _
  have := k_eqs (x := x) (y := y)
  rw [h, h2] at this
  rw [show eqP (.str x) (.str y) = some (decide (x = y)) from this] <;> rfl
abbrev EQ (n : Nat) : List Cd := [⟨"Value", (f_Value_eq n), [], [.inl 0, .inl 1]⟩, ⟨"Step", (f_Step_eq n), [], [.inl 0, .inl 1]⟩]
theorem eq_c (n : Nat) (b c : Bool) {x y : Str} (hx : PyData.strOk x = true) (hy : PyData.strOk y = true) : f_Value_eq (n + 1) [vC b x, vC c y] = .ok (.bl (decide (x = y))) [] := by
  have e := fun es g => e_ss (es := es) (g := g) hx hy
  rw [u_Value_eq]
  unfold m_Value_eq
  by_cases h : x = y
  · subst h
    simp [q_blkc, q_blk0, q_setc, q_set0, q_retc, q_ret0, q_dropc, q_drop0, q_ifc, q_if0, q_ifec, q_ife0, q_testc, q_test0, q_notc, q_not0, q_andc, q_and0, q_orc, q_or0, q_andvc, q_andv0, q_orvc, q_orv0, q_trc, q_tr0, q_op1c, q_op10, q_op2c, q_op20, q_opsc, q_ops0, q_evnmc, q_evnm0, q_evexc, q_evex0, q_evos0c, q_evos00, q_evoscc, q_evosc0, q_eva0c, q_eva00, q_evavc, q_evav0, q_evarc, q_evar0, q_callc, q_call0, q_newc, q_new0, q_methc, q_meth0, q_parc, q_par0, q_all0c, q_all00, q_allcc, q_allc0, q_tupc, q_tup0, q_lstc, q_lst0, q_sl2c, q_sl20, q_sl1c, q_sl10, q_putc, q_put0, q_fstc, q_fst0, PI.q_forc, q_for0, q_itvc, q_itv0, q_rngc, q_rng0, q_itac, q_ita0, q_lcc, q_lc0, q_dicc, q_dic0, q_evk0c, q_evk00, q_evkcc, q_evkc0, q_rsc, q_rs0, q_yesc, q_yes0, q_chc, q_ch0, q_nxc, q_nx0, q_retnc, q_retn0, q_setTc, q_setT0, k_ro, k_rb, k_rl, k_rt, k_asB, k_add, k_sub, k_mul, k_fdiv, k_mod, k_pow, k_addl, k_bini, k_binl, k_lt, k_le, k_gt, k_ge, k_ixl, k_ixt, k_inti, k_intb, k_abs, k_lenl, k_lent, k_max, k_min, k_s0, k_s1, k_s2, k_s3, k_s4, k_s5, k_s6, k_s7, k_t0, k_t1, k_t2, k_t4, k_eqi, k_nei, k_eqs, k_nes, k_itl, k_itt, k_run, k_for0, q_pVc, q_pC, q_blk, nxt, setK, retK, dropK, ifK, ifEK, notK, andK, orK, andVK, orVK, trK, op1K, op2E, op2K, opsK, nmK, exK, evosK, evvK, evrK, wbC, callK, newE, newK, methE, methK, parK, allK, tupK, lstK, sl2K, sl1K, itvK, rngK, itaK, dicK, evkK, rsK, setTK, put1, put2, putD, rdO, rdOs, rdA, finC, retL, r_0e, r_1e, r_1z, r_2e, r_2z, r_3e, r_3z, r_4e, r_4z, r_5e, r_5z, r_6e, r_6z, r_7e, r_7z, r_8e, r_8z, r_9e, r_9z, r_10e, r_10z, r_11e, r_11z, wbS, pmL, pmAt, nmA, L2.atI, L2.ixN, so_eq, isS, q_fld, x_s, x_f, x_d, o0, e, e_nn]
  · simp [q_blkc, q_blk0, q_setc, q_set0, q_retc, q_ret0, q_dropc, q_drop0, q_ifc, q_if0, q_ifec, q_ife0, q_testc, q_test0, q_notc, q_not0, q_andc, q_and0, q_orc, q_or0, q_andvc, q_andv0, q_orvc, q_orv0, q_trc, q_tr0, q_op1c, q_op10, q_op2c, q_op20, q_opsc, q_ops0, q_evnmc, q_evnm0, q_evexc, q_evex0, q_evos0c, q_evos00, q_evoscc, q_evosc0, q_eva0c, q_eva00, q_evavc, q_evav0, q_evarc, q_evar0, q_callc, q_call0, q_newc, q_new0, q_methc, q_meth0, q_parc, q_par0, q_all0c, q_all00, q_allcc, q_allc0, q_tupc, q_tup0, q_lstc, q_lst0, q_sl2c, q_sl20, q_sl1c, q_sl10, q_putc, q_put0, q_fstc, q_fst0, PI.q_forc, q_for0, q_itvc, q_itv0, q_rngc, q_rng0, q_itac, q_ita0, q_lcc, q_lc0, q_dicc, q_dic0, q_evk0c, q_evk00, q_evkcc, q_evkc0, q_rsc, q_rs0, q_yesc, q_yes0, q_chc, q_ch0, q_nxc, q_nx0, q_retnc, q_retn0, q_setTc, q_setT0, k_ro, k_rb, k_rl, k_rt, k_asB, k_add, k_sub, k_mul, k_fdiv, k_mod, k_pow, k_addl, k_bini, k_binl, k_lt, k_le, k_gt, k_ge, k_ixl, k_ixt, k_inti, k_intb, k_abs, k_lenl, k_lent, k_max, k_min, k_s0, k_s1, k_s2, k_s3, k_s4, k_s5, k_s6, k_s7, k_t0, k_t1, k_t2, k_t4, k_eqi, k_nei, k_eqs, k_nes, k_itl, k_itt, k_run, k_for0, q_pVc, q_pC, q_blk, nxt, setK, retK, dropK, ifK, ifEK, notK, andK, orK, andVK, orVK, trK, op1K, op2E, op2K, opsK, nmK, exK, evosK, evvK, evrK, wbC, callK, newE, newK, methE, methK, parK, allK, tupK, lstK, sl2K, sl1K, itvK, rngK, itaK, dicK, evkK, rsK, setTK, put1, put2, putD, rdO, rdOs, rdA, finC, retL, r_0e, r_1e, r_1z, r_2e, r_2z, r_3e, r_3z, r_4e, r_4z, r_5e, r_5z, r_6e, r_6z, r_7e, r_7z, r_8e, r_8z, r_9e, r_9z, r_10e, r_10z, r_11e, r_11z, wbS, pmL, pmAt, nmA, L2.atI, L2.ixN, so_eq, isS, q_fld, x_s, x_f, x_d, o0, e, e_nn, h]
theorem eq_n (n : Nat) (b c : Bool) (k : Int) : f_Value_eq (n + 1) [vN b k, vN c k] = .ok (.bl true) [] := by
  rw [u_Value_eq]
  unfold m_Value_eq
  simp [q_blkc, q_blk0, q_setc, q_set0, q_retc, q_ret0, q_dropc, q_drop0, q_ifc, q_if0, q_ifec, q_ife0, q_testc, q_test0, q_notc, q_not0, q_andc, q_and0, q_orc, q_or0, q_andvc, q_andv0, q_orvc, q_orv0, q_trc, q_tr0, q_op1c, q_op10, q_op2c, q_op20, q_opsc, q_ops0, q_evnmc, q_evnm0, q_evexc, q_evex0, q_evos0c, q_evos00, q_evoscc, q_evosc0, q_eva0c, q_eva00, q_evavc, q_evav0, q_evarc, q_evar0, q_callc, q_call0, q_newc, q_new0, q_methc, q_meth0, q_parc, q_par0, q_all0c, q_all00, q_allcc, q_allc0, q_tupc, q_tup0, q_lstc, q_lst0, q_sl2c, q_sl20, q_sl1c, q_sl10, q_putc, q_put0, q_fstc, q_fst0, PI.q_forc, q_for0, q_itvc, q_itv0, q_rngc, q_rng0, q_itac, q_ita0, q_lcc, q_lc0, q_dicc, q_dic0, q_evk0c, q_evk00, q_evkcc, q_evkc0, q_rsc, q_rs0, q_yesc, q_yes0, q_chc, q_ch0, q_nxc, q_nx0, q_retnc, q_retn0, q_setTc, q_setT0, k_ro, k_rb, k_rl, k_rt, k_asB, k_add, k_sub, k_mul, k_fdiv, k_mod, k_pow, k_addl, k_bini, k_binl, k_lt, k_le, k_gt, k_ge, k_ixl, k_ixt, k_inti, k_intb, k_abs, k_lenl, k_lent, k_max, k_min, k_s0, k_s1, k_s2, k_s3, k_s4, k_s5, k_s6, k_s7, k_t0, k_t1, k_t2, k_t4, k_eqi, k_nei, k_eqs, k_nes, k_itl, k_itt, k_run, k_for0, q_pVc, q_pC, q_blk, nxt, setK, retK, dropK, ifK, ifEK, notK, andK, orK, andVK, orVK, trK, op1K, op2E, op2K, opsK, nmK, exK, evosK, evvK, evrK, wbC, callK, newE, newK, methE, methK, parK, allK, tupK, lstK, sl2K, sl1K, itvK, rngK, itaK, dicK, evkK, rsK, setTK, put1, put2, putD, rdO, rdOs, rdA, finC, retL, r_0e, r_1e, r_1z, r_2e, r_2z, r_3e, r_3z, r_4e, r_4z, r_5e, r_5z, r_6e, r_6z, r_7e, r_7z, r_8e, r_8z, r_9e, r_9z, r_10e, r_10z, r_11e, r_11z, wbS, pmL, pmAt, nmA, L2.atI, L2.ixN, so_eq, isS, q_fld, x_s, x_f, x_d, o1, e_ii, e_nn]
theorem ne_n (n : Nat) (b c : Bool) (k : Int) (g : Sg) : neS (EQ (n + 1)) (vN b k) (vN c k) g = .ok (.bl false) g := by
  simp [neS, findC, own2, callA, rdA, pmL, pmAt, nmA, callC, r_2e, wbS, eq_n n, Rs.bind, negB]
theorem tt : cmpD .Eq (.tup []) (.tup []) = some true := by kernel_rfl
theorem eq_s (n : Nat) (b c : Bool) {x y : Str} (hx : PyData.strOk x = true) (hy : PyData.strOk y = true) (k : Int) : f_Step_eq (n + 2) [vS b x k, vS c y k] = .ok (.bl (decide (x = y))) [] := by
  have e := fun b c g => ne_n n b c k g
  have n2 : ¬ PySem.Str.ofString "Value" = PySem.Str.ofString "Step" := by simp [so_eq]
  have n3 : ¬ PySem.Str.ofString "Step" = PySem.Str.ofString "Value" := by simp [so_eq]
  have lk : List.lookup (PySem.Str.ofString "Step") ([("Value", false), ("Step", true)] : List (Str × Bool)) = some true := by kernel_rfl
  rw [u_Step_eq]
  unfold m_Step_eq
  by_cases h : x = y
  · subst h
    simp [q_blkc, q_blk0, q_setc, q_set0, q_retc, q_ret0, q_dropc, q_drop0, q_ifc, q_if0, q_ifec, q_ife0, q_testc, q_test0, q_notc, q_not0, q_andc, q_and0, q_orc, q_or0, q_andvc, q_andv0, q_orvc, q_orv0, q_trc, q_tr0, q_op1c, q_op10, q_op2c, q_op20, q_opsc, q_ops0, q_evnmc, q_evnm0, q_evexc, q_evex0, q_evos0c, q_evos00, q_evoscc, q_evosc0, q_eva0c, q_eva00, q_evavc, q_evav0, q_evarc, q_evar0, q_callc, q_call0, q_newc, q_new0, q_methc, q_meth0, q_parc, q_par0, q_all0c, q_all00, q_allcc, q_allc0, q_tupc, q_tup0, q_lstc, q_lst0, q_sl2c, q_sl20, q_sl1c, q_sl10, q_putc, q_put0, q_fstc, q_fst0, PI.q_forc, q_for0, q_itvc, q_itv0, q_rngc, q_rng0, q_itac, q_ita0, q_lcc, q_lc0, q_dicc, q_dic0, q_evk0c, q_evk00, q_evkcc, q_evkc0, q_rsc, q_rs0, q_yesc, q_yes0, q_chc, q_ch0, q_nxc, q_nx0, q_retnc, q_retn0, q_setTc, q_setT0, k_ro, k_rb, k_rl, k_rt, k_asB, k_add, k_sub, k_mul, k_fdiv, k_mod, k_pow, k_addl, k_bini, k_binl, k_lt, k_le, k_gt, k_ge, k_ixl, k_ixt, k_inti, k_intb, k_abs, k_lenl, k_lent, k_max, k_min, k_s0, k_s1, k_s2, k_s3, k_s4, k_s5, k_s6, k_s7, k_t0, k_t1, k_t2, k_t4, k_eqi, k_nei, k_eqs, k_nes, k_itl, k_itt, k_run, k_for0, q_pVc, q_pC, q_blk, nxt, setK, retK, dropK, ifK, ifEK, notK, andK, orK, andVK, orVK, trK, op1K, op2E, op2K, opsK, nmK, exK, evosK, evvK, evrK, wbC, callK, newE, newK, methE, methK, parK, allK, tupK, lstK, sl2K, sl1K, itvK, rngK, itaK, dicK, evkK, rsK, setTK, put1, put2, putD, rdO, rdOs, rdA, finC, retL, r_0e, r_1e, r_1z, r_2e, r_2z, r_3e, r_3z, r_4e, r_4z, r_5e, r_5z, r_6e, r_6z, r_7e, r_7z, r_8e, r_8z, r_9e, r_9z, r_10e, r_10z, r_11e, r_11z, wbS, pmL, pmAt, nmA, L2.atI, L2.ixN, so_eq, isS, q_fld, y_s, y_n, y_v, y_t, y_o, o2, hx, e, tt, lk]
  · simp [q_blkc, q_blk0, q_setc, q_set0, q_retc, q_ret0, q_dropc, q_drop0, q_ifc, q_if0, q_ifec, q_ife0, q_testc, q_test0, q_notc, q_not0, q_andc, q_and0, q_orc, q_or0, q_andvc, q_andv0, q_orvc, q_orv0, q_trc, q_tr0, q_op1c, q_op10, q_op2c, q_op20, q_opsc, q_ops0, q_evnmc, q_evnm0, q_evexc, q_evex0, q_evos0c, q_evos00, q_evoscc, q_evosc0, q_eva0c, q_eva00, q_evavc, q_evav0, q_evarc, q_evar0, q_callc, q_call0, q_newc, q_new0, q_methc, q_meth0, q_parc, q_par0, q_all0c, q_all00, q_allcc, q_allc0, q_tupc, q_tup0, q_lstc, q_lst0, q_sl2c, q_sl20, q_sl1c, q_sl10, q_putc, q_put0, q_fstc, q_fst0, PI.q_forc, q_for0, q_itvc, q_itv0, q_rngc, q_rng0, q_itac, q_ita0, q_lcc, q_lc0, q_dicc, q_dic0, q_evk0c, q_evk00, q_evkcc, q_evkc0, q_rsc, q_rs0, q_yesc, q_yes0, q_chc, q_ch0, q_nxc, q_nx0, q_retnc, q_retn0, q_setTc, q_setT0, k_ro, k_rb, k_rl, k_rt, k_asB, k_add, k_sub, k_mul, k_fdiv, k_mod, k_pow, k_addl, k_bini, k_binl, k_lt, k_le, k_gt, k_ge, k_ixl, k_ixt, k_inti, k_intb, k_abs, k_lenl, k_lent, k_max, k_min, k_s0, k_s1, k_s2, k_s3, k_s4, k_s5, k_s6, k_s7, k_t0, k_t1, k_t2, k_t4, k_eqi, k_nei, k_eqs, k_nes, k_itl, k_itt, k_run, k_for0, q_pVc, q_pC, q_blk, nxt, setK, retK, dropK, ifK, ifEK, notK, andK, orK, andVK, orVK, trK, op1K, op2E, op2K, opsK, nmK, exK, evosK, evvK, evrK, wbC, callK, newE, newK, methE, methK, parK, allK, tupK, lstK, sl2K, sl1K, itvK, rngK, itaK, dicK, evkK, rsK, setTK, put1, put2, putD, rdO, rdOs, rdA, finC, retL, r_0e, r_1e, r_1z, r_2e, r_2z, r_3e, r_3z, r_4e, r_4z, r_5e, r_5z, r_6e, r_6z, r_7e, r_7z, r_8e, r_8z, r_9e, r_9z, r_10e, r_10z, r_11e, r_11z, wbS, pmL, pmAt, nmA, L2.atI, L2.ixN, so_eq, isS, q_fld, y_s, y_n, y_v, y_t, y_o, o2, hx, hy, e, tt, h, lk]
theorem ec (b c : Bool) {x y : Str} (hx : PyData.strOk x = true) (hy : PyData.strOk y = true) (g : Sg) : eqS (EQ 8) (vC b x) (vC c y) g = .ok (.bl (decide (x = y))) g := by
  simp [eqS, findC, own2, callA, rdA, pmL, pmAt, nmA, callC, r_2e, wbS, eq_c 7, hx, hy]
theorem nc (b c : Bool) {x y : Str} (hx : PyData.strOk x = true) (hy : PyData.strOk y = true) (g : Sg) : neS (EQ 8) (vC b x) (vC c y) g = .ok (.bl (!decide (x = y))) g := by
  simp [neS, findC, own2, callA, rdA, pmL, pmAt, nmA, callC, r_2e, wbS, eq_c 7, hx, hy, Rs.bind, negB]
theorem es (b c : Bool) {x y : Str} (hx : PyData.strOk x = true) (hy : PyData.strOk y = true) (k : Int) (g : Sg) : eqS (EQ 8) (vS b x k) (vS c y k) g = .ok (.bl (decide (x = y))) g := by
  have n2 : ¬ PySem.Str.ofString "Value" = PySem.Str.ofString "Step" := by simp [so_eq]
  simp [eqS, findC, own2, callA, rdA, pmL, pmAt, nmA, callC, r_2e, wbS, eq_s 6, hx, hy, s_beq, n2]
theorem ns (b c : Bool) {x y : Str} (hx : PyData.strOk x = true) (hy : PyData.strOk y = true) (k : Int) (g : Sg) : neS (EQ 8) (vS b x k) (vS c y k) g = .ok (.bl (!decide (x = y))) g := by
  have n2 : ¬ PySem.Str.ofString "Value" = PySem.Str.ofString "Step" := by simp [so_eq]
  simp [neS, findC, own2, callA, rdA, pmL, pmAt, nmA, callC, r_2e, wbS, eq_s 6, hx, hy, Rs.bind, negB, s_beq, n2]
/-! ### a text -/
abbrev ODD : Str := "`{AZ09_ ~!@-.:?"
def oddL : List Nat := [96, 123, 65, 90, 48, 57, 95, 32, 126, 33, 64, 45, 46, 58, 63]
theorem odd_cps : ODD = ss oddL := by kernel_rfl
theorem odd_ok : ∀ i : Fin 15, (oddL[i.val]?).isSome = true ∧ ((oddL[i.val]?).getD 0) < 128 := by decide
theorem odd {i : Int} (h0 : 0 ≤ i) (h1 : i < 15) : ∃ c, c < 128 ∧ ixD (.str ODD) (.int i) = some (.str (ss [c])) := by
  have := odd_ok ⟨i.toNat, by omega⟩
  rw [odd_cps, k_ixs (by decide)]
  have l : oddL.length = 15 := rfl
  have h2 : i.toNat < oddL.length := by omega
  refine ⟨oddL[i.toNat], ?_, ?_⟩
  · have := this.2
    simpa [h2] using this
  · simp [L2.atI, L2.ixN, h0, h1, l, h2]
theorem cut_hi2 {l : List Nat} {k : Int} (h0 : 0 ≤ k) (hl : l.length ≤ 1000) : slD (.str (ss l)) (some k) none = some (.str (ss (l.drop k.toNat))) := by
  by_cases h1 : k ≤ l.length
  · exact cut_hi h0 h1 hl
  · show (if (ss l).length ≤ lim then some (D.str (L2.cutS (ss l) (some k) none)) else none) = _
    rw [ss_len, if_pos (by unfold lim; omega)]
    unfold L2.cutS HT.sIx
    rw [ss_len]
    show some (D.str ⟨((l.drop (if k < 0 then (k + (l.length : Int)).toNat else min k.toNat l.length)).take (l.length - (if k < 0 then (k + (l.length : Int)).toNat else min k.toNat l.length))).toArray⟩) = _
    rw [if_neg (by omega), Nat.min_eq_right (by omega), List.drop_of_length_le (Nat.le_refl _), List.drop_of_length_le (show l.length ≤ k.toNat by omega), List.take_nil]
    rfl
theorem lets_w {n : Int} {u : D} (h : Wl n u) (hn : n + 30 < 2^20) : ∃ (l : List Nat) (v : D), (pSet 2 (pOp1 (fun d g => ro (joinD "" d) g) (.ex (pLc (pRng [(.ex (pCall f_law_take [0] [(.r (.nm 0)), (.v (pOp2 (fun d e g => ro (ixD d e) g) (.ex (pLst [(pC (.int 10)), (pC (.int 13))])) (.ex (pCall f_law_take [0] [(.r (.nm 0)), (.v (pC (.int 2)))] [.inl 0, .inl 1]))))] [.inl 0, .inl 1]))]) (.nm 5) pYes (pOp2 (fun d e g => ro (ixD d e) g) (.nm 1) (.ex (pCall f_law_take [0] [(.r (.nm 0)), (.v (pC (.int 26)))] [.inl 0, .inl 1]))) [5])))) [some u, some (.str LT), none, none, none, none] = .ok .nx [some v, some (.str LT), some (.str (ss l)), none, none, none] ∧ l.length ≤ 12 ∧ az l ∧ Wl (n + 14) v := by
  obtain ⟨t1, u1, e1, a1, b1, w1⟩ := take_w h (by omega) (m := 2) (by decide) (by decide)
  obtain ⟨m, m0, m1, hm⟩ : ∃ m : Int, 0 < m ∧ m ≤ 13 ∧ ixD (.lst true [.int 10, .int 13]) (.int t1) = some (.int m) := by
    have s : t1 = 0 ∨ t1 = 1 := by omega
    rcases s with rfl | rfl
    · exact ⟨10, by decide, by decide, rfl⟩
    · exact ⟨13, by decide, by decide, rfl⟩
  obtain ⟨t3, u3, e3, a3, b3, w3⟩ := take_w w1 (by omega) (m := m) (by omega) (by omega)
  obtain ⟨ds, r1, r2, r3⟩ := rng_mem (i := t3) (by omega) (by omega)
  obtain ⟨ys, g', c1, c2, c3, c4⟩ := lc_run (tg := .nm 5) (e := (pOp2 (fun d e g => ro (ixD d e) g) (.nm 1) (.ex (pCall f_law_take [0] [(.r (.nm 0)), (.v (pC (.int 26)))] [.inl 0, .inl 1])))) (vs := [5]) (R := fun z => ∃ c, z = .str (ss [c]) ∧ 97 ≤ c ∧ c ≤ 122) (ds := ds)
    (fun k g => ∃ v, g = [some v, some (.str LT), none, none, none, none] ∧ Wl (n + 2 + k) v) (g := [some u3, some (.str LT), none, none, none, none]) rfl (fun k g d hk hI hd => by
      obtain ⟨v, rfl, hv⟩ := hI
      obtain ⟨q, rfl, q0, q1⟩ := r3 d hd
      rw [r2] at hk
      have hk8 : k < 13 := by omega
      obtain ⟨t4, u4, e4, a4, b4, w4⟩ := take_w hv (by omega) (m := 26) (by decide) (by decide)
      have l1 := letter a4 b4
      refine ⟨_, .str (ss [97 + t4.toNat]), [some u4, some (.str LT), none, none, none, some (.int q)], rfl, ?_, ⟨_, rfl, by omega, by omega⟩, u4, rfl, ?_⟩
      · simp [q_blkc, q_blk0, q_setc, q_set0, q_retc, q_ret0, q_dropc, q_drop0, q_ifc, q_if0, q_ifec, q_ife0, q_testc, q_test0, q_notc, q_not0, q_andc, q_and0, q_orc, q_or0, q_andvc, q_andv0, q_orvc, q_orv0, q_trc, q_tr0, q_op1c, q_op10, q_op2c, q_op20, q_opsc, q_ops0, q_evnmc, q_evnm0, q_evexc, q_evex0, q_evos0c, q_evos00, q_evoscc, q_evosc0, q_eva0c, q_eva00, q_evavc, q_evav0, q_evarc, q_evar0, q_callc, q_call0, q_newc, q_new0, q_methc, q_meth0, q_parc, q_par0, q_all0c, q_all00, q_allcc, q_allc0, q_tupc, q_tup0, q_lstc, q_lst0, q_sl2c, q_sl20, q_sl1c, q_sl10, q_putc, q_put0, q_fstc, q_fst0, PI.q_forc, q_for0, q_itvc, q_itv0, q_rngc, q_rng0, q_itac, q_ita0, q_lcc, q_lc0, q_dicc, q_dic0, q_evk0c, q_evk00, q_evkcc, q_evkc0, q_rsc, q_rs0, q_yesc, q_yes0, q_chc, q_ch0, q_nxc, q_nx0, q_retnc, q_retn0, q_setTc, q_setT0, k_ro, k_rb, k_rl, k_rt, k_asB, k_add, k_sub, k_mul, k_fdiv, k_mod, k_pow, k_addl, k_bini, k_binl, k_lt, k_le, k_gt, k_ge, k_ixl, k_ixt, k_inti, k_intb, k_abs, k_lenl, k_lent, k_max, k_min, k_s0, k_s1, k_s2, k_s3, k_s4, k_s5, k_s6, k_s7, k_t0, k_t1, k_t2, k_t4, k_eqi, k_nei, k_eqs, k_nes, k_itl, k_itt, k_run, k_for0, q_pVc, q_pC, q_blk, nxt, setK, retK, dropK, ifK, ifEK, notK, andK, orK, andVK, orVK, trK, op1K, op2E, op2K, opsK, nmK, exK, evosK, evvK, evrK, wbC, callK, newE, newK, methE, methK, parK, allK, tupK, lstK, sl2K, sl1K, itvK, rngK, itaK, dicK, evkK, rsK, setTK, put1, put2, putD, rdO, rdOs, rdA, finC, retL, r_0e, r_1e, r_1z, r_2e, r_2z, r_3e, r_3z, r_4e, r_4z, r_5e, r_5z, r_6e, r_6z, r_7e, r_7z, r_8e, r_8z, r_9e, r_9z, r_10e, r_10z, r_11e, r_11z, wbS, pmL, pmAt, nmA, L2.atI, L2.ixN, so_eq, e4, l1]
      · have e : n + 2 + (k : Int) + 1 = n + 2 + ((k + 1 : Nat) : Int) := by omega
        rw [← e]
        exact w4) ⟨u3, rfl, by
          have e : n + 1 + 1 = n + 2 + ((0 : Nat) : Int) := by omega
          rw [← e]
          exact w3⟩ (by omega)
  obtain ⟨v, rfl, hv⟩ := c4
  obtain ⟨cs, rfl, hc⟩ := cps_of c3
  rw [List.length_map] at c2
  have j := joinD_ok (b := true) (cs := cs) (by omega)
  refine ⟨cs, v, ?_, by omega, hc, ?_⟩
  · simp [q_blkc, q_blk0, q_setc, q_set0, q_retc, q_ret0, q_dropc, q_drop0, q_ifc, q_if0, q_ifec, q_ife0, q_testc, q_test0, q_notc, q_not0, q_andc, q_and0, q_orc, q_or0, q_andvc, q_andv0, q_orvc, q_orv0, q_trc, q_tr0, q_op1c, q_op10, q_op2c, q_op20, q_opsc, q_ops0, q_evnmc, q_evnm0, q_evexc, q_evex0, q_evos0c, q_evos00, q_evoscc, q_evosc0, q_eva0c, q_eva00, q_evavc, q_evav0, q_evarc, q_evar0, q_callc, q_call0, q_newc, q_new0, q_methc, q_meth0, q_parc, q_par0, q_all0c, q_all00, q_allcc, q_allc0, q_tupc, q_tup0, q_lstc, q_lst0, q_sl2c, q_sl20, q_sl1c, q_sl10, q_putc, q_put0, q_fstc, q_fst0, PI.q_forc, q_for0, q_itvc, q_itv0, q_rngc, q_rng0, q_itac, q_ita0, q_lcc, q_lc0, q_dicc, q_dic0, q_evk0c, q_evk00, q_evkcc, q_evkc0, q_rsc, q_rs0, q_yesc, q_yes0, q_chc, q_ch0, q_nxc, q_nx0, q_retnc, q_retn0, q_setTc, q_setT0, k_ro, k_rb, k_rl, k_rt, k_asB, k_add, k_sub, k_mul, k_fdiv, k_mod, k_pow, k_addl, k_bini, k_binl, k_lt, k_le, k_gt, k_ge, k_ixl, k_ixt, k_inti, k_intb, k_abs, k_lenl, k_lent, k_max, k_min, k_s0, k_s1, k_s2, k_s3, k_s4, k_s5, k_s6, k_s7, k_t0, k_t1, k_t2, k_t4, k_eqi, k_nei, k_eqs, k_nes, k_itl, k_itt, k_run, k_for0, q_pVc, q_pC, q_blk, nxt, setK, retK, dropK, ifK, ifEK, notK, andK, orK, andVK, orVK, trK, op1K, op2E, op2K, opsK, nmK, exK, evosK, evvK, evrK, wbC, callK, newE, newK, methE, methK, parK, allK, tupK, lstK, sl2K, sl1K, itvK, rngK, itaK, dicK, evkK, rsK, setTK, put1, put2, putD, rdO, rdOs, rdA, finC, retL, r_0e, r_1e, r_1z, r_2e, r_2z, r_3e, r_3z, r_4e, r_4z, r_5e, r_5z, r_6e, r_6z, r_7e, r_7z, r_8e, r_8z, r_9e, r_9z, r_10e, r_10z, r_11e, r_11z, wbS, pmL, pmAt, nmA, L2.atI, L2.ixN, so_eq, e1, hm, e3, rngK, r1, c1, j]
  · obtain ⟨a, b, c, q, r1', r2', r3', r4', r5'⟩ := hv
    exact ⟨a, b, c, q, r1', r2', r3', r4', by omega⟩
theorem Wl.up {n m : Int} {v : D} (h : Wl n v) (hm : n ≤ m) : Wl m v := by
  obtain ⟨a, b, c, q, r1, r2, r3, r4, r5⟩ := h
  exact ⟨a, b, c, q, r1, r2, r3, r4, by omega⟩
theorem asc_az {l : List Nat} (h : az l) : asc l := fun c hc => by
  have := h c hc
  omega
theorem text_w {n : Int} {u : D} (h : Wl n u) (hn : n + 40 < 2^20) : ∃ (l : List Nat) (v : D), f_law_text [u] = .ok (.str (ss l)) [v] ∧ l.length ≤ 13 ∧ asc l ∧ Wl (n + 20) v := by
  obtain ⟨l, u1, s1, ll, la, w1⟩ := lets_w h (by omega)
  obtain ⟨t2, u2, e2, a2, b2, w2⟩ := take_w w1 (by omega) (m := 2) (by decide) (by decide)
  have s0 : (pSet 1 (pC (.str "abcdefghijklmnopqrstuvwxyz"))) [some u, none, none, none, none, none] = .ok .nx [some u, some (.str LT), none, none, none, none] := by simp [q_blkc, q_blk0, q_setc, q_set0, q_retc, q_ret0, q_dropc, q_drop0, q_ifc, q_if0, q_ifec, q_ife0, q_testc, q_test0, q_notc, q_not0, q_andc, q_and0, q_orc, q_or0, q_andvc, q_andv0, q_orvc, q_orv0, q_trc, q_tr0, q_op1c, q_op10, q_op2c, q_op20, q_opsc, q_ops0, q_evnmc, q_evnm0, q_evexc, q_evex0, q_evos0c, q_evos00, q_evoscc, q_evosc0, q_eva0c, q_eva00, q_evavc, q_evav0, q_evarc, q_evar0, q_callc, q_call0, q_newc, q_new0, q_methc, q_meth0, q_parc, q_par0, q_all0c, q_all00, q_allcc, q_allc0, q_tupc, q_tup0, q_lstc, q_lst0, q_sl2c, q_sl20, q_sl1c, q_sl10, q_putc, q_put0, q_fstc, q_fst0, PI.q_forc, q_for0, q_itvc, q_itv0, q_rngc, q_rng0, q_itac, q_ita0, q_lcc, q_lc0, q_dicc, q_dic0, q_evk0c, q_evk00, q_evkcc, q_evkc0, q_rsc, q_rs0, q_yesc, q_yes0, q_chc, q_ch0, q_nxc, q_nx0, q_retnc, q_retn0, q_setTc, q_setT0, k_ro, k_rb, k_rl, k_rt, k_asB, k_add, k_sub, k_mul, k_fdiv, k_mod, k_pow, k_addl, k_bini, k_binl, k_lt, k_le, k_gt, k_ge, k_ixl, k_ixt, k_inti, k_intb, k_abs, k_lenl, k_lent, k_max, k_min, k_s0, k_s1, k_s2, k_s3, k_s4, k_s5, k_s6, k_s7, k_t0, k_t1, k_t2, k_t4, k_eqi, k_nei, k_eqs, k_nes, k_itl, k_itt, k_run, k_for0, q_pVc, q_pC, q_blk, nxt, setK, retK, dropK, ifK, ifEK, notK, andK, orK, andVK, orVK, trK, op1K, op2E, op2K, opsK, nmK, exK, evosK, evvK, evrK, wbC, callK, newE, newK, methE, methK, parK, allK, tupK, lstK, sl2K, sl1K, itvK, rngK, itaK, dicK, evkK, rsK, setTK, put1, put2, putD, rdO, rdOs, rdA, finC, retL, r_0e, r_1e, r_1z, r_2e, r_2z, r_3e, r_3z, r_4e, r_4z, r_5e, r_5z, r_6e, r_6z, r_7e, r_7z, r_8e, r_8z, r_9e, r_9z, r_10e, r_10z, r_11e, r_11z, wbS, pmL, pmAt, nmA, L2.atI, L2.ixN, so_eq]
  unfold f_law_text m_law_text
  by_cases t0 : t2 = 0
  · subst t0
    have s2 : (pIf (pTest (pOp2 (fun d e g => rb (cmpD .Eq d e) g) (.ex (pCall f_law_take [0] [(.r (.nm 0)), (.v (pC (.int 2)))] [.inl 0, .inl 1])) (.ex (pC (.int 0))))) (pBlk [(pRet (pV 2))]) (pBlk [])) [some u1, some (.str LT), some (.str (ss l)), none, none, none] = .ok (.rt (.str (ss l))) [some u2, some (.str LT), some (.str (ss l)), none, none, none] := by simp [q_blkc, q_blk0, q_setc, q_set0, q_retc, q_ret0, q_dropc, q_drop0, q_ifc, q_if0, q_ifec, q_ife0, q_testc, q_test0, q_notc, q_not0, q_andc, q_and0, q_orc, q_or0, q_andvc, q_andv0, q_orvc, q_orv0, q_trc, q_tr0, q_op1c, q_op10, q_op2c, q_op20, q_opsc, q_ops0, q_evnmc, q_evnm0, q_evexc, q_evex0, q_evos0c, q_evos00, q_evoscc, q_evosc0, q_eva0c, q_eva00, q_evavc, q_evav0, q_evarc, q_evar0, q_callc, q_call0, q_newc, q_new0, q_methc, q_meth0, q_parc, q_par0, q_all0c, q_all00, q_allcc, q_allc0, q_tupc, q_tup0, q_lstc, q_lst0, q_sl2c, q_sl20, q_sl1c, q_sl10, q_putc, q_put0, q_fstc, q_fst0, PI.q_forc, q_for0, q_itvc, q_itv0, q_rngc, q_rng0, q_itac, q_ita0, q_lcc, q_lc0, q_dicc, q_dic0, q_evk0c, q_evk00, q_evkcc, q_evkc0, q_rsc, q_rs0, q_yesc, q_yes0, q_chc, q_ch0, q_nxc, q_nx0, q_retnc, q_retn0, q_setTc, q_setT0, k_ro, k_rb, k_rl, k_rt, k_asB, k_add, k_sub, k_mul, k_fdiv, k_mod, k_pow, k_addl, k_bini, k_binl, k_lt, k_le, k_gt, k_ge, k_ixl, k_ixt, k_inti, k_intb, k_abs, k_lenl, k_lent, k_max, k_min, k_s0, k_s1, k_s2, k_s3, k_s4, k_s5, k_s6, k_s7, k_t0, k_t1, k_t2, k_t4, k_eqi, k_nei, k_eqs, k_nes, k_itl, k_itt, k_run, k_for0, q_pVc, q_pC, q_blk, nxt, setK, retK, dropK, ifK, ifEK, notK, andK, orK, andVK, orVK, trK, op1K, op2E, op2K, opsK, nmK, exK, evosK, evvK, evrK, wbC, callK, newE, newK, methE, methK, parK, allK, tupK, lstK, sl2K, sl1K, itvK, rngK, itaK, dicK, evkK, rsK, setTK, put1, put2, putD, rdO, rdOs, rdA, finC, retL, r_0e, r_1e, r_1z, r_2e, r_2z, r_3e, r_3z, r_4e, r_4z, r_5e, r_5z, r_6e, r_6z, r_7e, r_7z, r_8e, r_8z, r_9e, r_9z, r_10e, r_10z, r_11e, r_11z, wbS, pmL, pmAt, nmA, L2.atI, L2.ixN, so_eq, e2]
    refine ⟨l, u2, ?_, by omega, asc_az la, w2.up (by omega)⟩
    rw [k_run]
    show finC [0] (pBlk _ [some u, none, none, none, none, none]) = _
    rw [blk_step s0, blk_step s1, blk_ret s2]
    rfl
  · have s2 : (pIf (pTest (pOp2 (fun d e g => rb (cmpD .Eq d e) g) (.ex (pCall f_law_take [0] [(.r (.nm 0)), (.v (pC (.int 2)))] [.inl 0, .inl 1])) (.ex (pC (.int 0))))) (pBlk [(pRet (pV 2))]) (pBlk [])) [some u1, some (.str LT), some (.str (ss l)), none, none, none] = .ok .nx [some u2, some (.str LT), some (.str (ss l)), none, none, none] := by simp [q_blkc, q_blk0, q_setc, q_set0, q_retc, q_ret0, q_dropc, q_drop0, q_ifc, q_if0, q_ifec, q_ife0, q_testc, q_test0, q_notc, q_not0, q_andc, q_and0, q_orc, q_or0, q_andvc, q_andv0, q_orvc, q_orv0, q_trc, q_tr0, q_op1c, q_op10, q_op2c, q_op20, q_opsc, q_ops0, q_evnmc, q_evnm0, q_evexc, q_evex0, q_evos0c, q_evos00, q_evoscc, q_evosc0, q_eva0c, q_eva00, q_evavc, q_evav0, q_evarc, q_evar0, q_callc, q_call0, q_newc, q_new0, q_methc, q_meth0, q_parc, q_par0, q_all0c, q_all00, q_allcc, q_allc0, q_tupc, q_tup0, q_lstc, q_lst0, q_sl2c, q_sl20, q_sl1c, q_sl10, q_putc, q_put0, q_fstc, q_fst0, PI.q_forc, q_for0, q_itvc, q_itv0, q_rngc, q_rng0, q_itac, q_ita0, q_lcc, q_lc0, q_dicc, q_dic0, q_evk0c, q_evk00, q_evkcc, q_evkc0, q_rsc, q_rs0, q_yesc, q_yes0, q_chc, q_ch0, q_nxc, q_nx0, q_retnc, q_retn0, q_setTc, q_setT0, k_ro, k_rb, k_rl, k_rt, k_asB, k_add, k_sub, k_mul, k_fdiv, k_mod, k_pow, k_addl, k_bini, k_binl, k_lt, k_le, k_gt, k_ge, k_ixl, k_ixt, k_inti, k_intb, k_abs, k_lenl, k_lent, k_max, k_min, k_s0, k_s1, k_s2, k_s3, k_s4, k_s5, k_s6, k_s7, k_t0, k_t1, k_t2, k_t4, k_eqi, k_nei, k_eqs, k_nes, k_itl, k_itt, k_run, k_for0, q_pVc, q_pC, q_blk, nxt, setK, retK, dropK, ifK, ifEK, notK, andK, orK, andVK, orVK, trK, op1K, op2E, op2K, opsK, nmK, exK, evosK, evvK, evrK, wbC, callK, newE, newK, methE, methK, parK, allK, tupK, lstK, sl2K, sl1K, itvK, rngK, itaK, dicK, evkK, rsK, setTK, put1, put2, putD, rdO, rdOs, rdA, finC, retL, r_0e, r_1e, r_1z, r_2e, r_2z, r_3e, r_3z, r_4e, r_4z, r_5e, r_5z, r_6e, r_6z, r_7e, r_7z, r_8e, r_8z, r_9e, r_9z, r_10e, r_10z, r_11e, r_11z, wbS, pmL, pmAt, nmA, L2.atI, L2.ixN, so_eq, e2, t0]
    obtain ⟨t3, u3, e3, a3, b3, w3⟩ := take_w w2 (by omega) (m := 15) (by decide) (by decide)
    obtain ⟨c, hc, ho⟩ := odd a3 b3
    have s3 : (pSet 3 (pOp2 (fun d e g => ro (ixD d e) g) (.ex (pC (.str "`{AZ09_ ~!@-.:?"))) (.ex (pCall f_law_take [0] [(.r (.nm 0)), (.v (pC (.int 15)))] [.inl 0, .inl 1])))) [some u2, some (.str LT), some (.str (ss l)), none, none, none] = .ok .nx [some u3, some (.str LT), some (.str (ss l)), some (.str (ss [c])), none, none] := by simp [q_blkc, q_blk0, q_setc, q_set0, q_retc, q_ret0, q_dropc, q_drop0, q_ifc, q_if0, q_ifec, q_ife0, q_testc, q_test0, q_notc, q_not0, q_andc, q_and0, q_orc, q_or0, q_andvc, q_andv0, q_orvc, q_orv0, q_trc, q_tr0, q_op1c, q_op10, q_op2c, q_op20, q_opsc, q_ops0, q_evnmc, q_evnm0, q_evexc, q_evex0, q_evos0c, q_evos00, q_evoscc, q_evosc0, q_eva0c, q_eva00, q_evavc, q_evav0, q_evarc, q_evar0, q_callc, q_call0, q_newc, q_new0, q_methc, q_meth0, q_parc, q_par0, q_all0c, q_all00, q_allcc, q_allc0, q_tupc, q_tup0, q_lstc, q_lst0, q_sl2c, q_sl20, q_sl1c, q_sl10, q_putc, q_put0, q_fstc, q_fst0, PI.q_forc, q_for0, q_itvc, q_itv0, q_rngc, q_rng0, q_itac, q_ita0, q_lcc, q_lc0, q_dicc, q_dic0, q_evk0c, q_evk00, q_evkcc, q_evkc0, q_rsc, q_rs0, q_yesc, q_yes0, q_chc, q_ch0, q_nxc, q_nx0, q_retnc, q_retn0, q_setTc, q_setT0, k_ro, k_rb, k_rl, k_rt, k_asB, k_add, k_sub, k_mul, k_fdiv, k_mod, k_pow, k_addl, k_bini, k_binl, k_lt, k_le, k_gt, k_ge, k_ixl, k_ixt, k_inti, k_intb, k_abs, k_lenl, k_lent, k_max, k_min, k_s0, k_s1, k_s2, k_s3, k_s4, k_s5, k_s6, k_s7, k_t0, k_t1, k_t2, k_t4, k_eqi, k_nei, k_eqs, k_nes, k_itl, k_itt, k_run, k_for0, q_pVc, q_pC, q_blk, nxt, setK, retK, dropK, ifK, ifEK, notK, andK, orK, andVK, orVK, trK, op1K, op2E, op2K, opsK, nmK, exK, evosK, evvK, evrK, wbC, callK, newE, newK, methE, methK, parK, allK, tupK, lstK, sl2K, sl1K, itvK, rngK, itaK, dicK, evkK, rsK, setTK, put1, put2, putD, rdO, rdOs, rdA, finC, retL, r_0e, r_1e, r_1z, r_2e, r_2z, r_3e, r_3z, r_4e, r_4z, r_5e, r_5z, r_6e, r_6z, r_7e, r_7z, r_8e, r_8z, r_9e, r_9z, r_10e, r_10z, r_11e, r_11z, wbS, pmL, pmAt, nmA, L2.atI, L2.ixN, so_eq, e3, ho]
    obtain ⟨p, u4, e4, a4, b4, w4⟩ := take_w w3 (by omega) (m := (l.length : Int) + 1) (by omega) (by omega)
    have len := len_s (l := l) (by omega)
    have s4 : (pSet 4 (pCall f_law_take [0] [(.r (.nm 0)), (.v (pOp2 (fun d e g => ro (binD .Add d e) g) (.ex (pOps (fun ds g => ro (lenD ds) g) [(.nm 2)])) (.ex (pC (.int 1)))))] [.inl 0, .inl 1])) [some u3, some (.str LT), some (.str (ss l)), some (.str (ss [c])), none, none] = .ok .nx [some u4, some (.str LT), some (.str (ss l)), some (.str (ss [c])), some (.int p), none] := by simp [q_blkc, q_blk0, q_setc, q_set0, q_retc, q_ret0, q_dropc, q_drop0, q_ifc, q_if0, q_ifec, q_ife0, q_testc, q_test0, q_notc, q_not0, q_andc, q_and0, q_orc, q_or0, q_andvc, q_andv0, q_orvc, q_orv0, q_trc, q_tr0, q_op1c, q_op10, q_op2c, q_op20, q_opsc, q_ops0, q_evnmc, q_evnm0, q_evexc, q_evex0, q_evos0c, q_evos00, q_evoscc, q_evosc0, q_eva0c, q_eva00, q_evavc, q_evav0, q_evarc, q_evar0, q_callc, q_call0, q_newc, q_new0, q_methc, q_meth0, q_parc, q_par0, q_all0c, q_all00, q_allcc, q_allc0, q_tupc, q_tup0, q_lstc, q_lst0, q_sl2c, q_sl20, q_sl1c, q_sl10, q_putc, q_put0, q_fstc, q_fst0, PI.q_forc, q_for0, q_itvc, q_itv0, q_rngc, q_rng0, q_itac, q_ita0, q_lcc, q_lc0, q_dicc, q_dic0, q_evk0c, q_evk00, q_evkcc, q_evkc0, q_rsc, q_rs0, q_yesc, q_yes0, q_chc, q_ch0, q_nxc, q_nx0, q_retnc, q_retn0, q_setTc, q_setT0, k_ro, k_rb, k_rl, k_rt, k_asB, k_add, k_sub, k_mul, k_fdiv, k_mod, k_pow, k_addl, k_bini, k_binl, k_lt, k_le, k_gt, k_ge, k_ixl, k_ixt, k_inti, k_intb, k_abs, k_lenl, k_lent, k_max, k_min, k_s0, k_s1, k_s2, k_s3, k_s4, k_s5, k_s6, k_s7, k_t0, k_t1, k_t2, k_t4, k_eqi, k_nei, k_eqs, k_nes, k_itl, k_itt, k_run, k_for0, q_pVc, q_pC, q_blk, nxt, setK, retK, dropK, ifK, ifEK, notK, andK, orK, andVK, orVK, trK, op1K, op2E, op2K, opsK, nmK, exK, evosK, evvK, evrK, wbC, callK, newE, newK, methE, methK, parK, allK, tupK, lstK, sl2K, sl1K, itvK, rngK, itaK, dicK, evkK, rsK, setTK, put1, put2, putD, rdO, rdOs, rdA, finC, retL, r_0e, r_1e, r_1z, r_2e, r_2z, r_3e, r_3z, r_4e, r_4z, r_5e, r_5z, r_6e, r_6z, r_7e, r_7z, r_8e, r_8z, r_9e, r_9z, r_10e, r_10z, r_11e, r_11z, wbS, pmL, pmAt, nmA, L2.atI, L2.ixN, so_eq, len, e4]
    obtain ⟨k, u5, e5, a5, b5, w5⟩ := take_w w4 (by omega) (m := 2) (by decide) (by decide)
    have d1 := cut_lo (l := l) (k := p) a4 (by omega)
    have d2 := cut_hi2 (l := l) (k := p + k) (by omega) (by omega)
    have lt : (l.take p.toNat).length ≤ 12 := by rw [List.length_take]; omega
    have ld : (l.drop (p + k).toNat).length ≤ 12 := by rw [List.length_drop]; omega
    have c1 : (ss (l.take p.toNat)).length + (ss [c]).length ≤ lim := by
      rw [ss_len, ss_len]
      unfold lim
      simp only [List.length_singleton]
      omega
    have c2 : (ss (l.take p.toNat ++ [c])).length + (ss (l.drop (p + k).toNat)).length ≤ lim := by
      rw [ss_len, ss_len, List.length_append]
      unfold lim
      simp only [List.length_singleton]
      omega
    refine ⟨l.take p.toNat ++ [c] ++ l.drop (p + k).toNat, u5, ?_, ?_, ?_, w5.up (by omega)⟩
    · have s5 : (pRet (pOp2 (fun d e g => ro (binD .Add d e) g) (.ex (pOp2 (fun d e g => ro (binD .Add d e) g) (.ex (pSl (.nm 2) none (some (pV 4)))) (.nm 3))) (.ex (pSl (.nm 2) (some (pOp2 (fun d e g => ro (binD .Add d e) g) (.nm 4) (.ex (pCall f_law_take [0] [(.r (.nm 0)), (.v (pC (.int 2)))] [.inl 0, .inl 1])))) none)))) [some u4, some (.str LT), some (.str (ss l)), some (.str (ss [c])), some (.int p), none] = .ok (.rt (.str (ss (l.take p.toNat ++ [c] ++ l.drop (p + k).toNat)))) [some u5, some (.str LT), some (.str (ss l)), some (.str (ss [c])), some (.int p), none] := by
        generalize hq : (p + k).toNat = q at d2 c2 ⊢
        simp [q_blkc, q_blk0, q_setc, q_set0, q_retc, q_ret0, q_dropc, q_drop0, q_ifc, q_if0, q_ifec, q_ife0, q_testc, q_test0, q_notc, q_not0, q_andc, q_and0, q_orc, q_or0, q_andvc, q_andv0, q_orvc, q_orv0, q_trc, q_tr0, q_op1c, q_op10, q_op2c, q_op20, q_opsc, q_ops0, q_evnmc, q_evnm0, q_evexc, q_evex0, q_evos0c, q_evos00, q_evoscc, q_evosc0, q_eva0c, q_eva00, q_evavc, q_evav0, q_evarc, q_evar0, q_callc, q_call0, q_newc, q_new0, q_methc, q_meth0, q_parc, q_par0, q_all0c, q_all00, q_allcc, q_allc0, q_tupc, q_tup0, q_lstc, q_lst0, q_sl2c, q_sl20, q_sl1c, q_sl10, q_putc, q_put0, q_fstc, q_fst0, PI.q_forc, q_for0, q_itvc, q_itv0, q_rngc, q_rng0, q_itac, q_ita0, q_lcc, q_lc0, q_dicc, q_dic0, q_evk0c, q_evk00, q_evkcc, q_evkc0, q_rsc, q_rs0, q_yesc, q_yes0, q_chc, q_ch0, q_nxc, q_nx0, q_retnc, q_retn0, q_setTc, q_setT0, k_ro, k_rb, k_rl, k_rt, k_asB, k_add, k_sub, k_mul, k_fdiv, k_mod, k_pow, k_addl, k_bini, k_binl, k_lt, k_le, k_gt, k_ge, k_ixl, k_ixt, k_inti, k_intb, k_abs, k_lenl, k_lent, k_max, k_min, k_s0, k_s1, k_s2, k_s3, k_s4, k_s5, k_s6, k_s7, k_t0, k_t1, k_t2, k_t4, k_eqi, k_nei, k_eqs, k_nes, k_itl, k_itt, k_run, k_for0, q_pVc, q_pC, q_blk, nxt, setK, retK, dropK, ifK, ifEK, notK, andK, orK, andVK, orVK, trK, op1K, op2E, op2K, opsK, nmK, exK, evosK, evvK, evrK, wbC, callK, newE, newK, methE, methK, parK, allK, tupK, lstK, sl2K, sl1K, itvK, rngK, itaK, dicK, evkK, rsK, setTK, put1, put2, putD, rdO, rdOs, rdA, finC, retL, r_0e, r_1e, r_1z, r_2e, r_2z, r_3e, r_3z, r_4e, r_4z, r_5e, r_5z, r_6e, r_6z, r_7e, r_7z, r_8e, r_8z, r_9e, r_9z, r_10e, r_10z, r_11e, r_11z, wbS, pmL, pmAt, nmA, L2.atI, L2.ixN, so_eq, q_slc, slK0, slK, q_evp1, q_evp0, evPK, d1, e5, d2, k_adds, c1, c2, ss_app]
      rw [k_run]
      show finC [0] (pBlk _ [some u, none, none, none, none, none]) = _
      rw [blk_step s0, blk_step s1, blk_step s2, blk_step s3, blk_step s4, blk_ret s5]
      rfl
    · rw [List.length_append, List.length_append, List.length_take, List.length_drop]
      simp only [List.length_singleton]
      omega
    · refine asc_app (asc_app (fun d hd => ?_) (fun d hd => ?_)) (fun d hd => ?_)
      · exact asc_az la d (List.mem_of_mem_take hd)
      · rw [List.mem_singleton] at hd
        omega
      · exact asc_az la d (List.mem_of_mem_drop hd)
end A02

set_option linter.all false
set_option maxRecDepth 100000
set_option maxHeartbeats 1000000
namespace A02
open PI PySem
theorem cps_a : ("a" : Str) = ss [97] := by kernel_rfl
theorem cps_z : ("z" : Str) = ss [122] := by kernel_rfl
theorem lt_a (c : Nat) : cmpD .Lt (.str (ss [c])) (.str "a") = some (decide (c < 97)) := by
  rw [cps_a]
  show some (decide ([c] < [97])) = _
  congr 1
  refine decide_eq_decide.mpr ⟨fun h => ?_, fun h => .rel h⟩
  cases h with
  | rel h => exact h
  | cons h => cases h
theorem gt_z (c : Nat) : cmpD .Gt (.str (ss [c])) (.str "z") = some (decide (122 < c)) := by
  rw [cps_z]
  show some (decide ([122] < [c])) = _
  congr 1
  refine decide_eq_decide.mpr ⟨fun h => ?_, fun h => .rel h⟩
  cases h with
  | rel h => exact h
  | cons h => cases h
theorem eq_nil {xs : List Str} (h : ∀ x ∈ xs, PyData.strOk x = true) (b c : Bool) : cmpD .Eq (.lst b (xs.map .str)) (.lst c []) = some xs.isEmpty := by
  have e : pyOf (.lst b (xs.map .str)) = some (.list (xs.map .str)) := by
    show (pyAll (xs.map .str)).map _ = _
    rw [pyAll_s]
    rfl
  have e2 : pyOf (.lst c []) = some (.list []) := rfl
  have sh := shaped_s h
  have sh2 : SeqAt.shaped (.list []) = true := by kernel_rfl
  show eqP _ _ = _
  unfold eqP
  rw [e, e2]
  show (if SeqAt.shaped (.list (xs.map .str)) = true ∧ SeqAt.shaped (.list []) = true then some (PyData.eqv (.list (xs.map .str)) (.list [])) else none) = _
  rw [if_pos ⟨sh, sh2⟩]
  cases xs with
  | nil => kernel_rfl
  | cons x xs => simp [PyData.eqv, PyData.eqvAll]
theorem ne_nil2 : cmpD .NotEq (.lst true []) (.lst true []) = some false := by kernel_rfl
theorem rng4 : rngA [.int 4] = some ([0, 1, 2, 3].map .int) := by kernel_rfl
theorem four : ∀ w ∈ ([0, 1, 2, 3] : List Int), w = 0 ∨ w = 1 ∨ w = 2 ∨ w = 3 := by
  intro w hw
  simpa using hw
def bad (l : List Nat) : List Str := (l.filter fun c => !ok1 c).map fun c => ss [c]
theorem bad_ok {l : List Nat} (h : asc l) : ∀ x ∈ bad l, PyData.strOk x = true := fun x hx => by
  obtain ⟨c, hc, rfl⟩ := List.mem_map.mp hx
  refine strOk_asc fun d hd => ?_
  rw [List.mem_singleton] at hd
  rw [hd]
  exact h c (List.mem_filter.mp hc).1
theorem bad_e (l : List Nat) : (bad l).isEmpty = l.all ok1 := by
  unfold bad
  rw [List.isEmpty_map]
  induction l with
  | nil => rfl
  | cons c l ih =>
    cases h : ok1 c
    · rw [List.filter_cons_of_pos (by rw [h]; rfl), List.all_cons, h]
      rfl
    · rw [List.filter_cons_of_neg (by rw [h]; simp), List.all_cons, h, ih]
      rfl
/-- what is due: the names, or the error told -/
def want (l : List Nat) : List D := if gd l = true then [.str (ss l)] else [.bl true, .str (ss l)]
def wantP (l : List Nat) : List PyData := if gd l = true then [.str (ss l)] else [.bool true, .str (ss l)]
theorem want_p (l : List Nat) : pyAll (want l) = some (wantP l) := by
  unfold want wantP
  cases gd l <;> rfl
theorem want_t {l : List Nat} (h : asc l) (hl : l.length ≤ 100) : Tl 2100 1 (.list (wantP l)) := by
  have t1 : Tl 1002 0 (.str (ss l)) := (tl_str h).up (by omega) (Nat.le_refl _)
  have t2 : Tl 1002 0 (.bool true) := (tl_bool true).up (by decide) (Nat.le_refl _)
  have hp : ∀ p ∈ wantP l, Tl 1002 0 p := fun p hp => by
    unfold wantP at hp
    split at hp
    · rw [List.mem_singleton] at hp
      rw [hp]
      exact t1
    · rcases List.mem_cons.mp hp with rfl | hp
      · exact t2
      · rw [List.mem_singleton] at hp
        rw [hp]
        exact t1
  refine (tl_list hp).up ?_ (Nat.le_refl _)
  unfold wantP
  split
  · simp only [List.length_cons, List.length_nil]
    omega
  · simp only [List.length_cons, List.length_nil]
    omega
theorem want_r {l : List Nat} (h : asc l) (hl : l.length ≤ 100) (b : Bool) : reprB [.lst b (want l)] = some (.str (PyData.list (wantP l)).shown) := by
  rw [rb_lst]
  exact tl_rep (want_t h hl) (by decide) (by decide) (want_p l)
theorem caught_w {l : List Nat} (hl : l.length ≤ 100) {way : Int} (hw : way = 0 ∨ way = 1 ∨ way = 2 ∨ way = 3) : ∃ b, f_law_caught [.str (ss l), .int way] = .ok (.lst b (want l)) [] := by
  unfold want
  cases h : gd l
  · exact ⟨_, caught_b hl h hw⟩
  · exact ⟨_, caught_g hl h hw⟩
theorem good_w {l : List Nat} (h : asc l) (hl : l.length ≤ 100) (v : D) (c1 c8 c9 : Option D) : (pSet 8 (pAndV (pCh .LtE .LtE (.ex (pC (.int 1))) (.ex (pOps (fun ds g => ro (lenD ds) g) [(.nm 7)])) (.ex (pC (.int 8)))) (pOp2 (fun d e g => rb (cmpD .Eq d e) g) (.ex (pLc (pItV (pV 7)) (.nm 11) (pOr (pTest (pOp2 (fun d e g => rb (cmpD .Lt d e) g) (.nm 11) (.ex (pC (.str "a"))))) (pTest (pOp2 (fun d e g => rb (cmpD .Gt d e) g) (.nm 11) (.ex (pC (.str "z")))))) (pV 11) [11])) (.ex (pLst []))))) [some v, c1, none, none, none, none, none, some (.str (ss l)), c8, c9, none, none] = .ok .nx [some v, c1, none, none, none, none, none, some (.str (ss l)), some (.bl (gd l)), c9, none, none] := by
  have it : itmD (.str (ss l)) = some (l.map fun c => .str (ss [c])) := rfl
  have e1 := lcK_fm (tg := (.nm 11)) (c := (pOr (pTest (pOp2 (fun d e g => rb (cmpD .Lt d e) g) (.nm 11) (.ex (pC (.str "a"))))) (pTest (pOp2 (fun d e g => rb (cmpD .Gt d e) g) (.nm 11) (.ex (pC (.str "z"))))))) (e := (pV 11)) (vs := [11]) (G := [some v, c1, none, none, none, none, none, some (.str (ss l)), c8, c9, none, none]) (fun d => !chk d) (fun d => d) (ds := l.map fun c => .str (ss [c])) rfl (fun d hd => by
    obtain ⟨c, hc, rfl⟩ := List.mem_map.mp hd
    have h1 := lt_a c
    have h2 := gt_z c
    refine ⟨_, [some v, c1, none, none, none, none, none, some (.str (ss l)), c8, c9, none, some (.str (ss [c]))], [some v, c1, none, none, none, none, none, some (.str (ss l)), c8, c9, none, some (.str (ss [c]))], rfl, ?_, (fun _ => ⟨rfl, rfl⟩), fun _ => rfl⟩
    rw [chk_c]
    unfold ok1
    by_cases a1 : c < 97
    · have e : decide (97 ≤ c ∧ c ≤ 122) = false := decide_eq_false (by omega)
      rw [e]
      simp [q_blkc, q_blk0, q_setc, q_set0, q_retc, q_ret0, q_dropc, q_drop0, q_ifc, q_if0, q_ifec, q_ife0, q_testc, q_test0, q_notc, q_not0, q_andc, q_and0, q_orc, q_or0, q_andvc, q_andv0, q_orvc, q_orv0, q_trc, q_tr0, q_op1c, q_op10, q_op2c, q_op20, q_opsc, q_ops0, q_evnmc, q_evnm0, q_evexc, q_evex0, q_evos0c, q_evos00, q_evoscc, q_evosc0, q_eva0c, q_eva00, q_evavc, q_evav0, q_evarc, q_evar0, q_callc, q_call0, q_newc, q_new0, q_methc, q_meth0, q_parc, q_par0, q_all0c, q_all00, q_allcc, q_allc0, q_tupc, q_tup0, q_lstc, q_lst0, q_sl2c, q_sl20, q_sl1c, q_sl10, q_putc, q_put0, q_fstc, q_fst0, PI.q_forc, q_for0, q_itvc, q_itv0, q_rngc, q_rng0, q_itac, q_ita0, q_lcc, q_lc0, q_dicc, q_dic0, q_evk0c, q_evk00, q_evkcc, q_evkc0, q_rsc, q_rs0, q_yesc, q_yes0, q_chc, q_ch0, q_nxc, q_nx0, q_retnc, q_retn0, q_setTc, q_setT0, k_ro, k_rb, k_rl, k_rt, k_asB, k_add, k_sub, k_mul, k_fdiv, k_mod, k_pow, k_addl, k_bini, k_binl, k_lt, k_le, k_gt, k_ge, k_ixl, k_ixt, k_inti, k_intb, k_abs, k_lenl, k_lent, k_max, k_min, k_s0, k_s1, k_s2, k_s3, k_s4, k_s5, k_s6, k_s7, k_t0, k_t1, k_t2, k_t4, k_eqi, k_nei, k_eqs, k_nes, k_itl, k_itt, k_run, k_for0, q_pVc, q_pC, q_blk, nxt, setK, retK, dropK, ifK, ifEK, notK, andK, orK, andVK, orVK, trK, op1K, op2E, op2K, opsK, nmK, exK, evosK, evvK, evrK, wbC, callK, newE, newK, methE, methK, parK, allK, tupK, lstK, sl2K, sl1K, itvK, rngK, itaK, dicK, evkK, rsK, setTK, put1, put2, putD, rdO, rdOs, rdA, finC, retL, r_0e, r_1e, r_1z, r_2e, r_2z, r_3e, r_3z, r_4e, r_4z, r_5e, r_5z, r_6e, r_6z, r_7e, r_7z, r_8e, r_8z, r_9e, r_9z, r_10e, r_10z, r_11e, r_11z, wbS, pmL, pmAt, nmA, L2.atI, L2.ixN, so_eq, h1, h2, a1]
    · by_cases a2 : 122 < c
      · have e : decide (97 ≤ c ∧ c ≤ 122) = false := decide_eq_false (by omega)
        rw [e]
        simp [q_blkc, q_blk0, q_setc, q_set0, q_retc, q_ret0, q_dropc, q_drop0, q_ifc, q_if0, q_ifec, q_ife0, q_testc, q_test0, q_notc, q_not0, q_andc, q_and0, q_orc, q_or0, q_andvc, q_andv0, q_orvc, q_orv0, q_trc, q_tr0, q_op1c, q_op10, q_op2c, q_op20, q_opsc, q_ops0, q_evnmc, q_evnm0, q_evexc, q_evex0, q_evos0c, q_evos00, q_evoscc, q_evosc0, q_eva0c, q_eva00, q_evavc, q_evav0, q_evarc, q_evar0, q_callc, q_call0, q_newc, q_new0, q_methc, q_meth0, q_parc, q_par0, q_all0c, q_all00, q_allcc, q_allc0, q_tupc, q_tup0, q_lstc, q_lst0, q_sl2c, q_sl20, q_sl1c, q_sl10, q_putc, q_put0, q_fstc, q_fst0, PI.q_forc, q_for0, q_itvc, q_itv0, q_rngc, q_rng0, q_itac, q_ita0, q_lcc, q_lc0, q_dicc, q_dic0, q_evk0c, q_evk00, q_evkcc, q_evkc0, q_rsc, q_rs0, q_yesc, q_yes0, q_chc, q_ch0, q_nxc, q_nx0, q_retnc, q_retn0, q_setTc, q_setT0, k_ro, k_rb, k_rl, k_rt, k_asB, k_add, k_sub, k_mul, k_fdiv, k_mod, k_pow, k_addl, k_bini, k_binl, k_lt, k_le, k_gt, k_ge, k_ixl, k_ixt, k_inti, k_intb, k_abs, k_lenl, k_lent, k_max, k_min, k_s0, k_s1, k_s2, k_s3, k_s4, k_s5, k_s6, k_s7, k_t0, k_t1, k_t2, k_t4, k_eqi, k_nei, k_eqs, k_nes, k_itl, k_itt, k_run, k_for0, q_pVc, q_pC, q_blk, nxt, setK, retK, dropK, ifK, ifEK, notK, andK, orK, andVK, orVK, trK, op1K, op2E, op2K, opsK, nmK, exK, evosK, evvK, evrK, wbC, callK, newE, newK, methE, methK, parK, allK, tupK, lstK, sl2K, sl1K, itvK, rngK, itaK, dicK, evkK, rsK, setTK, put1, put2, putD, rdO, rdOs, rdA, finC, retL, r_0e, r_1e, r_1z, r_2e, r_2z, r_3e, r_3z, r_4e, r_4z, r_5e, r_5z, r_6e, r_6z, r_7e, r_7z, r_8e, r_8z, r_9e, r_9z, r_10e, r_10z, r_11e, r_11z, wbS, pmL, pmAt, nmA, L2.atI, L2.ixN, so_eq, h1, h2, a1, a2]
      · have e : decide (97 ≤ c ∧ c ≤ 122) = true := decide_eq_true (by omega)
        rw [e]
        simp [q_blkc, q_blk0, q_setc, q_set0, q_retc, q_ret0, q_dropc, q_drop0, q_ifc, q_if0, q_ifec, q_ife0, q_testc, q_test0, q_notc, q_not0, q_andc, q_and0, q_orc, q_or0, q_andvc, q_andv0, q_orvc, q_orv0, q_trc, q_tr0, q_op1c, q_op10, q_op2c, q_op20, q_opsc, q_ops0, q_evnmc, q_evnm0, q_evexc, q_evex0, q_evos0c, q_evos00, q_evoscc, q_evosc0, q_eva0c, q_eva00, q_evavc, q_evav0, q_evarc, q_evar0, q_callc, q_call0, q_newc, q_new0, q_methc, q_meth0, q_parc, q_par0, q_all0c, q_all00, q_allcc, q_allc0, q_tupc, q_tup0, q_lstc, q_lst0, q_sl2c, q_sl20, q_sl1c, q_sl10, q_putc, q_put0, q_fstc, q_fst0, PI.q_forc, q_for0, q_itvc, q_itv0, q_rngc, q_rng0, q_itac, q_ita0, q_lcc, q_lc0, q_dicc, q_dic0, q_evk0c, q_evk00, q_evkcc, q_evkc0, q_rsc, q_rs0, q_yesc, q_yes0, q_chc, q_ch0, q_nxc, q_nx0, q_retnc, q_retn0, q_setTc, q_setT0, k_ro, k_rb, k_rl, k_rt, k_asB, k_add, k_sub, k_mul, k_fdiv, k_mod, k_pow, k_addl, k_bini, k_binl, k_lt, k_le, k_gt, k_ge, k_ixl, k_ixt, k_inti, k_intb, k_abs, k_lenl, k_lent, k_max, k_min, k_s0, k_s1, k_s2, k_s3, k_s4, k_s5, k_s6, k_s7, k_t0, k_t1, k_t2, k_t4, k_eqi, k_nei, k_eqs, k_nes, k_itl, k_itt, k_run, k_for0, q_pVc, q_pC, q_blk, nxt, setK, retK, dropK, ifK, ifEK, notK, andK, orK, andVK, orVK, trK, op1K, op2E, op2K, opsK, nmK, exK, evosK, evvK, evrK, wbC, callK, newE, newK, methE, methK, parK, allK, tupK, lstK, sl2K, sl1K, itvK, rngK, itaK, dicK, evkK, rsK, setTK, put1, put2, putD, rdO, rdOs, rdA, finC, retL, r_0e, r_1e, r_1z, r_2e, r_2z, r_3e, r_3z, r_4e, r_4z, r_5e, r_5z, r_6e, r_6z, r_7e, r_7z, r_8e, r_8z, r_9e, r_9z, r_10e, r_10z, r_11e, r_11z, wbS, pmL, pmAt, nmA, L2.atI, L2.ixN, so_eq, h1, h2, a1, a2]) (by simp; omega)
  have e2 : ((l.map fun c => D.str (ss [c])).filter fun d => !chk d).map (fun d => sealD d) = (bad l).map .str := by
    unfold bad
    rw [List.filter_map, List.map_map, List.map_map]
    rfl
  rw [e2] at e1
  have ha := eq_nil (bad_ok h) true true
  rw [bad_e] at ha
  have ch := chain (l := l) (by omega) (some v) [c1, none, none, none, none, none, some (.str (ss l)), c8, c9, none, none] 7 rfl
  rw [q_setc, q_andvc, ch]
  unfold gd
  generalize D.lst true ((bad l).map .str) = q at e1 ha
  by_cases hb : 1 ≤ l.length ∧ l.length ≤ 8
  · rw [decide_eq_true hb]
    simp [q_blkc, q_blk0, q_setc, q_set0, q_retc, q_ret0, q_dropc, q_drop0, q_ifc, q_if0, q_ifec, q_ife0, q_testc, q_test0, q_notc, q_not0, q_andc, q_and0, q_orc, q_or0, q_andvc, q_andv0, q_orvc, q_orv0, q_trc, q_tr0, q_op1c, q_op10, q_op2c, q_op20, q_opsc, q_ops0, q_evnmc, q_evnm0, q_evexc, q_evex0, q_evos0c, q_evos00, q_evoscc, q_evosc0, q_eva0c, q_eva00, q_evavc, q_evav0, q_evarc, q_evar0, q_callc, q_call0, q_newc, q_new0, q_methc, q_meth0, q_parc, q_par0, q_all0c, q_all00, q_allcc, q_allc0, q_tupc, q_tup0, q_lstc, q_lst0, q_sl2c, q_sl20, q_sl1c, q_sl10, q_putc, q_put0, q_fstc, q_fst0, PI.q_forc, q_for0, q_itvc, q_itv0, q_rngc, q_rng0, q_itac, q_ita0, q_lcc, q_lc0, q_dicc, q_dic0, q_evk0c, q_evk00, q_evkcc, q_evkc0, q_rsc, q_rs0, q_yesc, q_yes0, q_chc, q_ch0, q_nxc, q_nx0, q_retnc, q_retn0, q_setTc, q_setT0, k_ro, k_rb, k_rl, k_rt, k_asB, k_add, k_sub, k_mul, k_fdiv, k_mod, k_pow, k_addl, k_bini, k_binl, k_lt, k_le, k_gt, k_ge, k_ixl, k_ixt, k_inti, k_intb, k_abs, k_lenl, k_lent, k_max, k_min, k_s0, k_s1, k_s2, k_s3, k_s4, k_s5, k_s6, k_s7, k_t0, k_t1, k_t2, k_t4, k_eqi, k_nei, k_eqs, k_nes, k_itl, k_itt, k_run, k_for0, q_pVc, q_pC, q_blk, nxt, setK, retK, dropK, ifK, ifEK, notK, andK, orK, andVK, orVK, trK, op1K, op2E, op2K, opsK, nmK, exK, evosK, evvK, evrK, wbC, callK, newE, newK, methE, methK, parK, allK, tupK, lstK, sl2K, sl1K, itvK, rngK, itaK, dicK, evkK, rsK, setTK, put1, put2, putD, rdO, rdOs, rdA, finC, retL, r_0e, r_1e, r_1z, r_2e, r_2z, r_3e, r_3z, r_4e, r_4z, r_5e, r_5z, r_6e, r_6z, r_7e, r_7z, r_8e, r_8z, r_9e, r_9z, r_10e, r_10z, r_11e, r_11z, wbS, pmL, pmAt, nmA, L2.atI, L2.ixN, so_eq, it, e1, ha]
  · rw [decide_eq_false hb]
    simp [q_blkc, q_blk0, q_setc, q_set0, q_retc, q_ret0, q_dropc, q_drop0, q_ifc, q_if0, q_ifec, q_ife0, q_testc, q_test0, q_notc, q_not0, q_andc, q_and0, q_orc, q_or0, q_andvc, q_andv0, q_orvc, q_orv0, q_trc, q_tr0, q_op1c, q_op10, q_op2c, q_op20, q_opsc, q_ops0, q_evnmc, q_evnm0, q_evexc, q_evex0, q_evos0c, q_evos00, q_evoscc, q_evosc0, q_eva0c, q_eva00, q_evavc, q_evav0, q_evarc, q_evar0, q_callc, q_call0, q_newc, q_new0, q_methc, q_meth0, q_parc, q_par0, q_all0c, q_all00, q_allcc, q_allc0, q_tupc, q_tup0, q_lstc, q_lst0, q_sl2c, q_sl20, q_sl1c, q_sl10, q_putc, q_put0, q_fstc, q_fst0, PI.q_forc, q_for0, q_itvc, q_itv0, q_rngc, q_rng0, q_itac, q_ita0, q_lcc, q_lc0, q_dicc, q_dic0, q_evk0c, q_evk00, q_evkcc, q_evkc0, q_rsc, q_rs0, q_yesc, q_yes0, q_chc, q_ch0, q_nxc, q_nx0, q_retnc, q_retn0, q_setTc, q_setT0, k_ro, k_rb, k_rl, k_rt, k_asB, k_add, k_sub, k_mul, k_fdiv, k_mod, k_pow, k_addl, k_bini, k_binl, k_lt, k_le, k_gt, k_ge, k_ixl, k_ixt, k_inti, k_intb, k_abs, k_lenl, k_lent, k_max, k_min, k_s0, k_s1, k_s2, k_s3, k_s4, k_s5, k_s6, k_s7, k_t0, k_t1, k_t2, k_t4, k_eqi, k_nei, k_eqs, k_nes, k_itl, k_itt, k_run, k_for0, q_pVc, q_pC, q_blk, nxt, setK, retK, dropK, ifK, ifEK, notK, andK, orK, andVK, orVK, trK, op1K, op2E, op2K, opsK, nmK, exK, evosK, evvK, evrK, wbC, callK, newE, newK, methE, methK, parK, allK, tupK, lstK, sl2K, sl1K, itvK, rngK, itaK, dicK, evkK, rsK, setTK, put1, put2, putD, rdO, rdOs, rdA, finC, retL, r_0e, r_1e, r_1z, r_2e, r_2z, r_3e, r_3z, r_4e, r_4z, r_5e, r_5z, r_6e, r_6z, r_7e, r_7z, r_8e, r_8z, r_9e, r_9z, r_10e, r_10z, r_11e, r_11z, wbS, pmL, pmAt, nmA, L2.atI, L2.ixN, so_eq]
theorem want_w (l : List Nat) (v : D) (c1 c9 : Option D) : (pSet 9 (pIfE (pTr (.nm 8)) (pLst [(pV 7)]) (pLst [(pC (.bl true)), (pV 7)]))) [some v, c1, none, none, none, none, none, some (.str (ss l)), some (.bl (gd l)), c9, none, none] = .ok .nx [some v, c1, none, none, none, none, none, some (.str (ss l)), some (.bl (gd l)), some (.lst true (want l)), none, none] := by
  unfold want
  cases gd l <;> simp [q_blkc, q_blk0, q_setc, q_set0, q_retc, q_ret0, q_dropc, q_drop0, q_ifc, q_if0, q_ifec, q_ife0, q_testc, q_test0, q_notc, q_not0, q_andc, q_and0, q_orc, q_or0, q_andvc, q_andv0, q_orvc, q_orv0, q_trc, q_tr0, q_op1c, q_op10, q_op2c, q_op20, q_opsc, q_ops0, q_evnmc, q_evnm0, q_evexc, q_evex0, q_evos0c, q_evos00, q_evoscc, q_evosc0, q_eva0c, q_eva00, q_evavc, q_evav0, q_evarc, q_evar0, q_callc, q_call0, q_newc, q_new0, q_methc, q_meth0, q_parc, q_par0, q_all0c, q_all00, q_allcc, q_allc0, q_tupc, q_tup0, q_lstc, q_lst0, q_sl2c, q_sl20, q_sl1c, q_sl10, q_putc, q_put0, q_fstc, q_fst0, PI.q_forc, q_for0, q_itvc, q_itv0, q_rngc, q_rng0, q_itac, q_ita0, q_lcc, q_lc0, q_dicc, q_dic0, q_evk0c, q_evk00, q_evkcc, q_evkc0, q_rsc, q_rs0, q_yesc, q_yes0, q_chc, q_ch0, q_nxc, q_nx0, q_retnc, q_retn0, q_setTc, q_setT0, k_ro, k_rb, k_rl, k_rt, k_asB, k_add, k_sub, k_mul, k_fdiv, k_mod, k_pow, k_addl, k_bini, k_binl, k_lt, k_le, k_gt, k_ge, k_ixl, k_ixt, k_inti, k_intb, k_abs, k_lenl, k_lent, k_max, k_min, k_s0, k_s1, k_s2, k_s3, k_s4, k_s5, k_s6, k_s7, k_t0, k_t1, k_t2, k_t4, k_eqi, k_nei, k_eqs, k_nes, k_itl, k_itt, k_run, k_for0, q_pVc, q_pC, q_blk, nxt, setK, retK, dropK, ifK, ifEK, notK, andK, orK, andVK, orVK, trK, op1K, op2E, op2K, opsK, nmK, exK, evosK, evvK, evrK, wbC, callK, newE, newK, methE, methK, parK, allK, tupK, lstK, sl2K, sl1K, itvK, rngK, itaK, dicK, evkK, rsK, setTK, put1, put2, putD, rdO, rdOs, rdA, finC, retL, r_0e, r_1e, r_1z, r_2e, r_2z, r_3e, r_3z, r_4e, r_4z, r_5e, r_5z, r_6e, r_6z, r_7e, r_7z, r_8e, r_8z, r_9e, r_9z, r_10e, r_10z, r_11e, r_11z, wbS, pmL, pmAt, nmA, L2.atI, L2.ixN, so_eq]
theorem ways_w {l : List Nat} (h : asc l) (hl : l.length ≤ 100) (v : D) (c1 c8 : Option D) : (pIf (pTest (pOp2 (fun d e g => rb (cmpD .NotEq d e) g) (.ex (pLc (pRng [(.ex (pC (.int 4)))]) (.nm 10) (pTest (pOp2 (fun d e g => rb (cmpD .NotEq d e) g) (.ex (pOps (fun ds g => ro (reprB ds) g) [(.ex (pCall f_law_caught [] [(.v (pV 7)), (.v (pV 10))] [.inl 0, .inl 1]))])) (.ex (pOps (fun ds g => ro (reprB ds) g) [(.nm 9)])))) (pV 10) [10])) (.ex (pLst [])))) (pBlk [(pRet (pC (.bl false)))]) (pBlk [])) [some v, c1, none, none, none, none, none, some (.str (ss l)), c8, some (.lst true (want l)), none, none] = .ok .nx [some v, c1, none, none, none, none, none, some (.str (ss l)), c8, some (.lst true (want l)), none, none] := by
  have rr := fun b => want_r h hl b
  have so := (want_t h hl).ok
  have e1 := lcK_fm (tg := (.nm 10)) (c := (pTest (pOp2 (fun d e g => rb (cmpD .NotEq d e) g) (.ex (pOps (fun ds g => ro (reprB ds) g) [(.ex (pCall f_law_caught [] [(.v (pV 7)), (.v (pV 10))] [.inl 0, .inl 1]))])) (.ex (pOps (fun ds g => ro (reprB ds) g) [(.nm 9)]))))) (e := (pV 10)) (vs := [10]) (G := [some v, c1, none, none, none, none, none, some (.str (ss l)), c8, some (.lst true (want l)), none, none]) (fun d => false) (fun d => d) (ds := ([0, 1, 2, 3] : List Int).map .int) rfl (fun d hd => by
    obtain ⟨w, hw, rfl⟩ := List.mem_map.mp hd
    obtain ⟨b, c⟩ := caught_w hl (four w hw)
    refine ⟨_, [some v, c1, none, none, none, none, none, some (.str (ss l)), c8, some (.lst true (want l)), some (.int w), none], [some v, c1, none, none, none, none, none, some (.str (ss l)), c8, some (.lst true (want l)), some (.int w), none], rfl, ?_, (fun z => (nomatch z)), fun _ => rfl⟩
    generalize want l = q at rr c
    generalize (PyData.list (wantP l)).shown = r at rr so
    simp [q_blkc, q_blk0, q_setc, q_set0, q_retc, q_ret0, q_dropc, q_drop0, q_ifc, q_if0, q_ifec, q_ife0, q_testc, q_test0, q_notc, q_not0, q_andc, q_and0, q_orc, q_or0, q_andvc, q_andv0, q_orvc, q_orv0, q_trc, q_tr0, q_op1c, q_op10, q_op2c, q_op20, q_opsc, q_ops0, q_evnmc, q_evnm0, q_evexc, q_evex0, q_evos0c, q_evos00, q_evoscc, q_evosc0, q_eva0c, q_eva00, q_evavc, q_evav0, q_evarc, q_evar0, q_callc, q_call0, q_newc, q_new0, q_methc, q_meth0, q_parc, q_par0, q_all0c, q_all00, q_allcc, q_allc0, q_tupc, q_tup0, q_lstc, q_lst0, q_sl2c, q_sl20, q_sl1c, q_sl10, q_putc, q_put0, q_fstc, q_fst0, PI.q_forc, q_for0, q_itvc, q_itv0, q_rngc, q_rng0, q_itac, q_ita0, q_lcc, q_lc0, q_dicc, q_dic0, q_evk0c, q_evk00, q_evkcc, q_evkc0, q_rsc, q_rs0, q_yesc, q_yes0, q_chc, q_ch0, q_nxc, q_nx0, q_retnc, q_retn0, q_setTc, q_setT0, k_ro, k_rb, k_rl, k_rt, k_asB, k_add, k_sub, k_mul, k_fdiv, k_mod, k_pow, k_addl, k_bini, k_binl, k_lt, k_le, k_gt, k_ge, k_ixl, k_ixt, k_inti, k_intb, k_abs, k_lenl, k_lent, k_max, k_min, k_s0, k_s1, k_s2, k_s3, k_s4, k_s5, k_s6, k_s7, k_t0, k_t1, k_t2, k_t4, k_eqi, k_nei, k_eqs, k_nes, k_itl, k_itt, k_run, k_for0, q_pVc, q_pC, q_blk, nxt, setK, retK, dropK, ifK, ifEK, notK, andK, orK, andVK, orVK, trK, op1K, op2E, op2K, opsK, nmK, exK, evosK, evvK, evrK, wbC, callK, newE, newK, methE, methK, parK, allK, tupK, lstK, sl2K, sl1K, itvK, rngK, itaK, dicK, evkK, rsK, setTK, put1, put2, putD, rdO, rdOs, rdA, finC, retL, r_0e, r_1e, r_1z, r_2e, r_2z, r_3e, r_3z, r_4e, r_4z, r_5e, r_5z, r_6e, r_6z, r_7e, r_7z, r_8e, r_8z, r_9e, r_9z, r_10e, r_10z, r_11e, r_11z, wbS, pmL, pmAt, nmA, L2.atI, L2.ixN, so_eq, c, rr, so]) (by simp)
  have e2 : ((([0, 1, 2, 3] : List Int).map D.int).filter fun d => false).map (fun d => sealD d) = [] := rfl
  rw [e2] at e1
  simp only [List.map_cons, List.map_nil] at e1
  simp [q_blkc, q_blk0, q_setc, q_set0, q_retc, q_ret0, q_dropc, q_drop0, q_ifc, q_if0, q_ifec, q_ife0, q_testc, q_test0, q_notc, q_not0, q_andc, q_and0, q_orc, q_or0, q_andvc, q_andv0, q_orvc, q_orv0, q_trc, q_tr0, q_op1c, q_op10, q_op2c, q_op20, q_opsc, q_ops0, q_evnmc, q_evnm0, q_evexc, q_evex0, q_evos0c, q_evos00, q_evoscc, q_evosc0, q_eva0c, q_eva00, q_evavc, q_evav0, q_evarc, q_evar0, q_callc, q_call0, q_newc, q_new0, q_methc, q_meth0, q_parc, q_par0, q_all0c, q_all00, q_allcc, q_allc0, q_tupc, q_tup0, q_lstc, q_lst0, q_sl2c, q_sl20, q_sl1c, q_sl10, q_putc, q_put0, q_fstc, q_fst0, PI.q_forc, q_for0, q_itvc, q_itv0, q_rngc, q_rng0, q_itac, q_ita0, q_lcc, q_lc0, q_dicc, q_dic0, q_evk0c, q_evk00, q_evkcc, q_evkc0, q_rsc, q_rs0, q_yesc, q_yes0, q_chc, q_ch0, q_nxc, q_nx0, q_retnc, q_retn0, q_setTc, q_setT0, k_ro, k_rb, k_rl, k_rt, k_asB, k_add, k_sub, k_mul, k_fdiv, k_mod, k_pow, k_addl, k_bini, k_binl, k_lt, k_le, k_gt, k_ge, k_ixl, k_ixt, k_inti, k_intb, k_abs, k_lenl, k_lent, k_max, k_min, k_s0, k_s1, k_s2, k_s3, k_s4, k_s5, k_s6, k_s7, k_t0, k_t1, k_t2, k_t4, k_eqi, k_nei, k_eqs, k_nes, k_itl, k_itt, k_run, k_for0, q_pVc, q_pC, q_blk, nxt, setK, retK, dropK, ifK, ifEK, notK, andK, orK, andVK, orVK, trK, op1K, op2E, op2K, opsK, nmK, exK, evosK, evvK, evrK, wbC, callK, newE, newK, methE, methK, parK, allK, tupK, lstK, sl2K, sl1K, itvK, rngK, itaK, dicK, evkK, rsK, setTK, put1, put2, putD, rdO, rdOs, rdA, finC, retL, r_0e, r_1e, r_1z, r_2e, r_2z, r_3e, r_3z, r_4e, r_4z, r_5e, r_5z, r_6e, r_6z, r_7e, r_7z, r_8e, r_8z, r_9e, r_9z, r_10e, r_10z, r_11e, r_11z, wbS, pmL, pmAt, nmA, L2.atI, L2.ixN, so_eq, rngK, rng4, e1, ne_nil2]
theorem turn_w {n : Int} {u : D} (h : Wl n u) (hn : n + 40 < 2^20) (c1 c7 c8 c9 : Option D) : ∃ v d7 d8 d9, (pBlk [(pSet 7 (pCall f_law_text [0] [(.r (.nm 0))] [.inl 0])), (pSet 8 (pAndV (pCh .LtE .LtE (.ex (pC (.int 1))) (.ex (pOps (fun ds g => ro (lenD ds) g) [(.nm 7)])) (.ex (pC (.int 8)))) (pOp2 (fun d e g => rb (cmpD .Eq d e) g) (.ex (pLc (pItV (pV 7)) (.nm 11) (pOr (pTest (pOp2 (fun d e g => rb (cmpD .Lt d e) g) (.nm 11) (.ex (pC (.str "a"))))) (pTest (pOp2 (fun d e g => rb (cmpD .Gt d e) g) (.nm 11) (.ex (pC (.str "z")))))) (pV 11) [11])) (.ex (pLst []))))), (pSet 9 (pIfE (pTr (.nm 8)) (pLst [(pV 7)]) (pLst [(pC (.bl true)), (pV 7)]))), (pIf (pTest (pOp2 (fun d e g => rb (cmpD .NotEq d e) g) (.ex (pLc (pRng [(.ex (pC (.int 4)))]) (.nm 10) (pTest (pOp2 (fun d e g => rb (cmpD .NotEq d e) g) (.ex (pOps (fun ds g => ro (reprB ds) g) [(.ex (pCall f_law_caught [] [(.v (pV 7)), (.v (pV 10))] [.inl 0, .inl 1]))])) (.ex (pOps (fun ds g => ro (reprB ds) g) [(.nm 9)])))) (pV 10) [10])) (.ex (pLst [])))) (pBlk [(pRet (pC (.bl false)))]) (pBlk []))]) [some u, c1, none, none, none, none, none, c7, c8, c9, none, none] = .ok .nx [some v, c1, none, none, none, none, none, d7, d8, d9, none, none] ∧ Wl (n + 20) v := by
  obtain ⟨l, v, e, ll, la, w⟩ := text_w h (by omega)
  have s0 : (pSet 7 (pCall f_law_text [0] [(.r (.nm 0))] [.inl 0])) [some u, c1, none, none, none, none, none, c7, c8, c9, none, none] = .ok .nx [some v, c1, none, none, none, none, none, some (.str (ss l)), c8, c9, none, none] := by simp [q_blkc, q_blk0, q_setc, q_set0, q_retc, q_ret0, q_dropc, q_drop0, q_ifc, q_if0, q_ifec, q_ife0, q_testc, q_test0, q_notc, q_not0, q_andc, q_and0, q_orc, q_or0, q_andvc, q_andv0, q_orvc, q_orv0, q_trc, q_tr0, q_op1c, q_op10, q_op2c, q_op20, q_opsc, q_ops0, q_evnmc, q_evnm0, q_evexc, q_evex0, q_evos0c, q_evos00, q_evoscc, q_evosc0, q_eva0c, q_eva00, q_evavc, q_evav0, q_evarc, q_evar0, q_callc, q_call0, q_newc, q_new0, q_methc, q_meth0, q_parc, q_par0, q_all0c, q_all00, q_allcc, q_allc0, q_tupc, q_tup0, q_lstc, q_lst0, q_sl2c, q_sl20, q_sl1c, q_sl10, q_putc, q_put0, q_fstc, q_fst0, PI.q_forc, q_for0, q_itvc, q_itv0, q_rngc, q_rng0, q_itac, q_ita0, q_lcc, q_lc0, q_dicc, q_dic0, q_evk0c, q_evk00, q_evkcc, q_evkc0, q_rsc, q_rs0, q_yesc, q_yes0, q_chc, q_ch0, q_nxc, q_nx0, q_retnc, q_retn0, q_setTc, q_setT0, k_ro, k_rb, k_rl, k_rt, k_asB, k_add, k_sub, k_mul, k_fdiv, k_mod, k_pow, k_addl, k_bini, k_binl, k_lt, k_le, k_gt, k_ge, k_ixl, k_ixt, k_inti, k_intb, k_abs, k_lenl, k_lent, k_max, k_min, k_s0, k_s1, k_s2, k_s3, k_s4, k_s5, k_s6, k_s7, k_t0, k_t1, k_t2, k_t4, k_eqi, k_nei, k_eqs, k_nes, k_itl, k_itt, k_run, k_for0, q_pVc, q_pC, q_blk, nxt, setK, retK, dropK, ifK, ifEK, notK, andK, orK, andVK, orVK, trK, op1K, op2E, op2K, opsK, nmK, exK, evosK, evvK, evrK, wbC, callK, newE, newK, methE, methK, parK, allK, tupK, lstK, sl2K, sl1K, itvK, rngK, itaK, dicK, evkK, rsK, setTK, put1, put2, putD, rdO, rdOs, rdA, finC, retL, r_0e, r_1e, r_1z, r_2e, r_2z, r_3e, r_3z, r_4e, r_4z, r_5e, r_5z, r_6e, r_6z, r_7e, r_7z, r_8e, r_8z, r_9e, r_9z, r_10e, r_10z, r_11e, r_11z, wbS, pmL, pmAt, nmA, L2.atI, L2.ixN, so_eq, e]
  refine ⟨v, some (.str (ss l)), some (.bl (gd l)), some (.lst true (want l)), ?_, w⟩
  rw [blk_step s0, blk_step (good_w la (by omega) v c1 c8 c9), blk_step (want_w l v c1 c9), blk_step (ways_w la (by omega) v c1 _)]
  rfl
theorem turns_w : ∀ (ds : List Int) {n : Int} {u : D} (h : Wl n u) (hn : n + 20 * ds.length + 40 < 2^20) (c1 c7 c8 c9 : Option D), ∃ v d1 d7 d8 d9, forK (.nm 1) (pBlk [(pSet 7 (pCall f_law_text [0] [(.r (.nm 0))] [.inl 0])), (pSet 8 (pAndV (pCh .LtE .LtE (.ex (pC (.int 1))) (.ex (pOps (fun ds g => ro (lenD ds) g) [(.nm 7)])) (.ex (pC (.int 8)))) (pOp2 (fun d e g => rb (cmpD .Eq d e) g) (.ex (pLc (pItV (pV 7)) (.nm 11) (pOr (pTest (pOp2 (fun d e g => rb (cmpD .Lt d e) g) (.nm 11) (.ex (pC (.str "a"))))) (pTest (pOp2 (fun d e g => rb (cmpD .Gt d e) g) (.nm 11) (.ex (pC (.str "z")))))) (pV 11) [11])) (.ex (pLst []))))), (pSet 9 (pIfE (pTr (.nm 8)) (pLst [(pV 7)]) (pLst [(pC (.bl true)), (pV 7)]))), (pIf (pTest (pOp2 (fun d e g => rb (cmpD .NotEq d e) g) (.ex (pLc (pRng [(.ex (pC (.int 4)))]) (.nm 10) (pTest (pOp2 (fun d e g => rb (cmpD .NotEq d e) g) (.ex (pOps (fun ds g => ro (reprB ds) g) [(.ex (pCall f_law_caught [] [(.v (pV 7)), (.v (pV 10))] [.inl 0, .inl 1]))])) (.ex (pOps (fun ds g => ro (reprB ds) g) [(.nm 9)])))) (pV 10) [10])) (.ex (pLst [])))) (pBlk [(pRet (pC (.bl false)))]) (pBlk []))]) (ds.map .int) [some u, c1, none, none, none, none, none, c7, c8, c9, none, none] = .ok .nx [some v, d1, none, none, none, none, none, d7, d8, d9, none, none] ∧ Wl (n + 20 * ds.length) v
  | [], n, u, h, hn, c1, c7, c8, c9 => ⟨u, c1, c7, c8, c9, rfl, by simpa using h⟩
  | d :: ds, n, u, h, hn, c1, c7, c8, c9 => by
    rw [List.length_cons] at hn
    obtain ⟨v, d7, d8, d9, e, w⟩ := turn_w h (by omega) (some (.int d)) c7 c8 c9
    obtain ⟨v', d1, x7, x8, x9, e', w'⟩ := turns_w ds w (by omega) (some (.int d)) d7 d8 d9
    refine ⟨v', d1, x7, x8, x9, ?_, w'.up (by rw [List.length_cons]; omega)⟩
    rw [List.map_cons, A02.q_forc (by simp)]
    show (((pBlk [(pSet 7 (pCall f_law_text [0] [(.r (.nm 0))] [.inl 0])), (pSet 8 (pAndV (pCh .LtE .LtE (.ex (pC (.int 1))) (.ex (pOps (fun ds g => ro (lenD ds) g) [(.nm 7)])) (.ex (pC (.int 8)))) (pOp2 (fun d e g => rb (cmpD .Eq d e) g) (.ex (pLc (pItV (pV 7)) (.nm 11) (pOr (pTest (pOp2 (fun d e g => rb (cmpD .Lt d e) g) (.nm 11) (.ex (pC (.str "a"))))) (pTest (pOp2 (fun d e g => rb (cmpD .Gt d e) g) (.nm 11) (.ex (pC (.str "z")))))) (pV 11) [11])) (.ex (pLst []))))), (pSet 9 (pIfE (pTr (.nm 8)) (pLst [(pV 7)]) (pLst [(pC (.bl true)), (pV 7)]))), (pIf (pTest (pOp2 (fun d e g => rb (cmpD .NotEq d e) g) (.ex (pLc (pRng [(.ex (pC (.int 4)))]) (.nm 10) (pTest (pOp2 (fun d e g => rb (cmpD .NotEq d e) g) (.ex (pOps (fun ds g => ro (reprB ds) g) [(.ex (pCall f_law_caught [] [(.v (pV 7)), (.v (pV 10))] [.inl 0, .inl 1]))])) (.ex (pOps (fun ds g => ro (reprB ds) g) [(.nm 9)])))) (pV 10) [10])) (.ex (pLst [])))) (pBlk [(pRet (pC (.bl false)))]) (pBlk []))])) [some u, some (.int d), none, none, none, none, none, c7, c8, c9, none, none]).bind _ = _
    rw [e]
    exact e'
end A02

set_option linter.all false
set_option maxRecDepth 100000
set_option maxHeartbeats 1000000
namespace A02
open PI PySem
theorem at_l {xs : List Str} {t : Int} (h0 : 0 ≤ t) (h1 : t < xs.length) (b : Bool) : ∃ x, x ∈ xs ∧ ixD (.lst b (xs.map .str)) (.int t) = some (.str x) := by
  have h2 : t.toNat < xs.length := by omega
  refine ⟨xs[t.toNat], List.getElem_mem h2, ?_⟩
  show L2.atI (xs.map D.str) t = _
  unfold L2.atI L2.ixN
  simp [h0, h1, h2]
theorem nm_g {x : Str} (h : NmOk x) : f_cell [.str x] = .ok (vC true x) [] ∧ f_put [.str x, .int 3] = .ok (vS true x 3) [] ∧ ∃ l, x = ss l ∧ asc l ∧ l.length ≤ 8 := by
  obtain ⟨l, rfl, h1, h2, h3⟩ := h
  have g : gd l = true := by
    unfold gd
    rw [decide_eq_true ⟨h1, h2⟩, Bool.true_and, List.all_eq_true]
    intro c hc
    exact decide_eq_true (h3 c hc)
  exact ⟨cell_g (by omega) g, put_g (by omega) g 3, l, rfl, asc_az h3, h2⟩
def lastP (b : Bool) (x : Str) : List PyData := [.bool b, .bool (!b), .bool b, .bool (!b), .list [.str x]]
theorem last_t (b : Bool) {l : List Nat} (h : asc l) (hl : l.length ≤ 8) : Tl 1000 2 (.list (lastP b (ss l))) := by
  have t1 : Tl 100 0 (.str (ss l)) := (tl_str h).up (by omega) (Nat.le_refl _)
  have t2 : Tl 120 1 (.list [.str (ss l)]) := (tl_list (n := 100) (d := 0) fun p hp => by rw [List.mem_singleton] at hp; rw [hp]; exact t1).up (by simp) (Nat.le_refl _)
  refine (tl_list (n := 120) (d := 1) fun p hp => ?_).up (by simp [lastP]) (Nat.le_refl _)
  simp only [lastP, List.mem_cons, List.not_mem_nil, or_false] at hp
  rcases hp with rfl | rfl | rfl | rfl | rfl
  · exact (tl_bool b).up (by decide) (by decide)
  · exact (tl_bool (!b)).up (by decide) (by decide)
  · exact (tl_bool b).up (by decide) (by decide)
  · exact (tl_bool (!b)).up (by decide) (by decide)
  · exact t2
theorem last_r (b c d : Bool) {l : List Nat} (h : asc l) (hl : l.length ≤ 8) : reprB [.lst c [.bl b, .bl (!b), .bl b, .bl (!b), .lst d [.str (ss l)]]] = some (.str (PyData.list (lastP b (ss l))).shown) := by
  rw [rb_lst]
  exact tl_rep (last_t b h hl) (by decide) (by decide) rfl
theorem fits_w {n : Int} {u : D} (h : Wl n u) (hn : n + 500 < 2^20) : ∃ v, f_law_fits [u] = .ok (.bl true) [v] ∧ Wl (n + 400) v := by
  obtain ⟨u0, c1, c7, c8, c9, e0, w0⟩ := turns_w [0, 1, 2, 3] h (by simp; omega) none none none none
  have w0 : Wl (n + 80) u0 := w0.up (by simp)
  have s0 : (pFor (pRng [(.ex (pC (.int 4)))]) (.nm 1) (pBlk [(pSet 7 (pCall f_law_text [0] [(.r (.nm 0))] [.inl 0])), (pSet 8 (pAndV (pCh .LtE .LtE (.ex (pC (.int 1))) (.ex (pOps (fun ds g => ro (lenD ds) g) [(.nm 7)])) (.ex (pC (.int 8)))) (pOp2 (fun d e g => rb (cmpD .Eq d e) g) (.ex (pLc (pItV (pV 7)) (.nm 11) (pOr (pTest (pOp2 (fun d e g => rb (cmpD .Lt d e) g) (.nm 11) (.ex (pC (.str "a"))))) (pTest (pOp2 (fun d e g => rb (cmpD .Gt d e) g) (.nm 11) (.ex (pC (.str "z")))))) (pV 11) [11])) (.ex (pLst []))))), (pSet 9 (pIfE (pTr (.nm 8)) (pLst [(pV 7)]) (pLst [(pC (.bl true)), (pV 7)]))), (pIf (pTest (pOp2 (fun d e g => rb (cmpD .NotEq d e) g) (.ex (pLc (pRng [(.ex (pC (.int 4)))]) (.nm 10) (pTest (pOp2 (fun d e g => rb (cmpD .NotEq d e) g) (.ex (pOps (fun ds g => ro (reprB ds) g) [(.ex (pCall f_law_caught [] [(.v (pV 7)), (.v (pV 10))] [.inl 0, .inl 1]))])) (.ex (pOps (fun ds g => ro (reprB ds) g) [(.nm 9)])))) (pV 10) [10])) (.ex (pLst [])))) (pBlk [(pRet (pC (.bl false)))]) (pBlk []))])) [some u, none, none, none, none, none, none, none, none, none, none, none] = .ok .nx [some u0, c1, none, none, none, none, none, c7, c8, c9, none, none] := by
    rw [PI.q_forc, show (pRng [(.ex (pC (.int 4)))]) [some u, none, none, none, none, none, none, none, none, none, none, none] = .ok (([0, 1, 2, 3] : List Int).map .int) [some u, none, none, none, none, none, none, none, none, none, none, none] from by simp [q_blkc, q_blk0, q_setc, q_set0, q_retc, q_ret0, q_dropc, q_drop0, q_ifc, q_if0, q_ifec, q_ife0, q_testc, q_test0, q_notc, q_not0, q_andc, q_and0, q_orc, q_or0, q_andvc, q_andv0, q_orvc, q_orv0, q_trc, q_tr0, q_op1c, q_op10, q_op2c, q_op20, q_opsc, q_ops0, q_evnmc, q_evnm0, q_evexc, q_evex0, q_evos0c, q_evos00, q_evoscc, q_evosc0, q_eva0c, q_eva00, q_evavc, q_evav0, q_evarc, q_evar0, q_callc, q_call0, q_newc, q_new0, q_methc, q_meth0, q_parc, q_par0, q_all0c, q_all00, q_allcc, q_allc0, q_tupc, q_tup0, q_lstc, q_lst0, q_sl2c, q_sl20, q_sl1c, q_sl10, q_putc, q_put0, q_fstc, q_fst0, PI.q_forc, q_for0, q_itvc, q_itv0, q_rngc, q_rng0, q_itac, q_ita0, q_lcc, q_lc0, q_dicc, q_dic0, q_evk0c, q_evk00, q_evkcc, q_evkc0, q_rsc, q_rs0, q_yesc, q_yes0, q_chc, q_ch0, q_nxc, q_nx0, q_retnc, q_retn0, q_setTc, q_setT0, k_ro, k_rb, k_rl, k_rt, k_asB, k_add, k_sub, k_mul, k_fdiv, k_mod, k_pow, k_addl, k_bini, k_binl, k_lt, k_le, k_gt, k_ge, k_ixl, k_ixt, k_inti, k_intb, k_abs, k_lenl, k_lent, k_max, k_min, k_s0, k_s1, k_s2, k_s3, k_s4, k_s5, k_s6, k_s7, k_t0, k_t1, k_t2, k_t4, k_eqi, k_nei, k_eqs, k_nes, k_itl, k_itt, k_run, k_for0, q_pVc, q_pC, q_blk, nxt, setK, retK, dropK, ifK, ifEK, notK, andK, orK, andVK, orVK, trK, op1K, op2E, op2K, opsK, nmK, exK, evosK, evvK, evrK, wbC, callK, newE, newK, methE, methK, parK, allK, tupK, lstK, sl2K, sl1K, itvK, rngK, itaK, dicK, evkK, rsK, setTK, put1, put2, putD, rdO, rdOs, rdA, finC, retL, r_0e, r_1e, r_1z, r_2e, r_2z, r_3e, r_3z, r_4e, r_4z, r_5e, r_5z, r_6e, r_6z, r_7e, r_7z, r_8e, r_8z, r_9e, r_9z, r_10e, r_10z, r_11e, r_11z, wbS, pmL, pmAt, nmA, L2.atI, L2.ixN, so_eq, rngK, rng4]]
    exact e0
  obtain ⟨xs, u1, e1, len, hx, w1⟩ := cells_w w0 (by omega) (m := 5) (by decide) (by decide)
  have len : xs.length = 5 := len
  have s1 : (pSet 2 (pCall f_law_cells [0] [(.r (.nm 0)), (.v (pC (.int 5)))] [.inl 0, .inl 1])) [some u0, c1, none, none, none, none, none, c7, c8, c9, none, none] = .ok .nx [some u1, c1, some (.lst true (xs.map .str)), none, none, none, none, c7, c8, c9, none, none] := by simp [q_blkc, q_blk0, q_setc, q_set0, q_retc, q_ret0, q_dropc, q_drop0, q_ifc, q_if0, q_ifec, q_ife0, q_testc, q_test0, q_notc, q_not0, q_andc, q_and0, q_orc, q_or0, q_andvc, q_andv0, q_orvc, q_orv0, q_trc, q_tr0, q_op1c, q_op10, q_op2c, q_op20, q_opsc, q_ops0, q_evnmc, q_evnm0, q_evexc, q_evex0, q_evos0c, q_evos00, q_evoscc, q_evosc0, q_eva0c, q_eva00, q_evavc, q_evav0, q_evarc, q_evar0, q_callc, q_call0, q_newc, q_new0, q_methc, q_meth0, q_parc, q_par0, q_all0c, q_all00, q_allcc, q_allc0, q_tupc, q_tup0, q_lstc, q_lst0, q_sl2c, q_sl20, q_sl1c, q_sl10, q_putc, q_put0, q_fstc, q_fst0, PI.q_forc, q_for0, q_itvc, q_itv0, q_rngc, q_rng0, q_itac, q_ita0, q_lcc, q_lc0, q_dicc, q_dic0, q_evk0c, q_evk00, q_evkcc, q_evkc0, q_rsc, q_rs0, q_yesc, q_yes0, q_chc, q_ch0, q_nxc, q_nx0, q_retnc, q_retn0, q_setTc, q_setT0, k_ro, k_rb, k_rl, k_rt, k_asB, k_add, k_sub, k_mul, k_fdiv, k_mod, k_pow, k_addl, k_bini, k_binl, k_lt, k_le, k_gt, k_ge, k_ixl, k_ixt, k_inti, k_intb, k_abs, k_lenl, k_lent, k_max, k_min, k_s0, k_s1, k_s2, k_s3, k_s4, k_s5, k_s6, k_s7, k_t0, k_t1, k_t2, k_t4, k_eqi, k_nei, k_eqs, k_nes, k_itl, k_itt, k_run, k_for0, q_pVc, q_pC, q_blk, nxt, setK, retK, dropK, ifK, ifEK, notK, andK, orK, andVK, orVK, trK, op1K, op2E, op2K, opsK, nmK, exK, evosK, evvK, evrK, wbC, callK, newE, newK, methE, methK, parK, allK, tupK, lstK, sl2K, sl1K, itvK, rngK, itaK, dicK, evkK, rsK, setTK, put1, put2, putD, rdO, rdOs, rdA, finC, retL, r_0e, r_1e, r_1z, r_2e, r_2z, r_3e, r_3z, r_4e, r_4z, r_5e, r_5z, r_6e, r_6z, r_7e, r_7z, r_8e, r_8z, r_9e, r_9z, r_10e, r_10z, r_11e, r_11z, wbS, pmL, pmAt, nmA, L2.atI, L2.ixN, so_eq, e1]
  obtain ⟨t2, u2, e2, a2, b2, w2⟩ := take_w w1 (by omega) (m := 5) (by decide) (by decide)
  obtain ⟨t3, u3, e3, a3, b3, w3⟩ := take_w w2 (by omega) (m := 5) (by decide) (by decide)
  obtain ⟨x, mx, ix⟩ := at_l (xs := xs) a2 (by omega) true
  obtain ⟨y, my, iy⟩ := at_l (xs := xs) a3 (by omega) true
  obtain ⟨x1, x2, l, el, al, ll⟩ := nm_g (hx x mx)
  obtain ⟨y1, y2, _, _, _, _⟩ := nm_g (hx y my)
  have ox := strOk_nm (hx x mx)
  have oy := strOk_nm (hx y my)
  have s2 : (pPar [3, 4] [(.r (.ex (pOp2 (fun d e g => ro (ixD d e) g) (.nm 2) (.ex (pCall f_law_take [0] [(.r (.nm 0)), (.v (pC (.int 5)))] [.inl 0, .inl 1]))))), (.r (.ex (pOp2 (fun d e g => ro (ixD d e) g) (.nm 2) (.ex (pCall f_law_take [0] [(.r (.nm 0)), (.v (pC (.int 5)))] [.inl 0, .inl 1])))))]) [some u1, c1, some (.lst true (xs.map .str)), none, none, none, none, c7, c8, c9, none, none] = .ok .nx [some u3, c1, some (.lst true (xs.map .str)), some (.str x), some (.str y), none, none, c7, c8, c9, none, none] := by
    generalize xs.map D.str = q at ix iy ⊢
    simp [q_blkc, q_blk0, q_setc, q_set0, q_retc, q_ret0, q_dropc, q_drop0, q_ifc, q_if0, q_ifec, q_ife0, q_testc, q_test0, q_notc, q_not0, q_andc, q_and0, q_orc, q_or0, q_andvc, q_andv0, q_orvc, q_orv0, q_trc, q_tr0, q_op1c, q_op10, q_op2c, q_op20, q_opsc, q_ops0, q_evnmc, q_evnm0, q_evexc, q_evex0, q_evos0c, q_evos00, q_evoscc, q_evosc0, q_eva0c, q_eva00, q_evavc, q_evav0, q_evarc, q_evar0, q_callc, q_call0, q_newc, q_new0, q_methc, q_meth0, q_parc, q_par0, q_all0c, q_all00, q_allcc, q_allc0, q_tupc, q_tup0, q_lstc, q_lst0, q_sl2c, q_sl20, q_sl1c, q_sl10, q_putc, q_put0, q_fstc, q_fst0, PI.q_forc, q_for0, q_itvc, q_itv0, q_rngc, q_rng0, q_itac, q_ita0, q_lcc, q_lc0, q_dicc, q_dic0, q_evk0c, q_evk00, q_evkcc, q_evkc0, q_rsc, q_rs0, q_yesc, q_yes0, q_chc, q_ch0, q_nxc, q_nx0, q_retnc, q_retn0, q_setTc, q_setT0, k_ro, k_rb, k_rl, k_rt, k_asB, k_add, k_sub, k_mul, k_fdiv, k_mod, k_pow, k_addl, k_bini, k_binl, k_lt, k_le, k_gt, k_ge, k_ixl, k_ixt, k_inti, k_intb, k_abs, k_lenl, k_lent, k_max, k_min, k_s0, k_s1, k_s2, k_s3, k_s4, k_s5, k_s6, k_s7, k_t0, k_t1, k_t2, k_t4, k_eqi, k_nei, k_eqs, k_nes, k_itl, k_itt, k_run, k_for0, q_pVc, q_pC, q_blk, nxt, setK, retK, dropK, ifK, ifEK, notK, andK, orK, andVK, orVK, trK, op1K, op2E, op2K, opsK, nmK, exK, evosK, evvK, evrK, wbC, callK, newE, newK, methE, methK, parK, allK, tupK, lstK, sl2K, sl1K, itvK, rngK, itaK, dicK, evkK, rsK, setTK, put1, put2, putD, rdO, rdOs, rdA, finC, retL, r_0e, r_1e, r_1z, r_2e, r_2z, r_3e, r_3z, r_4e, r_4z, r_5e, r_5z, r_6e, r_6z, r_7e, r_7z, r_8e, r_8z, r_9e, r_9z, r_10e, r_10z, r_11e, r_11z, wbS, pmL, pmAt, nmA, L2.atI, L2.ixN, so_eq, e2, e3, ix, iy, setAll]
  have p1 := fun b c g => ec b c ox oy g
  have p2 := fun b c g => nc b c ox oy g
  have p3 := fun b c g => es b c ox oy 3 g
  have p4 := fun b c g => ns b c ox oy 3 g
  have s3 : (pSet 5 (pLst [(pSl2 (eqS [⟨"Value", (f_Value_eq 8), [], [.inl 0, .inl 1]⟩, ⟨"Step", (f_Step_eq 8), [], [.inl 0, .inl 1]⟩]) (pCall f_cell [] [(.v (pV 3))] [.inl 0]) (pCall f_cell [] [(.v (pV 4))] [.inl 0])), (pSl2 (neS [⟨"Value", (f_Value_eq 8), [], [.inl 0, .inl 1]⟩, ⟨"Step", (f_Step_eq 8), [], [.inl 0, .inl 1]⟩]) (pCall f_cell [] [(.v (pV 3))] [.inl 0]) (pCall f_cell [] [(.v (pV 4))] [.inl 0])), (pSl2 (eqS [⟨"Value", (f_Value_eq 8), [], [.inl 0, .inl 1]⟩, ⟨"Step", (f_Step_eq 8), [], [.inl 0, .inl 1]⟩]) (pCall f_put [] [(.v (pV 3)), (.v (pC (.int 3)))] [.inl 0, .inl 1]) (pCall f_put [] [(.v (pV 4)), (.v (pC (.int 3)))] [.inl 0, .inl 1])), (pSl2 (neS [⟨"Value", (f_Value_eq 8), [], [.inl 0, .inl 1]⟩, ⟨"Step", (f_Step_eq 8), [], [.inl 0, .inl 1]⟩]) (pCall f_put [] [(.v (pV 3)), (.v (pC (.int 3)))] [.inl 0, .inl 1]) (pCall f_put [] [(.v (pV 4)), (.v (pC (.int 3)))] [.inl 0, .inl 1]))])) [some u3, c1, some (.lst true (xs.map .str)), some (.str x), some (.str y), none, none, c7, c8, c9, none, none] = .ok .nx [some u3, c1, some (.lst true (xs.map .str)), some (.str x), some (.str y), some (.lst true [.bl (decide (x = y)), .bl (!decide (x = y)), .bl (decide (x = y)), .bl (!decide (x = y))]), none, c7, c8, c9, none, none] := by
    simp [q_blkc, q_blk0, q_setc, q_set0, q_retc, q_ret0, q_dropc, q_drop0, q_ifc, q_if0, q_ifec, q_ife0, q_testc, q_test0, q_notc, q_not0, q_andc, q_and0, q_orc, q_or0, q_andvc, q_andv0, q_orvc, q_orv0, q_trc, q_tr0, q_op1c, q_op10, q_op2c, q_op20, q_opsc, q_ops0, q_evnmc, q_evnm0, q_evexc, q_evex0, q_evos0c, q_evos00, q_evoscc, q_evosc0, q_eva0c, q_eva00, q_evavc, q_evav0, q_evarc, q_evar0, q_callc, q_call0, q_newc, q_new0, q_methc, q_meth0, q_parc, q_par0, q_all0c, q_all00, q_allcc, q_allc0, q_tupc, q_tup0, q_lstc, q_lst0, q_sl2c, q_sl20, q_sl1c, q_sl10, q_putc, q_put0, q_fstc, q_fst0, PI.q_forc, q_for0, q_itvc, q_itv0, q_rngc, q_rng0, q_itac, q_ita0, q_lcc, q_lc0, q_dicc, q_dic0, q_evk0c, q_evk00, q_evkcc, q_evkc0, q_rsc, q_rs0, q_yesc, q_yes0, q_chc, q_ch0, q_nxc, q_nx0, q_retnc, q_retn0, q_setTc, q_setT0, k_ro, k_rb, k_rl, k_rt, k_asB, k_add, k_sub, k_mul, k_fdiv, k_mod, k_pow, k_addl, k_bini, k_binl, k_lt, k_le, k_gt, k_ge, k_ixl, k_ixt, k_inti, k_intb, k_abs, k_lenl, k_lent, k_max, k_min, k_s0, k_s1, k_s2, k_s3, k_s4, k_s5, k_s6, k_s7, k_t0, k_t1, k_t2, k_t4, k_eqi, k_nei, k_eqs, k_nes, k_itl, k_itt, k_run, k_for0, q_pVc, q_pC, q_blk, nxt, setK, retK, dropK, ifK, ifEK, notK, andK, orK, andVK, orVK, trK, op1K, op2E, op2K, opsK, nmK, exK, evosK, evvK, evrK, wbC, callK, newE, newK, methE, methK, parK, allK, tupK, lstK, sl2K, sl1K, itvK, rngK, itaK, dicK, evkK, rsK, setTK, put1, put2, putD, rdO, rdOs, rdA, finC, retL, r_0e, r_1e, r_1z, r_2e, r_2z, r_3e, r_3z, r_4e, r_4z, r_5e, r_5z, r_6e, r_6z, r_7e, r_7z, r_8e, r_8z, r_9e, r_9z, r_10e, r_10z, r_11e, r_11z, wbS, pmL, pmAt, nmA, L2.atI, L2.ixN, so_eq, x1, x2, y1, y2, p1, p2, p3, p4]
  have s4 : (pSet 6 (pOp2 (fun d e g => rb (cmpD .Eq d e) g) (.nm 3) (.nm 4))) [some u3, c1, some (.lst true (xs.map .str)), some (.str x), some (.str y), some (.lst true [.bl (decide (x = y)), .bl (!decide (x = y)), .bl (decide (x = y)), .bl (!decide (x = y))]), none, c7, c8, c9, none, none] = .ok .nx [some u3, c1, some (.lst true (xs.map .str)), some (.str x), some (.str y), some (.lst true [.bl (decide (x = y)), .bl (!decide (x = y)), .bl (decide (x = y)), .bl (!decide (x = y))]), some (.bl (decide (x = y))), c7, c8, c9, none, none] := by
    simp [q_blkc, q_blk0, q_setc, q_set0, q_retc, q_ret0, q_dropc, q_drop0, q_ifc, q_if0, q_ifec, q_ife0, q_testc, q_test0, q_notc, q_not0, q_andc, q_and0, q_orc, q_or0, q_andvc, q_andv0, q_orvc, q_orv0, q_trc, q_tr0, q_op1c, q_op10, q_op2c, q_op20, q_opsc, q_ops0, q_evnmc, q_evnm0, q_evexc, q_evex0, q_evos0c, q_evos00, q_evoscc, q_evosc0, q_eva0c, q_eva00, q_evavc, q_evav0, q_evarc, q_evar0, q_callc, q_call0, q_newc, q_new0, q_methc, q_meth0, q_parc, q_par0, q_all0c, q_all00, q_allcc, q_allc0, q_tupc, q_tup0, q_lstc, q_lst0, q_sl2c, q_sl20, q_sl1c, q_sl10, q_putc, q_put0, q_fstc, q_fst0, PI.q_forc, q_for0, q_itvc, q_itv0, q_rngc, q_rng0, q_itac, q_ita0, q_lcc, q_lc0, q_dicc, q_dic0, q_evk0c, q_evk00, q_evkcc, q_evkc0, q_rsc, q_rs0, q_yesc, q_yes0, q_chc, q_ch0, q_nxc, q_nx0, q_retnc, q_retn0, q_setTc, q_setT0, k_ro, k_rb, k_rl, k_rt, k_asB, k_add, k_sub, k_mul, k_fdiv, k_mod, k_pow, k_addl, k_bini, k_binl, k_lt, k_le, k_gt, k_ge, k_ixl, k_ixt, k_inti, k_intb, k_abs, k_lenl, k_lent, k_max, k_min, k_s0, k_s1, k_s2, k_s3, k_s4, k_s5, k_s6, k_s7, k_t0, k_t1, k_t2, k_t4, k_eqi, k_nei, k_eqs, k_nes, k_itl, k_itt, k_run, k_for0, q_pVc, q_pC, q_blk, nxt, setK, retK, dropK, ifK, ifEK, notK, andK, orK, andVK, orVK, trK, op1K, op2E, op2K, opsK, nmK, exK, evosK, evvK, evrK, wbC, callK, newE, newK, methE, methK, parK, allK, tupK, lstK, sl2K, sl1K, itvK, rngK, itaK, dicK, evkK, rsK, setTK, put1, put2, putD, rdO, rdOs, rdA, finC, retL, r_0e, r_1e, r_1z, r_2e, r_2z, r_3e, r_3z, r_4e, r_4z, r_5e, r_5z, r_6e, r_6z, r_7e, r_7z, r_8e, r_8z, r_9e, r_9z, r_10e, r_10z, r_11e, r_11z, wbS, pmL, pmAt, nmA, L2.atI, L2.ixN, so_eq, ox, oy]
  have pr := fun b g => pr_c b x g
  have l5 : 5 ≤ lim := by unfold lim; omega
  have rr := fun c d => last_r (decide (x = y)) c d al ll
  have so := (last_t (decide (x = y)) al ll).ok
  rw [← el] at rr so
  have s5 : (pRet (pOp2 (fun d e g => rb (cmpD .Eq d e) g) (.ex (pOps (fun ds g => ro (reprB ds) g) [(.ex (pOp2 (fun d e g => ro (binD .Add d e) g) (.nm 5) (.ex (pLst [(pSl1 (propS [⟨"Value", f_Value_names, [], [.inl 0]⟩, ⟨"Step", f_Step_names, [], [.inl 0]⟩]) (pCall f_cell [] [(.v (pV 3))] [.inl 0]))]))))])) (.ex (pOps (fun ds g => ro (reprB ds) g) [(.ex (pLst [(pV 6), (pNotV (.nm 6)), (pV 6), (pNotV (.nm 6)), (pLst [(pV 3)])]))])))) [some u3, c1, some (.lst true (xs.map .str)), some (.str x), some (.str y), some (.lst true [.bl (decide (x = y)), .bl (!decide (x = y)), .bl (decide (x = y)), .bl (!decide (x = y))]), some (.bl (decide (x = y))), c7, c8, c9, none, none] = .ok (.rt (.bl true)) [some u3, c1, some (.lst true (xs.map .str)), some (.str x), some (.str y), some (.lst true [.bl (decide (x = y)), .bl (!decide (x = y)), .bl (decide (x = y)), .bl (!decide (x = y))]), some (.bl (decide (x = y))), c7, c8, c9, none, none] := by
    generalize decide (x = y) = bb at rr so ⊢
    generalize (PyData.list (lastP bb x)).shown = r at rr so
    simp [q_blkc, q_blk0, q_setc, q_set0, q_retc, q_ret0, q_dropc, q_drop0, q_ifc, q_if0, q_ifec, q_ife0, q_testc, q_test0, q_notc, q_not0, q_andc, q_and0, q_orc, q_or0, q_andvc, q_andv0, q_orvc, q_orv0, q_trc, q_tr0, q_op1c, q_op10, q_op2c, q_op20, q_opsc, q_ops0, q_evnmc, q_evnm0, q_evexc, q_evex0, q_evos0c, q_evos00, q_evoscc, q_evosc0, q_eva0c, q_eva00, q_evavc, q_evav0, q_evarc, q_evar0, q_callc, q_call0, q_newc, q_new0, q_methc, q_meth0, q_parc, q_par0, q_all0c, q_all00, q_allcc, q_allc0, q_tupc, q_tup0, q_lstc, q_lst0, q_sl2c, q_sl20, q_sl1c, q_sl10, q_putc, q_put0, q_fstc, q_fst0, PI.q_forc, q_for0, q_itvc, q_itv0, q_rngc, q_rng0, q_itac, q_ita0, q_lcc, q_lc0, q_dicc, q_dic0, q_evk0c, q_evk00, q_evkcc, q_evkc0, q_rsc, q_rs0, q_yesc, q_yes0, q_chc, q_ch0, q_nxc, q_nx0, q_retnc, q_retn0, q_setTc, q_setT0, k_ro, k_rb, k_rl, k_rt, k_asB, k_add, k_sub, k_mul, k_fdiv, k_mod, k_pow, k_addl, k_bini, k_binl, k_lt, k_le, k_gt, k_ge, k_ixl, k_ixt, k_inti, k_intb, k_abs, k_lenl, k_lent, k_max, k_min, k_s0, k_s1, k_s2, k_s3, k_s4, k_s5, k_s6, k_s7, k_t0, k_t1, k_t2, k_t4, k_eqi, k_nei, k_eqs, k_nes, k_itl, k_itt, k_run, k_for0, q_pVc, q_pC, q_blk, nxt, setK, retK, dropK, ifK, ifEK, notK, andK, orK, andVK, orVK, trK, op1K, op2E, op2K, opsK, nmK, exK, evosK, evvK, evrK, wbC, callK, newE, newK, methE, methK, parK, allK, tupK, lstK, sl2K, sl1K, itvK, rngK, itaK, dicK, evkK, rsK, setTK, put1, put2, putD, rdO, rdOs, rdA, finC, retL, r_0e, r_1e, r_1z, r_2e, r_2z, r_3e, r_3z, r_4e, r_4z, r_5e, r_5z, r_6e, r_6z, r_7e, r_7z, r_8e, r_8z, r_9e, r_9z, r_10e, r_10z, r_11e, r_11z, wbS, pmL, pmAt, nmA, L2.atI, L2.ixN, so_eq, x1, pr, l5, rr, so, pNotV]
  refine ⟨u3, ?_, w3.up (by omega)⟩
  unfold f_law_fits m_law_fits
  rw [k_run]
  show finC [0] (pBlk _ [some u, none, none, none, none, none, none, none, none, none, none, none]) = _
  rw [blk_step s0, blk_step s1, blk_step s2, blk_step s3, blk_step s4, blk_ret s5]
  rfl
end A02

set_option linter.all false
set_option maxRecDepth 100000
set_option maxHeartbeats 4000000
namespace A02
open PI PySem
theorem well_w (ns : List Int) (p : Nat) (hp : p < 64) : ∃ w, f_law_well [.lst false (ns.map .int), .int p] = .ok w [] ∧ Wl 0 w := by
  have M : ∀ x : Int, 0 ≤ x % 2305843009213693951 ∧ x % 2305843009213693951 < 2305843009213693951 := fun x => ⟨Int.emod_nonneg _ (by decide), Int.emod_lt_of_pos _ (by decide)⟩
  have m1 : mulOk 1000003 (p : Int) = true := mulOk_l (by decide) (by decide)
  have m2 : ∀ x, mulOk x 2 = true := fun x => mulOk_r (by decide) (by decide)
  have m0 : ∀ x, mulOk x 0 = true := fun x => mulOk_r (by decide) (by decide)
  have m3 : ∀ x, mulOk x 1 = true := fun x => mulOk_r (by decide) (by decide)
  have pw : powOk 10 18 = true := by decide
  by_cases h : p < ns.length
  · obtain ⟨k, hk⟩ : ∃ k, ns[p] = k := ⟨_, rfl⟩
    refine ⟨.lst true [.int (k * (if 10 ^ 18 ≤ k then 1 else 0)), .int (((if k < 0 then -k else k) * 2 + (if k < 0 then 1 else 0)) % 2305843009213693951 + 1000003 * (p : Int)), .int 0], ?_, ?_⟩
    · unfold f_law_well m_law_well
      by_cases a1 : k < 0 <;> by_cases a2 : 1000000000000000000 ≤ k <;> simp [q_blkc, q_blk0, q_setc, q_set0, q_retc, q_ret0, q_dropc, q_drop0, q_ifc, q_if0, q_ifec, q_ife0, q_testc, q_test0, q_notc, q_not0, q_andc, q_and0, q_orc, q_or0, q_andvc, q_andv0, q_orvc, q_orv0, q_trc, q_tr0, q_op1c, q_op10, q_op2c, q_op20, q_opsc, q_ops0, q_evnmc, q_evnm0, q_evexc, q_evex0, q_evos0c, q_evos00, q_evoscc, q_evosc0, q_eva0c, q_eva00, q_evavc, q_evav0, q_evarc, q_evar0, q_callc, q_call0, q_newc, q_new0, q_methc, q_meth0, q_parc, q_par0, q_all0c, q_all00, q_allcc, q_allc0, q_tupc, q_tup0, q_lstc, q_lst0, q_sl2c, q_sl20, q_sl1c, q_sl10, q_putc, q_put0, q_fstc, q_fst0, PI.q_forc, q_for0, q_itvc, q_itv0, q_rngc, q_rng0, q_itac, q_ita0, q_lcc, q_lc0, q_dicc, q_dic0, q_evk0c, q_evk00, q_evkcc, q_evkc0, q_rsc, q_rs0, q_yesc, q_yes0, q_chc, q_ch0, q_nxc, q_nx0, q_retnc, q_retn0, q_setTc, q_setT0, k_ro, k_rb, k_rl, k_rt, k_asB, k_add, k_sub, k_mul, k_fdiv, k_mod, k_pow, k_addl, k_bini, k_binl, k_lt, k_le, k_gt, k_ge, k_ixl, k_ixt, k_inti, k_intb, k_abs, k_lenl, k_lent, k_max, k_min, k_s0, k_s1, k_s2, k_s3, k_s4, k_s5, k_s6, k_s7, k_t0, k_t1, k_t2, k_t4, k_eqi, k_nei, k_eqs, k_nes, k_itl, k_itt, k_run, k_for0, q_pVc, q_pC, q_blk, nxt, setK, retK, dropK, ifK, ifEK, notK, andK, orK, andVK, orVK, trK, op1K, op2E, op2K, opsK, nmK, exK, evosK, evvK, evrK, wbC, callK, newE, newK, methE, methK, parK, allK, tupK, lstK, sl2K, sl1K, itvK, rngK, itaK, dicK, evkK, rsK, setTK, put1, put2, putD, rdO, rdOs, rdA, finC, retL, r_0e, r_1e, r_1z, r_2e, r_2z, r_3e, r_3z, r_4e, r_4z, r_5e, r_5z, r_6e, r_6z, r_7e, r_7z, r_8e, r_8z, r_9e, r_9z, r_10e, r_10z, r_11e, r_11z, wbS, pmL, pmAt, nmA, L2.atI, L2.ixN, so_eq, h, hk, a1, a2, m0, m1, m2, m3, pw]
    · have := M ((if k < 0 then -k else k) * 2 + (if k < 0 then 1 else 0))
      refine ⟨_, _, _, rfl, ?_, by omega, by omega, by omega, by omega⟩
      split <;> omega
  · refine ⟨.lst true [.int 0, .int (1000003 * (p : Int)), .int 0], ?_, ?_⟩
    · unfold f_law_well m_law_well
      simp [q_blkc, q_blk0, q_setc, q_set0, q_retc, q_ret0, q_dropc, q_drop0, q_ifc, q_if0, q_ifec, q_ife0, q_testc, q_test0, q_notc, q_not0, q_andc, q_and0, q_orc, q_or0, q_andvc, q_andv0, q_orvc, q_orv0, q_trc, q_tr0, q_op1c, q_op10, q_op2c, q_op20, q_opsc, q_ops0, q_evnmc, q_evnm0, q_evexc, q_evex0, q_evos0c, q_evos00, q_evoscc, q_evosc0, q_eva0c, q_eva00, q_evavc, q_evav0, q_evarc, q_evar0, q_callc, q_call0, q_newc, q_new0, q_methc, q_meth0, q_parc, q_par0, q_all0c, q_all00, q_allcc, q_allc0, q_tupc, q_tup0, q_lstc, q_lst0, q_sl2c, q_sl20, q_sl1c, q_sl10, q_putc, q_put0, q_fstc, q_fst0, PI.q_forc, q_for0, q_itvc, q_itv0, q_rngc, q_rng0, q_itac, q_ita0, q_lcc, q_lc0, q_dicc, q_dic0, q_evk0c, q_evk00, q_evkcc, q_evkc0, q_rsc, q_rs0, q_yesc, q_yes0, q_chc, q_ch0, q_nxc, q_nx0, q_retnc, q_retn0, q_setTc, q_setT0, k_ro, k_rb, k_rl, k_rt, k_asB, k_add, k_sub, k_mul, k_fdiv, k_mod, k_pow, k_addl, k_bini, k_binl, k_lt, k_le, k_gt, k_ge, k_ixl, k_ixt, k_inti, k_intb, k_abs, k_lenl, k_lent, k_max, k_min, k_s0, k_s1, k_s2, k_s3, k_s4, k_s5, k_s6, k_s7, k_t0, k_t1, k_t2, k_t4, k_eqi, k_nei, k_eqs, k_nes, k_itl, k_itt, k_run, k_for0, q_pVc, q_pC, q_blk, nxt, setK, retK, dropK, ifK, ifEK, notK, andK, orK, andVK, orVK, trK, op1K, op2E, op2K, opsK, nmK, exK, evosK, evvK, evrK, wbC, callK, newE, newK, methE, methK, parK, allK, tupK, lstK, sl2K, sl1K, itvK, rngK, itaK, dicK, evkK, rsK, setTK, put1, put2, putD, rdO, rdOs, rdA, finC, retL, r_0e, r_1e, r_1z, r_2e, r_2z, r_3e, r_3z, r_4e, r_4z, r_5e, r_5z, r_6e, r_6z, r_7e, r_7z, r_8e, r_8z, r_9e, r_9z, r_10e, r_10z, r_11e, r_11z, wbS, pmL, pmAt, nmA, L2.atI, L2.ixN, so_eq, h, m0, m1, m2, m3, pw]
    · exact ⟨_, _, _, rfl, by omega, by omega, by omega, by omega, by omega⟩
theorem rng2 : rngA [.int 2] = some [.int 0, .int 1] := by kernel_rfl
theorem place_w (ns : List Int) (p : Nat) (hp : p < 64) (y z : Option D) : ∃ w,
    (pBlk [(pSet 2 (pCall f_law_well [] [(.v (pV 0)), (.v (pV 1))] [.inl 0, .inl 1])), (pFor (pRng [(.ex (pC (.int 2)))]) (.nm 3) (pBlk [(pIf (pNot (pTr (.ex (pCall f_law_fits [0] [(.r (.nm 2))] [.inl 0])))) (pBlk [(pRet (pC (.bl false)))]) (pBlk []))]))]) [some (.lst false (ns.map .int)), some (.int p), y, z] = .ok .nx [some (.lst false (ns.map .int)), some (.int p), some w, some (.int 1)] := by
  obtain ⟨w, e, h⟩ := well_w ns p hp
  obtain ⟨w1, e1, h1⟩ := fits_w h (by omega)
  obtain ⟨w2, e2, h2⟩ := fits_w h1 (by omega)
  refine ⟨w2, ?_⟩
  simp [q_blkc, q_blk0, q_setc, q_set0, q_retc, q_ret0, q_dropc, q_drop0, q_ifc, q_if0, q_ifec, q_ife0, q_testc, q_test0, q_notc, q_not0, q_andc, q_and0, q_orc, q_or0, q_andvc, q_andv0, q_orvc, q_orv0, q_trc, q_tr0, q_op1c, q_op10, q_op2c, q_op20, q_opsc, q_ops0, q_evnmc, q_evnm0, q_evexc, q_evex0, q_evos0c, q_evos00, q_evoscc, q_evosc0, q_eva0c, q_eva00, q_evavc, q_evav0, q_evarc, q_evar0, q_callc, q_call0, q_newc, q_new0, q_methc, q_meth0, q_parc, q_par0, q_all0c, q_all00, q_allcc, q_allc0, q_tupc, q_tup0, q_lstc, q_lst0, q_sl2c, q_sl20, q_sl1c, q_sl10, q_putc, q_put0, q_fstc, q_fst0, PI.q_forc, q_for0, q_itvc, q_itv0, q_rngc, q_rng0, q_itac, q_ita0, q_lcc, q_lc0, q_dicc, q_dic0, q_evk0c, q_evk00, q_evkcc, q_evkc0, q_rsc, q_rs0, q_yesc, q_yes0, q_chc, q_ch0, q_nxc, q_nx0, q_retnc, q_retn0, q_setTc, q_setT0, k_ro, k_rb, k_rl, k_rt, k_asB, k_add, k_sub, k_mul, k_fdiv, k_mod, k_pow, k_addl, k_bini, k_binl, k_lt, k_le, k_gt, k_ge, k_ixl, k_ixt, k_inti, k_intb, k_abs, k_lenl, k_lent, k_max, k_min, k_s0, k_s1, k_s2, k_s3, k_s4, k_s5, k_s6, k_s7, k_t0, k_t1, k_t2, k_t4, k_eqi, k_nei, k_eqs, k_nes, k_itl, k_itt, k_run, k_for0, q_pVc, q_pC, q_blk, nxt, setK, retK, dropK, ifK, ifEK, notK, andK, orK, andVK, orVK, trK, op1K, op2E, op2K, opsK, nmK, exK, evosK, evvK, evrK, wbC, callK, newE, newK, methE, methK, parK, allK, tupK, lstK, sl2K, sl1K, itvK, rngK, itaK, dicK, evkK, rsK, setTK, put1, put2, putD, rdO, rdOs, rdA, finC, retL, r_0e, r_1e, r_1z, r_2e, r_2z, r_3e, r_3z, r_4e, r_4z, r_5e, r_5z, r_6e, r_6z, r_7e, r_7z, r_8e, r_8z, r_9e, r_9z, r_10e, r_10z, r_11e, r_11z, wbS, pmL, pmAt, nmA, L2.atI, L2.ixN, so_eq, e, e1, e2, rngK, rng2, A02.q_forc, forN, k_for0]
theorem loop_w (ns : List Int) : ∀ (ds : List D), (∀ d ∈ ds, ∃ p : Nat, p < 64 ∧ d = .int p) → ∀ x y z, ∃ x' y' z',
    forK (.nm 1) (pBlk [(pSet 2 (pCall f_law_well [] [(.v (pV 0)), (.v (pV 1))] [.inl 0, .inl 1])), (pFor (pRng [(.ex (pC (.int 2)))]) (.nm 3) (pBlk [(pIf (pNot (pTr (.ex (pCall f_law_fits [0] [(.r (.nm 2))] [.inl 0])))) (pBlk [(pRet (pC (.bl false)))]) (pBlk []))]))]) ds [some (.lst false (ns.map .int)), x, y, z] = .ok .nx [some (.lst false (ns.map .int)), x', y', z'] := by
  intro ds
  induction ds with
  | nil => intro _ x y z; exact ⟨x, y, z, rfl⟩
  | cons d ds ih =>
    intro hd x y z
    obtain ⟨p, hp, rfl⟩ := hd d (.head _)
    obtain ⟨w, e⟩ := place_w ns p hp y z
    obtain ⟨x', y', z', e'⟩ := ih (fun d h => hd d (.tail _ h)) (some (.int p)) (some w) (some (.int 1))
    refine ⟨x', y', z', ?_⟩
    rw [A02.q_forc (by simp)]
    show (pBlk _ [some (.lst false (ns.map .int)), some (.int p), y, z]).bind _ = _
    rw [e]
    exact e'
theorem rngs (i : Int) (h0 : 0 ≤ i) (h : i ≤ 24) : ∃ ds, rngA [.int i] = some ds ∧ ∀ d ∈ ds, ∃ p : Nat, p < 64 ∧ d = .int p := by
  refine ⟨rngD 0 i, ?_, ?_⟩
  · show (if -lim ≤ i ∧ i ≤ lim then some (rngD 0 i) else none) = _
    rw [if_pos]
    have : (lim : Int) = 2^62 - 1 ∨ 1000 ≤ (lim : Int) := by decide
    omega
  · intro d hd
    unfold rngD at hd
    rw [List.mem_map] at hd
    obtain ⟨k, hk, rfl⟩ := hd
    rw [List.mem_range] at hk
    exact ⟨k, by omega, by simp⟩
theorem law_ok : ∀ ns : List Int, ns.length ≤ 63 → ∃ rs, f_law [.lst false (ns.map .int)] = .ok (.bl true) rs := by
  intro ns hn
  obtain ⟨m, hm⟩ : ∃ m : Int, maxD [.int 1, .int (if (ns.length : Int) < 24 then (ns.length : Int) else 24)] = some (.int m) ∧ 0 ≤ m ∧ m ≤ 24 := by
    refine ⟨_, rfl, ?_⟩
    split <;> split <;> omega
  obtain ⟨ds, e1, e2⟩ := rngs m hm.2.1 hm.2.2
  obtain ⟨x, y, z, e⟩ := loop_w ns ds e2 none none none
  refine ⟨[], ?_⟩
  have it : pRng [(.ex (pOps (fun ds g => ro (maxD ds) g) [(.ex (pC (.int 1))), (.ex (pOps (fun ds g => ro (minD ds) g) [(.ex (pC (.int 24))), (.ex (pOps (fun ds g => ro (lenD ds) g) [(.nm 0)]))]))]))] [some (.lst false (ns.map .int)), none, none, none] = .ok ds [some (.lst false (ns.map .int)), none, none, none] := by
    have hm1 := hm.1
    rw [k_max] at hm1
    injection hm1 with hm1
    injection hm1 with hm1
    simp [q_blkc, q_blk0, q_setc, q_set0, q_retc, q_ret0, q_dropc, q_drop0, q_ifc, q_if0, q_ifec, q_ife0, q_testc, q_test0, q_notc, q_not0, q_andc, q_and0, q_orc, q_or0, q_andvc, q_andv0, q_orvc, q_orv0, q_trc, q_tr0, q_op1c, q_op10, q_op2c, q_op20, q_opsc, q_ops0, q_evnmc, q_evnm0, q_evexc, q_evex0, q_evos0c, q_evos00, q_evoscc, q_evosc0, q_eva0c, q_eva00, q_evavc, q_evav0, q_evarc, q_evar0, q_callc, q_call0, q_newc, q_new0, q_methc, q_meth0, q_parc, q_par0, q_all0c, q_all00, q_allcc, q_allc0, q_tupc, q_tup0, q_lstc, q_lst0, q_sl2c, q_sl20, q_sl1c, q_sl10, q_putc, q_put0, q_fstc, q_fst0, PI.q_forc, q_for0, q_itvc, q_itv0, q_rngc, q_rng0, q_itac, q_ita0, q_lcc, q_lc0, q_dicc, q_dic0, q_evk0c, q_evk00, q_evkcc, q_evkc0, q_rsc, q_rs0, q_yesc, q_yes0, q_chc, q_ch0, q_nxc, q_nx0, q_retnc, q_retn0, q_setTc, q_setT0, k_ro, k_rb, k_rl, k_rt, k_asB, k_add, k_sub, k_mul, k_fdiv, k_mod, k_pow, k_addl, k_bini, k_binl, k_lt, k_le, k_gt, k_ge, k_ixl, k_ixt, k_inti, k_intb, k_abs, k_lenl, k_lent, k_max, k_min, k_s0, k_s1, k_s2, k_s3, k_s4, k_s5, k_s6, k_s7, k_t0, k_t1, k_t2, k_t4, k_eqi, k_nei, k_eqs, k_nes, k_itl, k_itt, k_run, k_for0, q_pVc, q_pC, q_blk, nxt, setK, retK, dropK, ifK, ifEK, notK, andK, orK, andVK, orVK, trK, op1K, op2E, op2K, opsK, nmK, exK, evosK, evvK, evrK, wbC, callK, newE, newK, methE, methK, parK, allK, tupK, lstK, sl2K, sl1K, itvK, rngK, itaK, dicK, evkK, rsK, setTK, put1, put2, putD, rdO, rdOs, rdA, finC, retL, r_0e, r_1e, r_1z, r_2e, r_2z, r_3e, r_3z, r_4e, r_4z, r_5e, r_5z, r_6e, r_6z, r_7e, r_7z, r_8e, r_8z, r_9e, r_9z, r_10e, r_10z, r_11e, r_11z, wbS, pmL, pmAt, nmA, L2.atI, L2.ixN, so_eq, rngK]
    rw [hm1, e1]
    rfl
  unfold f_law m_law
  rw [k_run]
  show finC [] (pBlk _ [some (.lst false (ns.map .int)), none, none, none]) = _
  rw [q_blkc, PI.q_forc, it]
  show finC [] ((forK _ _ ds _).bind _) = _
  rw [e]
  rfl
end A02

set_option Elab.async false
set_option linter.all false
set_option maxRecDepth 100000
set_option maxHeartbeats 4000000
namespace A02
open PI PySem PySem.Spec PyProof.Rows L2
open PySem.W (Frag)
def top (i : Nat) : Stmt := PySem.Challenge.pw_anyworker_k02_names_of_cells.main.body.getD i (.Pass ⟨0, 0, 0, 0⟩)
abbrev s_Value_eq : Stmt := (clsB (top 18)).getD 14 (.Pass ⟨0, 0, 0, 0⟩)
def d_Value_eq : DefA := ⟨maF "Value" "__eq__", "__eq__", "Value.__eq__", defArgs s_Value_eq, defBody s_Value_eq, defScope s_Value_eq, [], []⟩
abbrev s_Step_eq : Stmt := (clsB (top 21)).getD 2 (.Pass ⟨0, 0, 0, 0⟩)
def d_Step_eq : DefA := ⟨maF "Step" "__eq__", "__eq__", "Step.__eq__", defArgs s_Step_eq, defBody s_Step_eq, defScope s_Step_eq, [], []⟩
abbrev s_parts_of : Stmt := top 14
def d_parts_of : DefA := ⟨gaF "parts_of", "parts_of", "parts_of", defArgs s_parts_of, defBody s_parts_of, defScope s_parts_of, [], []⟩
abbrev s_names_in : Stmt := top 15
def d_names_in : DefA := ⟨gaF "names_in", "names_in", "names_in", defArgs s_names_in, defBody s_names_in, defScope s_names_in, [], []⟩
abbrev s_names_of_step : Stmt := top 20
def d_names_of_step : DefA := ⟨gaF "names_of_step", "names_of_step", "names_of_step", defArgs s_names_of_step, defBody s_names_of_step, defScope s_names_of_step, [], []⟩
abbrev s_Step_names : Stmt := (clsB (top 21)).getD 1 (.Pass ⟨0, 0, 0, 0⟩)
def d_Step_names : DefA := ⟨prF "Step" "names", "names", "Step.names", defArgs s_Step_names, defBody s_Step_names, defScope s_Step_names, [], []⟩
abbrev s_Value_names : Stmt := (clsB (top 18)).getD 1 (.Pass ⟨0, 0, 0, 0⟩)
def d_Value_names : DefA := ⟨prF "Value" "names", "names", "Value.names", defArgs s_Value_names, defBody s_Value_names, defScope s_Value_names, [], []⟩
abbrev s_Value_init : Stmt := (clsB (top 18)).getD 0 (.Pass ⟨0, 0, 0, 0⟩)
def d_Value_init : DefA := ⟨maF "Value" "__init__", "__init__", "Value.__init__", defArgs s_Value_init, defBody s_Value_init, defScope s_Value_init, [], []⟩
abbrev s_is_name : Stmt := top 8
def d_is_name : DefA := ⟨gaF "is_name", "is_name", "is_name", defArgs s_is_name, defBody s_is_name, defScope s_is_name, [], []⟩
abbrev s_check_name : Stmt := top 9
def d_check_name : DefA := ⟨gaF "check_name", "check_name", "check_name", defArgs s_check_name, defBody s_check_name, defScope s_check_name, [], []⟩
abbrev s_cell : Stmt := top 11
def d_cell : DefA := ⟨gaF "cell", "cell", "cell", defArgs s_cell, defBody s_cell, defScope s_cell, [], []⟩
abbrev s_number : Stmt := top 12
def d_number : DefA := ⟨gaF "number", "number", "number", defArgs s_number, defBody s_number, defScope s_number, [], []⟩
abbrev s_Step_init : Stmt := (clsB (top 21)).getD 0 (.Pass ⟨0, 0, 0, 0⟩)
def d_Step_init : DefA := ⟨maF "Step" "__init__", "__init__", "Step.__init__", defArgs s_Step_init, defBody s_Step_init, defScope s_Step_init, [], []⟩
abbrev s_value_of : Stmt := top 13
def d_value_of : DefA := ⟨gaF "value_of", "value_of", "value_of", defArgs s_value_of, defBody s_value_of, defScope s_value_of, [], []⟩
abbrev s_put : Stmt := top 19
def d_put : DefA := ⟨gaF "put", "put", "put", defArgs s_put, defBody s_put, defScope s_put, [], []⟩
abbrev s_law_caught : Stmt := top 26
def d_law_caught : DefA := ⟨gaF "_law_caught", "_law_caught", "_law_caught", defArgs s_law_caught, defBody s_law_caught, defScope s_law_caught, [], []⟩
abbrev s_law_take : Stmt := top 24
def d_law_take : DefA := ⟨gaF "_law_take", "_law_take", "_law_take", defArgs s_law_take, defBody s_law_take, defScope s_law_take, [], []⟩
abbrev s_law_cells : Stmt := top 25
def d_law_cells : DefA := ⟨gaF "_law_cells", "_law_cells", "_law_cells", defArgs s_law_cells, defBody s_law_cells, defScope s_law_cells, [], []⟩
abbrev s_law_text : Stmt := top 27
def d_law_text : DefA := ⟨gaF "_law_text", "_law_text", "_law_text", defArgs s_law_text, defBody s_law_text, defScope s_law_text, [], []⟩
abbrev s_law_fits : Stmt := top 28
def d_law_fits : DefA := ⟨gaF "_law_fits", "_law_fits", "_law_fits", defArgs s_law_fits, defBody s_law_fits, defScope s_law_fits, [], []⟩
abbrev s_law_well : Stmt := top 23
def d_law_well : DefA := ⟨gaF "_law_well", "_law_well", "_law_well", defArgs s_law_well, defBody s_law_well, defScope s_law_well, [], []⟩
abbrev s_law : Stmt := top 29
def d_law : DefA := ⟨gaF "law", "law", "law", defArgs s_law, defBody s_law, defScope s_law, [], []⟩
abbrev s_WorkError_init : Stmt := (clsB (top 2)).getD 0 (.Pass ⟨0, 0, 0, 0⟩)
def d_WorkError_init : DefA := ⟨maF "WorkError" "__init__", "__init__", "WorkError.__init__", defArgs s_WorkError_init, defBody s_WorkError_init, defScope s_WorkError_init, [], []⟩
def fn : List DefA := [d_Value_eq, d_Step_eq, d_parts_of, d_names_in, d_names_of_step, d_Step_names, d_Value_names, d_Value_init, d_is_name, d_check_name, d_cell, d_number, d_Step_init, d_value_of, d_put, d_law_caught, d_law_take, d_law_cells, d_law_text, d_law_fits, d_law_well, d_law, d_WorkError_init]
def fc : List Fc := [kExc "InvalidName", kInit "InvalidName" "WorkError", kNo "InvalidName" "value", kIs [("Value", true), ("Step", false)] "Value", kFree "isinstance", kGlo "Value", kCls "Step", kNo "Step" "sign", kCls "Value", kNo "Value" "sign", kNo "Value" "first", kEq "Step", kEq "Value", kNo "Value" "second", kIs [("Value", false), ("Step", true)] "Step", kGlo "Step", kNo "Step" "name", kNo "Step" "value", kNe "Step", kNe "Value", kNo "Step" "steps", kNo "Step" "others", kGlo "parts_of", kGlo "names_in", kGlo "names_of_step", kFree "sorted", kFree "set", kFree "len", kStr "LETTERS" "abcdefghijklmnopqrstuvwxyz", kFree "all", kGlo "is_name", kGlo "InvalidName", kGlo "check_name", kMk "Value", kGlo "number", kGlo "value_of", kMk "Step", kXs [("WorkError", true), ("InvalidName", true), ("UnknownName", true), ("InvalidDivisor", true)], kXi "InvalidName" [("WorkError", false), ("InvalidName", true), ("UnknownName", false), ("InvalidDivisor", false)], kGlo "cell", kGlo "put", kGlo "WorkError", kXm "WorkError" [("WorkError", true), ("InvalidName", true), ("UnknownName", true), ("InvalidDivisor", true)], kProp "Step" "names", kProp "Value" "names", kFree "int", kGlo "_law_take", kFree "range", kGlo "_law_text", kGlo "_law_caught", kFree "repr", kGlo "_law_cells", kFree "abs", kFree "min", kFree "max", kGlo "_law_well", kGlo "_law_fits", kGlo "law"]
abbrev FA := Fa fc fn
section
variable {P : Program} {w : World} {K : Frag} {mg : Str → Option Value} {base : Heap}
theorem ra_InvalidName (Y : FA P w K mg base) : RaF P w K mg base 1 "InvalidName" := by
  obtain ⟨fd, F⟩ := Y.says.def_ 22 rfl
  exact raF_of Y 0 1 2 rfl rfl rfl F ⟨rfl, rfl, rfl, by decide +kernel, rfl, by decide +kernel, by decide +kernel⟩ fun _ _ _ _ _ _ us h => match us, h with
    | [_, _], _ => by kernel_rfl
theorem b_Step_eq_2 {j : Nat} {ff : List D → Cr} (h : GdF P w K Memo.no mg base d_Step_eq ["self", "other"] [] j ff) : FnB P w K Memo.no mg base j (d_Step_eq.at_ K) ff [] 2 [] [.inl 0, .inl 1] :=
  h.b 2 [] [0, 1] rfl rfl fun _ _ _ _ _ _ us ws h1 h2 => match us, ws, h1, h2 with
    | [u0, u1], [], _, _ => ⟨[u0, u1], rfl, by kernel_rfl⟩
theorem b_Value_eq_2 {j : Nat} {ff : List D → Cr} (h : GdF P w K Memo.no mg base d_Value_eq ["self", "other"] [] j ff) : FnB P w K Memo.no mg base j (d_Value_eq.at_ K) ff [] 2 [] [.inl 0, .inl 1] :=
  h.b 2 [] [0, 1] rfl rfl fun _ _ _ _ _ _ us ws h1 h2 => match us, ws, h1, h2 with
    | [u0, u1], [], _, _ => ⟨[u0, u1], rfl, by kernel_rfl⟩
abbrev N_Value_eq : List Str := ["self", "other"]
theorem w_Value_eq (Y : FA P w K mg base) {n : Nat} (H_Value_eq : GdF P w K Memo.no mg base d_Value_eq ["self", "other"] [] (0 + 2 * n) (f_Value_eq n)) (H_Step_eq : GdF P w K Memo.no mg base d_Step_eq ["self", "other"] [] (0 + 2 * n) (f_Step_eq n)) {X : Cx} {W : WX} (c : Bd P w K mg base N_Value_eq d_Value_eq.scope (0 + 2 * n + 1) X W) : PSs X d_Value_eq.body (tF X.K Memo.no [] W (m_Value_eq (f_Value_eq n) (f_Step_eq n))) :=
  (pss_c (ps_If ((pw_Oc (pt_not' (pt_Tr (wX (wIsi c.ct (Y.is 3 rfl) (by kernel_rfl) (Y.free 4 rfl) (by kernel_rfl) (Y.glo 5 rfl) (wN c.ct (by kernel_rfl)) rfl)) (fun _ => rfl))) (pw_O1 (tCmp c.ct (wX (wFld c.ct (fldOk_c (Y.cls 8 rfl) (Y.no 9 rfl) (fldOk_c (Y.cls 6 rfl) (Y.no 7 rfl) fldOk_0)) (wN c.ct (by kernel_rfl)) rfl)) (wX (wFld c.ct (fldOk_c (Y.cls 8 rfl) (Y.no 9 rfl) (fldOk_c (Y.cls 6 rfl) (Y.no 7 rfl) fldOk_0)) (wN c.ct (by kernel_rfl)) rfl)) rfl)))).pt (pss_c (ps_Ret kB)
    pss_0) pss_0)
    (pss_c (ps_Ret (pe_And (wEq c.ct (all_c ⟨_, ⟨(0 + 2 * n), by omega, b_Value_eq_2 H_Value_eq, rfl⟩, Y.eq 12 rfl⟩ (all_c ⟨_, ⟨(0 + 2 * n), by omega, b_Step_eq_2 H_Step_eq, rfl⟩, Y.eq 11 rfl⟩ all_0)) (wFld c.ct (fldOk_c (Y.cls 8 rfl) (Y.no 10 rfl) fldOk_0) (wN c.ct (by kernel_rfl)) rfl) (wFld c.ct (fldOk_c (Y.cls 8 rfl) (Y.no 10 rfl) fldOk_0) (wN c.ct (by kernel_rfl)) rfl) rfl) (pe_one (wEq c.ct (all_c ⟨_, ⟨(0 + 2 * n), by omega, b_Value_eq_2 H_Value_eq, rfl⟩, Y.eq 12 rfl⟩ (all_c ⟨_, ⟨(0 + 2 * n), by omega, b_Step_eq_2 H_Step_eq, rfl⟩, Y.eq 11 rfl⟩ all_0)) (wFld c.ct (fldOk_c (Y.cls 8 rfl) (Y.no 13 rfl) fldOk_0) (wN c.ct (by kernel_rfl)) rfl) (wFld c.ct (fldOk_c (Y.cls 8 rfl) (Y.no 13 rfl) fldOk_0) (wN c.ct (by kernel_rfl)) rfl) rfl))))
    pss_0))
abbrev N_Step_eq : List Str := ["self", "other"]
theorem w_Step_eq (Y : FA P w K mg base) {n : Nat} (H_Value_eq : GdF P w K Memo.no mg base d_Value_eq ["self", "other"] [] (0 + 2 * n) (f_Value_eq n)) (H_Step_eq : GdF P w K Memo.no mg base d_Step_eq ["self", "other"] [] (0 + 2 * n) (f_Step_eq n)) {X : Cx} {W : WX} (c : Bd P w K mg base N_Step_eq d_Step_eq.scope (0 + 2 * n + 1) X W) : PSs X d_Step_eq.body (tF X.K Memo.no [] W (m_Step_eq (f_Value_eq n) (f_Step_eq n))) :=
  (pss_c (ps_If ((pw_Oc (pt_not' (pt_Tr (wX (wIsi c.ct (Y.is 14 rfl) (by kernel_rfl) (Y.free 4 rfl) (by kernel_rfl) (Y.glo 15 rfl) (wN c.ct (by kernel_rfl)) rfl)) (fun _ => rfl))) (pw_O1 (tCmp c.ct (wX (wFld c.ct (fldOk_c (Y.cls 8 rfl) (Y.no 9 rfl) (fldOk_c (Y.cls 6 rfl) (Y.no 7 rfl) fldOk_0)) (wN c.ct (by kernel_rfl)) rfl)) (wX (wFld c.ct (fldOk_c (Y.cls 8 rfl) (Y.no 9 rfl) (fldOk_c (Y.cls 6 rfl) (Y.no 7 rfl) fldOk_0)) (wN c.ct (by kernel_rfl)) rfl)) rfl)))).pt (pss_c (ps_Ret kB)
    pss_0) pss_0)
    (pss_c (ps_If ((pw_Oc (tCmp c.ct (wX (wFld c.ct (fldOk_c (Y.cls 6 rfl) (Y.no 16 rfl) fldOk_0) (wN c.ct (by kernel_rfl)) rfl)) (wX (wFld c.ct (fldOk_c (Y.cls 6 rfl) (Y.no 16 rfl) fldOk_0) (wN c.ct (by kernel_rfl)) rfl)) rfl) (pw_O1 (tNe c.ct (all_c ⟨_, ⟨(0 + 2 * n), by omega, b_Value_eq_2 H_Value_eq, rfl⟩, Y.eq 12 rfl, Y.ne 19 rfl⟩ (all_c ⟨_, ⟨(0 + 2 * n), by omega, b_Step_eq_2 H_Step_eq, rfl⟩, Y.eq 11 rfl, Y.ne 18 rfl⟩ all_0)) (wFld c.ct (fldOk_c (Y.cls 6 rfl) (Y.no 17 rfl) fldOk_0) (wN c.ct (by kernel_rfl)) rfl) (wFld c.ct (fldOk_c (Y.cls 6 rfl) (Y.no 17 rfl) fldOk_0) (wN c.ct (by kernel_rfl)) rfl) rfl)))).pt (pss_c (ps_Ret kB)
    pss_0) pss_0)
    (pss_c (ps_Ret (pe_And (wCmp c.ct (wX (wFld c.ct (fldOk_c (Y.cls 6 rfl) (Y.no 20 rfl) fldOk_0) (wN c.ct (by kernel_rfl)) rfl)) (wX (wFld c.ct (fldOk_c (Y.cls 6 rfl) (Y.no 20 rfl) fldOk_0) (wN c.ct (by kernel_rfl)) rfl)) rfl) (pe_one (wCmp c.ct (wX (wFld c.ct (fldOk_c (Y.cls 6 rfl) (Y.no 21 rfl) fldOk_0) (wN c.ct (by kernel_rfl)) rfl)) (wX (wFld c.ct (fldOk_c (Y.cls 6 rfl) (Y.no 21 rfl) fldOk_0) (wN c.ct (by kernel_rfl)) rfl)) rfl))))
    pss_0)))
theorem gg_Value_eq_Step_eq (Y : FA P w K mg base) : ∀ n : Nat, GdF P w K Memo.no mg base d_Value_eq ["self", "other"] [] (0 + 2 * n) (f_Value_eq n) ∧ GdF P w K Memo.no mg base d_Step_eq ["self", "other"] [] (0 + 2 * n) (f_Step_eq n)
  | 0 => ⟨GdF.no Y 0 rfl, GdF.no Y 1 rfl⟩
  | n + 1 => ⟨GdF.mk' Y 0 rfl (N := N_Value_eq) ⟨rfl, rfl, rfl, by decide +kernel, rfl, by decide +kernel, by decide +kernel⟩ rfl (by decide) fun _ _ c => w_Value_eq Y (gg_Value_eq_Step_eq Y n).1 (gg_Value_eq_Step_eq Y n).2 c,
    GdF.mk' Y 1 rfl (N := N_Step_eq) ⟨rfl, rfl, rfl, by decide +kernel, rfl, by decide +kernel, by decide +kernel⟩ rfl (by decide) fun _ _ c => w_Step_eq Y (gg_Value_eq_Step_eq Y n).1 (gg_Value_eq_Step_eq Y n).2 c⟩
theorem g_Value_eq (Y : FA P w K mg base) (n : Nat) : GdF P w K Memo.no mg base d_Value_eq ["self", "other"] [] (0 + 2 * n) (f_Value_eq n) := (gg_Value_eq_Step_eq Y n).1
theorem g_Step_eq (Y : FA P w K mg base) (n : Nat) : GdF P w K Memo.no mg base d_Step_eq ["self", "other"] [] (0 + 2 * n) (f_Step_eq n) := (gg_Value_eq_Step_eq Y n).2
abbrev N_parts_of : List Str := ["value"]
theorem w_parts_of (Y : FA P w K mg base) {X : Cx} {W : WX} (c : Bd P w K mg base N_parts_of d_parts_of.scope 0 X W) : PSs X d_parts_of.body (tF X.K Memo.no [] W m_parts_of) :=
  (pss_c (ps_If (tCmp c.ct (wX (wFld c.ct (fldOk_c (Y.cls 8 rfl) (Y.no 9 rfl) (fldOk_c (Y.cls 6 rfl) (Y.no 7 rfl) fldOk_0)) (wN c.ct (by kernel_rfl)) rfl)) (wX (pe_Tup (wLc kS (wLc kS (wLc kS wL0 rfl) rfl) rfl))) rfl) (pss_c (ps_Ret (pe_Lst wL0))
    pss_0) pss_0)
    (pss_c (ps_Ret (pe_IfE (tCmp c.ct (wX (wFld c.ct (fldOk_c (Y.cls 8 rfl) (Y.no 9 rfl) (fldOk_c (Y.cls 6 rfl) (Y.no 7 rfl) fldOk_0)) (wN c.ct (by kernel_rfl)) rfl)) (wX kS) rfl) (pe_Lst (wLc (wFld c.ct (fldOk_c (Y.cls 8 rfl) (Y.no 10 rfl) fldOk_0) (wN c.ct (by kernel_rfl)) rfl) wL0 rfl)) (pe_Lst (wLc (wFld c.ct (fldOk_c (Y.cls 8 rfl) (Y.no 10 rfl) fldOk_0) (wN c.ct (by kernel_rfl)) rfl) (wLc (wFld c.ct (fldOk_c (Y.cls 8 rfl) (Y.no 13 rfl) fldOk_0) (wN c.ct (by kernel_rfl)) rfl) wL0 rfl) rfl))))
    pss_0))
theorem g_parts_of (Y : FA P w K mg base) : GdF P w K Memo.no mg base d_parts_of ["value"] [] 1 f_parts_of :=
  GdF.mk' Y 2 rfl (N := N_parts_of) ⟨rfl, rfl, rfl, by decide +kernel, rfl, by decide +kernel, by decide +kernel⟩ rfl (by decide) fun _ _ c => w_parts_of Y c
theorem b_parts_of_1 {j : Nat} {ff : List D → Cr} (h : GdF P w K Memo.no mg base d_parts_of ["value"] [] j ff) : FnB P w K Memo.no mg base j (d_parts_of.at_ K) ff [] 1 [] [.inl 0] :=
  h.b 1 [] [0] rfl rfl fun _ _ _ _ _ _ us ws h1 h2 => match us, ws, h1, h2 with
    | [u0], [], _, _ => ⟨[u0], rfl, by kernel_rfl⟩
theorem b_names_in_1 {j : Nat} {ff : List D → Cr} (h : GdF P w K Memo.no mg base d_names_in ["value"] [] j ff) : FnB P w K Memo.no mg base j (d_names_in.at_ K) ff [] 1 [] [.inl 0] :=
  h.b 1 [] [0] rfl rfl fun _ _ _ _ _ _ us ws h1 h2 => match us, ws, h1, h2 with
    | [u0], [], _, _ => ⟨[u0], rfl, by kernel_rfl⟩
abbrev N_names_in : List Str := ["value", "found", "part"]
theorem w_names_in (Y : FA P w K mg base) {n : Nat} (H_names_in : GdF P w K Memo.no mg base d_names_in ["value"] [] (1 + 2 * n) (f_names_in n)) {X : Cx} {W : WX} (c : Bd P w K mg base N_names_in d_names_in.scope (1 + 2 * n + 1) X W) : PSs X d_names_in.body (tF X.K Memo.no [] W (m_names_in (f_names_in n))) :=
  (pss_c (sSet c (by kernel_rfl) (pe_IfE (tCmp c.ct (wX (wFld c.ct (fldOk_c (Y.cls 8 rfl) (Y.no 9 rfl) (fldOk_c (Y.cls 6 rfl) (Y.no 7 rfl) fldOk_0)) (wN c.ct (by kernel_rfl)) rfl)) (wX kS) rfl) (pe_Lst (wLc (wFld c.ct (fldOk_c (Y.cls 8 rfl) (Y.no 10 rfl) fldOk_0) (wN c.ct (by kernel_rfl)) rfl) wL0 rfl)) (pe_Lst wL0)) (by kernel_rfl) rfl)
    (pss_c (sFor c (pi_V (wCall0 c.ct (b_parts_of_1 (g_parts_of Y)) (by omega) (by kernel_rfl) (Y.glo 22 rfl) (paV (wV c.ct (by kernel_rfl)) pa_A0 rfl) rfl)) (wTn c.ct (by kernel_rfl) (.inl c.fn)) (by kernel_rfl) (pss_c (sSet c (by kernel_rfl) (wOp c.ct (wN c.ct (by kernel_rfl)) (wX (wCall0 c.ct (b_names_in_1 H_names_in) (by omega) (by kernel_rfl) (Y.glo 23 rfl) (paV (wV c.ct (by kernel_rfl)) pa_A0 rfl) rfl))) (by kernel_rfl) rfl)
    pss_0) (fun _ => rfl))
    (pss_c (ps_Ret (wV c.ct (by kernel_rfl)))
    pss_0)))
theorem g_names_in (Y : FA P w K mg base) : ∀ n : Nat, GdF P w K Memo.no mg base d_names_in ["value"] [] (1 + 2 * n) (f_names_in n)
  | 0 => GdF.no Y 3 rfl
  | n + 1 => GdF.mk' Y 3 rfl (N := N_names_in) ⟨rfl, rfl, rfl, by decide +kernel, rfl, by decide +kernel, by decide +kernel⟩ rfl (by decide) fun _ _ c => w_names_in Y (g_names_in Y n) c
theorem b_names_of_step_1 {j : Nat} {ff : List D → Cr} (h : GdF P w K Memo.no mg base d_names_of_step ["step"] [] j ff) : FnB P w K Memo.no mg base j (d_names_of_step.at_ K) ff [] 1 [] [.inl 0] :=
  h.b 1 [] [0] rfl rfl fun _ _ _ _ _ _ us ws h1 h2 => match us, ws, h1, h2 with
    | [u0], [], _, _ => ⟨[u0], rfl, by kernel_rfl⟩
abbrev N_names_of_step : List Str := ["step", "found", "part"]
theorem w_names_of_step (Y : FA P w K mg base) {n : Nat} (H_names_of_step : GdF P w K Memo.no mg base d_names_of_step ["step"] [] (17 + 2 * n) (f_names_of_step n)) {X : Cx} {W : WX} (c : Bd P w K mg base N_names_of_step d_names_of_step.scope (17 + 2 * n + 1) X W) : PSs X d_names_of_step.body (tF X.K Memo.no [] W (m_names_of_step (f_names_of_step n))) :=
  (pss_c (sSet c (by kernel_rfl) (wCall0 c.ct (b_names_in_1 (g_names_in Y 8)) (by omega) (by kernel_rfl) (Y.glo 23 rfl) (paV (wFld c.ct (fldOk_c (Y.cls 6 rfl) (Y.no 17 rfl) fldOk_0) (wN c.ct (by kernel_rfl)) rfl) pa_A0 rfl) rfl) (by kernel_rfl) rfl)
    (pss_c (ps_If (tCmp c.ct (wX (wFld c.ct (fldOk_c (Y.cls 8 rfl) (Y.no 9 rfl) (fldOk_c (Y.cls 6 rfl) (Y.no 7 rfl) fldOk_0)) (wN c.ct (by kernel_rfl)) rfl)) (wX kS) rfl) (pss_c (sSet c (by kernel_rfl) (wOp c.ct (wX (pe_Lst (wLc (wFld c.ct (fldOk_c (Y.cls 6 rfl) (Y.no 16 rfl) fldOk_0) (wN c.ct (by kernel_rfl)) rfl) wL0 rfl))) (wN c.ct (by kernel_rfl))) (by kernel_rfl) rfl)
    pss_0) pss_0)
    (pss_c (sFor c (pi_V (wOp c.ct (wX (wFld c.ct (fldOk_c (Y.cls 6 rfl) (Y.no 20 rfl) fldOk_0) (wN c.ct (by kernel_rfl)) rfl)) (wX (wFld c.ct (fldOk_c (Y.cls 6 rfl) (Y.no 21 rfl) fldOk_0) (wN c.ct (by kernel_rfl)) rfl)))) (wTn c.ct (by kernel_rfl) (.inl c.fn)) (by kernel_rfl) (pss_c (sSet c (by kernel_rfl) (wOp c.ct (wN c.ct (by kernel_rfl)) (wX (wCall0 c.ct (b_names_of_step_1 H_names_of_step) (by omega) (by kernel_rfl) (Y.glo 24 rfl) (paV (wV c.ct (by kernel_rfl)) pa_A0 rfl) rfl))) (by kernel_rfl) rfl)
    pss_0) (fun _ => rfl))
    (pss_c (ps_Ret (wV c.ct (by kernel_rfl)))
    pss_0))))
theorem g_names_of_step (Y : FA P w K mg base) : ∀ n : Nat, GdF P w K Memo.no mg base d_names_of_step ["step"] [] (17 + 2 * n) (f_names_of_step n)
  | 0 => GdF.no Y 4 rfl
  | n + 1 => GdF.mk' Y 4 rfl (N := N_names_of_step) ⟨rfl, rfl, rfl, by decide +kernel, rfl, by decide +kernel, by decide +kernel⟩ rfl (by decide) fun _ _ c => w_names_of_step Y (g_names_of_step Y n) c
abbrev N_Step_names : List Str := ["self"]
theorem w_Step_names (Y : FA P w K mg base) {X : Cx} {W : WX} (c : Bd P w K mg base N_Step_names d_Step_names.scope 33 X W) : PSs X d_Step_names.body (tF X.K Memo.no [] W m_Step_names) :=
  (pss_c (ps_Ret (wSS c.ct (by kernel_rfl) (Y.free 25 rfl) (by kernel_rfl) (Y.free 26 rfl) (wX (wCall0 c.ct (b_names_of_step_1 (g_names_of_step Y 8)) (by omega) (by kernel_rfl) (Y.glo 24 rfl) (paV (wV c.ct (by kernel_rfl)) pa_A0 rfl) rfl)) rfl))
    pss_0)
theorem g_Step_names (Y : FA P w K mg base) : GdF P w K Memo.no mg base d_Step_names ["self"] [] 34 f_Step_names :=
  GdF.mk' Y 5 rfl (N := N_Step_names) ⟨rfl, rfl, rfl, by decide +kernel, rfl, by decide +kernel, by decide +kernel⟩ rfl (by decide) fun _ _ c => w_Step_names Y c
abbrev N_Value_names : List Str := ["self"]
theorem w_Value_names (Y : FA P w K mg base) {X : Cx} {W : WX} (c : Bd P w K mg base N_Value_names d_Value_names.scope 17 X W) : PSs X d_Value_names.body (tF X.K Memo.no [] W m_Value_names) :=
  (pss_c (ps_Ret (wSS c.ct (by kernel_rfl) (Y.free 25 rfl) (by kernel_rfl) (Y.free 26 rfl) (wX (wCall0 c.ct (b_names_in_1 (g_names_in Y 8)) (by omega) (by kernel_rfl) (Y.glo 23 rfl) (paV (wV c.ct (by kernel_rfl)) pa_A0 rfl) rfl)) rfl))
    pss_0)
theorem g_Value_names (Y : FA P w K mg base) : GdF P w K Memo.no mg base d_Value_names ["self"] [] 18 f_Value_names :=
  GdF.mk' Y 6 rfl (N := N_Value_names) ⟨rfl, rfl, rfl, by decide +kernel, rfl, by decide +kernel, by decide +kernel⟩ rfl (by decide) fun _ _ c => w_Value_names Y c
abbrev N_Value_init : List Str := ["self", "sign", "first", "second"]
theorem w_Value_init (Y : FA P w K mg base) {X : Cx} {W : WX} (c : Bd P w K mg base N_Value_init d_Value_init.scope 0 X W) : PSs X d_Value_init.body (tF X.K Memo.no [0] W m_Value_init) :=
  (pss_c (sFst c (fldOk_c (Y.cls 8 rfl) (Y.no 9 rfl) (fldOk_c (Y.cls 6 rfl) (Y.no 7 rfl) fldOk_0)) (by kernel_rfl) (wV c.ct (by kernel_rfl)) rfl)
    (pss_c (sFst c (fldOk_c (Y.cls 8 rfl) (Y.no 10 rfl) fldOk_0) (by kernel_rfl) (wV c.ct (by kernel_rfl)) rfl)
    (pss_c (sFst c (fldOk_c (Y.cls 8 rfl) (Y.no 13 rfl) fldOk_0) (by kernel_rfl) (wV c.ct (by kernel_rfl)) rfl)
    pss_0)))
theorem g_Value_init (Y : FA P w K mg base) : GdF P w K Memo.no mg base d_Value_init ["self", "sign", "first", "second"] [0] 1 f_Value_init :=
  GdF.mk' Y 7 rfl (N := N_Value_init) ⟨rfl, rfl, rfl, by decide +kernel, rfl, by decide +kernel, by decide +kernel⟩ rfl (by decide) fun _ _ c => w_Value_init Y c
abbrev N_is_name : List Str := ["name", "letter"]
theorem w_is_name (Y : FA P w K mg base) {X : Cx} {W : WX} (c : Bd P w K mg base N_is_name d_is_name.scope 0 X W) : PSs X d_is_name.body (tF X.K Memo.no [] W m_is_name) :=
  (pss_c (ps_Ret (pe_And (wCh c.ct (wX kI) (wX (wCB c.ct (by kernel_rfl) (Y.free 27 rfl) c_len (wOc (wN c.ct (by kernel_rfl)) wO0 rfl) rfl)) (wX kI) rfl) (pe_one (wCB c.ct (by kernel_rfl) (Y.free 29 rfl) (c_all c.ct.calm) (wOc (wX (wLcp c.ct [("letter", 1)] (pi_V (wV c.ct (by kernel_rfl))) (by kernel_rfl) rfl rfl (fun _ _ c1 => (wTn c1 (by kernel_rfl) (.inr (by kernel_rfl)))) (fun _ _ c1 => pts_0) (fun _ _ c1 => (wCmp c1 (wN c1 (by kernel_rfl)) (wX (wGS c1 (by kernel_rfl) (Y.str 28 rfl))) rfl)) (fun _ => rfl))) wO0 rfl) rfl))))
    pss_0)
theorem g_is_name (Y : FA P w K mg base) : GdF P w K Memo.no mg base d_is_name ["name"] [] 1 f_is_name :=
  GdF.mk' Y 8 rfl (N := N_is_name) ⟨rfl, rfl, rfl, by decide +kernel, rfl, by decide +kernel, by decide +kernel⟩ rfl (by decide) fun _ _ c => w_is_name Y c
theorem b_is_name_1 {j : Nat} {ff : List D → Cr} (h : GdF P w K Memo.no mg base d_is_name ["name"] [] j ff) : FnB P w K Memo.no mg base j (d_is_name.at_ K) ff [] 1 [] [.inl 0] :=
  h.b 1 [] [0] rfl rfl fun _ _ _ _ _ _ us ws h1 h2 => match us, ws, h1, h2 with
    | [u0], [], _, _ => ⟨[u0], rfl, by kernel_rfl⟩
abbrev N_check_name : List Str := ["name"]
theorem w_check_name (Y : FA P w K mg base) {X : Cx} {W : WX} (c : Bd P w K mg base N_check_name d_check_name.scope 2 X W) : PSs X d_check_name.body (tF X.K Memo.no [] W m_check_name) :=
  (pss_c (ps_If (pt_not' (pt_Tr (wX (wCall0 c.ct (b_is_name_1 (g_is_name Y)) (by omega) (by kernel_rfl) (Y.glo 30 rfl) (paV (wV c.ct (by kernel_rfl)) pa_A0 rfl) rfl)) (fun _ => rfl))) (pss_c (sRaise c (ra_InvalidName Y) (by omega) (by kernel_rfl) (Y.glo 31 rfl) (wV c.ct (by kernel_rfl)) rfl)
    pss_0) pss_0)
    pss_0)
theorem g_check_name (Y : FA P w K mg base) : GdF P w K Memo.no mg base d_check_name ["name"] [] 3 f_check_name :=
  GdF.mk' Y 9 rfl (N := N_check_name) ⟨rfl, rfl, rfl, by decide +kernel, rfl, by decide +kernel, by decide +kernel⟩ rfl (by decide) fun _ _ c => w_check_name Y c
theorem b_check_name_1 {j : Nat} {ff : List D → Cr} (h : GdF P w K Memo.no mg base d_check_name ["name"] [] j ff) : FnB P w K Memo.no mg base j (d_check_name.at_ K) ff [] 1 [] [.inl 0] :=
  h.b 1 [] [0] rfl rfl fun _ _ _ _ _ _ us ws h1 h2 => match us, ws, h1, h2 with
    | [u0], [], _, _ => ⟨[u0], rfl, by kernel_rfl⟩
theorem b_Value_init_4 {j : Nat} {ff : List D → Cr} (h : GdF P w K Memo.no mg base d_Value_init ["self", "sign", "first", "second"] [0] j ff) : FnB P w K Memo.no mg base j (d_Value_init.at_ K) ff [0] 4 [] [.inl 0, .inl 1, .inl 2, .inl 3] :=
  h.b 4 [] [0, 1, 2, 3] rfl rfl fun _ _ _ _ _ _ us ws h1 h2 => match us, ws, h1, h2 with
    | [u0, u1, u2, u3], [], _, _ => ⟨[u0, u1, u2, u3], rfl, by kernel_rfl⟩
abbrev N_cell : List Str := ["name"]
theorem w_cell (Y : FA P w K mg base) {X : Cx} {W : WX} (c : Bd P w K mg base N_cell d_cell.scope 3 X W) : PSs X d_cell.body (tF X.K Memo.no [] W m_cell) :=
  (pss_c (ps_Drop (wCall0 c.ct (b_check_name_1 (g_check_name Y)) (by omega) (by kernel_rfl) (Y.glo 32 rfl) (paV (wV c.ct (by kernel_rfl)) pa_A0 rfl) rfl) rfl)
    (pss_c (ps_Ret (wNew0 c.ct (Y.mkc 33 rfl) (b_Value_init_4 (g_Value_init Y)) (by omega) (by kernel_rfl) (Y.glo 5 rfl) (fun _ _ => trivial) (paV kS (paV (wV c.ct (by kernel_rfl)) (paV kN pa_A0 rfl) rfl) rfl) rfl rfl))
    pss_0))
theorem g_cell (Y : FA P w K mg base) : GdF P w K Memo.no mg base d_cell ["name"] [] 4 f_cell :=
  GdF.mk' Y 10 rfl (N := N_cell) ⟨rfl, rfl, rfl, by decide +kernel, rfl, by decide +kernel, by decide +kernel⟩ rfl (by decide) fun _ _ c => w_cell Y c
abbrev N_number : List Str := ["n"]
theorem w_number (Y : FA P w K mg base) {X : Cx} {W : WX} (c : Bd P w K mg base N_number d_number.scope 2 X W) : PSs X d_number.body (tF X.K Memo.no [] W m_number) :=
  (pss_c (ps_Ret (wNew0 c.ct (Y.mkc 33 rfl) (b_Value_init_4 (g_Value_init Y)) (by omega) (by kernel_rfl) (Y.glo 5 rfl) (fun _ _ => trivial) (paV kS (paV (wV c.ct (by kernel_rfl)) (paV kN pa_A0 rfl) rfl) rfl) rfl rfl))
    pss_0)
theorem g_number (Y : FA P w K mg base) : GdF P w K Memo.no mg base d_number ["n"] [] 3 f_number :=
  GdF.mk' Y 11 rfl (N := N_number) ⟨rfl, rfl, rfl, by decide +kernel, rfl, by decide +kernel, by decide +kernel⟩ rfl (by decide) fun _ _ c => w_number Y c
abbrev N_Step_init : List Str := ["self", "sign", "name", "value", "steps", "others"]
theorem w_Step_init (Y : FA P w K mg base) {X : Cx} {W : WX} (c : Bd P w K mg base N_Step_init d_Step_init.scope 0 X W) : PSs X d_Step_init.body (tF X.K Memo.no [0] W m_Step_init) :=
  (pss_c (sFst c (fldOk_c (Y.cls 8 rfl) (Y.no 9 rfl) (fldOk_c (Y.cls 6 rfl) (Y.no 7 rfl) fldOk_0)) (by kernel_rfl) (wV c.ct (by kernel_rfl)) rfl)
    (pss_c (sFst c (fldOk_c (Y.cls 6 rfl) (Y.no 16 rfl) fldOk_0) (by kernel_rfl) (wV c.ct (by kernel_rfl)) rfl)
    (pss_c (sFst c (fldOk_c (Y.cls 6 rfl) (Y.no 17 rfl) fldOk_0) (by kernel_rfl) (wV c.ct (by kernel_rfl)) rfl)
    (pss_c (sFst c (fldOk_c (Y.cls 6 rfl) (Y.no 20 rfl) fldOk_0) (by kernel_rfl) (wV c.ct (by kernel_rfl)) rfl)
    (pss_c (sFst c (fldOk_c (Y.cls 6 rfl) (Y.no 21 rfl) fldOk_0) (by kernel_rfl) (wV c.ct (by kernel_rfl)) rfl)
    pss_0)))))
theorem g_Step_init (Y : FA P w K mg base) : GdF P w K Memo.no mg base d_Step_init ["self", "sign", "name", "value", "steps", "others"] [0] 1 f_Step_init :=
  GdF.mk' Y 12 rfl (N := N_Step_init) ⟨rfl, rfl, rfl, by decide +kernel, rfl, by decide +kernel, by decide +kernel⟩ rfl (by decide) fun _ _ c => w_Step_init Y c
theorem b_number_1 {j : Nat} {ff : List D → Cr} (h : GdF P w K Memo.no mg base d_number ["n"] [] j ff) : FnB P w K Memo.no mg base j (d_number.at_ K) ff [] 1 [] [.inl 0] :=
  h.b 1 [] [0] rfl rfl fun _ _ _ _ _ _ us ws h1 h2 => match us, ws, h1, h2 with
    | [u0], [], _, _ => ⟨[u0], rfl, by kernel_rfl⟩
abbrev N_value_of : List Str := ["part"]
theorem w_value_of (Y : FA P w K mg base) {X : Cx} {W : WX} (c : Bd P w K mg base N_value_of d_value_of.scope 3 X W) : PSs X d_value_of.body (tF X.K Memo.no [] W m_value_of) :=
  (pss_c (ps_Ret (pe_IfE (pt_Tr (wX (wIsi c.ct (Y.is 3 rfl) (by kernel_rfl) (Y.free 4 rfl) (by kernel_rfl) (Y.glo 5 rfl) (wN c.ct (by kernel_rfl)) rfl)) (fun _ => rfl)) (wV c.ct (by kernel_rfl)) (wCall0 c.ct (b_number_1 (g_number Y)) (by omega) (by kernel_rfl) (Y.glo 34 rfl) (paV (wV c.ct (by kernel_rfl)) pa_A0 rfl) rfl)))
    pss_0)
theorem g_value_of (Y : FA P w K mg base) : GdF P w K Memo.no mg base d_value_of ["part"] [] 4 f_value_of :=
  GdF.mk' Y 13 rfl (N := N_value_of) ⟨rfl, rfl, rfl, by decide +kernel, rfl, by decide +kernel, by decide +kernel⟩ rfl (by decide) fun _ _ c => w_value_of Y c
theorem b_Step_init_6 {j : Nat} {ff : List D → Cr} (h : GdF P w K Memo.no mg base d_Step_init ["self", "sign", "name", "value", "steps", "others"] [0] j ff) : FnB P w K Memo.no mg base j (d_Step_init.at_ K) ff [0] 6 [] [.inl 0, .inl 1, .inl 2, .inl 3, .inl 4, .inl 5] :=
  h.b 6 [] [0, 1, 2, 3, 4, 5] rfl rfl fun _ _ _ _ _ _ us ws h1 h2 => match us, ws, h1, h2 with
    | [u0, u1, u2, u3, u4, u5], [], _, _ => ⟨[u0, u1, u2, u3, u4, u5], rfl, by kernel_rfl⟩
theorem b_value_of_1 {j : Nat} {ff : List D → Cr} (h : GdF P w K Memo.no mg base d_value_of ["part"] [] j ff) : FnB P w K Memo.no mg base j (d_value_of.at_ K) ff [] 1 [] [.inl 0] :=
  h.b 1 [] [0] rfl rfl fun _ _ _ _ _ _ us ws h1 h2 => match us, ws, h1, h2 with
    | [u0], [], _, _ => ⟨[u0], rfl, by kernel_rfl⟩
abbrev N_put : List Str := ["name", "value"]
theorem w_put (Y : FA P w K mg base) {X : Cx} {W : WX} (c : Bd P w K mg base N_put d_put.scope 4 X W) : PSs X d_put.body (tF X.K Memo.no [] W m_put) :=
  (pss_c (ps_Drop (wCall0 c.ct (b_check_name_1 (g_check_name Y)) (by omega) (by kernel_rfl) (Y.glo 32 rfl) (paV (wV c.ct (by kernel_rfl)) pa_A0 rfl) rfl) rfl)
    (pss_c (ps_Ret (wNew0 c.ct (Y.mkc 36 rfl) (b_Step_init_6 (g_Step_init Y)) (by omega) (by kernel_rfl) (Y.glo 15 rfl) (fun _ _ => trivial) (paV kS (paV (wV c.ct (by kernel_rfl)) (paV (wCall0 c.ct (b_value_of_1 (g_value_of Y)) (by omega) (by kernel_rfl) (Y.glo 35 rfl) (paV (wV c.ct (by kernel_rfl)) pa_A0 rfl) rfl) (paV (pe_Tup wL0) (paV (pe_Tup wL0) pa_A0 rfl) rfl) rfl) rfl) rfl) rfl rfl))
    pss_0))
theorem g_put (Y : FA P w K mg base) : GdF P w K Memo.no mg base d_put ["name", "value"] [] 5 f_put :=
  GdF.mk' Y 14 rfl (N := N_put) ⟨rfl, rfl, rfl, by decide +kernel, rfl, by decide +kernel, by decide +kernel⟩ rfl (by decide) fun _ _ c => w_put Y c
theorem b_cell_1 {j : Nat} {ff : List D → Cr} (h : GdF P w K Memo.no mg base d_cell ["name"] [] j ff) : FnB P w K Memo.no mg base j (d_cell.at_ K) ff [] 1 [] [.inl 0] :=
  h.b 1 [] [0] rfl rfl fun _ _ _ _ _ _ us ws h1 h2 => match us, ws, h1, h2 with
    | [u0], [], _, _ => ⟨[u0], rfl, by kernel_rfl⟩
theorem b_cell_0_name {j : Nat} {ff : List D → Cr} (h : GdF P w K Memo.no mg base d_cell ["name"] [] j ff) : FnB P w K Memo.no mg base j (d_cell.at_ K) ff [] 0 ["name"] [.inl 0] :=
  h.b 0 ["name"] [0] rfl rfl fun _ _ _ _ _ _ us ws h1 h2 => match us, ws, h1, h2 with
    | [], [w0], _, _ => ⟨[w0], rfl, by kernel_rfl⟩
theorem b_put_2 {j : Nat} {ff : List D → Cr} (h : GdF P w K Memo.no mg base d_put ["name", "value"] [] j ff) : FnB P w K Memo.no mg base j (d_put.at_ K) ff [] 2 [] [.inl 0, .inl 1] :=
  h.b 2 [] [0, 1] rfl rfl fun _ _ _ _ _ _ us ws h1 h2 => match us, ws, h1, h2 with
    | [u0, u1], [], _, _ => ⟨[u0, u1], rfl, by kernel_rfl⟩
theorem b_put_0_value_name {j : Nat} {ff : List D → Cr} (h : GdF P w K Memo.no mg base d_put ["name", "value"] [] j ff) : FnB P w K Memo.no mg base j (d_put.at_ K) ff [] 0 ["value", "name"] [.inl 1, .inl 0] :=
  h.b 0 ["value", "name"] [1, 0] rfl rfl fun _ _ _ _ _ _ us ws h1 h2 => match us, ws, h1, h2 with
    | [], [w0, w1], _, _ => ⟨[w1, w0], rfl, by kernel_rfl⟩
theorem b_Step_names_1 {j : Nat} {ff : List D → Cr} (h : GdF P w K Memo.no mg base d_Step_names ["self"] [] j ff) : FnB P w K Memo.no mg base j (d_Step_names.at_ K) ff [] 1 [] [.inl 0] :=
  h.b 1 [] [0] rfl rfl fun _ _ _ _ _ _ us ws h1 h2 => match us, ws, h1, h2 with
    | [u0], [], _, _ => ⟨[u0], rfl, by kernel_rfl⟩
theorem b_Value_names_1 {j : Nat} {ff : List D → Cr} (h : GdF P w K Memo.no mg base d_Value_names ["self"] [] j ff) : FnB P w K Memo.no mg base j (d_Value_names.at_ K) ff [] 1 [] [.inl 0] :=
  h.b 1 [] [0] rfl rfl fun _ _ _ _ _ _ us ws h1 h2 => match us, ws, h1, h2 with
    | [u0], [], _, _ => ⟨[u0], rfl, by kernel_rfl⟩
abbrev N_law_caught : List Str := ["text", "way", "caught", "made", "e"]
theorem w_law_caught (Y : FA P w K mg base) {X : Cx} {W : WX} (t : BdT P w K mg base N_law_caught d_law_caught.scope 35 X W) : PSs X d_law_caught.body (tF X.K Memo.no [] W m_law_caught) := by
  have c := t.bd
  exact (pss_c (sSetTc c (pe_Tup (wLc kN (wLc kN wL0 rfl) rfl)) (wTc c.ct (by kernel_rfl) (.inl c.fn) (wTc c.ct (by kernel_rfl) (.inl c.fn) wT0)) (by kernel_rfl) rfl rfl rfl (by kernel_rfl) rfl)
    (pss_c (sTry t (by kernel_rfl) (by kernel_rfl) (Y.glo 41 rfl) (by kernel_rfl) (by kernel_rfl) (by kernel_rfl) rfl (Y.xm 42 rfl) (itsc (xIs c.ct (Y.xs 37 rfl) (Y.xi 38 rfl) (by kernel_rfl) (Y.free 4 rfl) (by kernel_rfl) (Y.glo 31 rfl) (by kernel_rfl)) (itsc (xVal c.ct (Y.xs 37 rfl) (by kernel_rfl) rfl) its0 rfl) rfl) (fun _ _ _ b1 =>
    (pss_c (ps_If (tCmp b1.ct (wN b1.ct (by kernel_rfl)) (wX kI) rfl) (pss_c (sSet b1 (by kernel_rfl) (wCall0 b1.ct (b_cell_1 (g_cell Y)) (by omega) (by kernel_rfl) (Y.glo 39 rfl) (paV (wV b1.ct (by kernel_rfl)) pa_A0 rfl) rfl) (by kernel_rfl) rfl)
    pss_0) (pss_c (ps_If (tCmp b1.ct (wN b1.ct (by kernel_rfl)) (wX kI) rfl) (pss_c (sSet b1 (by kernel_rfl) (wCall b1.ct (as := []) (bs := [(.v (pV 0))]) (b_cell_0_name (g_cell Y)) (by omega) (by kernel_rfl) (Y.glo 39 rfl) pa_A0 (pkV (wV b1.ct (by kernel_rfl)) pk_A0) rfl) (by kernel_rfl) rfl)
    pss_0) (pss_c (ps_If (tCmp b1.ct (wN b1.ct (by kernel_rfl)) (wX kI) rfl) (pss_c (sSet b1 (by kernel_rfl) (wCall0 b1.ct (b_put_2 (g_put Y)) (by omega) (by kernel_rfl) (Y.glo 40 rfl) (paV (wV b1.ct (by kernel_rfl)) (paV kI pa_A0 rfl) rfl) rfl) (by kernel_rfl) rfl)
    pss_0) (pss_c (sSet b1 (by kernel_rfl) (wCall b1.ct (as := []) (bs := [(.v (pCall f_number [] [(.v (pC (.int 0)))] [.inl 0])), (.v (pV 0))]) (b_put_0_value_name (g_put Y)) (by omega) (by kernel_rfl) (Y.glo 40 rfl) pa_A0 (pkV (wCall0 b1.ct (b_number_1 (g_number Y)) (by omega) (by kernel_rfl) (Y.glo 34 rfl) (paV kI pa_A0 rfl) rfl) (pkV (wV b1.ct (by kernel_rfl)) pk_A0)) rfl) (by kernel_rfl) rfl)
    pss_0))
    pss_0))
    pss_0))
    pss_0)))
    (pss_c (ps_Ret (pe_IfE (tCmp c.ct (wN c.ct (by kernel_rfl)) (wX kN) rfl) (wV c.ct (by kernel_rfl)) (wProp c.ct (all_c ⟨18, _, _, by omega, b_Value_names_1 (g_Value_names Y), (Y.cls 8 rfl), Y.prop 44 rfl, rfl⟩ (all_c ⟨34, _, _, by omega, b_Step_names_1 (g_Step_names Y), (Y.cls 6 rfl), Y.prop 43 rfl, rfl⟩ all_0)) (wV c.ct (by kernel_rfl)) rfl)))
    pss_0)))
theorem g_law_caught (Y : FA P w K mg base) : GdF P w K Memo.no mg base d_law_caught ["text", "way"] [] 36 f_law_caught :=
  GdF.mkT Y 15 rfl (N := N_law_caught) ⟨rfl, rfl, rfl, by decide +kernel, rfl, by decide +kernel, by decide +kernel⟩ rfl (by decide) fun _ _ c => w_law_caught Y c
abbrev N_law_take : List Str := ["well", "many", "mixed", "taken"]
theorem w_law_take (Y : FA P w K mg base) {X : Cx} {W : WX} (c : Bd P w K mg base N_law_take d_law_take.scope 0 X W) : PSs X d_law_take.body (tF X.K Memo.no [0] W m_law_take) :=
  (pss_c (ps_If (tCmp c.ct (wX (wIx c.ct (wN c.ct (by kernel_rfl)) (wX kI) (fun _ _ => rfl))) (wX kI) rfl) (pss_c (sSet c (by kernel_rfl) (wOp c.ct (wX (wCT c.ct (by kernel_rfl) (Y.free 45 rfl) c_int (wOc (wX (wIx c.ct (wN c.ct (by kernel_rfl)) (wX kI) (fun _ _ => rfl))) wO0 rfl) rfl)) (wN c.ct (by kernel_rfl))) (by kernel_rfl) rfl)
    (pss_c (sPut c (by kernel_rfl) (wX kI) (wOp c.ct (wX (wIx c.ct (wN c.ct (by kernel_rfl)) (wX kI) (fun _ _ => rfl))) (wN c.ct (by kernel_rfl))) (fun _ => rfl) rfl rfl rfl)
    (pss_c (ps_Ret (wV c.ct (by kernel_rfl)))
    pss_0))) pss_0)
    (pss_c (sPut c (by kernel_rfl) (wX kI) (wOp c.ct (wX (wIx c.ct (wN c.ct (by kernel_rfl)) (wX kI) (fun _ _ => rfl))) (wX kI)) (fun _ => rfl) rfl rfl rfl)
    (pss_c (sSet c (by kernel_rfl) (wOp c.ct (wX (wOp c.ct (wX (wOp c.ct (wX (wIx c.ct (wN c.ct (by kernel_rfl)) (wX kI) (fun _ _ => rfl))) (wX (wOp c.ct (wX kI) (wX (wIx c.ct (wN c.ct (by kernel_rfl)) (wX kI) (fun _ _ => rfl))))))) (wX kI))) (wX (wOp c.ct (wX kI) (wX (wIx c.ct (wN c.ct (by kernel_rfl)) (wX kI) (fun _ _ => rfl)))))) (by kernel_rfl) rfl)
    (pss_c (sSet c (by kernel_rfl) (wOp c.ct (wX (wOp c.ct (wX (wCT c.ct (by kernel_rfl) (Y.free 45 rfl) c_int (wOc (wN c.ct (by kernel_rfl)) wO0 rfl) rfl)) (wX kI))) (wX (wOp c.ct (wX kI) (wX (wIx c.ct (wN c.ct (by kernel_rfl)) (wX kI) (fun _ _ => rfl)))))) (by kernel_rfl) rfl)
    (pss_c (sSet c (by kernel_rfl) (wOp c.ct (wX (wCT c.ct (by kernel_rfl) (Y.free 45 rfl) c_int (wOc (wX (wOp c.ct (wN c.ct (by kernel_rfl)) (wX kI))) wO0 rfl) rfl)) (wX kI)) (by kernel_rfl) rfl)
    (pss_c (ps_Ret (wOp c.ct (wX (wCT c.ct (by kernel_rfl) (Y.free 45 rfl) c_int (wOc (wX (wOp c.ct (wN c.ct (by kernel_rfl)) (wX kI))) wO0 rfl) rfl)) (wN c.ct (by kernel_rfl))))
    pss_0))))))
theorem g_law_take (Y : FA P w K mg base) : GdF P w K Memo.no mg base d_law_take ["well", "many"] [0] 1 f_law_take :=
  GdF.mk' Y 16 rfl (N := N_law_take) ⟨rfl, rfl, rfl, by decide +kernel, rfl, by decide +kernel, by decide +kernel⟩ rfl (by decide) fun _ _ c => w_law_take Y c
theorem b_law_take_2 {j : Nat} {ff : List D → Cr} (h : GdF P w K Memo.no mg base d_law_take ["well", "many"] [0] j ff) : FnB P w K Memo.no mg base j (d_law_take.at_ K) ff [0] 2 [] [.inl 0, .inl 1] :=
  h.b 2 [] [0, 1] rfl rfl fun _ _ _ _ _ _ us ws h1 h2 => match us, ws, h1, h2 with
    | [u0, u1], [], _, _ => ⟨[u0, u1], rfl, by kernel_rfl⟩
abbrev N_law_cells : List Str := ["well", "many", "letters", "way", "at", "base", "spot", "pace", "words", "k", "turn"]
theorem w_law_cells (Y : FA P w K mg base) {X : Cx} {W : WX} (c : Bd P w K mg base N_law_cells d_law_cells.scope 1 X W) : PSs X d_law_cells.body (tF X.K Memo.no [0] W m_law_cells) :=
  (pss_c (sSetTc c (pe_Tup (wLc kS (wLc (wCall0 c.ct (b_law_take_2 (g_law_take Y)) (by omega) (by kernel_rfl) (Y.glo 46 rfl) (paR (wN c.ct (by kernel_rfl)) (paV kI pa_A0 rfl) rfl) rfl) (wLc (wCall0 c.ct (b_law_take_2 (g_law_take Y)) (by omega) (by kernel_rfl) (Y.glo 46 rfl) (paR (wN c.ct (by kernel_rfl)) (paV kI pa_A0 rfl) rfl) rfl) wL0 rfl) rfl) rfl)) (wTc c.ct (by kernel_rfl) (.inl c.fn) (wTc c.ct (by kernel_rfl) (.inl c.fn) (wTc c.ct (by kernel_rfl) (.inl c.fn) wT0))) (by kernel_rfl) rfl rfl rfl (by kernel_rfl) rfl)
    (pss_c (ps_If (tCmp c.ct (wN c.ct (by kernel_rfl)) (wX kI) rfl) (pss_c (ps_Ret (wLcp c.ct [("k", 9)] (iRng1 c.ct (by kernel_rfl) (Y.free 47 rfl) (wOc (wN c.ct (by kernel_rfl)) wO0 rfl) rfl) (by kernel_rfl) rfl rfl (fun _ _ c1 => (wTn c1 (by kernel_rfl) (.inr (by kernel_rfl)))) (fun _ _ c1 => pts_0) (fun _ _ c1 => (wOp c1 (wX (wIx c1 (wN c1 (by kernel_rfl)) (wN c1 (by kernel_rfl)) (fun _ _ => rfl))) (wX (wOp c1 (wN c1 (by kernel_rfl)) (wX kI))))) (fun _ => rfl)))
    pss_0) pss_0)
    (pss_c (ps_If (tCmp c.ct (wN c.ct (by kernel_rfl)) (wX kI) rfl) (pss_c (sSet c (by kernel_rfl) (pe_Lst (wLc kS (wLc kS (wLc kS (wLc kS (wLc kS (wLc kS (wLc kS (wLc kS (wLc kS (wLc kS (wLc kS (wLc kS wL0 rfl) rfl) rfl) rfl) rfl) rfl) rfl) rfl) rfl) rfl) rfl) rfl)) (by kernel_rfl) rfl)
    (pss_c (ps_Ret (wLcp c.ct [("k", 9)] (iRng1 c.ct (by kernel_rfl) (Y.free 47 rfl) (wOc (wN c.ct (by kernel_rfl)) wO0 rfl) rfl) (by kernel_rfl) rfl rfl (fun _ _ c2 => (wTn c2 (by kernel_rfl) (.inr (by kernel_rfl)))) (fun _ _ c2 => pts_0) (fun _ _ c2 => (wIx c2 (wN c2 (by kernel_rfl)) (wX (wOp c2 (wX (wCT c2 (by kernel_rfl) (Y.free 45 rfl) c_int (wOc (wX (wOp c2 (wN c2 (by kernel_rfl)) (wN c2 (by kernel_rfl)))) wO0 rfl) rfl)) (wX kI))) (fun _ _ => rfl))) (fun _ => rfl)))
    pss_0)) pss_0)
    (pss_c (sSet c (by kernel_rfl) (pe_Join (wX (wLcp c.ct [("turn", 10)] (iRng1 c.ct (by kernel_rfl) (Y.free 47 rfl) (wOc (wX (wOp c.ct (wX kI) (wX (wCall0 c.ct (b_law_take_2 (g_law_take Y)) (by omega) (by kernel_rfl) (Y.glo 46 rfl) (paR (wN c.ct (by kernel_rfl)) (paV kI pa_A0 rfl) rfl) rfl)))) wO0 rfl) rfl) (by kernel_rfl) rfl rfl (fun _ _ c3 => (wTn c3 (by kernel_rfl) (.inr (by kernel_rfl)))) (fun _ _ c3 => pts_0) (fun _ _ c3 => (wIx c3 (wN c3 (by kernel_rfl)) (wX (wCall0 c3 (b_law_take_2 (g_law_take Y)) (by omega) (by kernel_rfl) (Y.glo 46 rfl) (paR (wN c3 (by kernel_rfl)) (paV kI pa_A0 rfl) rfl) rfl)) (fun _ _ => rfl))) (fun _ => rfl))) rfl rfl rfl) (by kernel_rfl) rfl)
    (pss_c (sSetTc c (pe_Tup (wLc (wCall0 c.ct (b_law_take_2 (g_law_take Y)) (by omega) (by kernel_rfl) (Y.glo 46 rfl) (paR (wN c.ct (by kernel_rfl)) (paV (wCB c.ct (by kernel_rfl) (Y.free 27 rfl) c_len (wOc (wN c.ct (by kernel_rfl)) wO0 rfl) rfl) pa_A0 rfl) rfl) rfl) (wLc (wIx c.ct (wX (pe_Lst (wLc kI (wLc kI (wLc kI (wLc kI (wLc kI wL0 rfl) rfl) rfl) rfl) rfl))) (wX (wCall0 c.ct (b_law_take_2 (g_law_take Y)) (by omega) (by kernel_rfl) (Y.glo 46 rfl) (paR (wN c.ct (by kernel_rfl)) (paV kI pa_A0 rfl) rfl) rfl)) (fun _ _ => rfl)) wL0 rfl) rfl)) (wTc c.ct (by kernel_rfl) (.inl c.fn) (wTc c.ct (by kernel_rfl) (.inl c.fn) wT0)) (by kernel_rfl) rfl rfl rfl (by kernel_rfl) rfl)
    (pss_c (ps_Ret (wLcp c.ct [("k", 9)] (iRng1 c.ct (by kernel_rfl) (Y.free 47 rfl) (wOc (wN c.ct (by kernel_rfl)) wO0 rfl) rfl) (by kernel_rfl) rfl rfl (fun _ _ c4 => (wTn c4 (by kernel_rfl) (.inr (by kernel_rfl)))) (fun _ _ c4 => pts_0) (fun _ _ c4 => (wOp c4 (wX (wOp c4 (wX (pe_Sl (wN c4 (by kernel_rfl)) po_0 (po_1 (wV c4 (by kernel_rfl))))) (wX (wIx c4 (wN c4 (by kernel_rfl)) (wX (wOp c4 (wX (wCT c4 (by kernel_rfl) (Y.free 45 rfl) c_int (wOc (wX (wOp c4 (wN c4 (by kernel_rfl)) (wX (wOp c4 (wN c4 (by kernel_rfl)) (wN c4 (by kernel_rfl)))))) wO0 rfl) rfl)) (wX kI))) (fun _ _ => rfl))))) (wX (pe_Sl (wN c4 (by kernel_rfl)) (po_1 (wOp c4 (wN c4 (by kernel_rfl)) (wX kI))) po_0)))) (fun _ => rfl)))
    pss_0))))))
theorem g_law_cells (Y : FA P w K mg base) : GdF P w K Memo.no mg base d_law_cells ["well", "many"] [0] 2 f_law_cells :=
  GdF.mk' Y 17 rfl (N := N_law_cells) ⟨rfl, rfl, rfl, by decide +kernel, rfl, by decide +kernel, by decide +kernel⟩ rfl (by decide) fun _ _ c => w_law_cells Y c
abbrev N_law_text : List Str := ["well", "signs", "text", "odd", "place", "turn"]
theorem w_law_text (Y : FA P w K mg base) {X : Cx} {W : WX} (c : Bd P w K mg base N_law_text d_law_text.scope 1 X W) : PSs X d_law_text.body (tF X.K Memo.no [0] W m_law_text) :=
  (pss_c (sSet c (by kernel_rfl) kS (by kernel_rfl) rfl)
    (pss_c (sSet c (by kernel_rfl) (pe_Join (wX (wLcp c.ct [("turn", 5)] (iRng1 c.ct (by kernel_rfl) (Y.free 47 rfl) (wOc (wX (wCall0 c.ct (b_law_take_2 (g_law_take Y)) (by omega) (by kernel_rfl) (Y.glo 46 rfl) (paR (wN c.ct (by kernel_rfl)) (paV (wIx c.ct (wX (pe_Lst (wLc kI (wLc kI wL0 rfl) rfl))) (wX (wCall0 c.ct (b_law_take_2 (g_law_take Y)) (by omega) (by kernel_rfl) (Y.glo 46 rfl) (paR (wN c.ct (by kernel_rfl)) (paV kI pa_A0 rfl) rfl) rfl)) (fun _ _ => rfl)) pa_A0 rfl) rfl) rfl)) wO0 rfl) rfl) (by kernel_rfl) rfl rfl (fun _ _ c1 => (wTn c1 (by kernel_rfl) (.inr (by kernel_rfl)))) (fun _ _ c1 => pts_0) (fun _ _ c1 => (wIx c1 (wN c1 (by kernel_rfl)) (wX (wCall0 c1 (b_law_take_2 (g_law_take Y)) (by omega) (by kernel_rfl) (Y.glo 46 rfl) (paR (wN c1 (by kernel_rfl)) (paV kI pa_A0 rfl) rfl) rfl)) (fun _ _ => rfl))) (fun _ => rfl))) rfl rfl rfl) (by kernel_rfl) rfl)
    (pss_c (ps_If (tCmp c.ct (wX (wCall0 c.ct (b_law_take_2 (g_law_take Y)) (by omega) (by kernel_rfl) (Y.glo 46 rfl) (paR (wN c.ct (by kernel_rfl)) (paV kI pa_A0 rfl) rfl) rfl)) (wX kI) rfl) (pss_c (ps_Ret (wV c.ct (by kernel_rfl)))
    pss_0) pss_0)
    (pss_c (sSet c (by kernel_rfl) (wIx c.ct (wX kS) (wX (wCall0 c.ct (b_law_take_2 (g_law_take Y)) (by omega) (by kernel_rfl) (Y.glo 46 rfl) (paR (wN c.ct (by kernel_rfl)) (paV kI pa_A0 rfl) rfl) rfl)) (fun _ _ => rfl)) (by kernel_rfl) rfl)
    (pss_c (sSet c (by kernel_rfl) (wCall0 c.ct (b_law_take_2 (g_law_take Y)) (by omega) (by kernel_rfl) (Y.glo 46 rfl) (paR (wN c.ct (by kernel_rfl)) (paV (wOp c.ct (wX (wCB c.ct (by kernel_rfl) (Y.free 27 rfl) c_len (wOc (wN c.ct (by kernel_rfl)) wO0 rfl) rfl)) (wX kI)) pa_A0 rfl) rfl) rfl) (by kernel_rfl) rfl)
    (pss_c (ps_Ret (wOp c.ct (wX (wOp c.ct (wX (pe_Sl (wN c.ct (by kernel_rfl)) po_0 (po_1 (wV c.ct (by kernel_rfl))))) (wN c.ct (by kernel_rfl)))) (wX (pe_Sl (wN c.ct (by kernel_rfl)) (po_1 (wOp c.ct (wN c.ct (by kernel_rfl)) (wX (wCall0 c.ct (b_law_take_2 (g_law_take Y)) (by omega) (by kernel_rfl) (Y.glo 46 rfl) (paR (wN c.ct (by kernel_rfl)) (paV kI pa_A0 rfl) rfl) rfl)))) po_0))))
    pss_0))))))
theorem g_law_text (Y : FA P w K mg base) : GdF P w K Memo.no mg base d_law_text ["well"] [0] 2 f_law_text :=
  GdF.mk' Y 18 rfl (N := N_law_text) ⟨rfl, rfl, rfl, by decide +kernel, rfl, by decide +kernel, by decide +kernel⟩ rfl (by decide) fun _ _ c => w_law_text Y c
theorem b_law_text_1 {j : Nat} {ff : List D → Cr} (h : GdF P w K Memo.no mg base d_law_text ["well"] [0] j ff) : FnB P w K Memo.no mg base j (d_law_text.at_ K) ff [0] 1 [] [.inl 0] :=
  h.b 1 [] [0] rfl rfl fun _ _ _ _ _ _ us ws h1 h2 => match us, ws, h1, h2 with
    | [u0], [], _, _ => ⟨[u0], rfl, by kernel_rfl⟩
theorem b_law_caught_2 {j : Nat} {ff : List D → Cr} (h : GdF P w K Memo.no mg base d_law_caught ["text", "way"] [] j ff) : FnB P w K Memo.no mg base j (d_law_caught.at_ K) ff [] 2 [] [.inl 0, .inl 1] :=
  h.b 2 [] [0, 1] rfl rfl fun _ _ _ _ _ _ us ws h1 h2 => match us, ws, h1, h2 with
    | [u0, u1], [], _, _ => ⟨[u0, u1], rfl, by kernel_rfl⟩
theorem b_law_cells_2 {j : Nat} {ff : List D → Cr} (h : GdF P w K Memo.no mg base d_law_cells ["well", "many"] [0] j ff) : FnB P w K Memo.no mg base j (d_law_cells.at_ K) ff [0] 2 [] [.inl 0, .inl 1] :=
  h.b 2 [] [0, 1] rfl rfl fun _ _ _ _ _ _ us ws h1 h2 => match us, ws, h1, h2 with
    | [u0, u1], [], _, _ => ⟨[u0, u1], rfl, by kernel_rfl⟩
abbrev N_law_fits : List Str := ["well", "turn", "row", "one", "two", "told", "alike", "text", "good", "want", "way", "sign"]
theorem w_law_fits (Y : FA P w K mg base) {X : Cx} {W : WX} (c : Bd P w K mg base N_law_fits d_law_fits.scope 36 X W) : PSs X d_law_fits.body (tF X.K Memo.no [0] W m_law_fits) :=
  (pss_c (sFor c (iRng1 c.ct (by kernel_rfl) (Y.free 47 rfl) (wOc (wX kI) wO0 rfl) rfl) (wTn c.ct (by kernel_rfl) (.inl c.fn)) (by kernel_rfl) (pss_c (sSet c (by kernel_rfl) (wCall0 c.ct (b_law_text_1 (g_law_text Y)) (by omega) (by kernel_rfl) (Y.glo 48 rfl) (paR (wN c.ct (by kernel_rfl)) pa_A0 rfl) rfl) (by kernel_rfl) rfl)
    (pss_c (sSet c (by kernel_rfl) (pe_And (wCh c.ct (wX kI) (wX (wCB c.ct (by kernel_rfl) (Y.free 27 rfl) c_len (wOc (wN c.ct (by kernel_rfl)) wO0 rfl) rfl)) (wX kI) rfl) (pe_one (wCmp c.ct (wX (wLcp c.ct [("sign", 11)] (pi_V (wV c.ct (by kernel_rfl))) (by kernel_rfl) rfl rfl (fun _ _ c1 => (wTn c1 (by kernel_rfl) (.inr (by kernel_rfl)))) (fun _ _ c1 => (pts_1 ((pw_Oc (tCmp c1 (wN c1 (by kernel_rfl)) (wX kS) rfl) (pw_O1 (tCmp c1 (wN c1 (by kernel_rfl)) (wX kS) rfl)))).pt)) (fun _ _ c1 => (wV c1 (by kernel_rfl))) (fun _ => rfl))) (wX (pe_Lst wL0)) rfl))) (by kernel_rfl) rfl)
    (pss_c (sSet c (by kernel_rfl) (pe_IfE (pt_Tr (wN c.ct (by kernel_rfl)) (fun _ => rfl)) (pe_Lst (wLc (wV c.ct (by kernel_rfl)) wL0 rfl)) (pe_Lst (wLc kB (wLc (wV c.ct (by kernel_rfl)) wL0 rfl) rfl))) (by kernel_rfl) rfl)
    (pss_c (ps_If (tCmp c.ct (wX (wLcp c.ct [("way", 10)] (iRng1 c.ct (by kernel_rfl) (Y.free 47 rfl) (wOc (wX kI) wO0 rfl) rfl) (by kernel_rfl) rfl rfl (fun _ _ c2 => (wTn c2 (by kernel_rfl) (.inr (by kernel_rfl)))) (fun _ _ c2 => (pts_1 (tCmp c2 (wX (wCB c2 (by kernel_rfl) (Y.free 50 rfl) (wReprB c2) (wOc (wX (wCall0 c2 (b_law_caught_2 (g_law_caught Y)) (by omega) (by kernel_rfl) (Y.glo 49 rfl) (paV (wV c2 (by kernel_rfl)) (paV (wV c2 (by kernel_rfl)) pa_A0 rfl) rfl) rfl)) wO0 rfl) rfl)) (wX (wCB c2 (by kernel_rfl) (Y.free 50 rfl) (wReprB c2) (wOc (wN c2 (by kernel_rfl)) wO0 rfl) rfl)) rfl))) (fun _ _ c2 => (wV c2 (by kernel_rfl))) (fun _ => rfl))) (wX (pe_Lst wL0)) rfl) (pss_c (ps_Ret kB)
    pss_0) pss_0)
    pss_0)))) (fun _ => rfl))
    (pss_c (sSet c (by kernel_rfl) (wCall0 c.ct (b_law_cells_2 (g_law_cells Y)) (by omega) (by kernel_rfl) (Y.glo 51 rfl) (paR (wN c.ct (by kernel_rfl)) (paV kI pa_A0 rfl) rfl) rfl) (by kernel_rfl) rfl)
    (pss_c (sPar2 c (by kernel_rfl) (by kernel_rfl) (by kernel_rfl) (by kernel_rfl) (paR (wX (wIx c.ct (wN c.ct (by kernel_rfl)) (wX (wCall0 c.ct (b_law_take_2 (g_law_take Y)) (by omega) (by kernel_rfl) (Y.glo 46 rfl) (paR (wN c.ct (by kernel_rfl)) (paV kI pa_A0 rfl) rfl) rfl)) (fun _ _ => rfl))) (paR (wX (wIx c.ct (wN c.ct (by kernel_rfl)) (wX (wCall0 c.ct (b_law_take_2 (g_law_take Y)) (by omega) (by kernel_rfl) (Y.glo 46 rfl) (paR (wN c.ct (by kernel_rfl)) (paV kI pa_A0 rfl) rfl) rfl)) (fun _ _ => rfl))) pa_A0 rfl) rfl) rfl (by kernel_rfl) rfl)
    (pss_c (sSet c (by kernel_rfl) (pe_Lst (wLc (wEq c.ct (all_c ⟨_, ⟨16, by omega, b_Value_eq_2 (g_Value_eq Y 8), rfl⟩, Y.eq 12 rfl⟩ (all_c ⟨_, ⟨16, by omega, b_Step_eq_2 (g_Step_eq Y 8), rfl⟩, Y.eq 11 rfl⟩ all_0)) (wCall0 c.ct (b_cell_1 (g_cell Y)) (by omega) (by kernel_rfl) (Y.glo 39 rfl) (paV (wV c.ct (by kernel_rfl)) pa_A0 rfl) rfl) (wCall0 c.ct (b_cell_1 (g_cell Y)) (by omega) (by kernel_rfl) (Y.glo 39 rfl) (paV (wV c.ct (by kernel_rfl)) pa_A0 rfl) rfl) rfl) (wLc (wNe c.ct (all_c ⟨_, ⟨16, by omega, b_Value_eq_2 (g_Value_eq Y 8), rfl⟩, Y.eq 12 rfl, Y.ne 19 rfl⟩ (all_c ⟨_, ⟨16, by omega, b_Step_eq_2 (g_Step_eq Y 8), rfl⟩, Y.eq 11 rfl, Y.ne 18 rfl⟩ all_0)) (wCall0 c.ct (b_cell_1 (g_cell Y)) (by omega) (by kernel_rfl) (Y.glo 39 rfl) (paV (wV c.ct (by kernel_rfl)) pa_A0 rfl) rfl) (wCall0 c.ct (b_cell_1 (g_cell Y)) (by omega) (by kernel_rfl) (Y.glo 39 rfl) (paV (wV c.ct (by kernel_rfl)) pa_A0 rfl) rfl) rfl) (wLc (wEq c.ct (all_c ⟨_, ⟨16, by omega, b_Value_eq_2 (g_Value_eq Y 8), rfl⟩, Y.eq 12 rfl⟩ (all_c ⟨_, ⟨16, by omega, b_Step_eq_2 (g_Step_eq Y 8), rfl⟩, Y.eq 11 rfl⟩ all_0)) (wCall0 c.ct (b_put_2 (g_put Y)) (by omega) (by kernel_rfl) (Y.glo 40 rfl) (paV (wV c.ct (by kernel_rfl)) (paV kI pa_A0 rfl) rfl) rfl) (wCall0 c.ct (b_put_2 (g_put Y)) (by omega) (by kernel_rfl) (Y.glo 40 rfl) (paV (wV c.ct (by kernel_rfl)) (paV kI pa_A0 rfl) rfl) rfl) rfl) (wLc (wNe c.ct (all_c ⟨_, ⟨16, by omega, b_Value_eq_2 (g_Value_eq Y 8), rfl⟩, Y.eq 12 rfl, Y.ne 19 rfl⟩ (all_c ⟨_, ⟨16, by omega, b_Step_eq_2 (g_Step_eq Y 8), rfl⟩, Y.eq 11 rfl, Y.ne 18 rfl⟩ all_0)) (wCall0 c.ct (b_put_2 (g_put Y)) (by omega) (by kernel_rfl) (Y.glo 40 rfl) (paV (wV c.ct (by kernel_rfl)) (paV kI pa_A0 rfl) rfl) rfl) (wCall0 c.ct (b_put_2 (g_put Y)) (by omega) (by kernel_rfl) (Y.glo 40 rfl) (paV (wV c.ct (by kernel_rfl)) (paV kI pa_A0 rfl) rfl) rfl) rfl) wL0 rfl) rfl) rfl) rfl)) (by kernel_rfl) rfl)
    (pss_c (sSet c (by kernel_rfl) (wCmp c.ct (wN c.ct (by kernel_rfl)) (wN c.ct (by kernel_rfl)) rfl) (by kernel_rfl) rfl)
    (pss_c (ps_Ret (wCmp c.ct (wX (wCB c.ct (by kernel_rfl) (Y.free 50 rfl) (wReprB c.ct) (wOc (wX (wOp c.ct (wN c.ct (by kernel_rfl)) (wX (pe_Lst (wLc (wProp c.ct (all_c ⟨18, _, _, by omega, b_Value_names_1 (g_Value_names Y), (Y.cls 8 rfl), Y.prop 44 rfl, rfl⟩ (all_c ⟨34, _, _, by omega, b_Step_names_1 (g_Step_names Y), (Y.cls 6 rfl), Y.prop 43 rfl, rfl⟩ all_0)) (wCall0 c.ct (b_cell_1 (g_cell Y)) (by omega) (by kernel_rfl) (Y.glo 39 rfl) (paV (wV c.ct (by kernel_rfl)) pa_A0 rfl) rfl) rfl) wL0 rfl))))) wO0 rfl) rfl)) (wX (wCB c.ct (by kernel_rfl) (Y.free 50 rfl) (wReprB c.ct) (wOc (wX (pe_Lst (wLc (wV c.ct (by kernel_rfl)) (wLc (pe_Not (wN c.ct (by kernel_rfl))) (wLc (wV c.ct (by kernel_rfl)) (wLc (pe_Not (wN c.ct (by kernel_rfl))) (wLc (pe_Lst (wLc (wV c.ct (by kernel_rfl)) wL0 rfl)) wL0 rfl) rfl) rfl) rfl) rfl))) wO0 rfl) rfl)) rfl))
    pss_0))))))
theorem g_law_fits (Y : FA P w K mg base) : GdF P w K Memo.no mg base d_law_fits ["well"] [0] 37 f_law_fits :=
  GdF.mk' Y 19 rfl (N := N_law_fits) ⟨rfl, rfl, rfl, by decide +kernel, rfl, by decide +kernel, by decide +kernel⟩ rfl (by decide) fun _ _ c => w_law_fits Y c
abbrev N_law_well : List Str := ["script", "place", "figure", "seed"]
theorem w_law_well (Y : FA P w K mg base) {X : Cx} {W : WX} (c : Bd P w K mg base N_law_well d_law_well.scope 0 X W) : PSs X d_law_well.body (tF X.K Memo.no [] W m_law_well) :=
  (pss_c (sSet c (by kernel_rfl) kI (by kernel_rfl) rfl)
    (pss_c (ps_If (tCmp c.ct (wN c.ct (by kernel_rfl)) (wX (wCB c.ct (by kernel_rfl) (Y.free 27 rfl) c_len (wOc (wN c.ct (by kernel_rfl)) wO0 rfl) rfl)) rfl) (pss_c (sSet c (by kernel_rfl) (wIx c.ct (wN c.ct (by kernel_rfl)) (wN c.ct (by kernel_rfl)) (fun _ _ => rfl)) (by kernel_rfl) rfl)
    pss_0) pss_0)
    (pss_c (sSet c (by kernel_rfl) (wOp c.ct (wX (wCT c.ct (by kernel_rfl) (Y.free 45 rfl) c_int (wOc (wX (wOp c.ct (wX (wOp c.ct (wX (wCB c.ct (by kernel_rfl) (Y.free 52 rfl) c_abs (wOc (wN c.ct (by kernel_rfl)) wO0 rfl) rfl)) (wX kI))) (wX (wCT c.ct (by kernel_rfl) (Y.free 45 rfl) c_int (wOc (wX (wCmp c.ct (wN c.ct (by kernel_rfl)) (wX kI) rfl)) wO0 rfl) rfl)))) wO0 rfl) rfl)) (wX kI)) (by kernel_rfl) rfl)
    (pss_c (ps_Ret (pe_Lst (wLc (wOp c.ct (wN c.ct (by kernel_rfl)) (wX (wCT c.ct (by kernel_rfl) (Y.free 45 rfl) c_int (wOc (wX (wCmp c.ct (wN c.ct (by kernel_rfl)) (wX (wOp c.ct (wX kI) (wX kI))) rfl)) wO0 rfl) rfl))) (wLc (wOp c.ct (wN c.ct (by kernel_rfl)) (wX (wOp c.ct (wX kI) (wN c.ct (by kernel_rfl))))) (wLc kI wL0 rfl) rfl) rfl)))
    pss_0))))
theorem g_law_well (Y : FA P w K mg base) : GdF P w K Memo.no mg base d_law_well ["script", "place"] [] 1 f_law_well :=
  GdF.mk' Y 20 rfl (N := N_law_well) ⟨rfl, rfl, rfl, by decide +kernel, rfl, by decide +kernel, by decide +kernel⟩ rfl (by decide) fun _ _ c => w_law_well Y c
theorem b_law_well_2 {j : Nat} {ff : List D → Cr} (h : GdF P w K Memo.no mg base d_law_well ["script", "place"] [] j ff) : FnB P w K Memo.no mg base j (d_law_well.at_ K) ff [] 2 [] [.inl 0, .inl 1] :=
  h.b 2 [] [0, 1] rfl rfl fun _ _ _ _ _ _ us ws h1 h2 => match us, ws, h1, h2 with
    | [u0, u1], [], _, _ => ⟨[u0, u1], rfl, by kernel_rfl⟩
theorem b_law_fits_1 {j : Nat} {ff : List D → Cr} (h : GdF P w K Memo.no mg base d_law_fits ["well"] [0] j ff) : FnB P w K Memo.no mg base j (d_law_fits.at_ K) ff [0] 1 [] [.inl 0] :=
  h.b 1 [] [0] rfl rfl fun _ _ _ _ _ _ us ws h1 h2 => match us, ws, h1, h2 with
    | [u0], [], _, _ => ⟨[u0], rfl, by kernel_rfl⟩
abbrev N_law : List Str := ["script", "place", "well", "turn"]
theorem w_law (Y : FA P w K mg base) {X : Cx} {W : WX} (c : Bd P w K mg base N_law d_law.scope 37 X W) : PSs X d_law.body (tF X.K Memo.no [] W m_law) :=
  (pss_c (sFor c (iRng1 c.ct (by kernel_rfl) (Y.free 47 rfl) (wOc (wX (wCB c.ct (by kernel_rfl) (Y.free 54 rfl) (c_max c.ct.calm) (wOc (wX kI) (wOc (wX (wCB c.ct (by kernel_rfl) (Y.free 53 rfl) (c_min c.ct.calm) (wOc (wX kI) (wOc (wX (wCB c.ct (by kernel_rfl) (Y.free 27 rfl) c_len (wOc (wN c.ct (by kernel_rfl)) wO0 rfl) rfl)) wO0 rfl) rfl) rfl)) wO0 rfl) rfl) rfl)) wO0 rfl) rfl) (wTn c.ct (by kernel_rfl) (.inl c.fn)) (by kernel_rfl) (pss_c (sSet c (by kernel_rfl) (wCall0 c.ct (b_law_well_2 (g_law_well Y)) (by omega) (by kernel_rfl) (Y.glo 55 rfl) (paV (wV c.ct (by kernel_rfl)) (paV (wV c.ct (by kernel_rfl)) pa_A0 rfl) rfl) rfl) (by kernel_rfl) rfl)
    (pss_c (sFor c (iRng1 c.ct (by kernel_rfl) (Y.free 47 rfl) (wOc (wX kI) wO0 rfl) rfl) (wTn c.ct (by kernel_rfl) (.inl c.fn)) (by kernel_rfl) (pss_c (ps_If (pt_not' (pt_Tr (wX (wCall0 c.ct (b_law_fits_1 (g_law_fits Y)) (by omega) (by kernel_rfl) (Y.glo 56 rfl) (paR (wN c.ct (by kernel_rfl)) pa_A0 rfl) rfl)) (fun _ => rfl))) (pss_c (ps_Ret kB)
    pss_0) pss_0)
    pss_0) (fun _ => rfl))
    pss_0)) (fun _ => rfl))
    (pss_c (ps_Ret kB)
    pss_0))
theorem g_law (Y : FA P w K mg base) : GdF P w K Memo.no mg base d_law ["script"] [] 38 f_law :=
  GdF.mk' Y 21 rfl (N := N_law) ⟨rfl, rfl, rfl, by decide +kernel, rfl, by decide +kernel, by decide +kernel⟩ rfl (by decide) fun _ _ c => w_law Y c
end
def lawlev : Nat := 38
end A02

set_option Elab.async false
set_option linter.all false
set_option maxRecDepth 100000
set_option maxHeartbeats 0
namespace A02
open PI PySem PySem.Spec PyProof.Rows L2
abbrev R : PySem.W.OpenRow := PySem.W.OpenLaw.row PySem.Challenge.rw_anyworker_k02_names_of_cells
abbrev hk : PySem.W.Hook := hookP 5 fc fn
def ob (s : PySem.W.SharedT) : He.AlD := obsPG 5 fc fn (HandSHeadRun.getT s)
theorem ob_eq (s : PySem.W.SharedT) : ob s = hk.obs s.abs := obsPG_eq (HandSHeadRun.getT_eq s)
def loose0 : List PySem.Str := ["_wall", "WorkError", "InvalidName", "UnknownName", "InvalidDivisor", "LETTERS", "is_name", "check_name", "check_divisor", "cell", "number", "value_of", "parts_of", "names_in", "paired", "worth_of", "Value", "put", "names_of_step", "Step", "_law_well", "_law_take", "_law_cells", "_law_caught"]
def loose1 : List PySem.Str := ["_law_text", "_law_fits"]
def loose : List PySem.Str := loose0 ++ loose1
theorem run (w : World) : HandSHeadRun.RunEq R (PySem.W.view R.prog [29]) hk ob 12000 loose w := by
  intro os
  kernel_rfl
end A02

set_option Elab.async false
set_option linter.all false
set_option maxRecDepth 100000
set_option maxHeartbeats 0
open PySem PySem.W PySem.Calls PyProof.Rows
theorem PySem.Challenge.cw_anyworker_k02_names_of_cells_holds : PySem.Challenge.rw_anyworker_k02_names_of_cells.Holds := by
  w_on; o_law
  refine HandSHeadRun.head_any (r := OpenLaw.row PySem.Challenge.rw_anyworker_k02_names_of_cells) (q := view (OpenLaw.row PySem.Challenge.rw_anyworker_k02_names_of_cells).prog [29]) (H := A02.hk) (ob := A02.ob) (M := 12000) (loose := A02.loose) (d := HandSHeadRun.topDef (OpenLaw.row PySem.Challenge.rw_anyworker_k02_names_of_cells).prog 29) (kwd := []) A02.ob_eq
    (by kernel_rfl) (fun s => by kernel_rfl) A02.run (by kernel_rfl) (by kernel_rfl) (by kernel_rfl) (by rfl) (by first | assumption | decide +kernel) (by decide +kernel) ⟨rfl, rfl, rfl, rfl, rfl, by decide +kernel⟩ ?hw ?hc
  case hw => w_witness2
  case hc =>
    refine PI.walkG (l := PySem.Challenge.rw_anyworker_k02_names_of_cells) (n := 63) (k := A02.lawlev) (x := "script") (M := PI.Memo.no) (ff := A02.f_law) (fun _ => trivial) rfl (by decide) (by kernel_rfl) ⟨rfl, by decide, by decide⟩ ?F A02.law_ok
    intro w mg fa h Y G hmg0
    obtain ⟨K, KX, c⟩ := Y
    have hmg : mg ("law" : PySem.Str) = some (.ref fa) := by
      have e : (HandSHeadRun.topDef (OpenLaw.row PySem.Challenge.rw_anyworker_k02_names_of_cells).prog 29).name = ("law" : PySem.Str) := by kernel_rfl
      rw [← e]
      exact hmg0
    have Y : ∀ base, A02.FA PySem.Challenge.rw_anyworker_k02_names_of_cells.prog w K mg base := fun base => ⟨⟨h, KX, G⟩, c⟩
    have ea : A02.d_law.at_ K = fa := by
      have g := (Y h).glo (x := "law") 57 rfl
      rw [hmg] at g
      cases g
      rfl
    obtain ⟨fd, hb, hF⟩ := PI.lawFd h (fun base => A02.g_law (Y base)) ea rfl (fun _ _ _ _ _ _ _ => by kernel_rfl)
    exact ⟨K, fd, KX, hb, fun base _ _ => hF base⟩
