import PyProof.Rows.All
import Wide.All
import OpenK.AllK
import Wide.FinOn
import KE.KStateDown
import HandS.ForMost
import HandS.ForExc
import HandS.Defaults
import HandS.HeadHook1
import HandS.HeadHook2
import HandS.HeadHook3
import HandS.HeadHook4
import HandS.HeadWalk
import HandS.More
import HandS.Deep
import HandS.TupSets
import HandS.DictTup
import HandS.SortKw
import HandS.SetKeys
import HandS.DictComp
import HandS.NoneIn
import HandS.CallSlots
import HandS.TryMany
import HandS.IsInst
import HandS.Lambda
import HandS.Small
import HandS.TupLen
import HandS.SortInts
import HandS.Conv
import KE.KDictDisplayH
import HandS.TupAny
import HandS.SetFor
import Lean
import HandS.Head0
import HandS.Head1
import HandS.Head2
import HandS.HeadEnd
import PySem.Challenge.RW_boxharbour_k87_whole_latest
set_option Elab.async false
set_option linter.all false
set_option maxRecDepth 100000
set_option maxHeartbeats 0
/-! Vl1: data, what represents them, the state, the judgements. -/
namespace VL
open PySem PySem.Spec PyProof.Rows L2

/-! ### data -/
inductive D where
  | non | bl (b : Bool) | int (i : Int) | str (x : Str)
  | tup (xs : List D) | lst (xs : List D) | lsx (xs : List D)
  | dct (t : Bool) (ks vs : List D)
  | obj (c : Str) (ns : List Str) (vs : List D)
deriving Inhabited

def keyD : Key → D
  | .inl i => .int i
  | .inr x => .str x
/-- what stands at a dict's address: t: its keys are tuples -/
def DctAt (H : Hp) (a : Addr) (t : Bool) (ks : List D) (xs : List V) : Prop :=
  (t = false ∧ ∃ kvs : List (Key × V), Rd H a (.dK kvs) ∧ kvs.map (fun p => keyD p.1) = ks ∧ kvs.map (·.2) = xs) ∨
  (t = true ∧ ∃ kvs : List (List Key × V), Rd H a (.dT kvs) ∧ kvs.map (fun p => D.tup (p.1.map keyD)) = ks ∧ kvs.map (·.2) = xs)

mutual
/-- the value v stands for d, by what G holds -/
def Sh (K : PySem.W.Frag) (G : Hp) : D → V → Prop
  | .non, v => v = .non
  | .bl b, v => v = .bl b
  | .int i, v => v = .int i
  | .str x, v => v = .str x
  | .tup ds, v => ∃ a xs, v = .ref a ∧ G a = some (.tup xs) ∧ ShL K G ds xs
  | .lst ds, v => ∃ a xs, v = .ref a ∧ G a = some (.lst xs) ∧ ShL K G ds xs
  | .lsx ds, v => ∃ a xs, v = .ref a ∧ SqL K G a xs ∧ ShL K G ds xs
  | .dct t ks ds, v => ∃ a xs, v = .ref a ∧ DctAt G a t ks xs ∧ ShL K G ds xs
  | .obj c ns ds, v => ∃ a dx fs, v = .ref a ∧ G a = some (.ins (He.ga K c) dx fs) ∧ fs.map (·.1) = ns ∧ ShL K G ds (fs.map (·.2))
def ShL (K : PySem.W.Frag) (G : Hp) : List D → List V → Prop
  | [], vs => vs = []
  | d :: ds, vs => ∃ v r, vs = v :: r ∧ Sh K G d v ∧ ShL K G ds r
end

/-! ### what G holds stands in H (a dict may be locked while it is walked) -/
def isD : HO → Prop
  | .dK _ => True
  | .dT _ => True
  | _ => False
def In (G H : Hp) : Prop := ∀ a o, G a = some o → H a = some o ∨ (isD o ∧ ∃ ob, H a = some (.frz ob o))
theorem In.refl (H : Hp) : In H H := fun _ _ h => .inl h
theorem In.of {G H : Hp} (h : Same G H) : In G H := fun a o e => .inl (h a o e)
theorem In.pre {G G' H : Hp} (h : Same G G') (i : In G' H) : In G H := fun a o e => i a o (h a o e)
theorem In.post {G H H' : Hp} (i : In G H) (h : ∀ a o, G a ≠ none → H a = some o → H' a = some o) : In G H' := fun a o e => by
  have ne : G a ≠ none := by rw [e]; simp
  rcases i a o e with z | ⟨d, ob, z⟩
  · exact .inl (h a o ne z)
  · exact .inr ⟨d, ob, h a _ ne z⟩
theorem In.rdL {G H : Hp} (i : In G H) {a : Addr} {xs : List V} (h : Rd G a (.lst xs)) : Rd H a (.lst xs) := by
  rcases h with h | ⟨o, h⟩
  · rcases i _ _ h with z | ⟨d, _⟩
    · exact .inl z
    · exact d.elim
  · rcases i _ _ h with z | ⟨d, _⟩
    · exact .inr ⟨o, z⟩
    · exact d.elim
theorem In.rdT {G H : Hp} (i : In G H) {a : Addr} {xs : List V} (h : Rd G a (.tup xs)) : Rd H a (.tup xs) := by
  rcases h with h | ⟨o, h⟩
  · rcases i _ _ h with z | ⟨d, _⟩
    · exact .inl z
    · exact d.elim
  · rcases i _ _ h with z | ⟨d, _⟩
    · exact .inr ⟨o, z⟩
    · exact d.elim
theorem In.rdK {G H : Hp} (i : In G H) {a : Addr} {xs : List (Key × V)} (h : Rd G a (.dK xs)) : Rd H a (.dK xs) := by
  rcases h with h | ⟨o, h⟩
  · rcases i _ _ h with z | ⟨d, ob, z⟩
    · exact .inl z
    · exact .inr ⟨ob, z⟩
  · rcases i _ _ h with z | ⟨d, _⟩
    · exact .inr ⟨o, z⟩
    · exact d.elim
theorem In.rdDT {G H : Hp} (i : In G H) {a : Addr} {xs : List (List Key × V)} (h : Rd G a (.dT xs)) : Rd H a (.dT xs) := by
  rcases h with h | ⟨o, h⟩
  · rcases i _ _ h with z | ⟨d, ob, z⟩
    · exact .inl z
    · exact .inr ⟨ob, z⟩
  · rcases i _ _ h with z | ⟨d, _⟩
    · exact .inr ⟨o, z⟩
    · exact d.elim
theorem In.sqL {K : PySem.W.Frag} {G H : Hp} (i : In G H) {a : Addr} {xs : List V} (h : SqL K G a xs) : SqL K H a xs := h.imp i.rdL id
theorem In.sqT {K : PySem.W.Frag} {G H : Hp} (i : In G H) {a : Addr} {xs : List V} (h : SqT K G a xs) : SqT K H a xs := h.imp i.rdT id
theorem In.tup {G H : Hp} (i : In G H) {a : Addr} {xs : List V} (h : G a = some (.tup xs)) : H a = some (.tup xs) := by
  rcases i a _ h with z | ⟨d, _⟩
  · exact z
  · exact d.elim
theorem In.lst {G H : Hp} (i : In G H) {a : Addr} {xs : List V} (h : G a = some (.lst xs)) : H a = some (.lst xs) := by
  rcases i a _ h with z | ⟨d, _⟩
  · exact z
  · exact d.elim
theorem In.dct {G H : Hp} (i : In G H) {a : Addr} {t : Bool} {ks : List D} {xs : List V} (h : DctAt G a t ks xs) : DctAt H a t ks xs := by
  rcases h with ⟨e, kvs, h, k⟩ | ⟨e, kvs, h, k⟩
  · exact .inl ⟨e, kvs, i.rdK h, k⟩
  · exact .inr ⟨e, kvs, i.rdDT h, k⟩
mutual
theorem Sh.mono {K : PySem.W.Frag} {G H : Hp} (i : In G H) : ∀ (d : D) (v : V), Sh K G d v → Sh K H d v
  | .non, _, h => by unfold Sh at h ⊢; exact h
  | .bl _, _, h => by unfold Sh at h ⊢; exact h
  | .int _, _, h => by unfold Sh at h ⊢; exact h
  | .str _, _, h => by unfold Sh at h ⊢; exact h
  | .tup ds, _, h => by
    unfold Sh at h ⊢
    obtain ⟨a, xs, e, q, r⟩ := h
    exact ⟨a, xs, e, i.tup q, ShL.mono i ds xs r⟩
  | .lst ds, _, h => by
    unfold Sh at h ⊢
    obtain ⟨a, xs, e, q, r⟩ := h
    exact ⟨a, xs, e, i.lst q, ShL.mono i ds xs r⟩
  | .lsx ds, _, h => by
    unfold Sh at h ⊢
    obtain ⟨a, xs, e, q, r⟩ := h
    exact ⟨a, xs, e, i.sqL q, ShL.mono i ds xs r⟩
  | .dct t ks ds, _, h => by
    unfold Sh at h ⊢
    obtain ⟨a, xs, e, q, r⟩ := h
    exact ⟨a, xs, e, i.dct q, ShL.mono i ds xs r⟩
  | .obj c ns ds, _, h => by
    unfold Sh at h ⊢
    obtain ⟨a, dx, fs, e, q, e2, r⟩ := h
    refine ⟨a, dx, fs, e, ?_, e2, ShL.mono i ds _ r⟩
    rcases i _ _ q with z | ⟨z, _⟩
    · exact z
    · exact z.elim
theorem ShL.mono {K : PySem.W.Frag} {G H : Hp} (i : In G H) : ∀ (ds : List D) (vs : List V), ShL K G ds vs → ShL K H ds vs
  | [], _, h => by unfold ShL at h ⊢; exact h
  | d :: ds, _, h => by
    unfold ShL at h ⊢
    obtain ⟨v, r, e, h1, h2⟩ := h
    exact ⟨v, r, e, Sh.mono i d v h1, ShL.mono i ds r h2⟩
end

/-! ### lists of data -/
section
variable {K : PySem.W.Frag} {G H : Hp}
theorem ShL.nil : ShL K G [] [] := by unfold ShL; rfl
theorem ShL.cons {d : D} {v : V} {ds : List D} {vs : List V} (h : Sh K G d v) (t : ShL K G ds vs) : ShL K G (d :: ds) (v :: vs) := by unfold ShL; exact ⟨v, vs, rfl, h, t⟩
theorem ShL.nil_inv {vs : List V} (h : ShL K G [] vs) : vs = [] := by unfold ShL at h; exact h
theorem ShL.cons_inv {d : D} {ds : List D} {vs : List V} (h : ShL K G (d :: ds) vs) : ∃ v r, vs = v :: r ∧ Sh K G d v ∧ ShL K G ds r := by unfold ShL at h; exact h
theorem ShL.length : ∀ {ds : List D} {vs : List V}, ShL K G ds vs → vs.length = ds.length
  | [], _, h => by rw [h.nil_inv]; rfl
  | d :: ds, _, h => by
    obtain ⟨v, r, rfl, _, h2⟩ := h.cons_inv
    rw [List.length_cons, List.length_cons, h2.length]
theorem ShL.app : ∀ {ds es : List D} {vs ws : List V}, ShL K G ds vs → ShL K G es ws → ShL K G (ds ++ es) (vs ++ ws)
  | [], _, _, _, h, t => by rw [h.nil_inv]; exact t
  | d :: ds, _, _, _, h, t => by
    obtain ⟨v, r, rfl, h1, h2⟩ := h.cons_inv
    exact ShL.cons h1 (h2.app t)
theorem ShL.get : ∀ {ds : List D} {vs : List V} {i : Nat} {d : D}, ShL K G ds vs → ds[i]? = some d → ∃ v, vs[i]? = some v ∧ Sh K G d v
  | [], _, _, _, _, e => by simp at e
  | d :: ds, _, 0, _, h, e => by
    obtain ⟨v, r, rfl, h1, h2⟩ := h.cons_inv
    simp at e; subst e
    exact ⟨v, rfl, h1⟩
  | d :: ds, _, i + 1, _, h, e => by
    obtain ⟨v, r, rfl, h1, h2⟩ := h.cons_inv
    obtain ⟨w, e1, e2⟩ := h2.get (i := i) (by simpa using e)
    exact ⟨w, by simpa using e1, e2⟩
theorem ShL.get' : ∀ {ds : List D} {vs : List V} {i : Nat} {v : V}, ShL K G ds vs → vs[i]? = some v → ∃ d, ds[i]? = some d ∧ Sh K G d v
  | [], _, _, _, h, e => by rw [h.nil_inv] at e; simp at e
  | d :: ds, _, 0, _, h, e => by
    obtain ⟨v, r, rfl, h1, h2⟩ := h.cons_inv
    simp at e; subst e
    exact ⟨d, rfl, h1⟩
  | d :: ds, _, i + 1, _, h, e => by
    obtain ⟨v, r, rfl, h1, h2⟩ := h.cons_inv
    obtain ⟨w, e1, e2⟩ := h2.get' (i := i) (by simpa using e)
    exact ⟨w, by simpa using e1, e2⟩
theorem ShL.set : ∀ {ds : List D} {vs : List V} (i : Nat) {d : D} {v : V}, ShL K G ds vs → Sh K G d v → ShL K G (ds.set i d) (vs.set i v)
  | [], _, _, _, _, h, _ => by rw [h.nil_inv]; exact ShL.nil
  | d :: ds, _, 0, _, _, h, q => by
    obtain ⟨v, r, rfl, h1, h2⟩ := h.cons_inv
    exact ShL.cons q h2
  | d :: ds, _, i + 1, _, _, h, q => by
    obtain ⟨v, r, rfl, h1, h2⟩ := h.cons_inv
    exact ShL.cons h1 (h2.set i q)
theorem ShL.take : ∀ {ds : List D} {vs : List V} (i : Nat), ShL K G ds vs → ShL K G (ds.take i) (vs.take i)
  | _, _, 0, _ => by simp only [List.take_zero]; exact ShL.nil
  | [], _, _ + 1, h => by rw [h.nil_inv]; exact ShL.nil
  | d :: ds, _, i + 1, h => by
    obtain ⟨v, r, rfl, h1, h2⟩ := h.cons_inv
    exact ShL.cons h1 (h2.take i)
theorem ShL.drop : ∀ {ds : List D} {vs : List V} (i : Nat), ShL K G ds vs → ShL K G (ds.drop i) (vs.drop i)
  | _, _, 0, h => h
  | [], _, _ + 1, h => by rw [h.nil_inv]; exact ShL.nil
  | d :: ds, _, i + 1, h => by
    obtain ⟨v, r, rfl, h1, h2⟩ := h.cons_inv
    exact h2.drop i
end
end VL
/-! Vl2: owned data, the state, the steps, the judgements. -/
namespace VL
open PySem PySem.Spec PyProof.Rows L2

abbrev St := L2.St
/-! ### owned data: its own objects stand outside G -/
def OwL (R : D → V → List Addr → Prop) : List D → List V → List Addr → Prop
  | [], vs, fp => vs = [] ∧ fp = []
  | d :: ds, vs, fp => ∃ v r f g, vs = v :: r ∧ fp = f ++ g ∧ R d v f ∧ OwL R ds r g
def Ow (K : PySem.W.Frag) (G H : Hp) : Nat → D → V → List Addr → Prop
  | 0, d, v, fp => Sh K G d v ∧ fp = []
  | k + 1, .lst ds, v, fp => ∃ a xs f, v = .ref a ∧ H a = some (.lst xs) ∧ OwL (Ow K G H k) ds xs f ∧ fp = a :: f
  | k + 1, .dct t ks ds, v, fp => ∃ a xs f, v = .ref a ∧ (∃ o, H a = some o ∧ isD o) ∧ DctAt H a t ks xs ∧ OwL (Ow K G H k) ds xs f ∧ fp = a :: f
  | k + 1, .obj c ns ds, v, fp => ∃ a dx fs f, v = .ref a ∧ H a = some (.ins (He.ga K c) dx fs) ∧ fs.map (·.1) = ns ∧ OwL (Ow K G H k) ds (fs.map (·.2)) f ∧ fp = a :: f
  | _ + 1, d, v, fp => Sh K G d v ∧ fp = []

inductive SV where
  | un | sh (d : D) | ow (k : Nat) (d : D) | io (k : Nat) (d : D)
  | tb (P : Addr) (q : Str)
deriving Inhabited
abbrev Env := List SV
/-- one slot: o what the frame holds there -/
def Slot1 (K : PySem.W.Frag) (G H : Hp) : SV → Option V → List Addr → Prop
  | .un, _, fp => fp = []
  | .sh d, o, fp => ∃ v, o = some v ∧ Sh K G d v ∧ fp = []
  | .ow k d, o, fp => ∃ v, o = some v ∧ Ow K G H (k + 1) d v fp
  | .io k d, o, fp => ∃ v, o = some v ∧ Ow K G H (k + 1) d v fp
  | .tb P q, o, fp => o = none ∧ fp = [P] ∧ ∃ ps, H P = some (.tbl ps) ∧ TriplesOk ps.toList ∧ ∀ (pos : Pos) (cv : Value), codeAmong pos ps.toList = some cv → ∃ c, cv = .ref c ∧ G c = some (LamX.CodeO c q)
def Slots (K : PySem.W.Frag) (G H : Hp) : Env → St → List Addr → Prop
  | [], σ, fp => σ = [] ∧ fp = []
  | s :: env, σ, fp => ∃ o r f g, σ = o :: r ∧ fp = f ++ g ∧ Slot1 K G H s o f ∧ Slots K G H env r g
/-- the state: G is shared for good, fp are the objects that the slots own -/
structure Rl (K : PySem.W.Frag) (G : Hp) (σ : St) (H : Hp) (env : Env) (fp : List Addr) : Prop where
  gin : In G H
  sl : Slots K G H env σ fp
  nd : fp.Nodup
  out : ∀ a ∈ fp, G a = none
/-- may join what is shared: new, or a tuple -/
def Fr (H : Hp) (a : Addr) : Prop := H a = none ∨ ∃ xs, H a = some (.tup xs)
/-- what a piece of code does to G, H and the owned objects -/
structure Stp (G H : Hp) (fp : List Addr) (G' H' : Hp) (fp' : List Addr) : Prop where
  gg : Same G G'
  gn : ∀ a, G' a ≠ none → G a ≠ none ∨ Fr H a ∨ a ∈ fp
  fn : ∀ a ∈ fp', a ∈ fp ∨ H a = none
  keep : ∀ a o, H a = some o → a ∉ fp → H' a = some o

theorem Same.refl' (H : Hp) : Same H H := fun _ _ h => h
theorem Stp.refl (G H : Hp) (fp : List Addr) : Stp G H fp G H fp := ⟨fun _ _ h => h, fun a h => .inl h, fun a h => .inl h, fun a o h _ => h⟩
theorem Stp.sub {G H G' H' : Hp} {fp fp' fp'' : List Addr} (s : Stp G H fp G' H' fp') (h : ∀ a ∈ fp'', a ∈ fp') : Stp G H fp G' H' fp'' := ⟨s.gg, s.gn, fun a m => s.fn a (h a m), s.keep⟩
theorem Stp.trans {G H G1 H1 G2 H2 : Hp} {fp fp1 fp2 : List Addr} (a : Stp G H fp G1 H1 fp1) (b : Stp G1 H1 fp1 G2 H2 fp2) : Stp G H fp G2 H2 fp2 := by
  have back : ∀ x, H1 x = none → H x = none ∨ x ∈ fp := fun x h1 => by
    by_cases hm : x ∈ fp
    · exact .inr hm
    · refine .inl ?_
      cases e : H x with
      | none => rfl
      | some o => rw [a.keep x o e hm] at h1; cases h1
  have backF : ∀ x, Fr H1 x → Fr H x ∨ x ∈ fp := fun x h1 => by
    rcases h1 with h1 | ⟨xs, h1⟩
    · exact (back x h1).imp .inl id
    · by_cases hm : x ∈ fp
      · exact .inr hm
      · refine .inl ?_
        cases e : H x with
        | none => exact .inl e
        | some o =>
          have e2 := a.keep x o e hm
          rw [h1] at e2
          cases e2
          exact .inr ⟨xs, e⟩
  refine ⟨fun x o h => b.gg x o (a.gg x o h), fun x h => ?_, fun x h => ?_, fun x o h n => b.keep x o (a.keep x o h n) fun m => ?_⟩
  · rcases b.gn x h with h | h | h
    · exact a.gn x h
    · exact .inr (backF x h)
    · rcases a.fn x h with h | h
      · exact .inr (.inr h)
      · exact .inr (.inl (.inl h))
  · rcases b.fn x h with h | h
    · exact a.fn x h
    · exact (back x h).symm
  · rcases a.fn x m with m | m
    · exact n m
    · rw [h] at m; cases m
theorem Stp.in_ {G H G' H' : Hp} {fp fp' : List Addr} (s : Stp G H fp G' H' fp') (i : In G H) (out : ∀ a ∈ fp, G a = none) : In G H' :=
  i.post fun a o ne e => s.keep a o e fun m => ne (out a m)

/-! ### owned data: facts -/
section
variable {K : PySem.W.Frag} {G H G' H' : Hp}
theorem OwL.nil {R : D → V → List Addr → Prop} : OwL R [] [] [] := ⟨rfl, rfl⟩
theorem OwL.cons {R : D → V → List Addr → Prop} {d : D} {v : V} {f g : List Addr} {ds : List D} {vs : List V} (h : R d v f) (t : OwL R ds vs g) : OwL R (d :: ds) (v :: vs) (f ++ g) := ⟨v, vs, f, g, rfl, rfl, h, t⟩
theorem OwL.imp {R S : D → V → List Addr → Prop} : ∀ {ds : List D} {vs : List V} {fp : List Addr}, (∀ d v f, (∀ a ∈ f, a ∈ fp) → R d v f → S d v f) → OwL R ds vs fp → OwL S ds vs fp
  | [], _, _, _, h => h
  | d :: ds, _, _, k, ⟨v, r, f, g, e1, e2, h1, h2⟩ => by
    subst e1 e2
    exact ⟨v, r, f, g, rfl, rfl, k d v f (fun a m => List.mem_append_left _ m) h1, OwL.imp (fun d v f m => k d v f fun a z => List.mem_append_right _ (m a z)) h2⟩
theorem OwL.length {R : D → V → List Addr → Prop} : ∀ {ds : List D} {vs : List V} {fp : List Addr}, OwL R ds vs fp → vs.length = ds.length
  | [], _, _, h => by rw [h.1]; rfl
  | d :: ds, _, _, ⟨v, r, f, g, e1, e2, h1, h2⟩ => by subst e1; simp [h2.length]
theorem OwL.app {R : D → V → List Addr → Prop} : ∀ {ds es : List D} {vs ws : List V} {f g : List Addr}, OwL R ds vs f → OwL R es ws g → OwL R (ds ++ es) (vs ++ ws) (f ++ g)
  | [], _, _, _, _, _, h, t => by rw [h.1, h.2]; exact t
  | d :: ds, _, _, _, _, _, ⟨v, r, f, g, e1, e2, h1, h2⟩, t => by
    subst e1 e2
    exact ⟨v, _, f, _, rfl, List.append_assoc _ _ _, h1, h2.app t⟩
/-- lists of shared data -/
theorem OwL.sh : ∀ {ds : List D} {vs : List V} {fp : List Addr}, OwL (Ow K G H 0) ds vs fp ↔ (ShL K G ds vs ∧ fp = [])
  | [], vs, fp => ⟨fun h => ⟨by rw [h.1]; exact ShL.nil, h.2⟩, fun h => ⟨h.1.nil_inv, h.2⟩⟩
  | d :: ds, vs, fp => by
    constructor
    · rintro ⟨v, r, f, g, rfl, rfl, ⟨h1, rfl⟩, h2⟩
      obtain ⟨h3, rfl⟩ := OwL.sh.mp h2
      exact ⟨ShL.cons h1 h3, rfl⟩
    · rintro ⟨h, rfl⟩
      obtain ⟨v, r, rfl, h1, h2⟩ := h.cons_inv
      exact ⟨v, r, [], [], rfl, rfl, ⟨h1, rfl⟩, OwL.sh.mpr ⟨h2, rfl⟩⟩
/-- owned data in another heap: its own objects are kept, G grows -/
theorem Ow.mono (gg : Same G G') : ∀ (k : Nat) (d : D) (v : V) (fp : List Addr), (∀ a ∈ fp, ∀ o, H a = some o → H' a = some o) → Ow K G H k d v fp → Ow K G' H' k d v fp
  | 0, d, v, fp, _, h => ⟨Sh.mono (In.of gg) d v h.1, h.2⟩
  | k + 1, d, v, fp, kp, h => by
    have sub : ∀ {ds xs f a}, fp = a :: f → OwL (Ow K G H k) ds xs f → OwL (Ow K G' H' k) ds xs f := fun {ds xs f a} e q =>
      q.imp fun d v g m r => Ow.mono gg k d v g (fun b hb => kp b (by rw [e]; exact List.mem_cons_of_mem _ (m b hb))) r
    cases d with
    | lst ds =>
      obtain ⟨a, xs, f, e, h1, h2, h3⟩ := h
      exact ⟨a, xs, f, e, kp a (by simp [h3]) _ h1, sub h3 h2, h3⟩
    | dct t ks ds =>
      obtain ⟨a, xs, f, e, ⟨o, h0, hd⟩, h1, h2, h3⟩ := h
      have ha : a ∈ fp := by simp [h3]
      refine ⟨a, xs, f, e, ⟨o, kp a ha _ h0, hd⟩, ?_, sub h3 h2, h3⟩
      rcases h1 with ⟨e, kvs, q, r⟩ | ⟨e, kvs, q, r⟩
      · exact .inl ⟨e, kvs, q.imp (kp a ha _) fun ⟨ob, z⟩ => ⟨ob, kp a ha _ z⟩, r⟩
      · exact .inr ⟨e, kvs, q.imp (kp a ha _) fun ⟨ob, z⟩ => ⟨ob, kp a ha _ z⟩, r⟩
    | obj c ns ds =>
      obtain ⟨a, dx, fs, f, e, h1, h2, h3, h4⟩ := h
      exact ⟨a, dx, fs, f, e, kp a (by simp [h4]) _ h1, h2, sub h4 h3, h4⟩
    | non => exact ⟨Sh.mono (In.of gg) _ v h.1, h.2⟩
    | bl b => exact ⟨Sh.mono (In.of gg) _ v h.1, h.2⟩
    | int i => exact ⟨Sh.mono (In.of gg) _ v h.1, h.2⟩
    | str x => exact ⟨Sh.mono (In.of gg) _ v h.1, h.2⟩
    | tup ds => exact ⟨Sh.mono (In.of gg) _ v h.1, h.2⟩
    | lsx ds => exact ⟨Sh.mono (In.of gg) _ v h.1, h.2⟩
theorem OwL.toSh {R : D → V → List Addr → Prop} : ∀ {ds : List D} {vs : List V} {fp : List Addr}, (∀ d v f, R d v f → Sh K H d v) → OwL R ds vs fp → ShL K H ds vs
  | [], _, _, _, h => by rw [h.1]; exact ShL.nil
  | d :: ds, _, _, k, ⟨v, r, f, g, e1, e2, h1, h2⟩ => by subst e1; exact ShL.cons (k d v f h1) (h2.toSh k)
/-- owned data, read -/
theorem Ow.toSh (i : In G H) : ∀ (k : Nat) (d : D) (v : V) (fp : List Addr), Ow K G H k d v fp → Sh K H d v
  | 0, d, v, fp, h => Sh.mono i d v h.1
  | k + 1, d, v, fp, h => by
    have sub : ∀ {ds xs f}, OwL (Ow K G H k) ds xs f → ShL K H ds xs := fun {ds xs f} q => q.toSh fun d v g r => Ow.toSh i k d v g r
    cases d with
    | lst ds =>
      obtain ⟨a, xs, f, e, h1, h2, h3⟩ := h
      unfold Sh
      exact ⟨a, xs, e, h1, sub h2⟩
    | dct t ks ds =>
      obtain ⟨a, xs, f, e, _, h1, h2, h3⟩ := h
      unfold Sh
      exact ⟨a, xs, e, h1, sub h2⟩
    | obj c ns ds =>
      obtain ⟨a, dx, fs, f, e, h1, h2, h3, h4⟩ := h
      unfold Sh
      exact ⟨a, dx, fs, e, h1, h2, sub h3⟩
    | non => exact Sh.mono i _ v h.1
    | bl b => exact Sh.mono i _ v h.1
    | int n => exact Sh.mono i _ v h.1
    | str x => exact Sh.mono i _ v h.1
    | tup ds => exact Sh.mono i _ v h.1
    | lsx ds => exact Sh.mono i _ v h.1
/-- every owned object stands -/
theorem OwL.there {R : D → V → List Addr → Prop} {P : Addr → Prop} : ∀ {ds : List D} {vs : List V} {fp : List Addr}, (∀ d v f, R d v f → ∀ a ∈ f, P a) → OwL R ds vs fp → ∀ a ∈ fp, P a
  | [], _, _, _, h, a, m => by rw [h.2] at m; cases m
  | d :: ds, _, _, k, ⟨v, r, f, g, e1, e2, h1, h2⟩, a, m => by
    rw [e2] at m
    rcases List.mem_append.mp m with m | m
    · exact k d v f h1 a m
    · exact h2.there k a m
theorem Ow.there : ∀ (k : Nat) (d : D) (v : V) (fp : List Addr), Ow K G H k d v fp → ∀ a ∈ fp, H a ≠ none
  | 0, d, v, fp, h, a, m => by rw [h.2] at m; cases m
  | k + 1, d, v, fp, h, a, m => by
    have sub : ∀ {ds xs f}, OwL (Ow K G H k) ds xs f → ∀ a ∈ f, H a ≠ none := fun {ds xs f} q => q.there fun d v g r => Ow.there k d v g r
    cases d with
    | lst ds =>
      obtain ⟨b, xs, f, e, h1, h2, h3⟩ := h
      rw [h3] at m
      rcases List.mem_cons.mp m with m | m
      · rw [m, h1]; simp
      · exact sub h2 a m
    | dct t ks ds =>
      obtain ⟨b, xs, f, e, ⟨o, h0, _⟩, h1, h2, h3⟩ := h
      rw [h3] at m
      rcases List.mem_cons.mp m with m | m
      · rw [m, h0]; simp
      · exact sub h2 a m
    | obj c ns ds =>
      obtain ⟨b, dx, fs, f, e, h1, h2, h3, h4⟩ := h
      rw [h4] at m
      rcases List.mem_cons.mp m with m | m
      · rw [m, h1]; simp
      · exact sub h3 a m
    | non => rw [h.2] at m; cases m
    | bl b => rw [h.2] at m; cases m
    | int n => rw [h.2] at m; cases m
    | str x => rw [h.2] at m; cases m
    | tup ds => rw [h.2] at m; cases m
    | lsx ds => rw [h.2] at m; cases m
/-- no owned object may join -/
theorem nfr_of {o : HO} {a : Addr} (h : H a = some o) (n : ∀ xs, o ≠ .tup xs) : ¬ Fr H a := by
  rintro (z | ⟨xs, z⟩)
  · rw [h] at z; cases z
  · rw [h] at z; cases z; exact n xs rfl
theorem Ow.nfr : ∀ (k : Nat) (d : D) (v : V) (fp : List Addr), Ow K G H k d v fp → ∀ a ∈ fp, ¬ Fr H a
  | 0, d, v, fp, h, a, m => by rw [h.2] at m; cases m
  | k + 1, d, v, fp, h, a, m => by
    have sub : ∀ {ds xs f}, OwL (Ow K G H k) ds xs f → ∀ a ∈ f, ¬ Fr H a := fun {ds xs f} q => q.there fun d v g r => Ow.nfr k d v g r
    cases d with
    | lst ds =>
      obtain ⟨b, xs, f, e, h1, h2, h3⟩ := h
      rw [h3] at m
      rcases List.mem_cons.mp m with m | m
      · rw [m]; exact nfr_of h1 (by simp)
      · exact sub h2 a m
    | dct t ks ds =>
      obtain ⟨b, xs, f, e, ⟨o, h0, hd⟩, h1, h2, h3⟩ := h
      rw [h3] at m
      rcases List.mem_cons.mp m with m | m
      · rw [m]; exact nfr_of h0 (by rintro xs rfl; exact hd)
      · exact sub h2 a m
    | obj c ns ds =>
      obtain ⟨b, dx, fs, f, e, h1, h2, h3, h4⟩ := h
      rw [h4] at m
      rcases List.mem_cons.mp m with m | m
      · rw [m]; exact nfr_of h1 (by simp)
      · exact sub h3 a m
    | non => rw [h.2] at m; cases m
    | bl b => rw [h.2] at m; cases m
    | int n => rw [h.2] at m; cases m
    | str x => rw [h.2] at m; cases m
    | tup ds => rw [h.2] at m; cases m
    | lsx ds => rw [h.2] at m; cases m
theorem Slot1.nfr {s : SV} {o : Option V} {fp : List Addr} (h : Slot1 K G H s o fp) : ∀ a ∈ fp, ¬ Fr H a := by
  cases s with
  | un => intro a m; rw [show fp = [] from h] at m; cases m
  | sh d => obtain ⟨v, _, _, e⟩ := h; intro a m; rw [e] at m; cases m
  | ow k d => obtain ⟨v, _, q⟩ := h; exact Ow.nfr _ _ _ _ q
  | io k d => obtain ⟨v, _, q⟩ := h; exact Ow.nfr _ _ _ _ q
  | tb P q =>
    obtain ⟨_, rfl, ps, h1, _⟩ := h
    intro a m
    rw [List.mem_singleton.mp m]
    exact nfr_of h1 (by simp)
theorem Slots.nfr : ∀ {env : Env} {σ : St} {fp : List Addr}, Slots K G H env σ fp → ∀ a ∈ fp, ¬ Fr H a
  | [], _, _, h, a, m => by rw [h.2] at m; cases m
  | s :: env, _, _, ⟨o, r, f, g, e1, e2, h1, h2⟩, a, m => by
    rw [e2] at m
    rcases List.mem_append.mp m with m | m
    · exact h1.nfr a m
    · exact h2.nfr a m
theorem Slot1.there {s : SV} {o : Option V} {fp : List Addr} (h : Slot1 K G H s o fp) : ∀ a ∈ fp, H a ≠ none := by
  cases s with
  | un => intro a m; rw [show fp = [] from h] at m; cases m
  | sh d => obtain ⟨v, _, _, e⟩ := h; intro a m; rw [e] at m; cases m
  | ow k d => obtain ⟨v, _, q⟩ := h; exact Ow.there _ _ _ _ q
  | io k d => obtain ⟨v, _, q⟩ := h; exact Ow.there _ _ _ _ q
  | tb P q =>
    obtain ⟨_, rfl, ps, h1, _⟩ := h
    intro a m
    rw [List.mem_singleton.mp m, h1]; simp
theorem Slots.there : ∀ {env : Env} {σ : St} {fp : List Addr}, Slots K G H env σ fp → ∀ a ∈ fp, H a ≠ none
  | [], _, _, h, a, m => by rw [h.2] at m; cases m
  | s :: env, _, _, ⟨o, r, f, g, e1, e2, h1, h2⟩, a, m => by
    rw [e2] at m
    rcases List.mem_append.mp m with m | m
    · exact h1.there a m
    · exact h2.there a m
theorem Slot1.mono (gg : Same G G') {s : SV} {o : Option V} {fp : List Addr} (kp : ∀ a ∈ fp, ∀ o, H a = some o → H' a = some o) (h : Slot1 K G H s o fp) : Slot1 K G' H' s o fp := by
  cases s with
  | un => exact h
  | sh d => obtain ⟨v, e, q, e2⟩ := h; exact ⟨v, e, Sh.mono (In.of gg) d v q, e2⟩
  | ow k d => obtain ⟨v, e, q⟩ := h; exact ⟨v, e, Ow.mono gg _ _ _ _ kp q⟩
  | io k d => obtain ⟨v, e, q⟩ := h; exact ⟨v, e, Ow.mono gg _ _ _ _ kp q⟩
  | tb P q =>
    obtain ⟨e0, rfl, ps, h1, h2, h3⟩ := h
    exact ⟨e0, rfl, ps, kp P List.mem_cons_self _ h1, h2, fun pos cv hc => (h3 pos cv hc).imp fun c z => ⟨z.1, gg _ _ z.2⟩⟩
theorem Slots.mono (gg : Same G G') : ∀ {env : Env} {σ : St} {fp : List Addr}, (∀ a ∈ fp, ∀ o, H a = some o → H' a = some o) → Slots K G H env σ fp → Slots K G' H' env σ fp
  | [], _, _, _, h => h
  | s :: env, _, _, kp, ⟨o, r, f, g, e1, e2, h1, h2⟩ => ⟨o, r, f, g, e1, e2, h1.mono gg fun a m => kp a (by rw [e2]; exact List.mem_append_left _ m), h2.mono gg fun a m => kp a (by rw [e2]; exact List.mem_append_right _ m)⟩
theorem Slots.length : ∀ {env : Env} {σ : St} {fp : List Addr}, Slots K G H env σ fp → σ.length = env.length
  | [], _, _, h => by rw [h.1]; rfl
  | s :: env, _, _, ⟨o, r, f, g, e1, e2, h1, h2⟩ => by subst e1; simp [h2.length]
/-- one slot of many: the others stand apart -/
theorem Slots.get : ∀ {env : Env} {σ : St} {fp : List Addr} {i : Nat} {s : SV}, Slots K G H env σ fp → env[i]? = some s → ∃ o f, σ[i]? = some o ∧ Slot1 K G H s o f ∧ (∀ a ∈ f, a ∈ fp)
  | [], _, _, _, _, _, e => by simp at e
  | s :: env, _, _, 0, _, ⟨o, r, f, g, e1, e2, h1, h2⟩, e => by
    simp at e; subst e e1 e2
    exact ⟨o, f, rfl, h1, fun a m => List.mem_append_left _ m⟩
  | s :: env, _, _, i + 1, _, ⟨o, r, f, g, e1, e2, h1, h2⟩, e => by
    subst e1 e2
    obtain ⟨o', f', q1, q2, q3⟩ := h2.get (i := i) (by simpa using e)
    exact ⟨o', f', by simpa using q1, q2, fun a m => List.mem_append_right _ (q3 a m)⟩
/-- a slot exchanged: fr the rest's objects -/
theorem Slots.put : ∀ {env : Env} {σ : St} {fp : List Addr} {i : Nat} {s : SV}, Slots K G H env σ fp → fp.Nodup → env[i]? = some s →
    ∃ o f fr, σ[i]? = some o ∧ Slot1 K G H s o f ∧ (f ++ fr).Nodup ∧ (∀ a, a ∈ fp ↔ a ∈ f ∨ a ∈ fr) ∧
      ∀ {G' H' : Hp} {s' : SV} {o' : Option V} {f' : List Addr}, Same G G' → (∀ a ∈ fr, ∀ o, H a = some o → H' a = some o) → Slot1 K G' H' s' o' f' → (f' ++ fr).Nodup →
        ∃ fp', Slots K G' H' (env.set i s') (σ.set i o') fp' ∧ fp'.Nodup ∧ ∀ a, a ∈ fp' ↔ a ∈ f' ∨ a ∈ fr
  | [], _, _, _, _, _, _, e => by simp at e
  | s :: env, _, _, 0, _, ⟨o, r, f, g, e1, e2, h1, h2⟩, nd, e => by
    simp at e; subst e e1 e2
    refine ⟨o, f, g, rfl, h1, nd, fun a => List.mem_append, fun {G' H' s' o' f'} gg kp h1' nd' => ?_⟩
    exact ⟨f' ++ g, ⟨o', r, f', g, rfl, rfl, h1', h2.mono gg kp⟩, nd', fun a => List.mem_append⟩
  | s :: env, _, _, i + 1, s₀, ⟨o, r, f, g, e1, e2, h1, h2⟩, nd, e => by
    subst e1 e2
    obtain ⟨nf, ng, dj⟩ := List.nodup_append.mp nd
    obtain ⟨o', f', fr, q1, q2, q3, q4, q5⟩ := h2.put (i := i) (s := s₀) ng (by simpa using e)
    have dj1 : ∀ a ∈ f, ∀ b ∈ fr, a ≠ b := fun a ha b hb => dj a ha b ((q4 b).mpr (.inr hb))
    have dj2 : ∀ a ∈ f, ∀ b ∈ f', a ≠ b := fun a ha b hb => dj a ha b ((q4 b).mpr (.inl hb))
    obtain ⟨n1, n2, n3⟩ := List.nodup_append.mp q3
    refine ⟨o', f', f ++ fr, by simpa using q1, q2, ?_, fun a => ?_, fun {G' H' s' o'' f''} gg kp h1' nd' => ?_⟩
    · refine List.nodup_append.mpr ⟨n1, List.nodup_append.mpr ⟨nf, n2, dj1⟩, fun a ha b hb => ?_⟩
      rcases List.mem_append.mp hb with hb | hb
      · exact fun z => dj2 b hb a ha z.symm
      · exact n3 a ha b hb
    · rw [List.mem_append, q4, List.mem_append]
      constructor
      · rintro (z | z | z)
        · exact .inr (.inl z)
        · exact .inl z
        · exact .inr (.inr z)
      · rintro (z | z | z)
        · exact .inr (.inl z)
        · exact .inl z
        · exact .inr (.inr z)
    · obtain ⟨m1, m2, m3⟩ := List.nodup_append.mp nd'
      obtain ⟨p1, p2, p3⟩ := List.nodup_append.mp m2
      obtain ⟨fp', r1, r2, r3⟩ := q5 (s' := s') (o' := o'') (f' := f'') gg (fun a ha => kp a (List.mem_append_right _ ha)) h1' (List.nodup_append.mpr ⟨m1, p2, fun a ha b hb => m3 a ha b (List.mem_append_right _ hb)⟩)
      refine ⟨f ++ fp', ⟨o, _, f, fp', rfl, rfl, h1.mono gg fun a ha => kp a (List.mem_append_left _ ha), r1⟩, ?_, fun a => ?_⟩
      · refine List.nodup_append.mpr ⟨nf, r2, fun a ha b hb => ?_⟩
        rcases (r3 b).mp hb with hb | hb
        · exact fun z => m3 b hb a (List.mem_append_left _ ha) z.symm
        · exact dj1 a ha b hb
      · rw [List.mem_append, r3, List.mem_append]
        constructor
        · rintro (z | z | z)
          · exact .inr (.inl z)
          · exact .inl z
          · exact .inr (.inr z)
        · rintro (z | z | z)
          · exact .inr (.inl z)
          · exact .inl z
          · exact .inr (.inr z)
end
end VL
/-! Vl3: the judgements, names, constants, operators, displays, argument lists. -/
namespace VL
open PySem PySem.Spec PyProof.Rows L2

/-! ### results -/
/-- an exception: its class's name, its own dict -/
structure Xn where
  c : Str
  ns : List Str
  vs : List D
abbrev Rs (α : Type) := Option (Except Xn α)
def bd {α β : Type} (r : Rs α) (f : α → Rs β) : Rs β := match r with
  | none => none
  | some (.error x) => some (.error x)
  | some (.ok a) => f a
def ok {α : Type} (a : α) : Rs α := some (.ok a)
def opt {α : Type} (o : Option α) : Rs α := match o with
  | none => none
  | some a => some (.ok a)
@[simp] theorem bd_ok {α β : Type} (a : α) (f : α → Rs β) : bd (ok a) f = f a := (rfl)
@[simp] theorem bd_none {α β : Type} (f : α → Rs β) : bd none f = none := (rfl)
@[simp] theorem bd_err {α β : Type} (x : Xn) (f : α → Rs β) : bd (some (.error x)) f = some (.error x) := (rfl)
@[simp] theorem opt_some {α : Type} (a : α) : opt (some a) = ok a := (rfl)
@[simp] theorem opt_none {α : Type} : opt (none : Option α) = none := (rfl)
/-- what is wanted of a result -/
def Res {α : Type} (P : α → Prop) (E : Xn → Prop) : Rs α → Prop
  | none => False
  | some (.error x) => E x
  | some (.ok a) => P a
theorem Res.bd {α β : Type} {P : β → Prop} {E : Xn → Prop} {r : Rs α} {f : α → Rs β} : Res P E (bd r f) = Res (fun a => Res P E (f a)) E r := by
  cases r with
  | none => rfl
  | some c => cases c <;> rfl
theorem Res.imp {α : Type} {P P' : α → Prop} {E E' : Xn → Prop} {r : Rs α} (h : Res P E r) (hp : ∀ a, r = ok a → P a → P' a) (he : ∀ x, E x → E' x) : Res P' E' r := by
  cases r with
  | none => exact h
  | some c =>
    cases c with
    | error x => exact he x h
    | ok a => exact hp a rfl h
theorem Res.opt {α : Type} {P : α → Prop} {E : Xn → Prop} {o : Option α} (h : Res P E (opt o)) : ∃ a, o = some a ∧ P a := by
  cases o with
  | none => exact h.elim
  | some a => exact ⟨a, rfl, h⟩
theorem Res.ok {α : Type} {P : α → Prop} {E : Xn → Prop} {a : α} : Res P E (ok a) = P a := rfl
/-- an expression's: how deep its value is owned (0: shared), its data, the slots behind it -/
abbrev ER := Rs (Nat × D × Env)
/-- .. that is only read -/
abbrev RR := Rs (D × Env)
abbrev TR := Rs (Bool × Env)
abbrev AR := Rs (List D × Env)
inductive Fl where
  | nx | bk | ct | rt (k : Nat) (d : D)
abbrev SR := Rs (Fl × Env)

/-! ### what holds behind -/
section
variable (K : PySem.W.Frag)
structure XRep (x : Xn) (cls : Value) (od : Option Addr) (G H : Hp) : Prop where
  c : cls = .ref (He.ga K x.c)
  d : ∃ a fs, od = some a ∧ H a = some (.xd fs) ∧ fs.map (·.1) = x.ns ∧ ShL K G x.vs (fs.map (·.2))
structure Bad (x : Xn) (G H : Hp) (fp : List Addr) (cls : Value) (od : Option Addr) (G' H' : Hp) : Prop where
  gin : In G' H'
  st : Stp G H fp G' H' []
  rep : XRep K x cls od G' H'
structure PostE (p : Bool) (G : Hp) (σ : St) (H : Hp) (fp : List Addr) (env : Env) (k : Nat) (d : D) (env' : Env) (v : V) (G' H' : Hp) (fp' fpr : List Addr) : Prop where
  rl : Rl K G' σ H' env' fp'
  st : Stp G H fp G' H' (fp' ++ fpr)
  ow : Ow K G' H' k d v fpr
  nd : (fp' ++ fpr).Nodup
  out : ∀ a ∈ fpr, G' a = none
  pu : p = true → env' = env ∧ fp' = fp ∧ ∀ a o, H a = some o → H' a = some o
structure PostR (p : Bool) (G : Hp) (σ : St) (H : Hp) (fp : List Addr) (env : Env) (env' : Env) (G' H' : Hp) (fp' : List Addr) : Prop where
  rl : Rl K G' σ H' env' fp'
  st : Stp G H fp G' H' fp'
  pu : p = true → env' = env ∧ fp' = fp ∧ ∀ a o, H a = some o → H' a = some o
def EX (W : WX) (G : Hp) (σ : St) (H : Hp) (fp : List Addr) (x : Xn) : Prop := ∀ cls od G' H', Bad K x G H fp cls od G' H' → W cls od σ H'
def ResE (W : WX) (p : Bool) (G : Hp) (σ : St) (H : Hp) (fp : List Addr) (env : Env) (r : ER) (Q : VK) : Prop :=
  Res (fun r => ∀ v G' H' fp' fpr, PostE K p G σ H fp env r.1 r.2.1 r.2.2 v G' H' fp' fpr → Q v H') (EX K W G σ H fp) r
def ResR (W : WX) (p : Bool) (G : Hp) (σ : St) (H : Hp) (fp : List Addr) (env : Env) (r : RR) (Q : VK) : Prop :=
  Res (fun r => ∀ v G' H' fp', PostR K p G σ H fp env r.2 G' H' fp' → Sh K H' r.1 v → Q v H') (EX K W G σ H fp) r
def ResT (W : WX) (p : Bool) (G : Hp) (σ : St) (H : Hp) (fp : List Addr) (env : Env) (r : TR) (Q : Bool → Hp → Prop) : Prop :=
  Res (fun r => ∀ G' H' fp', PostR K p G σ H fp env r.2 G' H' fp' → Q r.1 H') (EX K W G σ H fp) r
def ResA (W : WX) (p : Bool) (G : Hp) (σ : St) (H : Hp) (fp : List Addr) (env : Env) (r : AR) (Q : List V → Hp → Prop) : Prop :=
  Res (fun r => ∀ vs G' H' fp', PostR K p G σ H fp env r.2 G' H' fp' → ShL K G' r.1 vs → Q vs H') (EX K W G σ H fp) r
end
structure VE (X : Cx) (W : WX) (p : Bool) (e : Expr) (f : Env → ER) : Prop where
  ex : ∃ t, PE X e t ∧ ∀ G σ H fp env Q, Rl X.K G σ H env fp → ResE X.K W p G σ H fp env (f env) Q → t σ H Q
structure VR (X : Cx) (W : WX) (p : Bool) (e : Expr) (f : Env → RR) : Prop where
  ex : ∃ t, PE X e t ∧ ∀ G σ H fp env Q, Rl X.K G σ H env fp → ResR X.K W p G σ H fp env (f env) Q → t σ H Q
structure VT (X : Cx) (W : WX) (p : Bool) (e : Expr) (f : Env → TR) : Prop where
  ex : ∃ t, PT X e t ∧ ∀ G σ H fp env Q, Rl X.K G σ H env fp → ResT X.K W p G σ H fp env (f env) Q → t σ H Q
structure VW (X : Cx) (W : WX) (p : Bool) (e : Expr) (f : Env → TR) : Prop where
  ex : ∃ t, PW X e t ∧ ∀ G σ H fp env Q, Rl X.K G σ H env fp → ResT X.K W p G σ H fp env (f env) Q → t σ H Q
structure VA (X : Cx) (W : WX) (p : Bool) (es : List Expr) (f : Env → AR) : Prop where
  ex : ∃ t, PA X es t ∧ ∀ G σ H fp env Q, Rl X.K G σ H env fp → ResA X.K W p G σ H fp env (f env) Q → t σ H Q

/-! ### steps of the state -/
section
variable {K : PySem.W.Frag} {G H G' H' G1 H1 G2 H2 : Hp} {σ : St} {fp fp' fp1 fp2 fpr : List Addr} {env env' : Env} {W : WX} {p : Bool}
theorem Rl.there (r : Rl K G σ H env fp) : ∀ a ∈ fp, H a ≠ none := r.sl.there
/-- the owned objects are kept, G grows outside them -/
theorem Rl.grow (r : Rl K G σ H env fp) (gg : Same G G') (gn : ∀ a, G' a ≠ none → G a ≠ none ∨ Fr H a) (kp : ∀ a ∈ fp, ∀ o, H a = some o → H' a = some o) (i : In G' H') : Rl K G' σ H' env fp :=
  ⟨i, r.sl.mono gg kp, r.nd, fun a m => by
    cases e : G' a with
    | none => rfl
    | some o =>
      rcases gn a (by rw [e]; simp) with z | z
      · exact absurd (r.out a m) z
      · exact absurd z (r.sl.nfr a m)⟩
theorem EX.back {x : Xn} (s : Stp G H fp G1 H1 fp1) (h : EX K W G σ H fp x) : EX K W G1 σ H1 fp1 x := fun cls od G' H' b => h cls od G' H' ⟨b.gin, s.trans b.st, b.rep⟩
theorem Bad.back {x : Xn} {cls : Value} {od : Option Addr} (s : Stp G H fp G1 H1 fp1) (b : Bad K x G1 H1 fp1 cls od G' H') : Bad K x G H fp cls od G' H' := ⟨b.gin, s.trans b.st, b.rep⟩
theorem same_upd {H : Hp} {p : Addr} {o : HO} (h : H p = none) : Same H (upd H p o) := fun b x e => by
  rw [upd_ne (ne_of_none e h)]
  exact e
theorem PostR.refl (r : Rl K G σ H env fp) : PostR K p G σ H fp env env G H fp := ⟨r, Stp.refl G H fp, fun _ => ⟨rfl, rfl, fun _ _ h => h⟩⟩
theorem PostR.trans {q : Bool} {env1 env2 : Env} (a : PostR K p G σ H fp env env1 G1 H1 fp1) (b : PostR K q G1 σ H1 fp1 env1 env2 G2 H2 fp2) : PostR K (p && q) G σ H fp env env2 G2 H2 fp2 :=
  ⟨b.rl, a.st.trans b.st, fun h => by
    obtain ⟨hp, hq⟩ := Bool.and_eq_true_iff.mp h
    obtain ⟨e1, f1, k1⟩ := a.pu hp
    obtain ⟨e2, f2, k2⟩ := b.pu hq
    exact ⟨e2.trans e1, f2.trans f1, fun a o h => k2 a o (k1 a o h)⟩⟩
theorem PostE.transR {q : Bool} {env1 env2 : Env} {k : Nat} {d : D} {v : V} (a : PostR K p G σ H fp env env1 G1 H1 fp1) (b : PostE K q G1 σ H1 fp1 env1 k d env2 v G2 H2 fp2 fpr) : PostE K (p && q) G σ H fp env k d env2 v G2 H2 fp2 fpr :=
  ⟨b.rl, a.st.trans b.st, b.ow, b.nd, b.out, fun h => by
    obtain ⟨hp, hq⟩ := Bool.and_eq_true_iff.mp h
    obtain ⟨e1, f1, k1⟩ := a.pu hp
    obtain ⟨e2, f2, k2⟩ := b.pu hq
    exact ⟨e2.trans e1, f2.trans f1, fun a o h => k2 a o (k1 a o h)⟩⟩
/-- a shared result -/
theorem PostE.shared {env1 : Env} {d : D} {v : V} (a : PostR K p G σ H fp env env1 G1 H1 fp1) (h : Sh K G1 d v) : PostE K p G σ H fp env 0 d env1 v G1 H1 fp1 [] :=
  ⟨a.rl, by rw [List.append_nil]; exact a.st, ⟨h, rfl⟩, by rw [List.append_nil]; exact a.rl.nd, fun a m => (nomatch m), a.pu⟩
theorem PostE.toR {env1 : Env} {k : Nat} {d : D} {v : V} (a : PostE K p G σ H fp env k d env1 v G1 H1 fp1 fpr) : PostR K p G σ H fp env env1 G1 H1 fp1 :=
  ⟨a.rl, a.st.sub fun b m => List.mem_append_left _ m, a.pu⟩
theorem PostE.sh0 {env1 : Env} {d : D} {v : V} (a : PostE K p G σ H fp env 0 d env1 v G1 H1 fp1 fpr) : Sh K G1 d v := a.ow.1
theorem PostE.shH {env1 : Env} {k : Nat} {d : D} {v : V} (a : PostE K p G σ H fp env k d env1 v G1 H1 fp1 fpr) : Sh K H1 d v := Ow.toSh a.rl.gin _ _ _ _ a.ow
theorem PostE.weak {env1 : Env} {k : Nat} {d : D} {v : V} (a : PostE K true G σ H fp env k d env1 v G1 H1 fp1 fpr) : PostE K p G σ H fp env k d env1 v G1 H1 fp1 fpr := ⟨a.rl, a.st, a.ow, a.nd, a.out, fun _ => a.pu rfl⟩
theorem PostR.weak {env1 : Env} (a : PostR K true G σ H fp env env1 G1 H1 fp1) : PostR K p G σ H fp env env1 G1 H1 fp1 := ⟨a.rl, a.st, fun _ => a.pu rfl⟩
/-- G with what is owned at fpr -/
def frzG (G H : Hp) (fpr : List Addr) : Hp := fun a => if a ∈ fpr then H a else G a
theorem frzG_in {a : Addr} (h : a ∈ fpr) : frzG G H fpr a = H a := if_pos h
theorem frzG_out {a : Addr} (h : ¬ a ∈ fpr) : frzG G H fpr a = G a := if_neg h
theorem frzG_same (out : ∀ a ∈ fpr, G a = none) : Same G (frzG G H fpr) := fun a o e => by
  by_cases h : a ∈ fpr
  · rw [out a h] at e; cases e
  · rw [frzG_out h]; exact e
theorem frzG_In (i : In G H) : In (frzG G H fpr) H := fun a o e => by
  by_cases h : a ∈ fpr
  · rw [frzG_in h] at e; exact .inl e
  · rw [frzG_out h] at e; exact i a o e
theorem frzG_or {a : Addr} (h : frzG G H fpr a ≠ none) : G a ≠ none ∨ a ∈ fpr := by
  by_cases m : a ∈ fpr
  · exact .inr m
  · rw [frzG_out m] at h; exact .inl h
theorem Ow.frz {k : Nat} {d : D} {v : V} (o : Ow K G H k d v fpr) (out : ∀ a ∈ fpr, G a = none) : Sh K (frzG G H fpr) d v :=
  Ow.toSh (In.refl _) k d v fpr (Ow.mono (H' := frzG G H fpr) (frzG_same out) k d v fpr (fun a m o e => by rw [frzG_in m]; exact e) o)
/-- an owned result is shared from now on -/
theorem PostE.frz {env1 : Env} {k : Nat} {d : D} {v : V} (a : PostE K p G σ H fp env k d env1 v G1 H1 fp1 fpr) : ∃ G2, PostE K p G σ H fp env 0 d env1 v G2 H1 fp1 [] := by
  obtain ⟨n1, n2, n3⟩ := List.nodup_append.mp a.nd
  refine ⟨frzG G1 H1 fpr, PostE.shared ⟨⟨frzG_In a.rl.gin, a.rl.sl.mono (frzG_same a.out) fun _ _ _ h => h, a.rl.nd, fun b m => ?_⟩, ⟨fun b o e => frzG_same a.out b o (a.st.gg b o e), fun b h => ?_, fun b m => a.st.fn b (List.mem_append_left _ m), a.st.keep⟩, a.pu⟩ (Ow.frz a.ow a.out)⟩
  · rw [frzG_out fun z => n3 b m b z rfl]; exact a.rl.out b m
  · rcases frzG_or h with z | z
    · exact a.st.gn b z
    · rcases a.st.fn b (List.mem_append_right _ z) with z | z
      · exact .inr (.inr z)
      · exact .inr (.inl (.inl z))
/-- a new object, shared at once -/
theorem PostR.laid {env1 : Env} (a : PostR K p G σ H fp env env1 G1 H1 fp1) {b : Addr} {o : HO} (nb : H1 b = none) : PostR K p G σ H fp env env1 (upd G1 b o) (upd H1 b o) fp1 ∧ Same G1 (upd G1 b o) := by
  have nG : G1 b = none := by
    cases e : G1 b with
    | none => rfl
    | some u => rcases a.rl.gin b u e with z | ⟨_, _, z⟩ <;> rw [nb] at z <;> cases z
  have sG : Same G1 (upd G1 b o) := same_upd nG
  have sH : Same H1 (upd H1 b o) := same_upd nb
  have nbk : ∀ c u, H c = some u → c ∉ fp → c ≠ b := fun c u e n z => by
    have := a.st.keep c u e n
    rw [z, nb] at this; cases this
  refine ⟨⟨a.rl.grow sG (fun c h => ?_) (fun c _ u e => sH c u e) (fun c u e => ?_), ⟨fun c u e => sG c u (a.st.gg c u e), fun c h => ?_, a.st.fn, fun c u e n => sH c u (a.st.keep c u e n)⟩, fun h => ?_⟩, sG⟩
  · by_cases z : c = b
    · exact .inr (.inl (by rw [z]; exact nb))
    · rw [upd_ne z] at h; exact .inl h
  · by_cases z : c = b
    · rw [z, upd_same] at e; cases e; rw [z]; exact .inl upd_same
    · rw [upd_ne z] at e
      rcases a.rl.gin c u e with q | ⟨d, ob, q⟩
      · exact .inl (sH c u q)
      · exact .inr ⟨d, ob, sH c _ q⟩
  · by_cases z : c = b
    · rw [z]
      cases e : H b with
      | none => exact .inr (.inl (.inl e))
      | some u =>
        by_cases m : b ∈ fp
        · exact .inr (.inr m)
        · exact absurd rfl (nbk b u e m)
    · rw [upd_ne z] at h; exact a.st.gn c h
  · obtain ⟨e1, e2, e3⟩ := a.pu h
    exact ⟨e1, e2, fun c u e => sH c u (e3 c u e)⟩
/-- a new object, owned -/
theorem PostE.made {env1 : Env} (a : PostR K p G σ H fp env env1 G1 H1 fp1) {b : Addr} {o : HO} (nb : H1 b = none) {d : D} (h : Ow K G1 (upd H1 b o) 1 d (.ref b) [b]) : PostE K p G σ H fp env 1 d env1 (.ref b) G1 (upd H1 b o) fp1 [b] := by
  have sH : Same H1 (upd H1 b o) := same_upd nb
  have nG : G1 b = none := by
    cases e : G1 b with
    | none => rfl
    | some u => rcases a.rl.gin b u e with z | ⟨_, _, z⟩ <;> rw [nb] at z <;> cases z
  have nf : ∀ c ∈ fp1, c ≠ b := fun c m z => a.rl.there c m (by rw [z]; exact nb)
  refine ⟨a.rl.grow (Same.refl' _) (fun c h => .inl h) (fun c _ u e => sH c u e) (a.rl.gin.post fun c u _ e => sH c u e), ⟨a.st.gg, a.st.gn, fun c m => ?_, fun c u e n => sH c u (a.st.keep c u e n)⟩, h, ?_, fun c m => ?_, fun h => ?_⟩
  · rcases List.mem_append.mp m with m | m
    · exact a.st.fn c m
    · rw [List.mem_singleton.mp m]
      cases e : H b with
      | none => exact .inr rfl
      | some u =>
        by_cases m2 : b ∈ fp
        · exact .inl m2
        · have := a.st.keep b u e m2
          rw [nb] at this; cases this
  · exact List.nodup_append.mpr ⟨a.rl.nd, by simp, fun c m e z => by rw [List.mem_singleton.mp z]; exact nf c m⟩
  · rw [List.mem_singleton.mp m]; exact nG
  · obtain ⟨e1, e2, e3⟩ := a.pu h
    exact ⟨e1, e2, fun c u e => sH c u (e3 c u e)⟩
end

/-! ### ways from one judgement to another -/
section
variable {X : Cx} {W : WX} {p q : Bool} {e a b : Expr} {f f1 f2 : Env → ER} {g g1 g2 : Env → RR}
def frzR (f : Env → ER) : Env → ER := fun env => bd (f env) fun r => ok (0, r.2.1, r.2.2)
theorem ve_frz (h : VE X W p e f) : VE X W p e (frzR f) := by
  obtain ⟨t, ht, hr⟩ := h.ex
  refine ⟨t, ht, fun G σ H fp env Q r z => hr G σ H fp env Q r ?_⟩
  unfold frzR ResE at z
  rw [Res.bd] at z
  refine z.imp (fun r _ z v G' H' fp' fpr po => ?_) fun x z => z
  obtain ⟨G2, po2⟩ := po.frz
  exact z v G2 H' fp' [] po2
def rdR (f : Env → ER) : Env → RR := fun env => bd (f env) fun r => ok (r.2.1, r.2.2)
theorem vr_of (h : VE X W p e f) : VR X W p e (rdR f) := by
  obtain ⟨t, ht, hr⟩ := h.ex
  refine ⟨t, ht, fun G σ H fp env Q r z => hr G σ H fp env Q r ?_⟩
  unfold rdR ResR at z
  rw [Res.bd] at z
  exact z.imp (fun r _ z v G' H' fp' fpr po => z v G' H' fp' po.toR po.shH) fun x z => z
theorem ve_weak (h : VE X W true e f) : VE X W p e f := by
  obtain ⟨t, ht, hr⟩ := h.ex
  exact ⟨t, ht, fun G σ H fp env Q r z => hr G σ H fp env Q r (z.imp (fun r _ z v G' H' fp' fpr po => z v G' H' fp' fpr po.weak) fun x z => z)⟩
theorem vr_weak (h : VR X W true e g) : VR X W p e g := by
  obtain ⟨t, ht, hr⟩ := h.ex
  exact ⟨t, ht, fun G σ H fp env Q r z => hr G σ H fp env Q r (z.imp (fun r _ z v G' H' fp' po => z v G' H' fp' po.weak) fun x z => z)⟩
/-- data without objects -/
def scV : D → Option V
  | .non => some .non
  | .bl b => some (.bl b)
  | .int i => some (.int i)
  | .str x => some (.str x)
  | _ => none
theorem scV_sh {K : PySem.W.Frag} {G : Hp} {d : D} {v : V} (h : scV d = some v) : Sh K G d v := by
  cases d <;> unfold scV at h <;> first | (cases h; unfold Sh; rfl) | cases h
theorem sh_scV {K : PySem.W.Frag} {G : Hp} {d : D} {v w : V} (h : Sh K G d v) (s : scV d = some w) : v = w := by
  cases d <;> unfold scV at s <;> unfold Sh at h <;> first | (cases s; exact h) | cases s
def scR (g : Env → RR) : Env → ER := fun env => bd (g env) fun r => bd (opt (scV r.1)) fun _ => ok (0, r.1, r.2)
/-- a scalar that was read -/
theorem ve_sc (h : VR X W p e g) : VE X W p e (scR g) := by
  obtain ⟨t, ht, hr⟩ := h.ex
  refine ⟨t, ht, fun G σ H fp env Q r z => hr G σ H fp env Q r ?_⟩
  unfold scR ResE at z
  rw [Res.bd] at z
  refine z.imp (fun r _ z v G' H' fp' po s => ?_) fun x z => z
  rw [Res.bd] at z
  obtain ⟨w, hs, z⟩ := z.opt
  exact z v G' H' fp' [] (PostE.shared po (by rw [sh_scV s hs]; exact scV_sh hs))

/-! ### names, constants -/
def SV.dat : SV → Option D
  | .un => none
  | .tb _ _ => none
  | .sh d => some d
  | .ow _ d => some d
  | .io _ d => some d
def slot (env : Env) (i : Nat) : SV := env.getD i .un
def rV (i : Nat) : Env → RR := fun env => bd (opt (slot env i).dat) fun d => ok (d, env)
theorem slot_dat {env : Env} {i : Nat} {s : SV} (h : slot env i = s) (hs : s ≠ .un) : env[i]? = some s := by
  unfold slot at h
  rw [List.getD_eq_getElem?_getD] at h
  cases e : env[i]? with
  | none => rw [e] at h; exact absurd h.symm hs
  | some s' => rw [e] at h; exact congrArg some h
theorem Slot1.read {K : PySem.W.Frag} {G H : Hp} {s : SV} {o : Option V} {fp : List Addr} {d : D} (i : In G H) (h : Slot1 K G H s o fp) (e : s.dat = some d) : ∃ v, o = some v ∧ Sh K H d v := by
  cases s with
  | un => cases e
  | tb P q => cases e
  | sh d' => cases e; obtain ⟨v, e, q, _⟩ := h; exact ⟨v, e, Sh.mono i _ _ q⟩
  | ow k d' => cases e; obtain ⟨v, e, q⟩ := h; exact ⟨v, e, Ow.toSh i _ _ _ _ q⟩
  | io k d' => cases e; obtain ⟨v, e, q⟩ := h; exact ⟨v, e, Ow.toSh i _ _ _ _ q⟩
theorem Rl.read {K : PySem.W.Frag} {G H : Hp} {σ : St} {fp : List Addr} {env : Env} {i : Nat} {d : D} (r : Rl K G σ H env fp) (e : (slot env i).dat = some d) : ∃ v, σ[i]? = some (some v) ∧ Sh K H d v := by
  obtain ⟨o, f, e1, e2, _⟩ := r.sl.get (slot_dat rfl (by intro z; rw [z] at e; cases e))
  obtain ⟨v, rfl, q⟩ := e2.read r.gin e
  exact ⟨v, e1, q⟩
theorem vr_v {i : Nat} (hp : PE X e (tVar i)) : VR X W true e (rV i) := by
  refine ⟨tVar i, hp, fun G σ H fp env Q r z => ?_⟩
  unfold rV ResR at z
  rw [Res.bd] at z
  obtain ⟨d, hd, z⟩ := z.opt
  obtain ⟨v, e1, q⟩ := r.read hd
  exact ⟨v, e1, z v G H fp (PostR.refl r) q⟩
/-- a name whose value is kept: what it owned is shared from now on -/
def eV (i : Nat) : Env → ER := fun env => match slot env i with
  | .sh d => ok (0, d, env)
  | .ow _ d => ok (0, d, env.set i (.sh d))
  | _ => none
theorem set_same {α : Type} {l : List α} {i : Nat} {x : α} (h : l[i]? = some x) : l.set i x = l := by
  apply List.ext_getElem?
  intro j
  rw [List.getElem?_set]
  split
  · rename_i hj; subst hj
    split
    · rw [h]
    · rename_i hl; rw [List.getElem?_eq_none (by omega)] at h; cases h
  · rfl
/-- what a slot owns is shared from now on -/
theorem Rl.freeze {K : PySem.W.Frag} {G H : Hp} {σ : St} {fp : List Addr} {env : Env} {i k : Nat} {d : D} (r : Rl K G σ H env fp) (h : env[i]? = some (.ow k d)) :
    ∃ v G' fp', σ[i]? = some (some v) ∧ PostR K false G σ H fp env (env.set i (.sh d)) G' H fp' ∧ Sh K G' d v := by
  obtain ⟨o, f, fr, e1, ⟨v, rfl, q⟩, nd, hm, put⟩ := r.sl.put r.nd h
  obtain ⟨n1, n2, n3⟩ := List.nodup_append.mp nd
  have of : ∀ a ∈ f, G a = none := fun a m => r.out a ((hm a).mpr (.inl m))
  have sG := frzG_same (H := H) of
  obtain ⟨fp', s', nd', m'⟩ := put (G' := frzG G H f) (H' := H) (s' := .sh d) (o' := some v) (f' := []) sG (fun a _ o e => e) ⟨v, rfl, Ow.frz q of, rfl⟩ n2
  have m2 : ∀ a, a ∈ fp' ↔ a ∈ fr := fun a => by rw [m']; simp
  rw [set_same e1] at s'
  refine ⟨v, frzG G H f, fp', e1, ⟨⟨frzG_In r.gin, s', nd', fun a m => ?_⟩, ⟨sG, fun a h => ?_, fun a m => .inl ((hm a).mpr (.inr ((m2 a).mp m))), fun a o e _ => e⟩, fun h => (nomatch h)⟩, Ow.frz q of⟩
  · have m := (m2 a).mp m
    rw [frzG_out fun z => n3 a z a m rfl]
    exact r.out a ((hm a).mpr (.inr m))
  · rcases frzG_or h with z | z
    · exact .inl z
    · exact .inr (.inr ((hm a).mpr (.inl z)))
theorem ve_v {i : Nat} (hp : PE X e (tVar i)) : VE X W false e (eV i) := by
  refine ⟨tVar i, hp, fun G σ H fp env Q r z => ?_⟩
  unfold eV at z
  cases h : slot env i with
  | un => rw [h] at z; exact z.elim
  | tb P q => rw [h] at z; exact z.elim
  | io k d => rw [h] at z; exact z.elim
  | sh d =>
    rw [h] at z
    obtain ⟨o, f, e1, ⟨v, rfl, q, _⟩, _⟩ := r.sl.get (slot_dat h (by simp))
    exact ⟨v, e1, z v G H fp [] (PostE.shared (PostR.refl r) q)⟩
  | ow k d =>
    rw [h] at z
    obtain ⟨v, G', fp', e1, po, q⟩ := r.freeze (slot_dat h (by simp))
    exact ⟨v, e1, z v G' H fp' [] (PostE.shared po q)⟩
/-- .. that is shared already -/
def eVs (i : Nat) : Env → ER := fun env => match slot env i with
  | .sh d => ok (0, d, env)
  | _ => none
theorem ve_vs {i : Nat} (hp : PE X e (tVar i)) : VE X W true e (eVs i) := by
  refine ⟨tVar i, hp, fun G σ H fp env Q r z => ?_⟩
  unfold eVs at z
  cases h : slot env i with
  | un => rw [h] at z; exact z.elim
  | tb P q => rw [h] at z; exact z.elim
  | io k d => rw [h] at z; exact z.elim
  | ow k d => rw [h] at z; exact z.elim
  | sh d =>
    rw [h] at z
    obtain ⟨o, f, e1, ⟨v, rfl, q, _⟩, _⟩ := r.sl.get (slot_dat h (by simp))
    exact ⟨v, e1, z v G H fp [] (PostE.shared (PostR.refl r) q)⟩
/-- a constant -/
def eC (d : D) : Env → ER := fun env => ok (0, d, env)
theorem ve_c {v : V} {d : D} (hp : PE X e (tC v)) (hs : scV d = some v) : VE X W true e (eC d) :=
  ⟨tC v, hp, fun G σ H fp env Q r z => z v G H fp [] (PostE.shared (PostR.refl r) (scV_sh hs))⟩

/-! ### operators whose result is a scalar -/
def ScOp (K : PySem.W.Frag) (r : R2) (g : D → D → Option D) : Prop := ∀ x y d1 d2 d H Q, g d1 d2 = some d → Sh K H d1 x → Sh K H d2 y → (∀ v, scV d = some v → Q v H) → r x y H Q
def bin (g : D → D → Option D) (f1 f2 : Env → RR) : Env → RR := fun env => bd (f1 env) fun r1 => bd (f2 r1.2) fun r2 => bd (opt (g r1.1 r2.1)) fun d => ok (d, r2.2)
/-- both operands read, the second one pure -/
theorem op_core {r : R2} {g : D → D → Option D} {ta tb : TE} {G : Hp} {σ : St} {H : Hp} {fp : List Addr} {env : Env} {K : PySem.W.Frag} {Q : VK} (hs : ScOp K r g)
    (ha : ∀ G σ H fp env Q, Rl K G σ H env fp → ResR K W p G σ H fp env (g1 env) Q → ta σ H Q)
    (hb : ∀ G σ H fp env Q, Rl K G σ H env fp → ResR K W true G σ H fp env (g2 env) Q → tb σ H Q)
    (rl : Rl K G σ H env fp) (z : Res (fun r => ∀ v G' H' fp', scV r.1 = some v → PostR K p G σ H fp env r.2 G' H' fp' → Q v H') (EX K W G σ H fp) (bin g g1 g2 env)) : tOp r ta tb σ H Q := by
  unfold bin at z
  rw [Res.bd] at z
  refine ha G σ H fp env _ rl (z.imp (fun r1 _ z x G1 H1 fp1 po1 sh1 => ?_) fun x z => z)
  rw [Res.bd] at z
  refine hb G1 σ H1 fp1 r1.2 _ po1.rl (z.imp (fun r2 _ z y G2 H2 fp2 po2 sh2 => ?_) fun x z => z.back po1.st)
  rw [Res.bd] at z
  obtain ⟨d, hd, z⟩ := z.opt
  obtain ⟨e2, f2, k2⟩ := po2.pu rfl
  have po := po1.trans po2
  rw [Bool.and_true] at po
  exact hs x y r1.1 r2.1 d H2 Q hd (Sh.mono (In.of k2) _ x sh1) sh2 fun v hv => z v G2 H2 fp2 hv po
def eOp (g : D → D → Option D) (f1 f2 : Env → RR) : Env → ER := fun env => bd (bin g f1 f2 env) fun r => ok (0, r.1, r.2)
theorem ve_op {r : R2} {g : D → D → Option D} (hs : ScOp X.K r g) (mk : ∀ {ta tb : TE}, PE X a ta → PE X b tb → PE X e (tOp r ta tb)) (ha : VR X W p a g1) (hb : VR X W true b g2) : VE X W p e (eOp g g1 g2) := by
  obtain ⟨ta, ha, ra⟩ := ha.ex
  obtain ⟨tb, hb, rb⟩ := hb.ex
  refine ⟨_, mk ha hb, fun G σ H fp env Q rl z => op_core hs ra rb rl ?_⟩
  unfold eOp ResE at z
  rw [Res.bd] at z
  exact z.imp (fun r _ z v G' H' fp' hv po => z v G' H' fp' [] (PostE.shared po (scV_sh hv))) fun x z => z
def D.asB : D → Option Bool
  | .bl b => some b
  | _ => none
theorem asB_eq {d : D} {b : Bool} (h : d.asB = some b) : d = .bl b := by
  cases d <;> unfold D.asB at h <;> first | (cases h; rfl) | cases h
def tOpT (g : D → D → Option D) (f1 f2 : Env → RR) : Env → TR := fun env => bd (bin g f1 f2 env) fun r => bd (opt r.1.asB) fun b => ok (b, r.2)
theorem vt_op {r : R2} {g : D → D → Option D} (hs : ScOp X.K r g) (mk : ∀ {ta tb : TE}, PE X a ta → PE X b tb → PT X e (tTest (tOp r ta tb))) (ha : VR X W p a g1) (hb : VR X W true b g2) : VT X W p e (tOpT g g1 g2) := by
  obtain ⟨ta, ha, ra⟩ := ha.ex
  obtain ⟨tb, hb, rb⟩ := hb.ex
  refine ⟨_, mk ha hb, fun G σ H fp env Q rl z => op_core (Q := fun x H' => ∃ k, x = .bl k ∧ Q k H') hs ra rb rl ?_⟩
  unfold tOpT ResT at z
  rw [Res.bd] at z
  refine z.imp (fun r _ z v G' H' fp' hv po => ?_) fun x z => z
  rw [Res.bd] at z
  obtain ⟨b, hb, z⟩ := z.opt
  rw [asB_eq hb] at hv
  cases hv
  exact ⟨b, rfl, z G' H' fp' po⟩
/-- the first operand durable, the second one anything -/
theorem op_coreD {r : R2} {g : D → D → Option D} {ta tb : TE} {G : Hp} {σ : St} {H : Hp} {fp : List Addr} {env : Env} {K : PySem.W.Frag} {Q : VK} (hs : ScOp K r g)
    (ha : ∀ G σ H fp env Q, Rl K G σ H env fp → ResE K W p G σ H fp env (f1 env) Q → ta σ H Q)
    (hb : ∀ G σ H fp env Q, Rl K G σ H env fp → ResR K W q G σ H fp env (g2 env) Q → tb σ H Q)
    (rl : Rl K G σ H env fp) (z : Res (fun r => ∀ v G' H' fp', scV r.1 = some v → PostR K (p && q) G σ H fp env r.2 G' H' fp' → Q v H') (EX K W G σ H fp) (bin g (rdR f1) g2 env)) : tOp r ta tb σ H Q := by
  unfold bin rdR at z
  rw [Res.bd, Res.bd] at z
  refine ha G σ H fp env _ rl (z.imp (fun r1 _ z x G1 H1 fp1 fpr po1 => ?_) fun x z => z)
  obtain ⟨G1', po1⟩ := po1.frz
  rw [Res.ok, Res.bd] at z
  refine hb G1' σ H1 fp1 r1.2.2 _ po1.rl (z.imp (fun r2 _ z y G2 H2 fp2 po2 sh2 => ?_) fun x z => z.back po1.toR.st)
  rw [Res.bd] at z
  obtain ⟨d, hd, z⟩ := z.opt
  have po := po1.toR.trans po2
  exact hs x y r1.2.1 r2.1 d H2 Q hd (Sh.mono (In.pre po2.st.gg po2.rl.gin) _ x po1.sh0) sh2 fun v hv => z v G2 H2 fp2 hv po
theorem ve_opD {r : R2} {g : D → D → Option D} (hs : ScOp X.K r g) (mk : ∀ {ta tb : TE}, PE X a ta → PE X b tb → PE X e (tOp r ta tb)) (ha : VE X W p a f1) (hb : VR X W q b g2) : VE X W (p && q) e (eOp g (rdR f1) g2) := by
  obtain ⟨ta, ha, ra⟩ := ha.ex
  obtain ⟨tb, hb, rb⟩ := hb.ex
  refine ⟨_, mk ha hb, fun G σ H fp env Q rl z => op_coreD hs ra rb rl ?_⟩
  unfold eOp ResE at z
  rw [Res.bd] at z
  exact z.imp (fun r _ z v G' H' fp' hv po => z v G' H' fp' [] (PostE.shared po (scV_sh hv))) fun x z => z
theorem vt_opD {r : R2} {g : D → D → Option D} (hs : ScOp X.K r g) (mk : ∀ {ta tb : TE}, PE X a ta → PE X b tb → PT X e (tTest (tOp r ta tb))) (ha : VE X W p a f1) (hb : VR X W q b g2) : VT X W (p && q) e (tOpT g (rdR f1) g2) := by
  obtain ⟨ta, ha, ra⟩ := ha.ex
  obtain ⟨tb, hb, rb⟩ := hb.ex
  refine ⟨_, mk ha hb, fun G σ H fp env Q rl z => op_coreD (Q := fun x H' => ∃ k, x = .bl k ∧ Q k H') hs ra rb rl ?_⟩
  unfold tOpT ResT at z
  rw [Res.bd] at z
  refine z.imp (fun r _ z v G' H' fp' hv po => ?_) fun x z => z
  rw [Res.bd] at z
  obtain ⟨b, hb, z⟩ := z.opt
  rw [asB_eq hb] at hv
  cases hv
  exact ⟨b, rfl, z G' H' fp' po⟩
end
end VL
/-! Vl4: more rules of expressions. -/
namespace VL
open PySem PySem.Spec PyProof.Rows L2

/-! ### a second reading -/
theorem PE.or {X : Cx} {e : Expr} {t1 t2 : TE} (h1 : PE X e t1) (h2 : PE X e t2) : PE X e (fun σ H Q => t1 σ H Q ∨ t2 σ H Q) :=
  ⟨fun pins s σ H Q I h => h.elim (h1.run pins s σ H Q I) (h2.run pins s σ H Q I)⟩
theorem PT.or {X : Cx} {e : Expr} {t1 t2 : TT} (h1 : PT X e t1) (h2 : PT X e t2) : PT X e (fun σ H Q => t1 σ H Q ∨ t2 σ H Q) :=
  ⟨fun pins s σ H Q I h => h.elim (h1.run pins s σ H Q I) (h2.run pins s σ H Q I)⟩
theorem PI.or {X : Cx} {tg e : Expr} {t1 t2 : TI} (h1 : PI X tg e t1) (h2 : PI X tg e t2) : PI X tg e (fun σ H R => t1 σ H R ∨ t2 σ H R) :=
  ⟨fun pins s σ H R I h => h.elim (h1.run pins s σ H R I) (h2.run pins s σ H R I)⟩

/-! ### argument lists -/
section
variable {X : Cx} {W : WX} {p q : Bool} {e a b : Expr} {es : List Expr} {f f1 f2 : Env → ER} {g g1 g2 : Env → RR} {fa : Env → AR}
def aNil : Env → AR := fun env => ok ([], env)
def aCons (f : Env → ER) (g : Env → AR) : Env → AR := fun env => bd (f env) fun r1 => bd (g r1.2.2) fun r2 => ok (r1.2.1 :: r2.1, r2.2)
theorem va_nil : VA X W true [] aNil := ⟨tNil, pa_nil, fun G σ H fp env Q r z => z [] G H fp (PostR.refl r) ShL.nil⟩
theorem va_cons (h : VE X W p e f) (t : VA X W q es fa) (hs : starEach (e :: es) X.env = (false, eval e X.env) :: starEach es X.env := by rfl) : VA X W (p && q) (e :: es) (aCons f fa) := by
  obtain ⟨t1, h1, r1⟩ := h.ex
  obtain ⟨t2, h2, r2⟩ := t.ex
  refine ⟨_, pa_cons h1 h2 hs, fun G σ H fp env Q rl z => ?_⟩
  unfold aCons ResA at z
  rw [Res.bd] at z
  refine r1 G σ H fp env _ rl (z.imp (fun x1 _ z v G1 H1 fp1 fpr po1 => ?_) fun x z => z)
  obtain ⟨G1', po1⟩ := po1.frz
  rw [Res.bd] at z
  refine r2 G1' σ H1 fp1 x1.2.2 _ po1.rl (z.imp (fun x2 _ z vs G2 H2 fp2 po2 sh2 => ?_) fun x z => z.back po1.toR.st)
  exact z (v :: vs) G2 H2 fp2 (po1.toR.trans po2) (ShL.cons (Sh.mono (In.of po2.st.gg) _ v po1.sh0) sh2)
def cap : Nat := 1000000
theorem cap_line {n : Nat} (h : n ≤ cap) : n ≤ sizeLine := Nat.le_trans h (by rw [sizeLine_eq]; decide)
theorem cap_lt {n : Nat} (h : n < cap) : n < sizeLine := Nat.lt_of_lt_of_le h (by rw [sizeLine_eq]; decide)
/-- (a, b) -/
def eTup (fa : Env → AR) : Env → ER := fun env => bd (fa env) fun r => if r.1.length ≤ cap then ok (0, .tup r.1, r.2) else none
theorem ve_tup {x1 : Nat} {pos : Pos} (h : VA X W p es fa) : VE X W p (.Tuple es x1 pos) (eTup fa) := by
  obtain ⟨t1, h1, r1⟩ := h.ex
  refine ⟨_, pe_tup h1, fun G σ H fp env Q rl z => ?_⟩
  unfold eTup ResE at z
  rw [Res.bd] at z
  refine r1 G σ H fp env _ rl (z.imp (fun r _ z vs G1 H1 fp1 po1 sh1 => ?_) fun x z => z)
  by_cases hc : r.1.length ≤ cap
  · rw [if_pos hc] at z
    refine ⟨by rw [sh1.length]; exact cap_line hc, fun b nb => ?_⟩
    obtain ⟨po2, sg⟩ := po1.laid (o := .tup vs) nb
    refine z (.ref b) _ _ fp1 [] (PostE.shared po2 ?_)
    unfold Sh
    exact ⟨b, vs, rfl, upd_same, ShL.mono (In.of sg) _ _ sh1⟩
  · rw [if_neg hc] at z; exact z.elim
/-- [a, b] -/
def eLst (fa : Env → AR) : Env → ER := fun env => bd (fa env) fun r => if r.1.length ≤ cap then ok (1, .lst r.1, r.2) else none
theorem ve_lst {pos : Pos} (h : VA X W p es fa) : VE X W p (.List es pos) (eLst fa) := by
  obtain ⟨t1, h1, r1⟩ := h.ex
  refine ⟨_, pe_lst h1, fun G σ H fp env Q rl z => ?_⟩
  unfold eLst ResE at z
  rw [Res.bd] at z
  refine r1 G σ H fp env _ rl (z.imp (fun r _ z vs G1 H1 fp1 po1 sh1 => ?_) fun x z => z)
  by_cases hc : r.1.length ≤ cap
  · rw [if_pos hc] at z
    refine ⟨by rw [sh1.length]; exact cap_line hc, fun b nb => ?_⟩
    exact z (.ref b) _ _ fp1 [b] (PostE.made po1 nb ⟨b, vs, [], rfl, upd_same, OwL.sh.mpr ⟨sh1, rfl⟩, rfl⟩)
  · rw [if_neg hc] at z; exact z.elim
/-- an empty list whose items will be owned too (k deep) -/
def eLst0 (k : Nat) : Env → ER := fun env => ok (k + 1, .lst [], env)
theorem ve_lst0 (k : Nat) {pos : Pos} : VE X W true (.List [] pos) (eLst0 k) := by
  refine ⟨_, pe_lst pa_nil, fun G σ H fp env Q rl z => ⟨Nat.zero_le _, fun b nb => ?_⟩⟩
  have po := PostE.made (p := true) (PostR.refl (p := true) rl) (o := .lst []) nb (d := .lst []) ⟨b, [], [], rfl, upd_same, ⟨rfl, rfl⟩, rfl⟩
  exact z (.ref b) _ _ fp [b] ⟨po.rl, po.st, ⟨b, [], [], rfl, upd_same, ⟨rfl, rfl⟩, rfl⟩, po.nd, po.out, po.pu⟩
/-- {} -/
def eDct0 (k : Nat) (t : Bool) : Env → ER := fun env => ok (k + 1, .dct t [] [], env)
theorem ve_dctK (k : Nat) {pos : Pos} : VE X W true (.Dict [] [] pos) (eDct0 k false) := by
  refine ⟨_, pe_dnewK, fun G σ H fp env Q rl z b nb => ?_⟩
  have po := PostE.made (p := true) (PostR.refl (p := true) rl) (o := .dK []) nb (d := .dct false [] []) ⟨b, [], [], rfl, ⟨_, upd_same, trivial⟩, .inl ⟨rfl, [], .inl upd_same, rfl, rfl⟩, ⟨rfl, rfl⟩, rfl⟩
  exact z (.ref b) _ _ fp [b] ⟨po.rl, po.st, ⟨b, [], [], rfl, ⟨_, upd_same, trivial⟩, .inl ⟨rfl, [], .inl upd_same, rfl, rfl⟩, ⟨rfl, rfl⟩, rfl⟩, po.nd, po.out, po.pu⟩
theorem ve_dctT (k : Nat) {pos : Pos} : VE X W true (.Dict [] [] pos) (eDct0 k true) := by
  refine ⟨_, pe_dnewT, fun G σ H fp env Q rl z b nb => ?_⟩
  have po := PostE.made (p := true) (PostR.refl (p := true) rl) (o := .dT []) nb (d := .dct true [] []) ⟨b, [], [], rfl, ⟨_, upd_same, trivial⟩, .inr ⟨rfl, [], .inl upd_same, rfl, rfl⟩, ⟨rfl, rfl⟩, rfl⟩
  exact z (.ref b) _ _ fp [b] ⟨po.rl, po.st, ⟨b, [], [], rfl, ⟨_, upd_same, trivial⟩, .inr ⟨rfl, [], .inl upd_same, rfl, rfl⟩, ⟨rfl, rfl⟩, rfl⟩, po.nd, po.out, po.pu⟩

/-! ### operators on numbers -/
def gI (C : Int → Int → Bool) (h : Int → Int → D) : D → D → Option D
  | .int i, .int j => if C i j then some (h i j) else none
  | _, _ => none
theorem sc_rI {K : PySem.W.Frag} {C : Int → Int → Prop} {Cb : Int → Int → Bool} {h : Int → Int → V} {hd : Int → Int → D} (hC : ∀ i j, Cb i j = true → C i j) (hh : ∀ i j, scV (hd i j) = some (h i j)) : ScOp K (rI C h) (gI Cb hd) := by
  intro x y d1 d2 d H Q e s1 s2 q
  cases d1 <;> cases d2 <;> unfold gI at e <;> first | cases e | skip
  rename_i i j
  unfold Sh at s1 s2
  dsimp only at e
  by_cases c : Cb i j = true
  · rw [if_pos c] at e
    cases e
    exact ⟨i, j, s1, s2, hC i j c, q _ (hh i j)⟩
  · rw [if_neg c] at e; cases e
theorem sc_rI0 {K : PySem.W.Frag} {h : Int → Int → V} {hd : Int → Int → D} (hh : ∀ i j, scV (hd i j) = some (h i j)) : ScOp K (rI0 h) (gI (fun _ _ => true) hd) := by
  intro x y d1 d2 d H Q e s1 s2 q
  cases d1 <;> cases d2 <;> unfold gI at e <;> first | cases e | skip
  rename_i i j
  unfold Sh at s1 s2
  exact ⟨i, j, s1, s2, q _ (hh i j)⟩
def gAdd := gI (fun _ _ => true) fun i j => .int (i + j)
def gSub := gI (fun _ _ => true) fun i j => .int (i - j)
def gMul := gI (fun i j => decide ((-(2 ^ 64) < i ∧ i < 2 ^ 64) ∨ (-(2 ^ 64) < j ∧ j < 2 ^ 64))) fun i j => .int (i * j)
def gDiv := gI (fun _ j => decide (0 < j ∧ j < 1073741824)) fun i j => .int (i / j)
def gMod := gI (fun _ j => decide (0 < j)) fun i j => .int (i % j)
def gPow := gI (fun i j => decide (0 ≤ j ∧ j ≤ 1000000 ∧ i.natAbs < 2 ^ 64)) fun i j => .int (i ^ j.toNat)
def gLt := gI (fun _ _ => true) fun i j => .bl (decide (i < j))
def gLe := gI (fun _ _ => true) fun i j => .bl (decide (i ≤ j))
def gGt := gI (fun _ _ => true) fun i j => .bl (decide (j < i))
def gGe := gI (fun _ _ => true) fun i j => .bl (decide (j ≤ i))
theorem sc_add {K : PySem.W.Frag} : ScOp K (rI0 fun i j => .int (i + j)) gAdd := sc_rI0 fun _ _ => rfl
theorem sc_sub {K : PySem.W.Frag} : ScOp K (rI0 fun i j => .int (i - j)) gSub := sc_rI0 fun _ _ => rfl
theorem sc_mul {K : PySem.W.Frag} : ScOp K (rI CMul fun i j => .int (i * j)) gMul := sc_rI (fun i j h => show CMul i j from of_decide_eq_true (p := (-(2 ^ 64) < i ∧ i < 2 ^ 64) ∨ (-(2 ^ 64) < j ∧ j < 2 ^ 64)) h) fun _ _ => rfl
theorem sc_div {K : PySem.W.Frag} : ScOp K (rI CDiv fun i j => .int (i / j)) gDiv := sc_rI (fun i j h => show CDiv i j from of_decide_eq_true (p := 0 < j ∧ j < 1073741824) h) fun _ _ => rfl
theorem sc_mod {K : PySem.W.Frag} : ScOp K (rI (fun _ j => 0 < j) fun i j => .int (i % j)) gMod := sc_rI (fun _ _ h => of_decide_eq_true h) fun _ _ => rfl
theorem sc_pow {K : PySem.W.Frag} : ScOp K (rI CPow fun i j => .int (i ^ j.toNat)) gPow := sc_rI (fun i j h => show CPow i j from of_decide_eq_true (p := 0 ≤ j ∧ j ≤ 1000000 ∧ i.natAbs < 2 ^ 64) h) fun _ _ => rfl
theorem sc_lt {K : PySem.W.Frag} : ScOp K (rI0 fun i j => .bl (decide (i < j))) gLt := sc_rI0 fun _ _ => rfl
theorem sc_le {K : PySem.W.Frag} : ScOp K (rI0 fun i j => .bl (decide (i ≤ j))) gLe := sc_rI0 fun _ _ => rfl
theorem sc_gt {K : PySem.W.Frag} : ScOp K (rI0 fun i j => .bl (decide (j < i))) gGt := sc_rI0 fun _ _ => rfl
theorem sc_ge {K : PySem.W.Frag} : ScOp K (rI0 fun i j => .bl (decide (j ≤ i))) gGe := sc_rI0 fun _ _ => rfl

/-! ### == and !=, of data at any depth -/
mutual
def py : D → PyData
  | .non => .none
  | .bl b => .bool b
  | .int i => .int i
  | .str x => .str x
  | .tup xs => .tuple (pyL xs)
  | .lst xs => .list (pyL xs)
  | .lsx _ => .none
  | .dct _ _ _ => .none
  | .obj _ _ _ => .none
def pyL : List D → List PyData
  | [] => []
  | d :: ds => py d :: pyL ds
end
mutual
/-- plain data, n deep at most (texts left out) -/
def dp : Nat → D → Bool
  | _, .non => true
  | _, .bl _ => true
  | _, .int _ => true
  | _, .str x => PyData.canLay0 (.str x)
  | n + 1, .tup xs => dpL n xs
  | n + 1, .lst xs => dpL n xs
  | _, _ => false
def dpL : Nat → List D → Bool
  | _, [] => true
  | n, d :: ds => dp n d && dpL n ds
end
theorem py_facts : ∀ n : Nat, (∀ d : D, dp n d = true → (py d).canLay0 = true ∧ (py d).depth ≤ n) ∧ ∀ ds : List D, dpL n ds = true → PyData.canLayAll0 (pyL ds) = true ∧ PyData.depthAll (pyL ds) ≤ n := by
  intro n
  induction n with
  | zero =>
    have h0 : ∀ d : D, dp 0 d = true → (py d).canLay0 = true ∧ (py d).depth ≤ 0 := fun d h => by
      cases d with
      | str x => unfold dp at h; exact ⟨by unfold py; exact h, by simp [py, PyData.depth]⟩
      | tup _ => unfold dp at h; cases h
      | lst _ => unfold dp at h; cases h
      | lsx _ => unfold dp at h; cases h
      | dct _ _ _ => unfold dp at h; cases h
      | obj _ _ _ => unfold dp at h; cases h
      | _ => exact ⟨by simp [py, PyData.canLay0], by simp [py, PyData.depth]⟩
    refine ⟨h0, fun ds => ?_⟩
    induction ds with
    | nil => intro _; simp [pyL, PyData.canLayAll0, PyData.depthAll]
    | cons d ds ih =>
      intro h
      unfold dpL at h
      obtain ⟨h1, h2⟩ := Bool.and_eq_true_iff.mp h
      obtain ⟨a, b⟩ := h0 d h1
      obtain ⟨c, e⟩ := ih h2
      simp only [pyL, PyData.canLayAll0, PyData.depthAll, a, c, Bool.and_true, true_and]
      omega
  | succ n ih =>
    obtain ⟨_, ihL⟩ := ih
    have h0 : ∀ d : D, dp (n + 1) d = true → (py d).canLay0 = true ∧ (py d).depth ≤ n + 1 := fun d h => by
      cases d with
      | tup xs =>
        unfold dp at h
        obtain ⟨a, b⟩ := ihL xs h
        simp only [py, PyData.canLay0, PyData.depth, a, true_and]
        omega
      | lst xs =>
        unfold dp at h
        obtain ⟨a, b⟩ := ihL xs h
        simp only [py, PyData.canLay0, PyData.depth, a, true_and]
        omega
      | str x => unfold dp at h; exact ⟨by unfold py; exact h, by simp [py, PyData.depth]⟩
      | lsx _ => unfold dp at h; cases h
      | dct _ _ _ => unfold dp at h; cases h
      | obj _ _ _ => unfold dp at h; cases h
      | _ => exact ⟨by simp [py, PyData.canLay0], by simp [py, PyData.depth]⟩
    refine ⟨h0, fun ds => ?_⟩
    induction ds with
    | nil => intro _; simp [pyL, PyData.canLayAll0, PyData.depthAll]
    | cons d ds ih =>
      intro h
      unfold dpL at h
      obtain ⟨h1, h2⟩ := Bool.and_eq_true_iff.mp h
      obtain ⟨a, b⟩ := h0 d h1
      obtain ⟨c, e⟩ := ih h2
      simp only [pyL, PyData.canLayAll0, PyData.depthAll, a, c, Bool.and_true, true_and]
      omega
theorem shaped_py {n : Nat} {d : D} (hn : n ≤ 64) (h : dp n d = true) : SeqAt.shaped (py d) = true := by
  obtain ⟨a, b⟩ := (py_facts n).1 d h
  unfold SeqAt.shaped
  rw [a, Bool.true_and]
  exact decide_eq_true (by omega)
mutual
theorem sh_Dp {K : PySem.W.Frag} {H : Hp} : ∀ (n : Nat) (d : D) (v : V), dp n d = true → Sh K H d v → Dp K H v (py d)
  | _, .non, v, _, h => by unfold Sh at h; subst h; unfold py; exact .non
  | _, .bl b, v, _, h => by unfold Sh at h; subst h; unfold py; exact .bl b
  | _, .int i, v, _, h => by unfold Sh at h; subst h; unfold py; exact .int i
  | _, .str x, v, _, h => by unfold Sh at h; subst h; unfold py; exact .str x
  | n, .tup xs, v, e, h => by
    unfold Sh at h
    obtain ⟨a, vs, rfl, q, r⟩ := h
    cases n with
    | zero => unfold dp at e; cases e
    | succ n => unfold dp at e; unfold py; exact .tup (SqT.of q) (sh_DpL n xs vs e r)
  | n, .lst xs, v, e, h => by
    unfold Sh at h
    obtain ⟨a, vs, rfl, q, r⟩ := h
    cases n with
    | zero => unfold dp at e; cases e
    | succ n => unfold dp at e; unfold py; exact .lst (SqL.of q) (sh_DpL n xs vs e r)
  | n, .lsx _, v, e, h => by cases n <;> unfold dp at e <;> cases e
  | n, .dct _ _ _, v, e, h => by cases n <;> unfold dp at e <;> cases e
  | n, .obj _ _ _, v, e, h => by cases n <;> unfold dp at e <;> cases e
theorem sh_DpL {K : PySem.W.Frag} {H : Hp} : ∀ (n : Nat) (ds : List D) (vs : List V), dpL n ds = true → ShL K H ds vs → DpAll K H vs (pyL ds)
  | _, [], vs, _, h => by rw [h.nil_inv]; unfold pyL; exact .nil
  | n, d :: ds, vs, e, h => by
    obtain ⟨v, r, rfl, h1, h2⟩ := h.cons_inv
    unfold dpL at e
    obtain ⟨e1, e2⟩ := Bool.and_eq_true_iff.mp e
    unfold pyL
    exact .cons (sh_Dp n d v e1 h1) (sh_DpL n ds r e2 h2)
end
def D.eqv (a b : D) : Bool := PyData.eqv (py a) (py b)
def gEq : D → D → Option D := fun a b => if dp 20 a && dp 20 b then some (.bl (D.eqv a b)) else none
def gNe : D → D → Option D := fun a b => if dp 20 a && dp 20 b then some (.bl (!D.eqv a b)) else none
theorem sc_eq {K : PySem.W.Frag} : ScOp K (rEqD K) gEq := by
  intro x y d1 d2 d H Q e s1 s2 q
  unfold gEq at e
  split at e
  · rename_i c
    obtain ⟨c1, c2⟩ := Bool.and_eq_true_iff.mp c
    cases e
    exact ⟨py d1, py d2, sh_Dp 20 d1 x c1 s1, sh_Dp 20 d2 y c2 s2, shaped_py (by decide) c1, shaped_py (by decide) c2, q _ rfl⟩
  · cases e
theorem sc_ne {K : PySem.W.Frag} : ScOp K (rNeD K) gNe := by
  intro x y d1 d2 d H Q e s1 s2 q
  unfold gNe at e
  split at e
  · rename_i c
    obtain ⟨c1, c2⟩ := Bool.and_eq_true_iff.mp c
    cases e
    exact ⟨py d1, py d2, sh_Dp 20 d1 x c1 s1, sh_Dp 20 d2 y c2 s2, shaped_py (by decide) c1, shaped_py (by decide) c2, q _ rfl⟩
  · cases e
/-- is None -/
def isNon : D → Bool
  | .non => true
  | _ => false
def gIsN : D → D → Option D := fun a b => match b with
  | .non => some (.bl (isNon a))
  | _ => none
def gNotN : D → D → Option D := fun a b => match b with
  | .non => some (.bl (!isNon a))
  | _ => none
theorem isNon_v {K : PySem.W.Frag} {H : Hp} {d : D} {x : V} (h : Sh K H d x) : isNon d = decide (x = .non) := by
  cases d <;> unfold Sh at h <;> unfold isNon
  · rw [h]; rfl
  · rw [h]; rfl
  · rw [h]; rfl
  · rw [h]; rfl
  · obtain ⟨a, _, rfl, _⟩ := h; rfl
  · obtain ⟨a, _, rfl, _⟩ := h; rfl
  · obtain ⟨a, _, rfl, _⟩ := h; rfl
  · obtain ⟨a, _, rfl, _⟩ := h; rfl
  · obtain ⟨a, _, _, rfl, _⟩ := h; rfl
theorem sc_isN {K : PySem.W.Frag} : ScOp K (fun x y H Q => y = .non ∧ Q (.bl (decide (x = .non))) H) gIsN := by
  intro x y d1 d2 d H Q e s1 s2 q
  cases d2 <;> unfold gIsN at e <;> first | cases e | skip
  unfold Sh at s2
  exact ⟨s2, q _ (by rw [isNon_v s1]; rfl)⟩
theorem sc_notN {K : PySem.W.Frag} : ScOp K (fun x y H Q => y = .non ∧ Q (.bl (!decide (x = .non))) H) gNotN := by
  intro x y d1 d2 d H Q e s1 s2 q
  cases d2 <;> unfold gNotN at e <;> first | cases e | skip
  unfold Sh at s2
  exact ⟨s2, q _ (by rw [isNon_v s1]; rfl)⟩

/-! ### truth, tests -/
def truth : D → Option Bool
  | .non => some false
  | .bl b => some b
  | .int i => some (i != 0)
  | .lst xs => some (!xs.isEmpty)
  | .tup xs => some (!xs.isEmpty)
  | _ => none
theorem isEmpty_sh {K : PySem.W.Frag} {H : Hp} {ds : List D} {vs : List V} (h : ShL K H ds vs) : vs.isEmpty = ds.isEmpty := by
  have := h.length
  cases vs <;> cases ds <;> simp_all
theorem truth_v {K : PySem.W.Frag} {H : Hp} {d : D} {x : V} {b : Bool} (h : Sh K H d x) (e : truth d = some b) : TruV K x H b := by
  cases d <;> unfold truth at e <;> unfold Sh at h <;> first | cases e | skip
  · rw [h]; exact rfl
  · rw [h]; exact rfl
  · rw [h]; exact rfl
  · obtain ⟨a, xs, rfl, q, r⟩ := h; exact .inr (.inl ⟨xs, SqT.of q, by rw [isEmpty_sh r]⟩)
  · obtain ⟨a, xs, rfl, q, r⟩ := h; exact .inl ⟨xs, SqL.of q, by rw [isEmpty_sh r]⟩
def tTru (g : Env → RR) : Env → TR := fun env => bd (g env) fun r => bd (opt (truth r.1)) fun b => ok (b, r.2)
theorem vt_tru (h : VR X W p e g) (he : ∀ whole, isTrue e X.env whole = (do let v ← whole; standAt e.pos; holding [v] (truthy v))) : VT X W p e (tTru g) := by
  obtain ⟨t, ht, hr⟩ := h.ex
  refine ⟨_, pt_truth ht he, fun G σ H fp env Q rl z => hr G σ H fp env _ rl ?_⟩
  unfold tTru ResT at z
  rw [Res.bd] at z
  refine z.imp (fun r _ z v G' H' fp' po s => ?_) fun x z => z
  rw [Res.bd] at z
  obtain ⟨b, hb, z⟩ := z.opt
  exact ⟨b, truth_v s hb, z G' H' fp' po⟩
/-- a test as a value, where the value is True or False -/
def ofT (f : Env → TR) : Env → ER := fun env => bd (f env) fun r => ok (0, .bl r.1, r.2)
def tNotF (f : Env → TR) : Env → TR := fun env => bd (f env) fun r => ok (!r.1, r.2)
theorem vt_not {pos : Pos} {f : Env → TR} (h : VT X W p e f) : VT X W p (.UnaryOp .Not e pos) (tNotF f) := by
  obtain ⟨t, ht, hr⟩ := h.ex
  refine ⟨_, pt_not ht, fun G σ H fp env Q rl z => hr G σ H fp env _ rl ?_⟩
  unfold tNotF ResT at z
  rw [Res.bd] at z
  exact z
def tAndF (f g : Env → TR) : Env → TR := fun env => bd (f env) fun r => if r.1 then g r.2 else ok (false, r.2)
def tOrF (f g : Env → TR) : Env → TR := fun env => bd (f env) fun r => if r.1 then ok (true, r.2) else g r.2
theorem vw_and1 {pos : Pos} {f : Env → TR} (h : VT X W p e f) : VW X W p (.BoolOp .And [e] pos) f := by
  obtain ⟨t, ht, hr⟩ := h.ex
  exact ⟨_, pw_and1 ht, hr⟩
theorem vw_or1 {pos : Pos} {f : Env → TR} (h : VT X W p e f) : VW X W p (.BoolOp .Or [e] pos) f := by
  obtain ⟨t, ht, hr⟩ := h.ex
  exact ⟨_, pw_or1 ht, hr⟩
theorem PostR.and_l {K : PySem.W.Frag} {G G' H H' : Hp} {σ : St} {fp fp' : List Addr} {env env' : Env} (h : PostR K p G σ H fp env env' G' H' fp') : PostR K (p && q) G σ H fp env env' G' H' fp' :=
  ⟨h.rl, h.st, fun z => h.pu (Bool.and_eq_true_iff.mp z).1⟩
theorem vw_and {pos : Pos} {es : List Expr} {f g : Env → TR} (h1 : VT X W p a f) (h2 : VW X W q (.BoolOp .And (b :: es) pos) g) : VW X W (p && q) (.BoolOp .And (a :: b :: es) pos) (tAndF f g) := by
  obtain ⟨t1, h1, r1⟩ := h1.ex
  obtain ⟨t2, h2, r2⟩ := h2.ex
  refine ⟨_, pw_and h1 h2, fun G σ H fp env Q rl z => r1 G σ H fp env _ rl ?_⟩
  unfold tAndF ResT at z
  rw [Res.bd] at z
  refine z.imp (fun r _ z G1 H1 fp1 po1 => ?_) fun x z => z
  cases hb : r.1 with
  | true =>
    rw [hb, if_pos rfl] at z
    rw [if_pos rfl]
    exact r2 G1 σ H1 fp1 r.2 _ po1.rl (z.imp (fun r' _ z G2 H2 fp2 po2 => z G2 H2 fp2 (po1.trans po2)) fun x z => z.back po1.st)
  | false =>
    rw [hb, if_neg Bool.false_ne_true] at z
    rw [if_neg Bool.false_ne_true]
    exact z G1 H1 fp1 po1.and_l
theorem vw_or {pos : Pos} {es : List Expr} {f g : Env → TR} (h1 : VT X W p a f) (h2 : VW X W q (.BoolOp .Or (b :: es) pos) g) : VW X W (p && q) (.BoolOp .Or (a :: b :: es) pos) (tOrF f g) := by
  obtain ⟨t1, h1, r1⟩ := h1.ex
  obtain ⟨t2, h2, r2⟩ := h2.ex
  refine ⟨_, pw_or h1 h2, fun G σ H fp env Q rl z => r1 G σ H fp env _ rl ?_⟩
  unfold tOrF ResT at z
  rw [Res.bd] at z
  refine z.imp (fun r _ z G1 H1 fp1 po1 => ?_) fun x z => z
  cases hb : r.1 with
  | true =>
    rw [hb, if_pos rfl] at z
    rw [if_pos rfl]
    exact z G1 H1 fp1 po1.and_l
  | false =>
    rw [hb, if_neg Bool.false_ne_true] at z
    rw [if_neg Bool.false_ne_true]
    exact r2 G1 σ H1 fp1 r.2 _ po1.rl (z.imp (fun r' _ z G2 H2 fp2 po2 => z G2 H2 fp2 (po1.trans po2)) fun x z => z.back po1.st)
theorem vt_w {f : Env → TR} (h : VW X W p e f) : VT X W p e f := by
  obtain ⟨t, ht, hr⟩ := h.ex
  exact ⟨_, ht.pt, hr⟩
/-- values that are True or False -/
structure VB (X : Cx) (W : WX) (p : Bool) (e : Expr) (f : Env → TR) : Prop where
  ex : ∃ t, PE X e t ∧ ∀ G σ H fp env Q, Rl X.K G σ H env fp → ResT X.K W p G σ H fp env (f env) (fun b H' => Q (.bl b) H') → t σ H Q
theorem ve_b {f : Env → TR} (h : VB X W p e f) : VE X W p e (ofT f) := by
  obtain ⟨t, ht, hr⟩ := h.ex
  refine ⟨_, ht, fun G σ H fp env Q rl z => hr G σ H fp env Q rl ?_⟩
  unfold ofT ResE at z
  rw [Res.bd] at z
  exact z.imp (fun r _ z G' H' fp' po => z (.bl r.1) G' H' fp' [] (PostE.shared po (by unfold Sh; rfl))) fun x z => z
def toT (f : Env → ER) : Env → TR := fun env => bd (f env) fun r => bd (opt r.2.1.asB) fun b => ok (b, r.2.2)
theorem vb_e (h : VE X W p e f) : VB X W p e (toT f) := by
  obtain ⟨t, ht, hr⟩ := h.ex
  refine ⟨_, ht, fun G σ H fp env Q rl z => hr G σ H fp env Q rl ?_⟩
  unfold toT ResT at z
  rw [Res.bd] at z
  refine z.imp (fun r _ z v G' H' fp' fpr po => ?_) fun x z => z
  rw [Res.bd] at z
  obtain ⟨b, hb, z⟩ := z.opt
  have s := po.shH
  rw [asB_eq hb] at s
  unfold Sh at s
  rw [s]
  exact z G' H' fp' po.toR
theorem vb_not {pos : Pos} {f : Env → TR} (h : VB X W p e f) : VB X W p (.UnaryOp .Not e pos) (tNotF f) := by
  obtain ⟨t, ht, hr⟩ := h.ex
  refine ⟨_, pe_not ht, fun G σ H fp env Q rl z => hr G σ H fp env _ rl ?_⟩
  unfold tNotF ResT at z
  rw [Res.bd] at z
  exact z.imp (fun r _ z G' H' fp' po => ⟨r.1, rfl, z G' H' fp' po⟩) fun x z => z
theorem vb_one {op : BoolOp} {pos : Pos} {f : Env → TR} (h : VB X W p e f) : VB X W p (.BoolOp op [e] pos) f := by
  obtain ⟨t, ht, hr⟩ := h.ex
  exact ⟨_, pe_one ht, hr⟩
theorem vb_and {pos : Pos} {es : List Expr} {f g : Env → TR} (h1 : VB X W p a f) (h2 : VB X W q (.BoolOp .And (b :: es) pos) g) : VB X W (p && q) (.BoolOp .And (a :: b :: es) pos) (tAndF f g) := by
  obtain ⟨t1, h1, r1⟩ := h1.ex
  obtain ⟨t2, h2, r2⟩ := h2.ex
  refine ⟨_, pe_and h1 h2, fun G σ H fp env Q rl z => r1 G σ H fp env _ rl ?_⟩
  unfold tAndF ResT at z
  rw [Res.bd] at z
  refine z.imp (fun r _ z G1 H1 fp1 po1 => ⟨r.1, rfl, ?_⟩) fun x z => z
  cases hb : r.1 with
  | true =>
    rw [hb, if_pos rfl] at z
    rw [if_pos rfl]
    exact r2 G1 σ H1 fp1 r.2 _ po1.rl (z.imp (fun r' _ z G2 H2 fp2 po2 => z G2 H2 fp2 (po1.trans po2)) fun x z => z.back po1.st)
  | false =>
    rw [hb, if_neg Bool.false_ne_true] at z
    rw [if_neg Bool.false_ne_true]
    exact z G1 H1 fp1 po1.and_l
theorem vb_or {pos : Pos} {es : List Expr} {f g : Env → TR} (h1 : VB X W p a f) (h2 : VB X W q (.BoolOp .Or (b :: es) pos) g) : VB X W (p && q) (.BoolOp .Or (a :: b :: es) pos) (tOrF f g) := by
  obtain ⟨t1, h1, r1⟩ := h1.ex
  obtain ⟨t2, h2, r2⟩ := h2.ex
  refine ⟨_, pe_or h1 h2, fun G σ H fp env Q rl z => r1 G σ H fp env _ rl ?_⟩
  unfold tOrF ResT at z
  rw [Res.bd] at z
  refine z.imp (fun r _ z G1 H1 fp1 po1 => ⟨r.1, rfl, ?_⟩) fun x z => z
  cases hb : r.1 with
  | true =>
    rw [hb, if_pos rfl] at z
    rw [if_pos rfl]
    exact z G1 H1 fp1 po1.and_l
  | false =>
    rw [hb, if_neg Bool.false_ne_true] at z
    rw [if_neg Bool.false_ne_true]
    exact r2 G1 σ H1 fp1 r.2 _ po1.rl (z.imp (fun r' _ z G2 H2 fp2 po2 => z G2 H2 fp2 (po1.trans po2)) fun x z => z.back po1.st)
/-- a if t else b -/
def eIf (t : Env → TR) (f g : Env → ER) : Env → ER := fun env => bd (t env) fun r => if r.1 then f r.2 else g r.2
theorem PostE.wk {K : PySem.W.Frag} {G G' H H' : Hp} {σ : St} {fp fp' fpr : List Addr} {env env' : Env} {k : Nat} {d : D} {v : V} (h : PostE K p G σ H fp env k d env' v G' H' fp' fpr) : PostE K false G σ H fp env k d env' v G' H' fp' fpr :=
  ⟨h.rl, h.st, h.ow, h.nd, h.out, fun z => (nomatch z)⟩
theorem ve_if {c : Expr} {pos : Pos} {t : Env → TR} {p q r : Bool} (hc : VT X W p c t) (ha : VE X W q a f1) (hb : VE X W r b f2) : VE X W false (.IfExp c a b pos) (eIf t f1 f2) := by
  obtain ⟨t0, h0, r0⟩ := hc.ex
  obtain ⟨t1, h1, r1⟩ := ha.ex
  obtain ⟨t2, h2, r2⟩ := hb.ex
  refine ⟨_, pe_ifExp h0 h1 h2, fun G σ H fp env Q rl z => r0 G σ H fp env _ rl ?_⟩
  unfold eIf ResE at z
  rw [Res.bd] at z
  refine z.imp (fun x _ z G1 H1 fp1 po1 => ?_) fun x z => z
  cases hb : x.1 with
  | true =>
    rw [hb, if_pos rfl] at z
    rw [if_pos rfl]
    exact r1 G1 σ H1 fp1 x.2 _ po1.rl (z.imp (fun r' _ z v G2 H2 fp2 fpr po2 => z v G2 H2 fp2 fpr (PostE.transR po1 po2).wk) fun x z => z.back po1.st)
  | false =>
    rw [hb, if_neg Bool.false_ne_true] at z
    rw [if_neg Bool.false_ne_true]
    exact r2 G1 σ H1 fp1 x.2 _ po1.rl (z.imp (fun r' _ z v G2 H2 fp2 fpr po2 => z v G2 H2 fp2 fpr (PostE.transR po1 po2).wk) fun x z => z.back po1.st)
/-- a < b < c, all read, b and c pure -/
def chn (g1 g2 : D → D → Option D) (f1 f2 f3 : Env → RR) : Env → TR := fun env => bd (f1 env) fun r1 => bd (f2 r1.2) fun r2 => bd (opt (g1 r1.1 r2.1)) fun d => bd (opt d.asB) fun k =>
  if k then bd (f3 r2.2) fun r3 => bd (opt (g2 r2.1 r3.1)) fun d' => bd (opt d'.asB) fun k' => ok (k', r3.2) else ok (false, r2.2)
theorem vb_chain {c : Expr} {r r' : R2} {h1 h2 : D → D → Option D} {g3 : Env → RR} (hs : ScOp X.K r h1) (hs' : ScOp X.K r' h2) (mk : ∀ {ta tb tc : TE}, PE X a ta → PE X b tb → PE X c tc → PE X e (tChain r r' ta tb tc))
    (ha : VR X W p a g1) (hb : VR X W true b g2) (hc : VR X W true c g3) : VB X W p e (chn h1 h2 g1 g2 g3) := by
  obtain ⟨ta, ha, ra⟩ := ha.ex
  obtain ⟨tb, hb, rb⟩ := hb.ex
  obtain ⟨tc, hc, rc⟩ := hc.ex
  refine ⟨_, mk ha hb hc, fun G σ H fp env Q rl z => ra G σ H fp env _ rl ?_⟩
  unfold chn ResT at z
  rw [Res.bd] at z
  refine z.imp (fun r1 _ z x G1 H1 fp1 po1 sh1 => ?_) fun x z => z
  rw [Res.bd] at z
  refine rb G1 σ H1 fp1 r1.2 _ po1.rl (z.imp (fun r2 _ z y G2 H2 fp2 po2 sh2 => ?_) fun x z => z.back po1.st)
  rw [Res.bd] at z
  obtain ⟨d, hd, z⟩ := z.opt
  rw [Res.bd] at z
  obtain ⟨k, hk, z⟩ := z.opt
  obtain ⟨e2, f2, k2⟩ := po2.pu rfl
  have po := po1.trans po2
  rw [Bool.and_true] at po
  refine hs x y r1.1 r2.1 d H2 _ hd (Sh.mono (In.of k2) _ x sh1) sh2 fun v hv => ?_
  rw [asB_eq hk] at hv
  cases hv
  refine ⟨k, rfl, ?_⟩
  cases k with
  | true =>
    rw [if_pos rfl] at z ⊢
    rw [Res.bd] at z
    refine rc G2 σ H2 fp2 r2.2 _ po2.rl (z.imp (fun r3 _ z w G3 H3 fp3 po3 sh3 => ?_) fun x z => z.back po.st)
    rw [Res.bd] at z
    obtain ⟨d', hd', z⟩ := z.opt
    rw [Res.bd] at z
    obtain ⟨k', hk', z⟩ := z.opt
    obtain ⟨e3, f3, k3⟩ := po3.pu rfl
    have po' := po.trans po3
    rw [Bool.and_true] at po'
    refine hs' y w r2.1 r3.1 d' H3 _ hd' (Sh.mono (In.of k3) _ y sh2) sh3 fun v hv => ?_
    rw [asB_eq hk'] at hv
    cases hv
    exact z G3 H3 fp3 po'
  | false =>
    rw [if_neg Bool.false_ne_true] at z ⊢
    exact z G2 H2 fp2 po
theorem vt_chain {c : Expr} {r r' : R2} {h1 h2 : D → D → Option D} {g3 : Env → RR} (hs : ScOp X.K r h1) (hs' : ScOp X.K r' h2) (mk : ∀ {ta tb tc : TE}, PE X a ta → PE X b tb → PE X c tc → PT X e (tTest (tChain r r' ta tb tc)))
    (ha : VR X W p a g1) (hb : VR X W true b g2) (hc : VR X W true c g3) : VT X W p e (chn h1 h2 g1 g2 g3) := by
  obtain ⟨ta, ha, ra⟩ := ha.ex
  obtain ⟨tb, hb, rb⟩ := hb.ex
  obtain ⟨tc, hc, rc⟩ := hc.ex
  refine ⟨_, mk ha hb hc, fun G σ H fp env Q rl z => ra G σ H fp env _ rl ?_⟩
  unfold chn ResT at z
  rw [Res.bd] at z
  refine z.imp (fun r1 _ z x G1 H1 fp1 po1 sh1 => ?_) fun x z => z
  rw [Res.bd] at z
  refine rb G1 σ H1 fp1 r1.2 _ po1.rl (z.imp (fun r2 _ z y G2 H2 fp2 po2 sh2 => ?_) fun x z => z.back po1.st)
  rw [Res.bd] at z
  obtain ⟨d, hd, z⟩ := z.opt
  rw [Res.bd] at z
  obtain ⟨k, hk, z⟩ := z.opt
  obtain ⟨e2, f2, k2⟩ := po2.pu rfl
  have po := po1.trans po2
  rw [Bool.and_true] at po
  refine hs x y r1.1 r2.1 d H2 _ hd (Sh.mono (In.of k2) _ x sh1) sh2 fun v hv => ?_
  rw [asB_eq hk] at hv
  cases hv
  refine ⟨k, rfl, ?_⟩
  cases k with
  | true =>
    rw [if_pos rfl] at z ⊢
    rw [Res.bd] at z
    refine rc G2 σ H2 fp2 r2.2 _ po2.rl (z.imp (fun r3 _ z w G3 H3 fp3 po3 sh3 => ?_) fun x z => z.back po.st)
    rw [Res.bd] at z
    obtain ⟨d', hd', z⟩ := z.opt
    rw [Res.bd] at z
    obtain ⟨k', hk', z⟩ := z.opt
    obtain ⟨e3, f3, k3⟩ := po3.pu rfl
    have po' := po.trans po3
    rw [Bool.and_true] at po'
    refine hs' y w r2.1 r3.1 d' H3 _ hd' (Sh.mono (In.of k3) _ y sh2) sh3 fun v hv => ?_
    rw [asB_eq hk'] at hv
    cases hv
    exact ⟨k', rfl, z G3 H3 fp3 po'⟩
  | false =>
    rw [if_neg Bool.false_ne_true] at z ⊢
    exact ⟨false, rfl, z G2 H2 fp2 po⟩
end
end VL
/-! Vl5: dicts' keys, subscripts, in, fields, len and other built-ins. -/
namespace VL
open PySem PySem.Spec PyProof.Rows L2

/-! ### keys -/
def kOf1 : D → Option Key
  | .int i => some (.inl i)
  | .str x => some (.inr x)
  | _ => none
def kOfL : List D → Option (List Key)
  | [] => some []
  | d :: ds => match kOf1 d, kOfL ds with
    | some k, some ks => some (k :: ks)
    | _, _ => none
/-- a key: t: a tuple -/
def kOf : Bool → D → Option (Sum Key (List Key))
  | false, d => (kOf1 d).map .inl
  | true, .tup ds => (kOfL ds).map .inr
  | true, _ => none
theorem kOf1_keyD (k : Key) : kOf1 (keyD k) = some k := by cases k <;> rfl
theorem kOfL_keyD : ∀ ks : List Key, kOfL (ks.map keyD) = some ks
  | [] => rfl
  | k :: ks => by rw [List.map_cons]; unfold kOfL; rw [kOf1_keyD, kOfL_keyD ks]
theorem keyD_kOf1 {d : D} {k : Key} (h : kOf1 d = some k) : d = keyD k := by
  cases d <;> unfold kOf1 at h <;> first | (cases h; rfl) | cases h
theorem keyD_kOfL : ∀ {ds : List D} {ks : List Key}, kOfL ds = some ks → ds = ks.map keyD
  | [], _, h => by cases h; rfl
  | d :: ds, _, h => by
    unfold kOfL at h
    cases h1 : kOf1 d with
    | none => rw [h1] at h; cases h
    | some k =>
      cases h2 : kOfL ds with
      | none => rw [h1, h2] at h; cases h
      | some ks =>
        rw [h1, h2] at h
        cases h
        rw [keyD_kOf1 h1, keyD_kOfL h2]; rfl
theorem sh_key {K : PySem.W.Frag} {H : Hp} {k : Key} {v : V} (h : Sh K H (keyD k) v) : v = kV k := by
  cases k <;> (unfold keyD Sh at h; exact h)
theorem shL_keys {K : PySem.W.Frag} {H : Hp} : ∀ {ks : List Key} {vs : List V}, ShL K H (ks.map keyD) vs → vs = ks.map kV
  | [], _, h => h.nil_inv
  | k :: ks, _, h => by
    obtain ⟨v, r, rfl, h1, h2⟩ := h.cons_inv
    rw [sh_key h1, shL_keys h2]; rfl
/-- the value at a key -/
def dval (t : Bool) : List D → List D → Sum Key (List Key) → Option D
  | k :: ks, v :: vs, q => if kOf t k = some q then some v else dval t ks vs q
  | _, _, _ => none
/-- a store: in its place, or at the end; the values -/
def dputV (t : Bool) : List D → List D → Sum Key (List Key) → D → List D
  | k :: ks, v :: vs, q, x => (if kOf t k = some q then x else v) :: dputV t ks vs q x
  | _, _, _, _ => []
def dhas (t : Bool) (ks : List D) (q : Sum Key (List Key)) : Bool := ks.any fun k => decide (kOf t k = some q)
theorem dval_K {K : PySem.W.Frag} {G : Hp} (k : Key) : ∀ (kvs : List (Key × V)) (vs : List D), ShL K G vs (kvs.map (·.2)) →
    match dval false (kvs.map fun p => keyD p.1) vs (.inl k), valV kvs k with
    | none, none => True
    | some d, some v => Sh K G d v
    | _, _ => False
  | [], vs, _ => by simp [dval, valV_nil]
  | p :: kvs, vs, h => by
    cases vs with
    | nil => have := h.nil_inv; simp at this
    | cons d ds =>
      obtain ⟨v, r, e, h1, h2⟩ := h.cons_inv
      simp only [List.map_cons, List.cons.injEq] at e
      obtain ⟨rfl, rfl⟩ := e
      simp only [List.map_cons]
      unfold dval
      have ke : kOf false (keyD p.1) = some (.inl p.1) := by
        show (kOf1 (keyD p.1)).map Sum.inl = _
        rw [kOf1_keyD]; rfl
      rw [ke]
      by_cases c : p.1 = k
      · subst c
        rw [if_pos rfl, valV_pos rfl]
        exact h1
      · rw [if_neg (fun z => c (Sum.inl.inj (Option.some.inj z))), valV_neg c]
        exact dval_K k kvs ds h2
theorem dval_T {K : PySem.W.Frag} {G : Hp} (k : List Key) : ∀ (kvs : List (List Key × V)) (vs : List D), ShL K G vs (kvs.map (·.2)) →
    match dval true (kvs.map fun p => D.tup (p.1.map keyD)) vs (.inr k), valV kvs k with
    | none, none => True
    | some d, some v => Sh K G d v
    | _, _ => False
  | [], vs, _ => by simp [dval, valV_nil]
  | p :: kvs, vs, h => by
    cases vs with
    | nil => have := h.nil_inv; simp at this
    | cons d ds =>
      obtain ⟨v, r, e, h1, h2⟩ := h.cons_inv
      simp only [List.map_cons, List.cons.injEq] at e
      obtain ⟨rfl, rfl⟩ := e
      simp only [List.map_cons]
      unfold dval
      have ke : kOf true (.tup (p.1.map keyD)) = some (.inr p.1) := by
        show (kOfL (p.1.map keyD)).map Sum.inr = _
        rw [kOfL_keyD]; rfl
      rw [ke]
      by_cases c : p.1 = k
      · subst c
        rw [if_pos rfl, valV_pos rfl]
        exact h1
      · rw [if_neg (fun z => c (Sum.inr.inj (Option.some.inj z))), valV_neg c]
        exact dval_T k kvs ds h2
/-- the key as a value, what the dict holds there -/
theorem dct_get {K : PySem.W.Frag} {G H : Hp} {a : Addr} {t : Bool} {ks vs : List D} {xs : List V} {dk : D} {y : V} {q : Sum Key (List Key)} (h : DctAt H a t ks xs) (sv : ShL K G vs xs) (sk : Sh K H dk y) (e : kOf t dk = some q) :
    ∃ o, DGet H a y o ∧ match dval t ks vs q, o with
    | none, none => True
    | some d, some v => Sh K G d v
    | _, _ => False := by
  rcases h with ⟨rfl, kvs, h, e1, e2⟩ | ⟨rfl, kvs, h, e1, e2⟩
  · unfold kOf at e
    obtain ⟨k, hk, rfl⟩ := Option.map_eq_some_iff.mp e
    rw [keyD_kOf1 hk] at sk
    subst e1 e2
    exact ⟨_, .inl ⟨kvs, k, h, sh_key sk, rfl⟩, dval_K k kvs vs sv⟩
  · cases dk with
    | tup ds =>
      unfold kOf at e
      obtain ⟨k, hk, rfl⟩ := Option.map_eq_some_iff.mp e
      unfold Sh at sk
      obtain ⟨b, ys, rfl, hb, sl⟩ := sk
      rw [keyD_kOfL hk] at sl
      rw [shL_keys sl] at hb
      subst e1 e2
      exact ⟨_, .inr ⟨kvs, k, b, h, rfl, hb, rfl⟩, dval_T k kvs vs sv⟩
    | _ => cases e

/-! ### subscripts -/
def D.ix : D → D → Option D
  | .lst xs, .int i => atI xs i
  | .lsx xs, .int i => atI xs i
  | .tup xs, .int i => atI xs i
  | .str z, .int i => if z.length ≤ cap then (atI z.cps.toList i).map fun c => .str ⟨#[c]⟩ else none
  | .dct t ks vs, k => (kOf t k).bind fun q => dval t ks vs q
  | _, _ => none
def isDct : D → Bool
  | .dct _ _ _ => true
  | _ => false
theorem atI_sh {K : PySem.W.Frag} {G : Hp} {ds : List D} {vs : List V} {i : Int} {d : D} (h : ShL K G ds vs) (e : atI ds i = some d) : ∃ v, atI vs i = some v ∧ Sh K G d v := by
  unfold atI at e ⊢
  rw [h.length]
  obtain ⟨j, hj, e⟩ := Option.bind_eq_some_iff.mp e
  obtain ⟨v, hv, s⟩ := h.get e
  exact ⟨v, by rw [hj]; exact hv, s⟩
def rDG : R2 := fun x y H Q => ∃ a v, x = .ref a ∧ DGet H a y (some v) ∧ Q v H
/-- a whole that stands in H, its items by G -/
def CI (K : PySem.W.Frag) (G H : Hp) : D → V → Prop
  | .lst ds, x => ∃ a xs, x = .ref a ∧ SqL K H a xs ∧ ShL K G ds xs
  | .lsx ds, x => ∃ a xs, x = .ref a ∧ SqL K H a xs ∧ ShL K G ds xs
  | .tup ds, x => ∃ a xs, x = .ref a ∧ SqT K H a xs ∧ ShL K G ds xs
  | .dct t ks ds, x => ∃ a xs, x = .ref a ∧ DctAt H a t ks xs ∧ ShL K G ds xs
  | .str z, x => x = .str z
  | _, _ => False
theorem CI.sh {K : PySem.W.Frag} {G H : Hp} {d : D} {x : V} (i : In G H) (h : Sh K G d x) : CI K G H d x ∨ (∃ w, scV d = some w ∧ ∀ z, d ≠ .str z) ∨ ∃ c ns ds, d = .obj c ns ds := by
  cases d with
  | lst ds => unfold Sh at h; obtain ⟨a, xs, e, q, r⟩ := h; exact .inl ⟨a, xs, e, SqL.of (i.lst q), r⟩
  | lsx ds => unfold Sh at h; obtain ⟨a, xs, e, q, r⟩ := h; exact .inl ⟨a, xs, e, i.sqL q, r⟩
  | tup ds => unfold Sh at h; obtain ⟨a, xs, e, q, r⟩ := h; exact .inl ⟨a, xs, e, SqT.of (i.tup q), r⟩
  | dct t ks ds => unfold Sh at h; obtain ⟨a, xs, e, q, r⟩ := h; exact .inl ⟨a, xs, e, i.dct q, r⟩
  | str z => unfold Sh at h; exact .inl h
  | obj c ns ds => exact .inr (.inr ⟨c, ns, ds, rfl⟩)
  | non => exact .inr (.inl ⟨_, rfl, fun _ => by simp⟩)
  | bl b => exact .inr (.inl ⟨_, rfl, fun _ => by simp⟩)
  | int n => exact .inr (.inl ⟨_, rfl, fun _ => by simp⟩)
theorem ix_ci {K : PySem.W.Frag} {G H : Hp} {d1 d2 d : D} {x : V} (i : In G H) (e : D.ix d1 d2 = some d) (h : Sh K G d1 x) : CI K G H d1 x := by
  rcases CI.sh i h with h | ⟨w, h, n⟩ | ⟨c, ns, ds, rfl⟩
  · exact h
  · cases d1 <;> unfold D.ix at e <;> first | exact absurd rfl (n _) | cases e | (unfold scV at h; cases h)
  · unfold D.ix at e; cases d2 <;> cases e
theorem CI.ow1 {K : PySem.W.Frag} {G H : Hp} {d1 d2 d : D} {x : V} {fp : List Addr} (i : In G H) (e : D.ix d1 d2 = some d) (h : Ow K G H 1 d1 x fp) : CI K G H d1 x := by
  cases d1 with
  | lst ds => obtain ⟨a, xs, f, e, h1, h2, h3⟩ := h; exact ⟨a, xs, e, SqL.of h1, (OwL.sh.mp h2).1⟩
  | dct t ks ds => obtain ⟨a, xs, f, e, _, h1, h2, h3⟩ := h; exact ⟨a, xs, e, h1, (OwL.sh.mp h2).1⟩
  | obj c ns ds => unfold D.ix at e; cases d2 <;> cases e
  | tup ds => exact ix_ci i e h.1
  | lsx ds => exact ix_ci i e h.1
  | str z => exact ix_ci i e h.1
  | non => unfold D.ix at e; cases d2 <;> cases e
  | bl b => unfold D.ix at e; cases d2 <;> cases e
  | int n => unfold D.ix at e; cases d2 <;> cases e
theorem ix_shL {K : PySem.W.Frag} {G H : Hp} {d1 d2 d : D} {x y : V} {Q : VK} (c : isDct d1 = false) (e : D.ix d1 d2 = some d) (s1 : CI K G H d1 x) (s2 : Sh K H d2 y) (q : ∀ v, Sh K G d v → Q v H) : rIx K x y H Q := by
  cases d1 with
  | lst xs =>
    cases d2 <;> unfold D.ix at e <;> first | cases e | skip
    rename_i n
    unfold Sh at s2
    obtain ⟨a, vs, rfl, hl, sl⟩ := s1
    obtain ⟨v, hv, s⟩ := atI_sh sl e
    exact .inl ⟨a, vs, n, v, rfl, s2, hl, hv, q v s⟩
  | lsx xs =>
    cases d2 <;> unfold D.ix at e <;> first | cases e | skip
    rename_i n
    unfold Sh at s2
    obtain ⟨a, vs, rfl, hl, sl⟩ := s1
    obtain ⟨v, hv, s⟩ := atI_sh sl e
    exact .inl ⟨a, vs, n, v, rfl, s2, hl, hv, q v s⟩
  | tup xs =>
    cases d2 <;> unfold D.ix at e <;> first | cases e | skip
    rename_i n
    unfold Sh at s2
    obtain ⟨a, vs, rfl, hl, sl⟩ := s1
    obtain ⟨v, hv, s⟩ := atI_sh sl e
    exact .inr (.inl ⟨a, vs, n, v, rfl, s2, hl, hv, q v s⟩)
  | str z =>
    cases d2 <;> unfold D.ix at e <;> first | cases e | skip
    rename_i n
    unfold Sh at s2
    have e : (if z.length ≤ cap then (atI z.cps.toList n).map fun c => D.str ⟨#[c]⟩ else none) = some d := e
    by_cases c : z.length ≤ cap
    · rw [if_pos c] at e
      obtain ⟨k, hk, rfl⟩ := Option.map_eq_some_iff.mp e
      exact .inr (.inr ⟨z, n, k, s1, s2, cap_line c, hk, q _ (by unfold Sh; rfl)⟩)
    · rw [if_neg c] at e; cases e
  | dct t ks vs => cases c
  | non => exact s1.elim
  | bl b => exact s1.elim
  | int n => exact s1.elim
  | obj c ns ds => exact s1.elim
theorem ix_shD {K : PySem.W.Frag} {G H : Hp} {d1 d2 d : D} {x y : V} {Q : VK} (c : isDct d1 = true) (e : D.ix d1 d2 = some d) (s1 : CI K G H d1 x) (s2 : Sh K H d2 y) (q : ∀ v, Sh K G d v → Q v H) : rDG x y H Q := by
  cases d1 with
  | dct t ks vs =>
    have e : ((kOf t d2).bind fun q => dval t ks vs q) = some d := by unfold D.ix at e; cases d2 <;> exact e
    obtain ⟨k, hk, hd⟩ := Option.bind_eq_some_iff.mp e
    obtain ⟨a, xs, rfl, ha, sl⟩ := s1
    obtain ⟨o, g, m⟩ := dct_get ha sl s2 hk
    rw [hd] at m
    cases o with
    | none => exact m.elim
    | some v => exact ⟨a, v, rfl, g, q v m⟩
  | _ => cases c
section
variable {X : Cx} {W : WX} {p q : Bool} {e a b : Expr} {es : List Expr} {f f1 f2 : Env → ER} {g g1 g2 : Env → RR} {fa : Env → AR} {pos : Pos}
/-- what r asks of an item whose whole satisfies c -/
def IxS (K : PySem.W.Frag) (c : Bool) (r : R2) : Prop := ∀ {G H : Hp} {d1 d2 d : D} {x y : V} {Q : VK}, isDct d1 = c → D.ix d1 d2 = some d → CI K G H d1 x → Sh K H d2 y → (∀ v, Sh K G d v → Q v H) → r x y H Q
theorem ix_read {K : PySem.W.Frag} {c : Bool} {r : R2} {ta tb : TE} {G : Hp} {σ : St} {H : Hp} {fp : List Addr} {env : Env} {Q : VK} (hs : IxS K c r)
    (ha : ∀ G σ H fp env Q, Rl K G σ H env fp → ResR K W p G σ H fp env (g1 env) Q → ta σ H Q)
    (hb : ∀ G σ H fp env Q, Rl K G σ H env fp → ResR K W true G σ H fp env (g2 env) Q → tb σ H Q)
    (rl : Rl K G σ H env fp) (hc : ∀ d env', g1 env = ok (d, env') → isDct d = c) (z : ResR K W p G σ H fp env (bin D.ix g1 g2 env) Q) : tOp r ta tb σ H Q := by
  unfold bin ResR at z
  rw [Res.bd] at z
  refine ha G σ H fp env _ rl (z.imp (fun r1 e1 z x G1 H1 fp1 po1 sh1 => ?_) fun x z => z)
  rw [Res.bd] at z
  refine hb G1 σ H1 fp1 r1.2 _ po1.rl (z.imp (fun r2 _ z y G2 H2 fp2 po2 sh2 => ?_) fun x z => z.back po1.st)
  rw [Res.bd] at z
  obtain ⟨d, hd, z⟩ := z.opt
  obtain ⟨e2, f2, k2⟩ := po2.pu rfl
  have po := po1.trans po2
  rw [Bool.and_true] at po
  exact hs (hc r1.1 r1.2 e1) hd (ix_ci (In.refl H2) hd (Sh.mono (In.of k2) _ x sh1)) sh2 fun v s => z v G2 H2 fp2 po s
/-- a[b], read -/
theorem vr_ix (hu : X.A.units + 1 < cLine) (ha : VR X W p a g1) (hb : VR X W true b g2) (hs : PlainIx b := by intro _ _; rfl) : VR X W p (.Subscript a b pos) (bin D.ix g1 g2) := by
  obtain ⟨ta, ha, ra⟩ := ha.ex
  obtain ⟨tb, hb, rb⟩ := hb.ex
  refine ⟨_, PE.or (pe_ix ix_seq ha hb hs) (pe_dget hu ha hb hs), fun G σ H fp env Q rl z => ?_⟩
  by_cases c : ∃ d env', g1 env = ok (d, env') ∧ isDct d = true
  · obtain ⟨d, env', e, c⟩ := c
    exact .inr (ix_read (r := rDG) (c := true) ix_shD ra rb rl (fun d' env'' e' => by rw [e] at e'; cases e'; exact c) z)
  · refine .inl (ix_read (c := false) ix_shL ra rb rl (fun d' env' e' => ?_) z)
    cases h : isDct d' with
    | false => rfl
    | true => exact absurd ⟨d', env', e', h⟩ c
/-- a[b], a shared for good -/
def eIx (f1 : Env → ER) (g2 : Env → RR) : Env → ER := fun env => bd (f1 env) fun r1 => bd (g2 r1.2.2) fun r2 => bd (opt (D.ix r1.2.1 r2.1)) fun d => ok (0, d, r2.2)
theorem ix_dur {K : PySem.W.Frag} {c : Bool} {r : R2} {ta tb : TE} {G : Hp} {σ : St} {H : Hp} {fp : List Addr} {env : Env} {Q : VK} (hs : IxS K c r)
    (ha : ∀ G σ H fp env Q, Rl K G σ H env fp → ResE K W p G σ H fp env (f1 env) Q → ta σ H Q)
    (hb : ∀ G σ H fp env Q, Rl K G σ H env fp → ResR K W q G σ H fp env (g2 env) Q → tb σ H Q)
    (rl : Rl K G σ H env fp) (hc : ∀ k d env', f1 env = ok (k, d, env') → isDct d = c) (z : ResE K W (p && q) G σ H fp env (eIx f1 g2 env) Q) : tOp r ta tb σ H Q := by
  unfold eIx ResE at z
  rw [Res.bd] at z
  refine ha G σ H fp env _ rl (z.imp (fun r1 e1 z x G1 H1 fp1 fpr po1 => ?_) fun x z => z)
  obtain ⟨G1', po1⟩ := po1.frz
  rw [Res.bd] at z
  refine hb G1' σ H1 fp1 r1.2.2 _ po1.rl (z.imp (fun r2 _ z y G2 H2 fp2 po2 sh2 => ?_) fun x z => z.back po1.toR.st)
  rw [Res.bd] at z
  obtain ⟨d, hd, z⟩ := z.opt
  have po := po1.toR.trans po2
  exact hs (hc r1.1 r1.2.1 r1.2.2 e1) hd (ix_ci po2.rl.gin hd (Sh.mono (In.of po2.st.gg) _ x po1.sh0)) sh2 fun v s => z v G2 H2 fp2 [] (PostE.shared po s)
theorem ve_ix (hu : X.A.units + 1 < cLine) (ha : VE X W p a f1) (hb : VR X W q b g2) (hs : PlainIx b := by intro _ _; rfl) : VE X W (p && q) (.Subscript a b pos) (eIx f1 g2) := by
  obtain ⟨ta, ha, ra⟩ := ha.ex
  obtain ⟨tb, hb, rb⟩ := hb.ex
  refine ⟨_, PE.or (pe_ix ix_seq ha hb hs) (pe_dget hu ha hb hs), fun G σ H fp env Q rl z => ?_⟩
  by_cases c : ∃ k d env', f1 env = ok (k, d, env') ∧ isDct d = true
  · obtain ⟨k, d, env', e, c⟩ := c
    exact .inr (ix_dur (r := rDG) (c := true) ix_shD ra rb rl (fun k' d' env'' e' => by rw [e] at e'; cases e'; exact c) z)
  · refine .inl (ix_dur (c := false) ix_shL ra rb rl (fun k' d' env' e' => ?_) z)
    cases h : isDct d' with
    | false => rfl
    | true => exact absurd ⟨k', d', env', e', h⟩ c
/-- xs[b], xs a name: what a slot holds behind b; an item of what is owned is shared -/
def eIxN (i : Nat) (g2 : Env → RR) : Env → ER := fun env => bd (opt (slot env i).dat) fun _ => bd (g2 env) fun r2 => match slot r2.2 i with
  | .sh d1 => bd (opt (D.ix d1 r2.1)) fun d => ok (0, d, r2.2)
  | .ow 0 d1 => bd (opt (D.ix d1 r2.1)) fun d => ok (0, d, r2.2)
  | .io 0 d1 => bd (opt (D.ix d1 r2.1)) fun d => ok (0, d, r2.2)
  | .ow _ d1 => bd (opt (D.ix d1 r2.1)) fun d => bd (opt (scV d)) fun _ => ok (0, d, r2.2)
  | .io _ d1 => bd (opt (D.ix d1 r2.1)) fun d => bd (opt (scV d)) fun _ => ok (0, d, r2.2)
  | .un => none
  | .tb _ _ => none
theorem ix_name {K : PySem.W.Frag} {c : Bool} {r : R2} {tb : TE} {G : Hp} {σ : St} {H : Hp} {fp : List Addr} {env : Env} {Q : VK} {i : Nat} (hs : IxS K c r)
    (hb : ∀ G σ H fp env Q, Rl K G σ H env fp → ResR K W q G σ H fp env (g2 env) Q → tb σ H Q)
    (rl : Rl K G σ H env fp) (hc : ∀ d env' d1, g2 env = ok (d, env') → (slot env' i).dat = some d1 → isDct d1 = c) (z : ResE K W q G σ H fp env (eIxN i g2 env) Q) : tOp r (tVar i) tb σ H Q := by
  unfold eIxN ResE at z
  rw [Res.bd] at z
  obtain ⟨d0, hd0, z⟩ := z.opt
  rw [Res.bd] at z
  obtain ⟨x, ex, _⟩ := rl.read hd0
  refine ⟨x, ex, hb G σ H fp env _ rl (z.imp (fun r2 e2 z y G2 H2 fp2 po2 sh2 => ?_) fun x z => z)⟩
  have got : ∀ s d1 d, slot r2.2 i = s → s.dat = some d1 → D.ix d1 r2.1 = some d → ∃ o f, o = some x ∧ Slot1 K G2 H2 s o f := fun s d1 d hs1 hs2 hs3 => by
    obtain ⟨o, f, q1, q2, _⟩ := po2.rl.sl.get (slot_dat hs1 (by intro e; rw [e] at hs2; cases hs2))
    rw [ex] at q1
    exact ⟨o, f, (Option.some.inj q1).symm, q2⟩
  have deep : ∀ k d1, (slot r2.2 i = .ow k d1 ∨ slot r2.2 i = .io k d1) → Res (fun r => ∀ (v : V) (G' H' : Hp) (fp' fpr : List Addr), PostE K q G σ H fp env r.1 r.2.1 r.2.2 v G' H' fp' fpr → Q v H') (EX K W G σ H fp) (bd (opt (D.ix d1 r2.1)) fun d => bd (opt (scV d)) fun _ => ok (0, d, r2.2)) → r x y H2 Q := fun k d1 h z => by
    rw [Res.bd] at z
    obtain ⟨d, hd, z⟩ := z.opt
    rw [Res.bd] at z
    obtain ⟨w, hw, z⟩ := z.opt
    have hdat : (slot r2.2 i).dat = some d1 := by rcases h with h | h <;> rw [h] <;> rfl
    obtain ⟨x', ex', sx⟩ := po2.rl.read hdat
    rw [ex] at ex'
    cases ex'
    exact hs (hc _ _ _ e2 hdat) hd (ix_ci (In.refl H2) hd sx) sh2 fun v s => z v G2 H2 fp2 [] (PostE.shared po2 (by rw [sh_scV s hw]; exact scV_sh hw))
  have flat : ∀ d1, (slot r2.2 i).dat = some d1 → (∀ d, D.ix d1 r2.1 = some d → CI K G2 H2 d1 x) → Res (fun r => ∀ (v : V) (G' H' : Hp) (fp' fpr : List Addr), PostE K q G σ H fp env r.1 r.2.1 r.2.2 v G' H' fp' fpr → Q v H') (EX K W G σ H fp) (bd (opt (D.ix d1 r2.1)) fun d => ok (0, d, r2.2)) → r x y H2 Q := fun d1 hdat ci z => by
    rw [Res.bd] at z
    obtain ⟨d, hd, z⟩ := z.opt
    exact hs (hc _ _ _ e2 hdat) hd (ci d hd) sh2 fun v s => z v G2 H2 fp2 [] (PostE.shared po2 s)
  cases hsl : slot r2.2 i with
  | un => rw [hsl] at z; exact z.elim
  | tb P q => rw [hsl] at z; exact z.elim
  | sh d1 =>
    rw [hsl] at z
    refine flat d1 (by rw [hsl]; rfl) (fun d hd => ?_) z
    obtain ⟨o, f, rfl, q2⟩ := got _ d1 d hsl rfl hd
    obtain ⟨v, e, s, _⟩ := q2
    cases e
    exact ix_ci po2.rl.gin hd s
  | ow k d1 =>
    rw [hsl] at z
    cases k with
    | zero =>
      refine flat d1 (by rw [hsl]; rfl) (fun d hd => ?_) z
      obtain ⟨o, f, rfl, q2⟩ := got _ d1 d hsl rfl hd
      obtain ⟨v, e, s⟩ := q2
      cases e
      exact CI.ow1 po2.rl.gin hd s
    | succ k => exact deep _ d1 (.inl hsl) z
  | io k d1 =>
    rw [hsl] at z
    cases k with
    | zero =>
      refine flat d1 (by rw [hsl]; rfl) (fun d hd => ?_) z
      obtain ⟨o, f, rfl, q2⟩ := got _ d1 d hsl rfl hd
      obtain ⟨v, e, s⟩ := q2
      cases e
      exact CI.ow1 po2.rl.gin hd s
    | succ k => exact deep _ d1 (.inr hsl) z
theorem ve_ixN {i : Nat} (hu : X.A.units + 1 < cLine) (ha : PE X a (tVar i)) (hb : VR X W q b g2) (hs : PlainIx b := by intro _ _; rfl) : VE X W q (.Subscript a b pos) (eIxN i g2) := by
  obtain ⟨tb, hb, rb⟩ := hb.ex
  refine ⟨_, PE.or (pe_ix ix_seq ha hb hs) (pe_dget hu ha hb hs), fun G σ H fp env Q rl z => ?_⟩
  by_cases c : ∃ d env' d1, g2 env = ok (d, env') ∧ (slot env' i).dat = some d1 ∧ isDct d1 = true
  · obtain ⟨d, env', d1, e, e1, c⟩ := c
    exact .inr (ix_name (r := rDG) (c := true) ix_shD rb rl (fun d' env'' d1' e' h' => by rw [e] at e'; cases e'; rw [e1] at h'; cases h'; exact c) z)
  · refine .inl (ix_name (c := false) ix_shL rb rl (fun d' env' d1 e' h' => ?_) z)
    cases h : isDct d1 with
    | false => rfl
    | true => exact absurd ⟨d', env', d1, e', h', h⟩ c
end
end VL
/-! Vl6: read arguments, fields, in, built-ins with scalar answers, calls of defs, methods, classes. -/
namespace VL
open PySem PySem.Spec PyProof.Rows L2

/-- what the rules ask of where the code runs -/
structure Cf (X : Cx) (W : WX) (lv : Nat) : Prop where
  calm : X.calm = true
  tk : Takes X W
  room : Room lv X.A
theorem Cf.hu {X : Cx} {W : WX} {lv : Nat} (c : Cf X W lv) : X.A.units + 64 < cLine := c.room.units
theorem Cf.hu1 {X : Cx} {W : WX} {lv : Nat} (c : Cf X W lv) : X.A.units + 1 < cLine := by have := c.room.units; omega
theorem Cf.mono {X : Cx} {W : WX} {j k : Nat} (c : Cf X W k) (h : j ≤ k) : Cf X W j := ⟨c.calm, c.tk, c.room.mono h⟩

/-! ### arguments that are only read -/
structure VRA (X : Cx) (W : WX) (p : Bool) (es : List Expr) (f : Env → AR) : Prop where
  ex : ∃ t, PA X es t ∧ ∀ G σ H fp env Q, Rl X.K G σ H env fp →
    Res (fun r => ∀ vs G' H' fp', PostR X.K p G σ H fp env r.2 G' H' fp' → ShL X.K H' r.1 vs → Q vs H') (EX X.K W G σ H fp) (f env) → t σ H Q
section
variable {X : Cx} {W : WX} {p q : Bool} {e a b o : Expr} {es : List Expr} {f f1 f2 : Env → ER} {g g1 g2 : Env → RR} {fa : Env → AR} {pos apos : Pos} {lv : Nat}
def raCons (g : Env → RR) (h : Env → AR) : Env → AR := fun env => bd (g env) fun r1 => bd (h r1.2) fun r2 => ok (r1.1 :: r2.1, r2.2)
theorem vra_nil : VRA X W true [] aNil := ⟨tNil, pa_nil, fun G σ H fp env Q r z => z [] G H fp (PostR.refl r) ShL.nil⟩
theorem vra_cons (h : VR X W p e g) (t : VRA X W true es fa) (hs : starEach (e :: es) X.env = (false, eval e X.env) :: starEach es X.env := by rfl) : VRA X W p (e :: es) (raCons g fa) := by
  obtain ⟨t1, h1, r1⟩ := h.ex
  obtain ⟨t2, h2, r2⟩ := t.ex
  refine ⟨_, pa_cons h1 h2 hs, fun G σ H fp env Q rl z => ?_⟩
  unfold raCons at z
  rw [Res.bd] at z
  refine r1 G σ H fp env _ rl (z.imp (fun x1 _ z v G1 H1 fp1 po1 sh1 => ?_) fun x z => z)
  rw [Res.bd] at z
  refine r2 G1 σ H1 fp1 x1.2 _ po1.rl (z.imp (fun x2 _ z vs G2 H2 fp2 po2 sh2 => ?_) fun x z => z.back po1.st)
  obtain ⟨e2, f2, k2⟩ := po2.pu rfl
  have po := po1.trans po2
  rw [Bool.and_true] at po
  exact z (v :: vs) G2 H2 fp2 po (ShL.cons (Sh.mono (In.of k2) _ v sh1) sh2)
/-- durable arguments are arguments to be read -/
theorem vra_of (h : VA X W p es fa) : VRA X W p es fa := by
  obtain ⟨t, ht, hr⟩ := h.ex
  exact ⟨t, ht, fun G σ H fp env Q rl z => hr G σ H fp env Q rl (z.imp (fun r _ z vs G' H' fp' po s => z vs G' H' fp' po (ShL.mono po.rl.gin _ _ s)) fun x z => z)⟩
/-- a built-in whose answer is a scalar -/
def ScCall (K : PySem.W.Frag) (r : List V → Hp → VK → Prop) (g : List D → Option D) : Prop := ∀ xs ds d H Q, g ds = some d → ShL K H ds xs → (∀ v, scV d = some v → Q v H) → r xs H Q
def eCallB (g : List D → Option D) (fa : Env → AR) : Env → ER := fun env => bd (fa env) fun r => bd (opt (g r.1)) fun d => ok (0, d, r.2)
theorem ve_callB {r : List V → Hp → VK → Prop} {g : List D → Option D} (hs : ScCall X.K r g) (mk : ∀ {t : TA}, PA X es t → PE X e (tCB r t)) (ha : VRA X W p es fa) : VE X W p e (eCallB g fa) := by
  obtain ⟨t, ht, hr⟩ := ha.ex
  refine ⟨_, mk ht, fun G σ H fp env Q rl z => hr G σ H fp env _ rl ?_⟩
  unfold eCallB ResE at z
  rw [Res.bd] at z
  refine z.imp (fun r _ z vs G' H' fp' po s => ?_) fun x z => z
  rw [Res.bd] at z
  obtain ⟨d, hd, z⟩ := z.opt
  exact hs vs r.1 d H' Q hd s fun v hv => z v G' H' fp' [] (PostE.shared po (scV_sh hv))

/-! ### fields -/
def look1 (f : Str) : List Str → List D → Option D
  | n :: ns, d :: ds => if n = f then some d else look1 f ns ds
  | _, _ => none
theorem look1_sh {K : PySem.W.Frag} {G : Hp} {f : Str} {d : D} : ∀ {fs : List (Str × V)} {ds : List D}, ShL K G ds (fs.map (·.2)) → look1 f (fs.map (·.1)) ds = some d → ∃ v, fs.lookup f = some v ∧ Sh K G d v
  | [], ds, h, e => by cases ds <;> cases e
  | (n, v) :: fs, ds, h, e => by
    cases ds with
    | nil => have := h.nil_inv; simp at this
    | cons d' ds =>
      obtain ⟨w, r, e1, h1, h2⟩ := h.cons_inv
      simp only [List.map_cons, List.cons.injEq] at e1
      obtain ⟨rfl, rfl⟩ := e1
      simp only [List.map_cons] at e
      unfold look1 at e
      by_cases c : n = f
      · subst c
        rw [if_pos rfl] at e
        cases e
        exact ⟨v, by simp [List.lookup], h1⟩
      · rw [if_neg c] at e
        obtain ⟨u, q1, q2⟩ := look1_sh h2 e
        refine ⟨u, ?_, q2⟩
        rw [List.lookup_cons]
        rw [show (f == n) = false from beq_eq_false_iff_ne.mpr (Ne.symm c)]
        exact q1
/-- d.f, d of one of the classes cs -/
def D.fld (cs : List Str) (f : Str) : D → Option D
  | .obj c ns vs => if c ∈ cs then look1 f ns vs else none
  | _ => none
def FldOk (K : PySem.W.Frag) (cs : List Str) (f : Str) : Prop := ∀ c ∈ cs, Cls K (He.ga K c) ∧ NoAttr K (He.ga K c) f
theorem FldOk.nil {K : PySem.W.Frag} {f : Str} : FldOk K [] f := fun c h => (nomatch h)
theorem FldOk.cons {K : PySem.W.Frag} {c : Str} {cs : List Str} {f : Str} (h1 : Cls K (He.ga K c)) (h2 : NoAttr K (He.ga K c) f) (t : FldOk K cs f) : FldOk K (c :: cs) f := fun x m => by
  rcases List.mem_cons.mp m with rfl | m
  · exact ⟨h1, h2⟩
  · exact t x m
theorem fld_sh {K : PySem.W.Frag} {G H : Hp} {cs : List Str} {f : Str} {d1 d : D} {x : V} {Q : VK} (i : In G H) (hc : FldOk K cs f) (e : D.fld cs f d1 = some d) (s : Sh K G d1 x) (q : ∀ v, Sh K G d v → Q v H) :
    ∃ a C dx fs v, x = .ref a ∧ H a = some (.ins C dx fs) ∧ Cls K C ∧ NoAttr K C f ∧ fs.lookup f = some v ∧ Q v H := by
  cases d1 with
  | obj c ns vs =>
    unfold D.fld at e
    dsimp only at e
    split at e
    · rename_i m
      unfold Sh at s
      obtain ⟨a, dx, fs, rfl, hG, rfl, sl⟩ := s
      obtain ⟨v, hv, sv⟩ := look1_sh sl e
      obtain ⟨c1, c2⟩ := hc c m
      refine ⟨a, _, dx, fs, v, rfl, ?_, c1, c2, hv, q v sv⟩
      rcases i _ _ hG with z | ⟨z, _⟩
      · exact z
      · exact z.elim
    · cases e
  | _ => cases e
def rFld (cs : List Str) (f : Str) (g : Env → RR) : Env → RR := fun env => bd (g env) fun r => bd (opt (D.fld cs f r.1)) fun d => ok (d, r.2)
theorem vr_fld {cs : List Str} {fl : Str} (hc : FldOk X.K cs fl) (h : VR X W p e g) (hb : attributeBase e fl X.env (eval e X.env) = eval e X.env := by rfl) : VR X W p (.Attribute e fl pos) (rFld cs fl g) := by
  obtain ⟨t, ht, hr⟩ := h.ex
  refine ⟨_, pe_fld ht hb, fun G σ H fp env Q rl z => hr G σ H fp env _ rl ?_⟩
  unfold rFld ResR at z
  rw [Res.bd] at z
  refine z.imp (fun r _ z x G' H' fp' po s => ?_) fun x z => z
  rw [Res.bd] at z
  obtain ⟨d, hd, z⟩ := z.opt
  exact fld_sh (In.refl H') hc hd s fun v sv => z v G' H' fp' po sv
def eFld (cs : List Str) (f : Str) (g : Env → ER) : Env → ER := fun env => bd (g env) fun r => bd (opt (D.fld cs f r.2.1)) fun d => ok (0, d, r.2.2)
theorem ve_fld {cs : List Str} {fl : Str} (hc : FldOk X.K cs fl) (h : VE X W p e f) (hb : attributeBase e fl X.env (eval e X.env) = eval e X.env := by rfl) : VE X W p (.Attribute e fl pos) (eFld cs fl f) := by
  obtain ⟨t, ht, hr⟩ := h.ex
  refine ⟨_, pe_fld ht hb, fun G σ H fp env Q rl z => hr G σ H fp env _ rl ?_⟩
  unfold eFld ResE at z
  rw [Res.bd] at z
  refine z.imp (fun r _ z x G' H' fp' fpr po => ?_) fun x z => z
  rw [Res.bd] at z
  obtain ⟨d, hd, z⟩ := z.opt
  obtain ⟨G2, po⟩ := po.frz
  exact fld_sh po.rl.gin hc hd po.sh0 fun v sv => z v G2 H' fp' [] (PostE.shared po.toR sv)

/-! ### in, not in -/
def rInDict : R2 := fun x y H Q => ∃ a o, y = .ref a ∧ DGet H a x o ∧ Q (.bl o.isSome) H
def rNotDict : R2 := fun x y H Q => ∃ a o, y = .ref a ∧ DGet H a x o ∧ Q (.bl (!o.isSome)) H
theorem op_inDict (hu : X.A.units + 1 < cLine) : OpR X (compareOp .In) rInDict := by
  intro pins s σ H x y v u Q I rx ry h
  obtain ⟨a, o, rfl, g, q⟩ := h
  obtain rfl : u = Value.ref a := ry
  exact d_in hu I g rx fun s3 I3 => ⟨.bl o.isSome, H, I3, rfl, q⟩
theorem op_notDict (hu : X.A.units + 1 < cLine) : OpR X (compareOp .NotIn) rNotDict := by
  intro pins s σ H x y v u Q I rx ry h
  obtain ⟨a, o, rfl, g, q⟩ := h
  obtain rfl : u = Value.ref a := ry
  exact d_notIn hu I g rx fun s3 I3 => ⟨.bl (!o.isSome), H, I3, rfl, q⟩
def rInA (K : PySem.W.Frag) : R2 := fun x y H Q => rInD K x y H Q ∨ rInDict x y H Q
def rNotA (K : PySem.W.Frag) : R2 := fun x y H Q => rNotInD K x y H Q ∨ rNotDict x y H Q
theorem op_inA (hu : X.A.units + 65 < cLine) : OpR X (compareOp .In) (rInA X.K) := (op_inD hu).or (op_inDict (by omega))
theorem op_notA (hu : X.A.units + 65 < cLine) : OpR X (compareOp .NotIn) (rNotA X.K) := (op_notInD hu).or (op_notDict (by omega))
def D.mem : D → D → Option Bool
  | x, .lst ys => if dp 8 x && dpL 8 ys then some ((pyL ys).any fun z => PyData.eqv z (py x)) else none
  | x, .dct t ks vs => (kOf t x).map fun q => (dval t ks vs q).isSome
  | _, _ => none
def gIn : D → D → Option D := fun a b => (D.mem a b).map .bl
def gNotIn : D → D → Option D := fun a b => (D.mem a b).map fun k => .bl (!k)
theorem mem_lst {K : PySem.W.Frag} {H : Hp} {x y : V} {d1 : D} {ys : List D} (c : (dp 8 d1 && dpL 8 ys) = true) (s1 : Sh K H d1 x) (s2 : Sh K H (.lst ys) y) :
    Dp K H x (py d1) ∧ Dp K H y (.list (pyL ys)) ∧ SeqAt.shaped (py d1) = true ∧ SeqAt.shaped (.list (pyL ys)) = true := by
  obtain ⟨c1, c2⟩ := Bool.and_eq_true_iff.mp c
  have c3 : dp 9 (.lst ys) = true := by unfold dp; exact c2
  have e : py (.lst ys) = .list (pyL ys) := by unfold py; rfl
  refine ⟨sh_Dp 8 d1 x c1 s1, ?_, shaped_py (by decide) c1, ?_⟩
  · rw [← e]; exact sh_Dp 9 _ y c3 s2
  · rw [← e]; exact shaped_py (n := 9) (by decide) c3
theorem mem_dct {K : PySem.W.Frag} {H : Hp} {x y : V} {d1 : D} {t : Bool} {ks vs : List D} {q : Sum Key (List Key)} (e : kOf t d1 = some q) (s1 : Sh K H d1 x) (s2 : Sh K H (.dct t ks vs) y) :
    ∃ a o, y = .ref a ∧ DGet H a x o ∧ o.isSome = (dval t ks vs q).isSome := by
  unfold Sh at s2
  obtain ⟨a, xs, rfl, ha, sl⟩ := s2
  obtain ⟨o, g, m⟩ := dct_get ha sl s1 e
  refine ⟨a, o, rfl, g, ?_⟩
  cases h1 : dval t ks vs q <;> rw [h1] at m <;> cases o <;> first | rfl | exact m.elim
theorem sc_in {K : PySem.W.Frag} : ScOp K (rInA K) gIn := by
  intro x y d1 d2 d H Q e s1 s2 q
  obtain ⟨k, hk, rfl⟩ := Option.map_eq_some_iff.mp e
  cases d2 with
  | lst ys =>
    unfold D.mem at hk
    dsimp only at hk
    split at hk
    · rename_i c
      obtain ⟨h1, h2, h3, h4⟩ := mem_lst c s1 s2
      cases hk
      exact .inl ⟨_, _, h1, h2, h3, h4, q _ rfl⟩
    · cases hk
  | dct t ks vs =>
    unfold D.mem at hk
    obtain ⟨q', hq, rfl⟩ := Option.map_eq_some_iff.mp hk
    obtain ⟨a, o, e1, g, e2⟩ := mem_dct hq s1 s2
    exact .inr ⟨a, o, e1, g, by rw [e2]; exact q _ rfl⟩
  | _ => unfold D.mem at hk; cases hk
theorem sc_notIn {K : PySem.W.Frag} : ScOp K (rNotA K) gNotIn := by
  intro x y d1 d2 d H Q e s1 s2 q
  obtain ⟨k, hk, rfl⟩ := Option.map_eq_some_iff.mp e
  cases d2 with
  | lst ys =>
    unfold D.mem at hk
    dsimp only at hk
    split at hk
    · rename_i c
      obtain ⟨h1, h2, h3, h4⟩ := mem_lst c s1 s2
      cases hk
      exact .inl ⟨_, _, h1, h2, h3, h4, q _ rfl⟩
    · cases hk
  | dct t ks vs =>
    unfold D.mem at hk
    obtain ⟨q', hq, rfl⟩ := Option.map_eq_some_iff.mp hk
    obtain ⟨a, o, e1, g, e2⟩ := mem_dct hq s1 s2
    exact .inr ⟨a, o, e1, g, by rw [e2]; exact q _ rfl⟩
  | _ => unfold D.mem at hk; cases hk

/-! ### built-ins -/
def D.len : D → Option Nat
  | .lst xs => some xs.length
  | .lsx xs => some xs.length
  | .tup xs => some xs.length
  | .str z => if z.length ≤ cap then some z.length else none
  | _ => none
def gLen : List D → Option D
  | [d] => (D.len d).map fun n : Nat => D.int (n : Int)
  | _ => none
theorem sc_len {K : PySem.W.Frag} : ScCall K (fun xs H Q => ∃ x, ∃ n : Nat, xs = [x] ∧ LenV K x H n ∧ Q (.int n) H) gLen := by
  intro xs ds d H Q e s q
  match ds, e, s with
  | [d1], e, s =>
    obtain ⟨x, r, rfl, s1, s2⟩ := s.cons_inv
    rw [s2.nil_inv]
    obtain ⟨n, hn, rfl⟩ := Option.map_eq_some_iff.mp e
    refine ⟨x, n, rfl, ?_, q _ rfl⟩
    cases d1 with
    | lst xs =>
      unfold D.len at hn
      cases hn
      unfold Sh at s1
      obtain ⟨a, vs, rfl, h, sl⟩ := s1
      exact .inl ⟨vs, SqL.of h, sl.length.symm⟩
    | lsx xs =>
      unfold D.len at hn
      cases hn
      unfold Sh at s1
      obtain ⟨a, vs, rfl, h, sl⟩ := s1
      exact .inl ⟨vs, h, sl.length.symm⟩
    | tup xs =>
      unfold D.len at hn
      cases hn
      unfold Sh at s1
      obtain ⟨a, vs, rfl, h, sl⟩ := s1
      exact .inr ⟨vs, SqT.of h, sl.length.symm⟩
    | str z =>
      unfold D.len at hn
      dsimp only at hn
      split at hn
      · rename_i c
        cases hn
        unfold Sh at s1
        rw [s1]
        exact ⟨cap_line c, rfl⟩
      · cases hn
    | _ => unfold D.len at hn; cases hn
  | [], e, s => cases e
  | _ :: _ :: _, e, s => cases e
def gAbs : List D → Option D
  | [.int i] => some (.int (if i < 0 then -i else i))
  | _ => none
theorem sc_abs {K : PySem.W.Frag} : ScCall K (fun xs H Q => ∃ i, xs = [.int i] ∧ Q (.int (if i < 0 then -i else i)) H) gAbs := by
  intro xs ds d H Q e s q
  unfold gAbs at e
  split at e
  · rename_i i
    cases e
    obtain ⟨x, r, rfl, s1, s2⟩ := s.cons_inv
    rw [s2.nil_inv]
    unfold Sh at s1
    exact ⟨i, by rw [s1], q _ rfl⟩
  · cases e
def gInt : List D → Option D
  | [.int i] => some (.int i)
  | [.bl b] => some (.int (if b then 1 else 0))
  | _ => none
theorem sc_int {K : PySem.W.Frag} : ScCall K (fun xs H Q => (∃ i, xs = [.int i] ∧ Q (.int i) H) ∨ ∃ k, xs = [.bl k] ∧ Q (.int (if k then 1 else 0)) H) gInt := by
  intro xs ds d H Q e s q
  unfold gInt at e
  split at e
  · rename_i i
    cases e
    obtain ⟨x, r, rfl, s1, s2⟩ := s.cons_inv
    rw [s2.nil_inv]
    unfold Sh at s1
    exact .inl ⟨i, by rw [s1], q _ rfl⟩
  · rename_i b
    cases e
    obtain ⟨x, r, rfl, s1, s2⟩ := s.cons_inv
    rw [s2.nil_inv]
    unfold Sh at s1
    exact .inr ⟨b, by rw [s1], q _ rfl⟩
  · cases e
def gMin2 : List D → Option D
  | [.int i, .int j] => some (.int (if j < i then j else i))
  | _ => none
theorem sc_min2 {K : PySem.W.Frag} : ScCall K (fun xs H Q => ∃ i j, xs = [.int i, .int j] ∧ Q (.int (if j < i then j else i)) H) gMin2 := by
  intro xs ds d H Q e s q
  unfold gMin2 at e
  split at e
  · rename_i i j
    cases e
    obtain ⟨x, r, rfl, s1, s2⟩ := s.cons_inv
    obtain ⟨y, r, rfl, s3, s4⟩ := s2.cons_inv
    rw [s4.nil_inv]
    unfold Sh at s1 s3
    exact ⟨i, j, by rw [s1, s3], q _ rfl⟩
  · cases e
def gMax2 : List D → Option D
  | [.int i, .int j] => some (.int (if j > i then j else i))
  | _ => none
theorem sc_max2 {K : PySem.W.Frag} : ScCall K (fun xs H Q => ∃ i j, xs = [.int i, .int j] ∧ Q (.int (if j > i then j else i)) H) gMax2 := by
  intro xs ds d H Q e s q
  unfold gMax2 at e
  split at e
  · rename_i i j
    cases e
    obtain ⟨x, r, rfl, s1, s2⟩ := s.cons_inv
    obtain ⟨y, r, rfl, s3, s4⟩ := s2.cons_inv
    rw [s4.nil_inv]
    unfold Sh at s1 s3
    exact ⟨i, j, by rw [s1, s3], q _ rfl⟩
  · cases e
def blsOf : List D → Option (List Bool)
  | [] => some []
  | .bl b :: ds => (blsOf ds).map (b :: ·)
  | _ :: _ => none
theorem blsOf_eq : ∀ {ds : List D} {bs : List Bool}, blsOf ds = some bs → ds = bs.map .bl
  | [], _, h => by cases h; rfl
  | d :: ds, bs, h => by
    cases d <;> unfold blsOf at h <;> first | cases h | skip
    obtain ⟨bs', h', rfl⟩ := Option.map_eq_some_iff.mp h
    rw [blsOf_eq h']; rfl
theorem blsOf_map (bs : List Bool) : blsOf (bs.map .bl) = some bs := by
  induction bs with
  | nil => rfl
  | cons b bs ih => rw [List.map_cons]; unfold blsOf; rw [ih]; rfl
theorem shL_bls {K : PySem.W.Frag} {H : Hp} : ∀ {bs : List Bool} {vs : List V}, ShL K H (bs.map .bl) vs → vs = bs.map V.bl
  | [], _, h => h.nil_inv
  | b :: bs, _, h => by
    obtain ⟨v, r, rfl, h1, h2⟩ := h.cons_inv
    unfold Sh at h1
    rw [h1, shL_bls h2]; rfl
def gAll : List D → Option D
  | [.lst ds] => (blsOf ds).map fun bs => .bl (bs.all id)
  | _ => none
def gAny : List D → Option D
  | [.lst ds] => (blsOf ds).map fun bs => .bl (bs.any id)
  | _ => none
def rAll' (K : PySem.W.Frag) : List V → Hp → VK → Prop := fun vs H Q => ∃ (a : Addr) (bs : List Bool), vs = [V.ref a] ∧ SqL K H a (bs.map V.bl) ∧ Q (.bl (bs.all id)) H
theorem sc_all {K : PySem.W.Frag} : ScCall K (rAll K) gAll := by
  intro xs ds d H Q e s q
  unfold gAll at e
  split at e
  · obtain ⟨bs, hb, rfl⟩ := Option.map_eq_some_iff.mp e
    obtain ⟨x, r, rfl, s1, s2⟩ := s.cons_inv
    rw [s2.nil_inv]
    unfold Sh at s1
    obtain ⟨a, vs, rfl, h, sl⟩ := s1
    rw [blsOf_eq hb] at sl
    rw [shL_bls sl] at h
    exact ⟨a, bs, rfl, SqL.of h, q _ rfl⟩
  · cases e
theorem sc_any {K : PySem.W.Frag} : ScCall K (rAny K) gAny := by
  intro xs ds d H Q e s q
  unfold gAny at e
  split at e
  · obtain ⟨bs, hb, rfl⟩ := Option.map_eq_some_iff.mp e
    obtain ⟨x, r, rfl, s1, s2⟩ := s.cons_inv
    rw [s2.nil_inv]
    unfold Sh at s1
    obtain ⟨a, vs, rfl, h, sl⟩ := s1
    rw [blsOf_eq hb] at sl
    rw [shL_bls sl] at h
    exact ⟨a, bs, rfl, SqL.of h, q _ rfl⟩
  · cases e
end
end VL
/-! Vl7: promises by functions of data, calls; list(), tuple(), sorted. -/
namespace VL
open PySem PySem.Spec PyProof.Rows L2

/-! ### promises -/
structure PostF (K : PySem.W.Frag) (G H : Hp) (fp : List Addr) (k : Nat) (d : D) (v : V) (G' H' : Hp) (fp' fpr : List Addr) : Prop where
  gin : In G' H'
  st : Stp G H fp G' H' (fp' ++ fpr)
  ow : Ow K G' H' k d v fpr
  nd : (fp' ++ fpr).Nodup
  out : ∀ a ∈ fp' ++ fpr, G' a = none
/-- shared arguments, a function of their data -/
def spP (K : PySem.W.Frag) (n : Nat) (f : List D → Rs (Nat × D)) : Sp := fun vs H Q E => vs.length = n ∧ ∃ ds G, ShL K G ds vs ∧ In G H ∧
  Res (fun r => ∀ v G' H' fpr, PostF K G H [] r.1 r.2 v G' H' [] fpr → Q v H') (fun x => ∀ cls od G' H', Bad K x G H [] cls od G' H' → E cls od H') (f ds)
/-- the argument at j is changed in its place (k deep owned); f: of the others' data and its own -/
def spI (K : PySem.W.Frag) (n j k : Nat) (f : List D → D → Rs (Nat × D × D)) : Sp := fun vs H Q E => vs.length = n ∧ ∃ vp vj vq ds dj G fp, vs = vp ++ vj :: vq ∧ vp.length = j ∧ ShL K G ds (vp ++ vq) ∧ In G H ∧ Ow K G H k dj vj fp ∧ fp.Nodup ∧ (∀ a ∈ fp, G a = none) ∧
  Res (fun r => ∀ v G' H' fp' fpr, PostF K G H fp r.1 r.2.1 v G' H' fp' fpr → Ow K G' H' k r.2.2 vj fp' → Q v H') (fun x => ∀ cls od G' H', Bad K x G H fp cls od G' H' → E cls od H') (f ds dj)

section
variable {X : Cx} {W : WX} {p q : Bool} {e a b o : Expr} {es : List Expr} {f f1 f2 : Env → ER} {g g1 g2 : Env → RR} {fa : Env → AR} {pos apos : Pos} {lv : Nat}
variable {K : PySem.W.Frag} {G H G' H' G1 H1 G2 H2 : Hp} {σ : St} {fp fp' fp1 fp2 fpr : List Addr} {env env' env1 : Env}
/-- behind a call whose arguments are shared -/
theorem PostF.after {k : Nat} {d : D} {v : V} (a : PostR K p G σ H fp env env1 G1 H1 fp1) (b : PostF K G1 H1 [] k d v G2 H2 [] fpr) : PostE K p G σ H fp env k d env1 v G2 H2 fp1 fpr := by
  have fresh : ∀ x ∈ fpr, H1 x = none := fun x m => (b.st.fn x m).resolve_left (by simp)
  have dj : ∀ x ∈ fp1, ∀ y ∈ fpr, x ≠ y := fun x m y m' z => a.rl.there x m (by rw [z]; exact fresh y m')
  refine ⟨a.rl.grow b.st.gg (fun x h => (b.st.gn x h).imp id fun z => z.resolve_right (by simp)) (fun x _ u e => b.st.keep x u e (by simp)) b.gin, a.st.trans ⟨b.st.gg, fun x h => (b.st.gn x h).imp id fun z => .inl (z.resolve_right (by simp)), fun x m => ?_, fun x u e _ => b.st.keep x u e (by simp)⟩, b.ow, ?_, fun x m => b.out x (List.mem_append_right _ m), fun h => ?_⟩
  · rcases List.mem_append.mp m with m | m
    · exact .inl m
    · exact .inr (fresh x m)
  · exact List.nodup_append.mpr ⟨a.rl.nd, (List.nodup_append.mp b.nd).2.1, dj⟩
  · obtain ⟨e1, e2, e3⟩ := a.pu h
    exact ⟨e1, e2, fun x u e => b.st.keep x u (e3 x u e) (by simp)⟩
theorem Bad.after {x : Xn} {cls : Value} {od : Option Addr} (a : PostR K p G σ H fp env env1 G1 H1 fp1) (b : Bad K x G1 H1 [] cls od G2 H2) : Bad K x G H fp cls od G2 H2 := by
  refine ⟨b.gin, ?_, b.rep⟩
  have s2 : Stp G1 H1 fp1 G2 H2 [] := ⟨b.st.gg, fun x h => (b.st.gn x h).imp id fun z => .inl (z.resolve_right (by simp)), fun x m => (nomatch m), fun x u e _ => b.st.keep x u e (by simp)⟩
  exact a.st.trans s2
/-- the arguments are n -/
def lenQ (n : Nat) (ds : List D) : Rs Unit := if ds.length = n then ok () else none
theorem Res.lenQ {P : Unit → Prop} {E : Xn → Prop} {n : Nat} {ds : List D} (h : Res P E (lenQ n ds)) : ds.length = n ∧ P () := by
  unfold VL.lenQ at h
  by_cases c : ds.length = n
  · rw [if_pos c] at h; exact ⟨c, h⟩
  · rw [if_neg c] at h; exact h.elim
def eCall (n : Nat) (f : List D → Rs (Nat × D)) (fa : Env → AR) : Env → ER := fun env => bd (fa env) fun r => bd (lenQ n r.1) fun _ => bd (f r.1) fun q => ok (q.1, q.2, r.2)
theorem ve_call {k : Nat} (n : Nat) {x : Str} {fA : Addr} {fd : FuncData} {ps : List Str} {F : List D → Rs (Nat × D)} {pp : Pos} (c : Cf X W lv) (hk : k ≤ lv) (FF : FnOk X.prog X.w X.K X.mg X.base (L2.CX X.prog X.w) k fA fd ps (spP X.K n F)) (hb : Binds X.K fd ps [])
    (kp : PySem.W.keepIn X.K (.ref fA) = true) (hg : Gl X x) (hm : X.mg x = some (.ref fA)) (ha : VA X W p (e :: es) fa) (hdb : (x == ("__debug__" : Str)) = false := by decide)
    (he : starEach (e :: es) X.env = (false, eval e X.env) :: starEach es X.env := by rfl) (hpl : (backTo pos (starEach es X.env)).any (·.1) = false := by rfl) :
    VE X W p (.Call (.Name x pp) (e :: es) [] pos) (eCall n F fa) := by
  obtain ⟨t, ht, hr⟩ := ha.ex
  refine ⟨_, pe_callS FF (c.room.mono hk) hg hm kp hb (fun σ => passAt c.tk σ) ht hdb he hpl, fun G σ H fp env Q rl z => hr G σ H fp env _ rl ?_⟩
  unfold eCall ResE at z
  rw [Res.bd] at z
  refine z.imp (fun r er z vs G1 H1 fp1 po1 s => ?_) fun x z => z
  rw [Res.bd] at z
  obtain ⟨hl, z⟩ := z.lenQ
  rw [Res.bd] at z
  refine ⟨by rw [s.length]; exact hl, r.1, G1, s, po1.rl.gin, z.imp (fun r2 _ z v G2 H2 fpr po2 => z v G2 H2 fp1 fpr (PostF.after po1 po2)) fun x z cls od G2 H2 b => z cls od G2 H2 (Bad.after po1 b)⟩
theorem ve_call0 {k : Nat} {x : Str} {fA : Addr} {fd : FuncData} {ps : List Str} {F : List D → Rs (Nat × D)} {pp : Pos} (c : Cf X W lv) (hk : k ≤ lv) (FF : FnOk X.prog X.w X.K X.mg X.base (L2.CX X.prog X.w) k fA fd ps (spP X.K 0 F)) (hb : Binds X.K fd ps [])
    (kp : PySem.W.keepIn X.K (.ref fA) = true) (hg : Gl X x) (hm : X.mg x = some (.ref fA)) (hdb : (x == ("__debug__" : Str)) = false := by decide) :
    VE X W true (.Call (.Name x pp) [] [] pos) (eCall 0 F aNil) := by
  have pe : PE X (.Call (.Name x pp) [] [] pos) (tCallS (spP X.K 0 F) (fun σ => WE W σ) tNil) := by
    refine ⟨fun pins s σ H Q I h => ?_⟩
    refine wpAny_Call_Name_kw (ld_glob I hg hm ?_ hdb)
    exact PySem.W.callWith_K0 I.kIn kp (run_fnS (us := []) FF (c.room.mono hk) hb (passAt c.tk σ) I .nil h)
  refine ⟨_, pe, fun G σ H fp env Q rl z => ?_⟩
  unfold eCall aNil ResE at z
  rw [Res.bd, Res.ok, Res.bd] at z
  obtain ⟨_, z⟩ := z.lenQ
  rw [Res.bd] at z
  have po1 : PostR X.K true G σ H fp env env G H fp := PostR.refl rl
  exact ⟨rfl, [], G, ShL.nil, rl.gin, z.imp (fun r2 _ z v G2 H2 fpr po2 => z v G2 H2 fp fpr (PostF.after po1 po2)) fun x z cls od G2 H2 b => z cls od G2 H2 (Bad.after po1 b)⟩

/-! ### a call that changes what a name owns -/
/-- arguments, the j-th the name of slot i -/
structure VAI (X : Cx) (W : WX) (i j : Nat) (es : List Expr) (f : Env → AR) : Prop where
  ex : ∃ t, PA X es t ∧ ∀ G σ H fp env Q, Rl X.K G σ H env fp → (slot env i).dat.isSome →
    Res (fun r => ∀ vp vj vq G' H' fp', PostR X.K false G σ H fp env r.2 G' H' fp' → vp.length = j → σ[i]? = some (some vj) → ShL X.K G' r.1 (vp ++ vq) → Q (vp ++ vj :: vq) H') (EX X.K W G σ H fp) (f env) → t σ H Q
theorem PostR.wk (a : PostR K p G σ H fp env env1 G1 H1 fp1) : PostR K false G σ H fp env env1 G1 H1 fp1 := ⟨a.rl, a.st, fun z => (nomatch z)⟩
theorem vai_here {i : Nat} (h : PE X e (tVar i)) (t : VA X W q es fa) (hs : starEach (e :: es) X.env = (false, eval e X.env) :: starEach es X.env := by rfl) : VAI X W i 0 (e :: es) fa := by
  obtain ⟨t2, h2, r2⟩ := t.ex
  refine ⟨_, pa_cons h h2 hs, fun G σ H fp env Q rl hd z => ?_⟩
  obtain ⟨d, hd⟩ := Option.isSome_iff_exists.mp hd
  obtain ⟨v, ev, _⟩ := rl.read hd
  exact ⟨v, ev, r2 G σ H fp env _ rl (z.imp (fun r _ z vs G' H' fp' po s => z [] v vs G' H' fp' po.wk rfl ev s) fun x z => z)⟩
def aConsI (i : Nat) (f : Env → ER) (fa : Env → AR) : Env → AR := fun env => bd (f env) fun r1 => bd (opt (slot r1.2.2 i).dat) fun _ => bd (fa r1.2.2) fun r2 => ok (r1.2.1 :: r2.1, r2.2)
theorem vai_cons {i j : Nat} (h : VE X W p e f) (t : VAI X W i j es fa) (hs : starEach (e :: es) X.env = (false, eval e X.env) :: starEach es X.env := by rfl) : VAI X W i (j + 1) (e :: es) (aConsI i f fa) := by
  obtain ⟨t1, h1, r1⟩ := h.ex
  obtain ⟨t2, h2, r2⟩ := t.ex
  refine ⟨_, pa_cons h1 h2 hs, fun G σ H fp env Q rl hd z => ?_⟩
  unfold aConsI at z
  rw [Res.bd] at z
  refine r1 G σ H fp env _ rl (z.imp (fun x1 e1 z v G1 H1 fp1 fpr po1 => ?_) fun x z => z)
  obtain ⟨G1', po1⟩ := po1.frz
  rw [Res.bd] at z
  obtain ⟨d1, hd1, z⟩ := z.opt
  rw [Res.bd] at z
  refine r2 G1' σ H1 fp1 x1.2.2 _ po1.rl (by rw [hd1]; rfl) (z.imp (fun x2 _ z vp vj vq G2 H2 fp2 po2 hj ev s => ?_) fun x z => z.back po1.toR.st)
  exact z (v :: vp) vj vq G2 H2 fp2 (po1.toR.trans po2).wk (by simp [hj]) ev (ShL.cons (Sh.mono (In.of po2.st.gg) _ v po1.sh0) s)
/-- what a slot owns, how deep -/
def SV.own : SV → Option (Nat × D)
  | .ow k d => some (k, d)
  | .io k d => some (k, d)
  | _ => none
def SV.put (d : D) : SV → SV
  | .ow k _ => .ow k d
  | .io k _ => .io k d
  | s => s
def eCallI (n i k : Nat) (f : List D → D → Rs (Nat × D × D)) (fa : Env → AR) : Env → ER := fun env => bd (opt (slot env i).own) fun _ => bd (fa env) fun r => bd (lenQ n r.1) fun _ => bd (opt (slot r.2 i).own) fun o => if o.1 + 1 = k then bd (f r.1 o.2) fun q => ok (q.1, q.2.1, r.2.set i ((slot r.2 i).put q.2.2)) else none
/-- what the callee did to the owned objects of slot i -/
theorem PostF.afterI {i k : Nat} {d d' : D} {v vj : V} {kr : Nat} {fpi fpi' fr : List Addr} {s : SV} (a : PostR K false G σ H fp env env1 G1 H1 fp1) (hs : env1[i]? = some s) (ho : s.own = some (k, d))
    (b : PostF K G1 H1 fpi kr d' v G2 H2 fpi' fpr) (ow' : Ow K G2 H2 (k + 1) d (V.non) [] ∨ True) : True := trivial
theorem Slot1.own {s : SV} {o : Option V} {f : List Addr} {k : Nat} {d : D} (h : Slot1 K G H s o f) (e : s.own = some (k, d)) : ∃ v, o = some v ∧ Ow K G H (k + 1) d v f := by
  cases s <;> unfold SV.own at e <;> cases e <;> exact h
theorem Slot1.put {s : SV} {f : List Addr} {k : Nat} {d d' : D} {v : V} (e : s.own = some (k, d)) (h : Ow K G H (k + 1) d' v f) : Slot1 K G H (s.put d') (some v) f := by
  cases s <;> unfold SV.own at e <;> cases e <;> exact ⟨v, rfl, h⟩
/-- an owned slot's content exchanged by a step that touches its objects alone -/
theorem own_step {i k : Nat} {d d2 : D} {s : SV} (r : Rl K G σ H env fp) (hs : env[i]? = some s) (ho : s.own = some (k, d)) :
    ∃ v f, σ[i]? = some (some v) ∧ Ow K G H (k + 1) d v f ∧ f.Nodup ∧ (∀ a ∈ f, G a = none) ∧ (∀ a ∈ f, a ∈ fp) ∧
      ∀ {G' H' : Hp} {f' fpr : List Addr} {d' : D}, In G' H' → Stp G H f G' H' (f' ++ fpr) → Ow K G' H' (k + 1) d' v f' → (f' ++ fpr).Nodup → (∀ a ∈ f' ++ fpr, G' a = none) →
        ∃ fp', Rl K G' σ H' (env.set i (s.put d')) fp' ∧ Stp G H fp G' H' (fp' ++ fpr) ∧ (fp' ++ fpr).Nodup ∧ ∀ a ∈ fpr, G' a = none := by
  obtain ⟨o, f, fr, e1, q0, nd, hm, put⟩ := r.sl.put r.nd hs
  obtain ⟨v, rfl, q⟩ := Slot1.own q0 ho
  obtain ⟨n1, n2, n3⟩ := List.nodup_append.mp nd
  refine ⟨v, f, e1, q, n1, fun a m => r.out a ((hm a).mpr (.inl m)), fun a m => (hm a).mpr (.inl m), fun {G' H' f' fpr d'} gin st ow' nd' out' => ?_⟩
  have ff : ∀ a ∈ fr, a ∉ f := fun a m z => n3 a z a m rfl
  have fH : ∀ a ∈ fr, H a ≠ none := fun a m => r.there a ((hm a).mpr (.inr m))
  obtain ⟨m1, m2, m3⟩ := List.nodup_append.mp nd'
  have dj : ∀ a ∈ f' ++ fpr, ∀ b ∈ fr, a ≠ b := fun a ma b mb z => by
    rcases st.fn a ma with h | h
    · exact ff b mb (by rw [← z]; exact h)
    · exact fH b mb (by rw [← z]; exact h)
  obtain ⟨fp', s', nd2, mm⟩ := put (G' := G') (H' := H') (s' := s.put d') (o' := some v) (f' := f') st.gg (fun a m u e => st.keep a u e (ff a m)) (Slot1.put ho ow')
    (List.nodup_append.mpr ⟨m1, n2, fun a ma b mb => dj a (List.mem_append_left _ ma) b mb⟩)
  rw [set_same e1] at s'
  have oth : ∀ a ∈ fr, G' a = none := fun a m => by
    cases e : G' a with
    | none => rfl
    | some u =>
      rcases st.gn a (by rw [e]; simp) with z | z | z
      · exact absurd (r.out a ((hm a).mpr (.inr m))) z
      · exact absurd z (r.sl.nfr a ((hm a).mpr (.inr m)))
      · exact absurd z (ff a m)
  refine ⟨fp', ⟨gin, s', nd2, fun a m => ?_⟩, ⟨st.gg, fun a h => ?_, fun a m => ?_, fun a u e n => st.keep a u e fun z => n ((hm a).mpr (.inl z))⟩, ?_, fun a m => out' a (List.mem_append_right _ m)⟩
  · rcases (mm a).mp m with m | m
    · exact out' a (List.mem_append_left _ m)
    · exact oth a m
  · rcases st.gn a h with z | z | z
    · exact .inl z
    · exact .inr (.inl z)
    · exact .inr (.inr ((hm a).mpr (.inl z)))
  · rcases List.mem_append.mp m with m | m
    · rcases (mm a).mp m with m | m
      · exact (st.fn a (List.mem_append_left _ m)).imp (fun z => (hm a).mpr (.inl z)) id
      · exact .inl ((hm a).mpr (.inr m))
    · exact (st.fn a (List.mem_append_right _ m)).imp (fun z => (hm a).mpr (.inl z)) id
  · refine List.nodup_append.mpr ⟨nd2, m2, fun a ma b mb => ?_⟩
    rcases (mm a).mp ma with ma | ma
    · exact m3 a ma b mb
    · exact fun z => dj b (List.mem_append_right _ mb) a ma z.symm
theorem slot_own {i : Nat} {o : Nat × D} (h : (slot env i).own = some o) : env[i]? = some (slot env i) := slot_dat rfl (by intro z; rw [z] at h; cases h)
theorem own_dat {s : SV} {o : Nat × D} (h : s.own = some o) : s.dat.isSome := by cases s <;> unfold SV.own at h <;> cases h <;> rfl
theorem ve_callI {i j k kf : Nat} (n : Nat) {x : Str} {fA : Addr} {fd : FuncData} {ps : List Str} {F : List D → D → Rs (Nat × D × D)} {pp : Pos} (c : Cf X W lv) (hk : kf ≤ lv) (FF : FnOk X.prog X.w X.K X.mg X.base (L2.CX X.prog X.w) kf fA fd ps (spI X.K (n + 1) j k F)) (hb : Binds X.K fd ps [])
    (kp : PySem.W.keepIn X.K (.ref fA) = true) (hg : Gl X x) (hm : X.mg x = some (.ref fA)) (ha : VAI X W i j (e :: es) fa) (hdb : (x == ("__debug__" : Str)) = false := by decide)
    (he : starEach (e :: es) X.env = (false, eval e X.env) :: starEach es X.env := by rfl) (hpl : (backTo pos (starEach es X.env)).any (·.1) = false := by rfl) :
    VE X W false (.Call (.Name x pp) (e :: es) [] pos) (eCallI n i k F fa) := by
  obtain ⟨t, ht, hr⟩ := ha.ex
  refine ⟨_, pe_callS FF (c.room.mono hk) hg hm kp hb (fun σ => passAt c.tk σ) ht hdb he hpl, fun G σ H fp env Q rl z => ?_⟩
  unfold eCallI ResE at z
  rw [Res.bd] at z
  obtain ⟨o0, ho0, z⟩ := z.opt
  rw [Res.bd] at z
  refine hr G σ H fp env _ rl (own_dat ho0) (z.imp (fun r er z vp vj vq G1 H1 fp1 po1 hj ev s => ?_) fun x z => z)
  rw [Res.bd] at z
  obtain ⟨hl, z⟩ := z.lenQ
  rw [Res.bd] at z
  obtain ⟨o, ho, z⟩ := z.opt
  by_cases hk : o.1 + 1 = k
  · rw [if_pos hk, Res.bd] at z
    obtain ⟨v, f, e1, q, n1, o1, sub, step⟩ := own_step (d2 := o.2) po1.rl (slot_own ho) (show (slot r.2 i).own = some (o.1, o.2) from ho)
    rw [ev] at e1
    cases e1
    refine ⟨?_, vp, vj, vq, r.1, o.2, G1, f, rfl, hj, s, po1.rl.gin, by rw [← hk]; exact q, n1, o1, z.imp (fun r2 _ z v2 G2 H2 f' fpr po2 ow2 => ?_) fun x z cls od G2 H2 b => ?_⟩
    · have := s.length
      simp only [List.length_append, List.length_cons] at this ⊢
      omega
    · obtain ⟨fp', rl', st', nd', out'⟩ := step po2.gin po2.st (by rw [hk]; exact ow2) po2.nd po2.out
      exact z v2 G2 H2 fp' fpr ⟨rl', po1.st.trans st', po2.ow, nd', out', fun h => (nomatch h)⟩
    · refine z cls od G2 H2 ⟨b.gin, po1.st.trans ⟨b.st.gg, fun a h => ?_, fun a m => (nomatch m), fun a u e n => b.st.keep a u e fun z => n (sub a z)⟩, b.rep⟩
      rcases b.st.gn a h with z | z | z
      · exact .inl z
      · exact .inr (.inl z)
      · exact .inr (.inr (sub a z))
  · rw [if_neg hk] at z; exact z.elim

/-! ### methods, classes -/
theorem pe_methSD {pl : Sem Bool} {k : Nat} {C fA : Addr} {m : Str} {fd : FuncData} {ps : List Str} {sp : Sp} {E : St → XK} {ta : TE} {t : TA} (he : PE X o ta) (c : Cls X.K C) (hm : Meth X.K C m fA) (F : FnOk X.prog X.w X.K X.mg X.base (L2.CX X.prog X.w) k fA fd ps sp) (hr : Room k X.A) (hb : Binds X.K fd ps [])
    (hx : ∀ σ, PassesAt (L2.CX X.prog X.w) X σ (E σ)) (ha : PA X (e :: es) t)
    (hst : starEach (e :: es) X.env = (false, eval e X.env) :: starEach es X.env := by rfl) (hpl : (backTo pos (starEach es X.env)).any (·.1) = false := by rfl)
    (ht : eval (.Call (.Attribute o m apos) (e :: es) [] pos) X.env = (do
      let ov ← eval o X.env
      standAt apos.atName
      let (f, first) ← holding [ov] (getMethod ov m pl)
      callWith pos f first (backTo pos (starEach (e :: es) X.env)) (backToKw pos (keywordEach [] X.env))) := by rfl) :
    PE X (.Call (.Attribute o m apos) (e :: es) [] pos) (fun σ H Q => ta σ H fun x H1 => ∃ a dx fs, x = .ref a ∧ H1 a = some (.ins C dx fs) ∧ fs.lookup m = none ∧ t σ H1 fun vs H2 => sp (x :: vs) H2 Q (E σ)) := by
  refine ⟨fun pins s σ H Q I h => ?_⟩
  refine PySem.W.methodCall_KW (pl := pl) (thn (he.run pins s σ H _ I h) fun u s1 ⟨x, H1, I1, rx, a, dx, fs, ex, ea, l, q⟩ => ?_) ht
  subst ex
  obtain rfl : u = Value.ref a := rx
  refine getmeth_ok I1 ea c hm l ?_
  refine PySem.W.callWith_K (first := [.ref a]) (h₀ := X.base) I.ok.mod.kin hm.kp (thn (ha.run pos pins s1 σ H1 _ I1 q) fun us s2 ⟨vs, H2, I2, r, q2⟩ => ⟨I2.kIn, ?_⟩) hst hpl
  exact run_fnS (us := .ref a :: us) (vs := .ref a :: vs) F hr hb (hx σ) I2 (.cons rfl r) q2
def D.insOf (c : Str) (m : Str) : D → Option Unit
  | .obj c' ns _ => if c' = c ∧ m ∉ ns then some () else none
  | _ => none
theorem look_none {m : Str} : ∀ {fs : List (Str × V)}, m ∉ fs.map (·.1) → fs.lookup m = none
  | [], _ => rfl
  | (n, v) :: fs, h => by
    rw [List.lookup_cons, show (m == n) = false from beq_eq_false_iff_ne.mpr fun z => h (by simp [z])]
    exact look_none fun z => h (by simp only [List.map_cons]; exact List.mem_cons_of_mem _ z)
/-- o.m(..), o shared -/
def eMeth (n : Nat) (c m : Str) (F : List D → Rs (Nat × D)) (f : Env → ER) (fa : Env → AR) : Env → ER := fun env => bd (f env) fun r0 => bd (opt (D.insOf c m r0.2.1)) fun _ => bd (fa r0.2.2) fun r => bd (lenQ n r.1) fun _ => bd (F (r0.2.1 :: r.1)) fun q => ok (q.1, q.2, r.2)
theorem ve_meth {pl : Sem Bool} {k : Nat} (n : Nat) {cn m : Str} {fA : Addr} {fd : FuncData} {ps : List Str} {F : List D → Rs (Nat × D)} (c : Cf X W lv) (hk : k ≤ lv) (cl : Cls X.K (He.ga X.K cn)) (hm : Meth X.K (He.ga X.K cn) m fA) (FF : FnOk X.prog X.w X.K X.mg X.base (L2.CX X.prog X.w) k fA fd ps (spP X.K (n + 1) F)) (hb : Binds X.K fd ps [])
    (ho : VE X W p o f) (ha : VA X W q (e :: es) fa)
    (hst : starEach (e :: es) X.env = (false, eval e X.env) :: starEach es X.env := by rfl) (hpl : (backTo pos (starEach es X.env)).any (·.1) = false := by rfl)
    (ht : eval (.Call (.Attribute o m apos) (e :: es) [] pos) X.env = (do
      let ov ← eval o X.env
      standAt apos.atName
      let (f, first) ← holding [ov] (getMethod ov m pl)
      callWith pos f first (backTo pos (starEach (e :: es) X.env)) (backToKw pos (keywordEach [] X.env))) := by rfl) :
    VE X W (p && q) (.Call (.Attribute o m apos) (e :: es) [] pos) (eMeth n cn m F f fa) := by
  obtain ⟨t0, h0, r0⟩ := ho.ex
  obtain ⟨t, ht', hr⟩ := ha.ex
  refine ⟨_, pe_methSD (pl := pl) h0 cl hm FF (c.room.mono hk) hb (fun σ => passAt c.tk σ) ht' hst hpl ht, fun G σ H fp env Q rl z => ?_⟩
  unfold eMeth ResE at z
  rw [Res.bd] at z
  refine r0 G σ H fp env _ rl (z.imp (fun r0 _ z1 x G0 H0 fp0 fpr0 po0 => ?_) fun x z => z)
  rw [Res.bd] at z1
  obtain ⟨_, hi, z2⟩ := z1.opt
  clear z1
  rw [Res.bd] at z2
  obtain ⟨G0', po0⟩ := po0.frz
  have s0 := po0.sh0
  obtain ⟨k0, d0, env0⟩ := r0
  cases d0 with
  | obj c' ns vs0 =>
    unfold D.insOf at hi
    dsimp only at hi
    split at hi
    · rename_i hc
      obtain ⟨rfl, hm2⟩ := hc
      have s1 := s0
      unfold Sh at s1
      obtain ⟨a, dx, fs, rfl, hG, rfl, sl⟩ := s1
      have hH : H0 a = some (.ins (He.ga X.K c') dx fs) := by
        rcases po0.rl.gin _ _ hG with z | ⟨z, _⟩
        · exact z
        · exact z.elim
      refine ⟨a, dx, fs, rfl, hH, look_none hm2, hr G0' σ H0 fp0 env0 _ po0.rl (z2.imp (fun r er z vs G1 H1 fp1 po1 s => ?_) fun x z => z.back po0.toR.st)⟩
      rw [Res.bd] at z
      obtain ⟨hl, z⟩ := z.lenQ
      rw [Res.bd] at z
      have po := po0.toR.trans po1
      refine ⟨?_, _, G1, ShL.cons (Sh.mono (In.of po1.st.gg) _ _ s0) s, po1.rl.gin, z.imp (fun r2 _ z v G2 H2 fpr po2 => z v G2 H2 fp1 fpr (PostF.after po po2)) fun x z cls od G2 H2 b => z cls od G2 H2 (Bad.after po b)⟩
      rw [List.length_cons, s.length, hl]
    · cases hi
  | _ => cases hi
end
end VL
/-! Vl8: statements. -/
namespace VL
open PySem PySem.Spec PyProof.Rows L2

/-! ### the judgement -/
structure PostS (K : PySem.W.Frag) (G : Hp) (σ : St) (H : Hp) (fp : List Addr) (env env' : Env) (σ' : St) (G' H' : Hp) (fp' fpr : List Addr) : Prop where
  rl : Rl K G' σ' H' env' fp'
  st : Stp G H fp G' H' (fp' ++ fpr)
  nd : (fp' ++ fpr).Nodup
  out : ∀ a ∈ fpr, G' a = none
  io : ∀ (i k : Nat) (d : D), env[i]? = some (.io k d) → σ'[i]? = σ[i]? ∧ ∃ d' : D, env'[i]? = some (SV.io k d')
def FlOk (K : PySem.W.Frag) (En : Ends) (σ' : St) (G' H' : Hp) (fpr : List Addr) : Fl → Prop
  | .nx => fpr = [] → En.nx σ' H'
  | .bk => fpr = [] → En.bk σ' H'
  | .ct => fpr = [] → En.ct σ' H'
  | .rt k d => ∀ v, Ow K G' H' k d v fpr → En.rt v H'
def ES (K : PySem.W.Frag) (W : WX) (G H : Hp) (fp : List Addr) (x : Xn) : Prop := ∀ σ' cls od G' H', Bad K x G H fp cls od G' H' → W cls od σ' H'
theorem ES.ex {K : PySem.W.Frag} {W : WX} {G H : Hp} {fp : List Addr} {x : Xn} (h : ES K W G H fp x) (σ : St) : EX K W G σ H fp x := fun cls od G' H' b => h σ cls od G' H' b
theorem ES.back {K : PySem.W.Frag} {W : WX} {G H G1 H1 : Hp} {fp fp1 : List Addr} {x : Xn} (s : Stp G H fp G1 H1 fp1) (h : ES K W G H fp x) : ES K W G1 H1 fp1 x := fun σ' cls od G' H' b => h σ' cls od G' H' ⟨b.gin, s.trans b.st, b.rep⟩
def ResS (K : PySem.W.Frag) (W : WX) (G : Hp) (σ : St) (H : Hp) (fp : List Addr) (env : Env) (r : SR) (En : Ends) : Prop :=
  Res (fun r => ∀ σ' G' H' fp' fpr, PostS K G σ H fp env r.2 σ' G' H' fp' fpr → FlOk K En σ' G' H' fpr r.1) (ES K W G H fp) r
structure VS (X : Cx) (W : WX) (st : Stmt) (g : Env → SR) : Prop where
  ex : ∃ t, PS X st t ∧ ∀ G σ H fp env En, Rl X.K G σ H env fp → ResS X.K W G σ H fp env (g env) En → t En σ H
structure VSs (X : Cx) (W : WX) (st : List Stmt) (g : Env → SR) : Prop where
  ex : ∃ t, PSs X st t ∧ ∀ G σ H fp env En, Rl X.K G σ H env fp → ResS X.K W G σ H fp env (g env) En → t En σ H

section
variable {K : PySem.W.Frag} {G H G' H' G1 H1 G2 H2 : Hp} {σ σ' σ1 σ2 : St} {fp fp' fp1 fp2 fpr fpr1 : List Addr} {env env' env1 env2 : Env} {W : WX} {En : Ends} {p : Bool}
theorem PostS.refl (r : Rl K G σ H env fp) : PostS K G σ H fp env env σ G H fp [] :=
  ⟨r, by rw [List.append_nil]; exact Stp.refl G H fp, by rw [List.append_nil]; exact r.nd, fun a m => (nomatch m), fun i k d h => ⟨rfl, d, h⟩⟩
theorem PostS.trans (a : PostS K G σ H fp env env1 σ1 G1 H1 fp1 []) (b : PostS K G1 σ1 H1 fp1 env1 env2 σ2 G2 H2 fp2 fpr) : PostS K G σ H fp env env2 σ2 G2 H2 fp2 fpr :=
  ⟨b.rl, (by have := a.st; rw [List.append_nil] at this; exact this.trans b.st), b.nd, b.out, fun i k d h => by
    obtain ⟨e1, d1, h1⟩ := a.io i k d h
    obtain ⟨e2, d2, h2⟩ := b.io i k d1 h1
    exact ⟨e2.trans e1, d2, h2⟩⟩
theorem PostS.st0 (a : PostS K G σ H fp env env1 σ1 G1 H1 fp1 []) : Stp G H fp G1 H1 fp1 := by have := a.st; rw [List.append_nil] at this; exact this
/-- the slots that are changed in place stand as before -/
def IoK (env env' : Env) : Prop := ∀ (i k : Nat) (d : D), env[i]? = some (SV.io k d) → ∃ d' : D, env'[i]? = some (SV.io k d')
theorem PostS.ofR (a : PostR K p G σ H fp env env1 G1 H1 fp1) (h : IoK env env1) : PostS K G σ H fp env env1 σ G1 H1 fp1 [] :=
  ⟨a.rl, by rw [List.append_nil]; exact a.st, by rw [List.append_nil]; exact a.rl.nd, fun a m => (nomatch m), fun i k d e => ⟨rfl, h i k d e⟩⟩
theorem PostS.ofE {k : Nat} {d : D} {v : V} (a : PostE K p G σ H fp env k d env1 v G1 H1 fp1 fpr) (h : IoK env env1) : PostS K G σ H fp env env1 σ G1 H1 fp1 fpr :=
  ⟨a.rl, a.st, a.nd, a.out, fun i k d e => ⟨rfl, h i k d e⟩⟩
/-- dropping an owned value -/
theorem PostS.drop (a : PostS K G σ H fp env env1 σ1 G1 H1 fp1 fpr) : PostS K G σ H fp env env1 σ1 G1 H1 fp1 [] :=
  ⟨a.rl, by rw [List.append_nil]; exact a.st.sub fun b m => List.mem_append_left _ m, by rw [List.append_nil]; exact a.rl.nd, fun a m => (nomatch m), a.io⟩
end

/-! ### which slots stay changed in place: checked of each result -/
def ioB : Env → Env → Bool
  | [], _ => true
  | .io k _ :: e, .io k' _ :: e' => k == k' && ioB e e'
  | .io _ _ :: _, _ => false
  | _ :: e, _ :: e' => ioB e e'
  | _ :: e, [] => ioB e []
theorem ioB_ok : ∀ {e e' : Env}, ioB e e' = true → IoK e e'
  | [], _, _, i, k, d, h => by simp at h
  | s :: e, e', h, i, k, d, hi => by
    cases i with
    | zero =>
      simp at hi; subst hi
      cases e' with
      | nil => unfold ioB at h; cases h
      | cons s' e' =>
        cases s' <;> unfold ioB at h <;> first | cases h | skip
        rename_i k' d'
        obtain ⟨h1, _⟩ := Bool.and_eq_true_iff.mp h
        have : k = k' := by simpa using h1
        subst this
        exact ⟨d', rfl⟩
    | succ i =>
      have hi : e[i]? = some (.io k d) := by simpa using hi
      cases e' with
      | nil =>
        cases s <;> unfold ioB at h <;> first | cases h | skip
        all_goals
          obtain ⟨d', z⟩ := ioB_ok h i k d hi
          simp at z
      | cons s' e' =>
        have h' : ioB e e' = true := by
          cases s <;> first | (unfold ioB at h; exact h) | skip
          cases s' <;> unfold ioB at h <;> first | cases h | exact (Bool.and_eq_true_iff.mp h).2
        obtain ⟨d', z⟩ := ioB_ok h' i k d hi
        exact ⟨d', by simpa using z⟩
/-- the result keeps them -/
def chk (env : Env) (r : Env) : Rs Env := if ioB env r then ok r else none
theorem Res.chk {P : Env → Prop} {E : Xn → Prop} {env r : Env} (h : Res P E (chk env r)) : IoK env r ∧ P r := by
  unfold VL.chk at h
  by_cases c : ioB env r = true
  · rw [if_pos c] at h; exact ⟨ioB_ok c, h⟩
  · rw [if_neg c] at h; exact h.elim

section
variable {X : Cx} {W : WX} {p q : Bool} {e a b o : Expr} {es : List Expr} {f f1 f2 : Env → ER} {g g1 g2 : Env → RR} {fa : Env → AR} {pos apos pos' : Pos} {lv : Nat} {st : Stmt} {sts : List Stmt} {s s1 s2 : Env → SR}

/-! ### blocks -/
def sNil : Env → SR := fun env => ok (.nx, env)
def sSeq (s1 s2 : Env → SR) : Env → SR := fun env => bd (s1 env) fun r => match r.1 with
  | .nx => s2 r.2
  | fl => ok (fl, r.2)
theorem vss_nil : VSs X W [] sNil := ⟨tNext, pss_nil, fun G σ H fp env En rl z => z σ G H fp [] (PostS.refl rl) rfl⟩
theorem vss_one (h : VS X W st s) : VSs X W [st] s := by
  obtain ⟨t, ht, hr⟩ := h.ex
  exact ⟨t, pss_one ht, hr⟩
theorem vss_cons (h1 : VS X W st s1) (h2 : VSs X W sts s2) : VSs X W (st :: sts) (sSeq s1 s2) := by
  obtain ⟨t1, h1, r1⟩ := h1.ex
  obtain ⟨t2, h2, r2⟩ := h2.ex
  refine ⟨_, pss_cons h1 h2, fun G σ H fp env En rl z => r1 G σ H fp env _ rl ?_⟩
  unfold sSeq ResS at z
  rw [Res.bd] at z
  refine z.imp (fun r _ z σ' G' H' fp' fpr po => ?_) fun x z => z
  obtain ⟨fl, env1⟩ := r
  cases fl with
  | nx =>
    intro e0
    subst e0
    exact r2 G' σ' H' fp' env1 En po.rl (z.imp (fun r' _ z σ2 G2 H2 fp2 fpr2 po2 => z σ2 G2 H2 fp2 fpr2 (po.trans po2)) fun x z => z.back po.st0)
  | bk => exact fun e0 => z σ' G' H' fp' fpr po e0
  | ct => exact fun e0 => z σ' G' H' fp' fpr po e0
  | rt k d => exact fun v hv => z σ' G' H' fp' fpr po v hv
theorem vs_pass : VS X W (.Pass pos) sNil := ⟨tNext, ps_pass, fun G σ H fp env En rl z => z σ G H fp [] (PostS.refl rl) rfl⟩
theorem vs_doc {x : Str} {j : Nat} : VS X W (.Expr (.Constant (.str x) j pos) pos') sNil := ⟨tNext, ps_doc, fun G σ H fp env En rl z => z σ G H fp [] (PostS.refl rl) rfl⟩
def sBrk : Env → SR := fun env => ok (.bk, env)
def sCnt : Env → SR := fun env => ok (.ct, env)
theorem vs_break : VS X W (.Break pos) sBrk := ⟨tBreak, ps_break, fun G σ H fp env En rl z => z σ G H fp [] (PostS.refl rl) rfl⟩
theorem vs_continue : VS X W (.Continue pos) sCnt := ⟨tCont, ps_continue, fun G σ H fp env En rl z => z σ G H fp [] (PostS.refl rl) rfl⟩
/-- code that is not reached -/
def sNo : Env → SR := fun _ => none
theorem vss_no : VSs X W sts sNo := ⟨tNever, pss_never, fun G σ H fp env En rl z => z.elim⟩

/-! ### return, expressions -/
def sRet (f : Env → ER) : Env → SR := fun env => bd (f env) fun r => bd (chk env r.2.2) fun e1 => ok (.rt r.1 r.2.1, e1)
theorem vs_ret (h : VE X W p e f) : VS X W (.Return (some e) pos) (sRet f) := by
  obtain ⟨t, ht, hr⟩ := h.ex
  refine ⟨_, ps_ret ht, fun G σ H fp env En rl z => hr G σ H fp env _ rl ?_⟩
  unfold sRet ResS at z
  rw [Res.bd] at z
  refine z.imp (fun r _ z v G' H' fp' fpr po => ?_) fun x z => z.ex σ
  rw [Res.bd] at z
  obtain ⟨hio, z⟩ := z.chk
  exact z σ G' H' fp' fpr (PostS.ofE po hio) v po.ow
/-- return x: what x owns goes along -/
def sRetV (i : Nat) : Env → SR := fun env => match slot env i with
  | .sh d => ok (.rt 0 d, env)
  | .ow k d => ok (.rt (k + 1) d, env.set i .un)
  | _ => none
theorem set_io {env : Env} {i : Nat} {s : SV} (h : ∀ (k : Nat) (d : D), env[i]? ≠ some (.io k d)) : IoK env (env.set i s) := fun j k d e => by
  have ne : i ≠ j := by rintro rfl; exact h k d e
  exact ⟨d, by rw [List.getElem?_set_ne ne]; exact e⟩
theorem vs_retV {i : Nat} (hp : PE X e (tVar i)) : VS X W (.Return (some e) pos) (sRetV i) := by
  refine ⟨_, ps_ret hp, fun G σ H fp env En rl z => ?_⟩
  unfold sRetV ResS at z
  cases hs : slot env i with
  | un => rw [hs] at z; exact z.elim
  | tb P q => rw [hs] at z; exact z.elim
  | io k d => rw [hs] at z; exact z.elim
  | sh d =>
    rw [hs] at z
    obtain ⟨o, f, e1, ⟨v, rfl, q, _⟩, _⟩ := rl.sl.get (slot_dat hs (by simp))
    exact ⟨v, e1, z σ G H fp [] (PostS.refl rl) v ⟨q, rfl⟩⟩
  | ow k d =>
    rw [hs] at z
    have hi := slot_dat hs (by simp)
    obtain ⟨o, f, fr, e1, ⟨v, rfl, q⟩, nd, hm, put⟩ := rl.sl.put rl.nd hi
    obtain ⟨n1, n2, n3⟩ := List.nodup_append.mp nd
    obtain ⟨fp', s', nd', m'⟩ := put (G' := G) (H' := H) (s' := .un) (o' := some v) (f' := []) (Same.refl' G) (fun a _ o e => e) rfl n2
    rw [set_same e1] at s'
    have m2 : ∀ a, a ∈ fp' ↔ a ∈ fr := fun a => by rw [m']; simp
    refine ⟨v, e1, z σ G H fp' f ⟨⟨rl.gin, s', nd', fun a m => rl.out a ((hm a).mpr (.inr ((m2 a).mp m)))⟩, ⟨Same.refl' G, fun a h => .inl h, fun a m => ?_, fun a o e _ => e⟩, ?_, fun a m => rl.out a ((hm a).mpr (.inl m)), fun j k d h => ⟨rfl, set_io (fun k d => by rw [hi]; simp) j k d h⟩⟩ v q⟩
    · rcases List.mem_append.mp m with m | m
      · exact .inl ((hm a).mpr (.inr ((m2 a).mp m)))
      · exact .inl ((hm a).mpr (.inl m))
    · exact List.nodup_append.mpr ⟨nd', n1, fun a ma b mb => fun z => n3 b mb a ((m2 a).mp ma) z.symm⟩
def sRetN : Env → SR := fun env => ok (.rt 0 .non, env)
theorem vs_retN : VS X W (.Return none pos) sRetN := ⟨tRetN, ps_retN, fun G σ H fp env En rl z => z σ G H fp [] (PostS.refl rl) .non ⟨by unfold Sh; rfl, rfl⟩⟩
def sExpr (f : Env → ER) : Env → SR := fun env => bd (f env) fun r => bd (chk env r.2.2) fun e1 => ok (.nx, e1)
theorem vs_expr (h : VE X W p e f) (hs : swapsWith e none pos.line X.env = pure false := by rfl) : VS X W (.Expr e pos) (sExpr f) := by
  obtain ⟨t, ht, hr⟩ := h.ex
  refine ⟨_, ps_expr ht hs, fun G σ H fp env En rl z => hr G σ H fp env _ rl ?_⟩
  unfold sExpr ResS at z
  rw [Res.bd] at z
  refine z.imp (fun r _ z v G' H' fp' fpr po => ?_) fun x z => z.ex σ
  rw [Res.bd] at z
  obtain ⟨hio, z⟩ := z.chk
  exact z σ G' H' fp' [] (PostS.ofE po hio).drop rfl

/-! ### names stored -/
def svOf : Nat → D → SV
  | 0, d => .sh d
  | k + 1, d => .ow k d
def isIo : SV → Bool
  | .io _ _ => true
  | _ => false
def putS (env : Env) (i : Nat) (s : SV) : Rs Env := if i < env.length ∧ isIo (slot env i) = false then ok (env.set i s) else none
/-- a value goes to slot i -/
theorem Rl.store {K : PySem.W.Frag} {G H : Hp} {σ : St} {fp fpr : List Addr} {env : Env} {i k : Nat} {d : D} {v : V} (r : Rl K G σ H env fp) (hi : i < env.length) (ow : Ow K G H k d v fpr) (nd : (fp ++ fpr).Nodup) (out : ∀ a ∈ fpr, G a = none) :
    ∃ fp', Rl K G (σ.set i (some v)) H (env.set i (svOf k d)) fp' ∧ ∀ a ∈ fp', a ∈ fp ++ fpr := by
  obtain ⟨o, f, fr, e1, q, nd1, hm, put⟩ := r.sl.put r.nd (List.getElem?_eq_getElem hi)
  obtain ⟨n1, n2, n3⟩ := List.nodup_append.mp nd1
  obtain ⟨m1, m2, m3⟩ := List.nodup_append.mp nd
  have sl : Slot1 K G H (svOf k d) (some v) fpr := by
    cases k with
    | zero => exact ⟨v, rfl, ow⟩
    | succ k => exact ⟨v, rfl, ow⟩
  obtain ⟨fp', s', nd', m'⟩ := put (G' := G) (H' := H) (s' := svOf k d) (o' := some v) (f' := fpr) (Same.refl' G) (fun a _ o e => e) sl
    (List.nodup_append.mpr ⟨m2, n2, fun a ma b mb z => m3 b ((hm b).mpr (.inr mb)) a ma z.symm⟩)
  refine ⟨fp', ⟨r.gin, s', nd', fun a m => ?_⟩, fun a m => ?_⟩
  · rcases (m' a).mp m with m | m
    · exact out a m
    · exact r.out a ((hm a).mpr (.inr m))
  · rcases (m' a).mp m with m | m
    · exact List.mem_append_right _ m
    · exact List.mem_append_left _ ((hm a).mpr (.inr m))
theorem Res.putS {P : Env → Prop} {E : Xn → Prop} {env : Env} {i : Nat} {s : SV} (h : Res P E (putS env i s)) : i < env.length ∧ (∀ (k : Nat) (d : D), env[i]? ≠ some (SV.io k d)) ∧ P (env.set i s) := by
  unfold VL.putS at h
  by_cases c : i < env.length ∧ isIo (slot env i) = false
  · rw [if_pos c] at h
    refine ⟨c.1, fun k d e => ?_, h⟩
    have : slot env i = .io k d := by unfold slot; rw [List.getD_eq_getElem?_getD, e]; rfl
    rw [this] at c
    exact nomatch c.2
  · rw [if_neg c] at h; exact h.elim
theorem PostS.stored {K : PySem.W.Frag} {G H G1 H1 : Hp} {σ σ1 : St} {fp fp1 fpr : List Addr} {env env1 : Env} {i k : Nat} {d : D} {v : V} (a : PostS K G σ H fp env env1 σ1 G1 H1 fp1 fpr) (ow : Ow K G1 H1 k d v fpr) (hi : i < env1.length) (hio : ∀ (k : Nat) (d : D), env1[i]? ≠ some (.io k d)) :
    ∃ fp', PostS K G σ H fp env (env1.set i (svOf k d)) (σ1.set i (some v)) G1 H1 fp' [] := by
  obtain ⟨fp', rl', sub⟩ := a.rl.store hi ow a.nd a.out
  refine ⟨fp', rl', ?_, ?_, fun a m => (nomatch m), fun j k' d' h => ?_⟩
  · rw [List.append_nil]; exact a.st.sub sub
  · rw [List.append_nil]; exact rl'.nd
  · obtain ⟨e1, d1, h1⟩ := a.io j k' d' h
    have ne : i ≠ j := by rintro rfl; exact hio k' d1 h1
    exact ⟨by rw [List.getElem?_set_ne ne]; exact e1, d1, by rw [List.getElem?_set_ne ne]; exact h1⟩
def sAsg (i : Nat) (f : Env → ER) : Env → SR := fun env => bd (f env) fun r => bd (chk env r.2.2) fun e1 => bd (putS e1 i (svOf r.1 r.2.1)) fun e2 => ok (.nx, e2)
theorem vs_asg {i : Nat} {x : Str} {pos1 : Pos} (h : VE X W p e f) (hN : X.N.Nodup) (hi : X.N[i]? = some x) (hx : Loc X.env.scope x) (hs : swapsWith e (some (.Name x pos1)) pos.line X.env = pure false := by rfl) (hf : X.fn x = true ∨ X.env.scope.names.lookup x = some .local := by first | exact .inl rfl | exact .inr rfl | assumption) :
    VS X W (.Assign [.Name x pos1] e pos) (sAsg i f) := by
  obtain ⟨t, ht, hr⟩ := h.ex
  refine ⟨_, ps_set (i := i) hN hi hx ht hs hf, fun G σ H fp env En rl z => hr G σ H fp env _ rl ?_⟩
  unfold sAsg ResS at z
  rw [Res.bd] at z
  refine z.imp (fun r _ z v G' H' fp' fpr po => ?_) fun x z => z.ex σ
  rw [Res.bd] at z
  obtain ⟨hio, z⟩ := z.chk
  rw [Res.bd] at z
  obtain ⟨hl, hn, z⟩ := z.putS
  obtain ⟨fp2, po2⟩ := (PostS.ofE po hio).stored po.ow hl hn
  exact z _ G' H' fp2 [] po2 rfl

/-! ### targets -/
/-- only the slots ts are written -/
def Tch (ts : List Nat) (σ σ' : St) : Prop := σ'.length = σ.length ∧ ∀ j : Nat, j ∉ ts → σ'[j]? = σ[j]?
theorem Tch.refl {ts : List Nat} {σ : St} : Tch ts σ σ := ⟨rfl, fun _ _ => rfl⟩
theorem Tch.trans {ts us : List Nat} {σ σ1 σ2 : St} (a : Tch ts σ σ1) (b : Tch us σ1 σ2) : Tch (ts ++ us) σ σ2 :=
  ⟨b.1.trans a.1, fun j h => (b.2 j fun m => h (List.mem_append_right _ m)).trans (a.2 j fun m => h (List.mem_append_left _ m))⟩
structure VG (X : Cx) (W : WX) (ts : List Nat) (tg : Expr) (h : D → Env → Rs Env) : Prop where
  ex : ∃ t, PG X tg t ∧ ∀ G σ H fp env d v Q, Rl X.K G σ H env fp → Sh X.K G d v →
    Res (fun env' => ∀ σ' G' H' fp', PostS X.K G σ H fp env env' σ' G' H' fp' [] → Tch ts σ σ' → Q σ' H') (ES X.K W G H fp) (h d env) → t v σ H Q
structure VGs (X : Cx) (W : WX) (ts : List Nat) (tg : List Expr) (h : List D → Env → Rs Env) : Prop where
  ex : ∃ t, PGs X tg t ∧ ∀ G σ H fp env ds vs Q, Rl X.K G σ H env fp → ShL X.K G ds vs →
    Res (fun env' => ∀ σ' G' H' fp', PostS X.K G σ H fp env env' σ' G' H' fp' [] → Tch ts σ σ' → Q σ' H') (ES X.K W G H fp) (h ds env) → t vs σ H Q
def gNm (i : Nat) : D → Env → Rs Env := fun d env => putS env i (.sh d)
theorem vg_name {i : Nat} {x : Str} (hN : X.N.Nodup) (hi : X.N[i]? = some x) (hx : Loc X.env.scope x) (hf : X.fn x = true ∨ X.env.scope.names.lookup x = some .local := by first | exact .inl rfl | exact .inr rfl | assumption) : VG X W [i] (.Name x pos) (gNm i) := by
  refine ⟨_, pg_name hN hi hx hf, fun G σ H fp env d v Q rl sh z => ?_⟩
  unfold gNm at z
  obtain ⟨hl, hn, z⟩ := z.putS
  obtain ⟨fp2, po2⟩ := (PostS.refl rl).stored (k := 0) (d := d) (v := v) ⟨sh, rfl⟩ hl hn
  exact z _ G H fp2 po2 ⟨List.length_set, fun j h => List.getElem?_set_ne fun e => h (by rw [e]; exact List.mem_cons_self)⟩
def gsNil : List D → Env → Rs Env := fun ds env => match ds with
  | [] => ok env
  | _ => none
def gsCons (h : D → Env → Rs Env) (t : List D → Env → Rs Env) : List D → Env → Rs Env := fun ds env => match ds with
  | d :: r => bd (h d env) fun e1 => t r e1
  | _ => none
theorem vgs_nil : VGs X W [] [] gsNil := by
  refine ⟨_, pgs_nil, fun G σ H fp env ds vs Q rl sh z => ?_⟩
  cases ds with
  | nil => exact ⟨sh.nil_inv, z σ G H fp (PostS.refl rl) Tch.refl⟩
  | cons d r => exact z.elim
theorem vgs_cons {ts us : List Nat} {h : D → Env → Rs Env} {t : List D → Env → Rs Env} (h1 : VG X W ts e h) (h2 : VGs X W us es t) (hs : (assignEach (e :: es) X.env).map (·.2) = assign e X.env :: (assignEach es X.env).map (·.2) := by rfl) : VGs X W (ts ++ us) (e :: es) (gsCons h t) := by
  obtain ⟨t1, h1, r1⟩ := h1.ex
  obtain ⟨t2, h2, r2⟩ := h2.ex
  refine ⟨_, pgs_cons h1 h2 hs, fun G σ H fp env ds vs Q rl sh z => ?_⟩
  cases ds with
  | nil => exact z.elim
  | cons d r =>
    obtain ⟨v, vr, rfl, s1, s2⟩ := sh.cons_inv
    have z : Res _ _ (bd (h d env) fun e1 => t r e1) := z
    rw [Res.bd] at z
    refine ⟨v, vr, rfl, r1 G σ H fp env d v _ rl s1 (z.imp (fun e1 _ z σ1 G1 H1 fp1 po1 tc1 => ?_) fun x z => z)⟩
    exact r2 G1 σ1 H1 fp1 e1 r vr Q po1.rl (ShL.mono (In.of po1.st.gg) _ _ s2) (z.imp (fun e2 _ z σ2 G2 H2 fp2 po2 tc2 => z σ2 G2 H2 fp2 (po1.trans po2) (tc1.trans tc2)) fun x z => z.back po1.st0)
def okO {α : Type} : Rs α → Rs α
  | some (.ok a) => ok a
  | _ => none
def gTp (n : Nat) (t : List D → Env → Rs Env) : D → Env → Rs Env := fun d env => match d with
  | .tup ds => bd (lenQ n ds) fun _ => okO (t ds env)
  | _ => none
theorem vg_tup {k : Nat} (n : Nat) {ts : List Nat} {t : List D → Env → Rs Env} (hc : X.calm = true) (h : VGs X W ts es t) (hn : (assignEach es X.env).length = n := by rfl) (hst : (assignEach es X.env).findIdx? (·.1) = none := by rfl) : VG X W ts (.Tuple es k pos) (gTp n t) := by
  obtain ⟨t1, h1, r1⟩ := h.ex
  refine ⟨_, pg_tup hc h1 hn hst, fun G σ H fp env d v Q rl sh z => ?_⟩
  cases d with
  | tup ds =>
    have z : Res _ _ (bd (lenQ n ds) fun _ => okO (t ds env)) := z
    rw [Res.bd] at z
    obtain ⟨hl, z⟩ := z.lenQ
    unfold Sh at sh
    obtain ⟨a, xs, rfl, hG, sl⟩ := sh
    refine ⟨a, xs, rfl, SqT.of (rl.gin.tup hG), by rw [sl.length, hl], r1 G σ H fp env ds xs Q rl sl ?_⟩
    cases ht : t ds env with
    | none => rw [ht] at z; exact z.elim
    | some c =>
      cases c with
      | error x => rw [ht] at z; exact z.elim
      | ok r => rw [ht] at z; exact z
  | _ => exact z.elim
/-- a, b = e -/
def sUnp (h : D → Env → Rs Env) (f : Env → ER) : Env → SR := fun env => bd (f env) fun r => bd (chk env r.2.2) fun e1 => bd (h r.2.1 e1) fun e2 => ok (.nx, e2)
theorem vs_unp {tg : Expr} {ts : List Nat} {h : D → Env → Rs Env} (hv : VE X W p e f) (hg : VG X W ts tg h) (hs : swapsWithSole [tg] e pos.line X.env = pure false := by rfl) (hw : swappedStores [tg] e X.env = pure none := by rfl)
    (h1 : (assignEach [tg] X.env).map (·.2) = [assign tg X.env] := by rfl) : VS X W (.Assign [tg] e pos) (sUnp h f) := by
  obtain ⟨t, ht, hr⟩ := hv.ex
  obtain ⟨t2, ht2, r2⟩ := hg.ex
  refine ⟨_, ps_asg ht ht2 hs hw h1, fun G σ H fp env En rl z => hr G σ H fp env _ rl ?_⟩
  unfold sUnp ResS at z
  rw [Res.bd] at z
  refine z.imp (fun r _ z v G' H' fp' fpr po => ?_) fun x z => z.ex σ
  rw [Res.bd] at z
  obtain ⟨hio, z⟩ := z.chk
  obtain ⟨G2, po⟩ := po.frz
  have pS := PostS.ofE po hio
  rw [Res.bd] at z
  exact r2 G2 σ H' fp' r.2.2 r.2.1 v _ po.rl po.sh0 (z.imp (fun e2 _ z σ2 G3 H3 fp3 po2 tc => z σ2 G3 H3 fp3 [] (pS.trans po2) rfl) fun x z => z.back pS.st0)

/-! ### if -/
def sIf (c : Env → TR) (s1 s2 : Env → SR) : Env → SR := fun env => bd (c env) fun r => bd (chk env r.2) fun e1 => if r.1 then s1 e1 else s2 e1
theorem vs_if {c : Expr} {tc : Env → TR} {b1 b2 : List Stmt} (hc : VT X W p c tc) (h1 : VSs X W b1 s1) (h2 : VSs X W b2 s2) : VS X W (.If c b1 b2 pos) (sIf tc s1 s2) := by
  obtain ⟨t0, h0, r0⟩ := hc.ex
  obtain ⟨t1, h1, r1⟩ := h1.ex
  obtain ⟨t2, h2, r2⟩ := h2.ex
  refine ⟨_, ps_if h0 h1 h2, fun G σ H fp env En rl z => r0 G σ H fp env _ rl ?_⟩
  unfold sIf ResS at z
  rw [Res.bd] at z
  refine z.imp (fun r _ z G1 H1 fp1 po1 => ?_) fun x z => z.ex σ
  rw [Res.bd] at z
  obtain ⟨hio, z⟩ := z.chk
  have pS := PostS.ofR po1 hio
  cases hb : r.1 with
  | true =>
    rw [hb, if_pos rfl] at z
    rw [if_pos rfl]
    exact r1 G1 σ H1 fp1 r.2 En po1.rl (z.imp (fun r' _ z σ2 G2 H2 fp2 fpr2 po2 => z σ2 G2 H2 fp2 fpr2 (pS.trans po2)) fun x z => z.back pS.st0)
  | false =>
    rw [hb, if_neg Bool.false_ne_true] at z
    rw [if_neg Bool.false_ne_true]
    exact r2 G1 σ H1 fp1 r.2 En po1.rl (z.imp (fun r' _ z σ2 G2 H2 fp2 fpr2 po2 => z σ2 G2 H2 fp2 fpr2 (pS.trans po2)) fun x z => z.back pS.st0)

/-! ### while -/
def whileS (c : Env → TR) (s : Env → SR) : Nat → Env → SR
  | 0, _ => none
  | n + 1, env => bd (c env) fun r => bd (chk env r.2) fun e1 => if r.1 then bd (s e1) fun r2 => match r2.1 with
    | .nx => whileS c s n r2.2
    | .ct => whileS c s n r2.2
    | .bk => ok (.nx, r2.2)
    | .rt k d => ok (.rt k d, r2.2) else ok (.nx, e1)
theorem vs_while {c : Expr} {tc : Env → TR} {body : List Stmt} (n : Nat) (hp : PassesOwn (model X.prog X.w) X.A X.env X.xe) (hc : VT X W p c tc) (hb : VSs X W body s) : VS X W (.While c body [] pos) (whileS tc s n) := by
  obtain ⟨t0, h0, r0⟩ := hc.ex
  obtain ⟨t1, h1, r1⟩ := hb.ex
  refine ⟨_, ps_while hp h0 h1, fun G σ H fp env En rl z => ?_⟩
  refine ⟨fun m σ1 H1 => ∃ G1 fp1 env1, PostS X.K G σ H fp env env1 σ1 G1 H1 fp1 [] ∧ ResS X.K W G1 σ1 H1 fp1 env1 (whileS tc s m env1) En, ⟨n, G, fp, env, PostS.refl rl, z⟩, fun m σ1 H1 hW => ?_⟩
  obtain ⟨G1, fp1, env1, po1, z⟩ := hW
  cases m with
  | zero => exact z.elim
  | succ m =>
    unfold whileS ResS at z
    rw [Res.bd] at z
    refine r0 G1 σ1 H1 fp1 env1 _ po1.rl (z.imp (fun r _ z G2 H2 fp2 po2 => ?_) fun x z => z.ex σ1)
    rw [Res.bd] at z
    obtain ⟨hio, z⟩ := z.chk
    have pS := PostS.ofR po2 hio
    cases hb : r.1 with
    | true =>
      rw [hb, if_pos rfl, Res.bd] at z
      rw [if_pos rfl]
      refine ⟨fun σ' H' => ∃ G1 fp1 env1, PostS X.K G σ H fp env env1 σ' G1 H' fp1 [] ∧ ResS X.K W G1 σ' H' fp1 env1 (whileS tc s m env1) En, fun σ' H' h => ⟨m, Nat.lt_succ_self m, h⟩, r1 G2 σ1 H2 fp2 r.2 _ po2.rl (z.imp (fun r2 _ z σ3 G3 H3 fp3 fpr3 po3 => ?_) fun x z => z.back pS.st0)⟩
      obtain ⟨fl, env3⟩ := r2
      have again : fpr3 = [] → ResS X.K W G1 σ1 H1 fp1 env1 (whileS tc s m env3) En → ∃ G1 fp1 env1, PostS X.K G σ H fp env env1 σ3 G1 H3 fp1 [] ∧ ResS X.K W G1 σ3 H3 fp1 env1 (whileS tc s m env1) En := fun e0 z => by
        subst e0
        have po := pS.trans po3
        exact ⟨G3, fp3, env3, po1.trans po, z.imp (fun r' _ z σ4 G4 H4 fp4 fpr4 po4 => z σ4 G4 H4 fp4 fpr4 (po.trans po4)) fun x z => z.back po.st0⟩
      cases fl with
      | nx => exact fun e0 => again e0 z
      | ct => exact fun e0 => again e0 z
      | bk => exact fun e0 => z σ3 G3 H3 fp3 fpr3 (pS.trans po3) e0
      | rt k d => exact fun v hv => z σ3 G3 H3 fp3 fpr3 (pS.trans po3) v hv
    | false =>
      rw [hb, if_neg Bool.false_ne_true] at z
      rw [if_neg Bool.false_ne_true]
      exact z σ1 G2 H2 fp2 [] pS rfl

/-! ### for -/
def forL (tg : D → Env → Rs Env) (s : Env → SR) : List D → Env → SR
  | [], env => ok (.nx, env)
  | d :: ds, env => bd (tg d env) fun e1 => bd (s e1) fun r2 => match r2.1 with
    | .nx => forL tg s ds r2.2
    | .ct => forL tg s ds r2.2
    | .bk => ok (.nx, r2.2)
    | .rt k d => ok (.rt k d, r2.2)
/-- what is walked: a list of shared data -/
structure VI (X : Cx) (W : WX) (p : Bool) (tg iter : Expr) (f : Env → Rs (List D × Env)) : Prop where
  ex : ∃ wi, PI X tg iter wi ∧ ∀ G σ H fp env (R : It → Hp → Prop), Rl X.K G σ H env fp →
    Res (fun r => ∀ G' H' fp', PostR X.K p G σ H fp env r.2 G' H' fp' → ∀ J : It,
      (∀ i H1, In G' H1 → (i < r.1.length → J.go i H1) ∧ (r.1.length ≤ i → J.stop i H1) ∧ ∀ x H2, i < r.1.length → J.yld i H1 x H2 → ∃ d G2, r.1[i]? = some d ∧ Same G' G2 ∧ Same H1 H2 ∧ (∀ a, G2 a ≠ none → G' a ≠ none ∨ Fr H1 a) ∧ (∀ a o, G2 a = some o → G' a = none → H2 a = some o) ∧ Sh X.K G2 d x) → R J H') (EX X.K W G σ H fp) (f env) → wi σ H R
def sFor (f : Env → Rs (List D × Env)) (tg : D → Env → Rs Env) (s : Env → SR) : Env → SR := fun env => bd (f env) fun r => bd (chk env r.2) fun e1 => forL tg s r.1 e1
theorem vs_for {ts : List Nat} {tg iter : Expr} {fi : Env → Rs (List D × Env)} {h : D → Env → Rs Env} {body : List Stmt} (hp : PassesOwn (model X.prog X.w) X.A X.env X.xe) (hc : X.calm = true) (hi : VI X W p tg iter fi) (hg : VG X W ts tg h) (hb : VSs X W body s)
    (hs : ∀ x, foldedSetIterable iter X.env x = pure x := by intro _; rfl) : VS X W (.For tg iter body [] pos) (sFor fi h s) := by
  obtain ⟨wi, hw, rw_⟩ := hi.ex
  obtain ⟨tg1, hg1, rg⟩ := hg.ex
  obtain ⟨t1, h1, r1⟩ := hb.ex
  refine ⟨_, ps_for hp hc hw hg1 h1 hs, fun G σ H fp env En rl z => ?_⟩
  unfold sFor ResS at z
  rw [Res.bd] at z
  refine rw_ G σ H fp env _ rl (z.imp (fun r _ z G0 H0 fp0 po0 J hJ => ?_) fun x z => z.ex σ)
  rw [Res.bd] at z
  obtain ⟨hio, z⟩ := z.chk
  have pS := PostS.ofR po0 hio
  refine ⟨fun i m σ1 H1 => ∃ G1 fp1 env1, i + m = r.1.length ∧ Same G0 G1 ∧ PostS X.K G σ H fp env env1 σ1 G1 H1 fp1 [] ∧ ResS X.K W G1 σ1 H1 fp1 env1 (forL h s (r.1.drop i) env1) En,
    ⟨r.1.length, G0, fp0, r.2, by omega, Same.refl' _, pS, z.imp (fun r' _ z σ4 G4 H4 fp4 fpr4 po4 => z σ4 G4 H4 fp4 fpr4 (pS.trans po4)) fun x z => z.back pS.st0⟩, fun i m σ1 H1 hW => ?_⟩
  obtain ⟨G1, fp1, env1, em, sG, po1, z⟩ := hW
  obtain ⟨j1, j2, j3⟩ := hJ i H1 (In.pre sG po1.rl.gin)
  by_cases hlt : i < r.1.length
  · refine .inr ⟨j1 hlt, fun σ' H' => ∃ G1 fp1 env1, Same G0 G1 ∧ PostS X.K G σ H fp env env1 σ' G1 H' fp1 [] ∧ ResS X.K W G1 σ' H' fp1 env1 (forL h s (r.1.drop (i + 1)) env1) En, fun σ' H' hN => ?_, fun x H2 hy => ?_⟩
    · obtain ⟨G2, fp2, env2, q1, q2, q3⟩ := hN
      exact ⟨m - 1, by omega, G2, fp2, env2, by omega, q1, q2, q3⟩
    · obtain ⟨d, G2, hd, s1, s2, n1, n2, shd⟩ := j3 x H2 hlt hy
      have ed : r.1.drop i = d :: r.1.drop (i + 1) := by
        obtain ⟨hl, e⟩ := List.getElem?_eq_some_iff.mp hd
        rw [← e]
        exact List.drop_eq_getElem_cons hl
      rw [ed] at z
      unfold forL ResS at z
      rw [Res.bd] at z
      -- the item's own objects join G
      let G3 : Hp := fun a => (G1 a).or (G2 a)
      have s13 : Same G1 G3 := fun a o e => by show (G1 a).or (G2 a) = some o; rw [e]; rfl
      have s23 : Same G2 G3 := fun a o e => by
        show (G1 a).or (G2 a) = some o
        cases e1 : G1 a with
        | none => exact e
        | some u =>
          cases e0 : G0 a with
          | some w0 =>
            have h2 := s1 a w0 e0
            have h1 := sG a w0 e0
            rw [h1] at e1
            cases e1
            rw [h2] at e
            exact e
          | none =>
            rcases n1 a (by rw [e]; simp) with z | z
            · exact absurd e0 z
            · rcases po1.rl.gin a u e1 with q | ⟨_, _, q⟩
              · have h2 := s2 a u q
                rw [n2 a o e e0] at h2
                exact h2.symm
              · rcases z with z | ⟨_, z⟩ <;> rw [z] at q <;> cases q
      have rl3 : PostS X.K G1 σ1 H1 fp1 env1 env1 σ1 G3 H2 fp1 [] := by
        refine PostS.ofR (p := false) ⟨po1.rl.grow s13 (fun a ha => ?_) (fun a _ u e => s2 a u e) (fun a o e => ?_), ⟨s13, fun a ha => ?_, fun a m => .inl m, fun a o e _ => s2 a o e⟩, fun z => (nomatch z)⟩ fun i k d h => ⟨d, h⟩
        · cases e1 : G1 a with
          | some u => exact .inl (by simp)
          | none =>
            have ha : G2 a ≠ none := by
              have ha : (G1 a).or (G2 a) ≠ none := ha
              rw [e1] at ha
              exact ha
            rcases n1 a ha with z | z
            · cases e0 : G0 a with
              | none => exact absurd e0 z
              | some w0 => rw [sG a w0 e0] at e1; cases e1
            · exact .inr z
        · have e : (G1 a).or (G2 a) = some o := e
          cases e1 : G1 a with
          | some u =>
            rw [e1] at e
            obtain rfl : u = o := Option.some.inj e
            rcases po1.rl.gin a u e1 with q | ⟨dd, ob, q⟩
            · exact .inl (s2 a u q)
            · exact .inr ⟨dd, ob, s2 a _ q⟩
          | none =>
            rw [e1] at e
            have e : G2 a = some o := e
            cases e0 : G0 a with
            | none => exact .inl (n2 a o e e0)
            | some w0 => rw [sG a w0 e0] at e1; cases e1
        · cases e1 : G1 a with
          | some u => exact .inl (by simp)
          | none =>
            have ha : G2 a ≠ none := by
              have ha : (G1 a).or (G2 a) ≠ none := ha
              rw [e1] at ha
              exact ha
            rcases n1 a ha with z | z
            · cases e0 : G0 a with
              | none => exact absurd e0 z
              | some w0 => rw [sG a w0 e0] at e1; cases e1
            · exact .inr (.inl z)
      refine rg G3 σ1 H2 fp1 env1 d x _ rl3.rl (Sh.mono (In.of s23) d x shd) (z.imp (fun e2 _ z σ4 G4 H4 fp4 po4 _ => ?_) fun x z => z.back rl3.st0)
      have pA := rl3.trans po4
      rw [Res.bd] at z
      refine r1 G4 σ4 H4 fp4 e2 _ po4.rl (z.imp (fun r5 _ z σ5 G5 H5 fp5 fpr5 po5 => ?_) fun x z => z.back pA.st0)
      obtain ⟨fl, env5⟩ := r5
      have again : fpr5 = [] → ResS X.K W G1 σ1 H1 fp1 env1 (forL h s (r.1.drop (i + 1)) env5) En → ∃ G1 fp1 env1, Same G0 G1 ∧ PostS X.K G σ H fp env env1 σ5 G1 H5 fp1 [] ∧ ResS X.K W G1 σ5 H5 fp1 env1 (forL h s (r.1.drop (i + 1)) env1) En := fun e0 z => by
        subst e0
        have po := pA.trans po5
        exact ⟨G5, fp5, env5, fun a o e => po.st.gg a o (sG a o e), po1.trans po, z.imp (fun r' _ z σ6 G6 H6 fp6 fpr6 po6 => z σ6 G6 H6 fp6 fpr6 (po.trans po6)) fun x z => z.back po.st0⟩
      cases fl with
      | nx => exact fun e0 => again e0 z
      | ct => exact fun e0 => again e0 z
      | bk => exact fun e0 => z σ5 G5 H5 fp5 fpr5 (pA.trans po5) e0
      | rt k d => exact fun v hv => z σ5 G5 H5 fp5 fpr5 (pA.trans po5) v hv
  · have ei : r.1.drop i = [] := List.drop_eq_nil_of_le (by omega)
    rw [ei] at z
    exact .inl ⟨j2 (by omega), z σ1 G1 H1 fp1 [] (PostS.refl po1.rl) rfl⟩
end
end VL
/-! Vl9: a def's promise from its body's reading; the facts of a program. -/
namespace VL
open PySem PySem.Spec PyProof.Rows L2

/-! ### a body's outcome -/
def outP (r : SR) : Rs (Nat × D) := bd r fun x => match x.1 with
  | .nx => ok (0, .non)
  | .rt k d => ok (k, d)
  | _ => none
def outI (j : Nat) (r : SR) : Rs (Nat × D × D) := bd r fun x => match slot x.2 j with
  | .io _ d' => (match x.1 with
    | .nx => ok (0, .non, d')
    | .rt k d => ok (k, d, d')
    | _ => none)
  | _ => none
def env0 (n : Nat) (ds : List D) : Env := ds.map .sh ++ List.replicate (n - ds.length) .un
/-- the argument at j is changed in its place -/
def envI (n j k : Nat) (ds : List D) (dj : D) : Env := (ds.take j).map .sh ++ .io k dj :: ((ds.drop j).map .sh ++ List.replicate (n - (ds.length + 1)) .un)
section
variable {K : PySem.W.Frag} {G H : Hp}
theorem slots_un : ∀ n : Nat, Slots K G H (List.replicate n .un) (List.replicate n none) []
  | 0 => ⟨rfl, rfl⟩
  | n + 1 => ⟨none, _, [], [], rfl, rfl, rfl, slots_un n⟩
theorem slots_sh : ∀ {ds : List D} {vs : List V} {env : Env} {σ : St} {fp : List Addr}, ShL K G ds vs → Slots K G H env σ fp → Slots K G H (ds.map .sh ++ env) (vs.map some ++ σ) fp
  | [], _, _, _, _, h, t => by rw [h.nil_inv]; exact t
  | d :: ds, _, _, _, _, h, t => by
    obtain ⟨v, r, rfl, h1, h2⟩ := h.cons_inv
    exact ⟨some v, _, [], _, rfl, rfl, ⟨v, rfl, h1, rfl⟩, slots_sh h2 t⟩
theorem slots_start {n : Nat} {N : List Str} {ds : List D} {vs : List V} (h : ShL K G ds vs) (e : N.length = n) : Slots K G H (env0 n ds) (L2.start N vs) [] := by
  unfold env0 L2.start
  rw [e, h.length]
  exact slots_sh h (slots_un _)
theorem shL_split : ∀ {j : Nat} {ds : List D} {vp vq : List V}, ShL K G ds (vp ++ vq) → vp.length = j → ShL K G (ds.take j) vp ∧ ShL K G (ds.drop j) vq
  | 0, ds, vp, vq, h, e => by
    rw [List.length_eq_zero_iff.mp e] at h ⊢
    exact ⟨by rw [List.take_zero]; exact ShL.nil, h⟩
  | j + 1, ds, [], vq, h, e => nomatch e
  | j + 1, [], v :: vp, vq, h, e => by have := h.nil_inv; simp at this
  | j + 1, d :: ds, v :: vp, vq, h, e => by
    obtain ⟨u, r, e2, h1, h2⟩ := h.cons_inv
    simp only [List.cons_append, List.cons.injEq] at e2
    obtain ⟨rfl, rfl⟩ := e2
    obtain ⟨q1, q2⟩ := shL_split (j := j) h2 (by simpa using e)
    exact ⟨ShL.cons h1 q1, q2⟩
theorem slots_startI {n j k : Nat} {N : List Str} {ds : List D} {vp vq : List V} {dj : D} {vj : V} {fp : List Addr} (h : ShL K G ds (vp ++ vq)) (hj : vp.length = j) (ow : Ow K G H (k + 1) dj vj fp) (e : N.length = n) : Slots K G H (envI n j k ds dj) (L2.start N (vp ++ vj :: vq)) fp := by
  obtain ⟨h1, h2⟩ := shL_split h hj
  have hl : (vp ++ vj :: vq).length = ds.length + 1 := by
    have := h.length
    simp only [List.length_append, List.length_cons] at this ⊢
    omega
  unfold envI L2.start
  rw [e, hl, List.map_append, List.append_assoc]
  refine slots_sh h1 ?_
  exact ⟨some vj, _, fp, [], rfl, by simp, ⟨vj, rfl, ow⟩, slots_sh h2 (slots_un _)⟩
end

/-! ### what a body's reading is told -/
structure Bd (X : Cx) (W : WX) (lv : Nat) (N : List Str) (sc : Scope) : Prop where
  cf : Cf X W lv
  hN : X.N = N
  hs : X.env.scope = sc
  own : PassesOwn (model X.prog X.w) X.A X.env X.xe
  fn : ∀ x, X.fn x = true
  wi : ∀ cls d σ σ' H, W cls d σ H → W cls d σ' H
section
variable {P : Program} {w : World} {K : PySem.W.Frag} {mg : Str → Option Value} {base : Heap} {x qual : Str} {params : Arguments} {body : List Stmt} {scope : Scope} {dvs : List V} {kws : List (Str × V)} {f : Addr} {fd : FuncData} {N ps : List Str} {lv : Nat}
theorem bd_of {cdv : Value} {A : Around} {outer : List PySem.Env} {s : Shared} {H : Hp} {E : XK} (hr : Room lv (A.deeper (envOfC qual scope s.heap.objs.size f cdv))) :
    Bd (cxOf (L2.CX P w) P w K mg base N qual scope f cdv A outer s H E) (fun cls od _ H' => E cls od H') lv N scope :=
  ⟨⟨rfl, takes_of rfl rfl rfl rfl, hr⟩, rfl, rfl, passes_of rfl, fun _ => rfl, fun _ _ _ _ _ h => h⟩
/-- shared arguments -/
theorem fn_P {raw : Env → SR} (F : FunD K x qual params body scope dvs kws f fd) (S : FnScope N ps scope)
    (hb : ∀ (X : Cx) (W : WX), X.prog = P → X.w = w → X.K = K → X.mg = mg → X.base = base → Bd X W lv N scope → VSs X W body raw) :
    FnOk P w K mg base (L2.CX P w) (lv + 1) f fd ps (spP K ps.length fun ds => outP (raw (env0 N.length ds))) := by
  refine F.ok S (fun vs H Q E h => h.1) fun cdv A outer s H vs Q E hr h => ?_
  obtain ⟨hl, ds, G, sl, gin, z⟩ := h
  obtain ⟨t, ht, run⟩ := (hb (cxOf (L2.CX P w) P w K mg base N qual scope f cdv A outer s H E) (fun cls od _ H' => E cls od H') rfl rfl rfl rfl rfl (bd_of hr)).ex
  refine ⟨t, ht, run G (L2.start N vs) H [] (env0 N.length ds) _ ⟨gin, slots_start sl rfl, List.nodup_nil, fun a m => (nomatch m)⟩ ?_⟩
  unfold outP at z
  rw [Res.bd] at z
  refine z.imp (fun r _ z σ' G' H' fp' fpr po => ?_) fun x z σ' cls od G' H' b => z cls od G' H' b
  obtain ⟨n1, n2, n3⟩ := List.nodup_append.mp po.nd
  have fin : ∀ k d v, Ow K G' H' k d v fpr → PostF K G H [] k d v G' H' [] fpr := fun k d v ow =>
    ⟨po.rl.gin, po.st.sub fun a m => List.mem_append_right _ (by simpa using m), ow, by simpa using n2, fun a m => po.out a (by simpa using m)⟩
  obtain ⟨fl, env'⟩ := r
  cases fl with
  | nx => intro e0; subst e0; exact z .non G' H' [] (fin 0 .non .non ⟨by unfold Sh; rfl, rfl⟩)
  | rt k d => exact fun v ow => z v G' H' fpr (fin k d v ow)
  | bk => exact z.elim
  | ct => exact z.elim
/-- the argument at j changed in its place -/
theorem fn_I {raw : Env → SR} {j k n : Nat} (F : FunD K x qual params body scope dvs kws f fd) (S : FnScope N ps scope) (hn : ps.length = n + 1)
    (hb : ∀ (X : Cx) (W : WX), X.prog = P → X.w = w → X.K = K → X.mg = mg → X.base = base → Bd X W lv N scope → VSs X W body raw) :
    FnOk P w K mg base (L2.CX P w) (lv + 1) f fd ps (spI K (n + 1) j (k + 1) fun ds dj => outI j (raw (envI N.length j k ds dj))) := by
  refine F.ok S (fun vs H Q E h => by rw [hn]; exact h.1) fun cdv A outer s H vs Q E hr h => ?_
  obtain ⟨hl, vp, vj, vq, ds, dj, G, fp, rfl, hj, sl, gin, ow, nd, out, z⟩ := h
  obtain ⟨t, ht, run⟩ := (hb (cxOf (L2.CX P w) P w K mg base N qual scope f cdv A outer s H E) (fun cls od _ H' => E cls od H') rfl rfl rfl rfl rfl (bd_of hr)).ex
  refine ⟨t, ht, run G (L2.start N (vp ++ vj :: vq)) H fp (envI N.length j k ds dj) _ ⟨gin, slots_startI sl hj ow rfl, nd, out⟩ ?_⟩
  have ds_j : j ≤ ds.length := by
    have := sl.length
    simp only [List.length_append] at this
    omega
  have e0 : (envI N.length j k ds dj)[j]? = some (.io k dj) := by
    unfold envI
    rw [List.getElem?_append_right (by simp [List.length_take]; omega)]
    have : j - ((ds.take j).map SV.sh).length = 0 := by simp [List.length_take]; omega
    rw [this]; rfl
  have v0 : (L2.start N (vp ++ vj :: vq))[j]? = some (some vj) := by
    unfold L2.start
    rw [List.map_append, List.append_assoc, List.getElem?_append_right (by simp; omega)]
    have : j - (vp.map some).length = 0 := by simp; omega
    rw [this]; rfl
  unfold outI at z
  rw [Res.bd] at z
  refine z.imp (fun r _ z σ' G' H' fp' fpr po => ?_) fun x z σ' cls od G' H' b => z cls od G' H' b
  obtain ⟨fl, env'⟩ := r
  obtain ⟨es, d1, e1⟩ := po.io j k dj e0
  have sj : slot env' j = .io k d1 := by unfold slot; rw [List.getD_eq_getElem?_getD, e1]; rfl
  obtain ⟨o, fj, fr, q1, q2, nd2, hm, _⟩ := po.rl.sl.put po.rl.nd e1
  rw [es, v0] at q1
  cases q1
  obtain ⟨v, ev, owj⟩ := q2
  cases ev
  obtain ⟨n1, n2, n3⟩ := List.nodup_append.mp po.nd
  obtain ⟨m1, m2, m3⟩ := List.nodup_append.mp nd2
  have sub : ∀ a ∈ fj, a ∈ fp' := fun a m => (hm a).mpr (.inl m)
  have fin : ∀ kr d v, Ow K G' H' kr d v fpr → PostF K G H fp kr d v G' H' fj fpr := fun kr d v ow =>
    ⟨po.rl.gin, po.st.sub fun a m => (List.mem_append.mp m).elim (fun m => List.mem_append_left _ (sub a m)) (fun m => List.mem_append_right _ m), ow,
      List.nodup_append.mpr ⟨m1, n2, fun a ma b mb => n3 a (sub a ma) b mb⟩, fun a m => (List.mem_append.mp m).elim (fun m => po.rl.out a (sub a m)) (fun m => po.out a m)⟩
  dsimp only at z
  rw [sj] at z
  cases fl with
  | nx => intro e0; subst e0; exact z .non G' H' fj [] (fin 0 .non .non ⟨by unfold Sh; rfl, rfl⟩) owj
  | rt kr d => exact fun v ow => z v G' H' fj fpr (fin kr d v ow) owj
  | bk => exact z.elim
  | ct => exact z.elim
end

/-! ### less defined promises -/
def Le {α : Type} (a b : Rs α) : Prop := ∀ r, a = some r → b = some r
theorem Le.refl {α : Type} (a : Rs α) : Le a a := fun _ h => h
theorem Le.res {α : Type} {P : α → Prop} {E : Xn → Prop} {a b : Rs α} (h : Le a b) (z : Res P E a) : Res P E b := by
  cases a with
  | none => exact z.elim
  | some r => rw [h r rfl]; exact z
section
variable {P : Program} {w : World} {K : PySem.W.Frag} {mg : Str → Option Value} {base : Heap} {k n j kd : Nat} {f : Addr} {fd : FuncData} {ps : List Str}
theorem FnOk.leP {F G : List D → Rs (Nat × D)} (h : FnOk P w K mg base (L2.CX P w) k f fd ps (spP K n F)) (le : ∀ ds, Le (G ds) (F ds)) : FnOk P w K mg base (L2.CX P w) k f fd ps (spP K n G) :=
  h.imp fun vs H Q E ⟨h1, ds, G', h2, h3, z⟩ => ⟨h1, ds, G', h2, h3, (le ds).res z⟩
theorem FnOk.leI {F G : List D → D → Rs (Nat × D × D)} (h : FnOk P w K mg base (L2.CX P w) k f fd ps (spI K n j kd F)) (le : ∀ ds d, Le (G ds d) (F ds d)) : FnOk P w K mg base (L2.CX P w) k f fd ps (spI K n j kd G) :=
  h.imp fun vs H Q E ⟨h1, vp, vj, vq, ds, dj, G', fp, a1, a2, a3, a4, a5, a6, a7, z⟩ => ⟨h1, vp, vj, vq, ds, dj, G', fp, a1, a2, a3, a4, a5, a6, a7, (le ds dj).res z⟩
/-- a def of the program, what it promises -/
structure Dn (P : Program) (w : World) (K : PySem.W.Frag) (mg : Str → Option Value) (base : Heap) (k : Nat) (a : Str × Option Str) (ps : List Str) (sp : Sp) : Prop where
  ex : ∃ fd, FnOk P w K mg base (L2.CX P w) k (He.fAd K a) fd ps sp ∧ Binds K fd ps []
  kp : PySem.W.keepIn K (.ref (He.fAd K a)) = true
theorem Dn.leP {a : Str × Option Str} {F G : List D → Rs (Nat × D)} (h : Dn P w K mg base k a ps (spP K n F)) (le : ∀ ds, Le (G ds) (F ds)) : Dn P w K mg base k a ps (spP K n G) := by
  obtain ⟨⟨fd, h1, h2⟩, h3⟩ := h
  exact ⟨⟨fd, FnOk.leP h1 le, h2⟩, h3⟩
theorem Dn.leI {a : Str × Option Str} {F G : List D → D → Rs (Nat × D × D)} (h : Dn P w K mg base k a ps (spI K n j kd F)) (le : ∀ ds d, Le (G ds d) (F ds d)) : Dn P w K mg base k a ps (spI K n j kd G) := by
  obtain ⟨⟨fd, h1, h2⟩, h3⟩ := h
  exact ⟨⟨fd, FnOk.leI h1 le, h2⟩, h3⟩
theorem Dn.mono {a : Str × Option Str} {sp : Sp} {k' : Nat} (h : Dn P w K mg base k a ps sp) (hk : k ≤ k') : Dn P w K mg base k' a ps sp := by
  obtain ⟨⟨fd, h1, h2⟩, h3⟩ := h
  exact ⟨⟨fd, h1.mono hk, h2⟩, h3⟩
end
/-- the facts, by their places -/
structure Fx (fa : List He.Fa) (K : PySem.W.Frag) (mg : Str → Option Value) : Prop where
  ex : ∃ h : Heap, K.In h ∧ h.Ns mainGlobals mg
  ok : ∀ f ∈ fa, f.ok K = true
section
variable {fa : List He.Fa} {K : PySem.W.Frag} {mg : Str → Option Value} (Z : Fx fa K mg)
include Z
theorem Fx.at_ (i : Nat) {f : He.Fa} (h : fa[i]? = some f) : f.ok K = true := Z.ok f (List.mem_of_getElem? h)
theorem Fx.glo (i : Nat) {x : Str} (h : fa[i]? = some (.glo x) := by rfl) : mg x = some (.ref (He.ga K x)) := by
  obtain ⟨hp, a, b⟩ := Z.ex
  exact He.glo_ok a b (Z.at_ i h)
theorem Fx.free (i : Nat) {x : Str} (h : fa[i]? = some (.free x) := by rfl) : mg x = none := by
  obtain ⟨hp, a, b⟩ := Z.ex
  exact He.free_ok a b (Z.at_ i h)
theorem Fx.int (i : Nat) {x : Str} {j : Int} (h : fa[i]? = some (.int x j) := by rfl) : ∃ t, mg x = some (.int j t) := by
  obtain ⟨hp, a, b⟩ := Z.ex
  exact He.int_ok a b (Z.at_ i h)
theorem Fx.cls (i : Nat) {x : Str} (h : fa[i]? = some (.cls x) := by rfl) : Cls K (He.ga K x) := He.cls_ok (Z.at_ i h)
theorem Fx.noat (i : Nat) {x f : Str} (h : fa[i]? = some (.noat x f) := by rfl) : NoAttr K (He.ga K x) f := He.noat_ok (Z.at_ i h)
theorem Fx.meth (i : Nat) {x m : Str} (h : fa[i]? = some (.meth x m) := by rfl) : Meth K (He.ga K x) m (He.ma K (He.ga K x) m) := He.meth_ok (Z.at_ i h)
theorem Fx.mkr (i : Nat) {x : Str} (h : fa[i]? = some (.mkr x) := by rfl) : Mk K (He.ga K x) (He.ma K (He.ga K x) "__init__") := He.mkr_ok (Z.at_ i h)
end
/-! ### calls by name -/
section
variable {X : Cx} {W : WX} {p q : Bool} {e a b o : Expr} {es : List Expr} {f f1 f2 : Env → ER} {g g1 g2 : Env → RR} {fa : Env → AR} {pos apos : Pos} {lv k : Nat}
theorem ve_callN {x : Str} {ps : List Str} {F : List D → Rs (Nat × D)} {pp : Pos} (n : Nat) (c : Cf X W lv) (D1 : Dn X.prog X.w X.K X.mg X.base k (x, none) ps (spP X.K n F)) (hk : k ≤ lv) (hg : Gl X x) (hm : X.mg x = some (.ref (He.ga X.K x))) (ha : VA X W p (e :: es) fa) (hdb : (x == ("__debug__" : Str)) = false := by decide)
    (he : starEach (e :: es) X.env = (false, eval e X.env) :: starEach es X.env := by rfl) (hpl : (backTo pos (starEach es X.env)).any (·.1) = false := by rfl) :
    VE X W p (.Call (.Name x pp) (e :: es) [] pos) (eCall n F fa) := by
  obtain ⟨⟨fd, FF, hb⟩, kp⟩ := D1
  exact ve_call n c hk FF hb kp hg hm ha hdb he hpl
theorem ve_callIN {x : Str} {i j kd : Nat} {ps : List Str} {F : List D → D → Rs (Nat × D × D)} {pp : Pos} (n : Nat) (c : Cf X W lv) (D1 : Dn X.prog X.w X.K X.mg X.base k (x, none) ps (spI X.K (n + 1) j kd F)) (hk : k ≤ lv) (hg : Gl X x) (hm : X.mg x = some (.ref (He.ga X.K x))) (ha : VAI X W i j (e :: es) fa) (hdb : (x == ("__debug__" : Str)) = false := by decide)
    (he : starEach (e :: es) X.env = (false, eval e X.env) :: starEach es X.env := by rfl) (hpl : (backTo pos (starEach es X.env)).any (·.1) = false := by rfl) :
    VE X W false (.Call (.Name x pp) (e :: es) [] pos) (eCallI n i kd F fa) := by
  obtain ⟨⟨fd, FF, hb⟩, kp⟩ := D1
  exact ve_callI n c hk FF hb kp hg hm ha hdb he hpl
theorem ve_methN {cn m : Str} {ps : List Str} {F : List D → Rs (Nat × D)} (n : Nat) (c : Cf X W lv) (D1 : Dn X.prog X.w X.K X.mg X.base k (cn, some m) ps (spP X.K (n + 1) F)) (hk : k ≤ lv) (cl : Cls X.K (He.ga X.K cn)) (hm : Meth X.K (He.ga X.K cn) m (He.ma X.K (He.ga X.K cn) m))
    (ho : VE X W p o f) (ha : VA X W q (e :: es) fa) (hst : starEach (e :: es) X.env = (false, eval e X.env) :: starEach es X.env := by rfl) (hpl : (backTo pos (starEach es X.env)).any (·.1) = false := by rfl)
    (ht : eval (.Call (.Attribute o m apos) (e :: es) [] pos) X.env = (do
      let ov ← eval o X.env
      standAt apos.atName
      let (f, first) ← holding [ov] (getMethod ov m (plainOf o X.env))
      callWith pos f first (backTo pos (starEach (e :: es) X.env)) (backToKw pos (keywordEach [] X.env))) := by rfl) :
    VE X W (p && q) (.Call (.Attribute o m apos) (e :: es) [] pos) (eMeth n cn m F f fa) := by
  obtain ⟨⟨fd, FF, hb⟩, kp⟩ := D1
  exact ve_meth n c hk cl hm FF hb ho ha hst hpl ht
end
end VL
/-! Vl10: what is walked; list comprehensions. -/
namespace VL
open PySem PySem.Spec PyProof.Rows L2

/-! ### framing -/
section
variable {K : PySem.W.Frag} {G H G' H' G1 H1 G2 H2 : Hp} {σ : St} {fp fp' f fpr : List Addr} {env env' : Env}
theorem Ow.frame {k : Nat} {d : D} {v : V} (ow : Ow K G H k d v f) (out : ∀ a ∈ f, G a = none) (nd : (fp ++ f).Nodup) (st : Stp G H fp G' H' fp') :
    Ow K G' H' k d v f ∧ (∀ a ∈ f, G' a = none) ∧ (fp'.Nodup → (fp' ++ f).Nodup) := by
  obtain ⟨n1, n2, n3⟩ := List.nodup_append.mp nd
  have nf : ∀ a ∈ f, a ∉ fp := fun a m z => n3 a z a m rfl
  refine ⟨Ow.mono st.gg k d v f (fun a m o e => st.keep a o e (nf a m)) ow, fun a m => ?_, fun h => List.nodup_append.mpr ⟨h, n2, fun a ma b mb z => ?_⟩⟩
  · cases e : G' a with
    | none => rfl
    | some u =>
      rcases st.gn a (by rw [e]; simp) with z | z | z
      · exact absurd (out a m) z
      · exact absurd z (Ow.nfr k d v f ow a m)
      · exact absurd z (nf a m)
  · rcases st.fn a ma with y | y
    · exact n3 a y b mb z
    · exact Ow.there k d v f ow b mb (by rw [← z]; exact y)
theorem Stp.frame (st : Stp G H fp G' H' fp') : Stp G H (fp ++ f) G' H' (fp' ++ f) :=
  ⟨st.gg, fun a h => (st.gn a h).imp id fun z => z.imp id fun m => List.mem_append_left _ m, fun a m => (List.mem_append.mp m).elim (fun m => (st.fn a m).imp (fun z => List.mem_append_left _ z) id) (fun m => .inl (List.mem_append_right _ m)), fun a o e n => st.keep a o e fun m => n (List.mem_append_left _ m)⟩
/-- a thing that is owned is changed -/
theorem Stp.write {a : Addr} {o : HO} (m : a ∈ fp) : Stp G H fp G (upd H a o) fp :=
  ⟨Same.refl' G, fun _ h => .inl h, fun _ h => .inl h, fun b u e n => by rw [upd_ne (fun z => n (by rw [z]; exact m))]; exact e⟩
theorem In.write {a : Addr} {o : HO} (i : In G H) (n : G a = none) : In G (upd H a o) := i.post fun b u ne e => by
  rw [upd_ne (fun z => ne (by rw [z]; exact n))]; exact e
/-- a yielded item joins what is shared -/
theorem yld_join {G0 : Hp} {σ1 : St} {env1 : Env} {fp1 : List Addr} (rl : Rl K G1 σ1 H1 env1 fp1) (sG : Same G0 G1) (s1 : Same G0 G2) (s2 : Same H1 H2) (n1 : ∀ a, G2 a ≠ none → G0 a ≠ none ∨ Fr H1 a) (n2 : ∀ a o, G2 a = some o → G0 a = none → H2 a = some o) :
    ∃ G3, Same G1 G3 ∧ Same G2 G3 ∧ Rl K G3 σ1 H2 env1 fp1 ∧ Stp G1 H1 fp1 G3 H2 fp1 := by
  have s13 : Same G1 (fun a => (G1 a).or (G2 a)) := fun a o e => by show (G1 a).or (G2 a) = some o; rw [e]; rfl
  have s23 : Same G2 (fun a => (G1 a).or (G2 a)) := fun a o e => by
    show (G1 a).or (G2 a) = some o
    cases e1 : G1 a with
    | none => exact e
    | some u =>
      cases e0 : G0 a with
      | some w0 =>
        have h2 := s1 a w0 e0
        have h1 := sG a w0 e0
        rw [h1] at e1
        cases e1
        rw [h2] at e
        exact e
      | none =>
        rcases n1 a (by rw [e]; simp) with z | z
        · exact absurd e0 z
        · rcases rl.gin a u e1 with q | ⟨_, _, q⟩
          · have h2 := s2 a u q
            rw [n2 a o e e0] at h2
            exact h2.symm
          · rcases z with z | ⟨_, z⟩ <;> rw [z] at q <;> cases q
  have gn : ∀ a, (G1 a).or (G2 a) ≠ none → G1 a ≠ none ∨ Fr H1 a := fun a ha => by
    cases e1 : G1 a with
    | some u => exact .inl (by simp)
    | none =>
      have ha : G2 a ≠ none := by
        rw [e1] at ha
        exact ha
      rcases n1 a ha with z | z
      · cases e0 : G0 a with
        | none => exact absurd e0 z
        | some w0 => rw [sG a w0 e0] at e1; cases e1
      · exact .inr z
  refine ⟨fun a => (G1 a).or (G2 a), s13, s23, rl.grow s13 gn (fun a _ u e => s2 a u e) (fun a o e => ?_), s13, fun a ha => (gn a ha).imp id .inl, fun a m => .inl m, fun a o e _ => s2 a o e⟩
  have e : (G1 a).or (G2 a) = some o := e
  cases e1 : G1 a with
  | some u =>
    rw [e1] at e
    obtain rfl : u = o := Option.some.inj e
    rcases rl.gin a u e1 with q | ⟨dd, ob, q⟩
    · exact .inl (s2 a u q)
    · exact .inr ⟨dd, ob, s2 a _ q⟩
  | none =>
    rw [e1] at e
    have e : G2 a = some o := e
    cases e0 : G0 a with
    | none => exact .inl (n2 a o e e0)
    | some w0 => rw [sG a w0 e0] at e1; cases e1
end

/-! ### one reading for all contexts -/
def cE (K : PySem.W.Frag) (W : WX) (p : Bool) (f : Env → ER) : TE := fun σ H Q => ∃ G fp env, Rl K G σ H env fp ∧ ResE K W p G σ H fp env (f env) Q
theorem VE.pe {X : Cx} {W : WX} {p : Bool} {e : Expr} {f : Env → ER} (h : VE X W p e f) : PE X e (cE X.K W p f) := by
  obtain ⟨t, ht, hr⟩ := h.ex
  exact ⟨fun pins s σ H Q I ⟨G, fp, env, rl, z⟩ => ht.run pins s σ H Q I (hr G σ H fp env Q rl z)⟩
def cG (K : PySem.W.Frag) (W : WX) (ts : List Nat) (h : D → Env → Rs Env) : TG := fun v σ H Q => ∃ G fp env d, Rl K G σ H env fp ∧ Sh K G d v ∧ Res (fun env' => ∀ σ' G' H' fp', PostS K G σ H fp env env' σ' G' H' fp' [] → Tch ts σ σ' → Q σ' H') (ES K W G H fp) (h d env)
theorem VG.pg {X : Cx} {W : WX} {ts : List Nat} {e : Expr} {f : D → Env → Rs Env} (h : VG X W ts e f) : PG X e (cG X.K W ts f) := by
  obtain ⟨t, ht, hr⟩ := h.ex
  exact ⟨fun pins s σ H v u Q I r ⟨G, fp, env, d, rl, sh, z⟩ => ht.run pins s σ H v u Q I r (hr G σ H fp env d v Q rl sh z)⟩
/-- a comprehension's tests -/
structure VTs (X : Cx) (W : WX) (es : List Expr) (f : Env → TR) : Prop where
  ex : ∃ t, PTs X es t ∧ ∀ G σ H fp env Q, Rl X.K G σ H env fp → ResT X.K W false G σ H fp env (f env) Q → t σ H Q
def tYesF : Env → TR := fun env => ok (true, env)
theorem vts_nil {X : Cx} {W : WX} : VTs X W [] tYesF := ⟨tYes, pts_nil, fun G σ H fp env Q rl z => z G H fp (PostR.refl rl)⟩
theorem vts_one {X : Cx} {W : WX} {p : Bool} {e : Expr} {f : Env → TR} (h : VT X W p e f) : VTs X W [e] f := by
  obtain ⟨t, ht, hr⟩ := h.ex
  exact ⟨_, pts_one ht, fun G σ H fp env Q rl z => hr G σ H fp env Q rl (z.imp (fun r _ z G' H' fp' po => z G' H' fp' po.wk) fun x z => z)⟩
def cT (K : PySem.W.Frag) (W : WX) (f : Env → TR) : TT := fun σ H Q => ∃ G fp env, Rl K G σ H env fp ∧ ResT K W false G σ H fp env (f env) Q
theorem VTs.pts {X : Cx} {W : WX} {es : List Expr} {f : Env → TR} (h : VTs X W es f) : PTs X es (cT X.K W f) := by
  obtain ⟨t, ht, hr⟩ := h.ex
  exact ⟨fun pins s σ H Q I ⟨G, fp, env, rl, z⟩ => ht.run pins s σ H Q I (hr G σ H fp env Q rl z)⟩

/-! ### what is walked -/
section
variable {X : Cx} {W : WX} {p q : Bool} {e a b : Expr} {es : List Expr} {f f1 f2 : Env → ER} {fa : Env → AR} {pos : Pos} {tg : Expr}
/-- a list or tuple -/
def iSeq (f : Env → ER) : Env → Rs (List D × Env) := fun env => bd (f env) fun r => match r.2.1 with
  | .lst ds => ok (ds, r.2.2)
  | .tup ds => ok (ds, r.2.2)
  | _ => none
theorem vi_seq (h : VE X W p e f) : VI X W p tg e (iSeq f) := by
  obtain ⟨t, ht, hr⟩ := h.ex
  refine ⟨_, PI.or (pi_list (tg := tg) ht) (pi_tup ht), fun G σ H fp env R rl z => ?_⟩
  unfold iSeq at z
  rw [Res.bd] at z
  by_cases c : ∃ r ds, f env = ok r ∧ r.2.1 = .tup ds
  · obtain ⟨r0, ds, er, ed⟩ := c
    refine .inr (hr G σ H fp env _ rl (z.imp (fun r e z v G' H' fp' fpr po => ?_) fun x z => z))
    rw [er] at e
    cases e
    rw [ed] at z po
    obtain ⟨G2, po⟩ := po.frz
    have sh := po.sh0
    unfold Sh at sh
    obtain ⟨l, xs, rfl, hG, sl⟩ := sh
    have at_ : ∀ H1, In G2 H1 → SqT X.K H1 l xs := fun H1 i => SqT.of (i.tup hG)
    refine ⟨l, rfl, ⟨xs, at_ H' po.rl.gin⟩, z G2 H' fp' po.toR (Itt X.K l) fun i H1 hi => ⟨fun hlt => ?_, fun hle => ⟨xs, at_ H1 hi, by rw [sl.length]; exact hle⟩, fun x H2 hlt hy => ?_⟩⟩
    · have hlt : i < xs.length := by rw [sl.length]; exact hlt
      exact ⟨xs, xs[i], at_ H1 hi, List.getElem?_eq_getElem hlt⟩
    · obtain ⟨rfl, hx⟩ := hy
      obtain ⟨d, hd, sd⟩ := sl.get' (hx xs (at_ _ hi))
      exact ⟨d, G2, hd, Same.refl' _, Same.refl' _, fun a h => .inl h, fun a o h1 h2 => (by rw [h1] at h2; cases h2), sd⟩
  · refine .inl (hr G σ H fp env _ rl (z.imp (fun r e z v G' H' fp' fpr po => ?_) fun x z => z))
    obtain ⟨k, d, env1⟩ := r
    cases d with
    | tup ds => exact absurd ⟨_, ds, e, rfl⟩ c
    | lst ds =>
      obtain ⟨G2, po⟩ := po.frz
      have sh := po.sh0
      unfold Sh at sh
      obtain ⟨l, xs, rfl, hG, sl⟩ := sh
      have at_ : ∀ H1, In G2 H1 → SqL X.K H1 l xs := fun H1 i => SqL.of (i.lst hG)
      refine ⟨l, rfl, ⟨xs, at_ H' po.rl.gin⟩, z G2 H' fp' po.toR (Itl X.K l) fun i H1 hi => ⟨fun hlt => ?_, fun hle => ⟨xs, at_ H1 hi, by rw [sl.length]; exact hle⟩, fun x H2 hlt hy => ?_⟩⟩
      · have hlt : i < xs.length := by rw [sl.length]; exact hlt
        exact ⟨xs, xs[i], at_ H1 hi, List.getElem?_eq_getElem hlt⟩
      · obtain ⟨rfl, hx⟩ := hy
        obtain ⟨d, hd, sd⟩ := sl.get' (hx xs (at_ _ hi))
        exact ⟨d, G2, hd, Same.refl' _, Same.refl' _, fun a h => .inl h, fun a o h1 h2 => (by rw [h1] at h2; cases h2), sd⟩
    | _ => exact z.elim
/-- range -/
def rng (lo : Int) (n : Nat) : List D := (List.range n).map fun i : Nat => D.int (lo + (i : Int))
theorem rng_len {lo : Int} {n : Nat} : (rng lo n).length = n := by unfold rng; simp
theorem rng_get {lo : Int} {n i : Nat} (h : i < n) : (rng lo n)[i]? = some (.int (lo + (i : Int))) := by unfold rng; simp [h]
def big (i : Int) : Bool := decide (-(2 ^ 62) ≤ i) && decide (i < 2 ^ 62)
def iRng1F (fa : Env → AR) : Env → Rs (List D × Env) := fun env => bd (fa env) fun r => match r.1 with
  | [.int j] => if big j then ok (rng 0 j.toNat, r.2) else none
  | _ => none
def iRng2F (fa : Env → AR) : Env → Rs (List D × Env) := fun env => bd (fa env) fun r => match r.1 with
  | [.int i, .int j] => if big i && big j then ok (rng i (j - i).toNat, r.2) else none
  | _ => none
theorem rng_it {K : PySem.W.Frag} {G' : Hp} {lo : Int} {n : Nat} (i : Nat) (H1 : Hp) (hi : In G' H1) : (i < (rng lo n).length → (Itr lo n).go i H1) ∧ ((rng lo n).length ≤ i → (Itr lo n).stop i H1) ∧
    ∀ x H2, i < (rng lo n).length → (Itr lo n).yld i H1 x H2 → ∃ d G2, (rng lo n)[i]? = some d ∧ Same G' G2 ∧ Same H1 H2 ∧ (∀ a, G2 a ≠ none → G' a ≠ none ∨ Fr H1 a) ∧ (∀ a o, G2 a = some o → G' a = none → H2 a = some o) ∧ Sh K G2 d x := by
  rw [rng_len]
  refine ⟨fun h => h, fun h => h, fun x H2 hlt hy => ?_⟩
  obtain ⟨rfl, rfl⟩ := hy
  exact ⟨_, G', rng_get hlt, Same.refl' _, Same.refl' _, fun a h => .inl h, fun a o h1 h2 => (by rw [h1] at h2; cases h2), by unfold Sh; rfl⟩
theorem vi_range1 {pp : Pos} (hg : Gl X "range") (hm : X.mg "range" = none) (ha : VRA X W p [a] fa) (hs : starEach [a] X.env = [(false, eval a X.env)] := by rfl) : VI X W p tg (.Call (.Name "range" pp) [a] [] pos) (iRng1F fa) := by
  obtain ⟨t, ht, hr⟩ := ha.ex
  refine ⟨_, pi_range1 hg hm ht hs, fun G σ H fp env R rl z => hr G σ H fp env _ rl ?_⟩
  unfold iRng1F at z
  rw [Res.bd] at z
  refine z.imp (fun r e z vs G' H' fp' po sl => ?_) fun x z => z
  obtain ⟨ds, env1⟩ := r
  dsimp only at z
  split at z
  · rename_i j
    by_cases c : big j = true
    · rw [if_pos c] at z
      obtain ⟨c1, c2⟩ := Bool.and_eq_true_iff.mp c
      obtain ⟨v, rr, rfl, s1, s2⟩ := sl.cons_inv
      rw [s2.nil_inv]
      unfold Sh at s1
      rw [s1]
      exact ⟨j, rfl, of_decide_eq_true c1, of_decide_eq_true c2, z G' H' fp' po (Itr 0 j.toNat) rng_it⟩
    · rw [if_neg c] at z; exact z.elim
  · exact z.elim
theorem vi_range2 {pp : Pos} (hg : Gl X "range") (hm : X.mg "range" = none) (ha : VRA X W p [a, b] fa) (hs : starEach [a, b] X.env = [(false, eval a X.env), (false, eval b X.env)] := by rfl) (hs2 : starEach [b] X.env = [(false, eval b X.env)] := by rfl) : VI X W p tg (.Call (.Name "range" pp) [a, b] [] pos) (iRng2F fa) := by
  obtain ⟨t, ht, hr⟩ := ha.ex
  refine ⟨_, pi_range2 hg hm ht hs hs2, fun G σ H fp env R rl z => hr G σ H fp env _ rl ?_⟩
  unfold iRng2F at z
  rw [Res.bd] at z
  refine z.imp (fun r e z vs G' H' fp' po sl => ?_) fun x z => z
  obtain ⟨ds, env1⟩ := r
  dsimp only at z
  split at z
  · rename_i i j
    by_cases c : (big i && big j) = true
    · rw [if_pos c] at z
      obtain ⟨c0, c1⟩ := Bool.and_eq_true_iff.mp c
      obtain ⟨c3, c4⟩ := Bool.and_eq_true_iff.mp c0
      obtain ⟨c1, c2⟩ := Bool.and_eq_true_iff.mp c1
      obtain ⟨v, rr, rfl, s1, s2⟩ := sl.cons_inv
      obtain ⟨u, rr, rfl, s3, s2⟩ := s2.cons_inv
      rw [s2.nil_inv]
      unfold Sh at s1 s3
      rw [s1, s3]
      exact ⟨i, j, rfl, ⟨of_decide_eq_true c3, of_decide_eq_true c4, of_decide_eq_true c1, of_decide_eq_true c2⟩, z G' H' fp' po (Itr i (j - i).toNat) rng_it⟩
    · rw [if_neg c] at z; exact z.elim
  · exact z.elim
/-- enumerate(xs), xs a list -/
def enumD : Nat → List D → List D
  | _, [] => []
  | i, d :: ds => .tup [.int (i : Int), d] :: enumD (i + 1) ds
theorem enumD_len : ∀ {i : Nat} {ds : List D}, (enumD i ds).length = ds.length
  | _, [] => rfl
  | i, d :: ds => by unfold enumD; rw [List.length_cons, List.length_cons, enumD_len]
theorem enumD_get : ∀ {i j : Nat} {ds : List D} {d : D}, ds[j]? = some d → (enumD i ds)[j]? = some (.tup [.int ((i + j : Nat) : Int), d])
  | _, _, [], _, h => by simp at h
  | i, 0, d :: ds, _, h => by
    simp at h; subst h; rfl
  | i, j + 1, d :: ds, _, h => by
    have := enumD_get (i := i + 1) (j := j) (ds := ds) (by simpa using h)
    unfold enumD
    rw [List.getElem?_cons_succ, this]
    congr 4
    omega
def iEnumF (fa : Env → AR) : Env → Rs (List D × Env) := fun env => bd (fa env) fun r => match r.1 with
  | [.lst ds] => ok (enumD 0 ds, r.2)
  | _ => none
theorem vi_enum {pp tpos : Pos} {elts : List Expr} {kk : Nat} (hg : Gl X "enumerate") (hm : X.mg "enumerate" = none) (ha : VA X W p [a] fa) (hs : starEach [a] X.env = [(false, eval a X.env)] := by rfl) : VI X W p (.Tuple elts kk tpos) (.Call (.Name "enumerate" pp) [a] [] pos) (iEnumF fa) := by
  obtain ⟨t, ht, hr⟩ := ha.ex
  refine ⟨_, pi_enum hg hm ht hs, fun G σ H fp env R rl z => hr G σ H fp env _ rl ?_⟩
  unfold iEnumF at z
  rw [Res.bd] at z
  refine z.imp (fun r e z vs G' H' fp' po sl => ?_) fun x z => z
  obtain ⟨ds, env1⟩ := r
  dsimp only at z
  split at z
  · rename_i ds
    obtain ⟨v, rr, rfl, s1, s2⟩ := sl.cons_inv
    rw [s2.nil_inv]
    unfold Sh at s1
    obtain ⟨l, xs, rfl, hG, sl⟩ := s1
    have at_ : ∀ H1, In G' H1 → SqL X.K H1 l xs := fun H1 i => SqL.of (i.lst hG)
    refine ⟨l, xs, rfl, at_ H' po.rl.gin, z G' H' fp' po (Ite X.K l) fun i H1 hi => ⟨fun hlt => ?_, fun hle => ⟨xs, at_ H1 hi, by rw [sl.length]; rw [enumD_len] at hle; exact hle⟩, fun x H2 hlt hy => ?_⟩⟩
    · have hlt : i < xs.length := by rw [sl.length]; rw [enumD_len] at hlt; exact hlt
      exact ⟨xs, xs[i], at_ H1 hi, List.getElem?_eq_getElem hlt⟩
    · obtain ⟨T, y, rfl, hT, rfl, hx⟩ := hy
      obtain ⟨d, hd, sd⟩ := sl.get' (hx xs (at_ _ hi))
      have nG : G' T = none := by
        cases e : G' T with
        | none => rfl
        | some u => rcases hi T u e with q | ⟨_, _, q⟩ <;> rw [hT] at q <;> cases q
      refine ⟨_, upd G' T (.tup [.int (i : Nat), y]), enumD_get (i := 0) hd, same_upd nG, same_upd hT, fun a h => ?_, fun a o h1 h2 => ?_, ?_⟩
      · by_cases c : a = T
        · exact .inr (.inl (by rw [c]; exact hT))
        · rw [upd_ne c] at h; exact .inl h
      · by_cases c : a = T
        · rw [c, upd_same] at h1; cases h1; rw [c, upd_same]
        · rw [upd_ne c, h2] at h1; cases h1
      · unfold Sh
        refine ⟨T, _, rfl, upd_same, ShL.cons (by unfold Sh; simp) (ShL.cons (Sh.mono (In.of (same_upd nG)) _ _ sd) ShL.nil)⟩
  · exact z.elim
end
end VL
/-! Vl11: list comprehensions, dict comprehensions. -/
namespace VL
open PySem PySem.Spec PyProof.Rows L2

/-! ### a block's own names -/
def nOw : SV → Bool
  | .un => true
  | .sh _ => true
  | _ => false
def wipeE (env : Env) : List Nat → Env
  | [] => env
  | v :: vs => (wipeE env vs).set v .un
def wOk (env : Env) (vs : List Nat) : Bool := vs.all fun v => nOw (slot env v)
def wp (vs : List Nat) (env : Env) : Rs Env := if wOk env vs then ok (wipeE env vs) else none
/-- the names as they were -/
def restE (env e : Env) : List Nat → Env
  | [] => e
  | v :: vs => restE env (e.set v (slot env v)) vs
section
variable {K : PySem.W.Frag} {G H G' H' : Hp}
theorem Slots.set0 : ∀ {env : Env} {σ : St} {fp : List Addr} {i : Nat} {s : SV} {o : Option V}, Slots K G H env σ fp → nOw (slot env i) = true → Slot1 K G H s o [] → Slots K G H (env.set i s) (σ.set i o) fp
  | [], _, _, _, _, _, h, _, _ => by rw [h.1]; exact ⟨rfl, h.2⟩
  | s0 :: env, _, _, 0, s, o, ⟨o0, r, f, g, e1, e2, h1, h2⟩, c, q => by
    subst e1
    have hf : f = [] := by
      cases s0 with
      | un => exact h1
      | sh d => obtain ⟨_, _, _, e⟩ := h1; exact e
      | ow k d => cases (show nOw (.ow k d) = true from c)
      | io k d => cases (show nOw (.io k d) = true from c)
      | tb P q => cases (show nOw (.tb P q) = true from c)
    subst hf
    exact ⟨o, r, [], g, rfl, e2, q, h2⟩
  | s0 :: env, _, _, i + 1, s, o, ⟨o0, r, f, g, e1, e2, h1, h2⟩, c, q => by
    subst e1
    exact ⟨o0, _, f, g, rfl, e2, h1, Slots.set0 h2 (by simpa [slot] using c) q⟩
theorem slot_set_ne {env : Env} {i j : Nat} {s : SV} (h : i ≠ j) : slot (env.set i s) j = slot env j := by
  unfold slot
  rw [List.getD_eq_getElem?_getD, List.getD_eq_getElem?_getD, List.getElem?_set_ne h]
theorem slot_set_un {env : Env} {i : Nat} : slot (env.set i .un) i = .un := by
  unfold slot
  rw [List.getD_eq_getElem?_getD, List.getElem?_set]
  by_cases h : i < env.length <;> simp [h]
theorem nOw_wipe {env : Env} {j : Nat} (h : nOw (slot env j) = true) : ∀ vs : List Nat, nOw (slot (wipeE env vs) j) = true
  | [] => h
  | v :: vs => by
    unfold wipeE
    by_cases e : v = j
    · subst e; rw [slot_set_un]; rfl
    · rw [slot_set_ne e]; exact nOw_wipe h vs
theorem Slots.wipe {env : Env} {σ : St} {fp : List Addr} (h : Slots K G H env σ fp) : ∀ {vs : List Nat}, wOk env vs = true → Slots K G H (wipeE env vs) (L2.wipe σ vs) fp
  | [], _ => h
  | v :: vs, c => by
    unfold wOk at c
    obtain ⟨c1, c2⟩ := Bool.and_eq_true_iff.mp (by simpa using c : (nOw (slot env v) && vs.all fun v => nOw (slot env v)) = true)
    unfold wipeE L2.wipe
    exact Slots.set0 (Slots.wipe h c2) (nOw_wipe c1 vs) rfl
theorem Res.wp {P : Env → Prop} {E : Xn → Prop} {env : Env} {vs : List Nat} (h : Res P E (wp vs env)) : wOk env vs = true ∧ P (wipeE env vs) := by
  unfold VL.wp at h
  by_cases c : wOk env vs = true
  · rw [if_pos c] at h; exact ⟨c, h⟩
  · rw [if_neg c] at h; exact h.elim
theorem slot1_old {env : Env} {σ : St} {fp : List Addr} {v : Nat} (h : Slots K G H env σ fp) (c : nOw (slot env v) = true) (gg : Same G G') : ∃ o, (σ[v]? = some o ∨ (σ[v]? = none ∧ o = none)) ∧ Slot1 K G' H' (slot env v) o [] := by
  cases e : env[v]? with
  | none =>
    have hs : slot env v = .un := by unfold slot; rw [List.getD_eq_getElem?_getD, e]; rfl
    have hl := h.length
    have : σ[v]? = none := by rw [List.getElem?_eq_none_iff] at e ⊢; omega
    exact ⟨none, .inr ⟨this, rfl⟩, by rw [hs]; rfl⟩
  | some s =>
    have hs : slot env v = s := by unfold slot; rw [List.getD_eq_getElem?_getD, e]; rfl
    obtain ⟨o, f, e1, q, _⟩ := h.get e
    rw [hs] at c ⊢
    refine ⟨o, .inl e1, ?_⟩
    cases s with
    | un => rfl
    | sh d => obtain ⟨w, e2, sh, _⟩ := q; exact ⟨w, e2, Sh.mono (In.of gg) _ _ sh, rfl⟩
    | ow k d => cases c
    | io k d => cases c
    | tb P q => cases c
theorem wipe_out {σ : St} {v : Nat} : ∀ {vs : List Nat}, v ∉ vs → (L2.wipe σ vs)[v]? = σ[v]?
  | [], _ => rfl
  | w :: vs, h => by
    unfold L2.wipe
    rw [List.getElem?_set_ne (fun z => h (by rw [z]; exact List.mem_cons_self)), wipe_out fun z => h (List.mem_cons_of_mem _ z)]
theorem wipe_get {σ : St} {j : Nat} : ∀ {vs : List Nat}, (L2.wipe σ vs)[j]? = if j ∈ vs then (σ[j]?).map (fun _ => none) else σ[j]?
  | [] => by simp [L2.wipe]
  | v :: vs => by
    unfold L2.wipe
    rw [List.getElem?_set]
    have hl := wipe_length σ vs
    by_cases e : v = j
    · subst e
      by_cases c : v < σ.length
      · simp [hl, c]
      · simp [hl, c]
    · rw [if_neg e, wipe_get]
      simp [Ne.symm e]
theorem wipe_tch {σ σ' : St} {ts vs : List Nat} (hts : ∀ j ∈ ts, j ∈ vs) (tc : Tch ts (L2.wipe σ vs) σ') : L2.wipe σ' vs = L2.wipe σ vs := by
  apply List.ext_getElem?
  intro j
  rw [wipe_get]
  by_cases c : j ∈ vs
  · rw [if_pos c]
    have hl := tc.1
    rw [wipe_get, if_pos c]
    rw [wipe_length] at hl
    by_cases h : j < σ.length
    · have h' : j < σ'.length := by omega
      simp [h, h']
    · have h' : ¬ j < σ'.length := by omega
      simp [h, h']
  · rw [if_neg c]
    exact tc.2 j fun m => c (hts j m)
theorem Slots.rest {env : Env} {σ : St} {fp0 : List Addr} (h0 : Slots K G H env σ fp0) (gg : Same G G') : ∀ {vs : List Nat} {e : Env} {fp : List Addr}, vs.Nodup → wOk env vs = true → (∀ v ∈ vs, nOw (slot e v) = true) → Slots K G' H' e (L2.wipe σ vs) fp → Slots K G' H' (restE env e vs) σ fp
  | [], _, _, _, _, _, h => h
  | v :: vs, e, fp, nd, c, n, h => by
    unfold wOk at c
    obtain ⟨c1, c2⟩ := Bool.and_eq_true_iff.mp (by simpa using c : (nOw (slot env v) && vs.all fun v => nOw (slot env v)) = true)
    obtain ⟨nv, nd⟩ := List.nodup_cons.mp nd
    obtain ⟨o, ho, s1⟩ := slot1_old (G' := G') (H' := H') h0 c1 gg
    have q := Slots.set0 h (n v List.mem_cons_self) s1
    have e1 : ((L2.wipe σ (v :: vs)).set v o) = L2.wipe σ vs := by
      show ((L2.wipe σ vs).set v none).set v o = _
      rw [List.set_set]
      apply List.ext_getElem?
      intro j
      by_cases hj : v = j
      · subst hj
        rw [List.getElem?_set, wipe_out nv]
        have hl := wipe_length σ vs
        rcases ho with ho | ⟨ho, rfl⟩
        · have : v < (L2.wipe σ vs).length := by
            rw [hl]; exact (List.getElem?_eq_some_iff.mp ho).1
          simp [this, ho]
        · have : ¬ v < (L2.wipe σ vs).length := by
            rw [hl]; have := List.getElem?_eq_none_iff.mp ho; omega
          simp [this, ho]
      · rw [List.getElem?_set_ne hj]
    rw [e1] at q
    unfold restE
    refine Slots.rest h0 gg nd c2 (fun w m => ?_) q
    rw [slot_set_ne (fun z => nv (by rw [z]; exact m))]
    exact n w (List.mem_cons_of_mem _ m)
theorem nOw_wiped {env : Env} : ∀ {vs : List Nat} {v : Nat}, v ∈ vs → nOw (slot (wipeE env vs) v) = true
  | w :: vs, v, m => by
    unfold wipeE
    by_cases e : w = v
    · subst e; rw [slot_set_un]; rfl
    · rw [slot_set_ne e]
      rcases List.mem_cons.mp m with m | m
      · exact absurd m.symm e
      · exact nOw_wiped m
end

/-! ### [e for t in xs if c] -/
def okO' {α : Type} (r : Rs α) : Rs α := match r with
  | some (.ok a) => ok a
  | _ => none
def kOk (kk k : Nat) : Rs Unit := if kk = 0 ∨ k = kk then ok () else none
theorem Res.kOk {P : Unit → Prop} {E : Xn → Prop} {kk k : Nat} (h : Res P E (kOk kk k)) : (kk = 0 ∨ k = kk) ∧ P () := by
  unfold VL.kOk at h
  by_cases c : kk = 0 ∨ k = kk
  · rw [if_pos c] at h; exact ⟨c, h⟩
  · rw [if_neg c] at h; exact h.elim
def lcL (kk : Nat) (vs : List Nat) (tg : D → Env → Rs Env) (tt : Env → TR) (el : Env → ER) : List D → Env → Rs (List D × Env)
  | [], env => ok ([], env)
  | d :: ds, env => bd (tg d env) fun e1 => bd (tt e1) fun b => if b.1 then bd (el b.2) fun r => bd (kOk kk r.1) fun _ => bd (wp vs r.2.2) fun e2 => bd (lcL kk vs tg tt el ds e2) fun q => ok (r.2.1 :: q.1, q.2)
    else bd (wp vs b.2) fun e2 => lcL kk vs tg tt el ds e2
def W0 : WX := fun _ _ _ _ => False
def eLc (kk : Nat) (vs : List Nat) (f : Env → Rs (List D × Env)) (tg : D → Env → Rs Env) (tt : Env → TR) (el : Env → ER) : Env → ER := fun env => bd (f env) fun r0 => bd (wp vs r0.2) fun e1 =>
  if r0.1.length ≤ cap then bd (okO' (lcL kk vs tg tt el r0.1 e1)) fun q => ok (kk + 1, .lst q.1, restE r0.2 q.2 vs) else none
theorem Res.okO' {α : Type} {P : α → Prop} {E : Xn → Prop} {r : Rs α} (h : Res P E (okO' r)) : Res P (fun _ => False) r := by
  cases r with
  | none => exact h
  | some c =>
    cases c with
    | error x => exact h
    | ok a => exact h
theorem Res.imp0 {α : Type} {P P' : α → Prop} {E' : Xn → Prop} {r : Rs α} (h : Res P (fun _ => False) r) (hp : ∀ a, r = VL.ok a → P a → P' a) : Res P' E' r := h.imp hp fun _ z => z.elim
section
variable {X : Cx} {W : WX} {p q : Bool} {elt tg iter : Expr} {ifs : List Expr} {pos : Pos} {scope : Scope} {own : List (Str × Nat)} {fi : Env → Rs (List D × Env)} {h : D → Env → Rs Env} {tt : Env → TR} {el : Env → ER}
/-- the list grows by one -/
theorem Ow.grow {K : PySem.W.Frag} {G H : Hp} {kk : Nat} {ds : List D} {D1 : Addr} {fa fpr : List Addr} {d : D} {v : V} (ow : Ow K G H (kk + 1) (.lst ds) (.ref D1) fa) (nd : (fa ++ fpr).Nodup) (out : ∀ a ∈ fa ++ fpr, G a = none) (o1 : Ow K G H kk d v fpr) :
    ∃ acc, H D1 = some (.lst acc) ∧ acc.length = ds.length ∧ D1 ∈ fa ∧ ∃ fa', (∀ a, a ∈ fa' ↔ a ∈ fa ++ fpr) ∧ fa'.Nodup ∧ Ow K G (upd H D1 (.lst (acc ++ [v]))) (kk + 1) (.lst (ds ++ [d])) (.ref D1) fa' := by
  obtain ⟨a, xs, f, e, h1, h2, rfl⟩ := ow
  cases e
  obtain ⟨n1, n2, n3⟩ := List.nodup_append.mp nd
  obtain ⟨m1, m2⟩ := List.nodup_cons.mp n1
  have ne : ∀ b ∈ f ++ fpr, b ≠ D1 := fun b m z => by
    rcases List.mem_append.mp m with m | m
    · exact m1 (by rw [← z]; exact m)
    · exact n3 D1 List.mem_cons_self b m z.symm
  have kp : ∀ b ∈ f ++ fpr, ∀ o, H b = some o → upd H D1 (.lst (xs ++ [v])) b = some o := fun b m o e => by rw [upd_ne (ne b m)]; exact e
  refine ⟨xs, h1, h2.length, List.mem_cons_self, D1 :: (f ++ fpr), fun a => by simp [or_assoc], ?_, D1, xs ++ [v], f ++ fpr, rfl, upd_same, ?_, rfl⟩
  · refine List.nodup_cons.mpr ⟨fun m => ne D1 m rfl, List.nodup_append.mpr ⟨m2, n2, fun a ma b mb => n3 a (List.mem_cons_of_mem _ ma) b mb⟩⟩
  · refine OwL.app (h2.imp fun d v g m r => Ow.mono (Same.refl' G) kk d v g (fun b hb => kp b (List.mem_append_left _ (m b hb))) r) ?_
    have := OwL.cons (Ow.mono (Same.refl' G) kk d v fpr (fun b hb => kp b (List.mem_append_right _ hb)) o1) (OwL.nil (R := Ow K G (upd H D1 (.lst (xs ++ [v]))) kk))
    rw [List.append_nil] at this
    exact this
/-- an owned or frozen element -/
theorem PostE.kk {K : PySem.W.Frag} {G H G1 H1 : Hp} {σ : St} {fp fp1 fpr : List Addr} {env env1 : Env} {kk k : Nat} {d : D} {v : V} (a : PostE K p G σ H fp env k d env1 v G1 H1 fp1 fpr) (h : kk = 0 ∨ k = kk) : ∃ G2 fpr2, PostE K p G σ H fp env kk d env1 v G2 H1 fp1 fpr2 := by
  rcases h with rfl | rfl
  · obtain ⟨G2, po⟩ := a.frz; exact ⟨G2, [], po⟩
  · exact ⟨G1, fpr, a⟩
def VIr (X : Cx) (W : WX) (p : Bool) (wi : TI) (f : Env → Rs (List D × Env)) : Prop := ∀ G σ H fp env (R : It → Hp → Prop), Rl X.K G σ H env fp →
    Res (fun r => ∀ G' H' fp', PostR X.K p G σ H fp env r.2 G' H' fp' → ∀ J : It,
      (∀ i H1, In G' H1 → (i < r.1.length → J.go i H1) ∧ (r.1.length ≤ i → J.stop i H1) ∧ ∀ x H2, i < r.1.length → J.yld i H1 x H2 → ∃ d G2, r.1[i]? = some d ∧ Same G' G2 ∧ Same H1 H2 ∧ (∀ a, G2 a ≠ none → G' a ≠ none ∨ Fr H1 a) ∧ (∀ a o, G2 a = some o → G' a = none → H2 a = some o) ∧ Sh X.K G2 d x) → R J H') (EX X.K W G σ H fp) (f env) → wi σ H R
/-- what is walked, from this state on -/
def WkAt (X : Cx) (W : WX) (p : Bool) (wi : TI) (f : Env → Rs (List D × Env)) (G : Hp) (σ : St) (H : Hp) (fp : List Addr) (env : Env) : Prop := ∀ (R : It → Hp → Prop),
    Res (fun r => ∀ G' H' fp', PostR X.K p G σ H fp env r.2 G' H' fp' → ∀ J : It,
      (∀ i H1, In G' H1 → (i < r.1.length → J.go i H1) ∧ (r.1.length ≤ i → J.stop i H1) ∧ ∀ x H2, i < r.1.length → J.yld i H1 x H2 → ∃ d G2, r.1[i]? = some d ∧ Same G' G2 ∧ Same H1 H2 ∧ (∀ a, G2 a ≠ none → G' a ≠ none ∨ Fr H1 a) ∧ (∀ a o, G2 a = some o → G' a = none → H2 a = some o) ∧ Sh X.K G2 d x) → R J H') (EX X.K W G σ H fp) (f env) → wi σ H R
theorem lc_run0 {ts vs : List Nat} {kk : Nat} {wi : TI} (nd : vs.Nodup) (hts : ∀ j ∈ ts, j ∈ vs) {G : Hp} {σ : St} {H : Hp} {fp : List Addr} {env : Env} {Q : VK} (rw_ : WkAt X W p wi fi G σ H fp env) (rl : Rl X.K G σ H env fp) (z : ResE X.K W false G σ H fp env (eLc kk vs fi h tt el env) Q) :
    tLc wi (cG X.K W0 ts h) (cT X.K W0 tt) (cE X.K W0 q el) vs σ H Q := by
  unfold eLc ResE at z
  rw [Res.bd] at z
  refine rw_ _ (z.imp (fun r0 _ z G0 H0 fp0 po0 J hJ => ?_) fun x z => z)
  rw [Res.bd] at z
  obtain ⟨hwp, z⟩ := z.wp
  by_cases hcap : r0.1.length ≤ cap
  case neg => rw [if_neg hcap] at z; exact z.elim
  rw [if_pos hcap, Res.bd] at z
  replace z := z.okO'
  intro D1 hD
  have D0 : G0 D1 = none := by
    cases e : G0 D1 with
    | none => rfl
    | some u => rcases po0.rl.gin _ u e with q | ⟨_, _, q⟩ <;> rw [hD] at q <;> cases q
  have D2 : D1 ∉ fp0 := fun m => po0.rl.there _ m hD
  refine ⟨fun i m H' => ∃ G1 fp1 env1 ds fa, i + m = r0.1.length ∧ ds.length ≤ i ∧ Same G0 G1 ∧ Rl X.K G1 (wipe σ vs) H' env1 fp1 ∧ (∀ v ∈ vs, nOw (slot env1 v) = true) ∧ Stp G0 H0 fp0 G1 H' (fp1 ++ fa) ∧ Ow X.K G1 H' (kk + 1) (.lst ds) (.ref D1) fa ∧ (fp1 ++ fa).Nodup ∧ (∀ a ∈ fa, G1 a = none) ∧
      Res (fun q => ∀ v G' H' fp' fpr, PostE X.K false G σ H fp env (kk + 1) (.lst (ds ++ q.1)) (restE r0.2 q.2 vs) v G' H' fp' fpr → Q v H') (fun _ => False) (lcL kk vs h tt el (r0.1.drop i) env1), ⟨r0.1.length, G0, fp0, wipeE r0.2 vs, [], [D1], by omega, Nat.le_refl _, Same.refl' _, ?_, fun v m => nOw_wiped m, ?_, ?_, ?_, ?_, ?_⟩, fun i m H' hW => ?_⟩
  · have sH : Same H0 (upd H0 D1 (.lst [])) := same_upd hD
    exact ⟨po0.rl.gin.post fun a o _ e => sH a o e, (po0.rl.sl.mono (Same.refl' _) fun a _ o e => sH a o e).wipe hwp, po0.rl.nd, po0.rl.out⟩
  · refine ⟨Same.refl' _, fun _ h => .inl h, fun a m => ?_, fun a o e n => same_upd hD a o e⟩
    rcases List.mem_append.mp m with m | m
    · exact .inl m
    · rw [List.mem_singleton.mp m]; exact .inr hD
  · exact ⟨D1, [], [], rfl, upd_same, OwL.nil, rfl⟩
  · exact List.nodup_append.mpr ⟨po0.rl.nd, by simp, fun a m b m' e => D2 (by rw [← List.mem_singleton.mp m', ← e]; exact m)⟩
  · intro a m; rw [List.mem_singleton.mp m]; exact D0
  · exact z.imp (fun q _ z v G' H' fp' fpr po => z v G' H' fp' fpr po) fun _ z => z
  · obtain ⟨G1, fp1, env1, ds, fa, em, el_, sG, rl1, now, st1, ow1, nd1, out1, z⟩ := hW
    obtain ⟨j1, j2, j3⟩ := hJ i H' (In.pre sG rl1.gin)
    by_cases hlt : i < r0.1.length
    case neg =>
      have ei : r0.1.drop i = [] := List.drop_eq_nil_of_le (by omega)
      rw [ei] at z
      refine .inl ⟨j2 (by omega), ?_⟩
      have z : ∀ v G' H' fp' fpr, PostE X.K false G σ H fp env (kk + 1) (.lst (ds ++ [])) (restE r0.2 env1 vs) v G' H' fp' fpr → Q v H' := z
      refine z (.ref D1) G1 H' fp1 fa ⟨⟨rl1.gin, po0.rl.sl.rest sG nd hwp now rl1.sl, rl1.nd, rl1.out⟩, po0.st.trans st1, by rw [List.append_nil]; exact ow1, nd1, out1, fun z => (nomatch z)⟩
    case pos =>
      refine .inr ⟨j1 hlt, fun H' => ∃ G1 fp1 env1 ds fa, ds.length ≤ i + 1 ∧ Same G0 G1 ∧ Rl X.K G1 (wipe σ vs) H' env1 fp1 ∧ (∀ v ∈ vs, nOw (slot env1 v) = true) ∧ Stp G0 H0 fp0 G1 H' (fp1 ++ fa) ∧ Ow X.K G1 H' (kk + 1) (.lst ds) (.ref D1) fa ∧ (fp1 ++ fa).Nodup ∧ (∀ a ∈ fa, G1 a = none) ∧
        Res (fun q => ∀ v G' H' fp' fpr, PostE X.K false G σ H fp env (kk + 1) (.lst (ds ++ q.1)) (restE r0.2 q.2 vs) v G' H' fp' fpr → Q v H') (fun _ => False) (lcL kk vs h tt el (r0.1.drop (i + 1)) env1), fun H'' hN => ?_, fun x H2 hy => ?_⟩
      · obtain ⟨G2, fp2, env2, ds2, fa2, q1, q2⟩ := hN
        exact ⟨m - 1, by omega, G2, fp2, env2, ds2, fa2, by omega, q1, q2⟩
      · obtain ⟨d, G2, hd, s1, s2, n1, n2, shd⟩ := j3 x H2 hlt hy
        have ed : r0.1.drop i = d :: r0.1.drop (i + 1) := by
          obtain ⟨hl, e⟩ := List.getElem?_eq_some_iff.mp hd
          rw [← e]
          exact List.drop_eq_getElem_cons hl
        rw [ed] at z
        unfold lcL at z
        rw [Res.bd] at z
        obtain ⟨G3, s13, s23, rl3, st3⟩ := yld_join rl1 sG s1 s2 n1 n2
        obtain ⟨ow3, out3, nd3⟩ := ow1.frame out1 nd1 st3
        refine ⟨G3, fp1, env1, d, rl3, Sh.mono (In.of s23) d x shd, z.imp0 fun e2 _ z σ4 G4 H4 fp4 po4 tc => ?_⟩
        obtain ⟨ow4, out4, nd4⟩ := ow3.frame out3 (nd3 rl3.nd) po4.st0
        rw [Res.bd] at z
        refine ⟨?_, G4, fp4, e2, po4.rl, z.imp0 fun b _ z G5 H5 fp5 po5 => ?_⟩
        · exact wipe_tch hts tc
        · obtain ⟨ow5, out5, nd5⟩ := ow4.frame out4 (nd4 po4.rl.nd) po5.st
          have stA := (st3.trans po4.st0).trans po5.st
          cases hb : b.1 with
          | true =>
            rw [hb, if_pos rfl, Res.bd] at z
            rw [if_pos rfl]
            refine ⟨G5, fp5, b.2, po5.rl, z.imp0 fun r _ z v G6 H6 fp6 fpr6 po6 => ?_⟩
            rw [Res.bd] at z
            obtain ⟨hk, z⟩ := z.kOk
            rw [Res.bd] at z
            obtain ⟨hwp2, z⟩ := z.wp
            rw [Res.bd] at z
            obtain ⟨G7, fpr7, po7⟩ := po6.kk hk
            obtain ⟨ow6, out6, nd6⟩ := ow5.frame out5 (nd5 po5.rl.nd) po7.st
            have nd7 := nd6 po7.nd
            obtain ⟨k1, k2, k3⟩ := List.nodup_append.mp nd7
            obtain ⟨k4, k5, k6⟩ := List.nodup_append.mp k1
            have nd8 : (fa ++ fpr7).Nodup := List.nodup_append.mpr ⟨k2, k5, fun a ma b mb e => k3 b (List.mem_append_right _ mb) a ma e.symm⟩
            obtain ⟨acc, hDa, hlen, Dm, fa', mm, nd9, ow7⟩ := ow6.grow nd8 (fun a m => (List.mem_append.mp m).elim (out6 a) (po7.out a)) po7.ow
            have Df : ∀ a ∈ fp6, a ≠ D1 := fun a m e => k3 a (List.mem_append_left _ m) D1 Dm e
            refine ⟨acc, hDa, cap_lt (by omega), G7, fp6, wipeE r.2.2 vs, ds ++ [r.2.1], fa', by simp; omega, fun a o e => po7.st.gg a o (stA.gg a o (sG a o e)),
              ⟨po7.rl.gin.write (out6 D1 Dm), ?_, po7.rl.nd, po7.rl.out⟩, fun v m => nOw_wiped m, ?_, ow7, ?_, fun a m => ?_, z.imp0 fun q _ z v G' H' fp' fpr po => ?_⟩
            · rw [← wipe_tch hts tc]
              exact (po7.rl.sl.mono (Same.refl' _) fun a m o e => by rw [upd_ne (Df a m)]; exact e).wipe hwp2
            · refine (((st1.trans stA.frame).trans po7.st.frame).trans (Stp.write (List.mem_append_right _ Dm))).sub fun a m => ?_
              rcases List.mem_append.mp m with m | m
              · exact List.mem_append_left _ (List.mem_append_left _ m)
              · rcases List.mem_append.mp ((mm a).mp m) with m | m
                · exact List.mem_append_right _ m
                · exact List.mem_append_left _ (List.mem_append_right _ m)
            · refine List.nodup_append.mpr ⟨k4, nd9, fun a ma b mb => ?_⟩
              rcases List.mem_append.mp ((mm b).mp mb) with m | m
              · exact k3 a (List.mem_append_left _ ma) b m
              · exact k6 a ma b m
            · rcases List.mem_append.mp ((mm a).mp m) with m | m
              · exact out6 a m
              · exact po7.out a m
            · rw [List.append_assoc] at po
              exact z v G' H' fp' fpr po
          | false =>
            rw [hb, if_neg Bool.false_ne_true, Res.bd] at z
            rw [if_neg Bool.false_ne_true]
            obtain ⟨hwp2, z⟩ := z.wp
            exact ⟨G5, fp5, wipeE b.2 vs, ds, fa, by omega, fun a o e => stA.gg a o (sG a o e), ⟨po5.rl.gin, by rw [← wipe_tch hts tc]; exact po5.rl.sl.wipe hwp2, po5.rl.nd, po5.rl.out⟩, fun v m => nOw_wiped m, st1.trans stA.frame, ow5, nd5 po5.rl.nd, out5, z⟩
theorem lc_run {ts vs : List Nat} {kk : Nat} {wi : TI} (rw_ : VIr X W p wi fi) (nd : vs.Nodup) (hts : ∀ j ∈ ts, j ∈ vs) {G : Hp} {σ : St} {H : Hp} {fp : List Addr} {env : Env} {Q : VK} (rl : Rl X.K G σ H env fp) (z : ResE X.K W false G σ H fp env (eLc kk vs fi h tt el env) Q) :
    tLc wi (cG X.K W0 ts h) (cT X.K W0 tt) (cE X.K W0 q el) vs σ H Q := lc_run0 nd hts (fun R z => rw_ G σ H fp env R rl z) rl z
theorem ve_lc {ts : List Nat} (kk : Nat) (c : X.calm = true) (hN : X.N.Nodup) (hi : VI X W p tg iter fi) (ok_ : BlkOk X.N X.env.scope scope own) (nd : (own.map (·.2)).Nodup)
    (hg : ∀ (s : Shared) (H : Hp) (C : Addr) (cl : List (Str × Addr)) (fp : List Addr), VG (X.blk s H scope (compEnvC scope cl C X.env) fp) W0 ts tg h) (hts : ∀ j ∈ ts, j ∈ own.map (·.2))
    (ht : ∀ (s : Shared) (H : Hp) (C : Addr) (cl : List (Str × Addr)) (fp : List Addr), VTs (X.blk s H scope (compEnvC scope cl C X.env) fp) W0 ifs tt)
    (he : ∀ (s : Shared) (H : Hp) (C : Addr) (cl : List (Str × Addr)) (fp : List Addr), VE (X.blk s H scope (compEnvC scope cl C X.env) fp) W0 q elt el)
    (hs : ∀ x, foldedSetIterable iter X.env x = pure x := by intro _; rfl) :
    VE X W false (.ListComp elt [⟨tg, iter, ifs, 0⟩] scope pos) (eLc kk (own.map (·.2)) fi h tt el) := by
  obtain ⟨wi, hw, rw_⟩ := hi.ex
  exact ⟨_, pe_lc (g := cG X.K W0 ts h) (tt := cT X.K W0 tt) (te := cE X.K W0 q el) c hN hw ok_ (fun s H C cl fp => (hg s H C cl fp).pg) (fun s H C cl fp => (ht s H C cl fp).pts) (fun s H C cl fp => (he s H C cl fp).pe) hs, fun G σ H fp env Q rl z => lc_run rw_ nd hts rl z⟩
/-- name = [..] on one line -/
theorem vs_setLc {ts : List Nat} {i : Nat} {y : Str} {py spos : Pos} (kk : Nat) (c : X.calm = true) (hN : X.N.Nodup) (hy : X.N[i]? = some y) (hyl : X.env.scope.names.lookup y = some .local)
    (hsw : swapsWith (.ListComp elt [⟨tg, iter, ifs, 0⟩] scope pos) (some (.Name y py)) spos.line X.env = pure true) (hi : VI X W p tg iter fi) (ok_ : BlkOk X.N X.env.scope scope own) (nd : (own.map (·.2)).Nodup)
    (hg : ∀ (s : Shared) (H : Hp) (C : Addr) (cl : List (Str × Addr)) (fp : List Addr), VG (X.blk s H scope (compEnvC scope cl C X.env) fp) W0 ts tg h) (hts : ∀ j ∈ ts, j ∈ own.map (·.2))
    (ht : ∀ (s : Shared) (H : Hp) (C : Addr) (cl : List (Str × Addr)) (fp : List Addr), VTs (X.blk s H scope (compEnvC scope cl C X.env) fp) W0 ifs tt)
    (he : ∀ (s : Shared) (H : Hp) (C : Addr) (cl : List (Str × Addr)) (fp : List Addr), VE (X.blk s H scope (compEnvC scope cl C X.env) fp) W0 q elt el)
    (hs : ∀ x, foldedSetIterable iter X.env x = pure x := by intro _; rfl) :
    VS X W (.Assign [.Name y py] (.ListComp elt [⟨tg, iter, ifs, 0⟩] scope pos) spos) (sAsg i (eLc kk (own.map (·.2)) fi h tt el)) := by
  obtain ⟨wi, hw, rw_⟩ := hi.ex
  refine ⟨_, ps_setLc (i := i) (g := cG X.K W0 ts h) (tt := cT X.K W0 tt) (te := cE X.K W0 q el) c hN hy hyl hsw hw ok_ (fun s H C cl fp => (hg s H C cl fp).pg) (fun s H C cl fp => (ht s H C cl fp).pts) (fun s H C cl fp => (he s H C cl fp).pe) hs, fun G σ H fp env En rl z => lc_run (kk := kk) (Q := fun x H1 => gName i x σ H1 En.nx) rw_ nd hts rl ?_⟩
  unfold sAsg ResS at z
  rw [Res.bd] at z
  refine z.imp (fun r _ z v G' H' fp' fpr po => ?_) fun x z => z.ex σ
  rw [Res.bd] at z
  obtain ⟨hio, z⟩ := z.chk
  rw [Res.bd] at z
  obtain ⟨hl, hn, z⟩ := z.putS
  obtain ⟨fp2, po2⟩ := (PostS.ofE po hio).stored po.ow hl hn
  exact z _ G' H' fp2 [] po2 rfl
end
end VL
/-! Vl12: paths into what is owned; item stores, append. -/
namespace VL
open PySem PySem.Spec PyProof.Rows L2

/-! ### children -/
def D.kid (j : Nat) : D → Option D
  | .lst ds => ds[j]?
  | .dct _ _ ds => ds[j]?
  | .obj _ _ ds => ds[j]?
  | _ => none
def D.setKid (d : D) (j : Nat) (x : D) : D := match d with
  | .lst ds => .lst (ds.set j x)
  | .dct t ks ds => .dct t ks (ds.set j x)
  | .obj c ns ds => .obj c ns (ds.set j x)
  | d => d
def subD : List Nat → D → Option D
  | [], d => some d
  | j :: π, d => match d.kid j with
    | some c => subD π c
    | none => none
def setD : List Nat → D → D → D
  | [], _, x => x
  | j :: π, d, x => match d.kid j with
    | some c => d.setKid j (setD π c x)
    | none => d
def kidO (j : Nat) : HO → Option V
  | .lst xs => xs[j]?
  | .dK kvs => (kvs.map (·.2))[j]?
  | .dT kvs => (kvs.map (·.2))[j]?
  | .ins _ _ fs => (fs.map (·.2))[j]?
  | _ => none
def kidV (H : Hp) (j : Nat) : V → Option V
  | .ref a => (H a).bind (kidO j)
  | _ => none
theorem kidV_at {H : Hp} {a : Addr} {o : HO} {j : Nat} (h : H a = some o) : kidV H j (.ref a) = kidO j o := by show (H a).bind (kidO j) = _; rw [h]; rfl
def refAt (H : Hp) : List Nat → V → Option V
  | [], v => some v
  | j :: π, v => match kidV H j v with
    | some u => refAt H π u
    | none => none
theorem kidV_mono {H H' : Hp} (h : ∀ a o, H a = some o → H' a = some o) {j : Nat} {v u : V} (e : kidV H j v = some u) : kidV H' j v = some u := by
  cases v with
  | ref a =>
    cases q : H a with
    | none =>
      have : kidV H j (.ref a) = none := by show (H a).bind (kidO j) = _; rw [q]; rfl
      rw [this] at e; cases e
    | some o => rw [kidV_at (h a o q), ← kidV_at (H := H) q]; exact e
  | _ => cases e
theorem refAt_mono {H H' : Hp} (h : ∀ a o, H a = some o → H' a = some o) : ∀ {π : List Nat} {v u : V}, refAt H π v = some u → refAt H' π v = some u
  | [], _, _, e => e
  | j :: π, v, u, e => by
    unfold refAt at e ⊢
    cases q : kidV H j v with
    | none => rw [q] at e; cases e
    | some w => rw [q] at e; rw [kidV_mono h q]; exact refAt_mono h e
theorem refAt_snoc {H : Hp} {j : Nat} : ∀ {π : List Nat} {v u w : V}, refAt H π v = some u → kidV H j u = some w → refAt H (π ++ [j]) v = some w
  | [], v, u, w, e, q => by
    cases e
    show refAt H [j] v = some w
    unfold refAt; rw [q]; rfl
  | i :: π, v, u, w, e, q => by
    rw [List.cons_append]
    unfold refAt at e ⊢
    cases z : kidV H i v with
    | none => rw [z] at e; cases e
    | some x => rw [z] at e; exact refAt_snoc e q
section
variable {K : PySem.W.Frag} {G H : Hp}
theorem OwL.kid : ∀ {R : D → V → List Addr → Prop} {ds : List D} {vs : List V} {fp : List Addr} {j : Nat} {c : D}, OwL R ds vs fp → fp.Nodup → ds[j]? = some c →
    ∃ v f fr, vs[j]? = some v ∧ R c v f ∧ (f ++ fr).Nodup ∧ (∀ a, a ∈ fp ↔ a ∈ f ∨ a ∈ fr) ∧
      ∀ {R' : D → V → List Addr → Prop} {c' : D} {v' : V} {f' : List Addr}, (∀ d v g, (∀ a ∈ g, a ∈ fr) → R d v g → R' d v g) → R' c' v' f' → (f' ++ fr).Nodup → ∃ fp', OwL R' (ds.set j c') (vs.set j v') fp' ∧ fp'.Nodup ∧ ∀ a, a ∈ fp' ↔ a ∈ f' ∨ a ∈ fr
  | _, [], _, _, _, _, _, _, e => by simp at e
  | R, d :: ds, _, _, 0, c, ⟨v, r, f, g, e1, e2, h1, h2⟩, nd, e => by
    simp at e; subst e e1 e2
    refine ⟨v, f, g, rfl, h1, nd, fun a => List.mem_append, fun {R' c' v' f'} im h1' nd' => ⟨f' ++ g, ⟨v', r, f', g, rfl, rfl, h1', h2.imp fun d v x m q => im d v x m q⟩, nd', fun a => List.mem_append⟩⟩
  | R, d :: ds, _, _, j + 1, c, ⟨v, r, f, g, e1, e2, h1, h2⟩, nd, e => by
    subst e1 e2
    obtain ⟨nf, ng, dj⟩ := List.nodup_append.mp nd
    obtain ⟨u, f', fr, q1, q2, q3, q4, q5⟩ := h2.kid (j := j) ng (by simpa using e)
    obtain ⟨n1, n2, n3⟩ := List.nodup_append.mp q3
    have dj1 : ∀ a ∈ f, ∀ b ∈ fr, a ≠ b := fun a ha b hb => dj a ha b ((q4 b).mpr (.inr hb))
    have dj2 : ∀ a ∈ f, ∀ b ∈ f', a ≠ b := fun a ha b hb => dj a ha b ((q4 b).mpr (.inl hb))
    refine ⟨u, f', f ++ fr, by simpa using q1, q2, ?_, fun a => ?_, fun {R' c' v' f''} im h1' nd' => ?_⟩
    · refine List.nodup_append.mpr ⟨n1, List.nodup_append.mpr ⟨nf, n2, dj1⟩, fun a ha b hb => ?_⟩
      rcases List.mem_append.mp hb with hb | hb
      · exact fun z => dj2 b hb a ha z.symm
      · exact n3 a ha b hb
    · rw [List.mem_append, q4, List.mem_append]
      constructor
      · rintro (z | z | z)
        · exact .inr (.inl z)
        · exact .inl z
        · exact .inr (.inr z)
      · rintro (z | z | z)
        · exact .inr (.inl z)
        · exact .inl z
        · exact .inr (.inr z)
    · obtain ⟨m1, m2, m3⟩ := List.nodup_append.mp nd'
      obtain ⟨p1, p2, p3⟩ := List.nodup_append.mp m2
      obtain ⟨fp', r1, r2, r3⟩ := q5 (R' := R') (c' := c') (v' := v') (f' := f'') (fun d v x m q => im d v x (fun a ha => List.mem_append_right _ (m a ha)) q) h1' (List.nodup_append.mpr ⟨m1, p2, fun a ha b hb => m3 a ha b (List.mem_append_right _ hb)⟩)
      refine ⟨f ++ fp', ⟨v, _, f, fp', rfl, rfl, im d v f (fun a ha => List.mem_append_left _ ha) h1, r1⟩, ?_, fun a => ?_⟩
      · refine List.nodup_append.mpr ⟨nf, r2, fun a ha b hb => ?_⟩
        rcases (r3 b).mp hb with hb | hb
        · exact fun z => m3 b hb a (List.mem_append_left _ ha) z.symm
        · exact dj1 a ha b hb
      · rw [List.mem_append, r3, List.mem_append]
        constructor
        · rintro (z | z | z)
          · exact .inr (.inl z)
          · exact .inl z
          · exact .inr (.inr z)
        · rintro (z | z | z)
          · exact .inr (.inl z)
          · exact .inl z
          · exact .inr (.inr z)
theorem set_self {α : Type} {xs : List α} {j : Nat} {x : α} (h : xs[j]? = some x) : xs.set j x = xs := by
  apply List.ext_getElem?
  intro n
  rw [List.getElem?_set]
  by_cases e : j = n
  · subst e
    have hl := (List.getElem?_eq_some_iff.mp h).1
    rw [if_pos rfl, if_pos hl, h]
  · rw [if_neg e]
/-- a dict's values -/
theorem dctAt_vals {a : Addr} {t : Bool} {ks : List D} {xs : List V} {o : HO} (h : DctAt H a t ks xs) (e : H a = some o) (d : isD o) : (∃ kvs : List (Key × V), o = .dK kvs ∧ t = false ∧ kvs.map (fun p => keyD p.1) = ks ∧ kvs.map (·.2) = xs) ∨ ∃ kvs : List (List Key × V), o = .dT kvs ∧ t = true ∧ kvs.map (fun p => D.tup (p.1.map keyD)) = ks ∧ kvs.map (·.2) = xs := by
  rcases h with ⟨t0, kvs, h | ⟨ob, h⟩, q⟩ | ⟨t0, kvs, h | ⟨ob, h⟩, q⟩
  · rw [e] at h; cases h; exact .inl ⟨kvs, rfl, t0, q⟩
  · rw [e] at h; cases h; exact d.elim
  · rw [e] at h; cases h; exact .inr ⟨kvs, rfl, t0, q⟩
  · rw [e] at h; cases h; exact d.elim
theorem Ow.kid {k : Nat} {d : D} {v : V} {fp : List Addr} {j : Nat} {c : D} (h : Ow K G H (k + 1) d v fp) (nd : fp.Nodup) (e : d.kid j = some c) :
    ∃ u f fr, kidV H j v = some u ∧ Ow K G H k c u f ∧ (f ++ fr).Nodup ∧ (∀ a, a ∈ fp ↔ a ∈ f ∨ a ∈ fr) ∧
      ∀ {G' H' : Hp} {c' : D} {f' : List Addr}, Same G G' → (∀ a ∈ fr, ∀ o, H a = some o → H' a = some o) → Ow K G' H' k c' u f' → (f' ++ fr).Nodup → ∃ fp', Ow K G' H' (k + 1) (d.setKid j c') v fp' ∧ fp'.Nodup ∧ ∀ a, a ∈ fp' ↔ a ∈ f' ∨ a ∈ fr := by
  have comm : ∀ {a : Addr} {fx f fr : List Addr}, (∀ x, x ∈ fx ↔ x ∈ f ∨ x ∈ fr) → (a :: fx).Nodup → (f ++ fr).Nodup → (f ++ a :: fr).Nodup ∧ ∀ x, x ∈ a :: fx ↔ x ∈ f ∨ x ∈ a :: fr := fun {a fx f fr} m n1 n2 => by
    obtain ⟨na, _⟩ := List.nodup_cons.mp n1
    obtain ⟨p1, p2, p3⟩ := List.nodup_append.mp n2
    refine ⟨List.nodup_append.mpr ⟨p1, List.nodup_cons.mpr ⟨fun z => na ((m a).mpr (.inr z)), p2⟩, fun x hx y hy z => ?_⟩, fun x => ?_⟩
    · rcases List.mem_cons.mp hy with hy | hy
      · exact na ((m a).mpr (.inl (by rw [← hy, ← z]; exact hx)))
      · exact p3 x hx y hy z
    · rw [List.mem_cons, m, List.mem_cons]
      constructor
      · rintro (z | z | z)
        · exact .inr (.inl z)
        · exact .inl z
        · exact .inr (.inr z)
      · rintro (z | z | z)
        · exact .inr (.inl z)
        · exact .inl z
        · exact .inr (.inr z)
  have back : ∀ {a : Addr} {fp' f' fr : List Addr}, (∀ x, x ∈ fp' ↔ x ∈ f' ∨ x ∈ fr) → fp'.Nodup → (f' ++ a :: fr).Nodup → (a :: fp').Nodup ∧ (∀ x, x ∈ a :: fp' ↔ x ∈ f' ∨ x ∈ a :: fr) ∧ (f' ++ fr).Nodup := fun {a fp' f' fr} m n1 n2 => by
    obtain ⟨p1, p2, p3⟩ := List.nodup_append.mp n2
    obtain ⟨q1, q2⟩ := List.nodup_cons.mp p2
    refine ⟨List.nodup_cons.mpr ⟨fun z => ?_, n1⟩, fun x => ?_, List.nodup_append.mpr ⟨p1, q2, fun x hx y hy => p3 x hx y (List.mem_cons_of_mem _ hy)⟩⟩
    · rcases (m a).mp z with z | z
      · exact p3 a z a List.mem_cons_self rfl
      · exact q1 z
    · rw [List.mem_cons, m, List.mem_cons]
      constructor
      · rintro (z | z | z)
        · exact .inr (.inl z)
        · exact .inl z
        · exact .inr (.inr z)
      · rintro (z | z | z)
        · exact .inr (.inl z)
        · exact .inl z
        · exact .inr (.inr z)
  have nd2 : ∀ {a : Addr} {f' fr : List Addr}, (f' ++ a :: fr).Nodup → (f' ++ fr).Nodup := fun {a f' fr} n => by
    obtain ⟨p1, p2, p3⟩ := List.nodup_append.mp n
    exact List.nodup_append.mpr ⟨p1, (List.nodup_cons.mp p2).2, fun x hx y hy => p3 x hx y (List.mem_cons_of_mem _ hy)⟩
  cases d with
  | lst ds =>
    obtain ⟨a, xs, fx, rfl, h1, h2, rfl⟩ := h
    obtain ⟨u, f, fr, q1, q2, q3, q4, q5⟩ := h2.kid (List.nodup_cons.mp nd).2 (show ds[j]? = some c from e)
    obtain ⟨c1, c2⟩ := comm q4 nd q3
    refine ⟨u, f, a :: fr, by rw [kidV_at h1]; exact q1, q2, c1, c2, fun {G' H' c' f'} gg kp ow' n' => ?_⟩
    obtain ⟨fp', r1, r2, r3⟩ := q5 (R' := Ow K G' H' k) (fun d v g m q => Ow.mono gg k d v g (fun b hb => kp b (List.mem_cons_of_mem _ (m b hb))) q) ow' (nd2 n')
    rw [set_self q1] at r1
    obtain ⟨b1, b2, _⟩ := back r3 r2 n'
    refine ⟨a :: fp', ?_, b1, b2⟩
    show Ow K G' H' (k + 1) (.lst (ds.set j c')) (.ref a) (a :: fp')
    exact ⟨a, xs, fp', rfl, kp a List.mem_cons_self _ h1, r1, rfl⟩
  | dct t ks ds =>
    obtain ⟨a, xs, fx, rfl, ⟨o, h0, hd⟩, h1, h2, rfl⟩ := h
    obtain ⟨u, f, fr, q1, q2, q3, q4, q5⟩ := h2.kid (List.nodup_cons.mp nd).2 (show ds[j]? = some c from e)
    obtain ⟨c1, c2⟩ := comm q4 nd q3
    refine ⟨u, f, a :: fr, ?_, q2, c1, c2, fun {G' H' c' f'} gg kp ow' n' => ?_⟩
    · rw [kidV_at h0]
      rcases dctAt_vals h1 h0 hd with ⟨kvs, rfl, _, _, ex⟩ | ⟨kvs, rfl, _, _, ex⟩
      · show (kvs.map (·.2))[j]? = _; rw [ex]; exact q1
      · show (kvs.map (·.2))[j]? = _; rw [ex]; exact q1
    · obtain ⟨fp', r1, r2, r3⟩ := q5 (R' := Ow K G' H' k) (fun d v g m q => Ow.mono gg k d v g (fun b hb => kp b (List.mem_cons_of_mem _ (m b hb))) q) ow' (nd2 n')
      rw [set_self q1] at r1
      obtain ⟨b1, b2, _⟩ := back r3 r2 n'
      refine ⟨a :: fp', ?_, b1, b2⟩
      show Ow K G' H' (k + 1) (.dct t ks (ds.set j c')) (.ref a) (a :: fp')
      refine ⟨a, xs, fp', rfl, ⟨o, kp a List.mem_cons_self _ h0, hd⟩, ?_, r1, rfl⟩
      rcases dctAt_vals h1 h0 hd with ⟨kvs, rfl, e1, e2, ex⟩ | ⟨kvs, rfl, e1, e2, ex⟩
      · exact .inl ⟨e1, kvs, .inl (kp a List.mem_cons_self _ h0), e2, ex⟩
      · exact .inr ⟨e1, kvs, .inl (kp a List.mem_cons_self _ h0), e2, ex⟩
  | obj cn ns ds =>
    obtain ⟨a, dx, fs, fx, rfl, h1, hn, h2, rfl⟩ := h
    obtain ⟨u, f, fr, q1, q2, q3, q4, q5⟩ := h2.kid (List.nodup_cons.mp nd).2 (show ds[j]? = some c from e)
    obtain ⟨c1, c2⟩ := comm q4 nd q3
    refine ⟨u, f, a :: fr, by rw [kidV_at h1]; exact q1, q2, c1, c2, fun {G' H' c' f'} gg kp ow' n' => ?_⟩
    obtain ⟨fp', r1, r2, r3⟩ := q5 (R' := Ow K G' H' k) (fun d v g m q => Ow.mono gg k d v g (fun b hb => kp b (List.mem_cons_of_mem _ (m b hb))) q) ow' (nd2 n')
    rw [set_self q1] at r1
    obtain ⟨b1, b2, _⟩ := back r3 r2 n'
    refine ⟨a :: fp', ?_, b1, b2⟩
    show Ow K G' H' (k + 1) (.obj cn ns (ds.set j c')) (.ref a) (a :: fp')
    exact ⟨a, dx, fs, fp', rfl, kp a List.mem_cons_self _ h1, hn, r1, rfl⟩
  | non => cases e
  | bl b => cases e
  | int n => cases e
  | str x => cases e
  | tup ds => cases e
  | lsx ds => cases e
/-- down a path: m: how deep the thing there is owned -/
theorem Ow.path : ∀ {π : List Nat} {m : Nat} {d : D} {v : V} {fp : List Addr} {c : D}, Ow K G H (π.length + m) d v fp → fp.Nodup → subD π d = some c →
    ∃ u f fr, refAt H π v = some u ∧ Ow K G H m c u f ∧ (f ++ fr).Nodup ∧ (∀ a, a ∈ fp ↔ a ∈ f ∨ a ∈ fr) ∧
      ∀ {G' H' : Hp} {c' : D} {f' : List Addr}, Same G G' → (∀ a ∈ fr, ∀ o, H a = some o → H' a = some o) → Ow K G' H' m c' u f' → (f' ++ fr).Nodup → ∃ fp', Ow K G' H' (π.length + m) (setD π d c') v fp' ∧ fp'.Nodup ∧ ∀ a, a ∈ fp' ↔ a ∈ f' ∨ a ∈ fr
  | [], m, d, v, fp, c, h, nd, e => by
    cases e
    rw [show ([] : List Nat).length + m = m by simp] at h ⊢
    exact ⟨v, fp, [], rfl, h, by simpa using nd, fun a => by simp, fun {G' H' c' f'} gg kp ow' n' => ⟨f', ow', by simpa using n', fun a => by simp⟩⟩
  | j :: π, m, d, v, fp, c, h, nd, e => by
    unfold subD at e
    cases q : d.kid j with
    | none => rw [q] at e; cases e
    | some x =>
      rw [q] at e
      have el : (j :: π).length + m = (π.length + m) + 1 := by simp; omega
      rw [el] at h ⊢
      obtain ⟨u, f, fr, q1, q2, q3, q4, q5⟩ := h.kid nd q
      obtain ⟨n1, n2, n3⟩ := List.nodup_append.mp q3
      obtain ⟨u2, f2, fr2, s1, s2, s3, s4, s5⟩ := Ow.path q2 n1 e
      obtain ⟨p1, p2, p3⟩ := List.nodup_append.mp s3
      have dj : ∀ a ∈ f2 ++ fr2, ∀ b ∈ fr, a ≠ b := fun a ha b hb => n3 a ((s4 a).mpr (List.mem_append.mp ha)) b hb
      refine ⟨u2, f2, fr2 ++ fr, by unfold refAt; rw [q1]; exact s1, s2, ?_, fun a => ?_, fun {G' H' c' f'} gg kp ow' n' => ?_⟩
      · rw [← List.append_assoc]
        exact List.nodup_append.mpr ⟨s3, n2, dj⟩
      · rw [q4, s4, List.mem_append, or_assoc]
      · rw [← List.append_assoc] at n'
        obtain ⟨r1, r2, r3⟩ := List.nodup_append.mp n'
        obtain ⟨f3, t1, t2, t3⟩ := s5 (f' := f') gg (fun a m => kp a (List.mem_append_left _ m)) ow' r1
        obtain ⟨f4, w1, w2, w3⟩ := q5 gg (fun a m => kp a (List.mem_append_right _ m)) t1 (List.nodup_append.mpr ⟨t2, n2, fun a ha b hb => r3 a (List.mem_append.mpr ((t3 a).mp ha)) b hb⟩)
        refine ⟨f4, by unfold setD; rw [q]; exact w1, w2, fun a => ?_⟩
        rw [w3, t3, List.mem_append, or_assoc]
end
end VL
/-! Vl13: item stores, append. -/
namespace VL
open PySem PySem.Spec PyProof.Rows L2

/-! ### stores, on data -/
def dfind (t : Bool) (ks : List D) (q : Sum Key (List Key)) : Option Nat := ks.findIdx? fun k => decide (kOf t k = some q)
def D.store (c key x : D) : Option D := match c with
  | .lst ds => (match key with
    | .int n => (ixN ds.length n).map fun j => .lst (ds.set j x)
    | _ => none)
  | .dct t ks vs => (kOf t key).bind fun q => match dfind t ks q with
    | none => if ks.length < cap ∧ vs.length = ks.length then some (.dct t (ks ++ [key]) (vs ++ [x])) else none
    | some j => if (ks.drop (j + 1)).all (fun k => !decide (kOf t k = some q)) ∧ ks.length < cap then some (.dct t ks (vs.set j x)) else none
  | _ => none
/-- putK at the first place of a key that stands there once -/
theorem putK_at {κ : Type} [DecidableEq κ] (k : κ) (v : V) : ∀ (kvs : List (κ × V)) (j : Nat), kvs.findIdx? (fun kv => decide (kv.1 = k)) = some j → ((kvs.drop (j + 1)).all fun kv => !decide (kv.1 = k)) = true →
    (kvs.any fun kv => decide (kv.1 = k)) = true ∧ (kvs.map fun kv => if kv.1 = k then (kv.1, v) else kv).map (·.1) = kvs.map (·.1) ∧ (kvs.map fun kv => if kv.1 = k then (kv.1, v) else kv).map (·.2) = (kvs.map (·.2)).set j v
  | [], _, h, _ => by simp at h
  | p :: kvs, j, h, d => by
    rw [List.findIdx?_cons] at h
    by_cases c : p.1 = k
    · rw [if_pos (by simpa using c)] at h
      cases h
      have hid : (kvs.map fun kv => if kv.1 = k then (kv.1, v) else kv) = kvs := by
        rw [List.map_congr_left (g := id) fun kv m => ?_, List.map_id]
        have := List.all_eq_true.mp d kv (by simpa using m)
        have ne : ¬ kv.1 = k := by simpa using this
        rw [if_neg ne]; rfl
      rw [List.map_cons, hid, if_pos c]
      exact ⟨by simp [c], by simp, by simp⟩
    · rw [if_neg (by simpa using c)] at h
      obtain ⟨i, hi, rfl⟩ := Option.map_eq_some_iff.mp h
      obtain ⟨h1, h2, h3⟩ := putK_at k v kvs i hi (by simpa using d)
      rw [List.map_cons, if_neg c]
      exact ⟨by rw [List.any_cons, h1, Bool.or_true], by simp [h2], by simp [h3]⟩
theorem putK_new {κ : Type} [DecidableEq κ] (k : κ) (v : V) (kvs : List (κ × V)) (h : kvs.findIdx? (fun kv => decide (kv.1 = k)) = none) : putK kvs k v = kvs ++ [(k, v)] := by
  unfold putK
  rw [if_neg]
  intro c
  obtain ⟨kv, m, e⟩ := List.any_eq_true.mp c
  have := List.findIdx?_eq_none_iff.mp h kv m
  rw [this] at e; cases e
theorem dfind_K {k : Key} : ∀ {kvs : List (Key × V)}, dfind false (kvs.map fun p => keyD p.1) (.inl k) = kvs.findIdx? fun kv => decide (kv.1 = k) := by
  intro kvs
  unfold dfind
  rw [List.findIdx?_map]
  congr 1
  funext p
  have e : kOf false (keyD p.1) = some (.inl p.1) := by show (kOf1 (keyD p.1)).map Sum.inl = _; rw [kOf1_keyD]; rfl
  refine decide_eq_decide.mpr ?_
  show kOf false (keyD p.1) = _ ↔ _
  rw [e]
  simp
theorem dfind_T {k : List Key} : ∀ {kvs : List (List Key × V)}, dfind true (kvs.map fun p => D.tup (p.1.map keyD)) (.inr k) = kvs.findIdx? fun kv => decide (kv.1 = k) := by
  intro kvs
  unfold dfind
  rw [List.findIdx?_map]
  congr 1
  funext p
  have e : kOf true (.tup (p.1.map keyD)) = some (.inr p.1) := by show (kOfL (p.1.map keyD)).map Sum.inr = _; rw [kOfL_keyD]; rfl
  refine decide_eq_decide.mpr ?_
  show kOf true (.tup (p.1.map keyD)) = _ ↔ _
  rw [e]
  simp
section
variable {K : PySem.W.Frag} {G H : Hp}
theorem upd_upd {a : Addr} {o o' : HO} : upd (upd H a o) a o' = upd H a o' := by
  funext b
  by_cases e : b = a
  · rw [e, upd_same, upd_same]
  · rw [upd_ne e, upd_ne e, upd_ne e]
/-- what a PSet rule does at what is owned: the object at a -/
def rSetA : TSet := fun o i v H Q => rSetL o i v H Q ∨ rSetD o i v H Q
theorem set_any {X : Cx} (hu : X.A.units + 1 < cLine) : PSet X rSetA := by
  intro pins s σ H o i v ov iv u Q I ro ri rv h
  rcases h with h | h
  · exact set_list pins s σ H o i v ov iv u Q I ro ri rv h
  · exact set_dict hu pins s σ H o i v ov iv u Q I ro ri rv h
theorem dct_put {a : Addr} {t : Bool} {ks : List D} {xs : List V} {o : HO} {key : D} {y u : V} {q : Sum Key (List Key)} (h0 : H a = some o) (hd : isD o) (h : DctAt H a t ks xs) (sk : Sh K H key y) (hk : kOf t key = some q) (hl : ks.length < cap) :
    ∃ o', DPut H a y u (upd H a o') ∧ isD o' ∧ (dfind t ks q = none → DctAt (upd H a o') a t (ks ++ [key]) (xs ++ [u])) ∧
      ∀ j, dfind t ks q = some j → ((ks.drop (j + 1)).all fun k => !decide (kOf t k = some q)) = true → DctAt (upd H a o') a t ks (xs.set j u) := by
  rcases dctAt_vals h h0 hd with ⟨kvs, rfl, rfl, e2, ex⟩ | ⟨kvs, rfl, rfl, e2, ex⟩
  · obtain ⟨k, hk1, rfl⟩ := Option.map_eq_some_iff.mp (show (kOf1 key).map Sum.inl = some q from hk)
    rw [keyD_kOf1 hk1] at sk ⊢
    rw [sh_key sk]
    subst e2 ex
    refine ⟨.dK (putK kvs k u), DPut.k h0 (cap_lt (by simpa using hl)), trivial, fun hn => .inl ⟨rfl, _, .inl upd_same, ?_, ?_⟩, fun j hj ha => .inl ⟨rfl, _, .inl upd_same, ?_, ?_⟩⟩
    · rw [dfind_K] at hn; rw [putK_new k u kvs hn]; simp
    · rw [dfind_K] at hn; rw [putK_new k u kvs hn]; simp
    · rw [dfind_K] at hj
      obtain ⟨p1, p2, p3⟩ := putK_at k u kvs j hj (by
        rw [List.all_eq_true] at ha ⊢
        intro kv m
        have := ha (keyD kv.1) (by rw [← List.map_drop]; exact List.mem_map.mpr ⟨kv, m, rfl⟩)
        have e : kOf false (keyD kv.1) = some (.inl kv.1) := by show (kOf1 (keyD kv.1)).map Sum.inl = _; rw [kOf1_keyD]; rfl
        rw [e] at this; simpa using this)
      unfold putK
      rw [if_pos p1]
      have := congrArg (List.map keyD) p2
      simpa [List.map_map] using this
    · rw [dfind_K] at hj
      obtain ⟨p1, p2, p3⟩ := putK_at k u kvs j hj (by
        rw [List.all_eq_true] at ha ⊢
        intro kv m
        have := ha (keyD kv.1) (by rw [← List.map_drop]; exact List.mem_map.mpr ⟨kv, m, rfl⟩)
        have e : kOf false (keyD kv.1) = some (.inl kv.1) := by show (kOf1 (keyD kv.1)).map Sum.inl = _; rw [kOf1_keyD]; rfl
        rw [e] at this; simpa using this)
      unfold putK
      rw [if_pos p1]
      exact p3
  · cases key with
    | tup ds =>
      obtain ⟨k, hk1, rfl⟩ := Option.map_eq_some_iff.mp (show (kOfL ds).map Sum.inr = some q from hk)
      unfold Sh at sk
      obtain ⟨b, ys, rfl, hb, sl⟩ := sk
      rw [keyD_kOfL hk1] at sl ⊢
      rw [shL_keys sl] at hb
      subst e2 ex
      have key_at : ∀ kv : List Key × V, kOf true (.tup (kv.1.map keyD)) = some (.inr kv.1) := fun kv => by
        show (kOfL (kv.1.map keyD)).map Sum.inr = _
        rw [kOfL_keyD]; rfl
      have ndup : ∀ j, ((((kvs.map fun p => D.tup (p.1.map keyD)).drop (j + 1)).all fun k' => !decide (kOf true k' = some (.inr k))) = true) → ((kvs.drop (j + 1)).all fun kv => !decide (kv.1 = k)) = true := fun j ha => by
        rw [List.all_eq_true] at ha ⊢
        intro kv m
        have := ha (.tup (kv.1.map keyD)) (by rw [← List.map_drop]; exact List.mem_map.mpr ⟨kv, m, rfl⟩)
        rw [key_at] at this
        simpa using this
      refine ⟨.dT (putK kvs k u), DPut.t h0 hb (cap_lt (by simpa using hl)), trivial, fun hn => .inr ⟨rfl, _, .inl upd_same, ?_, ?_⟩, fun j hj ha => .inr ⟨rfl, _, .inl upd_same, ?_, ?_⟩⟩
      · rw [dfind_T] at hn; rw [putK_new k u kvs hn]; simp
      · rw [dfind_T] at hn; rw [putK_new k u kvs hn]; simp
      · rw [dfind_T] at hj
        obtain ⟨p1, p2, p3⟩ := putK_at k u kvs j hj (ndup j ha)
        unfold putK
        rw [if_pos p1]
        have := congrArg (List.map fun p : List Key => D.tup (p.map keyD)) p2
        simpa [List.map_map] using this
      · rw [dfind_T] at hj
        obtain ⟨p1, p2, p3⟩ := putK_at k u kvs j hj (ndup j ha)
        unfold putK
        rw [if_pos p1]
        exact p3
    | _ => cases hk
/-- a store into what is owned -/
theorem Ow.store {m : Nat} {c c' key d : D} {v y u : V} {f fpr : List Addr} (h : Ow K G H (m + 1) c v f) (nd : (f ++ fpr).Nodup) (sk : Sh K H key y) (o1 : Ow K G H m d u fpr) (e : D.store c key d = some c') :
    ∃ a o f', v = .ref a ∧ a ∈ f ∧ Ow K G (upd H a o) (m + 1) c' v f' ∧ f'.Nodup ∧ (∀ x ∈ f', x ∈ f ++ fpr) ∧ ∀ Q : Hp → Prop, Q (upd H a o) → rSetA v y u H Q := by
  obtain ⟨n1, n2, n3⟩ := List.nodup_append.mp nd
  cases c with
  | lst ds =>
    cases key with
    | int n =>
      obtain ⟨j, hj, rfl⟩ := Option.map_eq_some_iff.mp (show (ixN ds.length n).map (fun j => D.lst (ds.set j d)) = some c' from e)
      unfold Sh at sk
      subst sk
      obtain ⟨a, xs, fx, rfl, h1, h2, rfl⟩ := h
      obtain ⟨na, nx⟩ := List.nodup_cons.mp n1
      have hlt := (ixN_seq hj).2.1
      obtain ⟨w, f0, fr, q1, q2, q3, q4, q5⟩ := h2.kid nx (List.getElem?_eq_getElem hlt)
      have frn : fr.Nodup := (List.nodup_append.mp q3).2.1
      have nfr : ∀ x ∈ fr, x ≠ a := fun x m z => na ((q4 a).mpr (.inr (by rw [← z]; exact m)))
      have nfp : ∀ x ∈ fpr, x ≠ a := fun x m z => n3 a List.mem_cons_self x m z.symm
      obtain ⟨fp', r1, r2, r3⟩ := q5 (R' := Ow K G (upd H a (.lst (xs.set j u))) m) (f' := fpr) (c' := d) (v' := u) (fun d v g mm q => Ow.mono (Same.refl' G) m d v g (fun b hb o e => by rw [upd_ne (nfr b (mm b hb))]; exact e) q)
        (Ow.mono (Same.refl' G) m d u fpr (fun b hb o e => by rw [upd_ne (nfp b hb)]; exact e) o1) (List.nodup_append.mpr ⟨n2, frn, fun x hx y hy z => n3 y (List.mem_cons_of_mem _ ((q4 y).mpr (.inr hy))) x hx z.symm⟩)
      refine ⟨a, .lst (xs.set j u), a :: fp', rfl, List.mem_cons_self, ⟨a, _, fp', rfl, upd_same, r1, rfl⟩, List.nodup_cons.mpr ⟨fun z => ?_, r2⟩, fun x hx => ?_, fun Q hQ => .inl ⟨a, xs, n, j, rfl, rfl, h1, by rw [h2.length]; exact hj, hQ⟩⟩
      · rcases (r3 a).mp z with z | z
        · exact nfp a z rfl
        · exact nfr a z rfl
      · rcases List.mem_cons.mp hx with hx | hx
        · rw [hx]; exact List.mem_append_left _ List.mem_cons_self
        · rcases (r3 x).mp hx with hx | hx
          · exact List.mem_append_right _ hx
          · exact List.mem_append_left _ (List.mem_cons_of_mem _ ((q4 x).mpr (.inr hx)))
    | _ => cases e
  | dct t ks ds =>
    obtain ⟨q, hq, e⟩ := Option.bind_eq_some_iff.mp (show ((kOf t key).bind fun q => _) = some c' from e)
    obtain ⟨a, xs, fx, rfl, ⟨o, h0, hd⟩, h1, h2, rfl⟩ := h
    obtain ⟨na, nx⟩ := List.nodup_cons.mp n1
    have nfp : ∀ x ∈ fpr, x ≠ a := fun x m z => n3 a List.mem_cons_self x m z.symm
    have nfx : ∀ x ∈ fx, x ≠ a := fun x m z => na (by rw [← z]; exact m)
    cases hf : dfind t ks q with
    | none =>
      rw [hf] at e
      dsimp only at e
      split at e
      · rename_i hc
        cases e
        obtain ⟨o', p1, p2, p3, p4⟩ := dct_put (u := u) h0 hd h1 sk hq hc.1
        have kp : ∀ x ∈ fx ++ fpr, ∀ w, H x = some w → upd H a o' x = some w := fun x m w e => by
          rw [upd_ne ((List.mem_append.mp m).elim (nfx x) (nfp x))]; exact e
        refine ⟨a, o', a :: (fx ++ fpr), rfl, List.mem_cons_self, ⟨a, xs ++ [u], fx ++ fpr, rfl, ⟨o', upd_same, p2⟩, p3 hf, ?_, rfl⟩, ?_, fun x hx => by simpa using hx, fun Q hQ => .inr ⟨a, _, rfl, p1, hQ⟩⟩
        · refine OwL.app (h2.imp fun d v g mm r => Ow.mono (Same.refl' G) m d v g (fun b hb => kp b (List.mem_append_left _ (mm b hb))) r) ?_
          have := OwL.cons (Ow.mono (Same.refl' G) m d u fpr (fun b hb => kp b (List.mem_append_right _ hb)) o1) (OwL.nil (R := Ow K G (upd H a o') m))
          rw [List.append_nil] at this
          exact this
        · refine List.nodup_cons.mpr ⟨fun z => (List.mem_append.mp z).elim (fun z => nfx a z rfl) (fun z => nfp a z rfl), List.nodup_append.mpr ⟨nx, n2, fun x hx y hy => n3 x (List.mem_cons_of_mem _ hx) y hy⟩⟩
      · cases e
    | some j =>
      rw [hf] at e
      dsimp only at e
      split at e
      · rename_i hc
        cases e
        obtain ⟨o', p1, p2, p3, p4⟩ := dct_put (u := u) h0 hd h1 sk hq hc.2
        have hjl : j < ds.length := by
          have l1 : j < ks.length := by
            have := List.findIdx?_eq_some_iff_getElem.mp hf
            exact this.1
          have l2 := h2.length
          rcases dctAt_vals h1 h0 hd with ⟨kvs, _, _, e2, ex⟩ | ⟨kvs, _, _, e2, ex⟩
          · have a1 := congrArg List.length e2
            have a2 := congrArg List.length ex
            simp at a1 a2; omega
          · have a1 := congrArg List.length e2
            have a2 := congrArg List.length ex
            simp at a1 a2; omega
        obtain ⟨w, f0, fr, q1, q2, q3, q4, q5⟩ := h2.kid nx (List.getElem?_eq_getElem hjl)
        have frn : fr.Nodup := (List.nodup_append.mp q3).2.1
        have nfr : ∀ x ∈ fr, x ≠ a := fun x m => nfx x ((q4 x).mpr (.inr m))
        obtain ⟨fp', r1, r2, r3⟩ := q5 (R' := Ow K G (upd H a o') m) (f' := fpr) (c' := d) (v' := u) (fun d v g mm q => Ow.mono (Same.refl' G) m d v g (fun b hb o e => by rw [upd_ne (nfr b (mm b hb))]; exact e) q)
          (Ow.mono (Same.refl' G) m d u fpr (fun b hb o e => by rw [upd_ne (nfp b hb)]; exact e) o1) (List.nodup_append.mpr ⟨n2, frn, fun x hx y hy z => n3 y (List.mem_cons_of_mem _ ((q4 y).mpr (.inr hy))) x hx z.symm⟩)
        refine ⟨a, o', a :: fp', rfl, List.mem_cons_self, ⟨a, xs.set j u, fp', rfl, ⟨o', upd_same, p2⟩, p4 j hf hc.1, r1, rfl⟩, List.nodup_cons.mpr ⟨fun z => ?_, r2⟩, fun x hx => ?_, fun Q hQ => .inr ⟨a, _, rfl, p1, hQ⟩⟩
        · rcases (r3 a).mp z with z | z
          · exact nfp a z rfl
          · exact nfr a z rfl
        · rcases List.mem_cons.mp hx with hx | hx
          · rw [hx]; exact List.mem_append_left _ List.mem_cons_self
          · rcases (r3 x).mp hx with hx | hx
            · exact List.mem_append_right _ hx
            · exact List.mem_append_left _ (List.mem_cons_of_mem _ ((q4 x).mpr (.inr hx)))
      · cases e
  | _ => cases e
end
end VL
/-! Vl14: paths as expressions, o[i] = e, o.append(e), x op= e. -/
namespace VL
open PySem PySem.Spec PyProof.Rows L2

section
variable {K : PySem.W.Frag} {G H G' H' : Hp} {σ : St} {fp fpr : List Addr} {env : Env}
/-- the thing at a path of what slot i owns, and what becomes of the state when it is changed -/
theorem mut_at {i k m : Nat} {s : SV} {d c : D} {π : List Nat} (r : Rl K G σ H env fp) (hs : env[i]? = some s) (ho : s.own = some (k, d)) (hk : k = π.length + m) (hp : subD π d = some c) (nd : (fp ++ fpr).Nodup) (out : ∀ a ∈ fpr, G a = none) :
    ∃ vi v f, σ[i]? = some (some vi) ∧ refAt H π vi = some v ∧ Ow K G H (m + 1) c v f ∧ (f ++ fpr).Nodup ∧ (∀ a ∈ f, G a = none) ∧ (∀ a ∈ f, a ∈ fp) ∧
      ∀ {a : Addr} {o : HO} {c' : D} {f' : List Addr}, a ∈ f → Ow K G (upd H a o) (m + 1) c' v f' → f'.Nodup → (∀ x ∈ f', x ∈ f ++ fpr) →
        ∃ fp', Rl K G σ (upd H a o) (env.set i (s.put (setD π d c'))) fp' ∧ (∀ x ∈ fp', x ∈ fp ++ fpr) := by
  obtain ⟨o0, f0, fr0, e1, q0, nd0, hm0, put⟩ := r.sl.put r.nd hs
  obtain ⟨vi, rfl, q⟩ := Slot1.own q0 ho
  obtain ⟨n1, n2, n3⟩ := List.nodup_append.mp nd0
  obtain ⟨m1, m2, m3⟩ := List.nodup_append.mp nd
  have ek : k + 1 = π.length + (m + 1) := by omega
  rw [ek] at q
  obtain ⟨v, f, fr, s1, s2, s3, s4, s5⟩ := q.path n1 hp
  obtain ⟨p1, p2, p3⟩ := List.nodup_append.mp s3
  have ff : ∀ a ∈ f, a ∈ fp := fun a h => (hm0 a).mpr (.inl ((s4 a).mpr (.inl h)))
  refine ⟨vi, v, f, e1, s1, s2, List.nodup_append.mpr ⟨p1, m2, fun a ha b hb => m3 a (ff a ha) b hb⟩, fun a h => r.out a (ff a h), ff, fun {a o c' f'} ha ow' n' sub => ?_⟩
  have gin : In G (upd H a o) := r.gin.write (r.out a (ff a ha))
  have dj1 : ∀ x ∈ f', ∀ y ∈ fr, x ≠ y := fun x hx y hy z => by
    rcases List.mem_append.mp (sub x hx) with h | h
    · exact p3 x h y hy z
    · exact m3 y ((hm0 y).mpr (.inl ((s4 y).mpr (.inr hy)))) x h z.symm
  obtain ⟨f1, t1, t2, t3⟩ := s5 (G' := G) (H' := upd H a o) (c' := c') (f' := f') (Same.refl' G) (fun x hx u e => by rw [upd_ne (fun z => p3 a ha x hx z.symm)]; exact e) ow' (List.nodup_append.mpr ⟨n', p2, dj1⟩)
  rw [← ek] at t1
  have dj2 : ∀ x ∈ f1, ∀ y ∈ fr0, x ≠ y := fun x hx y hy z => by
    rcases (t3 x).mp hx with h | h
    · rcases List.mem_append.mp (sub x h) with h | h
      · exact n3 x ((s4 x).mpr (.inl h)) y hy z
      · exact m3 y ((hm0 y).mpr (.inr hy)) x h z.symm
    · exact n3 x ((s4 x).mpr (.inr h)) y hy z
  obtain ⟨fp', u1, u2, u3⟩ := put (G' := G) (H' := upd H a o) (s' := s.put (setD π d c')) (o' := some vi) (f' := f1) (Same.refl' G) (fun x hx u e => by rw [upd_ne (fun z => n3 a ((s4 a).mpr (.inl ha)) x hx z.symm)]; exact e) (Slot1.put ho t1) (List.nodup_append.mpr ⟨t2, n2, dj2⟩)
  rw [set_same e1] at u1
  have up : ∀ x ∈ fp', x ∈ fp ++ fpr := fun x hx => by
    rcases (u3 x).mp hx with h | h
    · rcases (t3 x).mp h with h | h
      · rcases List.mem_append.mp (sub x h) with h | h
        · exact List.mem_append_left _ (ff x h)
        · exact List.mem_append_right _ h
      · exact List.mem_append_left _ ((hm0 x).mpr (.inl ((s4 x).mpr (.inr h))))
    · exact List.mem_append_left _ ((hm0 x).mpr (.inr h))
  exact ⟨fp', ⟨gin, u1, u2, fun x hx => (List.mem_append.mp (up x hx)).elim (r.out x) (out x)⟩, up⟩
theorem put_io {env : Env} {i k : Nat} {d d' : D} {s : SV} (hs : env[i]? = some s) (ho : s.own = some (k, d)) : IoK env (env.set i (s.put d')) := fun j k2 d2 e => by
  by_cases c : i = j
  · subst c
    rw [hs] at e
    cases e
    exact ⟨d', by rw [List.getElem?_set]; rw [if_pos rfl, if_pos (List.getElem?_eq_some_iff.mp hs).1]; rfl⟩
  · exact ⟨d2, by rw [List.getElem?_set_ne c]; exact e⟩
end

/-! ### paths as expressions -/
structure VP (X : Cx) (W : WX) (i : Nat) (e : Expr) (f : Env → Rs (List Nat)) : Prop where
  ex : ∃ t, PE X e t ∧ ∀ G σ H fp env Q, Rl X.K G σ H env fp →
    Res (fun π => ∀ vi v G' H', σ[i]? = some (some vi) → PostR X.K true G σ H fp env env G' H' fp → refAt H' π vi = some v → Q v H') (EX X.K W G σ H fp) (f env) → t σ H Q
section
variable {X : Cx} {W : WX} {p q : Bool} {e a b o : Expr} {es : List Expr} {f f1 f2 : Env → ER} {g g1 g2 : Env → RR} {fa : Env → AR} {pos apos : Pos} {lv i : Nat} {fo : Env → Rs (List Nat)}
def pNm (i : Nat) : Env → Rs (List Nat) := fun env => bd (opt (slot env i).own) fun _ => ok []
theorem vp_name (h : PE X e (tVar i)) : VP X W i e (pNm i) := by
  refine ⟨_, h, fun G σ H fp env Q rl z => ?_⟩
  unfold pNm at z
  rw [Res.bd] at z
  obtain ⟨o, ho, z⟩ := z.opt
  obtain ⟨v, ev, _⟩ := rl.read (d := o.2) (by
    cases hs : slot env i <;> rw [hs] at ho <;> unfold SV.own at ho <;> cases ho <;> rfl)
  exact ⟨v, ev, z v v G H ev (PostR.refl rl) rfl⟩
/-- the place of a child -/
def D.kix (c key : D) : Option Nat := match c with
  | .lst ds => (match key with
    | .int n => ixN ds.length n
    | _ => none)
  | .dct t ks _ => (kOf t key).bind fun q => dfind t ks q
  | _ => none
def pIx (i : Nat) (fo : Env → Rs (List Nat)) (gi : Env → RR) : Env → Rs (List Nat) := fun env => bd (fo env) fun π => bd (gi env) fun r => bd (opt (slot env i).own) fun o => bd (opt (subD π o.2)) fun c => bd (opt (D.kix c r.1)) fun j => if π.length ≤ o.1 then ok (π ++ [j]) else none
theorem dval_find {t : Bool} {q : Sum Key (List Key)} {j : Nat} : ∀ {ks vs : List D}, dfind t ks q = some j → vs.length = ks.length → ∃ d, dval t ks vs q = some d ∧ vs[j]? = some d := by
  intro ks
  induction ks generalizing j with
  | nil => intro vs h _; unfold dfind at h; simp at h
  | cons k ks ih =>
    intro vs h hl
    cases vs with
    | nil => cases hl
    | cons v vs =>
      unfold dfind at h
      rw [List.findIdx?_cons] at h
      unfold dval
      by_cases c : kOf t k = some q
      · rw [if_pos (by simpa using c)] at h
        cases h
        rw [if_pos c]
        exact ⟨v, rfl, rfl⟩
      · rw [if_neg (by simpa using c)] at h
        obtain ⟨i, hi, rfl⟩ := Option.map_eq_some_iff.mp h
        rw [if_neg c]
        obtain ⟨d, h1, h2⟩ := ih hi (by simpa using hl)
        exact ⟨d, h1, by simpa using h2⟩
theorem valV_at {κ : Type} [DecidableEq κ] {k : κ} {j : Nat} : ∀ {kvs : List (κ × V)}, kvs.findIdx? (fun kv => decide (kv.1 = k)) = some j → ∃ v, valV kvs k = some v ∧ (kvs.map (·.2))[j]? = some v
  | [], h => by simp at h
  | p :: kvs, h => by
    rw [List.findIdx?_cons] at h
    by_cases c : p.1 = k
    · rw [if_pos (by simpa using c)] at h
      cases h
      exact ⟨p.2, valV_pos c, rfl⟩
    · rw [if_neg (by simpa using c)] at h
      obtain ⟨i, hi, rfl⟩ := Option.map_eq_some_iff.mp h
      obtain ⟨v, h1, h2⟩ := valV_at hi
      exact ⟨v, by rw [valV_neg c]; exact h1, by simpa using h2⟩
theorem vp_ix (hu : X.A.units + 1 < cLine) (ho : VP X W i a fo) (hb : VR X W true b g2) (hs : PlainIx b := by intro _ _; rfl) : VP X W i (.Subscript a b pos) (pIx i fo g2) := by
  obtain ⟨ta, ha, ra⟩ := ho.ex
  obtain ⟨tb, hb, rb⟩ := hb.ex
  refine ⟨_, PE.or (pe_ix ix_seq ha hb hs) (pe_dget hu ha hb hs), fun G σ H fp env Q rl z => ?_⟩
  have core : ∀ r : R2, (∀ c1 : D, ∀ x y H2 G2 v f j key, Ow X.K G2 H2 1 c1 x f ∨ (∃ m, Ow X.K G2 H2 (m + 1) c1 x f) → D.kix c1 key = some j → Sh X.K H2 key y → (∃ c env', fo env = ok c ∧ g2 env = ok (key, env') ∧ ∃ o, (slot env i).own = some o ∧ subD c o.2 = some c1) → (∀ w, kidV H2 j x = some w → Q w H2) → r x y H2 Q) → tOp r ta tb σ H Q := fun r hr => by
    unfold pIx at z
    rw [Res.bd] at z
    refine ra G σ H fp env _ rl (z.imp (fun π eπ z vi x G1 H1 ev po1 ref1 => ?_) fun x z => z)
    rw [Res.bd] at z
    refine rb G1 σ H1 fp env _ po1.rl (z.imp (fun r2 e2 z y G2 H2 fp2 po2 sh2 => ?_) fun x z => z.back po1.st)
    rw [Res.bd] at z
    obtain ⟨o, ho, z⟩ := z.opt
    rw [Res.bd] at z
    obtain ⟨c, hc, z⟩ := z.opt
    rw [Res.bd] at z
    obtain ⟨j, hj, z⟩ := z.opt
    by_cases hl : π.length ≤ o.1
    case neg => rw [if_neg hl] at z; exact z.elim
    rw [if_pos hl] at z
    obtain ⟨e2', f2', k2⟩ := po2.pu rfl
    have po := po1.trans po2
    rw [e2', f2'] at po
    have rl2 := po.rl
    obtain ⟨vi', v', f, w1, w2, w3, _⟩ := mut_at (fpr := []) (m := o.1 - π.length) rl2 (slot_own ho) (show (slot env i).own = some (o.1, o.2) from ho) (by omega) hc (by simpa using rl2.nd) (fun a m => nomatch m)
    rw [ev] at w1
    cases w1
    have w4 := refAt_mono k2 ref1
    rw [w2] at w4
    cases w4
    exact hr c x y H2 G2 x f j r2.1 (.inr ⟨_, w3⟩) hj sh2 ⟨π, r2.2, eπ, e2, o, ho, hc⟩ fun w hw => z vi w G2 H2 ev po (refAt_snoc w2 hw)
  by_cases isd : ∃ c env' key o t ks vs, fo env = ok c ∧ g2 env = ok (key, env') ∧ (slot env i).own = some o ∧ subD c o.2 = some (.dct t ks vs)
  · obtain ⟨c0, env0', key0, o0, t0, ks0, vs0, i1, i2, i3, i4⟩ := isd
    refine .inr (core rDG fun c1 x y H2 G2 v f j key ow hj sk ⟨c, env', j1, j2, o, j3, j4⟩ hq => ?_)
    rw [i1] at j1; cases j1
    rw [i3] at j3; cases j3
    rw [i4] at j4; cases j4
    have ow : ∃ m, Ow X.K G2 H2 (m + 1) (.dct t0 ks0 vs0) x f := ow.elim (fun h => ⟨0, h⟩) id
    obtain ⟨m, ad, xs, fx, rfl, ⟨ob, h0, hd⟩, h1, h2, _⟩ := ow
    obtain ⟨qk, hqk, hj⟩ := Option.bind_eq_some_iff.mp (show ((kOf t0 key).bind fun q => dfind t0 ks0 q) = some j from hj)
    rcases dctAt_vals h1 h0 hd with ⟨kvs, rfl, rfl, e2, ex⟩ | ⟨kvs, rfl, rfl, e2, ex⟩
    · obtain ⟨k, hk1, rfl⟩ := Option.map_eq_some_iff.mp (show (kOf1 key).map Sum.inl = some qk from hqk)
      rw [keyD_kOf1 hk1] at sk
      rw [← e2, dfind_K] at hj
      obtain ⟨w, hw1, hw2⟩ := valV_at hj
      exact ⟨ad, w, rfl, .inl ⟨kvs, k, .inl h0, sh_key sk, hw1.symm⟩, hq w (by rw [kidV_at h0]; exact hw2)⟩
    · cases key with
      | tup ds =>
        obtain ⟨k, hk1, rfl⟩ := Option.map_eq_some_iff.mp (show (kOfL ds).map Sum.inr = some qk from hqk)
        unfold Sh at sk
        obtain ⟨bb, ys, rfl, hb, sl⟩ := sk
        rw [keyD_kOfL hk1] at sl
        rw [shL_keys sl] at hb
        rw [← e2, dfind_T] at hj
        obtain ⟨w, hw1, hw2⟩ := valV_at hj
        exact ⟨ad, w, rfl, .inr ⟨kvs, k, bb, .inl h0, rfl, hb, hw1.symm⟩, hq w (by rw [kidV_at h0]; exact hw2)⟩
      | _ => cases hqk
  · refine .inl (core (rIx X.K) fun c1 x y H2 G2 v f j key ow hj sk ⟨c, env', j1, j2, o, j3, j4⟩ hq => ?_)
    cases c1 with
    | dct t ks vs => exact absurd ⟨c, env', key, o, t, ks, vs, j1, j2, j3, j4⟩ isd
    | lst ds =>
      have ow : ∃ m, Ow X.K G2 H2 (m + 1) (.lst ds) x f := ow.elim (fun h => ⟨0, h⟩) id
      obtain ⟨m, ad, xs, fx, rfl, h1, h2, _⟩ := ow
      cases key with
      | int n =>
        have hj : ixN ds.length n = some j := hj
        unfold Sh at sk
        subst sk
        have hlt : j < xs.length := by rw [h2.length]; exact (ixN_seq hj).2.1
        refine .inl ⟨ad, xs, n, xs[j], rfl, rfl, SqL.of h1, ?_, hq _ (by rw [kidV_at h1]; exact List.getElem?_eq_getElem hlt)⟩
        unfold atI
        rw [h2.length, hj]
        exact List.getElem?_eq_getElem hlt
      | _ => cases hj
    | _ => cases hj

/-! ### o[i] = e -/
def sSetP (i m : Nat) (fe : Env → ER) (fo : Env → Rs (List Nat)) (gi : Env → RR) : Env → SR := fun env => bd (fe env) fun r => bd (kOk m r.1) fun _ => bd (chk env r.2.2) fun e1 => bd (fo e1) fun π => bd (gi e1) fun ri => bd (opt (slot e1 i).own) fun o =>
  if o.1 = π.length + m then bd (opt (subD π o.2)) fun c => bd (opt (D.store c ri.1 r.2.1)) fun c' => ok (.nx, e1.set i ((slot e1 i).put (setD π o.2 c'))) else none
theorem vs_setP (m : Nat) (hu : X.A.units + 1 < cLine) (he : VE X W p e f) (ho : VP X W i o fo) (hb : VR X W true b g2) (hs : swapsWithSole [.Subscript o b apos] e pos.line X.env = pure false := by rfl) (hw : swappedStores [.Subscript o b apos] e X.env = pure none := by rfl)
    (h1 : (assignEach [.Subscript o b apos] X.env).map (·.2) = [assign (.Subscript o b apos) X.env] := by rfl)
    (ha : ∀ v, assign (.Subscript o b apos) X.env v = (do
      let ov ← holding [v] (eval o X.env)
      let iv ← holding [v, ov] (eval b X.env)
      standAt apos
      holding [v, ov, iv] (setItem ov iv v)
      release [v, ov, iv] []) := by intro _; rfl) :
    VS X W (.Assign [.Subscript o b apos] e pos) (sSetP i m f fo g2) := by
  obtain ⟨te, he, re⟩ := he.ex
  obtain ⟨to, ho, ro⟩ := ho.ex
  obtain ⟨ti, hb, ri⟩ := hb.ex
  refine ⟨_, ps_asg he (pg_sub ho hb (set_any hu) ha) hs hw h1, fun G σ H fp env En rl z => re G σ H fp env _ rl ?_⟩
  unfold sSetP ResS at z
  rw [Res.bd] at z
  refine z.imp (fun r _ z v G1 H1 fp1 fpr1 po1 => ?_) fun x z => z.ex σ
  rw [Res.bd] at z
  obtain ⟨hk, z⟩ := z.kOk
  rw [Res.bd] at z
  obtain ⟨hio, z⟩ := z.chk
  obtain ⟨G1', fpr, po1⟩ := po1.kk hk
  have nd1 := po1.nd
  rw [Res.bd] at z
  refine ro G1' σ H1 fp1 r.2.2 _ po1.rl (z.imp (fun π _ z vi x G2 H2 ev po2 ref => ?_) fun x z => (z.ex σ).back po1.toR.st)
  obtain ⟨ow2, out2, nd2⟩ := po1.ow.frame po1.out nd1 po2.st
  have nd2 := nd2 po2.rl.nd
  rw [Res.bd] at z
  refine ri G2 σ H2 fp1 r.2.2 _ po2.rl (z.imp (fun rk _ z y G3 H3 fp3 po3 sk => ?_) fun x z => ((z.ex σ).back po1.toR.st).back po2.st)
  obtain ⟨e3, f3, k3⟩ := po3.pu rfl
  have po23 := po2.trans po3
  rw [e3, f3] at po23
  rw [f3] at po3
  obtain ⟨ow3, out3, nd3⟩ := ow2.frame out2 nd2 po3.st
  have nd3 := nd3 po23.rl.nd
  rw [Res.bd] at z
  obtain ⟨o, ho, z⟩ := z.opt
  by_cases hkk : o.1 = π.length + m
  case neg => rw [if_neg hkk] at z; exact z.elim
  rw [if_pos hkk, Res.bd] at z
  obtain ⟨c, hc, z⟩ := z.opt
  rw [Res.bd] at z
  obtain ⟨c', hc', z⟩ := z.opt
  have hs3 := slot_own ho
  obtain ⟨vi', v', f, w1, w2, w3, w4, w5, w6, fin⟩ := mut_at (fpr := fpr) (m := m) po23.rl hs3 (show (slot r.2.2 i).own = some (o.1, o.2) from ho) hkk hc nd3 out3
  rw [ev] at w1
  cases w1
  have w7 := refAt_mono k3 ref
  rw [w2] at w7
  cases w7
  obtain ⟨ad, ob, f', rfl, m1, m2, m3, m4, m5⟩ := w3.store w4 sk ow3 hc'
  obtain ⟨fp', rl', up⟩ := fin m1 m2 m3 m4
  refine m5 _ ?_
  refine z σ G3 (upd H3 ad ob) fp' [] ⟨rl', ?_, by rw [List.append_nil]; exact rl'.nd, fun a m => (nomatch m), fun j k d h => ⟨rfl, ?_⟩⟩ rfl
  · rw [List.append_nil]
    exact ((po1.st.trans (po23.st.frame (f := fpr))).trans (Stp.write (List.mem_append_left _ (w6 ad m1)))).sub up
  · obtain ⟨d1, h1⟩ := hio j k d h
    exact put_io hs3 (show (slot r.2.2 i).own = some (o.1, o.2) from ho) j k d1 h1
end
end VL
/-! Vl15: o.append(e), x op= e. -/
namespace VL
open PySem PySem.Spec PyProof.Rows L2
section
variable {X : Cx} {W : WX} {p q : Bool} {e a b o : Expr} {es : List Expr} {f f1 f2 : Env → ER} {g g1 g2 : Env → RR} {fa : Env → AR} {pos apos : Pos} {lv i : Nat} {fo : Env → Rs (List Nat)}
theorem app_core {K : PySem.W.Frag} {G H : Hp} {σ : St} {fp fpr : List Addr} {env : Env} {k m : Nat} {d de : D} {ds : List D} {π : List Nat} {vi x y : V} {Q : VK} (rl : Rl K G σ H env fp) (ho : (slot env i).own = some (k, d)) (hk : k = π.length + m) (hc : subD π d = some (.lst ds)) (nd : (fp ++ fpr).Nodup) (out : ∀ a ∈ fpr, G a = none)
    (ow : Ow K G H m de y fpr) (ev : σ[i]? = some (some vi)) (ref : refAt H π vi = some x) (hl : ds.length < cap)
    (fin : ∀ (ad : Addr) (acc : List V) (fp' : List Addr), x = .ref ad → H ad = some (.lst acc) → acc.length < sizeLine → Rl K G σ (upd H ad (.lst (acc ++ [y]))) (env.set i ((slot env i).put (setD π d (.lst (ds ++ [de]))))) fp' → (∀ a ∈ fp', a ∈ fp ++ fpr) → ad ∈ fp → Q .non (upd H ad (.lst (acc ++ [y])))) :
    rAppend x [y] H Q := by
  obtain ⟨vi', v', f, w1, w2, w3, w4, w5, w6, mk⟩ := mut_at (fpr := fpr) (m := m) rl (slot_own ho) ho hk hc nd out
  rw [ev] at w1
  cases w1
  rw [ref] at w2
  cases w2
  have w3' := w3
  obtain ⟨ad, xs, fx, rfl, h1, h2, h3⟩ := w3'
  obtain ⟨acc, q1, q2, q3, f', q4, q5, q6⟩ := w3.grow (d := de) (v := y) w4 (fun a m => (List.mem_append.mp m).elim (w5 a) (out a)) ow
  obtain ⟨fp', rl', up⟩ := mk q3 q6 q5 fun x hx => (q4 x).mp hx
  rw [h1] at q1
  cases q1
  have hlen : xs.length < sizeLine := by rw [q2]; exact cap_lt hl
  exact ⟨ad, xs, y, rfl, rfl, h1, hlen, fin ad xs fp' rfl h1 hlen rl' up (w6 ad q3)⟩
/-- o.append(e), o a path, e changes nothing -/
def eAppP (i m : Nat) (fo : Env → Rs (List Nat)) (fe : Env → ER) : Env → ER := fun env => bd (fo env) fun π => bd (okO' (fe env)) fun r => bd (kOk m r.1) fun _ => bd (opt (slot env i).own) fun o =>
  if o.1 = π.length + m then bd (opt (subD π o.2)) fun c => match c with
    | .lst ds => if ds.length < cap then ok (0, .non, env.set i ((slot env i).put (setD π o.2 (.lst (ds ++ [r.2.1]))))) else none
    | _ => none
  else none
theorem tyV_lst {K : PySem.W.Frag} {H : Hp} {a : Addr} {xs : List V} (h : H a = some (.lst xs)) : tyV K "list" (.ref a) H := .inl ⟨rfl, xs, SqL.of h⟩
theorem ve_appendP (m : Nat) (ho : VP X W i o fo) (he : VE X W true e f)
    (hbase : attributeBase o "append" X.env (eval o X.env) = eval o X.env := by rfl)
    (hfew : ((backTo pos (starEach [e] X.env)).all (fun x => !x.1) && (backToKw pos (keywordEach [] X.env)).all (fun x => x.1.isSome)
      && decide (([e] : List Expr).length + ([] : List Keyword).length + (if ([] : List Keyword).isEmpty then 0 else 1) < 30)) = true := by rfl)
    (hline : (apos.endLine == pos.line) = true := by rfl) (hs : starEach [e] X.env = (false, eval e X.env) :: starEach [] X.env := by rfl) (hplain : (backTo pos (starEach [] X.env)).any (·.1) = false := by rfl) :
    VE X W false (.Call (.Attribute o "append" apos) [e] [] pos) (eAppP i m fo f) := by
  obtain ⟨to, ho, ro⟩ := ho.ex
  obtain ⟨te, he, re⟩ := he.ex
  refine ⟨_, pe_bm PySem.F.plainAttrs_list PySem.F.slot_list_append PySem.F.type_list_append mt_append ho (pa_cons he pa_nil hs) hbase hfew hline hs hplain, fun G σ H fp env Q rl z => ?_⟩
  unfold eAppP ResE at z
  rw [Res.bd] at z
  refine ro G σ H fp env _ rl (z.imp (fun π _ z vi x G1 H1 ev po1 ref => ?_) fun x z => z)
  rw [Res.bd] at z
  -- the list's kind is seen from the state ahead of e
  cases hfe : f env with
  | none => rw [hfe] at z; exact z.elim
  | some rr =>
    cases rr with
    | error xx =>
      rw [hfe] at z
      exact z.elim
    | ok r =>
      rw [hfe] at z
      have z : Res _ _ (bd (kOk m r.1) fun _ => _) := z
      rw [Res.bd] at z
      obtain ⟨hk, z⟩ := z.kOk
      rw [Res.bd] at z
      obtain ⟨o, ho2, z⟩ := z.opt
      by_cases hkk : o.1 = π.length + m
      case neg => rw [if_neg hkk] at z; exact z.elim
      rw [if_pos hkk, Res.bd] at z
      obtain ⟨c, hc, z⟩ := z.opt
      cases c with
      | lst ds =>
        dsimp only at z
        by_cases hl : ds.length < cap
        case neg => rw [if_neg hl] at z; exact z.elim
        rw [if_pos hl] at z
        obtain ⟨vi1, v1, f1, w1, w2, w3, _⟩ := mut_at (fpr := []) (m := m) po1.rl (slot_own ho2) (show (slot env i).own = some (o.1, o.2) from ho2) hkk hc (by simpa using po1.rl.nd) (fun a m => nomatch m)
        rw [ev] at w1; cases w1
        rw [ref] at w2; cases w2
        obtain ⟨ad, xs, fx, rfl, h1, _⟩ := w3
        refine ⟨tyV_lst h1, re G1 σ H1 fp env _ po1.rl ?_⟩
        rw [hfe]
        intro y G2 H2 fp2 fpr2 po2
        obtain ⟨e2, f2, k2⟩ := po2.pu rfl
        obtain ⟨G3, fpr, po3⟩ := po2.kk hk
        obtain ⟨k3, d3, env3⟩ := r
        have e2 : env3 = env := e2
        subst e2 f2
        have po := PostE.transR po1 po3
        refine app_core po3.rl (show (slot env3 i).own = some (o.1, o.2) from ho2) hkk hc po3.nd po3.out po3.ow ev (refAt_mono k2 ref) hl fun ad2 acc fp' q1 q2 q3 rl' up mem => ?_
        refine z .non G3 _ fp' [] ⟨rl', ?_, ⟨by unfold Sh; rfl, rfl⟩, by rw [List.append_nil]; exact rl'.nd, fun a m => (nomatch m), fun h => (nomatch h)⟩
        rw [List.append_nil]
        exact (po.st.trans (Stp.write (List.mem_append_left _ mem))).sub up
      | _ => exact z.elim
/-- x.append(e), x a name -/
def eApp (i m : Nat) (fe : Env → ER) : Env → ER := fun env => match (slot env i).own with
  | some (_, .lst _) => bd (fe env) fun r => bd (kOk m r.1) fun _ => (match (slot r.2.2 i).own with
    | some (k, .lst ds) => if k = m ∧ ds.length < cap then ok (0, .non, r.2.2.set i ((slot r.2.2 i).put (.lst (ds ++ [r.2.1])))) else none
    | _ => none)
  | _ => none
theorem ve_append (m : Nat) (ho : PE X o (tVar i)) (he : VE X W p e f)
    (hbase : attributeBase o "append" X.env (eval o X.env) = eval o X.env := by rfl)
    (hfew : ((backTo pos (starEach [e] X.env)).all (fun x => !x.1) && (backToKw pos (keywordEach [] X.env)).all (fun x => x.1.isSome)
      && decide (([e] : List Expr).length + ([] : List Keyword).length + (if ([] : List Keyword).isEmpty then 0 else 1) < 30)) = true := by rfl)
    (hline : (apos.endLine == pos.line) = true := by rfl) (hs : starEach [e] X.env = (false, eval e X.env) :: starEach [] X.env := by rfl) (hplain : (backTo pos (starEach [] X.env)).any (·.1) = false := by rfl) :
    VE X W false (.Call (.Attribute o "append" apos) [e] [] pos) (eApp i m f) := by
  obtain ⟨te, he, re⟩ := he.ex
  refine ⟨_, pe_bm PySem.F.plainAttrs_list PySem.F.slot_list_append PySem.F.type_list_append mt_append ho (pa_cons he pa_nil hs) hbase hfew hline hs hplain, fun G σ H fp env Q rl z => ?_⟩
  unfold eApp ResE at z
  split at z
  case h_2 => exact z.elim
  rename_i k0 ds0 ho0
  obtain ⟨vi0, f0, w1, w2, _⟩ := own_step (d2 := .non) rl (slot_own ho0) ho0
  obtain ⟨ad, xs, fx, rfl, h1, _⟩ := w2
  refine ⟨.ref ad, w1, tyV_lst h1, ?_⟩
  rw [Res.bd] at z
  refine re G σ H fp env _ rl (z.imp (fun r _ z y G2 H2 fp2 fpr2 po2 => ?_) fun x z => z)
  rw [Res.bd] at z
  obtain ⟨hk, z⟩ := z.kOk
  split at z
  case h_2 => exact z.elim
  rename_i k ds ho2
  by_cases hl : k = m ∧ ds.length < cap
  case neg => rw [if_neg hl] at z; exact z.elim
  rw [if_pos hl] at z
  obtain ⟨G3, fpr, po3⟩ := po2.kk hk
  refine app_core (π := []) po3.rl ho2 (by simp; exact hl.1) rfl po3.nd po3.out po3.ow w1 rfl hl.2 fun ad2 acc fp' q1 q2 q3 rl' up mem => ?_
  refine z .non G3 _ fp' [] ⟨rl', ?_, ⟨by unfold Sh; rfl, rfl⟩, by rw [List.append_nil]; exact rl'.nd, fun a m => (nomatch m), fun h => (nomatch h)⟩
  rw [List.append_nil]
  exact (po3.st.trans (Stp.write (List.mem_append_left _ mem))).sub up
end
end VL
/-! Vl16: x op= e; list(), tuple(), sorted(); list + list. -/
namespace VL
open PySem PySem.Spec PyProof.Rows L2

/-! ### tuples that stand may join -/
def tupG (G H : Hp) : Hp := fun a => match H a with
  | some (.tup xs) => some (.tup xs)
  | _ => G a
theorem tupG_tup {G H : Hp} {a : Addr} {xs : List V} (h : H a = some (.tup xs)) : tupG G H a = some (.tup xs) := by unfold tupG; rw [h]
theorem tupG_or {G H : Hp} (a : Addr) : (∃ xs, H a = some (.tup xs) ∧ tupG G H a = some (.tup xs)) ∨ ((∀ xs, H a ≠ some (.tup xs)) ∧ tupG G H a = G a) := by
  cases e : H a with
  | none => exact .inr ⟨fun xs => by simp, by unfold tupG; rw [e]⟩
  | some o =>
    cases o with
    | tup xs => exact .inl ⟨xs, rfl, tupG_tup e⟩
    | _ => exact .inr ⟨fun xs => by simp, by unfold tupG; rw [e]⟩
theorem tupG_same {G H : Hp} (i : In G H) : Same G (tupG G H) := fun a o e => by
  rcases tupG_or (G := G) (H := H) a with ⟨xs, h1, h2⟩ | ⟨_, h2⟩
  · rcases i a o e with z | ⟨_, ob, z⟩
    · rw [h1] at z; cases z; exact h2
    · rw [h1] at z; cases z
  · rw [h2]; exact e
section
variable {K : PySem.W.Frag} {G H G1 H1 : Hp} {σ : St} {fp fp1 : List Addr} {env env1 : Env} {p : Bool}
theorem Rl.joinT (r : Rl K G σ H env fp) : Rl K (tupG G H) σ H env fp := r.grow (tupG_same r.gin) (fun a h => by
    rcases tupG_or (G := G) (H := H) a with ⟨xs, h1, h2⟩ | ⟨_, h2⟩
    · exact .inr (.inr ⟨xs, h1⟩)
    · rw [h2] at h; exact .inl h) (fun _ _ _ e => e) (fun a o e => by
    rcases tupG_or (G := G) (H := H) a with ⟨xs, h1, h2⟩ | ⟨_, h2⟩
    · rw [h2] at e; cases e; exact .inl h1
    · rw [h2] at e; exact r.gin a o e)
theorem PostR.joinT (a : PostR K p G σ H fp env env1 G1 H1 fp1) : PostR K p G σ H fp env env1 (tupG G1 H1) H1 fp1 :=
  ⟨a.rl.joinT, a.st.trans ⟨tupG_same a.rl.gin, fun x h => by
    rcases tupG_or (G := G1) (H := H1) x with ⟨xs, h1, h2⟩ | ⟨_, h2⟩
    · exact .inr (.inl (.inr ⟨xs, h1⟩))
    · rw [h2] at h; exact .inl h, fun x h => .inl h, fun _ _ e _ => e⟩, a.pu⟩
end

section
variable {X : Cx} {W : WX} {p q : Bool} {e a b o : Expr} {es : List Expr} {f f1 f2 : Env → ER} {g g1 g2 : Env → RR} {fa : Env → AR} {pos apos pos' : Pos} {lv i : Nat} {fo : Env → Rs (List Nat)}

/-! ### x op= e, x a scalar -/
def sAug (i : Nat) (h : D → D → Option D) (g : Env → RR) : Env → SR := fun env => bd (opt (slot env i).dat) fun d0 => bd (opt (scV d0)) fun _ => bd (g env) fun r => bd (chk env r.2) fun e1 => bd (opt (h d0 r.1)) fun d => bd (opt (scV d)) fun _ => bd (putS e1 i (.sh d)) fun e2 => ok (.nx, e2)
theorem vs_aug {x : Str} {op : Operator} {r : R2} {h : D → D → Option D} (ho : PIp X op r) (hs : ScOp X.K r h) (hN : X.N.Nodup) (hi : X.N[i]? = some x) (hx : Loc X.env.scope x) (hf : X.fn x = true ∨ X.env.scope.names.lookup x = some .local) (he : VR X W p e g) : VS X W (.AugAssign (.Name x pos') op e pos) (sAug i h g) := by
  obtain ⟨te, he, re⟩ := he.ex
  refine ⟨_, ps_aug hN hi hx he ho hf, fun G σ H fp env En rl z => ?_⟩
  unfold sAug ResS at z
  rw [Res.bd] at z
  obtain ⟨d0, hd0, z⟩ := z.opt
  rw [Res.bd] at z
  obtain ⟨w0, hw0, z⟩ := z.opt
  obtain ⟨v0, ev, s0⟩ := rl.read hd0
  rw [Res.bd] at z
  refine ⟨v0, ev, re G σ H fp env _ rl (z.imp (fun rr _ z y G1 H1 fp1 po1 sh1 => ?_) fun x z => z.ex σ)⟩
  rw [Res.bd] at z
  obtain ⟨hio, z⟩ := z.chk
  rw [Res.bd] at z
  obtain ⟨d, hd, z⟩ := z.opt
  rw [Res.bd] at z
  obtain ⟨w, hw, z⟩ := z.opt
  rw [Res.bd] at z
  obtain ⟨hl, hn, z⟩ := z.putS
  refine hs v0 y d0 rr.1 d H1 _ hd (by rw [sh_scV s0 hw0]; exact scV_sh hw0) sh1 fun v hv => ?_
  obtain ⟨fp2, po2⟩ := (PostS.ofR po1 hio).stored (k := 0) (d := d) (v := v) ⟨scV_sh hv, rfl⟩ hl hn
  exact z _ G1 H1 fp2 [] po2 rfl

/-! ### list(x), tuple(x) -/
def keysD : D → Option (List D)
  | .lst ds => some ds
  | .tup ds => some ds
  | .dct _ ks _ => some ks
  | _ => none
def eListC (fa : Env → AR) : Env → ER := fun env => bd (fa env) fun r => match r.1 with
  | [d] => bd (opt (keysD d)) fun ds => ok (1, .lst ds, r.2)
  | _ => none
def rListA (K : PySem.W.Frag) : List V → Hp → VK → Prop := fun xs H Q =>
  (∃ p ys, xs = [.ref p] ∧ (SqL K H p ys ∨ SqT K H p ys) ∧ ∀ l, H l = none → Q (.ref l) (upd H l (.lst ys))) ∨
  (∃ (a : Addr) (kvs : List (Key × V)), xs = [.ref a] ∧ Rd H a (.dK kvs) ∧ ∀ p, H p = none → Q (.ref p) (upd H p (.lst (kvs.map fun kv => kV kv.1)))) ∨
  ∃ d kvs, xs = [V.ref d] ∧ Rd H d (.dT kvs) ∧ ∀ p bs, H p = none → IsKeys H kvs bs → Q (.ref p) (upd H p (.lst (bs.map V.ref)))
theorem call_listA (hc : X.calm = true) : CallR X (.type "list") (rListA X.K) := call_list_of.or ((call_listD hc).or (call_list_dT hc))
theorem sh_kV {K : PySem.W.Frag} {G : Hp} : ∀ k : Key, Sh K G (keyD k) (kV k)
  | .inl i => by show Sh K G (.int i) _; unfold Sh; rfl
  | .inr x => by show Sh K G (.str x) _; unfold Sh; rfl
theorem sh_keysK {K : PySem.W.Frag} {G : Hp} : ∀ kvs : List (Key × V), ShL K G (kvs.map fun p => keyD p.1) (kvs.map fun kv => kV kv.1)
  | [] => ShL.nil
  | p :: kvs => ShL.cons (sh_kV p.1) (sh_keysK kvs)
theorem shL_kV {K : PySem.W.Frag} {G : Hp} : ∀ ks : List Key, ShL K G (ks.map keyD) (ks.map kV)
  | [] => ShL.nil
  | k :: ks => ShL.cons (sh_kV k) (shL_kV ks)
theorem sh_keysT {K : PySem.W.Frag} {G H : Hp} : ∀ {kvs : List (List Key × V)} {bs : List Addr}, IsKeys H kvs bs → ShL K (tupG G H) (kvs.map fun p => D.tup (p.1.map keyD)) (bs.map V.ref)
  | _, _, .nil => ShL.nil
  | _, _, .cons h t => ShL.cons (by unfold Sh; exact ⟨_, _, rfl, tupG_tup h, shL_kV _⟩) (sh_keysT t)
theorem ve_list {pp : Pos} (c : X.calm = true) (hg : Gl X "list") (hm : X.mg "list" = none) (ha : VA X W p [e] fa) (he : starEach [e] X.env = (false, eval e X.env) :: starEach [] X.env := by rfl) (hpl : (backTo pos (starEach [] X.env)).any (·.1) = false := by rfl) :
    VE X W p (.Call (.Name "list" pp) [e] [] pos) (eListC fa) := by
  obtain ⟨t, ht, hr⟩ := ha.ex
  refine ⟨_, pe_callTy (call_listA c) hg hm PyProof.Rows.boot_list ht (he := he) (hpl := hpl), fun G σ H fp env Q rl z => hr G σ H fp env _ rl ?_⟩
  unfold eListC ResE at z
  rw [Res.bd] at z
  refine z.imp (fun r er z vs G1 H1 fp1 po1 s => ?_) fun x z => z
  obtain ⟨ds, env1⟩ := r
  dsimp only at z
  split at z
  case h_2 => exact z.elim
  rename_i d
  rw [Res.bd] at z
  obtain ⟨ds, hd, z⟩ := z.opt
  obtain ⟨v, rr, rfl, s1, s2⟩ := s.cons_inv
  rw [s2.nil_inv]
  have mk : ∀ {G2 : Hp} {ys : List V} (l : Addr), PostR X.K p G σ H fp env env1 G2 H1 fp1 → ShL X.K G2 ds ys → H1 l = none → Q (.ref l) (upd H1 l (.lst ys)) := fun {G2 ys} l po sl nb => by
    refine z (.ref l) G2 _ fp1 [l] (PostE.made po nb ⟨l, ys, [], rfl, upd_same, OwL.sh.mpr ⟨sl, rfl⟩, rfl⟩)
  cases d with
  | lst xs =>
    cases hd
    unfold Sh at s1
    obtain ⟨a, ys, rfl, h, sl⟩ := s1
    exact .inl ⟨a, ys, rfl, .inl (SqL.of (po1.rl.gin.lst h)), fun l nb => mk l po1 sl nb⟩
  | tup xs =>
    cases hd
    unfold Sh at s1
    obtain ⟨a, ys, rfl, h, sl⟩ := s1
    exact .inl ⟨a, ys, rfl, .inr (SqT.of (po1.rl.gin.tup h)), fun l nb => mk l po1 sl nb⟩
  | dct t ks ws =>
    cases hd
    unfold Sh at s1
    obtain ⟨a, ys, rfl, h, sl⟩ := s1
    rcases h with ⟨_, kvs, h, e1, e2⟩ | ⟨_, kvs, h, e1, e2⟩
    · subst e1
      exact .inr (.inl ⟨a, kvs, rfl, po1.rl.gin.rdK h, fun l nb => mk l po1 (sh_keysK kvs) nb⟩)
    · subst e1
      exact .inr (.inr ⟨a, kvs, rfl, po1.rl.gin.rdDT h, fun l bs nb hk => mk l po1.joinT (sh_keysT hk) nb⟩)
  | _ => cases hd
def eTupC (fa : Env → AR) : Env → ER := fun env => bd (fa env) fun r => match r.1 with
  | [.lst ds] => ok (0, .tup ds, r.2)
  | [.tup ds] => ok (0, .tup ds, r.2)
  | _ => none
theorem ve_tuple {pp : Pos} (hg : Gl X "tuple") (hm : X.mg "tuple" = none) (ha : VA X W p [e] fa) (he : starEach [e] X.env = (false, eval e X.env) :: starEach [] X.env := by rfl) (hpl : (backTo pos (starEach [] X.env)).any (·.1) = false := by rfl) :
    VE X W p (.Call (.Name "tuple" pp) [e] [] pos) (eTupC fa) := by
  obtain ⟨t, ht, hr⟩ := ha.ex
  refine ⟨_, pe_callTy call_tuple_of hg hm PyProof.Rows.boot_tuple ht (he := he) (hpl := hpl), fun G σ H fp env Q rl z => hr G σ H fp env _ rl ?_⟩
  unfold eTupC ResE at z
  rw [Res.bd] at z
  refine z.imp (fun r er z vs G1 H1 fp1 po1 s => ?_) fun x z => z
  obtain ⟨ds, env1⟩ := r
  dsimp only at z
  split at z
  · rename_i ds
    obtain ⟨v, rr, rfl, s1, s2⟩ := s.cons_inv
    rw [s2.nil_inv]
    unfold Sh at s1
    obtain ⟨a, ys, rfl, h, sl⟩ := s1
    refine ⟨a, ys, rfl, .inl ⟨SqL.of (po1.rl.gin.lst h), fun l nb => ?_⟩⟩
    obtain ⟨po2, sG⟩ := po1.laid (o := .tup ys) nb
    exact z (.ref l) _ _ fp1 [] (PostE.shared po2 (by unfold Sh; exact ⟨l, ys, rfl, upd_same, ShL.mono (In.of sG) _ _ sl⟩))
  · rename_i ds
    obtain ⟨v, rr, rfl, s1, s2⟩ := s.cons_inv
    rw [s2.nil_inv]
    have s0 := s1
    unfold Sh at s1
    obtain ⟨a, ys, rfl, h, sl⟩ := s1
    exact ⟨a, ys, rfl, .inr ⟨SqT.of (po1.rl.gin.tup h), z (.ref a) G1 H1 fp1 [] (PostE.shared po1 s0)⟩⟩
  · exact z.elim
/-- tuple(x), x a list that is only read; its items scalars -/
def scL : List D → Option (List V)
  | [] => some []
  | d :: ds => match scV d, scL ds with
    | some v, some vs => some (v :: vs)
    | _, _ => none
theorem scL_sh {K : PySem.W.Frag} {G : Hp} : ∀ {ds : List D} {vs : List V}, scL ds = some vs → ShL K G ds vs
  | [], _, h => by cases h; exact ShL.nil
  | d :: ds, _, h => by
    unfold scL at h
    cases h1 : scV d with
    | none => rw [h1] at h; cases h
    | some v =>
      cases h2 : scL ds with
      | none => rw [h1, h2] at h; cases h
      | some ws => rw [h1, h2] at h; cases h; exact ShL.cons (scV_sh h1) (scL_sh h2)
theorem sh_scL {K : PySem.W.Frag} {G : Hp} : ∀ {ds : List D} {vs ws : List V}, ShL K G ds vs → scL ds = some ws → vs = ws
  | [], _, _, s, h => by cases h; exact s.nil_inv
  | d :: ds, _, _, s, h => by
    unfold scL at h
    obtain ⟨v, r, rfl, s1, s2⟩ := s.cons_inv
    cases h1 : scV d with
    | none => rw [h1] at h; cases h
    | some v =>
      cases h2 : scL ds with
      | none => rw [h1, h2] at h; cases h
      | some ws => rw [h1, h2] at h; cases h; rw [sh_scV s1 h1, sh_scL s2 h2]
def eTupR (fa : Env → AR) : Env → ER := fun env => bd (fa env) fun r => match r.1 with
  | [.lst ds] => bd (opt (scL ds)) fun _ => ok (0, .tup ds, r.2)
  | _ => none
theorem ve_tupleR {pp : Pos} (hg : Gl X "tuple") (hm : X.mg "tuple" = none) (ha : VRA X W p [e] fa) (he : starEach [e] X.env = (false, eval e X.env) :: starEach [] X.env := by rfl) (hpl : (backTo pos (starEach [] X.env)).any (·.1) = false := by rfl) :
    VE X W p (.Call (.Name "tuple" pp) [e] [] pos) (eTupR fa) := by
  obtain ⟨t, ht, hr⟩ := ha.ex
  refine ⟨_, pe_callTy call_tuple_of hg hm PyProof.Rows.boot_tuple ht (he := he) (hpl := hpl), fun G σ H fp env Q rl z => hr G σ H fp env _ rl ?_⟩
  unfold eTupR ResE at z
  rw [Res.bd] at z
  refine z.imp (fun r er z vs G1 H1 fp1 po1 s => ?_) fun x z => z
  obtain ⟨ds, env1⟩ := r
  dsimp only at z
  split at z
  case h_2 => exact z.elim
  rename_i ds
  rw [Res.bd] at z
  obtain ⟨ws, hw, z⟩ := z.opt
  obtain ⟨v, rr, rfl, s1, s2⟩ := s.cons_inv
  rw [s2.nil_inv]
  unfold Sh at s1
  obtain ⟨a, ys, rfl, h, sl⟩ := s1
  refine ⟨a, ys, rfl, .inl ⟨SqL.of h, fun l nb => ?_⟩⟩
  obtain ⟨po2, sG⟩ := po1.laid (o := .tup ys) nb
  exact z (.ref l) _ _ fp1 [] (PostE.shared po2 (by unfold Sh; exact ⟨l, ys, rfl, upd_same, by rw [sh_scL sl hw]; exact scL_sh hw⟩))
/-! ### sorted(x), ints -/
def intsOf : List D → Option (List Int)
  | [] => some []
  | .int i :: ds => (intsOf ds).map (i :: ·)
  | _ :: _ => none
theorem intsOf_eq : ∀ {ds : List D} {ns : List Int}, intsOf ds = some ns → ds = ns.map .int
  | [], _, h => by cases h; rfl
  | d :: ds, ns, h => by
    cases d <;> unfold intsOf at h <;> first | cases h | skip
    obtain ⟨ns', h', rfl⟩ := Option.map_eq_some_iff.mp h
    rw [intsOf_eq h']; rfl
theorem intsOf_map (ns : List Int) : intsOf (ns.map .int) = some ns := by
  induction ns with
  | nil => rfl
  | cons n ns ih => rw [List.map_cons]; unfold intsOf; rw [ih]; rfl
theorem shL_ints {K : PySem.W.Frag} {H : Hp} : ∀ {ns : List Int} {vs : List V}, ShL K H (ns.map .int) vs → vs = ns.map V.int
  | [], _, h => h.nil_inv
  | n :: ns, _, h => by
    obtain ⟨v, r, rfl, h1, h2⟩ := h.cons_inv
    unfold Sh at h1
    rw [h1, shL_ints h2]; rfl
theorem ints_shL {K : PySem.W.Frag} {H : Hp} : ∀ ns : List Int, ShL K H (ns.map .int) (ns.map V.int)
  | [] => ShL.nil
  | n :: ns => ShL.cons (by unfold Sh; rfl) (ints_shL ns)
def srt (ns : List Int) : List Int := ns.mergeSort fun a b => decide (a ≤ b)
theorem srt_perm (ns : List Int) : (srt ns).Perm ns := List.mergeSort_perm ns _
theorem srt_sorted (ns : List Int) : (srt ns).Pairwise (· ≤ ·) := by
  have := List.pairwise_mergeSort (le := fun a b : Int => decide (a ≤ b)) (fun a b c h1 h2 => by simp at *; omega) (fun a b => by simp; omega) ns
  exact this.imp fun h => by simpa using h
theorem srt_eq {ns ns' : List Int} (h1 : ns'.Perm ns) (h2 : ns'.Pairwise (· ≤ ·)) : ns' = srt ns :=
  List.Perm.eq_of_pairwise (fun x y _ _ h1 h2 => Int.le_antisymm h1 h2) h2 (srt_sorted ns) (h1.trans (srt_perm ns).symm)
def rSortA (K : PySem.W.Frag) : List V → Hp → VK → Prop := fun xs H Q => rSortedI K xs H Q ∨ ∃ (a : Addr) (kvs : List (Key × V)) (ks : List Int), xs = [.ref a] ∧ Rd H a (.dK kvs) ∧ kvs.map (·.1) = ks.map Sum.inl ∧ ks.length < 64 ∧
    ∀ (ys : List Int) (p : Addr), ys.Perm ks → ys.Pairwise (· ≤ ·) → H p = none → Q (.ref p) (upd H p (.lst (ys.map V.int)))
def eSortI (fa : Env → AR) : Env → ER := fun env => bd (fa env) fun r => match r.1 with
  | [.lst ds] => bd (opt (intsOf ds)) fun ns => ok (1, .lst ((srt ns).map .int), r.2)
  | [.dct false ks _] => bd (opt (intsOf ks)) fun ns => if ns.length < 64 then ok (1, .lst ((srt ns).map .int), r.2) else none
  | _ => none
theorem ve_sortI {pp : Pos} (c : X.calm = true) (hg : Gl X "sorted") (hm : X.mg "sorted" = none) (ha : VRA X W p [e] fa) (he : starEach [e] X.env = (false, eval e X.env) :: starEach [] X.env := by rfl) (hpl : (backTo pos (starEach [] X.env)).any (·.1) = false := by rfl) :
    VE X W p (.Call (.Name "sorted" pp) [e] [] pos) (eSortI fa) := by
  obtain ⟨t, ht, hr⟩ := ha.ex
  refine ⟨_, pe_callB (cr_sortedI.or (call_sortedDI c)) hg hm PyProof.Rows.boot_sorted ht (he := he) (hpl := hpl), fun G σ H fp env Q rl z => hr G σ H fp env _ rl ?_⟩
  unfold eSortI ResE at z
  rw [Res.bd] at z
  refine z.imp (fun r er z vs G1 H1 fp1 po1 s => ?_) fun x z => z
  obtain ⟨ds, env1⟩ := r
  dsimp only at z
  have mk : ∀ {ns ns' : List Int} (l : Addr), (∀ v G' H' fp' fpr, PostE X.K p G σ H fp env 1 (.lst ((srt ns).map .int)) env1 v G' H' fp' fpr → Q v H') → ns'.Perm ns → ns'.Pairwise (· ≤ ·) → H1 l = none → Q (.ref l) (upd H1 l (.lst (ns'.map V.int))) := fun {ns ns'} l z h1 h2 nb => by
    rw [srt_eq h1 h2]
    exact z (.ref l) G1 _ fp1 [l] (PostE.made po1 nb ⟨l, _, [], rfl, upd_same, OwL.sh.mpr ⟨ints_shL _, rfl⟩, rfl⟩)
  split at z
  · rename_i ds
    rw [Res.bd] at z
    obtain ⟨ns, hn, z⟩ := z.opt
    obtain ⟨v, rr, rfl, s1, s2⟩ := s.cons_inv
    rw [s2.nil_inv]
    unfold Sh at s1
    obtain ⟨a, ys, rfl, h, sl⟩ := s1
    rw [intsOf_eq hn] at sl
    rw [shL_ints sl] at h
    exact .inl ⟨a, ns, rfl, SqL.of h, fun ns' l h1 h2 nb => mk l z h1 h2 nb⟩
  · rename_i ks ws
    rw [Res.bd] at z
    obtain ⟨ns, hn, z⟩ := z.opt
    by_cases hl : ns.length < 64
    case neg => rw [if_neg hl] at z; exact z.elim
    rw [if_pos hl] at z
    obtain ⟨v, rr, rfl, s1, s2⟩ := s.cons_inv
    rw [s2.nil_inv]
    unfold Sh at s1
    obtain ⟨a, ys, rfl, h, sl⟩ := s1
    rcases h with ⟨_, kvs, h, e1, e2⟩ | ⟨z, _⟩
    · refine .inr ⟨a, kvs, ns, rfl, h, ?_, hl, fun ns' l h1 h2 nb => mk l z h1 h2 nb⟩
      have e3 := intsOf_eq hn
      rw [← e1] at e3
      clear z mk h sl e1 e2 hl s2 hn
      induction kvs generalizing ns with
      | nil => cases ns with
        | nil => rfl
        | cons _ _ => cases e3
      | cons kv kvs ih =>
        cases ns with
        | nil => cases e3
        | cons n ns =>
          simp only [List.map_cons, List.cons.injEq] at e3
          simp only [List.map_cons, List.cons.injEq]
          refine ⟨?_, ih ns e3.2⟩
          obtain ⟨k, x⟩ := kv
          cases k with
          | inl i => have := e3.1; unfold keyD at this; cases this; rfl
          | inr x => have := e3.1; unfold keyD at this; cases this
    · cases z
  · exact z.elim
/-! ### list + list -/
def eCat (f1 f2 : Env → ER) : Env → ER := fun env => bd (f1 env) fun r1 => bd (f2 r1.2.2) fun r2 => match r1.2.1, r2.2.1 with
  | .lst xs, .lst ys => if xs.length + ys.length ≤ cap then ok (1, .lst (xs ++ ys), r2.2.2) else none
  | _, _ => none
theorem ve_cat (ha : VE X W p a f1) (hb : VE X W q b f2) : VE X W (p && q) (.BinOp a .Add b pos) (eCat f1 f2) := by
  obtain ⟨ta, ha, ra⟩ := ha.ex
  obtain ⟨tb, hb, rb⟩ := hb.ex
  refine ⟨_, pe_op op_cat ha hb, fun G σ H fp env Q rl z => ?_⟩
  unfold eCat ResE at z
  rw [Res.bd] at z
  refine ra G σ H fp env _ rl (z.imp (fun r1 _ z x G1 H1 fp1 fpr1 po1 => ?_) fun x z => z)
  obtain ⟨G1', po1⟩ := po1.frz
  rw [Res.bd] at z
  refine rb G1' σ H1 fp1 r1.2.2 _ po1.rl (z.imp (fun r2 _ z y G2 H2 fp2 fpr2 po2 => ?_) fun x z => z.back po1.toR.st)
  obtain ⟨G2', po2⟩ := po2.frz
  have s1 := Sh.mono (In.of po2.toR.st.gg) _ x po1.sh0
  have s2 := po2.sh0
  split at z
  case h_2 => exact z.elim
  rename_i xs ys e1 e2
  rw [e1] at s1
  rw [e2] at s2
  by_cases hl : xs.length + ys.length ≤ cap
  case neg => rw [if_neg hl] at z; exact z.elim
  rw [if_pos hl] at z
  unfold Sh at s1 s2
  obtain ⟨l1, us, rfl, h1, q1⟩ := s1
  obtain ⟨l2, ws, rfl, h2, q2⟩ := s2
  refine ⟨l1, l2, us, ws, rfl, rfl, po2.rl.gin.lst h1, po2.rl.gin.lst h2, by rw [q1.length, q2.length]; exact cap_line hl, fun l nb => ?_⟩
  exact z (.ref l) G2' _ fp2 [l] (PostE.made (po1.toR.trans po2.toR) nb ⟨l, us ++ ws, [], rfl, upd_same, OwL.sh.mpr ⟨q1.app q2, rfl⟩, rfl⟩)
end
end VL
/-! Vl17: where code runs, by names; the rules as a generator prints them. -/
namespace VL
open PySem PySem.Spec PyProof.Rows L2

def visB (sc : Scope) (x : Str) : Bool := match sc.names.lookup x with
  | some .local => true
  | some .cell => true
  | some .free => true
  | _ => false
theorem visB_ok {sc : Scope} {x : Str} (h : visB sc x = true) : Vis sc x := by
  unfold visB at h
  split at h <;> first | cases h | skip
  · exact .inl ‹_›
  · exact .inr (.inl ‹_›)
  · exact .inr (.inr ‹_›)
def locB (sc : Scope) (x : Str) : Bool := match sc.names.lookup x with
  | some .local => true
  | some .cell => true
  | _ => false
theorem locB_ok {sc : Scope} {x : Str} (h : locB sc x = true) : Loc sc x := by
  unfold locB at h
  split at h <;> first | cases h | skip
  · exact .inl ‹_›
  · exact .inr ‹_›
def glB (sc : Scope) (x : Str) : Bool := decide (sc.names.lookup x = some .globalImplicit)
/-- where an expression is read -/
structure Bx (X : Cx) (W : WX) (lv : Nat) (N : List Str) (sc : Scope) : Prop where
  cf : Cf X W lv
  hN : X.N = N
  hv : ∀ x, visB sc x = true → Vis X.env.scope x
  hg : ∀ x, glB sc x = true → Gl X x
  hl : ∀ x, sc.names.lookup x = some .local → X.env.scope.names.lookup x = some .local
  hc : ∀ x, sc.names.lookup x = some .cell ∨ sc.names.lookup x = some .free → X.env.scope.names.lookup x = some .cell ∨ X.env.scope.names.lookup x = some .free
  wi : ∀ cls d σ σ' H, W cls d σ H → W cls d σ' H
theorem lookup_relabel {env : PySem.Env} {k : NameKind} : ∀ {names : List (Str × NameKind)} {x : Str}, names.lookup x = some k →
    (names.map fun (n, k) => if (k == NameKind.free && env.scope.kind == .function && env.kindOf n == some .cell) then (n, NameKind.cell) else (n, k)).lookup x = some k ∨ (k = .free ∧ (names.map fun (n, k) => if (k == NameKind.free && env.scope.kind == .function && env.kindOf n == some .cell) then (n, NameKind.cell) else (n, k)).lookup x = some .cell)
  | [], x, h => by simp at h
  | (n, k') :: r, x, h => by
    rw [List.lookup_cons] at h
    rw [List.map_cons]
    have ih := @lookup_relabel env k r x
    by_cases c : (k' == NameKind.free && env.scope.kind == .function && env.kindOf n == some .cell) = true
    · have e0 : (if (k' == NameKind.free && env.scope.kind == .function && env.kindOf n == some .cell) = true then (n, NameKind.cell) else (n, k')) = (n, NameKind.cell) := if_pos c
      show List.lookup x ((if (k' == NameKind.free && env.scope.kind == .function && env.kindOf n == some .cell) = true then (n, NameKind.cell) else (n, k')) :: _) = _ ∨ _ ∧ List.lookup x ((if (k' == NameKind.free && env.scope.kind == .function && env.kindOf n == some .cell) = true then (n, NameKind.cell) else (n, k')) :: _) = _
      rw [e0, List.lookup_cons]
      by_cases hx : (x == n) = true
      · rw [hx] at h ⊢
        simp only at h ⊢
        cases h
        have : k = .free := by
          have := (Bool.and_eq_true_iff.mp (Bool.and_eq_true_iff.mp c).1).1
          simpa using this
        exact .inr ⟨this, trivial⟩
      · have hx : (x == n) = false := by simpa using hx
        rw [hx] at h ⊢
        simp only at h ⊢
        exact ih h
    · have e0 : (if (k' == NameKind.free && env.scope.kind == .function && env.kindOf n == some .cell) = true then (n, NameKind.cell) else (n, k')) = (n, k') := if_neg c
      show List.lookup x ((if (k' == NameKind.free && env.scope.kind == .function && env.kindOf n == some .cell) = true then (n, NameKind.cell) else (n, k')) :: _) = _ ∨ _ ∧ List.lookup x ((if (k' == NameKind.free && env.scope.kind == .function && env.kindOf n == some .cell) = true then (n, NameKind.cell) else (n, k')) :: _) = _
      rw [e0, List.lookup_cons]
      by_cases hx : (x == n) = true
      · rw [hx] at h ⊢
        simp only at h ⊢
        exact .inl h
      · have hx : (x == n) = false := by simpa using hx
        rw [hx] at h ⊢
        simp only at h ⊢
        exact ih h
section
variable {X : Cx} {W : WX} {lv : Nat} {N : List Str} {sc : Scope} {pos : Pos} {x : Str} {i : Nat}
theorem Bd.bx (B : Bd X W lv N sc) : Bx X W lv N sc :=
  ⟨B.cf, B.hN, fun x h => by rw [B.hs]; exact visB_ok h, fun x h => (show X.env.scope.names.lookup x = some .globalImplicit by rw [B.hs]; exact of_decide_eq_true h), fun x h => by rw [B.hs]; exact h, fun x h => by rw [B.hs]; exact h, B.wi⟩
theorem Bx.blk (B : Bx X W lv N sc) {s : Shared} {H : Hp} {scope : Scope} {C : Addr} {cl : List (Str × Addr)} {fp : List Addr} : Bx (X.blk s H scope (compEnvC scope cl C X.env) fp) W0 lv N scope := by
  refine ⟨⟨B.cf.calm, takes0, B.cf.room⟩, B.hN, fun x h => ?_, fun x h => ?_, fun x h => ?_, fun x h => ?_, fun _ _ _ _ _ h => h⟩
  · rcases visB_ok h with h | h | h
    · rcases lookup_relabel (env := X.env) h with q | ⟨_, q⟩
      · exact .inl q
      · exact .inr (.inl q)
    · rcases lookup_relabel (env := X.env) h with q | ⟨_, q⟩
      · exact .inr (.inl q)
      · exact .inr (.inl q)
    · rcases lookup_relabel (env := X.env) h with q | ⟨_, q⟩
      · exact .inr (.inr q)
      · exact .inr (.inl q)
  · rcases lookup_relabel (env := X.env) (of_decide_eq_true h) with q | ⟨q, _⟩
    · exact q
    · cases q
  · rcases lookup_relabel (env := X.env) h with q | ⟨q, _⟩
    · exact q
    · cases q
  · rcases h with h | h
    · rcases lookup_relabel (env := X.env) h with q | ⟨q, _⟩
      · exact .inl q
      · cases q
    · rcases lookup_relabel (env := X.env) h with q | ⟨_, q⟩
      · exact .inr q
      · exact .inl q
theorem Bx.n (B : Bx X W lv N sc) (i : Nat) (h : N[i]? = some x) : X.N[i]? = some x := by rw [B.hN]; exact h
theorem Bx.var (B : Bx X W lv N sc) (i : Nat) (h : N[i]? = some x) (hv : visB sc x = true) (hd : (x == ("__debug__" : Str)) = false := by decide) (hcd : (x == ("__classdict__" : Str)) = false := by decide) : PE X (.Name x pos) (tVar i) :=
  pe_var (i := i) (B.n i h) (B.hv x hv) hd hcd
theorem Bx.gl (B : Bx X W lv N sc) (h : glB sc x = true) : Gl X x := B.hg x h
theorem Bd.loc (B : Bd X W lv N sc) (h : locB sc x = true) : Loc X.env.scope x := by rw [B.hs]; exact locB_ok h
/-- a block's own name as a target -/
theorem Bx.tgt (B : Bx X W lv N sc) (nd : N.Nodup) (i : Nat) (h : N[i]? = some x) (hl : sc.names.lookup x = some .local) : VG X W [i] (.Name x pos) (gNm i) :=
  vg_name (by rw [B.hN]; exact nd) (B.n i h) (.inl (B.hl x hl)) (.inr (B.hl x hl))
theorem Bx.gint {fa : List He.Fa} {j : Int} (B : Bx X W lv N sc) (Z : Fx fa X.K X.mg) (i : Nat) (h : fa[i]? = some (.int x j)) (hg : glB sc x = true) (hd : (x == ("__debug__" : Str)) = false := by decide) : VE X W true (.Name x pos) (eC (.int j)) := by
  obtain ⟨t, ht⟩ := Z.int i h
  exact ve_c (v := .int j) (pe_glob (B.gl hg) ht ⟨t, rfl⟩ hd) rfl
/-! blocks -/
def blkB (N : List Str) (sc scope : Scope) (own : List (Str × Nat)) : Bool :=
  decide (scope.kind = .function) && (scope.names.all fun y => decide (scope.names.lookup y.1 = some y.2)) && (own.all fun p => decide (N[p.2]? = some p.1)) &&
  (scope.names.all fun y => !decide (y.2 = .free) || decide (sc.names.lookup y.1 = some .cell) || decide (sc.names.lookup y.1 = some .free)) &&
  (scope.names.all fun y => !(decide (y.2 = .local) || decide (y.2 = .cell)) || decide (y.1 ∈ own.map (·.1)) || decide (y.1 ∉ N))
theorem blkB_ok {scope : Scope} {own : List (Str × Nat)} (h : blkB N sc scope own = true) : BlkOk N sc scope own := by
  unfold blkB at h
  simp only [Bool.and_eq_true, List.all_eq_true, decide_eq_true_eq, Bool.or_eq_true, Bool.not_eq_true', decide_eq_false_iff_not] at h
  obtain ⟨⟨⟨⟨h1, h2⟩, h3⟩, h4⟩, h5⟩ := h
  refine ⟨h1, h2, h3, fun y m e => ?_, fun y m e => ?_⟩
  · rcases h4 y m with (z | z) | z
    · exact absurd e z
    · exact .inl z
    · exact .inr z
  · rcases h5 y m with (z | z) | z
    · simp only [Bool.or_eq_false_iff, decide_eq_false_iff_not] at z
      rcases e with e | e
      · exact absurd e z.1
      · exact absurd e z.2
    · exact .inl z
    · exact .inr z
theorem Bx.blkOk (B : Bx X W lv N sc) {scope : Scope} {own : List (Str × Nat)} (h : blkB N sc scope own = true) : BlkOk X.N X.env.scope scope own := by
  have q := blkB_ok h
  rw [B.hN]
  exact ⟨q.kind, q.uniq, q.ix, fun y m e => B.hc _ (q.free y m e), q.own⟩
theorem Bx.nd (B : Bx X W lv N sc) (h : N.Nodup) : X.N.Nodup := by rw [B.hN]; exact h
/-! expressions as printed -/
variable {p q : Bool} {e a b c : Expr} {es : List Expr} {f f1 f2 : Env → ER} {g g1 g2 g3 : Env → RR} {fa : Env → AR} {j : Nat}
theorem w_int {v : Int} {k : Nat} : VE X W true (.Constant (.int v) k pos) (eC (.int v)) := ve_c (v := .int v) pe_int rfl
theorem w_str {v : Str} {k : Nat} : VE X W true (.Constant (.str v) k pos) (eC (.str v)) := ve_c (v := .str v) pe_str rfl
theorem w_add (ha : VR X W p a g1) (hb : VR X W true b g2) : VE X W p (.BinOp a .Add b pos) (eOp gAdd g1 g2) := ve_op sc_add (fun h k => pe_op op_add h k) ha hb
theorem w_sub (ha : VR X W p a g1) (hb : VR X W true b g2) : VE X W p (.BinOp a .Sub b pos) (eOp gSub g1 g2) := ve_op sc_sub (fun h k => pe_op op_sub h k) ha hb
theorem w_mul (ha : VR X W p a g1) (hb : VR X W true b g2) : VE X W p (.BinOp a .Mult b pos) (eOp gMul g1 g2) := ve_op sc_mul (fun h k => pe_op op_mul h k) ha hb
theorem w_div (ha : VR X W p a g1) (hb : VR X W true b g2) : VE X W p (.BinOp a .FloorDiv b pos) (eOp gDiv g1 g2) := ve_op sc_div (fun h k => pe_op op_fdiv h k) ha hb
theorem w_mod (ha : VR X W p a g1) (hb : VR X W true b g2) : VE X W p (.BinOp a .Mod b pos) (eOp gMod g1 g2) := ve_op sc_mod (fun h k => pe_op op_mod h k) ha hb
theorem w_pow (ha : VR X W p a g1) (hb : VR X W true b g2) : VE X W p (.BinOp a .Pow b pos) (eOp gPow g1 g2) := ve_op sc_pow (fun h k => pe_op op_pow h k) ha hb
theorem w_addD (ha : VE X W p a f1) (hb : VR X W q b g2) : VE X W (p && q) (.BinOp a .Add b pos) (eOp gAdd (rdR f1) g2) := ve_opD sc_add (fun h k => pe_op op_add h k) ha hb
theorem w_subD (ha : VE X W p a f1) (hb : VR X W q b g2) : VE X W (p && q) (.BinOp a .Sub b pos) (eOp gSub (rdR f1) g2) := ve_opD sc_sub (fun h k => pe_op op_sub h k) ha hb
theorem w_mulD (ha : VE X W p a f1) (hb : VR X W q b g2) : VE X W (p && q) (.BinOp a .Mult b pos) (eOp gMul (rdR f1) g2) := ve_opD sc_mul (fun h k => pe_op op_mul h k) ha hb
/-- comparisons: a value, a test -/
structure CmpW (X : Cx) (op : CmpOp) (g : D → D → Option D) : Prop where
  ex : ∃ r, OpR X (compareOp op) r ∧ ScOp X.K r g
theorem cw_lt : CmpW X .Lt gLt := ⟨_, op_lt, sc_lt⟩
theorem cw_le : CmpW X .LtE gLe := ⟨_, op_le, sc_le⟩
theorem cw_gt : CmpW X .Gt gGt := ⟨_, op_gt, sc_gt⟩
theorem cw_ge : CmpW X .GtE gGe := ⟨_, op_ge, sc_ge⟩
theorem cw_eq (B : Cf X W lv) : CmpW X .Eq gEq := ⟨_, op_eqD B.hu, sc_eq⟩
theorem cw_ne (B : Cf X W lv) : CmpW X .NotEq gNe := ⟨_, op_neD B.hu, sc_ne⟩
theorem cw_is : CmpW X .Is gIsN := ⟨_, op_isN, sc_isN⟩
theorem cw_isnot : CmpW X .IsNot gNotN := ⟨_, op_notN, sc_notN⟩
theorem cw_in (B : Cf X W lv) : CmpW X .In gIn := ⟨_, op_inA (by have := B.room.un; omega), sc_in⟩
theorem cw_notin (B : Cf X W lv) : CmpW X .NotIn gNotIn := ⟨_, op_notA (by have := B.room.un; omega), sc_notIn⟩
theorem w_cmp {op : CmpOp} {h : D → D → Option D} (o : CmpW X op h) (ha : VR X W p a g1) (hb : VR X W true b g2) (hm : behindInMarks op b = false := by rfl) : VE X W p (.Compare a [op] [b] pos) (eOp h g1 g2) := by
  obtain ⟨r, o, s⟩ := o.ex
  exact ve_op s (fun h k => pe_cmpR o h k hm) ha hb
theorem w_cmpT {op : CmpOp} {h : D → D → Option D} (o : CmpW X op h) (ha : VR X W p a g1) (hb : VR X W true b g2) (hm : behindInMarks op b = false := by rfl) : VT X W p (.Compare a [op] [b] pos) (tOpT h g1 g2) := by
  obtain ⟨r, o, s⟩ := o.ex
  exact vt_op s (fun h k => pt_cmpR o h k hm) ha hb
theorem w_cmpD {op : CmpOp} {h : D → D → Option D} (o : CmpW X op h) (ha : VE X W p a f1) (hb : VR X W q b g2) (hm : behindInMarks op b = false := by rfl) : VE X W (p && q) (.Compare a [op] [b] pos) (eOp h (rdR f1) g2) := by
  obtain ⟨r, o, s⟩ := o.ex
  exact ve_opD s (fun h k => pe_cmpR o h k hm) ha hb
theorem w_cmpTD {op : CmpOp} {h : D → D → Option D} (o : CmpW X op h) (ha : VE X W p a f1) (hb : VR X W q b g2) (hm : behindInMarks op b = false := by rfl) : VT X W (p && q) (.Compare a [op] [b] pos) (tOpT h (rdR f1) g2) := by
  obtain ⟨r, o, s⟩ := o.ex
  exact vt_opD s (fun h k => pt_cmpR o h k hm) ha hb
theorem w_chain {op op' : CmpOp} {h h' : D → D → Option D} (o : CmpW X op h) (o' : CmpW X op' h') (ha : VR X W p a g1) (hb : VR X W true b g2) (hc : VR X W true c g3) (hm : lastMarks [op, op'] [b, c] = false := by with_unfolding_all rfl) : VB X W p (.Compare a [op, op'] [b, c] pos) (chn h h' g1 g2 g3) := by
  obtain ⟨r, o, s⟩ := o.ex
  obtain ⟨r', o', s'⟩ := o'.ex
  exact vb_chain (c := c) s s' (fun h k l => pe_chain o o' h k l hm) ha hb hc
theorem w_chainT {op op' : CmpOp} {h h' : D → D → Option D} (o : CmpW X op h) (o' : CmpW X op' h') (ha : VR X W p a g1) (hb : VR X W true b g2) (hc : VR X W true c g3) (hm : lastMarks [op, op'] [b, c] = false := by with_unfolding_all rfl) : VT X W p (.Compare a [op, op'] [b, c] pos) (chn h h' g1 g2 g3) := by
  obtain ⟨r, o, s⟩ := o.ex
  obtain ⟨r', o', s'⟩ := o'.ex
  exact vt_chain (c := c) s s' (fun h k l => pt_chain o o' h k l hm) ha hb hc
variable {pp : Pos}
theorem w_len (B : Bx X W lv N sc) (hm : X.mg "len" = none) (hg : glB sc "len" = true) (ha : VRA X W p [e] fa) (he : starEach [e] X.env = (false, eval e X.env) :: starEach [] X.env := by rfl) (hpl : (backTo pos (starEach [] X.env)).any (·.1) = false := by rfl) : VE X W p (.Call (.Name "len" pp) [e] [] pos) (eCallB gLen fa) :=
  ve_callB sc_len (fun h => pe_callB call_len (B.gl hg) hm boot_len h (he := he) (hpl := hpl)) ha
theorem w_abs (B : Bx X W lv N sc) (hm : X.mg "abs" = none) (hg : glB sc "abs" = true) (ha : VRA X W p [e] fa) (he : starEach [e] X.env = (false, eval e X.env) :: starEach [] X.env := by rfl) (hpl : (backTo pos (starEach [] X.env)).any (·.1) = false := by rfl) : VE X W p (.Call (.Name "abs" pp) [e] [] pos) (eCallB gAbs fa) :=
  ve_callB sc_abs (fun h => pe_callB call_abs (B.gl hg) hm PyProof.Rows.boot_abs h (he := he) (hpl := hpl)) ha
theorem w_intc (B : Bx X W lv N sc) (hm : X.mg "int" = none) (hg : glB sc "int" = true) (ha : VRA X W p [e] fa) (he : starEach [e] X.env = (false, eval e X.env) :: starEach [] X.env := by rfl) (hpl : (backTo pos (starEach [] X.env)).any (·.1) = false := by rfl) : VE X W p (.Call (.Name "int" pp) [e] [] pos) (eCallB gInt fa) :=
  ve_callB sc_int (fun h => pe_callTy call_int1 (B.gl hg) hm PyProof.Rows.boot_int h (he := he) (hpl := hpl)) ha
theorem w_all (B : Bx X W lv N sc) (hm : X.mg "all" = none) (hg : glB sc "all" = true) (ha : VRA X W p [e] fa) (he : starEach [e] X.env = (false, eval e X.env) :: starEach [] X.env := by rfl) (hpl : (backTo pos (starEach [] X.env)).any (·.1) = false := by rfl) : VE X W p (.Call (.Name "all" pp) [e] [] pos) (eCallB gAll fa) :=
  ve_callB sc_all (fun h => pe_callB (cr_all B.cf.calm) (B.gl hg) hm PyProof.Rows.boot_all h (he := he) (hpl := hpl)) ha
theorem w_bool {v : Bool} {k : Nat} : VE X W true (.Constant (.bool v) k pos) (eC (.bl v)) := ve_c (v := .bl v) pe_bl rfl
theorem w_none {k : Nat} : VE X W true (.Constant .none k pos) (eC .non) := ve_c (v := .non) pe_non rfl
end
/-! a def's scope, its parameters -/
def scB (N ps : List Str) (sc : Scope) : Bool :=
  decide (sc.kind = .function) && !sc.isCoroutine && !sc.isGenerator && decide N.Nodup && decide (N.take ps.length = ps) &&
  (ps.all fun x => locB sc x) && (sc.names.all fun y => !decide (y.2 = .free))
theorem scB_ok {N ps : List Str} {sc : Scope} (h : scB N ps sc = true) : FnScope N ps sc := by
  unfold scB at h
  simp only [Bool.and_eq_true, List.all_eq_true, decide_eq_true_eq, Bool.not_eq_true', decide_eq_false_iff_not] at h
  obtain ⟨⟨⟨⟨⟨⟨h1, h2⟩, h3⟩, h4⟩, h5⟩, h6⟩, h7⟩ := h
  exact ⟨h1, h2, h3, h4, h5, fun x m => locB_ok (h6 x m), h7⟩
end VL
/-! Vl18: dict displays of one pair; more built-ins. -/
namespace VL
open PySem PySem.Spec PyProof.Rows L2

/-- {k: v}, k a tuple -/
def tDisp1T (tk tv : TE) : TE := fun σ H Q => ∀ p, H p = none → tk σ (upd H p (.dT [])) fun x H1 => tv σ H1 fun y H2 => H2 p = some (.dT []) ∧ ∃ (k : List Key) (b : Addr), x = .ref b ∧ H2 b = some (.tup (k.map kV)) ∧ Q (.ref p) (upd H2 p (.dT [(k, y)]))
theorem pe_disp1T {X : Cx} {pos : Pos} {k v : Expr} {tk tv : TE} (hu : X.A.units + 1 < cLine) (hk : PE X k tk) (hv : PE X v tv) : PE X (.Dict [some k] [v] pos) (tDisp1T tk tv) := by
  refine ⟨fun pins s σ H Q I q => ?_⟩
  have hn := I.hok.fresh (Nat.le_refl s.heap.objs.size)
  have I1 := I.laid (a := s.heap.objs.size) (o := .dT []) (h' := s.heap.push { cls := .type "dict", data := .dict #[] }) (t' := s.toks) (fun _ _ q => Heap.get?_push_of_some _ q) (Nat.le_refl _) (dt_empty s.heap I.big)
  have shape := zip_pairTrees [some k] [v] X.env pos rfl rfl
  rw [arm_eval_Dict, shape, dictDisplay_pairs _ (by intro h; have := pairTrees_length [some k] [v] X.env pos rfl rfl; rw [h] at this; cases this) (by rw [pairTrees_length [some k] [v] X.env pos rfl rfl]; show 1 < 17; decide)]
  refine wpAny_bind (wpAny_standAt (wpAny_bind (wpAny_subDictH (knd := tupleKind (mixKind X.prog X.w)) (show (tupleKind (mixKind X.prog X.w)).room X.A from Nat.lt_of_succ_lt hu) (by rw [pairTrees_length [some k] [v] X.env pos rfl rfl]; show 1 ≤ 15; decide) ?_)))
  refine pairTrees_cons_walk (thn (hk.run pins _ σ _ _ I1 (q _ hn)) fun u s1 ⟨x, H1, I2, rx, q1⟩ => thn (hv.run pins s1 σ H1 _ I2 q1) fun w2 s2 ⟨y, H2, I3, ry, e, kk, b, ex, eb, q2⟩ => pairTrees_nil_walk ?_)
  subst ex
  obtain rfl : u = Value.ref b := rx
  obtain ⟨z, hd, xs, rel, dd⟩ := dt_of I3.hok e
  have hx : xs = [] := by cases rel; rfl
  subst hx
  refine ⟨[(kk, b, w2)], ⟨rfl, rfl, key_of I3.hok eb, trivial⟩, dd, fun h' tk' dd' hs => wpAny_pure ⟨.ref s.heap.objs.size, upd H2 s.heap.objs.size (.dT [(kk, y)]), ?_, rfl, q2⟩⟩
  obtain ⟨o, es, ep, hq, h2, h3, h4, _, h5⟩ := dd'
  have ne : s.heap.objs.size ≠ b := fun z => by rw [← z, e] at eb; cases eb
  exact d_write (t' := tk') I3 (by rw [e]; exact True.intro) hs ⟨o, hq⟩ (show ObjOk X.prog X.w (upd H2 s.heap.objs.size (.dT [(kk, y)])) h' s.heap.objs.size (.dT [(kk, y)]) from
    ⟨by rw [sizeLine_eq]; show 1 ≤ 16777216; decide, hd, [(kk, b, w2)], .cons ⟨rfl, by rw [upd_ne (Ne.symm ne)]; exact eb, ry⟩ .nil, o, es, ep, hq, h2, h3, h4, h5⟩)

section
variable {X : Cx} {W : WX} {p q : Bool} {e a b k v : Expr} {es : List Expr} {f f1 f2 : Env → ER} {fa : Env → AR} {pos pp : Pos} {lv : Nat} {N : List Str} {sc : Scope}
def eDct1 (t : Bool) (f1 f2 : Env → ER) : Env → ER := fun env => bd (f1 env) fun r1 => bd (f2 r1.2.2) fun r2 => bd (opt (kOf t r1.2.1)) fun _ => ok (1, .dct t [r1.2.1] [r2.2.1], r2.2.2)
theorem dct1_core {K : PySem.W.Frag} {G H G2 H2 : Hp} {σ : St} {fp fp2 : List Addr} {env env2 : Env} {P : Addr} {o0 o : HO} {d : D} (rl : Rl K G σ H env fp) (nP : H P = none) (ht : ∀ xs, o0 ≠ .tup xs) (po : PostR K false G σ (upd H P o0) fp env env2 G2 H2 fp2) (ow : G2 P = none → Ow K G2 (upd H2 P o) 1 d (.ref P) [P]) :
    H2 P = some o0 ∧ PostE K false G σ H fp env 1 d env2 (.ref P) G2 (upd H2 P o) fp2 [P] := by
  have nf : P ∉ fp := fun m => rl.there P m nP
  have hG : G P = none := by
    cases e : G P with
    | none => rfl
    | some u => rcases rl.gin P u e with q | ⟨_, _, q⟩ <;> rw [nP] at q <;> cases q
  have kP : H2 P = some o0 := po.st.keep P o0 upd_same nf
  have hG2 : G2 P = none := by
    cases e : G2 P with
    | none => rfl
    | some u =>
      rcases po.st.gn P (by rw [e]; simp) with z | z | z
      · exact absurd hG z
      · rcases z with z | ⟨xs, z⟩
        · rw [upd_same] at z; cases z
        · rw [upd_same] at z; cases z; exact absurd rfl (ht xs)
      · exact absurd z nf
  have nf2 : ∀ x ∈ fp2, x ≠ P := fun x m e => by
    rcases po.st.fn x m with z | z
    · exact nf (by rw [← e]; exact z)
    · rw [e, upd_same] at z; cases z
  refine ⟨kP, ⟨po.rl.gin.write hG2, po.rl.sl.mono (Same.refl' _) (fun x m u e => by rw [upd_ne (nf2 x m)]; exact e), po.rl.nd, po.rl.out⟩, ⟨po.st.gg, fun x h => ?_, fun x m => ?_, fun x u e n => ?_⟩, ow hG2, ?_, fun x m => by rw [List.mem_singleton.mp m]; exact hG2, fun h => (nomatch h)⟩
  · rcases po.st.gn x h with z | z | z
    · exact .inl z
    · by_cases c : x = P
      · subst c; exact absurd hG2 h
      · rcases z with z | ⟨xs, z⟩
        · rw [upd_ne c] at z; exact .inr (.inl (.inl z))
        · rw [upd_ne c] at z; exact .inr (.inl (.inr ⟨xs, z⟩))
    · exact .inr (.inr z)
  · rcases List.mem_append.mp m with m | m
    · rcases po.st.fn x m with z | z
      · exact .inl z
      · rw [upd_ne (nf2 x m)] at z; exact .inr z
    · rw [List.mem_singleton.mp m]; exact .inr nP
  · have c : x ≠ P := fun z => by rw [z, nP] at e; cases e
    rw [upd_ne c]
    exact po.st.keep x u (by rw [upd_ne c]; exact e) n
  · exact List.nodup_append.mpr ⟨po.rl.nd, by simp, fun x m y m' e => nf2 x m (by rw [e]; exact List.mem_singleton.mp m')⟩
theorem Rl.fresh {K : PySem.W.Frag} {G H : Hp} {σ : St} {fp : List Addr} {env : Env} {P : Addr} {o0 : HO} (rl : Rl K G σ H env fp) (nP : H P = none) : Rl K G σ (upd H P o0) env fp :=
  rl.grow (Same.refl' _) (fun x h => .inl h) (fun x _ u e => same_upd nP x u e) (rl.gin.post fun x u _ e => same_upd nP x u e)
theorem ve_dct1T (hu : X.A.units + 1 < cLine) (hk : VE X W p k f1) (hv : VE X W q v f2) : VE X W false (.Dict [some k] [v] pos) (eDct1 true f1 f2) := by
  obtain ⟨tk, hk, rk⟩ := hk.ex
  obtain ⟨tv, hv, rv⟩ := hv.ex
  refine ⟨_, pe_disp1T hu hk hv, fun G σ H fp env Q rl z P nP => ?_⟩
  unfold eDct1 ResE at z
  rw [Res.bd] at z
  have rl0 := rl.fresh (o0 := .dT []) nP
  have exb : ∀ x, EX X.K W G σ H fp x → EX X.K W G σ (upd H P (.dT [])) fp x := fun x h cls od G' H' b => h cls od G' H' ⟨b.gin, (show Stp G H fp G (upd H P (.dT [])) fp from ⟨Same.refl' _, fun _ h => .inl h, fun _ h => .inl h, fun x u e _ => same_upd nP x u e⟩).trans b.st, b.rep⟩
  refine rk G σ _ fp env _ rl0 (z.imp (fun r1 _ z x G1 H1 fp1 fpr1 po1 => ?_) fun x z => exb x z)
  obtain ⟨G1', po1⟩ := po1.frz
  rw [Res.bd] at z
  refine rv G1' σ H1 fp1 r1.2.2 _ po1.rl (z.imp (fun r2 _ z y G2 H2 fp2 fpr2 po2 => ?_) fun x z => (exb x z).back po1.toR.st)
  obtain ⟨G2', po2⟩ := po2.frz
  rw [Res.bd] at z
  obtain ⟨kq, hkq, z⟩ := z.opt
  have po := (po1.toR.trans po2.toR).wk
  have sk := Sh.mono (In.of po2.toR.st.gg) _ x po1.sh0
  have sv := po2.sh0
  obtain ⟨k1, d1, e1⟩ := r1
  cases d1 with
  | tup ds =>
    obtain ⟨kk, hk1, rfl⟩ := Option.map_eq_some_iff.mp (show (kOfL ds).map Sum.inr = some kq from hkq)
    unfold Sh at sk
    obtain ⟨b, ys, rfl, hb, sl⟩ := sk
    rw [keyD_kOfL hk1] at sl z
    rw [shL_keys sl] at hb
    obtain ⟨kP, pe⟩ := dct1_core (o := .dT [(kk, y)]) (d := .dct true [.tup (kk.map keyD)] [r2.2.1]) rl nP (by simp) po fun hG2 => ⟨P, [y], [], rfl, ⟨_, upd_same, trivial⟩, .inr ⟨rfl, [(kk, y)], .inl upd_same, rfl, rfl⟩, OwL.sh.mpr ⟨ShL.cons sv ShL.nil, rfl⟩, rfl⟩
    exact ⟨kP, kk, b, rfl, po2.rl.gin.tup hb, z _ _ _ _ _ pe⟩
  | _ => cases hkq
theorem ve_dct1K (hk : VE X W p k f1) (hv : VE X W q v f2) : VE X W false (.Dict [some k] [v] pos) (eDct1 false f1 f2) := by
  obtain ⟨tk, hk, rk⟩ := hk.ex
  obtain ⟨tv, hv, rv⟩ := hv.ex
  refine ⟨_, pe_disp (pps_cons hk hv pps_nil) rfl rfl (by simp) (by show 1 ≤ 15; decide), fun G σ H fp env Q rl z P nP => ?_⟩
  unfold eDct1 ResE at z
  rw [Res.bd] at z
  have rl0 := rl.fresh (o0 := .dK []) nP
  have exb : ∀ x, EX X.K W G σ H fp x → EX X.K W G σ (upd H P (.dK [])) fp x := fun x h cls od G' H' b => h cls od G' H' ⟨b.gin, (show Stp G H fp G (upd H P (.dK [])) fp from ⟨Same.refl' _, fun _ h => .inl h, fun _ h => .inl h, fun x u e _ => same_upd nP x u e⟩).trans b.st, b.rep⟩
  refine rk G σ _ fp env _ rl0 (z.imp (fun r1 _ z x G1 H1 fp1 fpr1 po1 => ?_) fun x z => exb x z)
  obtain ⟨G1', po1⟩ := po1.frz
  rw [Res.bd] at z
  refine rv G1' σ H1 fp1 r1.2.2 _ po1.rl (z.imp (fun r2 _ z y G2 H2 fp2 fpr2 po2 => ?_) fun x z => (exb x z).back po1.toR.st)
  obtain ⟨G2', po2⟩ := po2.frz
  rw [Res.bd] at z
  obtain ⟨kq, hkq, z⟩ := z.opt
  have po := (po1.toR.trans po2.toR).wk
  have sk := Sh.mono (In.of po2.toR.st.gg) _ x po1.sh0
  have sv := po2.sh0
  obtain ⟨kk, hk1, rfl⟩ := Option.map_eq_some_iff.mp (show (kOf1 r1.2.1).map Sum.inl = some kq from hkq)
  rw [keyD_kOf1 hk1] at sk z
  rw [sh_key sk]
  obtain ⟨kP, pe⟩ := dct1_core (o := .dK [(kk, y)]) (d := .dct false [keyD kk] [r2.2.1]) rl nP (by simp) po fun hG2 => ⟨P, [y], [], rfl, ⟨_, upd_same, trivial⟩, .inl ⟨rfl, [(kk, y)], .inl upd_same, rfl, rfl⟩, OwL.sh.mpr ⟨ShL.cons sv ShL.nil, rfl⟩, rfl⟩
  exact ⟨kP, [(kk, y)], rfl, by show 1 ≤ 15; decide, z _ _ _ _ _ pe⟩
/-! any, min, max -/
theorem w_any (B : Bx X W lv N sc) (hm : X.mg "any" = none) (hg : glB sc "any" = true) (ha : VRA X W p [e] fa) (he : starEach [e] X.env = (false, eval e X.env) :: starEach [] X.env := by rfl) (hpl : (backTo pos (starEach [] X.env)).any (·.1) = false := by rfl) : VE X W p (.Call (.Name "any" pp) [e] [] pos) (eCallB gAny fa) :=
  ve_callB sc_any (fun h => pe_callB (cr_any B.cf.calm) (B.gl hg) hm PyProof.Rows.boot_any h (he := he) (hpl := hpl)) ha
theorem w_min (B : Bx X W lv N sc) (hm : X.mg "min" = none) (hg : glB sc "min" = true) (ha : VRA X W p [a, b] fa) (he : starEach [a, b] X.env = (false, eval a X.env) :: starEach [b] X.env := by rfl) (hpl : (backTo pos (starEach [b] X.env)).any (·.1) = false := by rfl) : VE X W p (.Call (.Name "min" pp) [a, b] [] pos) (eCallB gMin2 fa) :=
  ve_callB sc_min2 (fun h => pe_callB (call_min2 B.cf.calm) (B.gl hg) hm PyProof.Rows.boot_min h (he := he) (hpl := hpl)) ha
theorem w_max (B : Bx X W lv N sc) (hm : X.mg "max" = none) (hg : glB sc "max" = true) (ha : VRA X W p [a, b] fa) (he : starEach [a, b] X.env = (false, eval a X.env) :: starEach [b] X.env := by rfl) (hpl : (backTo pos (starEach [b] X.env)).any (·.1) = false := by rfl) : VE X W p (.Call (.Name "max" pp) [a, b] [] pos) (eCallB gMax2 fa) :=
  ve_callB sc_max2 (fun h => pe_callB (call_max2 B.cf.calm) (B.gl hg) hm PyProof.Rows.boot_max h (he := he) (hpl := hpl)) ha
end
end VL
/-! Vl19: instances made, attributes stored. -/
namespace VL
open PySem PySem.Spec PyProof.Rows L2

section
variable {K : PySem.W.Frag} {G H G' H' : Hp} {σ : St} {fp f f' fr : List Addr} {env : Env}
theorem Rl.stepped (r : Rl K G σ H env fp) (st : Stp G H f G' H' f') (dj : ∀ a ∈ fp, a ∉ f) (gin : In G' H') : Rl K G' σ H' env fp :=
  ⟨gin, r.sl.mono st.gg (fun a m o e => st.keep a o e (dj a m)), r.nd, fun a m => by
    cases e : G' a with
    | none => rfl
    | some u =>
      rcases st.gn a (by rw [e]; simp) with z | z | z
      · exact absurd (r.out a m) z
      · exact absurd z (r.sl.nfr a m)
      · exact absurd z (dj a m)⟩
theorem Stp.left (st : Stp G H f G' H' f') (h : ∀ a, a ∈ f → a ∈ fr) (h2 : ∀ a, a ∈ fr → a ∈ f) : Stp G H fr G' H' f' :=
  ⟨st.gg, fun a z => (st.gn a z).imp id fun z => z.imp id (h a), fun a m => (st.fn a m).imp (h a) id, fun a o e n => st.keep a o e fun m => n (h a m)⟩
theorem Stp.fresh {a : Addr} {o : HO} (n : H a = none) : Stp G H fp G (upd H a o) fp := ⟨Same.refl' G, fun _ h => .inl h, fun _ h => .inl h, fun b u e _ => same_upd n b u e⟩
end
section
variable {X : Cx} {W : WX} {p q : Bool} {e a b k v : Expr} {es : List Expr} {f f1 f2 : Env → ER} {fa : Env → AR} {pos pp apos : Pos} {lv j i : Nat} {N : List Str} {sc : Scope}
def eMake (n : Nat) (cn : Str) (F : List D → D → Rs (Nat × D × D)) (fa : Env → AR) : Env → ER := fun env => bd (fa env) fun r => bd (lenQ n r.1) fun _ => bd (F r.1 (.obj cn [] [])) fun q =>
  if isNon q.2.1 = true ∧ q.1 = 0 then ok (1, q.2.2, r.2) else none
theorem ve_make {cn : Str} {ps : List Str} {F : List D → D → Rs (Nat × D × D)} (n : Nat) (c : Cf X W lv) (wi : ∀ cls d σ σ' H, W cls d σ H → W cls d σ' H) (D1 : Dn X.prog X.w X.K X.mg X.base j (cn, some "__init__") ps (spI X.K (n + 1) 0 1 F)) (hk : j + 1 ≤ lv) (M : Mk X.K (He.ga X.K cn) (He.ma X.K (He.ga X.K cn) "__init__")) (hg : Gl X cn) (hm : X.mg cn = some (.ref (He.ga X.K cn)))
    (ha : VA X W p (e :: es) fa) (hdb : (cn == ("__debug__" : Str)) = false := by decide) (he : starEach (e :: es) X.env = (false, eval e X.env) :: starEach es X.env := by rfl) (hpl : (backTo pos (starEach es X.env)).any (·.1) = false := by rfl) :
    VE X W false (.Call (.Name cn pp) (e :: es) [] pos) (eMake n cn F fa) := by
  obtain ⟨⟨fd, FF, hb⟩, kp⟩ := D1
  obtain ⟨t, ht, hr⟩ := ha.ex
  refine ⟨_, pe_make (CX := L2.CX X.prog X.w) (E := fun cls d H => ∀ σ, W cls d σ H) M FF (c.room.mono hk) hg hm hb .nil (passes_call c.tk fun cls d σ H h => h σ) ht hdb he hpl, fun G σ H fp env Q rl z => hr G σ H fp env _ rl ?_⟩
  unfold eMake ResE at z
  rw [Res.bd] at z
  refine z.imp (fun r er z vs G1 H1 fp1 po1 s x dx hx hdx hne => ?_) fun x z => z
  rw [Res.bd] at z
  obtain ⟨hl, z⟩ := z.lenQ
  rw [Res.bd] at z
  have st1 : Stp G1 H1 fp1 G1 (upd (upd H1 dx (.own x)) x (.ins (He.ga X.K cn) dx [])) fp1 := (Stp.fresh hdx).trans (Stp.fresh (by rw [upd_ne (Ne.symm hne)]; exact hx))
  have rl1 : Rl X.K G1 σ (upd (upd H1 dx (.own x)) x (.ins (He.ga X.K cn) dx [])) r.2 fp1 := (po1.rl.fresh hdx).fresh (by rw [upd_ne (Ne.symm hne)]; exact hx)
  have Gx : G1 x = none := by
    cases e : G1 x with
    | none => rfl
    | some u => rcases po1.rl.gin x u e with q | ⟨_, _, q⟩ <;> rw [hx] at q <;> cases q
  have nx : x ∉ fp1 := fun m => po1.rl.there x m hx
  have ow1 : Ow X.K G1 (upd (upd H1 dx (.own x)) x (.ins (He.ga X.K cn) dx [])) 1 (.obj cn [] []) (.ref x) [x] := ⟨x, dx, [], [], rfl, upd_same, rfl, OwL.nil, rfl⟩
  rw [List.append_nil]
  refine ⟨by rw [List.length_cons, s.length, hl], [], .ref x, vs, r.1, .obj cn [] [], G1, [x], rfl, rfl, s, rl1.gin, ow1, by simp, fun a m => by rw [List.mem_singleton.mp m]; exact Gx, z.imp (fun q _ z v G2 H2 f' fpr po2 ow2 => ?_) fun xx z cls od G2 H2 b σ' => ?_⟩
  · by_cases hc : isNon q.2.1 = true ∧ q.1 = 0
    case neg => rw [if_neg hc] at z; exact z.elim
    rw [if_pos hc] at z
    obtain ⟨k2, d2, d3⟩ := q
    obtain ⟨hc1, hc2⟩ := hc
    cases (show k2 = 0 from hc2)
    have hv : v = .non := by
      have q0 := po2.ow.1
      dsimp only at hc1 q0
      cases d2 <;> first | (unfold Sh at q0; exact q0) | cases hc1
    refine ⟨hv, z (.ref x) G2 H2 fp1 f' ⟨rl1.stepped po2.st (fun a m h => nx (by rw [← List.mem_singleton.mp h]; exact m)) po2.gin, ?_, ow2, ?_, fun a m => po2.out a (List.mem_append_left _ m), fun h => (nomatch h)⟩⟩
    · have st2 : Stp G1 (upd (upd H1 dx (.own x)) x (.ins (He.ga X.K cn) dx [])) (fp1 ++ [x]) G2 H2 ((f' ++ fpr) ++ fp1) := (po2.st.frame (f := fp1)).left (fun a m => by simp at m ⊢; exact m.symm) (fun a m => by simp at m ⊢; exact m.symm)
      have st0 : Stp G H fp G1 (upd (upd H1 dx (.own x)) x (.ins (He.ga X.K cn) dx [])) (fp1 ++ [x]) := by
        have s0 := po1.st.trans st1
        refine ⟨s0.gg, s0.gn, fun a m => ?_, s0.keep⟩
        rcases List.mem_append.mp m with m | m
        · exact s0.fn a m
        · rw [List.mem_singleton.mp m]
          cases eh : H x with
          | none => exact .inr rfl
          | some u =>
            by_cases mf : x ∈ fp
            · exact .inl mf
            · have := po1.st.keep x u eh mf
              rw [hx] at this; cases this
      exact (st0.trans st2).sub fun a m => by
        rcases List.mem_append.mp m with m | m
        · exact List.mem_append_right _ m
        · exact List.mem_append_left _ (List.mem_append_left _ m)
    · refine List.nodup_append.mpr ⟨po1.rl.nd, (List.nodup_append.mp po2.nd).1, fun a ma b mb ee => ?_⟩
      rcases po2.st.fn b (List.mem_append_left _ mb) with y | y
      · exact nx (by rw [← List.mem_singleton.mp y, ← ee]; exact ma)
      · exact rl1.there b (by rw [← ee]; exact ma) y
  · refine wi cls od σ σ' H2 (z cls od G2 H2 ⟨b.gin, ?_, b.rep⟩)
    have s0 := po1.st.trans st1
    have st2 : Stp G1 (upd (upd H1 dx (.own x)) x (.ins (He.ga X.K cn) dx [])) (fp1 ++ [x]) G2 H2 ([] ++ fp1) := (b.st.frame (f := fp1)).left (fun a m => by simp at m ⊢; exact m.symm) (fun a m => by simp at m ⊢; exact m.symm)
    have st0 : Stp G H fp G1 (upd (upd H1 dx (.own x)) x (.ins (He.ga X.K cn) dx [])) (fp1 ++ [x]) := by
      refine ⟨s0.gg, s0.gn, fun a m => ?_, s0.keep⟩
      rcases List.mem_append.mp m with m | m
      · exact s0.fn a m
      · rw [List.mem_singleton.mp m]
        cases eh : H x with
        | none => exact .inr rfl
        | some u =>
          by_cases mf : x ∈ fp
          · exact .inl mf
          · have := po1.st.keep x u eh mf
            rw [hx] at this; cases this
    exact (st0.trans st2).sub fun a m => (nomatch m)

/-! ### x.f = e, the attribute new -/
theorem putF_new {f : Str} {v : V} : ∀ {fs : List (Str × V)}, f ∉ fs.map (·.1) → putF f v fs = fs ++ [(f, v)]
  | [], _ => rfl
  | (g, x) :: r, h => by
    unfold putF
    rw [if_neg (fun z => h (by rw [z]; exact List.mem_cons_self)), putF_new (fun z => h (List.mem_cons_of_mem _ z))]; rfl
def sFldN (i m : Nat) (cn fl : Str) (fe : Env → ER) : Env → SR := fun env => bd (fe env) fun r => bd (kOk m r.1) fun _ => bd (chk env r.2.2) fun e1 => match (slot e1 i).own with
  | some (k, .obj c ns ds) => if k = m ∧ c = cn ∧ fl ∉ ns ∧ ns.length < 1000 then ok (.nx, e1.set i ((slot e1 i).put (.obj c (ns ++ [fl]) (ds ++ [r.2.1])))) else none
  | _ => none
theorem vs_fldN {cn fl : Str} {o : Expr} (m : Nat) (hc : FldOk X.K [cn] fl) (ho : PE X o (tVar i)) (he : VE X W p e f) (hs : swapsWith e (some (.Attribute o fl apos)) pos.line X.env = pure false := by rfl) : VS X W (.Assign [.Attribute o fl apos] e pos) (sFldN i m cn fl f) := by
  obtain ⟨te, he, re⟩ := he.ex
  refine ⟨_, ps_fld ho he hs, fun G σ H fp env En rl z => re G σ H fp env _ rl ?_⟩
  unfold sFldN ResS at z
  rw [Res.bd] at z
  refine z.imp (fun r _ z y G1 H1 fp1 fpr1 po1 => ?_) fun x z => z.ex σ
  rw [Res.bd] at z
  obtain ⟨hk, z⟩ := z.kOk
  rw [Res.bd] at z
  obtain ⟨hio, z⟩ := z.chk
  obtain ⟨G2, fpr, po⟩ := po1.kk hk
  split at z
  case h_2 => exact z.elim
  rename_i k c ns ds ho2
  by_cases hh : k = m ∧ c = cn ∧ fl ∉ ns ∧ ns.length < 1000
  case neg => rw [if_neg hh] at z; exact z.elim
  rw [if_pos hh] at z
  obtain ⟨rfl, rfl, hnf, hlen⟩ := hh
  obtain ⟨vi, v', f0, w1, w2, w3, w4, w5, w6, fin⟩ := mut_at (fpr := fpr) (m := k) (π := []) po.rl (slot_own ho2) ho2 (by simp) rfl po.nd po.out
  cases w2
  have w3' := w3
  obtain ⟨ad, dx, fs, fx, rfl, h1, hn, h2, rfl⟩ := w3'
  obtain ⟨c1, c2⟩ := hc c List.mem_cons_self
  subst hn
  obtain ⟨n1, n2, n3⟩ := List.nodup_append.mp w4
  obtain ⟨na, nx⟩ := List.nodup_cons.mp n1
  have nfx : ∀ b ∈ fx ++ fpr, b ≠ ad := fun b mb z => by
    rcases List.mem_append.mp mb with mb | mb
    · exact na (by rw [← z]; exact mb)
    · exact n3 ad List.mem_cons_self b mb z.symm
  have kp : ∀ b ∈ fx ++ fpr, ∀ o, H1 b = some o → upd H1 ad (.ins (He.ga X.K c) dx (putF fl y fs)) b = some o := fun b mb o e => by rw [upd_ne (nfx b mb)]; exact e
  have ow' : Ow X.K G2 (upd H1 ad (.ins (He.ga X.K c) dx (putF fl y fs))) (k + 1) (.obj c (fs.map (·.1) ++ [fl]) (ds ++ [r.2.1])) (.ref ad) (ad :: (fx ++ fpr)) := by
    refine ⟨ad, dx, putF fl y fs, fx ++ fpr, rfl, upd_same, by rw [putF_new hnf]; simp, ?_, rfl⟩
    have e2 : (putF fl y fs).map (·.2) = fs.map (·.2) ++ [y] := by rw [putF_new hnf]; simp
    rw [e2]
    refine OwL.app (h2.imp fun d v g mm r => Ow.mono (Same.refl' _) k d v g (fun b hb => kp b (List.mem_append_left _ (mm b hb))) r) ?_
    have := OwL.cons (Ow.mono (Same.refl' _) k _ y fpr (fun b hb => kp b (List.mem_append_right _ hb)) po.ow) (OwL.nil (R := Ow X.K G2 (upd H1 ad (.ins (He.ga X.K c) dx (putF fl y fs))) k))
    rw [List.append_nil] at this
    exact this
  obtain ⟨fp', rl', up⟩ := fin List.mem_cons_self ow' (List.nodup_cons.mpr ⟨fun z => nfx ad z rfl, List.nodup_append.mpr ⟨nx, n2, fun b hb b' hb' => n3 b (List.mem_cons_of_mem _ hb) b' hb'⟩⟩) (fun b hb => by simpa using hb)
  refine ⟨.ref ad, w1, ad, _, dx, fs, rfl, h1, c1, c2, by simpa using hlen, z σ G2 _ fp' [] ⟨rl', ?_, by rw [List.append_nil]; exact rl'.nd, fun b mb => (nomatch mb), fun j2 k2 d2 hj => ⟨rfl, ?_⟩⟩ rfl⟩
  · rw [List.append_nil]
    exact (po.st.trans (Stp.write (List.mem_append_left _ (w6 ad List.mem_cons_self)))).sub up
  · obtain ⟨d1, hd1⟩ := hio j2 k2 d2 hj
    exact put_io (slot_own ho2) ho2 j2 k2 d1 hd1
end
end VL
/-! Vl20: dict comprehensions with keys ints or texts. -/
namespace VL
open PySem PySem.Spec PyProof.Rows L2
def dcL (vs : List Nat) (tg : D → Env → Rs Env) (tt : Env → TR) (fk fv : Env → ER) : List D → D → Env → Rs (D × Env)
  | [], acc, env => ok (acc, env)
  | d :: ds, acc, env => bd (tg d env) fun e1 => bd (tt e1) fun b => if b.1 then bd (fk b.2) fun rk => bd (fv rk.2.2) fun rv => bd (opt (D.store acc rk.2.1 rv.2.1)) fun acc' => bd (wp vs rv.2.2) fun e2 => dcL vs tg tt fk fv ds acc' e2
    else bd (wp vs b.2) fun e2 => dcL vs tg tt fk fv ds acc e2
def eDc (vs : List Nat) (f : Env → Rs (List D × Env)) (tg : D → Env → Rs Env) (tt : Env → TR) (fk fv : Env → ER) : Env → ER := fun env => bd (f env) fun r0 => bd (wp vs r0.2) fun e1 =>
  bd (okO' (dcL vs tg tt fk fv r0.1 (.dct false [] []) e1)) fun q => ok (1, q.1, restE r0.2 q.2 vs)
theorem store_dct {t : Bool} {ks vs : List D} {k v c : D} (h : D.store (.dct t ks vs) k v = some c) : ∃ ks' vs', c = .dct t ks' vs' ∧ ks.length < cap := by
  obtain ⟨q, hq, e⟩ := Option.bind_eq_some_iff.mp (show ((kOf t k).bind fun q => _) = some c from h)
  cases hf : dfind t ks q with
  | none =>
    rw [hf] at e
    dsimp only at e
    split at e
    · rename_i hc; cases e; exact ⟨_, _, rfl, hc.1⟩
    · cases e
  | some j =>
    rw [hf] at e
    dsimp only at e
    split at e
    · rename_i hc; cases e; exact ⟨_, _, rfl, hc.2⟩
    · cases e
section
variable {X : Cx} {W : WX} {p q r : Bool} {kx vx tg iter : Expr} {ifs : List Expr} {pos : Pos} {scope : Scope} {own : List (Str × Nat)} {fi : Env → Rs (List D × Env)} {h : D → Env → Rs Env} {tt : Env → TR} {fk fv : Env → ER}
theorem ve_dc {ts : List Nat} (c : X.calm = true) (hN : X.N.Nodup) (hi : VI X W p tg iter fi) (ok_ : BlkOk X.N X.env.scope scope own) (nd : (own.map (·.2)).Nodup)
    (hg : ∀ (s : Shared) (H : Hp) (C : Addr) (cl : List (Str × Addr)) (fp : List Addr), VG (X.blk s H scope (compEnvC scope cl C X.env) fp) W0 ts tg h) (hts : ∀ j ∈ ts, j ∈ own.map (·.2))
    (ht : ∀ (s : Shared) (H : Hp) (C : Addr) (cl : List (Str × Addr)) (fp : List Addr), VTs (X.blk s H scope (compEnvC scope cl C X.env) fp) W0 ifs tt)
    (hk : ∀ (s : Shared) (H : Hp) (C : Addr) (cl : List (Str × Addr)) (fp : List Addr), VE (X.blk s H scope (compEnvC scope cl C X.env) fp) W0 q kx fk)
    (hv : ∀ (s : Shared) (H : Hp) (C : Addr) (cl : List (Str × Addr)) (fp : List Addr), VE (X.blk s H scope (compEnvC scope cl C X.env) fp) W0 r vx fv)
    (hs : ∀ x, foldedSetIterable iter X.env x = pure x := by intro _; rfl) :
    VE X W false (.DictComp kx vx [⟨tg, iter, ifs, 0⟩] scope pos) (eDc (own.map (·.2)) fi h tt fk fv) := by
  obtain ⟨wi, hw, rw_⟩ := hi.ex
  refine ⟨_, pe_dc (g := cG X.K W0 ts h) (tt := cT X.K W0 tt) (tk := cE X.K W0 q fk) (tv := cE X.K W0 r fv) c hN hw ok_ (fun s H C cl fp => (hg s H C cl fp).pg) (fun s H C cl fp => (ht s H C cl fp).pts) (fun s H C cl fp => (hk s H C cl fp).pe) (fun s H C cl fp => (hv s H C cl fp).pe) hs, fun G σ H fp env Q rl z => ?_⟩
  generalize own.map (·.2) = vs at z nd hts ⊢
  unfold eDc ResE at z
  rw [Res.bd] at z
  refine rw_ G σ H fp env _ rl (z.imp (fun r0 _ z G0 H0 fp0 po0 J hJ => ?_) fun x z => z)
  rw [Res.bd] at z
  obtain ⟨hwp, z⟩ := z.wp
  rw [Res.bd] at z
  replace z := z.okO'
  intro D1 hD
  have D0 : G0 D1 = none := by
    cases e : G0 D1 with
    | none => rfl
    | some u => rcases po0.rl.gin _ u e with q | ⟨_, _, q⟩ <;> rw [hD] at q <;> cases q
  have D2 : D1 ∉ fp0 := fun m => po0.rl.there _ m hD
  refine ⟨fun i m H' => ∃ G1 fp1 env1 ks ds fa, i + m = r0.1.length ∧ Same G0 G1 ∧ Rl X.K G1 (wipe σ vs) H' env1 fp1 ∧ (∀ v ∈ vs, nOw (slot env1 v) = true) ∧ Stp G0 H0 fp0 G1 H' (fp1 ++ fa) ∧ Ow X.K G1 H' 1 (.dct false ks ds) (.ref D1) fa ∧ (fp1 ++ fa).Nodup ∧ (∀ a ∈ fa, G1 a = none) ∧
      Res (fun q => ∀ v G' H' fp' fpr, PostE X.K false G σ H fp env 1 q.1 (restE r0.2 q.2 vs) v G' H' fp' fpr → Q v H') (fun _ => False) (dcL vs h tt fk fv (r0.1.drop i) (.dct false ks ds) env1), ⟨r0.1.length, G0, fp0, wipeE r0.2 vs, [], [], [D1], by omega, Same.refl' _, ?_, fun v m => nOw_wiped m, ?_, ?_, ?_, ?_, ?_⟩, fun i m H' hW => ?_⟩
  · have sH : Same H0 (upd H0 D1 (.dK [])) := same_upd hD
    exact ⟨po0.rl.gin.post fun a o _ e => sH a o e, (po0.rl.sl.mono (Same.refl' _) fun a _ o e => sH a o e).wipe hwp, po0.rl.nd, po0.rl.out⟩
  · refine ⟨Same.refl' _, fun _ h => .inl h, fun a m => ?_, fun a o e n => same_upd hD a o e⟩
    rcases List.mem_append.mp m with m | m
    · exact .inl m
    · rw [List.mem_singleton.mp m]; exact .inr hD
  · exact ⟨D1, [], [], rfl, ⟨_, upd_same, trivial⟩, .inl ⟨rfl, [], .inl upd_same, rfl, rfl⟩, OwL.nil, rfl⟩
  · exact List.nodup_append.mpr ⟨po0.rl.nd, by simp, fun a m b m' e => D2 (by rw [← List.mem_singleton.mp m', ← e]; exact m)⟩
  · intro a m; rw [List.mem_singleton.mp m]; exact D0
  · exact z.imp (fun q _ z v G' H' fp' fpr po => z v G' H' fp' fpr po) fun _ z => z
  · obtain ⟨G1, fp1, env1, ks, ds, fa, em, sG, rl1, now, st1, ow1, nd1, out1, z⟩ := hW
    obtain ⟨j1, j2, j3⟩ := hJ i H' (In.pre sG rl1.gin)
    by_cases hlt : i < r0.1.length
    case neg =>
      have ei : r0.1.drop i = [] := List.drop_eq_nil_of_le (by omega)
      rw [ei] at z
      refine .inl ⟨j2 (by omega), ?_⟩
      have z : ∀ v G' H' fp' fpr, PostE X.K false G σ H fp env 1 (.dct false ks ds) (restE r0.2 env1 vs) v G' H' fp' fpr → Q v H' := z
      exact z (.ref D1) G1 H' fp1 fa ⟨⟨rl1.gin, po0.rl.sl.rest sG nd hwp now rl1.sl, rl1.nd, rl1.out⟩, po0.st.trans st1, ow1, nd1, out1, fun z => (nomatch z)⟩
    case pos =>
      refine .inr ⟨j1 hlt, fun H' => ∃ G1 fp1 env1 ks ds fa, Same G0 G1 ∧ Rl X.K G1 (wipe σ vs) H' env1 fp1 ∧ (∀ v ∈ vs, nOw (slot env1 v) = true) ∧ Stp G0 H0 fp0 G1 H' (fp1 ++ fa) ∧ Ow X.K G1 H' 1 (.dct false ks ds) (.ref D1) fa ∧ (fp1 ++ fa).Nodup ∧ (∀ a ∈ fa, G1 a = none) ∧
        Res (fun q => ∀ v G' H' fp' fpr, PostE X.K false G σ H fp env 1 q.1 (restE r0.2 q.2 vs) v G' H' fp' fpr → Q v H') (fun _ => False) (dcL vs h tt fk fv (r0.1.drop (i + 1)) (.dct false ks ds) env1), fun H'' hN => ?_, fun x H2 hy => ?_⟩
      · obtain ⟨G2, fp2, env2, ks2, ds2, fa2, q2⟩ := hN
        exact ⟨m - 1, by omega, G2, fp2, env2, ks2, ds2, fa2, by omega, q2⟩
      · obtain ⟨d, G2, hd, s1, s2, n1, n2, shd⟩ := j3 x H2 hlt hy
        have ed : r0.1.drop i = d :: r0.1.drop (i + 1) := by
          obtain ⟨hl, e⟩ := List.getElem?_eq_some_iff.mp hd
          rw [← e]
          exact List.drop_eq_getElem_cons hl
        rw [ed] at z
        unfold dcL at z
        rw [Res.bd] at z
        obtain ⟨G3, s13, s23, rl3, st3⟩ := yld_join rl1 sG s1 s2 n1 n2
        obtain ⟨ow3, out3, nd3⟩ := ow1.frame out1 nd1 st3
        refine ⟨G3, fp1, env1, d, rl3, Sh.mono (In.of s23) d x shd, z.imp0 fun e2 _ z σ4 G4 H4 fp4 po4 tc => ?_⟩
        obtain ⟨ow4, out4, nd4⟩ := ow3.frame out3 (nd3 rl3.nd) po4.st0
        rw [Res.bd] at z
        refine ⟨wipe_tch hts tc, G4, fp4, e2, po4.rl, z.imp0 fun b _ z G5 H5 fp5 po5 => ?_⟩
        obtain ⟨ow5, out5, nd5⟩ := ow4.frame out4 (nd4 po4.rl.nd) po5.st
        have stA := (st3.trans po4.st0).trans po5.st
        cases hb : b.1 with
        | true =>
          rw [hb, if_pos rfl, Res.bd] at z
          rw [if_pos rfl]
          refine ⟨G5, fp5, b.2, po5.rl, z.imp0 fun rk _ z y G6 H6 fp6 fpr6 po6 => ?_⟩
          rw [Res.bd] at z
          obtain ⟨G6', po6⟩ := po6.frz
          obtain ⟨ow6, out6, nd6⟩ := ow5.frame out5 (nd5 po5.rl.nd) po6.toR.st
          refine ⟨G6', fp6, rk.2.2, po6.rl, z.imp0 fun rv _ z w G7 H7 fp7 fpr7 po7 => ?_⟩
          rw [Res.bd] at z
          obtain ⟨acc', ha, z⟩ := z.opt
          rw [Res.bd] at z
          obtain ⟨hwp2, z⟩ := z.wp
          obtain ⟨G7', po7⟩ := po7.frz
          obtain ⟨ow7, out7, nd7⟩ := ow6.frame out6 (nd6 po6.rl.nd) po7.toR.st
          have nd7 := nd7 po7.rl.nd
          obtain ⟨ks', ds', rfl, hkl⟩ := store_dct ha
          have sk := Sh.mono (In.of po7.toR.st.gg) _ y po6.sh0
          have ow7' := ow7
          obtain ⟨a0, xs0, fx0, e0, ⟨o0, h0, hd0⟩, hdc, hol, hfa⟩ := ow7'
          cases e0
          obtain ⟨ad, ob, f', e1, m1, m2, m3, m4, m5⟩ := ow7.store (fpr := []) (u := w) (by rw [List.append_nil]; exact (List.nodup_append.mp nd7).2.1) (Sh.mono po7.rl.gin _ y sk) ⟨po7.sh0, rfl⟩ ha
          cases e1
          rcases dctAt_vals hdc h0 hd0 with ⟨kvs, rfl, _, ek, ex⟩ | ⟨kvs, _, ht0, _⟩
          case inr => cases ht0
          have hcase := m5 (fun H' => H' = upd H7 D1 ob) rfl
          have hl : kvs.length < sizeLine := cap_lt (by have := congrArg List.length ek; simp at this; omega)
          rcases hcase with ⟨pp, xs, k0, j0, e1, _, hh, _⟩ | ⟨aa, H', e1, dp, hq⟩
          · cases e1; rw [h0] at hh; cases hh
          · cases e1
            rcases dp with ⟨kvs', k', hh, ey, _, eH⟩ | ⟨kvs', k', b', hh, _⟩
            case inr => rw [h0] at hh; cases hh
            rw [h0] at hh
            cases hh
            refine ⟨kvs, k', ey, h0, hl, ?_⟩
            rw [← eH, hq]
            have Df : ∀ a ∈ fp7, a ≠ D1 := fun a m e => (List.nodup_append.mp nd7).2.2 a m D1 (by rw [hfa]; exact List.mem_cons_self) e
            have Dm : D1 ∈ fa := by rw [hfa]; exact List.mem_cons_self
            refine ⟨G7', fp7, wipeE rv.2.2 vs, ks', ds', f', fun a o e => po7.toR.st.gg a o (po6.toR.st.gg a o (stA.gg a o (sG a o e))),
              ⟨po7.rl.gin.write (out7 D1 Dm), ?_, po7.rl.nd, po7.rl.out⟩, fun v m => nOw_wiped m, ?_, m2, ?_, fun a m => ?_, z⟩
            · rw [← wipe_tch hts tc]
              exact (po7.rl.sl.mono (Same.refl' _) fun a m o e => by rw [upd_ne (Df a m)]; exact e).wipe hwp2
            · refine ((((st1.trans stA.frame).trans po6.toR.st.frame).trans po7.toR.st.frame).trans (Stp.write (List.mem_append_right _ Dm))).sub fun a m => ?_
              rcases List.mem_append.mp m with m | m
              · exact List.mem_append_left _ m
              · exact List.mem_append_right _ (by simpa using m4 a m)
            · exact List.nodup_append.mpr ⟨po7.rl.nd, m3, fun a ma b mb => (List.nodup_append.mp nd7).2.2 a ma b (by simpa using m4 b mb)⟩
            · exact out7 a (by simpa using m4 a m)
        | false =>
          rw [hb, if_neg Bool.false_ne_true, Res.bd] at z
          rw [if_neg Bool.false_ne_true]
          obtain ⟨hwp2, z⟩ := z.wp
          exact ⟨G5, fp5, wipeE b.2 vs, ks, ds, fa, fun a o e => stA.gg a o (sG a o e), ⟨po5.rl.gin, by rw [← wipe_tch hts tc]; exact po5.rl.sl.wipe hwp2, po5.rl.nd, po5.rl.out⟩, fun v m => nOw_wiped m, st1.trans stA.frame, ow5, nd5 po5.rl.nd, out5, z⟩
end
end VL
/-! Vl21: comprehensions as a generator prints them. -/
namespace VL
open PySem PySem.Spec PyProof.Rows L2
section
variable {X : Cx} {W : WX} {lv : Nat} {N : List Str} {sc : Scope} {p q r : Bool} {elt kx vx tg iter : Expr} {ifs : List Expr} {pos : Pos} {scope : Scope} {own : List (Str × Nat)} {fi : Env → Rs (List D × Env)} {h : D → Env → Rs Env} {tt : Env → TR} {el fk fv : Env → ER}
theorem w_lc {ts : List Nat} (own : List (Str × Nat)) (kk : Nat) (B : Bx X W lv N sc) (hn : N.Nodup) (hi : VI X W p tg iter fi) (hb : blkB N sc scope own = true) (nd : (own.map (·.2)).Nodup)
    (hg : ∀ (s : Shared) (H : Hp) (C : Addr) (cl : List (Str × Addr)) (fp : List Addr), Bx (X.blk s H scope (compEnvC scope cl C X.env) fp) W0 lv N scope → VG (X.blk s H scope (compEnvC scope cl C X.env) fp) W0 ts tg h) (hts : ∀ j ∈ ts, j ∈ own.map (·.2))
    (ht : ∀ (s : Shared) (H : Hp) (C : Addr) (cl : List (Str × Addr)) (fp : List Addr), Bx (X.blk s H scope (compEnvC scope cl C X.env) fp) W0 lv N scope → VTs (X.blk s H scope (compEnvC scope cl C X.env) fp) W0 ifs tt)
    (he : ∀ (s : Shared) (H : Hp) (C : Addr) (cl : List (Str × Addr)) (fp : List Addr), Bx (X.blk s H scope (compEnvC scope cl C X.env) fp) W0 lv N scope → VE (X.blk s H scope (compEnvC scope cl C X.env) fp) W0 q elt el)
    (hs : ∀ x, foldedSetIterable iter X.env x = pure x := by intro _; rfl) :
    VE X W false (.ListComp elt [⟨tg, iter, ifs, 0⟩] scope pos) (eLc kk (own.map (·.2)) fi h tt el) :=
  ve_lc kk B.cf.calm (B.nd hn) hi (B.blkOk hb) nd (fun s H C cl fp => hg s H C cl fp B.blk) hts (fun s H C cl fp => ht s H C cl fp B.blk) (fun s H C cl fp => he s H C cl fp B.blk) hs
theorem w_dc {ts : List Nat} (own : List (Str × Nat)) (B : Bx X W lv N sc) (hn : N.Nodup) (hi : VI X W p tg iter fi) (hb : blkB N sc scope own = true) (nd : (own.map (·.2)).Nodup)
    (hg : ∀ (s : Shared) (H : Hp) (C : Addr) (cl : List (Str × Addr)) (fp : List Addr), Bx (X.blk s H scope (compEnvC scope cl C X.env) fp) W0 lv N scope → VG (X.blk s H scope (compEnvC scope cl C X.env) fp) W0 ts tg h) (hts : ∀ j ∈ ts, j ∈ own.map (·.2))
    (ht : ∀ (s : Shared) (H : Hp) (C : Addr) (cl : List (Str × Addr)) (fp : List Addr), Bx (X.blk s H scope (compEnvC scope cl C X.env) fp) W0 lv N scope → VTs (X.blk s H scope (compEnvC scope cl C X.env) fp) W0 ifs tt)
    (hk : ∀ (s : Shared) (H : Hp) (C : Addr) (cl : List (Str × Addr)) (fp : List Addr), Bx (X.blk s H scope (compEnvC scope cl C X.env) fp) W0 lv N scope → VE (X.blk s H scope (compEnvC scope cl C X.env) fp) W0 q kx fk)
    (hv : ∀ (s : Shared) (H : Hp) (C : Addr) (cl : List (Str × Addr)) (fp : List Addr), Bx (X.blk s H scope (compEnvC scope cl C X.env) fp) W0 lv N scope → VE (X.blk s H scope (compEnvC scope cl C X.env) fp) W0 r vx fv)
    (hs : ∀ x, foldedSetIterable iter X.env x = pure x := by intro _; rfl) :
    VE X W false (.DictComp kx vx [⟨tg, iter, ifs, 0⟩] scope pos) (eDc (own.map (·.2)) fi h tt fk fv) :=
  ve_dc B.cf.calm (B.nd hn) hi (B.blkOk hb) nd (fun s H C cl fp => hg s H C cl fp B.blk) hts (fun s H C cl fp => ht s H C cl fp B.blk) (fun s H C cl fp => hk s H C cl fp B.blk) (fun s H C cl fp => hv s H C cl fp B.blk) hs
theorem w_setLc {ts : List Nat} {y : Str} {i : Nat} {py spos : Pos} (own : List (Str × Nat)) (kk : Nat) (BB : Bd X W lv N sc) (hn : N.Nodup) (hy : N[i]? = some y) (hyl : sc.names.lookup y = some .local) (hkd : sc.kind = .function) (hl : (py.line == pos.line) = true)
    (ha : (scope.names.any fun (n, k) => n == y && (k == .local || k == .cell)) = false) (hi : VI X W p tg iter fi) (hb : blkB N sc scope own = true) (nd : (own.map (·.2)).Nodup)
    (hg : ∀ (s : Shared) (H : Hp) (C : Addr) (cl : List (Str × Addr)) (fp : List Addr), Bx (X.blk s H scope (compEnvC scope cl C X.env) fp) W0 lv N scope → VG (X.blk s H scope (compEnvC scope cl C X.env) fp) W0 ts tg h) (hts : ∀ j ∈ ts, j ∈ own.map (·.2))
    (ht : ∀ (s : Shared) (H : Hp) (C : Addr) (cl : List (Str × Addr)) (fp : List Addr), Bx (X.blk s H scope (compEnvC scope cl C X.env) fp) W0 lv N scope → VTs (X.blk s H scope (compEnvC scope cl C X.env) fp) W0 ifs tt)
    (he : ∀ (s : Shared) (H : Hp) (C : Addr) (cl : List (Str × Addr)) (fp : List Addr), Bx (X.blk s H scope (compEnvC scope cl C X.env) fp) W0 lv N scope → VE (X.blk s H scope (compEnvC scope cl C X.env) fp) W0 q elt el)
    (hs : ∀ x, foldedSetIterable iter X.env x = pure x := by intro _; rfl) :
    VS X W (.Assign [.Name y py] (.ListComp elt [⟨tg, iter, ifs, 0⟩] scope pos) spos) (sAsg i (eLc kk (own.map (·.2)) fi h tt el)) :=
  vs_setLc kk BB.cf.calm (BB.bx.nd hn) (BB.bx.n i hy) (by rw [BB.hs]; exact hyl) (sw_true (by rw [BB.hs]; exact hkd) (by rw [BB.hs]; exact hyl) hl ha) hi (BB.bx.blkOk hb) nd (fun s H C cl fp => hg s H C cl fp BB.bx.blk) hts (fun s H C cl fp => ht s H C cl fp BB.bx.blk) (fun s H C cl fp => he s H C cl fp BB.bx.blk) hs
/-- the name is a cell: nothing is exchanged -/
theorem sw_cell {gs : List Comprehension} {y : Str} {py : Pos} {l : Nat} {env : PySem.Env} (hy : env.scope.names.lookup y = some .cell) : swapsWith (.ListComp elt gs scope pos) (some (.Name y py)) l env = pure false := by
  have e : (env.kindOf y == some NameKind.local) = false := by
    have : env.kindOf y = some .cell := hy
    rw [this]; rfl
  show (pure (env.blockKind == .function && env.kindOf y == some .local && py.line == pos.line && !(scope.names.any fun (n, k) => n == y && (k == .local || k == .cell))) : Sem Bool) = pure false
  rw [e]
  simp
theorem w_asgC {gs : List Comprehension} {y : Str} {i : Nat} {py spos : Pos} {f : Env → ER} (BB : Bd X W lv N sc) (hn : N.Nodup) (hy : N[i]? = some y) (hyl : sc.names.lookup y = some .cell) (hv : VE X W p (.ListComp elt gs scope pos) f) :
    VS X W (.Assign [.Name y py] (.ListComp elt gs scope pos) spos) (sAsg i f) :=
  vs_asg hv (BB.bx.nd hn) (BB.bx.n i hy) (by rw [BB.hs]; exact .inr hyl) (hs := sw_cell (by rw [BB.hs]; exact hyl)) (hf := .inl (BB.fn _))
end
end VL
/-! Vl22: slices. -/
namespace VL
open PySem PySem.Spec PyProof.Rows L2
structure VO (X : Cx) (W : WX) (o : Option Expr) (f : Env → Rs (Option Int × Env)) : Prop where
  ex : ∃ t, PO X o t ∧ ∀ G σ H fp env Q, Rl X.K G σ H env fp → Res (fun r => ∀ G' H' fp', PostR X.K false G σ H fp env r.2 G' H' fp' → Q r.1 H') (EX X.K W G σ H fp) (f env) → t σ H Q
section
variable {X : Cx} {W : WX} {p q : Bool} {e a : Expr} {lo hi : Option Expr} {f : Env → ER} {g : Env → RR} {fl fh : Env → Rs (Option Int × Env)} {pos p2 : Pos}
def oNone : Env → Rs (Option Int × Env) := fun env => ok (none, env)
def oSome (g : Env → RR) : Env → Rs (Option Int × Env) := fun env => bd (g env) fun r => match r.1 with
  | .int i => ok (some i, r.2)
  | _ => none
theorem vo_none : VO X W none oNone := ⟨_, po_none, fun G σ H fp env Q rl z => z G H fp (PostR.refl rl)⟩
theorem vo_some (h : VR X W p e g) : VO X W (some e) (oSome g) := by
  obtain ⟨t, ht, hr⟩ := h.ex
  refine ⟨_, po_some ht, fun G σ H fp env Q rl z => hr G σ H fp env _ rl ?_⟩
  unfold oSome at z
  rw [Res.bd] at z
  refine z.imp (fun r er z v G1 H1 fp1 po1 sh => ?_) fun x z => z
  obtain ⟨d, env1⟩ := r
  cases d with
  | int i =>
    unfold Sh at sh
    exact ⟨i, sh, z G1 H1 fp1 po1.wk⟩
  | _ => exact z.elim
def cutD (xs : List D) (lo hi : Option Int) : List D := (xs.drop (HT.sIx xs.length 0 lo)).take (HT.sIx xs.length xs.length hi - HT.sIx xs.length 0 lo)
theorem cut_sh {K : PySem.W.Frag} {G : Hp} {ds : List D} {vs : List V} {lo hi : Option Int} (h : ShL K G ds vs) : ShL K G (cutD ds lo hi) (cutV vs lo hi) := by
  unfold cutD cutV
  rw [h.length]
  exact (h.drop _).take _
def eSlice (f : Env → ER) (fl fh : Env → Rs (Option Int × Env)) : Env → ER := fun env => bd (f env) fun r => bd (fl r.2.2) fun l => bd (fh l.2) fun h => match r.2.1 with
  | .lst ds => ok (1, .lst (cutD ds l.1 h.1), h.2)
  | .tup ds => ok (0, .tup (cutD ds l.1 h.1), h.2)
  | _ => none
theorem ve_slice (he : VE X W p e f) (hl : VO X W lo fl) (hh : VO X W hi fh) : VE X W false (.Subscript e (.Slice lo hi none p2) pos) (eSlice f fl fh) := by
  obtain ⟨te, he, re⟩ := he.ex
  obtain ⟨tl, hl, rl_⟩ := hl.ex
  obtain ⟨th, hh, rh⟩ := hh.ex
  refine ⟨_, pe_slice (sl_list.or sl_tupA) he hl hh, fun G σ H fp env Q rl z => ?_⟩
  unfold eSlice ResE at z
  rw [Res.bd] at z
  refine re G σ H fp env _ rl (z.imp (fun r _ z v G1 H1 fp1 fpr1 po1 => ?_) fun x z => z)
  obtain ⟨G1', po1⟩ := po1.frz
  rw [Res.bd] at z
  refine rl_ G1' σ H1 fp1 r.2.2 _ po1.rl (z.imp (fun l _ z G2 H2 fp2 po2 => ?_) fun x z => z.back po1.toR.st)
  rw [Res.bd] at z
  refine rh G2 σ H2 fp2 l.2 _ po2.rl (z.imp (fun u _ z G3 H3 fp3 po3 => ?_) fun x z => (z.back po1.toR.st).back po2.st)
  have po := ((po1.toR.trans po2).trans po3).wk
  have s0 := Sh.mono (In.of fun a o e => po3.st.gg a o (po2.st.gg a o e)) _ v po1.sh0
  obtain ⟨k, d, env1⟩ := r
  cases d with
  | lst ds =>
    unfold Sh at s0
    obtain ⟨a, vs, rfl, hG, sl⟩ := s0
    exact .inl ⟨a, vs, rfl, SqL.of (po.rl.gin.lst hG), fun P nP => z (.ref P) G3 _ fp3 [P] (PostE.made po nP ⟨P, _, [], rfl, upd_same, OwL.sh.mpr ⟨cut_sh sl, rfl⟩, rfl⟩)⟩
  | tup ds =>
    have s1 := s0
    unfold Sh at s0
    obtain ⟨a, vs, rfl, hG, sl⟩ := s0
    refine .inr ⟨a, vs, rfl, SqT.of (po.rl.gin.tup hG), fun hw => ?_, fun _ P nP => ?_⟩
    · have e1 : cutD ds l.1 u.1 = ds := by
        unfold cutD
        rw [sl.length] at hw
        rw [hw.1, hw.2]
        simp
      refine z (.ref a) G3 H3 fp3 [] ?_
      rw [e1]
      exact PostE.shared po s1
    · obtain ⟨po4, sG⟩ := po.laid (o := .tup (cutV vs l.1 u.1)) nP
      exact z (.ref P) _ _ fp3 [] (PostE.shared po4 (by unfold Sh; exact ⟨P, _, rfl, upd_same, ShL.mono (In.of sG) _ _ (cut_sh sl)⟩))
  | _ => exact z.elim
end
end VL
/-! VlS: set(xs) of a list of ints, sorted. (call_set_lstI follows the library's proof for a tuple, turned to a list.) -/
namespace SetF
open PySem PySem.Spec PyProof.Rows L2
open PySem.Sem (wp)
section
variable {P : Program} {w : World} {A : Around} {E : Value → Shared → Prop} {s : Shared}
set_option maxHeartbeats 3200000 in
theorem call_set_lstI {l : Addr} {items : Array Value} (ns : List Int) {Q : Value → Shared → Prop} (hh : A.handled = none) (hl : s.heap.IsList l items) (hit : IntsAre items.toList ns) (hb : ns.length + 1 < scanBound)
    (h : ∀ (h' : Heap) (tk c : Nat), SetR w h' s.heap.objs.size (fun j => decide (j ∈ ns)) c → c ≤ ns.length → (∀ b o, s.heap.get? b = some o → h'.get? b = some o) → Q (.ref s.heap.objs.size) { s with heap := h', toks := tk }) :
    wpAny (model P w) A (call (.type "set") [.ref l]) Q E s := by
  have hisz : items.size = ns.length := by
    have q := IntsAre.length hit
    rw [Array.length_toList] at q
    exact q
  obtain ⟨c, tl, hmro⟩ := F.called_set.mro
  have hmade := F.called_set.made
  have hsub := F.called_set.sub
  refine wpAny_call (codeAny_of_tree ?_)
  show wpAny _ _ (callAny (.type "set") _) _ _ _
  refine wpAny_pure ⟨Code.quiet_builtin _ (by decide +kernel), codeAny_builtin F.entry_type_call ?_⟩
  rw [Around.under_plain (weight_type_call_type "set" [.ref l] []) rfl]
  have h1 := F.called_set.notType
  have h2 := F.called_set.canCreate
  have hct := F.typeCall_set_1 (.ref l)
  repeat (any_goals (first | assumption | wp_step))

  refine codeAny_mono (code_set_led1 (.ref l) (E := E) (Q₁ := fun obj s₁ => obj = .ref s.heap.objs.size ∧ s₁ = { s with heap := s.heap.push { cls := .type "set", dict := none, data := .set #[] 0 (.fresh 0 0 (!w.params.followText "set-order")) } }) ⟨rfl, rfl⟩) fun r s₁ hr => ?_
  cases r with
  | error e => exact hr
  | ok fl =>
    cases fl with
    | ret obj =>
      obtain ⟨rfl, rfl⟩ := hr
      have hS : (s.heap.push { cls := .type "set", dict := none, data := .set #[] 0 (.fresh 0 0 (!w.params.followText "set-order")) }).get? s.heap.objs.size = some { cls := .type "set", dict := none, data := .set #[] 0 (.fresh 0 0 (!w.params.followText "set-order")) } := Heap.get?_push_size _ rfl
      have hT : Shared.TypeIs { s with heap := s.heap.push { cls := .type "set", dict := none, data := .set #[] 0 (.fresh 0 0 (!w.params.followText "set-order")) } } (.ref s.heap.objs.size) "set" := ⟨_, hS, rfl⟩
      have hli := F.called_set.init.lookup
      have hbi := F.called_set.init.bind (.ref s.heap.objs.size)
      repeat (any_goals (first | assumption | wp_step))

      refine codeAny_mono (codeAny_call_builtin (R := wants (fun r s₂ => r = .none ∧ ∃ h' tk c, s₂ = { s with heap := h', toks := tk } ∧ SetR w h' s.heap.objs.size (fun j => decide (j ∈ ns)) c ∧ c ≤ ns.length ∧
          (∀ b o, s.heap.get? b = some o → h'.get? b = some o)) E) F.called_set.init.plain F.entry_set_init (check_set_init_1 hT ?_)) fun r₂ s₂ hr₂ => ?_
      · obtain ⟨ol, hol, hcl, nl, hdl⟩ := hl
        obtain ⟨ocls, odict, odata, oslots⟩ := ol
        simp only at hcl hdl
        subst hcl; subst hdl
        have hol' : (s.heap.push { cls := .type "set", dict := none, data := .set #[] 0 (.fresh 0 0 (!w.params.followText "set-order")) }).get? l = some { cls := .type "list", dict := odict, data := .seq items nl, slots := oslots } := Heap.get?_push_of_some _ hol
        have hsls := F.sub_list_set
        have hslf := F.sub_list_frozenset
        have hne : (Value.type "list" == Value.type "dict") = false := by decide
        have hl1 : (s.heap.push { cls := .type "set", dict := none, data := .set #[] 0 (.fresh 0 0 (!w.params.followText "set-order")) }).IsList l items := ⟨_, hol', rfl, nl, rfl⟩
        unfold Builtin.«set.__init__» noKeywords Builtin.Frozenset.updateFrom
        generalize hPI : pyIter = PI
        wp_walk
        subst hPI

        refine wpAny_pyIter_list hl1 ?_
        refine wpAny_bind (wpAny_runValue ?_)
        have hlS : l < s.heap.objs.size := Heap.lt_size hol
        have hh3 : A.in1.in1.in1.handled = none := by simp [hh]
        have hz1 : (s.heap.push { cls := .type "set", dict := none, data := .set #[] 0 (.fresh 0 0 (!w.params.followText "set-order")) }).objs.size = s.heap.objs.size + 1 := Heap.size_push ..
        have hneI : l ≠ (s.heap.push { cls := .type "set", dict := none, data := .set #[] 0 (.fresh 0 0 (!w.params.followText "set-order")) }).objs.size := by
          rw [Heap.size_push]; exact Nat.ne_of_lt (Nat.lt_succ_of_lt hlS)
        have hSf : s.heap.objs.size ∉ [(s.heap.push { cls := .type "set", dict := none, data := .set #[] 0 (.fresh 0 0 (!w.params.followText "set-order")) }).objs.size, l] := by
          rw [Heap.size_push]; simp only [List.mem_cons, List.mem_singleton, List.not_mem_nil, or_false, not_or]
          exact ⟨Nat.ne_of_lt (Nat.lt_succ_self _), Nat.ne_of_gt hlS⟩
        have hval : ∀ (i : Nat) (v : Value), items[i]? = some v → ∃ k t, ns[i]? = some k ∧ v = .int k t := fun i v hv => by
          have hi : i < ns.length := by rw [← hisz]; exact (Array.getElem?_eq_some_iff.mp hv).1
          obtain ⟨t, e⟩ := PyProof.Rows.IntsAre.int_at hit i v (by rw [Array.getElem?_toList]; exact hv)
          refine ⟨ns[i], t, List.getElem?_eq_getElem hi, ?_⟩
          rw [e, List.getD_eq_getElem?_getD, List.getElem?_eq_getElem hi] <;> rfl
        refine set_update_ints ((Walks.list hh3 _ l hneI items).toS) s.heap.objs.size
          hSf ns hisz hb hval (items.size - 0) 0 _ (by omega) (Nat.zero_le _)
          ⟨⟨_, Heap.get?_push_size _ rfl, rfl, rfl⟩, (hl1.push _)⟩ ?hS0 ?hR
        case hS0 =>
          have hget : ((s.heap.push { cls := .type "set", dict := none, data := .set #[] 0 (.fresh 0 0 (!w.params.followText "set-order")) }).push { cls := .type "list_iterator", data := .fields #[.ref l, .int 0 0] }).get? s.heap.objs.size
              = some { cls := .type "set", dict := none, data := .set #[] 0 (.fresh 0 0 (!w.params.followText "set-order")) } := Heap.get?_push_of_some _ hS
          exact ⟨0, Nat.le_refl 0, setR_new_at hget⟩
        case hR =>
          intro s' c' hm hc' hS'
          obtain ⟨h', g2, d', tk', os'⟩ := s'
          have eg : g2 = s.gens := hm.gens
          have ed : d' = s.drawn := hm.drawn
          have eo : os' = s.os := hm.os
          subst eg; subst ed; subst eo
          show wpAny _ _ _ _ _ _
          refine wpAny_pure ?_
          show wpAny _ _ (ret Value.none) _ _ _
          rw [hisz] at hc'
          refine wpAny_pure ⟨rfl, h', tk', c', rfl, hS', hc', fun b o e => ?_⟩
          have hb0 : b < s.heap.objs.size := Heap.lt_size e
          have hb1 : b ≠ s.heap.objs.size := Nat.ne_of_lt hb0
          have hb2 : b ≠ (s.heap.push { cls := .type "set", dict := none, data := .set #[] 0 (.fresh 0 0 (!w.params.followText "set-order")) }).objs.size := by
            rw [Heap.size_push]; exact Nat.ne_of_lt (Nat.lt_succ_of_lt hb0)
          exact hm.heap b o (by simp only [List.mem_cons, List.mem_singleton, List.not_mem_nil, or_false, not_or]; exact ⟨hb1, hb2⟩) (Heap.get?_push_of_some _ (Heap.get?_push_of_some _ e))

      · cases r₂ with
        | error e => exact hr₂
        | ok fl₂ =>
          cases fl₂ with
          | ret r =>
            obtain ⟨rfl, h', tk, c', rfl, hS', hc', hk'⟩ := hr₂
            repeat (any_goals (first | assumption | wp_step))
            exact h _ _ _ hS' hc' hk'
          | _ => exact hr₂.elim
    | _ => exact hr.elim

end
end SetF
/-! Vl23: sorted(set(xs)), ints. -/
namespace VL
open PySem PySem.Spec PyProof.Rows L2
def tSortSet (K : PySem.W.Frag) (ta : TE) : TE := fun σ H Q => ta σ H fun x H1 => ∃ (l : Addr) (ns : List Int), x = .ref l ∧ SqL K H1 l (ns.map V.int) ∧ ns.length < 4000 ∧
  ∀ (out : List Int) (p : Addr), out.Nodup → (∀ k, k ∈ out ↔ k ∈ ns) → out.Pairwise (· ≤ ·) → H1 p = none → Q (.ref p) (upd H1 p (.lst (out.map V.int)))
theorem pe_sortSetI {X : Cx} {a : Expr} {ta : TE} {p p2 q pos : Pos} (hc : X.calm = true) (hg : Gl X "sorted") (hm : X.mg "sorted" = none) (hg2 : Gl X "set") (hm2 : X.mg "set" = none) (ha : PE X a ta)
    (na : starEach [a] X.env = (false, eval a X.env) :: starEach [] X.env := by rfl) : PE X (.Call (.Name "sorted" p) [.Call (.Name "set" p2) [a] [] q] [] pos) (tSortSet X.K ta) := by
  refine ⟨fun pins s σ H Q I h => ?_⟩
  refine Call_ (ld_blt I hg hm PyProof.Rows.boot_sorted ?_)
  refine PyProof.Rows.callWith_builtin1 (PyProof.Rows.args_cons ?_ rfl) rfl rfl
  refine Call_ (ld_blt I hg2 hm2 PyProof.Rows.boot_set ?_)
  refine PyProof.Rows.callWith_type1 (PyProof.Rows.args_cons (thn (ha.run pins s σ H _ I h) fun v s1 ⟨x, H1, I1, r1, q1⟩ => PyProof.Rows.args_nil ?_) na) na rfl
  obtain ⟨l, ns, rfl, hq, hl, q1⟩ := q1
  cases r1
  obtain ⟨its, rv, pl, hz⟩ := I1.list hq
  have hi : IntsAre its.toArray.toList ns := ints_of_vals rv
  have hd := I1.ok.hd hc
  refine SetF.call_set_lstI ns hd pl.isList hi (by unfold scanBound; omega) fun h' tk c R1 hcn k => PyProof.Rows.args_nil ?_
  obtain ⟨o, es, ep, t, ho, hex, hdt, g, nd, hm3, hb, hf, hn, hr, hl2⟩ := R1
  have I2 : L2.Inv X pins σ H1 { s1 with heap := h', toks := tk } := I1.kept fun b o e => k b o e
  refine Calls.call_function_entry PyProof.Rows.kind_sorted PyProof.Rows.plain_sorted PyProof.Rows.entry_sorted (PyProof.Rows.args_sorted1 _) ?_
  unfold Builtin.«sorted»
  refine wpAny_bind (m := checkCount "sorted" 1 1 _) (wpAny_pure ?_)
  refine wpAny_bind (collect_set (A := X.A.in1) (s := { s1 with heap := h', toks := tk }) hd ⟨o, ho, hex.1, hdt⟩ hf hb hr hl2 fun s2 vs k2 hz2 g2 o2 pm => ?_)
  have I3 : L2.Inv X pins σ H1 s2 := I2.call' (s' := s2) (ch := []) o2 (Un.kept k2) (I2.hok.kept k2) (by rw [show s2.gens = s1.gens from g2]; exact I1.bare) (fun _ z => nomatch z)
  have hints : ∀ v ∈ vs, ∃ i t, v = Value.int i t := fun v hv => by
    obtain ⟨e, he, rfl⟩ := List.mem_map.mp (pm.mem_iff.mp hv)
    obtain ⟨k0, tk0, e1, _⟩ := g e he
    exact ⟨k0, tk0, e1⟩
  have hI := SrtO.ints_iv hints
  have hlen : vs.length ≤ sizeLine := by
    rw [pm.length_eq, List.length_map, sizeLine_eq]
    have : es.size < scanBound := hb
    unfold scanBound at this
    rw [Array.length_toList]; omega
  have keyiv : ∀ e : Int × Value, L2.keyOf e = SrtO.iv e.2 := fun e => by
    obtain ⟨a1, v⟩ := e
    cases v <;> rfl
  have pk : (vs.map SrtO.iv).Perm (es.toList.map L2.keyOf) := by
    have := pm.map SrtO.iv
    rw [List.map_map] at this
    rw [show (L2.keyOf : Int × Value → Int) = SrtO.iv ∘ (·.2) from funext keyiv]
    exact this
  refine wpAny_bind (wpAny_newList ?_ hlen)
  have hoL : (s2.heap.push (seqObj "list" vs.toArray 0)).get? s2.heap.objs.size = some (seqObj "list" vs.toArray 0) := Heap.get?_push_size _ rfl
  refine wpAny_bind (wpAny_holding (wpAny_call_entry PyProof.Rows.slot_list_sort ⟨_, hoL, rfl⟩ PyProof.Rows.entry_list_sort (SrtO.list_sort_ord (s := { s2 with heap := s2.heap.push (seqObj "list" vs.toArray 0) }) SrtO.swo_int hoL hlen (fun h2 => SrtO.ints_sortable hI h2) fun out hs hbb => ⟨_, rfl, ?_⟩) (PyProof.Rows.args_list_sort _)))
  obtain ⟨j1, j2, j3⟩ := SrtO.ints_out hI hs hbb
  obtain ⟨e', he'⟩ := PyProof.Rows.sortedHeap_at (vs := vs) (out := out.toArray) hoL
  have hl2 : ((out.map SrtO.iv).map V.int).length ≤ sizeLine := by
    rw [List.length_map, j2.length_eq, List.length_map]; exact hlen
  have po := j2.trans pk
  refine wpAny_pure ⟨_, rfl, .ref s2.heap.objs.size, upd H1 s2.heap.objs.size (.lst ((out.map SrtO.iv).map V.int)), I3.laid (t' := s2.toks) (fun b u e => ?_) (Nat.le_refl _) ⟨hl2, out, e', vals_of_ints j1, he'⟩, rfl, q1 _ _ (po.nodup_iff.mpr nd) (fun k0 => ?_) j3 (I3.hok.fresh (Nat.le_refl _))⟩
  · have hlt := Heap.lt_size e
    show (PyProof.Rows.sortedHeap (s2.heap.push (seqObj "list" vs.toArray 0)) s2.heap.objs.size vs out.toArray).get? b = some u
    rw [PyProof.Rows.sortedHeap_old (Nat.ne_of_lt hlt) (by rw [size_push']; exact Nat.lt_succ_of_lt hlt)]
    exact Heap.get?_push_of_some _ e
  · rw [po.mem_iff, ← hm3 k0]
    simp
/-- the distinct ones, ascending -/
def dedup : List Int → List Int
  | [] => []
  | n :: ns => if n ∈ ns then dedup ns else n :: dedup ns
theorem dedup_mem {k : Int} : ∀ {ns : List Int}, k ∈ dedup ns ↔ k ∈ ns
  | [] => Iff.rfl
  | n :: ns => by
    unfold dedup
    by_cases c : n ∈ ns
    · rw [if_pos c, dedup_mem, List.mem_cons]
      exact ⟨.inr, fun h => h.elim (fun e => by rw [e]; exact c) id⟩
    · rw [if_neg c, List.mem_cons, List.mem_cons, dedup_mem]
theorem dedup_nodup : ∀ ns : List Int, (dedup ns).Nodup
  | [] => List.nodup_nil
  | n :: ns => by
    unfold dedup
    by_cases c : n ∈ ns
    · rw [if_pos c]; exact dedup_nodup ns
    · rw [if_neg c]; exact List.nodup_cons.mpr ⟨fun h => c (dedup_mem.mp h), dedup_nodup ns⟩
def uniq (ns : List Int) : List Int := srt (dedup ns)
theorem uniq_eq {ns out : List Int} (h1 : out.Nodup) (h2 : ∀ k, k ∈ out ↔ k ∈ ns) (h3 : out.Pairwise (· ≤ ·)) : out = uniq ns :=
  srt_eq ((List.perm_ext_iff_of_nodup h1 (dedup_nodup ns)).mpr fun k => (h2 k).trans dedup_mem.symm) h3
section
variable {X : Cx} {W : WX} {p q : Bool} {a : Expr} {g : Env → RR} {lv : Nat} {N : List Str} {sc : Scope} {p1 p2 q1 pos : Pos}
def eSortSet (g : Env → RR) : Env → ER := fun env => bd (g env) fun r => match r.1 with
  | .lst ds => bd (opt (intsOf ds)) fun ns => if ns.length < 4000 then ok (1, .lst ((uniq ns).map .int), r.2) else none
  | _ => none
theorem w_sortSet (B : Bx X W lv N sc) (hm : X.mg "sorted" = none) (hg : glB sc "sorted" = true) (hm2 : X.mg "set" = none) (hg2 : glB sc "set" = true) (ha : VR X W p a g) (na : starEach [a] X.env = (false, eval a X.env) :: starEach [] X.env := by rfl) :
    VE X W p (.Call (.Name "sorted" p1) [.Call (.Name "set" p2) [a] [] q1] [] pos) (eSortSet g) := by
  obtain ⟨ta, ha, ra⟩ := ha.ex
  refine ⟨_, pe_sortSetI B.cf.calm (B.gl hg) hm (B.gl hg2) hm2 ha na, fun G σ H fp env Q rl z => ra G σ H fp env _ rl ?_⟩
  unfold eSortSet ResE at z
  rw [Res.bd] at z
  refine z.imp (fun r er z v G1 H1 fp1 po1 sh => ?_) fun x z => z
  obtain ⟨d, env1⟩ := r
  cases d with
  | lst ds =>
    dsimp only at z
    rw [Res.bd] at z
    obtain ⟨ns, hn, z⟩ := z.opt
    by_cases hl : ns.length < 4000
    case neg => rw [if_neg hl] at z; exact z.elim
    rw [if_pos hl] at z
    unfold Sh at sh
    obtain ⟨l, ys, rfl, h, sl⟩ := sh
    rw [intsOf_eq hn] at sl
    rw [shL_ints sl] at h
    refine ⟨l, ns, rfl, SqL.of h, hl, fun out P h1 h2 h3 nP => ?_⟩
    rw [uniq_eq h1 h2 h3]
    exact z (.ref P) G1 _ fp1 [P] (PostE.made po1 nP ⟨P, _, [], rfl, upd_same, OwL.sh.mpr ⟨ints_shL _, rfl⟩, rfl⟩)
  | _ => exact z.elim
end
end VL
/-! Vl24: -x. -/
namespace VL
open PySem PySem.Spec PyProof.Rows L2
section
variable {X : Cx} {W : WX} {p : Bool} {a : Expr} {g : Env → RR} {pos : Pos}
def eNeg (g : Env → RR) : Env → ER := fun env => bd (g env) fun r => match r.1 with
  | .int i => ok (0, .int (-i), r.2)
  | _ => none
theorem w_neg (ha : VR X W p a g) : VE X W p (.UnaryOp .USub a pos) (eNeg g) := by
  obtain ⟨ta, ha, ra⟩ := ha.ex
  refine ⟨_, pe_un un_neg ha, fun G σ H fp env Q rl z => ra G σ H fp env _ rl ?_⟩
  unfold eNeg ResE at z
  rw [Res.bd] at z
  refine z.imp (fun r er z v G1 H1 fp1 po1 sh => ?_) fun x z => z
  obtain ⟨d, env1⟩ := r
  cases d with
  | int i =>
    unfold Sh at sh
    exact ⟨i, sh, z _ G1 H1 fp1 [] (PostE.shared po1 (by unfold Sh; rfl))⟩
  | _ => exact z.elim
end
end VL
/-! Vl25: comprehensions over a dict that a name holds: it is locked meanwhile. -/
namespace VL
open PySem PySem.Spec PyProof.Rows L2
/-- H holds what G holds; dicts may be locked or not -/
def InR (G H : Hp) : Prop := ∀ a o, G a = some o → H a = some o ∨ ∃ u, isD u ∧ (o = u ∨ ∃ ob, o = .frz ob u) ∧ (H a = some u ∨ ∃ ob, H a = some (.frz ob u))
section
variable {K : PySem.W.Frag} {G H G' H' : Hp}
theorem InR.rd {i : InR G H} {a : Addr} {u : HO} (d : isD u) (h : Rd G a u) : Rd H a u := by
  rcases h with h | ⟨ob, h⟩
  · rcases i a _ h with z | ⟨w, dw, e, z⟩
    · exact .inl z
    · rcases e with rfl | ⟨_, rfl⟩
      · exact z
      · exact d.elim
  · rcases i a _ h with z | ⟨w, dw, e, z⟩
    · exact .inr ⟨ob, z⟩
    · rcases e with rfl | ⟨_, e⟩
      · exact dw.elim
      · cases e; exact z
theorem InR.ex {i : InR G H} {a : Addr} {o : HO} (n : ¬ isD o) (n2 : ∀ ob u, o ≠ .frz ob u) (h : G a = some o) : H a = some o := by
  rcases i a _ h with z | ⟨w, dw, e, _⟩
  · exact z
  · rcases e with rfl | ⟨ob, e⟩
    · exact absurd dw n
    · exact absurd e (n2 ob w)
theorem InR.sqL {i : InR G H} {a : Addr} {xs : List V} (h : SqL K G a xs) : SqL K H a xs := by
  refine h.imp (fun h => ?_) id
  rcases h with h | ⟨ob, h⟩
  · exact .inl (InR.ex (i := i) (fun z => z.elim) (by simp) h)
  · rcases i a _ h with z | ⟨w, dw, e, _⟩
    · exact .inr ⟨ob, z⟩
    · rcases e with rfl | ⟨_, e⟩
      · exact dw.elim
      · cases e; exact dw.elim
mutual
theorem Sh.monoR (i : InR G H) : ∀ (d : D) (v : V), Sh K G d v → Sh K H d v
  | .non, _, h => by unfold Sh at h ⊢; exact h
  | .bl _, _, h => by unfold Sh at h ⊢; exact h
  | .int _, _, h => by unfold Sh at h ⊢; exact h
  | .str _, _, h => by unfold Sh at h ⊢; exact h
  | .tup ds, _, h => by
    unfold Sh at h ⊢
    obtain ⟨a, xs, e, q, r⟩ := h
    exact ⟨a, xs, e, InR.ex (i := i) (fun z => z.elim) (by simp) q, ShL.monoR i ds xs r⟩
  | .lst ds, _, h => by
    unfold Sh at h ⊢
    obtain ⟨a, xs, e, q, r⟩ := h
    exact ⟨a, xs, e, InR.ex (i := i) (fun z => z.elim) (by simp) q, ShL.monoR i ds xs r⟩
  | .lsx ds, _, h => by
    unfold Sh at h ⊢
    obtain ⟨a, xs, e, q, r⟩ := h
    exact ⟨a, xs, e, InR.sqL (i := i) q, ShL.monoR i ds xs r⟩
  | .dct t ks ds, _, h => by
    unfold Sh at h ⊢
    obtain ⟨a, xs, e, q, r⟩ := h
    refine ⟨a, xs, e, ?_, ShL.monoR i ds xs r⟩
    rcases q with ⟨e, kvs, h, k⟩ | ⟨e, kvs, h, k⟩
    · exact .inl ⟨e, kvs, InR.rd (i := i) trivial h, k⟩
    · exact .inr ⟨e, kvs, InR.rd (i := i) trivial h, k⟩
  | .obj c ns ds, _, h => by
    unfold Sh at h ⊢
    obtain ⟨a, dx, fs, e, q, e2, r⟩ := h
    exact ⟨a, dx, fs, e, InR.ex (i := i) (fun z => z.elim) (by simp) q, e2, ShL.monoR i ds _ r⟩
theorem ShL.monoR (i : InR G H) : ∀ (ds : List D) (vs : List V), ShL K G ds vs → ShL K H ds vs
  | [], _, h => by unfold ShL at h ⊢; exact h
  | d :: ds, _, h => by
    unfold ShL at h ⊢
    obtain ⟨v, r, e, h1, h2⟩ := h
    exact ⟨v, r, e, Sh.monoR i d v h1, ShL.monoR i ds r h2⟩
end
theorem Ow.monoS (sh : ∀ d v, Sh K G d v → Sh K G' d v) : ∀ (k : Nat) (d : D) (v : V) (fp : List Addr), (∀ a ∈ fp, ∀ o, H a = some o → H' a = some o) → Ow K G H k d v fp → Ow K G' H' k d v fp
  | 0, d, v, fp, _, h => ⟨sh d v h.1, h.2⟩
  | k + 1, d, v, fp, kp, h => by
    have sub : ∀ {ds xs f a}, fp = a :: f → OwL (Ow K G H k) ds xs f → OwL (Ow K G' H' k) ds xs f := fun {ds xs f a} e q =>
      q.imp fun d v g m r => Ow.monoS sh k d v g (fun b hb => kp b (by rw [e]; exact List.mem_cons_of_mem _ (m b hb))) r
    cases d with
    | lst ds =>
      obtain ⟨a, xs, f, e, h1, h2, h3⟩ := h
      exact ⟨a, xs, f, e, kp a (by simp [h3]) _ h1, sub h3 h2, h3⟩
    | dct t ks ds =>
      obtain ⟨a, xs, f, e, ⟨o, h0, hd⟩, h1, h2, h3⟩ := h
      have ha : a ∈ fp := by simp [h3]
      refine ⟨a, xs, f, e, ⟨o, kp a ha _ h0, hd⟩, ?_, sub h3 h2, h3⟩
      rcases h1 with ⟨e, kvs, q, r⟩ | ⟨e, kvs, q, r⟩
      · exact .inl ⟨e, kvs, q.imp (kp a ha _) fun ⟨ob, z⟩ => ⟨ob, kp a ha _ z⟩, r⟩
      · exact .inr ⟨e, kvs, q.imp (kp a ha _) fun ⟨ob, z⟩ => ⟨ob, kp a ha _ z⟩, r⟩
    | obj c ns ds =>
      obtain ⟨a, dx, fs, f, e, h1, h2, h3, h4⟩ := h
      exact ⟨a, dx, fs, f, e, kp a (by simp [h4]) _ h1, h2, sub h4 h3, h4⟩
    | non => exact ⟨sh _ v h.1, h.2⟩
    | bl b => exact ⟨sh _ v h.1, h.2⟩
    | int i => exact ⟨sh _ v h.1, h.2⟩
    | str x => exact ⟨sh _ v h.1, h.2⟩
    | tup ds => exact ⟨sh _ v h.1, h.2⟩
    | lsx ds => exact ⟨sh _ v h.1, h.2⟩
theorem Slots.monoS (sh : ∀ d v, Sh K G d v → Sh K G' d v) (ex : ∀ a φ, G a = some (.ext φ) → G' a = some (.ext φ)) : ∀ {env : Env} {σ : St} {fp : List Addr}, (∀ a ∈ fp, ∀ o, H a = some o → H' a = some o) → Slots K G H env σ fp → Slots K G' H' env σ fp
  | [], _, _, _, h => h
  | s :: env, _, _, kp, ⟨o, r, f, g, e1, e2, h1, h2⟩ => ⟨o, r, f, g, e1, e2, (by
      have kp1 : ∀ a ∈ f, ∀ o, H a = some o → H' a = some o := fun a m => kp a (by rw [e2]; exact List.mem_append_left _ m)
      cases s with
      | un => exact h1
      | sh d => obtain ⟨v, e, q, e2⟩ := h1; exact ⟨v, e, sh d v q, e2⟩
      | ow k d => obtain ⟨v, e, q⟩ := h1; exact ⟨v, e, Ow.monoS sh _ _ _ _ kp1 q⟩
      | io k d => obtain ⟨v, e, q⟩ := h1; exact ⟨v, e, Ow.monoS sh _ _ _ _ kp1 q⟩
      | tb P q =>
        obtain ⟨e0, rfl, ps, t1, t2, t3⟩ := h1
        exact ⟨e0, rfl, ps, kp1 P List.mem_cons_self _ t1, t2, fun pos cv hc => (t3 pos cv hc).imp fun c z => ⟨z.1, ex _ _ z.2⟩⟩), h2.monoS sh ex fun a m => kp a (by rw [e2]; exact List.mem_append_right _ m)⟩
end

/-! ### a lock -/
section
variable {K : PySem.W.Frag} {G H G' H' : Hp} {σ : St} {fp fp' fpr : List Addr} {env env' : Env} {a : Addr} {u : HO} {od : Obj}
theorem lock_rl (rl : Rl K G σ H env fp) (hG : G a = some u) (hH : H a = some u) (d : isD u) : Rl K (upd G a (.frz od u)) σ (upd H a (.frz od u)) env fp := by
  have nf : ∀ b ∈ fp, b ≠ a := fun b m z => by have := rl.out b m; rw [z, hG] at this; cases this
  have ir : InR G (upd G a (.frz od u)) := fun b o e => by
    by_cases c : b = a
    · rw [c, hG] at e; cases e; exact .inr ⟨u, d, .inl rfl, .inr ⟨od, by rw [c, upd_same]⟩⟩
    · exact .inl (by rw [upd_ne c]; exact e)
  refine ⟨fun b o e => ?_, rl.sl.monoS (fun d v => Sh.monoR ir d v) (fun b φ z => ir.ex (fun w => w) (by simp) z) (fun b m o e => by rw [upd_ne (nf b m)]; exact e), rl.nd, fun b m => by rw [upd_ne (nf b m)]; exact rl.out b m⟩
  by_cases c : b = a
  · rw [c, upd_same] at e; cases e; exact .inl (by rw [c, upd_same])
  · rw [upd_ne c] at e ⊢; exact rl.gin b o e
theorem unlock_post {k : Nat} {dd : D} {v : V} (rl : Rl K G σ H env fp) (hG : G a = some u) (hH : H a = some u) (d : isD u) (po : PostE K false (upd G a (.frz od u)) σ (upd H a (.frz od u)) fp env k dd env' v G' H' fp' fpr) :
    H' a = some (.frz od u) ∧ PostE K false G σ H fp env k dd env' v (upd G' a u) (upd H' a u) fp' fpr := by
  have nf : a ∉ fp := fun m => by have := rl.out a m; rw [hG] at this; cases this
  have hG' : G' a = some (.frz od u) := po.st.gg a _ upd_same
  have hH' : H' a = some (.frz od u) := po.st.keep a _ upd_same nf
  have nf' : ∀ b ∈ fp' ++ fpr, b ≠ a := fun b m z => by
    rcases List.mem_append.mp m with m | m
    · have := po.rl.out b m; rw [z, hG'] at this; cases this
    · have := po.out b m; rw [z, hG'] at this; cases this
  have ir : InR G' (upd G' a u) := fun b o e => by
    by_cases c : b = a
    · rw [c, hG'] at e; cases e; exact .inr ⟨u, d, .inr ⟨od, rfl⟩, .inl (by rw [c, upd_same])⟩
    · exact .inl (by rw [upd_ne c]; exact e)
  have sh : ∀ d v, Sh K G' d v → Sh K (upd G' a u) d v := fun d v => Sh.monoR ir d v
  refine ⟨hH', ⟨fun b o e => ?_, po.rl.sl.monoS sh (fun b φ z => ir.ex (fun w => w) (by simp) z) (fun b m o e => by rw [upd_ne (nf' b (List.mem_append_left _ m))]; exact e), po.rl.nd, fun b m => by rw [upd_ne (nf' b (List.mem_append_left _ m))]; exact po.rl.out b m⟩,
    ⟨fun b o e => ?_, fun b h => ?_, fun b m => ?_, fun b o e n => ?_⟩, Ow.monoS sh _ _ _ _ (fun b m o e => by rw [upd_ne (nf' b (List.mem_append_right _ m))]; exact e) po.ow, po.nd, fun b m => by rw [upd_ne (nf' b (List.mem_append_right _ m))]; exact po.out b m, fun h => (nomatch h)⟩
  · by_cases c : b = a
    · rw [c, upd_same] at e; cases e; exact .inl (by rw [c, upd_same])
    · rw [upd_ne c] at e ⊢; exact po.rl.gin b o e
  · by_cases c : b = a
    · rw [c, hG] at e; cases e; rw [c, upd_same]
    · rw [upd_ne c]; exact po.st.gg b o (by rw [upd_ne c]; exact e)
  · by_cases c : b = a
    · exact .inl (by rw [c, hG]; simp)
    · rw [upd_ne c] at h
      rcases po.st.gn b h with z | z | z
      · rw [upd_ne c] at z; exact .inl z
      · rcases z with z | ⟨xs, z⟩
        · rw [upd_ne c] at z; exact .inr (.inl (.inl z))
        · rw [upd_ne c] at z; exact .inr (.inl (.inr ⟨xs, z⟩))
      · exact .inr (.inr z)
  · rcases po.st.fn b m with z | z
    · exact .inl z
    · rw [upd_ne (nf' b m)] at z; exact .inr z
  · by_cases c : b = a
    · rw [c, hH] at e; cases e; rw [c, upd_same]
    · rw [upd_ne c]; exact po.st.keep b o (by rw [upd_ne c]; exact e) n
end
end VL
/-! Vl26: [e for t in d if ..], d a name that holds a dict. -/
namespace VL
open PySem PySem.Spec PyProof.Rows L2
section
variable {K : PySem.W.Frag} {G H G' H' : Hp} {σ : St} {fp fp' fpr : List Addr} {env env' : Env} {a : Addr} {u : HO} {od : Obj}
/-- locked already: G sees it, too -/
theorem lock_rl2 (rl : Rl K G σ H env fp) (hG : G a = some u) (hH : H a = some (.frz od u)) (d : isD u) : Rl K (upd G a (.frz od u)) σ H env fp := by
  have nf : ∀ b ∈ fp, b ≠ a := fun b m z => by have := rl.out b m; rw [z, hG] at this; cases this
  have ir : InR G (upd G a (.frz od u)) := fun b o e => by
    by_cases c : b = a
    · rw [c, hG] at e; cases e; exact .inr ⟨u, d, .inl rfl, .inr ⟨od, by rw [c, upd_same]⟩⟩
    · exact .inl (by rw [upd_ne c]; exact e)
  refine ⟨fun b o e => ?_, rl.sl.monoS (fun d v => Sh.monoR ir d v) (fun b φ z => ir.ex (fun w => w) (by simp) z) (fun b m o e => e), rl.nd, fun b m => by rw [upd_ne (nf b m)]; exact rl.out b m⟩
  by_cases c : b = a
  · rw [c, upd_same] at e; cases e; exact .inl (by rw [c]; exact hH)
  · rw [upd_ne c] at e; exact rl.gin b o e
theorem unlock_post2 {k : Nat} {dd : D} {v : V} (rl : Rl K G σ H env fp) (hG : G a = some u) (hH : H a = some (.frz od u)) (d : isD u) (po : PostE K false (upd G a (.frz od u)) σ H fp env k dd env' v G' H' fp' fpr) :
    PostE K false G σ H fp env k dd env' v (upd G' a u) H' fp' fpr := by
  have nf : a ∉ fp := fun m => by have := rl.out a m; rw [hG] at this; cases this
  have hG' : G' a = some (.frz od u) := po.st.gg a _ upd_same
  have hH' : H' a = some (.frz od u) := po.st.keep a _ hH nf
  have nf' : ∀ b ∈ fp' ++ fpr, b ≠ a := fun b m z => by
    rcases List.mem_append.mp m with m | m
    · have := po.rl.out b m; rw [z, hG'] at this; cases this
    · have := po.out b m; rw [z, hG'] at this; cases this
  have ir : InR G' (upd G' a u) := fun b o e => by
    by_cases c : b = a
    · rw [c, hG'] at e; cases e; exact .inr ⟨u, d, .inr ⟨od, rfl⟩, .inl (by rw [c, upd_same])⟩
    · exact .inl (by rw [upd_ne c]; exact e)
  have sh : ∀ d v, Sh K G' d v → Sh K (upd G' a u) d v := fun d v => Sh.monoR ir d v
  refine ⟨⟨fun b o e => ?_, po.rl.sl.monoS sh (fun b φ z => ir.ex (fun w => w) (by simp) z) (fun b m o e => e), po.rl.nd, fun b m => by rw [upd_ne (nf' b (List.mem_append_left _ m))]; exact po.rl.out b m⟩,
    ⟨fun b o e => ?_, fun b h => ?_, po.st.fn, po.st.keep⟩, Ow.monoS sh _ _ _ _ (fun b m o e => e) po.ow, po.nd, fun b m => by rw [upd_ne (nf' b (List.mem_append_right _ m))]; exact po.out b m, fun h => (nomatch h)⟩
  · by_cases c : b = a
    · rw [c, upd_same] at e; cases e; exact .inr ⟨d, od, by rw [c]; exact hH'⟩
    · rw [upd_ne c] at e; exact po.rl.gin b o e
  · by_cases c : b = a
    · rw [c, hG] at e; cases e; rw [c, upd_same]
    · rw [upd_ne c]; exact po.st.gg b o (by rw [upd_ne c]; exact e)
  · by_cases c : b = a
    · exact .inl (by rw [c, hG]; simp)
    · rw [upd_ne c] at h
      rcases po.st.gn b h with z | z | z
      · rw [upd_ne c] at z; exact .inl z
      · exact .inr (.inl z)
      · exact .inr (.inr z)
end
section
variable {X : Cx} {W : WX} {p q : Bool} {i : Nat} {G H : Hp} {σ : St} {fp : List Addr} {env : Env} {a : Addr} {od : Obj} {t : Bool} {ks : List D} {xs : List V}
/-- the keys of a locked dict -/
theorem wk_keys {u : HO} (rl : Rl X.K G σ H env fp) (ev : σ[i]? = some (some (.ref a))) (hG : G a = some (.frz od u)) (du : isD u) (hd : DctAt G a t ks xs) : WkAt X W false (iKeys (tVar i)) (fun e => ok (ks, e)) G σ H fp env := by
  intro R z
  have ex : ∀ H1, In G H1 → H1 a = some (.frz od u) := fun H1 hi => by
    rcases hi a _ hG with q | ⟨q, _⟩
    · exact q
    · exact q.elim
  refine ⟨.ref a, ev, a, od, rfl, ?_⟩
  rcases hd with ⟨_, kvs, h, e1, _⟩ | ⟨_, kvs, h, e1, _⟩
  · have hu : u = .dK kvs := by
      rcases h with h | ⟨_, h⟩
      · rw [hG] at h; cases h
      · rw [hG] at h; cases h; rfl
    subst hu e1
    refine .inl ⟨kvs, ex H rl.gin, z G H fp (PostR.refl rl) (Itk a od kvs) fun j H1 hi => ⟨fun hl => ⟨ex H1 hi, by simpa using hl⟩, fun hl => ⟨ex H1 hi, by simpa using hl⟩, fun x H2 hlt hy => ?_⟩⟩
    obtain ⟨rfl, k, v, hk, rfl⟩ := hy
    exact ⟨keyD k, G, by simp [hk], Same.refl' _, Same.refl' _, fun b h => .inl h, fun b o h1 h2 => (by rw [h1] at h2; cases h2), sh_kV k⟩
  · have hu : u = .dT kvs := by
      rcases h with h | ⟨_, h⟩
      · rw [hG] at h; cases h
      · rw [hG] at h; cases h; rfl
    subst hu e1
    refine .inr ⟨kvs, ex H rl.gin, z G H fp (PostR.refl rl) (Itkt a od kvs) fun j H1 hi => ⟨fun hl => ⟨ex H1 hi, by simpa using hl⟩, fun hl => ⟨ex H1 hi, by simpa using hl⟩, fun x H2 hlt hy => ?_⟩⟩
    obtain ⟨rfl, k, v, qq, hk, rfl, hq⟩ := hy
    refine ⟨.tup (k.map keyD), tupG G H2, by simp [hk], tupG_same hi, Same.refl' _, fun b h => ?_, fun b o h1 h2 => ?_, by unfold Sh; exact ⟨qq, _, rfl, tupG_tup hq, shL_kV k⟩⟩
    · rcases tupG_or (G := G) (H := H2) b with ⟨ys, e1, e2⟩ | ⟨_, e2⟩
      · exact .inr (.inr ⟨ys, e1⟩)
      · rw [e2] at h; exact .inl h
    · rcases tupG_or (G := G) (H := H2) b with ⟨ys, e1, e2⟩ | ⟨_, e2⟩
      · rw [e2] at h1; cases h1; exact e1
      · rw [e2, h2] at h1; cases h1
end
section
variable {X : Cx} {W : WX} {q : Bool} {i : Nat} {elt tg it : Expr} {ifs : List Expr} {pos : Pos} {scope : Scope} {own : List (Str × Nat)} {h : D → Env → Rs Env} {tt : Env → TR} {el : Env → ER}
theorem Res.noE {α : Type} {P : α → Prop} {E : Xn → Prop} {r : Rs α} (n : ∀ x, r ≠ some (.error x)) (z : Res P E r) : Res P (fun _ => False) r := by
  cases r with
  | none => exact z
  | some c =>
    cases c with
    | error x => exact absurd rfl (n x)
    | ok a => exact z
def eLcD (kk : Nat) (vs : List Nat) (i : Nat) (tg : D → Env → Rs Env) (tt : Env → TR) (el : Env → ER) : Env → ER := fun env => match slot env i with
  | .sh (.dct _ ks _) => eLc kk vs (fun e => ok (ks, e)) tg tt el env
  | .ow _ (.dct t ks ws) => eLc kk vs (fun e => ok (ks, e)) tg tt el (env.set i (.sh (.dct t ks ws)))
  | _ => none
theorem ve_lcD {ts : List Nat} (kk : Nat) (c : X.calm = true) (hN : X.N.Nodup) (hi : PE X it (tVar i)) (ok_ : BlkOk X.N X.env.scope scope own) (nd : (own.map (·.2)).Nodup)
    (hg : ∀ (s : Shared) (H : Hp) (C : Addr) (cl : List (Str × Addr)) (fp : List Addr), VG (X.blk s H scope (compEnvC scope cl C X.env) fp) W0 ts tg h) (hts : ∀ j ∈ ts, j ∈ own.map (·.2))
    (ht : ∀ (s : Shared) (H : Hp) (C : Addr) (cl : List (Str × Addr)) (fp : List Addr), VTs (X.blk s H scope (compEnvC scope cl C X.env) fp) W0 ifs tt)
    (he : ∀ (s : Shared) (H : Hp) (C : Addr) (cl : List (Str × Addr)) (fp : List Addr), VE (X.blk s H scope (compEnvC scope cl C X.env) fp) W0 q elt el)
    (hs : ∀ x, foldedSetIterable it X.env x = pure x := by intro _; rfl) :
    VE X W false (.ListComp elt [⟨tg, it, ifs, 0⟩] scope pos) (eLcD kk (own.map (·.2)) i h tt el) := by
  have base := pe_lc (g := cG X.K W0 ts h) (tt := cT X.K W0 tt) (te := cE X.K W0 q el) c hN (pi_keys (tg := tg) hi) ok_ (fun s H C cl fp => (hg s H C cl fp).pg) (fun s H C cl fp => (ht s H C cl fp).pts) (fun s H C cl fp => (he s H C cl fp).pe) hs (pos := pos)
  refine ⟨_, PE.or base (pe_lock base), fun G σ H fp env Q rl z => ?_⟩
  generalize own.map (·.2) = vs at z nd hts ⊢
  have main : ∀ (G : Hp) (fp : List Addr) (env : Env) (t : Bool) (ks ws : List D) (x : V), Rl X.K G σ H env fp → σ[i]? = some (some x) → Sh X.K G (.dct t ks ws) x → ResE X.K W false G σ H fp env (eLc kk vs (fun e => ok (ks, e)) h tt el env) Q →
      tLc (iKeys (tVar i)) (cG X.K W0 ts h) (cT X.K W0 tt) (cE X.K W0 q el) vs σ H Q ∨ tLockE (tLc (iKeys (tVar i)) (cG X.K W0 ts h) (cT X.K W0 tt) (cE X.K W0 q el) vs) σ H Q := by
    clear z rl
    intro G fp env t ks ws x rl ev sh z
    unfold Sh at sh
    obtain ⟨a, xs, rfl, hd, sl⟩ := sh
    have hcase : (∃ u, isD u ∧ G a = some u) ∨ ∃ u od, isD u ∧ G a = some (.frz od u) := by
      rcases hd with ⟨_, kvs, h | ⟨od, h⟩, _⟩ | ⟨_, kvs, h | ⟨od, h⟩, _⟩
      · exact .inl ⟨.dK kvs, trivial, h⟩
      · exact .inr ⟨.dK kvs, od, trivial, h⟩
      · exact .inl ⟨.dT kvs, trivial, h⟩
      · exact .inr ⟨.dT kvs, od, trivial, h⟩
    have hdl : ∀ (u : HO) (od : Obj), isD u → G a = some u → DctAt (upd G a (.frz od u)) a t ks xs := fun u od du hG => by
      rcases hd with ⟨e, kvs, h, r⟩ | ⟨e, kvs, h, r⟩
      · rcases h with h | ⟨_, h⟩
        · rw [hG] at h; cases h; exact .inl ⟨e, kvs, .inr ⟨od, upd_same⟩, r⟩
        · rw [hG] at h; cases h; exact du.elim
      · rcases h with h | ⟨_, h⟩
        · rw [hG] at h; cases h; exact .inr ⟨e, kvs, .inr ⟨od, upd_same⟩, r⟩
        · rw [hG] at h; cases h; exact du.elim
    -- no exception leaves a comprehension over keys
    have noerr : ∀ (x : Xn), eLc kk vs (fun e => ok (ks, e)) h tt el env ≠ some (.error x) := fun x hx => by
      unfold eLc at hx
      simp only [bd_ok] at hx
      unfold wp at hx
      by_cases c1 : wOk env vs = true
      · rw [if_pos c1] at hx
        simp only [bd_ok] at hx
        by_cases c2 : ks.length ≤ cap
        · rw [if_pos c2] at hx
          cases hl : lcL kk vs h tt el ks (wipeE env vs) with
          | none => rw [hl] at hx; cases hx
          | some r => rw [hl] at hx; cases r <;> cases hx
        · rw [if_neg c2] at hx; cases hx
      · rw [if_neg c1] at hx; cases hx
    rcases hcase with ⟨u, du, hG⟩ | ⟨u, od, du, hG⟩
    · rcases rl.gin a u hG with hH | ⟨_, od, hH⟩
      · refine .inr ⟨a, u, hH, (by cases u <;> first | exact trivial | exact du.elim), fun od => ?_⟩
        have rl' := lock_rl (od := od) rl hG hH du
        refine lc_run0 (kk := kk) (W := W) (p := false) nd hts (wk_keys rl' ev upd_same du (hdl u od du hG)) rl' ?_
        refine (Res.noE noerr z).imp0 fun r _ z v G' H' fp' fpr po => ?_
        obtain ⟨q1, q2⟩ := unlock_post rl hG hH du po
        exact ⟨q1, z v _ _ fp' fpr q2⟩
      · refine .inl (lc_run0 (kk := kk) (W := W) (p := false) nd hts (wk_keys (lock_rl2 rl hG hH du) ev upd_same du (hdl u od du hG)) (lock_rl2 rl hG hH du) ?_)
        exact (Res.noE noerr z).imp0 fun r _ z v G' H' fp' fpr po => z v _ _ fp' fpr (unlock_post2 rl hG hH du po)
    · exact .inl (lc_run0 (kk := kk) (W := W) (p := false) nd hts (wk_keys rl ev hG du hd) rl z)
  unfold eLcD at z
  split at z
  · rename_i t ks ws hsl
    obtain ⟨o, f, e1, ⟨v, rfl, q1, _⟩, _⟩ := rl.sl.get (slot_dat hsl (by simp))
    exact main G fp env t ks ws v rl e1 q1 z
  · rename_i k t ks ws hsl
    obtain ⟨v, G', fp', e1, po, q1⟩ := rl.freeze (slot_dat hsl (by simp))
    exact main G' fp' _ t ks ws v po.rl e1 q1 (z.imp (fun r _ z v2 G2 H2 fp2 fpr2 po2 => z v2 G2 H2 fp2 fpr2 (PostE.transR po po2)) fun x z => z.back po.st)
  · exact z.elim
end
end VL
/-! Vl27: isinstance(x, a built-in type); comprehensions over dicts as printed. -/
namespace VL
open PySem PySem.Spec PyProof.Rows L2
/-- the type of plain data -/
def D.ty : D → Option String
  | .non => some "NoneType"
  | .bl _ => some "bool"
  | .int _ => some "int"
  | .str _ => some "str"
  | .tup _ => some "tuple"
  | .lst _ => some "list"
  | .dct false _ _ => some "dict"
  | _ => none
/-- isinstance, of the seven types -/
def tyIn (a b : String) : Bool := decide (a = b) || (decide (a = "bool") && decide (b = "int"))
def tys : List String := ["int", "str", "bool", "dict", "list", "tuple"]
theorem kit_tab : (["NoneType", "bool", "int", "str", "tuple", "list", "dict"].all fun a => tys.all fun b => decide (kitB a b = some (tyIn a b))) = true := by decide +kernel
theorem kit_at {a b : String} (ha : a ∈ ["NoneType", "bool", "int", "str", "tuple", "list", "dict"]) (hb : b ∈ tys) : kitB a b = some (tyIn a b) := by
  have := List.all_eq_true.mp (List.all_eq_true.mp kit_tab a ha) b hb
  exact of_decide_eq_true this
theorem ty_mem {d : D} {a : String} (h : d.ty = some a) : a ∈ ["NoneType", "bool", "int", "str", "tuple", "list", "dict"] := by
  unfold D.ty at h
  split at h <;> first | (cases h; simp) | cases h
theorem ty_x {K : PySem.W.Frag} {H : Hp} {d : D} {a : String} {x : V} (h : d.ty = some a) (s : Sh K H d x) : TyX K H x (.type a) := by
  cases d with
  | non => cases h; unfold Sh at s; rw [s]; exact .base .non
  | bl b => cases h; unfold Sh at s; rw [s]; exact .base (.bl b)
  | int i => cases h; unfold Sh at s; rw [s]; exact .base (.int i)
  | str z => cases h; unfold Sh at s; rw [s]; exact .base (.str z)
  | tup ds => cases h; unfold Sh at s; obtain ⟨a, xs, rfl, hh, _⟩ := s; exact .base (.tup hh)
  | lst ds => cases h; unfold Sh at s; obtain ⟨a, xs, rfl, hh, _⟩ := s; exact .base (.lst hh)
  | dct t ks ds =>
    cases t with
    | true => cases h
    | false =>
      cases h
      unfold Sh at s
      obtain ⟨a, xs, rfl, hh, _⟩ := s
      rcases hh with ⟨_, kvs, h | ⟨o, h⟩, _⟩ | ⟨z, _⟩
      · exact .base (.dK h)
      · exact .fDict h
      · cases z
  | lsx ds => cases h
  | obj c ns ds => cases h
section
variable {X : Cx} {W : WX} {p q : Bool} {a : Expr} {g : Env → RR} {lv : Nat} {N : List Str} {sc : Scope} {p1 p2 pos : Pos} {T : Str}
def eIsI (T : String) (g : Env → RR) : Env → TR := fun env => bd (g env) fun r => bd (opt r.1.ty) fun a => ok (tyIn a T, r.2)
theorem w_isi (Ts : String) (B : Bx X W lv N sc) (hT : Ts ∈ tys) (hv : bootBuiltins T = some (.type Ts)) (hm : X.mg "isinstance" = none) (hg : glB sc "isinstance" = true) (hm2 : X.mg T = none) (hg2 : glB sc T = true) (ha : VR X W p a g) (hn : T ≠ "__name__" := by decide) (hd : (T == ("__debug__" : Str)) = false := by decide)
    (he : starEach [a, .Name T p2] X.env = (false, eval a X.env) :: starEach [.Name T p2] X.env := by rfl) (he2 : starEach [.Name T p2] X.env = (false, eval (.Name T p2) X.env) :: starEach [] X.env := by rfl) (hpl : (backTo pos (starEach [.Name T p2] X.env)).any (·.1) = false := by rfl) :
    VB X W p (.Call (.Name "isinstance" p1) [a, .Name T p2] [] pos) (eIsI Ts g) := by
  obtain ⟨ta, ha, ra⟩ := ha.ex
  refine ⟨_, pe_callB call_isi (B.gl hg) hm PyProof.Rows.boot_isinstance (pa_cons ha (pa_cons (pe_bltn (v := .ty Ts) (B.gl hg2) hm2 hv rfl hn hd) pa_nil he2) he) (he := he) (hpl := hpl), fun G σ H fp env Q rl z => ra G σ H fp env _ rl ?_⟩
  unfold eIsI ResT at z
  rw [Res.bd] at z
  refine z.imp (fun r er z v G1 H1 fp1 po1 sh => ?_) fun x z => z
  rw [Res.bd] at z
  obtain ⟨t, ht, z⟩ := z.opt
  exact ⟨v, .ty Ts, .type t, .type Ts, tyIn t Ts, rfl, .ty Ts, ty_x ht sh, kit_ty (kit_at (ty_mem ht) hT), z G1 H1 fp1 po1⟩
end
section
variable {X : Cx} {W : WX} {lv : Nat} {N : List Str} {sc : Scope} {q : Bool} {i : Nat} {elt tg it : Expr} {ifs : List Expr} {pos : Pos} {scope : Scope} {h : D → Env → Rs Env} {tt : Env → TR} {el : Env → ER}
theorem w_lcD {ts : List Nat} (own : List (Str × Nat)) (kk : Nat) (B : Bx X W lv N sc) (hn : N.Nodup) (hi : PE X it (tVar i)) (hb : blkB N sc scope own = true) (nd : (own.map (·.2)).Nodup)
    (hg : ∀ (s : Shared) (H : Hp) (C : Addr) (cl : List (Str × Addr)) (fp : List Addr), Bx (X.blk s H scope (compEnvC scope cl C X.env) fp) W0 lv N scope → VG (X.blk s H scope (compEnvC scope cl C X.env) fp) W0 ts tg h) (hts : ∀ j ∈ ts, j ∈ own.map (·.2))
    (ht : ∀ (s : Shared) (H : Hp) (C : Addr) (cl : List (Str × Addr)) (fp : List Addr), Bx (X.blk s H scope (compEnvC scope cl C X.env) fp) W0 lv N scope → VTs (X.blk s H scope (compEnvC scope cl C X.env) fp) W0 ifs tt)
    (he : ∀ (s : Shared) (H : Hp) (C : Addr) (cl : List (Str × Addr)) (fp : List Addr), Bx (X.blk s H scope (compEnvC scope cl C X.env) fp) W0 lv N scope → VE (X.blk s H scope (compEnvC scope cl C X.env) fp) W0 q elt el)
    (hs : ∀ x, foldedSetIterable it X.env x = pure x := by intro _; rfl) :
    VE X W false (.ListComp elt [⟨tg, it, ifs, 0⟩] scope pos) (eLcD kk (own.map (·.2)) i h tt el) :=
  ve_lcD kk B.cf.calm (B.nd hn) hi (B.blkOk hb) nd (fun s H C cl fp => hg s H C cl fp B.blk) hts (fun s H C cl fp => ht s H C cl fp B.blk) (fun s H C cl fp => he s H C cl fp B.blk) hs
end
end VL
/-! Vl28: x is True, x is False. -/
namespace VL
open PySem PySem.Spec PyProof.Rows L2
/-- x is b -/
def rIsBx : R2 := fun x y H Q => ∃ b : Bool, y = .bl b ∧ (∀ t, x ≠ .ty t) ∧ (∀ t, x ≠ .flt t) ∧ (∀ t, x ≠ .byt t) ∧ Q (.bl (decide (x = .bl b))) H
theorem op_isBx {X : Cx} : OpR X (compareOp .Is) rIsBx := by
  intro pins s σ H x y v u Q I rx ry h
  obtain ⟨b, rfl, n1, n2, n3, q⟩ := h
  cases (show u = Value.bool b from ry)
  cases x with
  | bl a =>
    cases (show v = Value.bool a from rx)
    by_cases e : a = b
    · subst e
      exact wpAny_is_self rfl ⟨.bl true, H, I, rfl, by simpa using q⟩
    · exact wpAny_is_other rfl (fun z => e (Value.bool.inj z)) ⟨.bl false, H, I, rfl, by simpa [e] using q⟩
  | non =>
    cases (show v = Value.none from rx)
    exact wpAny_is_other rfl (fun z => nomatch z) ⟨.bl false, H, I, rfl, by simpa using q⟩
  | int i =>
    obtain ⟨t, rfl⟩ := (show ∃ t, v = Value.int i t from rx)
    exact wpAny_is_other rfl (fun z => nomatch z) ⟨.bl false, H, I, rfl, by simpa using q⟩
  | str z =>
    obtain ⟨t, rfl⟩ := (show ∃ t, v = Value.str z t from rx)
    exact wpAny_is_other rfl (fun z => nomatch z) ⟨.bl false, H, I, rfl, by simpa using q⟩
  | ref a =>
    cases (show v = Value.ref a from rx)
    exact wpAny_is_other rfl (fun z => nomatch z) ⟨.bl false, H, I, rfl, by simpa using q⟩
  | ty t => exact absurd rfl (n1 t)
  | flt t => exact absurd rfl (n2 t)
  | byt t => exact absurd rfl (n3 t)
def isBl (b : Bool) : D → Bool
  | .bl a => a == b
  | _ => false
/-- is None, is True, is False -/
def gIs : D → D → Option D := fun a b => match b with
  | .non => some (.bl (isNon a))
  | .bl c => some (.bl (isBl c a))
  | _ => none
theorem isBl_v {K : PySem.W.Frag} {H : Hp} {d : D} {x : V} {b : Bool} (h : Sh K H d x) : isBl b d = decide (x = .bl b) ∧ (∀ t, x ≠ .ty t) ∧ (∀ t, x ≠ .flt t) ∧ (∀ t, x ≠ .byt t) := by
  cases d <;> unfold Sh at h
  · rw [h]; exact ⟨by simp [isBl], by simp, by simp, by simp⟩
  · rename_i c; rw [h]; exact ⟨by cases b <;> cases c <;> rfl, by simp, by simp, by simp⟩
  · rw [h]; exact ⟨by simp [isBl], by simp, by simp, by simp⟩
  · rw [h]; exact ⟨by simp [isBl], by simp, by simp, by simp⟩
  · obtain ⟨a, _, rfl, _⟩ := h; exact ⟨by simp [isBl], by simp, by simp, by simp⟩
  · obtain ⟨a, _, rfl, _⟩ := h; exact ⟨by simp [isBl], by simp, by simp, by simp⟩
  · obtain ⟨a, _, rfl, _⟩ := h; exact ⟨by simp [isBl], by simp, by simp, by simp⟩
  · obtain ⟨a, _, rfl, _⟩ := h; exact ⟨by simp [isBl], by simp, by simp, by simp⟩
  · obtain ⟨a, _, _, rfl, _⟩ := h; exact ⟨by simp [isBl], by simp, by simp, by simp⟩
theorem cw_isA {X : Cx} : CmpW X .Is gIs := by
  refine ⟨_, (show OpR X (compareOp .Is) (fun x y H Q => (y = .non ∧ Q (.bl (decide (x = .non))) H) ∨ rIsBx x y H Q) from fun pins s σ H x y v u Q I rx ry h => h.elim (fun h => op_isN pins s σ H x y v u Q I rx ry h) (fun h => op_isBx pins s σ H x y v u Q I rx ry h)), ?_⟩
  intro x y d1 d2 d H Q e s1 s2 q
  cases d2 <;> unfold gIs at e <;> first | cases e | skip
  · unfold Sh at s2
    exact .inl ⟨s2, q _ (by rw [isNon_v s1]; rfl)⟩
  · rename_i b
    unfold Sh at s2
    obtain ⟨h1, h2, h3, h4⟩ := isBl_v (b := b) s1
    exact .inr ⟨b, s2, h2, h3, h4, q _ (by rw [h1]; rfl)⟩
end VL
/-! Vl29: len of anything. -/
namespace VL
open PySem PySem.Spec PyProof.Rows L2
def rLenDct : List V → Hp → VK → Prop := fun xs H Q => ∃ (a : Addr) (t : Bool) (ks : List D) (ys : List V), xs = [.ref a] ∧ DctAt H a t ks ys ∧ Q (.int ((ks.length : Nat) : Int)) H
theorem call_lenDct {X : Cx} : CallR X (.builtin "len") rLenDct := by
  intro pins s σ H xs us Q I r h
  obtain ⟨a, t, ks, ys, rfl, hd, q⟩ := h
  obtain ⟨u, rfl, ru⟩ := vals1 r
  cases ru
  rcases hd with ⟨_, kvs, h, e1, _⟩ | ⟨_, kvs, h, e1, _⟩
  · subst e1
    rw [List.length_map] at q
    exact d_len I h fun t s' I' => ⟨.int kvs.length, H, I', ⟨t, rfl⟩, q⟩
  · subst e1
    rw [List.length_map] at q
    obtain ⟨z, hd, zs, rel, dd⟩ := dt_rd I.hok h
    have hl : kvs.length = zs.length := Paired.length rel
    refine call_len_dictH hd dd (by rw [← hl]; rw [sizeLine_eq] at z; omega) ?_
    rw [← hl]
    exact ⟨.int ((kvs.length : Nat) : Int), H, I.tok _, ⟨_, rfl⟩, q⟩
def gLenA : List D → Option D
  | [.dct _ ks _] => some (.int ((ks.length : Nat) : Int))
  | ds => gLen ds
theorem sc_lenA {K : PySem.W.Frag} : ScCall K (fun xs H Q => (∃ x, ∃ n : Nat, xs = [x] ∧ LenV K x H n ∧ Q (.int n) H) ∨ rLenDct xs H Q) gLenA := by
  intro xs ds d H Q e s q
  unfold gLenA at e
  split at e
  · cases e
    obtain ⟨x, r, rfl, s1, s2⟩ := s.cons_inv
    rw [s2.nil_inv]
    unfold Sh at s1
    obtain ⟨a, ys, rfl, h, _⟩ := s1
    exact .inr ⟨a, _, _, ys, rfl, h, q _ rfl⟩
  · exact .inl (sc_len xs ds d H Q e s q)
section
variable {X : Cx} {W : WX} {p : Bool} {e : Expr} {fa : Env → AR} {pos pp : Pos} {lv : Nat} {N : List Str} {sc : Scope}
theorem w_lenA (B : Bx X W lv N sc) (hm : X.mg "len" = none) (hg : glB sc "len" = true) (ha : VRA X W p [e] fa) (he : starEach [e] X.env = (false, eval e X.env) :: starEach [] X.env := by rfl) (hpl : (backTo pos (starEach [] X.env)).any (·.1) = false := by rfl) : VE X W p (.Call (.Name "len" pp) [e] [] pos) (eCallB gLenA fa) :=
  ve_callB sc_lenA (fun h => pe_callB (call_len.or call_lenDct) (B.gl hg) hm boot_len h (he := he) (hpl := hpl)) ha
end
end VL
/-! Vl30: try whose body raises nothing. -/
namespace VL
open PySem PySem.Spec PyProof.Rows L2
/-- the body lets nothing out: the clauses are not looked at -/
theorem ps_try_calm {X : Cx} {body : List Stmt} {h₀ : ExceptHandler} {hds : List ExceptHandler} {pos : Pos} {t : TS} (hb : ∀ pn : List (Addr × Obj), PSs (X.tr pn fun _ _ => False) body t) : PS X (.Try body (h₀ :: hds) [] [] pos) t := by
  refine ⟨fun pins s σ H D I h => ?_⟩
  have ok := I.ok
  refine wpAny_Try_except ?_
  refine wpAny_mono ((hb (X.pn ++ pins)).run [] s σ H D (I.toTry _) h) (fun f s1 hsp => ?_) (fun e s1 he => he.elim)
  cases f with
  | next =>
    obtain ⟨σ', H', J', q⟩ := hsp
    exact wpAny_execs_nil ⟨σ', H', J'.ofTry ok, q⟩
  | brk =>
    obtain ⟨σ', H', J', q⟩ := hsp
    exact ⟨σ', H', J'.ofTry ok, q⟩
  | cont =>
    obtain ⟨σ', H', J', q⟩ := hsp
    exact ⟨σ', H', J'.ofTry ok, q⟩
  | ret u =>
    obtain ⟨v, σ', H', J', r, q⟩ := hsp
    exact ⟨v, σ', H', J'.ofTry ok, r, q⟩
/-- told(ask): try: return ('told', ask()) except .., nothing raised -/
def TTold (z : Str) : (XK → Hp → VK → Prop) → Hp → VK → Prop := fun tl H Q => tl E0 H fun v H' => ([V.str z, v] : List V).length ≤ sizeLine ∧ ∀ p, H' p = none → Q (.ref p) (upd H' p (.tup [.str z, v]))
theorem told_gives {X : Cx} {Ng : List Str} {x a q z : Str} {sg : Scope} {g : Addr} {cdg : Value} {j k : Nat} {hh : ExceptHandler} {hds : List ExceptHandler} {p1 p2 p3 p4 p5 p6 : Pos} (h0 : ∀ f : Addr, (L2.start Ng [V.ref f])[0]? = some (some (V.ref f))) :
    LamX.GivesTo X Ng x sg g cdg [.Try [.Return (some (.Tuple [.Constant (.str z) j p5, .Call (.Name a p1) [] [] p2] k p4)) p3] (hh :: hds) [] [] p6] a q (TTold z) := by
  intro f c' s H Q tl act hc h
  refine ⟨_, pss_one (ps_try_calm (t := fun D σ H => σ[0]? = some (some (.ref f)) ∧ H c' = some (LamX.CodeO c' q) ∧ tl E0 H fun v H' => ([V.str z, v] : List V).length ≤ sizeLine ∧ ∀ p, H' p = none → D.rt (.ref p) (upd H' p (.tup [.str z, v]))) fun pn => ⟨fun pins s' σ H' D I h' => ?_⟩), h0 f, hc, h⟩
  obtain ⟨h1, h2, h3⟩ := h'
  have hp := act (fun _ _ _ _ => False) pn (fun _ _ => False) E0 p1 p2 LamX.takes0 (fun _ _ _ _ z => z)
  have hq := pss_one (ps_ret (pos := p3) (pe_tup (x1 := k) (pos := p4) (pa_cons (pe_str (x := z) (j := j) (pos := p5)) (pa_cons hp pa_nil))))
  refine hq.run pins s' σ H' D I ⟨h1, h2, ?_⟩
  exact h3
end VL
/-! Vl31: blocks of a def that makes lambdas: its table of code objects is kept till then. -/
namespace VL
open PySem PySem.Spec PyProof.Rows L2
/-- a block, read where the object at P stands and is nobody's -/
structure VSsT (X : Cx) (W : WX) (P : Addr) (o : HO) (st : List Stmt) (g : Env → SR) : Prop where
  ex : ∃ t, PSs X st t ∧ ∀ G σ H fp env En, Rl X.K G σ H env fp → H P = some o → P ∉ fp → ResS X.K W G σ H fp env (g env) En → t En σ H
section
variable {X : Cx} {W : WX} {P : Addr} {o : HO} {st : Stmt} {sts : List Stmt} {s s1 s2 : Env → SR}
theorem vsst_of (h : VSs X W sts s) : VSsT X W P o sts s := by
  obtain ⟨t, ht, hr⟩ := h.ex
  exact ⟨t, ht, fun G σ H fp env En rl _ _ z => hr G σ H fp env En rl z⟩
theorem vsst_cons (h1 : VS X W st s1) (h2 : VSsT X W P o sts s2) : VSsT X W P o (st :: sts) (sSeq s1 s2) := by
  obtain ⟨t1, h1, r1⟩ := h1.ex
  obtain ⟨t2, h2, r2⟩ := h2.ex
  refine ⟨_, pss_cons h1 h2, fun G σ H fp env En rl hP nP z => r1 G σ H fp env _ rl ?_⟩
  unfold sSeq ResS at z
  rw [Res.bd] at z
  refine z.imp (fun r _ z σ' G' H' fp' fpr po => ?_) fun x z => z
  obtain ⟨fl, env1⟩ := r
  cases fl with
  | nx =>
    intro e0
    subst e0
    refine r2 G' σ' H' fp' env1 En po.rl (po.st.keep P o hP nP) (fun m => ?_) (z.imp (fun r' _ z σ2 G2 H2 fp2 fpr2 po2 => z σ2 G2 H2 fp2 fpr2 (po.trans po2)) fun x z => z.back po.st0)
    rcases po.st0.fn P m with q | q
    · exact nP q
    · rw [hP] at q; cases q
  | bk => exact fun e0 => z σ' G' H' fp' fpr po e0
  | ct => exact fun e0 => z σ' G' H' fp' fpr po e0
  | rt k d => exact fun v hv => z σ' G' H' fp' fpr po v hv
end
/-- .. that promises only the scalar that is returned -/
structure VSsF (X : Cx) (W : WX) (P : Addr) (o : HO) (st : List Stmt) (g : Env → Rs D) : Prop where
  ex : ∃ t, PSs X st t ∧ ∀ G σ H fp env En, Rl X.K G σ H env fp → H P = some o → P ∉ fp → Res (fun d => ∀ v H', scV d = some v → En.rt v H') (fun _ => False) (g env) → t En σ H
section
variable {X : Cx} {W : WX} {P : Addr} {o : HO} {st : Stmt} {sts : List Stmt} {s s1 : Env → SR} {g : Env → Rs D}
def fSeq (s1 : Env → SR) (g : Env → Rs D) : Env → Rs D := fun env => bd (s1 env) fun r => match r.1 with
  | .nx => g r.2
  | .rt _ d => bd (opt (scV d)) fun _ => ok d
  | _ => none
theorem vssf_cons (h1 : VS X W st s1) (h2 : VSsF X W P o sts g) : VSsF X W P o (st :: sts) (fSeq s1 g) := by
  obtain ⟨t1, h1, r1⟩ := h1.ex
  obtain ⟨t2, h2, r2⟩ := h2.ex
  refine ⟨_, pss_cons h1 h2, fun G σ H fp env En rl hP nP z => r1 G σ H fp env _ rl ?_⟩
  unfold fSeq at z
  rw [Res.bd] at z
  refine z.imp (fun r _ z σ' G' H' fp' fpr po => ?_) fun x z => z.elim
  obtain ⟨fl, env1⟩ := r
  cases fl with
  | nx =>
    intro e0
    subst e0
    refine r2 G' σ' H' fp' env1 En po.rl (po.st.keep P o hP nP) (fun m => ?_) z
    rcases po.st0.fn P m with q | q
    · exact nP q
    · rw [hP] at q; cases q
  | bk => exact z.elim
  | ct => exact z.elim
  | rt k d =>
    have z : Res _ _ (bd (opt (scV d)) fun _ => ok d) := z
    rw [Res.bd] at z
    obtain ⟨w, hw, z⟩ := z.opt
    refine fun v hv => z v H' ?_
    have sv := Ow.toSh po.rl.gin k d v fpr hv
    rw [sh_scV sv hw]
    exact hw
end
end VL
set_option maxHeartbeats 2000000
/-! Vl32: a lambda handed to a def: the maker's table is known exactly. -/
namespace VL
open PySem PySem.Spec PyProof.Rows L2
/-- the table at P after a lambda was made: as it was, or grown by a new code object -/
def LamTo (H : Hp) (P : Addr) (ps : Array Value) (lp : Pos) (q : Str) (c1 : Addr) (H1 : Hp) : Prop :=
  (H1 = H ∧ codeAmong lp ps.toList = some (.ref c1) ∧ H c1 = some (LamX.CodeO c1 q)) ∨
  (H c1 = none ∧ c1 ≠ P ∧ H1 = upd (upd H P (.tbl (ps ++ #[rawInt lp.line, rawInt lp.col, .ref c1]))) c1 (LamX.CodeO c1 q))
theorem lam_new {X : Cx} {pins : List (Addr × Obj)} {σ : L2.St} {H : Hp} {s : Shared} {c P : Addr} {ps : Array Value} {pr : Arguments} {bd : Expr} {sc : Scope} {lp : Pos} {E Q : Value → Shared → Prop}
    (I : Inv X pins σ H s) (TB : LamX.TabB X.base X.mg c P) (hcode : X.env.code = .ref c) (hP : H P = some (.tbl ps)) (ht : TriplesOk ps.toList)
    (hdef : defaultsOf pr X.env = ([], [])) (hfree : ∀ y ∈ sc.names, y.2 = .free → ∃ c, X.env.cells.lookup y.1 = some c)
    (ha : ∀ cv, codeAmong lp ps.toList = some cv → ∃ c1, cv = .ref c1 ∧ H c1 = some (LamX.CodeO c1 (X.env.qual ++ "<lambda>")))
    (h : ∀ (f c1 : Addr) (pm ctv : Value) (H1 : Hp) (s1 : Shared), Inv X pins σ H1 s1 → LamTo H P ps lp (X.env.qual ++ "<lambda>") c1 H1 →
      s1.heap.get? f = some (PySem.W.kla_obj "<lambda>" (X.env.qual ++ "<lambda>") pr bd sc (cloFrom X.env.cells sc.names []) pm c1 ctv) → H1 f = none → f ∉ frs X.stack → H1 c1 = some (LamX.CodeO c1 (X.env.qual ++ "<lambda>")) → Q (.ref f) s1) :
    wpAny (model X.prog X.w) X.A (eval (.Lambda pr bd sc lp) X.env) Q E s := by
  refine PySem.W.kla_eval hdef ?_
  have atP : s.heap.get? P = some { cls := .none, data := .fields ps } := I.hok P _ hP
  have away : ∀ b, s.heap.objs.size ≤ b → b ∉ frs X.stack := fun b hb m => by
    rcases List.mem_cons.mp (I.stkSub _ m) with e | e
    · have lt := I.lt
      rw [← e] at lt
      exact absurd (Nat.lt_of_lt_of_le lt hb) (Nat.lt_irrefl _)
    · exact I.nofs hb e
  cases hc : codeAmong lp ps.toList with
  | some cv =>
    obtain ⟨c1, e, hco⟩ := ha cv hc
    subst e
    refine PySem.W.kla_makeFunctionHit (mg := X.mg) (c := c) (P := P) (ps := ps) (closure_ok hfree) I.ok.glob (I.mod.glob.keeps I.bk) hcode (TB.code.keeps I.bk) atP ht hc (TB.bm.keeps I.bk) fun ctv hp tk keep size => ?_
    refine h hp.objs.size c1 ((X.mg "__name__").getD .none) ctv H _ (I.kept fun b o e => Heap.get?_push_of_some _ (keep b o e)) (.inl ⟨rfl, hc, hco⟩) (Heap.get?_push_size _ rfl) (I.hok.fresh size) (away _ size) hco
  | none =>
    refine PySem.W.kla_makeFunction (mg := X.mg) (c := c) (P := P) (ps := ps) (closure_ok hfree) I.ok.glob (I.mod.glob.keeps I.bk) hcode (TB.code.keeps I.bk) atP ht hc TB.gP (TB.bm.keeps I.bk) fun c1 ctv hp tk keep ge lt rec_ tab => ?_
    obtain ⟨c2, oc, vs, t, e2, o1, o2, o3⟩ := rec_
    cases e2
    have size : s.heap.objs.size ≤ hp.objs.size := Nat.le_of_lt (Nat.lt_of_le_of_lt ge lt)
    have new1 : H c1 = none := I.hok.fresh ge
    have nP1 : c1 ≠ P := fun z => by rw [z, hP] at new1; cases new1
    have J := LamX.inv_table (t' := tk) (more := #[rawInt lp.line, rawInt lp.col, .ref c1]) (q := X.env.qual ++ "<lambda>") (c := c1)
      (h' := hp.push (PySem.W.kla_obj "<lambda>" (X.env.qual ++ "<lambda>") pr bd sc (cloFrom X.env.cells sc.names []) ((X.mg "__name__").getD .none) c1 ctv)) I hP
      (fun b o nb e => Heap.get?_push_of_some _ (keep b o nb e)) (Heap.get?_push_of_some _ tab) ge ⟨oc, vs, t, Heap.get?_push_of_some _ o1, o2, o3⟩
    have nf1 : hp.objs.size ≠ c1 := fun z => Nat.ne_of_lt lt z.symm
    have nf2 : hp.objs.size ≠ P := fun z => by
      have l2 := Nat.lt_of_lt_of_le (Heap.lt_size atP) size
      rw [z] at l2
      exact Nat.lt_irrefl _ l2
    refine h hp.objs.size c1 ((X.mg "__name__").getD .none) ctv _ _ J (.inr ⟨new1, nP1, rfl⟩) (Heap.get?_push_size _ rfl) ?_ (away _ size) upd_same
    rw [upd_ne nf1, upd_ne nf2]
    exact I.hok.fresh size
/-- x(lambda: body), told exactly -/
def tLamX (P : Addr) (q : Str) (lp : Pos) (TT : (XK → Hp → VK → Prop) → Hp → VK → Prop) (t : XK → TE) : TE := fun σ H Q =>
  ∃ ps, H P = some (.tbl ps) ∧ TriplesOk ps.toList ∧ (∀ cv, codeAmong lp ps.toList = some cv → ∃ c1, cv = .ref c1 ∧ H c1 = some (LamX.CodeO c1 q)) ∧
    ∀ c1 H1, LamTo H P ps lp q c1 H1 → TT (fun E H2 Q2 => t E σ H2 Q2) H1 Q
theorem pe_lamX {X : Cx} {TT : (XK → Hp → VK → Prop) → Hp → VK → Prop} {x a : Str} {g c P : Addr} {k : Nat} {pg : Arguments} {bg : List Stmt} {sg : Scope} {dV kV doc pm cdv ct oc : Value} {an od : Option Addr} {osl : Array (Option Value)} {Ng : List Str}
    {pr : Arguments} {bd : Expr} {sc : Scope} {t : XK → TE} {p1 lp pos : Pos} (hg : Gl X x) (hm : X.mg x = some (.ref g)) (hk : PySem.W.keepIn X.K (.ref g) = true)
    (lk : X.K.lookup g = some ⟨oc, od, .func (PySem.W.fnOf x x pg bg sg dV kV doc pm an cdv ct), osl⟩) (hcg : PySem.W.codeIn X.K cdv x = true) (hb : L2.Binds X.K (PySem.W.fnOf x x pg bg sg dV kV doc pm an cdv ct) [a] []) (Sg : FnScope Ng [a] sg) (hNg : Ng[0]? = some a) (hva : Vis sg a)
    (hG : LamX.GivesTo X Ng x sg g cdv bg a (X.env.qual ++ "<lambda>") TT)
    (TB : LamX.TabB X.base X.mg c P) (hcode : X.env.code = .ref c) (hr : Room (k + 2) X.A) (L : LamX.LamS X.env.scope sc) (hdef : defaultsOf pr X.env = ([], []))
    (hbind : ∀ (q : Str) (cl : List (Str × Addr)) (pm cv ctv : Value), bindArgs (PySem.W.kla_fn "<lambda>" q pr bd sc cl pm cv ctv) ⟨[], []⟩ = pure [])
    (hbody : ∀ (A : Around) (outer : List PySem.Env) (s : Shared) (H : Hp) (E : XK) (f c1 : Addr), Room k (A.deeper (LamX.lamEnv X sc s.heap.objs.size f c1)) → PE (LamX.lamCx X A outer s H E sc f c1) bd (t E))
    (hdb : (x == ("__debug__" : Str)) = false := by decide) (hd : (a == ("__debug__" : Str)) = false := by decide) (hcd : (a == ("__classdict__" : Str)) = false := by decide) :
    PE X (.Call (.Name x p1) [.Lambda pr bd sc lp] [] pos) (tLamX P (X.env.qual ++ "<lambda>") lp TT t) := by
  refine ⟨fun pins s σ H Q I h => ?_⟩
  obtain ⟨ps, hP, ht, ha, h⟩ := h
  refine wpAny_Call_Name_kw (ld_glob I hg hm ?_ hdb)
  refine PySem.W.callWith_K (h₀ := X.base) I.ok.mod.kin hk ?_ (by rfl) (by rfl)
  show wpAny _ _ (spliced ((false, eval (.Lambda pr bd sc lp) X.env) :: backTo pos (starEach [] X.env))) _ _ s
  refine Calls.spliced_cons (lam_new I TB hcode hP ht hdef (L.has I.ok) ha fun f c1 pm1 ctv H1 s1 I1 to of1 hfn hfr hco => ?_)
  refine Calls.spliced_nil ⟨I1.kIn, ?_⟩
  have run : codeAny (model X.prog X.w) X.A (.call (.ref g) ⟨[.ref f], []⟩) (CR C8.CX0 X.stack X.prog X.w H1 s1 Q C8.E0) s1 := by
    refine LamX.run_ofS (N := Ng) (ps := [a]) (us := [.ref f]) (vs := [.ref f]) lk hcg Sg hr I1.env0 (hb s1 [.ref f] I1.kIn rfl) (.cons rfl .nil) rfl fun hr1 => ?_
    obtain ⟨t1, ht1, hq1⟩ := hG f c1 s1 H1 Q (fun E H2 Q2 => t E σ H2 Q2) (fun W pn xe E q1 q2 tk hW => LamX.pe_act (i := 0) I1 L of1 hfn hfr (hbind _ _ _ _ _) tk hW hr1 (fun A outer s H hr2 => hbody A outer s H E f c1 hr2) hNg hva hd hcd) hco (h c1 H1 to)
    exact ⟨t1, ht1.nox, hq1⟩
  refine wpAny_call (codeAny_mono run fun r s2 hq => ?_)
  cases r with
  | ok fl =>
    cases fl with
    | next => exact hq.elim
    | brk => exact hq.elim
    | cont => exact hq.elim
    | ret u => exact I1.after hq
  | error e => exact (show False from hq).elim
end VL
/-! Vl33: told(lambda: ..) as an expression. -/
namespace VL
open PySem PySem.Spec PyProof.Rows L2
section
variable {K : PySem.W.Frag} {G H H1 : Hp} {σ : St} {fp : List Addr} {env : Env} {P c1 : Addr} {q : Str} {lp : Pos} {i : Nat}
/-- the codes of a table's slot -/
theorem tb_codes {ps : Array Value} (r : Rl K G σ H env fp) (ha : ∀ (pos : Pos) (cv : Value), codeAmong pos ps.toList = some cv → ∃ c, cv = .ref c ∧ G c = some (LamX.CodeO c q)) :
    ∀ (pos : Pos) (cv : Value), codeAmong pos ps.toList = some cv → ∃ c, cv = .ref c ∧ H c = some (LamX.CodeO c q) := fun pos cv hc => by
  obtain ⟨c, e, g⟩ := ha pos cv hc
  refine ⟨c, e, ?_⟩
  rcases r.gin _ _ g with z | ⟨d, _⟩
  · exact z
  · unfold LamX.CodeO isD at d; exact d.elim
/-- a lambda was made: the state behind -/
theorem Rl.lam (r : Rl K G σ H env fp) (hi : env[i]? = some (.tb P q)) {ps : Array Value} (hP : H P = some (.tbl ps)) (to : LamTo H P ps lp q c1 H1) : ∃ G1 fp1, PostR K false G σ H fp env env G1 H1 fp1 := by
  rcases to with ⟨rfl, _, _⟩ | ⟨n1, nP, rfl⟩
  · exact ⟨G, fp, r, Stp.refl G _ fp, fun z => nomatch z⟩
  obtain ⟨o, f, fr, e1, sl, nd, hm, put⟩ := r.sl.put r.nd hi
  obtain ⟨rfl, rfl, ps', hP', ht, ha⟩ := sl
  rw [hP] at hP'
  cases hP'
  have inP : P ∈ fp := (hm P).mpr (.inl List.mem_cons_self)
  have gP : G P = none := r.out P inP
  have gn1 : G c1 = none := by
    cases e : G c1 with
    | none => rfl
    | some u => rcases r.gin c1 u e with z | ⟨_, _, z⟩ <;> rw [n1] at z <;> cases z
  have sG : Same G (upd G c1 (LamX.CodeO c1 q)) := same_upd gn1
  have at_ : ∀ b u, H b = some u → b ≠ P → upd (upd H P (.tbl (ps ++ #[rawInt lp.line, rawInt lp.col, .ref c1]))) c1 (LamX.CodeO c1 q) b = some u := fun b u e nb => by
    rw [upd_ne (ne_of_none e n1), upd_ne nb]; exact e
  have nfr : P ∉ fr := fun m => (List.nodup_append.mp nd).2.2 P List.mem_cons_self P m rfl
  obtain ⟨fp1, s1, nd1, m1⟩ := put (G' := upd G c1 (LamX.CodeO c1 q)) (H' := upd (upd H P (.tbl (ps ++ #[rawInt lp.line, rawInt lp.col, .ref c1]))) c1 (LamX.CodeO c1 q)) (s' := .tb P q) (o' := none) (f' := [P]) sG
    (fun b m u e => at_ b u e fun z => nfr (z ▸ m))
    ⟨rfl, rfl, ps ++ #[rawInt lp.line, rawInt lp.col, .ref c1], by rw [upd_ne (fun z => nP z.symm), upd_same], by simpa using PySem.TriplesOk_snoc _ _ _ _ ht, fun pos cv hc => by
      have hc : codeAmong pos (ps.toList ++ [rawInt lp.line, rawInt lp.col, .ref c1]) = some cv := by simpa using hc
      rcases LamX.among_app _ ht hc with z | z
      · obtain ⟨c, e, g⟩ := ha pos cv z
        exact ⟨c, e, sG _ _ g⟩
      · exact ⟨c1, z, upd_same⟩⟩ nd
  rw [set_same e1, set_same hi] at s1
  have same_fp : ∀ b, b ∈ fp1 ↔ b ∈ fp := fun b => by rw [m1, hm]
  have kept : ∀ b u, H b = some u → b ∉ fp → upd (upd H P (.tbl (ps ++ #[rawInt lp.line, rawInt lp.col, .ref c1]))) c1 (LamX.CodeO c1 q) b = some u := fun b u e nb => at_ b u e fun z => nb (z ▸ inP)
  refine ⟨upd G c1 (LamX.CodeO c1 q), fp1, ⟨fun b u e => ?_, s1, nd1, fun b m => ?_⟩, ⟨sG, fun b hb => ?_, fun b m => .inl ((same_fp b).mp m), kept⟩, fun z => nomatch z⟩
  · by_cases hb : b = c1
    · rw [hb, upd_same] at e
      cases e
      rw [hb]
      exact .inl upd_same
    · rw [upd_ne hb] at e
      have nbP : b ≠ P := fun z => by rw [z, gP] at e; cases e
      rcases r.gin b u e with z | ⟨d, ob, z⟩
      · exact .inl (at_ b u z nbP)
      · exact .inr ⟨d, ob, at_ b _ z nbP⟩
  · have mb := (same_fp b).mp m
    have : b ≠ c1 := fun z => r.there b mb (by rw [z]; exact n1)
    rw [upd_ne this]
    exact r.out b mb
  · by_cases z : b = c1
    · rw [z]; exact .inr (.inl (.inl n1))
    · rw [upd_ne z] at hb; exact .inl hb
end
/-- told(lambda: ..): a tuple of a word and what the lambda answers; P the maker's table, in slot i -/
def eTold (P : Addr) (q : Str) (i : Nat) (z : Str) (f : Env → ER) : Env → ER := fun env => match slot env i with
  | .tb P' q' => if P' = P ∧ q' = q then bd (okO' (f env)) fun r => ok (0, .tup [.str z, r.2.1], r.2.2) else none
  | _ => none
section
variable {X : Cx} {W : WX} {i k : Nat} {p : Bool} {fr : Env → ER}
theorem ve_told {x a z : Str} {c P : Addr} {fd : FuncData} {pg : Arguments} {bg : List Stmt} {sg : Scope} {Ng : List Str} {pr : Arguments} {bd : Expr} {sc : Scope} {p1 lp pos : Pos}
    (F : FunD X.K x x pg bg sg [] [] (He.ga X.K x) fd) (hb : L2.Binds X.K fd [a] []) (hg : Gl X x) (hm : X.mg x = some (.ref (He.ga X.K x))) (Sg : FnScope Ng [a] sg) (hNg : Ng[0]? = some a) (hva : Vis sg a)
    (hG : ∀ cdv, LamX.GivesTo X Ng x sg (He.ga X.K x) cdv bg a (X.env.qual ++ "<lambda>") (TTold z))
    (TB : LamX.TabB X.base X.mg c P) (hcode : X.env.code = .ref c) (hr : Room (k + 2) X.A) (L : LamX.LamS X.env.scope sc) (hdef : defaultsOf pr X.env = ([], []))
    (hbind : ∀ (q : Str) (cl : List (Str × Addr)) (pm cv ctv : Value), bindArgs (PySem.W.kla_fn "<lambda>" q pr bd sc cl pm cv ctv) ⟨[], []⟩ = pure [])
    (hv : ∀ (A : Around) (outer : List PySem.Env) (s : Shared) (H : Hp) (E : XK) (f c1 : Addr), Room k (A.deeper (LamX.lamEnv X sc s.heap.objs.size f c1)) → VE (LamX.lamCx X A outer s H E sc f c1) W0 p bd fr)
    (hdb : (x == ("__debug__" : Str)) = false := by decide) (hd : (a == ("__debug__" : Str)) = false := by decide) (hcd : (a == ("__classdict__" : Str)) = false := by decide) :
    VE X W false (.Call (.Name x p1) [.Lambda pr bd sc lp] [] pos) (eTold P (X.env.qual ++ "<lambda>") i z fr) := by
  obtain ⟨oc, od, dV, kV, doc, pm, an, cdv, ct, osl, rfl, lk, hcg, _, _⟩ := F.ex
  refine ⟨tLamX P (X.env.qual ++ "<lambda>") lp (TTold z) (fun _ => cE X.K W0 p fr), pe_lamX hg hm F.kp lk hcg hb Sg hNg hva (hG cdv) TB hcode hr L hdef hbind (fun A outer s H E f c1 hr2 => (hv A outer s H E f c1 hr2).pe) hdb hd hcd, fun G σ H fp env Q rl w => ?_⟩
  unfold eTold at w
  cases hs : slot env i with
  | un => rw [hs] at w; exact w.elim
  | sh d => rw [hs] at w; exact w.elim
  | ow k d => rw [hs] at w; exact w.elim
  | io k d => rw [hs] at w; exact w.elim
  | tb P' q' =>
    rw [hs] at w
    dsimp only at w
    by_cases he : P' = P ∧ q' = X.env.qual ++ "<lambda>"
    · rw [if_pos he] at w
      obtain ⟨rfl, rfl⟩ := he
      have hi := slot_dat hs (by simp)
      obtain ⟨o, f, e1, ⟨_, _, ps, hP, ht, ha⟩, _⟩ := rl.sl.get hi
      refine ⟨ps, hP, ht, fun cv hc => tb_codes rl ha lp cv hc, fun c1 H1 to => ?_⟩
      obtain ⟨G1, fp1, a1⟩ := rl.lam hi hP to
      refine ⟨G1, fp1, env, a1.rl, ?_⟩
      cases hf : fr env with
      | none => rw [hf] at w; exact w.elim
      | some r0 =>
        rw [hf] at w
        cases r0 with
        | error x => exact w.elim
        | ok r =>
          intro v G2 H2 fp2 fpr po
          refine ⟨(by show 2 ≤ sizeLine; rw [sizeLine_eq]; decide), fun p' np => ?_⟩
          obtain ⟨G3, po⟩ := po.frz
          have po := PostE.transR a1 (PostE.wk po)
          obtain ⟨l1, l2⟩ := PostR.laid po.toR (b := p') (o := .tup [.str z, v]) np
          refine w (.ref p') _ _ fp2 [] (PostE.shared l1 ?_)
          unfold Sh
          refine ⟨p', _, rfl, upd_same, ShL.cons (by unfold Sh; rfl) (ShL.cons (Sh.mono (In.of l2) _ _ po.sh0) ShL.nil)⟩
    · rw [if_neg he] at w; exact w.elim
end
end VL
/-! Vl34: f(e), e a new thing that is changed in its place; the law's own def. -/
namespace VL
open PySem PySem.Spec PyProof.Rows L2
def eCallT (k : Nat) (F : List D → D → Rs (Nat × D × D)) (f : Env → ER) : Env → ER := fun env => bd (f env) fun r => if r.1 = k then bd (F [] r.2.1) fun q => ok (q.1, q.2.1, r.2.2) else none
section
variable {K : PySem.W.Frag} {G H G1 H1 G2 H2 : Hp} {σ : St} {fp fp1 fpr f' fprN : List Addr} {env env1 : Env} {k kr : Nat} {d dr : D} {v vr : V} {p : Bool}
theorem PostF.afterT (a : PostE K p G σ H fp env k d env1 v G1 H1 fp1 fpr) (b : PostF K G1 H1 fpr kr dr vr G2 H2 f' fprN) : PostE K false G σ H fp env kr dr env1 vr G2 H2 fp1 fprN := by
  obtain ⟨n1, n2, n3⟩ := List.nodup_append.mp a.nd
  obtain ⟨m1, m2, m3⟩ := List.nodup_append.mp b.nd
  have kept : ∀ x ∈ fp1, ∀ o, H1 x = some o → H2 x = some o := fun x m o e => b.st.keep x o e fun z => n3 x m x z rfl
  have outs : ∀ x ∈ fp1, G2 x = none := fun x m => by
    cases e : G2 x with
    | none => rfl
    | some o =>
      rcases b.st.gn x (by rw [e]; simp) with z | z | z
      · exact absurd (a.rl.out x m) z
      · exact absurd z (a.rl.sl.nfr x m)
      · exact absurd rfl (n3 x m x z)
  refine ⟨⟨b.gin, a.rl.sl.mono b.st.gg kept, a.rl.nd, outs⟩, a.st.trans ⟨b.st.gg, fun x h => ?_, fun x m => ?_, fun x o e n => b.st.keep x o e fun z => n (List.mem_append_right _ z)⟩, b.ow, List.nodup_append.mpr ⟨n1, m2, fun x mx y my e => ?_⟩, fun x m => b.out x (List.mem_append_right _ m), fun z => nomatch z⟩
  · rcases b.st.gn x h with z | z | z
    · exact .inl z
    · exact .inr (.inl z)
    · exact .inr (.inr (List.mem_append_right _ z))
  · rcases List.mem_append.mp m with m | m
    · exact .inl (List.mem_append_left _ m)
    · rcases b.st.fn x (List.mem_append_right _ m) with z | z
      · exact .inl (List.mem_append_right _ z)
      · exact .inr z
  · subst e
    rcases b.st.fn x (List.mem_append_right _ my) with z | z
    · exact n3 x mx x z rfl
    · exact a.rl.there x mx z
theorem Bad.afterT {x : Xn} {cls : Value} {od : Option Addr} (a : PostE K p G σ H fp env k d env1 v G1 H1 fp1 fpr) (b : Bad K x G1 H1 fpr cls od G2 H2) : Bad K x G H fp cls od G2 H2 := by
  refine ⟨b.gin, a.st.trans ⟨b.st.gg, fun x h => ?_, fun x m => (nomatch m), fun x o e n => b.st.keep x o e fun z => n (List.mem_append_right _ z)⟩, b.rep⟩
  rcases b.st.gn x h with z | z | z
  · exact .inl z
  · exact .inr (.inl z)
  · exact .inr (.inr (List.mem_append_right _ z))
end
section
variable {X : Cx} {W : WX} {p : Bool} {e : Expr} {f : Env → ER} {pos pp : Pos} {lv k : Nat}
theorem ve_callTN {x : Str} {kd : Nat} {ps : List Str} {F : List D → D → Rs (Nat × D × D)} (c : Cf X W lv) (D1 : Dn X.prog X.w X.K X.mg X.base k (x, none) ps (spI X.K 1 0 kd F)) (hk : k ≤ lv) (hg : Gl X x) (hm : X.mg x = some (.ref (He.ga X.K x))) (he : VE X W p e f) (hdb : (x == ("__debug__" : Str)) = false := by decide)
    (hs : starEach [e] X.env = (false, eval e X.env) :: starEach [] X.env := by rfl) (hpl : (backTo pos (starEach [] X.env)).any (·.1) = false := by rfl) :
    VE X W false (.Call (.Name x pp) [e] [] pos) (eCallT kd F f) := by
  obtain ⟨⟨fd, FF, hb⟩, kp⟩ := D1
  obtain ⟨t, ht, hr⟩ := he.ex
  refine ⟨_, pe_callS FF (c.room.mono hk) hg hm kp hb (fun σ => passAt c.tk σ) (pa_cons ht pa_nil hs) hdb hs hpl, fun G σ H fp env Q rl z => ?_⟩
  unfold eCallT ResE at z
  rw [Res.bd] at z
  refine hr G σ H fp env _ rl (z.imp (fun r er z v G1 H1 fp1 fpr po => ?_) fun x z => z)
  by_cases hkd : r.1 = kd
  · rw [if_pos hkd, Res.bd] at z
    obtain ⟨n1, n2, n3⟩ := List.nodup_append.mp po.nd
    refine ⟨rfl, [], v, [], [], r.2.1, G1, fpr, rfl, rfl, ShL.nil, po.rl.gin, by rw [← hkd]; exact po.ow, n2, po.out, z.imp (fun r2 _ z v2 G2 H2 f' fprN po2 _ => z v2 G2 H2 fp1 fprN (po2.afterT po)) fun x z cls od G2 H2 b => z cls od G2 H2 (b.afterT po)⟩
  · rw [if_neg hkd] at z; exact z.elim
end
/-! ### the law -/
/-- the law's promise: True, whatever ints the script holds -/
def spLaw (K : PySem.W.Frag) (P : Addr) (n : Nat) : Sp := fun vs H Q _ => ∃ (a : Addr) (ns : List Int), vs = [.ref a] ∧ ns.length ≤ n ∧ H P = some (.tbl #[]) ∧ SqL K H a (ns.map V.int) ∧ ∀ H', Q (.bl true) H'
theorem shL_mk {K : PySem.W.Frag} {G : Hp} : ∀ ns : List Int, ShL K G (ns.map D.int) (ns.map V.int)
  | [] => ShL.nil
  | n :: ns => ShL.cons (by unfold Sh; rfl) (shL_mk ns)
theorem fn_law {PG : Program} {w : World} {K : PySem.W.Frag} {mg : Str → Option Value} {base : Heap} {x qual : Str} {params : Arguments} {body : List Stmt} {scope : Scope} {f P : Addr} {fd : FuncData} {N : List Str} {lv n : Nat} {raw : Addr → Str → Env → SR} {y : Str}
    (hKP : K.lookup P = none) (F : FunD K x qual params body scope [] [] f fd) (S : FnScope N [y] scope)
    (hb : ∀ (X : Cx) (W : WX) (q : Str), X.prog = PG → X.w = w → X.K = K → X.mg = mg → X.base = base → X.env.code = fd.code → q = X.env.qual ++ "<lambda>" → Bd X W lv N scope → VSs X W body (raw P q))
    (hN : N.length = n + 2) (hraw : ∀ (q : Str) (ns : List Int), ns.length ≤ 63 → ∃ e, raw P q (.sh (.lsx (ns.map .int)) :: (List.replicate n .un ++ [.tb P q])) = ok (.rt 0 (.bl true), e)) :
    FnOk PG w K mg base (L2.CX PG w) (lv + 1) f fd [y] (spLaw K P 63) := by
  obtain ⟨oc, od, dV, kV, doc, pm, an, cdv, ct, osl, rfl, lk, hcd, _, _⟩ := F.ex
  refine fn_of lk hcd S (fun vs H Q E h => ?_) fun A outer s H vs Q E hr h => ?_
  · obtain ⟨a, ns, rfl, _⟩ := h; rfl
  obtain ⟨a, ns, rfl, hl, hP, hS, hQ⟩ := h
  obtain ⟨t, ht, run⟩ := (hb (cxOf (L2.CX PG w) PG w K mg base N qual scope f cdv A outer s H E) (fun cls od _ H' => E cls od H') ((envOfC qual scope s.heap.objs.size f cdv).qual ++ "<lambda>") rfl rfl rfl rfl rfl rfl rfl (bd_of hr)).ex
  obtain ⟨e, he⟩ := hraw ((envOfC qual scope s.heap.objs.size f cdv).qual ++ "<lambda>") ns hl
  have naP : a ≠ P := fun z => by
    subst z
    rcases hS with (q | ⟨o, q⟩) | ⟨_, _, _, q, _⟩
    · rw [hP] at q; cases q
    · rw [hP] at q; cases q
    · rw [hKP] at q; cases q
  have un : ∀ m, Slots K (fun b => if b = P then none else H b) H (List.replicate m .un ++ [.tb P ((envOfC qual scope s.heap.objs.size f cdv).qual ++ "<lambda>")]) (List.replicate (m + 1) none) [P] := by
    intro m
    induction m with
    | zero => exact ⟨none, [], [P], [], rfl, rfl, ⟨rfl, rfl, #[], hP, True.intro, fun pos cv hc => by
        have z : codeAmong pos [] = some cv := hc
        simp [codeAmong] at z⟩, rfl, rfl⟩
    | succ m ih => exact ⟨none, _, [], [P], rfl, rfl, rfl, ih⟩
  refine ⟨t, ht, run (fun b => if b = P then none else H b) (L2.start N [.ref a]) H [P] (.sh (.lsx (ns.map .int)) :: (List.replicate n .un ++ [.tb P ((envOfC qual scope s.heap.objs.size f cdv).qual ++ "<lambda>")])) _ ⟨fun b o e => ?_, ?_, by simp, fun b m => ?_⟩ ?_⟩
  · by_cases hb : b = P
    · rw [if_pos hb] at e; cases e
    · rw [if_neg hb] at e; exact .inl e
  · have es : L2.start N [.ref a] = some (V.ref a) :: List.replicate (n + 1) none := by
      unfold L2.start
      rw [hN]
      rfl
    rw [es]
    refine ⟨some (.ref a), _, [], [P], rfl, rfl, ⟨.ref a, rfl, ?_, rfl⟩, un n⟩
    unfold Sh
    refine ⟨a, ns.map V.int, rfl, ?_, shL_mk ns⟩
    rcases hS with (q | ⟨o, q⟩) | q
    · exact .inl (.inl (by show (if a = P then none else H a) = _; rw [if_neg naP]; exact q))
    · exact .inl (.inr ⟨o, by show (if a = P then none else H a) = _; rw [if_neg naP]; exact q⟩)
    · exact .inr q
  · rw [List.mem_singleton.mp m]; exact if_pos rfl
  · show Res _ _ (raw P _ _)
    rw [show raw P ((envOfC qual scope s.heap.objs.size f cdv).qual ++ "<lambda>") _ = _ from he]
    intro σ1 G1 H1 fp1 fpr1 po v hv
    have e2 : v = .bl true := by have := hv.1; unfold Sh at this; exact this
    rw [e2]
    exact hQ H1
end VL
/-! Vl35: names in a lambda. -/
namespace VL
open PySem PySem.Spec PyProof.Rows L2
theorem lam_bx {X : Cx} {W : WX} {lv k : Nat} {N : List Str} {s0 sc : Scope} {A : Around} {outer : List PySem.Env} {s : Shared} {H : Hp} {E : XK} {f c1 : Addr} (B : Bx X W lv N s0) (hr : Room k (A.deeper (LamX.lamEnv X sc s.heap.objs.size f c1))) (_ : k = k) :
    Bx (LamX.lamCx X A outer s H E sc f c1) W0 k N sc :=
  ⟨⟨rfl, takes0, hr⟩, B.hN, fun x h => visB_ok h, fun x h => (show sc.names.lookup x = some .globalImplicit from of_decide_eq_true h), fun x h => h, fun x h => h, fun _ _ _ _ _ h => h⟩
end VL
/-! Ev: evaluation of raw functions by simp. -/
namespace VL
open PySem PySem.Spec PyProof.Rows L2
theorem bd_congr {α β : Type} {r r' : Rs α} {f : α → Rs β} (h : r = r') : bd r f = bd r' f := by rw [h]
@[simp] theorem sNo_ev (env : Env) : sNo env = none := (rfl)
@[simp] theorem sNil_ev (env : Env) : sNil  env = (ok (.nx, env)) := (rfl)
@[simp] theorem sSeq_ev (s1 s2 : Env → SR) (env : Env) : sSeq s1 s2 env = (bd (s1 env) fun r => match r.1 with
  | .nx => s2 r.2
  | fl => ok (fl, r.2)) := (rfl)
@[simp] theorem sBrk_ev (env : Env) : sBrk  env = (ok (.bk, env)) := (rfl)
@[simp] theorem sCnt_ev (env : Env) : sCnt  env = (ok (.ct, env)) := (rfl)
@[simp] theorem sRet_ev (f : Env → ER) (env : Env) : sRet f env = (bd (f env) fun r => bd (chk env r.2.2) fun e1 => ok (.rt r.1 r.2.1, e1)) := (rfl)
@[simp] theorem sRetV_ev (i : Nat) (env : Env) : sRetV i env = (match slot env i with
  | .sh d => ok (.rt 0 d, env)
  | .ow k d => ok (.rt (k + 1) d, env.set i .un)
  | _ => none) := (rfl)
@[simp] theorem sRetN_ev (env : Env) : sRetN  env = (ok (.rt 0 .non, env)) := (rfl)
@[simp] theorem sExpr_ev (f : Env → ER) (env : Env) : sExpr f env = (bd (f env) fun r => bd (chk env r.2.2) fun e1 => ok (.nx, e1)) := (rfl)
@[simp] theorem sAsg_ev (i : Nat) (f : Env → ER) (env : Env) : sAsg i f env = (bd (f env) fun r => bd (chk env r.2.2) fun e1 => bd (putS e1 i (svOf r.1 r.2.1)) fun e2 => ok (.nx, e2)) := (rfl)
@[simp] theorem sUnp_ev (h : D → Env → Rs Env) (f : Env → ER) (env : Env) : sUnp h f env = (bd (f env) fun r => bd (chk env r.2.2) fun e1 => bd (h r.2.1 e1) fun e2 => ok (.nx, e2)) := (rfl)
@[simp] theorem sIf_ev (c : Env → TR) (s1 s2 : Env → SR) (env : Env) : sIf c s1 s2 env = (bd (c env) fun r => bd (chk env r.2) fun e1 => if r.1 then s1 e1 else s2 e1) := (rfl)
@[simp] theorem sFor_ev (f : Env → Rs (List D × Env)) (tg : D → Env → Rs Env) (s : Env → SR) (env : Env) : sFor f tg s env = (bd (f env) fun r => bd (chk env r.2) fun e1 => forL tg s r.1 e1) := (rfl)
@[simp] theorem sSetP_ev (i m : Nat) (fe : Env → ER) (fo : Env → Rs (List Nat)) (gi : Env → RR) (env : Env) : sSetP i m fe fo gi env = (bd (fe env) fun r => bd (kOk m r.1) fun _ => bd (chk env r.2.2) fun e1 => bd (fo e1) fun π => bd (gi e1) fun ri => bd (opt (slot e1 i).own) fun o =>
  if o.1 = π.length + m then bd (opt (subD π o.2)) fun c => bd (opt (D.store c ri.1 r.2.1)) fun c' => ok (.nx, e1.set i ((slot e1 i).put (setD π o.2 c'))) else none) := (rfl)
@[simp] theorem sAug_ev (i : Nat) (h : D → D → Option D) (g : Env → RR) (env : Env) : sAug i h g env = (bd (opt (slot env i).dat) fun d0 => bd (opt (scV d0)) fun _ => bd (g env) fun r => bd (chk env r.2) fun e1 => bd (opt (h d0 r.1)) fun d => bd (opt (scV d)) fun _ => bd (putS e1 i (.sh d)) fun e2 => ok (.nx, e2)) := (rfl)
@[simp] theorem sFldN_ev (i m : Nat) (cn fl : Str) (fe : Env → ER) (env : Env) : sFldN i m cn fl fe env = (bd (fe env) fun r => bd (kOk m r.1) fun _ => bd (chk env r.2.2) fun e1 => match (slot e1 i).own with
  | some (k, .obj c ns ds) => if k = m ∧ c = cn ∧ fl ∉ ns ∧ ns.length < 1000 then ok (.nx, e1.set i ((slot e1 i).put (.obj c (ns ++ [fl]) (ds ++ [r.2.1])))) else none
  | _ => none) := (rfl)
@[simp] theorem rV_ev (i : Nat) (env : Env) : rV i env = (bd (opt (slot env i).dat) fun d => ok (d, env)) := (rfl)
@[simp] theorem rdR_ev (f : Env → ER) (env : Env) : rdR f env = (bd (f env) fun r => ok (r.2.1, r.2.2)) := (rfl)
@[simp] theorem bin_ev (g : D → D → Option D) (f1 f2 : Env → RR) (env : Env) : bin g f1 f2 env = (bd (f1 env) fun r1 => bd (f2 r1.2) fun r2 => bd (opt (g r1.1 r2.1)) fun d => ok (d, r2.2)) := (rfl)
@[simp] theorem eC_ev (d : D) (env : Env) : eC d env = (ok (0, d, env)) := (rfl)
@[simp] theorem eV_ev (i : Nat) (env : Env) : eV i env = (match slot env i with
  | .sh d => ok (0, d, env)
  | .ow _ d => ok (0, d, env.set i (.sh d))
  | _ => none) := (rfl)
@[simp] theorem eVs_ev (i : Nat) (env : Env) : eVs i env = (match slot env i with
  | .sh d => ok (0, d, env)
  | _ => none) := (rfl)
@[simp] theorem eOp_ev (g : D → D → Option D) (f1 f2 : Env → RR) (env : Env) : eOp g f1 f2 env = (bd (bin g f1 f2 env) fun r => ok (0, r.1, r.2)) := (rfl)
@[simp] theorem eTup_ev (fa : Env → AR) (env : Env) : eTup fa env = (bd (fa env) fun r => if r.1.length ≤ cap then ok (0, .tup r.1, r.2) else none) := (rfl)
@[simp] theorem eLst_ev (fa : Env → AR) (env : Env) : eLst fa env = (bd (fa env) fun r => if r.1.length ≤ cap then ok (1, .lst r.1, r.2) else none) := (rfl)
@[simp] theorem eLst0_ev (k : Nat) (env : Env) : eLst0 k env = (ok (k + 1, .lst [], env)) := (rfl)
@[simp] theorem eDct0_ev (k : Nat) (t : Bool) (env : Env) : eDct0 k t env = (ok (k + 1, .dct t [] [], env)) := (rfl)
@[simp] theorem eDct1_ev (t : Bool) (f1 f2 : Env → ER) (env : Env) : eDct1 t f1 f2 env = (bd (f1 env) fun r1 => bd (f2 r1.2.2) fun r2 => bd (opt (kOf t r1.2.1)) fun _ => ok (1, .dct t [r1.2.1] [r2.2.1], r2.2.2)) := (rfl)
@[simp] theorem ofT_ev (f : Env → TR) (env : Env) : ofT f env = (bd (f env) fun r => ok (0, .bl r.1, r.2)) := (rfl)
@[simp] theorem toT_ev (f : Env → ER) (env : Env) : toT f env = (bd (f env) fun r => bd (opt r.2.1.asB) fun b => ok (b, r.2.2)) := (rfl)
@[simp] theorem tNotF_ev (f : Env → TR) (env : Env) : tNotF f env = (bd (f env) fun r => ok (!r.1, r.2)) := (rfl)
@[simp] theorem tAndF_ev (f g : Env → TR) (env : Env) : tAndF f g env = (bd (f env) fun r => if r.1 then g r.2 else ok (false, r.2)) := (rfl)
@[simp] theorem tOrF_ev (f g : Env → TR) (env : Env) : tOrF f g env = (bd (f env) fun r => if r.1 then ok (true, r.2) else g r.2) := (rfl)
@[simp] theorem eIf_ev (t : Env → TR) (f g : Env → ER) (env : Env) : eIf t f g env = (bd (t env) fun r => if r.1 then f r.2 else g r.2) := (rfl)
@[simp] theorem chn_ev (g1 g2 : D → D → Option D) (f1 f2 f3 : Env → RR) (env : Env) : chn g1 g2 f1 f2 f3 env = (bd (f1 env) fun r1 => bd (f2 r1.2) fun r2 => bd (opt (g1 r1.1 r2.1)) fun d => bd (opt d.asB) fun k =>
  if k then bd (f3 r2.2) fun r3 => bd (opt (g2 r2.1 r3.1)) fun d' => bd (opt d'.asB) fun k' => ok (k', r3.2) else ok (false, r2.2)) := (rfl)
@[simp] theorem tTru_ev (g : Env → RR) (env : Env) : tTru g env = (bd (g env) fun r => bd (opt (truth r.1)) fun b => ok (b, r.2)) := (rfl)
@[simp] theorem tOpT_ev (g : D → D → Option D) (f1 f2 : Env → RR) (env : Env) : tOpT g f1 f2 env = (bd (bin g f1 f2 env) fun r => bd (opt r.1.asB) fun b => ok (b, r.2)) := (rfl)
@[simp] theorem eIx_ev (f1 : Env → ER) (g2 : Env → RR) (env : Env) : eIx f1 g2 env = (bd (f1 env) fun r1 => bd (g2 r1.2.2) fun r2 => bd (opt (D.ix r1.2.1 r2.1)) fun d => ok (0, d, r2.2)) := (rfl)
@[simp] theorem eIxN_ev (i : Nat) (g2 : Env → RR) (env : Env) : eIxN i g2 env = (bd (opt (slot env i).dat) fun _ => bd (g2 env) fun r2 => match slot r2.2 i with
  | .sh d1 => bd (opt (D.ix d1 r2.1)) fun d => ok (0, d, r2.2)
  | .ow 0 d1 => bd (opt (D.ix d1 r2.1)) fun d => ok (0, d, r2.2)
  | .io 0 d1 => bd (opt (D.ix d1 r2.1)) fun d => ok (0, d, r2.2)
  | .ow _ d1 => bd (opt (D.ix d1 r2.1)) fun d => bd (opt (scV d)) fun _ => ok (0, d, r2.2)
  | .io _ d1 => bd (opt (D.ix d1 r2.1)) fun d => bd (opt (scV d)) fun _ => ok (0, d, r2.2)
  | .un => none
  | .tb _ _ => none) := (rfl)
@[simp] theorem rFld_ev (cs : List Str) (f : Str) (g : Env → RR) (env : Env) : rFld cs f g env = (bd (g env) fun r => bd (opt (D.fld cs f r.1)) fun d => ok (d, r.2)) := (rfl)
@[simp] theorem eFld_ev (cs : List Str) (f : Str) (g : Env → ER) (env : Env) : eFld cs f g env = (bd (g env) fun r => bd (opt (D.fld cs f r.2.1)) fun d => ok (0, d, r.2.2)) := (rfl)
@[simp] theorem eCallB_ev (g : List D → Option D) (fa : Env → AR) (env : Env) : eCallB g fa env = (bd (fa env) fun r => bd (opt (g r.1)) fun d => ok (0, d, r.2)) := (rfl)
@[simp] theorem eCall_ev (n : Nat) (f : List D → Rs (Nat × D)) (fa : Env → AR) (env : Env) : eCall n f fa env = (bd (fa env) fun r => bd (lenQ n r.1) fun _ => bd (f r.1) fun q => ok (q.1, q.2, r.2)) := (rfl)
@[simp] theorem eCallI_ev (n i k : Nat) (f : List D → D → Rs (Nat × D × D)) (fa : Env → AR) (env : Env) : eCallI n i k f fa env = (bd (opt (slot env i).own) fun _ => bd (fa env) fun r => bd (lenQ n r.1) fun _ => bd (opt (slot r.2 i).own) fun o => if o.1 + 1 = k then bd (f r.1 o.2) fun q => ok (q.1, q.2.1, r.2.set i ((slot r.2 i).put q.2.2)) else none) := (rfl)
@[simp] theorem eMeth_ev (n : Nat) (c m : Str) (F : List D → Rs (Nat × D)) (f : Env → ER) (fa : Env → AR) (env : Env) : eMeth n c m F f fa env = (bd (f env) fun r0 => bd (opt (D.insOf c m r0.2.1)) fun _ => bd (fa r0.2.2) fun r => bd (lenQ n r.1) fun _ => bd (F (r0.2.1 :: r.1)) fun q => ok (q.1, q.2, r.2)) := (rfl)
@[simp] theorem eMake_ev (n : Nat) (cn : Str) (F : List D → D → Rs (Nat × D × D)) (fa : Env → AR) (env : Env) : eMake n cn F fa env = (bd (fa env) fun r => bd (lenQ n r.1) fun _ => bd (F r.1 (.obj cn [] [])) fun q =>
  if isNon q.2.1 = true ∧ q.1 = 0 then ok (1, q.2.2, r.2) else none) := (rfl)
@[simp] theorem aNil_ev (env : Env) : aNil  env = (ok ([], env)) := (rfl)
@[simp] theorem aCons_ev (f : Env → ER) (g : Env → AR) (env : Env) : aCons f g env = (bd (f env) fun r1 => bd (g r1.2.2) fun r2 => ok (r1.2.1 :: r2.1, r2.2)) := (rfl)
@[simp] theorem raCons_ev (g : Env → RR) (h : Env → AR) (env : Env) : raCons g h env = (bd (g env) fun r1 => bd (h r1.2) fun r2 => ok (r1.1 :: r2.1, r2.2)) := (rfl)
@[simp] theorem aConsI_ev (i : Nat) (f : Env → ER) (fa : Env → AR) (env : Env) : aConsI i f fa env = (bd (f env) fun r1 => bd (opt (slot r1.2.2 i).dat) fun _ => bd (fa r1.2.2) fun r2 => ok (r1.2.1 :: r2.1, r2.2)) := (rfl)
@[simp] theorem iSeq_ev (f : Env → ER) (env : Env) : iSeq f env = (bd (f env) fun r => match r.2.1 with
  | .lst ds => ok (ds, r.2.2)
  | .tup ds => ok (ds, r.2.2)
  | _ => none) := (rfl)
@[simp] theorem iEnumF_ev (fa : Env → AR) (env : Env) : iEnumF fa env = (bd (fa env) fun r => match r.1 with
  | [.lst ds] => ok (enumD 0 ds, r.2)
  | _ => none) := (rfl)
@[simp] theorem eLcD_ev (kk : Nat) (vs : List Nat) (i : Nat) (tg : D → Env → Rs Env) (tt : Env → TR) (el : Env → ER) (env : Env) : eLcD kk vs i tg tt el env = (match slot env i with
  | .sh (.dct _ ks _) => eLc kk vs (fun e => ok (ks, e)) tg tt el env
  | .ow _ (.dct t ks ws) => eLc kk vs (fun e => ok (ks, e)) tg tt el (env.set i (.sh (.dct t ks ws)))
  | _ => none) := (rfl)
@[simp] theorem eDc_ev (vs : List Nat) (f : Env → Rs (List D × Env)) (tg : D → Env → Rs Env) (tt : Env → TR) (fk fv : Env → ER) (env : Env) : eDc vs f tg tt fk fv env = (bd (f env) fun r0 => bd (wp vs r0.2) fun e1 =>
  bd (okO' (dcL vs tg tt fk fv r0.1 (.dct false [] []) e1)) fun q => ok (1, q.1, restE r0.2 q.2 vs)) := (rfl)
@[simp] theorem eListC_ev (fa : Env → AR) (env : Env) : eListC fa env = (bd (fa env) fun r => match r.1 with
  | [d] => bd (opt (keysD d)) fun ds => ok (1, .lst ds, r.2)
  | _ => none) := (rfl)
@[simp] theorem eTupC_ev (fa : Env → AR) (env : Env) : eTupC fa env = (bd (fa env) fun r => match r.1 with
  | [.lst ds] => ok (0, .tup ds, r.2)
  | [.tup ds] => ok (0, .tup ds, r.2)
  | _ => none) := (rfl)
@[simp] theorem eTupR_ev (fa : Env → AR) (env : Env) : eTupR fa env = (bd (fa env) fun r => match r.1 with
  | [.lst ds] => bd (opt (scL ds)) fun _ => ok (0, .tup ds, r.2)
  | _ => none) := (rfl)
@[simp] theorem eSortI_ev (fa : Env → AR) (env : Env) : eSortI fa env = (bd (fa env) fun r => match r.1 with
  | [.lst ds] => bd (opt (intsOf ds)) fun ns => ok (1, .lst ((srt ns).map .int), r.2)
  | [.dct false ks _] => bd (opt (intsOf ks)) fun ns => if ns.length < 64 then ok (1, .lst ((srt ns).map .int), r.2) else none
  | _ => none) := (rfl)
@[simp] theorem eSortSet_ev (g : Env → RR) (env : Env) : eSortSet g env = (bd (g env) fun r => match r.1 with
  | .lst ds => bd (opt (intsOf ds)) fun ns => if ns.length < 4000 then ok (1, .lst ((uniq ns).map .int), r.2) else none
  | _ => none) := (rfl)
@[simp] theorem eCat_ev (f1 f2 : Env → ER) (env : Env) : eCat f1 f2 env = (bd (f1 env) fun r1 => bd (f2 r1.2.2) fun r2 => match r1.2.1, r2.2.1 with
  | .lst xs, .lst ys => if xs.length + ys.length ≤ cap then ok (1, .lst (xs ++ ys), r2.2.2) else none
  | _, _ => none) := (rfl)
@[simp] theorem eSlice_ev (f : Env → ER) (fl fh : Env → Rs (Option Int × Env)) (env : Env) : eSlice f fl fh env = (bd (f env) fun r => bd (fl r.2.2) fun l => bd (fh l.2) fun h => match r.2.1 with
  | .lst ds => ok (1, .lst (cutD ds l.1 h.1), h.2)
  | .tup ds => ok (0, .tup (cutD ds l.1 h.1), h.2)
  | _ => none) := (rfl)
@[simp] theorem oNone_ev (env : Env) : oNone  env = (ok (none, env)) := (rfl)
@[simp] theorem oSome_ev (g : Env → RR) (env : Env) : oSome g env = (bd (g env) fun r => match r.1 with
  | .int i => ok (some i, r.2)
  | _ => none) := (rfl)
@[simp] theorem eNeg_ev (g : Env → RR) (env : Env) : eNeg g env = (bd (g env) fun r => match r.1 with
  | .int i => ok (0, .int (-i), r.2)
  | _ => none) := (rfl)
@[simp] theorem eIsI_ev (T : String) (g : Env → RR) (env : Env) : eIsI T g env = (bd (g env) fun r => bd (opt r.1.ty) fun a => ok (tyIn a T, r.2)) := (rfl)
@[simp] theorem gNm_ev (i : Nat) (d : D) (env : Env) : gNm i d env = (putS env i (.sh d)) := (rfl)
@[simp] theorem gTp_ev (n : Nat) (t : List D → Env → Rs Env) (d : D) (env : Env) : gTp n t d env = (match d with
  | .tup ds => bd (lenQ n ds) fun _ => okO (t ds env)
  | _ => none) := (rfl)
@[simp] theorem gsNil_ev (ds : List D) (env : Env) : gsNil  ds env = (match ds with
  | [] => ok env
  | _ => none) := (rfl)
@[simp] theorem gsCons_ev (h : D → Env → Rs Env) (t : List D → Env → Rs Env) (ds : List D) (env : Env) : gsCons h t ds env = (match ds with
  | d :: r => bd (h d env) fun e1 => t r e1
  | _ => none) := (rfl)
@[simp] theorem pNm_ev (i : Nat) (env : Env) : pNm i env = (bd (opt (slot env i).own) fun _ => ok []) := (rfl)
@[simp] theorem pIx_ev (i : Nat) (fo : Env → Rs (List Nat)) (gi : Env → RR) (env : Env) : pIx i fo gi env = (bd (fo env) fun π => bd (gi env) fun r => bd (opt (slot env i).own) fun o => bd (opt (subD π o.2)) fun c => bd (opt (D.kix c r.1)) fun j => if π.length ≤ o.1 then ok (π ++ [j]) else none) := (rfl)
@[simp] theorem eAppP_ev (i m : Nat) (fo : Env → Rs (List Nat)) (fe : Env → ER) (env : Env) : eAppP i m fo fe env = (bd (fo env) fun π => bd (okO' (fe env)) fun r => bd (kOk m r.1) fun _ => bd (opt (slot env i).own) fun o =>
  if o.1 = π.length + m then bd (opt (subD π o.2)) fun c => match c with
    | .lst ds => if ds.length < cap then ok (0, .non, env.set i ((slot env i).put (setD π o.2 (.lst (ds ++ [r.2.1]))))) else none
    | _ => none
  else none) := (rfl)
@[simp] theorem eApp_ev (i m : Nat) (fe : Env → ER) (env : Env) : eApp i m fe env = (match (slot env i).own with
  | some (_, .lst _) => bd (fe env) fun r => bd (kOk m r.1) fun _ => (match (slot r.2.2 i).own with
    | some (k, .lst ds) => if k = m ∧ ds.length < cap then ok (0, .non, r.2.2.set i ((slot r.2.2 i).put (.lst (ds ++ [r.2.1])))) else none
    | _ => none)
  | _ => none) := (rfl)
@[simp] theorem frzR_ev (f : Env → ER) (env : Env) : frzR f env = (bd (f env) fun r => ok (0, r.2.1, r.2.2)) := (rfl)
@[simp] theorem scR_ev (g : Env → RR) (env : Env) : scR g env = (bd (g env) fun r => bd (opt (scV r.1)) fun _ => ok (0, r.1, r.2)) := (rfl)
@[simp] theorem tYesF_ev (env : Env) : tYesF  env = (ok (true, env)) := (rfl)
@[simp] theorem eLc_ev (kk : Nat) (vs : List Nat) (f : Env → Rs (List D × Env)) (tg : D → Env → Rs Env) (tt : Env → TR) (el : Env → ER) (env : Env) : eLc kk vs f tg tt el env = (bd (f env) fun r0 => bd (wp vs r0.2) fun e1 =>
  if r0.1.length ≤ cap then bd (okO' (lcL kk vs tg tt el r0.1 e1)) fun q => ok (kk + 1, .lst q.1, restE r0.2 q.2 vs) else none) := (rfl)

def irg1 (r : List D × Env) : Rs (List D × Env) := match r.1 with
  | [.int j] => if big j then ok (rng 0 j.toNat, r.2) else none
  | _ => none
def irg2 (r : List D × Env) : Rs (List D × Env) := match r.1 with
  | [.int i, .int j] => if big i && big j then ok (rng i (j - i).toNat, r.2) else none
  | _ => none
@[simp] theorem iRng1F_ev (fa : Env → AR) (env : Env) : iRng1F fa env = bd (fa env) irg1 := (rfl)
@[simp] theorem iRng2F_ev (fa : Env → AR) (env : Env) : iRng2F fa env = bd (fa env) irg2 := (rfl)
theorem irg1_ok {j : Int} (h : -1000000 ≤ j) (h2 : j ≤ 1000000) (env : Env) : irg1 ([.int j], env) = ok (rng 0 j.toNat, env) := by
  have : big j = true := by
    unfold big
    rw [decide_eq_true (by omega), decide_eq_true (by omega)]; rfl
  unfold irg1; simp only [this, if_true]
theorem irg2_ok {i j : Int} (g : -1000000 ≤ i) (g2 : i ≤ 1000000) (h : -1000000 ≤ j) (h2 : j ≤ 1000000) (env : Env) : irg2 ([.int i, .int j], env) = ok (rng i (j - i).toNat, env) := by
  have b1 : big i = true := by
    unfold big
    rw [decide_eq_true (by omega), decide_eq_true (by omega)]; rfl
  have b2 : big j = true := by
    unfold big
    rw [decide_eq_true (by omega), decide_eq_true (by omega)]; rfl
  unfold irg2; simp only [b1, b2, Bool.and_true, if_true]
/-! ### slots -/
theorem slot_zero (s : SV) (l : Env) : slot (s :: l) 0 = s := (rfl)
theorem slot_succ (s : SV) (l : Env) (i : Nat) : slot (s :: l) (i + 1) = slot l i := (rfl)
@[simp] theorem slot_0 (s : SV) (l : Env) : slot (s :: l) 0 = s := (rfl)
@[simp] theorem slot_1 (a s : SV) (l : Env) : slot (a :: s :: l) 1 = s := (rfl)
@[simp] theorem slot_2 (a b s : SV) (l : Env) : slot (a :: b :: s :: l) 2 = s := (rfl)
@[simp] theorem slot_3 (a b c s : SV) (l : Env) : slot (a :: b :: c :: s :: l) 3 = s := (rfl)
@[simp] theorem slot_4 (a0 a1 a2 a3 s : SV) (l : Env) : slot (a0 :: a1 :: a2 :: a3 :: s :: l) 4 = s := (rfl)
@[simp] theorem slot_5 (a0 a1 a2 a3 a4 s : SV) (l : Env) : slot (a0 :: a1 :: a2 :: a3 :: a4 :: s :: l) 5 = s := (rfl)
@[simp] theorem slot_6 (a0 a1 a2 a3 a4 a5 s : SV) (l : Env) : slot (a0 :: a1 :: a2 :: a3 :: a4 :: a5 :: s :: l) 6 = s := (rfl)
@[simp] theorem slot_7 (a0 a1 a2 a3 a4 a5 a6 s : SV) (l : Env) : slot (a0 :: a1 :: a2 :: a3 :: a4 :: a5 :: a6 :: s :: l) 7 = s := (rfl)
@[simp] theorem slot_8 (a0 a1 a2 a3 a4 a5 a6 a7 s : SV) (l : Env) : slot (a0 :: a1 :: a2 :: a3 :: a4 :: a5 :: a6 :: a7 :: s :: l) 8 = s := (rfl)
@[simp] theorem slot_9 (a0 a1 a2 a3 a4 a5 a6 a7 a8 s : SV) (l : Env) : slot (a0 :: a1 :: a2 :: a3 :: a4 :: a5 :: a6 :: a7 :: a8 :: s :: l) 9 = s := (rfl)
@[simp] theorem slot_10 (a0 a1 a2 a3 a4 a5 a6 a7 a8 a9 s : SV) (l : Env) : slot (a0 :: a1 :: a2 :: a3 :: a4 :: a5 :: a6 :: a7 :: a8 :: a9 :: s :: l) 10 = s := (rfl)
@[simp] theorem slot_11 (a0 a1 a2 a3 a4 a5 a6 a7 a8 a9 a10 s : SV) (l : Env) : slot (a0 :: a1 :: a2 :: a3 :: a4 :: a5 :: a6 :: a7 :: a8 :: a9 :: a10 :: s :: l) 11 = s := (rfl)
@[simp] theorem slot_12 (a0 a1 a2 a3 a4 a5 a6 a7 a8 a9 a10 a11 s : SV) (l : Env) : slot (a0 :: a1 :: a2 :: a3 :: a4 :: a5 :: a6 :: a7 :: a8 :: a9 :: a10 :: a11 :: s :: l) 12 = s := (rfl)
@[simp] theorem slot_13 (a0 a1 a2 a3 a4 a5 a6 a7 a8 a9 a10 a11 a12 s : SV) (l : Env) : slot (a0 :: a1 :: a2 :: a3 :: a4 :: a5 :: a6 :: a7 :: a8 :: a9 :: a10 :: a11 :: a12 :: s :: l) 13 = s := (rfl)
@[simp] theorem slot_14 (a0 a1 a2 a3 a4 a5 a6 a7 a8 a9 a10 a11 a12 a13 s : SV) (l : Env) : slot (a0 :: a1 :: a2 :: a3 :: a4 :: a5 :: a6 :: a7 :: a8 :: a9 :: a10 :: a11 :: a12 :: a13 :: s :: l) 14 = s := (rfl)
@[simp] theorem slot_15 (a0 a1 a2 a3 a4 a5 a6 a7 a8 a9 a10 a11 a12 a13 a14 s : SV) (l : Env) : slot (a0 :: a1 :: a2 :: a3 :: a4 :: a5 :: a6 :: a7 :: a8 :: a9 :: a10 :: a11 :: a12 :: a13 :: a14 :: s :: l) 15 = s := (rfl)
@[simp] theorem slot_16 (a0 a1 a2 a3 a4 a5 a6 a7 a8 a9 a10 a11 a12 a13 a14 a15 s : SV) (l : Env) : slot (a0 :: a1 :: a2 :: a3 :: a4 :: a5 :: a6 :: a7 :: a8 :: a9 :: a10 :: a11 :: a12 :: a13 :: a14 :: a15 :: s :: l) 16 = s := (rfl)
@[simp] theorem slot_17 (a0 a1 a2 a3 a4 a5 a6 a7 a8 a9 a10 a11 a12 a13 a14 a15 a16 s : SV) (l : Env) : slot (a0 :: a1 :: a2 :: a3 :: a4 :: a5 :: a6 :: a7 :: a8 :: a9 :: a10 :: a11 :: a12 :: a13 :: a14 :: a15 :: a16 :: s :: l) 17 = s := (rfl)
@[simp] theorem slot_18 (a0 a1 a2 a3 a4 a5 a6 a7 a8 a9 a10 a11 a12 a13 a14 a15 a16 a17 s : SV) (l : Env) : slot (a0 :: a1 :: a2 :: a3 :: a4 :: a5 :: a6 :: a7 :: a8 :: a9 :: a10 :: a11 :: a12 :: a13 :: a14 :: a15 :: a16 :: a17 :: s :: l) 18 = s := (rfl)
@[simp] theorem slot_19 (a0 a1 a2 a3 a4 a5 a6 a7 a8 a9 a10 a11 a12 a13 a14 a15 a16 a17 a18 s : SV) (l : Env) : slot (a0 :: a1 :: a2 :: a3 :: a4 :: a5 :: a6 :: a7 :: a8 :: a9 :: a10 :: a11 :: a12 :: a13 :: a14 :: a15 :: a16 :: a17 :: a18 :: s :: l) 19 = s := (rfl)
@[simp] theorem slot_20 (a0 a1 a2 a3 a4 a5 a6 a7 a8 a9 a10 a11 a12 a13 a14 a15 a16 a17 a18 a19 s : SV) (l : Env) : slot (a0 :: a1 :: a2 :: a3 :: a4 :: a5 :: a6 :: a7 :: a8 :: a9 :: a10 :: a11 :: a12 :: a13 :: a14 :: a15 :: a16 :: a17 :: a18 :: a19 :: s :: l) 20 = s := (rfl)
@[simp] theorem slot_21 (a0 a1 a2 a3 a4 a5 a6 a7 a8 a9 a10 a11 a12 a13 a14 a15 a16 a17 a18 a19 a20 s : SV) (l : Env) : slot (a0 :: a1 :: a2 :: a3 :: a4 :: a5 :: a6 :: a7 :: a8 :: a9 :: a10 :: a11 :: a12 :: a13 :: a14 :: a15 :: a16 :: a17 :: a18 :: a19 :: a20 :: s :: l) 21 = s := (rfl)
@[simp] theorem slot_22 (a0 a1 a2 a3 a4 a5 a6 a7 a8 a9 a10 a11 a12 a13 a14 a15 a16 a17 a18 a19 a20 a21 s : SV) (l : Env) : slot (a0 :: a1 :: a2 :: a3 :: a4 :: a5 :: a6 :: a7 :: a8 :: a9 :: a10 :: a11 :: a12 :: a13 :: a14 :: a15 :: a16 :: a17 :: a18 :: a19 :: a20 :: a21 :: s :: l) 22 = s := (rfl)
@[simp] theorem slot_23 (a0 a1 a2 a3 a4 a5 a6 a7 a8 a9 a10 a11 a12 a13 a14 a15 a16 a17 a18 a19 a20 a21 a22 s : SV) (l : Env) : slot (a0 :: a1 :: a2 :: a3 :: a4 :: a5 :: a6 :: a7 :: a8 :: a9 :: a10 :: a11 :: a12 :: a13 :: a14 :: a15 :: a16 :: a17 :: a18 :: a19 :: a20 :: a21 :: a22 :: s :: l) 23 = s := (rfl)
@[simp] theorem dat_sh (d : D) : (SV.sh d).dat = some d := (rfl)
@[simp] theorem dat_ow (k : Nat) (d : D) : (SV.ow k d).dat = some d := (rfl)
@[simp] theorem dat_io (k : Nat) (d : D) : (SV.io k d).dat = some d := (rfl)
@[simp] theorem own_ow (k : Nat) (d : D) : (SV.ow k d).own = some (k, d) := (rfl)
@[simp] theorem own_io (k : Nat) (d : D) : (SV.io k d).own = some (k, d) := (rfl)
@[simp] theorem sput_ow (k : Nat) (d e : D) : (SV.ow k d).put e = .ow k e := (rfl)
@[simp] theorem sput_io (k : Nat) (d e : D) : (SV.io k d).put e = .io k e := (rfl)

@[simp] theorem isIo_un : isIo .un = false := (rfl)
@[simp] theorem isIo_sh (d : D) : isIo (.sh d) = false := (rfl)
@[simp] theorem isIo_ow (k : Nat) (d : D) : isIo (.ow k d) = false := (rfl)
@[simp] theorem nOw_un : nOw .un = true := (rfl)
@[simp] theorem nOw_sh (d : D) : nOw (.sh d) = true := (rfl)
theorem nOw_io {s : SV} (h : nOw s = true) : isIo s = false := by cases s <;> first | rfl | cases h
@[simp] theorem svOf_0 (d : D) : svOf 0 d = .sh d := (rfl)
@[simp] theorem svOf_s (k : Nat) (d : D) : svOf (k + 1) d = .ow k d := (rfl)
@[simp] theorem svOf_1 (d : D) : svOf 1 d = .ow 0 d := (rfl)
@[simp] theorem svOf_2 (d : D) : svOf 2 d = .ow 1 d := (rfl)
@[simp] theorem ioB_refl : ∀ (e : Env), ioB e e = true
  | [] => rfl
  | .un :: e => by unfold ioB; exact ioB_refl e
  | .sh d :: e => by unfold ioB; exact ioB_refl e
  | .ow k d :: e => by unfold ioB; exact ioB_refl e
  | .io k d :: e => by unfold ioB; rw [ioB_refl e]; simp
  | .tb P q :: e => by unfold ioB; exact ioB_refl e
theorem ioB_skip {s : SV} (h : isIo s = false) (t : SV) (e e' : Env) : ioB (s :: e) (t :: e') = ioB e e' := by
  cases s <;> first | rfl | cases h
@[simp] theorem ioB_nil (e : Env) : ioB [] e = true := by unfold ioB; rfl
@[simp] theorem ioB_un (t : SV) (e e' : Env) : ioB (.un :: e) (t :: e') = ioB e e' := (rfl)
@[simp] theorem ioB_sh (d : D) (t : SV) (e e' : Env) : ioB (.sh d :: e) (t :: e') = ioB e e' := (rfl)
@[simp] theorem ioB_ow (k : Nat) (d : D) (t : SV) (e e' : Env) : ioB (.ow k d :: e) (t :: e') = ioB e e' := (rfl)
@[simp] theorem ioB_io (k k' : Nat) (d d' : D) (e e' : Env) : ioB (.io k d :: e) (.io k' d' :: e') = (k == k' && ioB e e') := (rfl)
@[simp] theorem chk_ev (e r : Env) : chk e r = if ioB e r = true then ok r else none := (rfl)
@[simp] theorem putS_ev (e : Env) (i : Nat) (s : SV) : putS e i s = if i < e.length ∧ isIo (slot e i) = false then ok (e.set i s) else none := (rfl)
@[simp] theorem kOk_0 (k : Nat) : kOk 0 k = ok () := by unfold kOk; rw [if_pos (.inl rfl)]
@[simp] theorem kOk_same (k : Nat) : kOk k k = ok () := by unfold kOk; rw [if_pos (.inr rfl)]
@[simp] theorem lenQ_ev (n : Nat) (ds : List D) : lenQ n ds = if ds.length = n then ok () else none := (rfl)
@[simp] theorem okO_ok {α : Type} (a : α) : okO (ok a) = ok a := (rfl)
@[simp] theorem okO'_ok {α : Type} (a : α) : okO' (ok a) = ok a := (rfl)
@[simp] theorem asB_bl (b : Bool) : (D.bl b).asB = some b := (rfl)
@[simp] theorem cap_eq : cap = 1000000 := (rfl)
/-! ### bodies -/
@[simp] theorem outP_nx (e : Env) : outP (ok (.nx, e)) = ok (0, .non) := (rfl)
@[simp] theorem outP_rt (k : Nat) (d : D) (e : Env) : outP (ok (.rt k d, e)) = ok (k, d) := (rfl)
theorem outI_nx {j k : Nat} {d : D} {e : Env} (h : slot e j = .io k d) : outI j (ok (.nx, e)) = ok (0, .non, d) := by unfold outI; rw [bd_ok]; simp only [h]
theorem outI_rt {j k kr : Nat} {d r : D} {e : Env} (h : slot e j = .io k d) : outI j (ok (.rt kr r, e)) = ok (kr, r, d) := by unfold outI; rw [bd_ok]; simp only [h]
/-- empty slots -/
def unsE : Nat → Env
  | 0 => []
  | n + 1 => .un :: unsE n
theorem unsE_eq : ∀ n, List.replicate n SV.un = unsE n
  | 0 => rfl
  | n + 1 => congrArg (SV.un :: ·) (unsE_eq n)
@[simp] theorem unsE_0 : unsE 0 = [] := (rfl)
@[simp] theorem unsE_1 : unsE 1 = [.un] := (rfl)
@[simp] theorem unsE_2 : unsE 2 = [.un, .un] := (rfl)
@[simp] theorem unsE_3 : unsE 3 = [.un, .un, .un] := (rfl)
@[simp] theorem unsE_4 : unsE 4 = [.un, .un, .un, .un] := (rfl)
@[simp] theorem unsE_5 : unsE 5 = [.un, .un, .un, .un, .un] := (rfl)
@[simp] theorem unsE_6 : unsE 6 = [.un, .un, .un, .un, .un, .un] := (rfl)
@[simp] theorem unsE_7 : unsE 7 = [.un, .un, .un, .un, .un, .un, .un] := (rfl)
@[simp] theorem unsE_8 : unsE 8 = [.un, .un, .un, .un, .un, .un, .un, .un] := (rfl)
@[simp] theorem unsE_9 : unsE 9 = [.un, .un, .un, .un, .un, .un, .un, .un, .un] := (rfl)
@[simp] theorem unsE_10 : unsE 10 = [.un, .un, .un, .un, .un, .un, .un, .un, .un, .un] := (rfl)
@[simp] theorem unsE_11 : unsE 11 = [.un, .un, .un, .un, .un, .un, .un, .un, .un, .un, .un] := (rfl)
@[simp] theorem unsE_12 : unsE 12 = [.un, .un, .un, .un, .un, .un, .un, .un, .un, .un, .un, .un] := (rfl)
@[simp] theorem unsE_13 : unsE 13 = [.un, .un, .un, .un, .un, .un, .un, .un, .un, .un, .un, .un, .un] := (rfl)
@[simp] theorem unsE_14 : unsE 14 = [.un, .un, .un, .un, .un, .un, .un, .un, .un, .un, .un, .un, .un, .un] := (rfl)
@[simp] theorem unsE_15 : unsE 15 = [.un, .un, .un, .un, .un, .un, .un, .un, .un, .un, .un, .un, .un, .un, .un] := (rfl)
@[simp] theorem unsE_16 : unsE 16 = [.un, .un, .un, .un, .un, .un, .un, .un, .un, .un, .un, .un, .un, .un, .un, .un] := (rfl)
@[simp] theorem unsE_17 : unsE 17 = [.un, .un, .un, .un, .un, .un, .un, .un, .un, .un, .un, .un, .un, .un, .un, .un, .un] := (rfl)
@[simp] theorem unsE_18 : unsE 18 = [.un, .un, .un, .un, .un, .un, .un, .un, .un, .un, .un, .un, .un, .un, .un, .un, .un, .un] := (rfl)
@[simp] theorem unsE_19 : unsE 19 = [.un, .un, .un, .un, .un, .un, .un, .un, .un, .un, .un, .un, .un, .un, .un, .un, .un, .un, .un] := (rfl)
@[simp] theorem unsE_20 : unsE 20 = [.un, .un, .un, .un, .un, .un, .un, .un, .un, .un, .un, .un, .un, .un, .un, .un, .un, .un, .un, .un] := (rfl)
@[simp] theorem unsE_21 : unsE 21 = [.un, .un, .un, .un, .un, .un, .un, .un, .un, .un, .un, .un, .un, .un, .un, .un, .un, .un, .un, .un, .un] := (rfl)
@[simp] theorem unsE_22 : unsE 22 = [.un, .un, .un, .un, .un, .un, .un, .un, .un, .un, .un, .un, .un, .un, .un, .un, .un, .un, .un, .un, .un, .un] := (rfl)
@[simp] theorem unsE_23 : unsE 23 = [.un, .un, .un, .un, .un, .un, .un, .un, .un, .un, .un, .un, .un, .un, .un, .un, .un, .un, .un, .un, .un, .un, .un] := (rfl)
@[simp] theorem unsE_24 : unsE 24 = [.un, .un, .un, .un, .un, .un, .un, .un, .un, .un, .un, .un, .un, .un, .un, .un, .un, .un, .un, .un, .un, .un, .un, .un] := (rfl)
@[simp] theorem unsE_25 : unsE 25 = [.un, .un, .un, .un, .un, .un, .un, .un, .un, .un, .un, .un, .un, .un, .un, .un, .un, .un, .un, .un, .un, .un, .un, .un, .un] := (rfl)
@[simp] theorem unsE_26 : unsE 26 = [.un, .un, .un, .un, .un, .un, .un, .un, .un, .un, .un, .un, .un, .un, .un, .un, .un, .un, .un, .un, .un, .un, .un, .un, .un, .un] := (rfl)
@[simp] theorem unsE_27 : unsE 27 = [.un, .un, .un, .un, .un, .un, .un, .un, .un, .un, .un, .un, .un, .un, .un, .un, .un, .un, .un, .un, .un, .un, .un, .un, .un, .un, .un] := (rfl)
@[simp] theorem unsE_28 : unsE 28 = [.un, .un, .un, .un, .un, .un, .un, .un, .un, .un, .un, .un, .un, .un, .un, .un, .un, .un, .un, .un, .un, .un, .un, .un, .un, .un, .un, .un] := (rfl)
@[simp] theorem unsE_29 : unsE 29 = [.un, .un, .un, .un, .un, .un, .un, .un, .un, .un, .un, .un, .un, .un, .un, .un, .un, .un, .un, .un, .un, .un, .un, .un, .un, .un, .un, .un, .un] := (rfl)
@[simp] theorem unsE_30 : unsE 30 = [.un, .un, .un, .un, .un, .un, .un, .un, .un, .un, .un, .un, .un, .un, .un, .un, .un, .un, .un, .un, .un, .un, .un, .un, .un, .un, .un, .un, .un, .un] := (rfl)
@[simp] theorem unsE_31 : unsE 31 = [.un, .un, .un, .un, .un, .un, .un, .un, .un, .un, .un, .un, .un, .un, .un, .un, .un, .un, .un, .un, .un, .un, .un, .un, .un, .un, .un, .un, .un, .un, .un] := (rfl)
@[simp] theorem unsE_32 : unsE 32 = [.un, .un, .un, .un, .un, .un, .un, .un, .un, .un, .un, .un, .un, .un, .un, .un, .un, .un, .un, .un, .un, .un, .un, .un, .un, .un, .un, .un, .un, .un, .un, .un] := (rfl)
@[simp] theorem env0_ev (n : Nat) (ds : List D) : env0 n ds = ds.map .sh ++ unsE (n - ds.length) := by rw [← unsE_eq]; rfl
@[simp] theorem envI_ev (n j k : Nat) (ds : List D) (dj : D) : envI n j k ds dj = (ds.take j).map .sh ++ .io k dj :: ((ds.drop j).map .sh ++ unsE (n - (ds.length + 1))) := by rw [← unsE_eq]; rfl
/-! ### loops -/
@[simp] theorem forL_nil (tg : D → Env → Rs Env) (s : Env → SR) (env : Env) : forL tg s [] env = ok (.nx, env) := (rfl)
theorem forL_cons (tg : D → Env → Rs Env) (s : Env → SR) (d : D) (ds : List D) (env : Env) : forL tg s (d :: ds) env = bd (tg d env) fun e1 => bd (s e1) fun r2 => match r2.1 with
    | .nx => forL tg s ds r2.2
    | .ct => forL tg s ds r2.2
    | .bk => ok (.nx, r2.2)
    | .rt k d => ok (.rt k d, r2.2) := (rfl)
/-- a loop that runs to its end -/
theorem forL_fold {α β : Type} {tg : D → Env → Rs Env} {s : Env → SR} (enc : α → D) (R : β → Env → Prop) (f : β → α → β) : ∀ (xs : List α) (b : β) (env : Env), R b env →
    (∀ (b : β) (x : α) (e : Env), x ∈ xs → R b e → ∃ e1 e2, tg (enc x) e = ok e1 ∧ (s e1 = ok (.nx, e2) ∨ s e1 = ok (.ct, e2)) ∧ R (f b x) e2) →
    ∃ e', forL tg s (xs.map enc) env = ok (.nx, e') ∧ R (xs.foldl f b) e'
  | [], b, env, h, _ => ⟨env, rfl, h⟩
  | x :: xs, b, env, h, st => by
    obtain ⟨e1, e2, h1, h2, h3⟩ := st b x env List.mem_cons_self h
    obtain ⟨e', q1, q2⟩ := forL_fold enc R f xs (f b x) e2 h3 fun b y e m => st b y e (List.mem_cons_of_mem _ m)
    refine ⟨e', ?_, q2⟩
    rw [List.map_cons, forL_cons, h1, bd_ok]
    rcases h2 with h2 | h2 <;> rw [h2, bd_ok] <;> exact q1
/-- .. by places -/
theorem forL_ind {tg : D → Env → Rs Env} {s : Env → SR} (I : Nat → Env → Prop) : ∀ (ds : List D) (i : Nat) (env : Env), I i env →
    (∀ (j : Nat) (d : D) (e : Env), ds[j]? = some d → I (i + j) e → ∃ e1 e2, tg d e = ok e1 ∧ (s e1 = ok (.nx, e2) ∨ s e1 = ok (.ct, e2)) ∧ I (i + j + 1) e2) →
    ∃ e', forL tg s ds env = ok (.nx, e') ∧ I (i + ds.length) e'
  | [], i, env, h, _ => ⟨env, rfl, h⟩
  | d :: ds, i, env, h, st => by
    obtain ⟨e1, e2, h1, h2, h3⟩ := st 0 d env rfl h
    obtain ⟨e', q1, q2⟩ := forL_ind I ds (i + 1) e2 h3 fun j d e m hI => by
      have := st (j + 1) d e m (by rw [show i + (j + 1) = i + 1 + j by omega]; exact hI)
      rw [show i + (j + 1) = i + 1 + j by omega] at this
      exact this
    refine ⟨e', ?_, by rw [List.length_cons, show i + (ds.length + 1) = i + 1 + ds.length by omega]; exact q2⟩
    rw [forL_cons, h1, bd_ok]
    rcases h2 with h2 | h2 <;> rw [h2, bd_ok] <;> exact q1
/-- a loop that may return: P: no item so far returned -/
theorem forL_find {α : Type} {tg : D → Env → Rs Env} {s : Env → SR} (enc : α → D) (I : Env → Prop) (k : Nat) (f : α → Option D) : ∀ (xs : List α) (env : Env), I env →
    (∀ (x : α) (e : Env), x ∈ xs → I e → ∃ e1 e2, tg (enc x) e = ok e1 ∧ I e2 ∧ match f x with
      | none => s e1 = ok (.nx, e2)
      | some d => s e1 = ok (.rt k d, e2)) →
    ∃ e', I e' ∧ forL tg s (xs.map enc) env = match xs.findSome? f with
      | none => ok (.nx, e')
      | some d => ok (.rt k d, e')
  | [], env, h, _ => ⟨env, h, rfl⟩
  | x :: xs, env, h, st => by
    obtain ⟨e1, e2, h1, h3, h2⟩ := st x env List.mem_cons_self h
    rw [List.map_cons, forL_cons, h1, bd_ok, List.findSome?_cons]
    cases hf : f x with
    | none =>
      rw [hf] at h2
      obtain ⟨e', q1, q2⟩ := forL_find enc I k f xs e2 h3 fun y e m => st y e (List.mem_cons_of_mem _ m)
      refine ⟨e', q1, ?_⟩
      simp only [h2, bd_ok]
      exact q2
    | some d =>
      rw [hf] at h2
      refine ⟨e2, h3, ?_⟩
      simp only [h2, bd_ok]
theorem whileS_succ (c : Env → TR) (s : Env → SR) (n : Nat) (env : Env) : whileS c s (n + 1) env = bd (c env) fun r => bd (chk env r.2) fun e1 => if r.1 then bd (s e1) fun r2 => match r2.1 with
    | .nx => whileS c s n r2.2
    | .ct => whileS c s n r2.2
    | .bk => ok (.nx, r2.2)
    | .rt k d => ok (.rt k d, r2.2) else ok (.nx, e1) := (rfl)
/-- a while by a measure: I a state of measure at most m; it ends, or returns -/
theorem whileS_run {c : Env → TR} {s : Env → SR} (I : Nat → Env → Prop) (P : Fl × Env → Prop)
    (h : ∀ (m : Nat) (e : Env), I m e → (c e = ok (false, e) ∧ P (.nx, e)) ∨ (c e = ok (true, e) ∧ ∃ fl e2, s e = ok (fl, e2) ∧ match fl with
      | .nx => 0 < m ∧ I (m - 1) e2
      | .ct => 0 < m ∧ I (m - 1) e2
      | .bk => P (.nx, e2)
      | .rt k d => P (.rt k d, e2))) : ∀ (n m : Nat) (e : Env), m < n → I m e → ∃ r, whileS c s n e = ok r ∧ P r
  | 0, m, e, l, _ => absurd l (Nat.not_lt_zero _)
  | n + 1, m, e, l, i => by
    rw [whileS_succ]
    rcases h m e i with ⟨h1, h2⟩ | ⟨h1, fl, e2, h2, h3⟩
    · rw [h1]
      exact ⟨(.nx, e), by simp, h2⟩
    · rw [h1]
      cases fl with
      | nx =>
        obtain ⟨r, q1, q2⟩ := whileS_run I P h n (m - 1) e2 (by have := h3.1; omega) h3.2
        exact ⟨r, by simp [h2, q1], q2⟩
      | ct =>
        obtain ⟨r, q1, q2⟩ := whileS_run I P h n (m - 1) e2 (by have := h3.1; omega) h3.2
        exact ⟨r, by simp [h2, q1], q2⟩
      | bk => exact ⟨(.nx, e2), by simp [h2], h3⟩
      | rt k d => exact ⟨(.rt k d, e2), by simp [h2], h3⟩
/-! ### comprehensions -/
@[simp] theorem wOk_nil (e : Env) : wOk e [] = true := (rfl)
@[simp] theorem wOk_cons (e : Env) (v : Nat) (vs : List Nat) : wOk e (v :: vs) = (nOw (slot e v) && wOk e vs) := (rfl)
@[simp] theorem wipeE_nil (e : Env) : wipeE e [] = e := (rfl)
@[simp] theorem wipeE_cons (e : Env) (v : Nat) (vs : List Nat) : wipeE e (v :: vs) = (wipeE e vs).set v .un := (rfl)
@[simp] theorem restE_nil (a e : Env) : restE a e [] = e := (rfl)
@[simp] theorem restE_cons (a e : Env) (v : Nat) (vs : List Nat) : restE a e (v :: vs) = restE a (e.set v (slot a v)) vs := (rfl)
@[simp] theorem wp_ev (vs : List Nat) (e : Env) : wp vs e = if wOk e vs = true then ok (wipeE e vs) else none := (rfl)
/-- one turn of a comprehension -/
def lc1 (kk : Nat) (vs : List Nat) (tg : D → Env → Rs Env) (tt : Env → TR) (el : Env → ER) (d : D) (env : Env) : Rs (Option D × Env) := bd (tg d env) fun e1 => bd (tt e1) fun b => if b.1 then bd (el b.2) fun r => bd (kOk kk r.1) fun _ => bd (wp vs r.2.2) fun e2 => ok (some r.2.1, e2) else bd (wp vs b.2) fun e2 => ok (none, e2)
@[simp] theorem lc1_ev (kk : Nat) (vs : List Nat) (tg : D → Env → Rs Env) (tt : Env → TR) (el : Env → ER) (d : D) (env : Env) : lc1 kk vs tg tt el d env = bd (tg d env) fun e1 => bd (tt e1) fun b => if b.1 then bd (el b.2) fun r => bd (kOk kk r.1) fun _ => bd (wp vs r.2.2) fun e2 => ok (some r.2.1, e2) else bd (wp vs b.2) fun e2 => ok (none, e2) := (rfl)
theorem bd_bd {α β γ : Type} (r : Rs α) (f : α → Rs β) (g : β → Rs γ) : bd (bd r f) g = bd r fun a => bd (f a) g := by
  cases r with
  | none => rfl
  | some x => cases x <;> rfl
theorem bd_fun {α β : Type} {r : Rs α} {f g : α → Rs β} (h : ∀ a, f a = g a) : bd r f = bd r g := by
  have : f = g := funext h
  rw [this]
theorem lcL_cons (kk : Nat) (vs : List Nat) (tg : D → Env → Rs Env) (tt : Env → TR) (el : Env → ER) (d : D) (ds : List D) (env : Env) : lcL kk vs tg tt el (d :: ds) env = bd (lc1 kk vs tg tt el d env) fun q => bd (lcL kk vs tg tt el ds q.2) fun q2 => ok (q.1.toList ++ q2.1, q2.2) := by
  unfold lc1
  rw [bd_bd]
  show bd (tg d env) _ = _
  refine bd_fun fun e1 => ?_
  rw [bd_bd]
  refine bd_fun fun b => ?_
  cases hb : b.1 with
  | true =>
    simp only [if_true, bd_bd]
    refine bd_fun fun r => bd_fun fun _ => bd_fun fun e2 => ?_
    rw [bd_ok]
    rfl
  | false =>
    simp only [Bool.false_eq_true, if_false, bd_bd]
    refine bd_fun fun e2 => ?_
    rw [bd_ok]
    show _ = bd (lcL kk vs tg tt el ds e2) fun q2 => ok (q2.1, q2.2)
    cases lcL kk vs tg tt el ds e2 with
    | none => rfl
    | some x => cases x <;> rfl
@[simp] theorem lcL_nil (kk : Nat) (vs : List Nat) (tg : D → Env → Rs Env) (tt : Env → TR) (el : Env → ER) (env : Env) : lcL kk vs tg tt el [] env = ok ([], env) := (rfl)
/-- a comprehension that leaves the state as it is -/
theorem lcL_map {α : Type} {kk : Nat} {vs : List Nat} {tg : D → Env → Rs Env} {tt : Env → TR} {el : Env → ER} (enc : α → D) (f : α → Option D) {env : Env} : ∀ (xs : List α), (∀ x ∈ xs, lc1 kk vs tg tt el (enc x) env = ok (f x, env)) →
    lcL kk vs tg tt el (xs.map enc) env = ok (xs.filterMap f, env)
  | [], _ => rfl
  | x :: xs, h => by
    rw [List.map_cons, lcL_cons, h x List.mem_cons_self, bd_ok, lcL_map enc f xs fun y m => h y (List.mem_cons_of_mem _ m), bd_ok, List.filterMap_cons]
    cases f x <;> rfl
/-- .. that carries a state -/
theorem lcL_fold {α β : Type} {kk : Nat} {vs : List Nat} {tg : D → Env → Rs Env} {tt : Env → TR} {el : Env → ER} (enc : α → D) (R : β → Env → Prop) (f : β → α → β) (g : β → α → Option D) : ∀ (xs : List α) (b : β) (env : Env), R b env →
    (∀ (b : β) (x : α) (e : Env), x ∈ xs → R b e → ∃ e2, lc1 kk vs tg tt el (enc x) e = ok (g b x, e2) ∧ R (f b x) e2) →
    ∃ ys e', lcL kk vs tg tt el (xs.map enc) env = ok (ys, e') ∧ R (xs.foldl f b) e' ∧ ys = (xs.foldl (fun (p : List D × β) x => (p.1 ++ (g p.2 x).toList, f p.2 x)) ([], b)).1
  | [], b, env, h, _ => ⟨[], env, rfl, h, rfl⟩
  | x :: xs, b, env, h, st => by
    obtain ⟨e2, h1, h2⟩ := st b x env List.mem_cons_self h
    obtain ⟨ys, e', q1, q2, q3⟩ := lcL_fold enc R f g xs (f b x) e2 h2 fun b y e m => st b y e (List.mem_cons_of_mem _ m)
    refine ⟨(g b x).toList ++ ys, e', ?_, q2, ?_⟩
    · rw [List.map_cons, lcL_cons, h1, bd_ok, q1, bd_ok]
    · have gen : ∀ (zs : List α) (p : List D) (b : β), (zs.foldl (fun (p : List D × β) x => (p.1 ++ (g p.2 x).toList, f p.2 x)) (p, b)).1 = p ++ (zs.foldl (fun (p : List D × β) x => (p.1 ++ (g p.2 x).toList, f p.2 x)) ([], b)).1 := by
        intro zs
        induction zs with
        | nil => intro p b; simp
        | cons z zs ih =>
          intro p b
          rw [List.foldl_cons, List.foldl_cons, ih, ih (p := [] ++ _)]
          simp [List.append_assoc]
      rw [List.foldl_cons, gen, q3]
      rfl
end VL
/-! Ev2: operators on encoded data. -/
namespace VL
open PySem PySem.Spec PyProof.Rows L2
/-! ### scalars -/
@[simp] theorem gLt_ii (i j : Int) : gLt (.int i) (.int j) = some (.bl (decide (i < j))) := (rfl)
@[simp] theorem gLe_ii (i j : Int) : gLe (.int i) (.int j) = some (.bl (decide (i ≤ j))) := (rfl)
@[simp] theorem gGt_ii (i j : Int) : gGt (.int i) (.int j) = some (.bl (decide (j < i))) := (rfl)
@[simp] theorem gGe_ii (i j : Int) : gGe (.int i) (.int j) = some (.bl (decide (j ≤ i))) := (rfl)
@[simp] theorem gAdd_ii (i j : Int) : gAdd (.int i) (.int j) = some (.int (i + j)) := (rfl)
@[simp] theorem gSub_ii (i j : Int) : gSub (.int i) (.int j) = some (.int (i - j)) := (rfl)
theorem gMul_ii {i j : Int} (h : (-(2 ^ 64) < i ∧ i < 2 ^ 64) ∨ (-(2 ^ 64) < j ∧ j < 2 ^ 64)) : gMul (.int i) (.int j) = some (.int (i * j)) := by
  unfold gMul gI; simp only; rw [if_pos (decide_eq_true h)]
theorem gMod_ii {i j : Int} (h : 0 < j) : gMod (.int i) (.int j) = some (.int (i % j)) := by
  unfold gMod gI; simp only; rw [if_pos (decide_eq_true h)]
theorem gDiv_ii {i j : Int} (h : 0 < j ∧ j < 1073741824) : gDiv (.int i) (.int j) = some (.int (i / j)) := by
  unfold gDiv gI; simp only; rw [if_pos (decide_eq_true h)]
theorem gPow_ii {i j : Int} (h : 0 ≤ j ∧ j ≤ 1000000 ∧ i.natAbs < 2 ^ 64) : gPow (.int i) (.int j) = some (.int (i ^ j.toNat)) := by
  unfold gPow gI; simp only; rw [if_pos (decide_eq_true h)]
@[simp] theorem scV_i (i : Int) : scV (.int i) = some (.int i) := (rfl)
@[simp] theorem scV_b (b : Bool) : scV (.bl b) = some (.bl b) := (rfl)
@[simp] theorem scV_s (x : Str) : scV (.str x) = some (.str x) := (rfl)
@[simp] theorem scV_n : scV .non = some .non := (rfl)
@[simp] theorem truth_bl (b : Bool) : truth (.bl b) = some b := (rfl)
@[simp] theorem truth_lst (xs : List D) : truth (.lst xs) = some (!xs.isEmpty) := (rfl)
@[simp] theorem gMin2_ii (i j : Int) : gMin2 [.int i, .int j] = some (.int (if j < i then j else i)) := (rfl)
@[simp] theorem gMax2_ii (i j : Int) : gMax2 [.int i, .int j] = some (.int (if j > i then j else i)) := (rfl)
@[simp] theorem gAbs_i (i : Int) : gAbs [.int i] = some (.int (if i < 0 then -i else i)) := (rfl)
@[simp] theorem gInt_i (i : Int) : gInt [.int i] = some (.int i) := (rfl)
@[simp] theorem gInt_b (b : Bool) : gInt [.bl b] = some (.int (if b then 1 else 0)) := (rfl)
@[simp] theorem gLenA_lst (xs : List D) : gLenA [.lst xs] = some (.int (xs.length : Int)) := (rfl)
@[simp] theorem gLenA_lsx (xs : List D) : gLenA [.lsx xs] = some (.int (xs.length : Int)) := (rfl)
@[simp] theorem gLenA_tup (xs : List D) : gLenA [.tup xs] = some (.int (xs.length : Int)) := (rfl)
@[simp] theorem gLenA_dct (t : Bool) (ks vs : List D) : gLenA [.dct t ks vs] = some (.int (ks.length : Int)) := (rfl)
@[simp] theorem blsOf_mapB (bs : List Bool) : blsOf (bs.map .bl) = some bs := blsOf_map bs
@[simp] theorem gAll_bl (bs : List Bool) : gAll [.lst (bs.map .bl)] = some (.bl (bs.all id)) := by show (blsOf (bs.map .bl)).map (fun bs => D.bl (bs.all id)) = _; rw [blsOf_map]; rfl
@[simp] theorem gAny_bl (bs : List Bool) : gAny [.lst (bs.map .bl)] = some (.bl (bs.any id)) := by show (blsOf (bs.map .bl)).map (fun bs => D.bl (bs.any id)) = _; rw [blsOf_map]; rfl
@[simp] theorem gNotN_non (d : D) : gNotN d .non = some (.bl (!isNon d)) := (rfl)
@[simp] theorem gIs_non (d : D) : gIs d .non = some (.bl (isNon d)) := (rfl)
@[simp] theorem gIs_bl (d : D) (b : Bool) : gIs d (.bl b) = some (.bl (isBl b d)) := (rfl)
@[simp] theorem isNon_non : isNon .non = true := (rfl)
@[simp] theorem isNon_int (i : Int) : isNon (.int i) = false := (rfl)
@[simp] theorem isNon_str (x : Str) : isNon (.str x) = false := (rfl)
@[simp] theorem isNon_bl (b : Bool) : isNon (.bl b) = false := (rfl)
@[simp] theorem isNon_tup (xs : List D) : isNon (.tup xs) = false := (rfl)
@[simp] theorem isNon_lst (xs : List D) : isNon (.lst xs) = false := (rfl)
@[simp] theorem isBl_int (b : Bool) (i : Int) : isBl b (.int i) = false := (rfl)
@[simp] theorem isBl_str (b : Bool) (x : Str) : isBl b (.str x) = false := (rfl)
@[simp] theorem isBl_tup (b : Bool) (xs : List D) : isBl b (.tup xs) = false := (rfl)
@[simp] theorem isBl_lst (b : Bool) (xs : List D) : isBl b (.lst xs) = false := (rfl)
@[simp] theorem isBl_bl (b c : Bool) : isBl b (.bl c) = (c == b) := (rfl)
/-! ### plain data -/
@[simp] theorem dp_int (n : Nat) (i : Int) : dp n (.int i) = true := by cases n <;> rfl
@[simp] theorem dp_bl (n : Nat) (b : Bool) : dp n (.bl b) = true := by cases n <;> rfl
@[simp] theorem dp_non (n : Nat) : dp n .non = true := by cases n <;> rfl
@[simp] theorem dp_tup (n : Nat) (xs : List D) : dp (n + 1) (.tup xs) = dpL n xs := by rw [dp]
@[simp] theorem dp_lst (n : Nat) (xs : List D) : dp (n + 1) (.lst xs) = dpL n xs := by rw [dp]
theorem dpL_nil (n : Nat) : dpL n [] = true := by rw [dpL]
theorem dpL_cons (n : Nat) (d : D) (ds : List D) : dpL n (d :: ds) = (dp n d && dpL n ds) := by rw [dpL]
theorem dpL_all {n : Nat} : ∀ {ds : List D}, (∀ d ∈ ds, dp n d = true) → dpL n ds = true
  | [], _ => dpL_nil n
  | d :: ds, h => by rw [dpL_cons, h d List.mem_cons_self, dpL_all fun e m => h e (List.mem_cons_of_mem _ m)]; rfl
theorem dpL_map {α : Type} {n : Nat} {f : α → D} {xs : List α} (h : ∀ x ∈ xs, dp n (f x) = true) : dpL n (xs.map f) = true :=
  dpL_all fun d m => by obtain ⟨x, hx, rfl⟩ := List.mem_map.mp m; exact h x hx
@[simp] theorem dpL_ints (n : Nat) (xs : List Int) : dpL n (xs.map .int) = true := dpL_map fun x _ => dp_int n x
@[simp] theorem py_int (i : Int) : py (.int i) = .int i := by rw [py]
@[simp] theorem py_lst (xs : List D) : py (.lst xs) = .list (pyL xs) := by rw [py]
@[simp] theorem py_tup (xs : List D) : py (.tup xs) = .tuple (pyL xs) := by rw [py]
@[simp] theorem py_non : py .non = .none := by rw [py]
@[simp] theorem pyL_nil : pyL [] = [] := by rw [pyL]
@[simp] theorem pyL_cons (d : D) (ds : List D) : pyL (d :: ds) = py d :: pyL ds := by rw [pyL]
theorem pyL_map : ∀ ds : List D, pyL ds = ds.map py
  | [] => by rw [pyL]; rfl
  | d :: ds => by rw [pyL, pyL_map ds]; rfl
@[simp] theorem eqv_ii (i j : Int) : PyData.eqv (.int i) (.int j) = (i == j) := by rw [PyData.eqv]
theorem eqvAll_nil_r : ∀ xs : List PyData, PyData.eqvAll xs [] = xs.isEmpty
  | [] => by rw [PyData.eqvAll]; rfl
  | x :: xs => by rw [PyData.eqvAll]; rfl
theorem eqvAll_ints : ∀ xs ys : List Int, PyData.eqvAll (xs.map .int) (ys.map .int) = decide (xs = ys)
  | [], [] => by simp [PyData.eqvAll]
  | [], y :: ys => by simp [PyData.eqvAll]
  | x :: xs, [] => by simp [PyData.eqvAll]
  | x :: xs, y :: ys => by
    rw [List.map_cons, List.map_cons, PyData.eqvAll, eqvAll_ints xs ys, eqv_ii]
    by_cases h : x = y <;> simp [h]
@[simp] theorem gEq_ii (i j : Int) : gEq (.int i) (.int j) = some (.bl (decide (i = j))) := by
  unfold gEq D.eqv
  rw [dp_int, dp_int, py_int, py_int, eqv_ii]
  by_cases h : i = j <;> simp [h]
@[simp] theorem gNe_ii (i j : Int) : gNe (.int i) (.int j) = some (.bl (decide (i ≠ j))) := by
  unfold gNe D.eqv
  rw [dp_int, dp_int, py_int, py_int, eqv_ii]
  by_cases h : i = j <;> simp [h]
theorem eqv_nil_r (xs : List PyData) : PyData.eqv (.list xs) (.list []) = xs.isEmpty := by rw [PyData.eqv, eqvAll_nil_r]
/-- x == [] -/
theorem gEq_nil {xs : List D} (h : dpL 19 xs = true) : gEq (.lst xs) (.lst []) = some (.bl xs.isEmpty) := by
  unfold gEq D.eqv
  rw [dp_lst, dp_lst, h, dpL_nil, py_lst, py_lst, pyL_nil, eqv_nil_r, pyL_map]
  cases xs <;> rfl
theorem gNe_nil {xs : List D} (h : dpL 19 xs = true) : gNe (.lst xs) (.lst []) = some (.bl (!xs.isEmpty)) := by
  unfold gNe D.eqv
  rw [dp_lst, dp_lst, h, dpL_nil, py_lst, py_lst, pyL_nil, eqv_nil_r, pyL_map]
  cases xs <;> rfl
/-! ### subscripts -/
@[simp] theorem ix_lst (xs : List D) (i : Int) : D.ix (.lst xs) (.int i) = atI xs i := (rfl)
@[simp] theorem ix_lsx (xs : List D) (i : Int) : D.ix (.lsx xs) (.int i) = atI xs i := (rfl)
@[simp] theorem ix_tup (xs : List D) (i : Int) : D.ix (.tup xs) (.int i) = atI xs i := (rfl)
theorem ix_dct (t : Bool) (ks vs : List D) (k : D) : D.ix (.dct t ks vs) k = (kOf t k).bind fun q => dval t ks vs q := by
  cases k <;> rfl
theorem atIN {α : Type} (xs : List α) (i : Nat) : atI xs (i : Int) = xs[i]? := by
  unfold atI ixN
  by_cases h : i < xs.length
  · rw [if_pos (Int.natCast_nonneg i), if_pos (by omega)]; simp
  · rw [if_pos (Int.natCast_nonneg i), if_neg (by omega), List.getElem?_eq_none (by omega)]; rfl
theorem atI_of {α : Type} {xs : List α} {i : Int} (h : 0 ≤ i) : atI xs i = xs[i.toNat]? := by
  rw [← atIN, Int.toNat_of_nonneg h]
theorem atI_map {α β : Type} (f : α → β) (xs : List α) (i : Int) : atI (xs.map f) i = (atI xs i).map f := by
  unfold atI
  rw [List.length_map]
  cases ixN xs.length i <;> simp
theorem atI_last {α : Type} (xs : List α) : atI xs (-1) = xs.getLast? := by
  unfold atI ixN
  rw [if_neg (by omega)]
  cases xs with
  | nil => rfl
  | cons x xs =>
    rw [if_pos (by simp; omega)]
    have : (-1 + ((x :: xs).length : Int)).toNat = (x :: xs).length - 1 := by simp; omega
    rw [Option.bind_some, this, List.getLast?_eq_getElem?]
@[simp] theorem atI_0 {α : Type} (x : α) (xs : List α) : atI (x :: xs) 0 = some x := by rw [atI_of (by omega)]; rfl
@[simp] theorem atI_1 {α : Type} (x y : α) (xs : List α) : atI (x :: y :: xs) 1 = some y := by rw [atI_of (by omega)]; rfl
@[simp] theorem atI_2 {α : Type} (x y z : α) (xs : List α) : atI (x :: y :: z :: xs) 2 = some z := by rw [atI_of (by omega)]; rfl
theorem ixN_ok {n : Nat} {i : Int} (h0 : 0 ≤ i) (h : i < n) : ixN n i = some i.toNat := by
  unfold ixN; rw [if_pos h0, if_pos h]
@[simp] theorem rng0 (n : Nat) : rng 0 n = (List.range n).map fun i : Nat => D.int i := by
  unfold rng; congr 1; funext i; simp
theorem nodup_inj {α : Type} {l : List α} {i j : Nat} {hi : i < l.length} {hj : j < l.length} (nd : l.Nodup) (e : l[i] = l[j]) : i = j := by
  rcases Nat.lt_trichotomy i j with h | h | h
  · exact absurd e (List.pairwise_iff_getElem.mp nd i j hi hj h)
  · exact h
  · exact absurd e.symm (List.pairwise_iff_getElem.mp nd j i hj hi h)
/-! ### keys -/
structure KEn {α : Type} (t : Bool) (ek : α → D) (qk : α → Sum Key (List Key)) : Prop where
  k : ∀ a, kOf t (ek a) = some (qk a)
  inj : ∀ a b, qk a = qk b → a = b
theorem ken_int : KEn false D.int (fun i => .inl (.inl i)) := ⟨fun _ => rfl, fun a b h => by cases h; rfl⟩
/-- a tuple of ints -/
def eB (b : List Int) : D := .tup (b.map .int)
theorem kOfL_ints (b : List Int) : kOfL (b.map .int) = some (b.map .inl) := by
  induction b with
  | nil => rfl
  | cons x b ih => rw [List.map_cons]; unfold kOfL; rw [ih]; rfl
theorem ken_tup : KEn true eB (fun b => .inr (b.map .inl)) := ⟨fun b => by show (kOfL (b.map .int)).map Sum.inr = _; rw [kOfL_ints]; rfl, fun a b h => by
  have h : a.map Sum.inl = b.map (Sum.inl (β := Str)) := Sum.inr.inj h
  exact (List.map_inj_right (fun x y e => by cases e; rfl)).mp h⟩
section
variable {α β : Type} {t : Bool} {ek : α → D} {qk : α → Sum Key (List Key)} [DecidableEq α]
theorem KEn.dec (K : KEn t ek qk) (a b : α) : decide (kOf t (ek a) = some (qk b)) = decide (a = b) := by
  rw [K.k]
  by_cases h : a = b
  · rw [h]; simp
  · rw [decide_eq_false h, decide_eq_false fun z => h (K.inj a b (Option.some.inj z))]
theorem KEn.ite {γ : Type} (K : KEn t ek qk) (a b : α) (x y : γ) : (if kOf t (ek a) = some (qk b) then x else y) = if a = b then x else y := by
  by_cases h : a = b
  · rw [if_pos h, if_pos (by rw [K.k, h])]
  · rw [if_neg h, if_neg fun z => h (K.inj a b (Option.some.inj ((K.k a) ▸ z)))]
theorem KEn.val (K : KEn t ek qk) (ev : β → D) (k : α) : ∀ kv : List (α × β), dval t (kv.map fun p => ek p.1) (kv.map fun p => ev p.2) (qk k) = (kv.lookup k).map ev
  | [] => rfl
  | (a, b) :: kv => by
    rw [List.map_cons, List.map_cons]
    show (if kOf t (ek a) = some (qk k) then some (ev b) else dval t (kv.map fun p => ek p.1) (kv.map fun p => ev p.2) (qk k)) = _
    rw [K.ite, KEn.val K ev k kv, List.lookup_cons]
    by_cases h : a = k
    · rw [if_pos h, h]; simp
    · rw [if_neg h]
      have : (k == a) = false := by simpa using fun e => h e.symm
      rw [this]
theorem KEn.has (K : KEn t ek qk) (k : α) : ∀ (ks : List α) (vs : List D), vs.length = ks.length → (dval t (ks.map ek) vs (qk k)).isSome = decide (k ∈ ks)
  | [], [], _ => rfl
  | a :: ks, v :: vs, h => by
    rw [List.map_cons]
    show (if kOf t (ek a) = some (qk k) then some v else dval t (ks.map ek) vs (qk k)).isSome = _
    rw [K.ite]
    have ih := KEn.has K k ks vs (by simpa using h)
    by_cases e : a = k
    · rw [if_pos e, e]; simp
    · rw [if_neg e, ih]
      have : k ≠ a := fun z => e z.symm
      simp [this]
  | [], _ :: _, h => by cases h
  | _ :: _, [], h => by cases h
theorem KEn.find (K : KEn t ek qk) (ks : List α) (k : α) : dfind t (ks.map ek) (qk k) = ks.findIdx? fun a => decide (a = k) := by
  unfold dfind
  rw [List.findIdx?_map]
  congr 1
  funext a
  exact K.dec a k
theorem KEn.mem (K : KEn t ek qk) (ks : List α) (vs : List D) (k : α) (h : vs.length = ks.length) : D.mem (ek k) (.dct t (ks.map ek) vs) = some (decide (k ∈ ks)) := by
  have : D.mem (ek k) (.dct t (ks.map ek) vs) = (kOf t (ek k)).map fun q => (dval t (ks.map ek) vs q).isSome := by
    cases ek k <;> rfl
  rw [this, K.k, Option.map_some, K.has k ks vs h]
theorem KEn.in_ (K : KEn t ek qk) (ks : List α) (vs : List D) (k : α) (h : vs.length = ks.length) : gIn (ek k) (.dct t (ks.map ek) vs) = some (.bl (decide (k ∈ ks))) := by
  unfold gIn; rw [K.mem ks vs k h]; rfl
theorem KEn.notin (K : KEn t ek qk) (ks : List α) (vs : List D) (k : α) (h : vs.length = ks.length) : gNotIn (ek k) (.dct t (ks.map ek) vs) = some (.bl (!decide (k ∈ ks))) := by
  unfold gNotIn; rw [K.mem ks vs k h]; rfl
theorem KEn.new (K : KEn t ek qk) {ks : List α} {vs : List D} {k : α} {x : D} (h : vs.length = ks.length) (n : k ∉ ks) (c : ks.length < cap) : D.store (.dct t (ks.map ek) vs) (ek k) x = some (.dct t ((ks ++ [k]).map ek) (vs ++ [x])) := by
  unfold D.store
  simp only
  rw [K.k, Option.bind_some, K.find]
  have : (ks.findIdx? fun a => decide (a = k)) = none := by
    rw [List.findIdx?_eq_none_iff]
    intro a m
    rw [decide_eq_false_iff_not]
    intro e
    exact n (e ▸ m)
  rw [this]
  simp only
  rw [if_pos (by rw [List.length_map]; exact ⟨c, h⟩), List.map_append]
  rfl
theorem KEn.old (K : KEn t ek qk) {ks : List α} {vs : List D} {k : α} {x : D} {j : Nat} (nd : ks.Nodup) (hj : ks[j]? = some k) (c : ks.length < cap) : D.store (.dct t (ks.map ek) vs) (ek k) x = some (.dct t (ks.map ek) (vs.set j x)) := by
  unfold D.store
  simp only
  rw [K.k, Option.bind_some, K.find]
  have lt : j < ks.length := (List.getElem?_eq_some_iff.mp hj).1
  have ej : ks[j] = k := (List.getElem?_eq_some_iff.mp hj).2
  have : (ks.findIdx? fun a => decide (a = k)) = some j := by
    rw [List.findIdx?_eq_some_iff_getElem]
    refine ⟨lt, by simpa using ej, fun i hi => ?_⟩
    simp only [decide_eq_true_eq]
    intro e
    have := nodup_inj (i := i) (j := j) (hi := by omega) (hj := lt) nd (e.trans ej.symm)
    omega
  rw [this]
  simp only
  rw [if_pos]
  refine ⟨?_, by rw [List.length_map]; exact c⟩
  rw [← List.map_drop, List.all_eq_true]
  intro d m
  obtain ⟨a, ha, rfl⟩ := List.mem_map.mp m
  rw [K.dec]
  have : a ≠ k := by
    intro e
    obtain ⟨i, hi, ei⟩ := List.mem_iff_getElem.mp ha
    rw [List.getElem_drop] at ei
    rw [List.length_drop] at hi
    have := nodup_inj (i := j + 1 + i) (j := j) (hi := by omega) (hj := lt) nd ((ei.trans e).trans ej.symm)
    omega
  simp [this]
theorem KEn.ix (K : KEn t ek qk) (ev : β → D) (kv : List (α × β)) (k : α) : D.ix (.dct t (kv.map fun p => ek p.1) (kv.map fun p => ev p.2)) (ek k) = (kv.lookup k).map ev := by
  rw [ix_dct, K.k, Option.bind_some, K.val]
end
/-! ### lists of ints -/
theorem eqv_any (x : Int) : ∀ xs : List Int, (pyL (xs.map .int)).any (fun z => PyData.eqv z (.int x)) = decide (x ∈ xs)
  | [] => by simp
  | y :: ys => by
    rw [List.map_cons, pyL_cons, List.any_cons, py_int, eqv_ii, eqv_any x ys]
    by_cases h : y = x
    · simp [h]
    · have : x ≠ y := fun e => h e.symm
      simp [h, this]
theorem mem_ints (x : Int) (xs : List Int) : D.mem (.int x) (.lst (xs.map .int)) = some (decide (x ∈ xs)) := by
  unfold D.mem
  simp only
  rw [dp_int, dpL_ints, if_pos (by rfl), py_int, eqv_any]
@[simp] theorem gIn_ints (x : Int) (xs : List Int) : gIn (.int x) (.lst (xs.map .int)) = some (.bl (decide (x ∈ xs))) := by unfold gIn; rw [mem_ints]; rfl
@[simp] theorem gNotIn_ints (x : Int) (xs : List Int) : gNotIn (.int x) (.lst (xs.map .int)) = some (.bl (!decide (x ∈ xs))) := by unfold gNotIn; rw [mem_ints]; rfl
/-! ### paths -/
@[simp] theorem subD_nil (d : D) : subD [] d = some d := (rfl)
@[simp] theorem setD_nil (d x : D) : setD [] d x = x := (rfl)
theorem subD_one (j : Nat) (d : D) : subD [j] d = d.kid j := by unfold subD; cases d.kid j <;> rfl
theorem setD_one {j : Nat} {d c x : D} (h : d.kid j = some c) : setD [j] d x = d.setKid j x := by unfold setD; rw [h]; rfl
@[simp] theorem kid_lst (ds : List D) (j : Nat) : (D.lst ds).kid j = ds[j]? := (rfl)
@[simp] theorem kid_dct (t : Bool) (ks ds : List D) (j : Nat) : (D.dct t ks ds).kid j = ds[j]? := (rfl)
@[simp] theorem setKid_lst (ds : List D) (j : Nat) (x : D) : (D.lst ds).setKid j x = .lst (ds.set j x) := (rfl)
@[simp] theorem setKid_dct (t : Bool) (ks ds : List D) (j : Nat) (x : D) : (D.dct t ks ds).setKid j x = .dct t ks (ds.set j x) := (rfl)
theorem store_lst {ds : List D} {i : Int} {x : D} (h0 : 0 ≤ i) (h : i < ds.length) : D.store (.lst ds) (.int i) x = some (.lst (ds.set i.toNat x)) := by
  unfold D.store; simp only; rw [ixN_ok h0 h]; rfl
theorem kix_lst {ds : List D} {i : Int} (h0 : 0 ≤ i) (h : i < ds.length) : D.kix (.lst ds) (.int i) = some i.toNat := by
  unfold D.kix; simp only; rw [ixN_ok h0 h]
/-! ### comprehensions -/
theorem lcL_all {α : Type} {kk : Nat} {vs : List Nat} {tg : D → Env → Rs Env} {tt : Env → TR} {el : Env → ER} (enc f : α → D) {env : Env} (xs : List α) (h : ∀ x ∈ xs, lc1 kk vs tg tt el (enc x) env = ok (some (f x), env)) :
    lcL kk vs tg tt el (xs.map enc) env = ok (xs.map f, env) := by
  rw [lcL_map enc (fun x => some (f x)) xs h]
  congr 2
  exact congrFun (List.filterMap_eq_map') xs
theorem gAll_map {α : Type} (p : α → Bool) (xs : List α) : gAll [.lst (xs.map fun x => D.bl (p x))] = some (.bl (xs.all p)) := by
  have : xs.map (fun x => D.bl (p x)) = (xs.map p).map .bl := by rw [List.map_map]; rfl
  rw [this, gAll_bl]; simp
theorem gAny_map {α : Type} (p : α → Bool) (xs : List α) : gAny [.lst (xs.map fun x => D.bl (p x))] = some (.bl (xs.any p)) := by
  have : xs.map (fun x => D.bl (p x)) = (xs.map p).map .bl := by rw [List.map_map]; rfl
  rw [this, gAny_bl]; simp

/-- a loop whose state is told of the items walked so far -/
theorem forL_split {α : Type} {tg : D → Env → Rs Env} {s : Env → SR} (enc : α → D) (R : List α → Env → Prop) (xs : List α) (env : Env) (h : R [] env)
    (st : ∀ (pre : List α) (x : α) (suf : List α) (e : Env), xs = pre ++ x :: suf → R pre e → ∃ e1 e2, tg (enc x) e = ok e1 ∧ (s e1 = ok (.nx, e2) ∨ s e1 = ok (.ct, e2)) ∧ R (pre ++ [x]) e2) : ∃ e', forL tg s (xs.map enc) env = ok (.nx, e') ∧ R xs e' := by
  have gen : ∀ (suf pre : List α) (env : Env), xs = pre ++ suf → R pre env → ∃ e', forL tg s (suf.map enc) env = ok (.nx, e') ∧ R xs e' := by
    intro suf
    induction suf with
    | nil => intro pre env e r; rw [List.append_nil] at e; subst e; exact ⟨env, forL_nil _ _ _, r⟩
    | cons x suf ih =>
      intro pre env e r
      obtain ⟨e1, e2, h1, h2, h3⟩ := st pre x suf env e r
      obtain ⟨e', q1, q2⟩ := ih (pre ++ [x]) e2 (by rw [e]; simp) h3
      refine ⟨e', ?_, q2⟩
      rw [List.map_cons, forL_cons, h1, bd_ok]
      rcases h2 with h2 | h2 <;> rw [h2, bd_ok] <;> exact q1
  exact gen xs [] env rfl h
/-- a loop left by break at x -/
theorem forL_brk {α : Type} {tg : D → Env → Rs Env} {s : Env → SR} (enc : α → D) (R : List α → Env → Prop) (Q : Env → Prop) (pre0 : List α) (x0 : α) (suf0 : List α) (env : Env) (h : R [] env)
    (st : ∀ (pre : List α) (x : α) (suf : List α) (e : Env), pre0 = pre ++ x :: suf → R pre e → ∃ e1 e2, tg (enc x) e = ok e1 ∧ (s e1 = ok (.nx, e2) ∨ s e1 = ok (.ct, e2)) ∧ R (pre ++ [x]) e2)
    (hx : ∀ e, R pre0 e → ∃ e1 e2, tg (enc x0) e = ok e1 ∧ s e1 = ok (.bk, e2) ∧ Q e2) : ∃ e', forL tg s ((pre0 ++ x0 :: suf0).map enc) env = ok (.nx, e') ∧ Q e' := by
  have gen : ∀ (suf pre : List α) (env : Env), pre0 = pre ++ suf → R pre env → ∃ e', forL tg s ((suf ++ x0 :: suf0).map enc) env = ok (.nx, e') ∧ Q e' := by
    intro suf
    induction suf with
    | nil =>
      intro pre env e r
      rw [List.append_nil] at e
      subst e
      obtain ⟨e1, e2, h1, h2, h3⟩ := hx env r
      refine ⟨e2, ?_, h3⟩
      rw [List.nil_append, List.map_cons, forL_cons, h1, bd_ok, h2, bd_ok]
    | cons x suf ih =>
      intro pre env e r
      obtain ⟨e1, e2, h1, h2, h3⟩ := st pre x suf env e r
      obtain ⟨e', q1, q2⟩ := ih (pre ++ [x]) e2 (by rw [e]; simp) h3
      refine ⟨e', ?_, q2⟩
      rw [List.cons_append, List.map_cons, forL_cons, h1, bd_ok]
      rcases h2 with h2 | h2 <;> rw [h2, bd_ok] <;> exact q1
  exact gen pre0 [] env rfl h
theorem lcL_filter {α : Type} {kk : Nat} {vs : List Nat} {tg : D → Env → Rs Env} {tt : Env → TR} {el : Env → ER} (enc f : α → D) (p : α → Bool) {env : Env} (xs : List α) (h : ∀ x ∈ xs, lc1 kk vs tg tt el (enc x) env = ok (if p x then some (f x) else none, env)) :
    lcL kk vs tg tt el (xs.map enc) env = ok ((xs.filter p).map f, env) := by
  rw [lcL_map enc (fun x => if p x then some (f x) else none) xs h]
  congr 2
  clear h
  induction xs with
  | nil => rfl
  | cons x xs ih =>
    rw [List.filterMap_cons, List.filter_cons]
    cases hp : p x
    · simp [ih]
    · simp [ih]
/-- a loop that keeps I -/
theorem forL_keep {α : Type} {tg : D → Env → Rs Env} {s : Env → SR} (enc : α → D) (I : Env → Prop) (xs : List α) (env : Env) (h : I env)
    (st : ∀ (x : α) (e : Env), x ∈ xs → I e → ∃ e1 e2, tg (enc x) e = ok e1 ∧ s e1 = ok (.nx, e2) ∧ I e2) : ∃ e', I e' ∧ forL tg s (xs.map enc) env = ok (.nx, e') := by
  obtain ⟨e', h1, h2⟩ := forL_fold (β := Unit) enc (fun _ e => I e) (fun _ _ => ()) xs () env h fun _ x e m i => by
    obtain ⟨e1, e2, q1, q2, q3⟩ := st x e m i
    exact ⟨e1, e2, q1, .inl q2, q3⟩
  exact ⟨e', h2, h1⟩
end VL
namespace K
open PySem PySem.Spec PyProof.Rows L2 VL
def r_check : VL.Env → SR := (sIf (tNotF (tTru (rV 0)))
    sNo
    sNil)
def n_check : List D → Rs (Nat × D) := fun ds => outP (r_check (env0 2 ds))
def r_in_range : VL.Env → SR := (sRet (ofT (chn gLe gLe (rV 1) (rV 0) (rV 2))))
def n_in_range : List D → Rs (Nat × D) := fun ds => outP (r_in_range (env0 3 ds))
def r_is_ascending_b1 : VL.Env → SR := (sIf (tNotF (tOpT gLt (bin D.ix (rV 0) (rdR (eOp gSub (rV 1) (rdR (eC (.int 1)))))) (bin D.ix (rV 0) (rV 1))))
    (sRet (eC (.bl false)))
    sNil)
def r_is_ascending : VL.Env → SR := (sSeq (sFor (iRng2F (raCons (rdR (eC (.int 1))) (raCons (rdR (eCallB gLenA (raCons (rV 0) aNil))) aNil))) (gNm 1)
    r_is_ascending_b1)
    (sRet (eC (.bl true))))
def n_is_ascending : List D → Rs (Nat × D) := fun ds => outP (r_is_ascending (env0 2 ds))
def r_commands_of_b1 : VL.Env → SR := (sIf (tOpT gNe (rV 1) (rdR (eLst0 0)))
    (sRet (eCallB gLenA (raCons (rV 1) aNil)))
    sNil)
def r_commands_of : VL.Env → SR := (sSeq (sFor (iSeq (eV 0)) (gNm 1)
    r_commands_of_b1)
    (sRet (eC (.int 1))))
def n_commands_of : List D → Rs (Nat × D) := fun ds => outP (r_commands_of (env0 2 ds))
def r_is_outcome_e1 : VL.Env → ER := (eCall 3 n_in_range (aCons (eV 5) (aCons (eC (.int 0)) (aCons (eC (.int 3999)) aNil))))
def r_is_outcome : VL.Env → SR := (sSeq (sUnp (gTp 2 (gsCons (gNm 3) (gsCons (gNm 4) gsNil))) (eV 2))
    (sSeq (sIf (tOrF (tOpT gNe (rdR (eCallB gLenA (raCons (rV 3) aNil))) (rV 0)) (tNotF (tTru (rdR (eCall 3 n_in_range (aCons (eVs 4) (aCons (eC (.int 0)) (aCons (eOp gSub (rV 1) (rdR (eC (.int 1)))) aNil))))))))
    (sRet (eC (.bl false)))
    sNil)
    (sRet (eCallB gAll (raCons (rdR (eLc 0 [5] (iSeq (eV 3)) (gNm 5) tYesF r_is_outcome_e1)) aNil)))))
def n_is_outcome : List D → Rs (Nat × D) := fun ds => outP (r_is_outcome (env0 6 ds))
def r_is_entry_e1 : VL.Env → ER := (eCall 3 n_is_outcome (aCons (eV 0) (aCons (eV 1) (aCons (eV 4) aNil))))
def r_is_entry_b1 : VL.Env → SR := (sSeq (sIf (tNotF (tTru (rdR (eCall 3 n_in_range (aCons (eCallB gLenA (raCons (rV 3) aNil)) (aCons (eC (.int 1)) (aCons (eC (.int 8)) aNil)))))))
    (sRet (eC (.bl false)))
    sNil)
    (sIf (tNotF (tTru (rdR (eCallB gAll (raCons (rdR (eLc 0 [4] (iSeq (eV 3)) (gNm 4) tYesF r_is_entry_e1)) aNil)))))
    (sRet (eC (.bl false)))
    sNil))
def r_is_entry : VL.Env → SR := (sSeq (sFor (iSeq (eV 2)) (gNm 3)
    r_is_entry_b1)
    (sRet (eC (.bl true))))
def n_is_entry : List D → Rs (Nat × D) := fun ds => outP (r_is_entry (env0 5 ds))
def r_are_moves_b1 : VL.Env → SR := (sSeq (sIf (tAndF (tOpT gNe (rV 4) (rdR (eLst0 0))) (tOpT gNe (rdR (eCallB gLenA (raCons (rV 4) aNil))) (rV 3)))
    (sRet (eC (.bl false)))
    sNil)
    (sIf (tNotF (tTru (rdR (eCall 3 n_is_entry (aCons (eVs 0) (aCons (eVs 2) (aCons (eVs 4) aNil)))))))
    (sRet (eC (.bl false)))
    sNil))
def r_are_moves : VL.Env → SR := (sSeq (sAsg 2 (eCallB gLenA (raCons (rV 1) aNil)))
    (sSeq (sAsg 3 (eCall 1 n_commands_of (aCons (eV 1) aNil)))
    (sSeq (sIf (tOrF (tNotF (tTru (rdR (eCall 3 n_in_range (aCons (eVs 2) (aCons (eC (.int 1)) (aCons (eC (.int 4000)) aNil))))))) (tNotF (tTru (rdR (eCall 3 n_in_range (aCons (eVs 3) (aCons (eC (.int 1)) (aCons (eC (.int 4)) aNil))))))))
    (sRet (eC (.bl false)))
    sNil)
    (sSeq (sFor (iSeq (eV 1)) (gNm 4)
    r_are_moves_b1)
    (sRet (eC (.bl true)))))))
def n_are_moves : List D → Rs (Nat × D) := fun ds => outP (r_are_moves (env0 5 ds))
def r_Arena___init___e1 : VL.Env → ER := (eCall 3 n_in_range (aCons (eV 5) (aCons (eC (.int 0)) (aCons (eOp gSub (rdR (eCallB gLenA (raCons (rV 2) aNil))) (rdR (eC (.int 1)))) aNil))))
def r_Arena___init___e2 : VL.Env → ER := (eListC (aCons (eV 6) aNil))
def r_Arena___init___e3 : VL.Env → ER := (eLc 0 [6] (iSeq (eV 4)) (gNm 6) tYesF r_Arena___init___e2)
def r_Arena___init__ : VL.Env → SR := (sSeq (sExpr (eCall 2 n_check (aCons (eCall 3 n_in_range (aCons (eV 1) (aCons (eC (.int 1)) (aCons (eC (.int 3)) aNil)))) (aCons (eC (.str "offices")) aNil))))
    (sSeq (sExpr (eCall 2 n_check (aCons (eCall 2 n_are_moves (aCons (eV 1) (aCons (eV 2) aNil))) (aCons (eC (.str "moves")) aNil))))
    (sSeq (sExpr (eCall 2 n_check (aCons (ofT (tAndF (toT (eCall 1 n_is_ascending (aCons (eV 3) aNil))) (toT (eCallB gAll (raCons (rdR (eLc 0 [5] (iSeq (eV 3)) (gNm 5) tYesF r_Arena___init___e1)) aNil))))) (aCons (eC (.str "bad")) aNil))))
    (sSeq (sFldN 0 0 "Arena" "offices" (eV 1))
    (sSeq (sFldN 0 0 "Arena" "size" (eCallB gLenA (raCons (rV 2) aNil)))
    (sSeq (sFldN 0 0 "Arena" "commands" (eCall 1 n_commands_of (aCons (eV 2) aNil)))
    (sSeq (sFldN 0 0 "Arena" "bad" (eTupC (aCons (eV 3) aNil)))
    (sSeq (sFldN 0 0 "Arena" "_entries" (eLc 0 [4] (iSeq (eV 2)) (gNm 4) tYesF r_Arena___init___e3))
    (sFldN 0 0 "Arena" "_bad_nodes" (eDc [5] (iSeq (eV 3)) (gNm 5) tYesF (eV 5) (eC (.bl true))))))))))))
def n_Arena___init__ : List D → D → Rs (Nat × D × D) := fun ds dj => outI 0 (r_Arena___init__ (envI 7 0 0 ds dj))
def r_Arena_is_bad : VL.Env → SR := (sRet (eOp gIn (rV 1) (rFld ["Arena"] "_bad_nodes" (rV 0))))
def n_Arena_is_bad : List D → Rs (Nat × D) := fun ds => outP (r_Arena_is_bad (env0 2 ds))
def r_Arena_is_live : VL.Env → SR := (sRet (ofT (tAndF (toT (eOp gNe (bin D.ix (rFld ["Arena"] "_entries" (rV 0)) (rV 1)) (rdR (eLst0 0)))) (toT (eOp gNotIn (rV 1) (rFld ["Arena"] "_bad_nodes" (rV 0)))))))
def n_Arena_is_live : List D → Rs (Nat × D) := fun ds => outP (r_Arena_is_live (env0 2 ds))
def r_Arena_outcomes : VL.Env → SR := (sSeq (sExpr (eCall 2 n_check (aCons (eCall 3 n_in_range (aCons (eV 1) (aCons (eC (.int 0)) (aCons (eOp gSub (rFld ["Arena"] "size" (rV 0)) (rdR (eC (.int 1)))) aNil)))) (aCons (eC (.str "node")) aNil))))
    (sSeq (sExpr (eCall 2 n_check (aCons (eCall 3 n_in_range (aCons (eV 2) (aCons (eC (.int 0)) (aCons (eOp gSub (rFld ["Arena"] "commands" (rV 0)) (rdR (eC (.int 1)))) aNil)))) (aCons (eC (.str "command")) aNil))))
    (sSeq (sIf (tNotF (tTru (rdR (eMeth 1 "Arena" "is_live" n_Arena_is_live (eVs 0) (aCons (eVs 1) aNil)))))
    (sRet (eLst0 0))
    sNil)
    (sRet (eListC (aCons (eIx (eIx (eFld ["Arena"] "_entries" (eV 0)) (rV 1)) (rV 2)) aNil))))))
def n_Arena_outcomes : List D → Rs (Nat × D) := fun ds => outP (r_Arena_outcomes (env0 3 ds))
def r_has_bad_e1 : VL.Env → ER := (eMeth 1 "Arena" "is_bad" n_Arena_is_bad (eV 0) (aCons (eV 2) aNil))
def r_has_bad : VL.Env → SR := (sRet (eCallB gAny (raCons (rdR (eLc 0 [2] (iSeq (eV 1)) (gNm 2) tYesF r_has_bad_e1)) aNil)))
def n_has_bad : List D → Rs (Nat × D) := fun ds => outP (r_has_bad (env0 3 ds))
def r_next_beliefs_b1 : VL.Env → SR := (sSeq (sIf (tOpT gNotIn (bin D.ix (rV 5) (rdR (eC (.int 0)))) (rV 3))
    (sSetP 3 1 (eDct0 0 false) (pNm 3) (bin D.ix (rV 5) (rdR (eC (.int 0)))))
    sNil)
    (sSetP 3 0 (eC (.bl true)) (pIx 3 (pNm 3) (bin D.ix (rV 5) (rdR (eC (.int 0))))) (rV 6)))
def r_next_beliefs_b2 : VL.Env → SR := (sFor (iSeq (eMeth 2 "Arena" "outcomes" n_Arena_outcomes (eV 0) (aCons (eV 4) (aCons (eV 2) aNil)))) (gTp 2 (gsCons (gNm 5) (gsCons (gNm 6) gsNil)))
    r_next_beliefs_b1)
def r_next_beliefs_e1 : VL.Env → ER := (eTup (aCons (eV 7) (aCons (eTupC (aCons (eSortI (raCons (bin D.ix (rV 3) (rV 7)) aNil)) aNil)) aNil)))
def r_next_beliefs : VL.Env → SR := (sSeq (sAsg 3 (eDct0 1 false))
    (sSeq (sFor (iSeq (eV 1)) (gNm 4)
    r_next_beliefs_b2)
    (sRet (eLc 0 [7] (iSeq (eSortI (raCons (rV 3) aNil))) (gNm 7) tYesF r_next_beliefs_e1))))
def n_next_beliefs : List D → Rs (Nat × D) := fun ds => outP (r_next_beliefs (env0 8 ds))
def r_belief_graph_e1 : VL.Env → ER := (eCall 3 n_next_beliefs (aCons (eV 0) (aCons (eV 4) (aCons (eV 9) aNil))))
def r_belief_graph_b1 : VL.Env → SR := (sIf (tOpT gNotIn (rV 8) (rV 2))
    (sSeq (sSetP 2 0 (eCallB gLenA (raCons (rV 1) aNil)) (pNm 2) (rV 8))
    (sExpr (eApp 1 0 (eV 8))))
    sNil)
def r_belief_graph_b2 : VL.Env → SR := (sFor (iSeq (eV 6)) (gTp 2 (gsCons (gNm 7) (gsCons (gNm 8) gsNil)))
    r_belief_graph_b1)
def r_belief_graph_e2 : VL.Env → ER := (eTup (aCons (eV 10) (aCons (eIxN 2 (rV 8)) aNil)))
def r_belief_graph_e3 : VL.Env → ER := (eLc 0 [10, 8] (iSeq (eV 6)) (gTp 2 (gsCons (gNm 10) (gsCons (gNm 8) gsNil))) tYesF r_belief_graph_e2)
def r_belief_graph_b3 : VL.Env → SR := (sSeq (sAsg 4 (eIxN 1 (rdR (eCallB gLenA (raCons (rV 3) aNil)))))
    (sSeq (sAsg 5 (eLst0 0))
    (sSeq (sIf (tNotF (tTru (rdR (eCall 2 n_has_bad (aCons (eVs 0) (aCons (eVs 4) aNil))))))
    (sAsg 5 (eLc 0 [9] (iRng1F (raCons (rFld ["Arena"] "commands" (rV 0)) aNil)) (gNm 9) tYesF r_belief_graph_e1))
    sNil)
    (sSeq (sFor (iSeq (eV 5)) (gNm 6)
    r_belief_graph_b2)
    (sSeq (sIf (tOpT gGt (rdR (eCallB gLenA (raCons (rV 1) aNil))) (rdR (eC (.int 3000))))
    sNo
    sNil)
    (sExpr (eApp 3 0 (eLc 0 [6] (iSeq (eV 5)) (gNm 6) tYesF r_belief_graph_e3))))))))
def r_belief_graph_t1 : VL.Env → TR := (tOpT gLt (rdR (eCallB gLenA (raCons (rV 3) aNil))) (rdR (eCallB gLenA (raCons (rV 1) aNil))))
def r_belief_graph : VL.Env → SR := (sSeq (sAsg 1 (eLst (aCons (eTup (aCons (eC (.int 0)) aNil)) aNil)))
    (sSeq (sAsg 2 (eDct1 true (eTup (aCons (eC (.int 0)) aNil)) (eC (.int 0))))
    (sSeq (sAsg 3 (eLst0 0))
    (sSeq (whileS r_belief_graph_t1
    r_belief_graph_b3 100000)
    (sRet (eTup (aCons (eV 1) (aCons (eV 3) aNil))))))))
def n_belief_graph : List D → Rs (Nat × D) := fun ds => outP (r_belief_graph (env0 11 ds))
def r_incoming_e1 : VL.Env → ER := (eLst0 0)
def r_incoming_b1 : VL.Env → SR := (sExpr (eAppP 1 0 (pIx 1 (pNm 1) (rV 8)) (eTup (aCons (eVs 2) (aCons (eVs 5) (aCons (eVs 7) aNil))))))
def r_incoming_b2 : VL.Env → SR := (sFor (iSeq (eV 6)) (gTp 2 (gsCons (gNm 7) (gsCons (gNm 8) gsNil)))
    r_incoming_b1)
def r_incoming_b3 : VL.Env → SR := (sFor (iEnumF (aCons (eV 3) aNil)) (gTp 2 (gsCons (gNm 5) (gsCons (gNm 6) gsNil)))
    r_incoming_b2)
def r_incoming : VL.Env → SR := (sSeq (sAsg 1 (eLc 1 [4] (iSeq (eV 0)) (gNm 4) tYesF r_incoming_e1))
    (sSeq (sFor (iEnumF (aCons (eV 0) aNil)) (gTp 2 (gsCons (gNm 2) (gsCons (gNm 3) gsNil)))
    r_incoming_b3)
    (sRetV 1)))
def n_incoming : List D → Rs (Nat × D) := fun ds => outP (r_incoming (env0 9 ds))
def r_next_layer_b1 : VL.Env → SR := (sIf (tOpT gIs (bin D.ix (bin D.ix (rV 1) (rV 5)) (rV 6)) (rdR (eC .non)))
    (sSeq (sSetP 1 0 (eV 7) (pIx 1 (pNm 1) (rV 5)) (rV 6))
    (sIf (tOpT gNotIn (rdR (eC .non)) (bin D.ix (rV 1) (rV 5)))
    (sExpr (eApp 3 0 (eV 5)))
    sNil))
    sNil)
def r_next_layer_b2 : VL.Env → SR := (sFor (iSeq (eIxN 0 (rV 4))) (gTp 3 (gsCons (gNm 5) (gsCons (gNm 6) (gsCons (gNm 7) gsNil))))
    r_next_layer_b1)
def r_next_layer : VL.Env → SR := (sSeq (sAsg 3 (eLst0 0))
    (sSeq (sFor (iSeq (eV 2)) (gNm 4)
    r_next_layer_b2)
    (sRetV 3)))
def n_next_layer : List D → D → Rs (Nat × D × D) := fun ds dj => outI 1 (r_next_layer (envI 8 1 1 ds dj))
def r_strike_e1 : VL.Env → ER := (eC .non)
def r_strike_e2 : VL.Env → ER := (eLc 0 [8] (iSeq (eV 7)) (gNm 8) tYesF r_strike_e1)
def r_strike_e3 : VL.Env → ER := (eC .non)
def r_strike_e4 : VL.Env → ER := (eV 6)
def r_strike_c1 : VL.Env → TR := (tOpT gEq (rV 7) (rdR (eLst0 0)))
def r_strike_b1 : VL.Env → SR := (sSetP 3 0 (eTup (aCons (eV 5) (aCons (eTupR (raCons (bin D.ix (rV 2) (rV 6)) aNil)) aNil))) (pNm 3) (rV 6))
def r_strike_b2 : VL.Env → SR := (sSeq (sFor (iSeq (eV 4)) (gNm 6)
    r_strike_b1)
    (sSeq (sAsg 4 (eCallI 2 2 2 n_next_layer (aConsI 2 (eV 1) (aCons (eV 4) aNil))))
    (sAug 5 gAdd (rdR (eC (.int 1))))))
def r_strike_t1 : VL.Env → TR := (tOpT gNe (rV 4) (rdR (eLst0 0)))
def r_strike : VL.Env → SR := (sSeq (sAsg 1 (eCall 1 n_incoming (aCons (eV 0) aNil)))
    (sSeq (sAsg 2 (eLc 1 [7] (iSeq (eV 0)) (gNm 7) tYesF r_strike_e2))
    (sSeq (sAsg 3 (eLc 0 [8] (iSeq (eV 0)) (gNm 8) tYesF r_strike_e3))
    (sSeq (sAsg 4 (eLc 0 [6, 7] (iEnumF (aCons (eV 0) aNil)) (gTp 2 (gsCons (gNm 6) (gsCons (gNm 7) gsNil))) r_strike_c1 r_strike_e4))
    (sSeq (sAsg 5 (eC (.int 0)))
    (sSeq (whileS r_strike_t1
    r_strike_b2 100000)
    (sRetV 3)))))))
def n_strike : List D → Rs (Nat × D) := fun ds => outP (r_strike (env0 9 ds))
def r_latest_b1 : VL.Env → SR := (sIf (tOpT gNotIn (rV 8) (rV 3))
    (sSeq (sSetP 3 0 (eOp gAdd (bin D.ix (rV 3) (rV 6)) (rdR (eC (.int 1)))) (pNm 3) (rV 8))
    (sExpr (eApp 4 0 (eV 8))))
    sNil)
def r_latest_b2 : VL.Env → SR := (sSeq (sAsg 6 (eIxN 4 (rV 5)))
    (sSeq (sAug 5 gAdd (rdR (eC (.int 1))))
    (sSeq (sIf (tOpT gNotN (bin D.ix (rV 2) (rV 6)) (rdR (eC .non)))
    (sRet (eTup (aCons (eC (.str "until")) (aCons (eOp gSub (bin D.ix (rV 3) (rV 6)) (rdR (eC (.int 1)))) aNil))))
    sNil)
    (sFor (iSeq (eIx (eIxN 1 (rV 6)) (rdR (eC (.int 0))))) (gTp 2 (gsCons (gNm 7) (gsCons (gNm 8) gsNil)))
    r_latest_b1))))
def r_latest_t1 : VL.Env → TR := (tOpT gLt (rV 5) (rdR (eCallB gLenA (raCons (rV 4) aNil))))
def r_latest : VL.Env → SR := (sSeq (sAsg 1 (eIx (eCall 1 n_belief_graph (aCons (eV 0) aNil)) (rdR (eC (.int 1)))))
    (sSeq (sAsg 2 (eCall 1 n_strike (aCons (eV 1) aNil)))
    (sSeq (sIf (tOpT gNotN (bin D.ix (rV 2) (rdR (eC (.int 0)))) (rdR (eC .non)))
    (sRet (eTup (aCons (eC (.str "lost")) aNil)))
    sNil)
    (sSeq (sAsg 3 (eDct1 false (eC (.int 0)) (eC (.int 0))))
    (sSeq (sAsg 4 (eLst (aCons (eC (.int 0)) aNil)))
    (sSeq (sAsg 5 (eC (.int 0)))
    (sSeq (whileS r_latest_t1
    r_latest_b2 100000)
    (sRet (eTup (aCons (eC (.str "always")) aNil))))))))))
def n_latest : List D → Rs (Nat × D) := fun ds => outP (r_latest (env0 9 ds))
def r__law_cell : VL.Env → SR := (sSeq (sIf (tOpT gLt (rV 1) (rdR (eCallB gLenA (raCons (rV 0) aNil))))
    (sRet (eCallB gAbs (raCons (rdR (eCallB gInt (raCons (bin D.ix (rV 0) (rV 1)) aNil))) aNil)))
    sNil)
    (sRet (eC (.int 0))))
def n__law_cell : List D → Rs (Nat × D) := fun ds => outP (r__law_cell (env0 2 ds))
def r__law_mixed : VL.Env → SR := (sSeq (sAsg 3 (eOp gMod (rdR (eCallB gInt (raCons (rdR (eOp gAdd (rdR (eOp gAdd (rdR (eOp gMul (rV 0) (rdR (eC (.int 48271))))) (rdR (eOp gMul (rV 1) (rdR (eC (.int 69621))))))) (rdR (eC (.int 40692))))) aNil))) (rdR (eC (.int 2147483647)))))
    (sSeq (sAsg 4 (eOp gMod (rdR (eCallB gInt (raCons (rdR (eOp gAdd (rdR (eOp gAdd (rdR (eOp gMul (rV 3) (rV 3))) (rdR (eOp gMul (rV 1) (rdR (eC (.int 16807))))))) (rdR (eC (.int 7))))) aNil))) (rdR (eC (.int 2147483629)))))
    (sSeq (sAsg 5 (eOp gMod (rdR (eCallB gInt (raCons (rdR (eOp gAdd (rdR (eOp gAdd (rdR (eOp gMul (rV 4) (rV 4))) (rV 3))) (rdR (eC (.int 3))))) aNil))) (rdR (eC (.int 2147483587)))))
    (sRet (eOp gMod (rdR (eCallB gInt (raCons (rdR (eOp gDiv (rV 5) (rdR (eC (.int 7))))) aNil))) (rV 2))))))
def n__law_mixed : List D → Rs (Nat × D) := fun ds => outP (r__law_mixed (env0 6 ds))
def r__law_pool : VL.Env → SR := (sSeq (sAsg 2 (eCall 2 n__law_cell (aCons (eV 0) (aCons (eV 1) aNil))))
    (sSeq (sIf (tOpT gGe (rV 2) (rdR (eOp gPow (rdR (eC (.int 10))) (rdR (eC (.int 18))))))
    (sRet (eLst (aCons (eOp gSub (rV 2) (rdR (eOp gPow (rdR (eC (.int 10))) (rdR (eC (.int 18)))))) (aCons (eOp gMod (rdR (eCallB gInt (raCons (rV 2) aNil))) (rdR (eC (.int 999999937)))) (aCons (eC (.int 0)) aNil)))))
    sNil)
    (sRet (eLst (aCons (eC (.int 0)) (aCons (eOp gMod (rdR (eCallB gInt (raCons (rdR (eOp gAdd (rdR (eOp gMul (rV 2) (rdR (eC (.int 63))))) (rV 1))) aNil))) (rdR (eOp gPow (rdR (eC (.int 10))) (rdR (eC (.int 15)))))) (aCons (eC (.int 0)) aNil)))))))
def n__law_pool : List D → Rs (Nat × D) := fun ds => outP (r__law_pool (env0 3 ds))
def r__law_draw : VL.Env → SR := (sSeq (sIf (tOpT gGt (bin D.ix (rV 0) (rdR (eC (.int 0)))) (rdR (eC (.int 0))))
    (sSeq (sAsg 2 (eOp gMod (rdR (eCallB gInt (raCons (bin D.ix (rV 0) (rdR (eC (.int 0)))) aNil))) (rV 1)))
    (sSeq (sSetP 0 0 (eOp gDiv (bin D.ix (rV 0) (rdR (eC (.int 0)))) (rV 1)) (pNm 0) (rdR (eC (.int 0))))
    (sRetV 2)))
    sNil)
    (sSeq (sSetP 0 0 (eOp gAdd (bin D.ix (rV 0) (rdR (eC (.int 2)))) (rdR (eC (.int 1)))) (pNm 0) (rdR (eC (.int 2))))
    (sRet (eCall 3 n__law_mixed (aCons (eIxN 0 (rdR (eC (.int 1)))) (aCons (eIxN 0 (rdR (eC (.int 2)))) (aCons (eV 1) aNil)))))))
def n__law_draw : List D → D → Rs (Nat × D × D) := fun ds dj => outI 0 (r__law_draw (envI 3 0 0 ds dj))
def r__law_chance : VL.Env → SR := (sRet (eOp gLt (rdR (eCallI 1 0 1 n__law_draw (aCons (eV 2) aNil))) (rV 1)))
def n__law_chance : List D → D → Rs (Nat × D × D) := fun ds dj => outI 0 (r__law_chance (envI 3 0 0 ds dj))
def r__law_same (n__law_same : List D → Rs (Nat × D)) : VL.Env → SR := (sSeq (sIf (tOpT gIs (rV 1) (rdR (eC .non)))
    (sRet (eOp gIs (rV 0) (rdR (eC .non))))
    sNil)
    (sSeq (sIf (tOpT gIs (rV 1) (rdR (eC (.bl true))))
    (sRet (eOp gIs (rV 0) (rdR (eC (.bl true)))))
    sNil)
    (sSeq (sIf (tOpT gIs (rV 1) (rdR (eC (.bl false))))
    (sRet (eOp gIs (rV 0) (rdR (eC (.bl false)))))
    sNil)
    (sSeq (sIf (tTru (rdR (ofT (eIsI "int" (rV 1)))))
    (sRet (ofT (tAndF (eIsI "int" (rV 0)) (tAndF (tNotF (eIsI "bool" (rV 0))) (toT (eOp gEq (rV 0) (rV 1)))))))
    sNil)
    (sSeq (sIf (tTru (rdR (ofT (eIsI "str" (rV 1)))))
    (sRet (ofT (tAndF (eIsI "str" (rV 0)) (toT (eOp gEq (rV 0) (rV 1))))))
    sNil)
    (sSeq (sIf (tTru (rdR (ofT (eIsI "dict" (rV 1)))))
    (sSeq (sIf (tOrF (tNotF (tTru (rdR (ofT (eIsI "dict" (rV 0)))))) (tOpT gNe (rdR (eCallB gLenA (raCons (rV 0) aNil))) (rdR (eCallB gLenA (raCons (rV 1) aNil)))))
    (sRet (eC (.bl false)))
    sNil)
    (sSeq (sFor (iSeq (eV 1)) (gNm 3)
    (sIf (tOrF (tOpT gNotIn (rV 3) (rV 0)) (tNotF (tTru (rdR (eCall 2 n__law_same (aCons (eIxN 0 (rV 3)) (aCons (eIxN 1 (rV 3)) aNil)))))))
    (sRet (eC (.bl false)))
    sNil))
    (sRet (eC (.bl true)))))
    sNil)
    (sSeq (sIf (tOrF (tOpT gNe (rdR (ofT (eIsI "list" (rV 1)))) (rdR (ofT (eIsI "list" (rV 0))))) (tOpT gNe (rdR (ofT (eIsI "tuple" (rV 1)))) (rdR (ofT (eIsI "tuple" (rV 0))))))
    (sRet (eC (.bl false)))
    sNil)
    (sSeq (sIf (tOpT gNe (rdR (eCallB gLenA (raCons (rV 0) aNil))) (rdR (eCallB gLenA (raCons (rV 1) aNil))))
    (sRet (eC (.bl false)))
    sNil)
    (sSeq (sFor (iRng1F (raCons (rdR (eCallB gLenA (raCons (rV 1) aNil))) aNil)) (gNm 2)
    (sIf (tNotF (tTru (rdR (eCall 2 n__law_same (aCons (eIxN 0 (rV 2)) (aCons (eIxN 1 (rV 2)) aNil))))))
    (sRet (eC (.bl false)))
    sNil))
    (sRet (eC (.bl true))))))))))))
def n__law_same : Nat → List D → Rs (Nat × D)
  | 0 => fun _ => none
  | m + 1 => fun ds => outP (r__law_same (n__law_same m) (env0 4 ds))
def r__law_live : VL.Env → SR := (sRet (ofT (tAndF (toT (eOp gNotIn (rV 1) (bin D.ix (rV 0) (rdR (eC (.int 2)))))) (toT (eOp gGt (rdR (eCallB gLenA (raCons (bin D.ix (bin D.ix (rV 0) (rdR (eC (.int 1)))) (rV 1)) aNil))) (rdR (eC (.int 0))))))))
def n__law_live : List D → Rs (Nat × D) := fun ds => outP (r__law_live (env0 2 ds))
def r__law_commands_b1 : VL.Env → SR := (sIf (tOpT gGt (rdR (eCallB gLenA (raCons (rV 1) aNil))) (rdR (eC (.int 0))))
    (sRet (eCallB gLenA (raCons (rV 1) aNil)))
    sNil)
def r__law_commands : VL.Env → SR := (sSeq (sFor (iSeq (eIxN 0 (rdR (eC (.int 1))))) (gNm 1)
    r__law_commands_b1)
    (sRet (eC (.int 1))))
def n__law_commands : List D → Rs (Nat × D) := fun ds => outP (r__law_commands (env0 2 ds))
def r__law_after_e1 : VL.Env → ER := (eIxN 6 (rdR (eC (.int 1))))
def r__law_after_c1 : VL.Env → TR := (tOpT gEq (bin D.ix (bin D.ix (rV 6) (rdR (eC (.int 0)))) (rdR (eC (.int 0)))) (rV 3))
def r__law_after_b1 : VL.Env → SR := (sIf (tTru (rdR (eCall 2 n__law_live (aCons (eVs 0) (aCons (eVs 5) aNil)))))
    (sAsg 4 (eCat (eV 4) (eLc 0 [6] (iSeq (eIx (eIx (eIxN 0 (rdR (eC (.int 1)))) (rV 5)) (rV 2))) (gNm 6) r__law_after_c1 r__law_after_e1)))
    sNil)
def r__law_after : VL.Env → SR := (sSeq (sAsg 4 (eLst0 0))
    (sSeq (sFor (iSeq (eV 1)) (gNm 5)
    r__law_after_b1)
    (sRet (eTupC (aCons (eSortSet (rV 4)) aNil)))))
def n__law_after : List D → Rs (Nat × D) := fun ds => outP (r__law_after (env0 7 ds))
def r__law_answers_e1 : VL.Env → ER := (eIx (eIxN 5 (rdR (eC (.int 0)))) (rdR (eC (.int 0))))
def r__law_answers_b1 : VL.Env → SR := (sIf (tTru (rdR (eCall 2 n__law_live (aCons (eVs 0) (aCons (eVs 4) aNil)))))
    (sAsg 3 (eCat (eV 3) (eLc 0 [5] (iSeq (eIx (eIx (eIxN 0 (rdR (eC (.int 1)))) (rV 4)) (rV 2))) (gNm 5) tYesF r__law_answers_e1)))
    sNil)
def r__law_answers : VL.Env → SR := (sSeq (sAsg 3 (eLst0 0))
    (sSeq (sFor (iSeq (eV 1)) (gNm 4)
    r__law_answers_b1)
    (sRet (eSortSet (rV 3)))))
def n__law_answers : List D → Rs (Nat × D) := fun ds => outP (r__law_answers (env0 6 ds))
def r__law_follows_e1 : VL.Env → ER := (eTup (aCons (eV 3) (aCons (eCall 4 n__law_after (aCons (eV 0) (aCons (eV 1) (aCons (eV 2) (aCons (eV 3) aNil))))) aNil)))
def r__law_follows : VL.Env → SR := (sRet (eLc 0 [3] (iSeq (eCall 3 n__law_answers (aCons (eV 0) (aCons (eV 1) (aCons (eV 2) aNil))))) (gNm 3) tYesF r__law_follows_e1))
def n__law_follows : List D → Rs (Nat × D) := fun ds => outP (r__law_follows (env0 4 ds))
def r__law_has_bad_e1 : VL.Env → ER := (eV 2)
def r__law_has_bad_c1 : VL.Env → TR := (tOpT gIn (rV 2) (bin D.ix (rV 0) (rdR (eC (.int 2)))))
def r__law_has_bad : VL.Env → SR := (sRet (eOp gGt (rdR (eCallB gLenA (raCons (rdR (eLc 0 [2] (iSeq (eV 1)) (gNm 2) r__law_has_bad_c1 r__law_has_bad_e1)) aNil))) (rdR (eC (.int 0)))))
def n__law_has_bad : List D → Rs (Nat × D) := fun ds => outP (r__law_has_bad (env0 3 ds))
def r__law_beliefs_b1 : VL.Env → SR := (sIf (tOpT gNotIn (bin D.ix (rV 6) (rdR (eC (.int 1)))) (rV 2))
    (sSeq (sSetP 2 0 (eC (.bl true)) (pNm 2) (bin D.ix (rV 6) (rdR (eC (.int 1)))))
    (sExpr (eApp 3 0 (eIxN 6 (rdR (eC (.int 1)))))))
    sNil)
def r__law_beliefs_b2 : VL.Env → SR := (sFor (iSeq (eCall 3 n__law_follows (aCons (eV 0) (aCons (eIxN 3 (rV 4)) (aCons (eV 5) aNil))))) (gNm 6)
    r__law_beliefs_b1)
def r__law_beliefs_b3 : VL.Env → SR := (sSeq (sIf (tOpT gGe (rV 4) (rdR (eCallB gLenA (raCons (rV 3) aNil))))
    sBrk
    sNil)
    (sIf (tNotF (tTru (rdR (eCall 2 n__law_has_bad (aCons (eVs 0) (aCons (eIxN 3 (rV 4)) aNil))))))
    (sFor (iRng1F (raCons (rdR (eCall 1 n__law_commands (aCons (eVs 0) aNil))) aNil)) (gNm 5)
    r__law_beliefs_b2)
    sNil))
def r__law_beliefs : VL.Env → SR := (sSeq (sAsg 2 (eDct1 true (eTup (aCons (eC (.int 0)) aNil)) (eC (.bl true))))
    (sSeq (sAsg 3 (eLst (aCons (eTup (aCons (eC (.int 0)) aNil)) aNil)))
    (sSeq (sFor (iRng1F (raCons (rV 1) aNil)) (gNm 4)
    r__law_beliefs_b3)
    (sRetV 3))))
def n__law_beliefs : List D → Rs (Nat × D) := fun ds => outP (r__law_beliefs (env0 7 ds))
def r__law_arena_e1 : VL.Env → ER := (eListC (aCons (eV 2) aNil))
def r__law_arena_e2 : VL.Env → ER := (eLc 0 [2] (iSeq (eV 1)) (gNm 2) tYesF r__law_arena_e1)
def r__law_arena : VL.Env → SR := (sRet (eMake 3 "Arena" n_Arena___init__ (aCons (eIxN 0 (rdR (eC (.int 0)))) (aCons (eLc 0 [1] (iSeq (eIxN 0 (rdR (eC (.int 1))))) (gNm 1) tYesF r__law_arena_e2) (aCons (eListC (aCons (eIxN 0 (rdR (eC (.int 2)))) aNil)) aNil)))))
def n__law_arena : List D → Rs (Nat × D) := fun ds => outP (r__law_arena (env0 3 ds))
def r__law_draw_arena_e1 : VL.Env → ER := (eCallI 1 0 1 n__law_draw (aCons (eC (.int 3)) aNil))
def r__law_draw_arena_b1 : VL.Env → SR := (sSeq (sAsg 13 (eCallI 1 0 1 n__law_draw (aCons (eV 1) aNil)))
    (sSeq (sIf (tNotF (tTru (rV 4)))
    (sAsg 13 (eCallB gMin2 (aCons (eOp gSub (rV 1) (rdR (eC (.int 1)))) (aCons (eOp gAdd (rdR (eOp gAdd (rV 6) (rdR (eC (.int 1))))) (rdR (eCallI 1 0 1 n__law_draw (aCons (eC (.int 2)) aNil)))) aNil))))
    sNil)
    (sExpr (eApp 11 0 (eTup (aCons (eTupC (aCons (eLc 0 [14] (iRng1F (raCons (rV 3) aNil)) (gNm 14) tYesF r__law_draw_arena_e1) aNil)) (aCons (eV 13) aNil)))))))
def r__law_draw_arena_b2 : VL.Env → SR := (sSeq (sAsg 11 (eLst0 0))
    (sSeq (sFor (iRng1F (raCons (rdR (eOp gAdd (rdR (eC (.int 1))) (rdR (eCallI 1 0 1 n__law_draw (aCons (eC (.int 3)) aNil))))) aNil)) (gNm 12)
    r__law_draw_arena_b1)
    (sExpr (eApp 8 0 (eV 11)))))
def r__law_draw_arena_b3 : VL.Env → SR := (sSeq (sAsg 8 (eLst0 0))
    (sSeq (sAsg 9 (ofT (tOrF (tAndF (toT (eCallI 2 0 1 n__law_chance (aCons (eC (.int 1)) (aCons (eC (.int 6)) aNil)))) (toT (eOp gGt (rV 6) (rdR (eC (.int 0)))))) (tAndF (tNotF (toT (eV 4))) (toT (eOp gEq (rV 6) (rdR (eOp gSub (rV 1) (rdR (eC (.int 1)))))))))))
    (sSeq (sFor (iRng1F (raCons (rdR (eOp gMul (rdR (eVs 2)) (rdR (eCallB gInt (raCons (rdR (ofT (tNotF (toT (eV 9))))) aNil))))) aNil)) (gNm 10)
    r__law_draw_arena_b2)
    (sExpr (eApp 5 0 (eV 8))))))
def r__law_draw_arena_e2 : VL.Env → ER := (eV 6)
def r__law_draw_arena_c1 : VL.Env → TR := (tAndF (tTru (rdR (eCallI 2 0 1 n__law_chance (aCons (eC (.int 1)) (aCons (eC (.int 4)) aNil))))) (tOrF (tOpT gGt (rV 6) (rdR (eC (.int 0)))) (tTru (rdR (eCallI 2 0 1 n__law_chance (aCons (eC (.int 1)) (aCons (eC (.int 8)) aNil)))))))
def r__law_draw_arena : VL.Env → SR := (sSeq (sAsg 5 (eLst0 0))
    (sSeq (sFor (iRng1F (raCons (rV 1) aNil)) (gNm 6)
    r__law_draw_arena_b3)
    (sSeq (sAsg 7 (eLc 0 [6] (iRng1F (raCons (rV 1) aNil)) (gNm 6) r__law_draw_arena_c1 r__law_draw_arena_e2))
    (sRet (eTup (aCons (eV 3) (aCons (eV 5) (aCons (eV 7) aNil))))))))
def n__law_draw_arena : List D → D → Rs (Nat × D × D) := fun ds dj => outI 0 (r__law_draw_arena (envI 15 0 0 ds dj))
def r__law_draw_traps_b1 : VL.Env → SR := (sSeq (sAsg 12 (eCallB gMin2 (aCons (eOp gSub (rV 1) (rdR (eC (.int 1)))) (aCons (eOp gAdd (rdR (eOp gAdd (rV 6) (rdR (eC (.int 1))))) (rdR (eCallI 1 0 1 n__law_draw (aCons (eC (.int 2)) aNil)))) aNil))))
    (sSeq (sIf (tTru (rV 3))
    (sAsg 12 (eCallI 1 0 1 n__law_draw (aCons (eV 1) aNil)))
    sNil)
    (sSeq (sIf (tAndF (tOpT gNe (rV 9) (rV 8)) (tTru (rdR (eCallI 2 0 1 n__law_chance (aCons (eC (.int 1)) (aCons (eC (.int 4)) aNil))))))
    (sAsg 12 (eV 1))
    sNil)
    (sExpr (eApp 10 0 (eTup (aCons (eTup (aCons (eCallI 1 0 1 n__law_draw (aCons (eV 4) aNil)) aNil)) (aCons (eV 12) aNil))))))))
def r__law_draw_traps_b2 : VL.Env → SR := (sSeq (sAsg 10 (eLst0 0))
    (sSeq (sFor (iRng1F (raCons (rdR (eOp gAdd (rdR (eC (.int 1))) (rdR (eCallI 1 0 1 n__law_draw (aCons (eC (.int 3)) aNil))))) aNil)) (gNm 11)
    r__law_draw_traps_b1)
    (sExpr (eApp 7 0 (eV 10)))))
def r__law_draw_traps_b3 : VL.Env → SR := (sSeq (sAsg 7 (eLst0 0))
    (sSeq (sAsg 8 (eCallI 1 0 1 n__law_draw (aCons (eV 2) aNil)))
    (sSeq (sFor (iRng1F (raCons (rV 2) aNil)) (gNm 9)
    r__law_draw_traps_b2)
    (sIf (tOrF (tTru (rV 3)) (tOpT gLt (rV 6) (rdR (eOp gSub (rV 1) (rdR (eC (.int 1)))))))
    (sExpr (eApp 5 0 (eV 7)))
    (sExpr (eApp 5 0 (eLst0 0)))))))
def r__law_draw_traps : VL.Env → SR := (sSeq (sAsg 1 (eOp gAdd (rdR (eC (.int 3))) (rdR (eCallI 1 0 1 n__law_draw (aCons (eC (.int 6)) aNil)))))
    (sSeq (sAsg 2 (eOp gAdd (rdR (eC (.int 1))) (rdR (eCallI 1 0 1 n__law_draw (aCons (eC (.int 3)) aNil)))))
    (sSeq (sAsg 3 (eCallI 2 0 1 n__law_chance (aCons (eC (.int 1)) (aCons (eC (.int 3)) aNil))))
    (sSeq (sAsg 4 (eOp gAdd (rdR (eC (.int 1))) (rdR (eCallI 1 0 1 n__law_draw (aCons (eC (.int 3)) aNil)))))
    (sSeq (sAsg 5 (eLst0 0))
    (sSeq (sFor (iRng1F (raCons (rV 1) aNil)) (gNm 6)
    r__law_draw_traps_b3)
    (sRet (eTup (aCons (eC (.int 1)) (aCons (eCat (eV 5) (eLst (aCons (eLst0 0) aNil))) (aCons (eLst (aCons (eV 1) aNil)) aNil)))))))))))
def n__law_draw_traps : List D → D → Rs (Nat × D × D) := fun ds dj => outI 0 (r__law_draw_traps (envI 13 0 0 ds dj))
def r__law_chain_e1 : VL.Env → ER := (eV 4)
def r__law_chain_c1 : VL.Env → TR := (tTru (rdR (eCallI 2 0 1 n__law_chance (aCons (eC (.int 1)) (aCons (eC (.int 4)) aNil)))))
def r__law_chain_b1 : VL.Env → SR := (sSeq (sAsg 5 (eV 1))
    (sSeq (sIf (tOpT gIn (rV 4) (rV 2))
    (sAsg 5 (eOp gAdd (rV 1) (rdR (eC (.int 1)))))
    sNil)
    (sExpr (eApp 3 0 (eLst (aCons (eLst (aCons (eTup (aCons (eTup (aCons (eCallI 1 0 1 n__law_draw (aCons (eC (.int 2)) aNil)) aNil)) (aCons (eOp gAdd (rV 4) (rdR (eC (.int 1)))) aNil))) aNil)) (aCons (eLst (aCons (eTup (aCons (eTup (aCons (eC (.int 0)) aNil)) (aCons (eV 5) aNil))) (aCons (eTup (aCons (eTup (aCons (eC (.int 1)) aNil)) (aCons (eV 5) aNil))) aNil))) aNil)))))))
def r__law_chain : VL.Env → SR := (sSeq (sAsg 1 (eOp gAdd (rdR (eC (.int 10))) (rdR (eCallI 1 0 1 n__law_draw (aCons (eC (.int 100)) aNil)))))
    (sSeq (sAsg 2 (eLc 0 [4] (iRng1F (raCons (rV 1) aNil)) (gNm 4) r__law_chain_c1 r__law_chain_e1))
    (sSeq (sIf (tTru (rdR (eCallI 2 0 1 n__law_chance (aCons (eC (.int 1)) (aCons (eC (.int 4)) aNil)))))
    (sAsg 2 (eSlice (eV 2) oNone (oSome (rdR (eCallI 1 0 1 n__law_draw (aCons (eC (.int 3)) aNil))))))
    sNil)
    (sSeq (sAsg 3 (eLst0 0))
    (sSeq (sFor (iRng1F (raCons (rV 1) aNil)) (gNm 4)
    r__law_chain_b1)
    (sSeq (sIf (tOpT gEq (rdR (eCallB gLenA (raCons (rV 2) aNil))) (rdR (eC (.int 0))))
    (sRet (eTup (aCons (eTup (aCons (eC (.int 1)) (aCons (eCat (eV 3) (eLst (aCons (eLst0 0) (aCons (eLst0 0) aNil)))) (aCons (eLst (aCons (eV 1) aNil)) aNil)))) (aCons (eTup (aCons (eC (.str "lost")) aNil)) aNil))))
    sNil)
    (sRet (eTup (aCons (eTup (aCons (eC (.int 1)) (aCons (eCat (eV 3) (eLst (aCons (eLst0 0) (aCons (eLst0 0) aNil)))) (aCons (eLst (aCons (eV 1) aNil)) aNil)))) (aCons (eTup (aCons (eC (.str "until")) (aCons (eIxN 2 (rdR (eNeg (rdR (eC (.int 1)))))) aNil))) aNil))))))))))
def n__law_chain : List D → D → Rs (Nat × D × D) := fun ds dj => outI 0 (r__law_chain (envI 6 0 0 ds dj))
def r__law_won_b1 : VL.Env → SR := (sIf (tNotF (tTru (rdR (eCall 2 n__law_has_bad (aCons (eVs 0) (aCons (eVs 3) aNil))))))
    (sSetP 2 0 (eC (.bl true)) (pNm 2) (rV 3))
    sNil)
def r__law_won_e1 : VL.Env → ER := (eV 7)
def r__law_won_c1 : VL.Env → TR := (tOpT gNotIn (bin D.ix (rV 7) (rdR (eC (.int 1)))) (rV 2))
def r__law_won_b2 : VL.Env → SR := (sIf (tOpT gEq (rdR (eCallB gLenA (raCons (rdR (eLc 0 [7] (iSeq (eCall 3 n__law_follows (aCons (eV 0) (aCons (eV 3) (aCons (eV 6) aNil))))) (gNm 7) r__law_won_c1 r__law_won_e1)) aNil))) (rdR (eC (.int 0))))
    (sSetP 5 0 (eC (.bl true)) (pNm 5) (rV 3))
    sNil)
def r__law_won_b3 : VL.Env → SR := (sFor (iRng1F (raCons (rdR (eCall 1 n__law_commands (aCons (eVs 0) aNil))) aNil)) (gNm 6)
    r__law_won_b2)
def r__law_won_b4 : VL.Env → SR := (sSeq (sAsg 5 (eDct0 0 true))
    (sSeq (sFor (iSeq (eListC (aCons (eV 2) aNil))) (gNm 3)
    r__law_won_b3)
    (sSeq (sIf (tOpT gEq (rdR (eCallB gLenA (raCons (rV 5) aNil))) (rdR (eCallB gLenA (raCons (rV 2) aNil))))
    sBrk
    sNil)
    (sAsg 2 (eV 5)))))
def r__law_won : VL.Env → SR := (sSeq (sAsg 2 (eDct0 0 true))
    (sSeq (sFor (iSeq (eV 1)) (gNm 3)
    r__law_won_b1)
    (sSeq (sFor (iRng1F (raCons (rdR (eCallB gLenA (raCons (rV 1) aNil))) aNil)) (gNm 4)
    r__law_won_b4)
    (sRetV 2))))
def n__law_won : List D → Rs (Nat × D) := fun ds => outP (r__law_won (env0 8 ds))
def r__law_due_b1 : VL.Env → SR := (sIf (tOpT gNotIn (bin D.ix (rV 10) (rdR (eC (.int 1)))) (rV 4))
    (sSeq (sSetP 4 0 (eC (.bl true)) (pNm 4) (bin D.ix (rV 10) (rdR (eC (.int 1)))))
    (sExpr (eApp 7 0 (eIxN 10 (rdR (eC (.int 1)))))))
    sNil)
def r__law_due_b2 : VL.Env → SR := (sIf (tNotF (tTru (rdR (eCall 2 n__law_has_bad (aCons (eVs 0) (aCons (eVs 8) aNil))))))
    (sFor (iSeq (eCall 3 n__law_follows (aCons (eV 0) (aCons (eV 8) (aCons (eC (.int 0)) aNil))))) (gNm 10)
    r__law_due_b1)
    sNil)
def r__law_due_b3 : VL.Env → SR := (sSeq (sAsg 7 (eLst0 0))
    (sSeq (sFor (iSeq (eIxN 3 (rdR (eNeg (rdR (eC (.int 1))))))) (gNm 8)
    r__law_due_b2)
    (sSeq (sIf (tOpT gEq (rdR (eCallB gLenA (raCons (rV 7) aNil))) (rdR (eC (.int 0))))
    sBrk
    sNil)
    (sExpr (eApp 3 0 (eV 7))))))
def r__law_due_e1 : VL.Env → ER := (eV 8)
def r__law_due_c1 : VL.Env → TR := (tTru (rdR (eCall 2 n__law_has_bad (aCons (eVs 0) (aCons (eVs 8) aNil)))))
def r__law_due_e2 : VL.Env → ER := (eV 8)
def r__law_due_c2 : VL.Env → TR := (tOpT gNotIn (rV 8) (rV 2))
def r__law_due_e3 : VL.Env → ER := (eV 9)
def r__law_due_c3 : VL.Env → TR := (tOpT gGt (rdR (eCallB gLenA (raCons (rdR (eLc 0 [8] (iSeq (eIxN 3 (rV 9))) (gNm 8) r__law_due_c2 r__law_due_e2)) aNil))) (rdR (eC (.int 0))))
def r__law_due : VL.Env → SR := (sSeq (sAsg 1 (eCall 2 n__law_beliefs (aCons (eV 0) (aCons (eC (.int 600)) aNil))))
    (sSeq (sAsg 2 (eCall 2 n__law_won (aCons (eV 0) (aCons (eV 1) aNil))))
    (sSeq (sIf (tOpT gNotIn (rdR (eTup (aCons (eC (.int 0)) aNil))) (rV 2))
    (sRet (eTup (aCons (eC (.str "lost")) aNil)))
    sNil)
    (sSeq (sAsg 3 (eLst (aCons (eLst (aCons (eTup (aCons (eC (.int 0)) aNil)) aNil)) aNil)))
    (sSeq (sAsg 4 (eDct1 true (eTup (aCons (eC (.int 0)) aNil)) (eC (.bl true))))
    (sSeq (sFor (iRng1F (raCons (rdR (eCallB gLenA (raCons (rV 1) aNil))) aNil)) (gNm 5)
    r__law_due_b3)
    (sSeq (sIf (tOpT gEq (rdR (eCallB gLenA (raCons (rdR (eLcD 0 [8] 4 (gNm 8) r__law_due_c1 r__law_due_e1)) aNil))) (rdR (eC (.int 0))))
    (sRet (eTup (aCons (eC (.str "always")) aNil)))
    sNil)
    (sSeq (sAsg 6 (eLc 0 [9] (iRng1F (raCons (rdR (eCallB gLenA (raCons (rV 3) aNil))) aNil)) (gNm 9) r__law_due_c3 r__law_due_e3))
    (sRet (eTup (aCons (eC (.str "until")) (aCons (eOp gSub (bin D.ix (rV 6) (rdR (eC (.int 0)))) (rdR (eC (.int 1)))) aNil))))))))))))
def n__law_due : List D → Rs (Nat × D) := fun ds => outP (r__law_due (env0 11 ds))
def r_law_e1 : VL.Env → ER := (eCallI 1 1 1 n__law_draw (aCons (eCallB gLenA (raCons (bin D.ix (rV 9) (rdR (eC (.int 1)))) aNil)) aNil))
def r_law_l2 : VL.Env → ER := (eCall 1 n_latest (aCons (eV 7) aNil))
def r_law_l3 : VL.Env → ER := (eCall 1 n_latest (aCons (eV 8) aNil))
def r_law_l4 : VL.Env → ER := (eCall 1 n_latest (aCons (eV 7) aNil))
def r_law (P : Addr) (q : PySem.Str) : VL.Env → SR := (sSeq (sAsg 1 (eCall 2 n__law_pool (aCons (eV 0) (aCons (eC (.int 0)) aNil))))
    (sSeq (sAsg 2 (eCallI 1 1 1 n__law_draw (aCons (eC (.int 16)) aNil)))
    (sSeq (sAsg 3 (eCallT 1 n__law_chain (eCall 2 n__law_pool (aCons (eV 0) (aCons (eC (.int 1)) aNil)))))
    (sSeq (sIf (tOpT gEq (rV 2) (rdR (eC (.int 0))))
    (sAsg 9 (eIxN 3 (rdR (eC (.int 0)))))
    (sIf (tOpT gLt (rV 2) (rdR (eC (.int 5))))
    (sSeq (sAsg 10 (eCallI 2 1 1 n__law_chance (aCons (eC (.int 2)) (aCons (eC (.int 3)) aNil))))
    (sAsg 9 (eCallI 4 1 1 n__law_draw_arena (aCons (eOp gAdd (rdR (eC (.int 1))) (rdR (eCallI 1 1 1 n__law_draw (aCons (eC (.int 6)) aNil)))) (aCons (eOp gAdd (rdR (eC (.int 1))) (rdR (eCallI 1 1 1 n__law_draw (aCons (eC (.int 4)) aNil)))) (aCons (eOp gAdd (rdR (eC (.int 1))) (rdR (eCallI 1 1 1 n__law_draw (aCons (eC (.int 3)) aNil)))) (aCons (eV 10) aNil)))))))
    (sAsg 9 (eCallI 0 1 1 n__law_draw_traps aNil))))
    (sSeq (sAsg 4 (eIxN 3 (rdR (eC (.int 1)))))
    (sSeq (sIf (tOpT gGt (rV 2) (rdR (eC (.int 0))))
    (sAsg 4 (eCall 1 n__law_due (aCons (eV 9) aNil)))
    sNil)
    (sSeq (sAsg 5 (eTup (aCons (eIxN 9 (rdR (eC (.int 0)))) (aCons (eIxN 9 (rdR (eC (.int 1)))) (aCons (eSortSet (rdR (eLc 0 [11] (iRng1F (raCons (rdR (eCallI 1 1 1 n__law_draw (aCons (eC (.int 3)) aNil))) aNil)) (gNm 11) tYesF r_law_e1))) aNil)))))
    (sSeq (sAsg 6 (eCall 1 n__law_due (aCons (eV 5) aNil)))
    (sSeq (sAsg 7 (eCall 1 n__law_arena (aCons (eV 9) aNil)))
    (sSeq (sAsg 8 (eCall 1 n__law_arena (aCons (eV 5) aNil)))
    (sSeq (sIf (tNotF (tTru (rdR (eCall 2 (n__law_same 5) (aCons (eTold P q 12 "told" r_law_l2) (aCons (eTup (aCons (eC (.str "told")) (aCons (eVs 4) aNil))) aNil))))))
    (sRet (eC (.bl false)))
    sNil)
    (sSeq (sIf (tNotF (tTru (rdR (eCall 2 (n__law_same 5) (aCons (eTold P q 12 "told" r_law_l3) (aCons (eTup (aCons (eC (.str "told")) (aCons (eVs 6) aNil))) aNil))))))
    (sRet (eC (.bl false)))
    sNil)
    (sRet (eCall 2 (n__law_same 5) (aCons (eTold P q 12 "told" r_law_l4) (aCons (eTup (aCons (eC (.str "told")) (aCons (eV 4) aNil))) aNil))))))))))))))))
end K
/-! Gr1: breadth first lists. -/
namespace G
section
variable {α : Type} [DecidableEq α]
def add (t : List α) (x : α) : List α := if x ∈ t then t else t ++ [x]
def addAll (t : List α) (xs : List α) : List α := xs.foldl add t
theorem add_pre (t : List α) (x : α) : t <+: add t x := by
  unfold add; split
  · exact List.prefix_refl _
  · exact List.prefix_append _ _
theorem addAll_pre : ∀ (xs t : List α), t <+: addAll t xs
  | [], t => List.prefix_refl _
  | x :: xs, t => (add_pre t x).trans (addAll_pre xs (add t x))
theorem mem_add {t : List α} {x y : α} : y ∈ add t x ↔ y ∈ t ∨ y = x := by
  unfold add; split
  · rename_i h
    exact ⟨.inl, fun z => z.elim id fun z => z ▸ h⟩
  · simp
theorem mem_addAll : ∀ {xs t : List α} {y : α}, y ∈ addAll t xs ↔ y ∈ t ∨ y ∈ xs
  | [], t, y => by simp [addAll]
  | x :: xs, t, y => by
    show y ∈ addAll (add t x) xs ↔ _
    rw [mem_addAll, mem_add, List.mem_cons, or_assoc]
theorem nd_add {t : List α} (h : t.Nodup) (x : α) : (add t x).Nodup := by
  unfold add; split
  · exact h
  · rename_i hx
    exact List.nodup_append.mpr ⟨h, by simp, fun a ha b hb e => hx (by simp at hb; rw [← hb, ← e]; exact ha)⟩
theorem nd_addAll : ∀ {xs t : List α}, t.Nodup → (addAll t xs).Nodup
  | [], _, h => h
  | x :: xs, _, h => nd_addAll (xs := xs) (nd_add h x)
theorem addAll_app (t p q : List α) : addAll t (p ++ q) = addAll (addAll t p) q := by unfold addAll; rw [List.foldl_append]
variable (s : α → List α) (x0 : α)
inductive Reach : α → Prop
  | base : Reach x0
  | step {x y : α} : Reach x → y ∈ s x → Reach y
/-- the list after i turns -/
def iter : Nat → List α
  | 0 => [x0]
  | i + 1 => match (iter i)[i]? with
    | none => iter i
    | some b => addAll (iter i) (s b)
theorem iter_next {i : Nat} {b : α} (h : (iter s x0 i)[i]? = some b) : iter s x0 (i + 1) = addAll (iter s x0 i) (s b) := by
  show (match (iter s x0 i)[i]? with
    | none => iter s x0 i
    | some b => addAll (iter s x0 i) (s b)) = _
  rw [h]
theorem iter_succ_pre (i : Nat) : iter s x0 i <+: iter s x0 (i + 1) := by
  show _ <+: (match (iter s x0 i)[i]? with
    | none => iter s x0 i
    | some b => addAll (iter s x0 i) (s b))
  split
  · exact List.prefix_refl _
  · exact addAll_pre _ _
theorem iter_pre {i j : Nat} (h : i ≤ j) : iter s x0 i <+: iter s x0 j := by
  induction j with
  | zero => rw [Nat.le_zero.mp h]; exact List.prefix_refl _
  | succ j ih =>
    rcases Nat.lt_or_eq_of_le h with h | h
    · exact (ih (by omega)).trans (iter_succ_pre s x0 j)
    · rw [h]; exact List.prefix_refl _
theorem iter_nd : ∀ i, (iter s x0 i).Nodup
  | 0 => by simp [iter]
  | i + 1 => by
    show (match (iter s x0 i)[i]? with
      | none => iter s x0 i
      | some b => addAll (iter s x0 i) (s b)).Nodup
    split
    · exact iter_nd i
    · exact nd_addAll (iter_nd i)
theorem iter_reach : ∀ i, ∀ y ∈ iter s x0 i, Reach s x0 y
  | 0, y, h => by simp [iter] at h; rw [h]; exact .base
  | i + 1, y, h => by
    have h : y ∈ (match (iter s x0 i)[i]? with
      | none => iter s x0 i
      | some b => addAll (iter s x0 i) (s b)) := h
    split at h
    · exact iter_reach i y h
    · rename_i b hb
      rcases mem_addAll.mp h with h | h
      · exact iter_reach i y h
      · exact .step (iter_reach i b (List.mem_of_getElem? hb)) h
theorem iter_ne (i : Nat) : 1 ≤ (iter s x0 i).length := by
  have := (iter_pre s x0 (Nat.zero_le i)).length_le
  simpa [iter] using this
theorem pre_get {p q : List α} (h : p <+: q) {j : Nat} {x : α} (e : p[j]? = some x) : q[j]? = some x := by
  obtain ⟨r, rfl⟩ := h
  obtain ⟨h1, h2⟩ := List.getElem?_eq_some_iff.mp e
  rw [List.getElem?_append_left h1]; exact e
/-- what was processed leads into the list -/
theorem iter_step {i j : Nat} {b : α} (hj : j < i) (h : (iter s x0 i)[j]? = some b) (hlt : j < (iter s x0 j).length) {y : α} (hy : y ∈ s b) : y ∈ iter s x0 i := by
  have e : (iter s x0 j)[j]? = some b := by
    have h2 := pre_get (iter_pre s x0 (Nat.le_of_lt hj)) (List.getElem?_eq_getElem hlt)
    rw [h] at h2
    rw [List.getElem?_eq_getElem hlt, h2]
  have h3 : y ∈ iter s x0 (j + 1) := by
    show y ∈ (match (iter s x0 j)[j]? with
      | none => iter s x0 j
      | some b => addAll (iter s x0 j) (s b))
    rw [e]
    exact mem_addAll.mpr (.inr hy)
  exact (iter_pre s x0 (Nat.succ_le_of_lt hj)).subset h3
/-- the turn at which the list is closed -/
structure Closes (K : Nat) : Prop where
  len : (iter s x0 K).length = K
  lt : ∀ i < K, i < (iter s x0 i).length
  one : 1 ≤ K
theorem closes_ex {U : List α} (hU : ∀ y, Reach s x0 y → y ∈ U) : ∃ K, K ≤ U.length ∧ Closes s x0 K := by
  have bound : ∀ i, (iter s x0 i).length ≤ U.length := fun i => (iter_nd s x0 i).length_le_of_subset fun y h => hU y (iter_reach s x0 i y h)
  have ex : ∃ i, (iter s x0 i).length ≤ i := ⟨U.length, bound _⟩
  have least : ∀ n, (∃ i, i < n ∧ (iter s x0 i).length ≤ i) → ∃ K, (iter s x0 K).length ≤ K ∧ K < n ∧ ∀ i < K, i < (iter s x0 i).length := by
    intro n
    induction n with
    | zero => rintro ⟨i, h, _⟩; omega
    | succ n ih =>
      rintro ⟨i, h, h2⟩
      by_cases hh : ∃ i, i < n ∧ (iter s x0 i).length ≤ i
      · obtain ⟨K, h1, h2, h3⟩ := ih hh
        exact ⟨K, h1, by omega, h3⟩
      · have : i = n := by
          rcases Nat.lt_or_ge i n with h3 | h3
          · exact absurd ⟨i, h3, h2⟩ hh
          · omega
        subst this
        refine ⟨i, h2, by omega, fun j hj => ?_⟩
        rcases Nat.lt_or_ge j (iter s x0 j).length with h3 | h3
        · exact h3
        · exact absurd ⟨j, hj, h3⟩ hh
  obtain ⟨K, h1, h2, h3⟩ := least (U.length + 1) ⟨U.length, by omega, bound _⟩
  have one : 1 ≤ K := by
    have := iter_ne s x0 K
    omega
  refine ⟨K, by omega, ⟨?_, h3, one⟩⟩
  have := h3 (K - 1) (by omega)
  have := (iter_pre s x0 (show K - 1 ≤ K by omega)).length_le
  omega
theorem Closes.mem {K : Nat} (c : Closes s x0 K) (y : α) : y ∈ iter s x0 K ↔ Reach s x0 y := by
  refine ⟨iter_reach s x0 K y, fun h => ?_⟩
  induction h with
  | base => exact (iter_pre s x0 (Nat.zero_le K)).subset (by simp [iter])
  | step h1 h2 ih =>
    obtain ⟨j, hj, e⟩ := List.mem_iff_getElem.mp ih
    have hjK : j < K := by rw [← c.len]; exact hj
    exact iter_step s x0 hjK (by rw [List.getElem?_eq_getElem hj, e]) (c.lt j hjK) h2
theorem Closes.head {K : Nat} (c : Closes s x0 K) : (iter s x0 K)[0]? = some x0 := pre_get (iter_pre s x0 (Nat.zero_le K)) (by simp [iter])
/-- later turns change nothing -/
theorem Closes.stay {K : Nat} (c : Closes s x0 K) : ∀ i, K ≤ i → iter s x0 i = iter s x0 K := by
  intro i hi
  induction i with
  | zero => have := c.one; omega
  | succ i ih =>
    rcases Nat.lt_or_eq_of_le hi with h | h
    · have e := ih (by omega)
      show (match (iter s x0 i)[i]? with
        | none => iter s x0 i
        | some b => addAll (iter s x0 i) (s b)) = _
      rw [e, List.getElem?_eq_none (by rw [c.len]; omega)]
    · rw [h]
end
end G
/-! Gr2: levels of struck states, walks, what latest answers. -/
namespace G
section
variable {α : Type} (L : α → List (List α))
/-- struck in round k at the latest: L x: for each command the next states; [] where x is bad -/
def Lv : Nat → α → Prop
  | 0, x => L x = []
  | k + 1, x => ∀ l ∈ L x, ∃ y ∈ l, Lv k y
theorem Lv.zero {x : α} (h : L x = []) : ∀ k, Lv L k x
  | 0 => h
  | k + 1 => fun l hl => by rw [h] at hl; cases hl
theorem Lv.succ : ∀ {k : Nat} {x : α}, Lv L k x → Lv L (k + 1) x
  | 0, _, h => Lv.zero L h 1
  | k + 1, _, h => fun l hl => by
    obtain ⟨y, hy, q⟩ := h l hl
    exact ⟨y, hy, Lv.succ q⟩
theorem Lv.mono {i j : Nat} (h : i ≤ j) {x : α} (l : Lv L i x) : Lv L j x := by
  induction j with
  | zero => rw [Nat.le_zero.mp h] at l; exact l
  | succ j ih =>
    rcases Nat.lt_or_eq_of_le h with h | h
    · exact Lv.succ L (ih (by omega))
    · rw [← h]; exact l
def Struck (x : α) : Prop := ∃ k, Lv L k x
theorem levels_bound : ∀ ls : List (List α), (∀ l ∈ ls, ∃ y ∈ l, Struck L y) → ∃ k, ∀ l ∈ ls, ∃ y ∈ l, Lv L k y
  | [], _ => ⟨0, fun l h => (nomatch h)⟩
  | l :: ls, h => by
    obtain ⟨y, hy, k1, q⟩ := h l List.mem_cons_self
    obtain ⟨k2, hk⟩ := levels_bound ls fun l' m => h l' (List.mem_cons_of_mem _ m)
    refine ⟨max k1 k2, fun l' m => ?_⟩
    rcases List.mem_cons.mp m with m | m
    · subst m; exact ⟨y, hy, q.mono L (Nat.le_max_left _ _)⟩
    · obtain ⟨z, hz, r⟩ := hk l' m
      exact ⟨z, hz, r.mono L (Nat.le_max_right _ _)⟩
/-- struck: bad, or for every command an answer leads to a struck one -/
theorem struck_iff {x : α} : Struck L x ↔ ∀ l ∈ L x, ∃ y ∈ l, Struck L y := by
  constructor
  · rintro ⟨k, h⟩ l hl
    cases k with
    | zero => rw [show L x = [] from h] at hl; cases hl
    | succ k =>
      obtain ⟨y, hy, q⟩ := h l hl
      exact ⟨y, hy, k, q⟩
  · intro h
    obtain ⟨k, hk⟩ := levels_bound L (L x) h
    exact ⟨k + 1, hk⟩
/-- not struck: good, and some command has only next states that are not struck -/
theorem not_struck {x : α} (h : ¬ Struck L x) : ∃ l ∈ L x, ∀ y ∈ l, ¬ Struck L y := by
  rw [struck_iff] at h
  simp only [Classical.not_forall, not_exists, not_and] at h
  obtain ⟨l, hl, h⟩ := h
  exact ⟨l, hl, h⟩
/-- a set whose members are good and have a command that stays in it holds no struck state -/
theorem closed_not_struck {W : α → Prop} (h : ∀ x, W x → ∃ l ∈ L x, ∀ y ∈ l, W y) : ∀ (k : Nat) (x : α), Lv L k x → ¬ W x
  | 0, x, l, w => by
    obtain ⟨l', hl, _⟩ := h x w
    rw [show L x = [] from l] at hl; cases hl
  | k + 1, x, l, w => by
    obtain ⟨l', hl, hw⟩ := h x w
    obtain ⟨y, hy, q⟩ := l l' hl
    exact closed_not_struck h k y q (hw y hy)
/-- one tick under command 0 -/
def s0 (x : α) : List α := (L x).headD []
variable (x0 : α)
inductive Walk : Nat → α → Prop
  | base : Walk 0 x0
  | step {t : Nat} {x y : α} : Walk t x → y ∈ s0 L x → Walk (t + 1) y
inductive Lat where
  | lost | always | until_ (t : Int)
deriving DecidableEq
def LatSpec : Lat → Prop
  | .lost => Struck L x0
  | .always => ¬ Struck L x0 ∧ ∀ t y, Walk L x0 t y → ¬ Struck L y
  | .until_ t => ¬ Struck L x0 ∧ ∃ n : Nat, t = (n : Int) - 1 ∧ (∃ y, Walk L x0 n y ∧ Struck L y) ∧ ∀ t' < n, ∀ y, Walk L x0 t' y → ¬ Struck L y
theorem latSpec_uniq {r q : Lat} (h1 : LatSpec L x0 r) (h2 : LatSpec L x0 q) : r = q := by
  cases r with
  | lost =>
    cases q with
    | lost => rfl
    | always => exact absurd h1 h2.1
    | until_ t => exact absurd h1 h2.1
  | always =>
    cases q with
    | lost => exact absurd h2 h1.1
    | always => rfl
    | until_ t =>
      obtain ⟨_, n, _, ⟨y, hy, hs⟩, _⟩ := h2
      exact absurd hs (h1.2 n y hy)
  | until_ t =>
    obtain ⟨a, n, e, ⟨y, hy, hs⟩, hn⟩ := h1
    cases q with
    | lost => exact absurd h2 a
    | always => exact absurd hs (h2.2 n y hy)
    | until_ t' =>
      obtain ⟨_, n', e', ⟨y', hy', hs'⟩, hn'⟩ := h2
      have : n = n' := by
        rcases Nat.lt_trichotomy n n' with h | h | h
        · exact absurd hs (hn' n h y hy)
        · exact h
        · exact absurd hs' (hn n' h y' hy')
      rw [e, e', this]
end
/-! ### another numbering of the states -/
section
variable {α β : Type} {L : α → List (List α)} {M : β → List (List β)} {f : α → β} {P : α → Prop}
  (h : ∀ x, P x → M (f x) = (L x).map fun l => l.map f) (hp : ∀ x, P x → ∀ l ∈ L x, ∀ y ∈ l, P y)
include h hp
theorem lv_map : ∀ (k : Nat) (x : α), P x → (Lv M k (f x) ↔ Lv L k x)
  | 0, x, p => by
    show M (f x) = [] ↔ L x = []
    rw [h x p]; simp
  | k + 1, x, p => by
    show (∀ l ∈ M (f x), ∃ y ∈ l, Lv M k y) ↔ ∀ l ∈ L x, ∃ y ∈ l, Lv L k y
    rw [h x p]
    constructor
    · intro q l hl
      obtain ⟨y, hy, r⟩ := q (l.map f) (List.mem_map.mpr ⟨l, hl, rfl⟩)
      obtain ⟨z, hz, rfl⟩ := List.mem_map.mp hy
      exact ⟨z, hz, (lv_map k z (hp x p l hl z hz)).mp r⟩
    · intro q l hl
      obtain ⟨l', hl', rfl⟩ := List.mem_map.mp hl
      obtain ⟨y, hy, r⟩ := q l' hl'
      exact ⟨f y, List.mem_map.mpr ⟨y, hy, rfl⟩, (lv_map k y (hp x p l' hl' y hy)).mpr r⟩
theorem struck_map {x : α} (p : P x) : Struck M (f x) ↔ Struck L x :=
  ⟨fun ⟨k, q⟩ => ⟨k, (lv_map h hp k x p).mp q⟩, fun ⟨k, q⟩ => ⟨k, (lv_map h hp k x p).mpr q⟩⟩
theorem s0_map {x : α} (p : P x) : s0 M (f x) = (s0 L x).map f := by
  unfold s0
  rw [h x p]
  cases L x <;> rfl
theorem s0_P {x y : α} (p : P x) (hy : y ∈ s0 L x) : P y := by
  unfold s0 at hy
  cases e : L x with
  | nil => rw [e] at hy; cases hy
  | cons l ls => rw [e] at hy; exact hp x p l (by rw [e]; exact List.mem_cons_self) y hy
theorem walk_P {x0 : α} (p0 : P x0) {t : Nat} {x : α} (w : Walk L x0 t x) : P x := by
  induction w with
  | base => exact p0
  | step _ hy ih => exact s0_P h hp ih hy
theorem walk_map {x0 : α} (p0 : P x0) {t : Nat} {x : α} (w : Walk L x0 t x) : Walk M (f x0) t (f x) := by
  induction w with
  | base => exact .base
  | step w hy ih => exact .step ih (by rw [s0_map h hp (walk_P h hp p0 w)]; exact List.mem_map.mpr ⟨_, hy, rfl⟩)
theorem walk_back {x0 : α} (p0 : P x0) {t : Nat} {y : β} (w : Walk M (f x0) t y) : ∃ x, f x = y ∧ Walk L x0 t x := by
  induction w with
  | base => exact ⟨x0, rfl, .base⟩
  | step w hy ih =>
    obtain ⟨x, rfl, wx⟩ := ih
    rw [s0_map h hp (walk_P h hp p0 wx)] at hy
    obtain ⟨z, hz, rfl⟩ := List.mem_map.mp hy
    exact ⟨z, rfl, .step wx hz⟩
theorem latSpec_map {x0 : α} (p0 : P x0) {r : Lat} (q : LatSpec L x0 r) : LatSpec M (f x0) r := by
  have ns : ∀ {t : Nat} {y : β}, Walk M (f x0) t y → (∀ x, Walk L x0 t x → ¬ Struck L x) → ¬ Struck M y := fun {t y} w k s => by
    obtain ⟨x, rfl, wx⟩ := walk_back h hp p0 w
    exact k x wx ((struck_map h hp (walk_P h hp p0 wx)).mp s)
  cases r with
  | lost => exact (struck_map h hp p0).mpr q
  | always => exact ⟨fun z => q.1 ((struck_map h hp p0).mp z), fun t y w => ns w (q.2 t)⟩
  | until_ t =>
    obtain ⟨a, n, e, ⟨y, hy, hs⟩, hn⟩ := q
    exact ⟨fun z => a ((struck_map h hp p0).mp z), n, e, ⟨f y, walk_map h hp p0 hy, (struck_map h hp (walk_P h hp p0 hy)).mpr hs⟩, fun t' l y w => ns w (hn t' l)⟩
end
end G
/-! Gr3: the search that latest makes. -/
namespace G
section
variable {α : Type} [DecidableEq α] (s : α → List α) (x0 : α)
def tks : Nat → List Nat
  | 0 => [0]
  | i + 1 => tks i ++ List.replicate ((iter s x0 (i + 1)).length - (iter s x0 i).length) (((tks i)[i]?).getD 0 + 1)
theorem tks_len : ∀ i, (tks s x0 i).length = (iter s x0 i).length
  | 0 => rfl
  | i + 1 => by
    show (tks s x0 i ++ List.replicate ((iter s x0 (i + 1)).length - (iter s x0 i).length) _).length = _
    have := (iter_succ_pre s x0 i).length_le
    rw [List.length_append, List.length_replicate, tks_len i]
    omega
theorem tks_pre (i : Nat) : tks s x0 i <+: tks s x0 (i + 1) := List.prefix_append _ _
theorem tks_new {i j d : Nat} (h : (tks s x0 (i + 1))[j]? = some d) (hj : (iter s x0 i).length ≤ j) : d = ((tks s x0 i)[i]?).getD 0 + 1 := by
  have h : (tks s x0 i ++ List.replicate ((iter s x0 (i + 1)).length - (iter s x0 i).length) (((tks s x0 i)[i]?).getD 0 + 1))[j]? = some d := h
  rw [List.getElem?_append_right (by rw [tks_len]; exact hj)] at h
  rw [List.getElem?_replicate] at h
  split at h
  · exact (Option.some.inj h).symm
  · cases h
theorem tks_old {i j d : Nat} (h : (tks s x0 (i + 1))[j]? = some d) (hj : j < (iter s x0 i).length) : (tks s x0 i)[j]? = some d := by
  have h : (tks s x0 i ++ List.replicate ((iter s x0 (i + 1)).length - (iter s x0 i).length) (((tks s x0 i)[i]?).getD 0 + 1))[j]? = some d := h
  rw [List.getElem?_append_left (by rw [tks_len]; exact hj)] at h
  exact h
/-- the walks of s -/
inductive Wk : Nat → α → Prop
  | base : Wk 0 x0
  | step {t : Nat} {x y : α} : Wk t x → y ∈ s x → Wk (t + 1) y
theorem Wk.reach {t : Nat} {x : α} (w : Wk s x0 t x) : Reach s x0 x := by
  induction w with
  | base => exact .base
  | step _ h ih => exact .step ih h
/-- the state at turn i: turns before were not the last -/
structure Inv3 (i : Nat) : Prop where
  wk : ∀ (j : Nat) (x : α), (iter s x0 i)[j]? = some x → ∃ d : Nat, (tks s x0 i)[j]? = some d ∧ Wk s x0 d x
  mono : ∀ (j j' d d' : Nat), j ≤ j' → (tks s x0 i)[j]? = some d → (tks s x0 i)[j']? = some d' → d ≤ d'
  top : ∀ (d0 j d : Nat), (tks s x0 i)[i]? = some d0 → (tks s x0 i)[j]? = some d → d ≤ d0 + 1
  cl : ∀ (j d : Nat) (x y : α), j < i → (iter s x0 i)[j]? = some x → (tks s x0 i)[j]? = some d → y ∈ s x → ∃ j' d' : Nat, (iter s x0 i)[j']? = some y ∧ (tks s x0 i)[j']? = some d' ∧ d' ≤ d + 1
theorem inv3_zero : Inv3 s x0 0 := by
  refine ⟨fun j x h => ?_, fun j j' d d' h h1 h2 => ?_, fun d0 j d h h1 => ?_, fun j d x y h => by omega⟩
  · have h : [x0][j]? = some x := h
    cases j with
    | zero => simp at h; subst h; exact ⟨0, rfl, .base⟩
    | succ j => simp at h
  · have h1 : [0][j]? = some d := h1
    have h2 : [0][j']? = some d' := h2
    cases j <;> simp at h1
    subst h1
    omega
  · have h1 : [0][j]? = some d := h1
    cases j <;> simp at h1
    subst h1
    omega
theorem inv3_succ {i : Nat} (I : Inv3 s x0 i) (hi : i < (iter s x0 i).length) : Inv3 s x0 (i + 1) := by
  have hti : i < (tks s x0 i).length := by rw [tks_len]; exact hi
  have ed : (tks s x0 i)[i]? = some (tks s x0 i)[i] := List.getElem?_eq_getElem hti
  have eb : (iter s x0 i)[i]? = some (iter s x0 i)[i] := List.getElem?_eq_getElem hi
  have it : iter s x0 (i + 1) = addAll (iter s x0 i) (s (iter s x0 i)[i]) := by
    show (match (iter s x0 i)[i]? with
      | none => iter s x0 i
      | some b => addAll (iter s x0 i) (s b)) = _
    rw [eb]
  generalize hd0 : (tks s x0 i)[i] = d0 at ed
  generalize hb : (iter s x0 i)[i] = b at eb it
  have wb : Wk s x0 d0 b := by
    obtain ⟨d, h1, h2⟩ := I.wk i b eb
    rw [ed] at h1
    rw [Option.some.inj h1]
    exact h2
  have old_i : ∀ {j : Nat} {x : α}, (iter s x0 (i + 1))[j]? = some x → j < (iter s x0 i).length → (iter s x0 i)[j]? = some x := fun {j x} h hj => by
    obtain ⟨r, hr⟩ := iter_succ_pre s x0 i
    rw [← hr, List.getElem?_append_left hj] at h
    exact h
  have dle : ∀ {j d : Nat}, (tks s x0 (i + 1))[j]? = some d → d ≤ d0 + 1 := fun {j d} h => by
    by_cases hj : j < (iter s x0 i).length
    · exact I.top d0 j d ed (tks_old s x0 h hj)
    · rw [tks_new s x0 h (by omega), ed]; simp
  refine ⟨fun j x h => ?_, fun j j' d d' hjj h1 h2 => ?_, fun e j d h h1 => ?_, fun j d x y hj hx hd hy => ?_⟩
  · by_cases hj : j < (iter s x0 i).length
    · obtain ⟨d, h1, h2⟩ := I.wk j x (old_i h hj)
      exact ⟨d, pre_get (tks_pre s x0 i) h1, h2⟩
    · have hlt : j < (iter s x0 (i + 1)).length := (List.getElem?_eq_some_iff.mp h).1
      have hlt2 : j < (tks s x0 (i + 1)).length := by rw [tks_len]; exact hlt
      have h3 : (tks s x0 (i + 1))[j]? = some (tks s x0 (i + 1))[j] := List.getElem?_eq_getElem hlt2
      have h4 := tks_new s x0 h3 (by omega)
      rw [ed] at h4
      refine ⟨_, h3, ?_⟩
      rw [h4]
      refine .step wb ?_
      -- x is new
      have nd := iter_nd s x0 (i + 1)
      have hx : x ∈ iter s x0 (i + 1) := List.mem_of_getElem? h
      rw [it] at hx
      rcases mem_addAll.mp hx with hx | hx
      · obtain ⟨j', hj', e'⟩ := List.mem_iff_getElem.mp hx
        have h5 := pre_get (iter_succ_pre s x0 i) (List.getElem?_eq_getElem hj')
        have h6 : (iter s x0 (i + 1))[j'] = x := by
          have := (List.getElem?_eq_some_iff.mp h5).2
          rw [this, e']
        have h7 : (iter s x0 (i + 1))[j] = x := (List.getElem?_eq_some_iff.mp h).2
        have : j' = j := by
          have hlt' : j' < (iter s x0 (i + 1)).length := (List.getElem?_eq_some_iff.mp h5).1
          rcases Nat.lt_trichotomy j' j with q | q | q
          · exact absurd (h6.trans h7.symm) (List.pairwise_iff_getElem.mp nd j' j hlt' hlt q)
          · exact q
          · exact absurd (h7.trans h6.symm) (List.pairwise_iff_getElem.mp nd j j' hlt hlt' q)
        omega
      · exact hx
  · by_cases hj' : j' < (iter s x0 i).length
    · exact I.mono j j' d d' hjj (tks_old s x0 h1 (by omega)) (tks_old s x0 h2 hj')
    · rw [tks_new s x0 h2 (by omega), ed]
      exact dle h1
  · have : d0 ≤ e := by
      by_cases hj' : i + 1 < (iter s x0 i).length
      · exact I.mono i (i + 1) d0 e (by omega) ed (tks_old s x0 h hj')
      · rw [tks_new s x0 h (by omega), ed]; simp
    have := dle h1
    omega
  · by_cases hji : j = i
    · subst hji
      have hx' := old_i hx hi
      rw [eb] at hx'
      cases hx'
      have hd' := tks_old s x0 hd hi
      rw [ed] at hd'
      cases hd'
      have hy2 : y ∈ iter s x0 (j + 1) := by rw [it]; exact mem_addAll.mpr (.inr hy)
      obtain ⟨j', hj', e'⟩ := List.mem_iff_getElem.mp hy2
      have hlt2 : j' < (tks s x0 (j + 1)).length := by rw [tks_len]; exact hj'
      have h3 : (tks s x0 (j + 1))[j']? = some (tks s x0 (j + 1))[j'] := List.getElem?_eq_getElem hlt2
      exact ⟨j', _, by rw [List.getElem?_eq_getElem hj', e'], h3, dle h3⟩
    · have hjl : j < (iter s x0 i).length := by omega
      obtain ⟨j', d', h1, h2, h3⟩ := I.cl j d x y (by omega) (old_i hx hjl) (tks_old s x0 hd hjl) hy
      exact ⟨j', d', pre_get (iter_succ_pre s x0 i) h1, pre_get (tks_pre s x0 i) h2, h3⟩
theorem inv3 {K : Nat} (c : Closes s x0 K) : ∀ i, i ≤ K → Inv3 s x0 i
  | 0, _ => inv3_zero s x0
  | i + 1, h => inv3_succ s x0 (inv3 c i (by omega)) (c.lt i (by omega))
theorem Inv3.min {i : Nat} (I : Inv3 s x0 i) {d0 : Nat} (ed : (tks s x0 i)[i]? = some d0) {t : Nat} {y : α} (w : Wk s x0 t y) : t ≤ d0 → ∃ j d : Nat, (iter s x0 i)[j]? = some y ∧ (tks s x0 i)[j]? = some d ∧ d ≤ t := by
  induction w with
  | base =>
    intro _
    have h := pre_get (iter_pre s x0 (Nat.zero_le i)) (j := 0) (x := x0) (by simp [iter])
    have h2 : ∀ i, (tks s x0 i)[0]? = some 0 := by
      intro i
      induction i with
      | zero => rfl
      | succ i ih => exact pre_get (tks_pre s x0 i) ih
    exact ⟨0, 0, h, h2 i, Nat.le_refl _⟩
  | step w hy ih =>
    rename_i t x y
    intro ht
    obtain ⟨j, d, h1, h2, h3⟩ := ih (by omega)
    have hj : j < i := by
      rcases Nat.lt_or_ge j i with q | q
      · exact q
      · have := I.mono i j d0 d q ed h2
        omega
    obtain ⟨j', d', q1, q2, q3⟩ := I.cl j d x y hj h1 h2 hy
    exact ⟨j', d', q1, q2, by omega⟩
end
section
variable {α : Type} [DecidableEq α] (L : α → List (List α)) (x0 : α)
theorem wk_walk {t : Nat} {x : α} : Wk (s0 L) x0 t x ↔ Walk L x0 t x := by
  constructor
  · intro w; induction w with
    | base => exact .base
    | step _ h ih => exact .step ih h
  · intro w; induction w with
    | base => exact .base
    | step _ h ih => exact .step ih h
/-- the first struck state of the search -/
theorem lat_until {K i : Nat} (c : Closes (s0 L) x0 K) (hi : i < K) (hn : ¬ Struck L x0) {x : α} {d : Nat} (hx : (iter (s0 L) x0 i)[i]? = some x) (hd : (tks (s0 L) x0 i)[i]? = some d) (hs : Struck L x)
    (hb : ∀ (j : Nat) (y : α), j < i → (iter (s0 L) x0 i)[j]? = some y → ¬ Struck L y) : LatSpec L x0 (.until_ ((d : Int) - 1)) := by
  have I := inv3 (s0 L) x0 c i (by omega)
  refine ⟨hn, d, rfl, ⟨x, ?_, hs⟩, fun t' ht y w => ?_⟩
  · obtain ⟨d', h1, h2⟩ := I.wk i x hx
    rw [hd] at h1
    cases h1
    exact (wk_walk L x0).mp h2
  · obtain ⟨j, d', h1, h2, h3⟩ := I.min (s0 L) x0 hd ((wk_walk L x0).mpr w) (by omega)
    refine hb j y ?_ h1
    rcases Nat.lt_or_ge j i with q | q
    · exact q
    · have := I.mono i j d d' q hd h2
      omega
theorem lat_always {K : Nat} (c : Closes (s0 L) x0 K) (hb : ∀ (j : Nat) (y : α), (iter (s0 L) x0 K)[j]? = some y → ¬ Struck L y) : LatSpec L x0 .always := by
  refine ⟨hb 0 x0 (Closes.head _ _ c), fun t y w => ?_⟩
  have hy := (Closes.mem _ _ c y).mpr (Wk.reach _ _ ((wk_walk L x0).mpr w))
  obtain ⟨j, hj, e⟩ := List.mem_iff_getElem.mp hy
  exact hb j y (by rw [List.getElem?_eq_getElem hj, e])
end
end G
/-! Gr4: striking in rounds. -/
namespace G
abbrev Steps := List (List (List (Int × Nat)))
def stepL (st : Steps) (i : Nat) : List (List (Int × Nat)) := (st[i]?).getD []
/-- the next states, by command -/
def LS (st : Steps) (i : Nat) : List (List Nat) := (stepL st i).map fun rows => rows.map (·.2)
structure StOk (st : Steps) : Prop where
  lt : ∀ i, ∀ rows ∈ stepL st i, ∀ r ∈ rows, r.2 < st.length
/-- struck in an earlier round than k -/
def Bf (st : Steps) (k : Nat) (y : Nat) : Prop := ∃ j, j < k ∧ Lv (LS st) j y
theorem bf_succ {st : Steps} {k y : Nat} : Bf st (k + 1) y ↔ Lv (LS st) k y :=
  ⟨fun ⟨j, h, q⟩ => q.mono _ (by omega), fun h => ⟨k, by omega, h⟩⟩
theorem lv_bf {st : Steps} {k i : Nat} : Lv (LS st) k i ↔ ∀ l ∈ LS st i, ∃ y ∈ l, Bf st k y := by
  cases k with
  | zero =>
    show LS st i = [] ↔ _
    constructor
    · intro h l hl; rw [h] at hl; cases hl
    · intro h
      cases e : LS st i with
      | nil => rfl
      | cons l ls =>
        obtain ⟨y, _, j, hj, _⟩ := h l (by rw [e]; exact List.mem_cons_self)
        omega
  | succ k =>
    show (∀ l ∈ LS st i, ∃ y ∈ l, Lv (LS st) k y) ↔ _
    constructor
    · intro h l hl; obtain ⟨y, hy, q⟩ := h l hl; exact ⟨y, hy, bf_succ.mpr q⟩
    · intro h l hl; obtain ⟨y, hy, q⟩ := h l hl; exact ⟨y, hy, bf_succ.mp q⟩
/-- struck in round k, not before -/
def Ex (st : Steps) (k i : Nat) : Prop := Lv (LS st) k i ∧ ¬ Bf st k i
/-- a step: from, command, answer, to -/
abbrev Ent := Nat × Nat × Int × Nat
def flatS (st : Steps) : List Ent := st.zipIdx.flatMap fun p => p.1.zipIdx.flatMap fun q => q.1.map fun r => (p.2, q.2, r.1, r.2)
theorem mem_flatS {st : Steps} {e : Ent} : e ∈ flatS st ↔ ∃ rows, (stepL st e.1)[e.2.1]? = some rows ∧ (e.2.2.1, e.2.2.2) ∈ rows := by
  obtain ⟨n, c, o, y⟩ := e
  unfold flatS stepL
  simp only [List.mem_flatMap, List.mem_map, Prod.exists, List.mem_zipIdx_iff_getElem?]
  constructor
  · rintro ⟨lists, n', h1, rows, c', h2, o', y', h3, h4⟩
    cases h4
    exact ⟨rows, by rw [h1]; exact h2, h3⟩
  · rintro ⟨rows, h1, h2⟩
    cases hn : st[n]? with
    | none => rw [hn] at h1; simp at h1
    | some lists =>
      rw [hn] at h1
      exact ⟨lists, n, hn, rows, c, h1, o, y, h2, rfl⟩
def srcs (fl : List Ent) (e : Nat) : List (Nat × Nat × Int) := fl.filterMap fun q => if q.2.2.2 = e then some (q.1, q.2.1, q.2.2.1) else none
theorem mem_srcs {fl : List Ent} {e n c : Nat} {o : Int} : (n, c, o) ∈ srcs fl e ↔ (n, c, o, e) ∈ fl := by
  unfold srcs
  rw [List.mem_filterMap]
  constructor
  · rintro ⟨⟨n', c', o', y'⟩, h1, h2⟩
    dsimp only at h2
    split at h2
    · rename_i h; cases h2; rw [← h]; exact h1
    · cases h2
  · intro h
    exact ⟨(n, c, o, e), h, by simp⟩
abbrev Rep := List (List (Option Int))
def repAt (rep : Rep) (i c : Nat) : Option (Option Int) := ((rep[i]?).getD [])[c]?
def nlStep (p : Rep × List Nat) (q : Nat × Nat × Int) : Rep × List Nat :=
  if repAt p.1 q.1 q.2.1 = some none then
    (p.1.set q.1 (((p.1[q.1]?).getD []).set q.2.1 (some q.2.2)),
     if none ∈ (((p.1[q.1]?).getD []).set q.2.1 (some q.2.2)) then p.2 else p.2 ++ [q.1])
  else p
/-- the shape of replies -/
structure RepOk (st : Steps) (rep : Rep) : Prop where
  len : rep.length = st.length
  row : ∀ i, i < st.length → ((rep[i]?).getD []).length = (stepL st i).length
/-- replies: those of X are set, each with an answer that has a reason -/
structure RepIs (st : Steps) (rep : Rep) (X : Nat → Nat → Prop) (Y : Nat → Nat → Int → Prop) : Prop where
  ok : RepOk st rep
  set : ∀ i c, i < st.length → c < (stepL st i).length → (repAt rep i c = some none ∧ ¬ X i c) ∨ ∃ o, repAt rep i c = some (some o) ∧ X i c ∧ Y i c o
theorem repAt_set {rep : Rep} {i c i' c' : Nat} {x : Option Int} (hi : i < rep.length) (hc : c < ((rep[i]?).getD []).length) :
    repAt (rep.set i (((rep[i]?).getD []).set c x)) i' c' = if i' = i ∧ c' = c then some x else repAt rep i' c' := by
  unfold repAt
  rw [List.getElem?_set]
  by_cases h : i = i'
  · subst h
    rw [if_pos rfl, if_pos hi, Option.getD_some, List.getElem?_set]
    by_cases h2 : c = c'
    · subst h2; rw [if_pos rfl, if_pos hc, if_pos ⟨rfl, rfl⟩]
    · rw [if_neg h2, if_neg (fun z => h2 z.2.symm)]
  · rw [if_neg h, if_neg (fun z => h z.1.symm)]
/-- one entry is looked at -/
structure NlI (st : Steps) (X : Nat → Nat → Prop) (Y : Nat → Nat → Int → Prop) (E : List (Nat × Nat × Int)) (p : Rep × List Nat) : Prop where
  rep : RepIs st p.1 (fun i c => X i c ∨ ∃ o, (i, c, o) ∈ E) (fun i c o => Y i c o ∨ (i, c, o) ∈ E)
  nd : p.2.Nodup
  fd : ∀ i, i ∈ p.2 ↔ i < st.length ∧ (∀ c, c < (stepL st i).length → X i c ∨ ∃ o, (i, c, o) ∈ E) ∧ ¬ ∀ c, c < (stepL st i).length → X i c
theorem nl_step {st : Steps} {X : Nat → Nat → Prop} {Y : Nat → Nat → Int → Prop} {E : List (Nat × Nat × Int)} {p : Rep × List Nat} (I : NlI st X Y E p) {n c : Nat} {o : Int} (hn : n < st.length) (hc : c < (stepL st n).length) :
    NlI st X Y (E ++ [(n, c, o)]) (nlStep p (n, c, o)) := by
  have hlen : n < p.1.length := by rw [I.rep.ok.len]; exact hn
  have hrow : c < ((p.1[n]?).getD []).length := by rw [I.rep.ok.row n hn]; exact hc
  have memE : ∀ {i c' : Nat} {o' : Int}, (i, c', o') ∈ E ++ [(n, c, o)] ↔ (i, c', o') ∈ E ∨ (i = n ∧ c' = c ∧ o' = o) := by
    intro i c' o'; simp
  unfold nlStep
  dsimp only
  by_cases h : repAt p.1 n c = some none
  · rw [if_pos h]
    have hX : ¬ (X n c ∨ ∃ o, (n, c, o) ∈ E) := by
      rcases I.rep.set n c hn hc with ⟨_, q⟩ | ⟨o', q, _⟩
      · exact q
      · rw [h] at q; cases q
    have rok : RepOk st (p.1.set n (((p.1[n]?).getD []).set c (some o))) := by
      refine ⟨by rw [List.length_set]; exact I.rep.ok.len, fun i hi => ?_⟩
      rw [List.getElem?_set]
      by_cases e : n = i
      · subst e; rw [if_pos rfl, if_pos hlen, Option.getD_some, List.length_set]; exact I.rep.ok.row n hn
      · rw [if_neg e]; exact I.rep.ok.row i hi
    have rep' : RepIs st (p.1.set n (((p.1[n]?).getD []).set c (some o))) (fun i c' => X i c' ∨ ∃ o', (i, c', o') ∈ E ++ [(n, c, o)]) (fun i c' o' => Y i c' o' ∨ (i, c', o') ∈ E ++ [(n, c, o)]) := by
      refine ⟨rok, fun i c' hi hc' => ?_⟩
      rw [repAt_set hlen hrow]
      by_cases e : i = n ∧ c' = c
      · rw [if_pos e]
        exact .inr ⟨o, rfl, .inr ⟨o, memE.mpr (.inr ⟨e.1, e.2, rfl⟩)⟩, .inr (memE.mpr (.inr ⟨e.1, e.2, rfl⟩))⟩
      · rw [if_neg e]
        rcases I.rep.set i c' hi hc' with ⟨q1, q2⟩ | ⟨o', q1, q2, q3⟩
        · refine .inl ⟨q1, fun z => q2 (z.imp id fun ⟨o2, m⟩ => ⟨o2, ?_⟩)⟩
          rcases memE.mp m with m | ⟨a, b, _⟩
          · exact m
          · exact absurd ⟨a, b⟩ e
        · exact .inr ⟨o', q1, q2.imp id fun ⟨o2, m⟩ => ⟨o2, memE.mpr (.inl m)⟩, q3.imp id fun m => memE.mpr (.inl m)⟩
    have hX0 : ¬ ∀ c', c' < (stepL st n).length → X n c' := fun z => hX (.inl (z c hc))
    have all_iff : none ∈ (((p.1[n]?).getD []).set c (some o)) ↔ ¬ ∀ c', c' < (stepL st n).length → X n c' ∨ ∃ o', (n, c', o') ∈ E ++ [(n, c, o)] := by
      have hat : ∀ c', (((p.1[n]?).getD []).set c (some o))[c']? = repAt (p.1.set n (((p.1[n]?).getD []).set c (some o))) n c' := by
        intro c'; unfold repAt; rw [List.getElem?_set_self hlen]; rfl
      constructor
      · intro hm hall
        obtain ⟨c', hc', e⟩ := List.mem_iff_getElem.mp hm
        have hlt : c' < (stepL st n).length := by
          rw [List.length_set, I.rep.ok.row n hn] at hc'; exact hc'
        have e2 : (((p.1[n]?).getD []).set c (some o))[c']? = some none := by rw [List.getElem?_eq_getElem hc', e]
        rw [hat] at e2
        rcases rep'.set n c' hn hlt with ⟨_, q⟩ | ⟨o', q, _⟩
        · exact q (hall c' hlt)
        · rw [e2] at q; cases q
      · intro hall
        simp only [Classical.not_forall] at hall
        obtain ⟨c', hlt, hq⟩ := hall
        rcases rep'.set n c' hn hlt with ⟨q, _⟩ | ⟨o', _, q, _⟩
        · rw [← hat] at q
          exact List.mem_of_getElem? q
        · exact absurd q hq
    have old_not : n ∉ p.2 := fun m => by
      have := ((I.fd n).mp m).2.1 c hc
      exact hX this
    refine ⟨rep', ?_, fun i => ?_⟩
    · split
      · exact I.nd
      · exact List.nodup_append.mpr ⟨I.nd, by simp, fun a ha b hb e => old_not (by simp at hb; rw [← hb, ← e]; exact ha)⟩
    · have other : i ≠ n → (i ∈ p.2 ↔ i < st.length ∧ (∀ c', c' < (stepL st i).length → X i c' ∨ ∃ o', (i, c', o') ∈ E ++ [(n, c, o)]) ∧ ¬ ∀ c', c' < (stepL st i).length → X i c') := by
        intro hin
        rw [I.fd i]
        have : ∀ c', (∃ o', (i, c', o') ∈ E ++ [(n, c, o)]) ↔ ∃ o', (i, c', o') ∈ E := fun c' =>
          ⟨fun ⟨o', m⟩ => ⟨o', (memE.mp m).resolve_right fun z => hin z.1⟩, fun ⟨o', m⟩ => ⟨o', memE.mpr (.inl m)⟩⟩
        simp only [this]
      split
      · rename_i hm
        have hm := all_iff.mp hm
        by_cases hin : i = n
        · subst hin
          exact ⟨fun m => absurd m old_not, fun z => absurd z.2.1 hm⟩
        · exact other hin
      · rename_i hm
        have hm : ∀ c', c' < (stepL st n).length → X n c' ∨ ∃ o', (n, c', o') ∈ E ++ [(n, c, o)] := by
          have := mt all_iff.mpr hm
          exact Classical.not_not.mp this
        rw [List.mem_append]
        by_cases hin : i = n
        · subst hin
          exact ⟨fun _ => ⟨hn, hm, hX0⟩, fun _ => .inr (by simp)⟩
        · rw [← other hin]
          simp [hin]
  · rw [if_neg h]
    have hX : X n c ∨ ∃ o, (n, c, o) ∈ E := by
      rcases I.rep.set n c hn hc with ⟨q, _⟩ | ⟨o', _, q, _⟩
      · exact absurd q h
      · exact q
    have same : ∀ i c', (X i c' ∨ ∃ o', (i, c', o') ∈ E ++ [(n, c, o)]) ↔ (X i c' ∨ ∃ o', (i, c', o') ∈ E) := fun i c' =>
      ⟨fun z => z.elim .inl fun ⟨o', m⟩ => by
        rcases memE.mp m with m | ⟨rfl, rfl, _⟩
        · exact .inr ⟨o', m⟩
        · exact hX, fun z => z.imp id fun ⟨o', m⟩ => ⟨o', memE.mpr (.inl m)⟩⟩
    refine ⟨⟨I.rep.ok, fun i c' hi hc' => ?_⟩, I.nd, fun i => ?_⟩
    · rw [same]
      rcases I.rep.set i c' hi hc' with q | ⟨o', q1, q2, q3⟩
      · exact .inl q
      · exact .inr ⟨o', q1, q2, q3.imp id fun m => memE.mpr (.inl m)⟩
    · simp only [same]
      exact I.fd i
theorem nl_fold {st : Steps} {X : Nat → Nat → Prop} {Y : Nat → Nat → Int → Prop} : ∀ (F E : List (Nat × Nat × Int)) (p : Rep × List Nat), NlI st X Y E p → (∀ q ∈ F, q.1 < st.length ∧ q.2.1 < (stepL st q.1).length) → NlI st X Y (E ++ F) (F.foldl nlStep p)
  | [], E, p, I, _ => by rw [List.append_nil]; exact I
  | q :: F, E, p, I, h => by
    obtain ⟨n, c, o⟩ := q
    have hq := h (n, c, o) List.mem_cons_self
    have := nl_fold F (E ++ [(n, c, o)]) (nlStep p (n, c, o)) (nl_step I hq.1 hq.2) fun q m => h q (List.mem_cons_of_mem _ m)
    rw [List.append_assoc] at this
    exact this
def nextLayer (fl : List Ent) (rep : Rep) (layer : List Nat) : Rep × List Nat := (layer.flatMap (srcs fl)).foldl nlStep (rep, [])
/-! ### the rounds -/
abbrev Stk := List (Option (Nat × List (Option Int)))
structure SSt where
  struck : Stk
  rep : Rep
  layer : List Nat
def mark (k : Nat) (rep : Rep) (layer : List Nat) (s : Stk) : Stk := layer.foldl (fun s i => s.set i (some (k, (rep[i]?).getD []))) s
def roundS (fl : List Ent) (k : Nat) (s : SSt) : SSt := ⟨mark k s.rep s.layer s.struck, (nextLayer fl s.rep s.layer).1, (nextLayer fl s.rep s.layer).2⟩
/-- right replies: in a row struck in round r -/
def GoodRep (st : Steps) (r i : Nat) (rp : List (Option Int)) : Prop := rp.length = (stepL st i).length ∧ ∀ c, c < (stepL st i).length → ∃ o e rows, rp[c]? = some (some o) ∧ (stepL st i)[c]? = some rows ∧ (o, e) ∈ rows ∧ Bf st r e
structure SI (st : Steps) (k : Nat) (s : SSt) : Prop where
  slen : s.struck.length = st.length
  rep : RepIs st s.rep (fun i c => ∃ rows, (stepL st i)[c]? = some rows ∧ ∃ r ∈ rows, Bf st k r.2) (fun i c o => ∃ rows e, (stepL st i)[c]? = some rows ∧ (o, e) ∈ rows ∧ Bf st k e)
  nd : s.layer.Nodup
  lay : ∀ i, i ∈ s.layer ↔ i < st.length ∧ Ex st k i
  stk : ∀ i, i < st.length → (Bf st k i ∧ ∃ r rp, s.struck[i]? = some (some (r, rp)) ∧ r < k ∧ Ex st r i ∧ GoodRep st r i rp) ∨ (¬ Bf st k i ∧ s.struck[i]? = some none)
theorem mark_at (k : Nat) (rep : Rep) : ∀ (layer : List Nat) (s : Stk) (i : Nat), (mark k rep layer s).length = s.length ∧ (i < s.length → (mark k rep layer s)[i]? = if i ∈ layer then some (some (k, (rep[i]?).getD [])) else s[i]?)
  | [], s, i => ⟨rfl, fun _ => rfl⟩
  | j :: layer, s, i => by
    have h := mark_at k rep layer (s.set j (some (k, (rep[j]?).getD []))) i
    rw [List.length_set] at h
    refine ⟨h.1, fun hi => ?_⟩
    have h2 := h.2 hi
    show (mark k rep layer (s.set j (some (k, (rep[j]?).getD []))))[i]? = _
    rw [h2, List.getElem?_set]
    by_cases e : i ∈ layer
    · rw [if_pos e, if_pos (List.mem_cons_of_mem _ e)]
    · rw [if_neg e]
      by_cases e2 : j = i
      · subst e2; rw [if_pos rfl, if_pos hi, if_pos List.mem_cons_self]
      · rw [if_neg e2, if_neg]
        intro z
        rcases List.mem_cons.mp z with z | z
        · exact e2 z.symm
        · exact e z
theorem bf_mono {st : Steps} {k y : Nat} (h : Bf st k y) : Bf st (k + 1) y := by
  obtain ⟨j, a, b⟩ := h; exact ⟨j, by omega, b⟩
theorem rows_LS {st : Steps} {i c : Nat} {rows : List (Int × Nat)} (h : (stepL st i)[c]? = some rows) : rows.map (·.2) ∈ LS st i := by
  unfold LS
  exact List.mem_map.mpr ⟨rows, List.mem_of_getElem? h, rfl⟩
theorem lv_rows {st : Steps} {k i : Nat} : Lv (LS st) k i ↔ ∀ c, c < (stepL st i).length → ∃ rows, (stepL st i)[c]? = some rows ∧ ∃ r ∈ rows, Bf st k r.2 := by
  rw [lv_bf]
  constructor
  · intro h c hc
    have e := List.getElem?_eq_getElem hc
    obtain ⟨y, hy, q⟩ := h _ (rows_LS e)
    obtain ⟨r, hr, rfl⟩ := List.mem_map.mp hy
    exact ⟨_, e, r, hr, q⟩
  · intro h l hl
    unfold LS at hl
    obtain ⟨rows, hr, rfl⟩ := List.mem_map.mp hl
    obtain ⟨c, hc, e⟩ := List.mem_iff_getElem.mp hr
    obtain ⟨rows', h1, r, hr2, q⟩ := h c hc
    rw [List.getElem?_eq_getElem hc, e] at h1
    cases h1
    exact ⟨r.2, List.mem_map.mpr ⟨r, hr2, rfl⟩, q⟩
theorem si_round {st : Steps} (ok : StOk st) {k : Nat} {s : SSt} (I : SI st k s) : SI st (k + 1) (roundS (flatS st) k s) := by
  have entry : ∀ {n c : Nat} {o : Int}, (n, c, o) ∈ s.layer.flatMap (srcs (flatS st)) ↔ ∃ rows e, (stepL st n)[c]? = some rows ∧ (o, e) ∈ rows ∧ e ∈ s.layer := by
    intro n c o
    rw [List.mem_flatMap]
    constructor
    · rintro ⟨e, he, h⟩
      obtain ⟨rows, h1, h2⟩ := mem_flatS.mp (mem_srcs.mp h)
      exact ⟨rows, e, h1, h2, he⟩
    · rintro ⟨rows, e, h1, h2, he⟩
      exact ⟨e, he, mem_srcs.mpr (mem_flatS.mpr ⟨rows, h1, h2⟩)⟩
  have lt_of : ∀ {n c : Nat} {rows : List (Int × Nat)}, (stepL st n)[c]? = some rows → n < st.length ∧ c < (stepL st n).length := by
    intro n c rows h
    have hc := (List.getElem?_eq_some_iff.mp h).1
    refine ⟨?_, hc⟩
    rcases Nat.lt_or_ge n st.length with q | q
    · exact q
    · unfold stepL at hc; rw [List.getElem?_eq_none q] at hc; simp at hc
  have N := nl_fold (st := st) (s.layer.flatMap (srcs (flatS st))) [] (s.rep, []) (X := fun i c => ∃ rows, (stepL st i)[c]? = some rows ∧ ∃ r ∈ rows, Bf st k r.2) (Y := fun i c o => ∃ rows e, (stepL st i)[c]? = some rows ∧ (o, e) ∈ rows ∧ Bf st k e)
    ⟨⟨I.rep.ok, fun i c hi hc => by
      rcases I.rep.set i c hi hc with ⟨q1, q2⟩ | ⟨o, q1, q2, q3⟩
      · exact .inl ⟨q1, fun z => z.elim q2 fun ⟨o, m⟩ => (nomatch m)⟩
      · exact .inr ⟨o, q1, .inl q2, .inl q3⟩⟩, List.nodup_nil, fun i => ⟨fun m => (nomatch m), fun ⟨_, h1, h2⟩ => absurd (fun c hc => (h1 c hc).elim id fun ⟨o, m⟩ => (nomatch m)) h2⟩⟩
    (fun q m => by
      obtain ⟨n, c, o⟩ := q
      obtain ⟨rows, e, h1, _⟩ := entry.mp m
      exact lt_of h1)
  rw [List.nil_append] at N
  have ex_bf : ∀ {e : Nat}, e ∈ s.layer → Bf st (k + 1) e := fun {e} he => bf_succ.mpr ((I.lay e).mp he).2.1
  have bf_or : ∀ {e : Nat}, e < st.length → Bf st (k + 1) e → Bf st k e ∨ e ∈ s.layer := fun {e} he h => by
    by_cases hb : Bf st k e
    · exact .inl hb
    · exact .inr ((I.lay e).mpr ⟨he, bf_succ.mp h, hb⟩)
  have setX : ∀ i c, i < st.length → (((∃ rows, (stepL st i)[c]? = some rows ∧ ∃ r ∈ rows, Bf st k r.2) ∨ ∃ o, (i, c, o) ∈ s.layer.flatMap (srcs (flatS st))) ↔ ∃ rows, (stepL st i)[c]? = some rows ∧ ∃ r ∈ rows, Bf st (k + 1) r.2) := by
    intro i c hi
    constructor
    · rintro (⟨rows, h1, r, h2, h3⟩ | ⟨o, m⟩)
      · exact ⟨rows, h1, r, h2, bf_mono h3⟩
      · obtain ⟨rows, e, h1, h2, h3⟩ := entry.mp m
        exact ⟨rows, h1, (o, e), h2, ex_bf h3⟩
    · rintro ⟨rows, h1, r, h2, h3⟩
      have hr := ok.lt i rows (List.mem_of_getElem? h1) r h2
      rcases bf_or hr h3 with q | q
      · exact .inl ⟨rows, h1, r, h2, q⟩
      · exact .inr ⟨r.1, entry.mpr ⟨rows, r.2, h1, h2, q⟩⟩
  refine ⟨?_, ⟨N.rep.ok, fun i c hi hc => ?_⟩, N.nd, fun i => ?_, fun i hi => ?_⟩
  · exact (mark_at k s.rep s.layer s.struck 0).1.trans I.slen
  · rcases N.rep.set i c hi hc with ⟨q1, q2⟩ | ⟨o, q1, q2, q3⟩
    · exact .inl ⟨q1, fun z => q2 ((setX i c hi).mpr z)⟩
    · refine .inr ⟨o, q1, (setX i c hi).mp q2, ?_⟩
      rcases q3 with ⟨rows, e, h1, h2, h3⟩ | m
      · exact ⟨rows, e, h1, h2, bf_mono h3⟩
      · obtain ⟨rows, e, h1, h2, h3⟩ := entry.mp m
        exact ⟨rows, e, h1, h2, ex_bf h3⟩
  · show i ∈ (nextLayer (flatS st) s.rep s.layer).2 ↔ _
    rw [show (nextLayer (flatS st) s.rep s.layer).2 = ((s.layer.flatMap (srcs (flatS st))).foldl nlStep (s.rep, [])).2 from rfl, N.fd i]
    constructor
    · rintro ⟨h1, h2, h3⟩
      refine ⟨h1, lv_rows.mpr fun c hc => (setX i c h1).mp (h2 c hc), fun hb => h3 fun c hc => ?_⟩
      exact lv_rows.mp (bf_succ.mp hb) c hc
    · rintro ⟨h1, h2, h3⟩
      exact ⟨h1, fun c hc => (setX i c h1).mpr (lv_rows.mp h2 c hc), fun h => h3 (bf_succ.mpr (lv_rows.mpr h))⟩
  · have hm := (mark_at k s.rep s.layer s.struck i).2 (by rw [I.slen]; exact hi)
    by_cases hl : i ∈ s.layer
    · have hx := ((I.lay i).mp hl).2
      refine .inl ⟨ex_bf hl, k, (s.rep[i]?).getD [], ?_, by omega, hx, I.rep.ok.row i hi, fun c hc => ?_⟩
      · show (mark k s.rep s.layer s.struck)[i]? = _
        rw [hm, if_pos hl]
      · rcases I.rep.set i c hi hc with ⟨_, q2⟩ | ⟨o, q1, q2, rows, e, h1, h2, h3⟩
        · exact absurd (lv_rows.mp hx.1 c hc) q2
        · exact ⟨o, e, rows, q1, h1, h2, h3⟩
    · rcases I.stk i hi with ⟨q1, r, rp, q2, q3, q4⟩ | ⟨q1, q2⟩
      · refine .inl ⟨bf_mono q1, r, rp, ?_, by omega, q4⟩
        show (mark k s.rep s.layer s.struck)[i]? = _
        rw [hm, if_neg hl, q2]
      · refine .inr ⟨fun h => ?_, ?_⟩
        · rcases bf_or hi h with q | q
          · exact q1 q
          · exact hl q
        · show (mark k s.rep s.layer s.struck)[i]? = _
          rw [hm, if_neg hl, q2]
/-- how many are not struck yet -/
def free (s : Stk) : Nat := s.countP (·.isNone)
theorem free_set {s : Stk} {i : Nat} {x : Nat × List (Option Int)} : free (s.set i (some x)) ≤ free s ∧ (s[i]? = some none → free (s.set i (some x)) < free s) := by
  induction s generalizing i with
  | nil => simp [free]
  | cons a s ih =>
    cases i with
    | zero =>
      unfold free
      rw [List.set_cons_zero, List.countP_cons, List.countP_cons]
      constructor
      · simp
      · intro h
        simp at h
        subst h
        simp
    | succ i =>
      have := ih (i := i)
      unfold free at this ⊢
      rw [List.set_cons_succ, List.countP_cons, List.countP_cons]
      simp only [List.getElem?_cons_succ]
      constructor
      · omega
      · intro h; have := this.2 h; omega
theorem free_mark (k : Nat) (rep : Rep) : ∀ (layer : List Nat) (s : Stk), free (mark k rep layer s) ≤ free s
  | [], _ => Nat.le_refl _
  | j :: layer, s => Nat.le_trans (free_mark k rep layer (s.set j (some (k, (rep[j]?).getD [])))) free_set.1
theorem free_round {st : Steps} {k : Nat} {s : SSt} (I : SI st k s) (h : s.layer ≠ []) : free (roundS (flatS st) k s).struck < free s.struck := by
  cases e : s.layer with
  | nil => exact absurd e h
  | cons j layer =>
    have hj : j ∈ s.layer := by rw [e]; exact List.mem_cons_self
    have hx := (I.lay j).mp hj
    have : s.struck[j]? = some none := by
      rcases I.stk j hx.1 with ⟨q, _⟩ | ⟨_, q⟩
      · exact absurd q hx.2.2
      · exact q
    show free (mark k s.rep s.layer s.struck) < _
    rw [e]
    exact Nat.lt_of_le_of_lt (free_mark k s.rep layer (s.struck.set j (some (k, (s.rep[j]?).getD [])))) (free_set.2 this)
/-- the end: an empty layer -/
theorem si_end {st : Steps} (ok : StOk st) {k : Nat} {s : SSt} (I : SI st k s) (h : s.layer = []) {i : Nat} (hi : i < st.length) : Struck (LS st) i ↔ Bf st k i := by
  have hk : ∀ i, i < st.length → Lv (LS st) k i → Bf st k i := fun i hi l => by
    by_cases hb : Bf st k i
    · exact hb
    · have := (I.lay i).mpr ⟨hi, l, hb⟩
      rw [h] at this; cases this
  have all : ∀ j i, i < st.length → Lv (LS st) j i → Bf st k i := by
    intro j
    induction j with
    | zero =>
      intro i hi l
      cases k with
      | zero => exact hk i hi l
      | succ k => exact ⟨0, by omega, l⟩
    | succ j ih =>
      intro i hi l
      refine hk i hi (lv_bf.mpr fun l' hl' => ?_)
      obtain ⟨y, hy, q⟩ := l l' hl'
      refine ⟨y, hy, ih y ?_ q⟩
      unfold LS at hl'
      obtain ⟨rows, hr, rfl⟩ := List.mem_map.mp hl'
      obtain ⟨r, hr2, rfl⟩ := List.mem_map.mp hy
      exact ok.lt i rows hr r hr2
  exact ⟨fun ⟨j, l⟩ => all j i hi l, fun ⟨j, _, l⟩ => ⟨j, l⟩⟩
def start (st : Steps) : SSt := ⟨st.map fun _ => none, st.map fun lists => lists.map fun _ => none, ((st.zipIdx.filter fun p => p.1.isEmpty).map (·.2))⟩
theorem si_start (st : Steps) : SI st 0 (start st) := by
  have no : ∀ y, ¬ Bf st 0 y := fun y ⟨j, h, _⟩ => by omega
  have rowEq : ∀ i, i < st.length → (((start st).rep[i]?).getD []) = (stepL st i).map fun _ => (none : Option Int) := by
    intro i hi
    unfold start stepL
    simp [hi]
  refine ⟨by simp [start], ⟨⟨by simp [start], fun i hi => by rw [rowEq i hi]; simp⟩, fun i c hi hc => .inl ⟨?_, fun ⟨rows, _, r, _, h⟩ => no _ h⟩⟩, ?_, fun i => ?_, fun i hi => .inr ⟨no i, by simp [start, hi]⟩⟩
  · unfold repAt
    rw [rowEq i hi]
    simp [hc]
  · show ((st.zipIdx.filter fun p => p.1.isEmpty).map (·.2)).Nodup
    have h : ((st.zipIdx.filter fun p => p.1.isEmpty).map (·.2)).Sublist (st.zipIdx.map (·.2)) := List.Sublist.map _ List.filter_sublist
    refine List.Nodup.sublist h ?_
    rw [show st.zipIdx.map (·.2) = st.zipIdx.map Prod.snd from rfl, List.zipIdx_map_snd]
    exact List.nodup_range'
  · show i ∈ ((st.zipIdx.filter fun p => p.1.isEmpty).map (·.2)) ↔ _
    rw [List.mem_map]
    have e : (stepL st i).isEmpty = true ↔ LS st i = [] := by
      unfold LS
      rw [List.isEmpty_iff, List.map_eq_nil_iff]
    constructor
    · rintro ⟨⟨x, j⟩, hp, rfl⟩
      obtain ⟨h1, h2⟩ := List.mem_filter.mp hp
      rw [List.mem_zipIdx_iff_getElem?] at h1
      dsimp only at h1 h2 ⊢
      have hj := (List.getElem?_eq_some_iff.mp h1).1
      refine ⟨hj, e.mp ?_, no j⟩
      unfold stepL; rw [h1]; exact h2
    · rintro ⟨h1, h2, _⟩
      have h3 := e.mpr h2
      refine ⟨(st[i], i), List.mem_filter.mpr ⟨?_, ?_⟩, rfl⟩
      · rw [List.mem_zipIdx_iff_getElem?]; exact List.getElem?_eq_getElem h1
      · unfold stepL at h3; rw [List.getElem?_eq_getElem h1] at h3; exact h3
end G
/-! Gr5: the law's own sets and layers. -/
namespace G
section
variable {α : Type} [DecidableEq α] (L : α → List (List α))
def keep (here : List α) (b : α) : Bool := (L b).any fun l => l.all fun y => decide (y ∈ here)
def wonN : Nat → List α → List α
  | 0, here => here
  | n + 1, here => if (here.filter (keep L here)).length = here.length then here else wonN n (here.filter (keep L here))
theorem wonN_stable : ∀ (n : Nat) (here : List α), here.length ≤ n → ∀ b ∈ wonN L n here, keep L (wonN L n here) b = true
  | 0, here, h, b, hb => by
    have : here = [] := List.length_eq_zero_iff.mp (by omega)
    subst this
    exact nomatch (show b ∈ [] from hb)
  | n + 1, here, h, b, hb => by
    unfold wonN at hb ⊢
    split
    · rename_i he
      rw [if_pos he] at hb
      have : here.filter (keep L here) = here := List.Sublist.eq_of_length List.filter_sublist he
      rw [← this] at hb
      exact (List.mem_filter.mp hb).2
    · rename_i he
      rw [if_neg he] at hb
      have := List.length_filter_le (keep L here) here
      exact wonN_stable n _ (by omega) b hb
theorem wonN_sub : ∀ (n : Nat) (here : List α), ∀ b ∈ wonN L n here, b ∈ here
  | 0, _, _, h => h
  | n + 1, here, b, h => by
    unfold wonN at h
    split at h
    · exact h
    · exact (List.mem_filter.mp (wonN_sub n _ b h)).1
/-- what is not struck stays -/
theorem wonN_keeps {P : α → Prop} (hP : ∀ x, P x → ∀ l ∈ L x, ∀ y ∈ l, P y) : ∀ (n : Nat) (here : List α), (∀ x, P x → ¬ Struck L x → x ∈ here) → ∀ x, P x → ¬ Struck L x → x ∈ wonN L n here
  | 0, here, h, x, p, ns => h x p ns
  | n + 1, here, h, x, p, ns => by
    unfold wonN
    split
    · exact h x p ns
    · refine wonN_keeps hP n _ (fun x p ns => List.mem_filter.mpr ⟨h x p ns, ?_⟩) x p ns
      obtain ⟨l, hl, hn⟩ := not_struck L ns
      unfold keep
      rw [List.any_eq_true]
      refine ⟨l, hl, ?_⟩
      rw [List.all_eq_true]
      intro y hy
      exact decide_eq_true (h y (hP x p l hl y hy) (hn y hy))
theorem won_iff {Bl : List α} (hB : ∀ x ∈ Bl, ∀ l ∈ L x, ∀ y ∈ l, y ∈ Bl) (n : Nat) (hn : Bl.length ≤ n) {x : α} :
    x ∈ wonN L n (Bl.filter fun b => !(L b).isEmpty) ↔ x ∈ Bl ∧ ¬ Struck L x := by
  constructor
  · intro h
    refine ⟨(List.mem_filter.mp (wonN_sub L n _ x h)).1, fun ⟨k, hk⟩ => ?_⟩
    refine closed_not_struck L (W := fun x => x ∈ wonN L n (Bl.filter fun b => !(L b).isEmpty)) (fun x hx => ?_) k x hk h
    have := wonN_stable L n _ (Nat.le_trans (List.length_filter_le _ _) hn) x hx
    unfold keep at this
    obtain ⟨l, hl, q⟩ := List.any_eq_true.mp this
    exact ⟨l, hl, fun y hy => of_decide_eq_true (List.all_eq_true.mp q y hy)⟩
  · rintro ⟨h1, h2⟩
    refine wonN_keeps L (P := fun x => x ∈ Bl) hB n _ (fun x p ns => List.mem_filter.mpr ⟨p, ?_⟩) x h1 h2
    cases e : L x with
    | nil => exact absurd ⟨0, e⟩ ns
    | cons l ls => rfl
end
/-! ### layers -/
section
variable {α : Type} [DecidableEq α] (s : α → List α) (x0 : α)
structure LyI (T : Nat) (ls : List (List α)) (known : List α) : Prop where
  len : ls.length = T + 1
  lay : ∀ (t : Nat) (l : List α), ls[t]? = some l → ∀ y, y ∈ l ↔ Wk s x0 t y ∧ ∀ t' < t, ¬ Wk s x0 t' y
  kn : ∀ y, y ∈ known ↔ ∃ t, t ≤ T ∧ Wk s x0 t y
  nd : known.Nodup
  big : T + 1 ≤ known.length
  lnd : ∀ l ∈ ls, l.Nodup
theorem lyI_zero : LyI s x0 0 [[x0]] [x0] := by
  have w0 : ∀ y, Wk s x0 0 y ↔ y = x0 := fun y => ⟨fun w => by cases w; rfl, fun e => by rw [e]; exact .base⟩
  refine ⟨rfl, fun t l h y => ?_, fun y => ?_, by simp, by simp, by simp⟩
  · cases t with
    | zero => simp at h; subst h; rw [w0]; simp
    | succ t => simp at h
  · rw [List.mem_singleton]
    exact ⟨fun e => ⟨0, Nat.le_refl _, (w0 y).mpr e⟩, fun ⟨t, ht, w⟩ => by rw [Nat.le_zero.mp ht] at w; exact (w0 y).mp w⟩
def lyNext (ls : List (List α)) (known : List α) : List α := addAll known ((ls.getLast?.getD []).flatMap s)
theorem drop_mem {p q : List α} (h : p <+: q) (nd : q.Nodup) {y : α} : y ∈ q.drop p.length ↔ y ∈ q ∧ y ∉ p := by
  obtain ⟨r, rfl⟩ := h
  rw [List.drop_left]
  obtain ⟨_, _, d⟩ := List.nodup_append.mp nd
  constructor
  · intro m; exact ⟨List.mem_append_right _ m, fun z => d y z y m rfl⟩
  · rintro ⟨m, n⟩
    exact (List.mem_append.mp m).resolve_left n
theorem ly_new {T : Nat} {ls : List (List α)} {known : List α} (I : LyI s x0 T ls known) (y : α) : y ∈ (lyNext s ls known).drop known.length ↔ Wk s x0 (T + 1) y ∧ ∀ t' < T + 1, ¬ Wk s x0 t' y := by
  have hl : ls.getLast? = some (ls[T]'(by rw [I.len]; omega)) := by
    rw [List.getLast?_eq_getElem?, show ls.length - 1 = T by rw [I.len]; rfl]
    exact List.getElem?_eq_getElem _
  have lay := I.lay T (ls[T]'(by rw [I.len]; omega)) (List.getElem?_eq_getElem _)
  unfold lyNext
  rw [drop_mem (addAll_pre _ _) (nd_addAll I.nd)]
  rw [mem_addAll, hl, Option.getD_some, List.mem_flatMap, I.kn]
  constructor
  · rintro ⟨h1, h2⟩
    have hw : Wk s x0 (T + 1) y := by
      rcases h1 with h1 | ⟨x, hx, hy⟩
      · exact absurd h1 h2
      · exact .step ((lay x).mp hx).1 hy
    exact ⟨hw, fun t' ht w => h2 ⟨t', by omega, w⟩⟩
  · rintro ⟨h1, h2⟩
    refine ⟨.inr ?_, fun ⟨t, ht, w⟩ => h2 t (by omega) w⟩
    cases h1 with
    | step w hy =>
      rename_i x
      exact ⟨x, (lay x).mpr ⟨w, fun t' ht w' => h2 (t' + 1) (by omega) (.step w' hy)⟩, hy⟩
theorem ly_step {T : Nat} {ls : List (List α)} {known : List α} (I : LyI s x0 T ls known) (h : (lyNext s ls known).drop known.length ≠ []) : LyI s x0 (T + 1) (ls ++ [(lyNext s ls known).drop known.length]) (lyNext s ls known) := by
  have new := ly_new s x0 I
  have pre : known <+: lyNext s ls known := addAll_pre _ _
  have nd : (lyNext s ls known).Nodup := nd_addAll I.nd
  refine ⟨by rw [List.length_append, I.len]; rfl, fun t l hl y => ?_, fun y => ?_, nd, ?_, fun l hl => ?_⟩
  · rcases Nat.lt_or_ge t ls.length with q | q
    · rw [List.getElem?_append_left q] at hl
      exact I.lay t l hl y
    · rw [List.getElem?_append_right q] at hl
      have ht : t = T + 1 := by
        have : t - ls.length < 1 := (List.getElem?_eq_some_iff.mp hl).1
        rw [I.len] at q this
        omega
      subst ht
      rw [I.len] at hl
      simp at hl
      subst hl
      exact new y
  · by_cases hk : y ∈ known
    · obtain ⟨t, ht, w⟩ := (I.kn y).mp hk
      exact ⟨fun _ => ⟨t, by omega, w⟩, fun _ => pre.subset hk⟩
    · have hn := new y
      rw [drop_mem pre nd] at hn
      constructor
      · intro m; exact ⟨T + 1, Nat.le_refl _, (hn.mp ⟨m, hk⟩).1⟩
      · rintro ⟨t, ht, w⟩
        have no : ∀ t', t' ≤ T → ¬ Wk s x0 t' y := fun t' h w => hk ((I.kn y).mpr ⟨t', h, w⟩)
        have : t = T + 1 := by
          rcases Nat.lt_or_ge t (T + 1) with q | q
          · exact absurd w (no t (by omega))
          · omega
        subst this
        exact (hn.mpr ⟨w, fun t' h => no t' (by omega)⟩).1
  · have : 0 < ((lyNext s ls known).drop known.length).length := List.length_pos_iff.mpr h
    rw [List.length_drop] at this
    have := I.big
    omega
  · rcases List.mem_append.mp hl with hl | hl
    · exact I.lnd l hl
    · rw [List.mem_singleton.mp hl]
      exact List.Nodup.sublist (List.drop_sublist _ _) nd
/-- nothing new: known is all -/
theorem ly_closed {T : Nat} {ls : List (List α)} {known : List α} (I : LyI s x0 T ls known) (h : (lyNext s ls known).drop known.length = []) {t : Nat} {y : α} (w : Wk s x0 t y) : y ∈ known := by
  have new := ly_new s x0 I
  rw [h] at new
  have none_new : ∀ y, Wk s x0 (T + 1) y → y ∈ known := fun y w => by
    rw [I.kn]
    by_cases q : ∃ t', t' < T + 1 ∧ Wk s x0 t' y
    · obtain ⟨t', h1, h2⟩ := q; exact ⟨t', by omega, h2⟩
    · have := (new y).mpr ⟨w, fun t' h1 h2 => q ⟨t', h1, h2⟩⟩
      cases this
  induction w with
  | base => exact (I.kn x0).mpr ⟨0, Nat.zero_le _, .base⟩
  | step w hy ih =>
    rename_i y
    obtain ⟨t', ht, w'⟩ := (I.kn _).mp ih
    rcases Nat.lt_or_ge t' T with q | q
    · exact (I.kn y).mpr ⟨t' + 1, by omega, .step w' hy⟩
    · have : t' = T := by omega
      subst this
      exact none_new y (.step w' hy)
end
section
variable {α : Type} [DecidableEq α] (L : α → List (List α)) (x0 : α)
/-- no known state is bad -/
theorem ly_always {T : Nat} {ls : List (List α)} {known : List α} (I : LyI (s0 L) x0 T ls known) (h : (lyNext (s0 L) ls known).drop known.length = []) (hn : ¬ Struck L x0) (hb : ∀ b ∈ known, L b ≠ []) : LatSpec L x0 .always := by
  refine ⟨hn, fun t y w ⟨k, hk⟩ => ?_⟩
  have closed : ∀ x, x ∈ known → ∃ l ∈ L x, ∀ y ∈ l, y ∈ known := fun x hx => by
    have ne := hb x hx
    cases e : L x with
    | nil => exact absurd e ne
    | cons l r =>
      refine ⟨l, List.mem_cons_self, fun y hy => ?_⟩
      obtain ⟨t, _, w⟩ := (I.kn x).mp hx
      exact ly_closed (s0 L) x0 I h (.step w (show y ∈ s0 L x by unfold s0; rw [e]; exact hy))
  exact closed_not_struck L closed k y hk (ly_closed (s0 L) x0 I h ((wk_walk L x0).mpr w))
theorem wk_least {s : α → List α} {x0 : α} : ∀ (t : Nat) {y : α}, Wk s x0 t y → ∃ t', t' ≤ t ∧ Wk s x0 t' y ∧ ∀ t2 < t', ¬ Wk s x0 t2 y := by
  intro t
  induction t using Nat.strongRecOn with
  | ind t ih =>
    intro y w
    by_cases q : ∃ t2, t2 < t ∧ Wk s x0 t2 y
    · obtain ⟨t2, h1, h2⟩ := q
      obtain ⟨t', a, b, c⟩ := ih t2 h1 h2
      exact ⟨t', by omega, b, c⟩
    · exact ⟨t, Nat.le_refl _, w, fun t2 h w2 => q ⟨t2, h, w2⟩⟩
theorem ly_until {T : Nat} {ls : List (List α)} {known : List α} (I : LyI (s0 L) x0 T ls known) (hn : ¬ Struck L x0) {n : Nat} {l : List α} (hl : ls[n]? = some l) (hs : ∃ b ∈ l, Struck L b) (hf : ∀ t' < n, ∀ l', ls[t']? = some l' → ∀ b ∈ l', ¬ Struck L b) : LatSpec L x0 (.until_ ((n : Int) - 1)) := by
  obtain ⟨b, hb, sb⟩ := hs
  refine ⟨hn, n, rfl, ⟨b, (wk_walk L x0).mp ((I.lay n l hl b).mp hb).1, sb⟩, fun t' ht y w => ?_⟩
  obtain ⟨t2, h1, h2, h3⟩ := wk_least t' ((wk_walk L x0).mpr w)
  have hlen : t2 < ls.length := by
    have := (List.getElem?_eq_some_iff.mp hl).1
    omega
  have e := List.getElem?_eq_getElem hlen
  exact hf t2 (by omega) _ e y ((I.lay t2 _ e y).mpr ⟨h2, h3⟩)
end
end G
namespace K
open PySem PySem.Spec PyProof.Rows L2 VL
/-! ### arenas -/
abbrev Outc := List Int × Int
abbrev Entry := List (List Outc)
structure Ar where
  off : Int
  mv : List Entry
  bad : List Int
def eO (o : Outc) : D := .tup [.tup (o.1.map .int), .int o.2]
def eOs (l : List Outc) : D := .lst (l.map eO)
def eE (e : Entry) : D := .lst (e.map eOs)
def eMv (m : List Entry) : D := .lst (m.map eE)
def eA (a : Ar) : D := .tup [.int a.off, eMv a.mv, .lst (a.bad.map .int)]
theorem dp_eO (n : Nat) (o : Outc) : dp (n + 2) (eO o) = true := by
  unfold eO; rw [dp_tup, dpL_cons, dpL_cons, dp_tup, dpL_ints, dp_int, dpL_nil]; rfl
theorem dp_eOs (n : Nat) (l : List Outc) : dp (n + 3) (eOs l) = true := by
  unfold eOs; rw [dp_lst]; exact dpL_map fun x _ => dp_eO n x
theorem dp_eE (n : Nat) (l : Entry) : dpL (n + 3) (l.map eOs) = true := dpL_map fun x _ => dp_eOs n x
/-- the number of commands -/
def cmdsF (mv : List Entry) : Nat := (mv.findSome? fun e => if e.isEmpty then none else some e.length).getD 1
/-! ### checks -/
@[simp] theorem n_check_ev (x : D) : n_check [.bl true, x] = ok (0, .non) := by
  simp [n_check, r_check]
@[simp] theorem n_in_range_ev (a b c : Int) : n_in_range [.int a, .int b, .int c] = ok (0, .bl (decide (b ≤ a) && decide (a ≤ c))) := by
  simp [n_in_range, r_in_range]
  by_cases h : b ≤ a <;> simp [h]
theorem gNe_eE (e : Entry) : gNe (eE e) (.lst []) = some (.bl (!e.isEmpty)) := by
  unfold eE
  rw [gNe_nil (dp_eE 16 e)]
  cases e <;> rfl
theorem gEq_eE (e : Entry) : gEq (eE e) (.lst []) = some (.bl e.isEmpty) := by
  unfold eE
  rw [gEq_nil (dp_eE 16 e)]
  cases e <;> rfl
@[simp] theorem gLen_eE (e : Entry) : gLenA [eE e] = some (.int e.length) := by unfold eE; simp
@[simp] theorem gLen_eOs (l : List Outc) : gLenA [eOs l] = some (.int l.length) := by unfold eOs; simp
@[simp] theorem gLen_eMv (m : List Entry) : gLenA [eMv m] = some (.int m.length) := by unfold eMv; simp
theorem n_commands_of_ev (mv : List Entry) : n_commands_of [eMv mv] = ok (0, .int (cmdsF mv)) := by
  obtain ⟨e', ⟨g, rfl, hg⟩, he⟩ := forL_find (tg := gNm 1) (s := r_commands_of_b1) eE (fun e => ∃ g, e = [.sh (eMv mv), g] ∧ isIo g = false) 0 (fun e => if e.isEmpty then none else some (.int e.length)) mv [.sh (eMv mv), .un] ⟨_, rfl, rfl⟩ (by
    rintro e _ _ ⟨g, rfl, hg⟩
    refine ⟨[.sh (eMv mv), .sh (eE e)], [.sh (eMv mv), .sh (eE e)], by simp [hg], ⟨_, rfl, rfl⟩, ?_⟩
    cases hc : e.isEmpty <;> simp [r_commands_of_b1, gNe_eE, hc])
  have hm : eMv mv = .lst (mv.map eE) := rfl
  simp [n_commands_of, r_commands_of, hm]
  rw [hm] at he
  rw [he]
  unfold cmdsF
  have : (List.findSome? (fun e : Entry => if e.isEmpty = true then none else some (D.int ↑e.length)) mv) = (mv.findSome? fun e => if e.isEmpty then none else some e.length).map fun n : Nat => D.int n := by
    rw [List.map_findSome?]
    congr 1
    funext e
    cases e <;> rfl
  rw [this]
  cases (mv.findSome? fun e => if e.isEmpty then none else some e.length) <;> simp


/-- a valid outcome, entry, arena -/
structure OutcOk (off size : Int) (o : Outc) : Prop where
  len : (o.1.length : Int) = off
  lo : 0 ≤ o.2
  hi : o.2 < size
  hs : ∀ h ∈ o.1, 0 ≤ h ∧ h ≤ 3999
structure EntOk (off size : Int) (e : Entry) : Prop where
  n1 : ∀ l ∈ e, 1 ≤ l.length ∧ l.length ≤ 8
  ok : ∀ l ∈ e, ∀ o ∈ l, OutcOk off size o
structure Ar.Ok (a : Ar) : Prop where
  off : 1 ≤ a.off ∧ a.off ≤ 3
  sz : 1 ≤ a.mv.length ∧ a.mv.length ≤ 4000
  cm : 1 ≤ cmdsF a.mv ∧ cmdsF a.mv ≤ 4
  len : ∀ e ∈ a.mv, e = [] ∨ e.length = cmdsF a.mv
  en : ∀ e ∈ a.mv, EntOk a.off a.mv.length e
  asc : a.bad.Pairwise (· < ·)
  bd : ∀ x ∈ a.bad, 0 ≤ x ∧ x < a.mv.length
theorem n_is_outcome_ev {off size : Int} (h3 : off ≤ 3) {o : Outc} (v : OutcOk off size o) : n_is_outcome [.int off, .int size, eO o] = ok (0, .bl true) := by
  obtain ⟨hs, y⟩ := o
  have h := lcL_all (kk := 0) (vs := [5]) (tg := gNm 5) (tt := tYesF) (el := r_is_outcome_e1) D.int (fun h => .bl (decide (0 ≤ h) && decide (h ≤ 3999))) (env := [.sh (.int off), .sh (.int size), .sh (.tup [.tup (hs.map .int), .int y]), .sh (.tup (hs.map .int)), .sh (.int y), .un]) hs (by
    intro x _
    simp [r_is_outcome_e1])
  have h1 : (hs.length : Int) = off := v.len
  have h4 : 0 ≤ y := v.lo
  have h5 : y ≤ size - 1 := by have : y < size := v.hi; omega
  have hc : hs.length ≤ 1000000 := by omega
  have ha : (hs.all fun h => decide (0 ≤ h) && decide (h ≤ 3999)) = true := by
    rw [List.all_eq_true]; intro x m; have := v.hs x m; simp [this]
  simp [n_is_outcome, r_is_outcome, eO, h, h1, h4, h5, hc, gAll_map, ha]
theorem n_is_entry_ev {off size : Int} (h3 : off ≤ 3) {e : Entry} (v : EntOk off size e) : n_is_entry [.int off, .int size, eE e] = ok (0, .bl true) := by
  obtain ⟨e', ⟨g, g2, rfl, hg, hg2⟩, he⟩ := forL_keep (tg := gNm 3) (s := r_is_entry_b1) eOs (fun env => ∃ g g2, env = [.sh (.int off), .sh (.int size), .sh (eE e), g, g2] ∧ isIo g = false ∧ nOw g2 = true) e [.sh (.int off), .sh (.int size), .sh (eE e), .un, .un] ⟨_, _, rfl, rfl, rfl⟩ (by
    rintro l _ hm ⟨g, g2, rfl, hg, hg2⟩
    have hn := v.n1 l hm
    have h := lcL_all (kk := 0) (vs := [4]) (tg := gNm 4) (tt := tYesF) (el := r_is_entry_e1) eO (fun o => .bl true) (env := [.sh (.int off), .sh (.int size), .sh (eE e), .sh (eOs l), .un]) l (by
      intro o ho
      simp [r_is_entry_e1, n_is_outcome_ev h3 (v.ok l hm o ho)])
    refine ⟨[.sh (.int off), .sh (.int size), .sh (eE e), .sh (eOs l), g2], [.sh (.int off), .sh (.int size), .sh (eE e), .sh (eOs l), g2], by simp [hg], ?_, ⟨_, _, rfl, rfl, hg2⟩⟩
    have hl : eOs l = .lst (l.map eO) := rfl
    have c1 : 1 ≤ (l.length : Int) := by omega
    have c2 : (l.length : Int) ≤ 8 := by omega
    have c3 : l.length ≤ 1000000 := by omega
    have hall := gAll_map (fun _ : Outc => true) l
    have hio := nOw_io hg2
    rw [hl] at h
    simp [r_is_entry_b1, hl, hg2, hio, h, c1, c2, c3, hall])
  have hm : eE e = .lst (e.map eOs) := rfl
  rw [hm] at he
  simp [n_is_entry, r_is_entry, hm, he]
theorem n_are_moves_ev {a : Ar} (v : a.Ok) : n_are_moves [.int a.off, eMv a.mv] = ok (0, .bl true) := by
  obtain ⟨e', ⟨g, rfl, hg⟩, he⟩ := forL_keep (tg := gNm 4) (s := r_are_moves_b1) eE (fun env => ∃ g, env = [.sh (.int a.off), .sh (eMv a.mv), .sh (.int a.mv.length), .sh (.int (cmdsF a.mv)), g] ∧ isIo g = false) a.mv [.sh (.int a.off), .sh (eMv a.mv), .sh (.int a.mv.length), .sh (.int (cmdsF a.mv)), .un] ⟨_, rfl, rfl⟩ (by
    rintro e _ hm ⟨g, rfl, hg⟩
    refine ⟨[.sh (.int a.off), .sh (eMv a.mv), .sh (.int a.mv.length), .sh (.int (cmdsF a.mv)), .sh (eE e)], [.sh (.int a.off), .sh (eMv a.mv), .sh (.int a.mv.length), .sh (.int (cmdsF a.mv)), .sh (eE e)], by simp [hg], ?_, ⟨_, rfl, rfl⟩⟩
    have hen := n_is_entry_ev v.off.2 (v.en e hm)
    rcases v.len e hm with h | h
    · simp [r_are_moves_b1, gNe_eE, hen, h] at hen ⊢
      simp [hen]
    · cases hc : e.isEmpty <;> simp [r_are_moves_b1, gNe_eE, hen, h, hc])
  have hm : eMv a.mv = .lst (a.mv.map eE) := rfl
  have hcm := n_commands_of_ev a.mv
  rw [hm] at he hcm
  have c1 : 1 ≤ (a.mv.length : Int) := by have := v.sz; omega
  have c2 : (a.mv.length : Int) ≤ 4000 := by have := v.sz; omega
  have c3 : 1 ≤ (cmdsF a.mv : Int) := by have := v.cm; omega
  have c4 : (cmdsF a.mv : Int) ≤ 4 := by have := v.cm; omega
  simp [n_are_moves, r_are_moves, hm, he, hcm, c1, c2, c3, c4]
theorem n_is_ascending_ev {xs : List Int} (h : xs.Pairwise (· < ·)) (hc : xs.length ≤ 1000000) : n_is_ascending [.lst (xs.map .int)] = ok (0, .bl true) := by
  obtain ⟨e', ⟨g, rfl, hg⟩, he⟩ := forL_keep (tg := gNm 1) (s := r_is_ascending_b1) (fun i : Nat => D.int (1 + (i : Int))) (fun env => ∃ g, env = [.sh (.lst (xs.map .int)), g] ∧ isIo g = false) (List.range (xs.length - 1)) [.sh (.lst (xs.map .int)), .un] ⟨_, rfl, rfl⟩ (by
    rintro i _ hm ⟨g, rfl, hg⟩
    refine ⟨[.sh (.lst (xs.map .int)), .sh (.int (1 + (i : Int)))], [.sh (.lst (xs.map .int)), .sh (.int (1 + (i : Int)))], by simp [hg], ?_, ⟨_, rfl, rfl⟩⟩
    have hi : i + 1 < xs.length := by rw [List.mem_range] at hm; omega
    have e1 : atI xs (1 + (i : Int) - 1) = some xs[i] := by
      rw [show 1 + (i : Int) - 1 = (i : Nat) by omega, atIN, List.getElem?_eq_getElem]
    have e2 : atI xs (1 + (i : Int)) = some xs[i + 1] := by
      rw [show 1 + (i : Int) = ((i + 1 : Nat) : Int) by omega, atIN, List.getElem?_eq_getElem]
    have lt : xs[i] < xs[i + 1] := List.pairwise_iff_getElem.mp h i (i + 1) (by omega) hi (by omega)
    simp [r_is_ascending_b1, atI_map, e1, e2, lt])
  have b2 := fun e => irg2_ok (i := 1) (j := (xs.length : Int)) (by omega) (by omega) (by omega) (by omega) e
  have hr : rng 1 (xs.length - 1) = (List.range (xs.length - 1)).map fun i : Nat => D.int (1 + (i : Int)) := rfl
  simp [n_is_ascending, r_is_ascending, b2, hr, he]
/-- the arena as an object -/
def aNs : List PySem.Str := ["offices", "size", "commands", "bad", "_entries", "_bad_nodes"]
def eAr (a : Ar) : D := .obj "Arena" aNs [.int a.off, .int a.mv.length, .int (cmdsF a.mv), eB a.bad, eMv a.mv, .dct false (a.bad.map .int) (a.bad.map fun _ => .bl true)]
theorem dc_run {vs : List Nat} {tg : D → VL.Env → Rs VL.Env} {tt : VL.Env → TR} {fk fv : VL.Env → ER} {env : VL.Env} (x : D)
    (hs : ∀ d, ∃ e1, tg d env = ok e1 ∧ tt e1 = ok (true, e1) ∧ fk e1 = ok (0, d, e1) ∧ fv e1 = ok (0, x, e1) ∧ wp vs e1 = ok env) :
    ∀ (xs ys : List Int), (ys ++ xs).Nodup → (ys ++ xs).length ≤ 1000000 → dcL vs tg tt fk fv (xs.map .int) (.dct false (ys.map .int) (ys.map fun _ => x)) env = ok (.dct false ((ys ++ xs).map .int) ((ys ++ xs).map fun _ => x), env)
  | [], ys, _, _ => by simp [dcL]
  | a :: xs, ys, nd, hl => by
    obtain ⟨e1, h1, h2, h3, h4, h5⟩ := hs (.int a)
    rw [List.map_cons]
    unfold dcL
    have na : a ∉ ys := fun m => (List.nodup_append.mp nd).2.2 a m a List.mem_cons_self rfl
    have st := ken_int.new (vs := ys.map fun _ => x) (k := a) (x := x) (by simp) na (by simp at hl ⊢; omega)
    rw [h1, bd_ok, h2, bd_ok]
    simp only [if_true, h3, bd_ok, h4, st, opt_some, h5]
    have ih := dc_run x hs xs (ys ++ [a]) (by rw [List.append_assoc]; exact nd) (by rw [List.append_assoc]; exact hl)
    simp only [List.append_assoc, List.singleton_append, List.map_append, List.map_cons, List.map_nil] at ih ⊢
    exact ih
@[simp] theorem ne_offices_size : ("offices" : PySem.Str) ≠ "size" := by decide
@[simp] theorem ne_offices_commands : ("offices" : PySem.Str) ≠ "commands" := by decide
@[simp] theorem ne_offices_bad : ("offices" : PySem.Str) ≠ "bad" := by decide
@[simp] theorem ne_offices__entries : ("offices" : PySem.Str) ≠ "_entries" := by decide
@[simp] theorem ne_offices__bad_nodes : ("offices" : PySem.Str) ≠ "_bad_nodes" := by decide
@[simp] theorem ne_size_offices : ("size" : PySem.Str) ≠ "offices" := by decide
@[simp] theorem ne_size_commands : ("size" : PySem.Str) ≠ "commands" := by decide
@[simp] theorem ne_size_bad : ("size" : PySem.Str) ≠ "bad" := by decide
@[simp] theorem ne_size__entries : ("size" : PySem.Str) ≠ "_entries" := by decide
@[simp] theorem ne_size__bad_nodes : ("size" : PySem.Str) ≠ "_bad_nodes" := by decide
@[simp] theorem ne_commands_offices : ("commands" : PySem.Str) ≠ "offices" := by decide
@[simp] theorem ne_commands_size : ("commands" : PySem.Str) ≠ "size" := by decide
@[simp] theorem ne_commands_bad : ("commands" : PySem.Str) ≠ "bad" := by decide
@[simp] theorem ne_commands__entries : ("commands" : PySem.Str) ≠ "_entries" := by decide
@[simp] theorem ne_commands__bad_nodes : ("commands" : PySem.Str) ≠ "_bad_nodes" := by decide
@[simp] theorem ne_bad_offices : ("bad" : PySem.Str) ≠ "offices" := by decide
@[simp] theorem ne_bad_size : ("bad" : PySem.Str) ≠ "size" := by decide
@[simp] theorem ne_bad_commands : ("bad" : PySem.Str) ≠ "commands" := by decide
@[simp] theorem ne_bad__entries : ("bad" : PySem.Str) ≠ "_entries" := by decide
@[simp] theorem ne_bad__bad_nodes : ("bad" : PySem.Str) ≠ "_bad_nodes" := by decide
@[simp] theorem ne__entries_offices : ("_entries" : PySem.Str) ≠ "offices" := by decide
@[simp] theorem ne__entries_size : ("_entries" : PySem.Str) ≠ "size" := by decide
@[simp] theorem ne__entries_commands : ("_entries" : PySem.Str) ≠ "commands" := by decide
@[simp] theorem ne__entries_bad : ("_entries" : PySem.Str) ≠ "bad" := by decide
@[simp] theorem ne__entries__bad_nodes : ("_entries" : PySem.Str) ≠ "_bad_nodes" := by decide
@[simp] theorem ne__bad_nodes_offices : ("_bad_nodes" : PySem.Str) ≠ "offices" := by decide
@[simp] theorem ne__bad_nodes_size : ("_bad_nodes" : PySem.Str) ≠ "size" := by decide
@[simp] theorem ne__bad_nodes_commands : ("_bad_nodes" : PySem.Str) ≠ "commands" := by decide
@[simp] theorem ne__bad_nodes_bad : ("_bad_nodes" : PySem.Str) ≠ "bad" := by decide
@[simp] theorem ne__bad_nodes__entries : ("_bad_nodes" : PySem.Str) ≠ "_entries" := by decide
@[simp] theorem all_true' {α : Type} (xs : List α) : (xs.all fun _ => true) = true := by simp
theorem asc_nodup {xs : List Int} (h : xs.Pairwise (· < ·)) : xs.Nodup := h.imp fun h e => by omega
theorem asc_len : ∀ {xs : List Int} {lo hi : Int}, xs.Pairwise (· < ·) → (∀ x ∈ xs, lo ≤ x ∧ x < hi) → xs.length ≤ (hi - lo).toNat
  | [], _, _, _, _ => by simp
  | x :: xs, lo, hi, h, b => by
    have h1 := List.pairwise_cons.mp h
    have hx := b x List.mem_cons_self
    have := asc_len (lo := x + 1) (hi := hi) h1.2 fun y m => ⟨by have := h1.1 y m; omega, (b y (List.mem_cons_of_mem _ m)).2⟩
    rw [List.length_cons]
    omega
theorem Ar.Ok.badLen {a : Ar} (v : a.Ok) : a.bad.length ≤ 1000000 := by
  have := asc_len v.asc v.bd
  have := v.sz
  omega
theorem n_init_ev {a : Ar} (v : a.Ok) : n_Arena___init__ [.int a.off, eMv a.mv, .lst (a.bad.map .int)] (.obj "Arena" [] []) = ok (0, .non, eAr a) := by
  have o1 : 1 ≤ a.off := v.off.1
  have o2 : a.off ≤ 3 := v.off.2
  have bl : a.bad.length ≤ 1000000 := v.badLen
  have hb := n_is_ascending_ev v.asc bl
  have hm := n_are_moves_ev v
  have h5 := lcL_all (kk := 0) (vs := [5]) (tg := gNm 5) (tt := tYesF) (el := r_Arena___init___e1) D.int (fun h => .bl true) (env := [.io 0 (.obj "Arena" [] []), .sh (.int a.off), .sh (eMv a.mv), .sh (.lst (a.bad.map .int)), .un, .un, .un]) a.bad (by
    intro x hx
    have := v.bd x hx
    have h1 : 0 ≤ x := this.1
    have h2 : x ≤ a.mv.length - 1 := by omega
    simp [r_Arena___init___e1, h1, h2])
  have hall : gAll [.lst (a.bad.map fun _ => D.bl true)] = some (.bl true) := by rw [gAll_map (fun _ : Int => true)]; simp
  have hc := n_commands_of_ev a.mv
  have h6 : ∀ (e : Entry), lcL 0 [6] (gNm 6) tYesF r_Arena___init___e2 (e.map eOs) [.io 0 (.obj "Arena" ["offices", "size", "commands", "bad"] [.int a.off, .int a.mv.length, .int (cmdsF a.mv), eB a.bad]), .sh (.int a.off), .sh (eMv a.mv), .sh (.lst (a.bad.map .int)), .sh (eE e), .un, .un] = ok (e.map eOs, [.io 0 (.obj "Arena" ["offices", "size", "commands", "bad"] [.int a.off, .int a.mv.length, .int (cmdsF a.mv), eB a.bad]), .sh (.int a.off), .sh (eMv a.mv), .sh (.lst (a.bad.map .int)), .sh (eE e), .un, .un]) := fun e => lcL_all eOs eOs e (by
    intro l hl
    have : eOs l = .lst (l.map eO) := rfl
    simp [r_Arena___init___e2, this, keysD])
  have h4 := lcL_all (kk := 0) (vs := [4]) (tg := gNm 4) (tt := tYesF) (el := r_Arena___init___e3) eE eE (env := [.io 0 (.obj "Arena" ["offices", "size", "commands", "bad"] [.int a.off, .int a.mv.length, .int (cmdsF a.mv), eB a.bad]), .sh (.int a.off), .sh (eMv a.mv), .sh (.lst (a.bad.map .int)), .un, .un, .un]) a.mv (by
    intro e he
    have hl : e.length ≤ 1000000 := by
      have := v.cm
      rcases v.len e he with h | h
      · rw [h]; simp
      · omega
    have := h6 e
    have q : eE e = .lst (e.map eOs) := rfl
    rw [q] at this
    simp [r_Arena___init___e3, q, hl, this])
  have hm4 : a.mv.length ≤ 1000000 := by have := v.sz; omega
  have q : eMv a.mv = .lst (a.mv.map eE) := rfl
  have q2 : eB a.bad = .tup (a.bad.map .int) := rfl
  have hd := dc_run (vs := [5]) (tg := gNm 5) (tt := tYesF) (fk := eV 5) (fv := eC (.bl true)) (env := [.io 0 (.obj "Arena" ["offices", "size", "commands", "bad", "_entries"] [.int a.off, .int a.mv.length, .int (cmdsF a.mv), eB a.bad, eMv a.mv]), .sh (.int a.off), .sh (eMv a.mv), .sh (.lst (a.bad.map .int)), .un, .un, .un]) (.bl true) (by
    intro d
    exact ⟨[.io 0 (.obj "Arena" ["offices", "size", "commands", "bad", "_entries"] [.int a.off, .int a.mv.length, .int (cmdsF a.mv), eB a.bad, eMv a.mv]), .sh (.int a.off), .sh (eMv a.mv), .sh (.lst (a.bad.map .int)), .un, .sh d, .un], by simp, by simp, by simp, by simp, by simp⟩) a.bad [] (by simpa using asc_nodup v.asc) (by simpa using bl)
  rw [q, q2] at h4 hd
  rw [q] at hm h5 hc
  simp only [List.map_nil, List.nil_append] at hd
  simp [n_Arena___init__, r_Arena___init__, o1, o2, hm, hb, h5, bl, hall, hc, q, q2, h4, hm4, hd, eAr, aNs, outI]
end K
namespace K
open PySem PySem.Spec PyProof.Rows L2 VL
/-! ### the pool, draws -/
abbrev Pool := Int × Int × Int
def eP (p : Pool) : D := .lst [.int p.1, .int p.2.1, .int p.2.2]
theorem c18 : gPow (.int 10) (.int 18) = some (.int 1000000000000000000) := by rw [gPow_ii (by decide)]; rfl
theorem c15 : gPow (.int 10) (.int 15) = some (.int 1000000000000000) := by rw [gPow_ii (by decide)]; rfl
theorem n_law_cell_ev (cs : List Int) (k : Nat) : ∃ n, n__law_cell [.lsx (cs.map .int), .int k] = ok (0, .int n) := by
  by_cases h : k < cs.length
  · have h2 : (k : Int) < (cs.length : Int) := by omega
    have e : atI (cs.map D.int) (k : Int) = some (.int cs[k]) := by rw [atI_map, atIN, List.getElem?_eq_getElem h]; rfl
    refine ⟨if cs[k] < 0 then -cs[k] else cs[k], ?_⟩
    simp [n__law_cell, r__law_cell, h, e]
  · have h2 : ¬ (k : Int) < (cs.length : Int) := by omega
    refine ⟨0, ?_⟩
    simp [n__law_cell, r__law_cell, h]
theorem n_law_pool_ev (cs : List Int) (k : Nat) : ∃ P, n__law_pool [.lsx (cs.map .int), .int k] = ok (1, eP P) := by
  obtain ⟨n, hn⟩ := n_law_cell_ev cs k
  have m1 := gMod_ii (i := n) (j := 999999937) (by decide)
  have m2 := gMul_ii (i := n) (j := 63) (.inr (by decide))
  have m3 := gMod_ii (i := n * 63 + (k : Int)) (j := 1000000000000000) (by decide)
  by_cases h : (1000000000000000000 : Int) ≤ n
  · refine ⟨(n - 1000000000000000000, n % 999999937, 0), ?_⟩
    simp [n__law_pool, r__law_pool, hn, c18, h, m1, eP]
  · refine ⟨(0, (n * 63 + (k : Int)) % 1000000000000000, 0), ?_⟩
    simp [n__law_pool, r__law_pool, hn, c18, c15, h, m2, m3, eP]
theorem n_law_mixed_ev (s t many : Int) (h : 0 < many) : ∃ r, n__law_mixed [.int s, .int t, .int many] = ok (0, .int r) ∧ 0 ≤ r ∧ r < many := by
  have a1 := gMul_ii (i := s) (j := 48271) (.inr (by decide))
  have a2 := gMul_ii (i := t) (j := 69621) (.inr (by decide))
  have a3 := gMod_ii (i := s * 48271 + t * 69621 + 40692) (j := 2147483647) (by decide)
  generalize h1 : (s * 48271 + t * 69621 + 40692) % 2147483647 = one at a3
  have o1 : 0 ≤ one ∧ one < 2147483647 := by omega
  have b1 := gMul_ii (i := one) (j := one) (.inr (by constructor <;> omega))
  have b2 := gMul_ii (i := t) (j := 16807) (.inr (by decide))
  have b3 := gMod_ii (i := one * one + t * 16807 + 7) (j := 2147483629) (by decide)
  generalize h2 : (one * one + t * 16807 + 7) % 2147483629 = two at b3
  have o2 : 0 ≤ two ∧ two < 2147483629 := by omega
  have c1 := gMul_ii (i := two) (j := two) (.inr (by constructor <;> omega))
  have c3 := gMod_ii (i := two * two + one + 3) (j := 2147483587) (by decide)
  generalize h3 : (two * two + one + 3) % 2147483587 = three at c3
  have d1 := gDiv_ii (i := three) (j := 7) (by decide)
  have d2 := gMod_ii (i := three / 7) (j := many) h
  refine ⟨three / 7 % many, ?_, Int.emod_nonneg _ (by omega), Int.emod_lt_of_pos _ h⟩
  simp [n__law_mixed, r__law_mixed, a1, a2, a3, b1, b2, b3, c1, c3, d1, d2]
theorem n_law_draw_ev (P : Pool) (many : Int) (h : 0 < many) (h2 : many < 1073741824) : ∃ r P', n__law_draw [.int many] (eP P) = ok (0, .int r, eP P') ∧ 0 ≤ r ∧ r < many := by
  obtain ⟨p0, p1, p2⟩ := P
  by_cases hp : 0 < p0
  · have m1 := gMod_ii (i := p0) (j := many) h
    have m2 := gDiv_ii (i := p0) (j := many) ⟨h, h2⟩
    have st : D.store (.lst [.int p0, .int p1, .int p2]) (.int 0) (.int (p0 / many)) = some (.lst [.int (p0 / many), .int p1, .int p2]) := by
      rw [store_lst (by omega) (by simp)]; rfl
    refine ⟨p0 % many, (p0 / many, p1, p2), ?_, Int.emod_nonneg _ (by omega), Int.emod_lt_of_pos _ h⟩
    simp [n__law_draw, r__law_draw, eP, hp, m1, m2, st]
    exact outI_rt rfl
  · obtain ⟨r, hr, r1, r2⟩ := n_law_mixed_ev p1 (p2 + 1) many h
    have st : D.store (.lst [.int p0, .int p1, .int p2]) (.int 2) (.int (p2 + 1)) = some (.lst [.int p0, .int p1, .int (p2 + 1)]) := by
      rw [store_lst (by omega) (by simp)]; rfl
    refine ⟨r, (p0, p1, p2 + 1), ?_, r1, r2⟩
    simp [n__law_draw, r__law_draw, eP, hp, st, hr]
    exact outI_rt rfl
theorem n_law_chance_ev (P : Pool) (one of_ : Int) (h : 0 < of_) (h2 : of_ < 1073741824) : ∃ b P', n__law_chance [.int one, .int of_] (eP P) = ok (0, .bl b, eP P') := by
  obtain ⟨r, P', hr, _, _⟩ := n_law_draw_ev P of_ h h2
  refine ⟨decide (r < one), P', ?_⟩
  simp [n__law_chance, r__law_chance, hr]
  exact outI_rt rfl
/-- a comprehension that draws -/
theorem lcL_ex {α : Type} {kk : Nat} {vs : List Nat} {tg : D → VL.Env → Rs VL.Env} {tt : VL.Env → TR} {el : VL.Env → ER} (enc : α → D) (R : VL.Env → Prop) (Q : α → Int → Prop) : ∀ (xs : List α) (env : VL.Env), R env →
    (∀ (x : α) (e : VL.Env), x ∈ xs → R e → ∃ i e2, lc1 kk vs tg tt el (enc x) e = ok (some (.int i), e2) ∧ R e2 ∧ Q x i) →
    ∃ (is : List Int) (e' : VL.Env), lcL kk vs tg tt el (xs.map enc) env = ok (is.map .int, e') ∧ R e' ∧ is.length = xs.length ∧ ∀ i ∈ is, ∃ x ∈ xs, Q x i
  | [], env, h, _ => ⟨[], env, rfl, h, rfl, fun i m => (nomatch m)⟩
  | x :: xs, env, h, st => by
    obtain ⟨i, e2, h1, h2, h3⟩ := st x env List.mem_cons_self h
    obtain ⟨is, e', q1, q2, q3, q4⟩ := lcL_ex enc R Q xs e2 h2 fun y e m => st y e (List.mem_cons_of_mem _ m)
    refine ⟨i :: is, e', ?_, q2, by simp [q3], fun j m => ?_⟩
    · rw [List.map_cons, lcL_cons, h1, bd_ok, q1, bd_ok]; rfl
    · rcases List.mem_cons.mp m with m | m
      · rw [m]; exact ⟨x, List.mem_cons_self, h3⟩
      · obtain ⟨y, hy, hq⟩ := q4 j m; exact ⟨y, List.mem_cons_of_mem _ hy, hq⟩
/-- .. that keeps some -/
theorem lcL_some {α : Type} {kk : Nat} {vs : List Nat} {tg : D → VL.Env → Rs VL.Env} {tt : VL.Env → TR} {el : VL.Env → ER} (enc : α → D) (R : VL.Env → Prop) : ∀ (xs : List α) (env : VL.Env), R env →
    (∀ (x : α) (e : VL.Env), x ∈ xs → R e → ∃ (b : Bool) (e2 : VL.Env), lc1 kk vs tg tt el (enc x) e = ok (if b then some (enc x) else none, e2) ∧ R e2) →
    ∃ (ys : List α) (e' : VL.Env), lcL kk vs tg tt el (xs.map enc) env = ok (ys.map enc, e') ∧ R e' ∧ ys.Sublist xs
  | [], env, h, _ => ⟨[], env, rfl, h, List.Sublist.refl _⟩
  | x :: xs, env, h, st => by
    obtain ⟨b, e2, h1, h2⟩ := st x env List.mem_cons_self h
    obtain ⟨ys, e', q1, q2, q3⟩ := lcL_some enc R xs e2 h2 fun y e m => st y e (List.mem_cons_of_mem _ m)
    cases b with
    | true =>
      refine ⟨x :: ys, e', ?_, q2, q3.cons₂ x⟩
      rw [List.map_cons, lcL_cons, h1, bd_ok, q1, bd_ok]; rfl
    | false =>
      refine ⟨ys, e', ?_, q2, q3.cons x⟩
      rw [List.map_cons, lcL_cons, h1, bd_ok, q1, bd_ok]; rfl
end K
namespace K
open PySem PySem.Spec PyProof.Rows L2 VL
/-! ### the arena's methods -/
def isBad (a : Ar) (x : Int) : Bool := decide (x ∈ a.bad)
def entryAt (a : Ar) (x : Int) : Entry := (a.mv[x.toNat]?).getD []
def live (a : Ar) (x : Int) : Bool := !isBad a x && !(entryAt a x).isEmpty
def outsAt (a : Ar) (x c : Int) : List Outc := if live a x then ((entryAt a x)[c.toNat]?).getD [] else []
def h0 (o : Outc) : Int := o.1.headD 0
/-- a node -/
def Nod (a : Ar) (x : Int) : Prop := 0 ≤ x ∧ x < a.mv.length
def Cmd (a : Ar) (c : Int) : Prop := 0 ≤ c ∧ c < cmdsF a.mv
@[simp] theorem fld_size (a : Ar) : D.fld ["Arena"] "size" (eAr a) = some (.int a.mv.length) := by simp [D.fld, eAr, aNs, look1]
@[simp] theorem fld_commands (a : Ar) : D.fld ["Arena"] "commands" (eAr a) = some (.int (cmdsF a.mv)) := by simp [D.fld, eAr, aNs, look1]
@[simp] theorem fld_entries (a : Ar) : D.fld ["Arena"] "_entries" (eAr a) = some (eMv a.mv) := by simp [D.fld, eAr, aNs, look1]
@[simp] theorem fld_bad_nodes (a : Ar) : D.fld ["Arena"] "_bad_nodes" (eAr a) = some (.dct false (a.bad.map .int) (a.bad.map fun _ => .bl true)) := by simp [D.fld, eAr, aNs, look1]
theorem ins_ar (a : Ar) {m : PySem.Str} (h : m ∉ aNs) : D.insOf "Arena" m (eAr a) = some () := by
  unfold eAr D.insOf; simp [h]
@[simp] theorem ins_is_bad (a : Ar) : D.insOf "Arena" "is_bad" (eAr a) = some () := ins_ar a (by decide)
@[simp] theorem ins_is_live (a : Ar) : D.insOf "Arena" "is_live" (eAr a) = some () := ins_ar a (by decide)
@[simp] theorem ins_outcomes (a : Ar) : D.insOf "Arena" "outcomes" (eAr a) = some () := ins_ar a (by decide)
theorem n_is_bad_ev (a : Ar) (x : Int) : n_Arena_is_bad [eAr a, .int x] = ok (0, .bl (isBad a x)) := by
  have := ken_int.in_ a.bad (a.bad.map fun _ => .bl true) x (by simp)
  simp [n_Arena_is_bad, r_Arena_is_bad, this, isBad]
theorem entry_ix {a : Ar} {x : Int} (h : Nod a x) : D.ix (eMv a.mv) (.int x) = some (eE (entryAt a x)) := by
  have hl : x.toNat < a.mv.length := by unfold Nod at h; omega
  unfold eMv entryAt
  rw [ix_lst, atI_map, atI_of h.1, List.getElem?_eq_getElem hl]
  rfl
theorem n_is_live_ev {a : Ar} {x : Int} (h : Nod a x) : n_Arena_is_live [eAr a, .int x] = ok (0, .bl (live a x)) := by
  have h1 := ken_int.notin a.bad (a.bad.map fun _ => .bl true) x (by simp)
  have h2 := entry_ix h
  unfold live
  cases hc : (entryAt a x).isEmpty <;> simp [n_Arena_is_live, r_Arena_is_live, h1, h2, isBad, gNe_eE, hc]
theorem n_outcomes_ev {a : Ar} (v : a.Ok) {x c : Int} (h : Nod a x) (hc : Cmd a c) : n_Arena_outcomes [eAr a, .int x, .int c] = ok (1, eOs (outsAt a x c)) := by
  have h1 := n_is_live_ev h
  have h2 := entry_ix h
  have a1 : 0 ≤ x := h.1
  have a2 : x ≤ a.mv.length - 1 := by unfold Nod at h; omega
  have b1 : 0 ≤ c := hc.1
  have b2 : c ≤ cmdsF a.mv - 1 := by unfold Cmd at hc; omega
  have q0 : eOs [] = .lst [] := rfl
  unfold outsAt
  cases hl : live a x with
  | false => simp [n_Arena_outcomes, r_Arena_outcomes, h1, h2, hl, a1, a2, b1, b2, q0]
  | true =>
    have hm : entryAt a x ∈ a.mv := by
      have hx : x.toNat < a.mv.length := by unfold Nod at h; omega
      unfold entryAt
      rw [List.getElem?_eq_getElem hx]
      exact List.getElem_mem hx
    have ne : entryAt a x ≠ [] := by
      unfold live at hl
      intro e
      rw [e] at hl
      simp at hl
    have hlen : (entryAt a x).length = cmdsF a.mv := (v.len _ hm).resolve_left ne
    have hcl : c.toNat < (entryAt a x).length := by unfold Cmd at hc; omega
    have h3 : D.ix (eE (entryAt a x)) (.int c) = some (.lst ((((entryAt a x)[c.toNat]?).getD []).map eO)) := by
      unfold eE
      rw [ix_lst, atI_map, atI_of b1, List.getElem?_eq_getElem hcl]
      rfl
    have q : ∀ l, eOs l = .lst (l.map eO) := fun _ => rfl
    simp [n_Arena_outcomes, r_Arena_outcomes, h1, h2, h3, hl, a1, a2, b1, b2, keysD, q]

/-! ### beliefs: the law's side -/
/-- a belief of the arena: nodes -/
def Nods (a : Ar) (b : List Int) : Prop := ∀ x ∈ b, Nod a x
def hasBad (a : Ar) (b : List Int) : Bool := b.any fun x => isBad a x
def outsB (a : Ar) (b : List Int) (c : Int) : List Outc := b.flatMap fun x => outsAt a x c
def endsF (a : Ar) (b : List Int) (c o : Int) : List Int := ((outsB a b c).filter fun m => decide (h0 m = o)).map (·.2)
def afterF (a : Ar) (b : List Int) (c o : Int) : List Int := uniq (endsF a b c o)
def answersF (a : Ar) (b : List Int) (c : Int) : List Int := uniq ((outsB a b c).map h0)
def followsF (a : Ar) (b : List Int) (c : Int) : List (Int × List Int) := (answersF a b c).map fun o => (o, afterF a b c o)
def eRow (r : Int × List Int) : D := .tup [.int r.1, eB r.2]
@[simp] theorem eA_0 (a : Ar) : D.ix (eA a) (.int 0) = some (.int a.off) := by unfold eA; simp
@[simp] theorem eA_1 (a : Ar) : D.ix (eA a) (.int 1) = some (eMv a.mv) := by unfold eA; simp
@[simp] theorem eA_2 (a : Ar) : D.ix (eA a) (.int 2) = some (.lst (a.bad.map .int)) := by unfold eA; simp
theorem n_law_live_ev {a : Ar} {x : Int} (h : Nod a x) : n__law_live [eA a, .int x] = ok (0, .bl (live a x)) := by
  have h2 := entry_ix h
  unfold live
  cases hc : (entryAt a x) with
  | nil => 
    rw [hc] at h2
    by_cases hb : x ∈ a.bad <;> simp [n__law_live, r__law_live, h2, isBad, hb]
  | cons e es =>
    rw [hc] at h2
    by_cases hb : x ∈ a.bad <;> simp [n__law_live, r__law_live, h2, isBad, hb]
theorem n_law_commands_ev (a : Ar) : n__law_commands [eA a] = ok (0, .int (cmdsF a.mv)) := by
  obtain ⟨e', ⟨g, rfl, hg⟩, he⟩ := forL_find (tg := gNm 1) (s := r__law_commands_b1) eE (fun e => ∃ g, e = [.sh (eA a), g] ∧ isIo g = false) 0 (fun e => if e.isEmpty then none else some (.int e.length)) a.mv [.sh (eA a), .un] ⟨_, rfl, rfl⟩ (by
    rintro e _ _ ⟨g, rfl, hg⟩
    refine ⟨[.sh (eA a), .sh (eE e)], [.sh (eA a), .sh (eE e)], by simp [hg], ⟨_, rfl, rfl⟩, ?_⟩
    cases e with
    | nil => simp [r__law_commands_b1]
    | cons x xs =>
      have : (0 : Int) < xs.length + 1 := by omega
      simp [r__law_commands_b1, this])
  have hm : eMv a.mv = .lst (a.mv.map eE) := rfl
  simp [n__law_commands, r__law_commands, hm]
  rw [he]
  unfold cmdsF
  have : (List.findSome? (fun e : Entry => if e.isEmpty = true then none else some (D.int ↑e.length)) a.mv) = (a.mv.findSome? fun e => if e.isEmpty then none else some e.length).map fun n : Nat => D.int n := by
    rw [List.map_findSome?]
    congr 1
    funext e
    cases e <;> rfl
  rw [this]
  cases (a.mv.findSome? fun e => if e.isEmpty then none else some e.length) <;> simp
theorem n_law_has_bad_ev (a : Ar) (b : List Int) (hl : b.length ≤ 1000000) : n__law_has_bad [eA a, eB b] = ok (0, .bl (hasBad a b)) := by
  have h := lcL_filter (kk := 0) (vs := [2]) (tg := gNm 2) (tt := r__law_has_bad_c1) (el := r__law_has_bad_e1) D.int D.int (fun x => isBad a x) (env := [.sh (eA a), .sh (.tup (b.map .int)), .un]) b (by
    intro x _
    by_cases hb : x ∈ a.bad <;> simp [r__law_has_bad_c1, r__law_has_bad_e1, isBad, hb])
  have q : eB b = .tup (b.map .int) := rfl
  simp [n__law_has_bad, r__law_has_bad, q, h, hl, hasBad]
  refine congrArg (fun z => ok (0, D.bl z)) ?_
  rw [Bool.eq_iff_iff]
  simp
theorem outsB_app (a : Ar) (p q : List Int) (c : Int) : outsB a (p ++ q) c = outsB a p c ++ outsB a q c := by unfold outsB; rw [List.flatMap_append]
theorem outsB_one (a : Ar) (x c : Int) : outsB a [x] c = outsAt a x c := by unfold outsB; simp
theorem outsAt_live {a : Ar} (v : a.Ok) {x c : Int} (h : Nod a x) (hc : Cmd a c) (hl : live a x = true) : D.ix (eE (entryAt a x)) (.int c) = some (eOs (outsAt a x c)) := by
  have hm : entryAt a x ∈ a.mv := by
    have hx : x.toNat < a.mv.length := by unfold Nod at h; omega
    unfold entryAt
    rw [List.getElem?_eq_getElem hx]
    exact List.getElem_mem hx
  have ne : entryAt a x ≠ [] := by
    unfold live at hl
    intro e
    rw [e] at hl
    simp at hl
  have hlen : (entryAt a x).length = cmdsF a.mv := (v.len _ hm).resolve_left ne
  have hcl : c.toNat < (entryAt a x).length := by unfold Cmd at hc; omega
  unfold outsAt eE
  rw [hl, if_pos rfl, ix_lst, atI_map, atI_of hc.1, List.getElem?_eq_getElem hcl]
  rfl
theorem outsAt_ok {a : Ar} (v : a.Ok) {x c : Int} {o : Outc} (h : o ∈ outsAt a x c) : OutcOk a.off a.mv.length o := by
  unfold outsAt at h
  split at h
  · unfold entryAt at h
    cases hx : a.mv[x.toNat]? with
    | none => rw [hx] at h; simp at h
    | some e =>
      rw [hx] at h
      simp only [Option.getD_some] at h
      cases hc : e[c.toNat]? with
      | none => rw [hc] at h; simp at h
      | some l =>
        rw [hc] at h
        exact (v.en e (List.mem_of_getElem? hx)).ok l (List.mem_of_getElem? hc) o h
  · simp at h
theorem OutcOk.h0 {a : Ar} (v : a.Ok) {o : Outc} (h : OutcOk a.off a.mv.length o) : D.ix (.tup (o.1.map .int)) (.int 0) = some (.int (h0 o)) := by
  obtain ⟨hs, y⟩ := o
  have h1 : (hs.length : Int) = a.off := h.len
  have := v.off
  cases hs with
  | nil => simp at h1; omega
  | cons x xs => simp [K.h0]
theorem eO_0 (o : Outc) : D.ix (eO o) (.int 0) = some (.tup (o.1.map .int)) := by unfold eO; simp
theorem eO_1 (o : Outc) : D.ix (eO o) (.int 1) = some (.int o.2) := by unfold eO; simp
theorem n_law_after_ev {a : Ar} (v : a.Ok) {b : List Int} {c : Int} (o : Int) (hb : Nods a b) (hc : Cmd a c) (hl : (outsB a b c).length < 4000) : n__law_after [eA a, eB b, .int c, .int o] = ok (0, eB (afterF a b c o)) := by
  obtain ⟨e', he, g, rfl, hg⟩ := forL_split (tg := gNm 5) (s := r__law_after_b1) D.int (fun pre e => ∃ g, e = [.sh (eA a), .sh (eB b), .sh (.int c), .sh (.int o), .ow 0 (.lst ((endsF a pre c o).map .int)), g, .un] ∧ isIo g = false) b [.sh (eA a), .sh (eB b), .sh (.int c), .sh (.int o), .ow 0 (.lst []), .un, .un] ⟨_, rfl, rfl⟩ (by
    rintro pre x suf _ hs ⟨g, rfl, hg⟩
    have hx : Nod a x := hb x (by rw [hs]; simp)
    have hlv := n_law_live_ev hx
    have e1 : endsF a (pre ++ [x]) c o = endsF a pre c o ++ ((outsAt a x c).filter fun m => decide (h0 m = o)).map (·.2) := by
      unfold endsF; rw [outsB_app, outsB_one, List.filter_append, List.map_append]
    have hsum : (endsF a pre c o).length + ((outsAt a x c).filter fun m => decide (h0 m = o)).length ≤ 1000000 ∧ (outsAt a x c).length ≤ 1000000 := by
      rw [hs, show pre ++ x :: suf = pre ++ ([x] ++ suf) by simp, outsB_app, outsB_app, outsB_one, List.length_append, List.length_append] at hl
      have := List.length_filter_le (fun m => decide (h0 m = o)) (outsAt a x c)
      have := List.length_filter_le (fun m => decide (h0 m = o)) (outsB a pre c)
      unfold endsF
      rw [List.length_map]
      omega
    refine ⟨[.sh (eA a), .sh (eB b), .sh (.int c), .sh (.int o), .ow 0 (.lst ((endsF a pre c o).map .int)), .sh (.int x), .un], [.sh (eA a), .sh (eB b), .sh (.int c), .sh (.int o), .ow 0 (.lst ((endsF a (pre ++ [x]) c o).map .int)), .sh (.int x), .un], by simp [hg], .inl ?_, ⟨_, rfl, rfl⟩⟩
    cases hlx : live a x with
    | false =>
      have e2 : outsAt a x c = [] := by unfold outsAt; rw [hlx]; rfl
      rw [e2] at e1
      simp [r__law_after_b1, hlv, hlx, e1]
    | true =>
      have h2 := entry_ix hx
      have h3 := outsAt_live v hx hc hlx
      have q : eOs (outsAt a x c) = .lst ((outsAt a x c).map eO) := rfl
      have h := lcL_filter (kk := 0) (vs := [6]) (tg := gNm 6) (tt := r__law_after_c1) (el := r__law_after_e1) eO (fun m : Outc => .int m.2) (fun m => decide (h0 m = o)) (env := [.sh (eA a), .sh (eB b), .sh (.int c), .sh (.int o), .sh (.lst ((endsF a pre c o).map .int)), .sh (.int x), .un]) (outsAt a x c) (by
        intro m hm
        have w := (outsAt_ok v hm).h0 v
        by_cases hh : h0 m = o <;> simp [r__law_after_c1, r__law_after_e1, eO_0, eO_1, w, hh])
      simp [r__law_after_b1, hlv, hlx, e1, h2, h3, q, h, hsum]
      rfl)
  have q : eB b = .tup (b.map .int) := rfl
  rw [q] at he
  have hlen : (endsF a b c o).length < 4000 := by
    unfold endsF
    have := List.length_filter_le (fun m => decide (h0 m = o)) (outsB a b c)
    rw [List.length_map]; omega
  simp [n__law_after, r__law_after, q, he, intsOf_map, hlen, afterF, eB]
theorem n_law_answers_ev {a : Ar} (v : a.Ok) {b : List Int} {c : Int} (hb : Nods a b) (hc : Cmd a c) (hl : (outsB a b c).length < 4000) : n__law_answers [eA a, eB b, .int c] = ok (1, .lst ((answersF a b c).map .int)) := by
  obtain ⟨e', he, g, rfl, hg⟩ := forL_split (tg := gNm 4) (s := r__law_answers_b1) D.int (fun pre e => ∃ g, e = [.sh (eA a), .sh (eB b), .sh (.int c), .ow 0 (.lst (((outsB a pre c).map h0).map .int)), g, .un] ∧ isIo g = false) b [.sh (eA a), .sh (eB b), .sh (.int c), .ow 0 (.lst []), .un, .un] ⟨_, rfl, rfl⟩ (by
    rintro pre x suf _ hs ⟨g, rfl, hg⟩
    have hx : Nod a x := hb x (by rw [hs]; simp)
    have hlv := n_law_live_ev hx
    have e1 : outsB a (pre ++ [x]) c = outsB a pre c ++ outsAt a x c := by
      rw [outsB_app, outsB_one]
    have hsum : (outsB a pre c).length + (outsAt a x c).length ≤ 1000000 ∧ (outsAt a x c).length ≤ 1000000 := by
      rw [hs, show pre ++ x :: suf = pre ++ ([x] ++ suf) by simp, outsB_app, outsB_app, outsB_one, List.length_append, List.length_append] at hl
      omega
    refine ⟨[.sh (eA a), .sh (eB b), .sh (.int c), .ow 0 (.lst (((outsB a pre c).map h0).map .int)), .sh (.int x), .un], [.sh (eA a), .sh (eB b), .sh (.int c), .ow 0 (.lst (((outsB a (pre ++ [x]) c).map h0).map .int)), .sh (.int x), .un], by simp [hg], .inl ?_, ⟨_, rfl, rfl⟩⟩
    cases hlx : live a x with
    | false =>
      have e2 : outsAt a x c = [] := by unfold outsAt; rw [hlx]; rfl
      rw [e2] at e1
      simp [r__law_answers_b1, hlv, hlx, e1]
    | true =>
      have h2 := entry_ix hx
      have h3 := outsAt_live v hx hc hlx
      have q : eOs (outsAt a x c) = .lst ((outsAt a x c).map eO) := rfl
      have h := lcL_all (kk := 0) (vs := [5]) (tg := gNm 5) (tt := tYesF) (el := r__law_answers_e1) eO (fun m : Outc => .int (h0 m)) (env := [.sh (eA a), .sh (eB b), .sh (.int c), .sh (.lst (((outsB a pre c).map h0).map .int)), .sh (.int x), .un]) (outsAt a x c) (by
        intro m hm
        have w := (outsAt_ok v hm).h0 v
        simp [r__law_answers_e1, eO_0, w])
      rw [List.map_map] at h
      simp [r__law_answers_b1, hlv, hlx, e1, h2, h3, q, h, hsum]
      rfl)
  have q : eB b = .tup (b.map .int) := rfl
  rw [q] at he
  have hi := intsOf_map ((outsB a b c).map h0)
  rw [List.map_map] at he hi
  simp [n__law_answers, r__law_answers, q, he, hi, hl, answersF]

theorem n_law_follows_ev {a : Ar} (v : a.Ok) {b : List Int} {c : Int} (hb : Nods a b) (hc : Cmd a c) (hl : (outsB a b c).length < 4000) : n__law_follows [eA a, eB b, .int c] = ok (1, .lst ((followsF a b c).map eRow)) := by
  have h1 := n_law_answers_ev v hb hc hl
  have h := lcL_all (kk := 0) (vs := [3]) (tg := gNm 3) (tt := tYesF) (el := r__law_follows_e1) D.int (fun o => eRow (o, afterF a b c o)) (env := [.sh (eA a), .sh (eB b), .sh (.int c), .un]) (answersF a b c) (by
    intro o _
    have h2 := n_law_after_ev v o hb hc hl
    simp [r__law_follows_e1, h2, eRow])
  have hlen : (answersF a b c).length ≤ 1000000 := by
    unfold answersF uniq
    have h3 : (srt (dedup ((outsB a b c).map h0))).length = (dedup ((outsB a b c).map h0)).length := by unfold srt; exact List.length_mergeSort _
    have h4 : ∀ ns : List Int, (dedup ns).length ≤ ns.length := by
      intro ns
      induction ns with
      | nil => exact Nat.le_refl _
      | cons n ns ih => unfold dedup; split <;> simp <;> omega
    have := h4 ((outsB a b c).map h0)
    rw [List.length_map] at this
    omega
  simp [n__law_follows, r__law_follows, h1, h, hlen, followsF]
  rfl
/-! ### beliefs: the program's side -/
theorem n_has_bad_ev (a : Ar) (b : List Int) (hl : b.length ≤ 1000000) : n_has_bad [eAr a, eB b] = ok (0, .bl (hasBad a b)) := by
  have h := lcL_all (kk := 0) (vs := [2]) (tg := gNm 2) (tt := tYesF) (el := r_has_bad_e1) D.int (fun x => .bl (isBad a x)) (env := [.sh (eAr a), .sh (.tup (b.map .int)), .un]) b (by
    intro x _
    have := n_is_bad_ev a x
    simp [r_has_bad_e1, this])
  have q : eB b = .tup (b.map .int) := rfl
  have := gAny_map (fun x => isBad a x) b
  simp [n_has_bad, r_has_bad, q, h, hl, hasBad, this]
/-- the dict that next_beliefs fills -/
abbrev Fd := List (Int × List Int)
def insK (f : Fd) (o : Int) : Fd := if o ∈ f.map (·.1) then f else f ++ [(o, [])]
def insE (f : Fd) (o y : Int) : Fd := f.map fun p => if p.1 = o then (p.1, if y ∈ p.2 then p.2 else p.2 ++ [y]) else p
def insF (f : Fd) (m : Outc) : Fd := insE (insK f (h0 m)) (h0 m) m.2
def eSet (l : List Int) : D := .dct false (l.map .int) (l.map fun _ => .bl true)
def eFd (f : Fd) : D := .dct false (f.map fun p => .int p.1) (f.map fun p => eSet p.2)
structure FdOk (f : Fd) (n : Nat) : Prop where
  nd : (f.map (·.1)).Nodup
  nl : f.length ≤ n
  vd : ∀ p ∈ f, p.2.Nodup ∧ p.2.length ≤ n
theorem insE_keys (f : Fd) (o y : Int) : (insE f o y).map (·.1) = f.map (·.1) := by
  unfold insE
  rw [List.map_map]
  apply List.map_congr_left
  intro p _
  simp only [Function.comp_apply]
  split <;> rfl
theorem insK_ok {f : Fd} {n : Nat} (h : FdOk f n) (o : Int) : FdOk (insK f o) (n + 1) := by
  unfold insK
  split
  · exact ⟨h.nd, by have := h.nl; omega, fun p m => ⟨(h.vd p m).1, by have := (h.vd p m).2; omega⟩⟩
  · rename_i ho
    refine ⟨?_, by have := h.nl; simp; omega, fun p m => ?_⟩
    · rw [List.map_append]
      exact List.nodup_append.mpr ⟨h.nd, by simp, fun x hx y hy e => ho (by simp at hy; rw [← hy, ← e]; exact hx)⟩
    · rcases List.mem_append.mp m with m | m
      · exact ⟨(h.vd p m).1, by have := (h.vd p m).2; omega⟩
      · simp at m; subst m; simp
theorem insE_ok {f : Fd} {n : Nat} (h : FdOk f n) (hv : ∀ p ∈ f, p.2.length < n) (o y : Int) : FdOk (insE f o y) n := by
  refine ⟨by rw [insE_keys]; exact h.nd, by unfold insE; rw [List.length_map]; exact h.nl, fun p m => ?_⟩
  unfold insE at m
  obtain ⟨q, hq, rfl⟩ := List.mem_map.mp m
  have h1 := h.vd q hq
  have h2 := hv q hq
  split
  · dsimp only
    split
    · exact h1
    · rename_i hy
      refine ⟨List.nodup_append.mpr ⟨h1.1, by simp, fun x hx z hz e => hy (by simp at hz; rw [← hz, ← e]; exact hx)⟩, ?_⟩
      simp; omega
  · exact h1
theorem insF_ok {f : Fd} {n : Nat} (h : FdOk f n) (m : Outc) : FdOk (insF f m) (n + 1) := by
  unfold insF
  refine insE_ok (insK_ok h _) (fun p hp => ?_) _ _
  unfold insK at hp
  split at hp
  · have := (h.vd p hp).2; omega
  · rcases List.mem_append.mp hp with hp | hp
    · have := (h.vd p hp).2; omega
    · simp at hp; subst hp; simp
end K
namespace K
open PySem PySem.Spec PyProof.Rows L2 VL
/-! ### drawn arenas -/
/-- what a drawn arena is: outcomes of at most 3 -/
structure Drawn (off n m : Nat) (mv : List Entry) : Prop where
  row : ∀ e ∈ mv, e = [] ∨ e.length = m
  few : ∀ e ∈ mv, ∀ l ∈ e, 1 ≤ l.length ∧ l.length ≤ 3
  out : ∀ e ∈ mv, ∀ l ∈ e, ∀ o ∈ l, OutcOk off n o
theorem cmdsF_of {m : Nat} (hm : 1 ≤ m) : ∀ {mv : List Entry}, (∀ e ∈ mv, e = [] ∨ e.length = m) → (cmdsF mv = m ∨ (cmdsF mv = 1 ∧ ∀ e ∈ mv, e = []))
  | [], _ => .inr ⟨rfl, fun e h => nomatch h⟩
  | e :: mv, h => by
    unfold cmdsF
    rw [List.findSome?_cons]
    rcases h e List.mem_cons_self with he | he
    · subst he
      rcases cmdsF_of hm fun e m => h e (List.mem_cons_of_mem _ m) with q | ⟨q, q2⟩
      · exact .inl q
      · refine .inr ⟨q, fun e' m => ?_⟩
        rcases List.mem_cons.mp m with m | m
        · exact m
        · exact q2 e' m
    · have : e.isEmpty = false := by
        cases e with
        | nil => simp at he; omega
        | cons x xs => rfl
      rw [this]
      exact .inl he
theorem drawn_ok {off n m : Nat} {mv : List Entry} {bad : List Int} (h : Drawn off n m mv) (hn : mv.length = n) (n1 : 1 ≤ n) (n2 : n ≤ 4000) (o1 : 1 ≤ off) (o2 : off ≤ 3) (m1 : 1 ≤ m) (m2 : m ≤ 4) (ha : bad.Pairwise (· < ·)) (hb : ∀ x ∈ bad, 0 ≤ x ∧ x < n) : (Ar.mk off mv bad).Ok := by
  have hc := cmdsF_of m1 h.row
  refine ⟨by dsimp only; omega, by dsimp only; omega, by dsimp only; rcases hc with q | ⟨q, _⟩ <;> omega, fun e he => ?_, fun e he => ?_, ha, fun x hx => by dsimp only; rw [hn]; exact hb x hx⟩
  · rcases hc with q | ⟨_, q⟩
    · rcases h.row e he with r | r
      · exact .inl r
      · exact .inr (by dsimp only; rw [q]; exact r)
    · exact .inl (q e he)
  · refine ⟨fun l hl => ⟨(h.few e he l hl).1, by have := (h.few e he l hl).2; omega⟩, fun l hl o ho => ?_⟩
    dsimp only
    rw [hn]
    exact h.out e he l hl o ho
/-- one outcome is drawn -/
theorem da_b1 {n off x : Nat} (n1 : 1 ≤ n) (n2 : n ≤ 1000) (hx : x < n) (ho : off ≤ 3) (P : Pool) (loops : Bool) (C : D) (g5 g7 g8 g9 g10 g12 g13 g14 : SV) (outs : List Outc) (hl : outs.length ≤ 10) (i5 : isIo g5 = false) (i7 : isIo g7 = false) (i8 : isIo g8 = false) (i9 : isIo g9 = false) (i10 : isIo g10 = false) (i12 : isIo g12 = false) (i13 : isIo g13 = false) (i14 : nOw g14 = true) :
    ∃ P' o h13, OutcOk off n o ∧ isIo h13 = false ∧ r__law_draw_arena_b1 [.io 0 (eP P), .sh (.int n), .sh C, .sh (.int off), .sh (.bl loops), g5, .sh (.int x), g7, g8, g9, g10, .ow 0 (eOs outs), g12, g13, g14] =
      ok (.nx, [.io 0 (eP P'), .sh (.int n), .sh C, .sh (.int off), .sh (.bl loops), g5, .sh (.int x), g7, g8, g9, g10, .ow 0 (eOs (outs ++ [o])), g12, h13, g14]) := by
  obtain ⟨y, P1, hy, y0, y1⟩ := n_law_draw_ev P n (by omega) (by omega)
  have fin : ∀ (P2 : Pool) (y : Int), 0 ≤ y → y < n → ∃ P' o, OutcOk off n o ∧ sExpr (eApp 11 0 (eTup (aCons (eTupC (aCons (eLc 0 [14] (iRng1F (raCons (rV 3) aNil)) (gNm 14) tYesF r__law_draw_arena_e1) aNil)) (aCons (eV 13) aNil)))) [.io 0 (eP P2), .sh (.int n), .sh C, .sh (.int off), .sh (.bl loops), g5, .sh (.int x), g7, g8, g9, g10, .ow 0 (eOs outs), g12, .sh (.int y), g14] =
      ok (.nx, [.io 0 (eP P'), .sh (.int n), .sh C, .sh (.int off), .sh (.bl loops), g5, .sh (.int x), g7, g8, g9, g10, .ow 0 (eOs (outs ++ [o])), g12, .sh (.int y), g14]) := by
    intro P2 y y0 y1
    obtain ⟨is, e', h1, ⟨P3, rfl⟩, h3, h4⟩ := lcL_ex (kk := 0) (vs := [14]) (tg := gNm 14) (tt := tYesF) (el := r__law_draw_arena_e1) (fun i : Nat => D.int i) (fun e => ∃ P, e = [.io 0 (eP P), .sh (.int n), .sh C, .sh (.int off), .sh (.bl loops), g5, .sh (.int x), g7, g8, g9, g10, .ow 0 (eOs outs), g12, .sh (.int y), .un]) (fun _ i => 0 ≤ i ∧ i < 3) (List.range off) [.io 0 (eP P2), .sh (.int n), .sh C, .sh (.int off), .sh (.bl loops), g5, .sh (.int x), g7, g8, g9, g10, .ow 0 (eOs outs), g12, .sh (.int y), .un] ⟨P2, rfl⟩ (by
      rintro k _ _ ⟨P, rfl⟩
      obtain ⟨r, P', hr, r0, r1⟩ := n_law_draw_ev P 3 (by decide) (by decide)
      exact ⟨r, [.io 0 (eP P'), .sh (.int n), .sh C, .sh (.int off), .sh (.bl loops), g5, .sh (.int x), g7, g8, g9, g10, .ow 0 (eOs outs), g12, .sh (.int y), .un], by simp [r__law_draw_arena_e1, hr], ⟨P', rfl⟩, r0, r1⟩)
    have hir := fun e => irg1_ok (j := (off : Int)) (by omega) (by omega) e
    have hoff : off ≤ 1000000 := by omega
    have q : ∀ l, eOs l = .lst (l.map eO) := fun _ => rfl
    have hout : outs.length < 1000000 := by omega
    refine ⟨P3, (is, y), ⟨by simp [h3], y0, y1, fun h hh => ?_⟩, ?_⟩
    · obtain ⟨_, _, a, b⟩ := h4 h hh; omega
    · rw [q] at h1
      simp [hir, hoff, i14, h1, q, hout, eO, ioB_skip i5, ioB_skip i7, ioB_skip i8, ioB_skip i9, ioB_skip i10, ioB_skip i12, ioB_skip (nOw_io i14)]
  cases loops with
  | true =>
    obtain ⟨P', o, h1, h2⟩ := fin P1 y y0 y1
    refine ⟨P', o, .sh (.int y), h1, rfl, ?_⟩
    rw [← h2]
    simp [r__law_draw_arena_b1, hy, i13, ioB_skip i5, ioB_skip i7, ioB_skip i8, ioB_skip i9, ioB_skip i10, ioB_skip i12, ioB_skip i13]
  | false =>
    obtain ⟨z, P2, hz, z0, z1⟩ := n_law_draw_ev P1 2 (by decide) (by decide)
    obtain ⟨P', o, h1, h2⟩ := fin P2 (if (x : Int) + 1 + z < n - 1 then (x : Int) + 1 + z else n - 1) (by split <;> omega) (by split <;> omega)
    refine ⟨P', o, .sh (.int (if (x : Int) + 1 + z < n - 1 then (x : Int) + 1 + z else n - 1)), h1, rfl, ?_⟩
    rw [← h2]
    simp [r__law_draw_arena_b1, hy, hz, i13, ioB_skip i5, ioB_skip i7, ioB_skip i8, ioB_skip i9, ioB_skip i10, ioB_skip i12, ioB_skip i13]

theorem da_b2 {n off x : Nat} (n1 : 1 ≤ n) (n2 : n ≤ 1000) (hx : x < n) (ho : off ≤ 3) (P : Pool) (loops : Bool) (C : D) (g5 g7 g9 g10 g11 g12 g13 g14 : SV) (row : Entry) (hl : row.length ≤ 10) (i5 : isIo g5 = false) (i7 : isIo g7 = false) (i9 : isIo g9 = false) (i10 : isIo g10 = false) (i11 : isIo g11 = false) (i12 : isIo g12 = false) (i13 : isIo g13 = false) (i14 : nOw g14 = true) :
    ∃ P' l h11 h12 h13, (1 ≤ l.length ∧ l.length ≤ 3) ∧ (∀ o ∈ l, OutcOk off n o) ∧ isIo h11 = false ∧ isIo h12 = false ∧ isIo h13 = false ∧ r__law_draw_arena_b2 [.io 0 (eP P), .sh (.int n), .sh C, .sh (.int off), .sh (.bl loops), g5, .sh (.int x), g7, .ow 0 (eE row), g9, g10, g11, g12, g13, g14] =
      ok (.nx, [.io 0 (eP P'), .sh (.int n), .sh C, .sh (.int off), .sh (.bl loops), g5, .sh (.int x), g7, .ow 0 (eE (row ++ [l])), g9, g10, h11, h12, h13, g14]) := by
  obtain ⟨r, P1, hr, r0, r1⟩ := n_law_draw_ev P 3 (by decide) (by decide)
  have hir := fun e => irg1_ok (j := 1 + r) (by omega) (by omega) e
  obtain ⟨e', he, P2, outs, h12, h13, rfl, hlen, hok, j12, j13⟩ := forL_split (tg := gNm 12) (s := r__law_draw_arena_b1) (fun i : Nat => D.int i) (fun pre e => ∃ P outs g12 g13, e = [.io 0 (eP P), .sh (.int n), .sh C, .sh (.int off), .sh (.bl loops), g5, .sh (.int x), g7, .ow 0 (eE row), g9, g10, .ow 0 (eOs outs), g12, g13, g14] ∧ outs.length = pre.length ∧ (∀ o ∈ outs, OutcOk off n o) ∧ isIo g12 = false ∧ isIo g13 = false) (List.range (1 + r).toNat) [.io 0 (eP P1), .sh (.int n), .sh C, .sh (.int off), .sh (.bl loops), g5, .sh (.int x), g7, .ow 0 (eE row), g9, g10, .ow 0 (eOs []), g12, g13, g14] ⟨P1, [], g12, g13, rfl, rfl, fun o h => (nomatch h), i12, i13⟩ (by
    rintro pre k suf _ hs ⟨P, outs, g12, g13, rfl, hlen, hok, i12, i13⟩
    have hk : pre.length < (1 + r).toNat := by
      have := congrArg List.length hs
      simp at this
      omega
    obtain ⟨P', o, h13, q1, q2, q3⟩ := da_b1 n1 n2 hx ho P loops C g5 g7 (.ow 0 (eE row)) g9 g10 (.sh (.int k)) g13 g14 outs (by omega) i5 i7 rfl i9 i10 rfl i13 i14
    exact ⟨[.io 0 (eP P), .sh (.int n), .sh C, .sh (.int off), .sh (.bl loops), g5, .sh (.int x), g7, .ow 0 (eE row), g9, g10, .ow 0 (eOs outs), .sh (.int k), g13, g14], _, by simp [i12], .inl q3, ⟨P', outs ++ [o], .sh (.int k), h13, rfl, by simp [hlen], fun o' ho' => by
      rcases List.mem_append.mp ho' with m | m
      · exact hok o' m
      · rw [List.mem_singleton.mp m]; exact q1, rfl, q2⟩⟩)
  rw [List.length_range] at hlen
  have q0 : eOs [] = .lst [] := rfl
  have qr : ∀ l, eE l = .lst (l.map eOs) := fun _ => rfl
  rw [q0, qr] at he
  have hrl : row.length < 1000000 := by omega
  refine ⟨P2, outs, .sh (eOs outs), h12, h13, ⟨by omega, by omega⟩, hok, rfl, j12, j13, ?_⟩
  simp [r__law_draw_arena_b2, i11, hr, hir, qr, he, hrl, ioB_skip i5, ioB_skip i7, ioB_skip i9, ioB_skip i10, ioB_skip i11, ioB_skip i12, ioB_skip i13, ioB_skip (nOw_io i14), ioB_skip j12, ioB_skip j13]
theorem da_b3 {n off x m : Nat} (n1 : 1 ≤ n) (n2 : n ≤ 1000) (hx : x < n) (ho : off ≤ 3) (hm : m ≤ 4) (P : Pool) (loops : Bool) (g6 g7 g8 g9 g10 g11 g12 g13 g14 : SV) (mv : List Entry) (hl : mv.length ≤ 1000) (e6 : g6 = .sh (.int x)) (i7 : isIo g7 = false) (i8 : isIo g8 = false) (i9 : isIo g9 = false) (i10 : isIo g10 = false) (i11 : isIo g11 = false) (i12 : isIo g12 = false) (i13 : isIo g13 = false) (i14 : nOw g14 = true) :
    ∃ P' e h8 h9 h10 h11 h12 h13, (e = [] ∨ e.length = m) ∧ (∀ l ∈ e, 1 ≤ l.length ∧ l.length ≤ 3) ∧ (∀ l ∈ e, ∀ o ∈ l, OutcOk off n o) ∧ isIo h8 = false ∧ isIo h9 = false ∧ isIo h10 = false ∧ isIo h11 = false ∧ isIo h12 = false ∧ isIo h13 = false ∧
      r__law_draw_arena_b3 [.io 0 (eP P), .sh (.int n), .sh (.int m), .sh (.int off), .sh (.bl loops), .ow 0 (eMv mv), g6, g7, g8, g9, g10, g11, g12, g13, g14] =
      ok (.nx, [.io 0 (eP P'), .sh (.int n), .sh (.int m), .sh (.int off), .sh (.bl loops), .ow 0 (eMv (mv ++ [e])), g6, g7, h8, h9, h10, h11, h12, h13, g14]) := by
  subst e6
  obtain ⟨b, P1, hb⟩ := n_law_chance_ev P 1 6 (by decide) (by decide)
  have loop : ∀ (dead : Bool), ∃ P' e h10 h11 h12 h13, (e = [] ∨ e.length = m) ∧ (∀ l ∈ e, 1 ≤ l.length ∧ l.length ≤ 3) ∧ (∀ l ∈ e, ∀ o ∈ l, OutcOk off n o) ∧ isIo h10 = false ∧ isIo h11 = false ∧ isIo h12 = false ∧ isIo h13 = false ∧
      forL (gNm 10) r__law_draw_arena_b2 ((List.range (m * (if dead then 0 else 1))).map fun i : Nat => .int i) [.io 0 (eP P1), .sh (.int n), .sh (.int m), .sh (.int off), .sh (.bl loops), .ow 0 (eMv mv), .sh (.int x), g7, .ow 0 (eE []), .sh (.bl dead), g10, g11, g12, g13, g14] = ok (.nx, [.io 0 (eP P'), .sh (.int n), .sh (.int m), .sh (.int off), .sh (.bl loops), .ow 0 (eMv mv), .sh (.int x), g7, .ow 0 (eE e), .sh (.bl dead), h10, h11, h12, h13, g14]) := by
    intro dead
    obtain ⟨e', he, P2, row, h10, h11, h12, h13, rfl, hlen, hfew, hok, j10, j11, j12, j13⟩ := forL_split (tg := gNm 10) (s := r__law_draw_arena_b2) (fun i : Nat => D.int i) (fun pre e => ∃ P row g10 g11 g12 g13, e = [.io 0 (eP P), .sh (.int n), .sh (.int m), .sh (.int off), .sh (.bl loops), .ow 0 (eMv mv), .sh (.int x), g7, .ow 0 (eE row), .sh (.bl dead), g10, g11, g12, g13, g14] ∧ row.length = pre.length ∧ (∀ l ∈ row, 1 ≤ l.length ∧ l.length ≤ 3) ∧ (∀ l ∈ row, ∀ o ∈ l, OutcOk off n o) ∧ isIo g10 = false ∧ isIo g11 = false ∧ isIo g12 = false ∧ isIo g13 = false) (List.range (m * (if dead then 0 else 1))) [.io 0 (eP P1), .sh (.int n), .sh (.int m), .sh (.int off), .sh (.bl loops), .ow 0 (eMv mv), .sh (.int x), g7, .ow 0 (eE []), .sh (.bl dead), g10, g11, g12, g13, g14] ⟨P1, [], g10, g11, g12, g13, rfl, rfl, fun l h => (nomatch h), fun l h => (nomatch h), i10, i11, i12, i13⟩ (by
      rintro pre k suf _ hs ⟨P, row, g10, g11, g12, g13, rfl, hlen, hfew, hok, i10, i11, i12, i13⟩
      have hk : pre.length < m * (if dead then 0 else 1) := by
        have := congrArg List.length hs
        simp at this
        cases dead <;> simp at this ⊢ <;> omega
      have hk2 : row.length ≤ 10 := by
        cases dead <;> simp at hk <;> omega
      obtain ⟨P', l, h11, h12, h13, q1, q2, q3, q4, q5, q6⟩ := da_b2 n1 n2 hx ho P loops (.int m) (.ow 0 (eMv mv)) g7 (.sh (.bl dead)) (.sh (.int k)) g11 g12 g13 g14 row hk2 rfl i7 rfl rfl i11 i12 i13 i14
      exact ⟨[.io 0 (eP P), .sh (.int n), .sh (.int m), .sh (.int off), .sh (.bl loops), .ow 0 (eMv mv), .sh (.int x), g7, .ow 0 (eE row), .sh (.bl dead), .sh (.int k), g11, g12, g13, g14], _, by simp [i10], .inl q6, ⟨P', row ++ [l], .sh (.int k), h11, h12, h13, rfl, by simp [hlen], fun l' hl' => by
        rcases List.mem_append.mp hl' with w | w
        · exact hfew l' w
        · rw [List.mem_singleton.mp w]; exact q1, fun l' hl' => by
        rcases List.mem_append.mp hl' with w | w
        · exact hok l' w
        · rw [List.mem_singleton.mp w]; exact q2, rfl, q3, q4, q5⟩⟩)
    rw [List.length_range] at hlen
    refine ⟨P2, row, h10, h11, h12, h13, ?_, hfew, hok, j10, j11, j12, j13, he⟩
    cases dead
    · right; simpa using hlen
    · left; simp at hlen; exact hlen
  have qm : ∀ l, eMv l = .lst (l.map eE) := fun _ => rfl
  have q0 : eE [] = .lst [] := rfl
  have hml : mv.length < 1000000 := by omega
  have fin : ∀ dead : Bool, (∀ X : VL.Env → SR, sSeq (sAsg 9 (ofT (tOrF (tAndF (toT (eCallI 2 0 1 n__law_chance (aCons (eC (.int 1)) (aCons (eC (.int 6)) aNil)))) (toT (eOp gGt (rV 6) (rdR (eC (.int 0)))))) (tAndF (tNotF (toT (eV 4))) (toT (eOp gEq (rV 6) (rdR (eOp gSub (rV 1) (rdR (eC (.int 1))))))))))) X [.io 0 (eP P), .sh (.int n), .sh (.int m), .sh (.int off), .sh (.bl loops), .ow 0 (eMv mv), .sh (.int x), g7, .ow 0 (.lst []), g9, g10, g11, g12, g13, g14] = X [.io 0 (eP P1), .sh (.int n), .sh (.int m), .sh (.int off), .sh (.bl loops), .ow 0 (eMv mv), .sh (.int x), g7, .ow 0 (.lst []), .sh (.bl dead), g10, g11, g12, g13, g14]) → ∃ P' e h8 h9 h10 h11 h12 h13, (e = [] ∨ e.length = m) ∧ (∀ l ∈ e, 1 ≤ l.length ∧ l.length ≤ 3) ∧ (∀ l ∈ e, ∀ o ∈ l, OutcOk off n o) ∧ isIo h8 = false ∧ isIo h9 = false ∧ isIo h10 = false ∧ isIo h11 = false ∧ isIo h12 = false ∧ isIo h13 = false ∧
      r__law_draw_arena_b3 [.io 0 (eP P), .sh (.int n), .sh (.int m), .sh (.int off), .sh (.bl loops), .ow 0 (eMv mv), .sh (.int x), g7, g8, g9, g10, g11, g12, g13, g14] =
      ok (.nx, [.io 0 (eP P'), .sh (.int n), .sh (.int m), .sh (.int off), .sh (.bl loops), .ow 0 (eMv (mv ++ [e])), .sh (.int x), g7, h8, h9, h10, h11, h12, h13, g14]) := by
    intro dead hX
    obtain ⟨P', e, h10, h11, h12, h13, a1, a2, a3, j10, j11, j12, j13, hf⟩ := loop dead
    refine ⟨P', e, .sh (eE e), .sh (.bl dead), h10, h11, h12, h13, a1, a2, a3, rfl, rfl, j10, j11, j12, j13, ?_⟩
    unfold r__law_draw_arena_b3
    rw [sSeq_ev]
    have first : sAsg 8 (eLst0 0) [.io 0 (eP P), .sh (.int n), .sh (.int m), .sh (.int off), .sh (.bl loops), .ow 0 (eMv mv), .sh (.int x), g7, g8, g9, g10, g11, g12, g13, g14] = ok (.nx, [.io 0 (eP P), .sh (.int n), .sh (.int m), .sh (.int off), .sh (.bl loops), .ow 0 (eMv mv), .sh (.int x), g7, .ow 0 (.lst []), g9, g10, g11, g12, g13, g14]) := by simp [i8]
    rw [first, bd_ok]
    dsimp only
    rw [hX]
    have hmul := gMul_ii (i := (m : Int)) (j := if (!dead) = true then 1 else 0) (.inr (by cases dead <;> decide))
    have hr : ((m : Int) * (if (!dead) = true then 1 else 0)).toNat = m * (if dead then 0 else 1) := by cases dead <;> simp
    have hir := fun e => irg1_ok (j := (m : Int) * (if (!dead) = true then 1 else 0)) (by cases dead <;> simp <;> omega) (by cases dead <;> simp <;> omega) e
    rw [hr] at hir
    rw [q0] at hf
    generalize hM : (m : Int) * (if (!dead) = true then 1 else 0) = M at hmul hir
    generalize hR : m * (if dead then 0 else 1) = R at hir hf
    rw [qm] at hf ⊢
    cases dead <;> simp at hmul <;> simp [hmul, hir, hf, qm, hml, ioB_skip i7, ioB_skip i10, ioB_skip i11, ioB_skip i12, ioB_skip i13, ioB_skip (nOw_io i14), ioB_skip j10, ioB_skip j11, ioB_skip j12, ioB_skip j13]
  refine fin ((b && decide ((0 : Int) < x)) || (!loops && decide ((x : Int) = n - 1))) fun X => ?_
  cases b <;> cases loops <;> by_cases h : 0 < x <;> simp [hb, i9, h]

theorem sub_range {n : Nat} {ys : List Nat} (h : ys.Sublist (List.range n)) : ((ys.map fun i : Nat => (i : Int)).Pairwise (· < ·)) ∧ ∀ x ∈ ys.map (fun i : Nat => (i : Int)), 0 ≤ x ∧ x < (n : Int) := by
  constructor
  · rw [List.pairwise_map]
    exact (List.Pairwise.sublist h List.pairwise_lt_range).imp fun h => by omega
  · intro x hx
    obtain ⟨i, hi, rfl⟩ := List.mem_map.mp hx
    have := List.mem_range.mp (h.subset hi)
    exact ⟨by omega, by omega⟩
theorem n_draw_arena_ev {n off m : Nat} (n1 : 1 ≤ n) (n2 : n ≤ 1000) (ho : off ≤ 3) (hm : m ≤ 4) (P : Pool) (loops : Bool) :
    ∃ mv bad P', n__law_draw_arena [.int n, .int m, .int off, .bl loops] (eP P) = ok (0, eA ⟨off, mv, bad⟩, eP P') ∧ Drawn off n m mv ∧ mv.length = n ∧ bad.Pairwise (· < ·) ∧ ∀ x ∈ bad, 0 ≤ x ∧ x < n := by
  obtain ⟨e', he, P2, mv, h6, h8, h9, h10, h11, h12, h13, rfl, hlen, hrow, hfew, hok, j6, j8, j9, j10, j11, j12, j13⟩ := forL_split (tg := gNm 6) (s := r__law_draw_arena_b3) (fun i : Nat => D.int i) (fun pre e => ∃ P mv g6 g8 g9 g10 g11 g12 g13, e = [.io 0 (eP P), .sh (.int n), .sh (.int m), .sh (.int off), .sh (.bl loops), .ow 0 (eMv mv), g6, .un, g8, g9, g10, g11, g12, g13, .un] ∧ mv.length = pre.length ∧ (∀ e ∈ mv, e = [] ∨ e.length = m) ∧ (∀ e ∈ mv, ∀ l ∈ e, 1 ≤ l.length ∧ l.length ≤ 3) ∧ (∀ e ∈ mv, ∀ l ∈ e, ∀ o ∈ l, OutcOk off n o) ∧ nOw g6 = true ∧ isIo g8 = false ∧ isIo g9 = false ∧ isIo g10 = false ∧ isIo g11 = false ∧ isIo g12 = false ∧ isIo g13 = false) (List.range n) [.io 0 (eP P), .sh (.int n), .sh (.int m), .sh (.int off), .sh (.bl loops), .ow 0 (eMv []), .un, .un, .un, .un, .un, .un, .un, .un, .un] ⟨P, [], .un, .un, .un, .un, .un, .un, .un, rfl, rfl, fun e h => (nomatch h), fun e h => (nomatch h), fun e h => (nomatch h), rfl, rfl, rfl, rfl, rfl, rfl, rfl⟩ (by
    rintro pre x suf _ hs ⟨P, mv, g6, g8, g9, g10, g11, g12, g13, rfl, hlen, hrow, hfew, hok, i6, i8, i9, i10, i11, i12, i13⟩
    have hx : x < n := by
      have : x ∈ List.range n := by rw [hs]; simp
      exact List.mem_range.mp this
    have hk : pre.length < n := by
      have := congrArg List.length hs
      simp at this
      omega
    obtain ⟨P', e, h8, h9, h10, h11, h12, h13, q1, q2, q3, j8, j9, j10, j11, j12, j13, q⟩ := da_b3 n1 n2 hx ho hm P loops (.sh (.int x)) .un g8 g9 g10 g11 g12 g13 .un mv (by omega) rfl rfl i8 i9 i10 i11 i12 i13 rfl
    exact ⟨[.io 0 (eP P), .sh (.int n), .sh (.int m), .sh (.int off), .sh (.bl loops), .ow 0 (eMv mv), .sh (.int x), .un, g8, g9, g10, g11, g12, g13, .un], _, by simp [nOw_io i6], .inl q, ⟨P', mv ++ [e], .sh (.int x), h8, h9, h10, h11, h12, h13, rfl, by simp [hlen], fun e' he' => by
      rcases List.mem_append.mp he' with w | w
      · exact hrow e' w
      · rw [List.mem_singleton.mp w]; exact q1, fun e' he' => by
      rcases List.mem_append.mp he' with w | w
      · exact hfew e' w
      · rw [List.mem_singleton.mp w]; exact q2, fun e' he' => by
      rcases List.mem_append.mp he' with w | w
      · exact hok e' w
      · rw [List.mem_singleton.mp w]; exact q3, rfl, j8, j9, j10, j11, j12, j13⟩⟩)
  rw [List.length_range] at hlen
  obtain ⟨ys, e2, hc, ⟨P3, rfl⟩, hsub⟩ := lcL_some (kk := 0) (vs := [6]) (tg := gNm 6) (tt := r__law_draw_arena_c1) (el := r__law_draw_arena_e2) (fun i : Nat => D.int i) (fun e => ∃ P, e = [.io 0 (eP P), .sh (.int n), .sh (.int m), .sh (.int off), .sh (.bl loops), .ow 0 (eMv mv), .un, .un, h8, h9, h10, h11, h12, h13, .un]) (List.range n) [.io 0 (eP P2), .sh (.int n), .sh (.int m), .sh (.int off), .sh (.bl loops), .ow 0 (eMv mv), .un, .un, h8, h9, h10, h11, h12, h13, .un] ⟨P2, rfl⟩ (by
    rintro x _ _ ⟨P, rfl⟩
    obtain ⟨b, P1, hb⟩ := n_law_chance_ev P 1 4 (by decide) (by decide)
    obtain ⟨b2, P4, hb2⟩ := n_law_chance_ev P1 1 8 (by decide) (by decide)
    cases b with
    | false => exact ⟨false, [.io 0 (eP P1), .sh (.int n), .sh (.int m), .sh (.int off), .sh (.bl loops), .ow 0 (eMv mv), .un, .un, h8, h9, h10, h11, h12, h13, .un], by simp [r__law_draw_arena_c1, r__law_draw_arena_e2, hb], P1, rfl⟩
    | true =>
      by_cases hx : 0 < x
      · exact ⟨true, [.io 0 (eP P1), .sh (.int n), .sh (.int m), .sh (.int off), .sh (.bl loops), .ow 0 (eMv mv), .un, .un, h8, h9, h10, h11, h12, h13, .un], by simp [r__law_draw_arena_c1, r__law_draw_arena_e2, hb, hx], P1, rfl⟩
      · exact ⟨b2, [.io 0 (eP P4), .sh (.int n), .sh (.int m), .sh (.int off), .sh (.bl loops), .ow 0 (eMv mv), .un, .un, h8, h9, h10, h11, h12, h13, .un], by cases b2 <;> simp [r__law_draw_arena_c1, r__law_draw_arena_e2, hb, hx, hb2], P4, rfl⟩)
  have hs := sub_range hsub
  refine ⟨mv, ys.map fun i : Nat => (i : Int), P3, ?_, ⟨hrow, hfew, hok⟩, hlen, hs.1, hs.2⟩
  have hir := fun e => irg1_ok (j := (n : Int)) (by omega) (by omega) e
  have qm : eMv [] = .lst [] := rfl
  rw [qm] at he
  have hnl : n ≤ 1000000 := by omega
  have i6' := nOw_io j6
  have ea : eA ⟨off, mv, ys.map fun i : Nat => (i : Int)⟩ = .tup [.int off, eMv mv, .lst (ys.map fun i : Nat => D.int i)] := by unfold eA; simp [List.map_map]
  rw [ea]
  simp [n__law_draw_arena, r__law_draw_arena, hir, he, j6, hnl, hc, ioB_skip (nOw_io j6), ioB_skip j8, ioB_skip j9, ioB_skip j10, ioB_skip j11, ioB_skip j12, ioB_skip j13]
  exact outI_rt rfl
end K
namespace K
open PySem PySem.Spec PyProof.Rows L2 VL
/-! ### arenas with traps -/
theorem tr_b1 {n x : Nat} {nu : Int} (n1 : 1 ≤ n) (n2 : n ≤ 1000) (hx : x < n) (u1 : 1 ≤ nu) (u2 : nu ≤ 3) (P : Pool) (ringed : Bool) (M : D) (g5 g7 g11 g12 : SV) (lu : Int) (c : Nat) (outs : List Outc) (hl : outs.length ≤ 10) (i5 : isIo g5 = false) (i7 : isIo g7 = false) (i11 : isIo g11 = false) (i12 : isIo g12 = false) :
    ∃ P' o h12, OutcOk 1 (n + 1 : Nat) o ∧ isIo h12 = false ∧ r__law_draw_traps_b1 [.io 0 (eP P), .sh (.int n), .sh M, .sh (.bl ringed), .sh (.int nu), g5, .sh (.int x), g7, .sh (.int lu), .sh (.int c), .ow 0 (eOs outs), g11, g12] =
      ok (.nx, [.io 0 (eP P'), .sh (.int n), .sh M, .sh (.bl ringed), .sh (.int nu), g5, .sh (.int x), g7, .sh (.int lu), .sh (.int c), .ow 0 (eOs (outs ++ [o])), g11, h12]) := by
  have q : ∀ l, eOs l = .lst (l.map eO) := fun _ => rfl
  have hout : outs.length < 1000000 := by omega
  have fin : ∀ (P2 : Pool) (y : Int), 0 ≤ y → y ≤ n → ∃ P' o, OutcOk 1 (n + 1 : Nat) o ∧ sExpr (eApp 10 0 (eTup (aCons (eTup (aCons (eCallI 1 0 1 n__law_draw (aCons (eV 4) aNil)) aNil)) (aCons (eV 12) aNil)))) [.io 0 (eP P2), .sh (.int n), .sh M, .sh (.bl ringed), .sh (.int nu), g5, .sh (.int x), g7, .sh (.int lu), .sh (.int c), .ow 0 (eOs outs), g11, .sh (.int y)] =
      ok (.nx, [.io 0 (eP P'), .sh (.int n), .sh M, .sh (.bl ringed), .sh (.int nu), g5, .sh (.int x), g7, .sh (.int lu), .sh (.int c), .ow 0 (eOs (outs ++ [o])), g11, .sh (.int y)]) := by
    intro P2 y y0 y1
    obtain ⟨r, P3, hr, r0, r1⟩ := n_law_draw_ev P2 nu (by omega) (by omega)
    refine ⟨P3, ([r], y), ⟨rfl, y0, by simp; omega, fun h hh => ?_⟩, ?_⟩
    · simp at hh; subst hh; omega
    · simp [hr, q, hout, eO, ioB_skip i5, ioB_skip i7, ioB_skip i11]
  obtain ⟨z, P1, hz, z0, z1⟩ := n_law_draw_ev P 2 (by decide) (by decide)
  have hmin : 0 ≤ (if (x : Int) + 1 + z < n - 1 then (x : Int) + 1 + z else n - 1) ∧ (if (x : Int) + 1 + z < n - 1 then (x : Int) + 1 + z else n - 1) ≤ n := by split <;> omega
  generalize hy : (if (x : Int) + 1 + z < n - 1 then (x : Int) + 1 + z else n - 1) = y at hmin
  -- behind the ring
  have mid : ∀ (P2 : Pool) (y : Int), 0 ≤ y → y ≤ n → ∃ P' o h12, OutcOk 1 (n + 1 : Nat) o ∧ isIo h12 = false ∧ sSeq (sIf (tAndF (tOpT gNe (rV 9) (rV 8)) (tTru (rdR (eCallI 2 0 1 n__law_chance (aCons (eC (.int 1)) (aCons (eC (.int 4)) aNil))))))
    (sAsg 12 (eV 1))
    sNil)
    (sExpr (eApp 10 0 (eTup (aCons (eTup (aCons (eCallI 1 0 1 n__law_draw (aCons (eV 4) aNil)) aNil)) (aCons (eV 12) aNil))))) [.io 0 (eP P2), .sh (.int n), .sh M, .sh (.bl ringed), .sh (.int nu), g5, .sh (.int x), g7, .sh (.int lu), .sh (.int c), .ow 0 (eOs outs), g11, .sh (.int y)] =
      ok (.nx, [.io 0 (eP P'), .sh (.int n), .sh M, .sh (.bl ringed), .sh (.int nu), g5, .sh (.int x), g7, .sh (.int lu), .sh (.int c), .ow 0 (eOs (outs ++ [o])), g11, h12]) := by
    intro P2 y y0 y1
    by_cases hc : (c : Int) = lu
    · obtain ⟨P', o, h1, h2⟩ := fin P2 y y0 y1
      refine ⟨P', o, .sh (.int y), h1, rfl, ?_⟩
      rw [← h2, sSeq_ev]
      simp [hc]
    · obtain ⟨b, P3, hb⟩ := n_law_chance_ev P2 1 4 (by decide) (by decide)
      cases b with
      | false =>
        obtain ⟨P', o, h1, h2⟩ := fin P3 y y0 y1
        refine ⟨P', o, .sh (.int y), h1, rfl, ?_⟩
        rw [← h2, sSeq_ev]
        simp [hc, hb]
      | true =>
        obtain ⟨P', o, h1, h2⟩ := fin P3 n (by omega) (by omega)
        refine ⟨P', o, .sh (.int n), h1, rfl, ?_⟩
        rw [← h2, sSeq_ev]
        simp [hc, hb]
  cases ringed with
  | false =>
    obtain ⟨P', o, h12, h1, j12, h2⟩ := mid P1 y hmin.1 hmin.2
    refine ⟨P', o, h12, h1, j12, ?_⟩
    rw [← h2]
    unfold r__law_draw_traps_b1
    rw [sSeq_ev]
    simp only [sAsg_ev, eCallB_ev, aCons_ev, eOp_ev, bin_ev, rV_ev, slot_1, dat_sh, opt_some, bd_ok, rdR_ev, eC_ev, gSub_ii, slot_6, gAdd_ii, eCallI_ev, slot_0, own_io, aNil_ev, lenQ_ev, List.length_cons, List.length_nil, if_true, hz, sput_io, List.set_cons_zero, gMin2_ii, hy]
    simp [hz, i12]
  | true =>
    obtain ⟨w, P3, hw, w0, w1⟩ := n_law_draw_ev P1 n (by omega) (by omega)
    obtain ⟨P', o, h12, h1, j12, h2⟩ := mid P3 w w0 (by omega)
    refine ⟨P', o, h12, h1, j12, ?_⟩
    rw [← h2]
    unfold r__law_draw_traps_b1
    rw [sSeq_ev]
    simp [hz, hw, i12]

theorem tr_b2 {n x : Nat} {nu : Int} (n1 : 1 ≤ n) (n2 : n ≤ 1000) (hx : x < n) (u1 : 1 ≤ nu) (u2 : nu ≤ 3) (P : Pool) (ringed : Bool) (M : D) (g5 g10 g11 g12 : SV) (lu : Int) (c : Nat) (row : Entry) (hl : row.length ≤ 10) (i5 : isIo g5 = false) (i10 : isIo g10 = false) (i11 : isIo g11 = false) (i12 : isIo g12 = false) :
    ∃ P' l h10 h11 h12, (1 ≤ l.length ∧ l.length ≤ 3) ∧ (∀ o ∈ l, OutcOk 1 (n + 1 : Nat) o) ∧ isIo h10 = false ∧ isIo h11 = false ∧ isIo h12 = false ∧ r__law_draw_traps_b2 [.io 0 (eP P), .sh (.int n), .sh M, .sh (.bl ringed), .sh (.int nu), g5, .sh (.int x), .ow 0 (eE row), .sh (.int lu), .sh (.int c), g10, g11, g12] =
      ok (.nx, [.io 0 (eP P'), .sh (.int n), .sh M, .sh (.bl ringed), .sh (.int nu), g5, .sh (.int x), .ow 0 (eE (row ++ [l])), .sh (.int lu), .sh (.int c), h10, h11, h12]) := by
  obtain ⟨r, P1, hr, r0, r1⟩ := n_law_draw_ev P 3 (by decide) (by decide)
  have hir := fun e => irg1_ok (j := 1 + r) (by omega) (by omega) e
  obtain ⟨e', he, P2, outs, h11, h12, rfl, hlen, hok, j11, j12⟩ := forL_split (tg := gNm 11) (s := r__law_draw_traps_b1) (fun i : Nat => D.int i) (fun pre e => ∃ P outs g11 g12, e = [.io 0 (eP P), .sh (.int n), .sh M, .sh (.bl ringed), .sh (.int nu), g5, .sh (.int x), .ow 0 (eE row), .sh (.int lu), .sh (.int c), .ow 0 (eOs outs), g11, g12] ∧ outs.length = pre.length ∧ (∀ o ∈ outs, OutcOk 1 (n + 1 : Nat) o) ∧ isIo g11 = false ∧ isIo g12 = false) (List.range (1 + r).toNat) [.io 0 (eP P1), .sh (.int n), .sh M, .sh (.bl ringed), .sh (.int nu), g5, .sh (.int x), .ow 0 (eE row), .sh (.int lu), .sh (.int c), .ow 0 (eOs []), g11, g12] ⟨P1, [], g11, g12, rfl, rfl, fun o h => (nomatch h), i11, i12⟩ (by
    rintro pre k suf _ hs ⟨P, outs, g11, g12, rfl, hlen, hok, i11, i12⟩
    have hk : pre.length < (1 + r).toNat := by
      have := congrArg List.length hs
      simp at this
      omega
    obtain ⟨P', o, h12, q1, q2, q3⟩ := tr_b1 n1 n2 hx u1 u2 P ringed M g5 (.ow 0 (eE row)) (.sh (.int k)) g12 lu c outs (by omega) i5 rfl rfl i12
    exact ⟨[.io 0 (eP P), .sh (.int n), .sh M, .sh (.bl ringed), .sh (.int nu), g5, .sh (.int x), .ow 0 (eE row), .sh (.int lu), .sh (.int c), .ow 0 (eOs outs), .sh (.int k), g12], _, by simp [i11], .inl q3, ⟨P', outs ++ [o], .sh (.int k), h12, rfl, by simp [hlen], fun o' ho' => by
      rcases List.mem_append.mp ho' with m | m
      · exact hok o' m
      · rw [List.mem_singleton.mp m]; exact q1, rfl, q2⟩⟩)
  rw [List.length_range] at hlen
  have q0 : eOs [] = .lst [] := rfl
  have qr : ∀ l, eE l = .lst (l.map eOs) := fun _ => rfl
  rw [q0, qr] at he
  have hrl : row.length < 1000000 := by omega
  refine ⟨P2, outs, .sh (eOs outs), h11, h12, ⟨by omega, by omega⟩, hok, rfl, j11, j12, ?_⟩
  simp [r__law_draw_traps_b2, i10, hr, hir, qr, he, hrl, ioB_skip i5, ioB_skip i10, ioB_skip i11, ioB_skip i12, ioB_skip j11, ioB_skip j12]
theorem tr_b3 {n x m : Nat} {nu : Int} (n1 : 1 ≤ n) (n2 : n ≤ 1000) (hx : x < n) (u1 : 1 ≤ nu) (u2 : nu ≤ 3) (m1 : 1 ≤ m) (hm : m ≤ 4) (P : Pool) (ringed : Bool) (g7 g8 g9 g10 g11 g12 : SV) (mv : List Entry) (hl : mv.length ≤ 1000) (i7 : isIo g7 = false) (i8 : isIo g8 = false) (i9 : isIo g9 = false) (i10 : isIo g10 = false) (i11 : isIo g11 = false) (i12 : isIo g12 = false) :
    ∃ P' e h7 h8 h9 h10 h11 h12, (e = [] ∨ e.length = m) ∧ (∀ l ∈ e, 1 ≤ l.length ∧ l.length ≤ 3) ∧ (∀ l ∈ e, ∀ o ∈ l, OutcOk 1 (n + 1 : Nat) o) ∧ isIo h7 = false ∧ isIo h8 = false ∧ isIo h9 = false ∧ isIo h10 = false ∧ isIo h11 = false ∧ isIo h12 = false ∧
      r__law_draw_traps_b3 [.io 0 (eP P), .sh (.int n), .sh (.int m), .sh (.bl ringed), .sh (.int nu), .ow 0 (eMv mv), .sh (.int x), g7, g8, g9, g10, g11, g12] =
      ok (.nx, [.io 0 (eP P'), .sh (.int n), .sh (.int m), .sh (.bl ringed), .sh (.int nu), .ow 0 (eMv (mv ++ [e])), .sh (.int x), h7, h8, h9, h10, h11, h12]) := by
  obtain ⟨lu, P1, hlu, _, _⟩ := n_law_draw_ev P m (by omega) (by omega)
  obtain ⟨e', he, P2, row, h9, h10, h11, h12, rfl, hlen, hfew, hok, j9, j10, j11, j12⟩ := forL_split (tg := gNm 9) (s := r__law_draw_traps_b2) (fun i : Nat => D.int i) (fun pre e => ∃ P row g9 g10 g11 g12, e = [.io 0 (eP P), .sh (.int n), .sh (.int m), .sh (.bl ringed), .sh (.int nu), .ow 0 (eMv mv), .sh (.int x), .ow 0 (eE row), .sh (.int lu), g9, g10, g11, g12] ∧ row.length = pre.length ∧ (∀ l ∈ row, 1 ≤ l.length ∧ l.length ≤ 3) ∧ (∀ l ∈ row, ∀ o ∈ l, OutcOk 1 (n + 1 : Nat) o) ∧ isIo g9 = false ∧ isIo g10 = false ∧ isIo g11 = false ∧ isIo g12 = false) (List.range m) [.io 0 (eP P1), .sh (.int n), .sh (.int m), .sh (.bl ringed), .sh (.int nu), .ow 0 (eMv mv), .sh (.int x), .ow 0 (eE []), .sh (.int lu), g9, g10, g11, g12] ⟨P1, [], g9, g10, g11, g12, rfl, rfl, fun l h => (nomatch h), fun l h => (nomatch h), i9, i10, i11, i12⟩ (by
    rintro pre k suf _ hs ⟨P, row, g9, g10, g11, g12, rfl, hlen, hfew, hok, i9, i10, i11, i12⟩
    have hk : pre.length < m := by
      have := congrArg List.length hs
      simp at this
      omega
    obtain ⟨P', l, h10, h11, h12, q1, q2, q3, q4, q5, q6⟩ := tr_b2 n1 n2 hx u1 u2 P ringed (.int m) (.ow 0 (eMv mv)) g10 g11 g12 lu k row (by omega) rfl i10 i11 i12
    exact ⟨[.io 0 (eP P), .sh (.int n), .sh (.int m), .sh (.bl ringed), .sh (.int nu), .ow 0 (eMv mv), .sh (.int x), .ow 0 (eE row), .sh (.int lu), .sh (.int k), g10, g11, g12], _, by simp [i9], .inl q6, ⟨P', row ++ [l], .sh (.int k), h10, h11, h12, rfl, by simp [hlen], fun l' hl' => by
      rcases List.mem_append.mp hl' with w | w
      · exact hfew l' w
      · rw [List.mem_singleton.mp w]; exact q1, fun l' hl' => by
      rcases List.mem_append.mp hl' with w | w
      · exact hok l' w
      · rw [List.mem_singleton.mp w]; exact q2, rfl, q3, q4, q5⟩⟩)
  rw [List.length_range] at hlen
  have q0 : eE [] = .lst [] := rfl
  have qm : ∀ l, eMv l = .lst (l.map eE) := fun _ => rfl
  have hml : mv.length < 1000000 := by omega
  have hir := fun e => irg1_ok (j := (m : Int)) (by omega) (by omega) e
  rw [qm, q0] at he
  by_cases hc : ringed = true ∨ (x : Int) < n - 1
  · refine ⟨P2, row, .sh (eE row), .sh (.int lu), h9, h10, h11, h12, .inr hlen, hfew, hok, rfl, rfl, j9, j10, j11, j12, ?_⟩
    cases ringed with
    | true => simp [r__law_draw_traps_b3, i7, i8, hlu, hir, he, hml, qm, ioB_skip i7, ioB_skip i8, ioB_skip i9, ioB_skip i10, ioB_skip i11, ioB_skip i12, ioB_skip j9, ioB_skip j10, ioB_skip j11, ioB_skip j12]
    | false =>
      have hc : (x : Int) < n - 1 := by simpa using hc
      simp [r__law_draw_traps_b3, i7, i8, hlu, hir, he, hml, hc, qm, ioB_skip i7, ioB_skip i8, ioB_skip i9, ioB_skip i10, ioB_skip i11, ioB_skip i12, ioB_skip j9, ioB_skip j10, ioB_skip j11, ioB_skip j12]
  · refine ⟨P2, [], .ow 0 (eE row), .sh (.int lu), h9, h10, h11, h12, .inl rfl, fun l h => (nomatch h), fun l h => (nomatch h), rfl, rfl, j9, j10, j11, j12, ?_⟩
    have hr : ringed = false := by
      cases ringed with
      | true => exact absurd (.inl rfl) hc
      | false => rfl
    subst hr
    have hc : ¬ (x : Int) < n - 1 := fun h => hc (.inr h)
    simp [r__law_draw_traps_b3, i7, i8, hlu, hir, he, hml, hc, qm, q0, ioB_skip i7, ioB_skip i8, ioB_skip i9, ioB_skip i10, ioB_skip i11, ioB_skip i12, ioB_skip j9, ioB_skip j10, ioB_skip j11, ioB_skip j12]
theorem n_draw_traps_ev (P : Pool) : ∃ n m mv P', 3 ≤ n ∧ n ≤ 8 ∧ 1 ≤ m ∧ m ≤ 3 ∧ n__law_draw_traps [] (eP P) = ok (0, eA ⟨1, mv, [(n : Nat)]⟩, eP P') ∧ Drawn 1 (n + 1) m mv ∧ mv.length = n + 1 := by
  obtain ⟨a, P1, ha, a0, a1⟩ := n_law_draw_ev P 6 (by decide) (by decide)
  obtain ⟨b, P2, hb, b0, b1⟩ := n_law_draw_ev P1 3 (by decide) (by decide)
  obtain ⟨ringed, P3, hr⟩ := n_law_chance_ev P2 1 3 (by decide) (by decide)
  obtain ⟨d, P4, hd, d0, d1⟩ := n_law_draw_ev P3 3 (by decide) (by decide)
  obtain ⟨n, hn⟩ : ∃ n : Nat, 3 + a = (n : Int) := ⟨(3 + a).toNat, by omega⟩
  obtain ⟨m, hm⟩ : ∃ m : Nat, 1 + b = (m : Int) := ⟨(1 + b).toNat, by omega⟩
  generalize hnu : 1 + d = nu at *
  obtain ⟨e', he, P5, mv, h6, h7, h8, h9, h10, h11, h12, rfl, hlen, hrow, hfew, hok, j6, j7, j8, j9, j10, j11, j12⟩ := forL_split (tg := gNm 6) (s := r__law_draw_traps_b3) (fun i : Nat => D.int i) (fun pre e => ∃ P mv g6 g7 g8 g9 g10 g11 g12, e = [.io 0 (eP P), .sh (.int n), .sh (.int m), .sh (.bl ringed), .sh (.int nu), .ow 0 (eMv mv), g6, g7, g8, g9, g10, g11, g12] ∧ mv.length = pre.length ∧ (∀ e ∈ mv, e = [] ∨ e.length = m) ∧ (∀ e ∈ mv, ∀ l ∈ e, 1 ≤ l.length ∧ l.length ≤ 3) ∧ (∀ e ∈ mv, ∀ l ∈ e, ∀ o ∈ l, OutcOk 1 (n + 1 : Nat) o) ∧ isIo g6 = false ∧ isIo g7 = false ∧ isIo g8 = false ∧ isIo g9 = false ∧ isIo g10 = false ∧ isIo g11 = false ∧ isIo g12 = false) (List.range n) [.io 0 (eP P4), .sh (.int n), .sh (.int m), .sh (.bl ringed), .sh (.int nu), .ow 0 (eMv []), .un, .un, .un, .un, .un, .un, .un] ⟨P4, [], .un, .un, .un, .un, .un, .un, .un, rfl, rfl, fun e h => (nomatch h), fun e h => (nomatch h), fun e h => (nomatch h), rfl, rfl, rfl, rfl, rfl, rfl, rfl⟩ (by
    rintro pre x suf _ hs ⟨P, mv, g6, g7, g8, g9, g10, g11, g12, rfl, hlen, hrow, hfew, hok, i6, i7, i8, i9, i10, i11, i12⟩
    have hx : x < n := by
      have : x ∈ List.range n := by rw [hs]; simp
      exact List.mem_range.mp this
    have hk : pre.length < n := by
      have := congrArg List.length hs
      simp at this
      omega
    obtain ⟨P', e, h7, h8, h9, h10, h11, h12, q1, q2, q3, j7, j8, j9, j10, j11, j12, q⟩ := tr_b3 (n := n) (nu := nu) (by omega) (by omega) hx (by omega) (by omega) (m := m) (by omega) (by omega) P ringed g7 g8 g9 g10 g11 g12 mv (by omega) i7 i8 i9 i10 i11 i12
    exact ⟨[.io 0 (eP P), .sh (.int n), .sh (.int m), .sh (.bl ringed), .sh (.int nu), .ow 0 (eMv mv), .sh (.int x), g7, g8, g9, g10, g11, g12], _, by simp [i6], .inl q, ⟨P', mv ++ [e], .sh (.int x), h7, h8, h9, h10, h11, h12, rfl, by simp [hlen], fun e' he' => by
      rcases List.mem_append.mp he' with w | w
      · exact hrow e' w
      · rw [List.mem_singleton.mp w]; exact q1, fun e' he' => by
      rcases List.mem_append.mp he' with w | w
      · exact hfew e' w
      · rw [List.mem_singleton.mp w]; exact q2, fun e' he' => by
      rcases List.mem_append.mp he' with w | w
      · exact hok e' w
      · rw [List.mem_singleton.mp w]; exact q3, rfl, j7, j8, j9, j10, j11, j12⟩⟩)
  rw [List.length_range] at hlen
  have hir := fun e => irg1_ok (j := (n : Int)) (by omega) (by omega) e
  have qm0 : eMv [] = .lst [] := rfl
  rw [qm0] at he
  have qm : eMv mv = .lst (mv.map eE) := rfl
  have hml : mv.length + 1 ≤ 1000000 := by omega
  have ea : eA ⟨1, mv ++ [[]], [(n : Int)]⟩ = .tup [.int 1, .lst (mv.map eE ++ [.lst []]), .lst [.int n]] := by unfold eA eMv; simp [eE]
  refine ⟨n, m, mv ++ [[]], P5, by omega, by omega, by omega, by omega, ?_, ⟨fun e he => ?_, fun e he => ?_, fun e he => ?_⟩, by simp [hlen]⟩
  · rw [ea]
    simp [n__law_draw_traps, r__law_draw_traps, ha, hb, hr, hd, hn, hm, hnu, hir, he, qm, hml]
    exact outI_rt rfl
  · rcases List.mem_append.mp he with w | w
    · exact hrow e w
    · exact .inl (List.mem_singleton.mp w)
  · rcases List.mem_append.mp he with w | w
    · exact hfew e w
    · rw [List.mem_singleton.mp w]; intro l h; cases h
  · rcases List.mem_append.mp he with w | w
    · exact hok e w
    · rw [List.mem_singleton.mp w]; intro l h; cases h
end K
namespace K
open PySem PySem.Spec PyProof.Rows L2 VL
/-! ### next_beliefs -/
theorem store_true {t : Bool} {α : Type} [DecidableEq α] {ek : α → D} {qk : α → Sum Key (List Key)} (K : KEn t ek qk) (x : D) {ks : List α} {k : α} (nd : ks.Nodup) (c : ks.length < 1000000) :
    D.store (.dct t (ks.map ek) (ks.map fun _ => x)) (ek k) x = some (.dct t ((if k ∈ ks then ks else ks ++ [k]).map ek) ((if k ∈ ks then ks else ks ++ [k]).map fun _ => x)) := by
  by_cases h : k ∈ ks
  · obtain ⟨j, hj, e⟩ := List.mem_iff_getElem.mp h
    rw [K.old nd (by rw [List.getElem?_eq_getElem hj, e]) c, if_pos h]
    congr 2
    apply List.ext_getElem?
    intro i
    rw [List.getElem?_set]
    split
    · rename_i hij; subst hij
      simp [hj]
    · rfl
  · rw [K.new (by simp) h c, if_neg h, List.map_append (f := fun _ => x)]
    rfl
theorem insK_keys (f : Fd) (o : Int) : ∃ j : Nat, ((insK f o).map (·.1))[j]? = some o := by
  unfold insK
  split
  · rename_i h
    obtain ⟨j, hj, e⟩ := List.mem_iff_getElem.mp h
    exact ⟨j, by rw [List.getElem?_eq_getElem hj, e]⟩
  · refine ⟨f.length, ?_⟩
    rw [List.map_append, List.getElem?_append_right (by simp)]
    simp
theorem set_upd {α β : Type} (g : α → β) (u : α → α) (p : α → Bool) : ∀ (f : List α) (j : Nat) (x : α), f[j]? = some x → p x = true → (∀ (i : Nat) (y : α), f[i]? = some y → p y = true → i = j) → (f.map g).set j (g (u x)) = (f.map fun y => if p y then u y else y).map g
  | [], j, x, h, _, _ => by simp at h
  | a :: f, 0, x, h, hp, hu => by
    simp at h; subst h
    rw [List.map_cons, List.set_cons_zero, List.map_cons, List.map_cons, if_pos hp]
    congr 1
    rw [List.map_map]
    apply List.map_congr_left
    intro y hy
    obtain ⟨i, hi, e⟩ := List.mem_iff_getElem.mp hy
    simp only [Function.comp_apply]
    by_cases hpy : p y = true
    · exact absurd (hu (i + 1) y (by simp [hi, e]) hpy) (by omega)
    · rw [if_neg hpy]
  | a :: f, j + 1, x, h, hp, hu => by
    rw [List.map_cons, List.set_cons_succ, List.map_cons, List.map_cons]
    have ha : ¬ p a = true := fun z => absurd (hu 0 a rfl z) (by omega)
    rw [if_neg ha]
    congr 1
    exact set_upd g u p f j x (by simpa using h) hp fun i y hi hy => by have := hu (i + 1) y (by simpa using hi) hy; omega
theorem key_uniq {f : Fd} (nd : (f.map (·.1)).Nodup) {j : Nat} {x : Int × List Int} (h : f[j]? = some x) (i : Nat) (y : Int × List Int) (hi : f[i]? = some y) (e : y.1 = x.1) : i = j := by
  obtain ⟨h1, e1⟩ := List.getElem?_eq_some_iff.mp h
  obtain ⟨h2, e2⟩ := List.getElem?_eq_some_iff.mp hi
  exact nodup_inj (l := f.map (·.1)) (hi := by simpa using h2) (hj := by simpa using h1) nd (by simp [e1, e2, e])
theorem fd_find {f : Fd} {o : Int} (nd : (f.map (·.1)).Nodup) {j : Nat} {x : Int × List Int} (h : f[j]? = some x) (e : x.1 = o) : dfind false (f.map fun p => D.int p.1) (.inl (.inl o)) = some j := by
  have : (f.map fun p => D.int p.1) = (f.map (·.1)).map D.int := by rw [List.map_map]; rfl
  rw [this, ken_int.find]
  obtain ⟨h1, e1⟩ := List.getElem?_eq_some_iff.mp h
  rw [List.findIdx?_eq_some_iff_getElem]
  refine ⟨by simpa using h1, by simp [e1, e], fun i hi => ?_⟩
  simp only [decide_eq_true_eq]
  intro ei
  have h2 : i < f.length := by omega
  have := key_uniq nd h i f[i] (List.getElem?_eq_getElem h2) (by simp at ei; rw [ei, e])
  omega
/-- one outcome is noted -/
theorem next_b1 {f : Fd} (hf : FdOk f 1000) (m : Outc) (hm : D.ix (.tup (m.1.map .int)) (.int 0) = some (.int (h0 m))) (A B C : D) (g4 g7 : SV) (i4 : isIo g4 = false) (i7 : isIo g7 = false) :
    r_next_beliefs_b1 [.sh A, .sh B, .sh C, .ow 1 (eFd f), g4, .sh (.tup (m.1.map .int)), .sh (.int m.2), g7] = ok (.nx, [.sh A, .sh B, .sh C, .ow 1 (eFd (insF f m)), g4, .sh (.tup (m.1.map .int)), .sh (.int m.2), g7]) := by
  have kfd : ∀ f : Fd, (f.map fun p => D.int p.1) = (f.map (·.1)).map D.int := fun f => by rw [List.map_map]; rfl
  have s1 : ∀ X, X = (if h0 m ∈ f.map (·.1) then (ok (.nx, [.sh A, .sh B, .sh C, .ow 1 (eFd f), g4, .sh (.tup (m.1.map .int)), .sh (.int m.2), g7]) : SR) else ok (.nx, [.sh A, .sh B, .sh C, .ow 1 (eFd (f ++ [(h0 m, [])])), g4, .sh (.tup (m.1.map .int)), .sh (.int m.2), g7])) → X = ok (.nx, [.sh A, .sh B, .sh C, .ow 1 (eFd (insK f (h0 m))), g4, .sh (.tup (m.1.map .int)), .sh (.int m.2), g7]) := fun X e => by
    rw [e]; unfold insK; split <;> rfl
  have hn := ken_int.notin (f.map (·.1)) (f.map fun p => eSet p.2) (h0 m) (by simp)
  rw [← kfd] at hn
  have first : sIf (tOpT gNotIn (bin D.ix (rV 5) (rdR (eC (.int 0)))) (rV 3)) (sSetP 3 1 (eDct0 0 false) (pNm 3) (bin D.ix (rV 5) (rdR (eC (.int 0))))) sNil [.sh A, .sh B, .sh C, .ow 1 (eFd f), g4, .sh (.tup (m.1.map .int)), .sh (.int m.2), g7] = ok (.nx, [.sh A, .sh B, .sh C, .ow 1 (eFd (insK f (h0 m))), g4, .sh (.tup (m.1.map .int)), .sh (.int m.2), g7]) := by
    apply s1
    have fe : eFd f = .dct false (f.map fun p => .int p.1) (f.map fun p => eSet p.2) := rfl
    by_cases h : h0 m ∈ f.map (·.1)
    · rw [if_pos h]
      have h' : ∃ x, (h0 m, x) ∈ f := by simpa using h
      simp [fe, hn, hm, h']
    · rw [if_neg h]
      have hnew := ken_int.new (ks := f.map (·.1)) (vs := f.map fun p => eSet p.2) (k := h0 m) (x := eSet []) (by simp) h (by have := hf.nl; simp; omega)
      rw [← kfd] at hnew
      have e0 : eSet [] = .dct false [] [] := rfl
      rw [e0] at hnew
      have h' : ¬ ∃ x, (h0 m, x) ∈ f := by simpa using h
      simp [fe, hn, hm, h', hnew, eFd, e0]
      rfl
  have hf1 := insK_ok hf (h0 m)
  obtain ⟨j, hj⟩ := insK_keys f (h0 m)
  rw [List.getElem?_map] at hj
  cases hp : (insK f (h0 m))[j]? with
  | none => rw [hp] at hj; cases hj
  | some p =>
    rw [hp] at hj
    have e1 : p.1 = h0 m := Option.some.inj hj
    have fnd := fd_find hf1.nd hp e1
    have pm : p ∈ insK f (h0 m) := List.mem_of_getElem? hp
    have st := store_true ken_int (.bl true) (ks := p.2) (k := m.2) (hf1.vd p pm).1 (by have := (hf1.vd p pm).2; omega)
    have kk : D.kix (eFd (insK f (h0 m))) (.int (h0 m)) = some j := by
      unfold eFd D.kix
      simp only
      rw [show kOf false (D.int (h0 m)) = some (.inl (.inl (h0 m))) from rfl, Option.bind_some, fnd]
    have kd : (eFd (insK f (h0 m))).kid j = some (eSet p.2) := by
      unfold eFd
      rw [kid_dct, List.getElem?_map, hp]
      rfl
    have stt : D.store (eSet p.2) (.int m.2) (.bl true) = some (eSet (if m.2 ∈ p.2 then p.2 else p.2 ++ [m.2])) := st
    have fin : setD [j] (eFd (insK f (h0 m))) (eSet (if m.2 ∈ p.2 then p.2 else p.2 ++ [m.2])) = eFd (insF f m) := by
      rw [setD_one kd]
      have e2 := set_upd (fun p : Int × List Int => eSet p.2) (fun p => (p.1, if m.2 ∈ p.2 then p.2 else p.2 ++ [m.2])) (fun p => decide (p.1 = h0 m)) (insK f (h0 m)) j p hp (by simp [e1]) fun i y hi hy => key_uniq hf1.nd hp i y hi (by simp at hy; rw [hy, e1])
      simp only [decide_eq_true_eq] at e2
      have e3 : ((insK f (h0 m)).map fun p => D.int p.1) = ((insF f m).map fun p => D.int p.1) := by
        rw [kfd, kfd]
        unfold insF
        rw [insE_keys]
      unfold eFd
      rw [setKid_dct, e2, e3]
      rfl
    have sd := subD_one j (eFd (insK f (h0 m)))
    rw [kd] at sd
    unfold r_next_beliefs_b1
    rw [sSeq_ev, first]
    simp [hm, kk, sd, stt, fin]

def noted (ms : List Outc) : Fd := ms.foldl insF []
theorem noted_app (p q : List Outc) : noted (p ++ q) = q.foldl insF (noted p) := by unfold noted; rw [List.foldl_append]
theorem noted_snoc (p : List Outc) (m : Outc) : noted (p ++ [m]) = insF (noted p) m := noted_app p [m]
structure FdSp (ms : List Outc) (f : Fd) : Prop where
  k : ∀ o, o ∈ f.map (·.1) ↔ ∃ m ∈ ms, h0 m = o
  v : ∀ p ∈ f, ∀ y, y ∈ p.2 ↔ ∃ m ∈ ms, h0 m = p.1 ∧ m.2 = y
theorem insF_sp {ms : List Outc} {f : Fd} (h : FdSp ms f) (m : Outc) : FdSp (ms ++ [m]) (insF f m) := by
  have kk : ∀ o, o ∈ (insK f (h0 m)).map (·.1) ↔ ∃ m' ∈ ms ++ [m], h0 m' = o := fun o => by
    have := h.k o
    unfold insK
    split
    · rename_i hm
      have hm := (h.k _).mp hm
      rw [this]
      constructor
      · rintro ⟨m', h1, h2⟩; exact ⟨m', List.mem_append_left _ h1, h2⟩
      · rintro ⟨m', h1, h2⟩
        rcases List.mem_append.mp h1 with h1 | h1
        · exact ⟨m', h1, h2⟩
        · simp at h1; subst h1; obtain ⟨m2, h3, h4⟩ := hm; exact ⟨m2, h3, h4.trans h2⟩
    · rw [List.map_append, List.mem_append, this]
      constructor
      · rintro (⟨m', h1, h2⟩ | h1)
        · exact ⟨m', List.mem_append_left _ h1, h2⟩
        · simp at h1; exact ⟨m, by simp, h1.symm⟩
      · rintro ⟨m', h1, h2⟩
        rcases List.mem_append.mp h1 with h1 | h1
        · exact .inl ⟨m', h1, h2⟩
        · simp at h1; subst h1; exact .inr (by simp [h2])
  have kv : ∀ p ∈ insK f (h0 m), ∀ y, y ∈ p.2 ↔ ∃ m' ∈ ms, h0 m' = p.1 ∧ m'.2 = y := fun p hp y => by
    unfold insK at hp
    split at hp
    · exact h.v p hp y
    · rename_i hm
      rcases List.mem_append.mp hp with hp | hp
      · exact h.v p hp y
      · simp at hp; subst hp
        simp only [List.not_mem_nil, false_iff]
        rintro ⟨m', h1, h2, _⟩
        exact hm ((h.k _).mpr ⟨m', h1, h2⟩)
  refine ⟨fun o => ?_, fun p hp y => ?_⟩
  · unfold insF; rw [insE_keys]; exact kk o
  · unfold insF insE at hp
    obtain ⟨q, hq, rfl⟩ := List.mem_map.mp hp
    have hv := kv q hq y
    split
    · rename_i e
      dsimp only
      have key : y ∈ q.2 ∨ y = m.2 ↔ ∃ m' ∈ ms ++ [m], h0 m' = q.1 ∧ m'.2 = y := by
        rw [hv]
        constructor
        · rintro (⟨m', h1, h2⟩ | h1)
          · exact ⟨m', List.mem_append_left _ h1, h2⟩
          · exact ⟨m, by simp, e.symm, h1.symm⟩
        · rintro ⟨m', h1, h2, h3⟩
          rcases List.mem_append.mp h1 with h1 | h1
          · exact .inl ⟨m', h1, h2, h3⟩
          · simp at h1; subst h1; exact .inr h3.symm
      rw [← key]
      split
      · rename_i hy
        constructor
        · exact .inl
        · rintro (z | z)
          · exact z
          · rw [z]; exact hy
      · simp
    · rename_i e
      rw [hv]
      constructor
      · rintro ⟨m', h1, h2⟩; exact ⟨m', List.mem_append_left _ h1, h2⟩
      · rintro ⟨m', h1, h2, h3⟩
        rcases List.mem_append.mp h1 with h1 | h1
        · exact ⟨m', h1, h2, h3⟩
        · simp at h1; subst h1; exact absurd h2.symm e
theorem noted_ok (ms : List Outc) : FdOk (noted ms) ms.length ∧ FdSp ms (noted ms) := by
  have gen : ∀ (q p : List Outc), FdOk (noted p) p.length ∧ FdSp p (noted p) → FdOk (noted (p ++ q)) (p ++ q).length ∧ FdSp (p ++ q) (noted (p ++ q)) := by
    intro q
    induction q with
    | nil => intro p h; rw [List.append_nil]; exact h
    | cons m q ih =>
      intro p h
      have := ih (p ++ [m]) ⟨by rw [noted_snoc, List.length_append]; exact insF_ok h.1 m, by rw [noted_snoc]; exact insF_sp h.2 m⟩
      rw [List.append_assoc] at this
      exact this
  exact gen ms [] ⟨⟨List.nodup_nil, Nat.le_refl _, fun p m => (nomatch m)⟩, ⟨fun o => by simp [noted], fun p m => (nomatch m)⟩⟩
theorem FdOk.mono {f : Fd} {n k : Nat} (h : FdOk f n) (l : n ≤ k) : FdOk f k := ⟨h.nd, Nat.le_trans h.nl l, fun p m => ⟨(h.vd p m).1, Nat.le_trans (h.vd p m).2 l⟩⟩
theorem next_b2 {a : Ar} (v : a.Ok) {x c : Int} (hx : Nod a x) (hc : Cmd a c) (p : List Outc) (B : D) (g5 g6 : SV) (i5 : isIo g5 = false) (i6 : isIo g6 = false) (hl : (p ++ outsAt a x c).length ≤ 1000) :
    ∃ h5 h6, isIo h5 = false ∧ isIo h6 = false ∧ r_next_beliefs_b2 [.sh (eAr a), .sh B, .sh (.int c), .ow 1 (eFd (noted p)), .sh (.int x), g5, g6, .un] = ok (.nx, [.sh (eAr a), .sh B, .sh (.int c), .ow 1 (eFd (noted (p ++ outsAt a x c))), .sh (.int x), h5, h6, .un]) := by
  have ho := n_outcomes_ev v hx hc
  obtain ⟨e', he, h5, h6, rfl, j5, j6⟩ := forL_split (tg := (gTp 2 (gsCons (gNm 5) (gsCons (gNm 6) gsNil)))) (s := r_next_beliefs_b1) eO (fun pre e => ∃ g5 g6, e = [.sh (eAr a), .sh B, .sh (.int c), .ow 1 (eFd (noted (p ++ pre))), .sh (.int x), g5, g6, .un] ∧ isIo g5 = false ∧ isIo g6 = false) (outsAt a x c) [.sh (eAr a), .sh B, .sh (.int c), .ow 1 (eFd (noted p)), .sh (.int x), g5, g6, .un] ⟨g5, g6, by rw [List.append_nil], i5, i6⟩ (by
    rintro pre m suf _ hs ⟨g5, g6, rfl, i5, i6⟩
    have hm := (outsAt_ok v (x := x) (c := c) (o := m) (by rw [hs]; simp)).h0 v
    refine ⟨[.sh (eAr a), .sh B, .sh (.int c), .ow 1 (eFd (noted (p ++ pre))), .sh (.int x), .sh (.tup (m.1.map .int)), .sh (.int m.2), .un], _, by simp [eO, i5, i6], .inl (next_b1 ((noted_ok (p ++ pre)).1.mono (by rw [hs] at hl; simp at hl ⊢; omega)) m hm _ _ _ _ _ rfl rfl), ⟨.sh (.tup (m.1.map .int)), .sh (.int m.2), ?_, rfl, rfl⟩⟩
    rw [← noted_snoc, List.append_assoc])
  refine ⟨h5, h6, j5, j6, ?_⟩
  have q : eOs (outsAt a x c) = .lst ((outsAt a x c).map eO) := rfl
  simp [r_next_beliefs_b2, ho, q, he]
theorem lookup_nd {α β : Type} [DecidableEq α] : ∀ {f : List (α × β)}, (f.map (·.1)).Nodup → ∀ {p : α × β}, p ∈ f → f.lookup p.1 = some p.2
  | [], _, _, h => nomatch h
  | q :: f, nd, p, h => by
    rw [List.map_cons, List.nodup_cons] at nd
    rw [List.lookup_cons]
    rcases List.mem_cons.mp h with h | h
    · subst h; simp
    · have : (p.1 == q.1) = false := by
        rw [beq_eq_false_iff_ne]
        intro e
        exact nd.1 (List.mem_map.mpr ⟨p, h, e⟩)
      rw [this]
      exact lookup_nd nd.2 h
theorem srt_perm_eq {xs ys : List Int} (h : xs.Nodup) (hm : ∀ k, k ∈ xs ↔ k ∈ ys) : srt xs = uniq ys := by
  have tr : ∀ (a b c : Int), decide (a ≤ b) = true → decide (b ≤ c) = true → decide (a ≤ c) = true := by
    intro a b c; simp only [decide_eq_true_eq]; omega
  have to : ∀ (a b : Int), (decide (a ≤ b) || decide (b ≤ a)) = true := by
    intro a b; simp only [Bool.or_eq_true, decide_eq_true_eq]; omega
  have hp := List.mergeSort_perm xs (fun a b => decide (a ≤ b))
  refine uniq_eq (out := srt xs) (hp.nodup_iff.mpr h) (fun k => ?_) ?_
  · unfold srt; rw [hp.mem_iff]; exact hm k
  · have := List.pairwise_mergeSort tr to xs
    exact this.imp (fun h => of_decide_eq_true h)
theorem n_next_beliefs_ev {a : Ar} (v : a.Ok) {b : List Int} {c : Int} (hb : Nods a b) (hc : Cmd a c) (hl : (outsB a b c).length < 64) : n_next_beliefs [eAr a, eB b, .int c] = ok (1, .lst ((followsF a b c).map eRow)) := by
  obtain ⟨e', he, g4, g5, g6, rfl, i4, i5, i6⟩ := forL_split (tg := gNm 4) (s := r_next_beliefs_b2) D.int (fun pre e => ∃ g4 g5 g6, e = [.sh (eAr a), .sh (eB b), .sh (.int c), .ow 1 (eFd (noted (outsB a pre c))), g4, g5, g6, .un] ∧ isIo g4 = false ∧ isIo g5 = false ∧ isIo g6 = false) b [.sh (eAr a), .sh (eB b), .sh (.int c), .ow 1 (eFd []), .un, .un, .un, .un] ⟨.un, .un, .un, rfl, rfl, rfl, rfl⟩ (by
    rintro pre x suf _ hs ⟨g4, g5, g6, rfl, i4, i5, i6⟩
    have hx : Nod a x := hb x (by rw [hs]; simp)
    obtain ⟨h5, h6, j5, j6, q⟩ := next_b2 v hx hc (outsB a pre c) (eB b) g5 g6 i5 i6 (by
      rw [hs, show pre ++ x :: suf = pre ++ ([x] ++ suf) by simp, outsB_app, outsB_app, outsB_one] at hl
      simp at hl ⊢; omega)
    refine ⟨[.sh (eAr a), .sh (eB b), .sh (.int c), .ow 1 (eFd (noted (outsB a pre c))), .sh (.int x), g5, g6, .un], _, by simp [i4], .inl q, ⟨.sh (.int x), h5, h6, ?_, rfl, j5, j6⟩⟩
    rw [outsB_app, outsB_one])
  obtain ⟨fo, fs⟩ := noted_ok (outsB a b c)
  have kfd : ((noted (outsB a b c)).map fun p => D.int p.1) = ((noted (outsB a b c)).map (·.1)).map D.int := by rw [List.map_map]; rfl
  have hkeys : srt ((noted (outsB a b c)).map (·.1)) = answersF a b c := srt_perm_eq fo.nd fun k => by rw [fs.k k, List.mem_map]
  have hcomp := lcL_all (kk := 0) (vs := [7]) (tg := gNm 7) (tt := tYesF) (el := r_next_beliefs_e1) D.int (fun o => eRow (o, afterF a b c o)) (env := [.sh (eAr a), .sh (eB b), .sh (.int c), .ow 1 (eFd (noted (outsB a b c))), g4, g5, g6, .un]) (answersF a b c) (by
    intro o ho
    rw [← hkeys] at ho
    have ho : o ∈ (noted (outsB a b c)).map (·.1) := (List.mergeSort_perm _ _).mem_iff.mp ho
    obtain ⟨j, hj, e⟩ := List.mem_iff_getElem.mp ho
    rw [List.getElem_map] at e
    have hj' : j < (noted (outsB a b c)).length := by simpa using hj
    have hp : (noted (outsB a b c))[j]? = some (noted (outsB a b c))[j] := List.getElem?_eq_getElem hj'
    have pm := List.getElem_mem hj'
    have hix : D.ix (eFd (noted (outsB a b c))) (.int o) = some (eSet (noted (outsB a b c))[j].2) := by
      have hh := ken_int.ix eSet (noted (outsB a b c)) o
      have := lookup_nd fo.nd pm
      rw [e] at this
      rw [this] at hh
      exact hh
    have hset : srt (noted (outsB a b c))[j].2 = afterF a b c o := srt_perm_eq (fo.vd _ pm).1 fun y => by
      rw [fs.v _ pm y]
      unfold endsF
      rw [List.mem_map]
      constructor
      · rintro ⟨m, h1, h2, h3⟩; exact ⟨m, List.mem_filter.mpr ⟨h1, by simp [h2, e]⟩, h3⟩
      · rintro ⟨m, h1, h3⟩
        have := List.mem_filter.mp h1
        exact ⟨m, this.1, by have := this.2; simp at this; rw [this, e], h3⟩
    have hlen : (noted (outsB a b c))[j].2.length < 64 := by have := (fo.vd _ pm).2; omega
    have es : ∀ l, eSet l = .dct false (l.map .int) (l.map fun _ => .bl true) := fun _ => rfl
    rw [es] at hix
    simp [r_next_beliefs_e1, hix, intsOf_map, hlen, hset, eRow, eB])
  have hlk : (noted (outsB a b c)).length < 64 := by have := fo.nl; omega
  have q : eB b = .tup (b.map .int) := rfl
  have q0 : D.dct false [] [] = eFd [] := rfl
  have qf : eFd (noted (outsB a b c)) = .dct false (((noted (outsB a b c)).map (·.1)).map D.int) ((noted (outsB a b c)).map fun p => eSet p.2) := by unfold eFd; rw [kfd]
  have hla : (answersF a b c).length ≤ 1000000 := by
    rw [← hkeys]
    unfold srt
    rw [List.length_mergeSort, List.length_map]
    omega
  rw [q] at he hcomp
  rw [qf] at he hcomp
  have hii := intsOf_map ((noted (outsB a b c)).map (·.1))
  simp only [List.map_map] at he hcomp hii
  simp [n_next_beliefs, r_next_beliefs, q, q0, he, hii, hlk, hkeys, hcomp, hla, followsF]
  rfl
end K
namespace K
open PySem PySem.Spec PyProof.Rows L2 VL G
/-! ### belief_graph -/
/-- the rows of a belief, by command -/
def LB (a : Ar) (b : List Int) : List (List (Int × List Int)) := if hasBad a b then [] else (List.range (cmdsF a.mv)).map fun c : Nat => followsF a b c
/-- .. the next beliefs alone -/
def LA (a : Ar) (b : List Int) : List (List (List Int)) := (LB a b).map fun rows => rows.map (·.2)
def succA (a : Ar) (b : List Int) : List (List Int) := (LB a b).flatMap fun rows => rows.map (·.2)
def eBl (q : List (List Int)) : D := .lst (q.map eB)
def eNum (q : List (List Int)) : D := .dct true (q.map eB) (q.zipIdx.map fun p => .int p.2)
def eRows (r : List (Int × List Int)) : D := .lst (r.map eRow)
def eSr (r : Int × Nat) : D := .tup [.int r.1, .int r.2]
def eSrs (r : List (Int × Nat)) : D := .lst (r.map eSr)
def eSl (l : List (List (Int × Nat))) : D := .lst (l.map eSrs)
def eSt (st : Steps) : D := .lst (st.map eSl)
/-- a belief that can be handled -/
structure BOk (a : Ar) (b : List Int) : Prop where
  nods : Nods a b
  len : b.length ≤ 1000000
  few : ∀ c, Cmd a c → (outsB a b c).length < 64
theorem zip_keys (q : List (List Int)) : (q.zipIdx.map fun p => eB p.1) = q.map eB := by
  rw [show (fun p : List Int × Nat => eB p.1) = eB ∘ (·.1) from rfl, ← List.map_map, List.zipIdx_map_fst]
/-- the place of an item -/
def pos {α : Type} [DecidableEq α] (q : List α) (y : α) : Nat := q.idxOf y
theorem lookup_zip {α : Type} [DecidableEq α] (y : α) : ∀ (q : List α) (n : Nat), y ∈ q → (q.zipIdx n).lookup y = some (n + pos q y)
  | [], _, h => nomatch h
  | x :: q, n, h => by
    unfold pos
    rw [List.zipIdx_cons, List.lookup_cons, List.idxOf_cons]
    by_cases e : x = y
    · subst e; simp
    · have e1 : (y == x) = false := by rw [beq_eq_false_iff_ne]; exact fun z => e z.symm
      have e2 : (x == y) = false := by rw [beq_eq_false_iff_ne]; exact e
      rw [e1, e2]
      simp only [cond_false]
      rw [lookup_zip y q (n + 1) ((List.mem_cons.mp h).resolve_left fun z => e z.symm)]
      congr 1
      unfold pos
      omega
theorem pos_get {α : Type} [DecidableEq α] {q : List α} {y : α} (h : y ∈ q) : q[pos q y]? = some y := by
  have hl : pos q y < q.length := List.idxOf_lt_length_of_mem h
  rw [List.getElem?_eq_getElem hl]
  exact congrArg some (List.getElem_idxOf hl)
theorem pos_lt {α : Type} [DecidableEq α] {q : List α} {y : α} (h : y ∈ q) : pos q y < q.length := List.idxOf_lt_length_of_mem h
theorem pos_pre {α : Type} [DecidableEq α] {p q : List α} (h : p <+: q) {y : α} (hy : y ∈ p) : pos q y = pos p y := by
  obtain ⟨r, rfl⟩ := h
  unfold pos
  rw [List.idxOf_append, if_pos hy]
theorem num_ix {q : List (List Int)} {y : List Int} (h : y ∈ q) : D.ix (eNum q) (eB y) = some (.int (pos q y)) := by
  have := ken_tup.ix (fun n : Nat => D.int n) q.zipIdx y
  rw [zip_keys] at this
  rw [lookup_zip (α := List Int) y q 0 h] at this
  simpa [eNum] using this
theorem num_notin (q : List (List Int)) (y : List Int) : gNotIn (eB y) (eNum q) = some (.bl (!decide (y ∈ q))) := by
  have := ken_tup.notin q (q.zipIdx.map fun p => D.int p.2) y (by simp)
  unfold eNum
  rw [this]
  by_cases h : y ∈ q
  · simp [h]
  · simp [h]
theorem num_store {q : List (List Int)} {y : List Int} (h : y ∉ q) (c : q.length < 1000000) : D.store (eNum q) (eB y) (.int q.length) = some (eNum (q ++ [y])) := by
  have := ken_tup.new (vs := q.zipIdx.map fun p => D.int p.2) (x := .int q.length) (by simp) h c
  unfold eNum
  rw [this, List.zipIdx_append]
  simp
/-- one following belief -/
theorem bg_b1 {t : List (List Int)} (ht : t.length < 1000000) (y : List Int) (A S g4 g5 g6 g7 : SV) (i0 : isIo A = false) (i3 : isIo S = false) (i4 : isIo g4 = false) (i5 : isIo g5 = false) (i6 : isIo g6 = false) (i7 : isIo g7 = false) :
    r_belief_graph_b1 [A, .ow 0 (eBl t), .ow 0 (eNum t), S, g4, g5, g6, g7, .sh (eB y), .un, .un] = ok (.nx, [A, .ow 0 (eBl (add t y)), .ow 0 (eNum (add t y)), S, g4, g5, g6, g7, .sh (eB y), .un, .un]) := by
  have h1 := num_notin t y
  unfold add
  by_cases h : y ∈ t
  · rw [if_pos h]
    simp [r_belief_graph_b1, h1, h]
  · rw [if_neg h]
    have h2 := num_store h ht
    have q : ∀ t, eBl t = .lst (t.map eB) := fun _ => rfl
    simp [r_belief_graph_b1, h1, h, q, h2, ht, ioB_skip i0, ioB_skip i3, ioB_skip i4, ioB_skip i5, ioB_skip i6, ioB_skip i7]
theorem add_len (t : List (List Int)) (y : List Int) : (add t y).length ≤ t.length + 1 := by
  unfold add; split <;> simp
theorem bg_b2 {t : List (List Int)} {N : Nat} (hN : N < 1000000) (rows : List (Int × List Int)) (ht : (addAll t (rows.map (·.2))).length ≤ N) (A S g4 g5 g7 g8 : SV) (i0 : isIo A = false) (i3 : isIo S = false) (i4 : isIo g4 = false) (i5 : isIo g5 = false) (i7 : nOw g7 = true) (i8 : nOw g8 = true) :
    ∃ h7 h8, nOw h7 = true ∧ nOw h8 = true ∧ r_belief_graph_b2 [A, .ow 0 (eBl t), .ow 0 (eNum t), S, g4, g5, .sh (eRows rows), g7, g8, .un, .un] = ok (.nx, [A, .ow 0 (eBl (addAll t (rows.map (·.2)))), .ow 0 (eNum (addAll t (rows.map (·.2)))), S, g4, g5, .sh (eRows rows), h7, h8, .un, .un]) := by
  obtain ⟨e', he, h7, h8, rfl, j7, j8⟩ := forL_split (tg := (gTp 2 (gsCons (gNm 7) (gsCons (gNm 8) gsNil)))) (s := r_belief_graph_b1) eRow (fun pre e => ∃ g7 g8, e = [A, .ow 0 (eBl (addAll t (pre.map (·.2)))), .ow 0 (eNum (addAll t (pre.map (·.2)))), S, g4, g5, .sh (eRows rows), g7, g8, .un, .un] ∧ nOw g7 = true ∧ nOw g8 = true) rows [A, .ow 0 (eBl t), .ow 0 (eNum t), S, g4, g5, .sh (eRows rows), g7, g8, .un, .un] ⟨g7, g8, rfl, i7, i8⟩ (by
    rintro pre r suf _ hs ⟨g7, g8, rfl, i7, i8⟩
    have hp : (addAll t (pre.map (·.2))).length ≤ N := by
      refine Nat.le_trans ?_ ht
      rw [hs, List.map_append, addAll_app]
      exact (addAll_pre _ _).length_le
    have e1 : addAll t ((pre ++ [r]).map (·.2)) = add (addAll t (pre.map (·.2))) r.2 := by rw [List.map_append, addAll_app]; rfl
    refine ⟨[A, .ow 0 (eBl (addAll t (pre.map (·.2)))), .ow 0 (eNum (addAll t (pre.map (·.2)))), S, g4, g5, .sh (eRows rows), .sh (.int r.1), .sh (eB r.2), .un, .un], _, by simp [eRow, nOw_io i7, nOw_io i8], .inl (bg_b1 (by omega) r.2 A S g4 g5 _ _ i0 i3 i4 i5 rfl rfl), ⟨_, _, by rw [e1], rfl, rfl⟩⟩)
  refine ⟨h7, h8, j7, j8, ?_⟩
  have q : eRows rows = .lst (rows.map eRow) := rfl
  rw [q] at he
  simp [r_belief_graph_b2, q, he]
/-- the numbered rows of a belief, by the list of all -/
def numB (Q : List (List Int)) (lists : List (List (Int × List Int))) : List (List (Int × Nat)) := lists.map fun rows => rows.map fun r => (r.1, pos Q r.2)
theorem bg_comp {t : List (List Int)} (lists : List (List (Int × List Int))) (hm : ∀ rows ∈ lists, rows.length ≤ 1000000 ∧ ∀ r ∈ rows, r.2 ∈ t) (A B S g4 g7 : SV) (g8 : SV) (i8 : nOw g8 = true) :
    lcL 0 [6] (gNm 6) tYesF r_belief_graph_e3 (lists.map eRows) [A, B, .ow 0 (eNum t), S, g4, .sh (.lst (lists.map eRows)), .un, g7, g8, .un, .un] = ok ((numB t lists).map eSrs, [A, B, .ow 0 (eNum t), S, g4, .sh (.lst (lists.map eRows)), .un, g7, g8, .un, .un]) := by
  have h := lcL_all (kk := 0) (vs := [6]) (tg := gNm 6) (tt := tYesF) (el := r_belief_graph_e3) eRows (fun rows => eSrs (rows.map fun r => (r.1, pos t r.2))) (env := [A, B, .ow 0 (eNum t), S, g4, .sh (.lst (lists.map eRows)), .un, g7, g8, .un, .un]) lists (by
    intro rows hr
    have h2 := lcL_all (kk := 0) (vs := [10, 8]) (tg := (gTp 2 (gsCons (gNm 10) (gsCons (gNm 8) gsNil)))) (tt := tYesF) (el := r_belief_graph_e2) eRow (fun r => eSr (r.1, pos t r.2)) (env := [A, B, .ow 0 (eNum t), S, g4, .sh (.lst (lists.map eRows)), .sh (.lst (rows.map eRow)), g7, .un, .un, .un]) rows (by
      intro r hr2
      have h3 := num_ix ((hm rows hr).2 r hr2)
      simp [r_belief_graph_e2, eRow, h3, eSr])
    have q : eRows rows = .lst (rows.map eRow) := rfl
    have hl := (hm rows hr).1
    simp [r_belief_graph_e3, q, h2, hl, i8, eSrs]
    rfl)
  rw [h]
  unfold numB
  rw [List.map_map]
  rfl

/-- the steps of all beliefs -/
def stepsF (a : Ar) (Q : List (List Int)) : Steps := Q.map fun b => numB Q (LB a b)
def endsL (lists : List (List (Int × List Int))) : List (List Int) := lists.flatMap fun rows => rows.map (·.2)
theorem followsF_len {a : Ar} {b : List Int} {c : Int} (h : (outsB a b c).length < 64) : (followsF a b c).length ≤ 1000000 := by
  unfold followsF answersF uniq
  rw [List.length_map]
  have h3 : (srt (dedup ((outsB a b c).map h0))).length = (dedup ((outsB a b c).map h0)).length := by unfold srt; exact List.length_mergeSort _
  have h4 : ∀ ns : List Int, (dedup ns).length ≤ ns.length := by
    intro ns
    induction ns with
    | nil => exact Nat.le_refl _
    | cons n ns ih => unfold dedup; split <;> simp <;> omega
  have := h4 ((outsB a b c).map h0)
  rw [List.length_map] at this
  omega
theorem numB_pre {p q : List (List Int)} (h : p <+: q) {lists : List (List (Int × List Int))} (hm : ∀ rows ∈ lists, ∀ r ∈ rows, r.2 ∈ p) : numB p lists = numB q lists := by
  unfold numB
  apply List.map_congr_left
  intro rows hr
  apply List.map_congr_left
  intro r hr2
  rw [pos_pre h (hm rows hr r hr2)]
/-- one turn of belief_graph -/
theorem bg_b3 {a : Ar} (v : a.Ok) {i N : Nat} (hN : N ≤ 3000) (hall : ∀ i, (iter (succA a) [0] i).length ≤ N) (hi : i < (iter (succA a) [0] i).length) (hb : ∀ b ∈ iter (succA a) [0] i, BOk a b) {K : Nat} (hiK : i < K) (sts : List D) (hst : sts.length = i)
    (g4 g5 g6 g7 g8 : SV) (i4 : isIo g4 = false) (i5 : isIo g5 = false) (i6 : nOw g6 = true) (i7 : nOw g7 = true) (i8 : nOw g8 = true) {b : List Int} (eb : (iter (succA a) [0] i)[i]? = some b) :
    ∃ h4 h5 h6 h7 h8, isIo h4 = false ∧ isIo h5 = false ∧ nOw h6 = true ∧ nOw h7 = true ∧ nOw h8 = true ∧
      r_belief_graph_b3 [.sh (eAr a), .ow 0 (eBl (iter (succA a) [0] i)), .ow 0 (eNum (iter (succA a) [0] i)), .ow 0 (.lst sts), g4, g5, g6, g7, g8, .un, .un] =
        ok (.nx, [.sh (eAr a), .ow 0 (eBl (iter (succA a) [0] (i + 1))), .ow 0 (eNum (iter (succA a) [0] (i + 1))), .ow 0 (.lst (sts ++ [eSl (numB (iter (succA a) [0] K) (LB a b))])), h4, h5, h6, h7, h8, .un, .un]) := by
  have bok := hb b (List.mem_of_getElem? eb)
  have enext : iter (succA a) [0] (i + 1) = addAll (iter (succA a) [0] i) (endsL (LB a b)) := by
    rw [iter_next _ _ eb]; rfl
  have hbad := n_has_bad_ev a b bok.len
  -- lists
  have hlists : ∀ rows ∈ LB a b, rows.length ≤ 1000000 ∧ ∀ r ∈ rows, r.2 ∈ iter (succA a) [0] (i + 1) := by
    intro rows hr
    refine ⟨?_, fun r hr2 => ?_⟩
    · unfold LB at hr
      split at hr
      · cases hr
      · obtain ⟨c, hc, rfl⟩ := List.mem_map.mp hr
        rw [List.mem_range] at hc
        exact followsF_len (bok.few c ⟨by omega, by omega⟩)
    · rw [enext]
      exact mem_addAll.mpr (.inr (List.mem_flatMap.mpr ⟨rows, hr, List.mem_map.mpr ⟨r, hr2, rfl⟩⟩))
  have hlen : (LB a b).length ≤ 1000000 := by
    unfold LB
    split
    · simp
    · have := v.cm; simp; omega
  have qe : ∀ t, eBl t = .lst (t.map eB) := fun _ => rfl
  -- the loop
  obtain ⟨e', he, h6, h7, h8, rfl, j6, j7, j8⟩ := forL_split (tg := gNm 6) (s := r_belief_graph_b2) eRows (fun pre e => ∃ g6 g7 g8, e = [.sh (eAr a), .ow 0 (eBl (addAll (iter (succA a) [0] i) (endsL pre))), .ow 0 (eNum (addAll (iter (succA a) [0] i) (endsL pre))), .ow 0 (.lst sts), .sh (eB b), .sh (.lst ((LB a b).map eRows)), g6, g7, g8, .un, .un] ∧ nOw g6 = true ∧ nOw g7 = true ∧ nOw g8 = true) (LB a b) [.sh (eAr a), .ow 0 (eBl (iter (succA a) [0] i)), .ow 0 (eNum (iter (succA a) [0] i)), .ow 0 (.lst sts), .sh (eB b), .sh (.lst ((LB a b).map eRows)), g6, g7, g8, .un, .un] ⟨g6, g7, g8, rfl, i6, i7, i8⟩ (by
    rintro pre rows suf _ hs ⟨g6, g7, g8, rfl, i6, i7, i8⟩
    have e1 : addAll (iter (succA a) [0] i) (endsL (pre ++ [rows])) = addAll (addAll (iter (succA a) [0] i) (endsL pre)) (rows.map (·.2)) := by
      unfold endsL; rw [List.flatMap_append, addAll_app]; simp
    have hle : (addAll (addAll (iter (succA a) [0] i) (endsL pre)) (rows.map (·.2))).length ≤ N := by
      rw [← e1]
      refine Nat.le_trans ?_ (hall (i + 1))
      have e2 : endsL (LB a b) = endsL (pre ++ [rows]) ++ endsL suf := by rw [hs]; simp [endsL]
      rw [enext, e2, addAll_app]
      exact (addAll_pre _ _).length_le
    obtain ⟨h7, h8, j7, j8, q⟩ := bg_b2 (t := addAll (iter (succA a) [0] i) (endsL pre)) (N := N) (by omega) rows hle (.sh (eAr a)) (.ow 0 (.lst sts)) (.sh (eB b)) (.sh (.lst ((LB a b).map eRows))) g7 g8 rfl rfl rfl rfl i7 i8
    exact ⟨_, _, by simp [nOw_io i6], .inl q, ⟨.sh (eRows rows), h7, h8, by rw [e1], rfl, j7, j8⟩⟩)
  rw [← enext] at he
  have hcomp := bg_comp (t := iter (succA a) [0] (i + 1)) (LB a b) hlists (.sh (eAr a)) (.ow 0 (eBl (iter (succA a) [0] (i + 1)))) (.ow 0 (.lst sts)) (.sh (eB b)) h7 h8 j8
  have hnum : numB (iter (succA a) [0] (i + 1)) (LB a b) = numB (iter (succA a) [0] K) (LB a b) := numB_pre (iter_pre _ _ hiK) fun rows hr r hr2 => (hlists rows hr).2 r hr2
  rw [hnum] at hcomp
  have hix : atI ((iter (succA a) [0] i).map eB) (i : Int) = some (eB b) := by rw [atI_map, atIN, eb]; rfl
  have hl2 : ((iter (succA a) [0] (i + 1)).length : Int) ≤ 3000 := by have := hall (i + 1); omega
  have hl3 : ¬ (3000 : Int) < ((iter (succA a) [0] (i + 1)).length : Int) := by omega
  have hl4 : i < 1000000 := by have := hall i; omega
  have qn : ∀ l, eSl l = .lst (l.map eSrs) := fun _ => rfl
  rw [qe] at he hcomp
  cases hbd : hasBad a b with
  | true =>
    have e0 : LB a b = [] := by unfold LB; rw [hbd]; rfl
    have e1 : iter (succA a) [0] (i + 1) = iter (succA a) [0] i := by rw [enext, e0]; rfl
    have en : numB (iter (succA a) [0] K) [] = [] := rfl
    have hl3' : ¬ (3000 : Int) < ((iter (succA a) [0] i).length : Int) := by rw [← e1]; exact hl3
    refine ⟨.sh (eB b), .sh (.lst []), g6, g7, g8, rfl, rfl, i6, i7, i8, ?_⟩
    rw [e0, e1, en]
    simp [r_belief_graph_b3, hst, qe, qn, hix, hbad, hbd, i4, i5, nOw_io i6, nOw_io i7, nOw_io i8, i6, i7, i8, hl3', hl4, ioB_skip (nOw_io i6), ioB_skip (nOw_io i7), ioB_skip (nOw_io i8)]
  | false =>
    have hL := lcL_all (kk := 0) (vs := [9]) (tg := gNm 9) (tt := tYesF) (el := r_belief_graph_e1) (fun c : Nat => D.int c) (fun c => eRows (followsF a b c)) (env := [.sh (eAr a), .ow 0 (.lst ((iter (succA a) [0] i).map eB)), .ow 0 (eNum (iter (succA a) [0] i)), .ow 0 (.lst sts), .sh (eB b), .ow 0 (.lst []), g6, g7, g8, .un, .un]) (List.range (cmdsF a.mv)) (by
      intro c hc
      rw [List.mem_range] at hc
      have cm : Cmd a (c : Int) := ⟨by omega, by omega⟩
      have := n_next_beliefs_ev v bok.nods cm (bok.few _ cm)
      simp [r_belief_graph_e1, this, ioB_skip (nOw_io i6), ioB_skip (nOw_io i7), ioB_skip (nOw_io i8), eRows])
    have hLB : (List.range (cmdsF a.mv)).map (fun c : Nat => eRows (followsF a b c)) = (LB a b).map eRows := by
      unfold LB; rw [hbd, if_neg (by simp), List.map_map]; rfl
    rw [hLB] at hL
    have hcm := v.cm
    have hir := fun e => irg1_ok (j := (cmdsF a.mv : Int)) (by omega) (by omega) e
    refine ⟨.sh (eB b), .sh (.lst ((LB a b).map eRows)), h6, h7, h8, rfl, rfl, j6, j7, j8, ?_⟩
    have hcl : cmdsF a.mv ≤ 1000000 := by omega
    simp [r_belief_graph_b3, hst, qe, qn, hix, hbad, hbd, i4, i5, nOw_io i6, nOw_io i7, nOw_io i8, i6, i7, i8, hl3, hl4, hir, hcl, hL, he, hcomp, j6, j7, j8, nOw_io j6, nOw_io j7, nOw_io j8, hlen, ioB_skip i4, ioB_skip i5, ioB_skip (nOw_io i6), ioB_skip (nOw_io i7), ioB_skip (nOw_io i8), ioB_skip (nOw_io j6), ioB_skip (nOw_io j7), ioB_skip (nOw_io j8)]

theorem iter_le {α : Type} [DecidableEq α] {s : α → List α} {x0 : α} {K : Nat} (c : Closes s x0 K) (i : Nat) : (iter s x0 i).length ≤ K := by
  rcases Nat.le_total i K with h | h
  · have := (iter_pre s x0 h).length_le
    rw [c.len] at this
    exact this
  · rw [c.stay s x0 i h, c.len]; exact Nat.le_refl _
theorem n_belief_graph_ev {a : Ar} (v : a.Ok) {K : Nat} (c : Closes (succA a) [0] K) (hK : K ≤ 3000) (hb : ∀ b, Reach (succA a) [0] b → BOk a b) :
    n_belief_graph [eAr a] = ok (0, .tup [eBl (iter (succA a) [0] K), eSt (stepsF a (iter (succA a) [0] K))]) := by
  have hcl := c.len
  obtain ⟨r, h1, g4, g5, g6, g7, g8, rfl⟩ := whileS_run (c := r_belief_graph_t1) (s := r_belief_graph_b3)
    (fun m e => ∃ i g4 g5 g6 g7 g8, m = K - i ∧ i ≤ K ∧ isIo g4 = false ∧ isIo g5 = false ∧ nOw g6 = true ∧ nOw g7 = true ∧ nOw g8 = true ∧ e = [.sh (eAr a), .ow 0 (eBl (iter (succA a) [0] i)), .ow 0 (eNum (iter (succA a) [0] i)), .ow 0 (.lst (((stepsF a (iter (succA a) [0] K)).take i).map eSl)), g4, g5, g6, g7, g8, .un, .un])
    (fun r => ∃ g4 g5 g6 g7 g8, r = (.nx, [.sh (eAr a), .ow 0 (eBl (iter (succA a) [0] K)), .ow 0 (eNum (iter (succA a) [0] K)), .ow 0 (eSt (stepsF a (iter (succA a) [0] K))), g4, g5, g6, g7, g8, .un, .un]))
    (by
      rintro m _ ⟨i, g4, g5, g6, g7, g8, rfl, hi, i4, i5, i6, i7, i8, rfl⟩
      have hsl : (((stepsF a (iter (succA a) [0] K)).take i).map eSl).length = i := by
        rw [List.length_map, List.length_take]; unfold stepsF; rw [List.length_map, c.len]; omega
      have hq : ∀ t, eBl t = .lst (t.map eB) := fun _ => rfl
      rcases Nat.lt_or_ge i K with h | h
      · right
        have hlt := c.lt i h
        have hlti : (i : Int) < ((iter (succA a) [0] i).length : Int) := by omega
        have eb := List.getElem?_eq_getElem hlt
        obtain ⟨h4, h5, h6, h7, h8, j4, j5, j6, j7, j8, q⟩ := bg_b3 v (N := K) hK (fun i => iter_le c i) hlt (fun b m => hb b (iter_reach _ _ i b m)) h (((stepsF a (iter (succA a) [0] K)).take i).map eSl) hsl g4 g5 g6 g7 g8 i4 i5 i6 i7 i8 eb
        refine ⟨by simp only [r_belief_graph_t1]; simp [hq]; rw [Nat.min_eq_left (by unfold stepsF; rw [List.length_map, c.len]; omega)]; simp [hlt], .nx, _, q, by omega, i + 1, h4, h5, h6, h7, h8, by omega, by omega, j4, j5, j6, j7, j8, ?_⟩
        have e1 : (iter (succA a) [0] K)[i]? = some ((iter (succA a) [0] i)[i]) := pre_get (iter_pre _ _ (Nat.le_of_lt h)) eb
        have e2 : ((stepsF a (iter (succA a) [0] K)).take (i + 1)) = (stepsF a (iter (succA a) [0] K)).take i ++ [numB (iter (succA a) [0] K) (LB a (iter (succA a) [0] i)[i])] := by
          rw [List.take_add_one]
          congr 1
          unfold stepsF
          rw [List.getElem?_map, e1]
          rfl
        rw [e2, List.map_append]
        rfl
      · left
        have e : i = K := by omega
        subst e
        refine ⟨?_, g4, g5, g6, g7, g8, ?_⟩
        · simp [r_belief_graph_t1, hq, c.len]
          unfold stepsF
          rw [List.length_map, c.len]
          simp
        · rw [List.take_of_length_le (by unfold stepsF; rw [List.length_map, c.len]; exact Nat.le_refl _)]
          rfl) 100000 K [.sh (eAr a), .ow 0 (eBl [[0]]), .ow 0 (eNum [[0]]), .ow 0 (.lst []), .un, .un, .un, .un, .un, .un, .un] (by omega) ⟨0, .un, .un, .un, .un, .un, rfl, by omega, rfl, rfl, rfl, rfl, rfl, rfl⟩
  have q1 : eBl [[0]] = .lst [.tup [.int 0]] := rfl
  have q2 : eNum [[0]] = .dct true [.tup [.int 0]] [.int 0] := rfl
  have q3 : kOf true (.tup [.int 0]) = some (.inr [.inl 0]) := rfl
  rw [q1, q2] at h1
  simp [n_belief_graph, r_belief_graph, q3, h1]
end K
namespace K
open PySem PySem.Spec PyProof.Rows L2 VL G
/-! ### incoming -/
def eEnt (q : Nat × Nat × Int) : D := .tup [.int q.1, .int q.2.1, .int q.2.2]
def eInc (n : Nat) (fl : List Ent) : D := .lst ((List.range n).map fun e => .lst ((srcs fl e).map eEnt))
theorem enumD_map {α : Type} (enc : α → D) : ∀ (xs : List α) (n : Nat), enumD n (xs.map enc) = (xs.zipIdx n).map fun p => .tup [.int p.2, enc p.1]
  | [], _ => rfl
  | x :: xs, n => by
    rw [List.map_cons, List.zipIdx_cons, List.map_cons]
    show D.tup [.int (n : Int), enc x] :: enumD (n + 1) (xs.map enc) = _
    rw [enumD_map enc xs (n + 1)]
theorem srcs_app (p q : List Ent) (e : Nat) : srcs (p ++ q) e = srcs p e ++ srcs q e := by unfold srcs; rw [List.filterMap_append]
theorem srcs_len (fl : List Ent) (e : Nat) : (srcs fl e).length ≤ fl.length := by unfold srcs; exact List.length_filterMap_le _ _
theorem inc_b1 {n : Nat} {fl : List Ent} (hl : fl.length < 1000000) (q : Ent) (hq : q.2.2.2 < n) (A g3 g4 g6 : SV) (i0 : isIo A = false) (i3 : isIo g3 = false) (i4 : isIo g4 = false) (i6 : isIo g6 = false) :
    r_incoming_b1 [A, .ow 1 (eInc n fl), .sh (.int q.1), g3, g4, .sh (.int q.2.1), g6, .sh (.int q.2.2.1), .sh (.int q.2.2.2)] = ok (.nx, [A, .ow 1 (eInc n (fl ++ [q])), .sh (.int q.1), g3, g4, .sh (.int q.2.1), g6, .sh (.int q.2.2.1), .sh (.int q.2.2.2)]) := by
  obtain ⟨a, c, o, y⟩ := q
  dsimp only at hq ⊢
  have k1 : D.kix (eInc n fl) (.int (y : Int)) = some y := by
    unfold eInc
    rw [kix_lst (by omega) (by simp; omega)]
    simp
  have k2 : (eInc n fl).kid y = some (.lst ((srcs fl y).map eEnt)) := by
    unfold eInc
    rw [kid_lst, List.getElem?_map, List.getElem?_range hq]
    rfl
  have k3 := subD_one y (eInc n fl)
  rw [k2] at k3
  have k4 : (srcs fl y).length < 1000000 := Nat.lt_of_le_of_lt (srcs_len fl y) hl
  have k5 : setD [y] (eInc n fl) (.lst ((srcs fl y).map eEnt ++ [eEnt (a, c, o)])) = eInc n (fl ++ [(a, c, o, y)]) := by
    rw [setD_one k2]
    unfold eInc
    rw [setKid_lst]
    congr 1
    apply List.ext_getElem?
    intro i
    rw [List.getElem?_set]
    by_cases h : y = i
    · subst h
      rw [if_pos rfl, if_pos (by simpa using hq), List.getElem?_map, List.getElem?_range hq, Option.map_some, srcs_app]
      have : srcs [(a, c, o, y)] y = [(a, c, o)] := by simp [srcs]
      rw [this, List.map_append]
      rfl
    · rw [if_neg h, List.getElem?_map, List.getElem?_map]
      by_cases hi : i < n
      · rw [List.getElem?_range hi, Option.map_some, Option.map_some, srcs_app]
        have : srcs [(a, c, o, y)] i = [] := by simp [srcs, h]
        rw [this, List.append_nil]
      · rw [List.getElem?_eq_none (by simpa using hi)]; rfl
  have qe : eEnt (a, c, o) = .tup [.int a, .int c, .int o] := rfl
  rw [qe] at k5
  simp [r_incoming_b1, k1, k3, k4, k5, i0, i3, i4, i6, ioB_skip i0, ioB_skip i3, ioB_skip i4, ioB_skip i6]
def rowsE (n c : Nat) (rows : List (Int × Nat)) : List Ent := rows.map fun r => (n, c, r.1, r.2)
def listsE (n : Nat) (lists : List (List (Int × Nat))) : List Ent := lists.zipIdx.flatMap fun q => rowsE n q.2 q.1
theorem flatS_eq (st : Steps) : flatS st = st.zipIdx.flatMap fun p => listsE p.2 p.1 := rfl
theorem inc_b2 {N : Nat} {fl : List Ent} (n c : Nat) (rows : List (Int × Nat)) (hl : (fl ++ rowsE n c rows).length < 1000000) (hr : ∀ r ∈ rows, r.2 < N) (A g3 g4 g7 g8 : SV) (i0 : isIo A = false) (i3 : isIo g3 = false) (i4 : isIo g4 = false) (i7 : isIo g7 = false) (i8 : isIo g8 = false) :
    ∃ h7 h8, isIo h7 = false ∧ isIo h8 = false ∧ r_incoming_b2 [A, .ow 1 (eInc N fl), .sh (.int n), g3, g4, .sh (.int c), .sh (eSrs rows), g7, g8] = ok (.nx, [A, .ow 1 (eInc N (fl ++ rowsE n c rows)), .sh (.int n), g3, g4, .sh (.int c), .sh (eSrs rows), h7, h8]) := by
  obtain ⟨e', he, h7, h8, rfl, j7, j8⟩ := forL_split (tg := (gTp 2 (gsCons (gNm 7) (gsCons (gNm 8) gsNil)))) (s := r_incoming_b1) eSr (fun pre e => ∃ g7 g8, e = [A, .ow 1 (eInc N (fl ++ rowsE n c pre)), .sh (.int n), g3, g4, .sh (.int c), .sh (eSrs rows), g7, g8] ∧ isIo g7 = false ∧ isIo g8 = false) rows [A, .ow 1 (eInc N fl), .sh (.int n), g3, g4, .sh (.int c), .sh (eSrs rows), g7, g8] ⟨g7, g8, by simp [rowsE], i7, i8⟩ (by
    rintro pre r suf _ hs ⟨g7, g8, rfl, i7, i8⟩
    have e1 : fl ++ rowsE n c (pre ++ [r]) = (fl ++ rowsE n c pre) ++ [(n, c, r.1, r.2)] := by unfold rowsE; simp
    have hlen : (fl ++ rowsE n c pre).length < 1000000 := by
      rw [hs] at hl; unfold rowsE at hl ⊢; simp at hl ⊢; omega
    refine ⟨[A, .ow 1 (eInc N (fl ++ rowsE n c pre)), .sh (.int n), g3, g4, .sh (.int c), .sh (eSrs rows), .sh (.int r.1), .sh (.int r.2)], _, by simp [eSr, i7, i8], .inl (inc_b1 hlen (n, c, r.1, r.2) (hr r (by rw [hs]; simp)) A g3 g4 _ i0 i3 i4 rfl), ⟨_, _, by rw [e1], rfl, rfl⟩⟩)
  refine ⟨h7, h8, j7, j8, ?_⟩
  have q : eSrs rows = .lst (rows.map eSr) := rfl
  rw [q] at he
  simp [r_incoming_b2, q, he]
def eEnS (p : List (Int × Nat) × Nat) : D := .tup [.int p.2, eSrs p.1]
def eEnL (p : List (List (Int × Nat)) × Nat) : D := .tup [.int p.2, eSl p.1]
theorem inc_b3 {N : Nat} {fl : List Ent} (n : Nat) (lists : List (List (Int × Nat))) (hl : (fl ++ listsE n lists).length < 1000000) (hr : ∀ rows ∈ lists, ∀ r ∈ rows, r.2 < N) (A g4 g5 g6 g7 g8 : SV) (i0 : isIo A = false) (i4 : isIo g4 = false) (i5 : isIo g5 = false) (i6 : isIo g6 = false) (i7 : isIo g7 = false) (i8 : isIo g8 = false) :
    ∃ h5 h6 h7 h8, isIo h5 = false ∧ isIo h6 = false ∧ isIo h7 = false ∧ isIo h8 = false ∧ r_incoming_b3 [A, .ow 1 (eInc N fl), .sh (.int n), .sh (eSl lists), g4, g5, g6, g7, g8] = ok (.nx, [A, .ow 1 (eInc N (fl ++ listsE n lists)), .sh (.int n), .sh (eSl lists), g4, h5, h6, h7, h8]) := by
  obtain ⟨e', he, h5, h6, h7, h8, rfl, j5, j6, j7, j8⟩ := forL_split (tg := (gTp 2 (gsCons (gNm 5) (gsCons (gNm 6) gsNil)))) (s := r_incoming_b2) eEnS (fun pre e => ∃ g5 g6 g7 g8, e = [A, .ow 1 (eInc N (fl ++ pre.flatMap fun q => rowsE n q.2 q.1)), .sh (.int n), .sh (eSl lists), g4, g5, g6, g7, g8] ∧ isIo g5 = false ∧ isIo g6 = false ∧ isIo g7 = false ∧ isIo g8 = false) lists.zipIdx [A, .ow 1 (eInc N fl), .sh (.int n), .sh (eSl lists), g4, g5, g6, g7, g8] ⟨g5, g6, g7, g8, by simp, i5, i6, i7, i8⟩ (by
    rintro pre p suf _ hs ⟨g5, g6, g7, g8, rfl, i5, i6, i7, i8⟩
    have e1 : fl ++ (pre ++ [p]).flatMap (fun q => rowsE n q.2 q.1) = (fl ++ pre.flatMap fun q => rowsE n q.2 q.1) ++ rowsE n p.2 p.1 := by simp
    have hlen : ((fl ++ pre.flatMap fun q => rowsE n q.2 q.1) ++ rowsE n p.2 p.1).length < 1000000 := by
      unfold listsE at hl
      rw [hs, List.flatMap_append, List.flatMap_cons] at hl
      simp only [List.length_append] at hl ⊢
      omega
    have hp : p.1 ∈ lists := by
      have : p ∈ lists.zipIdx := by rw [hs]; simp
      obtain ⟨x, i⟩ := p
      rw [List.mem_zipIdx_iff_getElem?] at this
      exact List.mem_of_getElem? this
    obtain ⟨h7, h8, j7, j8, q⟩ := inc_b2 n p.2 p.1 hlen (hr p.1 hp) A (.sh (eSl lists)) g4 g7 g8 i0 rfl i4 i7 i8
    exact ⟨_, _, by simp [eEnS, i5, i6], .inl q, ⟨_, _, h7, h8, by rw [e1], rfl, rfl, j7, j8⟩⟩)
  refine ⟨h5, h6, h7, h8, j5, j6, j7, j8, ?_⟩
  have q : eSl lists = .lst (lists.map eSrs) := rfl
  have q2 := enumD_map eSrs lists 0
  rw [q] at he
  unfold eEnS at he
  simp [r_incoming_b3, q, q2, he, listsE]
theorem n_incoming_ev {st : Steps} (ok' : StOk st) (hf : (flatS st).length < 1000000) (hn : st.length ≤ 1000000) : n_incoming [eSt st] = ok (2, eInc st.length (flatS st)) := by
  have hr : ∀ p ∈ st.zipIdx, ∀ rows ∈ p.1, ∀ r ∈ rows, r.2 < st.length := by
    rintro ⟨x, i⟩ hp rows h1 r h2
    rw [List.mem_zipIdx_iff_getElem?] at hp
    exact ok'.lt i rows (by unfold stepL; rw [hp]; exact h1) r h2
  obtain ⟨e', he, h2, h3, h5, h6, h7, h8, rfl, j2, j3, j5, j6, j7, j8⟩ := forL_split (tg := (gTp 2 (gsCons (gNm 2) (gsCons (gNm 3) gsNil)))) (s := r_incoming_b3) eEnL (fun pre e => ∃ g2 g3 g5 g6 g7 g8, e = [.sh (eSt st), .ow 1 (eInc st.length (pre.flatMap fun p => listsE p.2 p.1)), g2, g3, .un, g5, g6, g7, g8] ∧ isIo g2 = false ∧ isIo g3 = false ∧ isIo g5 = false ∧ isIo g6 = false ∧ isIo g7 = false ∧ isIo g8 = false) st.zipIdx [.sh (eSt st), .ow 1 (eInc st.length []), .un, .un, .un, .un, .un, .un, .un] ⟨.un, .un, .un, .un, .un, .un, rfl, rfl, rfl, rfl, rfl, rfl, rfl⟩ (by
    rintro pre p suf _ hs ⟨g2, g3, g5, g6, g7, g8, rfl, i2, i3, i5, i6, i7, i8⟩
    have e1 : (pre ++ [p]).flatMap (fun q => listsE q.2 q.1) = (pre.flatMap fun q => listsE q.2 q.1) ++ listsE p.2 p.1 := by simp
    have hlen : ((pre.flatMap fun q => listsE q.2 q.1) ++ listsE p.2 p.1).length < 1000000 := by
      rw [flatS_eq, hs, List.flatMap_append, List.flatMap_cons] at hf
      simp only [List.length_append] at hf ⊢
      omega
    obtain ⟨h5, h6, h7, h8, j5, j6, j7, j8, q⟩ := inc_b3 p.2 p.1 hlen (hr p (by rw [hs]; simp)) (.sh (eSt st)) .un g5 g6 g7 g8 rfl rfl i5 i6 i7 i8
    exact ⟨_, _, by simp [eEnL, i2, i3], .inl q, ⟨_, _, h5, h6, h7, h8, by rw [e1], rfl, rfl, j5, j6, j7, j8⟩⟩)
  have q : eSt st = .lst (st.map eSl) := rfl
  have q2 := enumD_map eSl st 0
  have hc := lcL_all (kk := 1) (vs := [4]) (tg := gNm 4) (tt := tYesF) (el := r_incoming_e1) eSl (fun _ => .lst []) (env := [.sh (eSt st), .un, .un, .un, .un, .un, .un, .un, .un]) st (by
    intro x _; simp [r_incoming_e1])
  have hi : D.lst (st.map fun _ => D.lst []) = eInc st.length [] := by
    unfold eInc srcs
    simp
    rw [List.map_const', List.map_const', List.length_range]
  rw [q] at he hc
  unfold eEnL at he
  rw [← flatS_eq] at he
  simp [n_incoming, r_incoming, q, q2, hc, hi, he, hn]

/-! ### next_layer -/
def eOi (o : Option Int) : D := match o with
  | none => .non
  | some i => .int i
def eRow' (r : List (Option Int)) : D := .lst (r.map eOi)
def eRep (rep : Rep) : D := .lst (rep.map eRow')
theorem isNon_eOi (o : Option Int) : isNon (eOi o) = o.isNone := by cases o <;> rfl
theorem dp_eOi (n : Nat) (o : Option Int) : dp n (eOi o) = true := by cases o <;> simp [eOi]
theorem any_non : ∀ r : List (Option Int), (pyL (r.map eOi)).any (fun z => PyData.eqv z .none) = decide (none ∈ r)
  | [] => by simp
  | o :: r => by
    rw [List.map_cons, pyL_cons, List.any_cons, any_non r]
    cases o with
    | none => simp [eOi, PyData.eqv]
    | some i => simp [eOi, PyData.eqv]
theorem gNotIn_non (r : List (Option Int)) : gNotIn .non (eRow' r) = some (.bl (!decide (none ∈ r))) := by
  unfold gNotIn eRow' D.mem
  simp only
  rw [dp_non, dpL_map fun o _ => dp_eOi 8 o, if_pos (by rfl), py_non, any_non]
  rfl
theorem rep_ix {rep : Rep} {n : Nat} (h : n < rep.length) : D.ix (eRep rep) (.int (n : Int)) = some (eRow' ((rep[n]?).getD [])) := by
  unfold eRep
  rw [ix_lst, atI_map, atIN, List.getElem?_eq_getElem h]
  rfl
theorem row_ix {rep : Rep} {n c : Nat} {o : Option Int} (h : repAt rep n c = some o) : D.ix (eRow' ((rep[n]?).getD [])) (.int (c : Int)) = some (eOi o) := by
  unfold repAt at h
  unfold eRow'
  rw [ix_lst, atI_map, atIN, h]
  rfl
theorem nl_b1 {rep : Rep} {found : List Nat} (q : Nat × Nat × Int) (hn : q.1 < rep.length) (hc : q.2.1 < ((rep[q.1]?).getD []).length) (hf : found.length < 1000000) (S Ly : D) (g4 : SV) (i4 : isIo g4 = false) :
    r_next_layer_b1 [.sh S, .io 1 (eRep rep), .sh Ly, .ow 0 (.lst (found.map fun i : Nat => .int i)), g4, .sh (.int q.1), .sh (.int q.2.1), .sh (.int q.2.2)] =
      ok (.nx, [.sh S, .io 1 (eRep (nlStep (rep, found) q).1), .sh Ly, .ow 0 (.lst ((nlStep (rep, found) q).2.map fun i : Nat => .int i)), g4, .sh (.int q.1), .sh (.int q.2.1), .sh (.int q.2.2)]) := by
  obtain ⟨n, c, o⟩ := q
  dsimp only at hn hc ⊢
  have h1 := rep_ix hn
  have h2 : ∃ x, repAt rep n c = some x := ⟨_, List.getElem?_eq_getElem hc⟩
  obtain ⟨x, hx⟩ := h2
  have h3 := row_ix hx
  have h4 := isNon_eOi x
  unfold nlStep
  dsimp only
  cases x with
  | some y =>
    rw [if_neg (by rw [hx]; simp)]
    simp [r_next_layer_b1, h1, h3, h4]
  | none =>
    rw [if_pos hx]
    have k1 : D.kix (eRep rep) (.int (n : Int)) = some n := by
      unfold eRep
      rw [kix_lst (by omega) (by simpa using hn)]
      simp
    have k2 : (eRep rep).kid n = some (eRow' ((rep[n]?).getD [])) := by
      unfold eRep
      rw [kid_lst, List.getElem?_map, List.getElem?_eq_getElem hn]
      rfl
    have k3 := subD_one n (eRep rep)
    rw [k2] at k3
    have k4 : D.store (eRow' ((rep[n]?).getD [])) (.int (c : Int)) (.int o) = some (eRow' (((rep[n]?).getD []).set c (some o))) := by
      unfold eRow'
      rw [store_lst (by omega) (by simpa using hc), List.map_set]
      rfl
    have k5 : setD [n] (eRep rep) (eRow' (((rep[n]?).getD []).set c (some o))) = eRep (rep.set n (((rep[n]?).getD []).set c (some o))) := by
      rw [setD_one k2]
      unfold eRep
      rw [setKid_lst, List.map_set]
    have k6 := rep_ix (rep := rep.set n (((rep[n]?).getD []).set c (some o))) (n := n) (by simpa using hn)
    rw [List.getElem?_set_self hn, Option.getD_some] at k6
    have k7 := gNotIn_non (((rep[n]?).getD []).set c (some o))
    by_cases hm : none ∈ (((rep[n]?).getD []).set c (some o))
    · rw [if_pos hm]
      simp [r_next_layer_b1, h1, h3, h4, k1, k3, k4, k5, k6, k7, hm]
    · rw [if_neg hm]
      simp [r_next_layer_b1, h1, h3, h4, k1, k3, k4, k5, k6, k7, hm, hf, ioB_skip i4]
/-- next_layer, where replies and entries are right -/
theorem n_next_layer_ev {st : Steps} {X : Nat → Nat → Prop} {Y : Nat → Nat → Int → Prop} {rep : Rep} {layer : List Nat} {fl : List Ent} (I : NlI st X Y [] (rep, [])) (hN : st.length < 1000000) (hly : ∀ e ∈ layer, e < st.length) (hv : ∀ q ∈ layer.flatMap (srcs fl), q.1 < st.length ∧ q.2.1 < (stepL st q.1).length) :
    n_next_layer [eInc st.length fl, .lst (layer.map fun i : Nat => .int i)] (eRep rep) = ok (1, .lst ((nextLayer fl rep layer).2.map fun i : Nat => .int i), eRep (nextLayer fl rep layer).1) := by
  have nlI : ∀ E F, layer.flatMap (srcs fl) = E ++ F → NlI st X Y E (E.foldl nlStep (rep, [])) := fun E F e => by
    have := nl_fold E [] (rep, []) I fun q m => hv q (by rw [e]; exact List.mem_append_left _ m)
    rw [List.nil_append] at this
    exact this
  obtain ⟨e', he, g4, g5, g6, g7, rfl, i4, i5, i6, i7⟩ := forL_split (tg := gNm 4) (s := r_next_layer_b2) (fun i : Nat => D.int i) (fun pre e => ∃ g4 g5 g6 g7, e = [.sh (eInc st.length fl), .io 1 (eRep ((pre.flatMap (srcs fl)).foldl nlStep (rep, [])).1), .sh (.lst (layer.map fun i : Nat => .int i)), .ow 0 (.lst (((pre.flatMap (srcs fl)).foldl nlStep (rep, [])).2.map fun i : Nat => .int i)), g4, g5, g6, g7] ∧ isIo g4 = false ∧ isIo g5 = false ∧ isIo g6 = false ∧ isIo g7 = false) layer [.sh (eInc st.length fl), .io 1 (eRep rep), .sh (.lst (layer.map fun i : Nat => .int i)), .ow 0 (.lst []), .un, .un, .un, .un] ⟨.un, .un, .un, .un, rfl, rfl, rfl, rfl, rfl⟩ (by
    rintro pre x suf _ hs ⟨g4, g5, g6, g7, rfl, i4, i5, i6, i7⟩
    have hx : x < st.length := hly x (by rw [hs]; simp)
    have e1 : (pre ++ [x]).flatMap (srcs fl) = pre.flatMap (srcs fl) ++ srcs fl x := by simp
    have e2 : layer.flatMap (srcs fl) = (pre.flatMap (srcs fl) ++ srcs fl x) ++ suf.flatMap (srcs fl) := by rw [hs]; simp
    obtain ⟨e', he, h5, h6, h7, rfl, j5, j6, j7⟩ := forL_split (tg := (gTp 3 (gsCons (gNm 5) (gsCons (gNm 6) (gsCons (gNm 7) gsNil))))) (s := r_next_layer_b1) eEnt (fun p2 e => ∃ g5 g6 g7, e = [.sh (eInc st.length fl), .io 1 (eRep ((pre.flatMap (srcs fl) ++ p2).foldl nlStep (rep, [])).1), .sh (.lst (layer.map fun i : Nat => .int i)), .ow 0 (.lst (((pre.flatMap (srcs fl) ++ p2).foldl nlStep (rep, [])).2.map fun i : Nat => .int i)), .sh (.int x), g5, g6, g7] ∧ isIo g5 = false ∧ isIo g6 = false ∧ isIo g7 = false) (srcs fl x) [.sh (eInc st.length fl), .io 1 (eRep ((pre.flatMap (srcs fl)).foldl nlStep (rep, [])).1), .sh (.lst (layer.map fun i : Nat => .int i)), .ow 0 (.lst (((pre.flatMap (srcs fl)).foldl nlStep (rep, [])).2.map fun i : Nat => .int i)), .sh (.int x), g5, g6, g7] ⟨g5, g6, g7, by rw [List.append_nil], i5, i6, i7⟩ (by
      rintro p2 q s2 _ hs2 ⟨g5, g6, g7, rfl, i5, i6, i7⟩
      have NI := nlI (pre.flatMap (srcs fl) ++ p2) (q :: s2 ++ suf.flatMap (srcs fl)) (by rw [e2, hs2]; simp)
      have hq := hv q (by rw [e2, hs2]; simp)
      have hfl : (((pre.flatMap (srcs fl) ++ p2).foldl nlStep (rep, [])).2).length < 1000000 := by
        have : (((pre.flatMap (srcs fl) ++ p2).foldl nlStep (rep, [])).2).length ≤ (List.range st.length).length := NI.nd.length_le_of_subset fun i hi => List.mem_range.mpr ((NI.fd i).mp hi).1
        rw [List.length_range] at this
        omega
      have e3 : (pre.flatMap (srcs fl) ++ (p2 ++ [q])).foldl nlStep (rep, []) = nlStep ((pre.flatMap (srcs fl) ++ p2).foldl nlStep (rep, [])) q := by rw [← List.append_assoc, List.foldl_append]; rfl
      exact ⟨[.sh (eInc st.length fl), .io 1 (eRep ((pre.flatMap (srcs fl) ++ p2).foldl nlStep (rep, [])).1), .sh (.lst (layer.map fun i : Nat => .int i)), .ow 0 (.lst (((pre.flatMap (srcs fl) ++ p2).foldl nlStep (rep, [])).2.map fun i : Nat => .int i)), .sh (.int x), .sh (.int q.1), .sh (.int q.2.1), .sh (.int q.2.2)], _, by simp [eEnt, i5, i6, i7], .inl (nl_b1 q (by rw [NI.rep.ok.len]; exact hq.1) (by rw [NI.rep.ok.row _ hq.1]; exact hq.2) hfl _ _ _ rfl), ⟨_, _, _, by rw [e3], rfl, rfl, rfl⟩⟩)
    have hix : D.ix (eInc st.length fl) (.int (x : Int)) = some (.lst ((srcs fl x).map eEnt)) := by
      unfold eInc
      rw [ix_lst, atI_map, atIN, List.getElem?_range hx]
      rfl
    refine ⟨[.sh (eInc st.length fl), .io 1 (eRep ((pre.flatMap (srcs fl)).foldl nlStep (rep, [])).1), .sh (.lst (layer.map fun i : Nat => .int i)), .ow 0 (.lst (((pre.flatMap (srcs fl)).foldl nlStep (rep, [])).2.map fun i : Nat => .int i)), .sh (.int x), g5, g6, g7], _, by simp [i4], .inl ?_, ⟨.sh (.int x), h5, h6, h7, rfl, rfl, j5, j6, j7⟩⟩
    rw [e1]
    simp [r_next_layer_b2, hix, he])
  have q : nextLayer fl rep layer = (layer.flatMap (srcs fl)).foldl nlStep (rep, []) := rfl
  rw [← q] at he
  simp [n_next_layer, r_next_layer, he]
  exact outI_rt rfl
end K
namespace K
open PySem PySem.Spec PyProof.Rows L2 VL G
/-! ### strike -/
def eSk (o : Option (Nat × List (Option Int))) : D := match o with
  | none => .non
  | some p => .tup [.int p.1, .tup (p.2.map eOi)]
def eStk (s : Stk) : D := .lst (s.map eSk)
theorem scL_eOi : ∀ r : List (Option Int), ∃ vs, scL (r.map eOi) = some vs
  | [] => ⟨_, rfl⟩
  | o :: r => by
    obtain ⟨vs, h⟩ := scL_eOi r
    cases o <;> exact ⟨_, by rw [List.map_cons]; unfold scL; rw [h]; rfl⟩
theorem strike_b1 {rep : Rep} {s : Stk} {i k : Nat} (hi : i < rep.length) (hs : i < s.length) (A g1 g4 g7 g8 : SV) (i0 : isIo A = false) (i1 : isIo g1 = false) (i4 : isIo g4 = false) (i7 : isIo g7 = false) (i8 : isIo g8 = false) :
    r_strike_b1 [A, g1, .ow 1 (eRep rep), .ow 0 (eStk s), g4, .sh (.int k), .sh (.int i), g7, g8] = ok (.nx, [A, g1, .ow 1 (eRep rep), .ow 0 (eStk (s.set i (some (k, (rep[i]?).getD [])))), g4, .sh (.int k), .sh (.int i), g7, g8]) := by
  have h1 := rep_ix hi
  obtain ⟨vs, h2⟩ := scL_eOi ((rep[i]?).getD [])
  have h3 : eRow' ((rep[i]?).getD []) = .lst (((rep[i]?).getD []).map eOi) := rfl
  rw [h3] at h1
  have h4 : D.store (eStk s) (.int (i : Int)) (.tup [.int k, .tup (((rep[i]?).getD []).map eOi)]) = some (eStk (s.set i (some (k, (rep[i]?).getD [])))) := by
    unfold eStk
    rw [store_lst (by omega) (by simpa using hs), List.map_set]
    rfl
  simp [r_strike_b1, h1, h2, h4]
theorem strike_for {rep : Rep} {k : Nat} (hr : ∀ i, i < rep.length → True) (A g1 : SV) (i0 : isIo A = false) (i1 : isIo g1 = false) (layer : List Nat) (s : Stk) (hs : s.length = rep.length) (hl : ∀ i ∈ layer, i < rep.length) (g6 : SV) (i6 : isIo g6 = false) :
    ∃ h6, isIo h6 = false ∧ forL (gNm 6) r_strike_b1 (layer.map fun i : Nat => .int i) [A, g1, .ow 1 (eRep rep), .ow 0 (eStk s), .sh (.lst (layer.map fun i : Nat => .int i)), .sh (.int k), g6, .un, .un] = ok (.nx, [A, g1, .ow 1 (eRep rep), .ow 0 (eStk (mark k rep layer s)), .sh (.lst (layer.map fun i : Nat => .int i)), .sh (.int k), h6, .un, .un]) := by
  obtain ⟨e', he, h6, rfl, j6⟩ := forL_split (tg := gNm 6) (s := r_strike_b1) (fun i : Nat => D.int i) (fun pre e => ∃ g6, e = [A, g1, .ow 1 (eRep rep), .ow 0 (eStk (mark k rep pre s)), .sh (.lst (layer.map fun i : Nat => .int i)), .sh (.int k), g6, .un, .un] ∧ isIo g6 = false) layer [A, g1, .ow 1 (eRep rep), .ow 0 (eStk s), .sh (.lst (layer.map fun i : Nat => .int i)), .sh (.int k), g6, .un, .un] ⟨g6, rfl, i6⟩ (by
    rintro pre i suf _ hs2 ⟨g6, rfl, i6⟩
    have hi := hl i (by rw [hs2]; simp)
    have hm := (mark_at k rep pre s i).1
    have e1 : mark k rep (pre ++ [i]) s = (mark k rep pre s).set i (some (k, (rep[i]?).getD [])) := by unfold mark; rw [List.foldl_append]; rfl
    exact ⟨[A, g1, .ow 1 (eRep rep), .ow 0 (eStk (mark k rep pre s)), .sh (.lst (layer.map fun i : Nat => .int i)), .sh (.int k), .sh (.int i), .un, .un], _, by simp [i6], .inl (strike_b1 hi (by rw [hm, hs]; exact hi) A g1 _ .un .un i0 i1 rfl rfl rfl), ⟨_, by rw [e1], rfl⟩⟩)
  exact ⟨h6, j6, he⟩
/-- what strike hands back -/
structure StkOk (st : Steps) (s : Stk) : Prop where
  len : s.length = st.length
  at_ : ∀ i, i < st.length → (Struck (LS st) i ∧ ∃ r rp, s[i]? = some (some (r, rp)) ∧ Ex st r i ∧ GoodRep st r i rp) ∨ (¬ Struck (LS st) i ∧ s[i]? = some none)
theorem gNe_ints (l : List Nat) : gNe (.lst (l.map fun i : Nat => .int i)) (.lst []) = some (.bl (!l.isEmpty)) := by
  rw [gNe_nil (dpL_map fun i _ => dp_int 19 _)]
  cases l <;> rfl
theorem n_strike_ev {st : Steps} (ok' : StOk st) (hf : (flatS st).length < 1000000) (hn : st.length ≤ 3000) (hm : ∀ i, (stepL st i).length ≤ 1000000) : ∃ s, StkOk st s ∧ n_strike [eSt st] = ok (1, eStk s) := by
  have entry_ok : ∀ (layer : List Nat), ∀ q ∈ layer.flatMap (srcs (flatS st)), q.1 < st.length ∧ q.2.1 < (stepL st q.1).length := by
    rintro layer ⟨n, c, o⟩ hq
    obtain ⟨e, _, h⟩ := List.mem_flatMap.mp hq
    obtain ⟨rows, h1, _⟩ := mem_flatS.mp (mem_srcs.mp h)
    have hc := (List.getElem?_eq_some_iff.mp h1).1
    refine ⟨?_, hc⟩
    rcases Nat.lt_or_ge n st.length with q | q
    · exact q
    · dsimp only at hc; unfold stepL at hc; rw [List.getElem?_eq_none q] at hc; simp at hc
  obtain ⟨r, h1, k, s, g1, g6, I, hl, hg1, rfl⟩ := whileS_run (c := r_strike_t1) (s := r_strike_b2)
    (fun m e => ∃ k s g1 g6, SI st k s ∧ free s.struck ≤ m ∧ (g1 = .ow 1 (eInc st.length (flatS st)) ∨ g1 = .sh (eInc st.length (flatS st))) ∧ isIo g6 = false ∧ e = [.sh (eSt st), g1, .ow 1 (eRep s.rep), .ow 0 (eStk s.struck), .ow 0 (.lst (s.layer.map fun i : Nat => .int i)), .sh (.int (k : Nat)), g6, .un, .un])
    (fun r => ∃ k s g1 g6, SI st k s ∧ s.layer = [] ∧ (g1 = .ow 1 (eInc st.length (flatS st)) ∨ g1 = .sh (eInc st.length (flatS st))) ∧ r = (.nx, [.sh (eSt st), g1, .ow 1 (eRep s.rep), .ow 0 (eStk s.struck), .ow 0 (.lst []), .sh (.int (k : Nat)), g6, .un, .un]))
    (by
      rintro m _ ⟨k, s, g1, g6, I, hm', hg1, i6, rfl⟩
      have hne := gNe_ints s.layer
      cases hly : s.layer with
      | nil =>
        left
        refine ⟨?_, k, s, g1, g6, I, hly, hg1, rfl⟩
        rw [hly] at hne
        rcases hg1 with rfl | rfl <;> simp [r_strike_t1] <;> simp at hne <;> simp [hne]
      | cons e es =>
        right
        have hne2 : s.layer ≠ [] := by rw [hly]; simp
        rw [← hly]
        have hemp : s.layer.isEmpty = false := by rw [hly]; rfl
        rw [hemp] at hne
        refine ⟨by rcases hg1 with rfl | rfl <;> simp [r_strike_t1, hne], .nx, ?_⟩
        have i1 : isIo g1 = false := by rcases hg1 with rfl | rfl <;> rfl
        have lyr : ∀ i ∈ s.layer, i < s.rep.length := fun i hi => by rw [I.rep.ok.len]; exact ((I.lay i).mp hi).1
        obtain ⟨h6, j6, hfor⟩ := strike_for (rep := s.rep) (k := k) (fun _ _ => trivial) (.sh (eSt st)) g1 rfl i1 s.layer s.struck (by rw [I.slen, I.rep.ok.len]) lyr g6 i6
        have NI : NlI st (fun i c => ∃ rows, (stepL st i)[c]? = some rows ∧ ∃ r ∈ rows, Bf st k r.2) (fun i c o => ∃ rows e, (stepL st i)[c]? = some rows ∧ (o, e) ∈ rows ∧ Bf st k e) [] (s.rep, []) :=
          ⟨⟨I.rep.ok, fun i c hi hc => by
            rcases I.rep.set i c hi hc with ⟨q1, q2⟩ | ⟨o, q1, q2, q3⟩
            · exact .inl ⟨q1, fun z => z.elim q2 fun ⟨o, m⟩ => (nomatch m)⟩
            · exact .inr ⟨o, q1, .inl q2, .inl q3⟩⟩, List.nodup_nil, fun i => ⟨fun m => (nomatch m), fun ⟨_, h1, h2⟩ => absurd (fun c hc => (h1 c hc).elim id fun ⟨o, m⟩ => (nomatch m)) h2⟩⟩
        have hnl := n_next_layer_ev (fl := flatS st) (layer := s.layer) NI (by omega) (fun e he => ((I.lay e).mp he).1) (entry_ok s.layer)
        have I' := si_round ok' I
        have hfr := free_round I hne2
        refine ⟨[.sh (eSt st), .sh (eInc st.length (flatS st)), .ow 1 (eRep (roundS (flatS st) k s).rep), .ow 0 (eStk (roundS (flatS st) k s).struck), .ow 0 (.lst ((roundS (flatS st) k s).layer.map fun i : Nat => .int i)), .sh (.int ((k + 1 : Nat) : Int)), h6, .un, .un], ?_, by omega, ?_⟩
        · have ek : ((k + 1 : Nat) : Int) = (k : Int) + 1 := by omega
          rw [ek]
          rcases hg1 with rfl | rfl <;> simp [r_strike_b2, hfor, hnl, ioB_skip j6] <;> rfl
        · exact ⟨k + 1, roundS (flatS st) k s, _, h6, I', by omega, .inr rfl, j6, rfl⟩) 100000 (free (start st).struck) [.sh (eSt st), .ow 1 (eInc st.length (flatS st)), .ow 1 (eRep (start st).rep), .ow 0 (eStk (start st).struck), .ow 0 (.lst ((start st).layer.map fun i : Nat => .int i)), .sh (.int (0 : Nat)), .un, .un, .un] (by
          unfold free
          have := List.countP_le_length (p := (·.isNone)) (l := (start st).struck)
          rw [(si_start st).slen] at this
          omega) ⟨0, start st, _, .un, si_start st, Nat.le_refl _, .inl rfl, rfl, rfl⟩
  have hinc := n_incoming_ev ok' hf (by omega)
  have q : eSt st = .lst (st.map eSl) := rfl
  have c2 : ∀ lists ∈ st, lcL 0 [8] (gNm 8) tYesF r_strike_e1 (lists.map eSrs) [.sh (eSt st), .ow 1 (eInc st.length (flatS st)), .un, .un, .un, .un, .un, .sh (.lst (lists.map eSrs)), .un] = ok (lists.map (fun _ => .non), [.sh (eSt st), .ow 1 (eInc st.length (flatS st)), .un, .un, .un, .un, .un, .sh (.lst (lists.map eSrs)), .un]) := fun lists _ => lcL_all eSrs (fun _ => .non) lists (by intro r _; simp [r_strike_e1])
  have c1 := lcL_all (kk := 1) (vs := [7]) (tg := gNm 7) (tt := tYesF) (el := r_strike_e2) eSl (fun lists => .lst (lists.map fun _ => .non)) (env := [.sh (eSt st), .ow 1 (eInc st.length (flatS st)), .un, .un, .un, .un, .un, .un, .un]) st (by
    intro lists hl
    have ql : eSl lists = .lst (lists.map eSrs) := rfl
    have h2 := c2 lists hl
    have h3 : lists.length ≤ 1000000 := by
      obtain ⟨i, hi, e⟩ := List.mem_iff_getElem.mp hl
      have := hm i
      unfold stepL at this
      rw [List.getElem?_eq_getElem hi, Option.getD_some, e] at this
      exact this
    simp [r_strike_e2, ql, h2, h3])
  have er : D.lst (st.map fun lists => D.lst (lists.map fun _ => D.non)) = eRep (start st).rep := by
    unfold eRep G.start eRow'
    simp only [List.map_map]
    congr 1
    apply List.map_congr_left
    intro l _
    simp [eOi]
  have c3 := lcL_all (kk := 0) (vs := [8]) (tg := gNm 8) (tt := tYesF) (el := r_strike_e3) eSl (fun _ => .non) (env := [.sh (eSt st), .ow 1 (eInc st.length (flatS st)), .ow 1 (eRep (start st).rep), .un, .un, .un, .un, .un, .un]) st (by intro r _; simp [r_strike_e3])
  have es : D.lst (st.map fun _ => D.non) = eStk (start st).struck := by
    unfold eStk G.start
    simp [eSk]
  have c4 := lcL_filter (kk := 0) (vs := [6, 7]) (tg := (gTp 2 (gsCons (gNm 6) (gsCons (gNm 7) gsNil)))) (tt := r_strike_c1) (el := r_strike_e4) eEnL (fun p => D.int p.2) (fun p => p.1.isEmpty) (env := [.sh (eSt st), .ow 1 (eInc st.length (flatS st)), .ow 1 (eRep (start st).rep), .ow 0 (eStk (start st).struck), .un, .un, .un, .un, .un]) st.zipIdx (by
    rintro ⟨lists, i⟩ _
    have h : gEq (eSl lists) (.lst []) = some (.bl lists.isEmpty) := by
      unfold eSl
      rw [gEq_nil (dpL_map fun rows _ => by
        unfold eSrs
        rw [dp_lst]
        exact dpL_map fun r _ => by unfold eSr; simp [dpL_cons, dpL_nil])]
      cases lists <;> rfl
    cases he : lists.isEmpty <;> simp [r_strike_c1, r_strike_e4, eEnL, h, he])
  have el : (st.zipIdx.filter fun p => p.1.isEmpty).map (fun p => D.int p.2) = (start st).layer.map fun i : Nat => D.int i := by
    unfold G.start
    simp only [List.map_map]
    rfl
  rw [el] at c4
  have ee := enumD_map eSl st 0
  unfold eEnL at c4
  have hn2 : st.length ≤ 1000000 := by omega
  have hzl : st.zipIdx.length ≤ 1000000 := by rw [List.length_zipIdx]; exact hn2
  refine ⟨s.struck, ⟨I.slen, fun i hi => ?_⟩, ?_⟩
  · rcases I.stk i hi with ⟨a1, r, rp, a2, a3, a4⟩ | ⟨a1, a2⟩
    · exact .inl ⟨(si_end ok' I hl hi).mpr a1, r, rp, a2, a4⟩
    · exact .inr ⟨fun z => a1 ((si_end ok' I hl hi).mp z), a2⟩
  · rw [q] at c1 c3 c4 h1 hinc
    rw [show ((0 : Nat) : Int) = 0 from rfl] at h1
    simp [n_strike, r_strike, q, hinc, c1, er, c3, es, c4, ee, hn2, hzl, h1]
end K
namespace K
open PySem PySem.Spec PyProof.Rows L2 VL G
/-! ### latest -/
def eN (i : Nat) : D := .int i
def eLat : Lat → D
  | .lost => .tup [.str "lost"]
  | .always => .tup [.str "always"]
  | .until_ t => .tup [.str "until", .int t]
theorem ken_nat : KEn false eN (fun i => .inl (.inl (i : Int))) := ⟨fun _ => rfl, fun a b h => by
  have := Sum.inl.inj (Sum.inl.inj h); omega⟩
def eTk (q tv : List Nat) : D := .dct false (q.map eN) (tv.map eN)
theorem zip_fst' {α β : Type} : ∀ (q : List α) (t : List β), t.length = q.length → (q.zip t).map (·.1) = q
  | [], [], _ => rfl
  | x :: q, y :: t, h => by rw [List.zip_cons_cons, List.map_cons, zip_fst' q t (by simpa using h)]
  | [], _ :: _, h => by cases h
  | _ :: _, [], h => by cases h
theorem zip_snd' {α β : Type} : ∀ (q : List α) (t : List β), t.length = q.length → (q.zip t).map (·.2) = t
  | [], [], _ => rfl
  | x :: q, y :: t, h => by rw [List.zip_cons_cons, List.map_cons, zip_snd' q t (by simpa using h)]
  | [], _ :: _, h => by cases h
  | _ :: _, [], h => by cases h
theorem tk_ix {q tv : List Nat} (nd : q.Nodup) (hl : tv.length = q.length) {i x d : Nat} (hx : q[i]? = some x) (hd : tv[i]? = some d) : D.ix (eTk q tv) (.int (x : Int)) = some (.int d) := by
  have h1 := ken_nat.ix eN (q.zip tv) x
  have k1 : ((q.zip tv).map fun p => eN p.1) = q.map eN := by
    rw [show (fun p : Nat × Nat => eN p.1) = eN ∘ (·.1) from rfl, ← List.map_map, zip_fst' q tv hl]
  have k2 : ((q.zip tv).map fun p => eN p.2) = tv.map eN := by
    rw [show (fun p : Nat × Nat => eN p.2) = eN ∘ (·.2) from rfl, ← List.map_map, zip_snd' q tv hl]
  have hm : (x, d) ∈ q.zip tv := by
    refine List.mem_of_getElem? (i := i) ?_
    rw [List.getElem?_zip_eq_some]
    exact ⟨hx, hd⟩
  have h2 := lookup_nd (f := q.zip tv) (by rw [zip_fst' q tv hl]; exact nd) hm
  rw [k1, k2, h2] at h1
  exact h1
theorem tk_notin (q tv : List Nat) (hl : tv.length = q.length) (x : Nat) : gNotIn (.int (x : Int)) (eTk q tv) = some (.bl (!decide (x ∈ q))) :=
  ken_nat.notin q (tv.map eN) x (by simpa using hl)
theorem tk_store {q tv : List Nat} (hl : tv.length = q.length) {x : Nat} (h : x ∉ q) (c : q.length < 1000000) (d : Nat) : D.store (eTk q tv) (.int (x : Int)) (.int (d : Int)) = some (eTk (q ++ [x]) (tv ++ [d])) := by
  have := ken_nat.new (vs := tv.map eN) (k := x) (x := eN d) (by simpa using hl) h c
  unfold eTk
  rw [List.map_append (l₁ := tv)]
  exact this
theorem la_b1 {q tv : List Nat} (nd : q.Nodup) (hl : tv.length = q.length) (c : q.length < 1000000) {i n d : Nat} (hx : q[i]? = some n) (hd : tv[i]? = some d) (y : Nat) (A B : SV) (S : SV) (g7 : SV) (at_ : D) (iA : isIo A = false) (iB : isIo B = false) (iS : isIo S = false) (i7 : isIo g7 = false) :
    r_latest_b1 [A, B, S, .ow 0 (eTk q tv), .ow 0 (.lst (q.map eN)), .sh at_, .sh (.int n), g7, .sh (.int y)] = ok (.nx, [A, B, S, .ow 0 (eTk (add q y) (if y ∈ q then tv else tv ++ [d + 1])), .ow 0 (.lst ((add q y).map eN)), .sh at_, .sh (.int n), g7, .sh (.int y)]) := by
  have h1 := tk_notin q tv hl y
  unfold add
  by_cases h : y ∈ q
  · rw [if_pos h, if_pos h]
    simp [r_latest_b1, h1, h]
  · rw [if_neg h, if_neg h]
    have h2 := tk_ix nd hl hx hd
    have h3 := tk_store hl h c (d + 1)
    have ed : ((d + 1 : Nat) : Int) = (d : Int) + 1 := by omega
    rw [ed] at h3
    have qe : eN y = .int y := rfl
    simp [r_latest_b1, h1, h, h2, h3, c, qe, ioB_skip iA, ioB_skip iB, ioB_skip iS, ioB_skip i7]
theorem tv_step {q tv : List Nat} {d y : Nat} (p : List Nat) (hp : p <+: q) : (if y ∈ q then tv ++ List.replicate (q.length - p.length) (d + 1) else (tv ++ List.replicate (q.length - p.length) (d + 1)) ++ [d + 1]) = tv ++ List.replicate ((add q y).length - p.length) (d + 1) := by
  unfold add
  have := hp.length_le
  split
  · rfl
  · rw [List.length_append, List.length_singleton, show q.length + 1 - p.length = (q.length - p.length) + 1 by omega, List.replicate_succ', List.append_assoc]
theorem la_for {q tv : List Nat} (nd : q.Nodup) (hl : tv.length = q.length) {N : Nat} (hN : N < 1000000) {i n d : Nat} (hx : q[i]? = some n) (hd : tv[i]? = some d) (rows : List (Int × Nat)) (hle : (addAll q (rows.map (·.2))).length ≤ N) (A B : SV) (S : SV) (g7 g8 : SV) (at_ : D) (iA : isIo A = false) (iB : isIo B = false) (iS : isIo S = false) (i7 : isIo g7 = false) (i8 : isIo g8 = false) :
    ∃ h7 h8, isIo h7 = false ∧ isIo h8 = false ∧ forL (gTp 2 (gsCons (gNm 7) (gsCons (gNm 8) gsNil))) r_latest_b1 (rows.map eSr) [A, B, S, .ow 0 (eTk q tv), .ow 0 (.lst (q.map eN)), .sh at_, .sh (.int n), g7, g8] =
      ok (.nx, [A, B, S, .ow 0 (eTk (addAll q (rows.map (·.2))) (tv ++ List.replicate ((addAll q (rows.map (·.2))).length - q.length) (d + 1))), .ow 0 (.lst ((addAll q (rows.map (·.2))).map eN)), .sh at_, .sh (.int n), h7, h8]) := by
  obtain ⟨e', he, h7, h8, rfl, j7, j8⟩ := forL_split (tg := (gTp 2 (gsCons (gNm 7) (gsCons (gNm 8) gsNil)))) (s := r_latest_b1) eSr (fun pre e => ∃ g7 g8, e = [A, B, S, .ow 0 (eTk (addAll q (pre.map (·.2))) (tv ++ List.replicate ((addAll q (pre.map (·.2))).length - q.length) (d + 1))), .ow 0 (.lst ((addAll q (pre.map (·.2))).map eN)), .sh at_, .sh (.int n), g7, g8] ∧ isIo g7 = false ∧ isIo g8 = false) rows [A, B, S, .ow 0 (eTk q tv), .ow 0 (.lst (q.map eN)), .sh at_, .sh (.int n), g7, g8] ⟨g7, g8, by simp [addAll], i7, i8⟩ (by
    rintro pre r suf _ hs ⟨g7, g8, rfl, i7, i8⟩
    have pq : q <+: addAll q (pre.map (·.2)) := addAll_pre _ _
    have e1 : addAll q ((pre ++ [r]).map (·.2)) = add (addAll q (pre.map (·.2))) r.2 := by rw [List.map_append, addAll_app]; rfl
    have hlen : (addAll q (pre.map (·.2))).length ≤ N := by
      refine Nat.le_trans ?_ hle
      rw [hs, List.map_append, addAll_app]
      exact (addAll_pre _ _).length_le
    have htl : (tv ++ List.replicate ((addAll q (pre.map (·.2))).length - q.length) (d + 1)).length = (addAll q (pre.map (·.2))).length := by
      have := pq.length_le
      simp; omega
    have hdi : (tv ++ List.replicate ((addAll q (pre.map (·.2))).length - q.length) (d + 1))[i]? = some d := by
      rw [List.getElem?_append_left (List.getElem?_eq_some_iff.mp hd).1]; exact hd
    exact ⟨[A, B, S, .ow 0 (eTk (addAll q (pre.map (·.2))) (tv ++ List.replicate ((addAll q (pre.map (·.2))).length - q.length) (d + 1))), .ow 0 (.lst ((addAll q (pre.map (·.2))).map eN)), .sh at_, .sh (.int n), .sh (.int r.1), .sh (.int r.2)], _, by simp [eSr, i7, i8], .inl (la_b1 (nd_addAll nd) htl (by omega) (pre_get pq hx) hdi r.2 A B S _ at_ iA iB iS rfl), ⟨_, _, by rw [e1, tv_step q pq], rfl, rfl⟩⟩)
  exact ⟨h7, h8, j7, j8, he⟩
theorem isNon_eSk (o : Option (Nat × List (Option Int))) : isNon (eSk o) = o.isNone := by cases o <;> rfl
theorem stk_ix {s : Stk} {i : Nat} {o : Option (Nat × List (Option Int))} (h : s[i]? = some o) : D.ix (eStk s) (.int (i : Int)) = some (eSk o) := by
  unfold eStk
  rw [ix_lst, atI_map, atIN, h]
  rfl
theorem s0_LS {st : Steps} {i : Nat} {rows : List (Int × Nat)} {rs : List (List (Int × Nat))} (h : stepL st i = rows :: rs) : s0 (LS st) i = rows.map (·.2) := by
  unfold s0 LS; rw [h]; rfl
theorem n_latest_core {st : Steps} (ok' : StOk st) {s : Stk} (so : StkOk st s) (h0 : 0 < st.length) (hn : st.length ≤ 3000) (hns : ¬ Struck (LS st) 0) (A : D) :
    ∃ r, (r = .always ∨ ∃ t, r = .until_ t) ∧ LatSpec (LS st) 0 r ∧ ∃ e, (r = .always ∧ whileS r_latest_t1 r_latest_b2 100000 [.sh A, .sh (eSt st), .ow 0 (eStk s), .ow 0 (eTk [0] [0]), .ow 0 (.lst [.int 0]), .sh (.int 0), .un, .un, .un] = ok (.nx, e)) ∨ (r ≠ .always ∧ whileS r_latest_t1 r_latest_b2 100000 [.sh A, .sh (eSt st), .ow 0 (eStk s), .ow 0 (eTk [0] [0]), .ow 0 (.lst [.int 0]), .sh (.int 0), .un, .un, .un] = ok (.rt 0 (eLat r), e)) := by
  have reach : ∀ y, Reach (s0 (LS st)) 0 y → y ∈ List.range st.length := fun y h => by
    rw [List.mem_range]
    induction h with
    | base => exact h0
    | step h1 h2 ih =>
      rename_i x y
      unfold s0 LS at h2
      cases e : stepL st x with
      | nil => rw [e] at h2; cases h2
      | cons rows rs =>
        rw [e] at h2
        obtain ⟨r, hr, rfl⟩ := List.mem_map.mp h2
        exact ok'.lt x rows (by rw [e]; exact List.mem_cons_self) r hr
  obtain ⟨K, hK, c⟩ := closes_ex (s0 (LS st)) 0 reach
  rw [List.length_range] at hK
  have memlt : ∀ {i j x : Nat}, (iter (s0 (LS st)) 0 i)[j]? = some x → x < st.length := fun {i j x} h => List.mem_range.mp (reach x (iter_reach _ _ i x (List.mem_of_getElem? h)))
  obtain ⟨r, h1, h2⟩ := whileS_run (c := r_latest_t1) (s := r_latest_b2)
    (fun m e => ∃ i g6 g7 g8, m = K - i ∧ i ≤ K ∧ (∀ (j y : Nat), j < i → (iter (s0 (LS st)) 0 i)[j]? = some y → ¬ Struck (LS st) y) ∧ isIo g6 = false ∧ isIo g7 = false ∧ isIo g8 = false ∧ e = [.sh A, .sh (eSt st), .ow 0 (eStk s), .ow 0 (eTk (iter (s0 (LS st)) 0 i) (tks (s0 (LS st)) 0 i)), .ow 0 (.lst ((iter (s0 (LS st)) 0 i).map eN)), .sh (.int i), g6, g7, g8])
    (fun r => (LatSpec (LS st) 0 .always ∧ ∃ e, r = (.nx, e)) ∨ ∃ t e, LatSpec (LS st) 0 (.until_ t) ∧ r = (.rt 0 (eLat (.until_ t)), e))
    (by
      rintro m _ ⟨i, g6, g7, g8, rfl, hi, hb, i6, i7, i8, rfl⟩
      rcases Nat.lt_or_ge i K with h | h
      · right
        have hlt := c.lt i h
        refine ⟨by simp [r_latest_t1, hlt], ?_⟩
        have hle : ∀ i, (iter (s0 (LS st)) 0 i).length ≤ 3000 := fun i => Nat.le_trans (iter_le c i) (by omega)
        have ex := List.getElem?_eq_getElem hlt
        generalize hx : (iter (s0 (LS st)) 0 i)[i] = x at ex
        have htl := tks_len (s0 (LS st)) 0 i
        have hlt2 : i < (tks (s0 (LS st)) 0 i).length := by rw [htl]; exact hlt
        have ed := List.getElem?_eq_getElem hlt2
        generalize hd : (tks (s0 (LS st)) 0 i)[i] = d at ed
        have hxl := memlt ex
        have q1 : atI ((iter (s0 (LS st)) 0 i).map eN) (i : Int) = some (.int x) := by rw [atI_map, atIN, ex]; rfl
        have tki := tk_ix (iter_nd _ _ i) htl ex ed
        rcases so.at_ x hxl with ⟨a1, r, rp, a2, _⟩ | ⟨a1, a2⟩
        · have q2 := stk_ix a2
          have q3 := isNon_eSk (some (r, rp))
          refine ⟨.rt 0 (eLat (.until_ ((d : Int) - 1))), [.sh A, .sh (eSt st), .ow 0 (eStk s), .ow 0 (eTk (iter (s0 (LS st)) 0 i) (tks (s0 (LS st)) 0 i)), .ow 0 (.lst ((iter (s0 (LS st)) 0 i).map eN)), .sh (.int ((i : Int) + 1)), .sh (.int x), g7, g8], ?_, .inr ⟨_, _, lat_until (LS st) 0 c h hns ex ed a1 hb, rfl⟩⟩
          simp [r_latest_b2, q1, q2, q3, tki, i6, eLat]
        · have q2 := stk_ix a2
          have q3 := isNon_eSk none
          obtain ⟨l, hl, _⟩ := not_struck (LS st) a1
          obtain ⟨rows, rs, es⟩ : ∃ rows rs, stepL st x = rows :: rs := by
            cases e : stepL st x with
            | nil => unfold LS at hl; rw [e] at hl; cases hl
            | cons rows rs => exact ⟨rows, rs, rfl⟩
          have enx : iter (s0 (LS st)) 0 (i + 1) = addAll (iter (s0 (LS st)) 0 i) (rows.map (·.2)) := by rw [iter_next _ _ ex, s0_LS es]
          obtain ⟨h7, h8, j7, j8, hfor⟩ := la_for (iter_nd (s0 (LS st)) 0 i) htl (N := 3000) (by omega) ex ed rows (by rw [← enx]; exact hle (i + 1)) (.sh A) (.sh (eSt st)) (.ow 0 (eStk s)) g7 g8 (.int ((i : Int) + 1)) rfl rfl rfl i7 i8
          have etk : tks (s0 (LS st)) 0 (i + 1) = tks (s0 (LS st)) 0 i ++ List.replicate ((addAll (iter (s0 (LS st)) 0 i) (rows.map (·.2))).length - (iter (s0 (LS st)) 0 i).length) (d + 1) := by
            show tks (s0 (LS st)) 0 i ++ List.replicate ((iter (s0 (LS st)) 0 (i + 1)).length - (iter (s0 (LS st)) 0 i).length) _ = _
            rw [enx, ed]; rfl
          rw [← etk, ← enx] at hfor
          have q4 : D.ix (eSt st) (.int (x : Int)) = some (.lst ((rows :: rs).map eSrs)) := by
            unfold eSt
            rw [ix_lst, atI_map, atIN, List.getElem?_eq_getElem hxl]
            have : stepL st x = st[x] := by unfold stepL; rw [List.getElem?_eq_getElem hxl]; rfl
            rw [Option.map_some, ← this, es]
            rfl
          have q5 : eSrs rows = .lst (rows.map eSr) := rfl
          refine ⟨.nx, _, ?_, by omega, i + 1, .sh (.int x), h7, h8, by omega, by omega, ?_, rfl, j7, j8, rfl⟩
          · have ei : ((i + 1 : Nat) : Int) = (i : Int) + 1 := by omega
            rw [ei]
            simp [r_latest_b2, q1, q2, q3, q4, q5, i6, hfor]
          · intro j y hj hy
            rcases Nat.lt_or_ge j i with hji | hji
            · refine hb j y hji ?_
              obtain ⟨r, hr⟩ := iter_succ_pre (s0 (LS st)) 0 i
              rw [← hr, List.getElem?_append_left (by omega)] at hy
              exact hy
            · have : j = i := by omega
              subst this
              have := pre_get (iter_succ_pre (s0 (LS st)) 0 j) ex
              rw [this] at hy
              cases hy
              exact a1
      · left
        have e : i = K := by omega
        subst e
        refine ⟨by simp [r_latest_t1, c.len], .inl ⟨lat_always (LS st) 0 c fun j y hj => hb j y ?_ hj, _, rfl⟩⟩
        have := (List.getElem?_eq_some_iff.mp hj).1
        rw [c.len] at this
        exact this) 100000 K [.sh A, .sh (eSt st), .ow 0 (eStk s), .ow 0 (eTk [0] [0]), .ow 0 (.lst [.int 0]), .sh (.int 0), .un, .un, .un] (by omega) ⟨0, .un, .un, .un, rfl, by omega, fun j y h => by omega, rfl, rfl, rfl, rfl⟩
  rcases h2 with ⟨h2, e, rfl⟩ | ⟨t, e, h2, rfl⟩
  · exact ⟨.always, .inl rfl, h2, e, .inl ⟨rfl, h1⟩⟩
  · exact ⟨.until_ t, .inr ⟨t, rfl⟩, h2, e, .inr ⟨by simp, h1⟩⟩

theorem flatMap_le {α β : Type} (f : α → List β) (k : Nat) : ∀ xs : List α, (∀ x ∈ xs, (f x).length ≤ k) → (xs.flatMap f).length ≤ xs.length * k
  | [], _ => by simp
  | x :: xs, h => by
    rw [List.flatMap_cons, List.length_append, List.length_cons, Nat.succ_mul]
    have := flatMap_le f k xs fun y m => h y (List.mem_cons_of_mem _ m)
    have := h x List.mem_cons_self
    omega
theorem followsF_lt {a : Ar} {b : List Int} {c : Int} (h : (outsB a b c).length < 64) : (followsF a b c).length < 64 := by
  unfold followsF answersF uniq
  rw [List.length_map]
  have h3 : (srt (dedup ((outsB a b c).map h0))).length = (dedup ((outsB a b c).map h0)).length := by unfold srt; exact List.length_mergeSort _
  have h4 : ∀ ns : List Int, (dedup ns).length ≤ ns.length := by
    intro ns
    induction ns with
    | nil => exact Nat.le_refl _
    | cons n ns ih => unfold dedup; split <;> simp <;> omega
  have := h4 ((outsB a b c).map h0)
  rw [List.length_map] at this
  omega
theorem LB_rows {a : Ar} (v : a.Ok) {b : List Int} (bok : BOk a b) : (LB a b).length ≤ 4 ∧ ∀ rows ∈ LB a b, rows.length ≤ 64 := by
  have hc := v.cm
  unfold LB
  split
  · exact ⟨by simp, fun rows h => nomatch h⟩
  · refine ⟨by simp; omega, fun rows h => ?_⟩
    obtain ⟨c, hc, rfl⟩ := List.mem_map.mp h
    rw [List.mem_range] at hc
    have := followsF_lt (bok.few c ⟨by omega, by omega⟩)
    omega
theorem stepL_F {a : Ar} {Q : List (List Int)} {i : Nat} {b : List Int} (h : Q[i]? = some b) : stepL (stepsF a Q) i = numB Q (LB a b) := by
  unfold stepL stepsF
  rw [List.getElem?_map, h]; rfl
/-- latest answers as its specification says -/
theorem n_latest_ev {a : Ar} (v : a.Ok) {K : Nat} (c : Closes (succA a) [0] K) (hK : K ≤ 3000) (hb : ∀ b, Reach (succA a) [0] b → BOk a b) :
    ∃ r, LatSpec (LA a) [0] r ∧ n_latest [eAr a] = ok (0, eLat r) := by
  have hbg := n_belief_graph_ev v c hK hb
  have qlen : (stepsF a (iter (succA a) [0] K)).length = K := by unfold stepsF; rw [List.length_map, c.len]
  have atQ : ∀ i, i < K → ∃ b, (iter (succA a) [0] K)[i]? = some b ∧ Reach (succA a) [0] b := fun i hi => by
    have h : i < (iter (succA a) [0] K).length := by rw [c.len]; exact hi
    exact ⟨_, List.getElem?_eq_getElem h, iter_reach _ _ K _ (List.getElem_mem h)⟩
  have closedQ : ∀ b, Reach (succA a) [0] b → ∀ rows ∈ LB a b, ∀ r ∈ rows, r.2 ∈ iter (succA a) [0] K := fun b hr rows h1 r h2 =>
    (Closes.mem _ _ c r.2).mpr (.step hr (List.mem_flatMap.mpr ⟨rows, h1, List.mem_map.mpr ⟨r, h2, rfl⟩⟩))
  have ok' : StOk (stepsF a (iter (succA a) [0] K)) := by
    refine ⟨fun i rows h1 r h2 => ?_⟩
    rw [qlen]
    rcases Nat.lt_or_ge i K with hi | hi
    · obtain ⟨b, e, hr⟩ := atQ i hi
      rw [stepL_F e] at h1
      obtain ⟨rows', h3, rfl⟩ := List.mem_map.mp h1
      obtain ⟨r', h4, rfl⟩ := List.mem_map.mp h2
      have := pos_lt (closedQ b hr rows' h3 r' h4)
      rw [c.len] at this
      exact this
    · unfold stepL at h1
      rw [List.getElem?_eq_none (by rw [qlen]; exact hi)] at h1
      cases h1
  have hfl : (flatS (stepsF a (iter (succA a) [0] K))).length < 1000000 := by
    have h1 : ∀ p ∈ (stepsF a (iter (succA a) [0] K)).zipIdx, (listsE p.2 p.1).length ≤ 4 * 64 := by
      rintro ⟨lists, i⟩ hp
      rw [List.mem_zipIdx_iff_getElem?] at hp
      unfold stepsF at hp
      rw [List.getElem?_map] at hp
      cases e : (iter (succA a) [0] K)[i]? with
      | none => rw [e] at hp; cases hp
      | some b =>
        rw [e] at hp
        cases hp
        have hr := LB_rows v (hb b (iter_reach _ _ K _ (List.mem_of_getElem? e)))
        unfold listsE
        have h2 := flatMap_le (fun q : List (Int × Nat) × Nat => rowsE i q.2 q.1) 64 (numB (iter (succA a) [0] K) (LB a b)).zipIdx (by
          rintro ⟨rows, j⟩ hq
          rw [List.mem_zipIdx_iff_getElem?] at hq
          have hm := List.mem_of_getElem? hq
          obtain ⟨rows', h3, rfl⟩ := List.mem_map.mp hm
          unfold rowsE
          rw [List.length_map, List.length_map]
          exact hr.2 rows' h3)
        refine Nat.le_trans h2 ?_
        rw [List.length_zipIdx]
        unfold numB
        rw [List.length_map]
        exact Nat.mul_le_mul_right 64 hr.1
    have h2 := flatMap_le (fun p : List (List (Int × Nat)) × Nat => listsE p.2 p.1) (4 * 64) (stepsF a (iter (succA a) [0] K)).zipIdx h1
    rw [List.length_zipIdx, qlen] at h2
    rw [flatS_eq]
    omega
  have hm : ∀ i, (stepL (stepsF a (iter (succA a) [0] K)) i).length ≤ 1000000 := fun i => by
    rcases Nat.lt_or_ge i K with hi | hi
    · obtain ⟨b, e, hr⟩ := atQ i hi
      rw [stepL_F e]
      unfold numB
      rw [List.length_map]
      have := (LB_rows v (hb b hr)).1
      omega
    · unfold stepL
      rw [List.getElem?_eq_none (by rw [qlen]; exact hi)]
      simp
  have h0 : 0 < (stepsF a (iter (succA a) [0] K)).length := by rw [qlen]; exact c.one
  obtain ⟨s, so, hs⟩ := n_strike_ev ok' hfl (by rw [qlen]; exact hK) hm
  -- the specification moves from numbers to beliefs
  have f0 : ((iter (succA a) [0] K)[0]?).getD [] = [0] := by rw [Closes.head _ _ c]; rfl
  have move : ∀ r, LatSpec (LS (stepsF a (iter (succA a) [0] K))) 0 r → LatSpec (LA a) [0] r := fun r h => by
    have := latSpec_map (L := LS (stepsF a (iter (succA a) [0] K))) (M := LA a) (f := fun i => ((iter (succA a) [0] K)[i]?).getD []) (P := fun i => i < K)
      (fun i hi => by
        obtain ⟨b, e, hr⟩ := atQ i hi
        rw [e, Option.getD_some]
        unfold LA LS
        rw [stepL_F e]
        unfold numB
        simp only [List.map_map]
        apply List.map_congr_left
        intro rows h1
        simp only [Function.comp_apply, List.map_map]
        apply List.map_congr_left
        intro r h2
        simp only [Function.comp_apply]
        rw [pos_get (closedQ b hr rows h1 r h2)]
        rfl)
      (fun i hi l hl y hy => by
        unfold LS at hl
        obtain ⟨rows, h1, rfl⟩ := List.mem_map.mp hl
        obtain ⟨r, h2, rfl⟩ := List.mem_map.mp hy
        have := ok'.lt i rows h1 r h2
        rw [qlen] at this
        exact this) (x0 := 0) (show 0 < K from c.one) h
    rw [f0] at this
    exact this
  by_cases hst : Struck (LS (stepsF a (iter (succA a) [0] K))) 0
  · rcases so.at_ 0 h0 with ⟨_, r, rp, a2, _⟩ | ⟨a1, _⟩
    · have q2 := stk_ix a2
      rw [show ((0 : Nat) : Int) = 0 from rfl] at q2
      have q3 := isNon_eSk (some (r, rp))
      refine ⟨.lost, move .lost hst, ?_⟩
      simp [n_latest, r_latest, hbg, hs, q2, q3, eLat]
    · exact absurd hst a1
  · rcases so.at_ 0 h0 with ⟨a1, _⟩ | ⟨_, a2⟩
    · exact absurd a1 hst
    · have q2 := stk_ix a2
      rw [show ((0 : Nat) : Int) = 0 from rfl] at q2
      have q3 := isNon_eSk none
      obtain ⟨r, hr, hsp, e, hw⟩ := n_latest_core ok' so h0 (by rw [qlen]; exact hK) hst (eAr a)
      refine ⟨r, move r hsp, ?_⟩
      have qt : eTk [0] [0] = .dct false [.int 0] [.int 0] := rfl
      have k0 : kOf false (.int 0) = some (.inl (.inl 0)) := rfl
      rw [qt] at hw
      rcases hw with ⟨rfl, hw⟩ | ⟨_, hw⟩
      · simp [n_latest, r_latest, hbg, hs, q2, q3, k0, hw, eLat]
      · simp [n_latest, r_latest, hbg, hs, q2, q3, k0, hw]
end K
namespace K
open PySem PySem.Spec PyProof.Rows L2 VL G
/-! ### the law's beliefs -/
/-- a dict whose values are True -/
def eHere (l : List (List Int)) : D := .dct true (l.map eB) (l.map fun _ => .bl true)
theorem here_notin (q : List (List Int)) (y : List Int) : gNotIn (eB y) (eHere q) = some (.bl (!decide (y ∈ q))) := by
  have := ken_tup.notin q (q.map fun _ => D.bl true) y (by simp)
  unfold eHere
  rw [this]
  by_cases h : y ∈ q
  · simp [h]
  · simp [h]
theorem here_store {q : List (List Int)} {y : List Int} (nd : q.Nodup) (c : q.length < 1000000) : D.store (eHere q) (eB y) (.bl true) = some (eHere (add q y)) := by
  have := store_true ken_tup (.bl true) (k := y) nd c
  unfold eHere
  rw [this]
  unfold add
  by_cases h : y ∈ q
  · rw [if_pos h]
  · rw [if_neg h]
theorem row_1 (r : Int × List Int) : D.ix (eRow r) (.int 1) = some (eB r.2) := by unfold eRow; simp
theorem lb_b1 {t : List (List Int)} (nd : t.Nodup) (ht : t.length < 1000000) (r : Int × List Int) (A C g4 g5 : SV) (i0 : isIo A = false) (i1 : isIo C = false) (i4 : isIo g4 = false) (i5 : isIo g5 = false) :
    r__law_beliefs_b1 [A, C, .ow 0 (eHere t), .ow 0 (eBl t), g4, g5, .sh (eRow r)] = ok (.nx, [A, C, .ow 0 (eHere (add t r.2)), .ow 0 (eBl (add t r.2)), g4, g5, .sh (eRow r)]) := by
  have h1 := here_notin t r.2
  have h2 := here_store (y := r.2) nd ht
  have h3 := row_1 r
  by_cases h : r.2 ∈ t
  · have e : add t r.2 = t := if_pos h
    rw [e]
    simp [r__law_beliefs_b1, h1, h, h3]
  · have e : add t r.2 = t ++ [r.2] := if_neg h
    rw [e] at h2 ⊢
    have q : ∀ t, eBl t = .lst (t.map eB) := fun _ => rfl
    simp [r__law_beliefs_b1, h1, h, h2, h3, q, ht, ioB_skip i0, ioB_skip i1, ioB_skip i4, ioB_skip i5]
theorem lb_rows {t : List (List Int)} {N : Nat} (hN : N < 1000000) (nd : t.Nodup) (rows : List (Int × List Int)) (ht : (addAll t (rows.map (·.2))).length ≤ N) (A C g4 g5 g6 : SV) (i0 : isIo A = false) (i1 : isIo C = false) (i4 : isIo g4 = false) (i5 : isIo g5 = false) (i6 : isIo g6 = false) :
    ∃ h6, isIo h6 = false ∧ forL (gNm 6) r__law_beliefs_b1 (rows.map eRow) [A, C, .ow 0 (eHere t), .ow 0 (eBl t), g4, g5, g6] = ok (.nx, [A, C, .ow 0 (eHere (addAll t (rows.map (·.2)))), .ow 0 (eBl (addAll t (rows.map (·.2)))), g4, g5, h6]) := by
  obtain ⟨e', he, h6, rfl, j6⟩ := forL_split (tg := gNm 6) (s := r__law_beliefs_b1) eRow (fun pre e => ∃ g6, e = [A, C, .ow 0 (eHere (addAll t (pre.map (·.2)))), .ow 0 (eBl (addAll t (pre.map (·.2)))), g4, g5, g6] ∧ isIo g6 = false) rows [A, C, .ow 0 (eHere t), .ow 0 (eBl t), g4, g5, g6] ⟨g6, rfl, i6⟩ (by
    rintro pre r suf _ hs ⟨g6, rfl, i6⟩
    have e1 : addAll t ((pre ++ [r]).map (·.2)) = add (addAll t (pre.map (·.2))) r.2 := by rw [List.map_append, addAll_app]; rfl
    have hp : (addAll t (pre.map (·.2))).length ≤ N := by
      refine Nat.le_trans ?_ ht
      rw [hs, List.map_append, addAll_app]
      exact (addAll_pre _ _).length_le
    exact ⟨[A, C, .ow 0 (eHere (addAll t (pre.map (·.2)))), .ow 0 (eBl (addAll t (pre.map (·.2)))), g4, g5, .sh (eRow r)], _, by simp [i6], .inl (lb_b1 (nd_addAll nd) (by omega) r A C g4 g5 i0 i1 i4 i5), ⟨_, by rw [e1], rfl⟩⟩)
  exact ⟨h6, j6, he⟩
theorem Nods.few {a : Ar} {b : List Int} (bok : BOk a b) {c : Int} (hc : Cmd a c) : (outsB a b c).length < 4000 := by have := bok.few c hc; omega
theorem succA_eq {a : Ar} {b : List Int} (h : hasBad a b = false) : succA a b = ((List.range (cmdsF a.mv)).flatMap fun c : Nat => (followsF a b c).map (·.2)) := by
  unfold succA LB
  rw [h, if_neg (by simp), List.flatMap_map]
/-- one turn -/
theorem lb_turn {a : Ar} (v : a.Ok) {i N : Nat} (hN : N ≤ 3000) (hall : ∀ i, (iter (succA a) [0] i).length ≤ N) {b : List Int} (eb : (iter (succA a) [0] i)[i]? = some b) (bok : BOk a b) (C : D) (g5 g6 : SV) (i5 : isIo g5 = false) (i6 : isIo g6 = false) :
    ∃ h5 h6, isIo h5 = false ∧ isIo h6 = false ∧ r__law_beliefs_b3 [.sh (eA a), .sh C, .ow 0 (eHere (iter (succA a) [0] i)), .ow 0 (eBl (iter (succA a) [0] i)), .sh (.int i), g5, g6] = ok (.nx, [.sh (eA a), .sh C, .ow 0 (eHere (iter (succA a) [0] (i + 1))), .ow 0 (eBl (iter (succA a) [0] (i + 1))), .sh (.int i), h5, h6]) := by
  have hi := (List.getElem?_eq_some_iff.mp eb).1
  have hbad := n_law_has_bad_ev a b bok.len
  have hcm := n_law_commands_ev a
  have qe : ∀ t, eBl t = .lst (t.map eB) := fun _ => rfl
  have hix : atI ((iter (succA a) [0] i).map eB) (i : Int) = some (eB b) := by rw [atI_map, atIN, eb]; rfl
  have hge : ¬ ((iter (succA a) [0] i).length : Int) ≤ (i : Int) := by omega
  have hge' : ¬ (iter (succA a) [0] i).length ≤ i := by omega
  have enx := iter_next (succA a) [0] eb
  cases hbd : hasBad a b with
  | true =>
    have e0 : succA a b = [] := by unfold succA LB; rw [hbd]; rfl
    rw [e0] at enx
    have enx : iter (succA a) [0] (i + 1) = iter (succA a) [0] i := enx
    refine ⟨g5, g6, i5, i6, ?_⟩
    rw [enx]
    simp [r__law_beliefs_b3, qe, hge', hix, hbad, hbd]
  | false =>
    rw [succA_eq hbd] at enx
    have c1 := v.cm
    have hir := fun e => irg1_ok (j := (cmdsF a.mv : Int)) (by omega) (by omega) e
    obtain ⟨e', he, h5, h6, rfl, j5, j6⟩ := forL_split (tg := gNm 5) (s := r__law_beliefs_b2) (fun c : Nat => D.int c) (fun pre e => ∃ g5 g6, e = [.sh (eA a), .sh C, .ow 0 (eHere (addAll (iter (succA a) [0] i) (pre.flatMap fun c : Nat => (followsF a b c).map (·.2)))), .ow 0 (eBl (addAll (iter (succA a) [0] i) (pre.flatMap fun c : Nat => (followsF a b c).map (·.2)))), .sh (.int i), g5, g6] ∧ isIo g5 = false ∧ isIo g6 = false) (List.range (cmdsF a.mv)) [.sh (eA a), .sh C, .ow 0 (eHere (iter (succA a) [0] i)), .ow 0 (eBl (iter (succA a) [0] i)), .sh (.int i), g5, g6] ⟨g5, g6, rfl, i5, i6⟩ (by
      rintro pre c suf _ hs ⟨g5, g6, rfl, i5, i6⟩
      have hc : c < cmdsF a.mv := by
        have : c ∈ List.range (cmdsF a.mv) := by rw [hs]; simp
        exact List.mem_range.mp this
      have cm : Cmd a (c : Int) := ⟨by omega, by omega⟩
      have hfo := n_law_follows_ev v bok.nods cm (Nods.few bok cm)
      have e1 : addAll (iter (succA a) [0] i) ((pre ++ [c]).flatMap fun c : Nat => (followsF a b c).map (·.2)) = addAll (addAll (iter (succA a) [0] i) (pre.flatMap fun c : Nat => (followsF a b c).map (·.2))) ((followsF a b c).map (·.2)) := by
        rw [List.flatMap_append, addAll_app]; simp
      have hle : (addAll (addAll (iter (succA a) [0] i) (pre.flatMap fun c : Nat => (followsF a b c).map (·.2))) ((followsF a b c).map (·.2))).length ≤ N := by
        rw [← e1]
        refine Nat.le_trans ?_ (hall (i + 1))
        have e2 : ((List.range (cmdsF a.mv)).flatMap fun c : Nat => (followsF a b c).map (·.2)) = ((pre ++ [c]).flatMap fun c : Nat => (followsF a b c).map (·.2)) ++ suf.flatMap fun c : Nat => (followsF a b c).map (·.2) := by
          rw [← List.flatMap_append, hs]; simp
        rw [enx, e2, addAll_app]
        exact (addAll_pre _ _).length_le
      obtain ⟨h6, j6, q⟩ := lb_rows (N := N) (by omega) (nd_addAll (iter_nd (succA a) [0] i)) (followsF a b c) hle (.sh (eA a)) (.sh C) (.sh (.int i)) (.sh (.int c)) g6 rfl rfl rfl rfl i6
      have hix2 : atI ((addAll (iter (succA a) [0] i) (pre.flatMap fun c : Nat => (followsF a b c).map (·.2))).map eB) (i : Int) = some (eB b) := by
        rw [atI_map, atIN, pre_get (addAll_pre _ _) eb]; rfl
      refine ⟨[.sh (eA a), .sh C, .ow 0 (eHere (addAll (iter (succA a) [0] i) (pre.flatMap fun c : Nat => (followsF a b c).map (·.2)))), .ow 0 (eBl (addAll (iter (succA a) [0] i) (pre.flatMap fun c : Nat => (followsF a b c).map (·.2)))), .sh (.int i), .sh (.int c), g6], _, by simp [i5], .inl ?_, ⟨.sh (.int c), h6, rfl, rfl, j6⟩⟩
      rw [e1]
      have qe2 : eBl (addAll (iter (succA a) [0] i) (pre.flatMap fun c : Nat => (followsF a b c).map (·.2))) = .lst ((addAll (iter (succA a) [0] i) (pre.flatMap fun c : Nat => (followsF a b c).map (·.2))).map eB) := rfl
      rw [qe2] at q ⊢
      simp only [r__law_beliefs_b2, sFor_ev, iSeq_ev, eCall_ev, aCons_ev, eV_ev, slot_0, bd_ok, eIxN_ev, slot_3, dat_ow, opt_some, rV_ev, slot_4, dat_sh, ix_lst, hix2, slot_5, aNil_ev, lenQ_ev, List.length_cons, List.length_nil, hfo, chk_ev, ioB_refl, if_true, q])
    rw [← enx] at he
    refine ⟨h5, h6, j5, j6, ?_⟩
    rw [qe] at he
    simp [r__law_beliefs_b3, qe, hge', hix, hbad, hbd, hcm, hir, he]
theorem n_law_beliefs_ev {a : Ar} (v : a.Ok) {K : Nat} (c : Closes (succA a) [0] K) (hK : K ≤ 600) (hb : ∀ b, Reach (succA a) [0] b → BOk a b) : n__law_beliefs [eA a, .int 600] = ok (1, eBl (iter (succA a) [0] K)) := by
  have hr : (List.range 600) = (List.range K) ++ (List.range' K (600 - K)) := by
    rw [List.range_eq_range', List.range_eq_range', show 600 = K + (600 - K) by omega, ← List.range'_append]
    simp
  have step : ∀ (pre : List Nat) (x : Nat) (suf : List Nat) (e : VL.Env), List.range K = pre ++ x :: suf → (∃ g4 g5 g6, e = [.sh (eA a), .sh (.int 600), .ow 0 (eHere (iter (succA a) [0] pre.length)), .ow 0 (eBl (iter (succA a) [0] pre.length)), g4, g5, g6] ∧ isIo g4 = false ∧ isIo g5 = false ∧ isIo g6 = false) →
      ∃ e1 e2, gNm 4 (.int x) e = ok e1 ∧ (r__law_beliefs_b3 e1 = ok (.nx, e2) ∨ r__law_beliefs_b3 e1 = ok (.ct, e2)) ∧ (∃ g4 g5 g6, e2 = [.sh (eA a), .sh (.int 600), .ow 0 (eHere (iter (succA a) [0] (pre ++ [x]).length)), .ow 0 (eBl (iter (succA a) [0] (pre ++ [x]).length)), g4, g5, g6] ∧ isIo g4 = false ∧ isIo g5 = false ∧ isIo g6 = false) := by
    rintro pre x suf _ hs ⟨g4, g5, g6, rfl, i4, i5, i6⟩
    have hx : x = pre.length := by
      have h1 : (List.range K)[pre.length]? = some x := by rw [hs, List.getElem?_append_right (Nat.le_refl _)]; simp
      have h2 := (List.getElem?_eq_some_iff.mp h1).2
      rw [List.getElem_range] at h2
      exact h2.symm
    have hxK : x < K := by
      have : x ∈ List.range K := by rw [hs]; simp
      exact List.mem_range.mp this
    subst hx
    have hlt := c.lt _ hxK
    have eb := List.getElem?_eq_getElem hlt
    obtain ⟨h5, h6, j5, j6, q⟩ := lb_turn v (N := K) (by omega) (fun i => iter_le c i) eb (hb _ (iter_reach _ _ _ _ (List.mem_of_getElem? eb))) (.int 600) g5 g6 i5 i6
    refine ⟨[.sh (eA a), .sh (.int 600), .ow 0 (eHere (iter (succA a) [0] pre.length)), .ow 0 (eBl (iter (succA a) [0] pre.length)), .sh (.int pre.length), g5, g6], _, by simp [i4], .inl q, ⟨.sh (.int pre.length), h5, h6, ?_, rfl, j5, j6⟩⟩
    rw [List.length_append, List.length_singleton]
  have start : (∃ g4 g5 g6, ([.sh (eA a), .sh (.int 600), .ow 0 (eHere [[0]]), .ow 0 (eBl [[0]]), .un, .un, .un] : VL.Env) = [.sh (eA a), .sh (.int 600), .ow 0 (eHere (iter (succA a) [0] ([] : List Nat).length)), .ow 0 (eBl (iter (succA a) [0] ([] : List Nat).length)), g4, g5, g6] ∧ isIo g4 = false ∧ isIo g5 = false ∧ isIo g6 = false) := ⟨.un, .un, .un, rfl, rfl, rfl, rfl⟩
  have fin : ∃ e', forL (gNm 4) r__law_beliefs_b3 ((List.range 600).map fun i : Nat => .int i) [.sh (eA a), .sh (.int 600), .ow 0 (eHere [[0]]), .ow 0 (eBl [[0]]), .un, .un, .un] = ok (.nx, e') ∧ ∃ g2 g4 g5 g6, e' = [.sh (eA a), .sh (.int 600), g2, .ow 0 (eBl (iter (succA a) [0] K)), g4, g5, g6] := by
    rw [hr]
    cases hk : 600 - K with
    | zero =>
      obtain ⟨e', h1, g4, g5, g6, rfl, _⟩ := forL_split (fun i : Nat => D.int i) (fun pre e => ∃ g4 g5 g6, e = [.sh (eA a), .sh (.int 600), .ow 0 (eHere (iter (succA a) [0] pre.length)), .ow 0 (eBl (iter (succA a) [0] pre.length)), g4, g5, g6] ∧ isIo g4 = false ∧ isIo g5 = false ∧ isIo g6 = false) (List.range K) _ start step
      rw [List.range'_zero, List.append_nil]
      rw [List.length_range] at h1
      exact ⟨_, h1, _, g4, g5, g6, rfl⟩
    | succ k =>
      rw [List.range'_succ]
      refine forL_brk (fun i : Nat => D.int i) (fun pre e => ∃ g4 g5 g6, e = [.sh (eA a), .sh (.int 600), .ow 0 (eHere (iter (succA a) [0] pre.length)), .ow 0 (eBl (iter (succA a) [0] pre.length)), g4, g5, g6] ∧ isIo g4 = false ∧ isIo g5 = false ∧ isIo g6 = false) _ (List.range K) K _ _ start step ?_
      rintro _ ⟨g4, g5, g6, rfl, i4, i5, i6⟩
      rw [List.length_range]
      have qe : eBl (iter (succA a) [0] K) = .lst ((iter (succA a) [0] K).map eB) := rfl
      refine ⟨[.sh (eA a), .sh (.int 600), .ow 0 (eHere (iter (succA a) [0] K)), .ow 0 (eBl (iter (succA a) [0] K)), .sh (.int K), g5, g6], [.sh (eA a), .sh (.int 600), .ow 0 (eHere (iter (succA a) [0] K)), .ow 0 (eBl (iter (succA a) [0] K)), .sh (.int K), g5, g6], by simp [i4], ?_, _, _, _, _, rfl⟩
      simp [r__law_beliefs_b3, qe, c.len]
  obtain ⟨e', h1, g2, g4, g5, g6, rfl⟩ := fin
  have q1 : eBl [[0]] = .lst [.tup [.int 0]] := rfl
  have q2 : eHere [[0]] = .dct true [.tup [.int 0]] [.bl true] := rfl
  have q3 : kOf true (.tup [.int 0]) = some (.inr [.inl 0]) := rfl
  have hir := fun e => irg1_ok (j := 600) (by omega) (by omega) e
  rw [q1, q2] at h1
  simp [n__law_beliefs, r__law_beliefs, q3, hir, h1]
end K
namespace K
open PySem PySem.Spec PyProof.Rows L2 VL G
/-! ### the law's won beliefs -/
theorem LA_nil {a : Ar} (v : a.Ok) (b : List Int) : (LA a b).isEmpty = hasBad a b := by
  have := v.cm
  unfold LA LB
  cases hasBad a b with
  | true => rfl
  | false =>
    rw [if_neg (by simp)]
    cases h : cmdsF a.mv with
    | zero => omega
    | succ n => rw [List.range_succ_eq_map]; rfl
theorem add_new {α : Type} [DecidableEq α] {t : List α} {y : α} (h : y ∉ t) : add t y = t ++ [y] := if_neg h
theorem add_old {α : Type} [DecidableEq α] {t : List α} {y : α} (h : y ∈ t) : add t y = t := if_pos h
theorem won_first {a : Ar} (v : a.Ok) {Bl : List (List Int)} (nd : Bl.Nodup) (hl : Bl.length ≤ 3000) (hb : ∀ b ∈ Bl, BOk a b) :
    ∃ h3, isIo h3 = false ∧ forL (gNm 3) r__law_won_b1 (Bl.map eB) [.sh (eA a), .sh (eBl Bl), .ow 0 (eHere []), .un, .un, .un, .un, .un] = ok (.nx, [.sh (eA a), .sh (eBl Bl), .ow 0 (eHere (Bl.filter fun b => !(LA a b).isEmpty)), h3, .un, .un, .un, .un]) := by
  obtain ⟨e', he, h3, rfl, j3⟩ := forL_split (tg := gNm 3) (s := r__law_won_b1) eB (fun pre e => ∃ g3, e = [.sh (eA a), .sh (eBl Bl), .ow 0 (eHere (pre.filter fun b => !(LA a b).isEmpty)), g3, .un, .un, .un, .un] ∧ isIo g3 = false) Bl [.sh (eA a), .sh (eBl Bl), .ow 0 (eHere []), .un, .un, .un, .un, .un] ⟨.un, rfl, rfl⟩ (by
    rintro pre b suf _ hs ⟨g3, rfl, i3⟩
    have bok := hb b (by rw [hs]; simp)
    have h1 := n_law_has_bad_ev a b bok.len
    have hf : (pre ++ [b]).filter (fun b => !(LA a b).isEmpty) = pre.filter (fun b => !(LA a b).isEmpty) ++ (if hasBad a b then [] else [b]) := by
      rw [List.filter_append, List.filter_cons, LA_nil v b]
      cases hasBad a b <;> rfl
    refine ⟨[.sh (eA a), .sh (eBl Bl), .ow 0 (eHere (pre.filter fun b => !(LA a b).isEmpty)), .sh (eB b), .un, .un, .un, .un], [.sh (eA a), .sh (eBl Bl), .ow 0 (eHere ((pre ++ [b]).filter fun b => !(LA a b).isEmpty)), .sh (eB b), .un, .un, .un, .un], by simp [i3], .inl ?_, ⟨.sh (eB b), rfl, rfl⟩⟩
    rw [hf]
    cases hbd : hasBad a b with
    | true => simp [r__law_won_b1, h1, hbd]
    | false =>
      have hn : b ∉ pre.filter fun b => !(LA a b).isEmpty := fun m => by
        have := (List.mem_filter.mp m).1
        rw [hs] at nd
        exact (List.nodup_append.mp nd).2.2 b this b List.mem_cons_self rfl
      have h2 := here_store (y := b) (q := pre.filter fun b => !(LA a b).isEmpty) (by rw [hs] at nd; exact (List.nodup_append.mp nd).1.filter _) (by
        have := List.length_filter_le (fun b => !(LA a b).isEmpty) pre
        rw [hs] at hl
        simp at hl
        omega)
      rw [add_new hn] at h2
      simp [r__law_won_b1, h1, hbd, h2])
  exact ⟨h3, j3, he⟩
def keepc (a : Ar) (here : List (List Int)) (b : List Int) (c : Nat) : Bool := (followsF a b c).all fun r => decide (r.2 ∈ here)
theorem keep_eq {a : Ar} {here : List (List Int)} {b : List Int} (h : hasBad a b = false) : keep (LA a) here b = (List.range (cmdsF a.mv)).any (keepc a here b) := by
  unfold keep LA LB keepc
  rw [h, if_neg (by simp), List.map_map, List.any_map]
  congr 1
  funext c
  simp only [Function.comp_apply, List.all_map]
  rw [Bool.eq_iff_iff, List.all_eq_true, List.all_eq_true]
  simp
theorem won_b2 {a : Ar} (v : a.Ok) {b : List Int} (bok : BOk a b) {c : Nat} (hc : c < cmdsF a.mv) (here rest : List (List Int)) (hr : rest.Nodup) (hrl : rest.length < 1000000) (B : D) (g4 : SV) (i4 : isIo g4 = false) :
    r__law_won_b2 [.sh (eA a), .sh B, .sh (eHere here), .sh (eB b), g4, .ow 0 (eHere rest), .sh (.int c), .un] = ok (.nx, [.sh (eA a), .sh B, .sh (eHere here), .sh (eB b), g4, .ow 0 (eHere (if keepc a here b c then add rest b else rest)), .sh (.int c), .un]) := by
  have cm : Cmd a (c : Int) := ⟨by omega, by omega⟩
  have hfo := n_law_follows_ev v bok.nods cm (Nods.few bok cm)
  have hfl := followsF_len (bok.few _ cm)
  have hcomp := lcL_filter (kk := 0) (vs := [7]) (tg := gNm 7) (tt := r__law_won_c1) (el := r__law_won_e1) eRow eRow (fun r => !decide (r.2 ∈ here)) (env := [.sh (eA a), .sh B, .sh (eHere here), .sh (eB b), g4, .ow 0 (eHere rest), .sh (.int c), .un]) (followsF a b c) (by
    intro r _
    have h1 := here_notin here r.2
    have h3 := row_1 r
    by_cases h : r.2 ∈ here <;> simp [r__law_won_c1, r__law_won_e1, h1, h3, h, ioB_skip i4])
  have hst := here_store (y := b) hr hrl
  by_cases hk : keepc a here b c = true
  · have hz : (followsF a b c).filter (fun r => !decide (r.2 ∈ here)) = [] := by
      rw [List.filter_eq_nil_iff]
      intro r hr
      unfold keepc at hk
      have := List.all_eq_true.mp hk r hr
      simpa using this
    rw [hz] at hcomp
    rw [if_pos hk]
    simp [r__law_won_b2, hfo, hfl, hcomp, hst, ioB_skip i4]
  · have hz : ¬ (((followsF a b c).filter (fun r => !decide (r.2 ∈ here))).length : Int) = 0 := by
      intro e
      apply hk
      unfold keepc
      rw [List.all_eq_true]
      intro r hr
      have e : ((followsF a b c).filter (fun r => !decide (r.2 ∈ here))).length = 0 := by omega
      have := List.filter_eq_nil_iff.mp (List.length_eq_zero_iff.mp e) r hr
      simpa using this
    have hz2 : ¬ ((followsF a b c).filter (fun r => !decide (r.2 ∈ here))) = [] := by
      intro e; rw [e] at hz; exact hz rfl
    rw [if_neg hk]
    simp [r__law_won_b2, hfo, hfl, hcomp]
    intro hall
    exact absurd (by
      unfold keepc
      rw [List.all_eq_true]
      rintro ⟨o, y⟩ hr
      exact decide_eq_true (hall o y hr)) hk
theorem won_b3 {a : Ar} (v : a.Ok) {b : List Int} (bok : BOk a b) (hbd : hasBad a b = false) (here rest : List (List Int)) (hr : rest.Nodup) (hrl : rest.length < 999999) (hnr : b ∉ rest) (B : D) (g4 g6 : SV) (i4 : isIo g4 = false) (i6 : isIo g6 = false) :
    ∃ h6, isIo h6 = false ∧ r__law_won_b3 [.sh (eA a), .sh B, .sh (eHere here), .sh (eB b), g4, .ow 0 (eHere rest), g6, .un] = ok (.nx, [.sh (eA a), .sh B, .sh (eHere here), .sh (eB b), g4, .ow 0 (eHere (rest ++ if keep (LA a) here b then [b] else [])), h6, .un]) := by
  have hcm := n_law_commands_ev a
  have c1 := v.cm
  have hir := fun e => irg1_ok (j := (cmdsF a.mv : Int)) (by omega) (by omega) e
  obtain ⟨e', he, h6, rfl, j6⟩ := forL_split (tg := gNm 6) (s := r__law_won_b2) (fun c : Nat => D.int c) (fun pre e => ∃ g6, e = [.sh (eA a), .sh B, .sh (eHere here), .sh (eB b), g4, .ow 0 (eHere (rest ++ if pre.any (keepc a here b) then [b] else [])), g6, .un] ∧ isIo g6 = false) (List.range (cmdsF a.mv)) [.sh (eA a), .sh B, .sh (eHere here), .sh (eB b), g4, .ow 0 (eHere rest), g6, .un] ⟨g6, by simp, i6⟩ (by
    rintro pre c suf _ hs ⟨g6, rfl, i6⟩
    have hc : c < cmdsF a.mv := by
      have : c ∈ List.range (cmdsF a.mv) := by rw [hs]; simp
      exact List.mem_range.mp this
    have nd : (rest ++ if pre.any (keepc a here b) then [b] else []).Nodup := by
      split
      · exact List.nodup_append.mpr ⟨hr, by simp, fun x hx y hy e => hnr (by simp at hy; rw [← hy, ← e]; exact hx)⟩
      · rw [List.append_nil]; exact hr
    have hl : (rest ++ if pre.any (keepc a here b) then [b] else []).length < 1000000 := by
      split <;> simp <;> omega
    have q := won_b2 v bok hc here (rest ++ if pre.any (keepc a here b) then [b] else []) nd hl B g4 i4
    have e1 : (if keepc a here b c then add (rest ++ if pre.any (keepc a here b) then [b] else []) b else (rest ++ if pre.any (keepc a here b) then [b] else [])) = rest ++ if (pre ++ [c]).any (keepc a here b) then [b] else [] := by
      rw [List.any_append, List.any_cons, List.any_nil, Bool.or_false]
      cases h1 : pre.any (keepc a here b) <;> cases h2 : keepc a here b c
      · simp
      · simp; exact add_new hnr
      · simp
      · simp; exact add_old (by simp)
    rw [e1] at q
    exact ⟨[.sh (eA a), .sh B, .sh (eHere here), .sh (eB b), g4, .ow 0 (eHere (rest ++ if pre.any (keepc a here b) then [b] else [])), .sh (.int c), .un], _, by simp [i6], .inl q, ⟨.sh (.int c), rfl, rfl⟩⟩)
  refine ⟨h6, j6, ?_⟩
  rw [keep_eq hbd]
  simp [r__law_won_b3, hcm, hir, he]
theorem won_b4 {a : Ar} (v : a.Ok) (here : List (List Int)) (nd : here.Nodup) (hl : here.length ≤ 3000) (hb : ∀ b ∈ here, BOk a b ∧ hasBad a b = false) (B : D) (g2 g3 g4 g5 g6 : SV) (i2 : g2 = .ow 0 (eHere here) ∨ g2 = .sh (eHere here)) (i3 : isIo g3 = false) (i4 : isIo g4 = false) (i5 : isIo g5 = false) (i6 : isIo g6 = false) :
    ∃ h3 h5 h6, isIo h3 = false ∧ isIo h5 = false ∧ isIo h6 = false ∧ r__law_won_b4 [.sh (eA a), .sh B, g2, g3, g4, g5, g6, .un] = if (here.filter (keep (LA a) here)).length = here.length then ok (.bk, [.sh (eA a), .sh B, .sh (eHere here), h3, g4, h5, h6, .un]) else ok (.nx, [.sh (eA a), .sh B, .sh (eHere (here.filter (keep (LA a) here))), h3, g4, h5, h6, .un]) := by
  obtain ⟨e', he, h3, h6, rfl, j3, j6⟩ := forL_split (tg := gNm 3) (s := r__law_won_b3) eB (fun pre e => ∃ g3 g6, e = [.sh (eA a), .sh B, .sh (eHere here), g3, g4, .ow 0 (eHere (pre.filter (keep (LA a) here))), g6, .un] ∧ isIo g3 = false ∧ isIo g6 = false) here [.sh (eA a), .sh B, .sh (eHere here), g3, g4, .ow 0 (eHere []), g6, .un] ⟨g3, g6, rfl, i3, i6⟩ (by
    rintro pre b suf _ hs ⟨g3, g6, rfl, i3, i6⟩
    have hbb := hb b (by rw [hs]; simp)
    have ndp : pre.Nodup := by rw [hs] at nd; exact (List.nodup_append.mp nd).1
    have hnp : b ∉ pre := fun m => by rw [hs] at nd; exact (List.nodup_append.mp nd).2.2 b m b List.mem_cons_self rfl
    have hlp : (pre.filter (keep (LA a) here)).length < 999999 := by
      have := List.length_filter_le (keep (LA a) here) pre
      rw [hs] at hl
      simp at hl
      omega
    obtain ⟨h6, j6, q⟩ := won_b3 v hbb.1 hbb.2 here (pre.filter (keep (LA a) here)) (ndp.filter _) hlp (fun m => hnp (List.mem_filter.mp m).1) B g4 g6 i4 i6
    have e1 : (pre ++ [b]).filter (keep (LA a) here) = pre.filter (keep (LA a) here) ++ if keep (LA a) here b then [b] else [] := by
      rw [List.filter_append, List.filter_cons]
      cases keep (LA a) here b <;> rfl
    rw [← e1] at q
    exact ⟨[.sh (eA a), .sh B, .sh (eHere here), .sh (eB b), g4, .ow 0 (eHere (pre.filter (keep (LA a) here))), g6, .un], _, by simp [i3], .inl q, ⟨.sh (eB b), h6, rfl, rfl, j6⟩⟩)
  have q0 : eHere [] = .dct true [] [] := rfl
  have qh : ∀ l, eHere l = .dct true (l.map eB) (l.map fun _ => .bl true) := fun _ => rfl
  have hk : keysD (eHere here) = some (here.map eB) := rfl
  have hlen : ∀ l, gLenA [eHere l] = some (.int l.length) := fun l => by unfold eHere; simp
  rw [q0] at he
  by_cases heq : (here.filter (keep (LA a) here)).length = here.length
  · have heq2 : ((here.filter (keep (LA a) here)).length : Int) = (here.length : Int) := by omega
    refine ⟨h3, .ow 0 (eHere (here.filter (keep (LA a) here))), h6, j3, rfl, j6, ?_⟩
    rw [if_pos heq]
    rcases i2 with rfl | rfl <;> simp [r__law_won_b4, i3, i5, hk, he, hlen, heq2, heq, ioB_skip i3, ioB_skip i4, ioB_skip i6, ioB_skip j3, ioB_skip j6]
  · have heq2 : ¬ ((here.filter (keep (LA a) here)).length : Int) = (here.length : Int) := by omega
    refine ⟨h3, .sh (eHere (here.filter (keep (LA a) here))), h6, j3, rfl, j6, ?_⟩
    rw [if_neg heq]
    rcases i2 with rfl | rfl <;> simp [r__law_won_b4, i3, i5, hk, he, hlen, heq2, heq, ioB_skip i3, ioB_skip i4, ioB_skip i6, ioB_skip j3, ioB_skip j6]

/-- the turns -/
theorem won_loop {a : Ar} (v : a.Ok) (B : D) : ∀ (ds : List D) (here : List (List Int)), here.Nodup → here.length ≤ 3000 → (∀ b ∈ here, BOk a b ∧ hasBad a b = false) → ∀ (g2 g3 g4 g5 g6 : SV), (g2 = .ow 0 (eHere here) ∨ g2 = .sh (eHere here)) → isIo g3 = false → isIo g4 = false → isIo g5 = false → isIo g6 = false →
    ∃ h2 h3 h4 h5 h6, (ds ≠ [] → h2 = .sh (eHere (wonN (LA a) ds.length here))) ∧ forL (gNm 4) r__law_won_b4 ds [.sh (eA a), .sh B, g2, g3, g4, g5, g6, .un] = ok (.nx, [.sh (eA a), .sh B, h2, h3, h4, h5, h6, .un])
  | [], here, _, _, _, g2, g3, g4, g5, g6, _, _, _, _, _ => ⟨g2, g3, g4, g5, g6, fun h => absurd rfl h, rfl⟩
  | d :: ds, here, nd, hl, hb, g2, g3, g4, g5, g6, i2, i3, i4, i5, i6 => by
    obtain ⟨h3, h5, h6, j3, j5, j6, q⟩ := won_b4 v here nd hl hb B g2 g3 (.sh d) g5 g6 i2 i3 rfl i5 i6
    have i2' : isIo g2 = false := by rcases i2 with rfl | rfl <;> rfl
    have hg : gNm 4 d [.sh (eA a), .sh B, g2, g3, g4, g5, g6, .un] = ok [.sh (eA a), .sh B, g2, g3, .sh d, g5, g6, .un] := by simp [i4]
    have hw : wonN (LA a) (d :: ds).length here = if (here.filter (keep (LA a) here)).length = here.length then here else wonN (LA a) ds.length (here.filter (keep (LA a) here)) := rfl
    rw [hw]
    by_cases heq : (here.filter (keep (LA a) here)).length = here.length
    · rw [if_pos heq] at q
      refine ⟨.sh (eHere here), h3, .sh d, h5, h6, fun _ => by rw [if_pos heq], ?_⟩
      rw [forL_cons, hg, bd_ok, q, bd_ok]
    · rw [if_neg heq] at q
      have hl2 := List.length_filter_le (keep (LA a) here) here
      obtain ⟨k2, k3, k4, k5, k6, r1, r2⟩ := won_loop v B ds (here.filter (keep (LA a) here)) (nd.filter _) (by omega) (fun b m => hb b (List.mem_filter.mp m).1) (.sh (eHere (here.filter (keep (LA a) here)))) h3 (.sh d) h5 h6 (.inr rfl) j3 rfl j5 j6
      by_cases hds : ds = []
      · subst hds
        refine ⟨.sh (eHere (here.filter (keep (LA a) here))), h3, .sh d, h5, h6, fun _ => by rw [if_neg heq]; rfl, ?_⟩
        rw [forL_cons, hg, bd_ok, q, bd_ok]
        rfl
      · refine ⟨k2, k3, k4, k5, k6, fun _ => by rw [if_neg heq]; exact r1 hds, ?_⟩
        rw [forL_cons, hg, bd_ok, q, bd_ok]
        exact r2
theorem n_law_won_ev {a : Ar} (v : a.Ok) {Bl : List (List Int)} (nd : Bl.Nodup) (h0 : Bl ≠ []) (hl : Bl.length ≤ 3000) (hb : ∀ b ∈ Bl, BOk a b) :
    n__law_won [eA a, eBl Bl] = ok (0, eHere (wonN (LA a) Bl.length (Bl.filter fun b => !(LA a b).isEmpty))) := by
  obtain ⟨h3, j3, q1⟩ := won_first v nd hl hb
  have hl2 := List.length_filter_le (fun b => !(LA a b).isEmpty) Bl
  obtain ⟨k2, k3, k4, k5, k6, r1, r2⟩ := won_loop v (eBl Bl) ((List.range Bl.length).map fun i : Nat => D.int i) (Bl.filter fun b => !(LA a b).isEmpty) (nd.filter _) (by omega) (fun b m => by
    have := List.mem_filter.mp m
    rw [LA_nil v b] at this
    exact ⟨hb b this.1, by simpa using this.2⟩) (.ow 0 (eHere (Bl.filter fun b => !(LA a b).isEmpty))) h3 .un .un .un (.inl rfl) j3 rfl rfl rfl
  have hne : ((List.range Bl.length).map fun i : Nat => D.int i) ≠ [] := by
    have : 0 < Bl.length := List.length_pos_iff.mpr h0
    intro e
    rw [List.map_eq_nil_iff, List.range_eq_nil] at e
    omega
  have r1 := r1 hne
  rw [List.length_map, List.length_range] at r1
  subst r1
  have qb : eBl Bl = .lst (Bl.map eB) := rfl
  have q0 : eHere [] = .dct true [] [] := rfl
  have hir := fun e => irg1_ok (j := (Bl.length : Int)) (by omega) (by omega) e
  rw [qb, q0] at q1
  rw [qb] at r2
  simp [n__law_won, r__law_won, qb, q1, hir, r2]
end K
namespace K
open PySem PySem.Spec PyProof.Rows L2 VL G
/-! ### what the law expects -/
theorem s0_LA {a : Ar} (v : a.Ok) (b : List Int) : s0 (LA a) b = if hasBad a b then [] else (followsF a b 0).map (·.2) := by
  have := v.cm
  unfold s0 LA LB
  cases hasBad a b with
  | true => rfl
  | false =>
    rw [if_neg (by simp)]
    cases h : cmdsF a.mv with
    | zero => omega
    | succ n => rw [List.range_succ_eq_map]; rfl
theorem add_drop {α : Type} [DecidableEq α] {t : List α} {y : α} {n : Nat} (h : n ≤ t.length) : (add t y).drop n = if y ∈ t then t.drop n else t.drop n ++ [y] := by
  unfold add
  split
  · rfl
  · rw [List.drop_append_of_le_length h]
theorem due_b1 {t : List (List Int)} {n : Nat} (hn : n ≤ t.length) (nd : t.Nodup) (ht : t.length < 1000000) (r : Int × List Int) (A B W L g5 g6 g8 g9 : SV) (iA : isIo A = false) (iB : isIo B = false) (iW : isIo W = false) (iL : isIo L = false) (i5 : isIo g5 = false) (i6 : isIo g6 = false) (i8 : isIo g8 = false) (i9 : isIo g9 = false) :
    r__law_due_b1 [A, B, W, L, .ow 0 (eHere t), g5, g6, .ow 0 (eBl (t.drop n)), g8, g9, .sh (eRow r)] = ok (.nx, [A, B, W, L, .ow 0 (eHere (add t r.2)), g5, g6, .ow 0 (eBl ((add t r.2).drop n)), g8, g9, .sh (eRow r)]) := by
  have h1 := here_notin t r.2
  have h2 := here_store (y := r.2) nd ht
  have h3 := row_1 r
  have h4 := add_drop (y := r.2) hn
  rw [h4]
  by_cases h : r.2 ∈ t
  · rw [if_pos h, add_old h]
    simp [r__law_due_b1, h1, h, h3]
  · rw [if_neg h, add_new h]
    rw [add_new h] at h2
    have q : ∀ t, eBl t = .lst (t.map eB) := fun _ => rfl
    have hdl : t.length - n < 1000000 := by omega
    simp [r__law_due_b1, h1, h, h2, h3, q, hdl, ioB_skip iA, ioB_skip iB, ioB_skip iW, ioB_skip iL, ioB_skip i5, ioB_skip i6, ioB_skip i8, ioB_skip i9]
theorem due_rows {t : List (List Int)} {N n : Nat} (hN : N < 1000000) (hn : n ≤ t.length) (nd : t.Nodup) (rows : List (Int × List Int)) (ht : (addAll t (rows.map (·.2))).length ≤ N) (A B W L g5 g6 g8 g9 g10 : SV) (iA : isIo A = false) (iB : isIo B = false) (iW : isIo W = false) (iL : isIo L = false) (i5 : isIo g5 = false) (i6 : isIo g6 = false) (i8 : isIo g8 = false) (i9 : isIo g9 = false) (i10 : isIo g10 = false) :
    ∃ h10, isIo h10 = false ∧ forL (gNm 10) r__law_due_b1 (rows.map eRow) [A, B, W, L, .ow 0 (eHere t), g5, g6, .ow 0 (eBl (t.drop n)), g8, g9, g10] = ok (.nx, [A, B, W, L, .ow 0 (eHere (addAll t (rows.map (·.2)))), g5, g6, .ow 0 (eBl ((addAll t (rows.map (·.2))).drop n)), g8, g9, h10]) := by
  obtain ⟨e', he, h10, rfl, j10⟩ := forL_split (tg := gNm 10) (s := r__law_due_b1) eRow (fun pre e => ∃ g10, e = [A, B, W, L, .ow 0 (eHere (addAll t (pre.map (·.2)))), g5, g6, .ow 0 (eBl ((addAll t (pre.map (·.2))).drop n)), g8, g9, g10] ∧ isIo g10 = false) rows [A, B, W, L, .ow 0 (eHere t), g5, g6, .ow 0 (eBl (t.drop n)), g8, g9, g10] ⟨g10, by simp [addAll], i10⟩ (by
    rintro pre r suf _ hs ⟨g10, rfl, i10⟩
    have e1 : addAll t ((pre ++ [r]).map (·.2)) = add (addAll t (pre.map (·.2))) r.2 := by rw [List.map_append, addAll_app]; rfl
    have hp : (addAll t (pre.map (·.2))).length ≤ N := by
      refine Nat.le_trans ?_ ht
      rw [hs, List.map_append, addAll_app]
      exact (addAll_pre _ _).length_le
    have hp2 : n ≤ (addAll t (pre.map (·.2))).length := Nat.le_trans hn (addAll_pre _ _).length_le
    have q := due_b1 hp2 (nd_addAll nd) (by omega) r A B W L g5 g6 g8 g9 iA iB iW iL i5 i6 i8 i9
    rw [← e1] at q
    refine ⟨_, _, ?_, .inl q, ⟨.sh (eRow r), rfl, rfl⟩⟩
    simp [i10])
  exact ⟨h10, j10, he⟩
theorem due_b2 {a : Ar} (v : a.Ok) {t : List (List Int)} {N n : Nat} (hN : N < 1000000) (hn : n ≤ t.length) (nd : t.Nodup) {b : List Int} (bok : BOk a b) (ht : (addAll t (s0 (LA a) b)).length ≤ N) (B W L g5 g6 g9 g10 : SV) (iB : isIo B = false) (iW : isIo W = false) (iL : isIo L = false) (i5 : isIo g5 = false) (i6 : isIo g6 = false) (i9 : isIo g9 = false) (i10 : isIo g10 = false) :
    ∃ h10, isIo h10 = false ∧ r__law_due_b2 [.sh (eA a), B, W, L, .ow 0 (eHere t), g5, g6, .ow 0 (eBl (t.drop n)), .sh (eB b), g9, g10] = ok (.nx, [.sh (eA a), B, W, L, .ow 0 (eHere (addAll t (s0 (LA a) b))), g5, g6, .ow 0 (eBl ((addAll t (s0 (LA a) b)).drop n)), .sh (eB b), g9, h10]) := by
  have h1 := n_law_has_bad_ev a b bok.len
  rw [s0_LA v] at ht ⊢
  cases hbd : hasBad a b with
  | true =>
    refine ⟨g10, i10, ?_⟩
    rw [if_pos rfl]
    simp [r__law_due_b2, h1, hbd, addAll]
  | false =>
    rw [hbd, if_neg (by simp)] at ht
    rw [if_neg (by simp)]
    have cm : Cmd a 0 := ⟨by omega, by have := v.cm; omega⟩
    have hfo := n_law_follows_ev v bok.nods cm (Nods.few bok cm)
    obtain ⟨h10, j10, q⟩ := due_rows hN hn nd (followsF a b 0) ht (.sh (eA a)) B W L g5 g6 (.sh (eB b)) g9 g10 rfl iB iW iL i5 i6 rfl i9 i10
    refine ⟨h10, j10, ?_⟩
    simp [r__law_due_b2, h1, hbd, hfo, q]
def eLy (ls : List (List (List Int))) : D := .lst (ls.map eBl)
/-- one turn of layers -/
theorem due_b3 {a : Ar} (v : a.Ok) {N : Nat} (hN : N < 1000000) {ls : List (List (List Int))} {known : List (List Int)} (nd : known.Nodup) (hls : ls.length < 1000000) {l : List (List Int)} (hl : ls.getLast? = some l) (hb : ∀ b ∈ l, BOk a b) (ht : (lyNext (s0 (LA a)) ls known).length ≤ N) (B W g5 g6 g7 g8 g9 g10 : SV) (iB : isIo B = false) (iW : isIo W = false) (i5 : isIo g5 = false) (i6 : isIo g6 = false) (i7 : isIo g7 = false) (i8 : nOw g8 = true) (i9 : isIo g9 = false) (i10 : isIo g10 = false) :
    ∃ h7 h8 h10, isIo h7 = false ∧ nOw h8 = true ∧ isIo h10 = false ∧ r__law_due_b3 [.sh (eA a), B, W, .ow 0 (eLy ls), .ow 0 (eHere known), g5, g6, g7, g8, g9, g10] =
      if (lyNext (s0 (LA a)) ls known).drop known.length = [] then ok (.bk, [.sh (eA a), B, W, .ow 0 (eLy ls), .ow 0 (eHere (lyNext (s0 (LA a)) ls known)), g5, g6, h7, h8, g9, h10])
      else ok (.nx, [.sh (eA a), B, W, .ow 0 (eLy (ls ++ [(lyNext (s0 (LA a)) ls known).drop known.length])), .ow 0 (eHere (lyNext (s0 (LA a)) ls known)), g5, g6, h7, h8, g9, h10]) := by
  have en : lyNext (s0 (LA a)) ls known = addAll known (l.flatMap (s0 (LA a))) := by unfold lyNext; rw [hl]; rfl
  rw [en] at ht ⊢
  obtain ⟨e', he, h8, h10, rfl, j8, j10⟩ := forL_split (tg := gNm 8) (s := r__law_due_b2) eB (fun pre e => ∃ g8 g10, e = [.sh (eA a), B, W, .ow 0 (eLy ls), .ow 0 (eHere (addAll known (pre.flatMap (s0 (LA a))))), g5, g6, .ow 0 (eBl ((addAll known (pre.flatMap (s0 (LA a)))).drop known.length)), g8, g9, g10] ∧ nOw g8 = true ∧ isIo g10 = false) l [.sh (eA a), B, W, .ow 0 (eLy ls), .ow 0 (eHere known), g5, g6, .ow 0 (eBl []), g8, g9, g10] ⟨g8, g10, by simp [addAll], i8, i10⟩ (by
    rintro pre b suf _ hs ⟨g8, g10, rfl, i8, i10⟩
    have e1 : addAll known ((pre ++ [b]).flatMap (s0 (LA a))) = addAll (addAll known (pre.flatMap (s0 (LA a)))) (s0 (LA a) b) := by rw [List.flatMap_append, addAll_app]; simp
    have hle : (addAll (addAll known (pre.flatMap (s0 (LA a)))) (s0 (LA a) b)).length ≤ N := by
      rw [← e1]
      refine Nat.le_trans ?_ ht
      rw [hs, show pre ++ b :: suf = (pre ++ [b]) ++ suf by simp, List.flatMap_append (xs := pre ++ [b]), addAll_app (p := (pre ++ [b]).flatMap (s0 (LA a)))]
      exact (addAll_pre _ _).length_le
    obtain ⟨h10, j10, q⟩ := due_b2 v hN (addAll_pre (pre.flatMap (s0 (LA a))) known).length_le (nd_addAll nd) (hb b (by rw [hs]; simp)) hle B W (.ow 0 (eLy ls)) g5 g6 g9 g10 iB iW rfl i5 i6 i9 i10
    rw [← e1] at q
    exact ⟨[.sh (eA a), B, W, .ow 0 (eLy ls), .ow 0 (eHere (addAll known (pre.flatMap (s0 (LA a))))), g5, g6, .ow 0 (eBl ((addAll known (pre.flatMap (s0 (LA a)))).drop known.length)), .sh (eB b), g9, g10], _, by simp [nOw_io i8], .inl q, ⟨.sh (eB b), h10, rfl, rfl, j10⟩⟩)
  have hlast : atI (ls.map eBl) (-1) = some (eBl l) := by rw [atI_map, VL.atI_last, hl]; rfl
  have qb : ∀ l, eBl l = .lst (l.map eB) := fun _ => rfl
  have qy : eLy ls = .lst (ls.map eBl) := rfl
  have qy2 : ∀ x, eLy (ls ++ [x]) = .lst (ls.map eBl ++ [eBl x]) := fun x => by unfold eLy; simp
  have q0 : eBl [] = .lst [] := rfl
  rw [q0, qy] at he
  by_cases hz : (addAll known (l.flatMap (s0 (LA a)))).drop known.length = []
  · refine ⟨.ow 0 (eBl []), h8, h10, rfl, j8, j10, ?_⟩
    rw [if_pos hz]
    rw [hz] at he
    rw [q0] at he ⊢
    rw [qy]
    rw [qb] at hlast
    simp [r__law_due_b3, hlast, i7, he, ioB_skip iB, ioB_skip iW, ioB_skip i5, ioB_skip i6, ioB_skip (nOw_io i8), ioB_skip i9, ioB_skip i10, ioB_skip (nOw_io j8), ioB_skip j10]
  · refine ⟨.sh (eBl ((addAll known (l.flatMap (s0 (LA a)))).drop known.length)), h8, h10, rfl, j8, j10, ?_⟩
    rw [if_neg hz]
    have hz2 : ¬ ((((addAll known (l.flatMap (s0 (LA a)))).drop known.length).map eB).length : Int) = 0 := by
      intro e
      rw [List.length_map] at e
      have := List.length_eq_zero_iff.mp (show ((addAll known (l.flatMap (s0 (LA a)))).drop known.length).length = 0 by omega)
      exact hz this
    rw [qy2]
    rw [qb] at hlast
    generalize hF : (addAll known (l.flatMap (s0 (LA a)))).drop known.length = F at *
    rw [qb F] at he ⊢
    have hz3 : ¬ F = [] := hz
    simp [r__law_due_b3, qy, hlast, i7, he, hls, hz3, ioB_skip iB, ioB_skip iW, ioB_skip i5, ioB_skip i6, ioB_skip (nOw_io i8), ioB_skip i9, ioB_skip i10, ioB_skip (nOw_io j8), ioB_skip j10]
end K
namespace K
open PySem PySem.Spec PyProof.Rows L2 VL G
section
variable {α : Type} [DecidableEq α] (s : α → List α)
def lyN : Nat → List (List α) → List α → List (List α) × List α
  | 0, ls, kn => (ls, kn)
  | n + 1, ls, kn => if (lyNext s ls kn).drop kn.length = [] then (ls, kn) else lyN n (ls ++ [(lyNext s ls kn).drop kn.length]) (lyNext s ls kn)
theorem ly_same {ls : List (List α)} {kn : List α} (h : (lyNext s ls kn).drop kn.length = []) : lyNext s ls kn = kn := by
  obtain ⟨r, hr⟩ := addAll_pre ((ls.getLast?.getD []).flatMap s) kn
  have hr : kn ++ r = lyNext s ls kn := hr
  rw [← hr, List.drop_left] at h
  rw [← hr, h, List.append_nil]
/-- enough turns close the layers -/
theorem lyN_end {x0 : α} {B : Nat} (hB : ∀ (T : Nat) (ls : List (List α)) (kn : List α), LyI s x0 T ls kn → kn.length ≤ B) : ∀ (n T : Nat) (ls : List (List α)) (kn : List α), LyI s x0 T ls kn → B < kn.length + n →
    ∃ T', LyI s x0 T' (lyN s n ls kn).1 (lyN s n ls kn).2 ∧ (lyNext s (lyN s n ls kn).1 (lyN s n ls kn).2).drop (lyN s n ls kn).2.length = []
  | 0, T, ls, kn, I, h => absurd (hB T ls kn I) (by omega)
  | n + 1, T, ls, kn, I, h => by
    unfold lyN
    by_cases hz : (lyNext s ls kn).drop kn.length = []
    · rw [if_pos hz]
      exact ⟨T, I, hz⟩
    · rw [if_neg hz]
      refine lyN_end hB n (T + 1) _ _ (ly_step s x0 I hz) ?_
      have : 0 < ((lyNext s ls kn).drop kn.length).length := List.length_pos_iff.mpr hz
      rw [List.length_drop] at this
      omega
end
theorem due_loop {a : Ar} (v : a.Ok) {K : Nat} (hK : K ≤ 600) (hb : ∀ t b, Wk (s0 (LA a)) [0] t b → BOk a b) (hle : ∀ (T : Nat) (ls : List (List (List Int))) (kn : List (List Int)), LyI (s0 (LA a)) [0] T ls kn → kn.length ≤ K) (B W : SV) (iB : isIo B = false) (iW : isIo W = false) :
    ∀ (ds : List D) (T : Nat) (ls : List (List (List Int))) (kn : List (List Int)), LyI (s0 (LA a)) [0] T ls kn → ∀ (g5 g6 g7 g8 g9 g10 : SV), isIo g5 = false → isIo g6 = false → isIo g7 = false → nOw g8 = true → isIo g9 = false → isIo g10 = false →
    ∃ h5 h7 h8 h10, isIo h5 = false ∧ isIo h7 = false ∧ nOw h8 = true ∧ isIo h10 = false ∧ forL (gNm 5) r__law_due_b3 ds [.sh (eA a), B, W, .ow 0 (eLy ls), .ow 0 (eHere kn), g5, g6, g7, g8, g9, g10] = ok (.nx, [.sh (eA a), B, W, .ow 0 (eLy (lyN (s0 (LA a)) ds.length ls kn).1), .ow 0 (eHere (lyN (s0 (LA a)) ds.length ls kn).2), h5, g6, h7, h8, g9, h10])
  | [], T, ls, kn, I, g5, g6, g7, g8, g9, g10, i5, i6, i7, i8, i9, i10 => ⟨g5, g7, g8, g10, i5, i7, i8, i10, rfl⟩
  | d :: ds, T, ls, kn, I, g5, g6, g7, g8, g9, g10, i5, i6, i7, i8, i9, i10 => by
    have hT : T < ls.length := by rw [I.len]; omega
    have hl : ls.getLast? = some ls[T] := by
      rw [List.getLast?_eq_getElem?, show ls.length - 1 = T by rw [I.len]; rfl]
      exact List.getElem?_eq_getElem _
    have lay := I.lay T _ (List.getElem?_eq_getElem hT)
    have hnext : (lyNext (s0 (LA a)) ls kn).length ≤ K := by
      by_cases hz : (lyNext (s0 (LA a)) ls kn).drop kn.length = []
      · rw [ly_same _ hz]; exact hle T ls kn I
      · exact hle _ _ _ (ly_step _ _ I hz)
    have hlen : ls.length < 1000000 := by have := I.len; have := I.big; have := hle T ls kn I; omega
    obtain ⟨h7, h8, h10, j7, j8, j10, q⟩ := due_b3 v (N := K) (by omega) I.nd hlen hl (fun b m => hb T b ((lay b).mp m).1) hnext B W (.sh d) g6 g7 g8 g9 g10 iB iW rfl i6 i7 i8 i9 i10
    have hg : gNm 5 d [.sh (eA a), B, W, .ow 0 (eLy ls), .ow 0 (eHere kn), g5, g6, g7, g8, g9, g10] = ok [.sh (eA a), B, W, .ow 0 (eLy ls), .ow 0 (eHere kn), .sh d, g6, g7, g8, g9, g10] := by simp [i5]
    have hw : lyN (s0 (LA a)) (d :: ds).length ls kn = if (lyNext (s0 (LA a)) ls kn).drop kn.length = [] then (ls, kn) else lyN (s0 (LA a)) ds.length (ls ++ [(lyNext (s0 (LA a)) ls kn).drop kn.length]) (lyNext (s0 (LA a)) ls kn) := rfl
    rw [hw]
    by_cases hz : (lyNext (s0 (LA a)) ls kn).drop kn.length = []
    · rw [if_pos hz] at q
      refine ⟨.sh d, h7, h8, h10, rfl, j7, j8, j10, ?_⟩
      rw [if_pos hz, forL_cons, hg, bd_ok, q, bd_ok, ly_same _ hz]
    · rw [if_neg hz] at q
      obtain ⟨k5, k7, k8, k10, r5, r7, r8, r10, r⟩ := due_loop v hK hb hle B W iB iW ds (T + 1) _ _ (ly_step _ _ I hz) (.sh d) g6 h7 h8 g9 h10 rfl i6 j7 j8 i9 j10
      refine ⟨k5, k7, k8, k10, r5, r7, r8, r10, ?_⟩
      rw [if_neg hz, forL_cons, hg, bd_ok, q, bd_ok]
      exact r

theorem s0_sub {a : Ar} {x y : List Int} (h : y ∈ s0 (LA a) x) : y ∈ succA a x := by
  unfold s0 LA at h
  unfold succA
  cases e : LB a x with
  | nil => rw [e] at h; cases h
  | cons rows rs =>
    rw [e] at h
    exact List.mem_flatMap.mpr ⟨rows, List.mem_cons_self, h⟩
theorem wk_reachA {a : Ar} {t : Nat} {x : List Int} (w : Wk (s0 (LA a)) [0] t x) : Reach (succA a) [0] x := by
  induction w with
  | base => exact .base
  | step _ h ih => exact .step ih (s0_sub h)
theorem lost_first {n : Nat} {p : Nat → Bool} (h : ∃ t, t < n ∧ p t = true) : ∃ t0 rest, (List.range n).filter p = t0 :: rest ∧ t0 < n ∧ p t0 = true ∧ ∀ t' < t0, ¬ p t' = true := by
  cases e : (List.range n).filter p with
  | nil =>
    obtain ⟨t, h1, h2⟩ := h
    have := List.filter_eq_nil_iff.mp e t (List.mem_range.mpr h1)
    exact absurd h2 this
  | cons t0 rest =>
    have h1 : ((List.range n).filter p).head? = some t0 := by rw [e]; rfl
    rw [List.head?_filter, List.find?_range_eq_some] at h1
    refine ⟨t0, rest, rfl, List.mem_range.mp h1.2.1, h1.1, fun t' ht => ?_⟩
    have := h1.2.2 t' ht
    simpa using this
theorem n_law_due_ev {a : Ar} (v : a.Ok) {K : Nat} (c : Closes (succA a) [0] K) (hK : K ≤ 600) (hb : ∀ b, Reach (succA a) [0] b → BOk a b) :
    ∃ r, LatSpec (LA a) [0] r ∧ n__law_due [eA a] = ok (0, eLat r) := by
  have hbel := n_law_beliefs_ev v c hK hb
  have hne : iter (succA a) [0] K ≠ [] := by
    intro e
    have := c.len
    rw [e] at this
    have := c.one
    simp at *
    omega
  have hBok : ∀ b ∈ iter (succA a) [0] K, BOk a b := fun b m => hb b (iter_reach _ _ K b m)
  have hwon := n_law_won_ev v (iter_nd (succA a) [0] K) hne (by rw [c.len]; omega) hBok
  have hmemW : ∀ x, x ∈ wonN (LA a) (iter (succA a) [0] K).length ((iter (succA a) [0] K).filter fun b => !(LA a b).isEmpty) ↔ x ∈ iter (succA a) [0] K ∧ ¬ Struck (LA a) x := fun x =>
    won_iff (LA a) (fun x hx l hl y hy => (Closes.mem _ _ c y).mpr (.step ((Closes.mem _ _ c x).mp hx) (by
      unfold LA at hl
      obtain ⟨rows, hr, rfl⟩ := List.mem_map.mp hl
      exact List.mem_flatMap.mpr ⟨rows, hr, hy⟩))) _ (Nat.le_refl _)
  generalize hW : wonN (LA a) (iter (succA a) [0] K).length ((iter (succA a) [0] K).filter fun b => !(LA a b).isEmpty) = W at hwon hmemW
  have h0in : [0] ∈ iter (succA a) [0] K := (Closes.mem _ _ c [0]).mpr .base
  have h1 := here_notin W [0]
  have e0 : eB [0] = .tup [.int 0] := rfl
  rw [e0] at h1
  by_cases hst : [0] ∈ W
  · have hns : ¬ Struck (LA a) [0] := ((hmemW [0]).mp hst).2
    have hle : ∀ (T : Nat) (ls : List (List (List Int))) (kn : List (List Int)), LyI (s0 (LA a)) [0] T ls kn → kn.length ≤ K := fun T ls kn I => by
      rw [← c.len]
      exact I.nd.length_le_of_subset fun y hy => by
        obtain ⟨t, _, w⟩ := (I.kn y).mp hy
        exact (Closes.mem _ _ c y).mpr (wk_reachA w)
    obtain ⟨T, I, hz⟩ := lyN_end (s0 (LA a)) hle K 0 [[[0]]] [[0]] (lyI_zero (s0 (LA a)) [0]) (by simp)
    obtain ⟨h5, h7, h8, h10, j5, j7, j8, j10, hloop⟩ := due_loop v hK (fun t b w => hb b (wk_reachA w)) hle (.sh (eBl (iter (succA a) [0] K))) (.sh (eHere W)) rfl rfl ((List.range K).map fun i : Nat => D.int i) 0 [[[0]]] [[0]] (lyI_zero (s0 (LA a)) [0]) .un .un .un .un .un .un rfl rfl rfl rfl rfl rfl
    rw [List.length_map, List.length_range] at hloop
    generalize hls : (lyN (s0 (LA a)) K [[[0]]] [[0]]).1 = ls at I hz hloop
    generalize hkn : (lyN (s0 (LA a)) K [[[0]]] [[0]]).2 = kn at I hz hloop
    have hknl := hle T ls kn I
    have hir := fun e => irg1_ok (j := (K : Int)) (by omega) (by omega) e
    have hirl := fun e => irg1_ok (j := (ls.length : Int)) (by omega) (by have := I.len; have := I.big; omega) e
    have qh : ∀ l, eHere l = .dct true (l.map eB) (l.map fun _ => .bl true) := fun _ => rfl
    have qb : ∀ l, eBl l = .lst (l.map eB) := fun _ => rfl
    have qy : eLy ls = .lst (ls.map eBl) := rfl
    have qy1 : eLy [[[0]]] = .lst [.lst [.tup [.int 0]]] := rfl
    have qh1 : eHere [[0]] = .dct true [.tup [.int 0]] [.bl true] := rfl
    have k0 : kOf true (.tup [.int 0]) = some (.inr [.inl 0]) := rfl
    have hbokk : ∀ b ∈ kn, BOk a b := fun b hbk => by
      obtain ⟨t, _, w⟩ := (I.kn b).mp hbk
      exact hb b (wk_reachA w)
    have hc1 := lcL_filter (kk := 0) (vs := [8]) (tg := gNm 8) (tt := r__law_due_c1) (el := r__law_due_e1) eB eB (fun b => hasBad a b) (env := [.sh (eA a), .sh (eBl (iter (succA a) [0] K)), .sh (eHere W), .ow 0 (eLy ls), .sh (eHere kn), h5, .un, h7, .un, .un, h10]) kn (by
      intro b hbk
      have := n_law_has_bad_ev a b (hbokk b hbk).len
      cases hbd : hasBad a b <;> simp [r__law_due_c1, r__law_due_e1, this, hbd])
    rw [qy1, qh1] at hloop
    rw [qh kn] at hc1
    have qhk := qh kn
    have lenb : ∀ l, gLenA [eBl l] = some (.int (l.length : Int)) := fun l => by unfold eBl; simp
    have lenl : gLenA [eLy ls] = some (.int (ls.length : Int)) := by unfold eLy; simp
    have hkl : kn.length ≤ 1000000 := by omega
    have hlenQ := c.len
    by_cases hbad : kn.filter (fun b => hasBad a b) = []
    · refine ⟨.always, ly_always (LA a) [0] I hz hns (fun b hbk => ?_), ?_⟩
      · have := List.filter_eq_nil_iff.mp hbad b hbk
        intro e
        have h2 := LA_nil v b
        rw [e] at h2
        exact this h2.symm
      · rw [hbad] at hc1
        simp [n__law_due, r__law_due, hbel, hwon, h1, hst, eLat, k0, lenb, hlenQ, hir, hloop, qhk, hc1, hkl, j8]
    · -- the layers in which a belief is lost
      have hin : ∀ t, t < ls.length → ∀ l, ls[t]? = some l → ∀ b ∈ l, b ∈ iter (succA a) [0] K := fun t _ l hl b hbl =>
        (Closes.mem _ _ c b).mpr (wk_reachA ((I.lay t l hl b).mp hbl).1)
      have hp : ∃ t, t < ls.length ∧ (((ls[t]?).getD []).any fun b => !decide (b ∈ W)) = true := by
        obtain ⟨b, hbm⟩ := List.exists_mem_of_ne_nil _ hbad
        obtain ⟨hbk, hbb⟩ := List.mem_filter.mp hbm
        obtain ⟨t, ht, w⟩ := (I.kn b).mp hbk
        obtain ⟨t2, g1, g2, g3⟩ := wk_least t w
        have hlt : t2 < ls.length := by rw [I.len]; omega
        refine ⟨t2, hlt, ?_⟩
        rw [List.getElem?_eq_getElem hlt, Option.getD_some, List.any_eq_true]
        refine ⟨b, (I.lay t2 _ (List.getElem?_eq_getElem hlt) b).mpr ⟨g2, g3⟩, ?_⟩
        have hnW : b ∉ W := fun hbW => ((hmemW b).mp hbW).2 ⟨0, by
          have h2 := LA_nil v b
          rw [hbb] at h2
          exact List.isEmpty_iff.mp h2⟩
        simp [hnW]
      obtain ⟨t0, rest, hf, hlt0, hp0, hpf⟩ := lost_first hp
      refine ⟨.until_ ((t0 : Int) - 1), ly_until (LA a) [0] I hns (List.getElem?_eq_getElem hlt0) ?_ ?_, ?_⟩
      · rw [List.getElem?_eq_getElem hlt0, Option.getD_some, List.any_eq_true] at hp0
        obtain ⟨b, hbl, hbW⟩ := hp0
        have hbW : b ∉ W := by simpa using hbW
        refine ⟨b, hbl, ?_⟩
        apply Classical.byContradiction
        intro hns
        exact hbW ((hmemW b).mpr ⟨hin t0 hlt0 _ (List.getElem?_eq_getElem hlt0) b hbl, hns⟩)
      · intro t' ht l' hl' b hbl hs
        refine hpf t' ht ?_
        rw [hl', Option.getD_some, List.any_eq_true]
        refine ⟨b, hbl, ?_⟩
        have hnW : b ∉ W := fun hbW => ((hmemW b).mp hbW).2 hs
        simp [hnW]
      · have hbad2 : ¬ ((kn.filter fun b => hasBad a b).map eB = []) := by
          intro e
          exact hbad (List.map_eq_nil_iff.mp e)
        have hbad3 : ¬ (((kn.filter fun b => hasBad a b).length : Int) = 0) := by
          intro e
          exact hbad (List.length_eq_zero_iff.mp (by omega))
        have lix : ∀ t, t < ls.length → D.ix (eLy ls) (.int (t : Int)) = some (.lst (((ls[t]?).getD []).map eB)) := fun t ht => by
          unfold eLy
          rw [ix_lst, atI_map, atIN, List.getElem?_eq_getElem ht]
          rfl
        have llen : ∀ t, t < ls.length → ((ls[t]?).getD []).length ≤ 1000000 := fun t ht => by
          have hnd : ((ls[t]?).getD []).length ≤ K := by
            have e := List.getElem?_eq_getElem ht
            rw [← c.len, e, Option.getD_some]
            exact (I.lnd _ (List.getElem_mem ht)).length_le_of_subset fun b hbl => hin t ht _ e b hbl
          omega
        have hc2 : ∀ t, t < ls.length → lcL 0 [8] (gNm 8) r__law_due_c2 r__law_due_e2 (((ls[t]?).getD []).map eB) [.sh (eA a), .sh (eBl (iter (succA a) [0] K)), .sh (eHere W), .ow 0 (eLy ls), .sh (eHere kn), h5, .un, h7, .un, .sh (.int t), h10] = ok ((((ls[t]?).getD []).filter fun b => !decide (b ∈ W)).map eB, [.sh (eA a), .sh (eBl (iter (succA a) [0] K)), .sh (eHere W), .ow 0 (eLy ls), .sh (eHere kn), h5, .un, h7, .un, .sh (.int t), h10]) := fun t ht =>
          lcL_filter eB eB (fun b => !decide (b ∈ W)) _ (by
            intro b _
            have := here_notin W b
            by_cases hbW : b ∈ W <;> simp [r__law_due_c2, r__law_due_e2, this, hbW])
        have hc3 := lcL_filter (kk := 0) (vs := [9]) (tg := gNm 9) (tt := r__law_due_c3) (el := r__law_due_e3) (fun t : Nat => D.int t) (fun t : Nat => D.int t) (fun t => (((ls[t]?).getD []).any fun b => !decide (b ∈ W))) (env := [.sh (eA a), .sh (eBl (iter (succA a) [0] K)), .sh (eHere W), .ow 0 (eLy ls), .sh (eHere kn), h5, .un, h7, h8, .un, h10]) (List.range ls.length) (by
          intro t ht
          rw [List.mem_range] at ht
          have e2 := hc2 t ht
          have e3 := lix t ht
          have e4 := llen t ht
          have e5 : (decide ((0 : Int) < ((((ls[t]?).getD []).filter fun b => !decide (b ∈ W)).length : Int))) = (((ls[t]?).getD []).any fun b => !decide (b ∈ W)) := by
            rw [Bool.eq_iff_iff, decide_eq_true_iff, List.any_eq_true]
            constructor
            · intro h
              obtain ⟨b, hbm⟩ := List.exists_mem_of_length_pos (l := ((ls[t]?).getD []).filter fun b => !decide (b ∈ W)) (by omega)
              exact ⟨b, (List.mem_filter.mp hbm).1, (List.mem_filter.mp hbm).2⟩
            · rintro ⟨b, h1, h2⟩
              have := List.length_pos_of_mem (List.mem_filter.mpr ⟨h1, h2⟩ : b ∈ ((ls[t]?).getD []).filter fun b => !decide (b ∈ W))
              omega
          rw [← e5]
          generalize hF : ((ls[t]?).getD []).filter (fun b => !decide (b ∈ W)) = F at *
          by_cases hz : (0 : Int) < (F.length : Int)
          · have hz' : 0 < F.length := by omega
            simp only [r__law_due_c3, r__law_due_e3]
            simp [e2, e3, e4, hz', j8]
          · have hz' : F = [] := List.length_eq_zero_iff.mp (by omega)
            subst hz'
            simp only [r__law_due_c3, r__law_due_e3]
            simp [e2, e3, e4, j8])
        rw [hf, qhk] at hc3
        have hbad4 : ¬ ∀ x, x ∈ kn → hasBad a x = false := by
          intro h
          refine hbad (List.filter_eq_nil_iff.mpr fun b hbk => ?_)
          rw [h b hbk]
          simp
        have lsl : ls.length ≤ 1000000 := by have := I.len; have := I.big; omega
        simp [n__law_due, r__law_due, hbel, hwon, h1, hst, eLat, k0, lenb, lenl, hlenQ, hir, hirl, hloop, qhk, hc1, hkl, j8, hbad4, lsl, hc3]
  · refine ⟨.lost, ?_, ?_⟩
    · apply Classical.byContradiction
      intro hns
      exact hst ((hmemW [0]).mpr ⟨h0in, hns⟩)
    · have qb : eBl (iter (succA a) [0] K) = .lst ((iter (succA a) [0] K).map eB) := rfl
      simp [n__law_due, r__law_due, hbel, hwon, h1, hst, eLat]
end K
namespace K
open PySem PySem.Spec PyProof.Rows L2 VL G
/-! ### the chain -/
/-- an entry of the chain -/
def chE (n : Nat) (marks : List Nat) (x : Nat) (d : Int) : Entry := [[([d], (x : Int) + 1)], [([0], if x ∈ marks then (n : Int) + 1 else n), ([1], if x ∈ marks then (n : Int) + 1 else n)]]
structure Chain (n : Nat) (marks : List Nat) (a : Ar) : Prop where
  off : a.off = 1
  bad : a.bad = [(n : Int)]
  len : a.mv.length = n + 2
  at_ : ∀ x, x < n → ∃ d, 0 ≤ d ∧ d ≤ 3 ∧ a.mv[x]? = some (chE n marks x d)
  e1 : a.mv[n]? = some []
  e2 : a.mv[n + 1]? = some []
  pos : 1 ≤ n
  sub : marks.Sublist (List.range n)
theorem chain_b1 {n x : Nat} (marks : List Nat) (P : Pool) (g5 : SV) (mv : List Entry) (hl : mv.length ≤ 1000) (i5 : isIo g5 = false) :
    ∃ P' d h5, 0 ≤ d ∧ d < 2 ∧ isIo h5 = false ∧ r__law_chain_b1 [.io 0 (eP P), .sh (.int n), .ow 0 (.lst (marks.map fun i : Nat => .int i)), .ow 0 (eMv mv), .sh (.int x), g5] = ok (.nx, [.io 0 (eP P'), .sh (.int n), .ow 0 (.lst (marks.map fun i : Nat => .int i)), .ow 0 (eMv (mv ++ [chE n marks x d])), .sh (.int x), h5]) := by
  obtain ⟨d, P1, hd, d0, d1⟩ := n_law_draw_ev P 2 (by decide) (by decide)
  have hin : gIn (.int (x : Int)) (.lst (marks.map fun i : Nat => D.int i)) = some (.bl (decide (x ∈ marks))) := by
    have h := gIn_ints (x : Int) (marks.map fun i : Nat => (i : Int))
    rw [List.map_map] at h
    rw [show (marks.map fun i : Nat => D.int i) = marks.map (D.int ∘ fun i : Nat => (i : Int)) from rfl, h]
    have e : ((x : Int) ∈ marks.map fun i : Nat => (i : Int)) ↔ x ∈ marks := by
      rw [List.mem_map]
      exact ⟨fun ⟨i, h1, h2⟩ => by rw [← show i = x by omega]; exact h1, fun h => ⟨x, h, rfl⟩⟩
    by_cases hx : x ∈ marks
    · simp [e.mpr hx, hx]
    · rw [decide_eq_false hx, decide_eq_false fun z => hx (e.mp z)]
  have qm : ∀ l, eMv l = .lst (l.map eE) := fun _ => rfl
  have hml : mv.length < 1000000 := by omega
  refine ⟨P1, d, .sh (.int (if x ∈ marks then (n : Int) + 1 else n)), d0, d1, rfl, ?_⟩
  by_cases hx : x ∈ marks
  · simp [r__law_chain_b1, i5, hin, hx, hd, qm, hml, chE, eE, eOs, eO]
  · simp [r__law_chain_b1, i5, hin, hx, hd, qm, hml, chE, eE, eOs, eO]
theorem n_law_chain_ev (P : Pool) : ∃ n marks a P', 10 ≤ n ∧ n ≤ 109 ∧ Chain n marks a ∧ n__law_chain [] (eP P) = ok (0, .tup [eA a, if marks = [] then .tup [.str "lost"] else .tup [.str "until", .int ((marks.getLast?.getD 0 : Nat) : Int)]], eP P') := by
  obtain ⟨r, P1, hr, r0, r1⟩ := n_law_draw_ev P 100 (by decide) (by decide)
  obtain ⟨n, hn⟩ : ∃ n : Nat, 10 + r = (n : Int) := ⟨(10 + r).toNat, by omega⟩
  have n1 : 10 ≤ n := by omega
  have n2 : n ≤ 109 := by omega
  obtain ⟨ys, e2, hc, ⟨P2, rfl⟩, hsub⟩ := lcL_some (kk := 0) (vs := [4]) (tg := gNm 4) (tt := r__law_chain_c1) (el := r__law_chain_e1) (fun i : Nat => D.int i) (fun e => ∃ P, e = [.io 0 (eP P), .sh (.int n), .un, .un, .un, .un]) (List.range n) [.io 0 (eP P1), .sh (.int n), .un, .un, .un, .un] ⟨P1, rfl⟩ (by
    rintro x _ _ ⟨P, rfl⟩
    obtain ⟨b, P4, hb⟩ := n_law_chance_ev P 1 4 (by decide) (by decide)
    exact ⟨b, [.io 0 (eP P4), .sh (.int n), .un, .un, .un, .un], by cases b <;> simp [r__law_chain_c1, r__law_chain_e1, hb], P4, rfl⟩)
  have hir := fun e => irg1_ok (j := (n : Int)) (by omega) (by omega) e
  have hnl : n ≤ 1000000 := by omega
  -- the marks cut
  have cut : ∃ (zs : List Nat) (P4 : Pool), zs.Sublist (List.range n) ∧ ∀ X : VL.Env → SR, sSeq (sIf (tTru (rdR (eCallI 2 0 1 n__law_chance (aCons (eC (.int 1)) (aCons (eC (.int 4)) aNil)))))
    (sAsg 2 (eSlice (eV 2) oNone (oSome (rdR (eCallI 1 0 1 n__law_draw (aCons (eC (.int 3)) aNil))))))
    sNil) X [.io 0 (eP P2), .sh (.int n), .ow 0 (.lst (ys.map fun i : Nat => .int i)), .un, .un, .un] = X [.io 0 (eP P4), .sh (.int n), .ow 0 (.lst (zs.map fun i : Nat => .int i)), .un, .un, .un] := by
    obtain ⟨b, P5, hb⟩ := n_law_chance_ev P2 1 4 (by decide) (by decide)
    cases b with
    | false => exact ⟨ys, P5, hsub, fun X => by simp [hb]⟩
    | true =>
      obtain ⟨k, P6, hk, _, _⟩ := n_law_draw_ev P5 3 (by decide) (by decide)
      have hcut : VL.cutD (ys.map fun i : Nat => D.int i) none (some k) = ((ys.drop 0).take (HT.sIx ys.length ys.length (some k) - 0)).map fun i : Nat => D.int i := by
        unfold VL.cutD
        rw [HT.sIx_none, List.length_map, List.map_take, List.map_drop]
      refine ⟨(ys.drop 0).take (HT.sIx ys.length ys.length (some k) - 0), P6, ((List.take_sublist _ _).trans (List.drop_sublist _ _)).trans hsub, fun X => ?_⟩
      simp only [List.drop_zero, Nat.sub_zero] at hcut ⊢
      simp [hb, hk, hcut]
  obtain ⟨zs, P4, hzs, hX⟩ := cut
  obtain ⟨e', he, P7, mv, h4, h5, rfl, hlen, hent, j4, j5⟩ := forL_split (tg := gNm 4) (s := r__law_chain_b1) (fun i : Nat => D.int i) (fun pre e => ∃ P mv g4 g5, e = [.io 0 (eP P), .sh (.int n), .ow 0 (.lst (zs.map fun i : Nat => .int i)), .ow 0 (eMv mv), g4, g5] ∧ mv.length = pre.length ∧ (∀ x, x < pre.length → ∃ d, 0 ≤ d ∧ d ≤ 3 ∧ mv[x]? = some (chE n zs x d)) ∧ isIo g4 = false ∧ isIo g5 = false) (List.range n) [.io 0 (eP P4), .sh (.int n), .ow 0 (.lst (zs.map fun i : Nat => .int i)), .ow 0 (eMv []), .un, .un] ⟨P4, [], .un, .un, rfl, rfl, fun x h => absurd h (Nat.not_lt_zero _), rfl, rfl⟩ (by
    rintro pre x suf _ hs ⟨P, mv, g4, g5, rfl, hlen, hent, i4, i5⟩
    have hk : pre.length < n := by
      have := congrArg List.length hs
      simp at this
      omega
    have hx : x = pre.length := by
      have h1 : (List.range n)[pre.length]? = some x := by rw [hs, List.getElem?_append_right (Nat.le_refl _)]; simp
      have h2 := (List.getElem?_eq_some_iff.mp h1).2
      rw [List.getElem_range] at h2
      exact h2.symm
    obtain ⟨P', d, h5, q1, q2, j5, q⟩ := chain_b1 (n := n) (x := x) zs P g5 mv (by omega) i5
    refine ⟨[.io 0 (eP P), .sh (.int n), .ow 0 (.lst (zs.map fun i : Nat => .int i)), .ow 0 (eMv mv), .sh (.int x), g5], _, by simp [i4], .inl q, ⟨P', mv ++ [chE n zs x d], .sh (.int x), h5, rfl, by simp [hlen], fun y hy => ?_, rfl, j5⟩⟩
    rw [List.length_append, List.length_singleton] at hy
    rcases Nat.lt_or_ge y pre.length with h | h
    · obtain ⟨d', a1, a2, a3⟩ := hent y h
      exact ⟨d', a1, a2, by rw [List.getElem?_append_left (by omega)]; exact a3⟩
    · have : y = x := by omega
      subst this
      exact ⟨d, q1, by omega, by rw [List.getElem?_append_right (by omega), show y - mv.length = 0 by omega]; rfl⟩)
  rw [List.length_range] at hlen hent
  have qm0 : eMv [] = .lst [] := rfl
  rw [qm0] at he
  have qm : eMv mv = .lst (mv.map eE) := rfl
  have hml : mv.length + 2 ≤ 1000000 := by omega
  have ea : eA ⟨1, mv ++ [[], []], [(n : Int)]⟩ = .tup [.int 1, .lst (mv.map eE ++ [.lst [], .lst []]), .lst [.int n]] := by unfold eA eMv; simp [eE]
  refine ⟨n, zs, ⟨1, mv ++ [[], []], [(n : Int)]⟩, P7, n1, n2, ⟨rfl, rfl, by simp [hlen], fun x hx => ?_, ?_, ?_, by omega, hzs⟩, ?_⟩
  · obtain ⟨d, a1, a2, a3⟩ := hent x hx
    exact ⟨d, a1, a2, by dsimp only; rw [List.getElem?_append_left (by omega)]; exact a3⟩
  · dsimp only; rw [List.getElem?_append_right (by omega), show n - mv.length = 0 by omega]; rfl
  · dsimp only; rw [List.getElem?_append_right (by omega), show n + 1 - mv.length = 1 by omega]; rfl
  · rw [ea]
    have e0 : ∀ X : VL.Env → SR, sSeq (sAsg 1 (eOp gAdd (rdR (eC (.int 10))) (rdR (eCallI 1 0 1 n__law_draw (aCons (eC (.int 100)) aNil))))) X [.io 0 (eP P), .un, .un, .un, .un, .un] = X [.io 0 (eP P1), .sh (.int n), .un, .un, .un, .un] := fun X => by simp [hr, hn]
    have e1 : ∀ X : VL.Env → SR, sSeq (sAsg 2 (eLc 0 [4] (iRng1F (raCons (rV 1) aNil)) (gNm 4) r__law_chain_c1 r__law_chain_e1)) X [.io 0 (eP P1), .sh (.int n), .un, .un, .un, .un] = X [.io 0 (eP P2), .sh (.int n), .ow 0 (.lst (ys.map fun i : Nat => .int i)), .un, .un, .un] := fun X => by simp [hir, hnl, hc]
    have env : envI 6 0 0 [] (eP P) = [.io 0 (eP P), .un, .un, .un, .un, .un] := rfl
    unfold n__law_chain r__law_chain
    rw [env, e0, e1, hX]
    by_cases hz : zs = []
    · subst hz
      rw [if_pos rfl]
      simp at he
      simp [hir, he, qm, hml]
      exact outI_rt rfl
    · rw [if_neg hz]
      have hl0 : ¬ ((zs.length : Int) = 0) := by
        intro e
        exact hz (List.length_eq_zero_iff.mp (by omega))
      have hlast : atI (zs.map fun i : Nat => D.int i) (-1) = some (.int ((zs.getLast?.getD 0 : Nat) : Int)) := by
        rw [atI_map, VL.atI_last]
        cases hg : zs.getLast? with
        | none => exact absurd (List.getLast?_eq_none_iff.mp hg) hz
        | some z => rfl
      simp [hir, he, qm, hml, hz, hlast]
      exact outI_rt rfl
end K
namespace K
open PySem PySem.Spec PyProof.Rows L2 VL G
/-! ### how many beliefs -/
theorem uniq_facts (ns : List Int) : (uniq ns).Nodup ∧ (∀ k, k ∈ uniq ns ↔ k ∈ ns) ∧ (uniq ns).Pairwise (· < ·) := by
  have tr : ∀ (a b c : Int), decide (a ≤ b) = true → decide (b ≤ c) = true → decide (a ≤ c) = true := by
    intro a b c; simp only [decide_eq_true_eq]; omega
  have to : ∀ (a b : Int), (decide (a ≤ b) || decide (b ≤ a)) = true := by
    intro a b; simp only [Bool.or_eq_true, decide_eq_true_eq]; omega
  have hp := List.mergeSort_perm (dedup ns) (fun a b => decide (a ≤ b))
  have hs := List.pairwise_mergeSort tr to (dedup ns)
  have hnd : (uniq ns).Nodup := hp.nodup_iff.mpr (dedup_nodup ns)
  refine ⟨hnd, fun k => ?_, ?_⟩
  · unfold uniq srt
    rw [hp.mem_iff]
    exact dedup_mem
  · have h1 : (uniq ns).Pairwise fun a b => a ≤ b := hs.imp fun h => of_decide_eq_true h
    exact (h1.and hnd).imp fun ⟨h, h2⟩ => by omega
def subs : List Int → List (List Int)
  | [] => [[]]
  | x :: xs => subs xs ++ (subs xs).map (x :: ·)
theorem subs_len : ∀ xs : List Int, (subs xs).length = 2 ^ xs.length
  | [] => rfl
  | x :: xs => by
    unfold subs
    rw [List.length_append, List.length_map, subs_len xs, List.length_cons, Nat.pow_succ]
    omega
theorem mem_subs {b l : List Int} (h : b.Sublist l) : b ∈ subs l := by
  induction h with
  | slnil => simp [subs]
  | cons a h ih => exact List.mem_append_left _ ih
  | cons_cons a h ih => exact List.mem_append_right _ (List.mem_map.mpr ⟨_, ih, rfl⟩)
theorem asc_sub : ∀ {l b : List Int}, l.Pairwise (· < ·) → b.Pairwise (· < ·) → (∀ x ∈ b, x ∈ l) → b.Sublist l
  | [], b, _, _, h => by
    cases b with
    | nil => exact .slnil
    | cons x b => cases h x List.mem_cons_self
  | y :: l, [], _, _, _ => List.nil_sublist _
  | y :: l, x :: b, hl, hb, h => by
    have hl' := List.pairwise_cons.mp hl
    have hb' := List.pairwise_cons.mp hb
    rcases List.mem_cons.mp (h x List.mem_cons_self) with e | e
    · subst e
      refine (asc_sub hl'.2 hb'.2 fun z hz => ?_).cons₂ x
      rcases List.mem_cons.mp (h z (List.mem_cons_of_mem _ hz)) with e | e
      · have := hb'.1 z hz; omega
      · exact e
    · refine (asc_sub hl'.2 hb fun z hz => ?_).cons y
      rcases List.mem_cons.mp (h z hz) with e2 | e2
      · subst e2
        have := hl'.1 x e
        rcases List.mem_cons.mp hz with e3 | e3
        · omega
        · have := hb'.1 z e3; omega
      · exact e2
/-- at most three outcomes for each command -/
def Few (a : Ar) : Prop := ∀ e ∈ a.mv, ∀ l ∈ e, l.length ≤ 3
theorem outsAt_few {a : Ar} (h : Few a) (x c : Int) : (outsAt a x c).length ≤ 3 := by
  unfold outsAt
  split
  · unfold entryAt
    cases hx : a.mv[x.toNat]? with
    | none => simp
    | some e =>
      simp only [Option.getD_some]
      cases hc : e[c.toNat]? with
      | none => simp
      | some l => exact h e (List.mem_of_getElem? hx) l (List.mem_of_getElem? hc)
  · simp
theorem outsB_few {a : Ar} (h : Few a) (b : List Int) (c : Int) : (outsB a b c).length ≤ b.length * 3 :=
  flatMap_le' (fun x => outsAt a x c) 3 b fun x _ => outsAt_few h x c
where
  flatMap_le' {α β : Type} (f : α → List β) (k : Nat) : ∀ xs : List α, (∀ x ∈ xs, (f x).length ≤ k) → (xs.flatMap f).length ≤ xs.length * k
  | [], _ => by simp
  | x :: xs, h => by
    rw [List.flatMap_cons, List.length_append, List.length_cons, Nat.succ_mul]
    have := flatMap_le' f k xs fun y m => h y (List.mem_cons_of_mem _ m)
    have := h x List.mem_cons_self
    omega
/-- a reached belief: ascending nodes -/
theorem reach_asc {a : Ar} (v : a.Ok) {b : List Int} (h : Reach (succA a) [0] b) : b.Pairwise (· < ·) ∧ Nods a b := by
  induction h with
  | base =>
    refine ⟨by simp, fun x hx => ?_⟩
    simp at hx; subst hx
    have := v.sz
    exact ⟨by omega, by omega⟩
  | step h1 h2 ih =>
    rename_i b b'
    unfold succA at h2
    obtain ⟨rows, hr, h3⟩ := List.mem_flatMap.mp h2
    obtain ⟨r, hr2, rfl⟩ := List.mem_map.mp h3
    unfold LB at hr
    split at hr
    · cases hr
    · obtain ⟨c, _, rfl⟩ := List.mem_map.mp hr
      unfold followsF at hr2
      obtain ⟨o, _, rfl⟩ := List.mem_map.mp hr2
      have hu := uniq_facts (endsF a b c o)
      refine ⟨hu.2.2, fun x hx => ?_⟩
      have hx := (hu.2.1 x).mp hx
      unfold endsF at hx
      obtain ⟨m, hm, rfl⟩ := List.mem_map.mp hx
      have hm := (List.mem_filter.mp hm).1
      unfold outsB at hm
      obtain ⟨y, _, hy⟩ := List.mem_flatMap.mp hm
      have := outsAt_ok v hy
      exact ⟨this.lo, this.hi⟩
/-- what both sides need of an arena -/
structure Good (a : Ar) : Prop where
  v : a.Ok
  ex : ∃ K, K ≤ 600 ∧ Closes (succA a) [0] K
  bok : ∀ b, Reach (succA a) [0] b → BOk a b
theorem good_small {a : Ar} (v : a.Ok) (hs : a.mv.length ≤ 9) (hf : Few a) : Good a := by
  have hrl : ((List.range a.mv.length).map fun i : Nat => (i : Int)).Pairwise (· < ·) := by
    rw [List.pairwise_map]
    exact List.pairwise_lt_range.imp fun h => by omega
  have sub : ∀ b, Reach (succA a) [0] b → b.Sublist ((List.range a.mv.length).map fun i : Nat => (i : Int)) := fun b h => by
    have := reach_asc v h
    refine asc_sub hrl this.1 fun x hx => ?_
    have hn := this.2 x hx
    exact List.mem_map.mpr ⟨x.toNat, List.mem_range.mpr (by unfold Nod at hn; omega), by unfold Nod at hn; omega⟩
  obtain ⟨K, hK, c⟩ := closes_ex (succA a) [0] (U := subs ((List.range a.mv.length).map fun i : Nat => (i : Int))) fun b h => mem_subs (sub b h)
  rw [subs_len, List.length_map, List.length_range] at hK
  have h512 : 2 ^ a.mv.length ≤ 2 ^ 9 := Nat.pow_le_pow_right (by decide) hs
  refine ⟨v, ⟨K, by omega, c⟩, fun b h => ?_⟩
  have hlen := (sub b h).length_le
  rw [List.length_map, List.length_range] at hlen
  refine ⟨(reach_asc v h).2, by omega, fun c _ => ?_⟩
  have := outsB_few hf b c
  omega
/-- the same moves, other bad nodes -/
theorem ok_twin {a : Ar} (v : a.Ok) {bad : List Int} (h1 : bad.Pairwise (· < ·)) (h2 : ∀ x ∈ bad, 0 ≤ x ∧ x < a.mv.length) : (Ar.mk a.off a.mv bad).Ok := ⟨v.off, v.sz, v.cm, v.len, v.en, h1, h2⟩
end K
namespace K
open PySem PySem.Spec PyProof.Rows L2 VL G
/-! ### the chain's answer -/
theorem uniq_one (d : Int) : uniq [d] = [d] := (uniq_eq (out := [d]) (by simp) (fun k => Iff.rfl) (by simp)).symm
theorem uniq_nil : uniq [] = [] := (uniq_eq (out := []) (by simp) (fun k => Iff.rfl) (by simp)).symm
theorem uniq_01 : uniq [0, 1] = [0, 1] := (uniq_eq (out := [0, 1]) (by decide) (fun k => Iff.rfl) (by simp)).symm
/-- a chain's moves with any bad nodes -/
structure ChainM (n : Nat) (marks : List Nat) (a : Ar) : Prop where
  off : a.off = 1
  len : a.mv.length = n + 2
  at_ : ∀ x, x < n → ∃ d, 0 ≤ d ∧ d ≤ 3 ∧ a.mv[x]? = some (chE n marks x d)
  e1 : a.mv[n]? = some []
  e2 : a.mv[n + 1]? = some []
  pos : 1 ≤ n
  le : n ≤ 109
def offN (n : Nat) (marks : List Nat) (x : Nat) : Int := if x ∈ marks then (n : Int) + 1 else n
section
variable {n : Nat} {marks : List Nat} {a : Ar} (h : ChainM n marks a)
include h
theorem ch_cmds : cmdsF a.mv = 2 := by
  obtain ⟨d, _, _, h0⟩ := h.at_ 0 (by have := h.pos; omega)
  cases e : a.mv with
  | nil => rw [e] at h0; simp at h0
  | cons x xs =>
    rw [e] at h0
    simp at h0
    subst h0
    rfl
theorem ch_mem {e : Entry} (he : e ∈ a.mv) : e = [] ∨ ∃ x d, x < n ∧ 0 ≤ d ∧ d ≤ 3 ∧ e = chE n marks x d := by
  obtain ⟨i, hi, rfl⟩ := List.mem_iff_getElem.mp he
  have hg := List.getElem?_eq_getElem hi
  rcases Nat.lt_or_ge i n with q | q
  · obtain ⟨d, d0, d1, h1⟩ := h.at_ i q
    rw [hg] at h1
    exact .inr ⟨i, d, q, d0, d1, Option.some.inj h1⟩
  · left
    rw [h.len] at hi
    rcases (show i = n ∨ i = n + 1 by omega) with r | r
    · subst r; have := h.e1; rw [hg] at this; exact Option.some.inj this
    · subst r; have := h.e2; rw [hg] at this; exact Option.some.inj this
theorem ch_ok (h1 : a.bad.Pairwise (· < ·)) (h2 : ∀ x ∈ a.bad, 0 ≤ x ∧ x < a.mv.length) : a.Ok := by
  have hc := ch_cmds h
  have hp := h.pos
  have hle := h.le
  refine ⟨by rw [h.off]; omega, by rw [h.len]; omega, by rw [hc]; omega, fun e he => ?_, fun e he => ?_, h1, h2⟩
  · rcases ch_mem h he with q | ⟨x, d, _, _, _, q⟩
    · exact .inl q
    · right; rw [q, hc]; rfl
  · rcases ch_mem h he with q | ⟨x, d, hx, d0, d1, q⟩
    · subst q; exact ⟨fun l hl => (nomatch hl), fun l hl => (nomatch hl)⟩
    · subst q
      have ob : 0 ≤ offN n marks x ∧ offN n marks x < (a.mv.length : Int) := by rw [h.len]; unfold offN; split <;> constructor <;> omega
      refine ⟨fun l hl => ?_, fun l hl o ho => ?_⟩
      · unfold chE at hl
        simp at hl
        rcases hl with rfl | rfl <;> simp
      · unfold chE at hl
        simp at hl
        rw [h.off]
        rcases hl with rfl | rfl
        · simp at ho; subst ho
          exact ⟨rfl, by dsimp only; omega, by dsimp only; rw [h.len]; omega, fun z hz => by simp at hz; subst hz; omega⟩
        · simp at ho
          rcases ho with rfl | rfl
          · exact ⟨rfl, ob.1, ob.2, fun z hz => by simp at hz; subst hz; omega⟩
          · exact ⟨rfl, ob.1, ob.2, fun z hz => by simp at hz; subst hz; omega⟩
theorem ch_few : Few a := fun e he l hl => by
  rcases ch_mem h he with q | ⟨x, d, hx, d0, d1, q⟩
  · subst q; cases hl
  · subst q
    unfold chE at hl
    simp at hl
    rcases hl with rfl | rfl <;> simp
/-- what follows a node -/
theorem ch_outs {x : Nat} (hx : x < n) : ∃ d, (∀ z, outsAt a x z = if live a x then (if z.toNat = 0 then [([d], (x : Int) + 1)] else if z.toNat = 1 then [([0], offN n marks x), ([1], offN n marks x)] else []) else []) := by
  obtain ⟨d, d0, d1, h1⟩ := h.at_ x hx
  refine ⟨d, fun z => ?_⟩
  unfold outsAt entryAt
  rw [show ((x : Nat) : Int).toNat = x by omega, h1, Option.getD_some]
  congr 1
  unfold chE
  generalize z.toNat = c
  match c with
  | 0 => rfl
  | 1 => rfl
  | c + 2 => simp
theorem ch_dead {x : Nat} (hx : n ≤ x) (hx2 : x < n + 2) : ∀ z, outsAt a x z = [] := fun z => by
  have : entryAt a x = [] := by
    unfold entryAt
    rw [show ((x : Nat) : Int).toNat = x by omega]
    rcases (show x = n ∨ x = n + 1 by omega) with r | r
    · subst r; rw [h.e1]; rfl
    · subst r; rw [h.e2]; rfl
  unfold outsAt
  rw [this]
  split <;> simp
theorem ch_single {b : List Int} (r : Reach (succA a) [0] b) : ∃ x, x < n + 2 ∧ b = [(x : Int)] := by
  induction r with
  | base => exact ⟨0, by omega, rfl⟩
  | step h1 h2 ih =>
    rename_i b b'
    obtain ⟨x, hx, rfl⟩ := ih
    unfold succA at h2
    obtain ⟨rows, hr, h3⟩ := List.mem_flatMap.mp h2
    obtain ⟨r, hr2, rfl⟩ := List.mem_map.mp h3
    unfold LB at hr
    split at hr
    · cases hr
    · obtain ⟨c, hc, rfl⟩ := List.mem_map.mp hr
      rw [List.mem_range, ch_cmds h] at hc
      unfold followsF at hr2
      obtain ⟨o, ho, rfl⟩ := List.mem_map.mp hr2
      dsimp only
      unfold answersF at ho
      have ho := ((uniq_facts _).2.1 o).mp ho
      unfold afterF endsF
      rw [outsB_one] at ho ⊢
      rcases Nat.lt_or_ge x n with q | q
      · obtain ⟨d, hd⟩ := ch_outs h q
        rw [hd] at ho ⊢
        have hoff : ∃ y, y < n + 2 ∧ offN n marks x = ((y : Nat) : Int) := by
          unfold offN; split
          · exact ⟨n + 1, by omega, by omega⟩
          · exact ⟨n, by omega, rfl⟩
        cases hl : live a x with
        | false => rw [hl] at ho; simp at ho
        | true =>
          rw [hl] at ho
          rcases (show c = 0 ∨ c = 1 by omega) with r | r
          · subst r
            simp [h0] at ho ⊢
            subst ho
            refine ⟨x + 1, by omega, ?_⟩
            simp [uniq_one]
          · subst r
            obtain ⟨y, hy, e⟩ := hoff
            simp [h0] at ho ⊢
            refine ⟨y, hy, ?_⟩
            rw [← e]
            rcases ho with rfl | rfl
            · simp [uniq_one]
            · simp [uniq_one]
      · rw [ch_dead h q hx] at ho
        simp at ho
theorem ch_good (h1 : a.bad.Pairwise (· < ·)) (h2 : ∀ x ∈ a.bad, 0 ≤ x ∧ x < a.mv.length) : Good a := by
  have v := ch_ok h h1 h2
  obtain ⟨K, hK, c⟩ := closes_ex (succA a) [0] (U := (List.range (n + 2)).map fun i : Nat => [(i : Int)]) fun b r => by
    obtain ⟨x, hx, rfl⟩ := ch_single h r
    exact List.mem_map.mpr ⟨x, List.mem_range.mpr hx, rfl⟩
  rw [List.length_map, List.length_range] at hK
  have := h.le
  refine ⟨v, ⟨K, by omega, c⟩, fun b r => ?_⟩
  obtain ⟨x, hx, rfl⟩ := ch_single h r
  refine ⟨(reach_asc v r).2, by simp, fun c _ => ?_⟩
  have := outsB_few (ch_few h) [(x : Int)] c
  simp at this
  omega
end
/-- the chain's own answer -/
theorem ch_lat {n : Nat} {marks : List Nat} {a : Ar} (h : ChainM n marks a) (hb : a.bad = [(n : Int)]) (hs : marks.Sublist (List.range n)) :
    LatSpec (LA a) [0] (if marks = [] then .lost else .until_ ((marks.getLast?.getD 0 : Nat) : Int)) := by
  have hc := ch_cmds h
  have bad_iff : ∀ x : Nat, hasBad a [(x : Int)] = decide (x = n) := fun x => by
    unfold hasBad isBad
    rw [hb]
    by_cases e : x = n
    · subst e; simp
    · have : ¬ ((x : Int) = n) := by omega
      simp [e, this]
  have range2 : List.range 2 = [0, 1] := rfl
  have LAlt : ∀ x, x < n → LA a [(x : Int)] = [[[(x : Int) + 1]], [[offN n marks x], [offN n marks x]]] := fun x hx => by
    obtain ⟨d, hd⟩ := ch_outs h hx
    have hl : live a x = true := by
      unfold live isBad
      obtain ⟨d', _, _, h1⟩ := h.at_ x hx
      have : entryAt a x = chE n marks x d' := by
        unfold entryAt
        rw [show ((x : Nat) : Int).toNat = x by omega, h1]; rfl
      rw [this, hb]
      have : ¬ ((x : Int) = n) := by omega
      simp [this, chE]
    unfold LA LB
    rw [bad_iff, decide_eq_false (by omega), if_neg (by simp), hc, range2]
    simp only [List.map_cons, List.map_nil]
    have e0 := hd 0
    have e1 := hd 1
    rw [hl, if_pos rfl] at e0 e1
    have f0 : followsF a [(x : Int)] ((0 : Nat) : Int) = [(d, [(x : Int) + 1])] := by
      unfold followsF answersF afterF endsF
      rw [outsB_one, show ((0 : Nat) : Int) = 0 from rfl, e0]
      simp [h0, uniq_one]
    have f1 : followsF a [(x : Int)] ((1 : Nat) : Int) = [(0, [offN n marks x]), (1, [offN n marks x])] := by
      unfold followsF answersF afterF endsF
      rw [outsB_one, show ((1 : Nat) : Int) = 1 from rfl, e1]
      simp [h0, uniq_01, uniq_one]
    rw [f0, f1]
    rfl
  have LAn : LA a [(n : Int)] = [] := by
    unfold LA LB
    rw [bad_iff]
    simp
  have LAn1 : LA a [(n : Int) + 1] = [[], []] := by
    have e := bad_iff (n + 1)
    have d0 := ch_dead h (x := n + 1) (by omega) (by omega)
    rw [show (((n + 1 : Nat)) : Int) = (n : Int) + 1 by omega] at e d0
    unfold LA LB
    rw [e, decide_eq_false (by omega), if_neg (by simp), hc, range2]
    simp only [List.map_cons, List.map_nil]
    have f : ∀ z, followsF a [(n : Int) + 1] z = [] := fun z => by
      unfold followsF answersF
      rw [outsB_one, d0, List.map_nil, uniq_nil]
      rfl
    rw [f, f]
    rfl
  have ns1 : ¬ Struck (LA a) [(n : Int) + 1] := fun s => by
    rw [struck_iff, LAn1] at s
    obtain ⟨y, hy, _⟩ := s [] (by simp)
    cases hy
  have sn : Struck (LA a) [(n : Int)] := ⟨0, LAn⟩
  have soff : ∀ x, Struck (LA a) [offN n marks x] ↔ x ∉ marks := fun x => by
    unfold offN
    split
    · rename_i hx; exact ⟨fun s => absurd s ns1, fun q => absurd hx q⟩
    · rename_i hx; exact ⟨fun _ => hx, fun _ => sn⟩
  have sx : ∀ k x, x + k = n → (Struck (LA a) [(x : Int)] ↔ ∀ y, x ≤ y → y < n → y ∉ marks) := by
    intro k
    induction k with
    | zero =>
      intro x hx
      have : x = n := by omega
      subst this
      exact ⟨fun _ y h1 h2 => by omega, fun _ => sn⟩
    | succ k ih =>
      intro x hx
      have ihx := ih (x + 1) (by omega)
      rw [show ((x + 1 : Nat) : Int) = (x : Int) + 1 by omega] at ihx
      rw [struck_iff, LAlt x (by omega)]
      constructor
      · intro s y h1 h2
        obtain ⟨z, hz, sz⟩ := s [[(x : Int) + 1]] (by simp)
        simp at hz; subst hz
        obtain ⟨z, hz, sz2⟩ := s [[offN n marks x], [offN n marks x]] (by simp)
        simp at hz; subst hz
        rcases Nat.lt_or_ge x y with q | q
        · exact ihx.mp sz y (by omega) h2
        · have : y = x := by omega
          subst this
          exact (soff y).mp sz2
      · intro s l hl
        simp at hl
        rcases hl with rfl | rfl
        · exact ⟨_, by simp, ihx.mpr fun y h1 h2 => s y (by omega) h2⟩
        · exact ⟨_, by simp, (soff x).mpr (s x (Nat.le_refl _) (by omega))⟩
  have s0lt : ∀ x, x < n → s0 (LA a) [(x : Int)] = [[(x : Int) + 1]] := fun x hx => by unfold s0; rw [LAlt x hx]; rfl
  have s0n : s0 (LA a) [(n : Int)] = [] := by unfold s0; rw [LAn]; rfl
  have walk : ∀ t y, Walk (LA a) [0] t y → t ≤ n ∧ y = [(t : Int)] := by
    intro t y w
    induction w with
    | base => exact ⟨by omega, rfl⟩
    | step w hy ih =>
      obtain ⟨h1, rfl⟩ := ih
      rename_i t y
      rcases Nat.lt_or_ge t n with q | q
      · rw [s0lt t q] at hy
        simp at hy
        subst hy
        exact ⟨by omega, by simp⟩
      · have : t = n := by omega
        subst this
        rw [s0n] at hy
        cases hy
  have walk2 : ∀ t, t ≤ n → Walk (LA a) [0] t [(t : Int)] := by
    intro t
    induction t with
    | zero => intro _; exact .base
    | succ t ih =>
      intro ht
      refine .step (ih (by omega)) ?_
      rw [s0lt t (by omega)]
      simp
  have mlt : ∀ y ∈ marks, y < n := fun y hy => List.mem_range.mp (hs.subset hy)
  have s00 := sx n 0 (by omega)
  by_cases hm : marks = []
  · rw [if_pos hm]
    show Struck (LA a) [0]
    refine s00.mpr fun y _ _ hy => ?_
    rw [hm] at hy
    cases hy
  · rw [if_neg hm]
    obtain ⟨M, hM⟩ : ∃ M, marks.getLast? = some M := by
      cases e : marks.getLast? with
      | none => exact absurd (List.getLast?_eq_none_iff.mp e) hm
      | some M => exact ⟨M, rfl⟩
    rw [hM, Option.getD_some]
    have hMm : M ∈ marks := List.mem_of_getLast? hM
    have hMn := mlt M hMm
    have asc : marks.Pairwise (· < ·) := List.Pairwise.sublist hs List.pairwise_lt_range
    have top : ∀ y ∈ marks, y ≤ M := fun y hy => by
      obtain ⟨ys, e⟩ := List.getLast?_eq_some_iff.mp hM
      rw [e] at hy asc
      rcases List.mem_append.mp hy with q | q
      · have := (List.pairwise_append.mp asc).2.2 y q M (by simp)
        omega
      · simp at q; omega
    refine ⟨fun s => (s00.mp s) M (Nat.zero_le _) hMn hMm, M + 1, by omega, ⟨[((M + 1 : Nat) : Int)], walk2 (M + 1) (by omega), (sx (n - (M + 1)) (M + 1) (by omega)).mpr fun y h1 h2 hy => ?_⟩, fun t' ht y w s => ?_⟩
    · have := top y hy; omega
    · obtain ⟨h1, rfl⟩ := walk t' y w
      exact ((sx (n - t') t' (by omega)).mp s) M (by omega) hMn hMm
end K
namespace K
open PySem PySem.Spec PyProof.Rows L2 VL G
/-! ### the arena made, answers compared -/
theorem n_law_arena_ev {a : Ar} (v : a.Ok) : n__law_arena [eA a] = ok (1, eAr a) := by
  have hi := n_init_ev v
  have q : ∀ e, eE e = .lst (e.map eOs) := fun _ => rfl
  have qm : eMv a.mv = .lst (a.mv.map eE) := rfl
  have h1 := lcL_all (kk := 0) (vs := [1]) (tg := gNm 1) (tt := tYesF) (el := r__law_arena_e2) eE eE (env := [.sh (eA a), .un, .un]) a.mv (by
    intro e he
    have hl : e.length ≤ 1000000 := by
      have := v.cm
      rcases v.len e he with h | h
      · rw [h]; simp
      · omega
    have h2 := lcL_all (kk := 0) (vs := [2]) (tg := gNm 2) (tt := tYesF) (el := r__law_arena_e1) eOs eOs (env := [.sh (eA a), .sh (eE e), .un]) e (by
      intro l _
      have : eOs l = .lst (l.map eO) := rfl
      simp [r__law_arena_e1, this, keysD])
    rw [q] at h2
    simp [r__law_arena_e2, q, hl, h2])
  have hm : a.mv.length ≤ 1000000 := by have := v.sz; omega
  rw [qm] at hi
  simp [n__law_arena, r__law_arena, qm, h1, hm, keysD, hi]
theorem same_int (m : Nat) (i : Int) : n__law_same (m + 1) [.int i, .int i] = ok (0, .bl true) := by
  simp [n__law_same, r__law_same, D.ty, tyIn]
theorem gEq_str {x : PySem.Str} (h : PyData.canLay0 (.str x) = true) : gEq (.str x) (.str x) = some (.bl true) := by
  unfold gEq D.eqv
  have : dp 20 (.str x) = true := by rw [dp]; exact h
  rw [this, py, PyData.eqv]
  simp
theorem same_str (m : Nat) {x : PySem.Str} (h : PyData.canLay0 (.str x) = true) : n__law_same (m + 1) [.str x, .str x] = ok (0, .bl true) := by
  have := gEq_str h
  simp [n__law_same, r__law_same, D.ty, tyIn, this]
theorem gNe_bb (a b : Bool) : gNe (.bl a) (.bl b) = some (.bl (a != b)) := by
  unfold gNe D.eqv
  rw [dp_bl, dp_bl, py, py, PyData.eqv]
  cases a <;> cases b <;> rfl
theorem same_tup (m : Nat) {xs : List D} (hl : xs.length ≤ 1000) (h : ∀ x ∈ xs, n__law_same m [x, x] = ok (0, .bl true)) : n__law_same (m + 1) [.tup xs, .tup xs] = ok (0, .bl true) := by
  obtain ⟨e', ⟨g, rfl, hg⟩, he⟩ := forL_keep (tg := gNm 2) (s := (sIf (tNotF (tTru (rdR (eCall 2 (n__law_same m) (aCons (eIxN 0 (rV 2)) (aCons (eIxN 1 (rV 2)) aNil))))))
    (sRet (eC (.bl false)))
    sNil)) (fun i : Nat => D.int i) (fun e => ∃ g, e = [.sh (.tup xs), .sh (.tup xs), g, .un] ∧ isIo g = false) (List.range xs.length) [.sh (.tup xs), .sh (.tup xs), .un, .un] ⟨.un, rfl, rfl⟩ (by
    rintro i _ hi ⟨g, rfl, hg⟩
    rw [List.mem_range] at hi
    have e : atI xs (i : Int) = some xs[i] := by rw [atIN, List.getElem?_eq_getElem hi]
    have hx := h xs[i] (List.getElem_mem hi)
    refine ⟨[.sh (.tup xs), .sh (.tup xs), .sh (.int i), .un], [.sh (.tup xs), .sh (.tup xs), .sh (.int i), .un], by simp [hg], by simp [e, hx], ⟨_, rfl, rfl⟩⟩)
  have hir := fun e => irg1_ok (j := (xs.length : Int)) (by omega) (by omega) e
  simp [n__law_same, r__law_same, D.ty, tyIn, gNe_bb, hir, he]
def eTd (r : Lat) : D := .tup [.str "told", eLat r]
theorem same_told (r : Lat) : n__law_same 5 [eTd r, eTd r] = ok (0, .bl true) := by
  refine same_tup 4 (by simp) fun x hx => ?_
  simp at hx
  rcases hx with rfl | rfl
  · exact same_str 3 (by decide +kernel)
  · cases r with
    | lost => exact same_tup 3 (by simp) fun x hx => by simp at hx; subst hx; exact same_str 2 (by decide +kernel)
    | always => exact same_tup 3 (by simp) fun x hx => by simp at hx; subst hx; exact same_str 2 (by decide +kernel)
    | until_ t =>
      refine same_tup 3 (by simp) fun x hx => ?_
      simp at hx
      rcases hx with rfl | rfl
      · exact same_str 2 (by decide +kernel)
      · exact same_int 2 t
end K
namespace K
open PySem PySem.Spec PyProof.Rows L2 VL G
/-! ### the law runs -/
/-- an arena that is good with any bad nodes -/
structure GoodAll (a : Ar) : Prop where
  g : Good a
  tw : ∀ bad : List Int, bad.Pairwise (· < ·) → (∀ x ∈ bad, 0 ≤ x ∧ x < a.mv.length) → Good ⟨a.off, a.mv, bad⟩
theorem goodAll_drawn {off n m : Nat} {mv : List Entry} {bad : List Int} (h : Drawn off n m mv) (hn : mv.length = n) (n1 : 1 ≤ n) (n2 : n ≤ 9) (o1 : 1 ≤ off) (o2 : off ≤ 3) (m1 : 1 ≤ m) (m2 : m ≤ 4) (ha : bad.Pairwise (· < ·)) (hb : ∀ x ∈ bad, 0 ≤ x ∧ x < n) : GoodAll ⟨off, mv, bad⟩ := by
  have few : ∀ b, Few ⟨off, mv, b⟩ := fun b e he l hl => (h.few e he l hl).2
  exact ⟨good_small (drawn_ok h hn n1 (by omega) o1 o2 m1 m2 ha hb) (by dsimp only; omega) (few bad), fun bad' h1 h2 => good_small (drawn_ok h hn n1 (by omega) o1 o2 m1 m2 h1 (by dsimp only at h2; rw [hn] at h2; exact h2)) (by dsimp only; omega) (few bad')⟩
theorem goodAll_chain {n : Nat} {marks : List Nat} {a : Ar} (c : Chain n marks a) (hn : n ≤ 109) : GoodAll a := by
  have hm : ∀ b, ChainM n marks ⟨a.off, a.mv, b⟩ := fun b => ⟨c.off, c.len, c.at_, c.e1, c.e2, c.pos, hn⟩
  have hp := c.pos
  refine ⟨?_, fun bad h1 h2 => ch_good (hm bad) h1 h2⟩
  have e : a = ⟨a.off, a.mv, a.bad⟩ := rfl
  rw [e]
  refine ch_good (hm a.bad) ?_ fun x hx => ?_
  · dsimp only; rw [c.bad]; simp
  · dsimp only at hx ⊢; rw [c.bad] at hx; simp at hx; subst hx; rw [c.len]; omega
theorem due_ok {a : Ar} (g : Good a) : ∃ r, LatSpec (LA a) [0] r ∧ n__law_due [eA a] = ok (0, eLat r) := by
  obtain ⟨K, hK, c⟩ := g.ex
  exact n_law_due_ev g.v c hK g.bok
theorem latest_ok {a : Ar} (g : Good a) {r : Lat} (h : LatSpec (LA a) [0] r) : n_latest [eAr a] = ok (0, eLat r) := by
  obtain ⟨K, hK, c⟩ := g.ex
  obtain ⟨r', h', e⟩ := n_latest_ev g.v c (by omega) g.bok
  rw [latSpec_uniq _ _ h h']
  exact e
theorem told_step (P : Addr) (q : PySem.Str) {a1 : Ar} (g1 : Good a1) {r1 : Lat} (h1 : LatSpec (LA a1) [0] r1) : n__law_same 5 [D.tup [.str "told", eLat r1], D.tup [.str "told", eLat r1]] = ok (0, .bl true) := same_told r1
/-- the tail -/
theorem law_tail (P : Addr) (q : PySem.Str) (s0 s1 s2 s3 s9 s10 : SV) (tw : D) {a1 a2 : Ar} (g1 : Good a1) (g2 : Good a2) {r1 r2 : Lat} (h1 : LatSpec (LA a1) [0] r1) (h2 : LatSpec (LA a2) [0] r2) (i0 : isIo s0 = false) (i1 : isIo s1 = false) (i2 : isIo s2 = false) (i3 : isIo s3 = false) (i9 : isIo s9 = false) (i10 : isIo s10 = false) :
    ∃ e, sSeq (sIf (tNotF (tTru (rdR (eCall 2 (n__law_same 5) (aCons (eTold P q 12 "told" r_law_l2) (aCons (eTup (aCons (eC (.str "told")) (aCons (eVs 4) aNil))) aNil))))))
    (sRet (eC (.bl false)))
    sNil)
    (sSeq (sIf (tNotF (tTru (rdR (eCall 2 (n__law_same 5) (aCons (eTold P q 12 "told" r_law_l3) (aCons (eTup (aCons (eC (.str "told")) (aCons (eVs 6) aNil))) aNil))))))
    (sRet (eC (.bl false)))
    sNil)
    (sRet (eCall 2 (n__law_same 5) (aCons (eTold P q 12 "told" r_law_l4) (aCons (eTup (aCons (eC (.str "told")) (aCons (eV 4) aNil))) aNil))))) [s0, s1, s2, s3, .sh (eLat r1), .sh tw, .sh (eLat r2), .ow 0 (eAr a1), .ow 0 (eAr a2), s9, s10, .un, .tb P q] = ok (.rt 0 (.bl true), e) := by
  have k1 := latest_ok g1 h1
  have k2 := latest_ok g2 h2
  have t1 := same_told r1
  have t2 := same_told r2
  unfold eTd at t1 t2
  have tb : ∀ (z : PySem.Str) (f : VL.Env → ER) (env : VL.Env), slot env 12 = .tb P q → eTold P q 12 z f env = bd (okO' (f env)) fun r => ok (0, .tup [.str z, r.2.1], r.2.2) := fun z f env h => by
    unfold eTold
    rw [h]
    exact if_pos ⟨rfl, rfl⟩
  refine ⟨[s0, s1, s2, s3, .sh (eLat r1), .sh tw, .sh (eLat r2), .sh (eAr a1), .sh (eAr a2), s9, s10, .un, .tb P q], ?_⟩
  have f1 : eTold P q 12 "told" r_law_l2 [s0, s1, s2, s3, .sh (eLat r1), .sh tw, .sh (eLat r2), .ow 0 (eAr a1), .ow 0 (eAr a2), s9, s10, .un, .tb P q] = ok (0, .tup [.str "told", eLat r1], [s0, s1, s2, s3, .sh (eLat r1), .sh tw, .sh (eLat r2), .sh (eAr a1), .ow 0 (eAr a2), s9, s10, .un, .tb P q]) := by
    rw [tb _ _ _ rfl]; simp [r_law_l2, k1]
  have f2 : eTold P q 12 "told" r_law_l3 [s0, s1, s2, s3, .sh (eLat r1), .sh tw, .sh (eLat r2), .sh (eAr a1), .ow 0 (eAr a2), s9, s10, .un, .tb P q] = ok (0, .tup [.str "told", eLat r2], [s0, s1, s2, s3, .sh (eLat r1), .sh tw, .sh (eLat r2), .sh (eAr a1), .sh (eAr a2), s9, s10, .un, .tb P q]) := by
    rw [tb _ _ _ rfl]; simp [r_law_l3, k2]
  have f3 : eTold P q 12 "told" r_law_l4 [s0, s1, s2, s3, .sh (eLat r1), .sh tw, .sh (eLat r2), .sh (eAr a1), .sh (eAr a2), s9, s10, .un, .tb P q] = ok (0, .tup [.str "told", eLat r1], [s0, s1, s2, s3, .sh (eLat r1), .sh tw, .sh (eLat r2), .sh (eAr a1), .sh (eAr a2), s9, s10, .un, .tb P q]) := by
    rw [tb _ _ _ rfl]; simp [r_law_l4, k1]
  have iob : ∀ (u v x y : SV), isIo u = false → isIo v = false → ioB [s0, s1, s2, s3, .sh (eLat r1), .sh tw, .sh (eLat r2), u, v, s9, s10, .un, .tb P q] [s0, s1, s2, s3, .sh (eLat r1), .sh tw, .sh (eLat r2), x, y, s9, s10, .un, .tb P q] = true := fun u v x y hu hv => by
    rw [ioB_skip i0, ioB_skip i1, ioB_skip i2, ioB_skip i3, ioB_sh, ioB_sh, ioB_sh, ioB_skip hu, ioB_skip hv, ioB_skip i9, ioB_skip i10, ioB_un]
    rfl
  simp [f1, f2, f3, t1, t2, iob]
theorem law_raw (P : Addr) (q : PySem.Str) (ns : List Int) : ∃ e, r_law P q (.sh (.lsx (ns.map .int)) :: (List.replicate 11 .un ++ [.tb P q])) = ok (.rt 0 (.bl true), e) := by
  obtain ⟨P1, hp1⟩ := n_law_pool_ev ns 0
  obtain ⟨P2, hp2⟩ := n_law_pool_ev ns 1
  obtain ⟨way, P3, hway, w0, w1⟩ := n_law_draw_ev P1 16 (by decide) (by decide)
  obtain ⟨n, marks, ac, P4, n1, n2, hch, hchain⟩ := n_law_chain_ev P2
  have hlat := ch_lat (a := ac) ⟨hch.off, hch.len, hch.at_, hch.e1, hch.e2, hch.pos, n2⟩ hch.bad hch.sub
  have elat : (if marks = [] then D.tup [.str "lost"] else .tup [.str "until", .int ((marks.getLast?.getD 0 : Nat) : Int)]) = eLat (if marks = [] then .lost else .until_ ((marks.getLast?.getD 0 : Nat) : Int)) := by
    split <;> rfl
  rw [elat] at hchain
  generalize hrc : (if marks = [] then Lat.lost else .until_ ((marks.getLast?.getD 0 : Nat) : Int)) = rc at hchain hlat
  rw [show ((0 : Nat) : Int) = 0 from rfl] at hp1
  rw [show ((1 : Nat) : Int) = 1 from rfl] at hp2
  have start : (.sh (.lsx (ns.map .int)) :: (List.replicate 11 .un ++ [.tb P q]) : VL.Env) = [.sh (.lsx (ns.map .int)), .un, .un, .un, .un, .un, .un, .un, .un, .un, .un, .un, .tb P q] := rfl
  rw [start]
  unfold r_law
  have e1 : ∀ X : VL.Env → SR, sSeq (sAsg 1 (eCall 2 n__law_pool (aCons (eV 0) (aCons (eC (.int 0)) aNil)))) X [.sh (.lsx (ns.map .int)), .un, .un, .un, .un, .un, .un, .un, .un, .un, .un, .un, .tb P q] = X [.sh (.lsx (ns.map .int)), .ow 0 (eP P1), .un, .un, .un, .un, .un, .un, .un, .un, .un, .un, .tb P q] := fun X => by simp [hp1]
  have e2 : ∀ X : VL.Env → SR, sSeq (sAsg 2 (eCallI 1 1 1 n__law_draw (aCons (eC (.int 16)) aNil))) X [.sh (.lsx (ns.map .int)), .ow 0 (eP P1), .un, .un, .un, .un, .un, .un, .un, .un, .un, .un, .tb P q] = X [.sh (.lsx (ns.map .int)), .ow 0 (eP P3), .sh (.int way), .un, .un, .un, .un, .un, .un, .un, .un, .un, .tb P q] := fun X => by simp [hway]
  have e3 : ∀ X : VL.Env → SR, sSeq (sAsg 3 (eCallT 1 n__law_chain (eCall 2 n__law_pool (aCons (eV 0) (aCons (eC (.int 1)) aNil))))) X [.sh (.lsx (ns.map .int)), .ow 0 (eP P3), .sh (.int way), .un, .un, .un, .un, .un, .un, .un, .un, .un, .tb P q] = X [.sh (.lsx (ns.map .int)), .ow 0 (eP P3), .sh (.int way), .sh (.tup [eA ac, eLat rc]), .un, .un, .un, .un, .un, .un, .un, .un, .tb P q] := fun X => by simp [eCallT, hp2, hchain]
  rw [e1, e2, e3]
  -- the arena
  have arena : ∃ (a : Ar) (P5 : Pool) (s10 : SV), GoodAll a ∧ isIo s10 = false ∧ (way = 0 → a = ac) ∧ ∀ X : VL.Env → SR, sSeq (sIf (tOpT gEq (rV 2) (rdR (eC (.int 0))))
    (sAsg 9 (eIxN 3 (rdR (eC (.int 0)))))
    (sIf (tOpT gLt (rV 2) (rdR (eC (.int 5))))
    (sSeq (sAsg 10 (eCallI 2 1 1 n__law_chance (aCons (eC (.int 2)) (aCons (eC (.int 3)) aNil))))
    (sAsg 9 (eCallI 4 1 1 n__law_draw_arena (aCons (eOp gAdd (rdR (eC (.int 1))) (rdR (eCallI 1 1 1 n__law_draw (aCons (eC (.int 6)) aNil)))) (aCons (eOp gAdd (rdR (eC (.int 1))) (rdR (eCallI 1 1 1 n__law_draw (aCons (eC (.int 4)) aNil)))) (aCons (eOp gAdd (rdR (eC (.int 1))) (rdR (eCallI 1 1 1 n__law_draw (aCons (eC (.int 3)) aNil)))) (aCons (eV 10) aNil)))))))
    (sAsg 9 (eCallI 0 1 1 n__law_draw_traps aNil)))) X [.sh (.lsx (ns.map .int)), .ow 0 (eP P3), .sh (.int way), .sh (.tup [eA ac, eLat rc]), .un, .un, .un, .un, .un, .un, .un, .un, .tb P q] = X [.sh (.lsx (ns.map .int)), .ow 0 (eP P5), .sh (.int way), .sh (.tup [eA ac, eLat rc]), .un, .un, .un, .un, .un, .sh (eA a), s10, .un, .tb P q] := by
    by_cases hw : way = 0
    · exact ⟨ac, P3, .un, goodAll_chain hch n2, rfl, fun _ => rfl, fun X => by simp [hw]⟩
    · by_cases hw5 : way < 5
      · obtain ⟨b, P6, hb⟩ := n_law_chance_ev P3 2 3 (by decide) (by decide)
        obtain ⟨d1, P7, hd1, a0, a1⟩ := n_law_draw_ev P6 6 (by decide) (by decide)
        obtain ⟨d2, P8, hd2, b0, b1⟩ := n_law_draw_ev P7 4 (by decide) (by decide)
        obtain ⟨d3, P9, hd3, c0, c1⟩ := n_law_draw_ev P8 3 (by decide) (by decide)
        obtain ⟨m1, hm1⟩ : ∃ m : Nat, 1 + d1 = (m : Int) := ⟨(1 + d1).toNat, by omega⟩
        obtain ⟨m2, hm2⟩ : ∃ m : Nat, 1 + d2 = (m : Int) := ⟨(1 + d2).toNat, by omega⟩
        obtain ⟨m3, hm3⟩ : ∃ m : Nat, 1 + d3 = (m : Int) := ⟨(1 + d3).toNat, by omega⟩
        obtain ⟨mv, bad, P10, hda, dr, hlen, asc, inr⟩ := n_draw_arena_ev (n := m1) (off := m3) (m := m2) (by omega) (by omega) (by omega) (by omega) P9 b
        exact ⟨⟨m3, mv, bad⟩, P10, .sh (.bl b), goodAll_drawn dr hlen (by omega) (by omega) (by omega) (by omega) (by omega) (by omega) asc inr, rfl, fun h => absurd h hw, fun X => by simp [hw, hw5, hb, hd1, hd2, hd3, hm1, hm2, hm3, hda]⟩
      · obtain ⟨n', m', mv, P10, a0, a1, b0, b1, hdt, dr, hlen⟩ := n_draw_traps_ev P3
        exact ⟨⟨1, mv, [(n' : Int)]⟩, P10, .un, goodAll_drawn (off := 1) dr hlen (by omega) (by omega) (by omega) (by omega) b0 (by omega) (by simp) (fun x hx => by simp at hx; subst hx; omega), rfl, fun h => absurd h hw, fun X => by simp [hw, hw5, hdt]⟩
  obtain ⟨a, P5, s10, ga, i10, hac, hX⟩ := arena
  rw [hX]
  -- what is due
  obtain ⟨rd, hrd, hdue⟩ := due_ok ga.g
  have due : ∃ r, LatSpec (LA a) [0] r ∧ ∀ X : VL.Env → SR, sSeq (sAsg 4 (eIxN 3 (rdR (eC (.int 1))))) (sSeq (sIf (tOpT gGt (rV 2) (rdR (eC (.int 0))))
    (sAsg 4 (eCall 1 n__law_due (aCons (eV 9) aNil)))
    sNil) X) [.sh (.lsx (ns.map .int)), .ow 0 (eP P5), .sh (.int way), .sh (.tup [eA ac, eLat rc]), .un, .un, .un, .un, .un, .sh (eA a), s10, .un, .tb P q] = X [.sh (.lsx (ns.map .int)), .ow 0 (eP P5), .sh (.int way), .sh (.tup [eA ac, eLat rc]), .sh (eLat r), .un, .un, .un, .un, .sh (eA a), s10, .un, .tb P q] := by
    by_cases hw : 0 < way
    · exact ⟨rd, hrd, fun X => by simp [hw, hdue, ioB_skip i10]⟩
    · have hw0 : way = 0 := by omega
      rw [hac hw0]
      exact ⟨rc, hlat, fun X => by simp [hw, ioB_skip i10]⟩
  obtain ⟨r, hr, hX2⟩ := due
  rw [hX2]
  -- the twin
  have hsz := ga.g.v.sz
  obtain ⟨k, P6, hk, k0, k1⟩ := n_law_draw_ev P5 3 (by decide) (by decide)
  have hirk := fun e => irg1_ok (j := k) (by omega) (by omega) e
  obtain ⟨is, e', hc, ⟨P7, rfl⟩, hlen, hin⟩ := lcL_ex (kk := 0) (vs := [11]) (tg := gNm 11) (tt := tYesF) (el := r_law_e1) (fun i : Nat => D.int i) (fun e => ∃ P', e = [.sh (.lsx (ns.map .int)), .ow 0 (eP P'), .sh (.int way), .sh (.tup [eA ac, eLat rc]), .sh (eLat r), .un, .un, .un, .un, .sh (eA a), s10, .un, .tb P q]) (fun _ i => 0 ≤ i ∧ i < a.mv.length) (List.range k.toNat) [.sh (.lsx (ns.map .int)), .ow 0 (eP P6), .sh (.int way), .sh (.tup [eA ac, eLat rc]), .sh (eLat r), .un, .un, .un, .un, .sh (eA a), s10, .un, .tb P q] ⟨P6, rfl⟩ (by
    rintro x _ _ ⟨P', rfl⟩
    obtain ⟨z, P'', hz, z0, z1⟩ := n_law_draw_ev P' a.mv.length (by omega) (by omega)
    exact ⟨z, [.sh (.lsx (ns.map .int)), .ow 0 (eP P''), .sh (.int way), .sh (.tup [eA ac, eLat rc]), .sh (eLat r), .un, .un, .un, .un, .sh (eA a), s10, .un, .tb P q], by simp [r_law_e1, hz], ⟨P'', rfl⟩, z0, z1⟩)
  have hu := uniq_facts is
  have gt := ga.tw (uniq is) hu.2.2 fun x hx => by
    obtain ⟨_, _, h⟩ := hin x ((hu.2.1 x).mp hx)
    exact h
  obtain ⟨r2, hr2, hdue2⟩ := due_ok gt
  have etw : D.tup [.int a.off, eMv a.mv, .lst ((uniq is).map .int)] = eA ⟨a.off, a.mv, uniq is⟩ := rfl
  have hisl : is.length < 4000 := by rw [hlen, List.length_range]; omega
  have hkl : k.toNat ≤ 1000000 := by omega
  have e5 : ∀ X : VL.Env → SR, sSeq (sAsg 5 (eTup (aCons (eIxN 9 (rdR (eC (.int 0)))) (aCons (eIxN 9 (rdR (eC (.int 1)))) (aCons (eSortSet (rdR (eLc 0 [11] (iRng1F (raCons (rdR (eCallI 1 1 1 n__law_draw (aCons (eC (.int 3)) aNil))) aNil)) (gNm 11) tYesF r_law_e1))) aNil))))) X [.sh (.lsx (ns.map .int)), .ow 0 (eP P5), .sh (.int way), .sh (.tup [eA ac, eLat rc]), .sh (eLat r), .un, .un, .un, .un, .sh (eA a), s10, .un, .tb P q] = X [.sh (.lsx (ns.map .int)), .ow 0 (eP P7), .sh (.int way), .sh (.tup [eA ac, eLat rc]), .sh (eLat r), .sh (eA ⟨a.off, a.mv, uniq is⟩), .un, .un, .un, .sh (eA a), s10, .un, .tb P q] := fun X => by
    rw [← etw]
    simp [hk, hirk, hkl, hc, intsOf_map, hisl, ioB_skip i10]
  have ha1 := n_law_arena_ev ga.g.v
  have ha2 := n_law_arena_ev gt.v
  have e6 : ∀ X : VL.Env → SR, sSeq (sAsg 6 (eCall 1 n__law_due (aCons (eV 5) aNil))) (sSeq (sAsg 7 (eCall 1 n__law_arena (aCons (eV 9) aNil))) (sSeq (sAsg 8 (eCall 1 n__law_arena (aCons (eV 5) aNil))) X)) [.sh (.lsx (ns.map .int)), .ow 0 (eP P7), .sh (.int way), .sh (.tup [eA ac, eLat rc]), .sh (eLat r), .sh (eA ⟨a.off, a.mv, uniq is⟩), .un, .un, .un, .sh (eA a), s10, .un, .tb P q] = X [.sh (.lsx (ns.map .int)), .ow 0 (eP P7), .sh (.int way), .sh (.tup [eA ac, eLat rc]), .sh (eLat r), .sh (eA ⟨a.off, a.mv, uniq is⟩), .sh (eLat r2), .ow 0 (eAr a), .ow 0 (eAr ⟨a.off, a.mv, uniq is⟩), .sh (eA a), s10, .un, .tb P q] := fun X => by
    simp [hdue2, ha1, ha2]
  rw [e5, e6]
  exact law_tail P q _ _ _ _ _ _ _ ga.g gt hr hr2 rfl rfl rfl rfl rfl i10
end K
namespace K
open PySem PySem.Spec PyProof.Rows L2 VL
def topS (i : Nat) : Stmt := PySem.Challenge.pw_boxharbour_k87_whole_latest.main.body.getD i (.Pass ⟨0, 0, 0, 0⟩)
abbrev s_check : Stmt := topS 8
abbrev s_in_range : Stmt := topS 9
abbrev s_is_ascending : Stmt := topS 10
abbrev s_commands_of : Stmt := topS 17
abbrev s_is_outcome : Stmt := topS 18
abbrev s_is_entry : Stmt := topS 19
abbrev s_are_moves : Stmt := topS 20
abbrev s_Arena___init__ : Stmt := inClass (topS 21) 0
abbrev s_Arena_is_bad : Stmt := inClass (topS 21) 1
abbrev s_Arena_is_live : Stmt := inClass (topS 21) 2
abbrev s_Arena_outcomes : Stmt := inClass (topS 21) 3
abbrev s_has_bad : Stmt := topS 24
abbrev s_next_beliefs : Stmt := topS 25
abbrev s_belief_graph : Stmt := topS 26
abbrev s_incoming : Stmt := topS 27
abbrev s_next_layer : Stmt := topS 28
abbrev s_strike : Stmt := topS 29
abbrev s_latest : Stmt := topS 31
abbrev s__law_cell : Stmt := topS 33
abbrev s__law_mixed : Stmt := topS 34
abbrev s__law_pool : Stmt := topS 35
abbrev s__law_draw : Stmt := topS 36
abbrev s__law_chance : Stmt := topS 37
abbrev s__law_same : Stmt := topS 38
abbrev s__law_live : Stmt := topS 40
abbrev s__law_commands : Stmt := topS 41
abbrev s__law_after : Stmt := topS 42
abbrev s__law_answers : Stmt := topS 43
abbrev s__law_follows : Stmt := topS 44
abbrev s__law_has_bad : Stmt := topS 45
abbrev s__law_beliefs : Stmt := topS 46
abbrev s__law_arena : Stmt := topS 47
abbrev s__law_draw_arena : Stmt := topS 48
abbrev s__law_draw_traps : Stmt := topS 49
abbrev s__law_chain : Stmt := topS 50
abbrev s__law_won : Stmt := topS 51
abbrev s__law_due : Stmt := topS 52
abbrev s_law : Stmt := topS 53
abbrev s__law_told : Stmt := topS 39
def fa : List He.Fa := [.free "len", .free "range", .glo "in_range", .int "MOST_HEARD" 3999, .free "all", .int "MOST_OUTCOMES" 8, .glo "is_outcome", .glo "commands_of", .int "MOST_NODES" 4000, .int "MOST_COMMANDS" 4, .glo "is_entry", .glo "check", .int "MOST_OFFICES" 3, .glo "are_moves", .glo "is_ascending", .cls "Arena", .noat "Arena" "offices", .noat "Arena" "size", .noat "Arena" "commands", .free "tuple", .noat "Arena" "bad", .free "list", .noat "Arena" "_entries", .noat "Arena" "_bad_nodes", .meth "Arena" "is_live", .meth "Arena" "is_bad", .free "any", .meth "Arena" "outcomes", .free "sorted", .glo "has_bad", .glo "next_beliefs", .int "MOST_BELIEFS" 3000, .free "enumerate", .glo "incoming", .glo "next_layer", .glo "belief_graph", .glo "strike", .free "int", .free "abs", .glo "_law_cell", .glo "_law_mixed", .glo "_law_draw", .free "isinstance", .free "bool", .free "str", .free "dict", .glo "_law_same", .glo "_law_live", .free "set", .glo "_law_answers", .glo "_law_after", .glo "_law_has_bad", .glo "_law_commands", .glo "_law_follows", .mkr "Arena", .glo "Arena", .glo "_law_chance", .free "min", .glo "_law_beliefs", .glo "_law_won", .glo "_law_pool", .glo "_law_chain", .glo "_law_draw_arena", .glo "_law_draw_traps", .glo "_law_due", .glo "_law_arena", .glo "_law_told", .glo "latest"]
def N_check : List PySem.Str := ["ok", "where"]
theorem b_check {X : Cx} {W : WX} (BB : Bd X W 0 N_check (defScope s_check)) (Z : Fx fa X.K X.mg) : VSs X W (defBody s_check) r_check := by
  have B := BB.bx
  exact (vss_one (vs_if (vt_not (vt_tru (vr_v (B.var 0 rfl (by kernel_rfl))) (by intro _; rfl)))
    vss_no
    vss_nil))
theorem k_check {P : Program} {w : World} {K : PySem.W.Frag} {mg : PySem.Str → Option Value} {base : Heap} (Z : Fx fa K mg) {fd : FuncData} (F : FunD K "check" "check" (defArgs s_check) (defBody s_check) (defScope s_check) [] [] (He.ga K "check") fd) (kp : PySem.W.keepIn K (.ref (He.ga K "check")) = true) : Dn P w K mg base 1 ("check", none) ["ok", "where"] (spP K 2 n_check) := by
  refine ⟨⟨fd, fn_P (P := P) (w := w) (mg := mg) (base := base) (N := N_check) (ps := ["ok", "where"]) (lv := 0) (raw := r_check) F (scB_ok (by kernel_rfl)) (fun X W e1 e2 e3 e4 e5 B => by subst e1 e2 e3 e4 e5; exact b_check B Z), F.bindsN fun _ _ _ _ _ _ us hl => ?_⟩, kp⟩
  exact match us, hl with | [u0, u1], _ => rfl
def N_in_range : List PySem.Str := ["n", "low", "high"]
theorem b_in_range {X : Cx} {W : WX} (BB : Bd X W 0 N_in_range (defScope s_in_range)) (Z : Fx fa X.K X.mg) : VSs X W (defBody s_in_range) r_in_range := by
  have B := BB.bx
  exact (vss_one (vs_ret (ve_b (w_chain cw_le cw_le (vr_v (B.var 1 rfl (by kernel_rfl))) (vr_v (B.var 0 rfl (by kernel_rfl))) (vr_v (B.var 2 rfl (by kernel_rfl)))))))
theorem k_in_range {P : Program} {w : World} {K : PySem.W.Frag} {mg : PySem.Str → Option Value} {base : Heap} (Z : Fx fa K mg) {fd : FuncData} (F : FunD K "in_range" "in_range" (defArgs s_in_range) (defBody s_in_range) (defScope s_in_range) [] [] (He.ga K "in_range") fd) (kp : PySem.W.keepIn K (.ref (He.ga K "in_range")) = true) : Dn P w K mg base 1 ("in_range", none) ["n", "low", "high"] (spP K 3 n_in_range) := by
  refine ⟨⟨fd, fn_P (P := P) (w := w) (mg := mg) (base := base) (N := N_in_range) (ps := ["n", "low", "high"]) (lv := 0) (raw := r_in_range) F (scB_ok (by kernel_rfl)) (fun X W e1 e2 e3 e4 e5 B => by subst e1 e2 e3 e4 e5; exact b_in_range B Z), F.bindsN fun _ _ _ _ _ _ us hl => ?_⟩, kp⟩
  exact match us, hl with | [u0, u1, u2], _ => rfl
def N_is_ascending : List PySem.Str := ["rows", "at"]
theorem b_is_ascending {X : Cx} {W : WX} (BB : Bd X W 0 N_is_ascending (defScope s_is_ascending)) (Z : Fx fa X.K X.mg) : VSs X W (defBody s_is_ascending) r_is_ascending := by
  have B := BB.bx
  exact (vss_cons (vs_for BB.own B.cf.calm (vi_range2 (B.gl (by kernel_rfl)) (Z.free 1) (vra_cons (vr_of w_int) (vra_cons (vr_of (w_lenA B (Z.free 0) (by kernel_rfl) (vra_cons (vr_v (B.var 0 rfl (by kernel_rfl))) vra_nil))) vra_nil))) (B.tgt (by decide +kernel) 1 rfl (by kernel_rfl))
    (vss_one (vs_if (vt_not (w_cmpT cw_lt (vr_ix B.cf.hu1 (vr_v (B.var 0 rfl (by kernel_rfl))) (vr_of (w_sub (vr_v (B.var 1 rfl (by kernel_rfl))) (vr_of w_int)))) (vr_ix B.cf.hu1 (vr_v (B.var 0 rfl (by kernel_rfl))) (vr_v (B.var 1 rfl (by kernel_rfl))))))
    (vss_one (vs_ret w_bool))
    vss_nil)))
    (vss_one (vs_ret w_bool)))
theorem k_is_ascending {P : Program} {w : World} {K : PySem.W.Frag} {mg : PySem.Str → Option Value} {base : Heap} (Z : Fx fa K mg) {fd : FuncData} (F : FunD K "is_ascending" "is_ascending" (defArgs s_is_ascending) (defBody s_is_ascending) (defScope s_is_ascending) [] [] (He.ga K "is_ascending") fd) (kp : PySem.W.keepIn K (.ref (He.ga K "is_ascending")) = true) : Dn P w K mg base 1 ("is_ascending", none) ["rows"] (spP K 1 n_is_ascending) := by
  refine ⟨⟨fd, fn_P (P := P) (w := w) (mg := mg) (base := base) (N := N_is_ascending) (ps := ["rows"]) (lv := 0) (raw := r_is_ascending) F (scB_ok (by kernel_rfl)) (fun X W e1 e2 e3 e4 e5 B => by subst e1 e2 e3 e4 e5; exact b_is_ascending B Z), F.bindsN fun _ _ _ _ _ _ us hl => ?_⟩, kp⟩
  exact match us, hl with | [u0], _ => rfl
def N_commands_of : List PySem.Str := ["moves", "entry"]
theorem b_commands_of {X : Cx} {W : WX} (BB : Bd X W 0 N_commands_of (defScope s_commands_of)) (Z : Fx fa X.K X.mg) : VSs X W (defBody s_commands_of) r_commands_of := by
  have B := BB.bx
  exact (vss_cons (vs_for BB.own B.cf.calm (vi_seq (ve_v (B.var 0 rfl (by kernel_rfl)))) (B.tgt (by decide +kernel) 1 rfl (by kernel_rfl))
    (vss_one (vs_if (w_cmpT (cw_ne B.cf) (vr_v (B.var 1 rfl (by kernel_rfl))) (vr_of (ve_lst0 0)))
    (vss_one (vs_ret (w_lenA B (Z.free 0) (by kernel_rfl) (vra_cons (vr_v (B.var 1 rfl (by kernel_rfl))) vra_nil))))
    vss_nil)))
    (vss_one (vs_ret w_int)))
theorem k_commands_of {P : Program} {w : World} {K : PySem.W.Frag} {mg : PySem.Str → Option Value} {base : Heap} (Z : Fx fa K mg) {fd : FuncData} (F : FunD K "commands_of" "commands_of" (defArgs s_commands_of) (defBody s_commands_of) (defScope s_commands_of) [] [] (He.ga K "commands_of") fd) (kp : PySem.W.keepIn K (.ref (He.ga K "commands_of")) = true) : Dn P w K mg base 1 ("commands_of", none) ["moves"] (spP K 1 n_commands_of) := by
  refine ⟨⟨fd, fn_P (P := P) (w := w) (mg := mg) (base := base) (N := N_commands_of) (ps := ["moves"]) (lv := 0) (raw := r_commands_of) F (scB_ok (by kernel_rfl)) (fun X W e1 e2 e3 e4 e5 B => by subst e1 e2 e3 e4 e5; exact b_commands_of B Z), F.bindsN fun _ _ _ _ _ _ us hl => ?_⟩, kp⟩
  exact match us, hl with | [u0], _ => rfl
def N_is_outcome : List PySem.Str := ["offices", "size", "outcome", "heards", "end", "heard"]
theorem b_is_outcome {X : Cx} {W : WX} (BB : Bd X W 1 N_is_outcome (defScope s_is_outcome)) (Z : Fx fa X.K X.mg) (h_in_range : Dn X.prog X.w X.K X.mg X.base 1 ("in_range", none) ["n", "low", "high"] (spP X.K 3 n_in_range)) : VSs X W (defBody s_is_outcome) r_is_outcome := by
  have B := BB.bx
  exact (vss_cons (vs_unp (ve_v (B.var 2 rfl (by kernel_rfl))) (vg_tup 2 B.cf.calm (vgs_cons (B.tgt (by decide +kernel) 3 rfl (by kernel_rfl)) (vgs_cons (B.tgt (by decide +kernel) 4 rfl (by kernel_rfl)) vgs_nil))))
    (vss_cons (vs_if (vt_w (vw_or (w_cmpT (cw_ne B.cf) (vr_of (w_lenA B (Z.free 0) (by kernel_rfl) (vra_cons (vr_v (B.var 3 rfl (by kernel_rfl))) vra_nil))) (vr_v (B.var 0 rfl (by kernel_rfl)))) (vw_or1 (vt_not (vt_tru (vr_of (ve_callN 3 B.cf h_in_range (by omega) (B.gl (by kernel_rfl)) (Z.glo 2) (va_cons (ve_vs (B.var 4 rfl (by kernel_rfl))) (va_cons w_int (va_cons (w_sub (vr_v (B.var 1 rfl (by kernel_rfl))) (vr_of w_int)) va_nil))))) (by intro _; rfl))))))
    (vss_one (vs_ret w_bool))
    vss_nil)
    (vss_one (vs_ret (w_all B (Z.free 4) (by kernel_rfl) (vra_cons (vr_of (w_lc [("heard", 5)] 0 B (by decide +kernel) (vi_seq (ve_v (B.var 3 rfl (by kernel_rfl)))) (by kernel_rfl) (by decide) (fun s H C cl fp B => (B.tgt (by decide +kernel) 5 rfl (by kernel_rfl))) (by decide) (fun s H C cl fp B => vts_nil) (fun s H C cl fp B => (ve_callN 3 B.cf h_in_range (by omega) (B.gl (by kernel_rfl)) (Z.glo 2) (va_cons (ve_v (B.var 5 rfl (by kernel_rfl))) (va_cons w_int (va_cons (B.gint Z 3 rfl (by kernel_rfl)) va_nil))))))) vra_nil))))))
theorem k_is_outcome {P : Program} {w : World} {K : PySem.W.Frag} {mg : PySem.Str → Option Value} {base : Heap} (Z : Fx fa K mg) {fd : FuncData} (F : FunD K "is_outcome" "is_outcome" (defArgs s_is_outcome) (defBody s_is_outcome) (defScope s_is_outcome) [] [] (He.ga K "is_outcome") fd) (kp : PySem.W.keepIn K (.ref (He.ga K "is_outcome")) = true) (h_in_range : Dn P w K mg base 1 ("in_range", none) ["n", "low", "high"] (spP K 3 n_in_range)) : Dn P w K mg base 2 ("is_outcome", none) ["offices", "size", "outcome"] (spP K 3 n_is_outcome) := by
  refine ⟨⟨fd, fn_P (P := P) (w := w) (mg := mg) (base := base) (N := N_is_outcome) (ps := ["offices", "size", "outcome"]) (lv := 1) (raw := r_is_outcome) F (scB_ok (by kernel_rfl)) (fun X W e1 e2 e3 e4 e5 B => by subst e1 e2 e3 e4 e5; exact b_is_outcome B Z h_in_range), F.bindsN fun _ _ _ _ _ _ us hl => ?_⟩, kp⟩
  exact match us, hl with | [u0, u1, u2], _ => rfl
def N_is_entry : List PySem.Str := ["offices", "size", "entry", "outcomes", "outcome"]
theorem b_is_entry {X : Cx} {W : WX} (BB : Bd X W 2 N_is_entry (defScope s_is_entry)) (Z : Fx fa X.K X.mg) (h_in_range : Dn X.prog X.w X.K X.mg X.base 1 ("in_range", none) ["n", "low", "high"] (spP X.K 3 n_in_range)) (h_is_outcome : Dn X.prog X.w X.K X.mg X.base 2 ("is_outcome", none) ["offices", "size", "outcome"] (spP X.K 3 n_is_outcome)) : VSs X W (defBody s_is_entry) r_is_entry := by
  have B := BB.bx
  exact (vss_cons (vs_for BB.own B.cf.calm (vi_seq (ve_v (B.var 2 rfl (by kernel_rfl)))) (B.tgt (by decide +kernel) 3 rfl (by kernel_rfl))
    (vss_cons (vs_if (vt_not (vt_tru (vr_of (ve_callN 3 B.cf h_in_range (by omega) (B.gl (by kernel_rfl)) (Z.glo 2) (va_cons (w_lenA B (Z.free 0) (by kernel_rfl) (vra_cons (vr_v (B.var 3 rfl (by kernel_rfl))) vra_nil)) (va_cons w_int (va_cons (B.gint Z 5 rfl (by kernel_rfl)) va_nil))))) (by intro _; rfl)))
    (vss_one (vs_ret w_bool))
    vss_nil)
    (vss_one (vs_if (vt_not (vt_tru (vr_of (w_all B (Z.free 4) (by kernel_rfl) (vra_cons (vr_of (w_lc [("outcome", 4)] 0 B (by decide +kernel) (vi_seq (ve_v (B.var 3 rfl (by kernel_rfl)))) (by kernel_rfl) (by decide) (fun s H C cl fp B => (B.tgt (by decide +kernel) 4 rfl (by kernel_rfl))) (by decide) (fun s H C cl fp B => vts_nil) (fun s H C cl fp B => (ve_callN 3 B.cf h_is_outcome (by omega) (B.gl (by kernel_rfl)) (Z.glo 6) (va_cons (ve_v (B.var 0 rfl (by kernel_rfl))) (va_cons (ve_v (B.var 1 rfl (by kernel_rfl))) (va_cons (ve_v (B.var 4 rfl (by kernel_rfl))) va_nil))))))) vra_nil))) (by intro _; rfl)))
    (vss_one (vs_ret w_bool))
    vss_nil))))
    (vss_one (vs_ret w_bool)))
theorem k_is_entry {P : Program} {w : World} {K : PySem.W.Frag} {mg : PySem.Str → Option Value} {base : Heap} (Z : Fx fa K mg) {fd : FuncData} (F : FunD K "is_entry" "is_entry" (defArgs s_is_entry) (defBody s_is_entry) (defScope s_is_entry) [] [] (He.ga K "is_entry") fd) (kp : PySem.W.keepIn K (.ref (He.ga K "is_entry")) = true) (h_in_range : Dn P w K mg base 1 ("in_range", none) ["n", "low", "high"] (spP K 3 n_in_range)) (h_is_outcome : Dn P w K mg base 2 ("is_outcome", none) ["offices", "size", "outcome"] (spP K 3 n_is_outcome)) : Dn P w K mg base 3 ("is_entry", none) ["offices", "size", "entry"] (spP K 3 n_is_entry) := by
  refine ⟨⟨fd, fn_P (P := P) (w := w) (mg := mg) (base := base) (N := N_is_entry) (ps := ["offices", "size", "entry"]) (lv := 2) (raw := r_is_entry) F (scB_ok (by kernel_rfl)) (fun X W e1 e2 e3 e4 e5 B => by subst e1 e2 e3 e4 e5; exact b_is_entry B Z h_in_range h_is_outcome), F.bindsN fun _ _ _ _ _ _ us hl => ?_⟩, kp⟩
  exact match us, hl with | [u0, u1, u2], _ => rfl
def N_are_moves : List PySem.Str := ["offices", "moves", "size", "commands", "entry"]
theorem b_are_moves {X : Cx} {W : WX} (BB : Bd X W 3 N_are_moves (defScope s_are_moves)) (Z : Fx fa X.K X.mg) (h_commands_of : Dn X.prog X.w X.K X.mg X.base 1 ("commands_of", none) ["moves"] (spP X.K 1 n_commands_of)) (h_in_range : Dn X.prog X.w X.K X.mg X.base 1 ("in_range", none) ["n", "low", "high"] (spP X.K 3 n_in_range)) (h_is_entry : Dn X.prog X.w X.K X.mg X.base 3 ("is_entry", none) ["offices", "size", "entry"] (spP X.K 3 n_is_entry)) : VSs X W (defBody s_are_moves) r_are_moves := by
  have B := BB.bx
  exact (vss_cons (vs_asg (w_lenA B (Z.free 0) (by kernel_rfl) (vra_cons (vr_v (B.var 1 rfl (by kernel_rfl))) vra_nil)) (B.nd (by decide +kernel)) (B.n 2 rfl) (BB.loc (by kernel_rfl)) (hf := .inl (BB.fn _)))
    (vss_cons (vs_asg (ve_callN 1 B.cf h_commands_of (by omega) (B.gl (by kernel_rfl)) (Z.glo 7) (va_cons (ve_v (B.var 1 rfl (by kernel_rfl))) va_nil)) (B.nd (by decide +kernel)) (B.n 3 rfl) (BB.loc (by kernel_rfl)) (hf := .inl (BB.fn _)))
    (vss_cons (vs_if (vt_w (vw_or (vt_not (vt_tru (vr_of (ve_callN 3 B.cf h_in_range (by omega) (B.gl (by kernel_rfl)) (Z.glo 2) (va_cons (ve_vs (B.var 2 rfl (by kernel_rfl))) (va_cons w_int (va_cons (B.gint Z 8 rfl (by kernel_rfl)) va_nil))))) (by intro _; rfl))) (vw_or1 (vt_not (vt_tru (vr_of (ve_callN 3 B.cf h_in_range (by omega) (B.gl (by kernel_rfl)) (Z.glo 2) (va_cons (ve_vs (B.var 3 rfl (by kernel_rfl))) (va_cons w_int (va_cons (B.gint Z 9 rfl (by kernel_rfl)) va_nil))))) (by intro _; rfl))))))
    (vss_one (vs_ret w_bool))
    vss_nil)
    (vss_cons (vs_for BB.own B.cf.calm (vi_seq (ve_v (B.var 1 rfl (by kernel_rfl)))) (B.tgt (by decide +kernel) 4 rfl (by kernel_rfl))
    (vss_cons (vs_if (vt_w (vw_and (w_cmpT (cw_ne B.cf) (vr_v (B.var 4 rfl (by kernel_rfl))) (vr_of (ve_lst0 0))) (vw_and1 (w_cmpT (cw_ne B.cf) (vr_of (w_lenA B (Z.free 0) (by kernel_rfl) (vra_cons (vr_v (B.var 4 rfl (by kernel_rfl))) vra_nil))) (vr_v (B.var 3 rfl (by kernel_rfl)))))))
    (vss_one (vs_ret w_bool))
    vss_nil)
    (vss_one (vs_if (vt_not (vt_tru (vr_of (ve_callN 3 B.cf h_is_entry (by omega) (B.gl (by kernel_rfl)) (Z.glo 10) (va_cons (ve_vs (B.var 0 rfl (by kernel_rfl))) (va_cons (ve_vs (B.var 2 rfl (by kernel_rfl))) (va_cons (ve_vs (B.var 4 rfl (by kernel_rfl))) va_nil))))) (by intro _; rfl)))
    (vss_one (vs_ret w_bool))
    vss_nil))))
    (vss_one (vs_ret w_bool))))))
theorem k_are_moves {P : Program} {w : World} {K : PySem.W.Frag} {mg : PySem.Str → Option Value} {base : Heap} (Z : Fx fa K mg) {fd : FuncData} (F : FunD K "are_moves" "are_moves" (defArgs s_are_moves) (defBody s_are_moves) (defScope s_are_moves) [] [] (He.ga K "are_moves") fd) (kp : PySem.W.keepIn K (.ref (He.ga K "are_moves")) = true) (h_commands_of : Dn P w K mg base 1 ("commands_of", none) ["moves"] (spP K 1 n_commands_of)) (h_in_range : Dn P w K mg base 1 ("in_range", none) ["n", "low", "high"] (spP K 3 n_in_range)) (h_is_entry : Dn P w K mg base 3 ("is_entry", none) ["offices", "size", "entry"] (spP K 3 n_is_entry)) : Dn P w K mg base 4 ("are_moves", none) ["offices", "moves"] (spP K 2 n_are_moves) := by
  refine ⟨⟨fd, fn_P (P := P) (w := w) (mg := mg) (base := base) (N := N_are_moves) (ps := ["offices", "moves"]) (lv := 3) (raw := r_are_moves) F (scB_ok (by kernel_rfl)) (fun X W e1 e2 e3 e4 e5 B => by subst e1 e2 e3 e4 e5; exact b_are_moves B Z h_commands_of h_in_range h_is_entry), F.bindsN fun _ _ _ _ _ _ us hl => ?_⟩, kp⟩
  exact match us, hl with | [u0, u1], _ => rfl
def N_Arena___init__ : List PySem.Str := ["self", "offices", "moves", "bad", "entry", "node", "outcomes"]
theorem b_Arena___init__ {X : Cx} {W : WX} (BB : Bd X W 4 N_Arena___init__ (defScope s_Arena___init__)) (Z : Fx fa X.K X.mg) (h_check : Dn X.prog X.w X.K X.mg X.base 1 ("check", none) ["ok", "where"] (spP X.K 2 n_check)) (h_in_range : Dn X.prog X.w X.K X.mg X.base 1 ("in_range", none) ["n", "low", "high"] (spP X.K 3 n_in_range)) (h_are_moves : Dn X.prog X.w X.K X.mg X.base 4 ("are_moves", none) ["offices", "moves"] (spP X.K 2 n_are_moves)) (h_is_ascending : Dn X.prog X.w X.K X.mg X.base 1 ("is_ascending", none) ["rows"] (spP X.K 1 n_is_ascending)) (h_commands_of : Dn X.prog X.w X.K X.mg X.base 1 ("commands_of", none) ["moves"] (spP X.K 1 n_commands_of)) : VSs X W (defBody s_Arena___init__) r_Arena___init__ := by
  have B := BB.bx
  exact (vss_cons (vs_expr (ve_callN 2 B.cf h_check (by omega) (B.gl (by kernel_rfl)) (Z.glo 11) (va_cons (ve_callN 3 B.cf h_in_range (by omega) (B.gl (by kernel_rfl)) (Z.glo 2) (va_cons (ve_v (B.var 1 rfl (by kernel_rfl))) (va_cons w_int (va_cons (B.gint Z 12 rfl (by kernel_rfl)) va_nil)))) (va_cons w_str va_nil))))
    (vss_cons (vs_expr (ve_callN 2 B.cf h_check (by omega) (B.gl (by kernel_rfl)) (Z.glo 11) (va_cons (ve_callN 2 B.cf h_are_moves (by omega) (B.gl (by kernel_rfl)) (Z.glo 13) (va_cons (ve_v (B.var 1 rfl (by kernel_rfl))) (va_cons (ve_v (B.var 2 rfl (by kernel_rfl))) va_nil))) (va_cons w_str va_nil))))
    (vss_cons (vs_expr (ve_callN 2 B.cf h_check (by omega) (B.gl (by kernel_rfl)) (Z.glo 11) (va_cons (ve_b (vb_and (vb_e (ve_callN 1 B.cf h_is_ascending (by omega) (B.gl (by kernel_rfl)) (Z.glo 14) (va_cons (ve_v (B.var 3 rfl (by kernel_rfl))) va_nil))) (vb_one (vb_e (w_all B (Z.free 4) (by kernel_rfl) (vra_cons (vr_of (w_lc [("node", 5)] 0 B (by decide +kernel) (vi_seq (ve_v (B.var 3 rfl (by kernel_rfl)))) (by kernel_rfl) (by decide) (fun s H C cl fp B => (B.tgt (by decide +kernel) 5 rfl (by kernel_rfl))) (by decide) (fun s H C cl fp B => vts_nil) (fun s H C cl fp B => (ve_callN 3 B.cf h_in_range (by omega) (B.gl (by kernel_rfl)) (Z.glo 2) (va_cons (ve_v (B.var 5 rfl (by kernel_rfl))) (va_cons w_int (va_cons (w_sub (vr_of (w_lenA B (Z.free 0) (by kernel_rfl) (vra_cons (vr_v (B.var 2 rfl (by kernel_rfl))) vra_nil))) (vr_of w_int)) va_nil))))))) vra_nil)))))) (va_cons w_str va_nil))))
    (vss_cons (vs_fldN 0 (FldOk.cons (Z.cls 15) (Z.noat 16) FldOk.nil) (B.var 0 rfl (by kernel_rfl)) (ve_v (B.var 1 rfl (by kernel_rfl))))
    (vss_cons (vs_fldN 0 (FldOk.cons (Z.cls 15) (Z.noat 17) FldOk.nil) (B.var 0 rfl (by kernel_rfl)) (w_lenA B (Z.free 0) (by kernel_rfl) (vra_cons (vr_v (B.var 2 rfl (by kernel_rfl))) vra_nil)))
    (vss_cons (vs_fldN 0 (FldOk.cons (Z.cls 15) (Z.noat 18) FldOk.nil) (B.var 0 rfl (by kernel_rfl)) (ve_callN 1 B.cf h_commands_of (by omega) (B.gl (by kernel_rfl)) (Z.glo 7) (va_cons (ve_v (B.var 2 rfl (by kernel_rfl))) va_nil)))
    (vss_cons (vs_fldN 0 (FldOk.cons (Z.cls 15) (Z.noat 20) FldOk.nil) (B.var 0 rfl (by kernel_rfl)) (ve_tuple (B.gl (by kernel_rfl)) (Z.free 19) (va_cons (ve_v (B.var 3 rfl (by kernel_rfl))) va_nil)))
    (vss_cons (vs_fldN 0 (FldOk.cons (Z.cls 15) (Z.noat 22) FldOk.nil) (B.var 0 rfl (by kernel_rfl)) (w_lc [("entry", 4)] 0 B (by decide +kernel) (vi_seq (ve_v (B.var 2 rfl (by kernel_rfl)))) (by kernel_rfl) (by decide) (fun s H C cl fp B => (B.tgt (by decide +kernel) 4 rfl (by kernel_rfl))) (by decide) (fun s H C cl fp B => vts_nil) (fun s H C cl fp B => (w_lc [("outcomes", 6)] 0 B (by decide +kernel) (vi_seq (ve_v (B.var 4 rfl (by kernel_rfl)))) (by kernel_rfl) (by decide) (fun s H C cl fp B => (B.tgt (by decide +kernel) 6 rfl (by kernel_rfl))) (by decide) (fun s H C cl fp B => vts_nil) (fun s H C cl fp B => (ve_list B.cf.calm (B.gl (by kernel_rfl)) (Z.free 21) (va_cons (ve_v (B.var 6 rfl (by kernel_rfl))) va_nil)))))))
    (vss_one (vs_fldN 0 (FldOk.cons (Z.cls 15) (Z.noat 23) FldOk.nil) (B.var 0 rfl (by kernel_rfl)) (w_dc [("node", 5)] B (by decide +kernel) (vi_seq (ve_v (B.var 3 rfl (by kernel_rfl)))) (by kernel_rfl) (by decide) (fun s H C cl fp B => (B.tgt (by decide +kernel) 5 rfl (by kernel_rfl))) (by decide) (fun s H C cl fp B => vts_nil) (fun s H C cl fp B => (ve_v (B.var 5 rfl (by kernel_rfl)))) (fun s H C cl fp B => w_bool))))))))))))
theorem k_Arena___init__ {P : Program} {w : World} {K : PySem.W.Frag} {mg : PySem.Str → Option Value} {base : Heap} (Z : Fx fa K mg) {fd : FuncData} (F : FunD K "__init__" "Arena.__init__" (defArgs s_Arena___init__) (defBody s_Arena___init__) (defScope s_Arena___init__) [] [] (He.ma K (He.ga K "Arena") "__init__") fd) (kp : PySem.W.keepIn K (.ref (He.ma K (He.ga K "Arena") "__init__")) = true) (h_check : Dn P w K mg base 1 ("check", none) ["ok", "where"] (spP K 2 n_check)) (h_in_range : Dn P w K mg base 1 ("in_range", none) ["n", "low", "high"] (spP K 3 n_in_range)) (h_are_moves : Dn P w K mg base 4 ("are_moves", none) ["offices", "moves"] (spP K 2 n_are_moves)) (h_is_ascending : Dn P w K mg base 1 ("is_ascending", none) ["rows"] (spP K 1 n_is_ascending)) (h_commands_of : Dn P w K mg base 1 ("commands_of", none) ["moves"] (spP K 1 n_commands_of)) : Dn P w K mg base 5 ("Arena", some "__init__") ["self", "offices", "moves", "bad"] (spI K 4 0 1 n_Arena___init__) := by
  refine ⟨⟨fd, fn_I (P := P) (w := w) (mg := mg) (base := base) (N := N_Arena___init__) (ps := ["self", "offices", "moves", "bad"]) (lv := 4) (raw := r_Arena___init__) F (scB_ok (by kernel_rfl)) (j := 0) (k := 0) rfl (fun X W e1 e2 e3 e4 e5 B => by subst e1 e2 e3 e4 e5; exact b_Arena___init__ B Z h_check h_in_range h_are_moves h_is_ascending h_commands_of), F.bindsN fun _ _ _ _ _ _ us hl => ?_⟩, kp⟩
  exact match us, hl with | [u0, u1, u2, u3], _ => rfl
def N_Arena_is_bad : List PySem.Str := ["self", "node"]
theorem b_Arena_is_bad {X : Cx} {W : WX} (BB : Bd X W 0 N_Arena_is_bad (defScope s_Arena_is_bad)) (Z : Fx fa X.K X.mg) : VSs X W (defBody s_Arena_is_bad) r_Arena_is_bad := by
  have B := BB.bx
  exact (vss_one (vs_ret (w_cmp (cw_in B.cf) (vr_v (B.var 1 rfl (by kernel_rfl))) (vr_fld (FldOk.cons (Z.cls 15) (Z.noat 23) FldOk.nil) (vr_v (B.var 0 rfl (by kernel_rfl)))))))
theorem k_Arena_is_bad {P : Program} {w : World} {K : PySem.W.Frag} {mg : PySem.Str → Option Value} {base : Heap} (Z : Fx fa K mg) {fd : FuncData} (F : FunD K "is_bad" "Arena.is_bad" (defArgs s_Arena_is_bad) (defBody s_Arena_is_bad) (defScope s_Arena_is_bad) [] [] (He.ma K (He.ga K "Arena") "is_bad") fd) (kp : PySem.W.keepIn K (.ref (He.ma K (He.ga K "Arena") "is_bad")) = true) : Dn P w K mg base 1 ("Arena", some "is_bad") ["self", "node"] (spP K 2 n_Arena_is_bad) := by
  refine ⟨⟨fd, fn_P (P := P) (w := w) (mg := mg) (base := base) (N := N_Arena_is_bad) (ps := ["self", "node"]) (lv := 0) (raw := r_Arena_is_bad) F (scB_ok (by kernel_rfl)) (fun X W e1 e2 e3 e4 e5 B => by subst e1 e2 e3 e4 e5; exact b_Arena_is_bad B Z), F.bindsN fun _ _ _ _ _ _ us hl => ?_⟩, kp⟩
  exact match us, hl with | [u0, u1], _ => rfl
def N_Arena_is_live : List PySem.Str := ["self", "node"]
theorem b_Arena_is_live {X : Cx} {W : WX} (BB : Bd X W 0 N_Arena_is_live (defScope s_Arena_is_live)) (Z : Fx fa X.K X.mg) : VSs X W (defBody s_Arena_is_live) r_Arena_is_live := by
  have B := BB.bx
  exact (vss_one (vs_ret (ve_b (vb_and (vb_e (w_cmp (cw_ne B.cf) (vr_ix B.cf.hu1 (vr_fld (FldOk.cons (Z.cls 15) (Z.noat 22) FldOk.nil) (vr_v (B.var 0 rfl (by kernel_rfl)))) (vr_v (B.var 1 rfl (by kernel_rfl)))) (vr_of (ve_lst0 0)))) (vb_one (vb_e (w_cmp (cw_notin B.cf) (vr_v (B.var 1 rfl (by kernel_rfl))) (vr_fld (FldOk.cons (Z.cls 15) (Z.noat 23) FldOk.nil) (vr_v (B.var 0 rfl (by kernel_rfl)))))))))))
theorem k_Arena_is_live {P : Program} {w : World} {K : PySem.W.Frag} {mg : PySem.Str → Option Value} {base : Heap} (Z : Fx fa K mg) {fd : FuncData} (F : FunD K "is_live" "Arena.is_live" (defArgs s_Arena_is_live) (defBody s_Arena_is_live) (defScope s_Arena_is_live) [] [] (He.ma K (He.ga K "Arena") "is_live") fd) (kp : PySem.W.keepIn K (.ref (He.ma K (He.ga K "Arena") "is_live")) = true) : Dn P w K mg base 1 ("Arena", some "is_live") ["self", "node"] (spP K 2 n_Arena_is_live) := by
  refine ⟨⟨fd, fn_P (P := P) (w := w) (mg := mg) (base := base) (N := N_Arena_is_live) (ps := ["self", "node"]) (lv := 0) (raw := r_Arena_is_live) F (scB_ok (by kernel_rfl)) (fun X W e1 e2 e3 e4 e5 B => by subst e1 e2 e3 e4 e5; exact b_Arena_is_live B Z), F.bindsN fun _ _ _ _ _ _ us hl => ?_⟩, kp⟩
  exact match us, hl with | [u0, u1], _ => rfl
def N_Arena_outcomes : List PySem.Str := ["self", "node", "command"]
theorem b_Arena_outcomes {X : Cx} {W : WX} (BB : Bd X W 1 N_Arena_outcomes (defScope s_Arena_outcomes)) (Z : Fx fa X.K X.mg) (h_check : Dn X.prog X.w X.K X.mg X.base 1 ("check", none) ["ok", "where"] (spP X.K 2 n_check)) (h_in_range : Dn X.prog X.w X.K X.mg X.base 1 ("in_range", none) ["n", "low", "high"] (spP X.K 3 n_in_range)) (h_Arena_is_live : Dn X.prog X.w X.K X.mg X.base 1 ("Arena", some "is_live") ["self", "node"] (spP X.K 2 n_Arena_is_live)) : VSs X W (defBody s_Arena_outcomes) r_Arena_outcomes := by
  have B := BB.bx
  exact (vss_cons (vs_expr (ve_callN 2 B.cf h_check (by omega) (B.gl (by kernel_rfl)) (Z.glo 11) (va_cons (ve_callN 3 B.cf h_in_range (by omega) (B.gl (by kernel_rfl)) (Z.glo 2) (va_cons (ve_v (B.var 1 rfl (by kernel_rfl))) (va_cons w_int (va_cons (w_sub (vr_fld (FldOk.cons (Z.cls 15) (Z.noat 17) FldOk.nil) (vr_v (B.var 0 rfl (by kernel_rfl)))) (vr_of w_int)) va_nil)))) (va_cons w_str va_nil))))
    (vss_cons (vs_expr (ve_callN 2 B.cf h_check (by omega) (B.gl (by kernel_rfl)) (Z.glo 11) (va_cons (ve_callN 3 B.cf h_in_range (by omega) (B.gl (by kernel_rfl)) (Z.glo 2) (va_cons (ve_v (B.var 2 rfl (by kernel_rfl))) (va_cons w_int (va_cons (w_sub (vr_fld (FldOk.cons (Z.cls 15) (Z.noat 18) FldOk.nil) (vr_v (B.var 0 rfl (by kernel_rfl)))) (vr_of w_int)) va_nil)))) (va_cons w_str va_nil))))
    (vss_cons (vs_if (vt_not (vt_tru (vr_of (ve_methN 1 B.cf h_Arena_is_live (by omega) (Z.cls 15) (Z.meth 24) (ve_vs (B.var 0 rfl (by kernel_rfl))) (va_cons (ve_vs (B.var 1 rfl (by kernel_rfl))) va_nil))) (by intro _; rfl)))
    (vss_one (vs_ret (ve_lst0 0)))
    vss_nil)
    (vss_one (vs_ret (ve_list B.cf.calm (B.gl (by kernel_rfl)) (Z.free 21) (va_cons (ve_ix B.cf.hu1 (ve_ix B.cf.hu1 (ve_fld (FldOk.cons (Z.cls 15) (Z.noat 22) FldOk.nil) (ve_v (B.var 0 rfl (by kernel_rfl)))) (vr_v (B.var 1 rfl (by kernel_rfl)))) (vr_v (B.var 2 rfl (by kernel_rfl)))) va_nil)))))))
theorem k_Arena_outcomes {P : Program} {w : World} {K : PySem.W.Frag} {mg : PySem.Str → Option Value} {base : Heap} (Z : Fx fa K mg) {fd : FuncData} (F : FunD K "outcomes" "Arena.outcomes" (defArgs s_Arena_outcomes) (defBody s_Arena_outcomes) (defScope s_Arena_outcomes) [] [] (He.ma K (He.ga K "Arena") "outcomes") fd) (kp : PySem.W.keepIn K (.ref (He.ma K (He.ga K "Arena") "outcomes")) = true) (h_check : Dn P w K mg base 1 ("check", none) ["ok", "where"] (spP K 2 n_check)) (h_in_range : Dn P w K mg base 1 ("in_range", none) ["n", "low", "high"] (spP K 3 n_in_range)) (h_Arena_is_live : Dn P w K mg base 1 ("Arena", some "is_live") ["self", "node"] (spP K 2 n_Arena_is_live)) : Dn P w K mg base 2 ("Arena", some "outcomes") ["self", "node", "command"] (spP K 3 n_Arena_outcomes) := by
  refine ⟨⟨fd, fn_P (P := P) (w := w) (mg := mg) (base := base) (N := N_Arena_outcomes) (ps := ["self", "node", "command"]) (lv := 1) (raw := r_Arena_outcomes) F (scB_ok (by kernel_rfl)) (fun X W e1 e2 e3 e4 e5 B => by subst e1 e2 e3 e4 e5; exact b_Arena_outcomes B Z h_check h_in_range h_Arena_is_live), F.bindsN fun _ _ _ _ _ _ us hl => ?_⟩, kp⟩
  exact match us, hl with | [u0, u1, u2], _ => rfl
def N_has_bad : List PySem.Str := ["arena", "belief", "node"]
theorem b_has_bad {X : Cx} {W : WX} (BB : Bd X W 1 N_has_bad (defScope s_has_bad)) (Z : Fx fa X.K X.mg) (h_Arena_is_bad : Dn X.prog X.w X.K X.mg X.base 1 ("Arena", some "is_bad") ["self", "node"] (spP X.K 2 n_Arena_is_bad)) : VSs X W (defBody s_has_bad) r_has_bad := by
  have B := BB.bx
  exact (vss_one (vs_ret (w_any B (Z.free 26) (by kernel_rfl) (vra_cons (vr_of (w_lc [("node", 2)] 0 B (by decide +kernel) (vi_seq (ve_v (B.var 1 rfl (by kernel_rfl)))) (by kernel_rfl) (by decide) (fun s H C cl fp B => (B.tgt (by decide +kernel) 2 rfl (by kernel_rfl))) (by decide) (fun s H C cl fp B => vts_nil) (fun s H C cl fp B => (ve_methN 1 B.cf h_Arena_is_bad (by omega) (Z.cls 15) (Z.meth 25) (ve_v (B.var 0 rfl (by kernel_rfl))) (va_cons (ve_v (B.var 2 rfl (by kernel_rfl))) va_nil))))) vra_nil))))
theorem k_has_bad {P : Program} {w : World} {K : PySem.W.Frag} {mg : PySem.Str → Option Value} {base : Heap} (Z : Fx fa K mg) {fd : FuncData} (F : FunD K "has_bad" "has_bad" (defArgs s_has_bad) (defBody s_has_bad) (defScope s_has_bad) [] [] (He.ga K "has_bad") fd) (kp : PySem.W.keepIn K (.ref (He.ga K "has_bad")) = true) (h_Arena_is_bad : Dn P w K mg base 1 ("Arena", some "is_bad") ["self", "node"] (spP K 2 n_Arena_is_bad)) : Dn P w K mg base 2 ("has_bad", none) ["arena", "belief"] (spP K 2 n_has_bad) := by
  refine ⟨⟨fd, fn_P (P := P) (w := w) (mg := mg) (base := base) (N := N_has_bad) (ps := ["arena", "belief"]) (lv := 1) (raw := r_has_bad) F (scB_ok (by kernel_rfl)) (fun X W e1 e2 e3 e4 e5 B => by subst e1 e2 e3 e4 e5; exact b_has_bad B Z h_Arena_is_bad), F.bindsN fun _ _ _ _ _ _ us hl => ?_⟩, kp⟩
  exact match us, hl with | [u0, u1], _ => rfl
def N_next_beliefs : List PySem.Str := ["arena", "belief", "command", "found", "node", "heards", "end", "answer"]
theorem b_next_beliefs {X : Cx} {W : WX} (BB : Bd X W 2 N_next_beliefs (defScope s_next_beliefs)) (Z : Fx fa X.K X.mg) (h_Arena_outcomes : Dn X.prog X.w X.K X.mg X.base 2 ("Arena", some "outcomes") ["self", "node", "command"] (spP X.K 3 n_Arena_outcomes)) : VSs X W (defBody s_next_beliefs) r_next_beliefs := by
  have B := BB.bx
  exact (vss_cons (vs_asg (ve_dctK 1) (B.nd (by decide +kernel)) (B.n 3 rfl) (BB.loc (by kernel_rfl)) (hf := .inl (BB.fn _)))
    (vss_cons (vs_for BB.own B.cf.calm (vi_seq (ve_v (B.var 1 rfl (by kernel_rfl)))) (B.tgt (by decide +kernel) 4 rfl (by kernel_rfl))
    (vss_one (vs_for BB.own B.cf.calm (vi_seq (ve_methN 2 B.cf h_Arena_outcomes (by omega) (Z.cls 15) (Z.meth 27) (ve_v (B.var 0 rfl (by kernel_rfl))) (va_cons (ve_v (B.var 4 rfl (by kernel_rfl))) (va_cons (ve_v (B.var 2 rfl (by kernel_rfl))) va_nil)))) (vg_tup 2 B.cf.calm (vgs_cons (B.tgt (by decide +kernel) 5 rfl (by kernel_rfl)) (vgs_cons (B.tgt (by decide +kernel) 6 rfl (by kernel_rfl)) vgs_nil)))
    (vss_cons (vs_if (w_cmpT (cw_notin B.cf) (vr_ix B.cf.hu1 (vr_v (B.var 5 rfl (by kernel_rfl))) (vr_of w_int)) (vr_v (B.var 3 rfl (by kernel_rfl))))
    (vss_one (vs_setP 1 B.cf.hu1 (ve_dctK 0) (vp_name (B.var 3 rfl (by kernel_rfl))) (vr_ix B.cf.hu1 (vr_v (B.var 5 rfl (by kernel_rfl))) (vr_of w_int))))
    vss_nil)
    (vss_one (vs_setP 0 B.cf.hu1 w_bool (vp_ix B.cf.hu1 (vp_name (B.var 3 rfl (by kernel_rfl))) (vr_ix B.cf.hu1 (vr_v (B.var 5 rfl (by kernel_rfl))) (vr_of w_int))) (vr_v (B.var 6 rfl (by kernel_rfl)))))))))
    (vss_one (vs_ret (w_lc [("answer", 7)] 0 B (by decide +kernel) (vi_seq (ve_sortI B.cf.calm (B.gl (by kernel_rfl)) (Z.free 28) (vra_cons (vr_v (B.var 3 rfl (by kernel_rfl))) vra_nil))) (by kernel_rfl) (by decide) (fun s H C cl fp B => (B.tgt (by decide +kernel) 7 rfl (by kernel_rfl))) (by decide) (fun s H C cl fp B => vts_nil) (fun s H C cl fp B => (ve_tup (va_cons (ve_v (B.var 7 rfl (by kernel_rfl))) (va_cons (ve_tuple (B.gl (by kernel_rfl)) (Z.free 19) (va_cons (ve_sortI B.cf.calm (B.gl (by kernel_rfl)) (Z.free 28) (vra_cons (vr_ix B.cf.hu1 (vr_v (B.var 3 rfl (by kernel_rfl))) (vr_v (B.var 7 rfl (by kernel_rfl)))) vra_nil)) va_nil)) va_nil)))))))))
theorem k_next_beliefs {P : Program} {w : World} {K : PySem.W.Frag} {mg : PySem.Str → Option Value} {base : Heap} (Z : Fx fa K mg) {fd : FuncData} (F : FunD K "next_beliefs" "next_beliefs" (defArgs s_next_beliefs) (defBody s_next_beliefs) (defScope s_next_beliefs) [] [] (He.ga K "next_beliefs") fd) (kp : PySem.W.keepIn K (.ref (He.ga K "next_beliefs")) = true) (h_Arena_outcomes : Dn P w K mg base 2 ("Arena", some "outcomes") ["self", "node", "command"] (spP K 3 n_Arena_outcomes)) : Dn P w K mg base 3 ("next_beliefs", none) ["arena", "belief", "command"] (spP K 3 n_next_beliefs) := by
  refine ⟨⟨fd, fn_P (P := P) (w := w) (mg := mg) (base := base) (N := N_next_beliefs) (ps := ["arena", "belief", "command"]) (lv := 2) (raw := r_next_beliefs) F (scB_ok (by kernel_rfl)) (fun X W e1 e2 e3 e4 e5 B => by subst e1 e2 e3 e4 e5; exact b_next_beliefs B Z h_Arena_outcomes), F.bindsN fun _ _ _ _ _ _ us hl => ?_⟩, kp⟩
  exact match us, hl with | [u0, u1, u2], _ => rfl
def N_belief_graph : List PySem.Str := ["arena", "beliefs", "numbers", "steps", "belief", "lists", "rows", "_", "following", "command", "answer"]
theorem b_belief_graph {X : Cx} {W : WX} (BB : Bd X W 3 N_belief_graph (defScope s_belief_graph)) (Z : Fx fa X.K X.mg) (h_has_bad : Dn X.prog X.w X.K X.mg X.base 2 ("has_bad", none) ["arena", "belief"] (spP X.K 2 n_has_bad)) (h_next_beliefs : Dn X.prog X.w X.K X.mg X.base 3 ("next_beliefs", none) ["arena", "belief", "command"] (spP X.K 3 n_next_beliefs)) : VSs X W (defBody s_belief_graph) r_belief_graph := by
  have B := BB.bx
  exact (vss_cons (vs_asg (ve_lst (va_cons (ve_tup (va_cons w_int va_nil)) va_nil)) (B.nd (by decide +kernel)) (B.n 1 rfl) (BB.loc (by kernel_rfl)) (hf := .inl (BB.fn _)))
    (vss_cons (vs_asg (ve_dct1T B.cf.hu1 (ve_tup (va_cons w_int va_nil)) w_int) (B.nd (by decide +kernel)) (B.n 2 rfl) (BB.loc (by kernel_rfl)) (hf := .inl (BB.fn _)))
    (vss_cons (vs_asg (ve_lst0 0) (B.nd (by decide +kernel)) (B.n 3 rfl) (BB.loc (by kernel_rfl)) (hf := .inl (BB.fn _)))
    (vss_cons (vs_while 100000 BB.own (w_cmpT cw_lt (vr_of (w_lenA B (Z.free 0) (by kernel_rfl) (vra_cons (vr_v (B.var 3 rfl (by kernel_rfl))) vra_nil))) (vr_of (w_lenA B (Z.free 0) (by kernel_rfl) (vra_cons (vr_v (B.var 1 rfl (by kernel_rfl))) vra_nil))))
    (vss_cons (vs_asg (ve_ixN B.cf.hu1 (B.var 1 rfl (by kernel_rfl)) (vr_of (w_lenA B (Z.free 0) (by kernel_rfl) (vra_cons (vr_v (B.var 3 rfl (by kernel_rfl))) vra_nil)))) (B.nd (by decide +kernel)) (B.n 4 rfl) (BB.loc (by kernel_rfl)) (hf := .inl (BB.fn _)))
    (vss_cons (vs_asg (ve_lst0 0) (B.nd (by decide +kernel)) (B.n 5 rfl) (BB.loc (by kernel_rfl)) (hf := .inl (BB.fn _)))
    (vss_cons (vs_if (vt_not (vt_tru (vr_of (ve_callN 2 B.cf h_has_bad (by omega) (B.gl (by kernel_rfl)) (Z.glo 29) (va_cons (ve_vs (B.var 0 rfl (by kernel_rfl))) (va_cons (ve_vs (B.var 4 rfl (by kernel_rfl))) va_nil)))) (by intro _; rfl)))
    (vss_one (w_setLc [("command", 9)] 0 BB (by decide +kernel) rfl (by kernel_rfl) (by kernel_rfl) rfl (by kernel_rfl) (vi_range1 (B.gl (by kernel_rfl)) (Z.free 1) (vra_cons (vr_fld (FldOk.cons (Z.cls 15) (Z.noat 18) FldOk.nil) (vr_v (B.var 0 rfl (by kernel_rfl)))) vra_nil)) (by kernel_rfl) (by decide) (fun s H C cl fp B => (B.tgt (by decide +kernel) 9 rfl (by kernel_rfl))) (by decide) (fun s H C cl fp B => vts_nil) (fun s H C cl fp B => (ve_callN 3 B.cf h_next_beliefs (by omega) (B.gl (by kernel_rfl)) (Z.glo 30) (va_cons (ve_v (B.var 0 rfl (by kernel_rfl))) (va_cons (ve_v (B.var 4 rfl (by kernel_rfl))) (va_cons (ve_v (B.var 9 rfl (by kernel_rfl))) va_nil)))))))
    vss_nil)
    (vss_cons (vs_for BB.own B.cf.calm (vi_seq (ve_v (B.var 5 rfl (by kernel_rfl)))) (B.tgt (by decide +kernel) 6 rfl (by kernel_rfl))
    (vss_one (vs_for BB.own B.cf.calm (vi_seq (ve_v (B.var 6 rfl (by kernel_rfl)))) (vg_tup 2 B.cf.calm (vgs_cons (B.tgt (by decide +kernel) 7 rfl (by kernel_rfl)) (vgs_cons (B.tgt (by decide +kernel) 8 rfl (by kernel_rfl)) vgs_nil)))
    (vss_one (vs_if (w_cmpT (cw_notin B.cf) (vr_v (B.var 8 rfl (by kernel_rfl))) (vr_v (B.var 2 rfl (by kernel_rfl))))
    (vss_cons (vs_setP 0 B.cf.hu1 (w_lenA B (Z.free 0) (by kernel_rfl) (vra_cons (vr_v (B.var 1 rfl (by kernel_rfl))) vra_nil)) (vp_name (B.var 2 rfl (by kernel_rfl))) (vr_v (B.var 8 rfl (by kernel_rfl))))
    (vss_one (vs_expr (ve_append 0 (B.var 1 rfl (by kernel_rfl)) (ve_v (B.var 8 rfl (by kernel_rfl)))))))
    vss_nil)))))
    (vss_cons (vs_if (w_cmpT cw_gt (vr_of (w_lenA B (Z.free 0) (by kernel_rfl) (vra_cons (vr_v (B.var 1 rfl (by kernel_rfl))) vra_nil))) (vr_of (B.gint Z 31 rfl (by kernel_rfl))))
    vss_no
    vss_nil)
    (vss_one (vs_expr (ve_append 0 (B.var 3 rfl (by kernel_rfl)) (w_lc [("rows", 6)] 0 B (by decide +kernel) (vi_seq (ve_v (B.var 5 rfl (by kernel_rfl)))) (by kernel_rfl) (by decide) (fun s H C cl fp B => (B.tgt (by decide +kernel) 6 rfl (by kernel_rfl))) (by decide) (fun s H C cl fp B => vts_nil) (fun s H C cl fp B => (w_lc [("answer", 10), ("following", 8)] 0 B (by decide +kernel) (vi_seq (ve_v (B.var 6 rfl (by kernel_rfl)))) (by kernel_rfl) (by decide) (fun s H C cl fp B => (vg_tup 2 B.cf.calm (vgs_cons (B.tgt (by decide +kernel) 10 rfl (by kernel_rfl)) (vgs_cons (B.tgt (by decide +kernel) 8 rfl (by kernel_rfl)) vgs_nil)))) (by decide) (fun s H C cl fp B => vts_nil) (fun s H C cl fp B => (ve_tup (va_cons (ve_v (B.var 10 rfl (by kernel_rfl))) (va_cons (ve_ixN B.cf.hu1 (B.var 2 rfl (by kernel_rfl)) (vr_v (B.var 8 rfl (by kernel_rfl)))) va_nil))))))))))))))))
    (vss_one (vs_ret (ve_tup (va_cons (ve_v (B.var 1 rfl (by kernel_rfl))) (va_cons (ve_v (B.var 3 rfl (by kernel_rfl))) va_nil)))))))))
theorem k_belief_graph {P : Program} {w : World} {K : PySem.W.Frag} {mg : PySem.Str → Option Value} {base : Heap} (Z : Fx fa K mg) {fd : FuncData} (F : FunD K "belief_graph" "belief_graph" (defArgs s_belief_graph) (defBody s_belief_graph) (defScope s_belief_graph) [] [] (He.ga K "belief_graph") fd) (kp : PySem.W.keepIn K (.ref (He.ga K "belief_graph")) = true) (h_has_bad : Dn P w K mg base 2 ("has_bad", none) ["arena", "belief"] (spP K 2 n_has_bad)) (h_next_beliefs : Dn P w K mg base 3 ("next_beliefs", none) ["arena", "belief", "command"] (spP K 3 n_next_beliefs)) : Dn P w K mg base 4 ("belief_graph", none) ["arena"] (spP K 1 n_belief_graph) := by
  refine ⟨⟨fd, fn_P (P := P) (w := w) (mg := mg) (base := base) (N := N_belief_graph) (ps := ["arena"]) (lv := 3) (raw := r_belief_graph) F (scB_ok (by kernel_rfl)) (fun X W e1 e2 e3 e4 e5 B => by subst e1 e2 e3 e4 e5; exact b_belief_graph B Z h_has_bad h_next_beliefs), F.bindsN fun _ _ _ _ _ _ us hl => ?_⟩, kp⟩
  exact match us, hl with | [u0], _ => rfl
def N_incoming : List PySem.Str := ["steps", "found", "number", "lists", "_", "command", "rows", "answer", "end"]
theorem b_incoming {X : Cx} {W : WX} (BB : Bd X W 0 N_incoming (defScope s_incoming)) (Z : Fx fa X.K X.mg) : VSs X W (defBody s_incoming) r_incoming := by
  have B := BB.bx
  exact (vss_cons (w_setLc [("_", 4)] 1 BB (by decide +kernel) rfl (by kernel_rfl) (by kernel_rfl) rfl (by kernel_rfl) (vi_seq (ve_v (B.var 0 rfl (by kernel_rfl)))) (by kernel_rfl) (by decide) (fun s H C cl fp B => (B.tgt (by decide +kernel) 4 rfl (by kernel_rfl))) (by decide) (fun s H C cl fp B => vts_nil) (fun s H C cl fp B => (ve_lst0 0)))
    (vss_cons (vs_for BB.own B.cf.calm (vi_enum (B.gl (by kernel_rfl)) (Z.free 32) (va_cons (ve_v (B.var 0 rfl (by kernel_rfl))) va_nil)) (vg_tup 2 B.cf.calm (vgs_cons (B.tgt (by decide +kernel) 2 rfl (by kernel_rfl)) (vgs_cons (B.tgt (by decide +kernel) 3 rfl (by kernel_rfl)) vgs_nil)))
    (vss_one (vs_for BB.own B.cf.calm (vi_enum (B.gl (by kernel_rfl)) (Z.free 32) (va_cons (ve_v (B.var 3 rfl (by kernel_rfl))) va_nil)) (vg_tup 2 B.cf.calm (vgs_cons (B.tgt (by decide +kernel) 5 rfl (by kernel_rfl)) (vgs_cons (B.tgt (by decide +kernel) 6 rfl (by kernel_rfl)) vgs_nil)))
    (vss_one (vs_for BB.own B.cf.calm (vi_seq (ve_v (B.var 6 rfl (by kernel_rfl)))) (vg_tup 2 B.cf.calm (vgs_cons (B.tgt (by decide +kernel) 7 rfl (by kernel_rfl)) (vgs_cons (B.tgt (by decide +kernel) 8 rfl (by kernel_rfl)) vgs_nil)))
    (vss_one (vs_expr (ve_appendP 0 (vp_ix B.cf.hu1 (vp_name (B.var 1 rfl (by kernel_rfl))) (vr_v (B.var 8 rfl (by kernel_rfl)))) (ve_tup (va_cons (ve_vs (B.var 2 rfl (by kernel_rfl))) (va_cons (ve_vs (B.var 5 rfl (by kernel_rfl))) (va_cons (ve_vs (B.var 7 rfl (by kernel_rfl))) va_nil))))))))))))
    (vss_one (vs_retV (B.var 1 rfl (by kernel_rfl))))))
theorem k_incoming {P : Program} {w : World} {K : PySem.W.Frag} {mg : PySem.Str → Option Value} {base : Heap} (Z : Fx fa K mg) {fd : FuncData} (F : FunD K "incoming" "incoming" (defArgs s_incoming) (defBody s_incoming) (defScope s_incoming) [] [] (He.ga K "incoming") fd) (kp : PySem.W.keepIn K (.ref (He.ga K "incoming")) = true) : Dn P w K mg base 1 ("incoming", none) ["steps"] (spP K 1 n_incoming) := by
  refine ⟨⟨fd, fn_P (P := P) (w := w) (mg := mg) (base := base) (N := N_incoming) (ps := ["steps"]) (lv := 0) (raw := r_incoming) F (scB_ok (by kernel_rfl)) (fun X W e1 e2 e3 e4 e5 B => by subst e1 e2 e3 e4 e5; exact b_incoming B Z), F.bindsN fun _ _ _ _ _ _ us hl => ?_⟩, kp⟩
  exact match us, hl with | [u0], _ => rfl
def N_next_layer : List PySem.Str := ["sources", "replies", "layer", "found", "end", "number", "command", "answer"]
theorem b_next_layer {X : Cx} {W : WX} (BB : Bd X W 0 N_next_layer (defScope s_next_layer)) (Z : Fx fa X.K X.mg) : VSs X W (defBody s_next_layer) r_next_layer := by
  have B := BB.bx
  exact (vss_cons (vs_asg (ve_lst0 0) (B.nd (by decide +kernel)) (B.n 3 rfl) (BB.loc (by kernel_rfl)) (hf := .inl (BB.fn _)))
    (vss_cons (vs_for BB.own B.cf.calm (vi_seq (ve_v (B.var 2 rfl (by kernel_rfl)))) (B.tgt (by decide +kernel) 4 rfl (by kernel_rfl))
    (vss_one (vs_for BB.own B.cf.calm (vi_seq (ve_ixN B.cf.hu1 (B.var 0 rfl (by kernel_rfl)) (vr_v (B.var 4 rfl (by kernel_rfl))))) (vg_tup 3 B.cf.calm (vgs_cons (B.tgt (by decide +kernel) 5 rfl (by kernel_rfl)) (vgs_cons (B.tgt (by decide +kernel) 6 rfl (by kernel_rfl)) (vgs_cons (B.tgt (by decide +kernel) 7 rfl (by kernel_rfl)) vgs_nil))))
    (vss_one (vs_if (w_cmpT cw_isA (vr_ix B.cf.hu1 (vr_ix B.cf.hu1 (vr_v (B.var 1 rfl (by kernel_rfl))) (vr_v (B.var 5 rfl (by kernel_rfl)))) (vr_v (B.var 6 rfl (by kernel_rfl)))) (vr_of w_none))
    (vss_cons (vs_setP 0 B.cf.hu1 (ve_v (B.var 7 rfl (by kernel_rfl))) (vp_ix B.cf.hu1 (vp_name (B.var 1 rfl (by kernel_rfl))) (vr_v (B.var 5 rfl (by kernel_rfl)))) (vr_v (B.var 6 rfl (by kernel_rfl))))
    (vss_one (vs_if (w_cmpT (cw_notin B.cf) (vr_of w_none) (vr_ix B.cf.hu1 (vr_v (B.var 1 rfl (by kernel_rfl))) (vr_v (B.var 5 rfl (by kernel_rfl)))))
    (vss_one (vs_expr (ve_append 0 (B.var 3 rfl (by kernel_rfl)) (ve_v (B.var 5 rfl (by kernel_rfl))))))
    vss_nil)))
    vss_nil)))))
    (vss_one (vs_retV (B.var 3 rfl (by kernel_rfl))))))
theorem k_next_layer {P : Program} {w : World} {K : PySem.W.Frag} {mg : PySem.Str → Option Value} {base : Heap} (Z : Fx fa K mg) {fd : FuncData} (F : FunD K "next_layer" "next_layer" (defArgs s_next_layer) (defBody s_next_layer) (defScope s_next_layer) [] [] (He.ga K "next_layer") fd) (kp : PySem.W.keepIn K (.ref (He.ga K "next_layer")) = true) : Dn P w K mg base 1 ("next_layer", none) ["sources", "replies", "layer"] (spI K 3 1 2 n_next_layer) := by
  refine ⟨⟨fd, fn_I (P := P) (w := w) (mg := mg) (base := base) (N := N_next_layer) (ps := ["sources", "replies", "layer"]) (lv := 0) (raw := r_next_layer) F (scB_ok (by kernel_rfl)) (j := 1) (k := 1) rfl (fun X W e1 e2 e3 e4 e5 B => by subst e1 e2 e3 e4 e5; exact b_next_layer B Z), F.bindsN fun _ _ _ _ _ _ us hl => ?_⟩, kp⟩
  exact match us, hl with | [u0, u1, u2], _ => rfl
def N_strike : List PySem.Str := ["steps", "sources", "replies", "struck", "layer", "rank", "number", "lists", "_"]
theorem b_strike {X : Cx} {W : WX} (BB : Bd X W 1 N_strike (defScope s_strike)) (Z : Fx fa X.K X.mg) (h_incoming : Dn X.prog X.w X.K X.mg X.base 1 ("incoming", none) ["steps"] (spP X.K 1 n_incoming)) (h_next_layer : Dn X.prog X.w X.K X.mg X.base 1 ("next_layer", none) ["sources", "replies", "layer"] (spI X.K 3 1 2 n_next_layer)) : VSs X W (defBody s_strike) r_strike := by
  have B := BB.bx
  exact (vss_cons (vs_asg (ve_callN 1 B.cf h_incoming (by omega) (B.gl (by kernel_rfl)) (Z.glo 33) (va_cons (ve_v (B.var 0 rfl (by kernel_rfl))) va_nil)) (B.nd (by decide +kernel)) (B.n 1 rfl) (BB.loc (by kernel_rfl)) (hf := .inl (BB.fn _)))
    (vss_cons (w_setLc [("lists", 7)] 1 BB (by decide +kernel) rfl (by kernel_rfl) (by kernel_rfl) rfl (by kernel_rfl) (vi_seq (ve_v (B.var 0 rfl (by kernel_rfl)))) (by kernel_rfl) (by decide) (fun s H C cl fp B => (B.tgt (by decide +kernel) 7 rfl (by kernel_rfl))) (by decide) (fun s H C cl fp B => vts_nil) (fun s H C cl fp B => (w_lc [("_", 8)] 0 B (by decide +kernel) (vi_seq (ve_v (B.var 7 rfl (by kernel_rfl)))) (by kernel_rfl) (by decide) (fun s H C cl fp B => (B.tgt (by decide +kernel) 8 rfl (by kernel_rfl))) (by decide) (fun s H C cl fp B => vts_nil) (fun s H C cl fp B => w_none))))
    (vss_cons (w_setLc [("_", 8)] 0 BB (by decide +kernel) rfl (by kernel_rfl) (by kernel_rfl) rfl (by kernel_rfl) (vi_seq (ve_v (B.var 0 rfl (by kernel_rfl)))) (by kernel_rfl) (by decide) (fun s H C cl fp B => (B.tgt (by decide +kernel) 8 rfl (by kernel_rfl))) (by decide) (fun s H C cl fp B => vts_nil) (fun s H C cl fp B => w_none))
    (vss_cons (w_setLc [("number", 6), ("lists", 7)] 0 BB (by decide +kernel) rfl (by kernel_rfl) (by kernel_rfl) rfl (by kernel_rfl) (vi_enum (B.gl (by kernel_rfl)) (Z.free 32) (va_cons (ve_v (B.var 0 rfl (by kernel_rfl))) va_nil)) (by kernel_rfl) (by decide) (fun s H C cl fp B => (vg_tup 2 B.cf.calm (vgs_cons (B.tgt (by decide +kernel) 6 rfl (by kernel_rfl)) (vgs_cons (B.tgt (by decide +kernel) 7 rfl (by kernel_rfl)) vgs_nil)))) (by decide) (fun s H C cl fp B => (vts_one (w_cmpT (cw_eq B.cf) (vr_v (B.var 7 rfl (by kernel_rfl))) (vr_of (ve_lst0 0))))) (fun s H C cl fp B => (ve_v (B.var 6 rfl (by kernel_rfl)))))
    (vss_cons (vs_asg w_int (B.nd (by decide +kernel)) (B.n 5 rfl) (BB.loc (by kernel_rfl)) (hf := .inl (BB.fn _)))
    (vss_cons (vs_while 100000 BB.own (w_cmpT (cw_ne B.cf) (vr_v (B.var 4 rfl (by kernel_rfl))) (vr_of (ve_lst0 0)))
    (vss_cons (vs_for BB.own B.cf.calm (vi_seq (ve_v (B.var 4 rfl (by kernel_rfl)))) (B.tgt (by decide +kernel) 6 rfl (by kernel_rfl))
    (vss_one (vs_setP 0 B.cf.hu1 (ve_tup (va_cons (ve_v (B.var 5 rfl (by kernel_rfl))) (va_cons (ve_tupleR (B.gl (by kernel_rfl)) (Z.free 19) (vra_cons (vr_ix B.cf.hu1 (vr_v (B.var 2 rfl (by kernel_rfl))) (vr_v (B.var 6 rfl (by kernel_rfl)))) vra_nil)) va_nil))) (vp_name (B.var 3 rfl (by kernel_rfl))) (vr_v (B.var 6 rfl (by kernel_rfl))))))
    (vss_cons (vs_asg (ve_callIN 2 B.cf h_next_layer (by omega) (B.gl (by kernel_rfl)) (Z.glo 34) (vai_cons (ve_v (B.var 1 rfl (by kernel_rfl))) (vai_here (B.var 2 rfl (by kernel_rfl)) (va_cons (ve_v (B.var 4 rfl (by kernel_rfl))) va_nil)))) (B.nd (by decide +kernel)) (B.n 4 rfl) (BB.loc (by kernel_rfl)) (hf := .inl (BB.fn _)))
    (vss_one (vs_aug iop_add sc_add (B.nd (by decide +kernel)) (B.n 5 rfl) (BB.loc (by kernel_rfl)) (.inl (BB.fn _)) (vr_of w_int))))))
    (vss_one (vs_retV (B.var 3 rfl (by kernel_rfl))))))))))
theorem k_strike {P : Program} {w : World} {K : PySem.W.Frag} {mg : PySem.Str → Option Value} {base : Heap} (Z : Fx fa K mg) {fd : FuncData} (F : FunD K "strike" "strike" (defArgs s_strike) (defBody s_strike) (defScope s_strike) [] [] (He.ga K "strike") fd) (kp : PySem.W.keepIn K (.ref (He.ga K "strike")) = true) (h_incoming : Dn P w K mg base 1 ("incoming", none) ["steps"] (spP K 1 n_incoming)) (h_next_layer : Dn P w K mg base 1 ("next_layer", none) ["sources", "replies", "layer"] (spI K 3 1 2 n_next_layer)) : Dn P w K mg base 2 ("strike", none) ["steps"] (spP K 1 n_strike) := by
  refine ⟨⟨fd, fn_P (P := P) (w := w) (mg := mg) (base := base) (N := N_strike) (ps := ["steps"]) (lv := 1) (raw := r_strike) F (scB_ok (by kernel_rfl)) (fun X W e1 e2 e3 e4 e5 B => by subst e1 e2 e3 e4 e5; exact b_strike B Z h_incoming h_next_layer), F.bindsN fun _ _ _ _ _ _ us hl => ?_⟩, kp⟩
  exact match us, hl with | [u0], _ => rfl
def N_latest : List PySem.Str := ["arena", "steps", "struck", "ticks", "queue", "at", "number", "_", "end"]
theorem b_latest {X : Cx} {W : WX} (BB : Bd X W 4 N_latest (defScope s_latest)) (Z : Fx fa X.K X.mg) (h_belief_graph : Dn X.prog X.w X.K X.mg X.base 4 ("belief_graph", none) ["arena"] (spP X.K 1 n_belief_graph)) (h_strike : Dn X.prog X.w X.K X.mg X.base 2 ("strike", none) ["steps"] (spP X.K 1 n_strike)) : VSs X W (defBody s_latest) r_latest := by
  have B := BB.bx
  exact (vss_cons (vs_asg (ve_ix B.cf.hu1 (ve_callN 1 B.cf h_belief_graph (by omega) (B.gl (by kernel_rfl)) (Z.glo 35) (va_cons (ve_v (B.var 0 rfl (by kernel_rfl))) va_nil)) (vr_of w_int)) (B.nd (by decide +kernel)) (B.n 1 rfl) (BB.loc (by kernel_rfl)) (hf := .inl (BB.fn _)))
    (vss_cons (vs_asg (ve_callN 1 B.cf h_strike (by omega) (B.gl (by kernel_rfl)) (Z.glo 36) (va_cons (ve_v (B.var 1 rfl (by kernel_rfl))) va_nil)) (B.nd (by decide +kernel)) (B.n 2 rfl) (BB.loc (by kernel_rfl)) (hf := .inl (BB.fn _)))
    (vss_cons (vs_if (w_cmpT cw_isnot (vr_ix B.cf.hu1 (vr_v (B.var 2 rfl (by kernel_rfl))) (vr_of w_int)) (vr_of w_none))
    (vss_one (vs_ret (ve_tup (va_cons w_str va_nil))))
    vss_nil)
    (vss_cons (vs_asg (ve_dct1K w_int w_int) (B.nd (by decide +kernel)) (B.n 3 rfl) (BB.loc (by kernel_rfl)) (hf := .inl (BB.fn _)))
    (vss_cons (vs_asg (ve_lst (va_cons w_int va_nil)) (B.nd (by decide +kernel)) (B.n 4 rfl) (BB.loc (by kernel_rfl)) (hf := .inl (BB.fn _)))
    (vss_cons (vs_asg w_int (B.nd (by decide +kernel)) (B.n 5 rfl) (BB.loc (by kernel_rfl)) (hf := .inl (BB.fn _)))
    (vss_cons (vs_while 100000 BB.own (w_cmpT cw_lt (vr_v (B.var 5 rfl (by kernel_rfl))) (vr_of (w_lenA B (Z.free 0) (by kernel_rfl) (vra_cons (vr_v (B.var 4 rfl (by kernel_rfl))) vra_nil))))
    (vss_cons (vs_asg (ve_ixN B.cf.hu1 (B.var 4 rfl (by kernel_rfl)) (vr_v (B.var 5 rfl (by kernel_rfl)))) (B.nd (by decide +kernel)) (B.n 6 rfl) (BB.loc (by kernel_rfl)) (hf := .inl (BB.fn _)))
    (vss_cons (vs_aug iop_add sc_add (B.nd (by decide +kernel)) (B.n 5 rfl) (BB.loc (by kernel_rfl)) (.inl (BB.fn _)) (vr_of w_int))
    (vss_cons (vs_if (w_cmpT cw_isnot (vr_ix B.cf.hu1 (vr_v (B.var 2 rfl (by kernel_rfl))) (vr_v (B.var 6 rfl (by kernel_rfl)))) (vr_of w_none))
    (vss_one (vs_ret (ve_tup (va_cons w_str (va_cons (w_sub (vr_ix B.cf.hu1 (vr_v (B.var 3 rfl (by kernel_rfl))) (vr_v (B.var 6 rfl (by kernel_rfl)))) (vr_of w_int)) va_nil)))))
    vss_nil)
    (vss_one (vs_for BB.own B.cf.calm (vi_seq (ve_ix B.cf.hu1 (ve_ixN B.cf.hu1 (B.var 1 rfl (by kernel_rfl)) (vr_v (B.var 6 rfl (by kernel_rfl)))) (vr_of w_int))) (vg_tup 2 B.cf.calm (vgs_cons (B.tgt (by decide +kernel) 7 rfl (by kernel_rfl)) (vgs_cons (B.tgt (by decide +kernel) 8 rfl (by kernel_rfl)) vgs_nil)))
    (vss_one (vs_if (w_cmpT (cw_notin B.cf) (vr_v (B.var 8 rfl (by kernel_rfl))) (vr_v (B.var 3 rfl (by kernel_rfl))))
    (vss_cons (vs_setP 0 B.cf.hu1 (w_add (vr_ix B.cf.hu1 (vr_v (B.var 3 rfl (by kernel_rfl))) (vr_v (B.var 6 rfl (by kernel_rfl)))) (vr_of w_int)) (vp_name (B.var 3 rfl (by kernel_rfl))) (vr_v (B.var 8 rfl (by kernel_rfl))))
    (vss_one (vs_expr (ve_append 0 (B.var 4 rfl (by kernel_rfl)) (ve_v (B.var 8 rfl (by kernel_rfl)))))))
    vss_nil))))))))
    (vss_one (vs_ret (ve_tup (va_cons w_str va_nil)))))))))))
theorem k_latest {P : Program} {w : World} {K : PySem.W.Frag} {mg : PySem.Str → Option Value} {base : Heap} (Z : Fx fa K mg) {fd : FuncData} (F : FunD K "latest" "latest" (defArgs s_latest) (defBody s_latest) (defScope s_latest) [] [] (He.ga K "latest") fd) (kp : PySem.W.keepIn K (.ref (He.ga K "latest")) = true) (h_belief_graph : Dn P w K mg base 4 ("belief_graph", none) ["arena"] (spP K 1 n_belief_graph)) (h_strike : Dn P w K mg base 2 ("strike", none) ["steps"] (spP K 1 n_strike)) : Dn P w K mg base 5 ("latest", none) ["arena"] (spP K 1 n_latest) := by
  refine ⟨⟨fd, fn_P (P := P) (w := w) (mg := mg) (base := base) (N := N_latest) (ps := ["arena"]) (lv := 4) (raw := r_latest) F (scB_ok (by kernel_rfl)) (fun X W e1 e2 e3 e4 e5 B => by subst e1 e2 e3 e4 e5; exact b_latest B Z h_belief_graph h_strike), F.bindsN fun _ _ _ _ _ _ us hl => ?_⟩, kp⟩
  exact match us, hl with | [u0], _ => rfl
def N__law_cell : List PySem.Str := ["script", "k"]
theorem b__law_cell {X : Cx} {W : WX} (BB : Bd X W 0 N__law_cell (defScope s__law_cell)) (Z : Fx fa X.K X.mg) : VSs X W (defBody s__law_cell) r__law_cell := by
  have B := BB.bx
  exact (vss_cons (vs_if (w_cmpT cw_lt (vr_v (B.var 1 rfl (by kernel_rfl))) (vr_of (w_lenA B (Z.free 0) (by kernel_rfl) (vra_cons (vr_v (B.var 0 rfl (by kernel_rfl))) vra_nil))))
    (vss_one (vs_ret (w_abs B (Z.free 38) (by kernel_rfl) (vra_cons (vr_of (w_intc B (Z.free 37) (by kernel_rfl) (vra_cons (vr_ix B.cf.hu1 (vr_v (B.var 0 rfl (by kernel_rfl))) (vr_v (B.var 1 rfl (by kernel_rfl)))) vra_nil))) vra_nil))))
    vss_nil)
    (vss_one (vs_ret w_int)))
theorem k__law_cell {P : Program} {w : World} {K : PySem.W.Frag} {mg : PySem.Str → Option Value} {base : Heap} (Z : Fx fa K mg) {fd : FuncData} (F : FunD K "_law_cell" "_law_cell" (defArgs s__law_cell) (defBody s__law_cell) (defScope s__law_cell) [] [] (He.ga K "_law_cell") fd) (kp : PySem.W.keepIn K (.ref (He.ga K "_law_cell")) = true) : Dn P w K mg base 1 ("_law_cell", none) ["script", "k"] (spP K 2 n__law_cell) := by
  refine ⟨⟨fd, fn_P (P := P) (w := w) (mg := mg) (base := base) (N := N__law_cell) (ps := ["script", "k"]) (lv := 0) (raw := r__law_cell) F (scB_ok (by kernel_rfl)) (fun X W e1 e2 e3 e4 e5 B => by subst e1 e2 e3 e4 e5; exact b__law_cell B Z), F.bindsN fun _ _ _ _ _ _ us hl => ?_⟩, kp⟩
  exact match us, hl with | [u0, u1], _ => rfl
def N__law_mixed : List PySem.Str := ["seed", "turn", "many", "one", "two", "three"]
theorem b__law_mixed {X : Cx} {W : WX} (BB : Bd X W 0 N__law_mixed (defScope s__law_mixed)) (Z : Fx fa X.K X.mg) : VSs X W (defBody s__law_mixed) r__law_mixed := by
  have B := BB.bx
  exact (vss_cons (vs_asg (w_mod (vr_of (w_intc B (Z.free 37) (by kernel_rfl) (vra_cons (vr_of (w_add (vr_of (w_add (vr_of (w_mul (vr_v (B.var 0 rfl (by kernel_rfl))) (vr_of w_int))) (vr_of (w_mul (vr_v (B.var 1 rfl (by kernel_rfl))) (vr_of w_int))))) (vr_of w_int))) vra_nil))) (vr_of w_int)) (B.nd (by decide +kernel)) (B.n 3 rfl) (BB.loc (by kernel_rfl)) (hf := .inl (BB.fn _)))
    (vss_cons (vs_asg (w_mod (vr_of (w_intc B (Z.free 37) (by kernel_rfl) (vra_cons (vr_of (w_add (vr_of (w_add (vr_of (w_mul (vr_v (B.var 3 rfl (by kernel_rfl))) (vr_v (B.var 3 rfl (by kernel_rfl))))) (vr_of (w_mul (vr_v (B.var 1 rfl (by kernel_rfl))) (vr_of w_int))))) (vr_of w_int))) vra_nil))) (vr_of w_int)) (B.nd (by decide +kernel)) (B.n 4 rfl) (BB.loc (by kernel_rfl)) (hf := .inl (BB.fn _)))
    (vss_cons (vs_asg (w_mod (vr_of (w_intc B (Z.free 37) (by kernel_rfl) (vra_cons (vr_of (w_add (vr_of (w_add (vr_of (w_mul (vr_v (B.var 4 rfl (by kernel_rfl))) (vr_v (B.var 4 rfl (by kernel_rfl))))) (vr_v (B.var 3 rfl (by kernel_rfl))))) (vr_of w_int))) vra_nil))) (vr_of w_int)) (B.nd (by decide +kernel)) (B.n 5 rfl) (BB.loc (by kernel_rfl)) (hf := .inl (BB.fn _)))
    (vss_one (vs_ret (w_mod (vr_of (w_intc B (Z.free 37) (by kernel_rfl) (vra_cons (vr_of (w_div (vr_v (B.var 5 rfl (by kernel_rfl))) (vr_of w_int))) vra_nil))) (vr_v (B.var 2 rfl (by kernel_rfl)))))))))
theorem k__law_mixed {P : Program} {w : World} {K : PySem.W.Frag} {mg : PySem.Str → Option Value} {base : Heap} (Z : Fx fa K mg) {fd : FuncData} (F : FunD K "_law_mixed" "_law_mixed" (defArgs s__law_mixed) (defBody s__law_mixed) (defScope s__law_mixed) [] [] (He.ga K "_law_mixed") fd) (kp : PySem.W.keepIn K (.ref (He.ga K "_law_mixed")) = true) : Dn P w K mg base 1 ("_law_mixed", none) ["seed", "turn", "many"] (spP K 3 n__law_mixed) := by
  refine ⟨⟨fd, fn_P (P := P) (w := w) (mg := mg) (base := base) (N := N__law_mixed) (ps := ["seed", "turn", "many"]) (lv := 0) (raw := r__law_mixed) F (scB_ok (by kernel_rfl)) (fun X W e1 e2 e3 e4 e5 B => by subst e1 e2 e3 e4 e5; exact b__law_mixed B Z), F.bindsN fun _ _ _ _ _ _ us hl => ?_⟩, kp⟩
  exact match us, hl with | [u0, u1, u2], _ => rfl
def N__law_pool : List PySem.Str := ["script", "k", "cell"]
theorem b__law_pool {X : Cx} {W : WX} (BB : Bd X W 1 N__law_pool (defScope s__law_pool)) (Z : Fx fa X.K X.mg) (h__law_cell : Dn X.prog X.w X.K X.mg X.base 1 ("_law_cell", none) ["script", "k"] (spP X.K 2 n__law_cell)) : VSs X W (defBody s__law_pool) r__law_pool := by
  have B := BB.bx
  exact (vss_cons (vs_asg (ve_callN 2 B.cf h__law_cell (by omega) (B.gl (by kernel_rfl)) (Z.glo 39) (va_cons (ve_v (B.var 0 rfl (by kernel_rfl))) (va_cons (ve_v (B.var 1 rfl (by kernel_rfl))) va_nil))) (B.nd (by decide +kernel)) (B.n 2 rfl) (BB.loc (by kernel_rfl)) (hf := .inl (BB.fn _)))
    (vss_cons (vs_if (w_cmpT cw_ge (vr_v (B.var 2 rfl (by kernel_rfl))) (vr_of (w_pow (vr_of w_int) (vr_of w_int))))
    (vss_one (vs_ret (ve_lst (va_cons (w_sub (vr_v (B.var 2 rfl (by kernel_rfl))) (vr_of (w_pow (vr_of w_int) (vr_of w_int)))) (va_cons (w_mod (vr_of (w_intc B (Z.free 37) (by kernel_rfl) (vra_cons (vr_v (B.var 2 rfl (by kernel_rfl))) vra_nil))) (vr_of w_int)) (va_cons w_int va_nil))))))
    vss_nil)
    (vss_one (vs_ret (ve_lst (va_cons w_int (va_cons (w_mod (vr_of (w_intc B (Z.free 37) (by kernel_rfl) (vra_cons (vr_of (w_add (vr_of (w_mul (vr_v (B.var 2 rfl (by kernel_rfl))) (vr_of w_int))) (vr_v (B.var 1 rfl (by kernel_rfl))))) vra_nil))) (vr_of (w_pow (vr_of w_int) (vr_of w_int)))) (va_cons w_int va_nil))))))))
theorem k__law_pool {P : Program} {w : World} {K : PySem.W.Frag} {mg : PySem.Str → Option Value} {base : Heap} (Z : Fx fa K mg) {fd : FuncData} (F : FunD K "_law_pool" "_law_pool" (defArgs s__law_pool) (defBody s__law_pool) (defScope s__law_pool) [] [] (He.ga K "_law_pool") fd) (kp : PySem.W.keepIn K (.ref (He.ga K "_law_pool")) = true) (h__law_cell : Dn P w K mg base 1 ("_law_cell", none) ["script", "k"] (spP K 2 n__law_cell)) : Dn P w K mg base 2 ("_law_pool", none) ["script", "k"] (spP K 2 n__law_pool) := by
  refine ⟨⟨fd, fn_P (P := P) (w := w) (mg := mg) (base := base) (N := N__law_pool) (ps := ["script", "k"]) (lv := 1) (raw := r__law_pool) F (scB_ok (by kernel_rfl)) (fun X W e1 e2 e3 e4 e5 B => by subst e1 e2 e3 e4 e5; exact b__law_pool B Z h__law_cell), F.bindsN fun _ _ _ _ _ _ us hl => ?_⟩, kp⟩
  exact match us, hl with | [u0, u1], _ => rfl
def N__law_draw : List PySem.Str := ["pool", "many", "told"]
theorem b__law_draw {X : Cx} {W : WX} (BB : Bd X W 1 N__law_draw (defScope s__law_draw)) (Z : Fx fa X.K X.mg) (h__law_mixed : Dn X.prog X.w X.K X.mg X.base 1 ("_law_mixed", none) ["seed", "turn", "many"] (spP X.K 3 n__law_mixed)) : VSs X W (defBody s__law_draw) r__law_draw := by
  have B := BB.bx
  exact (vss_cons (vs_if (w_cmpT cw_gt (vr_ix B.cf.hu1 (vr_v (B.var 0 rfl (by kernel_rfl))) (vr_of w_int)) (vr_of w_int))
    (vss_cons (vs_asg (w_mod (vr_of (w_intc B (Z.free 37) (by kernel_rfl) (vra_cons (vr_ix B.cf.hu1 (vr_v (B.var 0 rfl (by kernel_rfl))) (vr_of w_int)) vra_nil))) (vr_v (B.var 1 rfl (by kernel_rfl)))) (B.nd (by decide +kernel)) (B.n 2 rfl) (BB.loc (by kernel_rfl)) (hf := .inl (BB.fn _)))
    (vss_cons (vs_setP 0 B.cf.hu1 (w_div (vr_ix B.cf.hu1 (vr_v (B.var 0 rfl (by kernel_rfl))) (vr_of w_int)) (vr_v (B.var 1 rfl (by kernel_rfl)))) (vp_name (B.var 0 rfl (by kernel_rfl))) (vr_of w_int))
    (vss_one (vs_retV (B.var 2 rfl (by kernel_rfl))))))
    vss_nil)
    (vss_cons (vs_setP 0 B.cf.hu1 (w_add (vr_ix B.cf.hu1 (vr_v (B.var 0 rfl (by kernel_rfl))) (vr_of w_int)) (vr_of w_int)) (vp_name (B.var 0 rfl (by kernel_rfl))) (vr_of w_int))
    (vss_one (vs_ret (ve_callN 3 B.cf h__law_mixed (by omega) (B.gl (by kernel_rfl)) (Z.glo 40) (va_cons (ve_ixN B.cf.hu1 (B.var 0 rfl (by kernel_rfl)) (vr_of w_int)) (va_cons (ve_ixN B.cf.hu1 (B.var 0 rfl (by kernel_rfl)) (vr_of w_int)) (va_cons (ve_v (B.var 1 rfl (by kernel_rfl))) va_nil))))))))
theorem k__law_draw {P : Program} {w : World} {K : PySem.W.Frag} {mg : PySem.Str → Option Value} {base : Heap} (Z : Fx fa K mg) {fd : FuncData} (F : FunD K "_law_draw" "_law_draw" (defArgs s__law_draw) (defBody s__law_draw) (defScope s__law_draw) [] [] (He.ga K "_law_draw") fd) (kp : PySem.W.keepIn K (.ref (He.ga K "_law_draw")) = true) (h__law_mixed : Dn P w K mg base 1 ("_law_mixed", none) ["seed", "turn", "many"] (spP K 3 n__law_mixed)) : Dn P w K mg base 2 ("_law_draw", none) ["pool", "many"] (spI K 2 0 1 n__law_draw) := by
  refine ⟨⟨fd, fn_I (P := P) (w := w) (mg := mg) (base := base) (N := N__law_draw) (ps := ["pool", "many"]) (lv := 1) (raw := r__law_draw) F (scB_ok (by kernel_rfl)) (j := 0) (k := 0) rfl (fun X W e1 e2 e3 e4 e5 B => by subst e1 e2 e3 e4 e5; exact b__law_draw B Z h__law_mixed), F.bindsN fun _ _ _ _ _ _ us hl => ?_⟩, kp⟩
  exact match us, hl with | [u0, u1], _ => rfl
def N__law_chance : List PySem.Str := ["pool", "one", "of"]
theorem b__law_chance {X : Cx} {W : WX} (BB : Bd X W 2 N__law_chance (defScope s__law_chance)) (Z : Fx fa X.K X.mg) (h__law_draw : Dn X.prog X.w X.K X.mg X.base 2 ("_law_draw", none) ["pool", "many"] (spI X.K 2 0 1 n__law_draw)) : VSs X W (defBody s__law_chance) r__law_chance := by
  have B := BB.bx
  exact (vss_one (vs_ret (w_cmp cw_lt (vr_of (ve_callIN 1 B.cf h__law_draw (by omega) (B.gl (by kernel_rfl)) (Z.glo 41) (vai_here (B.var 0 rfl (by kernel_rfl)) (va_cons (ve_v (B.var 2 rfl (by kernel_rfl))) va_nil)))) (vr_v (B.var 1 rfl (by kernel_rfl))))))
theorem k__law_chance {P : Program} {w : World} {K : PySem.W.Frag} {mg : PySem.Str → Option Value} {base : Heap} (Z : Fx fa K mg) {fd : FuncData} (F : FunD K "_law_chance" "_law_chance" (defArgs s__law_chance) (defBody s__law_chance) (defScope s__law_chance) [] [] (He.ga K "_law_chance") fd) (kp : PySem.W.keepIn K (.ref (He.ga K "_law_chance")) = true) (h__law_draw : Dn P w K mg base 2 ("_law_draw", none) ["pool", "many"] (spI K 2 0 1 n__law_draw)) : Dn P w K mg base 3 ("_law_chance", none) ["pool", "one", "of"] (spI K 3 0 1 n__law_chance) := by
  refine ⟨⟨fd, fn_I (P := P) (w := w) (mg := mg) (base := base) (N := N__law_chance) (ps := ["pool", "one", "of"]) (lv := 2) (raw := r__law_chance) F (scB_ok (by kernel_rfl)) (j := 0) (k := 0) rfl (fun X W e1 e2 e3 e4 e5 B => by subst e1 e2 e3 e4 e5; exact b__law_chance B Z h__law_draw), F.bindsN fun _ _ _ _ _ _ us hl => ?_⟩, kp⟩
  exact match us, hl with | [u0, u1, u2], _ => rfl
def N__law_same : List PySem.Str := ["got", "due", "at", "key"]
theorem b__law_same {X : Cx} {W : WX} {n__law_same : List D → Rs (Nat × D)} {l lv : Nat} (hl : l ≤ lv) (hl0 : 0 ≤ lv) (BB : Bd X W lv N__law_same (defScope s__law_same)) (Z : Fx fa X.K X.mg) (h__law_same : Dn X.prog X.w X.K X.mg X.base l ("_law_same", none) ["got", "due"] (spP X.K 2 n__law_same)) : VSs X W (defBody s__law_same) (r__law_same n__law_same) := by
  have B := BB.bx
  exact (vss_cons (vs_if (w_cmpT cw_isA (vr_v (B.var 1 rfl (by kernel_rfl))) (vr_of w_none))
    (vss_one (vs_ret (w_cmp cw_isA (vr_v (B.var 0 rfl (by kernel_rfl))) (vr_of w_none))))
    vss_nil)
    (vss_cons (vs_if (w_cmpT cw_isA (vr_v (B.var 1 rfl (by kernel_rfl))) (vr_of w_bool))
    (vss_one (vs_ret (w_cmp cw_isA (vr_v (B.var 0 rfl (by kernel_rfl))) (vr_of w_bool))))
    vss_nil)
    (vss_cons (vs_if (w_cmpT cw_isA (vr_v (B.var 1 rfl (by kernel_rfl))) (vr_of w_bool))
    (vss_one (vs_ret (w_cmp cw_isA (vr_v (B.var 0 rfl (by kernel_rfl))) (vr_of w_bool))))
    vss_nil)
    (vss_cons (vs_if (vt_tru (vr_of (ve_b (w_isi "int" B (by decide) PyProof.Rows.boot_int (Z.free 42) (by kernel_rfl) (Z.free 37) (by kernel_rfl) (vr_v (B.var 1 rfl (by kernel_rfl)))))) (by intro _; rfl))
    (vss_one (vs_ret (ve_b (vb_and (w_isi "int" B (by decide) PyProof.Rows.boot_int (Z.free 42) (by kernel_rfl) (Z.free 37) (by kernel_rfl) (vr_v (B.var 0 rfl (by kernel_rfl)))) (vb_and (vb_not (w_isi "bool" B (by decide) PyProof.Rows.boot_bool (Z.free 42) (by kernel_rfl) (Z.free 43) (by kernel_rfl) (vr_v (B.var 0 rfl (by kernel_rfl))))) (vb_one (vb_e (w_cmp (cw_eq B.cf) (vr_v (B.var 0 rfl (by kernel_rfl))) (vr_v (B.var 1 rfl (by kernel_rfl)))))))))))
    vss_nil)
    (vss_cons (vs_if (vt_tru (vr_of (ve_b (w_isi "str" B (by decide) PyProof.Rows.boot_str (Z.free 42) (by kernel_rfl) (Z.free 44) (by kernel_rfl) (vr_v (B.var 1 rfl (by kernel_rfl)))))) (by intro _; rfl))
    (vss_one (vs_ret (ve_b (vb_and (w_isi "str" B (by decide) PyProof.Rows.boot_str (Z.free 42) (by kernel_rfl) (Z.free 44) (by kernel_rfl) (vr_v (B.var 0 rfl (by kernel_rfl)))) (vb_one (vb_e (w_cmp (cw_eq B.cf) (vr_v (B.var 0 rfl (by kernel_rfl))) (vr_v (B.var 1 rfl (by kernel_rfl))))))))))
    vss_nil)
    (vss_cons (vs_if (vt_tru (vr_of (ve_b (w_isi "dict" B (by decide) PyProof.Rows.boot_dict (Z.free 42) (by kernel_rfl) (Z.free 45) (by kernel_rfl) (vr_v (B.var 1 rfl (by kernel_rfl)))))) (by intro _; rfl))
    (vss_cons (vs_if (vt_w (vw_or (vt_not (vt_tru (vr_of (ve_b (w_isi "dict" B (by decide) PyProof.Rows.boot_dict (Z.free 42) (by kernel_rfl) (Z.free 45) (by kernel_rfl) (vr_v (B.var 0 rfl (by kernel_rfl)))))) (by intro _; rfl))) (vw_or1 (w_cmpT (cw_ne B.cf) (vr_of (w_lenA B (Z.free 0) (by kernel_rfl) (vra_cons (vr_v (B.var 0 rfl (by kernel_rfl))) vra_nil))) (vr_of (w_lenA B (Z.free 0) (by kernel_rfl) (vra_cons (vr_v (B.var 1 rfl (by kernel_rfl))) vra_nil)))))))
    (vss_one (vs_ret w_bool))
    vss_nil)
    (vss_cons (vs_for BB.own B.cf.calm (vi_seq (ve_v (B.var 1 rfl (by kernel_rfl)))) (B.tgt (by decide +kernel) 3 rfl (by kernel_rfl))
    (vss_one (vs_if (vt_w (vw_or (w_cmpT (cw_notin B.cf) (vr_v (B.var 3 rfl (by kernel_rfl))) (vr_v (B.var 0 rfl (by kernel_rfl)))) (vw_or1 (vt_not (vt_tru (vr_of (ve_callN 2 B.cf h__law_same (by omega) (B.gl (by kernel_rfl)) (Z.glo 46) (va_cons (ve_ixN B.cf.hu1 (B.var 0 rfl (by kernel_rfl)) (vr_v (B.var 3 rfl (by kernel_rfl)))) (va_cons (ve_ixN B.cf.hu1 (B.var 1 rfl (by kernel_rfl)) (vr_v (B.var 3 rfl (by kernel_rfl)))) va_nil)))) (by intro _; rfl))))))
    (vss_one (vs_ret w_bool))
    vss_nil)))
    (vss_one (vs_ret w_bool))))
    vss_nil)
    (vss_cons (vs_if (vt_w (vw_or (w_cmpT (cw_ne B.cf) (vr_of (ve_b (w_isi "list" B (by decide) PyProof.Rows.boot_list (Z.free 42) (by kernel_rfl) (Z.free 21) (by kernel_rfl) (vr_v (B.var 1 rfl (by kernel_rfl)))))) (vr_of (ve_b (w_isi "list" B (by decide) PyProof.Rows.boot_list (Z.free 42) (by kernel_rfl) (Z.free 21) (by kernel_rfl) (vr_v (B.var 0 rfl (by kernel_rfl))))))) (vw_or1 (w_cmpT (cw_ne B.cf) (vr_of (ve_b (w_isi "tuple" B (by decide) PyProof.Rows.boot_tuple (Z.free 42) (by kernel_rfl) (Z.free 19) (by kernel_rfl) (vr_v (B.var 1 rfl (by kernel_rfl)))))) (vr_of (ve_b (w_isi "tuple" B (by decide) PyProof.Rows.boot_tuple (Z.free 42) (by kernel_rfl) (Z.free 19) (by kernel_rfl) (vr_v (B.var 0 rfl (by kernel_rfl))))))))))
    (vss_one (vs_ret w_bool))
    vss_nil)
    (vss_cons (vs_if (w_cmpT (cw_ne B.cf) (vr_of (w_lenA B (Z.free 0) (by kernel_rfl) (vra_cons (vr_v (B.var 0 rfl (by kernel_rfl))) vra_nil))) (vr_of (w_lenA B (Z.free 0) (by kernel_rfl) (vra_cons (vr_v (B.var 1 rfl (by kernel_rfl))) vra_nil))))
    (vss_one (vs_ret w_bool))
    vss_nil)
    (vss_cons (vs_for BB.own B.cf.calm (vi_range1 (B.gl (by kernel_rfl)) (Z.free 1) (vra_cons (vr_of (w_lenA B (Z.free 0) (by kernel_rfl) (vra_cons (vr_v (B.var 1 rfl (by kernel_rfl))) vra_nil))) vra_nil)) (B.tgt (by decide +kernel) 2 rfl (by kernel_rfl))
    (vss_one (vs_if (vt_not (vt_tru (vr_of (ve_callN 2 B.cf h__law_same (by omega) (B.gl (by kernel_rfl)) (Z.glo 46) (va_cons (ve_ixN B.cf.hu1 (B.var 0 rfl (by kernel_rfl)) (vr_v (B.var 2 rfl (by kernel_rfl)))) (va_cons (ve_ixN B.cf.hu1 (B.var 1 rfl (by kernel_rfl)) (vr_v (B.var 2 rfl (by kernel_rfl)))) va_nil)))) (by intro _; rfl)))
    (vss_one (vs_ret w_bool))
    vss_nil)))
    (vss_one (vs_ret w_bool)))))))))))
theorem k__law_same {P : Program} {w : World} {K : PySem.W.Frag} {mg : PySem.Str → Option Value} {base : Heap} (Z : Fx fa K mg) {fd : FuncData} (F : FunD K "_law_same" "_law_same" (defArgs s__law_same) (defBody s__law_same) (defScope s__law_same) [] [] (He.ga K "_law_same") fd) (kp : PySem.W.keepIn K (.ref (He.ga K "_law_same")) = true) : ∀ m : Nat, Dn P w K mg base (0 + m) ("_law_same", none) ["got", "due"] (spP K 2 (n__law_same m))
  | 0 => ⟨⟨fd, ⟨fun vs H Q E h => h.1, fun A outer s H args us vs Q E _ _ _ _ h => by obtain ⟨_, _, _, _, _, z⟩ := h; exact z.elim⟩, F.bindsN fun _ _ _ _ _ _ us hl => by exact match us, hl with | [u0, u1], _ => rfl⟩, kp⟩
  | m + 1 => ⟨⟨fd, fn_P (P := P) (w := w) (mg := mg) (base := base) (N := N__law_same) (ps := ["got", "due"]) (lv := 0 + m) (raw := r__law_same (n__law_same m)) F (scB_ok (by kernel_rfl)) (fun X W e1 e2 e3 e4 e5 B => by subst e1 e2 e3 e4 e5; exact b__law_same (Nat.le_refl _) (by omega) B Z (k__law_same Z F kp m)), F.bindsN fun _ _ _ _ _ _ us hl => by exact match us, hl with | [u0, u1], _ => rfl⟩, kp⟩
def N__law_live : List PySem.Str := ["a", "x"]
theorem b__law_live {X : Cx} {W : WX} (BB : Bd X W 0 N__law_live (defScope s__law_live)) (Z : Fx fa X.K X.mg) : VSs X W (defBody s__law_live) r__law_live := by
  have B := BB.bx
  exact (vss_one (vs_ret (ve_b (vb_and (vb_e (w_cmp (cw_notin B.cf) (vr_v (B.var 1 rfl (by kernel_rfl))) (vr_ix B.cf.hu1 (vr_v (B.var 0 rfl (by kernel_rfl))) (vr_of w_int)))) (vb_one (vb_e (w_cmp cw_gt (vr_of (w_lenA B (Z.free 0) (by kernel_rfl) (vra_cons (vr_ix B.cf.hu1 (vr_ix B.cf.hu1 (vr_v (B.var 0 rfl (by kernel_rfl))) (vr_of w_int)) (vr_v (B.var 1 rfl (by kernel_rfl)))) vra_nil))) (vr_of w_int))))))))
theorem k__law_live {P : Program} {w : World} {K : PySem.W.Frag} {mg : PySem.Str → Option Value} {base : Heap} (Z : Fx fa K mg) {fd : FuncData} (F : FunD K "_law_live" "_law_live" (defArgs s__law_live) (defBody s__law_live) (defScope s__law_live) [] [] (He.ga K "_law_live") fd) (kp : PySem.W.keepIn K (.ref (He.ga K "_law_live")) = true) : Dn P w K mg base 1 ("_law_live", none) ["a", "x"] (spP K 2 n__law_live) := by
  refine ⟨⟨fd, fn_P (P := P) (w := w) (mg := mg) (base := base) (N := N__law_live) (ps := ["a", "x"]) (lv := 0) (raw := r__law_live) F (scB_ok (by kernel_rfl)) (fun X W e1 e2 e3 e4 e5 B => by subst e1 e2 e3 e4 e5; exact b__law_live B Z), F.bindsN fun _ _ _ _ _ _ us hl => ?_⟩, kp⟩
  exact match us, hl with | [u0, u1], _ => rfl
def N__law_commands : List PySem.Str := ["a", "row"]
theorem b__law_commands {X : Cx} {W : WX} (BB : Bd X W 0 N__law_commands (defScope s__law_commands)) (Z : Fx fa X.K X.mg) : VSs X W (defBody s__law_commands) r__law_commands := by
  have B := BB.bx
  exact (vss_cons (vs_for BB.own B.cf.calm (vi_seq (ve_ixN B.cf.hu1 (B.var 0 rfl (by kernel_rfl)) (vr_of w_int))) (B.tgt (by decide +kernel) 1 rfl (by kernel_rfl))
    (vss_one (vs_if (w_cmpT cw_gt (vr_of (w_lenA B (Z.free 0) (by kernel_rfl) (vra_cons (vr_v (B.var 1 rfl (by kernel_rfl))) vra_nil))) (vr_of w_int))
    (vss_one (vs_ret (w_lenA B (Z.free 0) (by kernel_rfl) (vra_cons (vr_v (B.var 1 rfl (by kernel_rfl))) vra_nil))))
    vss_nil)))
    (vss_one (vs_ret w_int)))
theorem k__law_commands {P : Program} {w : World} {K : PySem.W.Frag} {mg : PySem.Str → Option Value} {base : Heap} (Z : Fx fa K mg) {fd : FuncData} (F : FunD K "_law_commands" "_law_commands" (defArgs s__law_commands) (defBody s__law_commands) (defScope s__law_commands) [] [] (He.ga K "_law_commands") fd) (kp : PySem.W.keepIn K (.ref (He.ga K "_law_commands")) = true) : Dn P w K mg base 1 ("_law_commands", none) ["a"] (spP K 1 n__law_commands) := by
  refine ⟨⟨fd, fn_P (P := P) (w := w) (mg := mg) (base := base) (N := N__law_commands) (ps := ["a"]) (lv := 0) (raw := r__law_commands) F (scB_ok (by kernel_rfl)) (fun X W e1 e2 e3 e4 e5 B => by subst e1 e2 e3 e4 e5; exact b__law_commands B Z), F.bindsN fun _ _ _ _ _ _ us hl => ?_⟩, kp⟩
  exact match us, hl with | [u0], _ => rfl
def N__law_after : List PySem.Str := ["a", "b", "c", "o", "out", "x", "move"]
theorem b__law_after {X : Cx} {W : WX} (BB : Bd X W 1 N__law_after (defScope s__law_after)) (Z : Fx fa X.K X.mg) (h__law_live : Dn X.prog X.w X.K X.mg X.base 1 ("_law_live", none) ["a", "x"] (spP X.K 2 n__law_live)) : VSs X W (defBody s__law_after) r__law_after := by
  have B := BB.bx
  exact (vss_cons (vs_asg (ve_lst0 0) (B.nd (by decide +kernel)) (B.n 4 rfl) (BB.loc (by kernel_rfl)) (hf := .inl (BB.fn _)))
    (vss_cons (vs_for BB.own B.cf.calm (vi_seq (ve_v (B.var 1 rfl (by kernel_rfl)))) (B.tgt (by decide +kernel) 5 rfl (by kernel_rfl))
    (vss_one (vs_if (vt_tru (vr_of (ve_callN 2 B.cf h__law_live (by omega) (B.gl (by kernel_rfl)) (Z.glo 47) (va_cons (ve_vs (B.var 0 rfl (by kernel_rfl))) (va_cons (ve_vs (B.var 5 rfl (by kernel_rfl))) va_nil)))) (by intro _; rfl))
    (vss_one (vs_asg (ve_cat (ve_v (B.var 4 rfl (by kernel_rfl))) (w_lc [("move", 6)] 0 B (by decide +kernel) (vi_seq (ve_ix B.cf.hu1 (ve_ix B.cf.hu1 (ve_ixN B.cf.hu1 (B.var 0 rfl (by kernel_rfl)) (vr_of w_int)) (vr_v (B.var 5 rfl (by kernel_rfl)))) (vr_v (B.var 2 rfl (by kernel_rfl))))) (by kernel_rfl) (by decide) (fun s H C cl fp B => (B.tgt (by decide +kernel) 6 rfl (by kernel_rfl))) (by decide) (fun s H C cl fp B => (vts_one (w_cmpT (cw_eq B.cf) (vr_ix B.cf.hu1 (vr_ix B.cf.hu1 (vr_v (B.var 6 rfl (by kernel_rfl))) (vr_of w_int)) (vr_of w_int)) (vr_v (B.var 3 rfl (by kernel_rfl)))))) (fun s H C cl fp B => (ve_ixN B.cf.hu1 (B.var 6 rfl (by kernel_rfl)) (vr_of w_int))))) (B.nd (by decide +kernel)) (B.n 4 rfl) (BB.loc (by kernel_rfl)) (hf := .inl (BB.fn _))))
    vss_nil)))
    (vss_one (vs_ret (ve_tuple (B.gl (by kernel_rfl)) (Z.free 19) (va_cons (w_sortSet B (Z.free 28) (by kernel_rfl) (Z.free 48) (by kernel_rfl) (vr_v (B.var 4 rfl (by kernel_rfl)))) va_nil))))))
theorem k__law_after {P : Program} {w : World} {K : PySem.W.Frag} {mg : PySem.Str → Option Value} {base : Heap} (Z : Fx fa K mg) {fd : FuncData} (F : FunD K "_law_after" "_law_after" (defArgs s__law_after) (defBody s__law_after) (defScope s__law_after) [] [] (He.ga K "_law_after") fd) (kp : PySem.W.keepIn K (.ref (He.ga K "_law_after")) = true) (h__law_live : Dn P w K mg base 1 ("_law_live", none) ["a", "x"] (spP K 2 n__law_live)) : Dn P w K mg base 2 ("_law_after", none) ["a", "b", "c", "o"] (spP K 4 n__law_after) := by
  refine ⟨⟨fd, fn_P (P := P) (w := w) (mg := mg) (base := base) (N := N__law_after) (ps := ["a", "b", "c", "o"]) (lv := 1) (raw := r__law_after) F (scB_ok (by kernel_rfl)) (fun X W e1 e2 e3 e4 e5 B => by subst e1 e2 e3 e4 e5; exact b__law_after B Z h__law_live), F.bindsN fun _ _ _ _ _ _ us hl => ?_⟩, kp⟩
  exact match us, hl with | [u0, u1, u2, u3], _ => rfl
def N__law_answers : List PySem.Str := ["a", "b", "c", "out", "x", "move"]
theorem b__law_answers {X : Cx} {W : WX} (BB : Bd X W 1 N__law_answers (defScope s__law_answers)) (Z : Fx fa X.K X.mg) (h__law_live : Dn X.prog X.w X.K X.mg X.base 1 ("_law_live", none) ["a", "x"] (spP X.K 2 n__law_live)) : VSs X W (defBody s__law_answers) r__law_answers := by
  have B := BB.bx
  exact (vss_cons (vs_asg (ve_lst0 0) (B.nd (by decide +kernel)) (B.n 3 rfl) (BB.loc (by kernel_rfl)) (hf := .inl (BB.fn _)))
    (vss_cons (vs_for BB.own B.cf.calm (vi_seq (ve_v (B.var 1 rfl (by kernel_rfl)))) (B.tgt (by decide +kernel) 4 rfl (by kernel_rfl))
    (vss_one (vs_if (vt_tru (vr_of (ve_callN 2 B.cf h__law_live (by omega) (B.gl (by kernel_rfl)) (Z.glo 47) (va_cons (ve_vs (B.var 0 rfl (by kernel_rfl))) (va_cons (ve_vs (B.var 4 rfl (by kernel_rfl))) va_nil)))) (by intro _; rfl))
    (vss_one (vs_asg (ve_cat (ve_v (B.var 3 rfl (by kernel_rfl))) (w_lc [("move", 5)] 0 B (by decide +kernel) (vi_seq (ve_ix B.cf.hu1 (ve_ix B.cf.hu1 (ve_ixN B.cf.hu1 (B.var 0 rfl (by kernel_rfl)) (vr_of w_int)) (vr_v (B.var 4 rfl (by kernel_rfl)))) (vr_v (B.var 2 rfl (by kernel_rfl))))) (by kernel_rfl) (by decide) (fun s H C cl fp B => (B.tgt (by decide +kernel) 5 rfl (by kernel_rfl))) (by decide) (fun s H C cl fp B => vts_nil) (fun s H C cl fp B => (ve_ix B.cf.hu1 (ve_ixN B.cf.hu1 (B.var 5 rfl (by kernel_rfl)) (vr_of w_int)) (vr_of w_int))))) (B.nd (by decide +kernel)) (B.n 3 rfl) (BB.loc (by kernel_rfl)) (hf := .inl (BB.fn _))))
    vss_nil)))
    (vss_one (vs_ret (w_sortSet B (Z.free 28) (by kernel_rfl) (Z.free 48) (by kernel_rfl) (vr_v (B.var 3 rfl (by kernel_rfl))))))))
theorem k__law_answers {P : Program} {w : World} {K : PySem.W.Frag} {mg : PySem.Str → Option Value} {base : Heap} (Z : Fx fa K mg) {fd : FuncData} (F : FunD K "_law_answers" "_law_answers" (defArgs s__law_answers) (defBody s__law_answers) (defScope s__law_answers) [] [] (He.ga K "_law_answers") fd) (kp : PySem.W.keepIn K (.ref (He.ga K "_law_answers")) = true) (h__law_live : Dn P w K mg base 1 ("_law_live", none) ["a", "x"] (spP K 2 n__law_live)) : Dn P w K mg base 2 ("_law_answers", none) ["a", "b", "c"] (spP K 3 n__law_answers) := by
  refine ⟨⟨fd, fn_P (P := P) (w := w) (mg := mg) (base := base) (N := N__law_answers) (ps := ["a", "b", "c"]) (lv := 1) (raw := r__law_answers) F (scB_ok (by kernel_rfl)) (fun X W e1 e2 e3 e4 e5 B => by subst e1 e2 e3 e4 e5; exact b__law_answers B Z h__law_live), F.bindsN fun _ _ _ _ _ _ us hl => ?_⟩, kp⟩
  exact match us, hl with | [u0, u1, u2], _ => rfl
def N__law_follows : List PySem.Str := ["a", "b", "c", "o"]
theorem b__law_follows {X : Cx} {W : WX} (BB : Bd X W 2 N__law_follows (defScope s__law_follows)) (Z : Fx fa X.K X.mg) (h__law_answers : Dn X.prog X.w X.K X.mg X.base 2 ("_law_answers", none) ["a", "b", "c"] (spP X.K 3 n__law_answers)) (h__law_after : Dn X.prog X.w X.K X.mg X.base 2 ("_law_after", none) ["a", "b", "c", "o"] (spP X.K 4 n__law_after)) : VSs X W (defBody s__law_follows) r__law_follows := by
  have B := BB.bx
  exact (vss_one (vs_ret (w_lc [("o", 3)] 0 B (by decide +kernel) (vi_seq (ve_callN 3 B.cf h__law_answers (by omega) (B.gl (by kernel_rfl)) (Z.glo 49) (va_cons (ve_v (B.var 0 rfl (by kernel_rfl))) (va_cons (ve_v (B.var 1 rfl (by kernel_rfl))) (va_cons (ve_v (B.var 2 rfl (by kernel_rfl))) va_nil))))) (by kernel_rfl) (by decide) (fun s H C cl fp B => (B.tgt (by decide +kernel) 3 rfl (by kernel_rfl))) (by decide) (fun s H C cl fp B => vts_nil) (fun s H C cl fp B => (ve_tup (va_cons (ve_v (B.var 3 rfl (by kernel_rfl))) (va_cons (ve_callN 4 B.cf h__law_after (by omega) (B.gl (by kernel_rfl)) (Z.glo 50) (va_cons (ve_v (B.var 0 rfl (by kernel_rfl))) (va_cons (ve_v (B.var 1 rfl (by kernel_rfl))) (va_cons (ve_v (B.var 2 rfl (by kernel_rfl))) (va_cons (ve_v (B.var 3 rfl (by kernel_rfl))) va_nil))))) va_nil)))))))
theorem k__law_follows {P : Program} {w : World} {K : PySem.W.Frag} {mg : PySem.Str → Option Value} {base : Heap} (Z : Fx fa K mg) {fd : FuncData} (F : FunD K "_law_follows" "_law_follows" (defArgs s__law_follows) (defBody s__law_follows) (defScope s__law_follows) [] [] (He.ga K "_law_follows") fd) (kp : PySem.W.keepIn K (.ref (He.ga K "_law_follows")) = true) (h__law_answers : Dn P w K mg base 2 ("_law_answers", none) ["a", "b", "c"] (spP K 3 n__law_answers)) (h__law_after : Dn P w K mg base 2 ("_law_after", none) ["a", "b", "c", "o"] (spP K 4 n__law_after)) : Dn P w K mg base 3 ("_law_follows", none) ["a", "b", "c"] (spP K 3 n__law_follows) := by
  refine ⟨⟨fd, fn_P (P := P) (w := w) (mg := mg) (base := base) (N := N__law_follows) (ps := ["a", "b", "c"]) (lv := 2) (raw := r__law_follows) F (scB_ok (by kernel_rfl)) (fun X W e1 e2 e3 e4 e5 B => by subst e1 e2 e3 e4 e5; exact b__law_follows B Z h__law_answers h__law_after), F.bindsN fun _ _ _ _ _ _ us hl => ?_⟩, kp⟩
  exact match us, hl with | [u0, u1, u2], _ => rfl
def N__law_has_bad : List PySem.Str := ["a", "b", "x"]
theorem b__law_has_bad {X : Cx} {W : WX} (BB : Bd X W 0 N__law_has_bad (defScope s__law_has_bad)) (Z : Fx fa X.K X.mg) : VSs X W (defBody s__law_has_bad) r__law_has_bad := by
  have B := BB.bx
  exact (vss_one (vs_ret (w_cmp cw_gt (vr_of (w_lenA B (Z.free 0) (by kernel_rfl) (vra_cons (vr_of (w_lc [("x", 2)] 0 B (by decide +kernel) (vi_seq (ve_v (B.var 1 rfl (by kernel_rfl)))) (by kernel_rfl) (by decide) (fun s H C cl fp B => (B.tgt (by decide +kernel) 2 rfl (by kernel_rfl))) (by decide) (fun s H C cl fp B => (vts_one (w_cmpT (cw_in B.cf) (vr_v (B.var 2 rfl (by kernel_rfl))) (vr_ix B.cf.hu1 (vr_v (B.var 0 rfl (by kernel_rfl))) (vr_of w_int))))) (fun s H C cl fp B => (ve_v (B.var 2 rfl (by kernel_rfl)))))) vra_nil))) (vr_of w_int))))
theorem k__law_has_bad {P : Program} {w : World} {K : PySem.W.Frag} {mg : PySem.Str → Option Value} {base : Heap} (Z : Fx fa K mg) {fd : FuncData} (F : FunD K "_law_has_bad" "_law_has_bad" (defArgs s__law_has_bad) (defBody s__law_has_bad) (defScope s__law_has_bad) [] [] (He.ga K "_law_has_bad") fd) (kp : PySem.W.keepIn K (.ref (He.ga K "_law_has_bad")) = true) : Dn P w K mg base 1 ("_law_has_bad", none) ["a", "b"] (spP K 2 n__law_has_bad) := by
  refine ⟨⟨fd, fn_P (P := P) (w := w) (mg := mg) (base := base) (N := N__law_has_bad) (ps := ["a", "b"]) (lv := 0) (raw := r__law_has_bad) F (scB_ok (by kernel_rfl)) (fun X W e1 e2 e3 e4 e5 B => by subst e1 e2 e3 e4 e5; exact b__law_has_bad B Z), F.bindsN fun _ _ _ _ _ _ us hl => ?_⟩, kp⟩
  exact match us, hl with | [u0, u1], _ => rfl
def N__law_beliefs : List PySem.Str := ["a", "cap", "known", "todo", "turn", "c", "row"]
theorem b__law_beliefs {X : Cx} {W : WX} (BB : Bd X W 3 N__law_beliefs (defScope s__law_beliefs)) (Z : Fx fa X.K X.mg) (h__law_has_bad : Dn X.prog X.w X.K X.mg X.base 1 ("_law_has_bad", none) ["a", "b"] (spP X.K 2 n__law_has_bad)) (h__law_commands : Dn X.prog X.w X.K X.mg X.base 1 ("_law_commands", none) ["a"] (spP X.K 1 n__law_commands)) (h__law_follows : Dn X.prog X.w X.K X.mg X.base 3 ("_law_follows", none) ["a", "b", "c"] (spP X.K 3 n__law_follows)) : VSs X W (defBody s__law_beliefs) r__law_beliefs := by
  have B := BB.bx
  exact (vss_cons (vs_asg (ve_dct1T B.cf.hu1 (ve_tup (va_cons w_int va_nil)) w_bool) (B.nd (by decide +kernel)) (B.n 2 rfl) (BB.loc (by kernel_rfl)) (hf := .inl (BB.fn _)))
    (vss_cons (vs_asg (ve_lst (va_cons (ve_tup (va_cons w_int va_nil)) va_nil)) (B.nd (by decide +kernel)) (B.n 3 rfl) (BB.loc (by kernel_rfl)) (hf := .inl (BB.fn _)))
    (vss_cons (vs_for BB.own B.cf.calm (vi_range1 (B.gl (by kernel_rfl)) (Z.free 1) (vra_cons (vr_v (B.var 1 rfl (by kernel_rfl))) vra_nil)) (B.tgt (by decide +kernel) 4 rfl (by kernel_rfl))
    (vss_cons (vs_if (w_cmpT cw_ge (vr_v (B.var 4 rfl (by kernel_rfl))) (vr_of (w_lenA B (Z.free 0) (by kernel_rfl) (vra_cons (vr_v (B.var 3 rfl (by kernel_rfl))) vra_nil))))
    (vss_one vs_break)
    vss_nil)
    (vss_one (vs_if (vt_not (vt_tru (vr_of (ve_callN 2 B.cf h__law_has_bad (by omega) (B.gl (by kernel_rfl)) (Z.glo 51) (va_cons (ve_vs (B.var 0 rfl (by kernel_rfl))) (va_cons (ve_ixN B.cf.hu1 (B.var 3 rfl (by kernel_rfl)) (vr_v (B.var 4 rfl (by kernel_rfl)))) va_nil)))) (by intro _; rfl)))
    (vss_one (vs_for BB.own B.cf.calm (vi_range1 (B.gl (by kernel_rfl)) (Z.free 1) (vra_cons (vr_of (ve_callN 1 B.cf h__law_commands (by omega) (B.gl (by kernel_rfl)) (Z.glo 52) (va_cons (ve_vs (B.var 0 rfl (by kernel_rfl))) va_nil))) vra_nil)) (B.tgt (by decide +kernel) 5 rfl (by kernel_rfl))
    (vss_one (vs_for BB.own B.cf.calm (vi_seq (ve_callN 3 B.cf h__law_follows (by omega) (B.gl (by kernel_rfl)) (Z.glo 53) (va_cons (ve_v (B.var 0 rfl (by kernel_rfl))) (va_cons (ve_ixN B.cf.hu1 (B.var 3 rfl (by kernel_rfl)) (vr_v (B.var 4 rfl (by kernel_rfl)))) (va_cons (ve_v (B.var 5 rfl (by kernel_rfl))) va_nil))))) (B.tgt (by decide +kernel) 6 rfl (by kernel_rfl))
    (vss_one (vs_if (w_cmpT (cw_notin B.cf) (vr_ix B.cf.hu1 (vr_v (B.var 6 rfl (by kernel_rfl))) (vr_of w_int)) (vr_v (B.var 2 rfl (by kernel_rfl))))
    (vss_cons (vs_setP 0 B.cf.hu1 w_bool (vp_name (B.var 2 rfl (by kernel_rfl))) (vr_ix B.cf.hu1 (vr_v (B.var 6 rfl (by kernel_rfl))) (vr_of w_int)))
    (vss_one (vs_expr (ve_append 0 (B.var 3 rfl (by kernel_rfl)) (ve_ixN B.cf.hu1 (B.var 6 rfl (by kernel_rfl)) (vr_of w_int))))))
    vss_nil))))))
    vss_nil))))
    (vss_one (vs_retV (B.var 3 rfl (by kernel_rfl)))))))
theorem k__law_beliefs {P : Program} {w : World} {K : PySem.W.Frag} {mg : PySem.Str → Option Value} {base : Heap} (Z : Fx fa K mg) {fd : FuncData} (F : FunD K "_law_beliefs" "_law_beliefs" (defArgs s__law_beliefs) (defBody s__law_beliefs) (defScope s__law_beliefs) [] [] (He.ga K "_law_beliefs") fd) (kp : PySem.W.keepIn K (.ref (He.ga K "_law_beliefs")) = true) (h__law_has_bad : Dn P w K mg base 1 ("_law_has_bad", none) ["a", "b"] (spP K 2 n__law_has_bad)) (h__law_commands : Dn P w K mg base 1 ("_law_commands", none) ["a"] (spP K 1 n__law_commands)) (h__law_follows : Dn P w K mg base 3 ("_law_follows", none) ["a", "b", "c"] (spP K 3 n__law_follows)) : Dn P w K mg base 4 ("_law_beliefs", none) ["a", "cap"] (spP K 2 n__law_beliefs) := by
  refine ⟨⟨fd, fn_P (P := P) (w := w) (mg := mg) (base := base) (N := N__law_beliefs) (ps := ["a", "cap"]) (lv := 3) (raw := r__law_beliefs) F (scB_ok (by kernel_rfl)) (fun X W e1 e2 e3 e4 e5 B => by subst e1 e2 e3 e4 e5; exact b__law_beliefs B Z h__law_has_bad h__law_commands h__law_follows), F.bindsN fun _ _ _ _ _ _ us hl => ?_⟩, kp⟩
  exact match us, hl with | [u0, u1], _ => rfl
def N__law_arena : List PySem.Str := ["a", "row", "moves"]
theorem b__law_arena {X : Cx} {W : WX} (BB : Bd X W 6 N__law_arena (defScope s__law_arena)) (Z : Fx fa X.K X.mg) (h_Arena___init__ : Dn X.prog X.w X.K X.mg X.base 5 ("Arena", some "__init__") ["self", "offices", "moves", "bad"] (spI X.K 4 0 1 n_Arena___init__)) : VSs X W (defBody s__law_arena) r__law_arena := by
  have B := BB.bx
  exact (vss_one (vs_ret (ve_make 3 B.cf B.wi h_Arena___init__ (by omega) (Z.mkr 54) (B.gl (by kernel_rfl)) (Z.glo 55) (va_cons (ve_ixN B.cf.hu1 (B.var 0 rfl (by kernel_rfl)) (vr_of w_int)) (va_cons (w_lc [("row", 1)] 0 B (by decide +kernel) (vi_seq (ve_ixN B.cf.hu1 (B.var 0 rfl (by kernel_rfl)) (vr_of w_int))) (by kernel_rfl) (by decide) (fun s H C cl fp B => (B.tgt (by decide +kernel) 1 rfl (by kernel_rfl))) (by decide) (fun s H C cl fp B => vts_nil) (fun s H C cl fp B => (w_lc [("moves", 2)] 0 B (by decide +kernel) (vi_seq (ve_v (B.var 1 rfl (by kernel_rfl)))) (by kernel_rfl) (by decide) (fun s H C cl fp B => (B.tgt (by decide +kernel) 2 rfl (by kernel_rfl))) (by decide) (fun s H C cl fp B => vts_nil) (fun s H C cl fp B => (ve_list B.cf.calm (B.gl (by kernel_rfl)) (Z.free 21) (va_cons (ve_v (B.var 2 rfl (by kernel_rfl))) va_nil)))))) (va_cons (ve_list B.cf.calm (B.gl (by kernel_rfl)) (Z.free 21) (va_cons (ve_ixN B.cf.hu1 (B.var 0 rfl (by kernel_rfl)) (vr_of w_int)) va_nil)) va_nil))))))
theorem k__law_arena {P : Program} {w : World} {K : PySem.W.Frag} {mg : PySem.Str → Option Value} {base : Heap} (Z : Fx fa K mg) {fd : FuncData} (F : FunD K "_law_arena" "_law_arena" (defArgs s__law_arena) (defBody s__law_arena) (defScope s__law_arena) [] [] (He.ga K "_law_arena") fd) (kp : PySem.W.keepIn K (.ref (He.ga K "_law_arena")) = true) (h_Arena___init__ : Dn P w K mg base 5 ("Arena", some "__init__") ["self", "offices", "moves", "bad"] (spI K 4 0 1 n_Arena___init__)) : Dn P w K mg base 7 ("_law_arena", none) ["a"] (spP K 1 n__law_arena) := by
  refine ⟨⟨fd, fn_P (P := P) (w := w) (mg := mg) (base := base) (N := N__law_arena) (ps := ["a"]) (lv := 6) (raw := r__law_arena) F (scB_ok (by kernel_rfl)) (fun X W e1 e2 e3 e4 e5 B => by subst e1 e2 e3 e4 e5; exact b__law_arena B Z h_Arena___init__), F.bindsN fun _ _ _ _ _ _ us hl => ?_⟩, kp⟩
  exact match us, hl with | [u0], _ => rfl
def N__law_draw_arena : List PySem.Str := ["pool", "n", "commands", "offices", "loops", "moves", "x", "bad_nodes", "row", "dead", "c", "outs", "k", "y", "o"]
theorem b__law_draw_arena {X : Cx} {W : WX} (BB : Bd X W 3 N__law_draw_arena (defScope s__law_draw_arena)) (Z : Fx fa X.K X.mg) (h__law_chance : Dn X.prog X.w X.K X.mg X.base 3 ("_law_chance", none) ["pool", "one", "of"] (spI X.K 3 0 1 n__law_chance)) (h__law_draw : Dn X.prog X.w X.K X.mg X.base 2 ("_law_draw", none) ["pool", "many"] (spI X.K 2 0 1 n__law_draw)) : VSs X W (defBody s__law_draw_arena) r__law_draw_arena := by
  have B := BB.bx
  exact (vss_cons (vs_asg (ve_lst0 0) (B.nd (by decide +kernel)) (B.n 5 rfl) (BB.loc (by kernel_rfl)) (hf := .inl (BB.fn _)))
    (vss_cons (vs_for BB.own B.cf.calm (vi_range1 (B.gl (by kernel_rfl)) (Z.free 1) (vra_cons (vr_v (B.var 1 rfl (by kernel_rfl))) vra_nil)) (B.tgt (by decide +kernel) 6 rfl (by kernel_rfl))
    (vss_cons (vs_asg (ve_lst0 0) (B.nd (by decide +kernel)) (B.n 8 rfl) (BB.loc (by kernel_rfl)) (hf := .inl (BB.fn _)))
    (vss_cons (vs_asg (ve_b (vb_or (vb_and (vb_e (ve_callIN 2 B.cf h__law_chance (by omega) (B.gl (by kernel_rfl)) (Z.glo 56) (vai_here (B.var 0 rfl (by kernel_rfl)) (va_cons w_int (va_cons w_int va_nil))))) (vb_one (vb_e (w_cmp cw_gt (vr_v (B.var 6 rfl (by kernel_rfl))) (vr_of w_int))))) (vb_one (vb_and (vb_not (vb_e (ve_v (B.var 4 rfl (by kernel_rfl))))) (vb_one (vb_e (w_cmp (cw_eq B.cf) (vr_v (B.var 6 rfl (by kernel_rfl))) (vr_of (w_sub (vr_v (B.var 1 rfl (by kernel_rfl))) (vr_of w_int)))))))))) (B.nd (by decide +kernel)) (B.n 9 rfl) (BB.loc (by kernel_rfl)) (hf := .inl (BB.fn _)))
    (vss_cons (vs_for BB.own B.cf.calm (vi_range1 (B.gl (by kernel_rfl)) (Z.free 1) (vra_cons (vr_of (w_mulD (ve_vs (B.var 2 rfl (by kernel_rfl))) (vr_of (w_intc B (Z.free 37) (by kernel_rfl) (vra_cons (vr_of (ve_b (vb_not (vb_e (ve_v (B.var 9 rfl (by kernel_rfl))))))) vra_nil))))) vra_nil)) (B.tgt (by decide +kernel) 10 rfl (by kernel_rfl))
    (vss_cons (vs_asg (ve_lst0 0) (B.nd (by decide +kernel)) (B.n 11 rfl) (BB.loc (by kernel_rfl)) (hf := .inl (BB.fn _)))
    (vss_cons (vs_for BB.own B.cf.calm (vi_range1 (B.gl (by kernel_rfl)) (Z.free 1) (vra_cons (vr_of (w_addD w_int (vr_of (ve_callIN 1 B.cf h__law_draw (by omega) (B.gl (by kernel_rfl)) (Z.glo 41) (vai_here (B.var 0 rfl (by kernel_rfl)) (va_cons w_int va_nil)))))) vra_nil)) (B.tgt (by decide +kernel) 12 rfl (by kernel_rfl))
    (vss_cons (vs_asg (ve_callIN 1 B.cf h__law_draw (by omega) (B.gl (by kernel_rfl)) (Z.glo 41) (vai_here (B.var 0 rfl (by kernel_rfl)) (va_cons (ve_v (B.var 1 rfl (by kernel_rfl))) va_nil))) (B.nd (by decide +kernel)) (B.n 13 rfl) (BB.loc (by kernel_rfl)) (hf := .inl (BB.fn _)))
    (vss_cons (vs_if (vt_not (vt_tru (vr_v (B.var 4 rfl (by kernel_rfl))) (by intro _; rfl)))
    (vss_one (vs_asg (w_min B (Z.free 57) (by kernel_rfl) (vra_of (va_cons (w_sub (vr_v (B.var 1 rfl (by kernel_rfl))) (vr_of w_int)) (va_cons (w_addD (w_add (vr_v (B.var 6 rfl (by kernel_rfl))) (vr_of w_int)) (vr_of (ve_callIN 1 B.cf h__law_draw (by omega) (B.gl (by kernel_rfl)) (Z.glo 41) (vai_here (B.var 0 rfl (by kernel_rfl)) (va_cons w_int va_nil))))) va_nil)))) (B.nd (by decide +kernel)) (B.n 13 rfl) (BB.loc (by kernel_rfl)) (hf := .inl (BB.fn _))))
    vss_nil)
    (vss_one (vs_expr (ve_append 0 (B.var 11 rfl (by kernel_rfl)) (ve_tup (va_cons (ve_tuple (B.gl (by kernel_rfl)) (Z.free 19) (va_cons (w_lc [("o", 14)] 0 B (by decide +kernel) (vi_range1 (B.gl (by kernel_rfl)) (Z.free 1) (vra_cons (vr_v (B.var 3 rfl (by kernel_rfl))) vra_nil)) (by kernel_rfl) (by decide) (fun s H C cl fp B => (B.tgt (by decide +kernel) 14 rfl (by kernel_rfl))) (by decide) (fun s H C cl fp B => vts_nil) (fun s H C cl fp B => (ve_callIN 1 B.cf h__law_draw (by omega) (B.gl (by kernel_rfl)) (Z.glo 41) (vai_here (B.var 0 rfl (by kernel_rfl)) (va_cons w_int va_nil))))) va_nil)) (va_cons (ve_v (B.var 13 rfl (by kernel_rfl))) va_nil)))))))))
    (vss_one (vs_expr (ve_append 0 (B.var 8 rfl (by kernel_rfl)) (ve_v (B.var 11 rfl (by kernel_rfl)))))))))
    (vss_one (vs_expr (ve_append 0 (B.var 5 rfl (by kernel_rfl)) (ve_v (B.var 8 rfl (by kernel_rfl))))))))))
    (vss_cons (w_setLc [("x", 6)] 0 BB (by decide +kernel) rfl (by kernel_rfl) (by kernel_rfl) rfl (by kernel_rfl) (vi_range1 (B.gl (by kernel_rfl)) (Z.free 1) (vra_cons (vr_v (B.var 1 rfl (by kernel_rfl))) vra_nil)) (by kernel_rfl) (by decide) (fun s H C cl fp B => (B.tgt (by decide +kernel) 6 rfl (by kernel_rfl))) (by decide) (fun s H C cl fp B => (vts_one (vt_w (vw_and (vt_tru (vr_of (ve_callIN 2 B.cf h__law_chance (by omega) (B.gl (by kernel_rfl)) (Z.glo 56) (vai_here (B.var 0 rfl (by kernel_rfl)) (va_cons w_int (va_cons w_int va_nil))))) (by intro _; rfl)) (vw_and1 (vt_w (vw_or (w_cmpT cw_gt (vr_v (B.var 6 rfl (by kernel_rfl))) (vr_of w_int)) (vw_or1 (vt_tru (vr_of (ve_callIN 2 B.cf h__law_chance (by omega) (B.gl (by kernel_rfl)) (Z.glo 56) (vai_here (B.var 0 rfl (by kernel_rfl)) (va_cons w_int (va_cons w_int va_nil))))) (by intro _; rfl)))))))))) (fun s H C cl fp B => (ve_v (B.var 6 rfl (by kernel_rfl)))))
    (vss_one (vs_ret (ve_tup (va_cons (ve_v (B.var 3 rfl (by kernel_rfl))) (va_cons (ve_v (B.var 5 rfl (by kernel_rfl))) (va_cons (ve_v (B.var 7 rfl (by kernel_rfl))) va_nil)))))))))
theorem k__law_draw_arena {P : Program} {w : World} {K : PySem.W.Frag} {mg : PySem.Str → Option Value} {base : Heap} (Z : Fx fa K mg) {fd : FuncData} (F : FunD K "_law_draw_arena" "_law_draw_arena" (defArgs s__law_draw_arena) (defBody s__law_draw_arena) (defScope s__law_draw_arena) [] [] (He.ga K "_law_draw_arena") fd) (kp : PySem.W.keepIn K (.ref (He.ga K "_law_draw_arena")) = true) (h__law_chance : Dn P w K mg base 3 ("_law_chance", none) ["pool", "one", "of"] (spI K 3 0 1 n__law_chance)) (h__law_draw : Dn P w K mg base 2 ("_law_draw", none) ["pool", "many"] (spI K 2 0 1 n__law_draw)) : Dn P w K mg base 4 ("_law_draw_arena", none) ["pool", "n", "commands", "offices", "loops"] (spI K 5 0 1 n__law_draw_arena) := by
  refine ⟨⟨fd, fn_I (P := P) (w := w) (mg := mg) (base := base) (N := N__law_draw_arena) (ps := ["pool", "n", "commands", "offices", "loops"]) (lv := 3) (raw := r__law_draw_arena) F (scB_ok (by kernel_rfl)) (j := 0) (k := 0) rfl (fun X W e1 e2 e3 e4 e5 B => by subst e1 e2 e3 e4 e5; exact b__law_draw_arena B Z h__law_chance h__law_draw), F.bindsN fun _ _ _ _ _ _ us hl => ?_⟩, kp⟩
  exact match us, hl with | [u0, u1, u2, u3, u4], _ => rfl
def N__law_draw_traps : List PySem.Str := ["pool", "n", "commands", "ringed", "numbers", "moves", "x", "row", "lucky", "c", "outs", "k", "y"]
theorem b__law_draw_traps {X : Cx} {W : WX} (BB : Bd X W 3 N__law_draw_traps (defScope s__law_draw_traps)) (Z : Fx fa X.K X.mg) (h__law_draw : Dn X.prog X.w X.K X.mg X.base 2 ("_law_draw", none) ["pool", "many"] (spI X.K 2 0 1 n__law_draw)) (h__law_chance : Dn X.prog X.w X.K X.mg X.base 3 ("_law_chance", none) ["pool", "one", "of"] (spI X.K 3 0 1 n__law_chance)) : VSs X W (defBody s__law_draw_traps) r__law_draw_traps := by
  have B := BB.bx
  exact (vss_cons (vs_asg (w_addD w_int (vr_of (ve_callIN 1 B.cf h__law_draw (by omega) (B.gl (by kernel_rfl)) (Z.glo 41) (vai_here (B.var 0 rfl (by kernel_rfl)) (va_cons w_int va_nil))))) (B.nd (by decide +kernel)) (B.n 1 rfl) (BB.loc (by kernel_rfl)) (hf := .inl (BB.fn _)))
    (vss_cons (vs_asg (w_addD w_int (vr_of (ve_callIN 1 B.cf h__law_draw (by omega) (B.gl (by kernel_rfl)) (Z.glo 41) (vai_here (B.var 0 rfl (by kernel_rfl)) (va_cons w_int va_nil))))) (B.nd (by decide +kernel)) (B.n 2 rfl) (BB.loc (by kernel_rfl)) (hf := .inl (BB.fn _)))
    (vss_cons (vs_asg (ve_callIN 2 B.cf h__law_chance (by omega) (B.gl (by kernel_rfl)) (Z.glo 56) (vai_here (B.var 0 rfl (by kernel_rfl)) (va_cons w_int (va_cons w_int va_nil)))) (B.nd (by decide +kernel)) (B.n 3 rfl) (BB.loc (by kernel_rfl)) (hf := .inl (BB.fn _)))
    (vss_cons (vs_asg (w_addD w_int (vr_of (ve_callIN 1 B.cf h__law_draw (by omega) (B.gl (by kernel_rfl)) (Z.glo 41) (vai_here (B.var 0 rfl (by kernel_rfl)) (va_cons w_int va_nil))))) (B.nd (by decide +kernel)) (B.n 4 rfl) (BB.loc (by kernel_rfl)) (hf := .inl (BB.fn _)))
    (vss_cons (vs_asg (ve_lst0 0) (B.nd (by decide +kernel)) (B.n 5 rfl) (BB.loc (by kernel_rfl)) (hf := .inl (BB.fn _)))
    (vss_cons (vs_for BB.own B.cf.calm (vi_range1 (B.gl (by kernel_rfl)) (Z.free 1) (vra_cons (vr_v (B.var 1 rfl (by kernel_rfl))) vra_nil)) (B.tgt (by decide +kernel) 6 rfl (by kernel_rfl))
    (vss_cons (vs_asg (ve_lst0 0) (B.nd (by decide +kernel)) (B.n 7 rfl) (BB.loc (by kernel_rfl)) (hf := .inl (BB.fn _)))
    (vss_cons (vs_asg (ve_callIN 1 B.cf h__law_draw (by omega) (B.gl (by kernel_rfl)) (Z.glo 41) (vai_here (B.var 0 rfl (by kernel_rfl)) (va_cons (ve_v (B.var 2 rfl (by kernel_rfl))) va_nil))) (B.nd (by decide +kernel)) (B.n 8 rfl) (BB.loc (by kernel_rfl)) (hf := .inl (BB.fn _)))
    (vss_cons (vs_for BB.own B.cf.calm (vi_range1 (B.gl (by kernel_rfl)) (Z.free 1) (vra_cons (vr_v (B.var 2 rfl (by kernel_rfl))) vra_nil)) (B.tgt (by decide +kernel) 9 rfl (by kernel_rfl))
    (vss_cons (vs_asg (ve_lst0 0) (B.nd (by decide +kernel)) (B.n 10 rfl) (BB.loc (by kernel_rfl)) (hf := .inl (BB.fn _)))
    (vss_cons (vs_for BB.own B.cf.calm (vi_range1 (B.gl (by kernel_rfl)) (Z.free 1) (vra_cons (vr_of (w_addD w_int (vr_of (ve_callIN 1 B.cf h__law_draw (by omega) (B.gl (by kernel_rfl)) (Z.glo 41) (vai_here (B.var 0 rfl (by kernel_rfl)) (va_cons w_int va_nil)))))) vra_nil)) (B.tgt (by decide +kernel) 11 rfl (by kernel_rfl))
    (vss_cons (vs_asg (w_min B (Z.free 57) (by kernel_rfl) (vra_of (va_cons (w_sub (vr_v (B.var 1 rfl (by kernel_rfl))) (vr_of w_int)) (va_cons (w_addD (w_add (vr_v (B.var 6 rfl (by kernel_rfl))) (vr_of w_int)) (vr_of (ve_callIN 1 B.cf h__law_draw (by omega) (B.gl (by kernel_rfl)) (Z.glo 41) (vai_here (B.var 0 rfl (by kernel_rfl)) (va_cons w_int va_nil))))) va_nil)))) (B.nd (by decide +kernel)) (B.n 12 rfl) (BB.loc (by kernel_rfl)) (hf := .inl (BB.fn _)))
    (vss_cons (vs_if (vt_tru (vr_v (B.var 3 rfl (by kernel_rfl))) (by intro _; rfl))
    (vss_one (vs_asg (ve_callIN 1 B.cf h__law_draw (by omega) (B.gl (by kernel_rfl)) (Z.glo 41) (vai_here (B.var 0 rfl (by kernel_rfl)) (va_cons (ve_v (B.var 1 rfl (by kernel_rfl))) va_nil))) (B.nd (by decide +kernel)) (B.n 12 rfl) (BB.loc (by kernel_rfl)) (hf := .inl (BB.fn _))))
    vss_nil)
    (vss_cons (vs_if (vt_w (vw_and (w_cmpT (cw_ne B.cf) (vr_v (B.var 9 rfl (by kernel_rfl))) (vr_v (B.var 8 rfl (by kernel_rfl)))) (vw_and1 (vt_tru (vr_of (ve_callIN 2 B.cf h__law_chance (by omega) (B.gl (by kernel_rfl)) (Z.glo 56) (vai_here (B.var 0 rfl (by kernel_rfl)) (va_cons w_int (va_cons w_int va_nil))))) (by intro _; rfl)))))
    (vss_one (vs_asg (ve_v (B.var 1 rfl (by kernel_rfl))) (B.nd (by decide +kernel)) (B.n 12 rfl) (BB.loc (by kernel_rfl)) (hf := .inl (BB.fn _))))
    vss_nil)
    (vss_one (vs_expr (ve_append 0 (B.var 10 rfl (by kernel_rfl)) (ve_tup (va_cons (ve_tup (va_cons (ve_callIN 1 B.cf h__law_draw (by omega) (B.gl (by kernel_rfl)) (Z.glo 41) (vai_here (B.var 0 rfl (by kernel_rfl)) (va_cons (ve_v (B.var 4 rfl (by kernel_rfl))) va_nil))) va_nil)) (va_cons (ve_v (B.var 12 rfl (by kernel_rfl))) va_nil))))))))))
    (vss_one (vs_expr (ve_append 0 (B.var 7 rfl (by kernel_rfl)) (ve_v (B.var 10 rfl (by kernel_rfl)))))))))
    (vss_one (vs_if (vt_w (vw_or (vt_tru (vr_v (B.var 3 rfl (by kernel_rfl))) (by intro _; rfl)) (vw_or1 (w_cmpT cw_lt (vr_v (B.var 6 rfl (by kernel_rfl))) (vr_of (w_sub (vr_v (B.var 1 rfl (by kernel_rfl))) (vr_of w_int)))))))
    (vss_one (vs_expr (ve_append 0 (B.var 5 rfl (by kernel_rfl)) (ve_v (B.var 7 rfl (by kernel_rfl))))))
    (vss_one (vs_expr (ve_append 0 (B.var 5 rfl (by kernel_rfl)) (ve_lst0 0))))))))))
    (vss_one (vs_ret (ve_tup (va_cons w_int (va_cons (ve_cat (ve_v (B.var 5 rfl (by kernel_rfl))) (ve_lst (va_cons (ve_lst0 0) va_nil))) (va_cons (ve_lst (va_cons (ve_v (B.var 1 rfl (by kernel_rfl))) va_nil)) va_nil))))))))))))
theorem k__law_draw_traps {P : Program} {w : World} {K : PySem.W.Frag} {mg : PySem.Str → Option Value} {base : Heap} (Z : Fx fa K mg) {fd : FuncData} (F : FunD K "_law_draw_traps" "_law_draw_traps" (defArgs s__law_draw_traps) (defBody s__law_draw_traps) (defScope s__law_draw_traps) [] [] (He.ga K "_law_draw_traps") fd) (kp : PySem.W.keepIn K (.ref (He.ga K "_law_draw_traps")) = true) (h__law_draw : Dn P w K mg base 2 ("_law_draw", none) ["pool", "many"] (spI K 2 0 1 n__law_draw)) (h__law_chance : Dn P w K mg base 3 ("_law_chance", none) ["pool", "one", "of"] (spI K 3 0 1 n__law_chance)) : Dn P w K mg base 4 ("_law_draw_traps", none) ["pool"] (spI K 1 0 1 n__law_draw_traps) := by
  refine ⟨⟨fd, fn_I (P := P) (w := w) (mg := mg) (base := base) (N := N__law_draw_traps) (ps := ["pool"]) (lv := 3) (raw := r__law_draw_traps) F (scB_ok (by kernel_rfl)) (j := 0) (k := 0) rfl (fun X W e1 e2 e3 e4 e5 B => by subst e1 e2 e3 e4 e5; exact b__law_draw_traps B Z h__law_draw h__law_chance), F.bindsN fun _ _ _ _ _ _ us hl => ?_⟩, kp⟩
  exact match us, hl with | [u0], _ => rfl
def N__law_chain : List PySem.Str := ["pool", "n", "marks", "moves", "x", "off"]
theorem b__law_chain {X : Cx} {W : WX} (BB : Bd X W 3 N__law_chain (defScope s__law_chain)) (Z : Fx fa X.K X.mg) (h__law_draw : Dn X.prog X.w X.K X.mg X.base 2 ("_law_draw", none) ["pool", "many"] (spI X.K 2 0 1 n__law_draw)) (h__law_chance : Dn X.prog X.w X.K X.mg X.base 3 ("_law_chance", none) ["pool", "one", "of"] (spI X.K 3 0 1 n__law_chance)) : VSs X W (defBody s__law_chain) r__law_chain := by
  have B := BB.bx
  exact (vss_cons (vs_asg (w_addD w_int (vr_of (ve_callIN 1 B.cf h__law_draw (by omega) (B.gl (by kernel_rfl)) (Z.glo 41) (vai_here (B.var 0 rfl (by kernel_rfl)) (va_cons w_int va_nil))))) (B.nd (by decide +kernel)) (B.n 1 rfl) (BB.loc (by kernel_rfl)) (hf := .inl (BB.fn _)))
    (vss_cons (w_setLc [("x", 4)] 0 BB (by decide +kernel) rfl (by kernel_rfl) (by kernel_rfl) rfl (by kernel_rfl) (vi_range1 (B.gl (by kernel_rfl)) (Z.free 1) (vra_cons (vr_v (B.var 1 rfl (by kernel_rfl))) vra_nil)) (by kernel_rfl) (by decide) (fun s H C cl fp B => (B.tgt (by decide +kernel) 4 rfl (by kernel_rfl))) (by decide) (fun s H C cl fp B => (vts_one (vt_tru (vr_of (ve_callIN 2 B.cf h__law_chance (by omega) (B.gl (by kernel_rfl)) (Z.glo 56) (vai_here (B.var 0 rfl (by kernel_rfl)) (va_cons w_int (va_cons w_int va_nil))))) (by intro _; rfl)))) (fun s H C cl fp B => (ve_v (B.var 4 rfl (by kernel_rfl)))))
    (vss_cons (vs_if (vt_tru (vr_of (ve_callIN 2 B.cf h__law_chance (by omega) (B.gl (by kernel_rfl)) (Z.glo 56) (vai_here (B.var 0 rfl (by kernel_rfl)) (va_cons w_int (va_cons w_int va_nil))))) (by intro _; rfl))
    (vss_one (vs_asg (ve_slice (ve_v (B.var 2 rfl (by kernel_rfl))) vo_none (vo_some (vr_of (ve_callIN 1 B.cf h__law_draw (by omega) (B.gl (by kernel_rfl)) (Z.glo 41) (vai_here (B.var 0 rfl (by kernel_rfl)) (va_cons w_int va_nil)))))) (B.nd (by decide +kernel)) (B.n 2 rfl) (BB.loc (by kernel_rfl)) (hf := .inl (BB.fn _))))
    vss_nil)
    (vss_cons (vs_asg (ve_lst0 0) (B.nd (by decide +kernel)) (B.n 3 rfl) (BB.loc (by kernel_rfl)) (hf := .inl (BB.fn _)))
    (vss_cons (vs_for BB.own B.cf.calm (vi_range1 (B.gl (by kernel_rfl)) (Z.free 1) (vra_cons (vr_v (B.var 1 rfl (by kernel_rfl))) vra_nil)) (B.tgt (by decide +kernel) 4 rfl (by kernel_rfl))
    (vss_cons (vs_asg (ve_v (B.var 1 rfl (by kernel_rfl))) (B.nd (by decide +kernel)) (B.n 5 rfl) (BB.loc (by kernel_rfl)) (hf := .inl (BB.fn _)))
    (vss_cons (vs_if (w_cmpT (cw_in B.cf) (vr_v (B.var 4 rfl (by kernel_rfl))) (vr_v (B.var 2 rfl (by kernel_rfl))))
    (vss_one (vs_asg (w_add (vr_v (B.var 1 rfl (by kernel_rfl))) (vr_of w_int)) (B.nd (by decide +kernel)) (B.n 5 rfl) (BB.loc (by kernel_rfl)) (hf := .inl (BB.fn _))))
    vss_nil)
    (vss_one (vs_expr (ve_append 0 (B.var 3 rfl (by kernel_rfl)) (ve_lst (va_cons (ve_lst (va_cons (ve_tup (va_cons (ve_tup (va_cons (ve_callIN 1 B.cf h__law_draw (by omega) (B.gl (by kernel_rfl)) (Z.glo 41) (vai_here (B.var 0 rfl (by kernel_rfl)) (va_cons w_int va_nil))) va_nil)) (va_cons (w_add (vr_v (B.var 4 rfl (by kernel_rfl))) (vr_of w_int)) va_nil))) va_nil)) (va_cons (ve_lst (va_cons (ve_tup (va_cons (ve_tup (va_cons w_int va_nil)) (va_cons (ve_v (B.var 5 rfl (by kernel_rfl))) va_nil))) (va_cons (ve_tup (va_cons (ve_tup (va_cons w_int va_nil)) (va_cons (ve_v (B.var 5 rfl (by kernel_rfl))) va_nil))) va_nil))) va_nil)))))))))
    (vss_cons (vs_if (w_cmpT (cw_eq B.cf) (vr_of (w_lenA B (Z.free 0) (by kernel_rfl) (vra_cons (vr_v (B.var 2 rfl (by kernel_rfl))) vra_nil))) (vr_of w_int))
    (vss_one (vs_ret (ve_tup (va_cons (ve_tup (va_cons w_int (va_cons (ve_cat (ve_v (B.var 3 rfl (by kernel_rfl))) (ve_lst (va_cons (ve_lst0 0) (va_cons (ve_lst0 0) va_nil)))) (va_cons (ve_lst (va_cons (ve_v (B.var 1 rfl (by kernel_rfl))) va_nil)) va_nil)))) (va_cons (ve_tup (va_cons w_str va_nil)) va_nil)))))
    vss_nil)
    (vss_one (vs_ret (ve_tup (va_cons (ve_tup (va_cons w_int (va_cons (ve_cat (ve_v (B.var 3 rfl (by kernel_rfl))) (ve_lst (va_cons (ve_lst0 0) (va_cons (ve_lst0 0) va_nil)))) (va_cons (ve_lst (va_cons (ve_v (B.var 1 rfl (by kernel_rfl))) va_nil)) va_nil)))) (va_cons (ve_tup (va_cons w_str (va_cons (ve_ixN B.cf.hu1 (B.var 2 rfl (by kernel_rfl)) (vr_of (w_neg (vr_of w_int)))) va_nil))) va_nil)))))))))))
theorem k__law_chain {P : Program} {w : World} {K : PySem.W.Frag} {mg : PySem.Str → Option Value} {base : Heap} (Z : Fx fa K mg) {fd : FuncData} (F : FunD K "_law_chain" "_law_chain" (defArgs s__law_chain) (defBody s__law_chain) (defScope s__law_chain) [] [] (He.ga K "_law_chain") fd) (kp : PySem.W.keepIn K (.ref (He.ga K "_law_chain")) = true) (h__law_draw : Dn P w K mg base 2 ("_law_draw", none) ["pool", "many"] (spI K 2 0 1 n__law_draw)) (h__law_chance : Dn P w K mg base 3 ("_law_chance", none) ["pool", "one", "of"] (spI K 3 0 1 n__law_chance)) : Dn P w K mg base 4 ("_law_chain", none) ["pool"] (spI K 1 0 1 n__law_chain) := by
  refine ⟨⟨fd, fn_I (P := P) (w := w) (mg := mg) (base := base) (N := N__law_chain) (ps := ["pool"]) (lv := 3) (raw := r__law_chain) F (scB_ok (by kernel_rfl)) (j := 0) (k := 0) rfl (fun X W e1 e2 e3 e4 e5 B => by subst e1 e2 e3 e4 e5; exact b__law_chain B Z h__law_draw h__law_chance), F.bindsN fun _ _ _ _ _ _ us hl => ?_⟩, kp⟩
  exact match us, hl with | [u0], _ => rfl
def N__law_won : List PySem.Str := ["a", "beliefs", "here", "b", "turn", "rest", "c", "row"]
theorem b__law_won {X : Cx} {W : WX} (BB : Bd X W 3 N__law_won (defScope s__law_won)) (Z : Fx fa X.K X.mg) (h__law_has_bad : Dn X.prog X.w X.K X.mg X.base 1 ("_law_has_bad", none) ["a", "b"] (spP X.K 2 n__law_has_bad)) (h__law_commands : Dn X.prog X.w X.K X.mg X.base 1 ("_law_commands", none) ["a"] (spP X.K 1 n__law_commands)) (h__law_follows : Dn X.prog X.w X.K X.mg X.base 3 ("_law_follows", none) ["a", "b", "c"] (spP X.K 3 n__law_follows)) : VSs X W (defBody s__law_won) r__law_won := by
  have B := BB.bx
  exact (vss_cons (vs_asg (ve_dctT 0) (B.nd (by decide +kernel)) (B.n 2 rfl) (BB.loc (by kernel_rfl)) (hf := .inl (BB.fn _)))
    (vss_cons (vs_for BB.own B.cf.calm (vi_seq (ve_v (B.var 1 rfl (by kernel_rfl)))) (B.tgt (by decide +kernel) 3 rfl (by kernel_rfl))
    (vss_one (vs_if (vt_not (vt_tru (vr_of (ve_callN 2 B.cf h__law_has_bad (by omega) (B.gl (by kernel_rfl)) (Z.glo 51) (va_cons (ve_vs (B.var 0 rfl (by kernel_rfl))) (va_cons (ve_vs (B.var 3 rfl (by kernel_rfl))) va_nil)))) (by intro _; rfl)))
    (vss_one (vs_setP 0 B.cf.hu1 w_bool (vp_name (B.var 2 rfl (by kernel_rfl))) (vr_v (B.var 3 rfl (by kernel_rfl)))))
    vss_nil)))
    (vss_cons (vs_for BB.own B.cf.calm (vi_range1 (B.gl (by kernel_rfl)) (Z.free 1) (vra_cons (vr_of (w_lenA B (Z.free 0) (by kernel_rfl) (vra_cons (vr_v (B.var 1 rfl (by kernel_rfl))) vra_nil))) vra_nil)) (B.tgt (by decide +kernel) 4 rfl (by kernel_rfl))
    (vss_cons (vs_asg (ve_dctT 0) (B.nd (by decide +kernel)) (B.n 5 rfl) (BB.loc (by kernel_rfl)) (hf := .inl (BB.fn _)))
    (vss_cons (vs_for BB.own B.cf.calm (vi_seq (ve_list B.cf.calm (B.gl (by kernel_rfl)) (Z.free 21) (va_cons (ve_v (B.var 2 rfl (by kernel_rfl))) va_nil))) (B.tgt (by decide +kernel) 3 rfl (by kernel_rfl))
    (vss_one (vs_for BB.own B.cf.calm (vi_range1 (B.gl (by kernel_rfl)) (Z.free 1) (vra_cons (vr_of (ve_callN 1 B.cf h__law_commands (by omega) (B.gl (by kernel_rfl)) (Z.glo 52) (va_cons (ve_vs (B.var 0 rfl (by kernel_rfl))) va_nil))) vra_nil)) (B.tgt (by decide +kernel) 6 rfl (by kernel_rfl))
    (vss_one (vs_if (w_cmpT (cw_eq B.cf) (vr_of (w_lenA B (Z.free 0) (by kernel_rfl) (vra_cons (vr_of (w_lc [("row", 7)] 0 B (by decide +kernel) (vi_seq (ve_callN 3 B.cf h__law_follows (by omega) (B.gl (by kernel_rfl)) (Z.glo 53) (va_cons (ve_v (B.var 0 rfl (by kernel_rfl))) (va_cons (ve_v (B.var 3 rfl (by kernel_rfl))) (va_cons (ve_v (B.var 6 rfl (by kernel_rfl))) va_nil))))) (by kernel_rfl) (by decide) (fun s H C cl fp B => (B.tgt (by decide +kernel) 7 rfl (by kernel_rfl))) (by decide) (fun s H C cl fp B => (vts_one (w_cmpT (cw_notin B.cf) (vr_ix B.cf.hu1 (vr_v (B.var 7 rfl (by kernel_rfl))) (vr_of w_int)) (vr_v (B.var 2 rfl (by kernel_rfl)))))) (fun s H C cl fp B => (ve_v (B.var 7 rfl (by kernel_rfl)))))) vra_nil))) (vr_of w_int))
    (vss_one (vs_setP 0 B.cf.hu1 w_bool (vp_name (B.var 5 rfl (by kernel_rfl))) (vr_v (B.var 3 rfl (by kernel_rfl)))))
    vss_nil)))))
    (vss_cons (vs_if (w_cmpT (cw_eq B.cf) (vr_of (w_lenA B (Z.free 0) (by kernel_rfl) (vra_cons (vr_v (B.var 5 rfl (by kernel_rfl))) vra_nil))) (vr_of (w_lenA B (Z.free 0) (by kernel_rfl) (vra_cons (vr_v (B.var 2 rfl (by kernel_rfl))) vra_nil))))
    (vss_one vs_break)
    vss_nil)
    (vss_one (vs_asg (ve_v (B.var 5 rfl (by kernel_rfl))) (B.nd (by decide +kernel)) (B.n 2 rfl) (BB.loc (by kernel_rfl)) (hf := .inl (BB.fn _))))))))
    (vss_one (vs_retV (B.var 2 rfl (by kernel_rfl)))))))
theorem k__law_won {P : Program} {w : World} {K : PySem.W.Frag} {mg : PySem.Str → Option Value} {base : Heap} (Z : Fx fa K mg) {fd : FuncData} (F : FunD K "_law_won" "_law_won" (defArgs s__law_won) (defBody s__law_won) (defScope s__law_won) [] [] (He.ga K "_law_won") fd) (kp : PySem.W.keepIn K (.ref (He.ga K "_law_won")) = true) (h__law_has_bad : Dn P w K mg base 1 ("_law_has_bad", none) ["a", "b"] (spP K 2 n__law_has_bad)) (h__law_commands : Dn P w K mg base 1 ("_law_commands", none) ["a"] (spP K 1 n__law_commands)) (h__law_follows : Dn P w K mg base 3 ("_law_follows", none) ["a", "b", "c"] (spP K 3 n__law_follows)) : Dn P w K mg base 4 ("_law_won", none) ["a", "beliefs"] (spP K 2 n__law_won) := by
  refine ⟨⟨fd, fn_P (P := P) (w := w) (mg := mg) (base := base) (N := N__law_won) (ps := ["a", "beliefs"]) (lv := 3) (raw := r__law_won) F (scB_ok (by kernel_rfl)) (fun X W e1 e2 e3 e4 e5 B => by subst e1 e2 e3 e4 e5; exact b__law_won B Z h__law_has_bad h__law_commands h__law_follows), F.bindsN fun _ _ _ _ _ _ us hl => ?_⟩, kp⟩
  exact match us, hl with | [u0, u1], _ => rfl
def N__law_due : List PySem.Str := ["a", "beliefs", "won", "layers", "known", "turn", "lost_at", "fresh", "b", "t", "row"]
theorem b__law_due {X : Cx} {W : WX} (BB : Bd X W 4 N__law_due (defScope s__law_due)) (Z : Fx fa X.K X.mg) (h__law_beliefs : Dn X.prog X.w X.K X.mg X.base 4 ("_law_beliefs", none) ["a", "cap"] (spP X.K 2 n__law_beliefs)) (h__law_won : Dn X.prog X.w X.K X.mg X.base 4 ("_law_won", none) ["a", "beliefs"] (spP X.K 2 n__law_won)) (h__law_has_bad : Dn X.prog X.w X.K X.mg X.base 1 ("_law_has_bad", none) ["a", "b"] (spP X.K 2 n__law_has_bad)) (h__law_follows : Dn X.prog X.w X.K X.mg X.base 3 ("_law_follows", none) ["a", "b", "c"] (spP X.K 3 n__law_follows)) : VSs X W (defBody s__law_due) r__law_due := by
  have B := BB.bx
  exact (vss_cons (vs_asg (ve_callN 2 B.cf h__law_beliefs (by omega) (B.gl (by kernel_rfl)) (Z.glo 58) (va_cons (ve_v (B.var 0 rfl (by kernel_rfl))) (va_cons w_int va_nil))) (B.nd (by decide +kernel)) (B.n 1 rfl) (BB.loc (by kernel_rfl)) (hf := .inl (BB.fn _)))
    (vss_cons (vs_asg (ve_callN 2 B.cf h__law_won (by omega) (B.gl (by kernel_rfl)) (Z.glo 59) (va_cons (ve_v (B.var 0 rfl (by kernel_rfl))) (va_cons (ve_v (B.var 1 rfl (by kernel_rfl))) va_nil))) (B.nd (by decide +kernel)) (B.n 2 rfl) (BB.loc (by kernel_rfl)) (hf := .inl (BB.fn _)))
    (vss_cons (vs_if (w_cmpT (cw_notin B.cf) (vr_of (ve_tup (va_cons w_int va_nil))) (vr_v (B.var 2 rfl (by kernel_rfl))))
    (vss_one (vs_ret (ve_tup (va_cons w_str va_nil))))
    vss_nil)
    (vss_cons (vs_asg (ve_lst (va_cons (ve_lst (va_cons (ve_tup (va_cons w_int va_nil)) va_nil)) va_nil)) (B.nd (by decide +kernel)) (B.n 3 rfl) (BB.loc (by kernel_rfl)) (hf := .inl (BB.fn _)))
    (vss_cons (vs_asg (ve_dct1T B.cf.hu1 (ve_tup (va_cons w_int va_nil)) w_bool) (B.nd (by decide +kernel)) (B.n 4 rfl) (BB.loc (by kernel_rfl)) (hf := .inl (BB.fn _)))
    (vss_cons (vs_for BB.own B.cf.calm (vi_range1 (B.gl (by kernel_rfl)) (Z.free 1) (vra_cons (vr_of (w_lenA B (Z.free 0) (by kernel_rfl) (vra_cons (vr_v (B.var 1 rfl (by kernel_rfl))) vra_nil))) vra_nil)) (B.tgt (by decide +kernel) 5 rfl (by kernel_rfl))
    (vss_cons (vs_asg (ve_lst0 0) (B.nd (by decide +kernel)) (B.n 7 rfl) (BB.loc (by kernel_rfl)) (hf := .inl (BB.fn _)))
    (vss_cons (vs_for BB.own B.cf.calm (vi_seq (ve_ixN B.cf.hu1 (B.var 3 rfl (by kernel_rfl)) (vr_of (w_neg (vr_of w_int))))) (B.tgt (by decide +kernel) 8 rfl (by kernel_rfl))
    (vss_one (vs_if (vt_not (vt_tru (vr_of (ve_callN 2 B.cf h__law_has_bad (by omega) (B.gl (by kernel_rfl)) (Z.glo 51) (va_cons (ve_vs (B.var 0 rfl (by kernel_rfl))) (va_cons (ve_vs (B.var 8 rfl (by kernel_rfl))) va_nil)))) (by intro _; rfl)))
    (vss_one (vs_for BB.own B.cf.calm (vi_seq (ve_callN 3 B.cf h__law_follows (by omega) (B.gl (by kernel_rfl)) (Z.glo 53) (va_cons (ve_v (B.var 0 rfl (by kernel_rfl))) (va_cons (ve_v (B.var 8 rfl (by kernel_rfl))) (va_cons w_int va_nil))))) (B.tgt (by decide +kernel) 10 rfl (by kernel_rfl))
    (vss_one (vs_if (w_cmpT (cw_notin B.cf) (vr_ix B.cf.hu1 (vr_v (B.var 10 rfl (by kernel_rfl))) (vr_of w_int)) (vr_v (B.var 4 rfl (by kernel_rfl))))
    (vss_cons (vs_setP 0 B.cf.hu1 w_bool (vp_name (B.var 4 rfl (by kernel_rfl))) (vr_ix B.cf.hu1 (vr_v (B.var 10 rfl (by kernel_rfl))) (vr_of w_int)))
    (vss_one (vs_expr (ve_append 0 (B.var 7 rfl (by kernel_rfl)) (ve_ixN B.cf.hu1 (B.var 10 rfl (by kernel_rfl)) (vr_of w_int))))))
    vss_nil))))
    vss_nil)))
    (vss_cons (vs_if (w_cmpT (cw_eq B.cf) (vr_of (w_lenA B (Z.free 0) (by kernel_rfl) (vra_cons (vr_v (B.var 7 rfl (by kernel_rfl))) vra_nil))) (vr_of w_int))
    (vss_one vs_break)
    vss_nil)
    (vss_one (vs_expr (ve_append 0 (B.var 3 rfl (by kernel_rfl)) (ve_v (B.var 7 rfl (by kernel_rfl))))))))))
    (vss_cons (vs_if (w_cmpT (cw_eq B.cf) (vr_of (w_lenA B (Z.free 0) (by kernel_rfl) (vra_cons (vr_of (w_lcD [("b", 8)] 0 B (by decide +kernel) (B.var 4 rfl (by kernel_rfl)) (by kernel_rfl) (by decide) (fun s H C cl fp B => (B.tgt (by decide +kernel) 8 rfl (by kernel_rfl))) (by decide) (fun s H C cl fp B => (vts_one (vt_tru (vr_of (ve_callN 2 B.cf h__law_has_bad (by omega) (B.gl (by kernel_rfl)) (Z.glo 51) (va_cons (ve_vs (B.var 0 rfl (by kernel_rfl))) (va_cons (ve_vs (B.var 8 rfl (by kernel_rfl))) va_nil)))) (by intro _; rfl)))) (fun s H C cl fp B => (ve_v (B.var 8 rfl (by kernel_rfl)))))) vra_nil))) (vr_of w_int))
    (vss_one (vs_ret (ve_tup (va_cons w_str va_nil))))
    vss_nil)
    (vss_cons (w_setLc [("t", 9)] 0 BB (by decide +kernel) rfl (by kernel_rfl) (by kernel_rfl) rfl (by kernel_rfl) (vi_range1 (B.gl (by kernel_rfl)) (Z.free 1) (vra_cons (vr_of (w_lenA B (Z.free 0) (by kernel_rfl) (vra_cons (vr_v (B.var 3 rfl (by kernel_rfl))) vra_nil))) vra_nil)) (by kernel_rfl) (by decide) (fun s H C cl fp B => (B.tgt (by decide +kernel) 9 rfl (by kernel_rfl))) (by decide) (fun s H C cl fp B => (vts_one (w_cmpT cw_gt (vr_of (w_lenA B (Z.free 0) (by kernel_rfl) (vra_cons (vr_of (w_lc [("b", 8)] 0 B (by decide +kernel) (vi_seq (ve_ixN B.cf.hu1 (B.var 3 rfl (by kernel_rfl)) (vr_v (B.var 9 rfl (by kernel_rfl))))) (by kernel_rfl) (by decide) (fun s H C cl fp B => (B.tgt (by decide +kernel) 8 rfl (by kernel_rfl))) (by decide) (fun s H C cl fp B => (vts_one (w_cmpT (cw_notin B.cf) (vr_v (B.var 8 rfl (by kernel_rfl))) (vr_v (B.var 2 rfl (by kernel_rfl)))))) (fun s H C cl fp B => (ve_v (B.var 8 rfl (by kernel_rfl)))))) vra_nil))) (vr_of w_int)))) (fun s H C cl fp B => (ve_v (B.var 9 rfl (by kernel_rfl)))))
    (vss_one (vs_ret (ve_tup (va_cons w_str (va_cons (w_sub (vr_ix B.cf.hu1 (vr_v (B.var 6 rfl (by kernel_rfl))) (vr_of w_int)) (vr_of w_int)) va_nil)))))))))))))
theorem k__law_due {P : Program} {w : World} {K : PySem.W.Frag} {mg : PySem.Str → Option Value} {base : Heap} (Z : Fx fa K mg) {fd : FuncData} (F : FunD K "_law_due" "_law_due" (defArgs s__law_due) (defBody s__law_due) (defScope s__law_due) [] [] (He.ga K "_law_due") fd) (kp : PySem.W.keepIn K (.ref (He.ga K "_law_due")) = true) (h__law_beliefs : Dn P w K mg base 4 ("_law_beliefs", none) ["a", "cap"] (spP K 2 n__law_beliefs)) (h__law_won : Dn P w K mg base 4 ("_law_won", none) ["a", "beliefs"] (spP K 2 n__law_won)) (h__law_has_bad : Dn P w K mg base 1 ("_law_has_bad", none) ["a", "b"] (spP K 2 n__law_has_bad)) (h__law_follows : Dn P w K mg base 3 ("_law_follows", none) ["a", "b", "c"] (spP K 3 n__law_follows)) : Dn P w K mg base 5 ("_law_due", none) ["a"] (spP K 1 n__law_due) := by
  refine ⟨⟨fd, fn_P (P := P) (w := w) (mg := mg) (base := base) (N := N__law_due) (ps := ["a"]) (lv := 4) (raw := r__law_due) F (scB_ok (by kernel_rfl)) (fun X W e1 e2 e3 e4 e5 B => by subst e1 e2 e3 e4 e5; exact b__law_due B Z h__law_beliefs h__law_won h__law_has_bad h__law_follows), F.bindsN fun _ _ _ _ _ _ us hl => ?_⟩, kp⟩
  exact match us, hl with | [u0], _ => rfl
def N_law : List PySem.Str := ["script", "pool", "way", "chain", "due", "twin", "due_too", "one", "two", "a", "ringed_too", "k", "<t>"]
def N__law_told : List PySem.Str := ["ask", "e"]
theorem b_law {X : Cx} {W : WX} {P c : Addr} {q : PySem.Str} (BB : Bd X W 7 N_law (defScope s_law)) (Z : Fx fa X.K X.mg) (TB : LamX.TabB X.base X.mg c P) (hcode : X.env.code = .ref c) (hq : q = X.env.qual ++ "<lambda>") (h__law_pool : Dn X.prog X.w X.K X.mg X.base 2 ("_law_pool", none) ["script", "k"] (spP X.K 2 n__law_pool)) (h__law_draw : Dn X.prog X.w X.K X.mg X.base 2 ("_law_draw", none) ["pool", "many"] (spI X.K 2 0 1 n__law_draw)) (h__law_chain : Dn X.prog X.w X.K X.mg X.base 4 ("_law_chain", none) ["pool"] (spI X.K 1 0 1 n__law_chain)) (h__law_chance : Dn X.prog X.w X.K X.mg X.base 3 ("_law_chance", none) ["pool", "one", "of"] (spI X.K 3 0 1 n__law_chance)) (h__law_draw_arena : Dn X.prog X.w X.K X.mg X.base 4 ("_law_draw_arena", none) ["pool", "n", "commands", "offices", "loops"] (spI X.K 5 0 1 n__law_draw_arena)) (h__law_draw_traps : Dn X.prog X.w X.K X.mg X.base 4 ("_law_draw_traps", none) ["pool"] (spI X.K 1 0 1 n__law_draw_traps)) (h__law_due : Dn X.prog X.w X.K X.mg X.base 5 ("_law_due", none) ["a"] (spP X.K 1 n__law_due)) (h__law_arena : Dn X.prog X.w X.K X.mg X.base 7 ("_law_arena", none) ["a"] (spP X.K 1 n__law_arena)) (h__law_same : Dn X.prog X.w X.K X.mg X.base 5 ("_law_same", none) ["got", "due"] (spP X.K 2 (n__law_same 5))) (h_latest : Dn X.prog X.w X.K X.mg X.base 5 ("latest", none) ["arena"] (spP X.K 1 n_latest)) {fd__law_told : FuncData} (F__law_told : FunD X.K "_law_told" "_law_told" (defArgs s__law_told) (defBody s__law_told) (defScope s__law_told) [] [] (He.ga X.K "_law_told") fd__law_told) : VSs X W (defBody s_law) (r_law P q) := by
  subst hq
  have B := BB.bx
  exact (vss_cons (vs_asg (ve_callN 2 B.cf h__law_pool (by omega) (B.gl (by kernel_rfl)) (Z.glo 60) (va_cons (ve_v (B.var 0 rfl (by kernel_rfl))) (va_cons w_int va_nil))) (B.nd (by decide +kernel)) (B.n 1 rfl) (BB.loc (by kernel_rfl)) (hf := .inl (BB.fn _)))
    (vss_cons (vs_asg (ve_callIN 1 B.cf h__law_draw (by omega) (B.gl (by kernel_rfl)) (Z.glo 41) (vai_here (B.var 1 rfl (by kernel_rfl)) (va_cons w_int va_nil))) (B.nd (by decide +kernel)) (B.n 2 rfl) (BB.loc (by kernel_rfl)) (hf := .inl (BB.fn _)))
    (vss_cons (vs_asg (ve_callTN B.cf h__law_chain (by omega) (B.gl (by kernel_rfl)) (Z.glo 61) (ve_callN 2 B.cf h__law_pool (by omega) (B.gl (by kernel_rfl)) (Z.glo 60) (va_cons (ve_v (B.var 0 rfl (by kernel_rfl))) (va_cons w_int va_nil)))) (B.nd (by decide +kernel)) (B.n 3 rfl) (BB.loc (by kernel_rfl)) (hf := .inl (BB.fn _)))
    (vss_cons (vs_if (w_cmpT (cw_eq B.cf) (vr_v (B.var 2 rfl (by kernel_rfl))) (vr_of w_int))
    (vss_one (vs_asg (ve_ixN B.cf.hu1 (B.var 3 rfl (by kernel_rfl)) (vr_of w_int)) (B.nd (by decide +kernel)) (B.n 9 rfl) (BB.loc (by kernel_rfl)) (hf := .inl (BB.fn _))))
    (vss_one (vs_if (w_cmpT cw_lt (vr_v (B.var 2 rfl (by kernel_rfl))) (vr_of w_int))
    (vss_cons (vs_asg (ve_callIN 2 B.cf h__law_chance (by omega) (B.gl (by kernel_rfl)) (Z.glo 56) (vai_here (B.var 1 rfl (by kernel_rfl)) (va_cons w_int (va_cons w_int va_nil)))) (B.nd (by decide +kernel)) (B.n 10 rfl) (BB.loc (by kernel_rfl)) (hf := .inl (BB.fn _)))
    (vss_one (vs_asg (ve_callIN 4 B.cf h__law_draw_arena (by omega) (B.gl (by kernel_rfl)) (Z.glo 62) (vai_here (B.var 1 rfl (by kernel_rfl)) (va_cons (w_addD w_int (vr_of (ve_callIN 1 B.cf h__law_draw (by omega) (B.gl (by kernel_rfl)) (Z.glo 41) (vai_here (B.var 1 rfl (by kernel_rfl)) (va_cons w_int va_nil))))) (va_cons (w_addD w_int (vr_of (ve_callIN 1 B.cf h__law_draw (by omega) (B.gl (by kernel_rfl)) (Z.glo 41) (vai_here (B.var 1 rfl (by kernel_rfl)) (va_cons w_int va_nil))))) (va_cons (w_addD w_int (vr_of (ve_callIN 1 B.cf h__law_draw (by omega) (B.gl (by kernel_rfl)) (Z.glo 41) (vai_here (B.var 1 rfl (by kernel_rfl)) (va_cons w_int va_nil))))) (va_cons (ve_v (B.var 10 rfl (by kernel_rfl))) va_nil)))))) (B.nd (by decide +kernel)) (B.n 9 rfl) (BB.loc (by kernel_rfl)) (hf := .inl (BB.fn _)))))
    (vss_one (vs_asg (ve_callIN 0 B.cf h__law_draw_traps (by omega) (B.gl (by kernel_rfl)) (Z.glo 63) (vai_here (B.var 1 rfl (by kernel_rfl)) va_nil)) (B.nd (by decide +kernel)) (B.n 9 rfl) (BB.loc (by kernel_rfl)) (hf := .inl (BB.fn _)))))))
    (vss_cons (vs_asg (ve_ixN B.cf.hu1 (B.var 3 rfl (by kernel_rfl)) (vr_of w_int)) (B.nd (by decide +kernel)) (B.n 4 rfl) (BB.loc (by kernel_rfl)) (hf := .inl (BB.fn _)))
    (vss_cons (vs_if (w_cmpT cw_gt (vr_v (B.var 2 rfl (by kernel_rfl))) (vr_of w_int))
    (vss_one (vs_asg (ve_callN 1 B.cf h__law_due (by omega) (B.gl (by kernel_rfl)) (Z.glo 64) (va_cons (ve_v (B.var 9 rfl (by kernel_rfl))) va_nil)) (B.nd (by decide +kernel)) (B.n 4 rfl) (BB.loc (by kernel_rfl)) (hf := .inl (BB.fn _))))
    vss_nil)
    (vss_cons (vs_asg (ve_tup (va_cons (ve_ixN B.cf.hu1 (B.var 9 rfl (by kernel_rfl)) (vr_of w_int)) (va_cons (ve_ixN B.cf.hu1 (B.var 9 rfl (by kernel_rfl)) (vr_of w_int)) (va_cons (w_sortSet B (Z.free 28) (by kernel_rfl) (Z.free 48) (by kernel_rfl) (vr_of (w_lc [("k", 11)] 0 B (by decide +kernel) (vi_range1 (B.gl (by kernel_rfl)) (Z.free 1) (vra_cons (vr_of (ve_callIN 1 B.cf h__law_draw (by omega) (B.gl (by kernel_rfl)) (Z.glo 41) (vai_here (B.var 1 rfl (by kernel_rfl)) (va_cons w_int va_nil)))) vra_nil)) (by kernel_rfl) (by decide) (fun s H C cl fp B => (B.tgt (by decide +kernel) 11 rfl (by kernel_rfl))) (by decide) (fun s H C cl fp B => vts_nil) (fun s H C cl fp B => (ve_callIN 1 B.cf h__law_draw (by omega) (B.gl (by kernel_rfl)) (Z.glo 41) (vai_here (B.var 1 rfl (by kernel_rfl)) (va_cons (w_lenA B (Z.free 0) (by kernel_rfl) (vra_cons (vr_ix B.cf.hu1 (vr_v (B.var 9 rfl (by kernel_rfl))) (vr_of w_int)) vra_nil)) va_nil))))))) va_nil)))) (B.nd (by decide +kernel)) (B.n 5 rfl) (BB.loc (by kernel_rfl)) (hf := .inl (BB.fn _)))
    (vss_cons (vs_asg (ve_callN 1 B.cf h__law_due (by omega) (B.gl (by kernel_rfl)) (Z.glo 64) (va_cons (ve_v (B.var 5 rfl (by kernel_rfl))) va_nil)) (B.nd (by decide +kernel)) (B.n 6 rfl) (BB.loc (by kernel_rfl)) (hf := .inl (BB.fn _)))
    (vss_cons (vs_asg (ve_callN 1 B.cf h__law_arena (by omega) (B.gl (by kernel_rfl)) (Z.glo 65) (va_cons (ve_v (B.var 9 rfl (by kernel_rfl))) va_nil)) (B.nd (by decide +kernel)) (B.n 7 rfl) (BB.loc (by kernel_rfl)) (hf := .inl (BB.fn _)))
    (vss_cons (vs_asg (ve_callN 1 B.cf h__law_arena (by omega) (B.gl (by kernel_rfl)) (Z.glo 65) (va_cons (ve_v (B.var 5 rfl (by kernel_rfl))) va_nil)) (B.nd (by decide +kernel)) (B.n 8 rfl) (BB.loc (by kernel_rfl)) (hf := .inl (BB.fn _)))
    (vss_cons (vs_if (vt_not (vt_tru (vr_of (ve_callN 2 B.cf h__law_same (by omega) (B.gl (by kernel_rfl)) (Z.glo 46) (va_cons (ve_told (i := 12) (k := 5) F__law_told (F__law_told.bindsN fun _ _ _ _ _ _ us hl => match us, hl with | [u0], _ => rfl) (B.gl (by kernel_rfl)) (Z.glo 66) (Ng := N__law_told) (scB_ok (by kernel_rfl)) rfl (visB_ok (by kernel_rfl)) (fun _ => told_gives fun _ => rfl) TB hcode (B.cf.room.mono (by omega)) (LamX.lamS_by (by rw [BB.hs]; kernel_rfl)) rfl (fun _ _ _ _ _ => rfl) (fun A outer s H E f c1 hr => by
      have B := lam_bx (outer := outer) (H := H) (E := E) B hr (by rfl)
      exact (ve_callN 1 B.cf h_latest (by omega) (B.gl (by kernel_rfl)) (Z.glo 67) (va_cons (ve_v (B.var 7 rfl (by kernel_rfl))) va_nil)))) (va_cons (ve_tup (va_cons w_str (va_cons (ve_vs (B.var 4 rfl (by kernel_rfl))) va_nil))) va_nil)))) (by intro _; rfl)))
    (vss_one (vs_ret w_bool))
    vss_nil)
    (vss_cons (vs_if (vt_not (vt_tru (vr_of (ve_callN 2 B.cf h__law_same (by omega) (B.gl (by kernel_rfl)) (Z.glo 46) (va_cons (ve_told (i := 12) (k := 5) F__law_told (F__law_told.bindsN fun _ _ _ _ _ _ us hl => match us, hl with | [u0], _ => rfl) (B.gl (by kernel_rfl)) (Z.glo 66) (Ng := N__law_told) (scB_ok (by kernel_rfl)) rfl (visB_ok (by kernel_rfl)) (fun _ => told_gives fun _ => rfl) TB hcode (B.cf.room.mono (by omega)) (LamX.lamS_by (by rw [BB.hs]; kernel_rfl)) rfl (fun _ _ _ _ _ => rfl) (fun A outer s H E f c1 hr => by
      have B := lam_bx (outer := outer) (H := H) (E := E) B hr (by rfl)
      exact (ve_callN 1 B.cf h_latest (by omega) (B.gl (by kernel_rfl)) (Z.glo 67) (va_cons (ve_v (B.var 8 rfl (by kernel_rfl))) va_nil)))) (va_cons (ve_tup (va_cons w_str (va_cons (ve_vs (B.var 6 rfl (by kernel_rfl))) va_nil))) va_nil)))) (by intro _; rfl)))
    (vss_one (vs_ret w_bool))
    vss_nil)
    (vss_one (vs_ret (ve_callN 2 B.cf h__law_same (by omega) (B.gl (by kernel_rfl)) (Z.glo 46) (va_cons (ve_told (i := 12) (k := 5) F__law_told (F__law_told.bindsN fun _ _ _ _ _ _ us hl => match us, hl with | [u0], _ => rfl) (B.gl (by kernel_rfl)) (Z.glo 66) (Ng := N__law_told) (scB_ok (by kernel_rfl)) rfl (visB_ok (by kernel_rfl)) (fun _ => told_gives fun _ => rfl) TB hcode (B.cf.room.mono (by omega)) (LamX.lamS_by (by rw [BB.hs]; kernel_rfl)) rfl (fun _ _ _ _ _ => rfl) (fun A outer s H E f c1 hr => by
      have B := lam_bx (outer := outer) (H := H) (E := E) B hr (by rfl)
      exact (ve_callN 1 B.cf h_latest (by omega) (B.gl (by kernel_rfl)) (Z.glo 67) (va_cons (ve_v (B.var 7 rfl (by kernel_rfl))) va_nil)))) (va_cons (ve_tup (va_cons w_str (va_cons (ve_v (B.var 4 rfl (by kernel_rfl))) va_nil))) va_nil)))))))))))))))))
end K
namespace My
open PySem PySem.Spec PyProof.Rows L2 VL
def d_check : He.DefD := ⟨("check", none), "check", "check", defArgs K.s_check, defBody K.s_check, defScope K.s_check, [], []⟩
def d_in_range : He.DefD := ⟨("in_range", none), "in_range", "in_range", defArgs K.s_in_range, defBody K.s_in_range, defScope K.s_in_range, [], []⟩
def d_is_ascending : He.DefD := ⟨("is_ascending", none), "is_ascending", "is_ascending", defArgs K.s_is_ascending, defBody K.s_is_ascending, defScope K.s_is_ascending, [], []⟩
def d_commands_of : He.DefD := ⟨("commands_of", none), "commands_of", "commands_of", defArgs K.s_commands_of, defBody K.s_commands_of, defScope K.s_commands_of, [], []⟩
def d_is_outcome : He.DefD := ⟨("is_outcome", none), "is_outcome", "is_outcome", defArgs K.s_is_outcome, defBody K.s_is_outcome, defScope K.s_is_outcome, [], []⟩
def d_is_entry : He.DefD := ⟨("is_entry", none), "is_entry", "is_entry", defArgs K.s_is_entry, defBody K.s_is_entry, defScope K.s_is_entry, [], []⟩
def d_are_moves : He.DefD := ⟨("are_moves", none), "are_moves", "are_moves", defArgs K.s_are_moves, defBody K.s_are_moves, defScope K.s_are_moves, [], []⟩
def d_Arena___init__ : He.DefD := ⟨("Arena", some "__init__"), "__init__", "Arena.__init__", defArgs K.s_Arena___init__, defBody K.s_Arena___init__, defScope K.s_Arena___init__, [], []⟩
def d_Arena_is_bad : He.DefD := ⟨("Arena", some "is_bad"), "is_bad", "Arena.is_bad", defArgs K.s_Arena_is_bad, defBody K.s_Arena_is_bad, defScope K.s_Arena_is_bad, [], []⟩
def d_Arena_is_live : He.DefD := ⟨("Arena", some "is_live"), "is_live", "Arena.is_live", defArgs K.s_Arena_is_live, defBody K.s_Arena_is_live, defScope K.s_Arena_is_live, [], []⟩
def d_Arena_outcomes : He.DefD := ⟨("Arena", some "outcomes"), "outcomes", "Arena.outcomes", defArgs K.s_Arena_outcomes, defBody K.s_Arena_outcomes, defScope K.s_Arena_outcomes, [], []⟩
def d_has_bad : He.DefD := ⟨("has_bad", none), "has_bad", "has_bad", defArgs K.s_has_bad, defBody K.s_has_bad, defScope K.s_has_bad, [], []⟩
def d_next_beliefs : He.DefD := ⟨("next_beliefs", none), "next_beliefs", "next_beliefs", defArgs K.s_next_beliefs, defBody K.s_next_beliefs, defScope K.s_next_beliefs, [], []⟩
def d_belief_graph : He.DefD := ⟨("belief_graph", none), "belief_graph", "belief_graph", defArgs K.s_belief_graph, defBody K.s_belief_graph, defScope K.s_belief_graph, [], []⟩
def d_incoming : He.DefD := ⟨("incoming", none), "incoming", "incoming", defArgs K.s_incoming, defBody K.s_incoming, defScope K.s_incoming, [], []⟩
def d_next_layer : He.DefD := ⟨("next_layer", none), "next_layer", "next_layer", defArgs K.s_next_layer, defBody K.s_next_layer, defScope K.s_next_layer, [], []⟩
def d_strike : He.DefD := ⟨("strike", none), "strike", "strike", defArgs K.s_strike, defBody K.s_strike, defScope K.s_strike, [], []⟩
def d_latest : He.DefD := ⟨("latest", none), "latest", "latest", defArgs K.s_latest, defBody K.s_latest, defScope K.s_latest, [], []⟩
def d__law_cell : He.DefD := ⟨("_law_cell", none), "_law_cell", "_law_cell", defArgs K.s__law_cell, defBody K.s__law_cell, defScope K.s__law_cell, [], []⟩
def d__law_mixed : He.DefD := ⟨("_law_mixed", none), "_law_mixed", "_law_mixed", defArgs K.s__law_mixed, defBody K.s__law_mixed, defScope K.s__law_mixed, [], []⟩
def d__law_pool : He.DefD := ⟨("_law_pool", none), "_law_pool", "_law_pool", defArgs K.s__law_pool, defBody K.s__law_pool, defScope K.s__law_pool, [], []⟩
def d__law_draw : He.DefD := ⟨("_law_draw", none), "_law_draw", "_law_draw", defArgs K.s__law_draw, defBody K.s__law_draw, defScope K.s__law_draw, [], []⟩
def d__law_chance : He.DefD := ⟨("_law_chance", none), "_law_chance", "_law_chance", defArgs K.s__law_chance, defBody K.s__law_chance, defScope K.s__law_chance, [], []⟩
def d__law_same : He.DefD := ⟨("_law_same", none), "_law_same", "_law_same", defArgs K.s__law_same, defBody K.s__law_same, defScope K.s__law_same, [], []⟩
def d__law_live : He.DefD := ⟨("_law_live", none), "_law_live", "_law_live", defArgs K.s__law_live, defBody K.s__law_live, defScope K.s__law_live, [], []⟩
def d__law_commands : He.DefD := ⟨("_law_commands", none), "_law_commands", "_law_commands", defArgs K.s__law_commands, defBody K.s__law_commands, defScope K.s__law_commands, [], []⟩
def d__law_after : He.DefD := ⟨("_law_after", none), "_law_after", "_law_after", defArgs K.s__law_after, defBody K.s__law_after, defScope K.s__law_after, [], []⟩
def d__law_answers : He.DefD := ⟨("_law_answers", none), "_law_answers", "_law_answers", defArgs K.s__law_answers, defBody K.s__law_answers, defScope K.s__law_answers, [], []⟩
def d__law_follows : He.DefD := ⟨("_law_follows", none), "_law_follows", "_law_follows", defArgs K.s__law_follows, defBody K.s__law_follows, defScope K.s__law_follows, [], []⟩
def d__law_has_bad : He.DefD := ⟨("_law_has_bad", none), "_law_has_bad", "_law_has_bad", defArgs K.s__law_has_bad, defBody K.s__law_has_bad, defScope K.s__law_has_bad, [], []⟩
def d__law_beliefs : He.DefD := ⟨("_law_beliefs", none), "_law_beliefs", "_law_beliefs", defArgs K.s__law_beliefs, defBody K.s__law_beliefs, defScope K.s__law_beliefs, [], []⟩
def d__law_arena : He.DefD := ⟨("_law_arena", none), "_law_arena", "_law_arena", defArgs K.s__law_arena, defBody K.s__law_arena, defScope K.s__law_arena, [], []⟩
def d__law_draw_arena : He.DefD := ⟨("_law_draw_arena", none), "_law_draw_arena", "_law_draw_arena", defArgs K.s__law_draw_arena, defBody K.s__law_draw_arena, defScope K.s__law_draw_arena, [], []⟩
def d__law_draw_traps : He.DefD := ⟨("_law_draw_traps", none), "_law_draw_traps", "_law_draw_traps", defArgs K.s__law_draw_traps, defBody K.s__law_draw_traps, defScope K.s__law_draw_traps, [], []⟩
def d__law_chain : He.DefD := ⟨("_law_chain", none), "_law_chain", "_law_chain", defArgs K.s__law_chain, defBody K.s__law_chain, defScope K.s__law_chain, [], []⟩
def d__law_won : He.DefD := ⟨("_law_won", none), "_law_won", "_law_won", defArgs K.s__law_won, defBody K.s__law_won, defScope K.s__law_won, [], []⟩
def d__law_due : He.DefD := ⟨("_law_due", none), "_law_due", "_law_due", defArgs K.s__law_due, defBody K.s__law_due, defScope K.s__law_due, [], []⟩
def d_law : He.DefD := ⟨("law", none), "law", "law", defArgs K.s_law, defBody K.s_law, defScope K.s_law, [], []⟩
def d__law_told : He.DefD := ⟨("_law_told", none), "_law_told", "_law_told", defArgs K.s__law_told, defBody K.s__law_told, defScope K.s__law_told, [], []⟩
def fn : List He.DefD := [d_check, d_in_range, d_is_ascending, d_commands_of, d_is_outcome, d_is_entry, d_are_moves, d_Arena___init__, d_Arena_is_bad, d_Arena_is_live, d_Arena_outcomes, d_has_bad, d_next_beliefs, d_belief_graph, d_incoming, d_next_layer, d_strike, d_latest, d__law_cell, d__law_mixed, d__law_pool, d__law_draw, d__law_chance, d__law_same, d__law_live, d__law_commands, d__law_after, d__law_answers, d__law_follows, d__law_has_bad, d__law_beliefs, d__law_arena, d__law_draw_arena, d__law_draw_traps, d__law_chain, d__law_won, d__law_due, d_law, d__law_told]
def fa : List He.Fa := .glo "law" :: K.fa
def tf : List He.Defn := [("law", none)]
def nm0 : List PySem.Str := ["HarbourError", "BadValue", "TooMany", "NoStory", "Over", "DeskError", "check", "in_range", "is_ascending", "MOST_OFFICES", "MOST_NODES", "MOST_COMMANDS", "MOST_OUTCOMES", "MOST_HEARD", "commands_of", "is_outcome", "is_entry", "are_moves", "Arena", "MOST_BELIEFS", "has_bad", "next_beliefs", "belief_graph", "incoming", "next_layer", "strike", "latest", "_law_cell", "_law_mixed", "_law_pool"]
def nm1 : List PySem.Str := ["_law_draw", "_law_chance", "_law_same", "_law_told", "_law_live", "_law_commands", "_law_after", "_law_answers", "_law_follows", "_law_has_bad", "_law_beliefs", "_law_arena", "_law_draw_arena", "_law_draw_traps", "_law_chain", "_law_won", "_law_due"]
def names : List PySem.Str := nm0 ++ nm1
abbrev R : PySem.W.OpenRow := PySem.W.OpenLaw.row PySem.Challenge.rw_boxharbour_k87_whole_latest
def ex : PySem.W.Frag → Bool := fun _ => true
abbrev hk : PySem.W.Hook := He.hookX 5 fa fn [] tf ex
def ob (s : PySem.W.SharedT) : He.AlX := He.obsX 5 fa fn [] tf ex (HandSHeadRun.getT s)
theorem ob_eq (s : PySem.W.SharedT) : ob s = hk.obs s.abs := He.obsX_eq (HandSHeadRun.getT_eq s)
theorem run (w : World) : HandSHeadRun.RunEq R (PySem.W.view R.prog [53]) hk ob 20000 names w := by
  intro os
  kernel_rfl
theorem law_ok {P : Program} {w : World} {Q : PySem.W.Frag} {mg : PySem.Str → Option Value} {base : Heap} {c PT : Addr} {fd : FuncData} (Z : Fx K.fa Q mg) (s : He.SaysD fa fn Q) (TB : LamX.TabB base mg c PT) (hKP : Q.lookup PT = none) (F : FunD Q "law" "law" (defArgs K.s_law) (defBody K.s_law) (defScope K.s_law) [] [] (He.ga Q "law") fd) (hcd : fd.code = .ref c) :
    FnOk P w Q mg base (L2.CX P w) 8 (He.ga Q "law") fd ["script"] (spLaw Q PT 63) := by
  obtain ⟨fd0, F_check⟩ := s.def_ 0 (d := d_check) rfl
  have h_check := K.k_check (P := P) (w := w) (base := base) Z F_check F_check.kp
  obtain ⟨fd1, F_in_range⟩ := s.def_ 1 (d := d_in_range) rfl
  have h_in_range := K.k_in_range (P := P) (w := w) (base := base) Z F_in_range F_in_range.kp
  obtain ⟨fd2, F_is_ascending⟩ := s.def_ 2 (d := d_is_ascending) rfl
  have h_is_ascending := K.k_is_ascending (P := P) (w := w) (base := base) Z F_is_ascending F_is_ascending.kp
  obtain ⟨fd3, F_commands_of⟩ := s.def_ 3 (d := d_commands_of) rfl
  have h_commands_of := K.k_commands_of (P := P) (w := w) (base := base) Z F_commands_of F_commands_of.kp
  obtain ⟨fd4, F_is_outcome⟩ := s.def_ 4 (d := d_is_outcome) rfl
  have h_is_outcome := K.k_is_outcome (P := P) (w := w) (base := base) Z F_is_outcome F_is_outcome.kp h_in_range
  obtain ⟨fd5, F_is_entry⟩ := s.def_ 5 (d := d_is_entry) rfl
  have h_is_entry := K.k_is_entry (P := P) (w := w) (base := base) Z F_is_entry F_is_entry.kp h_in_range h_is_outcome
  obtain ⟨fd6, F_are_moves⟩ := s.def_ 6 (d := d_are_moves) rfl
  have h_are_moves := K.k_are_moves (P := P) (w := w) (base := base) Z F_are_moves F_are_moves.kp h_commands_of h_in_range h_is_entry
  obtain ⟨fd7, F_Arena___init__⟩ := s.def_ 7 (d := d_Arena___init__) rfl
  have h_Arena___init__ := K.k_Arena___init__ (P := P) (w := w) (base := base) Z F_Arena___init__ F_Arena___init__.kp h_check h_in_range h_are_moves h_is_ascending h_commands_of
  obtain ⟨fd8, F_Arena_is_bad⟩ := s.def_ 8 (d := d_Arena_is_bad) rfl
  have h_Arena_is_bad := K.k_Arena_is_bad (P := P) (w := w) (base := base) Z F_Arena_is_bad F_Arena_is_bad.kp
  obtain ⟨fd9, F_Arena_is_live⟩ := s.def_ 9 (d := d_Arena_is_live) rfl
  have h_Arena_is_live := K.k_Arena_is_live (P := P) (w := w) (base := base) Z F_Arena_is_live F_Arena_is_live.kp
  obtain ⟨fd10, F_Arena_outcomes⟩ := s.def_ 10 (d := d_Arena_outcomes) rfl
  have h_Arena_outcomes := K.k_Arena_outcomes (P := P) (w := w) (base := base) Z F_Arena_outcomes F_Arena_outcomes.kp h_check h_in_range h_Arena_is_live
  obtain ⟨fd11, F_has_bad⟩ := s.def_ 11 (d := d_has_bad) rfl
  have h_has_bad := K.k_has_bad (P := P) (w := w) (base := base) Z F_has_bad F_has_bad.kp h_Arena_is_bad
  obtain ⟨fd12, F_next_beliefs⟩ := s.def_ 12 (d := d_next_beliefs) rfl
  have h_next_beliefs := K.k_next_beliefs (P := P) (w := w) (base := base) Z F_next_beliefs F_next_beliefs.kp h_Arena_outcomes
  obtain ⟨fd13, F_belief_graph⟩ := s.def_ 13 (d := d_belief_graph) rfl
  have h_belief_graph := K.k_belief_graph (P := P) (w := w) (base := base) Z F_belief_graph F_belief_graph.kp h_has_bad h_next_beliefs
  obtain ⟨fd14, F_incoming⟩ := s.def_ 14 (d := d_incoming) rfl
  have h_incoming := K.k_incoming (P := P) (w := w) (base := base) Z F_incoming F_incoming.kp
  obtain ⟨fd15, F_next_layer⟩ := s.def_ 15 (d := d_next_layer) rfl
  have h_next_layer := K.k_next_layer (P := P) (w := w) (base := base) Z F_next_layer F_next_layer.kp
  obtain ⟨fd16, F_strike⟩ := s.def_ 16 (d := d_strike) rfl
  have h_strike := K.k_strike (P := P) (w := w) (base := base) Z F_strike F_strike.kp h_incoming h_next_layer
  obtain ⟨fd17, F_latest⟩ := s.def_ 17 (d := d_latest) rfl
  have h_latest := K.k_latest (P := P) (w := w) (base := base) Z F_latest F_latest.kp h_belief_graph h_strike
  obtain ⟨fd18, F__law_cell⟩ := s.def_ 18 (d := d__law_cell) rfl
  have h__law_cell := K.k__law_cell (P := P) (w := w) (base := base) Z F__law_cell F__law_cell.kp
  obtain ⟨fd19, F__law_mixed⟩ := s.def_ 19 (d := d__law_mixed) rfl
  have h__law_mixed := K.k__law_mixed (P := P) (w := w) (base := base) Z F__law_mixed F__law_mixed.kp
  obtain ⟨fd20, F__law_pool⟩ := s.def_ 20 (d := d__law_pool) rfl
  have h__law_pool := K.k__law_pool (P := P) (w := w) (base := base) Z F__law_pool F__law_pool.kp h__law_cell
  obtain ⟨fd21, F__law_draw⟩ := s.def_ 21 (d := d__law_draw) rfl
  have h__law_draw := K.k__law_draw (P := P) (w := w) (base := base) Z F__law_draw F__law_draw.kp h__law_mixed
  obtain ⟨fd22, F__law_chance⟩ := s.def_ 22 (d := d__law_chance) rfl
  have h__law_chance := K.k__law_chance (P := P) (w := w) (base := base) Z F__law_chance F__law_chance.kp h__law_draw
  obtain ⟨fd23, F__law_same⟩ := s.def_ 23 (d := d__law_same) rfl
  have h__law_same := K.k__law_same (P := P) (w := w) (base := base) Z F__law_same F__law_same.kp 5
  obtain ⟨fd24, F__law_live⟩ := s.def_ 24 (d := d__law_live) rfl
  have h__law_live := K.k__law_live (P := P) (w := w) (base := base) Z F__law_live F__law_live.kp
  obtain ⟨fd25, F__law_commands⟩ := s.def_ 25 (d := d__law_commands) rfl
  have h__law_commands := K.k__law_commands (P := P) (w := w) (base := base) Z F__law_commands F__law_commands.kp
  obtain ⟨fd26, F__law_after⟩ := s.def_ 26 (d := d__law_after) rfl
  have h__law_after := K.k__law_after (P := P) (w := w) (base := base) Z F__law_after F__law_after.kp h__law_live
  obtain ⟨fd27, F__law_answers⟩ := s.def_ 27 (d := d__law_answers) rfl
  have h__law_answers := K.k__law_answers (P := P) (w := w) (base := base) Z F__law_answers F__law_answers.kp h__law_live
  obtain ⟨fd28, F__law_follows⟩ := s.def_ 28 (d := d__law_follows) rfl
  have h__law_follows := K.k__law_follows (P := P) (w := w) (base := base) Z F__law_follows F__law_follows.kp h__law_answers h__law_after
  obtain ⟨fd29, F__law_has_bad⟩ := s.def_ 29 (d := d__law_has_bad) rfl
  have h__law_has_bad := K.k__law_has_bad (P := P) (w := w) (base := base) Z F__law_has_bad F__law_has_bad.kp
  obtain ⟨fd30, F__law_beliefs⟩ := s.def_ 30 (d := d__law_beliefs) rfl
  have h__law_beliefs := K.k__law_beliefs (P := P) (w := w) (base := base) Z F__law_beliefs F__law_beliefs.kp h__law_has_bad h__law_commands h__law_follows
  obtain ⟨fd31, F__law_arena⟩ := s.def_ 31 (d := d__law_arena) rfl
  have h__law_arena := K.k__law_arena (P := P) (w := w) (base := base) Z F__law_arena F__law_arena.kp h_Arena___init__
  obtain ⟨fd32, F__law_draw_arena⟩ := s.def_ 32 (d := d__law_draw_arena) rfl
  have h__law_draw_arena := K.k__law_draw_arena (P := P) (w := w) (base := base) Z F__law_draw_arena F__law_draw_arena.kp h__law_chance h__law_draw
  obtain ⟨fd33, F__law_draw_traps⟩ := s.def_ 33 (d := d__law_draw_traps) rfl
  have h__law_draw_traps := K.k__law_draw_traps (P := P) (w := w) (base := base) Z F__law_draw_traps F__law_draw_traps.kp h__law_draw h__law_chance
  obtain ⟨fd34, F__law_chain⟩ := s.def_ 34 (d := d__law_chain) rfl
  have h__law_chain := K.k__law_chain (P := P) (w := w) (base := base) Z F__law_chain F__law_chain.kp h__law_draw h__law_chance
  obtain ⟨fd35, F__law_won⟩ := s.def_ 35 (d := d__law_won) rfl
  have h__law_won := K.k__law_won (P := P) (w := w) (base := base) Z F__law_won F__law_won.kp h__law_has_bad h__law_commands h__law_follows
  obtain ⟨fd36, F__law_due⟩ := s.def_ 36 (d := d__law_due) rfl
  have h__law_due := K.k__law_due (P := P) (w := w) (base := base) Z F__law_due F__law_due.kp h__law_beliefs h__law_won h__law_has_bad h__law_follows
  obtain ⟨fd38, F__law_told⟩ := s.def_ 38 (d := d__law_told) rfl
  exact fn_law (y := "script") (N := K.N_law) (lv := 7) (n := 11) (raw := fun P q => K.r_law P q) hKP F (scB_ok (by kernel_rfl)) (fun X W q e1 e2 e3 e4 e5 e6 e7 B => by
    subst e1 e2 e3 e4 e5
    exact K.b_law B Z TB (e6.trans hcd) e7 h__law_pool h__law_draw h__law_chain h__law_chance h__law_draw_arena h__law_draw_traps h__law_due h__law_arena h__law_same h_latest F__law_told) rfl (fun q ns hl => K.law_raw PT q ns)
end My
open PySem PySem.W PySem.Calls PyProof.Rows
theorem PySem.Challenge.cw_boxharbour_k87_whole_latest_holds : PySem.Challenge.rw_boxharbour_k87_whole_latest.Holds := by
  w_on; o_law
  refine HandSHeadRun.head_any (r := OpenLaw.row PySem.Challenge.rw_boxharbour_k87_whole_latest) (q := view (OpenLaw.row PySem.Challenge.rw_boxharbour_k87_whole_latest).prog [53]) (H := My.hk) (ob := My.ob) (M := 20000) (loose := My.names) (d := HandSHeadRun.topDef (OpenLaw.row PySem.Challenge.rw_boxharbour_k87_whole_latest).prog 53) (kwd := []) My.ob_eq
    (by kernel_rfl) (fun s => by kernel_rfl) My.run (by kernel_rfl) (by kernel_rfl) (by kernel_rfl) (by rfl) (by first | assumption | decide +kernel) (by decide +kernel) ⟨rfl, rfl, rfl, rfl, rfl, by decide +kernel⟩ ?hw ?hc
  case hw => w_witness2
  case hc =>
    refine LamX.walk_ofTsE (l := PySem.Challenge.rw_boxharbour_k87_whole_latest) (n := 63) (k := 20) (x := "script") (CX := fun w => L2.CX (PySem.Challenge.rw_boxharbour_k87_whole_latest).prog w) rfl (by decide) (by kernel_rfl) ⟨rfl, by decide, by decide⟩ ?F (fun _ _ _ _ _ z => by
      obtain ⟨_, _, _, _, _, _, _, _, _, _, _, _, z⟩ := z
      exact z)
    intro w mg fa h Y G hmg0
    obtain ⟨Q, QX, c⟩ := Y
    have hmg : mg ("law" : PySem.Str) = some (.ref fa) := by
      have e : (HandSHeadRun.topDef (OpenLaw.row PySem.Challenge.rw_boxharbour_k87_whole_latest).prog 53).name = ("law" : PySem.Str) := by kernel_rfl
      rw [← e]
      exact hmg0
    have hs : He.SaysD My.fa My.fn Q := c.t.d
    have Z0 : VL.Fx K.fa Q mg := ⟨⟨h, QX, G⟩, fun f m => hs.facts (List.mem_cons_of_mem _ m)⟩
    have ez := hmg.symm.trans (He.glo_ok QX G (hs.facts (f := .glo "law") List.mem_cons_self))
    cases ez
    have mt : (("law" : PySem.Str), (none : Option PySem.Str)) ∈ My.tf := List.mem_cons_self
    obtain ⟨fd, F⟩ := hs.def_ 37 (d := My.d_law) rfl
    have hcd : fd.code = .ref (He.cT Q ("law", none)).1 := by
      obtain ⟨oc, od, dV, kV, doc, pm, an, cdv, ct, osl, e1, lk, hcd, _⟩ := F.ex
      obtain ⟨a, ea⟩ := He.codeIn_ref hcd
      have e2 : fd.code = .ref a := by rw [e1, ← ea]
      rw [e2]
      exact congrArg Value.ref (He.codeOf_eq lk e2).symm
    have b := L2.FunD.bindsA (ps := ["script"]) F fun _ _ _ _ _ _ us hl => match us, hl with | [_], _ => rfl
    refine ⟨Q, QX, fd, [He.cT Q ("law", none)], VL.spLaw Q (He.cT Q ("law", none)).2 63, fun p m => ?_, fun p m => ?_, fun p m => ?_, fun s v => b s [v] rfl, fun H a ns hl _ hT hS => ⟨a, ns, rfl, hl, hT _ List.mem_cons_self, hS, fun _ => rfl⟩, fun base KI Ns TB => ?_⟩
    · rw [List.mem_singleton.mp m]; exact c.empty _ mt
    · rw [List.mem_singleton.mp m]; exact c.out _ mt
    · rw [List.mem_singleton.mp m]; exact PySem.W.codeHd_of_K QX (c.hd _ mt)
    · exact (My.law_ok ⟨⟨base, KI, Ns⟩, fun f m => hs.facts (List.mem_cons_of_mem _ m)⟩ hs (TB _ List.mem_cons_self) (c.out _ mt) F hcd).mono (by decide)
