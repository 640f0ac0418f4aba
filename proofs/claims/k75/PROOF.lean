import PyProof.Rows.All
import Wide.All
import OpenK.AllK
import Wide.FinOn
import HandS.ForMost
import HandS.ForExc
import HandS.IsInst
import HandS.TryMany
import HandS.ExcIs
import HandS.ExcField
import HandS.ExcInit
import HandS.Wide
import HandS.WideBits
import HandS.Deep
import HandS.TupAny
import HandS.TupMul
import HandS.TupLe
import HandS.SortInts
import HandS.Style
import HandS.Flow
import HandS.Conv
import HandS.Gcd
import HandS.SetKeys
import KE.GoesMore
import KE.GoesZip
import KE.GoesEnum
import HandS.Zip
import HandS.ExcBuiltin
import PyProof.Rows.StrFin3
import KE.OsArith
import KE.BitLaws
import PySem.Challenge.RW_carriedbreaks_k75_what_a_hole_tells
set_option Elab.async false
set_option linter.all false
set_option autoImplicit false
set_option maxRecDepth 100000
set_option maxHeartbeats 4000000
/-! D1: data as trees over the hand layer: values D, the ledger of changing lists G, what is frozen F; the judgements lifted. -/
namespace DL
open PySem PySem.Spec L2

/-- a value as a tree: tuples and frozen lists by what they hold, a changing list by its address -/
inductive D where
  | non | bl (b : Bool) | int (i : Int) | str (x : Str) | tup (xs : List D) | lst (xs : List D) | scr (ns : List Int) | ref (a : Addr) | ty (n : String)
/-- what is frozen; what is held back (a list that a comprehension grows) -/
structure Fz where
  fz : Addr → Prop
  bl : Addr → Prop
/-- what stands at a changing address -/
inductive DO where
  | lst (ds : List D)
  | hid (φ : List D → Prop)
  | dct (kvs : List (Key × D))
  | set (S : Int → Bool) (n : Nat)
abbrev DH := Addr → Option DO
def dupd (G : DH) (a : Addr) (o : DO) : DH := fun b => if b = a then some o else G b
def ddel (G : DH) (a : Addr) : DH := fun b => if b = a then none else G b
@[simp] theorem dupd_same {G : DH} {a : Addr} {o : DO} : dupd G a o a = some o := by unfold dupd; rw [if_pos rfl]
theorem dupd_ne {G : DH} {a b : Addr} {o : DO} (h : b ≠ a) : dupd G a o b = G b := by unfold dupd; rw [if_neg h]
@[simp] theorem dupd_dupd {G : DH} {a : Addr} {o u : DO} : dupd (dupd G a o) a u = dupd G a u := by funext b; unfold dupd; split <;> rfl
theorem dupd_self {G : DH} {a : Addr} {o : DO} (h : G a = some o) : dupd G a o = G := by
  funext b; unfold dupd; split
  · rename_i e; rw [e, h]
  · rfl
theorem dne_of {G : DH} {a b : Addr} {o : DO} (h : G a = some o) (h' : G b = none) : a ≠ b := by
  intro e; subst e; rw [h] at h'; cases h'

def FrzL (H : Hp) (F : Fz) (a : Addr) (vs : List V) : Prop := F.fz a ∧ H a = some (.lst vs)
/-- a list that stands in the module -/
def KonL (K : PySem.W.Frag) (a : Addr) (xs : List V) : Prop := ∃ (o : Obj) (its : Array Value) (n : Nat), K.lookup a = some o ∧ o.cls = .type "list" ∧ o.dict = none ∧ o.data = .seq its n ∧ its.size ≤ sizeLine ∧ Vals xs its.toList
/-- a list that is read alone, whatever it is -/
def ScrL (K : PySem.W.Frag) (H : Hp) (F : Fz) (a : Addr) (vs : List V) : Prop := FrzL H F a vs ∨ (∃ o, H a = some (.frz o (.lst vs))) ∨ KonL K a vs
section
variable (K : PySem.W.Frag) (H : Hp) (F : Fz)
mutual
def Rep : D → V → Prop
  | .non, v => v = .non
  | .bl b, v => v = .bl b
  | .int i, v => v = .int i
  | .str x, v => v = .str x
  | .tup ds, v => ∃ a vs, v = .ref a ∧ SqT K H a vs ∧ Reps ds vs
  | .lst ds, v => ∃ a vs, v = .ref a ∧ FrzL H F a vs ∧ Reps ds vs
  | .scr ns, v => ∃ a, v = .ref a ∧ ScrL K H F a (ns.map V.int)
  | .ref a, v => v = .ref a
  | .ty n, v => v = .ty n
def Reps : List D → List V → Prop
  | [], vs => vs = []
  | d :: ds, vs => ∃ v r, vs = v :: r ∧ Rep d v ∧ Reps ds r
end
def RepO : DO → HO → Prop
  | .lst ds, ho => ∃ vs, ho = .lst vs ∧ Reps K H F ds vs
  | .hid φ, ho => ∃ ds vs, φ ds ∧ ho = .lst vs ∧ Reps K H F ds vs
  | .dct kvs, ho => ∃ ws, ho = .dK ws ∧ Paired (fun (p : Key × D) (q : Key × V) => p.1 = q.1 ∧ Rep K H F p.2 q.2) kvs ws
  | .set S n, ho => ho = .set S n
structure GRel (G : DH) : Prop where
  at_ : ∀ a o, G a = some o → (¬ F.fz a ∧ ¬ F.bl a) ∧ ∃ ho, H a = some ho ∧ RepO K H F o ho
  fz : ∀ a, F.fz a → ∃ vs, H a = some (.lst vs)
  bl : ∀ a, F.bl a → ¬ F.fz a ∧ ∃ ho, H a = some ho
end
/-- what a tree leans on stays -/
structure Ext0 (F : Fz) (H : Hp) (F' : Fz) (H' : Hp) : Prop where
  tup : ∀ a xs, H a = some (.tup xs) → H' a = some (.tup xs)
  frz : ∀ a o u, H a = some (.frz o u) → H' a = some (.frz o u)
  xd : ∀ a fs, H a = some (.xd fs) → H' a = some (.xd fs)
  old : ∀ a, F.fz a → F'.fz a
  keep : ∀ a vs, F.fz a → H a = some (.lst vs) → H' a = some (.lst vs)
/-- what stays from one moment to a later one -/
structure Ext (F : Fz) (H : Hp) (F' : Fz) (H' : Hp) : Prop extends Ext0 F H F' H' where
  bl : ∀ a, F.bl a → F'.bl a
  kb : ∀ a o, F.bl a → H a = some o → H' a = some o
theorem Ext0.refl {F : Fz} {H : Hp} : Ext0 F H F H := ⟨fun _ _ h => h, fun _ _ _ h => h, fun _ _ h => h, fun _ h => h, fun _ _ _ h => h⟩
theorem Ext.refl {F : Fz} {H : Hp} : Ext F H F H := ⟨Ext0.refl, fun _ h => h, fun _ _ _ h => h⟩
theorem Ext0.trans {F F1 F2 : Fz} {H H1 H2 : Hp} (a : Ext0 F H F1 H1) (b : Ext0 F1 H1 F2 H2) : Ext0 F H F2 H2 :=
  ⟨fun c xs h => b.tup c xs (a.tup c xs h), fun c o u h => b.frz c o u (a.frz c o u h), fun c fs h => b.xd c fs (a.xd c fs h), fun c h => b.old c (a.old c h), fun c vs f h => b.keep c vs (a.old c f) (a.keep c vs f h)⟩
theorem Ext.trans {F F1 F2 : Fz} {H H1 H2 : Hp} (a : Ext F H F1 H1) (b : Ext F1 H1 F2 H2) : Ext F H F2 H2 :=
  ⟨a.toExt0.trans b.toExt0, fun c h => b.bl c (a.bl c h), fun c o h q => b.kb c o (a.bl c h) (a.kb c o h q)⟩
section
variable {K : PySem.W.Frag} {F F' : Fz} {H H' : Hp}
theorem Ext0.sqt (e : Ext0 F H F' H') {a : Addr} {vs : List V} (h : SqT K H a vs) : SqT K H' a vs := by
  rcases h with (h | ⟨o, h⟩) | h
  · exact .inl (.inl (e.tup _ _ h))
  · exact .inl (.inr ⟨o, e.frz _ _ _ h⟩)
  · exact .inr h
theorem Ext0.frzl (e : Ext0 F H F' H') {a : Addr} {vs : List V} (h : FrzL H F a vs) : FrzL H' F' a vs := ⟨e.old a h.1, e.keep a vs h.1 h.2⟩
theorem Ext0.scrl (e : Ext0 F H F' H') {a : Addr} {vs : List V} (h : ScrL K H F a vs) : ScrL K H' F' a vs := by
  rcases h with h | ⟨o, h⟩ | h
  · exact .inl (e.frzl h)
  · exact .inr (.inl ⟨o, e.frz _ _ _ h⟩)
  · exact .inr (.inr h)
mutual
theorem Ext0.rep (e : Ext0 F H F' H') : ∀ (d : D) (v : V), Rep K H F d v → Rep K H' F' d v
  | .non, _, h => h
  | .bl _, _, h => h
  | .int _, _, h => h
  | .str _, _, h => h
  | .ref _, _, h => h
  | .ty _, _, h => h
  | .scr ns, v, h => by
    unfold Rep at h ⊢
    obtain ⟨a, e1, h1⟩ := h
    exact ⟨a, e1, e.scrl h1⟩
  | .tup ds, v, h => by
    unfold Rep at h ⊢
    obtain ⟨a, vs, e1, h1, h2⟩ := h
    exact ⟨a, vs, e1, e.sqt h1, Ext0.reps e ds vs h2⟩
  | .lst ds, v, h => by
    unfold Rep at h ⊢
    obtain ⟨a, vs, e1, h1, h2⟩ := h
    exact ⟨a, vs, e1, e.frzl h1, Ext0.reps e ds vs h2⟩
theorem Ext0.reps (e : Ext0 F H F' H') : ∀ (ds : List D) (vs : List V), Reps K H F ds vs → Reps K H' F' ds vs
  | [], _, h => by unfold Reps at h ⊢; exact h
  | d :: ds, vs, h => by
    unfold Reps at h ⊢
    obtain ⟨v, r, e1, h1, h2⟩ := h
    exact ⟨v, r, e1, Ext0.rep e d v h1, Ext0.reps e ds r h2⟩
end
theorem Ext0.repo (e : Ext0 F H F' H') {o : DO} {ho : HO} (h : RepO K H F o ho) : RepO K H' F' o ho := by
  cases o with
  | lst ds => obtain ⟨vs, e1, h⟩ := h; exact ⟨vs, e1, e.reps _ _ h⟩
  | hid φ => obtain ⟨ds, vs, p, e1, h⟩ := h; exact ⟨ds, vs, p, e1, e.reps _ _ h⟩
  | dct kvs => obtain ⟨ws, e1, h⟩ := h; exact ⟨ws, e1, Paired.mapP h fun p q z => ⟨z.1, e.rep _ _ z.2⟩⟩
  | set S n => exact h
theorem Ext0.new {a : Addr} {o : HO} (h : H a = none) : Ext0 F H F (upd H a o) := by
  refine ⟨fun b xs q => ?_, fun b u w q => ?_, fun b fs q => ?_, fun _ f => f, fun b vs _ q => ?_⟩
  all_goals (rw [upd_ne (ne_of_none q h)]; exact q)
theorem Ext.new {a : Addr} {o : HO} (h : H a = none) : Ext F H F (upd H a o) := ⟨Ext0.new h, fun _ f => f, fun b u _ q => by rw [upd_ne (ne_of_none q h)]; exact q⟩
/-- a thing of ours (no tuple, nothing locked, no exception's dict, not frozen) is written -/
theorem Ext0.put {a : Addr} {o ho : HO} (h : H a = some ho) (hf : ¬ F.fz a) (h1 : ∀ xs, ho ≠ .tup xs) (h2 : ∀ ob u, ho ≠ .frz ob u) (h3 : ∀ fs, ho ≠ .xd fs) : Ext0 F H F (upd H a o) := by
  refine ⟨fun b xs q => ?_, fun b u w q => ?_, fun b fs q => ?_, fun _ f => f, fun b vs f q => ?_⟩
  · have : b ≠ a := by rintro rfl; rw [h] at q; exact h1 xs (Option.some.inj q)
    rw [upd_ne this]; exact q
  · have : b ≠ a := by rintro rfl; rw [h] at q; exact h2 u w (Option.some.inj q)
    rw [upd_ne this]; exact q
  · have : b ≠ a := by rintro rfl; rw [h] at q; exact h3 fs (Option.some.inj q)
    rw [upd_ne this]; exact q
  · have : b ≠ a := by rintro rfl; exact hf f
    rw [upd_ne this]; exact q
def fadd (F : Fz) (a : Addr) : Fz := ⟨fun b => F.fz b ∨ b = a, F.bl⟩
def badd (F : Fz) (a : Addr) : Fz := ⟨F.fz, fun b => F.bl b ∨ b = a⟩
theorem RepO.kinds {o : DO} {ho : HO} (h : RepO K H F o ho) : (∀ xs, ho ≠ .tup xs) ∧ (∀ ob u, ho ≠ .frz ob u) ∧ ∀ fs, ho ≠ .xd fs := by
  cases o with
  | lst ds => obtain ⟨vs, rfl, _⟩ := h; exact ⟨(by intro _ z; cases z), (by intro _ _ z; cases z), (by intro _ z; cases z)⟩
  | hid φ => obtain ⟨ds, vs, _, rfl, _⟩ := h; exact ⟨(by intro _ z; cases z), (by intro _ _ z; cases z), (by intro _ z; cases z)⟩
  | dct kvs => obtain ⟨ws, rfl, _⟩ := h; exact ⟨(by intro _ z; cases z), (by intro _ _ z; cases z), (by intro _ z; cases z)⟩
  | set S n => cases (show ho = .set S n from h); exact ⟨(by intro _ z; cases z), (by intro _ _ z; cases z), (by intro _ z; cases z)⟩
theorem GRel.free {G : DH} (g : GRel K H F G) {a : Addr} (h : H a = none) : G a = none := by
  cases e : G a with
  | none => rfl
  | some o => obtain ⟨_, ho, q, _⟩ := g.at_ a o e; rw [h] at q; cases q
theorem GRel.put {G : DH} (g : GRel K H F G) {a : Addr} {o : DO} (e : G a = some o) {o' : DO} {ho : HO} (r : RepO K H F o' ho) : Ext F H F (upd H a ho) ∧ GRel K (upd H a ho) F (dupd G a o') := by
  obtain ⟨⟨nf, nb⟩, h1, q1, r1⟩ := g.at_ a o e
  obtain ⟨k1, k2, k3⟩ := r1.kinds
  have x0 : Ext0 F H F (upd H a ho) := Ext0.put q1 nf k1 k2 k3
  have x : Ext F H F (upd H a ho) := ⟨x0, fun _ f => f, fun b u f q => by
    have : b ≠ a := by rintro rfl; exact nb f
    rw [upd_ne this]; exact q⟩
  refine ⟨x, fun b u eb => ?_, fun b f => ?_, fun b f => ?_⟩
  · by_cases hb : b = a
    · subst hb
      rw [dupd_same] at eb; cases eb
      exact ⟨⟨nf, nb⟩, ho, upd_same, x.repo r⟩
    · rw [dupd_ne hb] at eb
      obtain ⟨nf', h2, q2, r2⟩ := g.at_ b u eb
      exact ⟨nf', h2, by rw [upd_ne hb]; exact q2, x.repo r2⟩
  · obtain ⟨vs, q⟩ := g.fz b f
    exact ⟨vs, x.keep b vs f q⟩
  · obtain ⟨n, u, q⟩ := g.bl b f
    exact ⟨n, u, x.kb b u f q⟩
theorem GRel.old {G : DH} (g : GRel K H F G) {a : Addr} {ho : HO} (h : H a = none) : GRel K (upd H a ho) F G := by
  have x : Ext F H F (upd H a ho) := Ext.new h
  refine ⟨fun b u eb => ?_, fun b f => ?_, fun b f => ?_⟩
  · obtain ⟨nf', h2, q2, r2⟩ := g.at_ b u eb
    exact ⟨nf', h2, by rw [upd_ne (ne_of_none q2 h)]; exact q2, x.repo r2⟩
  · obtain ⟨vs, q⟩ := g.fz b f
    exact ⟨vs, x.keep b vs f q⟩
  · obtain ⟨n, u, q⟩ := g.bl b f
    exact ⟨n, u, x.kb b u f q⟩
theorem GRel.nofz {G : DH} (g : GRel K H F G) {a : Addr} (h : H a = none) : ¬ F.fz a := fun f => by
  obtain ⟨vs, q⟩ := g.fz a f
  rw [h] at q; cases q
theorem GRel.nobl {G : DH} (g : GRel K H F G) {a : Addr} (h : H a = none) : ¬ F.bl a := fun f => by
  obtain ⟨_, vs, q⟩ := g.bl a f
  rw [h] at q; cases q
theorem GRel.new {G : DH} (g : GRel K H F G) {a : Addr} {o : DO} {ho : HO} (h : H a = none) (r : RepO K H F o ho) : GRel K (upd H a ho) F (dupd G a o) := by
  refine ⟨fun b u eb => ?_, (g.old h).fz, (g.old h).bl⟩
  by_cases hb : b = a
  · subst hb
    rw [dupd_same] at eb; cases eb
    exact ⟨⟨g.nofz h, g.nobl h⟩, ho, upd_same, (Ext0.new h).repo r⟩
  · rw [dupd_ne hb] at eb
    exact (g.old h).at_ b u eb
/-- a new list, frozen at once -/
theorem GRel.newF {G : DH} (g : GRel K H F G) {a : Addr} {vs : List V} (h : H a = none) : Ext F H (fadd F a) (upd H a (.lst vs)) ∧ GRel K (upd H a (.lst vs)) (fadd F a) G := by
  have y : Ext F H F (upd H a (.lst vs)) := Ext.new h
  have x : Ext F H (fadd F a) (upd H a (.lst vs)) := ⟨⟨y.tup, y.frz, y.xd, fun b f => .inl f, y.keep⟩, fun _ f => f, y.kb⟩
  refine ⟨x, fun b u eb => ?_, fun b f => ?_, fun b f => ?_⟩
  · obtain ⟨nf, h2, q2, r2⟩ := g.at_ b u eb
    refine ⟨⟨fun z => ?_, nf.2⟩, h2, by rw [upd_ne (ne_of_none q2 h)]; exact q2, x.repo r2⟩
    rcases z with z | z
    · exact nf.1 z
    · exact ne_of_none q2 h z
  · rcases f with f | f
    · obtain ⟨ws, q⟩ := g.fz b f
      exact ⟨ws, x.keep b ws f q⟩
    · exact ⟨vs, by rw [f]; exact upd_same⟩
  · obtain ⟨n, u, q⟩ := g.bl b f
    refine ⟨fun z => ?_, u, y.kb b u f q⟩
    rcases z with z | z
    · exact n z
    · exact ne_of_none q h z
/-- G' asks less than G: things left out, lists hidden -/
def Sub (G' G : DH) : Prop := ∀ a o, G' a = some o → G a = some o ∨ ∃ φ ds, o = .hid φ ∧ φ ds ∧ G a = some (.lst ds)
theorem Sub.refl {G : DH} : Sub G G := fun _ _ h => .inl h
theorem Sub.upd {G : DH} {a : Addr} {o : DO} (h : G a = none) : Sub G (dupd G a o) := fun b u e => .inl (by rw [dupd_ne (dne_of e h)]; exact e)
theorem Sub.trans {G G1 G2 : DH} (a : Sub G G1) (b : Sub G1 G2) : Sub G G2 := fun c o h => by
  rcases a c o h with q | ⟨φ, ds, e, p, q⟩
  · exact b c o q
  · rcases b c _ q with q2 | ⟨φ2, ds2, e2, _, _⟩
    · exact .inr ⟨φ, ds, e, p, q2⟩
    · cases e2
theorem Sub.hide {G : DH} {a : Addr} {ds : List D} {φ : List D → Prop} (p : φ ds) : Sub (dupd G a (.hid φ)) (dupd G a (.lst ds)) := fun b u e => by
  by_cases hb : b = a
  · subst hb; rw [dupd_same] at e ⊢; cases e; exact .inr ⟨φ, ds, rfl, p, rfl⟩
  · rw [dupd_ne hb] at e ⊢; exact .inl e
theorem Sub.rehide {G : DH} {a : Addr} {ds : List D} {φ : List D → Prop} (h : G a = some (.hid φ)) (p : φ ds) : Sub G (dupd G a (.lst ds)) := fun b u e => by
  by_cases hb : b = a
  · subst hb; rw [h] at e; cases e; exact .inr ⟨φ, ds, rfl, p, dupd_same⟩
  · rw [dupd_ne hb]; exact .inl e
theorem Sub.both {G G' : DH} {a : Addr} {o : DO} (s : Sub G G') : Sub (dupd G a o) (dupd G' a o) := fun b u e => by
  by_cases hb : b = a
  · subst hb; rw [dupd_same] at e ⊢; exact .inl e
  · rw [dupd_ne hb] at e ⊢; exact s b u e
theorem GRel.sub {G G' : DH} (g : GRel K H F G) (s : Sub G' G) : GRel K H F G' := ⟨fun a o e => by
  rcases s a o e with q | ⟨φ, ds, rfl, p, q⟩
  · exact g.at_ a o q
  · obtain ⟨n, ho, q2, vs, rfl, r⟩ := g.at_ a _ q
    exact ⟨n, _, q2, ds, vs, p, rfl, r⟩, g.fz, g.bl⟩
/-- a changing list is frozen: nobody changes it any more -/
theorem GRel.freeze {G : DH} (g : GRel K H F G) {a : Addr} {ds : List D} (e : G a = some (.lst ds)) : Ext F H (fadd F a) H ∧ GRel K H (fadd F a) (ddel G a) ∧ Rep K H (fadd F a) (.lst ds) (.ref a) := by
  obtain ⟨nf, ho, q, r⟩ := g.at_ a _ e
  obtain ⟨vs, rfl, r⟩ := r
  have x : Ext F H (fadd F a) H := ⟨⟨fun _ _ h => h, fun _ _ _ h => h, fun _ _ h => h, fun _ f => .inl f, fun _ _ _ h => h⟩, fun _ f => f, fun _ _ _ h => h⟩
  refine ⟨x, ⟨fun b u eb => ?_, fun b f => ?_, fun b f => ?_⟩, ?_⟩
  · unfold ddel at eb
    split at eb
    · cases eb
    · rename_i hb
      obtain ⟨nf', h2, q2, r2⟩ := g.at_ b u eb
      exact ⟨⟨fun z => z.elim nf'.1 hb, nf'.2⟩, h2, q2, x.repo r2⟩
  · rcases f with f | f
    · exact g.fz b f
    · exact ⟨vs, by rw [f]; exact q⟩
  · obtain ⟨n, u, q'⟩ := g.bl b f
    exact ⟨fun z => z.elim n (fun z => by subst z; exact nf.2 f), u, q'⟩
  · unfold Rep
    exact ⟨a, vs, rfl, ⟨.inr rfl, q⟩, x.reps _ _ r⟩
end

/-! ### slots -/
abbrev DSt := List (Option D)
section
variable (K : PySem.W.Frag) (H : Hp) (F : Fz)
def Slots (σd : DSt) (σ : St) : Prop := σd.length = σ.length ∧ ∀ (i : Nat) (d : D), σd[i]? = some (some d) → ∃ v, σ[i]? = some (some v) ∧ Rep K H F d v
structure WR (σd : DSt) (G : DH) (σ : St) : Prop where
  sl : Slots K H F σd σ
  gr : GRel K H F G
end
section
variable {K : PySem.W.Frag} {F F' : Fz} {H H' : Hp} {σd : DSt} {σ : St} {G G' : DH}
theorem Slots.ext (s : Slots K H F σd σ) (e : Ext0 F H F' H') : Slots K H' F' σd σ := ⟨s.1, fun i d h => let ⟨v, h1, h2⟩ := s.2 i d h; ⟨v, h1, e.rep _ _ h2⟩⟩
theorem Slots.set (s : Slots K H F σd σ) {i : Nat} {d : D} {v : V} (r : Rep K H F d v) : Slots K H F (σd.set i (some d)) (σ.set i (some v)) := by
  refine ⟨by simp [s.1], fun j e h => ?_⟩
  by_cases hj : i = j
  · subst hj
    rw [List.getElem?_set] at h ⊢
    simp only [if_true] at h ⊢
    split at h
    · rename_i hl
      rw [if_pos (by rw [← s.1]; exact hl)]
      cases h
      exact ⟨v, rfl, r⟩
    · cases h
  · rw [List.getElem?_set_ne hj] at h ⊢
    exact s.2 j e h
theorem Slots.clear (s : Slots K H F σd σ) {i : Nat} {x : Option V} : Slots K H F (σd.set i none) (σ.set i x) := by
  refine ⟨by simp [s.1], fun j e h => ?_⟩
  by_cases hj : i = j
  · subst hj
    rw [List.getElem?_set] at h
    simp only [if_true] at h
    split at h <;> cases h
  · rw [List.getElem?_set_ne hj] at h ⊢
    exact s.2 j e h
theorem WR.ext0 (w : WR K H F σd G σ) (e : Ext0 F H F' H') (g : GRel K H' F' G') : WR K H' F' σd G' σ := ⟨w.sl.ext e, g⟩
theorem WR.ext (w : WR K H F σd G σ) (e : Ext F H F' H') (g : GRel K H' F' G') : WR K H' F' σd G' σ := ⟨w.sl.ext e.toExt0, g⟩
theorem WR.set (w : WR K H F σd G σ) {i : Nat} {d : D} {v : V} (r : Rep K H F d v) : WR K H F (σd.set i (some d)) G (σ.set i (some v)) := ⟨w.sl.set r, w.gr⟩
end

/-! ### exceptions -/
structure Exc where
  cls : Addr
  flds : List (Str × D)
section
variable (K : PySem.W.Frag) (H : Hp) (F : Fz)
def RepX (x : Exc) (cls : Value) (d : Option Addr) : Prop := cls = .ref x.cls ∧ match x.flds with
  | [] => d = none
  | fs => ∃ dd vs, d = some dd ∧ H dd = some (.xd vs) ∧ Paired (fun (p : Str × D) (q : Str × V) => p.1 = q.1 ∧ Rep K H F p.2 q.2) fs vs
end
theorem RepX.ext {K : PySem.W.Frag} {F F' : Fz} {H H' : Hp} {x : Exc} {cls : Value} {d : Option Addr} (r : RepX K H F x cls d) (e : Ext0 F H F' H') : RepX K H' F' x cls d := by
  obtain ⟨c, fs⟩ := x
  obtain ⟨h1, h2⟩ := r
  refine ⟨h1, ?_⟩
  cases fs with
  | nil => exact h2
  | cons p r =>
    obtain ⟨dd, vs, e1, e2, e3⟩ := h2
    exact ⟨dd, vs, e1, e.xd _ _ e2, Paired.mapP e3 fun p q z => ⟨z.1, e.rep _ _ z.2⟩⟩

/-! ### transformers over trees, lifted -/
abbrev DK := D → DH → Prop
abbrev DX := Exc → DSt → DH → Prop
abbrev DT (α : Type) := DX → DSt → DH → (α → DH → Prop) → Prop
abbrev DTE := DT D
abbrev DTT := DT Bool
abbrev DTA := DT (List D)
structure DEnds where
  nx : DSt → DH → Prop
  rt : DK
  bk : DSt → DH → Prop := fun _ _ => False
  ct : DSt → DH → Prop := fun _ _ => False
abbrev DTS := DX → DEnds → DSt → DH → Prop

/-- where a body stands: what is wished of exceptions, and a fact that stays -/
structure Amb where
  W : WX
  P : Hp → Fz → Prop
  mono : ∀ F H F' H', Ext0 F H F' H' → P H F → P H' F'
def Cov (K : PySem.W.Frag) (W : WX) (Wd : DX) (H : Hp) (F : Fz) : Prop := ∀ x σd G F' cls d σ H', Ext F H F' H' → WR K H' F' σd G σ → RepX K H' F' x cls d → Wd x σd G → W cls d σ H'
theorem Cov.ext {K : PySem.W.Frag} {W : WX} {Wd : DX} {H H' : Hp} {F F' : Fz} (c : Cov K W Wd H F) (e : Ext F H F' H') : Cov K W Wd H' F' :=
  fun x σd G F2 cls d σ H2 e2 w r q => c x σd G F2 cls d σ H2 (e.trans e2) w r q

section
variable (K : PySem.W.Frag) (Γ : Amb)
def Lift {α β : Type} (R : Hp → Fz → α → β → Prop) (t : DT α) : St → Hp → (β → Hp → Prop) → Prop :=
  fun σ H Q => ∃ σd G F Wd Qd, WR K H F σd G σ ∧ Γ.P H F ∧ Cov K Γ.W Wd H F ∧ t Wd σd G Qd ∧
    ∀ d G' F' v H', Ext F H F' H' → GRel K H' F' G' → R H' F' d v → Qd d G' → Q v H'
abbrev LE (t : DTE) : TE := Lift K Γ (Rep K) t
abbrev LT (t : DTT) : TT := Lift K Γ (fun _ _ (a b : Bool) => a = b) t
abbrev LA (t : DTA) : TA := Lift K Γ (Reps K) t
structure EndsOk (H : Hp) (F : Fz) (Dd : DEnds) (D : Ends) : Prop where
  nx : ∀ σd' G' F' σ' H', Ext F H F' H' → WR K H' F' σd' G' σ' → Dd.nx σd' G' → D.nx σ' H'
  rt : ∀ d G' F' v H', Ext F H F' H' → GRel K H' F' G' → Rep K H' F' d v → Dd.rt d G' → D.rt v H'
  bk : ∀ σd' G' F' σ' H', Ext F H F' H' → WR K H' F' σd' G' σ' → Dd.bk σd' G' → D.bk σ' H'
  ct : ∀ σd' G' F' σ' H', Ext F H F' H' → WR K H' F' σd' G' σ' → Dd.ct σd' G' → D.ct σ' H'
def LS (t : DTS) : TS := fun D σ H => ∃ σd G F Wd Dd, WR K H F σd G σ ∧ Γ.P H F ∧ Cov K Γ.W Wd H F ∧ t Wd Dd σd G ∧ EndsOk K H F Dd D
theorem EndsOk.ext {K : PySem.W.Frag} {H H' : Hp} {F F' : Fz} {Dd : DEnds} {D : Ends} (k : EndsOk K H F Dd D) (e : Ext F H F' H') : EndsOk K H' F' Dd D :=
  ⟨fun a b c d f e2 w q => k.nx a b c d f (e.trans e2) w q, fun a b c d f e2 g r q => k.rt a b c d f (e.trans e2) g r q, fun a b c d f e2 w q => k.bk a b c d f (e.trans e2) w q, fun a b c d f e2 w q => k.ct a b c d f (e.trans e2) w q⟩
end
/-- the judgements -/
def DE (X : Cx) (Γ : Amb) (e : Expr) (t : DTE) : Prop := PE X e (LE X.K Γ t)
def DTs (X : Cx) (Γ : Amb) (e : Expr) (t : DTT) : Prop := PT X e (LT X.K Γ t)
def DA (X : Cx) (Γ : Amb) (es : List Expr) (t : DTA) : Prop := PA X es (LA X.K Γ t)
def DS (X : Cx) (Γ : Amb) (s : Stmt) (t : DTS) : Prop := PS X s (LS X.K Γ t)
def DSs (X : Cx) (Γ : Amb) (s : List Stmt) (t : DTS) : Prop := PSs X s (LS X.K Γ t)

theorem pe_of {X : Cx} {e : Expr} {t u : TE} (h : PE X e u) (i : ∀ σ H Q, t σ H Q → u σ H Q) : PE X e t := ⟨fun pins s σ H Q I q => h.run pins s σ H Q I (i _ _ _ q)⟩
theorem pt_of {X : Cx} {e : Expr} {t u : TT} (h : PT X e u) (i : ∀ σ H Q, t σ H Q → u σ H Q) : PT X e t := ⟨fun pins s σ H Q I q => h.run pins s σ H Q I (i _ _ _ q)⟩
theorem pw_of {X : Cx} {e : Expr} {t u : TT} (h : PW X e u) (i : ∀ σ H Q, t σ H Q → u σ H Q) : PW X e t := ⟨fun w pins s σ H Q I q => h.run w pins s σ H Q I (i _ _ _ q)⟩
theorem pa_of {X : Cx} {e : List Expr} {t u : TA} (h : PA X e u) (i : ∀ σ H Q, t σ H Q → u σ H Q) : PA X e t := ⟨fun pos pins s σ H Q I q => h.run pos pins s σ H Q I (i _ _ _ q)⟩
theorem ps_of {X : Cx} {e : Stmt} {t u : TS} (h : PS X e u) (i : ∀ D σ H, t D σ H → u D σ H) : PS X e t := ⟨fun pins s σ H D I q => h.run pins s σ H D I (i _ _ _ q)⟩
theorem pss_of {X : Cx} {e : List Stmt} {t u : TS} (h : PSs X e u) (i : ∀ D σ H, t D σ H → u D σ H) : PSs X e t := ⟨fun pins s σ H D I q => h.run pins s σ H D I (i _ _ _ q)⟩

/-- the core of every rule: one part, then a rest that knows its outcome -/
theorem Lift.bind {K : PySem.W.Frag} {Γ : Amb} {α β γ δ : Type} {R : Hp → Fz → α → β → Prop} {S : Hp → Fz → γ → δ → Prop} {t : DT α} {u : α → DT γ} {σ : St} {H : Hp} {Q : δ → Hp → Prop} {k : β → Hp → Prop}
    (h : Lift K Γ S (fun W σd G Qd => t W σd G fun x G1 => u x W σd G1 Qd) σ H Q)
    (hk : ∀ x v H1 F1, R H1 F1 x v → (∃ σd G Wd Qd, WR K H1 F1 σd G σ ∧ Γ.P H1 F1 ∧ Cov K Γ.W Wd H1 F1 ∧ u x Wd σd G Qd ∧ ∀ d G' F' v H', Ext F1 H1 F' H' → GRel K H' F' G' → S H' F' d v → Qd d G' → Q v H') → k v H1) :
    Lift K Γ R t σ H k := by
  obtain ⟨σd, G, F, Wd, Qd, w, hp, c, ht, hq⟩ := h
  refine ⟨σd, G, F, Wd, _, w, hp, c, ht, fun x G1 F1 v H1 e1 g1 r1 q1 => hk x v H1 F1 r1 ⟨σd, G1, Wd, Qd, w.ext e1 g1, Γ.mono _ _ _ _ e1.toExt0 hp, c.ext e1, q1, fun d G' F' v' H' e2 g2 r2 q2 => hq d G' F' v' H' (e1.trans e2) g2 r2 q2⟩⟩
end DL

/-! D2: what operators, built-ins and methods do to trees. -/
namespace DL
open PySem PySem.Spec L2

section
variable (K : PySem.W.Frag) (H : Hp) (F : Fz)
def Kont (Qd : DK) (Q : VK) : Prop := ∀ d G' F' v H', Ext F H F' H' → GRel K H' F' G' → Rep K H' F' d v → Qd d G' → Q v H'
end
def mkL (m : Bool) (ds : List D) (G : DH) (Q : DK) : Prop := match m with
  | false => Q (.lst ds) G
  | true => ∀ p, G p = none → Q (.ref p) (dupd G p (.lst ds))
section
variable {K : PySem.W.Frag} {H H' : Hp} {F F' : Fz} {G : DH} {Qd : DK} {Q : VK} {d : D} {v : V} {ds : List D} {vs : List V}
theorem Kont.ext (k : Kont K H F Qd Q) (e : Ext F H F' H') : Kont K H' F' Qd Q := fun d G' F2 v H2 e2 g r q => k d G' F2 v H2 (e.trans e2) g r q
theorem Kont.here (k : Kont K H F Qd Q) (g : GRel K H F G) (r : Rep K H F d v) (q : Qd d G) : Q v H := k d G F v H Ext.refl g r q
theorem Kont.tup (k : Kont K H F Qd Q) (g : GRel K H F G) (r : Reps K H F ds vs) (q : Qd (.tup ds) G) : ∀ p, H p = none → Q (.ref p) (upd H p (.tup vs)) := fun p hp => by
  have e : Ext F H F (upd H p (.tup vs)) := Ext.new hp
  refine k _ G F _ _ e (g.old hp) ?_ q
  unfold Rep
  exact ⟨p, vs, rfl, SqT.of upd_same, e.reps _ _ r⟩
theorem Kont.lst {m : Bool} (k : Kont K H F Qd Q) (g : GRel K H F G) (r : Reps K H F ds vs) (q : mkL m ds G Qd) : ∀ p, H p = none → Q (.ref p) (upd H p (.lst vs)) := fun p hp => by
  cases m with
  | false =>
    obtain ⟨e, g'⟩ := g.newF (vs := vs) hp
    refine k _ G _ _ _ e g' ?_ q
    unfold Rep
    exact ⟨p, vs, rfl, ⟨.inr rfl, upd_same⟩, e.reps _ _ r⟩
  | true =>
    exact k _ _ F _ _ (Ext.new hp) (g.new (o := .lst ds) hp ⟨vs, rfl, r⟩) (by unfold Rep; rfl) (q p (g.free hp))
end

/-! ### lists of represented things -/
section
variable {K : PySem.W.Frag} {H : Hp} {F : Fz}
theorem Reps.nil : Reps K H F [] [] := by unfold Reps; rfl
theorem Reps.cons {d : D} {v : V} {ds : List D} {vs : List V} (a : Rep K H F d v) (b : Reps K H F ds vs) : Reps K H F (d :: ds) (v :: vs) := by unfold Reps; exact ⟨v, vs, rfl, a, b⟩
theorem Reps.inv {d : D} {ds : List D} {vs : List V} (h : Reps K H F (d :: ds) vs) : ∃ v r, vs = v :: r ∧ Rep K H F d v ∧ Reps K H F ds r := by unfold Reps at h; exact h
theorem Reps.inv0 {vs : List V} (h : Reps K H F [] vs) : vs = [] := by unfold Reps at h; exact h
theorem Reps.length : ∀ {ds : List D} {vs : List V}, Reps K H F ds vs → ds.length = vs.length
  | [], _, h => by rw [h.inv0]; rfl
  | _ :: _, _, h => by obtain ⟨v, r, rfl, _, h2⟩ := h.inv; simp [Reps.length h2]
theorem Reps.get : ∀ {ds : List D} {vs : List V} {i : Nat} {d : D}, Reps K H F ds vs → ds[i]? = some d → ∃ v, vs[i]? = some v ∧ Rep K H F d v
  | [], _, _, _, _, e => by simp at e
  | _ :: _, _, 0, _, h, e => by obtain ⟨v, r, rfl, h1, _⟩ := h.inv; simp at e; subst e; exact ⟨v, rfl, h1⟩
  | _ :: _, _, i + 1, _, h, e => by obtain ⟨v, r, rfl, _, h2⟩ := h.inv; simpa using Reps.get (i := i) h2 (by simpa using e)
theorem Reps.append : ∀ {ds es : List D} {vs ws : List V}, Reps K H F ds vs → Reps K H F es ws → Reps K H F (ds ++ es) (vs ++ ws)
  | [], _, _, _, h, k => by rw [h.inv0]; exact k
  | _ :: _, _, _, _, h, k => by obtain ⟨v, r, rfl, h1, h2⟩ := h.inv; exact .cons h1 (Reps.append h2 k)
theorem Reps.take : ∀ {ds : List D} {vs : List V} (n : Nat), Reps K H F ds vs → Reps K H F (ds.take n) (vs.take n)
  | _, _, 0, _ => by simp; exact .nil
  | [], _, _ + 1, h => by rw [h.inv0]; simp; exact .nil
  | _ :: _, _, n + 1, h => by obtain ⟨v, r, rfl, h1, h2⟩ := h.inv; simpa using Reps.cons h1 (Reps.take n h2)
theorem Reps.drop : ∀ {ds : List D} {vs : List V} (n : Nat), Reps K H F ds vs → Reps K H F (ds.drop n) (vs.drop n)
  | _, _, 0, h => by simpa using h
  | [], _, _ + 1, h => by rw [h.inv0]; simp; exact .nil
  | _ :: _, _, n + 1, h => by obtain ⟨v, r, rfl, h1, h2⟩ := h.inv; simpa using Reps.drop n h2
theorem Reps.set {d : D} {v : V} (a : Rep K H F d v) : ∀ {ds : List D} {vs : List V} (i : Nat), Reps K H F ds vs → Reps K H F (ds.set i d) (vs.set i v)
  | [], _, _, h => by rw [h.inv0]; simp; exact .nil
  | _ :: _, _, 0, h => by obtain ⟨w, r, rfl, h1, h2⟩ := h.inv; exact .cons a h2
  | _ :: _, _, i + 1, h => by obtain ⟨w, r, rfl, h1, h2⟩ := h.inv; exact .cons h1 (Reps.set a i h2)
theorem Reps.reverse : ∀ {ds : List D} {vs : List V}, Reps K H F ds vs → Reps K H F ds.reverse vs.reverse
  | [], _, h => by rw [h.inv0]; exact .nil
  | _ :: _, _, h => by obtain ⟨w, r, rfl, h1, h2⟩ := h.inv; rw [List.reverse_cons, List.reverse_cons]; exact (Reps.reverse h2).append (.cons h1 .nil)
theorem Reps.rep {ds : List D} {vs : List V} (h : Reps K H F ds vs) : ∀ k : Nat, Reps K H F (List.replicate k ds).flatten (List.replicate k vs).flatten
  | 0 => .nil
  | k + 1 => by simpa [List.replicate_succ] using h.append (Reps.rep h k)
theorem Reps.dropLast {ds : List D} {vs : List V} (h : Reps K H F ds vs) : Reps K H F ds.dropLast vs.dropLast := by
  rw [List.dropLast_eq_take, List.dropLast_eq_take, h.length]; exact h.take _
theorem Reps.ints {vs : List V} : ∀ {ns : List Int}, Reps K H F (ns.map D.int) vs → vs = ns.map V.int := fun {ns} => by
  induction ns generalizing vs with
  | nil => intro h; exact h.inv0
  | cons n ns ih => intro h; obtain ⟨v, r, rfl, h1, h2⟩ := h.inv; unfold Rep at h1; rw [h1, ih h2]; rfl
theorem Reps.ofInts : ∀ {ns : List Int}, Reps K H F (ns.map D.int) (ns.map V.int)
  | [] => .nil
  | n :: ns => .cons (by unfold Rep; rfl) Reps.ofInts
theorem Reps.strs {vs : List V} : ∀ {ns : List Str}, Reps K H F (ns.map D.str) vs → vs = ns.map V.str := fun {ns} => by
  induction ns generalizing vs with
  | nil => intro h; exact h.inv0
  | cons n ns ih => intro h; obtain ⟨v, r, rfl, h1, h2⟩ := h.inv; unfold Rep at h1; rw [h1, ih h2]; rfl
theorem Reps.ofStrs : ∀ {ns : List Str}, Reps K H F (ns.map D.str) (ns.map V.str)
  | [] => .nil
  | n :: ns => .cons (by unfold Rep; rfl) Reps.ofStrs
theorem Reps.bls {vs : List V} : ∀ {ns : List Bool}, Reps K H F (ns.map D.bl) vs → vs = ns.map V.bl := fun {ns} => by
  induction ns generalizing vs with
  | nil => intro h; exact h.inv0
  | cons n ns ih => intro h; obtain ⟨v, r, rfl, h1, h2⟩ := h.inv; unfold Rep at h1; rw [h1, ih h2]; rfl
theorem Reps.atI {ds : List D} {vs : List V} (h : Reps K H F ds vs) {i : Int} {d : D} (e : L2.atI ds i = some d) : ∃ v, L2.atI vs i = some v ∧ Rep K H F d v := by
  unfold L2.atI at e ⊢
  rw [← h.length]
  cases q : ixN ds.length i with
  | none => rw [q] at e; cases e
  | some j => rw [q] at e; exact h.get e
theorem Reps.of1 {d : D} {vs : List V} (h : Reps K H F [d] vs) : ∃ v, vs = [v] ∧ Rep K H F d v := by
  obtain ⟨v, r, rfl, h1, h2⟩ := h.inv; rw [h2.inv0]; exact ⟨v, rfl, h1⟩
theorem Reps.of2 {d e : D} {vs : List V} (h : Reps K H F [d, e] vs) : ∃ v w, vs = [v, w] ∧ Rep K H F d v ∧ Rep K H F e w := by
  obtain ⟨v, r, rfl, h1, h2⟩ := h.inv; obtain ⟨w, rfl, h3⟩ := h2.of1; exact ⟨v, w, rfl, h1, h3⟩
theorem Reps.of3 {d e f : D} {vs : List V} (h : Reps K H F [d, e, f] vs) : ∃ v w x, vs = [v, w, x] ∧ Rep K H F d v ∧ Rep K H F e w ∧ Rep K H F f x := by
  obtain ⟨v, r, rfl, h1, h2⟩ := h.inv; obtain ⟨w, x, rfl, h3, h4⟩ := h2.of2; exact ⟨v, w, x, rfl, h1, h3, h4⟩
end

/-! ### sequences -/
def dlst (G : DH) : D → Option (List D)
  | .lst xs => some xs
  | .scr ns => some (ns.map D.int)
  | .ref a => match G a with
    | some (.lst xs) => some xs
    | _ => none
  | _ => none
/-- a list of ours -/
def dlsh (G : DH) : D → Option (List D)
  | .lst xs => some xs
  | .ref a => match G a with
    | some (.lst xs) => some xs
    | _ => none
  | _ => none
def dseq (G : DH) : D → Option (List D)
  | .tup xs => some xs
  | d => dlst G d
section
variable {K : PySem.W.Frag} {H : Hp} {F : Fz} {G : DH}
theorem dlsh_rep (g : GRel K H F G) {d : D} {v : V} {ds : List D} (r : Rep K H F d v) (e : dlsh G d = some ds) : ∃ a vs, v = .ref a ∧ H a = some (.lst vs) ∧ Reps K H F ds vs := by
  cases d with
  | lst xs =>
    unfold dlsh at e; cases e
    unfold Rep at r
    obtain ⟨a, vs, rfl, ⟨_, h⟩, r⟩ := r
    exact ⟨a, vs, rfl, h, r⟩
  | ref a =>
    unfold dlsh at e
    cases q : G a with
    | none => simp [q] at e
    | some o =>
      cases o with
      | lst xs =>
        simp [q] at e; subst e
        obtain ⟨_, ho, q2, vs, rfl, r2⟩ := g.at_ a _ q
        unfold Rep at r
        exact ⟨a, vs, r, q2, r2⟩
      | hid _ => simp [q] at e
      | dct _ => simp [q] at e
      | set _ _ => simp [q] at e
  | _ => unfold dlsh at e; cases e
theorem dlst_rep (g : GRel K H F G) {d : D} {v : V} {ds : List D} (r : Rep K H F d v) (e : dlst G d = some ds) : ∃ a vs, v = .ref a ∧ SqL K H a vs ∧ Reps K H F ds vs := by
  cases d with
  | lst xs =>
    obtain ⟨a, vs, rfl, h, r⟩ := dlsh_rep (ds := ds) g r (by unfold dlst at e; unfold dlsh; exact e)
    exact ⟨a, vs, rfl, SqL.of h, r⟩
  | ref a =>
    obtain ⟨a, vs, e2, h, r⟩ := dlsh_rep (ds := ds) g r (by unfold dlst at e; unfold dlsh; exact e)
    exact ⟨a, vs, e2, SqL.of h, r⟩
  | scr ns =>
    unfold dlst at e; cases e
    unfold Rep at r
    obtain ⟨a, rfl, h⟩ := r
    refine ⟨a, _, rfl, ?_, Reps.ofInts⟩
    rcases h with h | ⟨o, h⟩ | h
    · exact SqL.of h.2
    · exact .inl (.inr ⟨o, h⟩)
    · exact .inr h
  | _ => unfold dlst at e; cases e
theorem dseq_rep (g : GRel K H F G) {d : D} {v : V} {ds : List D} (r : Rep K H F d v) (e : dseq G d = some ds) : ∃ a vs, v = .ref a ∧ (SqL K H a vs ∨ SqT K H a vs) ∧ Reps K H F ds vs := by
  cases d with
  | tup xs =>
    unfold dseq at e; cases e
    unfold Rep at r
    obtain ⟨a, vs, rfl, h, r⟩ := r
    exact ⟨a, vs, rfl, .inr h, r⟩
  | lst _ => obtain ⟨a, vs, e2, h, r⟩ := dlst_rep (ds := ds) g r (by unfold dseq at e; exact e); exact ⟨a, vs, e2, .inl h, r⟩
  | scr _ => obtain ⟨a, vs, e2, h, r⟩ := dlst_rep (ds := ds) g r (by unfold dseq at e; exact e); exact ⟨a, vs, e2, .inl h, r⟩
  | ref _ => obtain ⟨a, vs, e2, h, r⟩ := dlst_rep (ds := ds) g r (by unfold dseq at e; exact e); exact ⟨a, vs, e2, .inl h, r⟩
  | _ => unfold dseq dlst at e; cases e
theorem tup_rep {xs : List D} {v : V} (r : Rep K H F (.tup xs) v) : ∃ a vs, v = .ref a ∧ SqT K H a vs ∧ Reps K H F xs vs := by unfold Rep at r; exact r
theorem int_rep {i : Int} {v : V} (r : Rep K H F (.int i) v) : v = .int i := by unfold Rep at r; exact r
theorem str_rep {i : Str} {v : V} (r : Rep K H F (.str i) v) : v = .str i := by unfold Rep at r; exact r
theorem bl_rep {i : Bool} {v : V} (r : Rep K H F (.bl i) v) : v = .bl i := by unfold Rep at r; exact r
theorem non_rep {v : V} (r : Rep K H F .non v) : v = .non := by unfold Rep at r; exact r
theorem ref_rep {a : Addr} {v : V} (r : Rep K H F (.ref a) v) : v = .ref a := by unfold Rep at r; exact r
theorem rep_int {i : Int} : Rep K H F (.int i) (.int i) := by unfold Rep; rfl
theorem rep_str {i : Str} : Rep K H F (.str i) (.str i) := by unfold Rep; rfl
theorem rep_bl {i : Bool} : Rep K H F (.bl i) (.bl i) := by unfold Rep; rfl
theorem rep_non : Rep K H F .non .non := by unfold Rep; rfl
theorem rep_ref {a : Addr} : Rep K H F (.ref a) (.ref a) := by unfold Rep; rfl
theorem ty_rep {n : String} {v : V} (r : Rep K H F (.ty n) v) : v = .ty n := by unfold Rep at r; exact r
theorem rep_ty {n : String} : Rep K H F (.ty n) (.ty n) := by unfold Rep; rfl
end

/-! ### the rules' link: a tree's rule q and the layer's rule r -/
abbrev Q2 := D → D → DH → DK → Prop
abbrev Q1 := D → DH → DK → Prop
abbrev QN := List D → DH → DK → Prop
def L2R (K : PySem.W.Frag) (q : Q2) (r : R2) : Prop := ∀ x y v w G F H Qd Q, GRel K H F G → Rep K H F x v → Rep K H F y w → q x y G Qd → Kont K H F Qd Q → r v w H Q
def L1R (K : PySem.W.Frag) (q : Q1) (r : V → Hp → VK → Prop) : Prop := ∀ x v G F H Qd Q, GRel K H F G → Rep K H F x v → q x G Qd → Kont K H F Qd Q → r v H Q
def LNR (K : PySem.W.Frag) (q : QN) (r : List V → Hp → VK → Prop) : Prop := ∀ ds vs G F H Qd Q, GRel K H F G → Reps K H F ds vs → q ds G Qd → Kont K H F Qd Q → r vs H Q

section
variable {X : Cx} {Γ : Amb} {a b c e : Expr} {es : List Expr} {pos : Pos} {ta tb tc : DTE} {t : DTA} {K : PySem.W.Frag}
def dVar (i : Nat) : DTE := fun _ σ G Q => ∃ d, σ[i]? = some (some d) ∧ Q d G
def dK (d : D) : DTE := fun _ _ G Q => Q d G
theorem de_var {i : Nat} {x : Str} (h : PE X (.Name x pos) (tVar i)) : DE X Γ (.Name x pos) (dVar i) := pe_of h fun σ H Q ⟨σd, G, F, Wd, Qd, w, hp, cv, ⟨d, e, q⟩, k⟩ => by
  obtain ⟨v, e1, r⟩ := w.sl.2 i d e
  exact ⟨v, e1, k d G F v H Ext.refl w.gr r q⟩
theorem de_k {v : V} {d : D} (h : PE X e (tC v)) (r : ∀ H F, Rep X.K H F d v) : DE X Γ e (dK d) := pe_of h fun σ H Q ⟨σd, G, F, Wd, Qd, w, hp, cv, q, k⟩ => k d G F v H Ext.refl w.gr (r H F) q
def dOp (q : Q2) (ta tb : DTE) : DTE := fun W σ G Q => ta W σ G fun x G1 => tb W σ G1 fun y G2 => q x y G2 Q
def dUn (q : Q1) (ta : DTE) : DTE := fun W σ G Q => ta W σ G fun x G1 => q x G1 Q
def dN (q : QN) (t : DTA) : DTE := fun W σ G Q => t W σ G fun xs G1 => q xs G1 Q
def dNil : DTA := fun _ _ G Q => Q [] G
def dCons (ta : DTE) (t : DTA) : DTA := fun W σ G Q => ta W σ G fun x G1 => t W σ G1 fun xs G2 => Q (x :: xs) G2
theorem lift_op {q : Q2} {r : R2} (hq : L2R K q r) {σ : St} {H : Hp} {Q : VK} (h : LE K Γ (dOp q ta tb) σ H Q) : tOp r (LE K Γ ta) (LE K Γ tb) σ H Q := by
  obtain ⟨σd, G, F, Wd, Qd, w, hp, cv, ht, k⟩ := h
  exact ⟨σd, G, F, Wd, _, w, hp, cv, ht, fun x G1 F1 v H1 e1 g1 r1 q1 => ⟨σd, G1, F1, Wd, _, w.ext e1 g1, Γ.mono _ _ _ _ e1.toExt0 hp, cv.ext e1, q1, fun y G2 F2 u H2 e2 g2 r2 q2 =>
    hq x y v u G2 F2 H2 Qd Q g2 (e2.rep _ _ r1) r2 q2 fun d G' F' v' H' e3 g3 r3 q3 => k d G' F' v' H' ((e1.trans e2).trans e3) g3 r3 q3⟩⟩
theorem lift_un {q : Q1} {r : V → Hp → VK → Prop} (hq : L1R K q r) {σ : St} {H : Hp} {Q : VK} (h : LE K Γ (dUn q ta) σ H Q) : tUn r (LE K Γ ta) σ H Q := by
  obtain ⟨σd, G, F, Wd, Qd, w, hp, cv, ht, k⟩ := h
  exact ⟨σd, G, F, Wd, _, w, hp, cv, ht, fun x G1 F1 v H1 e1 g1 r1 q1 => hq x v G1 F1 H1 Qd Q g1 r1 q1 fun d G' F' v' H' e3 g3 r3 q3 => k d G' F' v' H' (e1.trans e3) g3 r3 q3⟩
theorem lift_n {q : QN} {r : List V → Hp → VK → Prop} (hq : LNR K q r) {σ : St} {H : Hp} {Q : VK} (h : LE K Γ (dN q t) σ H Q) : tCB r (LA K Γ t) σ H Q := by
  obtain ⟨σd, G, F, Wd, Qd, w, hp, cv, ht, k⟩ := h
  exact ⟨σd, G, F, Wd, _, w, hp, cv, ht, fun x G1 F1 v H1 e1 g1 r1 q1 => hq x v G1 F1 H1 Qd Q g1 r1 q1 fun d G' F' v' H' e3 g3 r3 q3 => k d G' F' v' H' (e1.trans e3) g3 r3 q3⟩
theorem da_nil : DA X Γ [] dNil := pa_of pa_nil fun σ H Q ⟨σd, G, F, Wd, Qd, w, hp, cv, q, k⟩ => k [] G F [] H Ext.refl w.gr .nil q
theorem da_cons (ha : DE X Γ e ta) (hr : DA X Γ es t) (hs : starEach (e :: es) X.env = (false, eval e X.env) :: starEach es X.env := by rfl) : DA X Γ (e :: es) (dCons ta t) := pa_of (pa_cons ha hr hs) fun σ H Q ⟨σd, G, F, Wd, Qd, w, hp, cv, ht, k⟩ =>
  ⟨σd, G, F, Wd, _, w, hp, cv, ht, fun x G1 F1 v H1 e1 g1 r1 q1 => ⟨σd, G1, F1, Wd, _, w.ext e1 g1, Γ.mono _ _ _ _ e1.toExt0 hp, cv.ext e1, q1, fun xs G2 F2 vs H2 e2 g2 r2 q2 =>
    k (x :: xs) G2 F2 (v :: vs) H2 (e1.trans e2) g2 (.cons (e2.rep _ _ r1) r2) q2⟩⟩
/-! the forms: an operator, a comparison, a subscript, a built-in -/
theorem de_op {op : Operator} {q : Q2} {r : R2} (ho : OpR X (binaryOp op) r) (hq : L2R X.K q r) (ha : DE X Γ a ta) (hb : DE X Γ b tb) : DE X Γ (.BinOp a op b pos) (dOp q ta tb) := pe_of (pe_op ho ha hb) fun _ _ _ h => lift_op hq h
theorem de_un {op : UnaryOp} {q : Q1} {r : V → Hp → VK → Prop} (ho : UnR X (unaryOp op) r) (hq : L1R X.K q r) (ha : DE X Γ a ta) : DE X Γ (.UnaryOp op a pos) (dUn q ta) := pe_of (pe_un ho ha) fun _ _ _ h => lift_un hq h
theorem de_cmp {op : CmpOp} {q : Q2} {r : R2} (ho : OpR X (compareOp op) r) (hq : L2R X.K q r) (ha : DE X Γ a ta) (hb : DE X Γ b tb) (hm : behindInMarks op b = false := by first | rfl | exact nomark _) : DE X Γ (.Compare a [op] [b] pos) (dOp q ta tb) := pe_of (pe_cmpR ho ha hb hm) fun _ _ _ h => lift_op hq h
theorem de_ix {q : Q2} {r : R2} (ho : IxR X r) (hq : L2R X.K q r) (ha : DE X Γ a ta) (hb : DE X Γ b tb) (hs : PlainIx b := by intro _ _; rfl) : DE X Γ (.Subscript a b pos) (dOp q ta tb) := pe_of (pe_ix ho ha hb hs) fun _ _ _ h => lift_op hq h
theorem de_callB {x : Str} {p : Pos} {id : String} {q : QN} {r : List V → Hp → VK → Prop} (hc : CallR X (.builtin id) r) (hq : LNR X.K q r) (hg : Gl X x) (hm : X.mg x = none) (hv : bootBuiltins x = some (.builtin id)) (ha : DA X Γ (e :: es) t)
    (hn : x ≠ "__name__" := by decide) (hdb : (x == ("__debug__" : Str)) = false := by decide) (he : starEach (e :: es) X.env = (false, eval e X.env) :: starEach es X.env := by rfl) (hpl : (backTo pos (starEach es X.env)).any (·.1) = false := by rfl) :
    DE X Γ (.Call (.Name x p) (e :: es) [] pos) (dN q t) := pe_of (pe_callB hc hg hm hv ha hn hdb he hpl) fun _ _ _ h => lift_n hq h
theorem de_callTy {x : Str} {p : Pos} {T : String} {q : QN} {r : List V → Hp → VK → Prop} (hc : CallR X (.type T) r) (hq : LNR X.K q r) (hg : Gl X x) (hm : X.mg x = none) (hv : bootBuiltins x = some (.type T)) (ha : DA X Γ (e :: es) t)
    (hn : x ≠ "__name__" := by decide) (hdb : (x == ("__debug__" : Str)) = false := by decide) (he : starEach (e :: es) X.env = (false, eval e X.env) :: starEach es X.env := by rfl) (hpl : (backTo pos (starEach es X.env)).any (·.1) = false := by rfl) :
    DE X Γ (.Call (.Name x p) (e :: es) [] pos) (dN q t) := pe_of (pe_callTy hc hg hm hv ha hn hdb he hpl) fun _ _ _ h => lift_n hq h

/-! displays -/
def dTup (t : DTA) : DTE := fun W σ G Q => t W σ G fun xs G1 => xs.length ≤ sizeLine ∧ Q (.tup xs) G1
def dLst (m : Bool) (t : DTA) : DTE := fun W σ G Q => t W σ G fun xs G1 => xs.length ≤ sizeLine ∧ mkL m xs G1 Q
theorem de_tup {k : Nat} (h : DA X Γ es t) : DE X Γ (.Tuple es k pos) (dTup t) := pe_of (pe_tup h) fun σ H Q ⟨σd, G, F, Wd, Qd, w, hp, cv, ht, k⟩ =>
  ⟨σd, G, F, Wd, _, w, hp, cv, ht, fun xs G1 F1 vs H1 e1 g1 r1 ⟨hz, q1⟩ => ⟨by rw [← r1.length]; exact hz, Kont.tup (fun d G' F' v' H' e3 g3 r3 q3 => k d G' F' v' H' (e1.trans e3) g3 r3 q3) g1 r1 q1⟩⟩
theorem de_lst {m : Bool} (h : DA X Γ es t) : DE X Γ (.List es pos) (dLst m t) := pe_of (pe_lst h) fun σ H Q ⟨σd, G, F, Wd, Qd, w, hp, cv, ht, k⟩ =>
  ⟨σd, G, F, Wd, _, w, hp, cv, ht, fun xs G1 F1 vs H1 e1 g1 r1 ⟨hz, q1⟩ => ⟨by rw [← r1.length]; exact hz, Kont.lst (fun d G' F' v' H' e3 g3 r3 q3 => k d G' F' v' H' (e1.trans e3) g3 r3 q3) g1 r1 q1⟩⟩

/-! tests -/
def dTest (t : DTE) : DTT := fun W σ G Q => t W σ G fun x G1 => match x with | .bl b => Q b G1 | _ => False
theorem dt_val {e : Expr} {t : DTE} (h : DE X Γ e t) (he : ∀ whole, isTrue e X.env whole = (do let v ← whole; standAt e.pos; holding [v] (truthy v)) := by intro _; rfl) : DTs X Γ e (dTest t) :=
  pt_of (pt_val h he) fun σ H Q ⟨σd, G, F, Wd, Qd, w, hp, cv, ht, k⟩ => ⟨σd, G, F, Wd, _, w, hp, cv, ht, fun x G1 F1 v H1 e1 g1 r1 q1 => by
    cases x with
    | bl b => exact ⟨b, bl_rep r1, k b G1 F1 b H1 e1 g1 rfl q1⟩
    | _ => exact q1.elim⟩
theorem dt_cmp {op : CmpOp} {q : Q2} {r : R2} (ho : OpR X (compareOp op) r) (hq : L2R X.K q r) (ha : DE X Γ a ta) (hb : DE X Γ b tb) (hm : behindInMarks op b = false := by first | rfl | exact nomark _) : DTs X Γ (.Compare a [op] [b] pos) (dTest (dOp q ta tb)) := by
  refine pt_of (pt_cmpR ho ha hb hm) fun σ H Q ⟨σd, G, F, Wd, Qd, w, hp, cv, ht, k⟩ => ?_
  refine lift_op hq (ta := ta) (tb := tb) (Γ := Γ) ⟨σd, G, F, Wd, _, w, hp, cv, ht, fun x G1 F1 v H1 e1 g1 r1 q1 => ?_⟩
  cases x with
  | bl b => exact ⟨b, bl_rep r1, k b G1 F1 b H1 e1 g1 rfl q1⟩
  | _ => exact q1.elim
def dAndK (b : Bool) (u : DTT) : DTT := fun W σ G Q => if b = true then u W σ G Q else Q false G
def dOrK (b : Bool) (u : DTT) : DTT := fun W σ G Q => if b = true then Q true G else u W σ G Q
def dAnd (t u : DTT) : DTT := fun W σ G Q => t W σ G fun b G1 => dAndK b u W σ G1 Q
def dOr (t u : DTT) : DTT := fun W σ G Q => t W σ G fun b G1 => dOrK b u W σ G1 Q
def dNot (t : DTT) : DTT := fun W σ G Q => t W σ G fun b G1 => Q (!b) G1
def DW (X : Cx) (Γ : Amb) (e : Expr) (t : DTT) : Prop := PW X e (LT X.K Γ t)
variable {t1 t2 : DTT} {rest : List Expr}
theorem dw_and1 (h : DTs X Γ a t1) : DW X Γ (.BoolOp .And [a] pos) t1 := pw_and1 h
theorem dw_or1 (h : DTs X Γ a t1) : DW X Γ (.BoolOp .Or [a] pos) t1 := pw_or1 h
theorem dw_and (h1 : DTs X Γ a t1) (h2 : DW X Γ (.BoolOp .And (b :: rest) pos) t2) : DW X Γ (.BoolOp .And (a :: b :: rest) pos) (dAnd t1 t2) := pw_of (pw_and h1 h2) fun σ H Q ⟨σd, G, F, Wd, Qd, w, hp, cv, ht, k⟩ =>
  ⟨σd, G, F, Wd, _, w, hp, cv, ht, fun x G1 F1 v H1 e1 g1 r1 q1 => by
    subst r1
    cases x with
    | true => exact iteT ⟨σd, G1, F1, Wd, Qd, w.ext e1 g1, Γ.mono _ _ _ _ e1.toExt0 hp, cv.ext e1, q1, fun d G' F' v' H' e3 g3 r3 q3 => k d G' F' v' H' (e1.trans e3) g3 r3 q3⟩
    | false => exact iteF (k false G1 F1 false H1 e1 g1 rfl q1)⟩
theorem dw_or (h1 : DTs X Γ a t1) (h2 : DW X Γ (.BoolOp .Or (b :: rest) pos) t2) : DW X Γ (.BoolOp .Or (a :: b :: rest) pos) (dOr t1 t2) := pw_of (pw_or h1 h2) fun σ H Q ⟨σd, G, F, Wd, Qd, w, hp, cv, ht, k⟩ =>
  ⟨σd, G, F, Wd, _, w, hp, cv, ht, fun x G1 F1 v H1 e1 g1 r1 q1 => by
    subst r1
    cases x with
    | false => exact iteF ⟨σd, G1, F1, Wd, Qd, w.ext e1 g1, Γ.mono _ _ _ _ e1.toExt0 hp, cv.ext e1, q1, fun d G' F' v' H' e3 g3 r3 q3 => k d G' F' v' H' (e1.trans e3) g3 r3 q3⟩
    | true => exact iteT (k true G1 F1 true H1 e1 g1 rfl q1)⟩
theorem dt_bool (h : DW X Γ e t1) : DTs X Γ e t1 := PW.pt h
theorem dt_not (h : DTs X Γ a t1) : DTs X Γ (.UnaryOp .Not a pos) (dNot t1) := pt_of (pt_not h) fun σ H Q ⟨σd, G, F, Wd, Qd, w, hp, cv, ht, k⟩ =>
  ⟨σd, G, F, Wd, _, w, hp, cv, ht, fun x G1 F1 v H1 e1 g1 r1 q1 => by subst r1; exact k (!x) G1 F1 (!x) H1 e1 g1 rfl q1⟩
/-! .. as values: all but the last are truth values -/
def dAndVK (b : Bool) (u : DTE) : DTE := fun W σ G Q => if b = true then u W σ G Q else Q (.bl false) G
def dOrVK (b : Bool) (u : DTE) : DTE := fun W σ G Q => if b = true then Q (.bl true) G else u W σ G Q
def dAndV (t u : DTE) : DTE := fun W σ G Q => t W σ G fun x G1 => match x with | .bl b => dAndVK b u W σ G1 Q | _ => False
def dOrV (t u : DTE) : DTE := fun W σ G Q => t W σ G fun x G1 => match x with | .bl b => dOrVK b u W σ G1 Q | _ => False
def dNotV (t : DTE) : DTE := fun W σ G Q => t W σ G fun x G1 => match x with | .bl b => Q (.bl (!b)) G1 | _ => False
theorem de_one {op : BoolOp} (h : DE X Γ a ta) : DE X Γ (.BoolOp op [a] pos) ta := pe_one h
theorem de_and (h1 : DE X Γ a ta) (h2 : DE X Γ (.BoolOp .And (b :: rest) pos) tb) : DE X Γ (.BoolOp .And (a :: b :: rest) pos) (dAndV ta tb) := pe_of (pe_and h1 h2) fun σ H Q ⟨σd, G, F, Wd, Qd, w, hp, cv, ht, k⟩ =>
  ⟨σd, G, F, Wd, _, w, hp, cv, ht, fun x G1 F1 v H1 e1 g1 r1 q1 => by
    cases x with
    | bl c =>
      refine ⟨c, bl_rep r1, ?_⟩
      cases c with
      | true => exact iteT ⟨σd, G1, F1, Wd, Qd, w.ext e1 g1, Γ.mono _ _ _ _ e1.toExt0 hp, cv.ext e1, q1, fun d G' F' v' H' e3 g3 r3 q3 => k d G' F' v' H' (e1.trans e3) g3 r3 q3⟩
      | false => exact iteF (k (.bl false) G1 F1 _ H1 e1 g1 rep_bl q1)
    | _ => exact q1.elim⟩
theorem de_or (h1 : DE X Γ a ta) (h2 : DE X Γ (.BoolOp .Or (b :: rest) pos) tb) : DE X Γ (.BoolOp .Or (a :: b :: rest) pos) (dOrV ta tb) := pe_of (pe_or h1 h2) fun σ H Q ⟨σd, G, F, Wd, Qd, w, hp, cv, ht, k⟩ =>
  ⟨σd, G, F, Wd, _, w, hp, cv, ht, fun x G1 F1 v H1 e1 g1 r1 q1 => by
    cases x with
    | bl c =>
      refine ⟨c, bl_rep r1, ?_⟩
      cases c with
      | false => exact iteF ⟨σd, G1, F1, Wd, Qd, w.ext e1 g1, Γ.mono _ _ _ _ e1.toExt0 hp, cv.ext e1, q1, fun d G' F' v' H' e3 g3 r3 q3 => k d G' F' v' H' (e1.trans e3) g3 r3 q3⟩
      | true => exact iteT (k (.bl true) G1 F1 _ H1 e1 g1 rep_bl q1)
    | _ => exact q1.elim⟩
theorem de_not (h : DE X Γ a ta) : DE X Γ (.UnaryOp .Not a pos) (dNotV ta) := pe_of (pe_not h) fun σ H Q ⟨σd, G, F, Wd, Qd, w, hp, cv, ht, k⟩ =>
  ⟨σd, G, F, Wd, _, w, hp, cv, ht, fun x G1 F1 v H1 e1 g1 r1 q1 => by
    cases x with
    | bl c => exact ⟨c, bl_rep r1, k (.bl (!c)) G1 F1 _ H1 e1 g1 rep_bl q1⟩
    | _ => exact q1.elim⟩
def dIfK (b : Bool) (ta tb : DTE) : DTE := fun W σ G Q => if b = true then ta W σ G Q else tb W σ G Q
def dIf (t : DTT) (ta tb : DTE) : DTE := fun W σ G Q => t W σ G fun b G1 => dIfK b ta tb W σ G1 Q
theorem de_if (h : DTs X Γ c t1) (ha : DE X Γ a ta) (hb : DE X Γ b tb) : DE X Γ (.IfExp c a b pos) (dIf t1 ta tb) := pe_of (pe_ifExp h ha hb) fun σ H Q ⟨σd, G, F, Wd, Qd, w, hp, cv, ht, k⟩ =>
  ⟨σd, G, F, Wd, _, w, hp, cv, ht, fun x G1 F1 v H1 e1 g1 r1 q1 => by
    subst r1
    cases x with
    | true => exact iteT ⟨σd, G1, F1, Wd, Qd, w.ext e1 g1, Γ.mono _ _ _ _ e1.toExt0 hp, cv.ext e1, q1, fun d G' F' v' H' e3 g3 r3 q3 => k d G' F' v' H' (e1.trans e3) g3 r3 q3⟩
    | false => exact iteF ⟨σd, G1, F1, Wd, Qd, w.ext e1 g1, Γ.mono _ _ _ _ e1.toExt0 hp, cv.ext e1, q1, fun d G' F' v' H' e3 g3 r3 q3 => k d G' F' v' H' (e1.trans e3) g3 r3 q3⟩⟩
/-- a chain of two comparisons -/
def dChainK (b : Bool) (q' : Q2) (y : D) (tc : DTE) : DTE := fun W σ G Q => if b = true then tc W σ G fun z G2 => q' y z G2 Q else Q (.bl false) G
def dChain (q q' : Q2) (ta tb tc : DTE) : DTE := fun W σ G Q => ta W σ G fun x G1 => tb W σ G1 fun y G2 => q x y G2 fun r G3 => match r with | .bl b => dChainK b q' y tc W σ G3 Q | _ => False
theorem lift_chain {q q' : Q2} {r r' : R2} (hq : L2R K q r) (hq' : L2R K q' r') {σ : St} {H : Hp} {Q : VK} (h : LE K Γ (dChain q q' ta tb tc) σ H Q) : tChain r r' (LE K Γ ta) (LE K Γ tb) (LE K Γ tc) σ H Q := by
  obtain ⟨σd, G, F, Wd, Qd, w, hp, cv, ht, k⟩ := h
  refine ⟨σd, G, F, Wd, _, w, hp, cv, ht, fun x G1 F1 v H1 e1 g1 r1 q1 => ⟨σd, G1, F1, Wd, _, w.ext e1 g1, Γ.mono _ _ _ _ e1.toExt0 hp, cv.ext e1, q1, fun y G2 F2 u H2 e2 g2 r2 q2 =>
    hq x y v u G2 F2 H2 _ _ g2 (e2.rep _ _ r1) r2 q2 fun z G3 F3 v3 H3 e3 g3 r3 q3 => ?_⟩⟩
  have e03 := (e1.trans e2).trans e3
  cases z with
  | bl b =>
    refine ⟨b, bl_rep r3, ?_⟩
    cases b with
    | false => exact iteF (k (.bl false) G3 F3 _ H3 e03 g3 rep_bl q3)
    | true =>
      refine iteT ⟨σd, G3, F3, Wd, _, w.ext e03 g3, Γ.mono _ _ _ _ e03.toExt0 hp, cv.ext e03, q3, fun z G4 F4 u4 H4 e4 g4 r4 q4 => ?_⟩
      exact hq' y z u u4 G4 F4 H4 Qd Q g4 ((e3.trans e4).rep _ _ r2) r4 q4 fun d G' F' v' H' e5 g5 r5 q5 => k d G' F' v' H' ((e03.trans e4).trans e5) g5 r5 q5
  | _ => exact q3.elim
theorem de_chain {op op' : CmpOp} {q q' : Q2} {r r' : R2} (ho : OpR X (compareOp op) r) (hq : L2R X.K q r) (ho' : OpR X (compareOp op') r') (hq' : L2R X.K q' r') (ha : DE X Γ a ta) (hb : DE X Γ b tb) (hc : DE X Γ c tc)
    (hm : lastMarks [op, op'] [b, c] = false := by with_unfolding_all rfl) : DE X Γ (.Compare a [op, op'] [b, c] pos) (dChain q q' ta tb tc) := pe_of (pe_chain ho ho' ha hb hc hm) fun _ _ _ h => lift_chain hq hq' h
theorem dt_chain {op op' : CmpOp} {q q' : Q2} {r r' : R2} (ho : OpR X (compareOp op) r) (hq : L2R X.K q r) (ho' : OpR X (compareOp op') r') (hq' : L2R X.K q' r') (ha : DE X Γ a ta) (hb : DE X Γ b tb) (hc : DE X Γ c tc)
    (hm : lastMarks [op, op'] [b, c] = false := by with_unfolding_all rfl) : DTs X Γ (.Compare a [op, op'] [b, c] pos) (dTest (dChain q q' ta tb tc)) := by
  refine pt_of (pt_chain ho ho' ha hb hc hm) fun σ H Q ⟨σd, G, F, Wd, Qd, w, hp, cv, ht, k⟩ => ?_
  refine lift_chain hq hq' (ta := ta) (tb := tb) (tc := tc) (Γ := Γ) ⟨σd, G, F, Wd, _, w, hp, cv, ht, fun x G1 F1 v H1 e1 g1 r1 q1 => ?_⟩
  cases x with
  | bl b => exact ⟨b, bl_rep r1, k b G1 F1 b H1 e1 g1 rfl q1⟩
  | _ => exact q1.elim
/-! truth of a thing of any kind -/
def truD (G : DH) (d : D) (Q : Bool → Prop) : Prop := match d with
  | .non => Q false
  | .bl b => Q b
  | .int i => Q (i != 0)
  | .str y => y.length ≤ sizeLine ∧ Q ((y.length : Int) != 0)
  | d => match dseq G d with
    | some xs => Q (!xs.isEmpty)
    | none => False
def dTru (t : DTE) : DTT := fun W σ G Q => t W σ G fun x G1 => truD G1 x fun b => Q b G1
theorem truD_ok {H : Hp} {F : Fz} {G : DH} (g : GRel K H F G) {d : D} {v : V} (r : Rep K H F d v) {Q : Bool → Prop} (h : truD G d Q) : ∃ b, TruV K v H b ∧ Q b := by
  have seqs : ∀ xs, dseq G d = some xs → Q (!xs.isEmpty) → ∃ b, TruV K v H b ∧ Q b := fun xs e q => by
    obtain ⟨a, vs, rfl, hs, rs⟩ := dseq_rep g r e
    have em : (!xs.isEmpty) = !vs.isEmpty := by
      have := rs.length
      cases xs <;> cases vs <;> simp at this ⊢
    refine ⟨_, ?_, q⟩
    rcases hs with hs | hs
    · exact .inl ⟨vs, hs, em⟩
    · exact .inr (.inl ⟨vs, hs, em⟩)
  cases d with
  | non => rw [non_rep r]; exact ⟨_, rfl, h⟩
  | bl b => rw [bl_rep r]; exact ⟨_, rfl, h⟩
  | int i => rw [int_rep r]; exact ⟨_, rfl, h⟩
  | str y => rw [str_rep r]; exact ⟨_, ⟨h.1, rfl⟩, h.2⟩
  | tup xs => exact seqs xs rfl h
  | lst xs => exact seqs xs rfl h
  | scr ns => exact seqs _ rfl h
  | ty n => exact h.elim
  | ref a =>
    have h' : (match dseq G (.ref a) with | some xs => Q (!xs.isEmpty) | none => False) := h
    cases e : dseq G (.ref a) with
    | none => rw [e] at h'; exact h'.elim
    | some xs => rw [e] at h'; exact seqs xs e h'
theorem dt_truth (ha : DE X Γ a ta) (he : ∀ whole, isTrue a X.env whole = (do let v ← whole; standAt a.pos; holding [v] (truthy v)) := by intro _; rfl) : DTs X Γ a (dTru ta) :=
  pt_of (pt_truth ha he) fun σ H Q ⟨σd, G, F, Wd, Qd, w, hp, cv, ht, k⟩ => ⟨σd, G, F, Wd, _, w, hp, cv, ht, fun x G1 F1 v H1 e1 g1 r1 q1 => by
    obtain ⟨b, h1, h2⟩ := truD_ok g1 r1 q1
    exact ⟨b, h1, k b G1 F1 b H1 e1 g1 rfl h2⟩⟩
/-! methods of built-in types -/
abbrev QM := D → List D → DH → DK → Prop
def tyD (G : DH) : D → Option String
  | .non => some "NoneType"
  | .bl _ => some "bool"
  | .int _ => some "int"
  | .str _ => some "str"
  | .tup _ => some "tuple"
  | .lst _ => some "list"
  | .scr _ => some "list"
  | .ty _ => none
  | .ref a => match G a with
    | some (.lst _) => some "list"
    | some (.hid _) => some "list"
    | some (.dct _) => some "dict"
    | some (.set _ _) => some "set"
    | none => none
def tyM (T : String) (x : D) (G : DH) : Prop := match x with
  | .str _ => T = "str"
  | .int _ => T = "int"
  | .lst _ => T = "list"
  | .scr _ => T = "list"
  | .ref a => match G a with
    | some (.lst _) => T = "list"
    | some (.dct _) => T = "dict"
    | some (.set _ _) => T = "set"
    | _ => False
  | _ => False
theorem tyM_ok {H : Hp} {F : Fz} {G : DH} (g : GRel K H F G) {d : D} {v : V} (r : Rep K H F d v) {T : String} (h : tyM T d G) : tyV K T v H := by
  cases d with
  | str _ => rw [str_rep r]; exact h
  | int _ => rw [int_rep r]; exact h
  | lst xs => obtain ⟨a, vs, rfl, h1, _⟩ := dlst_rep (ds := xs) g r rfl; exact .inl ⟨h, vs, h1⟩
  | scr ns => obtain ⟨a, vs, rfl, h1, _⟩ := dlst_rep (ds := ns.map D.int) g r rfl; exact .inl ⟨h, vs, h1⟩
  | ref a =>
    unfold tyM at h
    rw [ref_rep r]
    cases e : G a with
    | none => simp [e] at h
    | some o =>
      obtain ⟨_, ho, q, ro⟩ := g.at_ a o e
      cases o with
      | lst xs => simp [e] at h; obtain ⟨vs, rfl, _⟩ := ro; exact .inl ⟨h, vs, SqL.of q⟩
      | hid _ => simp [e] at h
      | dct kvs => simp [e] at h; obtain ⟨ws, rfl, _⟩ := ro; exact .inr (.inr (.inl ⟨h, .inl ⟨ws, q⟩⟩))
      | set S n => simp [e] at h; cases (show ho = .set S n from ro); exact .inr (.inr (.inr ⟨h, S, n, q⟩))
  | _ => exact h.elim
def LMR (K : PySem.W.Frag) (q : QM) (r : V → List V → Hp → VK → Prop) : Prop := ∀ x v ds vs G F H Qd Q, GRel K H F G → Rep K H F x v → Reps K H F ds vs → q x ds G Qd → Kont K H F Qd Q → r v vs H Q
def dM0 (T : String) (q : QM) (ta : DTE) : DTE := fun W σ G Q => ta W σ G fun x G1 => tyM T x G1 ∧ q x [] G1 Q
def dM (T : String) (q : QM) (ta : DTE) (t : DTA) : DTE := fun W σ G Q => ta W σ G fun x G1 => tyM T x G1 ∧ t W σ G1 fun xs G2 => q x xs G2 Q
variable {o : Expr} {name : Str} {apos cpos : Pos} {T id : String} {r : V → List V → Hp → VK → Prop} {q : QM}
theorem de_m0 (pa : PlainAttrs T) (slot : Slot T name id) (hty : typeOf (.builtin id) = pure (.type "method_descriptor")) (hm : MtR X id r) (hq : LMR X.K q r) (ho : DE X Γ o ta)
    (hbase : attributeBase o name X.env (eval o X.env) = eval o X.env := by rfl) (hline : (apos.endLine == cpos.line) = true := by rfl) : DE X Γ (.Call (.Attribute o name apos) [] [] cpos) (dM0 T q ta) :=
  pe_of (pe_bm0 pa slot hty hm ho hbase hline) fun σ H Q ⟨σd, G, F, Wd, Qd, w, hp, cv, ht, k⟩ => ⟨σd, G, F, Wd, _, w, hp, cv, ht, fun x G1 F1 v H1 e1 g1 r1 ⟨h1, q1⟩ =>
    ⟨tyM_ok g1 r1 h1, hq x v [] [] G1 F1 H1 Qd Q g1 r1 .nil q1 fun d G' F' v' H' e3 g3 r3 q3 => k d G' F' v' H' (e1.trans e3) g3 r3 q3⟩⟩
theorem de_m (pa : PlainAttrs T) (slot : Slot T name id) (hty : typeOf (.builtin id) = pure (.type "method_descriptor")) (hm : MtR X id r) (hq : LMR X.K q r) (ho : DE X Γ o ta) (ha : DA X Γ (e :: es) t)
    (hbase : attributeBase o name X.env (eval o X.env) = eval o X.env := by rfl)
    (hfew : ((backTo cpos (starEach (e :: es) X.env)).all (fun x => !x.1) && (backToKw cpos (keywordEach [] X.env)).all (fun x => x.1.isSome)
      && decide ((e :: es).length + ([] : List Keyword).length + (if ([] : List Keyword).isEmpty then 0 else 1) < 30)) = true := by rfl)
    (hline : (apos.endLine == cpos.line) = true := by rfl) (hs : starEach (e :: es) X.env = (false, eval e X.env) :: starEach es X.env := by rfl) (hplain : (backTo cpos (starEach es X.env)).any (·.1) = false := by rfl) :
    DE X Γ (.Call (.Attribute o name apos) (e :: es) [] cpos) (dM T q ta t) :=
  pe_of (pe_bm pa slot hty hm ho ha hbase hfew hline hs hplain) fun σ H Q ⟨σd, G, F, Wd, Qd, w, hp, cv, ht, k⟩ => ⟨σd, G, F, Wd, _, w, hp, cv, ht, fun x G1 F1 v H1 e1 g1 r1 ⟨h1, q1⟩ =>
    ⟨tyM_ok g1 r1 h1, σd, G1, F1, Wd, _, w.ext e1 g1, Γ.mono _ _ _ _ e1.toExt0 hp, cv.ext e1, q1, fun xs G2 F2 vs H2 e2 g2 r2 q2 =>
      hq x v xs vs G2 F2 H2 Qd Q g2 (e2.rep _ _ r1) r2 q2 fun d G' F' v' H' e3 g3 r3 q3 => k d G' F' v' H' ((e1.trans e2).trans e3) g3 r3 q3⟩⟩
/-! slices -/
abbrev QS := D → Option Int → Option Int → DH → DK → Prop
def LSR (K : PySem.W.Frag) (q : QS) (r : V → Option Int → Option Int → Hp → VK → Prop) : Prop := ∀ x v lo hi G F H Qd Q, GRel K H F G → Rep K H F x v → q x lo hi G Qd → Kont K H F Qd Q → r v lo hi H Q
abbrev DTO := DT (Option Int)
def DO_ (X : Cx) (Γ : Amb) (e : Option Expr) (t : DTO) : Prop := PO X e (Lift X.K Γ (fun _ _ (a b : Option Int) => a = b) t)
theorem po_of {e : Option Expr} {t u : TO} (h : PO X e u) (i : ∀ σ H Q, t σ H Q → u σ H Q) : PO X e t := ⟨fun pins s σ H Q I q => h.run pins s σ H Q I (i _ _ _ q)⟩
def dNoP : DTO := fun _ _ G Q => Q none G
def dPart (t : DTE) : DTO := fun W σ G Q => t W σ G fun x G1 => match x with | .int i => Q (some i) G1 | _ => False
theorem do_none : DO_ X Γ none dNoP := po_of po_none fun σ H Q ⟨σd, G, F, Wd, Qd, w, hp, cv, q, k⟩ => k none G F none H Ext.refl w.gr rfl q
theorem do_some (h : DE X Γ e ta) : DO_ X Γ (some e) (dPart ta) := po_of (po_some h) fun σ H Q ⟨σd, G, F, Wd, Qd, w, hp, cv, ht, k⟩ => ⟨σd, G, F, Wd, _, w, hp, cv, ht, fun x G1 F1 v H1 e1 g1 r1 q1 => by
  cases x with
  | int i => exact ⟨i, int_rep r1, k (some i) G1 F1 _ H1 e1 g1 rfl q1⟩
  | _ => exact q1.elim⟩
def dSl (q : QS) (ta : DTE) (tl th : DTO) : DTE := fun W σ G Q => ta W σ G fun x G1 => tl W σ G1 fun l G2 => th W σ G2 fun h G3 => q x l h G3 Q
theorem de_slice {q : QS} {r : V → Option Int → Option Int → Hp → VK → Prop} {lo hi : Option Expr} {tl th : DTO} {p2 : Pos} (hr : SlR X r) (hq : LSR X.K q r) (he : DE X Γ e ta) (hl : DO_ X Γ lo tl) (hu : DO_ X Γ hi th) :
    DE X Γ (.Subscript e (.Slice lo hi none p2) pos) (dSl q ta tl th) := pe_of (pe_slice hr he hl hu) fun σ H Q ⟨σd, G, F, Wd, Qd, w, hp, cv, ht, k⟩ =>
  ⟨σd, G, F, Wd, _, w, hp, cv, ht, fun x G1 F1 v H1 e1 g1 r1 q1 => ⟨σd, G1, F1, Wd, _, w.ext e1 g1, Γ.mono _ _ _ _ e1.toExt0 hp, cv.ext e1, q1, fun l G2 F2 l' H2 e2 g2 r2 q2 => by
    subst r2
    have e12 := e1.trans e2
    exact ⟨σd, G2, F2, Wd, _, w.ext e12 g2, Γ.mono _ _ _ _ e12.toExt0 hp, cv.ext e12, q2, fun u G3 F3 u' H3 e3 g3 r3 q3 => by
      subst r3
      exact hq x v l u G3 F3 H3 Qd Q g3 ((e2.trans e3).rep _ _ r1) q3 fun d G' F' v' H' e4 g4 r4 q4 => k d G' F' v' H' ((e12.trans e3).trans e4) g4 r4 q4⟩⟩⟩
end
end DL

/-! D3: statements, targets, calls, exceptions over trees. -/
namespace DL
open PySem PySem.Spec L2

section
variable {X : Cx} {Γ : Amb} {K : PySem.W.Frag} {st : Stmt} {rest : List Stmt} {t u : DTS} {e a b c : Expr} {es : List Expr} {te ta : DTE} {tA : DTA} {tt : DTT} {pos : Pos}
def dNext : DTS := fun _ D σ G => D.nx σ G
def dSeq (t u : DTS) : DTS := fun W D σ G => t W { nx := u W D, rt := D.rt, bk := D.bk, ct := D.ct } σ G
theorem dss_nil : DSs X Γ [] dNext := pss_of pss_nil fun D σ H ⟨σd, G, F, Wd, Dd, w, hp, cv, ht, k⟩ => k.nx σd G F σ H Ext.refl w ht
theorem dss_cons (h1 : DS X Γ st t) (h2 : DSs X Γ rest u) : DSs X Γ (st :: rest) (dSeq t u) := pss_of (pss_cons h1 h2) fun D σ H ⟨σd, G, F, Wd, Dd, w, hp, cv, ht, k⟩ =>
  ⟨σd, G, F, Wd, _, w, hp, cv, ht, fun σd' G' F' σ' H' e1 w1 q1 => ⟨σd', G', F', Wd, Dd, w1, Γ.mono _ _ _ _ e1.toExt0 hp, cv.ext e1, q1, k.ext e1⟩, k.rt, k.bk, k.ct⟩
theorem dss_one (h1 : DS X Γ st t) : DSs X Γ [st] t := pss_one h1
def dBreak : DTS := fun _ D σ G => D.bk σ G
def dCont : DTS := fun _ D σ G => D.ct σ G
theorem ds_pass : DS X Γ (.Pass pos) dNext := ps_of ps_pass fun D σ H ⟨σd, G, F, Wd, Dd, w, hp, cv, ht, k⟩ => k.nx σd G F σ H Ext.refl w ht
theorem ds_break : DS X Γ (.Break pos) dBreak := ps_of ps_break fun D σ H ⟨σd, G, F, Wd, Dd, w, hp, cv, ht, k⟩ => k.bk σd G F σ H Ext.refl w ht
theorem ds_continue : DS X Γ (.Continue pos) dCont := ps_of ps_continue fun D σ H ⟨σd, G, F, Wd, Dd, w, hp, cv, ht, k⟩ => k.ct σd G F σ H Ext.refl w ht
def dDrop (te : DTE) : DTS := fun W D σ G => te W σ G fun _ G1 => D.nx σ G1
theorem ds_expr (he : DE X Γ e te) (hs : swapsWith e none pos.line X.env = pure false := by rfl) : DS X Γ (.Expr e pos) (dDrop te) := ps_of (ps_expr he hs) fun D σ H ⟨σd, G, F, Wd, Dd, w, hp, cv, ht, k⟩ =>
  ⟨σd, G, F, Wd, _, w, hp, cv, ht, fun x G1 F1 v H1 e1 g1 r1 q1 => k.nx σd G1 F1 σ H1 e1 (w.ext e1 g1) q1⟩
def dRet (te : DTE) : DTS := fun W D σ G => te W σ G D.rt
theorem ds_ret (he : DE X Γ e te) : DS X Γ (.Return (some e) pos) (dRet te) := ps_of (ps_ret he) fun D σ H ⟨σd, G, F, Wd, Dd, w, hp, cv, ht, k⟩ =>
  ⟨σd, G, F, Wd, _, w, hp, cv, ht, fun x G1 F1 v H1 e1 g1 r1 q1 => k.rt x G1 F1 v H1 e1 g1 r1 q1⟩
def dRetN : DTS := fun _ D _ G => D.rt .non G
theorem ds_retN : DS X Γ (.Return none pos) dRetN := ps_of ps_retN fun D σ H ⟨σd, G, F, Wd, Dd, w, hp, cv, ht, k⟩ => k.rt .non G F .non H Ext.refl w.gr rep_non ht
def dIfSK (b : Bool) (t u : DTS) : DTS := fun W D σ G => if b = true then t W D σ G else u W D σ G
def dIfS (tt : DTT) (t u : DTS) : DTS := fun W D σ G => tt W σ G fun b G1 => dIfSK b t u W D σ G1
theorem ds_if {p q : List Stmt} (hc : DTs X Γ c tt) (ha : DSs X Γ p t) (hb : DSs X Γ q u) : DS X Γ (.If c p q pos) (dIfS tt t u) := ps_of (ps_if hc ha hb) fun D σ H ⟨σd, G, F, Wd, Dd, w, hp, cv, ht, k⟩ =>
  ⟨σd, G, F, Wd, _, w, hp, cv, ht, fun x G1 F1 v H1 e1 g1 r1 q1 => by
    subst r1
    cases x with
    | true => exact iteT ⟨σd, G1, F1, Wd, Dd, w.ext e1 g1, Γ.mono _ _ _ _ e1.toExt0 hp, cv.ext e1, q1, k.ext e1⟩
    | false => exact iteF ⟨σd, G1, F1, Wd, Dd, w.ext e1 g1, Γ.mono _ _ _ _ e1.toExt0 hp, cv.ext e1, q1, k.ext e1⟩⟩
def dNever : DTS := fun _ _ _ _ => False
theorem ds_never : DS X Γ st dNever := ⟨fun _ _ _ _ _ _ ⟨_, _, _, _, _, _, _, _, h, _⟩ => h.elim⟩

/-! ### what may be done to the ledger between two statements -/
inductive Ghost : DSt → DH → DSt → DH → Prop
  | refl {σ : DSt} {G : DH} : Ghost σ G σ G
  | drop {σ σ' : DSt} {G G' G2 : DH} (s : Sub G2 G) (h : Ghost σ G2 σ' G') : Ghost σ G σ' G'
  | freeze {σ σ' : DSt} {G G' : DH} (i : Nat) (p : Addr) (ds : List D) (e : σ[i]? = some (some (.ref p))) (e2 : G p = some (.lst ds)) (h : Ghost (σ.set i (some (.lst ds))) (ddel G p) σ' G') : Ghost σ G σ' G'
  | hide {σ σ' : DSt} {G G' : DH} (p : Addr) (ds : List D) (φ : List D → Prop) (e2 : G p = some (.lst ds)) (q : φ ds) (h : Ghost σ (dupd G p (.hid φ)) σ' G') : Ghost σ G σ' G'
theorem Ghost.ok {σd σd' : DSt} {G G' : DH} (z : Ghost σd G σd' G') : ∀ {H : Hp} {F : Fz} {σ : St}, WR K H F σd G σ → ∃ F', Ext F H F' H ∧ WR K H F' σd' G' σ := by
  induction z with
  | refl => intro H F σ w; exact ⟨F, Ext.refl, w⟩
  | drop s h ih => intro H F σ w; exact ih ⟨w.sl, w.gr.sub s⟩
  | @freeze σ1 σ2 G1 G2 i p ds e e2 h ih =>
    intro H F σ w
    obtain ⟨x, g, r⟩ := w.gr.freeze e2
    obtain ⟨v, e3, r3⟩ := w.sl.2 i _ e
    have ev : v = .ref p := ref_rep r3
    subst ev
    have s2 : Slots K H (fadd F p) (σ1.set i (some (.lst ds))) (σ.set i (some (.ref p))) := (w.sl.ext x.toExt0).set r
    have es : σ.set i (some (V.ref p)) = σ := by
      apply List.ext_getElem?
      intro j
      by_cases hj : i = j
      · subst hj
        rw [List.getElem?_set]
        have hl : i < σ.length := (List.getElem?_eq_some_iff.mp e3).1
        simp [hl]
        exact ((List.getElem?_eq_some_iff.mp e3).2).symm
      · rw [List.getElem?_set_ne hj]
    rw [es] at s2
    obtain ⟨F', x2, w2⟩ := ih ⟨s2, g⟩
    exact ⟨F', x.trans x2, w2⟩
  | @hide σ1 σ2 G1 G2 p ds φ e2 q h ih =>
    intro H F σ w
    refine ih ⟨w.sl, ⟨fun b u eb => ?_, w.gr.fz, w.gr.bl⟩⟩
    by_cases hb : b = p
    · subst hb
      rw [dupd_same] at eb; cases eb
      obtain ⟨nf, ho, q1, vs, rfl, r⟩ := w.gr.at_ b _ e2
      exact ⟨nf, _, q1, ds, vs, q, rfl, r⟩
    · rw [dupd_ne hb] at eb
      exact w.gr.at_ b u eb
def dGhost (t : DTS) : DTS := fun W D σ G => ∃ σ' G', Ghost σ G σ' G' ∧ t W D σ' G'
theorem dss_ghost {sts : List Stmt} (h : DSs X Γ sts t) : DSs X Γ sts (dGhost t) := pss_of h fun D σ H ⟨σd, G, F, Wd, Dd, w, hp, cv, ⟨σd', G', z, ht⟩, k⟩ => by
  obtain ⟨F', x, w'⟩ := z.ok w
  exact ⟨σd', G', F', Wd, Dd, w', Γ.mono _ _ _ _ x.toExt0 hp, cv.ext x, ht, k.ext x⟩
/-- what is hidden is looked at -/
def dOpen (t : DTS) : DTS := fun W D σ G => ∃ p φ, G p = some (.hid φ) ∧ ∀ ds, φ ds → t W D σ (dupd G p (.lst ds))
theorem GRel.openH {H : Hp} {F : Fz} {G : DH} (g : GRel K H F G) {p : Addr} {φ : List D → Prop} (e : G p = some (.hid φ)) : ∃ ds, φ ds ∧ GRel K H F (dupd G p (.lst ds)) := by
  obtain ⟨nf, ho, q1, ds, vs, q, rfl, r⟩ := g.at_ p _ e
  refine ⟨ds, q, ⟨fun b u eb => ?_, g.fz, g.bl⟩⟩
  by_cases hb : b = p
  · subst hb
    rw [dupd_same] at eb; cases eb
    exact ⟨nf, _, q1, vs, rfl, r⟩
  · rw [dupd_ne hb] at eb
    exact g.at_ b u eb
theorem dss_open {sts : List Stmt} (h : DSs X Γ sts t) : DSs X Γ sts (dOpen t) := pss_of h fun D σ H ⟨σd, G, F, Wd, Dd, w, hp, cv, ⟨p, φ, e, ht⟩, k⟩ => by
  obtain ⟨ds, q, g⟩ := w.gr.openH e
  exact ⟨σd, _, F, Wd, Dd, ⟨w.sl, g⟩, hp, cv, ht ds q, k⟩

/-! ### targets -/
abbrev DTG := DX → D → DSt → DH → (DSt → DH → Prop) → Prop
abbrev DTGs := DX → List D → DSt → DH → (DSt → DH → Prop) → Prop
def LG (K : PySem.W.Frag) (Γ : Amb) (t : DTG) : TG := fun v σ H Q => ∃ d σd G F Wd Qd, WR K H F σd G σ ∧ Γ.P H F ∧ Cov K Γ.W Wd H F ∧ Rep K H F d v ∧ t Wd d σd G Qd ∧ ∀ σd' G' F' σ' H', Ext F H F' H' → WR K H' F' σd' G' σ' → Qd σd' G' → Q σ' H'
def LGs (K : PySem.W.Frag) (Γ : Amb) (t : DTGs) : TGs := fun vs σ H Q => ∃ ds σd G F Wd Qd, WR K H F σd G σ ∧ Γ.P H F ∧ Cov K Γ.W Wd H F ∧ Reps K H F ds vs ∧ t Wd ds σd G Qd ∧ ∀ σd' G' F' σ' H', Ext F H F' H' → WR K H' F' σd' G' σ' → Qd σd' G' → Q σ' H'
def DG (X : Cx) (Γ : Amb) (e : Expr) (t : DTG) : Prop := PG X e (LG X.K Γ t)
def DGs (X : Cx) (Γ : Amb) (es : List Expr) (t : DTGs) : Prop := PGs X es (LGs X.K Γ t)
theorem pg_of {e : Expr} {t u : TG} (h : PG X e u) (i : ∀ v σ H Q, t v σ H Q → u v σ H Q) : PG X e t := ⟨fun pins s σ H v uv Q I r q => h.run pins s σ H v uv Q I r (i _ _ _ _ q)⟩
theorem pgs_of {e : List Expr} {t u : TGs} (h : PGs X e u) (i : ∀ v σ H Q, t v σ H Q → u v σ H Q) : PGs X e t := ⟨fun pins s σ H v uv Q I r q => h.run pins s σ H v uv Q I r (i _ _ _ _ q)⟩
def gSet (i : Nat) : DTG := fun _ d σ G Q => Q (σ.set i (some d)) G
theorem dg_name {i : Nat} {x : Str} (hN : X.N.Nodup) (hi : X.N[i]? = some x) (hx : Loc X.env.scope x) (hf : X.fn x = true ∨ X.env.scope.names.lookup x = some .local := by first | exact .inl rfl | exact .inr rfl | assumption) : DG X Γ (.Name x pos) (gSet i) :=
  pg_of (pg_name hN hi hx hf) fun v σ H Q ⟨d, σd, G, F, Wd, Qd, w, hp, cv, r, ht, k⟩ => k _ G F _ H Ext.refl (w.set r) ht
def gsNil : DTGs := fun _ ds σ G Q => ds = [] ∧ Q σ G
def gsCons (t : DTG) (u : DTGs) : DTGs := fun W ds σ G Q => match ds with
  | d :: r => t W d σ G fun σ' G' => u W r σ' G' Q
  | [] => False
theorem dgs_nil : DGs X Γ [] gsNil := pgs_of pgs_nil fun v σ H Q ⟨ds, σd, G, F, Wd, Qd, w, hp, cv, r, ⟨e, ht⟩, k⟩ => by
  subst e
  exact ⟨r.inv0, k _ G F _ H Ext.refl w ht⟩
theorem dgs_cons {t : DTG} {u : DTGs} (h1 : DG X Γ e t) (h2 : DGs X Γ es u) (hs : (assignEach (e :: es) X.env).map (·.2) = assign e X.env :: (assignEach es X.env).map (·.2) := by rfl) : DGs X Γ (e :: es) (gsCons t u) :=
  pgs_of (pgs_cons h1 h2 hs) fun v σ H Q ⟨ds, σd, G, F, Wd, Qd, w, hp, cv, r, ht, k⟩ => by
    cases ds with
    | nil => exact ht.elim
    | cons d r' =>
      obtain ⟨v1, vs, rfl, r1, r2⟩ := r.inv
      exact ⟨v1, vs, rfl, d, σd, G, F, Wd, _, w, hp, cv, r1, ht, fun σd' G' F' σ' H' e1 w1 q1 => ⟨r', σd', G', F', Wd, Qd, w1, Γ.mono _ _ _ _ e1.toExt0 hp, cv.ext e1, e1.reps _ _ r2, q1, fun a b c d f e2 w2 q2 => k a b c d f (e1.trans e2) w2 q2⟩⟩
def gTupD (n : Nat) (t : DTGs) : DTG := fun W d σ G Q => match d with
  | .tup xs => xs.length = n ∧ t W xs σ G Q
  | _ => False
theorem dg_tup {k : Nat} {t : DTGs} {n : Nat} (hc : X.calm = true) (h : DGs X Γ es t) (hn : (assignEach es X.env).length = n := by rfl) (hst : (assignEach es X.env).findIdx? (·.1) = none := by rfl) : DG X Γ (.Tuple es k pos) (gTupD n t) :=
  pg_of (pg_tup hc h hn hst) fun v σ H Q ⟨d, σd, G, F, Wd, Qd, w, hp, cv, r, ht, k⟩ => by
    cases d with
    | tup xs =>
      obtain ⟨a, vs, rfl, hs, rs⟩ := tup_rep r
      exact ⟨a, vs, rfl, hs, by rw [← rs.length]; exact ht.1, xs, σd, G, F, Wd, Qd, w, hp, cv, rs, ht.2, k⟩
    | _ => exact ht.elim
/-- a list at p gets d at place k -/
abbrev DQSet := D → D → D → DH → (DH → Prop) → Prop
def LSet (K : PySem.W.Frag) (q : DQSet) (r : TSet) : Prop := ∀ o i x ov iv xv G F H Qd Q, GRel K H F G → Rep K H F o ov → Rep K H F i iv → Rep K H F x xv → q o i x G Qd → (∀ G' H', Ext F H F H' → GRel K H' F G' → Qd G' → Q H') → r ov iv xv H Q
def gSubD (q : DQSet) (to ti : DTE) : DTG := fun W d σ G Q => to W σ G fun o G1 => ti W σ G1 fun i G2 => q o i d G2 fun G3 => Q σ G3
theorem dg_sub {o i : Expr} {to ti : DTE} {q : DQSet} {r : TSet} (hr : PSet X r) (hq : LSet X.K q r) (ho : DE X Γ o to) (hi : DE X Γ i ti)
    (ha : ∀ v, assign (.Subscript o i pos) X.env v = (do
      let ov ← holding [v] (eval o X.env)
      let iv ← holding [v, ov] (eval i X.env)
      standAt pos
      holding [v, ov, iv] (setItem ov iv v)
      release [v, ov, iv] []) := by intro _; rfl) : DG X Γ (.Subscript o i pos) (gSubD q to ti) :=
  pg_of (pg_sub ho hi hr ha) fun v σ H Q ⟨d, σd, G, F, Wd, Qd, w, hp, cv, r, ht, k⟩ => ⟨σd, G, F, Wd, _, w, hp, cv, ht, fun x G1 F1 v1 H1 e1 g1 r1 q1 =>
    ⟨σd, G1, F1, Wd, _, w.ext e1 g1, Γ.mono _ _ _ _ e1.toExt0 hp, cv.ext e1, q1, fun y G2 F2 u H2 e2 g2 r2 q2 =>
      hq x y d v1 u v G2 F2 H2 _ _ g2 (e2.rep _ _ r1) r2 ((e1.trans e2).rep _ _ r) q2 fun G3 H3 e3 g3 q3 => k σd G3 F2 σ H3 ((e1.trans e2).trans e3) (w.ext ((e1.trans e2).trans e3) g3) q3⟩⟩
def dSetL : DQSet := fun o i x G Q => match o, i with
  | .ref p, .int k => ∃ ds j, G p = some (.lst ds) ∧ ixN ds.length k = some j ∧ Q (dupd G p (.lst (ds.set j x)))
  | _, _ => False
theorem dSetL_ok : LSet K dSetL rSetL := fun o i x ov iv xv G F H Qd Q g ro ri rx h k => by
  cases o with
  | ref p =>
    cases i with
    | int n =>
      obtain ⟨ds, j, e, hj, q⟩ := h
      obtain ⟨_, ho, q1, vs, rfl, rs⟩ := g.at_ p _ e
      rw [ref_rep ro, int_rep ri]
      obtain ⟨x1, g1⟩ := g.put (o' := .lst (ds.set j x)) (ho := .lst (vs.set j xv)) e ⟨_, rfl, rs.set rx j⟩
      exact ⟨p, vs, n, j, rfl, rfl, q1, by rw [← rs.length]; exact hj, k _ _ x1 g1 q⟩
    | _ => exact h.elim
  | _ => cases i <;> exact h.elim
def dAsg (te : DTE) (g : DTG) : DTS := fun W D σ G => te W σ G fun x G1 => g W x σ G1 D.nx
theorem ds_asg {tg : Expr} {g : DTG} (he : DE X Γ e te) (hg : DG X Γ tg g) (hs : swapsWithSole [tg] e pos.line X.env = pure false := by rfl) (hw : swappedStores [tg] e X.env = pure none := by rfl)
    (h1 : (assignEach [tg] X.env).map (·.2) = [assign tg X.env] := by rfl) : DS X Γ (.Assign [tg] e pos) (dAsg te g) := ps_of (ps_asg he hg hs hw h1) fun D σ H ⟨σd, G, F, Wd, Dd, w, hp, cv, ht, k⟩ =>
  ⟨σd, G, F, Wd, _, w, hp, cv, ht, fun x G1 F1 v H1 e1 g1 r1 q1 => ⟨x, σd, G1, F1, Wd, _, w.ext e1 g1, Γ.mono _ _ _ _ e1.toExt0 hp, cv.ext e1, r1, q1, fun a b c d f e2 w2 q2 => k.nx a b c d f (e1.trans e2) w2 q2⟩⟩
theorem ds_set {i : Nat} {x : Str} {pos' : Pos} (hN : X.N.Nodup) (hi : X.N[i]? = some x) (hx : Loc X.env.scope x) (he : DE X Γ e te) (hs : swapsWith e (some (.Name x pos')) pos.line X.env = pure false := by rfl) (hf : X.fn x = true ∨ X.env.scope.names.lookup x = some .local := by first | exact .inl rfl | exact .inr rfl | assumption) :
    DS X Γ (.Assign [.Name x pos'] e pos) (dAsg te (gSet i)) := ps_of (ps_set hN hi hx he hs hf) fun D σ H ⟨σd, G, F, Wd, Dd, w, hp, cv, ht, k⟩ =>
  ⟨σd, G, F, Wd, _, w, hp, cv, ht, fun x G1 F1 v H1 e1 g1 r1 q1 => k.nx _ G1 F1 _ H1 e1 ((w.ext e1 g1).set r1) q1⟩
def dPar (i j : Nat) (ta : DTA) : DTS := fun W D σ G => ta W σ G fun xs G1 => match xs with
  | [v, w] => D.nx ((σ.set i (some v)).set j (some w)) G1
  | _ => False
theorem ds_par {i j : Nat} {x y : Str} {px py pt : Pos} {kt k2 pt2} (hc : X.calm = true) (hN : X.N.Nodup) (hi : X.N[i]? = some x) (hj : X.N[j]? = some y) (hij : i ≠ j)
    (hx : X.env.scope.names.lookup x = some .local) (hy : X.env.scope.names.lookup y = some .local) (ha : DA X Γ [a, b] tA)
    (hw : swappedStores [.Tuple [.Name x px, .Name y py] kt pt] (.Tuple [a, b] k2 pt2) X.env = pure (some [x, y]))
    (hs : swapsWithSole [.Tuple [.Name x px, .Name y py] kt pt] (.Tuple [a, b] k2 pt2) pos.line X.env = pure false := by rfl) :
    DS X Γ (.Assign [.Tuple [.Name x px, .Name y py] kt pt] (.Tuple [a, b] k2 pt2) pos) (dPar i j tA) := ps_of (ps_par hc hN hi hj hij hx hy ha hw hs) fun D σ H ⟨σd, G, F, Wd, Dd, w, hp, cv, ht, k⟩ =>
  ⟨σd, G, F, Wd, _, w, hp, cv, ht, fun xs G1 F1 vs H1 e1 g1 r1 q1 => by
    match xs, r1, q1 with
    | [d1, d2], r1, q1 =>
      obtain ⟨v1, v2, rfl, r2, r3⟩ := r1.of2
      exact ⟨v1, v2, rfl, k.nx _ G1 F1 _ H1 e1 (((w.ext e1 g1).set r2).set r3) q1⟩
    | [], _, q1 => exact q1.elim
    | [_], _, q1 => exact q1.elim
    | _ :: _ :: _ :: _, _, q1 => exact q1.elim⟩
def dAug (i : Nat) (te : DTE) (q : Q2) : DTS := fun W D σ G => ∃ x, σ[i]? = some (some x) ∧ te W σ G fun y G1 => q x y G1 fun z G2 => D.nx (σ.set i (some z)) G2
theorem ds_aug {i : Nat} {x : Str} {op : Operator} {q : Q2} {r : R2} {pos' : Pos} (hN : X.N.Nodup) (hi : X.N[i]? = some x) (hx : Loc X.env.scope x) (he : DE X Γ e te) (ho : OpR X (inplaceOp op) r) (hq : L2R X.K q r) (hf : X.fn x = true ∨ X.env.scope.names.lookup x = some .local := by first | exact .inl rfl | exact .inr rfl | assumption) :
    DS X Γ (.AugAssign (.Name x pos') op e pos) (dAug i te q) := ps_of (ps_aug (ti := r) hN hi hx he (fun pins s σ H x y v u Q I r1 r2 h => ho pins s σ H x y v u Q I r1 r2 h) hf) fun D σ H ⟨σd, G, F, Wd, Dd, w, hp, cv, ⟨x, ex, ht⟩, k⟩ => by
  obtain ⟨xv, exv, rx⟩ := w.sl.2 i x ex
  exact ⟨xv, exv, σd, G, F, Wd, _, w, hp, cv, ht, fun y G1 F1 v H1 e1 g1 r1 q1 => hq x y xv v G1 F1 H1 _ _ g1 (e1.rep _ _ rx) r1 q1 fun z G2 F2 u H2 e2 g2 r2 q2 => k.nx _ G2 F2 _ H2 (e1.trans e2) ((w.ext (e1.trans e2) g2).set r2) q2⟩
end

/-! ### calls -/
abbrev DSp := List D → DH → DK → (Exc → DH → Prop) → Prop
def liftSp (K : PySem.W.Frag) (sp : DSp) : Sp := fun vs H Q E => ∃ ds G F Qd Ed, GRel K H F G ∧ Reps K H F ds vs ∧ sp ds G Qd Ed ∧ Kont K H F Qd Q ∧ ∀ x G' F' cls d H', Ext F H F' H' → GRel K H' F' G' → RepX K H' F' x cls d → Ed x G' → E cls d H'
/-- a def of the text that keeps a promise over trees -/
def Has (P : Program) (w : World) (K : PySem.W.Frag) (mg : Str → Option Value) (base : Heap) (k : Nat) (x : Str) (st : Stmt) (ps : List Str) (sp : DSp) : Prop :=
  ∃ f fd, mg x = some (.ref f) ∧ Fun K x x st f fd ∧ Binds K fd ps [] ∧ FnOk P w K mg base (L2.CX P w) k f fd ps (liftSp K sp)
def dCall (sp : DSp) (t : DTA) : DTE := fun W σ G Q => t W σ G fun xs G1 => sp xs G1 Q fun x G2 => W x σ G2
section
variable {X : Cx} {Γ : Amb} {e : Expr} {es : List Expr} {t : DTA} {pos p : Pos} {x : Str} {ps : List Str} {sp : DSp} {k : Nat} {st : Stmt}
theorem de_call (hF : Has X.prog X.w X.K X.mg X.base k x st ps sp) (hr : Room k X.A) (hg : Gl X x) (tk : Takes X Γ.W) (ha : DA X Γ (e :: es) t)
    (hdb : (x == ("__debug__" : Str)) = false := by decide) (he : starEach (e :: es) X.env = (false, eval e X.env) :: starEach es X.env := by rfl) (hpl : (backTo pos (starEach es X.env)).any (·.1) = false := by rfl) :
    DE X Γ (.Call (.Name x p) (e :: es) [] pos) (dCall sp t) := by
  obtain ⟨f, fd, hm, hfn, hb, F⟩ := hF
  refine pe_of (pe_callS F hr hg hm hfn.kp hb (fun σ => passAt tk σ) ha hdb he hpl) fun σ H Q ⟨σd, G, F, Wd, Qd, w, hp, cv, ht, kk⟩ => ?_
  exact ⟨σd, G, F, Wd, _, w, hp, cv, ht, fun xs G1 F1 vs H1 e1 g1 r1 q1 => ⟨xs, G1, F1, Qd, _, g1, r1, q1, fun d G' F' v' H' e3 g3 r3 q3 => kk d G' F' v' H' (e1.trans e3) g3 r3 q3,
    fun x G' F' cls d H' e3 g3 r3 q3 => cv x σd G' F' cls d σ H' (e1.trans e3) (w.ext (e1.trans e3) g3) r3 q3⟩⟩
end
end DL

/-! D4: what is raised and caught; a def's body; calls with keywords. -/
namespace DL
open PySem PySem.Spec L2

/-! ### raising -/
abbrev DTM := DX → DSt → DH → (Exc → DH → Prop) → Prop
def LM (K : PySem.W.Frag) (Γ : Amb) (t : DTM) : L2.St → Hp → XK → Prop := fun σ H Q => ∃ σd G F Wd Qd, WR K H F σd G σ ∧ Γ.P H F ∧ Cov K Γ.W Wd H F ∧ t Wd σd G Qd ∧
  ∀ x G' F' cls d H', Ext F H F' H' → GRel K H' F' G' → RepX K H' F' x cls d → Qd x G' → Q cls d H'
def DMk (X : Cx) (Γ : Amb) (e : Expr) (t : DTM) : Prop := PMk X e (LM X.K Γ t)
section
variable {X : Cx} {Γ : Amb} {e : Expr} {es : List Expr} {pos p : Pos} {x : Str}
theorem pmk_of {t u : L2.St → Hp → XK → Prop} (h : PMk X e u) (i : ∀ σ H Q, t σ H Q → u σ H Q) : PMk X e t := fun pins s σ H Q I q => h pins s σ H Q I (i _ _ _ q)
def dRaise (t : DTM) : DTS := fun W _ σ G => t W σ G fun x G1 => W x σ G1
theorem ds_raise {t : DTM} (hc : X.calm = true) (tk : Takes X Γ.W) (h : DMk X Γ e t) : DS X Γ (.Raise (some e) none pos) (dRaise t) := ps_of (ps_raise hc tk h) fun D σ H ⟨σd, G, F, Wd, Dd, w, hp, cv, ht, k⟩ =>
  ⟨σd, G, F, Wd, _, w, hp, cv, ht, fun x G' F' cls d H' e1 g1 r1 q1 => cv x σd G' F' cls d σ H' e1 (w.ext e1 g1) r1 q1⟩
abbrev veMro : List Value := [.type "ValueError", .type "Exception", .type "BaseException", .type "object"]
/-- a plain error class of the text -/
structure PlainX (K : PySem.W.Frag) (mg : Str → Option Value) (x : Str) (C : Addr) : Prop where
  g : mg x = some (.ref C)
  x : PySem.W.excIn K C veMro "ValueError.__new__" = true
  k : PySem.W.keepIn K (.ref C) = true
  b : PySem.W.subIn K (.ref C) (.type "BaseException") = some true
  t : PySem.W.typeIn K (.ref C) = some (.type "type")
def dMk0 (C : Addr) : DTM := fun _ _ G Q => Q ⟨C, []⟩ G
theorem dmk_own {C : Addr} {m : Str} {j : Nat} {p2 : Pos} (T : PlainX X.K X.mg x C) (hg : Gl X x) (hdb : (x == ("__debug__" : Str)) = false := by decide) : DMk X Γ (.Call (.Name x p) [.Constant (.str m) j p2] [] pos) (dMk0 C) :=
  pmk_of (pmk_own PySem.F.excBase_ValueError T.x T.g T.k (raises_own T.b T.t) hg hdb) fun σ H Q ⟨σd, G, F, Wd, Qd, w, hp, cv, ht, k⟩ => k ⟨C, []⟩ G F (.ref C) none H Ext.refl w.gr ⟨rfl, rfl⟩ ht
/-- __init__(self, v): self.f = v -/
def spIni (C : Addr) (f : Str) : Sp := fun vs H Q _ => ∃ a y, vs = [.ref a, y] ∧ H a = some (exo a C none) ∧ ∀ dx, H dx = none → dx ≠ a → Q .non (upd (upd H dx (exd dx [(f, y)])) a (exo a C (some dx)))
/-- an error class with a field of its own -/
structure FieldX (P : Program) (w : World) (K : PySem.W.Frag) (mg : Str → Option Value) (base : Heap) (x : Str) (C : Addr) (f : Str) : Prop where
  g : mg x = some (.ref C)
  o : OexC K C
  i : ∃ (fI : Addr) (fd : FuncData) (ps : List Str), PySem.W.findIn K (.ref C) "__init__" = some (some (.ref fI)) ∧ PySem.W.typeIn K (.ref fI) = some (.type "function") ∧ Binds K fd ps [] ∧ FnOk P w K mg base CX0 1 fI fd ps (spIni C f)
  n : PySem.W.findIn K (.ref C) f = some none
  xf : XfC K C
def dMk1 (C : Addr) (f : Str) (ta : DTA) : DTM := fun W σ G Q => ta W σ G fun xs G1 => match xs with
  | [y] => Q ⟨C, [(f, y)]⟩ G1
  | _ => False
theorem upd_del_eq {H1 : Hp} {a dx : Addr} {o1 o2 o3 o4 : HO} (ha : H1 a = none) (hd : dx ≠ a) : upd (L2.del (upd (upd (upd H1 a o1) dx o2) a o3) a) dx o4 = upd H1 dx o4 := by
  funext b
  unfold upd L2.del
  by_cases h1 : b = dx
  · simp [h1]
  · simp only [h1, if_false]
    by_cases h2 : b = a
    · simp [h2, ha]
    · simp [h2]
theorem dmk_fld {C : Addr} {f : Str} {ta : DTA} (T : FieldX X.prog X.w X.K X.mg X.base x C f) (hr : Room 2 X.A) (hg : Gl X x) (ha : DA X Γ (e :: es) ta)
    (hdb : (x == ("__debug__" : Str)) = false := by decide) (he : starEach (e :: es) X.env = (false, eval e X.env) :: starEach es X.env := by rfl) (hpl : (backTo pos (starEach es X.env)).any (·.1) = false := by rfl) :
    DMk X Γ (.Call (.Name x p) (e :: es) [] pos) (dMk1 C f ta) := by
  obtain ⟨fI, fd, ps, h1, h2, hb, F1⟩ := T.i
  refine pmk_of (pmk_oex T.o h1 h2 F1 hr hb .nil (fun _ _ _ _ _ _ _ z => z.elim) hg T.g ha hdb he hpl) fun σ H Q ⟨σd, G, F, Wd, Qd, w, hp, cv, ht, k⟩ => ?_
  refine ⟨σd, G, F, Wd, _, w, hp, cv, ht, fun xs G1 F1 vs H1 e1 g1 r1 q1 => ?_⟩
  match xs, r1, q1 with
  | [y], r1, q1 =>
    obtain ⟨v, rfl, rv⟩ := r1.of1
    refine ⟨(by show 1 ≤ 1000; omega), fun a ha => ⟨a, v, rfl, upd_same, fun dx hdx hne => ⟨rfl, dx, [(f, v)], upd_same, by rw [upd_ne hne]; exact upd_same, by rw [upd_ne hne] at hdx; exact hdx, ?_⟩⟩⟩
    have hdx' : H1 dx = none := by rw [upd_ne hne] at hdx; exact hdx
    rw [upd_del_eq ha hne]
    have x1 : Ext F1 H1 F1 (upd H1 dx (.xd [(f, v)])) := Ext.new hdx'
    exact k ⟨C, [(f, y)]⟩ G1 F1 (.ref C) (some dx) _ (e1.trans x1) (g1.old hdx') ⟨rfl, dx, [(f, v)], rfl, upd_same, .cons ⟨rfl, x1.rep _ _ rv⟩ .nil⟩ q1
  | [], _, q1 => exact q1.elim
  | _ :: _ :: _, _, q1 => exact q1.elim
end

/-! ### try: several clauses, with or without a name -/
abbrev SuiteT := Addr → Value → Option Addr → TS
/-- a clause's suite, entered: the name's slot bears the error, and is empty behind it -/
def atSuite (nm : Option Nat) (a : Addr) (t : TS) : TS := fun D σ H => match nm with
  | none => t D σ H
  | some i => t { nx := fun σ' H' => D.nx (σ'.set i none) H', rt := D.rt, bk := fun σ' H' => D.bk (σ'.set i none) H', ct := fun σ' H' => D.ct (σ'.set i none) H' } (σ.set i (some (.ref a))) H
def wAll (K : PySem.W.Frag) (Wo : WX) (D : Ends) : List (Value × Option Nat × SuiteT) → WX
  | [] => Wo
  | (c, nm, ts) :: r => fun cls d σ H => ∃ b, PySem.W.exmOne K cls c = some b ∧ (b = true → ∀ a, H a = none → atSuite nm a (ts a cls d) D σ H) ∧ (b = false → wAll K Wo D r cls d σ H)
inductive Clauses (X : Cx) : List ExceptHandler → List (Value × Option Nat × SuiteT) → Prop
  | nil : Clauses X [] []
  | bare {x : Str} {c : Value} {ts : SuiteT} {s0 : Stmt} {ss : List Stmt} {np hpos : Pos} {hs : List ExceptHandler} {l : List (Value × Option Nat × SuiteT)} (hc : Names X x c)
      (su : ∀ (a : Addr) (oe : Obj) (cls : Value) (d : Option Addr) (pn : List (Addr × Obj)), Zc cls d oe → (∃ vs, oe.data = .fields vs) → PSs (X.suite a ((a, oe) :: pn)) (s0 :: ss) (ts a cls d)) (r : Clauses X hs l) :
      Clauses X (.ExceptHandler (some (.Name x np)) none (s0 :: ss) hpos :: hs) ((c, none, ts) :: l)
  | named {x n : Str} {c : Value} {i : Nat} {ts : SuiteT} {s0 : Stmt} {ss : List Stmt} {np hpos : Pos} {hs : List ExceptHandler} {l : List (Value × Option Nat × SuiteT)} (hc : Names X x c) (hN : X.N.Nodup) (hi : X.N[i]? = some n) (hl : X.env.kindOf n = some .local)
      (su : ∀ (a : Addr) (oe : Obj) (cls : Value) (d : Option Addr) (pn : List (Addr × Obj)), Zc cls d oe → (∃ vs, oe.data = .fields vs) → PSs (X.suite a ((a, oe) :: pn)) (s0 :: ss) (ts a cls d)) (r : Clauses X hs l) :
      Clauses X (.ExceptHandler (some (.Name x np)) (some n) (s0 :: ss) hpos :: hs) ((c, some i, ts) :: l)
theorem ps_tries {X : Cx} {body : List Stmt} {c0 : ExceptHandler} {hs : List ExceptHandler} {l : List (Value × Option Nat × SuiteT)} {pos : Pos} {tb : WX → TS} {Wo : WX} (hst : X.stack = X.env :: X.outer) (hfm : X.env.frame = some X.env.locals) (tk : Takes X Wo)
    (hb : ∀ (W : WX) (pn : List (Addr × Obj)) (xe : Value → Shared → Prop), Takes (X.tr pn xe) W → PassesOwn (model X.prog X.w) X.A X.env xe → PSs (X.tr pn xe) body (tb W)) (hh : Clauses X (c0 :: hs) l) :
    PS X (.Try body (c0 :: hs) [] [] pos) (fun D σ H => tb (wAll X.K Wo D l) D σ H) := by
  constructor
  intro pins s σ H D I h
  have ok := I.ok
  have fr0 : X.A.frames = some (X.env :: X.outer) := by rw [ok.frames, hst]
  apply wpAny_Try_except
  have body_run := (hb (wAll X.K Wo D l) (X.pn ++ pins) (fun e s₁ => wpAny (model X.prog X.w) X.A (noteFrame e X.env) (fun _ s₂ => wpAny (model X.prog X.w) X.A (setFlight e none) (fun _ s₃ =>
    wpAny (model X.prog X.w) X.A (handleBy e X.env (c0 :: hs)) (SP X pins D) X.xe s₃) X.xe s₂) X.xe s₁) (by
      intro u s' air
      obtain ⟨a, B, sI, pins', σ', H', cls, d, rfl, J', nb, up, sky, na, hos, hag, w⟩ := air
      have J : Inv X pins σ' H' sI := J'.ofTry ok
      have sky2 : Sky B (X.env :: X.outer) a (Zc cls d) X.env.locals s'.heap := by rw [← hst]; exact sky
      show wpAny (model X.prog X.w) X.A (noteFrame (.ref a) X.env) _ _ _
      apply Sky.land Zc.steady fr0 hfm sky2
      intro k3 fl up3
      have J3 : Inv X pins σ' H' { s' with heap := k3 } := J.landed nb fl.1 (up.trans up3) hos hag
      obtain ⟨ob, vs3, he3, hz3, hd3⟩ := fl.there
      have out : a ∉ frs (X.env :: X.outer) := fun hm => by
        obtain ⟨_, o', e', hnf⟩ := fl.2.2.1.mem hm
        rw [he3] at e'; cases e'
        exact hnf _ hd3
      have aL : a ≠ X.env.locals := fun z => out (List.mem_filterMap.mpr ⟨X.env, List.mem_cons_self, by rw [hfm, z]⟩)
      have aF : a ∉ X.fs := fun hm => by
        obtain ⟨v, hv, q⟩ := List.mem_filterMap.mp hm
        exact out (List.mem_filterMap.mpr ⟨v, List.mem_cons_of_mem _ hv, q⟩)
      have S3 := J3.suite he3 hd3 na aL aF
      have go : ∀ {hds : List ExceptHandler} {l' : List (Value × Option Nat × SuiteT)}, Clauses X hds l' → wAll X.K Wo D l' cls d σ' H' →
          wpAny (model X.prog X.w) X.A (handleBy (.ref a) X.env hds) (SP X pins D) X.xe { s' with heap := k3 } := by
        intro hds l' hk
        have tellsT : PySem.W.Looks (model X.prog X.w) k3 (typeOf (.ref a)) cls := fun A Q E s k q => wpAny_typeOf_ref (k _ _ he3) (by rw [hz3.1]; exact q)
        have naming : ∀ {x : Str} {c : Value} {np : Pos} {Q : Value → Shared → Prop} {E : Value → Shared → Prop}, Names X x c → Q c { s' with heap := k3 } → wpAny (model X.prog X.w) (X.A.mark (some (.ref a))) (eval (.Name x np) X.env) Q E { s' with heap := k3 } := by
          intro x c np Q E hc q
          obtain ⟨hg, hdbg, hm | ⟨hm, hv, hnn⟩⟩ := hc
          · exact ld_glob (X := X.suite a ((a, ob) :: (X.pn ++ pins))) S3 hg hm q hdbg
          · exact ld_blt (X := X.suite a ((a, ob) :: (X.pn ++ pins))) S3 hg hm hv q hnn hdbg
        induction hk with
        | nil =>
          intro w
          apply wpAny_handleBy_nil
          obtain ⟨k1, k2, k3', oe, vs, T, oT, ts', he, hz, hd, h1, hr⟩ := id fl
          unfold PySem.passOn
          apply wpAny_bind
          apply wpAny_field he hd h1
          rw [if_neg (show ¬ ((Value.ref T == Value.none) = true) from by simp)]
          have fin : wpAny (model X.prog X.w) X.A (setFlight (.ref a) X.env.frame) (fun _ s4 => wpAny (model X.prog X.w) X.A (throw (.ref a) : Sem Flow) (SP X pins D) X.xe s4) X.xe { s' with heap := k3 } := by
            rw [hfm]
            refine HandSPX.setFlight_upZ fl fun h4 hh4 up4 => wpAny_throw (tk _ _ ?_)
            exact ⟨a, B, sI, pins, σ', H', cls, d, rfl, J, nb, (up.trans up3).trans up4, .inr (.inr (by rw [hst]; exact hh4)), na, hos, hag, w⟩
          first
            | exact wpAny_bind (wpAny_pure (wpAny_bind fin))
            | exact wpAny_bind fin
        | @bare x c ts s0 ss np hpos hs2 l2 hc su r ih =>
          intro w
          obtain ⟨b, hb1, hyes, hno⟩ := w
          refine wpAny_handleBy_cons (codeAny_handlers_test ?_) (by intro q; cases q)
          refine naming hc ((PySem.W.exm_one (M := model X.prog X.w) J3.kIn tellsT hb1).here ?_)
          cases b with
          | false =>
            show wpAny _ X.A (handleBy (.ref a) X.env hs2) _ _ _
            exact ih (hno rfl)
          | true =>
            refine codeAny_handlers_suite (HandSPX.lands_againZ fl fun h4 fl4 up4 => ?_)
            have J4 : Inv X pins σ' H' { s' with heap := h4 } := J.landed nb fl4.1 ((up.trans up3).trans up4) hos hag
            obtain ⟨oe4, vs4, he4, hz4, hd4⟩ := fl4.there
            have S4 := J4.suite he4 hd4 na aL aF
            refine wpAny_mono ((su a oe4 cls d (X.pn ++ pins) hz4 ⟨_, hd4⟩).run [] _ _ H' _ S4 (hyes rfl a na)) (fun f s6 hsp => ?_) (fun _ _ z => False.elim z)
            cases f with
            | ret u => obtain ⟨v6, σ6, H6, S6, r6, q6⟩ := hsp; exact ⟨_, _, _, S6.unsuite ok, r6, q6⟩
            | _ => obtain ⟨σ6, H6, S6, q6⟩ := hsp; exact ⟨_, _, S6.unsuite ok, q6⟩
        | @named x n c i ts s0 ss np hpos hs2 l2 hc hN hi hl su r ih =>
          intro w
          obtain ⟨b, hb1, hyes, hno⟩ := w
          refine wpAny_handleBy_cons (codeAny_handlers_test ?_) (by intro q; cases q)
          refine naming hc ((PySem.W.exm_one (M := model X.prog X.w) J3.kIn tellsT hb1).here ?_)
          cases b with
          | false =>
            show wpAny _ X.A (handleBy (.ref a) X.env hs2) _ _ _
            exact ih (hno rfl)
          | true =>
            refine codeAny_handlers_suite_as (HandSPX.lands_againZ fl fun h4 fl4 up4 => ?_)
            have J4 : Inv X pins σ' H' { s' with heap := h4 } := J.landed nb fl4.1 ((up.trans up3).trans up4) hos hag
            obtain ⟨oe4, vs4, he4, hz4, hd4⟩ := fl4.there
            have S4 := J4.suite he4 hd4 na aL aF
            refine store_ok (X := X.suite a ((a, oe4) :: (X.pn ++ pins))) (v := .ref a) S4 hN hi (.inl hl) rfl (fun s5 S5 => ?_) (.inr hl)
            refine wpAny_mono ((su a oe4 cls d (X.pn ++ pins) hz4 ⟨_, hd4⟩).run [] s5 _ H' _ S5 (hyes rfl a na)) (fun f s6 hsp => ?_) (fun _ _ z => False.elim z)
            have leave : ∀ {σ6 : L2.St} {H6 : Hp} {Q : Shared → Prop}, Inv (X.suite a ((a, oe4) :: (X.pn ++ pins))) [] σ6 H6 s6 → (∀ s7, Inv X pins (σ6.set i none) H6 s7 → Q s7) →
                wpAny (model X.prog X.w) X.A (do bindName X.env n .none; unbindBehindTheSuite X.env n hpos) (fun _ s7 => Q s7) X.xe s6 := fun S6 hq => gone_ok (S6.unsuite ok) hN hi hl hq
            cases f with
            | ret u => obtain ⟨v6, σ6, H6, S6, r6, q6⟩ := hsp; exact leave S6 fun s7 J7 => ⟨_, _, _, J7, r6, q6⟩
            | _ => obtain ⟨σ6, H6, S6, q6⟩ := hsp; exact leave S6 fun s7 J7 => ⟨_, _, J7, q6⟩
      exact go hh w) PassesOwn.looking).run [] s σ H D (I.toTry _) h
  refine wpAny_mono body_run (fun f s1 hsp => ?_) (fun e s1 he => he)
  cases f with
  | next => obtain ⟨σ', H', J', q⟩ := hsp; exact wpAny_execs_nil ⟨σ', H', J'.ofTry ok, q⟩
  | ret u => obtain ⟨v, σ', H', J', r, q⟩ := hsp; exact ⟨v, σ', H', J'.ofTry ok, r, q⟩
  | _ => obtain ⟨σ', H', J', q⟩ := hsp; exact ⟨σ', H', J'.ofTry ok, q⟩
/-! ### .. over trees -/
abbrev DSuite := Exc → Addr → DTS
def dAtS (nm : Option Nat) (a : Addr) (t : DTS) : DEnds → DSt → DH → Prop := fun D σ G => match nm with
  | none => t (fun _ _ _ => False) D σ G
  | some i => t (fun _ _ _ => False) { nx := fun σ' G' => D.nx (σ'.set i none) G', rt := D.rt, bk := fun σ' G' => D.bk (σ'.set i none) G', ct := fun σ' G' => D.ct (σ'.set i none) G' } (σ.set i (some (.ref a))) G
def dHandle (K : PySem.W.Frag) : List (Addr × Option Nat × DSuite) → Exc → DX → DEnds → DSt → DH → Prop
  | [], x, W, _, σ, G => W x σ G
  | (C, nm, ts) :: r, x, W, D, σ, G => ∃ b, PySem.W.exmOne K (.ref x.cls) (.ref C) = some b ∧ (b = true → ∀ a, G a = none → dAtS nm a (ts x a) D σ G) ∧ (b = false → dHandle K r x W D σ G)
def dTry (K : PySem.W.Frag) (tb : DTS) (hs : List (Addr × Option Nat × DSuite)) : DTS := fun W D σ G => tb (fun x σ' G' => dHandle K hs x W D σ' G') D σ G
/-- a suite's ambience: the error is known -/
def Amb.exc (Γ : Amb) (K : PySem.W.Frag) (x : Exc) (cls : Value) (d : Option Addr) : Amb := ⟨fun _ _ _ _ => False, fun H F => Γ.P H F ∧ RepX K H F x cls d, fun F H F' H' e h => ⟨Γ.mono F H F' H' e h.1, h.2.ext e⟩⟩
def Amb.with (Γ : Amb) (W : WX) : Amb := ⟨W, Γ.P, Γ.mono⟩
def sLift (K : PySem.W.Frag) (Γ : Amb) (ts : DSuite) : SuiteT := fun a cls d D σ H => ∃ x, LS K (Γ.exc K x cls d) (ts x a) D σ H
def hsOf (K : PySem.W.Frag) (Γ : Amb) (hs : List (Addr × Option Nat × DSuite)) : List (Value × Option Nat × SuiteT) := hs.map fun h => (.ref h.1, h.2.1, sLift K Γ h.2.2)
theorem wAll_of {K : PySem.W.Frag} {Γ : Amb} {Wd : DX} {Dd : DEnds} {D : Ends} {x : Exc} {cls : Value} {d : Option Addr} {σd : DSt} {G : DH} {F : Fz} {σ : L2.St} {H : Hp} (cv : Cov K Γ.W Wd H F) (hp : Γ.P H F) (k : EndsOk K H F Dd D) (w : WR K H F σd G σ) (r : RepX K H F x cls d) :
    ∀ hs : List (Addr × Option Nat × DSuite), dHandle K hs x Wd Dd σd G → wAll K Γ.W D (hsOf K Γ hs) cls d σ H
  | [], h => cv x σd G F cls d σ H Ext.refl w r h
  | (C, nm, ts) :: rest, h => by
    obtain ⟨b, h1, h2, h3⟩ := h
    refine ⟨b, by rw [r.1]; exact h1, fun hb a na => ?_, fun hb => wAll_of cv hp k w r rest (h3 hb)⟩
    have q := h2 hb a (w.gr.free na)
    cases nm with
    | none => exact ⟨x, σd, G, F, fun _ _ _ => False, Dd, w, ⟨hp, r⟩, fun _ _ _ _ _ _ _ _ _ _ _ z => z.elim, q, k⟩
    | some i =>
      refine ⟨x, σd.set i (some (.ref a)), G, F, fun _ _ _ => False, _, w.set rep_ref, ⟨hp, r⟩, fun _ _ _ _ _ _ _ _ _ _ _ z => z.elim, q, ?_⟩
      exact ⟨fun a b c d f e w q => k.nx _ b c _ f e ⟨w.sl.clear, w.gr⟩ q, k.rt, fun a b c d f e w q => k.bk _ b c _ f e ⟨w.sl.clear, w.gr⟩ q, fun a b c d f e w q => k.ct _ b c _ f e ⟨w.sl.clear, w.gr⟩ q⟩
theorem ds_try {X : Cx} {Γ : Amb} {body : List Stmt} {c0 : ExceptHandler} {hs : List ExceptHandler} {l : List (Addr × Option Nat × DSuite)} {pos : Pos} {tb : DTS} (hst : X.stack = X.env :: X.outer) (hfm : X.env.frame = some X.env.locals) (tk : Takes X Γ.W)
    (hb : ∀ (W : WX) (pn : List (Addr × Obj)) (xe : Value → Shared → Prop), Takes (X.tr pn xe) W → PassesOwn (model X.prog X.w) X.A X.env xe → DSs (X.tr pn xe) (Γ.with W) body tb) (hh : Clauses X (c0 :: hs) (hsOf X.K Γ l)) :
    DS X Γ (.Try body (c0 :: hs) [] [] pos) (dTry X.K tb l) :=
  ps_of (ps_tries (tb := fun W => LS X.K (Γ.with W) tb) hst hfm tk hb hh) fun D σ H ⟨σd, G, F, Wd, Dd, w, hp, cv, ht, k⟩ =>
    ⟨σd, G, F, _, Dd, w, hp, fun x σd' G' F' cls d σ' H' e w' r q => wAll_of (cv.ext e) (Γ.mono _ _ _ _ e.toExt0 hp) (k.ext e) w' r l q, ht, k⟩
theorem su_of {X : Cx} {Γ : Amb} {K : PySem.W.Frag} {ss : List Stmt} {ts : DSuite} {a : Addr} {oe : Obj} {cls : Value} {d : Option Addr} {pn : List (Addr × Obj)} (h : ∀ x, DSs (X.suite a ((a, oe) :: pn)) (Γ.exc X.K x cls d) ss (ts x a)) : PSs (X.suite a ((a, oe) :: pn)) ss (sLift X.K Γ ts a cls d) :=
  ⟨fun pins s σ H D I ⟨x, q⟩ => (h x).run pins s σ H D I q⟩
/-- error.f in a suite -/
def dXf (C a : Addr) (x : Exc) (f : Str) (te : DTE) : DTE := fun W σ G Q => te W σ G fun y G1 => match y with
  | .ref b => b = a ∧ x.cls = C ∧ (match x.flds with | [(g, v)] => g = f ∧ Q v G1 | _ => False)
  | _ => False
theorem de_xf {X : Cx} {Γ : Amb} {a C : Addr} {oe : Obj} {x : Exc} {cls : Value} {d : Option Addr} {pn : List (Addr × Obj)} {e : Expr} {te : DTE} {pos : Pos} {n : Str} (T : XfC X.K C) (hno : PySem.W.findIn X.K (.ref C) n = some none) (hz : Zc cls d oe) (hf : ∃ vs, oe.data = .fields vs)
    (he : DE (X.suite a ((a, oe) :: pn)) (Γ.exc X.K x cls d) e te) (hb : attributeBase e n X.env (eval e X.env) = eval e X.env := by rfl) : DE (X.suite a ((a, oe) :: pn)) (Γ.exc X.K x cls d) (.Attribute e n pos) (dXf C a x n te) :=
  pe_of (pe_xf T hno hz hf he hb) fun σ H Q ⟨σd, G, F, Wd, Qd, w, hp, cv, ht, k⟩ => ⟨σd, G, F, Wd, _, w, hp, cv, ht, fun y G1 F1 v H1 e1 g1 r1 q1 => by
    cases y with
    | ref b =>
      obtain ⟨rfl, hc, q⟩ := q1
      obtain ⟨cl, fl⟩ := x
      obtain ⟨r0, r2⟩ := hp.2.ext e1.toExt0
      match fl, r2, q with
      | [(g, dv)], r2, q =>
        obtain ⟨dd, vs, ed, eh, pr⟩ := r2
        cases pr with
        | cons h1 h2 =>
          cases h2
          rename_i qv
          obtain ⟨g2, vv⟩ := qv
          obtain ⟨h3, h4⟩ := h1
          simp only at h3 h4
          refine ⟨ref_rep r1, by rw [r0]; exact congrArg _ hc, dd, [(g2, vv)], vv, ed, eh, by rw [← h3, q.1]; simp [List.lookup], k dv G1 F1 vv H1 e1 g1 h4 q.2⟩
      | [], _, q => exact q.elim
      | _ :: _ :: _, _, q => exact q.elim
    | _ => exact q1.elim⟩
/-- isinstance(error, T) in a suite, the error a plain one -/
def qIsE (K : PySem.W.Frag) (C a : Addr) (x : Exc) : QN := fun ds G Q => match ds with
  | [.ref b, .ref T] => b = a ∧ x = ⟨C, []⟩ ∧ ∃ r, PySem.W.kitOne K (.ref C) (.ref T) = some r ∧ Q (.bl r) G
  | _ => False

/-! ### a def's body -/
/-- what is handed back: the ledger may be made smaller, a list handed back may be frozen -/
def RetW (Q : DK) : DK := fun d G => ∃ G', Sub G' G ∧ (Q d G' ∨ ∃ p ds, d = .ref p ∧ G p = some (.lst ds) ∧ G' p = none ∧ Q (.lst ds) G')
theorem RetW.same {Q : DK} {d : D} {G : DH} (h : Q d G) : RetW Q d G := ⟨G, Sub.refl, .inl h⟩
theorem RetW.sub {Q : DK} {d : D} {G G' : DH} (s : Sub G' G) (h : Q d G') : RetW Q d G := ⟨G', s, .inl h⟩
theorem RetW.frz {Q : DK} {p : Addr} {ds : List D} {G : DH} (np : G p = none) (h : Q (.lst ds) G) : RetW Q (.ref p) (dupd G p (.lst ds)) := ⟨G, Sub.upd np, .inr ⟨p, ds, rfl, dupd_same, np, h⟩⟩
def dstart (N : List Str) (ds : List D) : DSt := ds.map some ++ List.replicate (N.length - ds.length) none
theorem start_slots {K : PySem.W.Frag} {H : Hp} {F : Fz} {N : List Str} {ds : List D} {vs : List V} (r : Reps K H F ds vs) : Slots K H F (dstart N ds) (start N vs) := by
  have hl := r.length
  refine ⟨by simp [dstart, L2.start, hl], fun i d e => ?_⟩
  unfold dstart at e
  unfold L2.start
  by_cases hi : i < ds.length
  · rw [List.getElem?_append_left (by simpa using hi), List.getElem?_map] at e
    rw [List.getElem?_append_left (by simpa [← hl] using hi), List.getElem?_map]
    cases q : ds[i]? with
    | none => rw [q] at e; simp at e
    | some d' =>
      rw [q] at e
      simp at e
      subst e
      obtain ⟨v, q2, rv⟩ := r.get q
      exact ⟨v, by rw [q2]; rfl, rv⟩
  · rw [List.getElem?_append_right (by simpa using hi), List.getElem?_replicate] at e
    split at e <;> simp at e
def ambF (E : XK) : Amb := ⟨fun cls d _ H => E cls d H, fun _ _ => True, fun _ _ _ _ _ _ => trivial⟩
theorem has_mk {P : Program} {w : World} {K : PySem.W.Frag} {mg : Str → Option Value} {base : Heap} {x : Str} {st : Stmt} {N ps : List Str} {k : Nat} {sp : DSp} (h0 : ∃ f fd, mg x = some (.ref f) ∧ Fun K x x st f fd ∧ Binds K fd ps []) (S : FnScope N ps (defScope st))
    (len : ∀ ds G Q E, sp ds G Q E → ds.length = ps.length) (t : DTS)
    (hbody : ∀ (f : Addr) (cdv : Value) (A : Around) (outer : List Env) (s : Shared) (H : Hp) (E : XK), Room k (A.deeper (PyProof.Rows.envOfC x (defScope st) s.heap.objs.size f cdv)) → Takes (cxOf (L2.CX P w) P w K mg base N x (defScope st) f cdv A outer s H E) (ambF E).W →
      DSs (cxOf (L2.CX P w) P w K mg base N x (defScope st) f cdv A outer s H E) (ambF E) (defBody st) t)
    (hread : ∀ ds G Q E, sp ds G Q E → t (fun x _ G' => ∃ G2, Sub G2 G' ∧ E x G2) { nx := fun _ G' => RetW Q .non G', rt := RetW Q } (dstart N ds) G) :
    Has P w K mg base (k + 1) x st ps sp := by
  obtain ⟨f, fd, hm, hF, hb⟩ := h0
  refine ⟨f, fd, hm, hF, hb, hF.okX S (fun vs H Q E ⟨ds, G, F, Qd, Ed, g, r, hs, _⟩ => by rw [← r.length]; exact len _ _ _ _ hs) fun cdv A outer s H vs Q E hr ⟨ds, G, F, Qd, Ed, g, r, hs, kq, ke⟩ => ?_⟩
  have tk : Takes (cxOf (L2.CX P w) P w K mg base N x (defScope st) f cdv A outer s H E) (ambF E).W := takes_of rfl rfl rfl rfl
  refine ⟨_, hbody f cdv A outer s H E hr tk, dstart N ds, G, F, _, _, ⟨start_slots r, g⟩, trivial, ?_, hread ds G Qd Ed hs, ?_⟩
  · intro x σd G' F' cls d σ H' e w rx ⟨G2, s2, q⟩
    exact ke x G2 F' cls d H' e (w.gr.sub s2) rx q
  · have fin : ∀ d G' F' v H', Ext F H F' H' → GRel K H' F' G' → Rep K H' F' d v → RetW Qd d G' → Q v H' := by
      intro d G' F' v H' e gr rv ⟨G2, s2, q⟩
      rcases q with q | ⟨p, es, rfl, e2, np, q⟩
      · exact kq d G2 F' v H' e (gr.sub s2) rv q
      · obtain ⟨x, g3, r3⟩ := gr.freeze e2
        rw [ref_rep rv]
        refine kq (.lst es) G2 _ _ H' (e.trans x) (g3.sub fun a o q2 => ?_) r3 q
        unfold ddel
        by_cases ha : a = p
        · rw [ha, np] at q2; cases q2
        · rw [if_neg ha]; exact s2 a o q2
    exact ⟨fun _ G' F' _ H' e w q => fin .non G' F' .non H' e w.gr rep_non q, fin, fun _ _ _ _ _ _ _ z => z.elim, fun _ _ _ _ _ _ _ z => z.elim⟩
end DL

/-! D5: loops and comprehensions over trees. -/
namespace DL
open PySem PySem.Spec L2

/-! ### what is walked -/
abbrev DTI := DT (List D)
def Yields (K : PySem.W.Frag) (J : It) (F : Fz) (H : Hp) (xs : List D) : Prop := ∀ F2 H2, Ext F H F2 H2 → (∀ (i : Nat) (d : D), xs[i]? = some d → J.go i H2 ∧ ∀ v H3, J.yld i H2 v H3 → Ext F2 H2 F2 H3 ∧ (∀ G, GRel K H2 F2 G → GRel K H3 F2 G) ∧ Rep K H3 F2 d v) ∧ J.stop xs.length H2
def LI (K : PySem.W.Frag) (Γ : Amb) (t : DTI) : TI := fun σ H R => ∃ σd G F Wd Qd, WR K H F σd G σ ∧ Γ.P H F ∧ Cov K Γ.W Wd H F ∧ t Wd σd G Qd ∧ ∀ xs G' F' J H', Ext F H F' H' → GRel K H' F' G' → Yields K J F' H' xs → Qd xs G' → R J H'
def DI (X : Cx) (Γ : Amb) (tg iter : Expr) (t : DTI) : Prop := PI X tg iter (LI X.K Γ t)
theorem pi_of {X : Cx} {tg iter : Expr} {t u : TI} (h : PI X tg iter u) (i : ∀ σ H R, t σ H R → u σ H R) : PI X tg iter t := ⟨fun pins s σ H R I q => h.run pins s σ H R I (i _ _ _ q)⟩
section
variable {K : PySem.W.Frag} {F : Fz} {H : Hp}
theorem yields_list {a : Addr} {vs : List V} {ds : List D} (h : ScrL K H F a vs) (r : Reps K H F ds vs) : Yields K (Itl K a) F H ds := fun F2 H2 e => by
  have h2 : SqL K H2 a vs := by
    rcases e.scrl h with q | ⟨o, q⟩ | q
    · exact SqL.of q.2
    · exact .inl (.inr ⟨o, q⟩)
    · exact .inr q
  have r2 := e.reps _ _ r
  refine ⟨fun i d hd => ?_, ⟨vs, h2, by rw [r.length]; exact Nat.le_refl _⟩⟩
  obtain ⟨v, hv, rv⟩ := r2.get hd
  refine ⟨⟨vs, v, h2, hv⟩, fun v' H3 y => ?_⟩
  obtain ⟨rfl, y⟩ := y
  have e2 : v = v' := Option.some.inj (hv.symm.trans (y vs h2))
  subst e2
  exact ⟨Ext.refl, fun _ g => g, rv⟩
theorem yields_tup {a : Addr} {vs : List V} {ds : List D} (h : SqT K H a vs) (r : Reps K H F ds vs) : Yields K (Itt K a) F H ds := fun F2 H2 e => by
  have h2 : SqT K H2 a vs := e.sqt h
  have r2 := e.reps _ _ r
  refine ⟨fun i d hd => ?_, ⟨vs, h2, by rw [r.length]; exact Nat.le_refl _⟩⟩
  obtain ⟨v, hv, rv⟩ := r2.get hd
  refine ⟨⟨vs, v, h2, hv⟩, fun v' H3 y => ?_⟩
  obtain ⟨rfl, y⟩ := y
  have e2 : v = v' := Option.some.inj (hv.symm.trans (y vs h2))
  subst e2
  exact ⟨Ext.refl, fun _ g => g, rv⟩
/-- the signs of a text, as texts -/
def signs (z : Str) : List D := z.cps.toList.map fun c => D.str ⟨#[c]⟩
theorem yields_str {z : Str} : Yields K (Its z) F H (signs z) := fun F2 H2 e => by
  refine ⟨fun i d hd => ?_, by show z.cps.size ≤ _; simp [signs]⟩
  unfold signs at hd
  rw [List.getElem?_map] at hd
  cases q : z.cps.toList[i]? with
  | none => rw [q] at hd; cases hd
  | some c =>
    rw [q] at hd
    cases hd
    have q2 : z.cps[i]? = some c := by rw [← Array.getElem?_toList]; exact q
    refine ⟨(Array.getElem?_eq_some_iff.mp q2).1, fun v H3 y => ?_⟩
    obtain ⟨rfl, c', hc, rfl⟩ := y
    rw [q2] at hc; cases hc
    exact ⟨Ext.refl, fun _ g => g, rep_str⟩
def rngD (lo : Int) (c : Int) (n : Nat) : List D := (List.range n).map fun i : Nat => D.int (lo + i * c)
theorem yields_rng {lo : Int} {n : Nat} : Yields K (Itr lo n) F H (rngD lo 1 n) := fun F2 H2 e => by
  refine ⟨fun i d hd => ?_, by show n ≤ _; simp [rngD]⟩
  unfold rngD at hd
  rw [List.getElem?_map] at hd
  by_cases hi : i < n
  · rw [List.getElem?_range hi] at hd
    cases hd
    refine ⟨hi, fun v H3 y => ?_⟩
    obtain ⟨rfl, rfl⟩ := y
    exact ⟨Ext.refl, fun _ g => g, by show Rep K H3 F2 (.int (lo + (i : Int) * 1)) _; rw [Int.mul_one]; exact rep_int⟩
  · rw [List.getElem?_eq_none (by simpa using hi)] at hd
    cases hd
theorem yields_rngC {lo c : Int} {n : Nat} : Yields K (Itc lo c n) F H (rngD lo c n) := fun F2 H2 e => by
  refine ⟨fun i d hd => ?_, by show n ≤ _; simp [rngD]⟩
  unfold rngD at hd
  rw [List.getElem?_map] at hd
  by_cases hi : i < n
  · rw [List.getElem?_range hi] at hd
    cases hd
    refine ⟨hi, fun v H3 y => ?_⟩
    obtain ⟨rfl, rfl⟩ := y
    exact ⟨Ext.refl, fun _ g => g, rep_int⟩
  · rw [List.getElem?_eq_none (by simpa using hi)] at hd
    cases hd
end
section
variable {X : Cx} {Γ : Amb} {tg e a b c : Expr} {te : DTE} {t : DTA} {p pos : Pos}
/-- a list, a tuple or a text that stands still -/
def itD : D → Option (List D)
  | .tup xs => some xs
  | .lst xs => some xs
  | .scr ns => some (ns.map D.int)
  | .str z => some (signs z)
  | _ => none
def dIt (te : DTE) : DTI := fun W σ G Q => te W σ G fun x G1 => match itD x with
  | some xs => Q xs G1
  | none => False
def iAny (K : PySem.W.Frag) (tl : TE) : TI := fun σ H R => tl σ H fun x H1 => (∃ a, x = .ref a ∧ (∃ xs, SqL K H1 a xs) ∧ R (Itl K a) H1) ∨ (∃ a, x = .ref a ∧ (∃ xs, SqT K H1 a xs) ∧ R (Itt K a) H1) ∨ ∃ z, x = .str z ∧ R (Its z) H1
theorem pi_any {l : Expr} {tl : TE} (hl : PE X l tl) : PI X tg l (iAny X.K tl) := by
  constructor
  intro pins s σ H R I h
  refine thn (hl.run pins s σ H _ I h) fun v s1 ⟨x, H1, I1, r1, q1⟩ => ?_
  rcases q1 with q1 | q1 | q1
  · obtain ⟨a, ex, ⟨xs, hq⟩, q⟩ := q1
    subst ex
    cases r1
    obtain ⟨its, rv, pl, hz⟩ := I1.list hq
    refine wpAny_pyIter_list pl.isList ?_
    refine ⟨s1.heap.objs.size, [s1.heap.objs.size], _, _, H1, rfl, I1.kept (t' := s1.toks) fun b o e => Heap.get?_push_of_some _ e, turn_list a _, ⟨_, Heap.get?_push_size _ rfl, rfl, rfl⟩, fun b hb => ?_, q⟩
    obtain rfl : b = s1.heap.objs.size := by simpa using hb
    exact I1.fpOk (Nat.le_refl _) (I1.hok.fresh (Nat.le_refl _))
  · obtain ⟨a, ex, ⟨xs, hq⟩, q⟩ := q1
    subst ex
    cases r1
    obtain ⟨its, rv, pl, hz⟩ := I1.tuple hq
    refine wpAny_pyIter_tuple (show s1.heap.IsTuple a its.toArray from pl) ?_
    refine ⟨s1.heap.objs.size, [s1.heap.objs.size], _, _, H1, rfl, I1.kept (t' := s1.toks) fun b o e => Heap.get?_push_of_some _ e, turn_tuple a _, ⟨_, Heap.get?_push_size _ rfl, rfl, rfl⟩, fun b hb => ?_, q⟩
    obtain rfl : b = s1.heap.objs.size := by simpa using hb
    exact I1.fpOk (Nat.le_refl _) (I1.hok.fresh (Nat.le_refl _))
  · obtain ⟨z, ex, q⟩ := q1
    subst ex
    obtain ⟨tk, rfl⟩ := r1
    cases ha : z.cps.all (· < 128)
    · exact wpAny_pyIter_wide ha (pi_one (tk := s1.toks) I1 _ (turn_str _ z tk "str_iterator" (.inr rfl)) ⟨_, Heap.get?_push_size _ rfl, rfl, rfl⟩ q)
    · exact wpAny_pyIter_ascii ha (pi_one (tk := s1.toks) I1 _ (turn_str _ z tk "str_ascii_iterator" (.inl rfl)) ⟨_, Heap.get?_push_size _ rfl, rfl, rfl⟩ q)
theorem scr_sql {K : PySem.W.Frag} {H : Hp} {F : Fz} {a : Addr} {vs : List V} (h : ScrL K H F a vs) : SqL K H a vs := by
  rcases h with q | ⟨o, q⟩ | q
  · exact SqL.of q.2
  · exact .inl (.inr ⟨o, q⟩)
  · exact .inr q
theorem di_any (h : DE X Γ e te) : DI X Γ tg e (dIt te) := pi_of (pi_any h) fun σ H R ⟨σd, G, F, Wd, Qd, w, hp, cv, ht, k⟩ => ⟨σd, G, F, Wd, _, w, hp, cv, ht, fun x G1 F1 v H1 e1 g1 r1 q1 => by
  cases x with
  | tup xs =>
    obtain ⟨a, vs, rfl, h1, r⟩ := tup_rep r1
    exact .inr (.inl ⟨a, rfl, ⟨vs, h1⟩, k xs G1 F1 _ H1 e1 g1 (yields_tup h1 r) q1⟩)
  | lst xs =>
    unfold Rep at r1
    obtain ⟨a, vs, rfl, h1, r⟩ := r1
    exact .inl ⟨a, rfl, ⟨vs, SqL.of h1.2⟩, k xs G1 F1 _ H1 e1 g1 (yields_list (.inl h1) r) q1⟩
  | scr ns =>
    unfold Rep at r1
    obtain ⟨a, rfl, h1⟩ := r1
    exact .inl ⟨a, rfl, ⟨_, scr_sql h1⟩, k _ G1 F1 _ H1 e1 g1 (yields_list h1 Reps.ofInts) q1⟩
  | str z => rw [str_rep r1]; exact .inr (.inr ⟨z, rfl, k (signs z) G1 F1 _ H1 e1 g1 yields_str q1⟩)
  | _ => exact q1.elim⟩
def smallI (j : Int) : Prop := -(2 ^ 62) ≤ j ∧ j < 2 ^ 62
def dRng1 (t : DTA) : DTI := fun W σ G Q => t W σ G fun xs G1 => match xs with
  | [.int j] => smallI j ∧ Q (rngD 0 1 j.toNat) G1
  | _ => False
def dRng2 (t : DTA) : DTI := fun W σ G Q => t W σ G fun xs G1 => match xs with
  | [.int i, .int j] => (smallI i ∧ smallI j) ∧ Q (rngD i 1 (j - i).toNat) G1
  | _ => False
def dRng3 (t : DTA) : DTI := fun W σ G Q => t W σ G fun xs G1 => match xs with
  | [.int i, .int j, .int c] => ∃ n, RgC i j c n ∧ Q (rngD i c n) G1
  | _ => False
theorem di_range1 (hg : Gl X "range") (hm : X.mg "range" = none) (ha : DA X Γ [a] t) (hs : starEach [a] X.env = [(false, eval a X.env)] := by rfl) : DI X Γ tg (.Call (.Name "range" p) [a] [] pos) (dRng1 t) :=
  pi_of (pi_range1 hg hm ha hs) fun σ H R ⟨σd, G, F, Wd, Qd, w, hp, cv, ht, k⟩ => ⟨σd, G, F, Wd, _, w, hp, cv, ht, fun xs G1 F1 vs H1 e1 g1 r1 q1 => by
    split at q1
    · rename_i j
      obtain ⟨v, rfl, rv⟩ := r1.of1
      rw [int_rep rv]
      exact ⟨j, rfl, q1.1.1, q1.1.2, k _ G1 F1 _ H1 e1 g1 yields_rng q1.2⟩
    · exact q1.elim⟩
theorem di_range2 (hg : Gl X "range") (hm : X.mg "range" = none) (ha : DA X Γ [a, b] t) (hs : starEach [a, b] X.env = [(false, eval a X.env), (false, eval b X.env)] := by rfl) (hs2 : starEach [b] X.env = [(false, eval b X.env)] := by rfl) : DI X Γ tg (.Call (.Name "range" p) [a, b] [] pos) (dRng2 t) :=
  pi_of (pi_range2 hg hm ha hs hs2) fun σ H R ⟨σd, G, F, Wd, Qd, w, hp, cv, ht, k⟩ => ⟨σd, G, F, Wd, _, w, hp, cv, ht, fun xs G1 F1 vs H1 e1 g1 r1 q1 => by
    split at q1
    · rename_i i j
      obtain ⟨v, w', rfl, rv, rw'⟩ := r1.of2
      rw [int_rep rv, int_rep rw']
      exact ⟨i, j, rfl, ⟨q1.1.1.1, q1.1.1.2, q1.1.2.1, q1.1.2.2⟩, k _ G1 F1 _ H1 e1 g1 yields_rng q1.2⟩
    · exact q1.elim⟩
theorem di_range3 (hg : Gl X "range") (hm : X.mg "range" = none) (ha : DA X Γ [a, b, c] t) (hs : starEach [a, b, c] X.env = (false, eval a X.env) :: starEach [b, c] X.env := by rfl) (hpl : (backTo pos (starEach [b, c] X.env)).any (·.1) = false := by rfl) : DI X Γ tg (.Call (.Name "range" p) [a, b, c] [] pos) (dRng3 t) :=
  pi_of (pi_range3 hg hm ha hs hpl) fun σ H R ⟨σd, G, F, Wd, Qd, w, hp, cv, ht, k⟩ => ⟨σd, G, F, Wd, _, w, hp, cv, ht, fun xs G1 F1 vs H1 e1 g1 r1 q1 => by
    split at q1
    · rename_i i j c
      obtain ⟨v, w', x', rfl, rv, rw', rx'⟩ := r1.of3
      rw [int_rep rv, int_rep rw', int_rep rx']
      obtain ⟨n, h1, h2⟩ := q1
      exact ⟨i, j, c, n, rfl, h1, k _ G1 F1 _ H1 e1 g1 yields_rngC h2⟩
    · exact q1.elim⟩
end

/-! ### for -/
/-- the turns, one by one -/
def dRun (g : DTG) (tb : DTS) : List D → DX → DEnds → DSt → DH → Prop
  | [], _, D, σ, G => D.nx σ G
  | d :: r, W, D, σ, G => g W d σ G fun σ2 G2 => tb W { nx := dRun g tb r W D, rt := D.rt, bk := D.nx, ct := dRun g tb r W D } σ2 G2
def dFor (t : DTI) (g : DTG) (tb : DTS) : DTS := fun W D σ G => t W σ G fun xs G1 => dRun g tb xs W D σ G1
theorem ds_for {X : Cx} {Γ : Amb} {tg iter : Expr} {body : List Stmt} {t : DTI} {g : DTG} {tb : DTS} {pos : Pos} (hp : PassesOwn (model X.prog X.w) X.A X.env X.xe) (hc : X.calm = true) (hi : DI X Γ tg iter t) (hg : DG X Γ tg g) (hb : DSs X Γ body tb)
    (hs : ∀ x, foldedSetIterable iter X.env x = pure x := by intro _; rfl) : DS X Γ (.For tg iter body [] pos) (dFor t g tb) :=
  ps_of (ps_for hp hc hi hg hb hs) fun D σ H ⟨σd, G, F, Wd, Dd, w, hP, cv, ht, k⟩ => ⟨σd, G, F, Wd, _, w, hP, cv, ht, fun xs G1 F1 J H1 e1 g1 y1 q1 => by
    refine ⟨fun i m σ' H' => m = xs.length - i ∧ i ≤ xs.length ∧ ∃ σd' G' F', Ext F1 H1 F' H' ∧ WR X.K H' F' σd' G' σ' ∧ dRun g tb (xs.drop i) Wd Dd σd' G', ⟨xs.length, by simp, Nat.zero_le _, σd, G1, F1, Ext.refl, w.ext e1 g1, by simpa using q1⟩, ?_⟩
    rintro i m σ' H' ⟨rfl, hi, σd', G', F', e2, w2, q2⟩
    obtain ⟨yi, ys⟩ := y1 F' H' e2
    by_cases hlt : i < xs.length
    · obtain ⟨go, yy⟩ := yi i xs[i] (List.getElem?_eq_getElem hlt)
      refine .inr ⟨go, fun σ3 H3 => ∃ σd3 G3 F3, Ext F1 H1 F3 H3 ∧ WR X.K H3 F3 σd3 G3 σ3 ∧ dRun g tb (xs.drop (i + 1)) Wd Dd σd3 G3, fun σ3 H3 ⟨σd3, G3, F3, e3, w3, q3⟩ => ⟨xs.length - (i + 1), by omega, rfl, hlt, σd3, G3, F3, e3, w3, q3⟩, fun v H3 hy => ?_⟩
      obtain ⟨e3, gk, rv⟩ := yy v H3 hy
      rw [List.drop_eq_getElem_cons hlt] at q2
      have e13 := (e1.trans e2).trans e3
      refine ⟨xs[i], σd', G', F', Wd, _, w2.ext e3 (gk _ w2.gr), Γ.mono _ _ _ _ e13.toExt0 hP, cv.ext e13, rv, q2, fun σd4 G4 F4 σ4 H4 e4 w4 q4 => ?_⟩
      have e14 := e13.trans e4
      have eJ := (e2.trans e3).trans e4
      exact ⟨σd4, G4, F4, Wd, _, w4, Γ.mono _ _ _ _ e14.toExt0 hP, cv.ext e14, q4, ⟨fun a b c d f e5 w5 q5 => ⟨a, b, c, eJ.trans e5, w5, q5⟩, fun a b c d f e5 g5 r5 q5 => k.rt a b c d f (e14.trans e5) g5 r5 q5,
        fun a b c d f e5 w5 q5 => k.nx a b c d f (e14.trans e5) w5 q5, fun a b c d f e5 w5 q5 => ⟨a, b, c, eJ.trans e5, w5, q5⟩⟩⟩
    · have ei : i = xs.length := by omega
      subst ei
      refine .inl ⟨ys, ?_⟩
      rw [List.drop_length] at q2
      exact k.nx σd' G' F' σ' H' (e1.trans e2) w2 q2⟩

/-! ### while -/
def dWhile (c : DTT) (tb : DTS) : DTS := fun W D σ G => ∃ I : Nat → DSt → DH → Prop, (∃ m, I m σ G) ∧ ∀ m σ G, I m σ G → c W σ G fun b G1 => if b = true then tb W { nx := fun σ' G' => ∃ m', m' < m ∧ I m' σ' G', rt := D.rt, bk := D.nx, ct := fun σ' G' => ∃ m', m' < m ∧ I m' σ' G' } σ G1 else D.nx σ G1
theorem ds_while {X : Cx} {Γ : Amb} {c : Expr} {body : List Stmt} {tc : DTT} {tb : DTS} {pos : Pos} (hp : PassesOwn (model X.prog X.w) X.A X.env X.xe) (hc : DTs X Γ c tc) (hb : DSs X Γ body tb) : DS X Γ (.While c body [] pos) (dWhile tc tb) :=
  ps_of (ps_while hp hc hb) fun D σ H ⟨σd, G, F, Wd, Dd, w, hP, cv, ⟨I, ⟨m0, h0⟩, step⟩, k⟩ => by
    refine ⟨fun m σ' H' => ∃ σd' G' F', Ext F H F' H' ∧ WR X.K H' F' σd' G' σ' ∧ I m σd' G', ⟨m0, σd, G, F, Ext.refl, w, h0⟩, ?_⟩
    rintro m σ' H' ⟨σd', G', F', e1, w1, h1⟩
    refine ⟨σd', G', F', Wd, _, w1, Γ.mono _ _ _ _ e1.toExt0 hP, cv.ext e1, step m σd' G' h1, fun b G2 F2 b' H2 e2 g2 r2 q2 => ?_⟩
    subst r2
    have e12 := e1.trans e2
    cases b with
    | false => exact iteF (k.nx σd' G2 F2 σ' H2 e12 (w1.ext e2 g2) q2)
    | true =>
      refine iteT ⟨fun σ3 H3 => ∃ m', m' < m ∧ ∃ σd3 G3 F3, Ext F H F3 H3 ∧ WR X.K H3 F3 σd3 G3 σ3 ∧ I m' σd3 G3, fun _ _ h => h, ?_⟩
      exact ⟨σd', G2, F2, Wd, _, w1.ext e2 g2, Γ.mono _ _ _ _ e12.toExt0 hP, cv.ext e12, q2, ⟨fun a b c d f e5 w5 ⟨m', hm, q5⟩ => ⟨m', hm, a, b, c, e12.trans e5, w5, q5⟩, fun a b c d f e5 g5 r5 q5 => k.rt a b c d f (e12.trans e5) g5 r5 q5,
        fun a b c d f e5 w5 q5 => k.nx a b c d f (e12.trans e5) w5 q5, fun a b c d f e5 w5 ⟨m', hm, q5⟩ => ⟨m', hm, a, b, c, e12.trans e5, w5, q5⟩⟩⟩
/-! ### comprehensions -/
def dwipe (σ : DSt) : List Nat → DSt
  | [] => σ
  | v :: vs => (dwipe σ vs).set v none
theorem slots_wipe {K : PySem.W.Frag} {H : Hp} {F : Fz} {σd : DSt} {σ : L2.St} (s : Slots K H F σd σ) : ∀ vs : List Nat, Slots K H F (dwipe σd vs) (wipe σ vs)
  | [] => s
  | _ :: vs => (slots_wipe s vs).clear
theorem wipe_set {σ : L2.St} {i : Nat} {x : Option V} : ∀ {vs : List Nat}, i ∈ vs → wipe (σ.set i x) vs = wipe σ vs
  | [], h => by simp at h
  | v :: vs, h => by
    unfold wipe
    by_cases hi : i ∈ vs
    · rw [wipe_set hi]
    · have e : i = v := by
        rcases List.mem_cons.mp h with h | h
        · exact h
        · exact absurd h hi
      subst e
      have go : ∀ ws : List Nat, i ∉ ws → wipe (σ.set i x) ws = (wipe σ ws).set i x := by
        intro ws
        induction ws with
        | nil => intro _; rfl
        | cons w ws ih =>
          intro hw
          unfold wipe
          rw [ih (fun z => hw (List.mem_cons_of_mem _ z)), List.set_comm]
          intro z
          exact hw (by rw [z]; exact List.mem_cons_self)
      rw [go vs hi, List.set_set]
/-- a target that stores within vs alone -/
def LGw (K : PySem.W.Frag) (Γ : Amb) (vs : List Nat) (t : DTG) : TG := fun v σ H Q => ∃ d σd G F Wd Qd, WR K H F σd G σ ∧ Γ.P H F ∧ Cov K Γ.W Wd H F ∧ Rep K H F d v ∧ t Wd d σd G Qd ∧ ∀ σd' G' F' σ' H', wipe σ' vs = wipe σ vs → Ext F H F' H' → WR K H' F' σd' G' σ' → Qd σd' G' → Q σ' H'
def LGsw (K : PySem.W.Frag) (Γ : Amb) (vs : List Nat) (t : DTGs) : TGs := fun us σ H Q => ∃ ds σd G F Wd Qd, WR K H F σd G σ ∧ Γ.P H F ∧ Cov K Γ.W Wd H F ∧ Reps K H F ds us ∧ t Wd ds σd G Qd ∧ ∀ σd' G' F' σ' H', wipe σ' vs = wipe σ vs → Ext F H F' H' → WR K H' F' σd' G' σ' → Qd σd' G' → Q σ' H'
def CG (X : Cx) (Γ : Amb) (vs : List Nat) (e : Expr) (t : DTG) : Prop := PG X e (LGw X.K Γ vs t)
def CGs (X : Cx) (Γ : Amb) (vs : List Nat) (es : List Expr) (t : DTGs) : Prop := PGs X es (LGsw X.K Γ vs t)
section
variable {X : Cx} {Γ : Amb} {vs : List Nat} {e : Expr} {es : List Expr} {pos : Pos}
theorem cg_name {i : Nat} {x : Str} (hN : X.N.Nodup) (hi : X.N[i]? = some x) (hx : Loc X.env.scope x) (hv : i ∈ vs) (hf : X.fn x = true ∨ X.env.scope.names.lookup x = some .local := by first | exact .inl rfl | exact .inr rfl | assumption) : CG X Γ vs (.Name x pos) (gSet i) :=
  pg_of (pg_name hN hi hx hf) fun v σ H Q ⟨d, σd, G, F, Wd, Qd, w, hp, cv, r, ht, k⟩ => k _ G F _ H (wipe_set hv) Ext.refl (w.set r) ht
theorem cgs_nil : CGs X Γ vs [] gsNil := pgs_of pgs_nil fun v σ H Q ⟨ds, σd, G, F, Wd, Qd, w, hp, cv, r, ⟨e, ht⟩, k⟩ => by
  subst e
  exact ⟨r.inv0, k _ G F _ H rfl Ext.refl w ht⟩
theorem cgs_cons {t : DTG} {u : DTGs} (h1 : CG X Γ vs e t) (h2 : CGs X Γ vs es u) (hs : (assignEach (e :: es) X.env).map (·.2) = assign e X.env :: (assignEach es X.env).map (·.2) := by rfl) : CGs X Γ vs (e :: es) (gsCons t u) :=
  pgs_of (pgs_cons h1 h2 hs) fun v σ H Q ⟨ds, σd, G, F, Wd, Qd, w, hp, cv, r, ht, k⟩ => by
    cases ds with
    | nil => exact ht.elim
    | cons d r' =>
      obtain ⟨v1, ws, rfl, r1, r2⟩ := r.inv
      exact ⟨v1, ws, rfl, d, σd, G, F, Wd, _, w, hp, cv, r1, ht, fun σd' G' F' σ' H' z1 e1 w1 q1 => ⟨r', σd', G', F', Wd, Qd, w1, Γ.mono _ _ _ _ e1.toExt0 hp, cv.ext e1, e1.reps _ _ r2, q1, fun a b c d f z2 e2 w2 q2 => k a b c d f (z2.trans z1) (e1.trans e2) w2 q2⟩⟩
theorem cg_tup {k : Nat} {t : DTGs} {n : Nat} (hc : X.calm = true) (h : CGs X Γ vs es t) (hn : (assignEach es X.env).length = n := by rfl) (hst : (assignEach es X.env).findIdx? (·.1) = none := by rfl) : CG X Γ vs (.Tuple es k pos) (gTupD n t) :=
  pg_of (pg_tup hc h hn hst) fun v σ H Q ⟨d, σd, G, F, Wd, Qd, w, hp, cv, r, ht, k⟩ => by
    cases d with
    | tup xs =>
      obtain ⟨a, us, rfl, hs, rs⟩ := tup_rep r
      exact ⟨a, us, rfl, hs, by rw [← rs.length]; exact ht.1, xs, σd, G, F, Wd, Qd, w, hp, cv, rs, ht.2, k⟩
    | _ => exact ht.elim
end
def DTts (X : Cx) (Γ : Amb) (es : List Expr) (t : DTT) : Prop := PTs X es (LT X.K Γ t)
def dYes : DTT := fun _ _ G Q => Q true G
theorem pts_of {X : Cx} {es : List Expr} {t u : TT} (h : PTs X es u) (i : ∀ σ H Q, t σ H Q → u σ H Q) : PTs X es t := ⟨fun pins s σ H Q I q => h.run pins s σ H Q I (i _ _ _ q)⟩
theorem dts_nil {X : Cx} {Γ : Amb} : DTts X Γ [] dYes := pts_of pts_nil fun σ H Q ⟨σd, G, F, Wd, Qd, w, hp, cv, q, k⟩ => k true G F true H Ext.refl w.gr rfl q
theorem dts_one {X : Cx} {Γ : Amb} {c : Expr} {t : DTT} (h : DTs X Γ c t) : DTts X Γ [c] t := pts_one h
def W0 : DX := fun _ _ _ => False
def Amb.blk (Γ : Amb) : Amb := ⟨fun _ _ _ _ => False, Γ.P, Γ.mono⟩
theorem cov0 {K : PySem.W.Frag} {W : WX} {H : Hp} {F : Fz} : Cov K W W0 H F := fun _ _ _ _ _ _ _ _ _ _ _ z => z.elim
/-- one turn's end: kept or left out -/
def dCompK (b : Bool) (te : DTE) (next : DH → (List D → DH → Prop) → Prop) (σ : DSt) (G : DH) (Q : List D → DH → Prop) : Prop := if b = true then te W0 σ G fun y G2 => next G2 fun ys G3 => Q (y :: ys) G3 else next G Q
/-- the turns of a comprehension, σ the slots of the def with the block's own names wiped -/
def dComp (g : DTG) (tt : DTT) (te : DTE) : List D → DSt → DH → (List D → DH → Prop) → Prop
  | [], _, G, Q => Q [] G
  | d :: r, σ, G, Q => g W0 d σ G fun σ2 G2 => tt W0 σ2 G2 fun b G3 => dCompK b te (fun G4 Q4 => dComp g tt te r σ G4 Q4) σ2 G3 Q
def dLc (m : Bool) (vs : List Nat) (t : DTI) (g : DTG) (tt : DTT) (te : DTE) : DTE := fun W σ G Q => t W σ G fun xs G1 => xs.length ≤ sizeLine ∧ dComp g tt te xs (dwipe σ vs) G1 fun ys G2 => mkL m ys G2 Q
theorem Ext.fresh {F F' : Fz} {H H' : Hp} {a : Addr} {o : HO} (e : Ext F H F' H') (h : H a = none) : Ext F H F' (upd H' a o) := by
  have ne : ∀ {b : Addr} {u : HO}, H b = some u → b ≠ a := fun q => ne_of_none q h
  exact ⟨⟨fun b xs q => by rw [upd_ne (ne q)]; exact e.tup b xs q, fun b u v q => by rw [upd_ne (ne q)]; exact e.frz b u v q, fun b fs q => by rw [upd_ne (ne q)]; exact e.xd b fs q, e.old, fun b vs f q => by rw [upd_ne (ne q)]; exact e.keep b vs f q⟩, e.bl, fun b u f q => by rw [upd_ne (ne q)]; exact e.kb b u f q⟩
/-- the growing list: put by the block's own hand -/
theorem GRel.bput {K : PySem.W.Frag} {F : Fz} {H : Hp} {G : DH} (g : GRel K H F G) {a : Addr} {vs ws : List V} (hb : F.bl a) (h : H a = some (.lst vs)) : Ext0 F H F (upd H a (.lst ws)) ∧ GRel K (upd H a (.lst ws)) F G := by
  have nf := (g.bl a hb).1
  have x : Ext0 F H F (upd H a (.lst ws)) := Ext0.put h nf (by intro _ z; cases z) (by intro _ _ z; cases z) (by intro _ z; cases z)
  refine ⟨x, fun b u eb => ?_, fun b f => ?_, fun b f => ?_⟩
  · obtain ⟨⟨n1, n2⟩, ho, q, r⟩ := g.at_ b u eb
    have : b ≠ a := by rintro rfl; exact n2 hb
    exact ⟨⟨n1, n2⟩, ho, by rw [upd_ne this]; exact q, x.repo r⟩
  · obtain ⟨us, q⟩ := g.fz b f
    exact ⟨us, x.keep b us f q⟩
  · obtain ⟨n, u, q⟩ := g.bl b f
    by_cases hba : b = a
    · subst hba; exact ⟨n, _, upd_same⟩
    · exact ⟨n, u, by rw [upd_ne hba]; exact q⟩
theorem GRel.bnew {K : PySem.W.Frag} {F : Fz} {H : Hp} {G : DH} (g : GRel K H F G) {a : Addr} {vs : List V} (h : H a = none) : Ext F H (badd F a) (upd H a (.lst vs)) ∧ GRel K (upd H a (.lst vs)) (badd F a) G := by
  have y : Ext F H F (upd H a (.lst vs)) := Ext.new h
  have x : Ext F H (badd F a) (upd H a (.lst vs)) := ⟨⟨y.tup, y.frz, y.xd, fun b f => f, y.keep⟩, fun _ f => .inl f, y.kb⟩
  refine ⟨x, fun b u eb => ?_, fun b f => ?_, fun b f => ?_⟩
  · obtain ⟨nf', h2, q2, r2⟩ := g.at_ b u eb
    refine ⟨⟨nf'.1, fun z => ?_⟩, h2, by rw [upd_ne (ne_of_none q2 h)]; exact q2, x.repo r2⟩
    rcases z with z | z
    · exact nf'.2 z
    · exact ne_of_none q2 h z
  · obtain ⟨ws, q⟩ := g.fz b f
    exact ⟨ws, y.keep b ws f q⟩
  · rcases f with f | f
    · obtain ⟨n, u, q⟩ := g.bl b f
      exact ⟨n, u, y.kb b u f q⟩
    · subst f
      exact ⟨g.nofz h, _, upd_same⟩
/-- the list is done: frozen, or ours -/
theorem GRel.bend {K : PySem.W.Frag} {F F2 : Fz} {H H2 : Hp} {G G2 : DH} (g : GRel K H F G) (e : Ext F H F2 H2) (g2 : GRel K H2 F2 G2) {a : Addr} {vs : List V} (h : H a = none) (hb : F2.bl a) (h2 : H2 a = some (.lst vs)) {ds : List D} (r : Reps K H2 F2 ds vs) {m : Bool} {Qd : DK} {Q : VK} (k : Kont K H F Qd Q) (q : mkL m ds G2 Qd) : Q (.ref a) H2 := by
  have nf := (g2.bl a hb).1
  have nb : ¬ F.bl a := g.nobl h
  have nG : G2 a = none := by
    cases z : G2 a with
    | none => rfl
    | some o => exact absurd hb (g2.at_ a o z).1.2
  cases m with
  | false =>
    have x2 : Ext0 F2 H2 ⟨fun b => F2.fz b ∨ b = a, F.bl⟩ H2 := ⟨fun _ _ z => z, fun _ _ _ z => z, fun _ _ z => z, fun _ f => .inl f, fun _ _ _ z => z⟩
    have x : Ext F H ⟨fun b => F2.fz b ∨ b = a, F.bl⟩ H2 := ⟨e.toExt0.trans x2, fun _ f => f, e.kb⟩
    refine k (.lst ds) G2 _ _ H2 x ⟨fun b u eb => ?_, fun b f => ?_, fun b f => ?_⟩ ?_ q
    · obtain ⟨⟨n1, n2⟩, ho, q1, ro⟩ := g2.at_ b u eb
      exact ⟨⟨fun z => z.elim n1 fun z => by subst z; exact n2 hb, fun z => n2 (e.bl b z)⟩, ho, q1, x2.repo ro⟩
    · rcases f with f | f
      · exact g2.fz b f
      · subst f; exact ⟨vs, h2⟩
    · obtain ⟨n, u, q1⟩ := g2.bl b (e.bl b f)
      exact ⟨fun z => z.elim n fun z => by subst z; exact nb f, u, q1⟩
    · unfold Rep
      exact ⟨a, vs, rfl, ⟨.inr rfl, h2⟩, x2.reps _ _ r⟩
  | true =>
    have x2 : Ext0 F2 H2 ⟨F2.fz, F.bl⟩ H2 := ⟨fun _ _ z => z, fun _ _ _ z => z, fun _ _ z => z, fun _ f => f, fun _ _ _ z => z⟩
    have x : Ext F H ⟨F2.fz, F.bl⟩ H2 := ⟨e.toExt0.trans x2, fun _ f => f, e.kb⟩
    refine k (.ref a) _ _ _ H2 x ⟨fun b u eb => ?_, g2.fz, fun b f => g2.bl b (e.bl b f)⟩ rep_ref (q a nG)
    by_cases hba : b = a
    · subst hba
      rw [dupd_same] at eb; cases eb
      exact ⟨⟨nf, nb⟩, _, h2, vs, rfl, x2.reps _ _ r⟩
    · rw [dupd_ne hba] at eb
      obtain ⟨⟨n1, n2⟩, ho, q1, ro⟩ := g2.at_ b u eb
      exact ⟨⟨n1, fun z => n2 (e.bl b z)⟩, ho, q1, x2.repo ro⟩
theorem lift_lc {K : PySem.W.Frag} {Γ : Amb} {m : Bool} {vs : List Nat} {t : DTI} {g : DTG} {tt : DTT} {te : DTE} {σ : L2.St} {H : Hp} {Q : VK} (h : LE K Γ (dLc m vs t g tt te) σ H Q) :
    tLc (LI K Γ t) (LGw K Γ.blk vs g) (LT K Γ.blk tt) (LE K Γ.blk te) vs σ H Q := by
  obtain ⟨σd, G, F, Wd, Qd, w, hP, cv, ht, k⟩ := h
  refine ⟨σd, G, F, Wd, _, w, hP, cv, ht, fun xs G1 F1 J H1 e1 g1 y1 ⟨hz, q1⟩ => fun A hA => ?_⟩
  have P1 := Γ.mono _ _ _ _ e1.toExt0 hP
  obtain ⟨e0, g0⟩ := g1.bnew (vs := []) hA
  refine ⟨fun i n H' => n = xs.length - i ∧ i ≤ xs.length ∧ ∃ G' F' acc av, Ext F1 H1 F' H' ∧ F'.bl A ∧ H' A = some (.lst av) ∧ Reps K H' F' acc av ∧ acc.length ≤ i ∧ GRel K H' F' G' ∧ dComp g tt te (xs.drop i) (dwipe σd vs) G' (fun ys G2 => mkL m (acc ++ ys) G2 Qd),
    ⟨xs.length, by simp, Nat.zero_le _, G1, badd F1 A, [], [], e0, .inr rfl, upd_same, .nil, Nat.zero_le _, g0, by simpa using q1⟩, ?_⟩
  rintro i n H' ⟨rfl, hi, G', F', acc, av, e2, hb, hA2, ra, la, g2, q2⟩
  obtain ⟨yi, ys⟩ := y1 F' H' e2
  by_cases hlt : i < xs.length
  · obtain ⟨go, yy⟩ := yi i xs[i] (List.getElem?_eq_getElem hlt)
    refine .inr ⟨go, fun H3 => ∃ G3 F3 acc av, Ext F1 H1 F3 H3 ∧ F3.bl A ∧ H3 A = some (.lst av) ∧ Reps K H3 F3 acc av ∧ acc.length ≤ i + 1 ∧ GRel K H3 F3 G3 ∧ dComp g tt te (xs.drop (i + 1)) (dwipe σd vs) G3 (fun ys G2 => mkL m (acc ++ ys) G2 Qd),
      fun H3 ⟨G3, F3, acc3, av3, a1, a2, a3, a4, a5, a6, a7⟩ => ⟨xs.length - (i + 1), by omega, rfl, hlt, G3, F3, acc3, av3, a1, a2, a3, a4, a5, a6, a7⟩, fun v H3 hy => ?_⟩
    obtain ⟨e3, gk, rv⟩ := yy v H3 hy
    rw [List.drop_eq_getElem_cons hlt] at q2
    have e13 := e2.trans e3
    have w3 : WR K H3 F' (dwipe σd vs) G' (wipe σ vs) := ⟨slots_wipe (w.sl.ext (e1.trans e13).toExt0) vs, gk _ g2⟩
    refine ⟨xs[i], dwipe σd vs, G', F', W0, _, w3, Γ.mono _ _ _ _ e13.toExt0 P1, cov0, rv, q2, fun σd4 G4 F4 σ4 H4 hw e4 w4 q4 => ⟨?_, ?_⟩⟩
    · rw [hw]
      have ww : ∀ us : List Nat, (∀ u ∈ us, u ∈ vs) → wipe (wipe σ us) vs = wipe σ vs := by
        intro us
        induction us with
        | nil => intro _; rfl
        | cons u us ih =>
          intro hu
          show wipe ((wipe σ us).set u none) vs = _
          rw [wipe_set (hu u List.mem_cons_self), ih fun z hz => hu z (List.mem_cons_of_mem _ hz)]
      exact ww vs fun _ z => z
    · have e14 := e13.trans e4
      refine ⟨σd4, G4, F4, W0, _, w4, Γ.mono _ _ _ _ e14.toExt0 P1, cov0, q4, fun b G5 F5 b' H5 e5 g5 r5 q5 => ?_⟩
      subst r5
      have eA := (e3.trans e4).trans e5
      have e15 := e14.trans e5
      have bA : F5.bl A := eA.bl A hb
      have hA5 : H5 A = some (.lst av) := eA.kb A _ hb hA2
      have ra5 := eA.reps _ _ ra
      cases b with
      | false => exact iteF ⟨G5, F5, acc, av, e15, bA, hA5, ra5, by omega, g5, q5⟩
      | true =>
        refine iteT ⟨σd4, G5, F5, W0, _, w4.ext e5 g5, Γ.mono _ _ _ _ e15.toExt0 P1, cov0, q5, fun y G6 F6 yv H6 e6 g6 r6 q6 => ?_⟩
        have bA6 : F6.bl A := e6.bl A bA
        have hA6 : H6 A = some (.lst av) := e6.kb A _ bA hA5
        have ra6 := e6.reps _ _ ra5
        obtain ⟨x7, g7⟩ := g6.bput (ws := av ++ [yv]) bA6 hA6
        refine ⟨av, hA6, by rw [← ra.length]; omega, G6, F6, acc ++ [y], av ++ [yv], (e15.trans e6).fresh hA, bA6, upd_same, x7.reps _ _ (ra6.append (.cons r6 .nil)), by simp; omega, g7, ?_⟩
        simpa using q6
  · have ei : i = xs.length := by omega
    subst ei
    refine .inl ⟨ys, ?_⟩
    rw [List.drop_length] at q2
    have q3 : mkL m acc G' Qd := by simpa [dComp] using q2
    exact g1.bend e2 g2 hA hb hA2 ra (fun d G' F' v' H' e3 g3 r3 q3 => k d G' F' v' H' (e1.trans e3) g3 r3 q3) q3
section
variable {X : Cx} {Γ : Amb} {m : Bool} {elt tg iter : Expr} {ifs : List Expr} {scope : Scope} {own : List (Str × Nat)} {pos : Pos} {t : DTI} {g : DTG} {tt : DTT} {te : DTE}
theorem de_lc (hc : X.calm = true) (hN : X.N.Nodup) (hi : DI X Γ tg iter t) (ok : BlkOk X.N X.env.scope scope own)
    (hg : ∀ (s : Shared) (H : Hp) (C : Addr) (cl : List (Str × Addr)) (fp : List Addr), CG (X.blk s H scope (PySem.compEnvC scope cl C X.env) fp) Γ.blk (own.map (·.2)) tg g) (ht : ∀ (s : Shared) (H : Hp) (C : Addr) (cl : List (Str × Addr)) (fp : List Addr), DTts (X.blk s H scope (PySem.compEnvC scope cl C X.env) fp) Γ.blk ifs tt)
    (he : ∀ (s : Shared) (H : Hp) (C : Addr) (cl : List (Str × Addr)) (fp : List Addr), DE (X.blk s H scope (PySem.compEnvC scope cl C X.env) fp) Γ.blk elt te) (hs : ∀ x, foldedSetIterable iter X.env x = pure x := by intro _; rfl) :
    DE X Γ (.ListComp elt [⟨tg, iter, ifs, 0⟩] scope pos) (dLc m (own.map (·.2)) t g tt te) := pe_of (pe_lc (wi := LI X.K Γ t) (g := LGw X.K Γ.blk (own.map fun (x : Str × Nat) => x.2) g) (tt := LT X.K Γ.blk tt) (te := LE X.K Γ.blk te) hc hN hi ok hg ht he hs) fun _ _ _ h => lift_lc h
theorem ds_lc {i : Nat} {y : Str} {py spos : Pos} (hc : X.calm = true) (hN : X.N.Nodup) (hy : X.N[i]? = some y) (hyl : X.env.scope.names.lookup y = some .local)
    (hsw : swapsWith (.ListComp elt [⟨tg, iter, ifs, 0⟩] scope pos) (some (.Name y py)) spos.line X.env = pure true) (hi : DI X Γ tg iter t) (ok : BlkOk X.N X.env.scope scope own)
    (hg : ∀ (s : Shared) (H : Hp) (C : Addr) (cl : List (Str × Addr)) (fp : List Addr), CG (X.blk s H scope (PySem.compEnvC scope cl C X.env) fp) Γ.blk (own.map (·.2)) tg g) (ht : ∀ (s : Shared) (H : Hp) (C : Addr) (cl : List (Str × Addr)) (fp : List Addr), DTts (X.blk s H scope (PySem.compEnvC scope cl C X.env) fp) Γ.blk ifs tt)
    (he : ∀ (s : Shared) (H : Hp) (C : Addr) (cl : List (Str × Addr)) (fp : List Addr), DE (X.blk s H scope (PySem.compEnvC scope cl C X.env) fp) Γ.blk elt te) (hs : ∀ x, foldedSetIterable iter X.env x = pure x := by intro _; rfl) :
    DS X Γ (.Assign [.Name y py] (.ListComp elt [⟨tg, iter, ifs, 0⟩] scope pos) spos) (dAsg (dLc m (own.map (·.2)) t g tt te) (gSet i)) :=
  ps_of (ps_setLc (wi := LI X.K Γ t) (g := LGw X.K Γ.blk (own.map fun (x : Str × Nat) => x.2) g) (tt := LT X.K Γ.blk tt) (te := LE X.K Γ.blk te) hc hN hy hyl hsw hi ok hg ht he hs) fun D σ H ⟨σd, G, F, Wd, Dd, w, hp, cv, ht, k⟩ => lift_lc (m := m) ⟨σd, G, F, Wd, _, w, hp, cv, ht, fun x G1 F1 v H1 e1 g1 r1 q1 => k.nx _ G1 F1 _ H1 e1 ((w.ext e1 g1).set r1) q1⟩
end
end DL

/-! D6: the catalog: operators, built-ins, methods over trees. -/
namespace DL
open PySem PySem.Spec L2

/-! ### + - * // % ** << >> -/
def qAdd (m : Bool) : Q2 := fun x y G Q => match x, y with
  | .int i, .int j => Q (.int (i + j)) G
  | .str a, .str b => a.length + b.length ≤ sizeLine ∧ Q (.str (a ++ b)) G
  | .tup a, .tup b => a.length + b.length ≤ sizeLine ∧ Q (.tup (a ++ b)) G
  | x, y => match dlsh G x, dlsh G y with
    | some a, some b => a.length + b.length ≤ sizeLine ∧ mkL m (a ++ b) G Q
    | _, _ => False
abbrev rAddAll (K : PySem.W.Frag) : R2 := fun x y H Q => (rI0 (fun i j => .int (i + j)) x y H Q ∨ (∃ i j, x = .str i ∧ y = .str j ∧ i.length + j.length ≤ sizeLine ∧ Q (.str (i ++ j)) H)) ∨ (rCatA K x y H Q ∨ rCat x y H Q)
theorem op_addAll {X : Cx} : OpR X (binaryOp .Add) (rAddAll X.K) := (op_add.or op_add_str).or (op_catA.or op_cat)
section
variable {K : PySem.W.Frag}
theorem Kont.tupA {H : Hp} {F : Fz} {G : DH} {Qd : DK} {Q : VK} {ds es : List D} {a b : Addr} {vs ws : List V} (k : Kont K H F Qd Q) (g : GRel K H F G) (h1 : SqT K H a vs) (h2 : SqT K H b ws) (r1 : Reps K H F ds vs) (r2 : Reps K H F es ws) (q : Qd (.tup (ds ++ es)) G) :
    (vs = [] → Q (.ref b) H) ∧ (vs ≠ [] → ws = [] → Q (.ref a) H) ∧ (vs ≠ [] → ws ≠ [] → ∀ p, H p = none → Q (.ref p) (upd H p (.tup (vs ++ ws)))) := by
  refine ⟨fun e => ?_, fun _ e => ?_, fun _ _ => k.tup g (r1.append r2) q⟩
  · subst e
    have e2 : ds = [] := by have := r1.length; cases ds <;> simp at this ⊢
    subst e2
    exact k.here (d := .tup es) g (by unfold Rep; exact ⟨b, ws, rfl, h2, r2⟩) (by simpa using q)
  · subst e
    have e2 : es = [] := by have := r2.length; cases es <;> simp at this ⊢
    subst e2
    exact k.here (d := .tup ds) g (by unfold Rep; exact ⟨a, vs, rfl, h1, r1⟩) (by simpa using q)
theorem qAdd_ok {m : Bool} : L2R K (qAdd m) (rAddAll K) := fun x y v w G F H Qd Q g rx ry h k => by
  have lists : ∀ a b, dlsh G x = some a → dlsh G y = some b → a.length + b.length ≤ sizeLine → mkL m (a ++ b) G Qd → rAddAll K v w H Q := fun a b e1 e2 hz q => by
    obtain ⟨p1, vs, rfl, h1, r1⟩ := dlsh_rep g rx e1
    obtain ⟨p2, ws, rfl, h2, r2⟩ := dlsh_rep g ry e2
    exact .inr (.inr ⟨p1, p2, vs, ws, rfl, rfl, h1, h2, by rw [← r1.length, ← r2.length]; exact hz, k.lst g (r1.append r2) q⟩)
  have other : (match dlsh G x, dlsh G y with | some a, some b => a.length + b.length ≤ sizeLine ∧ mkL m (a ++ b) G Qd | _, _ => False) → rAddAll K v w H Q := fun h' => by
    cases e1 : dlsh G x with
    | none => rw [e1] at h'; exact h'.elim
    | some a =>
      cases e2 : dlsh G y with
      | none => rw [e1, e2] at h'; exact h'.elim
      | some b => rw [e1, e2] at h'; exact lists a b e1 e2 h'.1 h'.2
  unfold qAdd at h
  split at h
  · rename_i i j
    rw [int_rep rx, int_rep ry]
    exact .inl (.inl ⟨i, j, rfl, rfl, k.here g rep_int h⟩)
  · rename_i a b
    rw [str_rep rx, str_rep ry]
    exact .inl (.inr ⟨a, b, rfl, rfl, h.1, k.here g rep_str h.2⟩)
  · rename_i a b
    obtain ⟨p1, vs, rfl, h1, r1⟩ := tup_rep rx
    obtain ⟨p2, ws, rfl, h2, r2⟩ := tup_rep ry
    obtain ⟨c1, c2, c3⟩ := k.tupA g h1 h2 r1 r2 h.2
    exact .inr (.inl ⟨p1, p2, vs, ws, rfl, rfl, h1, h2, by rw [← r1.length, ← r2.length]; exact h.1, c1, c2, c3⟩)
  · exact other h
/-- an operator on two ints, with a premise -/
def qI (C : Int → Int → Prop) (g : Int → Int → D) : Q2 := fun x y G Q => match x, y with
  | .int i, .int j => C i j ∧ Q (g i j) G
  | _, _ => False
def qI0 (g : Int → Int → D) : Q2 := fun x y G Q => match x, y with
  | .int i, .int j => Q (g i j) G
  | _, _ => False
theorem qI_ok {C : Int → Int → Prop} {g : Int → Int → D} {g' : Int → Int → V} (e : ∀ i j H F, Rep K H F (g i j) (g' i j)) : L2R K (qI C g) (rI C g') := fun x y v w G F H Qd Q gr rx ry h k => by
  unfold qI at h
  split at h
  · rename_i i j
    rw [int_rep rx, int_rep ry]
    exact ⟨i, j, rfl, rfl, h.1, k.here gr (e i j H F) h.2⟩
  · exact h.elim
theorem qI0_ok {g : Int → Int → D} {g' : Int → Int → V} (e : ∀ i j H F, Rep K H F (g i j) (g' i j)) : L2R K (qI0 g) (rI0 g') := fun x y v w G F H Qd Q gr rx ry h k => by
  unfold qI0 at h
  split at h
  · rename_i i j
    rw [int_rep rx, int_rep ry]
    exact ⟨i, j, rfl, rfl, k.here gr (e i j H F) h⟩
  · exact h.elim
def qSub : Q2 := qI0 fun i j => .int (i - j)
theorem qSub_ok : L2R K qSub (rI0 fun i j => .int (i - j)) := qI0_ok fun _ _ _ _ => rep_int
def qFdiv : Q2 := qI CDivW fun i j => .int (i / j)
theorem qFdiv_ok : L2R K qFdiv (rI CDivW fun i j => .int (i / j)) := qI_ok fun _ _ _ _ => rep_int
def qMod : Q2 := qI (fun _ j => 0 < j) fun i j => .int (i % j)
theorem qMod_ok : L2R K qMod (rI (fun _ j => 0 < j) fun i j => .int (i % j)) := qI_ok fun _ _ _ _ => rep_int
def qPow : Q2 := qI CPow fun i j => .int (i ^ j.toNat)
theorem qPow_ok : L2R K qPow (rI CPow fun i j => .int (i ^ j.toNat)) := qI_ok fun _ _ _ _ => rep_int
def qShl : Q2 := qI CPow fun i j => .int (i * 2 ^ j.toNat)
theorem qShl_ok : L2R K qShl (rI CPow fun i j => .int (i * 2 ^ j.toNat)) := qI_ok fun _ _ _ _ => rep_int
def qShr : Q2 := qI (fun _ j => 0 ≤ j) fun i j => .int (i / 2 ^ j.toNat)
theorem qShr_ok : L2R K qShr (rI (fun _ j => 0 ≤ j) fun i j => .int (i / 2 ^ j.toNat)) := qI_ok fun _ _ _ _ => rep_int
def qXor : Q2 := qI0 fun i j => .int (Builtin.bitXor i j)
theorem qXor_ok : L2R K qXor (rI0 fun i j => .int (Builtin.bitXor i j)) := qI0_ok fun _ _ _ _ => rep_int
def qAnd : Q2 := qI0 fun i j => .int (Builtin.bitAnd i j)
theorem qAnd_ok : L2R K qAnd (rI0 fun i j => .int (Builtin.bitAnd i j)) := qI0_ok fun _ _ _ _ => rep_int
def MulI (i j : Int) : Prop := CMul i j ∨ CMulW i j
theorem op_mulI {X : Cx} : OpR X (binaryOp .Mult) (rI MulI fun i j => .int (i * j)) := opI fun _ _ _ _ _ _ _ hc q => PyProof.Rows.mul_int q (hc.elim CMul.ok CMulW.ok)
def reps (x : Str) (n : Nat) : Str := ⟨((List.replicate n x.cps.toList).flatten).toArray⟩
theorem txt_mul {x : Str} {n : Int} (h : 0 ≤ n) : PySem.Txt.mul x n = reps x n.toNat := by
  unfold PySem.Txt.mul reps
  have fold : ∀ (k : Nat) (acc : Array Nat), ((List.replicate k x.cps).foldl (· ++ ·) acc).toList = acc.toList ++ (List.replicate k x.cps.toList).flatten := by
    intro k
    induction k with
    | zero => intro acc; simp
    | succ k ih => intro acc; simp [List.replicate_succ, ih]
  by_cases h1 : n < 1
  · rw [if_pos h1]
    have : n.toNat = 0 := by omega
    rw [this]; rfl
  · rw [if_neg h1]
    by_cases h2 : (n == 1 || x.length == 0) = true
    · rw [if_pos h2]
      rcases Bool.or_eq_true _ _ ▸ h2 with h2 | h2
      · have : n.toNat = 1 := by have := beq_iff_eq.mp h2; omega
        rw [this]
        simp
      · have e : x.cps.size = 0 := by have := beq_iff_eq.mp h2; exact this
        have e2 : x.cps.toList = [] := by simpa using e
        have e3 : x = ⟨#[]⟩ := by cases x; simp at e2; simp [e2]
        rw [e2]
        simp [e3]
    · rw [if_neg h2]
      have := fold n.toNat #[]
      congr 1
      apply Array.ext'
      simpa using this
def qMul (m : Bool) : Q2 := fun x y G Q => match x, y with
  | .int i, .int j => MulI i j ∧ Q (.int (i * j)) G
  | .str a, .int n => (0 ≤ n ∧ n ≤ 1000 ∧ a.length ≤ 1000) ∧ Q (.str (reps a n.toNat)) G
  | x, .int n => match dlsh G x with
    | some a => (-(2 ^ 63) ≤ n ∧ n < 2 ^ 63 ∧ a.length * n.toNat ≤ sizeLine) ∧ mkL m (List.replicate n.toNat a).flatten G Q
    | none => False
  | _, _ => False
def rRepS : R2 := fun x y H Q => ∃ a n, x = .str a ∧ y = .int n ∧ (0 ≤ n ∧ n ≤ 1000 ∧ a.length ≤ 1000) ∧ Q (.str (reps a n.toNat)) H
theorem op_repS {X : Cx} : OpR X (binaryOp .Mult) rRepS := by
  intro pins s σ H x y v u Q I rx ry h
  obtain ⟨a, n, rfl, rfl, ⟨h0, h1, h2⟩, q⟩ := h
  obtain ⟨t, rfl⟩ := rx
  obtain ⟨t', rfl⟩ := ry
  refine PySem.SB.mul ⟨?_, fun _ _ => ?_, fun _ _ => ?_⟩ fun t2 k => ?_
  · have a1 : ¬ n < -(2 ^ 63 : Int) := by omega
    have a2 : ¬ n ≥ (2 ^ 63 : Int) := by omega
    simp [a1, a2]
    omega
  · have e : (1000 : Int) ≤ (2 ^ 63 - 1) / n := by
      have : 0 < n := by omega
      rw [Int.le_ediv_iff_mul_le this]
      omega
    omega
  · have e : a.length * n.toNat ≤ 1000 * 1000 := Nat.mul_le_mul h2 (by omega)
    have : Builtin.Str.tooLong (a.length * n.toNat) = false := by
      unfold Builtin.Str.tooLong
      simp [sizeLine_eq]
      omega
    exact this
  · rw [txt_mul h0]
    exact ⟨.str _, H, I.tok k, ⟨t2, rfl⟩, q⟩
abbrev rMulAll : R2 := fun x y H Q => rI MulI (fun i j => .int (i * j)) x y H Q ∨ (rRepS x y H Q ∨ rRep x y H Q)
theorem op_mulAll {X : Cx} : OpR X (binaryOp .Mult) rMulAll := op_mulI.or (op_repS.or op_rep)
theorem qMul_ok {m : Bool} : L2R K (qMul m) rMulAll := fun x y v w G F H Qd Q g rx ry h k => by
  unfold qMul at h
  split at h
  · rename_i i j
    rw [int_rep rx, int_rep ry]
    exact .inl ⟨i, j, rfl, rfl, h.1, k.here g rep_int h.2⟩
  · rename_i a n
    rw [str_rep rx, int_rep ry]
    exact .inr (.inl ⟨a, n, rfl, rfl, h.1, k.here g rep_str h.2⟩)
  · rename_i n _ _
    cases e : dlsh G x with
    | none => rw [e] at h; exact h.elim
    | some a =>
      rw [e] at h
      obtain ⟨⟨h1, h2, h3⟩, q⟩ := h
      obtain ⟨p, vs, rfl, hp, r⟩ := dlsh_rep g rx e
      rw [int_rep ry]
      exact .inr (.inr ⟨p, n, vs, rfl, rfl, hp, h1, h2, by rw [← r.length]; exact h3, k.lst g (r.rep n.toNat) q⟩)
  · exact h.elim
end

/-! ### == and != -/
mutual
def noRef : D → Bool
  | .ref _ => false
  | .ty _ => false
  | .tup xs => noRefs xs
  | .lst xs => noRefs xs
  | _ => true
def noRefs : List D → Bool
  | [] => true
  | d :: ds => noRef d && noRefs ds
end
mutual
def toPy : D → PyData
  | .non => .none
  | .bl b => .bool b
  | .int i => .int i
  | .str x => .str x
  | .tup xs => .tuple (toPys xs)
  | .lst xs => .list (toPys xs)
  | .scr ns => .list (ns.map .int)
  | .ref _ => .none
  | .ty _ => .none
def toPys : List D → List PyData
  | [] => []
  | d :: ds => toPy d :: toPys ds
end
def deq (x y : D) : Bool := PyData.eqv (toPy x) (toPy y)
/-- it can be compared: no changing list within, no deeper than 64 -/
def eqOk (d : D) : Prop := noRef d = true ∧ SeqAt.shaped (toPy d) = true
def dview (G : DH) : D → D
  | .ref a => match G a with
    | some (.lst xs) => .lst xs
    | _ => .ref a
  | d => d
section
variable {K : PySem.W.Frag} {H : Hp} {F : Fz}
theorem dpAll_ints : ∀ ns : List Int, DpAll K H (ns.map V.int) (ns.map PyData.int)
  | [] => .nil
  | n :: ns => .cons (.int n) (dpAll_ints ns)
mutual
theorem dp_of : ∀ (d : D) (v : V), noRef d = true → Rep K H F d v → Dp K H v (toPy d)
  | .non, v, _, r => by rw [non_rep r]; unfold toPy; exact .non
  | .bl b, v, _, r => by rw [bl_rep r]; unfold toPy; exact .bl b
  | .int b, v, _, r => by rw [int_rep r]; unfold toPy; exact .int b
  | .str b, v, _, r => by rw [str_rep r]; unfold toPy; exact .str b
  | .tup xs, v, n, r => by
    obtain ⟨a, vs, rfl, h, rs⟩ := tup_rep r
    unfold toPy
    unfold noRef at n
    exact .tup h (dps_of xs vs n rs)
  | .lst xs, v, n, r => by
    unfold Rep at r
    obtain ⟨a, vs, rfl, h, rs⟩ := r
    unfold toPy
    unfold noRef at n
    exact .lst (SqL.of h.2) (dps_of xs vs n rs)
  | .scr ns, v, _, r => by
    unfold Rep at r
    obtain ⟨a, rfl, h⟩ := r
    unfold toPy
    exact .lst (scr_sql h) (dpAll_ints ns)
  | .ref _, _, n, _ => by unfold noRef at n; cases n
  | .ty _, _, n, _ => by unfold noRef at n; cases n
theorem dps_of : ∀ (ds : List D) (vs : List V), noRefs ds = true → Reps K H F ds vs → DpAll K H vs (toPys ds)
  | [], vs, _, r => by rw [r.inv0]; unfold toPys; exact .nil
  | d :: ds, vs, n, r => by
    obtain ⟨v, ws, rfl, r1, r2⟩ := r.inv
    unfold noRefs at n
    rw [Bool.and_eq_true] at n
    unfold toPys
    exact .cons (dp_of d v n.1 r1) (dps_of ds ws n.2 r2)
end
theorem dp_view {G : DH} (g : GRel K H F G) {d : D} {v : V} (r : Rep K H F d v) (n : noRef (dview G d) = true) : Dp K H v (toPy (dview G d)) := by
  cases d with
  | ref a =>
    unfold dview at n ⊢
    cases e : G a with
    | none => simp [e, noRef] at n
    | some o =>
      cases o with
      | lst xs =>
        simp [e] at n ⊢
        obtain ⟨_, ho, q, vs, rfl, rs⟩ := g.at_ a _ e
        rw [ref_rep r]
        unfold toPy
        unfold noRef at n
        exact .lst (SqL.of q) (dps_of xs vs n rs)
      | _ => simp [e, noRef] at n
  | _ => exact dp_of _ v n r
end
def qEq (neg : Bool) : Q2 := fun x y G Q => match x, y with
  | .int i, .int j => Q (.bl (if neg then !decide (i = j) else decide (i = j))) G
  | .str i, .str j => Q (.bl (if neg then !decide (i = j) else decide (i = j))) G
  | .bl i, .bl j => Q (.bl (if neg then !decide (i = j) else decide (i = j))) G
  | x, y => eqOk (dview G x) ∧ eqOk (dview G y) ∧ Q (.bl (if neg then !deq (dview G x) (dview G y) else deq (dview G x) (dview G y))) G
abbrev rEqAll (K : PySem.W.Frag) : R2 := fun x y H Q => rEq x y H Q ∨ rEqD K x y H Q
abbrev rNeAll (K : PySem.W.Frag) : R2 := fun x y H Q => rNe x y H Q ∨ rNeD K x y H Q
theorem op_eqAll {X : Cx} (hu : X.A.units + 64 < cLine) : OpR X (compareOp .Eq) (rEqAll X.K) := op_eq.or (op_eqD hu)
theorem op_neAll {X : Cx} (hu : X.A.units + 64 < cLine) : OpR X (compareOp .NotEq) (rNeAll X.K) := op_ne.or (op_neD hu)
section
variable {K : PySem.W.Frag}
theorem qEq_ok : L2R K (qEq false) (rEqAll K) := fun x y v w G F H Qd Q g rx ry h k => by
  unfold qEq at h
  split at h
  · rw [int_rep rx, int_rep ry]; exact .inl ⟨rfl, k.here g rep_bl (by simpa using h)⟩
  · rw [str_rep rx, str_rep ry]; exact .inl ⟨rfl, k.here g rep_bl (by simpa using h)⟩
  · rw [bl_rep rx, bl_rep ry]; exact .inl ⟨rfl, k.here g rep_bl (by simpa using h)⟩
  · obtain ⟨h1, h2, q⟩ := h
    exact .inr ⟨_, _, dp_view g rx h1.1, dp_view g ry h2.1, h1.2, h2.2, k.here g rep_bl (by simpa [deq] using q)⟩
theorem qNe_ok : L2R K (qEq true) (rNeAll K) := fun x y v w G F H Qd Q g rx ry h k => by
  unfold qEq at h
  split at h
  · rw [int_rep rx, int_rep ry]; exact .inl ⟨rfl, k.here g rep_bl (by simpa using h)⟩
  · rw [str_rep rx, str_rep ry]; exact .inl ⟨rfl, k.here g rep_bl (by simpa using h)⟩
  · rw [bl_rep rx, bl_rep ry]; exact .inl ⟨rfl, k.here g rep_bl (by simpa using h)⟩
  · obtain ⟨h1, h2, q⟩ := h
    exact .inr ⟨_, _, dp_view g rx h1.1, dp_view g ry h2.1, h1.2, h2.2, k.here g rep_bl (by simpa [deq] using q)⟩
end
/-! ### < <= > >= -/
def qLt : Q2 := fun x y G Q => match x, y with
  | .int i, .int j => Q (.bl (decide (i < j))) G
  | .str a, .str b => Q (.bl (decide (a.cps.toList < b.cps.toList))) G
  | _, _ => False
abbrev rLtAll : R2 := fun x y H Q => rI0 (fun i j => .bl (decide (i < j))) x y H Q ∨ (∃ i j, x = .str i ∧ y = .str j ∧ Q (.bl (decide (i.cps.toList < j.cps.toList))) H)
theorem op_ltAll {X : Cx} : OpR X (compareOp .Lt) rLtAll := op_lt.or op_lt_str
section
variable {K : PySem.W.Frag}
theorem qLt_ok : L2R K qLt rLtAll := fun x y v w G F H Qd Q g rx ry h k => by
  unfold qLt at h
  split at h
  · rw [int_rep rx, int_rep ry]; exact .inl ⟨_, _, rfl, rfl, k.here g rep_bl h⟩
  · rw [str_rep rx, str_rep ry]; exact .inr ⟨_, _, rfl, rfl, k.here g rep_bl h⟩
  · exact h.elim
def qLe : Q2 := qI0 fun i j => .bl (decide (i ≤ j))
theorem qLe_ok : L2R K qLe (rI0 fun i j => .bl (decide (i ≤ j))) := qI0_ok fun _ _ _ _ => rep_bl
def qGt : Q2 := qI0 fun i j => .bl (decide (j < i))
theorem qGt_ok : L2R K qGt (rI0 fun i j => .bl (decide (j < i))) := qI0_ok fun _ _ _ _ => rep_bl
def qGe : Q2 := qI0 fun i j => .bl (decide (j ≤ i))
theorem qGe_ok : L2R K qGe (rI0 fun i j => .bl (decide (j ≤ i))) := qI0_ok fun _ _ _ _ => rep_bl
/-- is None, is not None -/
def isNon : D → Bool
  | .non => true
  | _ => false
def qIsN (neg : Bool) : Q2 := fun x y G Q => match y with
  | .non => Q (.bl (if neg then !isNon x else isNon x)) G
  | _ => False
theorem isNon_rep {H : Hp} {F : Fz} {x : D} {v : V} (r : Rep K H F x v) : decide (v = .non) = isNon x := by
  cases x with
  | non => rw [non_rep r]; rfl
  | bl _ => rw [bl_rep r]; rfl
  | int _ => rw [int_rep r]; rfl
  | str _ => rw [str_rep r]; rfl
  | ref _ => rw [ref_rep r]; rfl
  | ty _ => rw [ty_rep r]; rfl
  | tup _ => obtain ⟨a, vs, rfl, _⟩ := tup_rep r; rfl
  | lst _ => unfold Rep at r; obtain ⟨a, vs, rfl, _⟩ := r; rfl
  | scr _ => unfold Rep at r; obtain ⟨a, rfl, _⟩ := r; rfl
theorem qIs_ok : L2R K (qIsN false) (fun x y H Q => y = .non ∧ Q (.bl (decide (x = .non))) H) := fun x y v w G F H Qd Q g rx ry h k => by
  unfold qIsN at h
  split at h
  · exact ⟨non_rep ry, by rw [isNon_rep rx]; exact k.here g rep_bl (by simpa using h)⟩
  · exact h.elim
theorem qIsNot_ok : L2R K (qIsN true) (fun x y H Q => y = .non ∧ Q (.bl (!decide (x = .non))) H) := fun x y v w G F H Qd Q g rx ry h k => by
  unfold qIsN at h
  split at h
  · exact ⟨non_rep ry, by rw [isNon_rep rx]; exact k.here g rep_bl (by simpa using h)⟩
  · exact h.elim
end
end DL

/-! D7: the catalog, further: in, isinstance, len, conversions, sums, sorts, texts, list methods, places, slices. -/
namespace DL
open PySem PySem.Spec L2

/-! ### x in xs -/
def flatD : D → Bool
  | .non => true
  | .bl _ => true
  | .int _ => true
  | .str _ => true
  | _ => false
def eqF : D → D → Bool
  | .non, .non => true
  | .bl a, .bl b => a == b
  | .bl a, .int b => (if a then 1 else 0) == b
  | .int a, .bl b => a == (if b then 1 else 0)
  | .int a, .int b => a == b
  | .str a, .str b => a == b
  | _, _ => false
def qIn (neg : Bool) : Q2 := fun x y G Q => match x, y with
  | .str a, .str z => match a.cps.toList with
    | [c] => Q (.bl (if neg then !decide (c ∈ z.cps.toList) else decide (c ∈ z.cps.toList))) G
    | _ => False
  | x, y => match dseq G y with
    | some ys => (flatD x = true ∧ ys.all flatD = true) ∧ Q (.bl (if neg then !(ys.any fun z => eqF z x) else ys.any fun z => eqF z x)) G
    | none => False
abbrev rInAll (K : PySem.W.Frag) : R2 := fun x y H Q => (∃ (c : Nat) (z : Str), x = .str ⟨#[c]⟩ ∧ y = .str z ∧ Q (.bl (decide (c ∈ z.cps.toList))) H) ∨ rIn K false x y H Q
abbrev rNotInAll (K : PySem.W.Frag) : R2 := fun x y H Q => (∃ (c : Nat) (z : Str), x = .str ⟨#[c]⟩ ∧ y = .str z ∧ Q (.bl (!decide (c ∈ z.cps.toList))) H) ∨ rIn K true x y H Q
theorem op_inAll {X : Cx} : OpR X (compareOp .In) (rInAll X.K) := op_in_sign.or op_in_seq
theorem op_notInAll {X : Cx} : OpR X (compareOp .NotIn) (rNotInAll X.K) := op_notIn_sign.or op_notIn_seq
section
variable {K : PySem.W.Frag} {H : Hp} {F : Fz}
theorem flat_rep {x : D} {v : V} (r : Rep K H F x v) (f : flatD x = true) : flatV v = true := by
  cases x with
  | non => rw [non_rep r]; rfl
  | bl _ => rw [bl_rep r]; rfl
  | int _ => rw [int_rep r]; rfl
  | str _ => rw [str_rep r]; rfl
  | _ => cases f
theorem eqF_rep {x y : D} {v w : V} (r : Rep K H F x v) (s : Rep K H F y w) (f : flatD x = true) (g : flatD y = true) : eqV v w = eqF x y := by
  cases x with
  | non => rw [non_rep r]; cases y with
    | non => rw [non_rep s]; rfl
    | bl _ => rw [bl_rep s]; rfl
    | int _ => rw [int_rep s]; rfl
    | str _ => rw [str_rep s]; rfl
    | _ => cases g
  | bl _ => rw [bl_rep r]; cases y with
    | non => rw [non_rep s]; rfl
    | bl _ => rw [bl_rep s]; rfl
    | int _ => rw [int_rep s]; rfl
    | str _ => rw [str_rep s]; rfl
    | _ => cases g
  | int _ => rw [int_rep r]; cases y with
    | non => rw [non_rep s]; rfl
    | bl _ => rw [bl_rep s]; rfl
    | int _ => rw [int_rep s]; rfl
    | str _ => rw [str_rep s]; rfl
    | _ => cases g
  | str _ => rw [str_rep r]; cases y with
    | non => rw [non_rep s]; rfl
    | bl _ => rw [bl_rep s]; rfl
    | int _ => rw [int_rep s]; rfl
    | str _ => rw [str_rep s]; rfl
    | _ => cases g
  | _ => cases f
theorem inV_rep {x : D} {v : V} (r : Rep K H F x v) (f : flatD x = true) : ∀ {ys : List D} {ws : List V}, Reps K H F ys ws → ys.all flatD = true → ws.all flatV = true ∧ inV v ws = ys.any fun z => eqF z x
  | [], ws, h, _ => by rw [h.inv0]; exact ⟨rfl, rfl⟩
  | y :: ys, ws, h, a => by
    obtain ⟨w, us, rfl, h1, h2⟩ := h.inv
    rw [List.all_cons, Bool.and_eq_true] at a
    obtain ⟨i1, i2⟩ := inV_rep r f h2 a.2
    refine ⟨by rw [List.all_cons, flat_rep h1 a.1, i1]; rfl, ?_⟩
    unfold inV at i2 ⊢
    rw [List.any_cons, List.any_cons, i2, eqF_rep h1 r a.1 f]
theorem qIn_ok {neg : Bool} : L2R K (qIn neg) (fun x y H Q => (∃ (c : Nat) (z : Str), x = .str ⟨#[c]⟩ ∧ y = .str z ∧ Q (.bl (if neg then !decide (c ∈ z.cps.toList) else decide (c ∈ z.cps.toList))) H) ∨ rIn K neg x y H Q) := fun x y v w G F H Qd Q g rx ry h k => by
  unfold qIn at h
  split at h
  · rename_i a z
    split at h
    · rename_i c e
      have ea : a = ⟨#[c]⟩ := by
        cases a with
        | mk cps => exact congrArg Str.mk (Array.ext' e)
      rw [str_rep rx, str_rep ry, ea]
      exact .inl ⟨c, z, rfl, rfl, k.here g rep_bl h⟩
    · exact h.elim
  · cases e : dseq G y with
    | none => rw [e] at h; exact h.elim
    | some ys =>
      rw [e] at h
      obtain ⟨⟨h1, h2⟩, q⟩ := h
      obtain ⟨p, ws, rfl, hs, rs⟩ := dseq_rep g ry e
      obtain ⟨i1, i2⟩ := inV_rep rx h1 rs h2
      exact .inr ⟨p, ws, rfl, hs, flat_rep rx h1, i1, by rw [i2]; exact k.here g rep_bl q⟩
theorem qInT_ok : L2R K (qIn false) (rInAll K) := qIn_ok
theorem qInF_ok : L2R K (qIn true) (rNotInAll K) := qIn_ok
end

/-! ### isinstance -/
def isTy (G : DH) (x : D) (T : String) : Option Bool := match tyD G x with
  | some t => kitB t T
  | none => none
def qIsi : QN := fun ds G Q => match ds with
  | [x, .ty T] => match isTy G x T with
    | some b => Q (.bl b) G
    | none => False
  | _ => False
theorem tyX_of {K : PySem.W.Frag} {H : Hp} {F : Fz} {G : DH} (g : GRel K H F G) {x : D} {v : V} (r : Rep K H F x v) {t : String} (h : tyD G x = some t) : TyX K H v (.type t) := by
  cases x with
  | non => rw [non_rep r]; cases h; exact .base .non
  | bl b => rw [bl_rep r]; cases h; exact .base (.bl b)
  | int i => rw [int_rep r]; cases h; exact .base (.int i)
  | str i => rw [str_rep r]; cases h; exact .base (.str i)
  | ty n => cases h
  | tup xs =>
    cases h
    obtain ⟨a, vs, rfl, hs, _⟩ := tup_rep r
    rcases hs with (hs | ⟨o, hs⟩) | ⟨o, its, n, hk, hc, _⟩
    · exact .base (.tup hs)
    · exact .fTuple hs
    · exact .kTuple hk hc
  | lst xs =>
    cases h
    unfold Rep at r
    obtain ⟨a, vs, rfl, hs, _⟩ := r
    exact .base (.lst hs.2)
  | scr ns =>
    cases h
    unfold Rep at r
    obtain ⟨a, rfl, hs⟩ := r
    rcases hs with hs | ⟨o, hs⟩ | ⟨o, its, n, hk, hc, _⟩
    · exact .base (.lst hs.2)
    · exact .base (.frz hs)
    · exact .kList hk hc
  | ref a =>
    rw [ref_rep r]
    unfold tyD at h
    cases e : G a with
    | none => simp [e] at h
    | some o =>
      obtain ⟨_, ho, q, ro⟩ := g.at_ a o e
      cases o with
      | lst xs => simp [e] at h; subst h; obtain ⟨vs, rfl, _⟩ := ro; exact .base (.lst q)
      | hid φ => simp [e] at h; subst h; obtain ⟨ds, vs, _, rfl, _⟩ := ro; exact .base (.lst q)
      | dct kvs => simp [e] at h; subst h; obtain ⟨ws, rfl, _⟩ := ro; exact .base (.dK q)
      | set S n => simp [e] at h; subst h; cases (show ho = .set S n from ro); exact .set q
theorem qIsi_ok {K : PySem.W.Frag} : LNR K qIsi (rIsi K) := fun ds vs G F H Qd Q g r h k => by
  unfold qIsi at h
  split at h
  · rename_i x T
    cases e : isTy G x T with
    | none => rw [e] at h; exact h.elim
    | some b =>
      rw [e] at h
      obtain ⟨v, w, rfl, r1, r2⟩ := r.of2
      rw [ty_rep r2]
      unfold isTy at e
      cases e2 : tyD G x with
      | none => rw [e2] at e; cases e
      | some t =>
        rw [e2] at e
        exact ⟨v, .ty T, .type t, .type T, b, rfl, .ty T, tyX_of g r1 e2, kit_ty e, k.here g rep_bl h⟩
  · exact h.elim
/-! which built-in types are which -/
section
theorem kb_ii : kitB "int" "int" = some true := by decide +kernel
theorem kb_ib : kitB "int" "bool" = some false := by decide +kernel
theorem kb_is : kitB "int" "str" = some false := by decide +kernel
theorem kb_it : kitB "int" "tuple" = some false := by decide +kernel
theorem kb_il : kitB "int" "list" = some false := by decide +kernel
theorem kb_bi : kitB "bool" "int" = some true := by decide +kernel
theorem kb_bb : kitB "bool" "bool" = some true := by decide +kernel
theorem kb_bs : kitB "bool" "str" = some false := by decide +kernel
theorem kb_bt : kitB "bool" "tuple" = some false := by decide +kernel
theorem kb_bl : kitB "bool" "list" = some false := by decide +kernel
theorem kb_si : kitB "str" "int" = some false := by decide +kernel
theorem kb_sb : kitB "str" "bool" = some false := by decide +kernel
theorem kb_ss : kitB "str" "str" = some true := by decide +kernel
theorem kb_st : kitB "str" "tuple" = some false := by decide +kernel
theorem kb_sl : kitB "str" "list" = some false := by decide +kernel
theorem kb_ti : kitB "tuple" "int" = some false := by decide +kernel
theorem kb_tb : kitB "tuple" "bool" = some false := by decide +kernel
theorem kb_ts : kitB "tuple" "str" = some false := by decide +kernel
theorem kb_tt : kitB "tuple" "tuple" = some true := by decide +kernel
theorem kb_tl : kitB "tuple" "list" = some false := by decide +kernel
theorem kb_li : kitB "list" "int" = some false := by decide +kernel
theorem kb_lb : kitB "list" "bool" = some false := by decide +kernel
theorem kb_ls : kitB "list" "str" = some false := by decide +kernel
theorem kb_lt : kitB "list" "tuple" = some false := by decide +kernel
theorem kb_ll : kitB "list" "list" = some true := by decide +kernel
theorem kb_ni : kitB "NoneType" "int" = some false := by decide +kernel
theorem kb_nb : kitB "NoneType" "bool" = some false := by decide +kernel
theorem kb_ns : kitB "NoneType" "str" = some false := by decide +kernel
theorem kb_nt : kitB "NoneType" "tuple" = some false := by decide +kernel
theorem kb_nl : kitB "NoneType" "list" = some false := by decide +kernel
end
/-! ### len, conversions, sums, sorts -/
def intsOf : List D → Option (List Int)
  | [] => some []
  | .int i :: r => (intsOf r).map (i :: ·)
  | _ :: _ => none
def strsOf : List D → Option (List Str)
  | [] => some []
  | .str i :: r => (strsOf r).map (i :: ·)
  | _ :: _ => none
def blsOf : List D → Option (List Bool)
  | [] => some []
  | .bl i :: r => (blsOf r).map (i :: ·)
  | _ :: _ => none
@[simp] theorem intsOf_map : ∀ ns : List Int, intsOf (ns.map D.int) = some ns
  | [] => rfl
  | n :: ns => by simp [intsOf, intsOf_map ns]
@[simp] theorem strsOf_map : ∀ ns : List Str, strsOf (ns.map D.str) = some ns
  | [] => rfl
  | n :: ns => by simp [strsOf, strsOf_map ns]
@[simp] theorem blsOf_map : ∀ ns : List Bool, blsOf (ns.map D.bl) = some ns
  | [] => rfl
  | n :: ns => by simp [blsOf, blsOf_map ns]
theorem intsOf_eq : ∀ {ds : List D} {ns : List Int}, intsOf ds = some ns → ds = ns.map D.int
  | [], ns, h => by cases h; rfl
  | .int i :: r, ns, h => by
    unfold intsOf at h
    cases e : intsOf r with
    | none => rw [e] at h; cases h
    | some ms => rw [e] at h; cases h; rw [intsOf_eq e]; rfl
  | .non :: _, _, h => by cases h
  | .bl _ :: _, _, h => by cases h
  | .str _ :: _, _, h => by cases h
  | .tup _ :: _, _, h => by cases h
  | .lst _ :: _, _, h => by cases h
  | .scr _ :: _, _, h => by cases h
  | .ref _ :: _, _, h => by cases h
  | .ty _ :: _, _, h => by cases h
theorem strsOf_eq : ∀ {ds : List D} {ns : List Str}, strsOf ds = some ns → ds = ns.map D.str
  | [], ns, h => by cases h; rfl
  | .str i :: r, ns, h => by
    unfold strsOf at h
    cases e : strsOf r with
    | none => rw [e] at h; cases h
    | some ms => rw [e] at h; cases h; rw [strsOf_eq e]; rfl
  | .non :: _, _, h => by cases h
  | .bl _ :: _, _, h => by cases h
  | .int _ :: _, _, h => by cases h
  | .tup _ :: _, _, h => by cases h
  | .lst _ :: _, _, h => by cases h
  | .scr _ :: _, _, h => by cases h
  | .ref _ :: _, _, h => by cases h
  | .ty _ :: _, _, h => by cases h
theorem blsOf_eq : ∀ {ds : List D} {ns : List Bool}, blsOf ds = some ns → ds = ns.map D.bl
  | [], ns, h => by cases h; rfl
  | .bl i :: r, ns, h => by
    unfold blsOf at h
    cases e : blsOf r with
    | none => rw [e] at h; cases h
    | some ms => rw [e] at h; cases h; rw [blsOf_eq e]; rfl
  | .non :: _, _, h => by cases h
  | .int _ :: _, _, h => by cases h
  | .str _ :: _, _, h => by cases h
  | .tup _ :: _, _, h => by cases h
  | .lst _ :: _, _, h => by cases h
  | .scr _ :: _, _, h => by cases h
  | .ref _ :: _, _, h => by cases h
  | .ty _ :: _, _, h => by cases h
def qLen : QN := fun ds G Q => match ds with
  | [.str z] => z.length ≤ sizeLine ∧ Q (.int z.length) G
  | [x] => match dseq G x with
    | some xs => Q (.int xs.length) G
    | none => False
  | _ => False
def qTuple : QN := fun ds G Q => match ds with
  | [x] => match dseq G x with
    | some xs => Q (.tup xs) G
    | none => False
  | _ => False
def qList (m : Bool) : QN := fun ds G Q => match ds with
  | [x] => match dseq G x with
    | some xs => mkL m xs G Q
    | none => False
  | _ => False
def qSum : QN := fun ds G Q => match ds with
  | [x] => match (dlst G x).bind intsOf with
    | some ns => Q (.int ns.sum) G
    | none => False
  | _ => False
def qAll : QN := fun ds G Q => match ds with
  | [x] => match (dlst G x).bind blsOf with
    | some ns => Q (.bl (ns.all id)) G
    | none => False
  | _ => False
def qAny : QN := fun ds G Q => match ds with
  | [x] => match (dlst G x).bind blsOf with
    | some ns => Q (.bl (ns.any id)) G
    | none => False
  | _ => False
def isort (ns : List Int) : List Int := ns.mergeSort (fun a b => decide (a ≤ b))
theorem isort_perm (ns : List Int) : (isort ns).Perm ns := List.mergeSort_perm _ _
theorem isort_sorted (ns : List Int) : (isort ns).Pairwise (· ≤ ·) := by
  have h := List.pairwise_mergeSort (le := fun a b : Int => decide (a ≤ b)) (fun a b c h1 h2 => by simp at *; omega) (fun a b => by simp; omega) ns
  exact h.imp fun h => by simpa using h
theorem isort_eq {ns ms : List Int} (h : ms.Perm ns) (s : ms.Pairwise (· ≤ ·)) : ms = isort ns :=
  List.Perm.eq_of_pairwise (fun x y _ _ h1 h2 => Int.le_antisymm h1 h2) s (isort_sorted ns) (h.trans (isort_perm ns).symm)
def qSorted (m : Bool) : QN := fun ds G Q => match ds with
  | [x] => match (dlst G x).bind intsOf with
    | some ns => mkL m ((isort ns).map D.int) G Q
    | none => False
  | _ => False
def qSortedS (m : Bool) : QN := fun ds G Q => match ds with
  | [x] => match (dlst G x).bind strsOf with
    | some ns => ns.length < 64 ∧ ∀ ys : List Str, ys.Perm ns → PyProof.Rows.sortedS ys = true → mkL m (ys.map D.str) G Q
    | none => False
  | _ => False
def qInt : QN := fun ds G Q => match ds with
  | [.int i] => Q (.int i) G
  | [.bl b] => Q (.int (if b then 1 else 0)) G
  | _ => False
def qStr : QN := fun ds G Q => match ds with
  | [.int i] => i.natAbs.log2 < 1920 ∧ Q (.str (toString i)) G
  | _ => False
def qAbs : QN := fun ds G Q => match ds with
  | [.int i] => Q (.int (if i < 0 then -i else i)) G
  | _ => False
def qMax2 : QN := fun ds G Q => match ds with
  | [.int i, .int j] => Q (.int (if j > i then j else i)) G
  | _ => False
def qMin2 : QN := fun ds G Q => match ds with
  | [.int i, .int j] => Q (.int (if j < i then j else i)) G
  | _ => False
section
variable {K : PySem.W.Frag}
theorem qLen_ok : LNR K qLen (fun xs H Q => ∃ x n, xs = [x] ∧ LenV K x H n ∧ Q (.int n) H) := fun ds vs G F H Qd Q g r h k => by
  unfold qLen at h
  split at h
  · rename_i z
    obtain ⟨v, rfl, r1⟩ := r.of1
    rw [str_rep r1]
    exact ⟨_, z.length, rfl, ⟨h.1, rfl⟩, k.here g rep_int h.2⟩
  · rename_i x _
    obtain ⟨v, rfl, r1⟩ := r.of1
    cases e : dseq G x with
    | none => rw [e] at h; exact h.elim
    | some xs =>
      rw [e] at h
      obtain ⟨a, ws, rfl, hs, rs⟩ := dseq_rep g r1 e
      refine ⟨_, xs.length, rfl, ?_, k.here g rep_int h⟩
      rcases hs with hs | hs
      · exact .inl ⟨ws, hs, rs.length⟩
      · exact .inr ⟨ws, hs, rs.length⟩
  · exact h.elim
theorem qTuple_ok : LNR K qTuple (fun xs H Q => ∃ p ys, xs = [.ref p] ∧ ((SqL K H p ys ∧ ∀ l, H l = none → Q (.ref l) (upd H l (.tup ys))) ∨ (SqT K H p ys ∧ Q (.ref p) H))) := fun ds vs G F H Qd Q g r h k => by
  unfold qTuple at h
  split at h
  · rename_i x
    obtain ⟨v, rfl, r1⟩ := r.of1
    cases e : dseq G x with
    | none => rw [e] at h; exact h.elim
    | some xs =>
      rw [e] at h
      obtain ⟨a, ws, rfl, hs, rs⟩ := dseq_rep g r1 e
      refine ⟨a, ws, rfl, ?_⟩
      rcases hs with hs | hs
      · exact .inl ⟨hs, k.tup g rs h⟩
      · exact .inr ⟨hs, k.here (d := .tup xs) g (by unfold Rep; exact ⟨a, ws, rfl, hs, rs⟩) h⟩
  · exact h.elim
theorem qList_ok {m : Bool} : LNR K (qList m) (fun xs H Q => ∃ p ys, xs = [.ref p] ∧ (SqL K H p ys ∨ SqT K H p ys) ∧ ∀ l, H l = none → Q (.ref l) (upd H l (.lst ys))) := fun ds vs G F H Qd Q g r h k => by
  unfold qList at h
  split at h
  · rename_i x
    obtain ⟨v, rfl, r1⟩ := r.of1
    cases e : dseq G x with
    | none => rw [e] at h; exact h.elim
    | some xs =>
      rw [e] at h
      obtain ⟨a, ws, rfl, hs, rs⟩ := dseq_rep g r1 e
      exact ⟨a, ws, rfl, hs, k.lst g rs h⟩
  · exact h.elim
theorem lstInts {H : Hp} {F : Fz} {G : DH} (g : GRel K H F G) {x : D} {v : V} (r : Rep K H F x v) {ns : List Int} (e : (dlst G x).bind intsOf = some ns) : ∃ a, v = .ref a ∧ SqL K H a (ns.map V.int) := by
  cases e1 : dlst G x with
  | none => rw [e1] at e; cases e
  | some xs =>
    rw [e1] at e
    obtain ⟨a, ws, rfl, hs, rs⟩ := dlst_rep g r e1
    have e2 := intsOf_eq (ds := xs) e
    subst e2
    rw [rs.ints] at hs
    exact ⟨a, rfl, hs⟩
theorem lstStrs {H : Hp} {F : Fz} {G : DH} (g : GRel K H F G) {x : D} {v : V} (r : Rep K H F x v) {ns : List Str} (e : (dlst G x).bind strsOf = some ns) : ∃ a, v = .ref a ∧ SqL K H a (ns.map V.str) := by
  cases e1 : dlst G x with
  | none => rw [e1] at e; cases e
  | some xs =>
    rw [e1] at e
    obtain ⟨a, ws, rfl, hs, rs⟩ := dlst_rep g r e1
    have e2 := strsOf_eq (ds := xs) e
    subst e2
    rw [rs.strs] at hs
    exact ⟨a, rfl, hs⟩
theorem lstBls {H : Hp} {F : Fz} {G : DH} (g : GRel K H F G) {x : D} {v : V} (r : Rep K H F x v) {ns : List Bool} (e : (dlst G x).bind blsOf = some ns) : ∃ a, v = .ref a ∧ SqL K H a (ns.map V.bl) := by
  cases e1 : dlst G x with
  | none => rw [e1] at e; cases e
  | some xs =>
    rw [e1] at e
    obtain ⟨a, ws, rfl, hs, rs⟩ := dlst_rep g r e1
    have e2 := blsOf_eq (ds := xs) e
    subst e2
    rw [rs.bls] at hs
    exact ⟨a, rfl, hs⟩
theorem qSum_ok : LNR K qSum (rSum K) := fun ds vs G F H Qd Q g r h k => by
  unfold qSum at h
  split at h
  · rename_i x
    obtain ⟨v, rfl, r1⟩ := r.of1
    cases e : (dlst G x).bind intsOf with
    | none => rw [e] at h; exact h.elim
    | some ns => rw [e] at h; obtain ⟨a, rfl, hs⟩ := lstInts g r1 e; exact ⟨a, ns, rfl, hs, k.here g rep_int h⟩
  · exact h.elim
theorem qAll_ok : LNR K qAll (rAll K) := fun ds vs G F H Qd Q g r h k => by
  unfold qAll at h
  split at h
  · rename_i x
    obtain ⟨v, rfl, r1⟩ := r.of1
    cases e : (dlst G x).bind blsOf with
    | none => rw [e] at h; exact h.elim
    | some ns => rw [e] at h; obtain ⟨a, rfl, hs⟩ := lstBls g r1 e; exact ⟨a, ns, rfl, hs, k.here g rep_bl h⟩
  · exact h.elim
theorem qAny_ok : LNR K qAny (rAny K) := fun ds vs G F H Qd Q g r h k => by
  unfold qAny at h
  split at h
  · rename_i x
    obtain ⟨v, rfl, r1⟩ := r.of1
    cases e : (dlst G x).bind blsOf with
    | none => rw [e] at h; exact h.elim
    | some ns => rw [e] at h; obtain ⟨a, rfl, hs⟩ := lstBls g r1 e; exact ⟨a, ns, rfl, hs, k.here g rep_bl h⟩
  · exact h.elim
theorem qSorted_ok {m : Bool} : LNR K (qSorted m) (rSortedI K) := fun ds vs G F H Qd Q g r h k => by
  unfold qSorted at h
  split at h
  · rename_i x
    obtain ⟨v, rfl, r1⟩ := r.of1
    cases e : (dlst G x).bind intsOf with
    | none => rw [e] at h; exact h.elim
    | some ns =>
      rw [e] at h
      obtain ⟨a, rfl, hs⟩ := lstInts g r1 e
      refine ⟨a, ns, rfl, hs, fun ms p hp hso hn => ?_⟩
      rw [isort_eq hp hso]
      exact k.lst g Reps.ofInts h p hn
  · exact h.elim
theorem qSortedS_ok {m : Bool} : LNR K (qSortedS m) (rSortedS K) := fun ds vs G F H Qd Q g r h k => by
  unfold qSortedS at h
  split at h
  · rename_i x
    obtain ⟨v, rfl, r1⟩ := r.of1
    cases e : (dlst G x).bind strsOf with
    | none => rw [e] at h; exact h.elim
    | some ns =>
      rw [e] at h
      obtain ⟨a, rfl, hs⟩ := lstStrs g r1 e
      exact ⟨a, ns, rfl, hs, h.1, fun ms p hp hso hn => k.lst g Reps.ofStrs (h.2 ms hp hso) p hn⟩
  · exact h.elim
theorem qInt_ok : LNR K qInt (fun xs H Q => (∃ i, xs = [.int i] ∧ Q (.int i) H) ∨ ∃ k, xs = [.bl k] ∧ Q (.int (if k then 1 else 0)) H) := fun ds vs G F H Qd Q g r h k => by
  unfold qInt at h
  split at h
  · obtain ⟨v, rfl, r1⟩ := r.of1
    rw [int_rep r1]; exact .inl ⟨_, rfl, k.here g rep_int h⟩
  · obtain ⟨v, rfl, r1⟩ := r.of1
    rw [bl_rep r1]; exact .inr ⟨_, rfl, k.here g rep_int h⟩
  · exact h.elim
theorem qStr_ok : LNR K qStr (fun xs H Q => ∃ i, xs = [.int i] ∧ i.natAbs.log2 < 1920 ∧ Q (.str (toString i)) H) := fun ds vs G F H Qd Q g r h k => by
  unfold qStr at h
  split at h
  · obtain ⟨v, rfl, r1⟩ := r.of1
    rw [int_rep r1]; exact ⟨_, rfl, h.1, k.here g rep_str h.2⟩
  · exact h.elim
theorem qAbs_ok : LNR K qAbs (fun xs H Q => ∃ i, xs = [.int i] ∧ Q (.int (if i < 0 then -i else i)) H) := fun ds vs G F H Qd Q g r h k => by
  unfold qAbs at h
  split at h
  · obtain ⟨v, rfl, r1⟩ := r.of1
    rw [int_rep r1]; exact ⟨_, rfl, k.here g rep_int h⟩
  · exact h.elim
theorem qMax2_ok : LNR K qMax2 (fun xs H Q => ∃ i j, xs = [.int i, .int j] ∧ Q (.int (if j > i then j else i)) H) := fun ds vs G F H Qd Q g r h k => by
  unfold qMax2 at h
  split at h
  · obtain ⟨v, w, rfl, r1, r2⟩ := r.of2
    rw [int_rep r1, int_rep r2]; exact ⟨_, _, rfl, k.here g rep_int h⟩
  · exact h.elim
theorem qMin2_ok : LNR K qMin2 (fun xs H Q => ∃ i j, xs = [.int i, .int j] ∧ Q (.int (if j < i then j else i)) H) := fun ds vs G F H Qd Q g r h k => by
  unfold qMin2 at h
  split at h
  · obtain ⟨v, w, rfl, r1, r2⟩ := r.of2
    rw [int_rep r1, int_rep r2]; exact ⟨_, _, rfl, k.here g rep_int h⟩
  · exact h.elim
end

/-! ### methods -/
def qJoin : QM := fun x ds G Q => match x, ds with
  | .str a, [y] => match (dseq G y).bind strsOf with
    | some ys => (ys.map (·.length)).sum + ys.length * a.length ≤ 16777216 ∧ Q (.str (Txt.join a ys)) G
    | none => False
  | _, _ => False
def qAppend : QM := fun x ds G Q => match x, ds with
  | .ref p, [y] => match G p with
    | some (.lst xs) => xs.length < sizeLine ∧ Q .non (dupd G p (.lst (xs ++ [y])))
    | _ => False
  | _, _ => False
def qPop : QM := fun x ds G Q => match x, ds with
  | .ref p, [] => match G p with
    | some (.lst xs) => match xs[xs.length - 1]? with
      | some y => Q y (dupd G p (.lst xs.dropLast))
      | none => False
    | _ => False
  | _, _ => False
def qExtend : QM := fun x ds G Q => match x, ds with
  | .ref p, [y] => match G p, dlsh G y with
    | some (.lst xs), some ys => xs.length + ys.length ≤ sizeLine ∧ Q .non (dupd G p (.lst (xs ++ ys)))
    | _, _ => False
  | _, _ => False
section
variable {K : PySem.W.Frag}
theorem qJoin_ok : LMR K qJoin (fun x xs H Q => ∃ a p, ∃ ys : List Str, x = .str a ∧ xs = [.ref p] ∧ (SqL K H p (ys.map V.str) ∨ SqT K H p (ys.map V.str)) ∧ (ys.map (·.length)).sum + ys.length * a.length ≤ 16777216 ∧ Q (.str (Txt.join a ys)) H) := fun x v ds vs G F H Qd Q g rx r h k => by
  unfold qJoin at h
  split at h
  · rename_i a y
    obtain ⟨w, rfl, r1⟩ := r.of1
    rw [str_rep rx]
    cases e1 : dseq G y with
    | none => rw [e1] at h; exact h.elim
    | some xs =>
      rw [e1] at h
      simp only [Option.bind_some] at h
      cases e2 : strsOf xs with
      | none => rw [e2] at h; exact h.elim
      | some ys =>
        rw [e2] at h
        obtain ⟨p, ws, rfl, hs, rs⟩ := dseq_rep g r1 e1
        have e3 := strsOf_eq e2
        subst e3
        rw [rs.strs] at hs
        exact ⟨a, p, ys, rfl, rfl, hs, h.1, k.here g rep_str h.2⟩
  · exact h.elim
theorem qAppend_ok : LMR K qAppend rAppend := fun x v ds vs G F H Qd Q g rx r h k => by
  unfold qAppend at h
  split at h
  · rename_i p y
    obtain ⟨w, rfl, r1⟩ := r.of1
    rw [ref_rep rx]
    split at h
    · rename_i xs e
      obtain ⟨_, ho, q, ws, rfl, rs⟩ := g.at_ p _ e
      obtain ⟨x1, g1⟩ := g.put (o' := .lst (xs ++ [y])) (ho := .lst (ws ++ [w])) e ⟨_, rfl, rs.append (.cons r1 .nil)⟩
      exact ⟨p, ws, w, rfl, rfl, q, by rw [← rs.length]; exact h.1, k _ _ F _ _ x1 g1 rep_non h.2⟩
    · exact h.elim
  · exact h.elim
theorem qPop_ok : LMR K qPop rPop := fun x v ds vs G F H Qd Q g rx r h k => by
  unfold qPop at h
  split at h
  · rename_i p
    rw [ref_rep rx, r.inv0]
    split at h
    · rename_i xs e
      split at h
      · rename_i y ey
        obtain ⟨_, ho, q, ws, rfl, rs⟩ := g.at_ p _ e
        obtain ⟨w, ew, rw'⟩ := rs.get ey
        obtain ⟨x1, g1⟩ := g.put (o' := .lst xs.dropLast) (ho := .lst ws.dropLast) e ⟨_, rfl, rs.dropLast⟩
        exact ⟨p, ws, w, rfl, rfl, q, by rw [← rs.length]; exact ew, k _ _ F _ _ x1 g1 (x1.rep _ _ rw') h⟩
      · exact h.elim
    · exact h.elim
  · exact h.elim
theorem qExtend_ok : LMR K qExtend rExtend := fun x v ds vs G F H Qd Q g rx r h k => by
  unfold qExtend at h
  split at h
  · rename_i p y
    obtain ⟨w, rfl, r1⟩ := r.of1
    rw [ref_rep rx]
    split at h
    · rename_i xs ys e ey
      obtain ⟨_, ho, q, ws, rfl, rs⟩ := g.at_ p _ e
      obtain ⟨b, us, rfl, hb, ru⟩ := dlsh_rep g r1 ey
      obtain ⟨x1, g1⟩ := g.put (o' := .lst (xs ++ ys)) (ho := .lst (ws ++ us)) e ⟨_, rfl, rs.append ru⟩
      exact ⟨p, b, ws, us, rfl, rfl, q, hb, by rw [← rs.length, ← ru.length]; exact h.1, k _ _ F _ _ x1 g1 rep_non h.2⟩
    · exact h.elim
  · exact h.elim
end

/-! ### places and slices -/
def qIx : Q2 := fun x y G Q => match x, y with
  | .str z, .int i => z.length ≤ sizeLine ∧ match atI z.cps.toList i with
    | some c => Q (.str ⟨#[c]⟩) G
    | none => False
  | x, .int i => match dseq G x with
    | some xs => match atI xs i with
      | some d => Q d G
      | none => False
    | none => False
  | _, _ => False
def cutL {α : Type} (xs : List α) (lo hi : Option Int) : List α := (xs.drop (HT.sIx xs.length 0 lo)).take (HT.sIx xs.length xs.length hi - HT.sIx xs.length 0 lo)
def qSl (m : Bool) : QS := fun x lo hi G Q => match x with
  | .str z => z.length ≤ sizeLine ∧ Q (.str (cutS z lo hi)) G
  | .tup xs => Q (.tup (cutL xs lo hi)) G
  | x => match dlst G x with
    | some xs => mkL m (cutL xs lo hi) G Q
    | none => False
abbrev rSlAll (K : PySem.W.Frag) : V → Option Int → Option Int → Hp → VK → Prop := fun x lo hi H Q => rSlL K x lo hi H Q ∨ (rSlA K x lo hi H Q ∨ rSlS x lo hi H Q)
theorem sl_all {X : Cx} : SlR X (rSlAll X.K) := sl_list.or (sl_tupA.or sl_str)
section
variable {K : PySem.W.Frag}
theorem qIx_ok : L2R K qIx (rIx K) := fun x y v w G F H Qd Q g rx ry h k => by
  have seqs : ∀ i xs d, dseq G x = some xs → atI xs i = some d → w = .int i → Qd d G → rIx K v w H Q := fun i xs d e1 e2 ew q => by
    obtain ⟨p, ws, rfl, hs, rs⟩ := dseq_rep g rx e1
    obtain ⟨u, eu, ru⟩ := rs.atI e2
    rcases hs with hs | hs
    · exact .inl ⟨p, ws, i, u, rfl, ew, hs, eu, k.here g ru q⟩
    · exact .inr (.inl ⟨p, ws, i, u, rfl, ew, hs, eu, k.here g ru q⟩)
  unfold qIx at h
  split at h
  · rename_i z i
    obtain ⟨h1, h2⟩ := h
    rw [str_rep rx, int_rep ry]
    split at h2
    · rename_i c e
      exact .inr (.inr ⟨z, i, c, rfl, rfl, h1, e, k.here g rep_str h2⟩)
    · exact h2.elim
  · rename_i i _
    split at h
    · rename_i xs e1
      split at h
      · rename_i d e2
        exact seqs i xs d e1 e2 (int_rep ry) h
      · exact h.elim
    · exact h.elim
  · exact h.elim
theorem cutL_rep {H : Hp} {F : Fz} {ds : List D} {vs : List V} (r : Reps K H F ds vs) (lo hi : Option Int) : Reps K H F (cutL ds lo hi) (cutV vs lo hi) := by
  unfold cutL cutV
  rw [← r.length]
  exact (r.drop _).take _
theorem qSl_ok {m : Bool} : LSR K (qSl m) (rSlAll K) := fun x v lo hi G F H Qd Q g rx h k => by
  unfold qSl at h
  split at h
  · rename_i z
    rw [str_rep rx]
    exact .inr (.inr ⟨z, rfl, h.1, k.here g rep_str h.2⟩)
  · rename_i xs
    obtain ⟨a, vs, rfl, hs, rs⟩ := tup_rep rx
    refine .inr (.inl ⟨a, vs, rfl, hs, fun ⟨e1, e2⟩ => ?_, fun _ => k.tup g (cutL_rep rs lo hi) h⟩)
    have e : cutL xs lo hi = xs := by
      unfold cutL
      rw [rs.length, e1, e2, ← rs.length]
      simp
    rw [e] at h
    exact k.here (d := .tup xs) g rx h
  · cases e : dlst G x with
    | none => rw [e] at h; exact h.elim
    | some xs =>
      rw [e] at h
      obtain ⟨a, vs, rfl, hs, rs⟩ := dlst_rep g rx e
      exact .inl ⟨a, vs, rfl, hs, k.lst g (cutL_rep rs lo hi) h⟩
end
/-- xs[::-1], a list -/
def dRevL (m : Bool) (te : DTE) : DTE := fun W σ G Q => te W σ G fun x G1 => match dlst G1 x with
  | some xs => mkL m xs.reverse G1 Q
  | none => False
theorem de_revL {X : Cx} {Γ : Amb} {e : Expr} {te : DTE} {m : Bool} {k : Nat} {p1 p2 p3 pos : Pos} (he : DE X Γ e te) : DE X Γ (.Subscript e (.Slice none none (some (.UnaryOp .USub (.Constant (.int 1) k p1) p2)) p3) pos) (dRevL m te) :=
  pe_of (pe_revL he) fun σ H Q ⟨σd, G, F, Wd, Qd, w, hp, cv, ht, k⟩ => ⟨σd, G, F, Wd, _, w, hp, cv, ht, fun x G1 F1 v H1 e1 g1 r1 q1 => by
    cases e : dlst G1 x with
    | none => rw [e] at q1; exact q1.elim
    | some xs =>
      rw [e] at q1
      obtain ⟨a, vs, rfl, hs, rs⟩ := dlst_rep g1 r1 e
      exact ⟨a, vs, rfl, hs, Kont.lst (fun d G' F' v' H' e3 g3 r3 q3 => k d G' F' v' H' (e1.trans e3) g3 r3 q3) g1 rs.reverse q1⟩⟩
end DL

/-! D8: zip and enumerate over lists, tuples and texts in any mix. -/
namespace DL
open PySem PySem.Spec L2

/-- its iterator at turn i -/
def IsIt (h : Heap) (ty : String) (u : Value) (it : Addr) (i : Nat) : Prop := ∃ o, h.get? it = some o ∧ o.cls = .type ty ∧ o.data = .fields #[u, .int i 0]
def sty (k : Nat) (u : Value) : String := match k, u with
  | 0, _ => "list_iterator"
  | 1, _ => "tuple_iterator"
  | _, .str z _ => PySem.strIterType z
  | _, _ => ""
/-- of which kind (0 a list, 1 a tuple, 2 a text) -/
inductive SrcK (K : PySem.W.Frag) (H : Hp) : Nat → V → List V → Prop
  | lst {a : Addr} {vs : List V} (h : SqL K H a vs) : SrcK K H 0 (.ref a) vs
  | tup {a : Addr} {vs : List V} (h : SqT K H a vs) : SrcK K H 1 (.ref a) vs
  | str (z : Str) : SrcK K H 2 (.str z) (z.cps.toList.map fun c => .str ⟨#[c]⟩)
theorem IsIt.at {h h' : Heap} {ty : String} {u : Value} {it : Addr} {i : Nat} (x : IsIt h ty u it i) (k : ∀ o, h.get? it = some o → h'.get? it = some o) : IsIt h' ty u it i := let ⟨o, e, r⟩ := x; ⟨o, k o e, r⟩
section
variable {X : Cx} {pins : List (Addr × Obj)} {σ : L2.St} {H : Hp} {s : Shared} {K : PySem.W.Frag}
/-- how it is drawn from -/
theorem SrcK.draws (I : L2.Inv X pins σ H s) {k : Nat} {x : V} {vs : List V} {u : Value} {it : Addr} (h : SrcK X.K H k x vs) (r : RelV x u) (ne : ∀ a, u = .ref a → a ≠ it) (hh : X.A.handled = none) : ∃ (fp : List Addr) (P : Nat → Value → Prop) (St : Nat → Heap → Prop),
    Draws X.prog X.w X.A.in1 it fp vs.length P St ∧ (∀ b, b ∈ fp → b = it ∨ u = .ref b) ∧ it ∈ fp ∧ (∀ i, IsIt s.heap (sty k u) u it i → St i s.heap) ∧ (∀ i h', St i h' → IsIt h' (sty k u) u it i) ∧ ∀ i y, P i y → ∃ v, vs[i]? = some v ∧ RelV v y := by
  have hh1 : X.A.in1.handled = none := hh
  cases h with
  | @lst a _ hs =>
    cases r
    obtain ⟨its, rv, pl, _⟩ := I.list hs
    have d := Draws.list (prog := X.prog) (w := X.w) hh1 it a (ne a rfl) its.toArray
    have e : its.toArray.size = vs.length := by rw [rv.length]; simp
    rw [e] at d
    refine ⟨_, _, _, d, fun b hb => ?_, by simp, fun i q => ⟨q, pl.isList⟩, fun i h' q => q.1, fun i y q => ?_⟩
    · simp at hb
      rcases hb with hb | hb
      · exact .inl hb
      · exact .inr (by rw [hb])
    · have q' : its[i]? = some y := by simpa using q
      cases ev : vs[i]? with
      | none => rw [rv.none_of ev] at q'; cases q'
      | some v => obtain ⟨u2, e2, r2⟩ := rv.get ev; rw [e2] at q'; cases q'; exact ⟨v, rfl, r2⟩
  | @tup a _ hs =>
    cases r
    obtain ⟨its, rv, pl, _⟩ := I.tuple hs
    have d := Draws.tuple (prog := X.prog) (w := X.w) hh1 it a (ne a rfl) its.toArray
    have e : its.toArray.size = vs.length := by rw [rv.length]; simp
    rw [e] at d
    refine ⟨_, _, _, d, fun b hb => ?_, by simp, fun i q => ⟨q, pl⟩, fun i h' q => q.1, fun i y q => ?_⟩
    · simp at hb
      rcases hb with hb | hb
      · exact .inl hb
      · exact .inr (by rw [hb])
    · have q' : its[i]? = some y := by simpa using q
      cases ev : vs[i]? with
      | none => rw [rv.none_of ev] at q'; cases q'
      | some v => obtain ⟨u2, e2, r2⟩ := rv.get ev; rw [e2] at q'; cases q'; exact ⟨v, rfl, r2⟩
  | str z =>
    obtain ⟨t, rfl⟩ := r
    have d := Draws.text (prog := X.prog) (w := X.w) hh1 it z t
    have e : z.cps.size = (z.cps.toList.map fun c => V.str ⟨#[c]⟩).length := by simp
    rw [e] at d
    refine ⟨_, _, _, d, fun b hb => .inl (by simpa using hb), by simp, fun i q => q, fun i h' q => q, fun i y q => ?_⟩
    obtain ⟨c, t', q1, rfl⟩ := q
    refine ⟨.str ⟨#[c]⟩, ?_, ⟨t', rfl⟩⟩
    rw [List.getElem?_map]
    have : z.cps.toList[i]? = some c := by simpa using q1
    rw [this]; rfl
theorem SrcK.inj (I : L2.Inv X pins σ H s) {k : Nat} {x : V} {vs ws : List V} (h : SrcK X.K H k x vs) (h' : SrcK X.K H k x ws) : vs = ws := by
  cases h with
  | lst h => cases h' with | lst h' => exact I.list_inj h h'
  | tup h => cases h' with | tup h' => exact I.tuple_inj h h'
  | str z => cases h'; rfl
end
structure ZApart (z TI TO i1 i2 : Addr) (u1 u2 : Value) : Prop where
  TIz : TI ≠ z
  TOz : TO ≠ z
  TITO : TI ≠ TO
  TIi1 : TI ≠ i1
  TIi2 : TI ≠ i2
  TOi1 : TO ≠ i1
  TOi2 : TO ≠ i2
  zi1 : z ≠ i1
  zi2 : z ≠ i2
  i12 : i1 ≠ i2
  s1 : ∀ a, u1 = .ref a → a ≠ z ∧ a ≠ TO ∧ a ≠ i1 ∧ a ≠ i2
  s2 : ∀ a, u2 = .ref a → a ≠ z ∧ a ≠ TO ∧ a ≠ i1 ∧ a ≠ i2
theorem ZApart.sep {z TI TO i1 i2 : Addr} {u1 u2 : Value} (D : ZApart z TI TO i1 i2 u1 u2) {fp1 fp2 : List Addr} (h1 : ∀ b, b ∈ fp1 → b = i1 ∨ u1 = .ref b) (h2 : ∀ b, b ∈ fp2 → b = i2 ∨ u2 = .ref b) (m1 : i1 ∈ fp1) (m2 : i2 ∈ fp2) : ZipSep2 z TI TO i1 i2 fp1 fp2 where
  TIz := D.TIz
  TOz := D.TOz
  TITO := D.TITO
  TIi1 := D.TIi1
  mem1 := m1
  zf1 := fun h => (h1 _ h).elim D.zi1 fun e => (D.s1 _ e).1 rfl
  Tf1 := fun h => (h1 _ h).elim D.TOi1 fun e => (D.s1 _ e).2.1 rfl
  TIi2 := D.TIi2
  mem2 := m2
  zf2 := fun h => (h2 _ h).elim D.zi2 fun e => (D.s2 _ e).1 rfl
  Tf2 := fun h => (h2 _ h).elim D.TOi2 fun e => (D.s2 _ e).2.1 rfl
  sep1_2 := fun h => (h2 _ h).elim D.i12 fun e => (D.s2 _ e).2.2.1 rfl
  sep2_1 := fun h => (h1 _ h).elim (fun e => D.i12 e.symm) fun e => (D.s1 _ e).2.2.2 rfl
/-- pairs of what two things yield -/
def ItzU (K : PySem.W.Frag) (k1 k2 : Nat) (x y : V) : It :=
  ⟨fun i H => ∃ (xs ys : List V) (a b : V), SrcK K H k1 x xs ∧ SrcK K H k2 y ys ∧ xs[i]? = some a ∧ ys[i]? = some b,
    fun i H v H' => ∃ T a b, v = .ref T ∧ H T = none ∧ H' = upd H T (.tup [a, b]) ∧ (∀ xs, SrcK K H k1 x xs → xs[i]? = some a) ∧ ∀ ys, SrcK K H k2 y ys → ys[i]? = some b,
    fun i H => ∃ xs ys : List V, SrcK K H k1 x xs ∧ SrcK K H k2 y ys ∧ i ≤ xs.length ∧ i ≤ ys.length ∧ (i = xs.length ∨ i = ys.length)⟩
theorem turn_zipU {P : Program} {w : World} {K : PySem.W.Frag} {elts : List Expr} {kk : Nat} {tpos : Pos} {z TI TO i1 i2 : Addr} {k1 k2 : Nat} {x y : V} {u1 u2 : Value} (D : ZApart z TI TO i1 i2 u1 u2) (rx : RelV x u1) (ry : RelV y u2) :
    Turn P w K (.Tuple elts kk tpos) (ItzU K k1 k2 x y) [z, TI, TO, i1, i2] z (fun i h => IsZip h z TI TO .none ∧ IsTupOf2 h TI (.ref i1) (.ref i2) ∧ (∃ a b, IsTupOf2 h TO a b) ∧ IsIt h (sty k1 u1) u1 i1 i ∧ IsIt h (sty k2 u2) u2 i2 i) where
  mem := by simp
  obj := fun i h st c hc => by
    obtain ⟨hz, hTI, ⟨_, _, hTO⟩, ⟨o1, e1, _, d1⟩, ⟨o2, e2, _, d2⟩⟩ := st
    simp only [List.mem_cons, List.not_mem_nil, or_false] at hc
    rcases hc with rfl | rfl | rfl | rfl | rfl
    · exact ⟨_, hz, fun v q => nomatch q⟩
    · exact ⟨_, hTI, fun v q => nomatch q⟩
    · exact ⟨_, hTO, fun v q => nomatch q⟩
    · exact ⟨o1, e1, fun v q => by rw [d1] at q; cases q⟩
    · exact ⟨o2, e2, fun v q => by rw [d2] at q; cases q⟩
  keep := fun i h h' st k => by
    obtain ⟨hz, hTI, ⟨_, _, hTO⟩, h1, h2⟩ := st
    exact ⟨k z (by simp) _ hz, k TI (by simp) _ hTI, ⟨_, _, k TO (by simp) _ hTO⟩, h1.at (k i1 (by simp)), h2.at (k i2 (by simp))⟩
  item := by
    intro X hP hw hK hc i pins s σ H E I hf st hg
    subst hP hw hK
    obtain ⟨hz, hTI, ⟨a0, b0, hTO⟩, h1, h2⟩ := st
    obtain ⟨xs, ys, a, b, hx, hy, ha, hb⟩ := hg
    obtain ⟨fp1, P1, St1, D1, f1, m1, i1a, i1b, p1⟩ := hx.draws I rx (fun c e => (D.s1 c e).2.2.1) (I.ok.hd hc)
    obtain ⟨fp2, P2, St2, D2, f2, m2, i2a, i2b, p2⟩ := hy.draws I ry (fun c e => (D.s2 c e).2.2.2) (I.ok.hd hc)
    have hl1 : i < xs.length := (List.getElem?_eq_some_iff.mp ha).1
    have hl2 : i < ys.length := (List.getElem?_eq_some_iff.mp hb).1
    have hzl : z < s.heap.objs.size := Heap.lt_size hz
    refine wpAny_pyNext_zipD2_item (D.sep f1 f2 m1 m2) D1 D2 hz hTI hTO (i1a i h1) (i2a i h2) hl1 hl2 fun w1 w2 h' tk q1 q2 z' TO' s1' s2' hT hsz hk => ?_
    obtain ⟨a', ea, ra⟩ := p1 _ _ q1
    obtain ⟨b', eb, rb⟩ := p2 _ _ q2
    rw [ha] at ea; cases ea
    rw [hb] at eb; cases eb
    refine ⟨_, rfl, wpAny_letOwnedTupleGo_zip (s := { s with heap := h', toks := tk }) z' fun h'' z'' sb => ?_⟩
    have hT2 : h''.get? s.heap.objs.size = some { cls := .type "tuple", data := .seq #[w1, w2] } := (sb.2 _ (Nat.ne_of_gt hzl)).trans hT
    have new : ObjOk X.prog X.w (upd H s.heap.objs.size (.tup [a, b])) h'' s.heap.objs.size (.tup [a, b]) :=
      ⟨by show 2 ≤ sizeLine; decide, [w1, w2], .cons ra (.cons rb .nil), ⟨_, hT2, rfl, _, rfl⟩⟩
    have I1 : Inv X pins σ (upd H s.heap.objs.size (.tup [a, b])) { s with heap := h'', toks := tk } :=
      I.turnedNew (t' := tk) (ch := [z, TI, TO, i1, i2]) (fun c o hn q => (sb.2 c (fun e => hn (by simp [e]))).trans (hk c o (fun e => hn (by simp [e])) (fun e => hn (by simp [e])) (fun e => hn (by simp [e])) (fun e => hn (by simp [e])) q)) hf (Nat.le_refl _) new
    refine ⟨.ref s.heap.objs.size, _, I1, rfl, ⟨_, a, b, rfl, I.hok.fresh (Nat.le_refl _), rfl, fun l hl => by rw [hl.inj I hx]; exact ha, fun l hl => by rw [hl.inj I hy]; exact hb⟩, ⟨z'', ?_, ⟨w1, w2, ?_⟩, ?_, ?_⟩, fun c hcm => ?_⟩
    · exact (sb.2 _ D.TIz).trans (hk _ _ D.TIz D.TITO D.TIi1 D.TIi2 hTI)
    · exact (sb.2 _ D.TOz).trans TO'
    · exact (i1b _ _ s1').at fun o q => (sb.2 _ (Ne.symm D.zi1)).trans q
    · exact (i2b _ _ s2').at fun o q => (sb.2 _ (Ne.symm D.zi2)).trans q
    · have hlt : c < s.heap.objs.size := by
        simp only [List.mem_cons, List.not_mem_nil, or_false] at hcm
        rcases hcm with rfl | rfl | rfl | rfl | rfl
        · exact hzl
        · exact Heap.lt_size hTI
        · exact Heap.lt_size hTO
        · obtain ⟨_, e1, _⟩ := h1; exact Heap.lt_size e1
        · obtain ⟨_, e2, _⟩ := h2; exact Heap.lt_size e2
      rw [upd_ne (Nat.ne_of_lt hlt)]
      exact (hf c hcm).1
  done := by
    intro X hP hw hK hc i pins s σ H E I hf st hg
    subst hP hw hK
    obtain ⟨hz, hTI, ⟨a0, b0, hTO⟩, h1, h2⟩ := st
    obtain ⟨xs, ys, hx, hy, hl1, hl2, hend⟩ := hg
    obtain ⟨fp1, P1, St1, D1, f1, m1, i1a, i1b, p1⟩ := hx.draws I rx (fun c e => (D.s1 c e).2.2.1) (I.ok.hd hc)
    obtain ⟨fp2, P2, St2, D2, f2, m2, i2a, i2b, p2⟩ := hy.draws I ry (fun c e => (D.s2 c e).2.2.2) (I.ok.hd hc)
    exact wpAny_pyNext_zipD2_end (D.sep f1 f2 m1 m2) D1 D2 hz hTI hTO (i1a i h1) (i2a i h2) hl1 hl2 hend fun h' tk hk => ⟨rfl, I.turnedL (t' := tk) (ch := [z, TI, TO, i1, i2]) (fun c o hn q =>
      hk c o (fun e => hn (by simp [e])) (fun e => hn (by simp [e])) (fun e => hn (by simp [e])) (fun e => hn (by simp [e])) q) hf⟩
  self := fun A i s Q E st h => wpAny_pyIter_zip st.1 h
theorem SrcK.starts {X : Cx} {pins : List (Addr × Obj)} {σ : L2.St} {H : Hp} {s : Shared} (I : L2.Inv X pins σ H s) {k : Nat} {x : V} {vs : List V} {u : Value} (h : SrcK X.K H k x vs) (r : RelV x u) : ∃ (o : Obj) (Hb : Heap → Prop), Begins u o Hb ∧ Hb s.heap ∧ o.cls = .type (sty k u) ∧ o.data = .fields #[u, .int 0 0] ∧ ∀ a, u = .ref a → a < s.heap.objs.size := by
  cases h with
  | @lst a _ hs =>
    cases r
    obtain ⟨its, rv, pl, _⟩ := I.list hs
    exact ⟨_, _, begins_list a its.toArray, pl.isList, rfl, rfl, fun b e => by cases e; exact pl.lt⟩
  | @tup a _ hs =>
    cases r
    obtain ⟨its, rv, pl, _⟩ := I.tuple hs
    exact ⟨_, _, begins_tuple a its.toArray, pl, rfl, rfl, fun b e => by cases e; obtain ⟨o, ho, _⟩ := pl; exact Heap.lt_size ho⟩
  | str z =>
    obtain ⟨t, rfl⟩ := r
    exact ⟨_, _, begins_text z t, trivial, rfl, rfl, fun b e => by cases e⟩
def iZipU (K : PySem.W.Frag) (ta : TA) : TI := fun σ H R => ta σ H fun vs H1 => ∃ x y k1 k2 xs ys, vs = [x, y] ∧ SrcK K H1 k1 x xs ∧ SrcK K H1 k2 y ys ∧ R (ItzU K k1 k2 x y) H1
theorem pi_zipU {X : Cx} {e e2 : Expr} {ta : TA} {p pos tpos : Pos} {elts : List Expr} {kk : Nat} (hg : Gl X "zip") (hm : X.mg "zip" = none) (ha : PA X [e, e2] ta)
    (hs : starEach [e, e2] X.env = (false, eval e X.env) :: starEach [e2] X.env := by rfl) (hpl : (backTo pos (starEach [e2] X.env)).any (·.1) = false := by rfl) :
    PI X (.Tuple elts kk tpos) (.Call (.Name "zip" p) [e, e2] [] pos) (iZipU X.K ta) := by
  constructor
  intro pins s σ H R I h
  refine PyProof.Rows.Call_ (ld_blt I hg hm PyProof.Rows.boot_zip (PyProof.Rows.callWith_type1 (thn (ha.run pos pins s σ H _ I h) fun us s1 ⟨vs, H1, I1, r1, q1⟩ => ?_) hs hpl))
  obtain ⟨x, y, k1, k2, xs, ys, rfl, h1, h2, q⟩ := q1
  obtain ⟨u1, u2, rfl, rx, ry⟩ := vals2 r1
  obtain ⟨o1, B1, b1, c1, d1, e1, l1⟩ := h1.starts I1 rx
  obtain ⟨o2, B2, b2, c2, d2, e2', l2⟩ := h2.starts I1 ry
  refine zip_begins2 b1 b2 c1 c2 fun h' hz hTI hTO g1 g2 hsz hk => wpAny_pyIter_zip hz ?_
  have I2 : L2.Inv X pins σ H1 { s1 with heap := h' } := I1.kept (t' := s1.toks) hk
  have D : ZApart (s1.heap.objs.size + 4) (s1.heap.objs.size + 2) (s1.heap.objs.size + 3) s1.heap.objs.size (s1.heap.objs.size + 1) u1 u2 := by
    have gt : ∀ (a n : Nat), a < n → a ≠ n + 4 ∧ a ≠ n + 3 ∧ a ≠ n ∧ a ≠ n + 1 := fun a n h => by omega
    have ap : ∀ n : Nat, n + 2 ≠ n + 4 ∧ n + 3 ≠ n + 4 ∧ n + 2 ≠ n + 3 ∧ n + 2 ≠ n ∧ n + 2 ≠ n + 1 ∧ n + 3 ≠ n ∧ n + 3 ≠ n + 1 ∧ n + 4 ≠ n ∧ n + 4 ≠ n + 1 ∧ n ≠ n + 1 := fun n => by omega
    obtain ⟨a1, a2, a3, a4, a5, a6, a7, a8, a9, a10⟩ := ap s1.heap.objs.size
    exact ⟨a1, a2, a3, a4, a5, a6, a7, a8, a9, a10, fun a e => gt _ _ (l1 a e), fun a e => gt _ _ (l2 a e)⟩
  refine ⟨s1.heap.objs.size + 4, [s1.heap.objs.size + 4, s1.heap.objs.size + 2, s1.heap.objs.size + 3, s1.heap.objs.size, s1.heap.objs.size + 1], _, _, H1, rfl, I2, turn_zipU (k1 := k1) (k2 := k2) D rx ry, ⟨hz, hTI, ⟨_, _, hTO⟩, ⟨o1, g1, d1, e1⟩, ⟨o2, g2, d2, e2'⟩⟩, fun c hc => ?_, q⟩
  have hle : s1.heap.objs.size ≤ c := by
    simp only [List.mem_cons, List.not_mem_nil, or_false] at hc
    rcases hc with rfl | rfl | rfl | rfl | rfl
    · exact Nat.le_add_right _ _
    · exact Nat.le_add_right _ _
    · exact Nat.le_add_right _ _
    · exact Nat.le_refl _
    · exact Nat.le_add_right _ _
  exact I1.fpOk hle (I1.hok.fresh hle)
theorem itD_src {K : PySem.W.Frag} {H : Hp} {F : Fz} {d : D} {v : V} {ds : List D} (e : itD d = some ds) (r : Rep K H F d v) : ∃ k vs, Reps K H F ds vs ∧ ∀ F2 H2, Ext F H F2 H2 → SrcK K H2 k v vs := by
  cases d with
  | tup xs => cases e; obtain ⟨a, vs, rfl, h, rs⟩ := tup_rep r; exact ⟨1, vs, rs, fun F2 H2 x => .tup (x.sqt h)⟩
  | lst xs =>
    cases e
    unfold Rep at r
    obtain ⟨a, vs, rfl, h, rs⟩ := r
    exact ⟨0, vs, rs, fun F2 H2 x => .lst (SqL.of (x.frzl h).2)⟩
  | scr ns =>
    cases e
    unfold Rep at r
    obtain ⟨a, rfl, h⟩ := r
    exact ⟨0, _, Reps.ofInts, fun F2 H2 x => .lst (scr_sql (x.scrl h))⟩
  | str z =>
    cases e
    rw [str_rep r]
    refine ⟨2, _, ?_, fun F2 H2 x => .str z⟩
    have go : ∀ l : List Nat, Reps K H F (l.map fun c => D.str ⟨#[c]⟩) (l.map fun c => V.str ⟨#[c]⟩) := fun l => by
      induction l with
      | nil => exact .nil
      | cons a l ih => exact .cons rep_str ih
    exact go _
  | _ => cases e
def zipD (a b : List D) : List D := List.zipWith (fun p q => D.tup [p, q]) a b
theorem yields_zip {K : PySem.W.Frag} {H : Hp} {F : Fz} {k1 k2 : Nat} {x y : V} {xs ys : List V} {ds es : List D} (h1 : ∀ F2 H2, Ext F H F2 H2 → SrcK K H2 k1 x xs) (h2 : ∀ F2 H2, Ext F H F2 H2 → SrcK K H2 k2 y ys) (r1 : Reps K H F ds xs) (r2 : Reps K H F es ys) : Yields K (ItzU K k1 k2 x y) F H (zipD ds es) := fun F2 H2 e => by
  have lz : (zipD ds es).length = min xs.length ys.length := by unfold zipD; rw [List.length_zipWith, r1.length, r2.length]
  refine ⟨fun i d hd => ?_, ⟨xs, ys, h1 F2 H2 e, h2 F2 H2 e, by rw [lz]; exact Nat.min_le_left _ _, by rw [lz]; exact Nat.min_le_right _ _, by rw [lz]; omega⟩⟩
  unfold zipD at hd
  rw [List.getElem?_zipWith] at hd
  cases q1 : ds[i]? with
  | none => rw [q1] at hd; cases hd
  | some p =>
    cases q2 : es[i]? with
    | none => rw [q1, q2] at hd; cases hd
    | some q =>
      rw [q1, q2] at hd
      cases hd
      obtain ⟨a, ha, ra⟩ := (e.reps _ _ r1).get q1
      obtain ⟨b, hb, rb⟩ := (e.reps _ _ r2).get q2
      refine ⟨⟨xs, ys, a, b, h1 F2 H2 e, h2 F2 H2 e, ha, hb⟩, fun v H3 y => ?_⟩
      obtain ⟨T, a', b', rfl, hT, rfl, f1, f2⟩ := y
      have ea := f1 xs (h1 F2 H2 e)
      have eb := f2 ys (h2 F2 H2 e)
      rw [ha] at ea; cases ea
      rw [hb] at eb; cases eb
      have x2 : Ext F2 H2 F2 (upd H2 T (.tup [a, b])) := Ext.new hT
      refine ⟨x2, fun G g => g.old hT, ?_⟩
      unfold Rep
      exact ⟨T, [a, b], rfl, SqT.of upd_same, .cons (x2.rep _ _ ra) (.cons (x2.rep _ _ rb) .nil)⟩
def dZip (t : DTA) : DTI := fun W σ G Q => t W σ G fun xs G1 => match xs with
  | [x, y] => match itD x, itD y with
    | some a, some b => Q (zipD a b) G1
    | _, _ => False
  | _ => False
theorem di_zip {X : Cx} {Γ : Amb} {e e2 : Expr} {t : DTA} {p pos tpos : Pos} {elts : List Expr} {kk : Nat} (hg : Gl X "zip") (hm : X.mg "zip" = none) (ha : DA X Γ [e, e2] t)
    (hs : starEach [e, e2] X.env = (false, eval e X.env) :: starEach [e2] X.env := by rfl) (hpl : (backTo pos (starEach [e2] X.env)).any (·.1) = false := by rfl) :
    DI X Γ (.Tuple elts kk tpos) (.Call (.Name "zip" p) [e, e2] [] pos) (dZip t) :=
  pi_of (pi_zipU hg hm ha hs hpl) fun σ H R ⟨σd, G, F, Wd, Qd, w, hp, cv, ht, k⟩ => ⟨σd, G, F, Wd, _, w, hp, cv, ht, fun xs G1 F1 vs H1 e1 g1 r1 q1 => by
    split at q1
    · rename_i x y
      obtain ⟨v1, v2, rfl, rx, ry⟩ := r1.of2
      split at q1
      · rename_i a b ea eb
        obtain ⟨k1, us, ra, s1⟩ := itD_src ea rx
        obtain ⟨k2, ws, rb, s2⟩ := itD_src eb ry
        exact ⟨v1, v2, k1, k2, us, ws, rfl, s1 F1 H1 Ext.refl, s2 F1 H1 Ext.refl, k _ G1 F1 _ H1 e1 g1 (yields_zip s1 s2 ra rb) q1⟩
      · exact q1.elim
    · exact q1.elim⟩
end DL

/-! D9: calls by keywords, a module's names, isinstance of an error. -/
namespace DL
open PySem PySem.Spec L2

/-! ### by keywords -/
def pick {α : Type} : List Nat → List α → List α
  | [], _ => []
  | i :: r, xs => match xs[i]? with
    | some x => x :: pick r xs
    | none => pick r xs
theorem pick_vals {vs : List V} {us : List Value} (h : Vals vs us) : ∀ ix : List Nat, Vals (pick ix vs) (pick ix us)
  | [] => .nil
  | i :: r => by
    unfold pick
    cases ev : vs[i]? with
    | none => rw [h.none_of ev]; exact pick_vals h r
    | some v => obtain ⟨u, e, q⟩ := h.get ev; rw [e]; exact .cons q (pick_vals h r)
theorem pick_reps {K : PySem.W.Frag} {H : Hp} {F : Fz} {ds : List D} {vs : List V} (h : Reps K H F ds vs) : ∀ ix : List Nat, Reps K H F (pick ix ds) (pick ix vs)
  | [] => .nil
  | i :: r => by
    unfold pick
    cases ev : ds[i]? with
    | none =>
      have : vs[i]? = none := by rw [List.getElem?_eq_none_iff] at ev ⊢; rw [← h.length]; exact ev
      rw [this]; exact pick_reps h r
    | some v => obtain ⟨u, e, q⟩ := h.get ev; rw [e]; exact .cons q (pick_reps h r)
/-- how positional values and those by keywords come to the parameters -/
def KwB (x : Str) (st : Stmt) (ps ks : List Str) (m : Nat) (ix : List Nat) : Prop := ∀ (kV doc pm : Value) (an : Option Addr) (cdv ct : Value) (us ws : List Value), us.length = m → ws.length = ks.length →
  PySem.bindArgs (PySem.W.fnOf x x (defArgs st) (defBody st) (defScope st) .none kV doc pm an cdv ct) ⟨us, ks.zip ws⟩ = pure (ps.zip (pick ix (us ++ ws)))
section
variable {X : Cx} {Γ : Amb} {e : Expr} {es : List Expr} {kws : List Keyword} {t tk : DTA} {ta : DTE} {pos p kpos : Pos} {x : Str} {ps ks : List Str} {sp : DSp} {k m : Nat} {ix : List Nat} {st : Stmt} {nm : Option Str}
theorem run_fnkw {pins : List (Addr × Obj)} {σ : L2.St} {H : Hp} {s : Shared} {Q : VK} {us ws : List Value} {vs : List V} {f : Addr} {fd : FuncData} {CX : CXT} {spv : Sp} {E : L2.St → XK} (F : FnOk X.prog X.w X.K X.mg X.base CX k f fd ps spv) (hr : Room k X.A)
    (hb : BindsTo s fd ⟨us, ks.zip ws⟩ (ps.zip (pick ix (us ++ ws)))) (hx : PassesAt CX X σ (E σ)) (I : Inv X pins σ H s) (r : Vals vs (pick ix (us ++ ws))) (h : spv vs H Q (E σ)) :
    wpAny (model X.prog X.w) X.A (call (.ref f) us (ks.zip ws)) (EP X pins σ Q) X.xe s := by
  refine wpAny_call (codeAny_mono (F.run X.A X.stack s H ⟨us, ks.zip ws⟩ (pick ix (us ++ ws)) vs Q (E σ) hr I.env0 hb r h) fun r s' hq => ?_)
  cases r with
  | error e => exact hx pins H s e s' I hq
  | ok fl =>
    cases fl with
    | ret u => exact I.after hq
    | next => exact False.elim hq
    | brk => exact False.elim hq
    | cont => exact False.elim hq
def DKw (X : Cx) (Γ : Amb) (kws : List Keyword) (t : DTA) : Prop := PK X kws (LA X.K Γ t)
theorem pk_of {e : List Keyword} {t u : TA} (h : PK X e u) (i : ∀ σ H Q, t σ H Q → u σ H Q) : PK X e t := ⟨fun pos pins s σ H Q I q => h.run pos pins s σ H Q I (i _ _ _ q)⟩
theorem dkw_nil : DKw X Γ [] dNil := pk_of pk_nil fun σ H Q ⟨σd, G, F, Wd, Qd, w, hp, cv, q, k⟩ => k [] G F [] H Ext.refl w.gr .nil q
theorem dkw_cons (ha : DE X Γ e ta) (hr : DKw X Γ kws t) : DKw X Γ (⟨nm, e, kpos⟩ :: kws) (dCons ta t) := pk_of (pk_cons ha hr) fun σ H Q ⟨σd, G, F, Wd, Qd, w, hp, cv, ht, k⟩ =>
  ⟨σd, G, F, Wd, _, w, hp, cv, ht, fun x G1 F1 v H1 e1 g1 r1 q1 => ⟨σd, G1, F1, Wd, _, w.ext e1 g1, Γ.mono _ _ _ _ e1.toExt0 hp, cv.ext e1, q1, fun xs G2 F2 vs H2 e2 g2 r2 q2 =>
    k (x :: xs) G2 F2 (v :: vs) H2 (e1.trans e2) g2 (.cons (e2.rep _ _ r1) r2) q2⟩⟩
def dCallK (m n : Nat) (ix : List Nat) (sp : DSp) (t tk : DTA) : DTE := fun W σ G Q => t W σ G fun xs G1 => tk W σ G1 fun zs G2 => (xs.length = m ∧ zs.length = n) ∧ sp (pick ix (xs ++ zs)) G2 Q fun x G3 => W x σ G3
theorem de_callK (hF : Has X.prog X.w X.K X.mg X.base k x st ps sp) (hr : Room k X.A) (hg : Gl X x) (tw : Takes X Γ.W) (hkb : KwB x st ps ks m ix) (ha : DA X Γ (e :: es) t) (hkw : DKw X Γ kws tk)
    (hall : (backToKw pos (keywordEach kws X.env)).all (·.1.isSome) = true := by rfl) (hks : (backToKw pos (keywordEach kws X.env)).filterMap (·.1) = ks := by rfl)
    (hdb : (x == ("__debug__" : Str)) = false := by decide) (he : starEach (e :: es) X.env = (false, eval e X.env) :: starEach es X.env := by rfl)
    (hpl : ((backTo pos (starEach (e :: es) X.env)).any (·.1) || (backToKw pos (keywordEach kws X.env)).any (·.1.isNone)) = false := by rfl) :
    DE X Γ (.Call (.Name x p) (e :: es) kws pos) (dCallK m ks.length ix sp t tk) := by
  obtain ⟨f, fd, hm, hfn, _, F⟩ := hF
  have hk := hfn.kp
  obtain ⟨oc, od, kV, doc, pm, an, cdv, ct, osl, rfl, lk, hcd⟩ := hfn.ex
  refine ⟨fun pins s σ H Q I ⟨σd, G, F0, Wd, Qd, w, hp, cv, ht, kk⟩ => ?_⟩
  refine wpAny_Call_Name_kw (ld_glob I hg hm ?_ hdb)
  refine PySem.W.callWith_KW (h₀ := X.base) I.ok.mod.kin hk hall (thn (ha.run pos pins s σ H (fun vs H1 => ∃ xs G1 F1, Ext F0 H F1 H1 ∧ GRel X.K H1 F1 G1 ∧ Reps X.K H1 F1 xs vs ∧ tk Wd σd G1 fun zs G2 => (xs.length = m ∧ zs.length = ks.length) ∧ sp (pick ix (xs ++ zs)) G2 Qd fun x G3 => Wd x σd G3) I
    ⟨σd, G, F0, Wd, _, w, hp, cv, ht, fun xs G1 F1 vs H1 e1 g1 r1 q1 => ⟨xs, G1, F1, e1, g1, r1, q1⟩⟩) fun us s1 ⟨vs, H1, I1, r, xs, G1, F1, e1, g1, r1, q1⟩ => ?_) hpl he
  refine thn (hkw.run pos pins s1 σ H1 (fun ws H2 => ∃ zs G2 F2, Ext F1 H1 F2 H2 ∧ GRel X.K H2 F2 G2 ∧ Reps X.K H2 F2 zs ws ∧ (xs.length = m ∧ zs.length = ks.length) ∧ sp (pick ix (xs ++ zs)) G2 Qd fun x G3 => Wd x σd G3) I1
    ⟨σd, G1, F1, Wd, _, w.ext e1 g1, Γ.mono _ _ _ _ e1.toExt0 hp, cv.ext e1, q1, fun zs G2 F2 ws H2 e2 g2 r2 q2 => ⟨zs, G2, F2, e2, g2, r2, q2⟩⟩) fun ws s2 ⟨zv, H2, I2, rz, zs, G2, F2, e2, g2, r2, ⟨l1, l2⟩, q2⟩ => ⟨I2.kIn, ?_⟩
  rw [hks]
  have lu : us.length = m := by rw [← r.length, ← r1.length, l1]
  have lw : ws.length = ks.length := by rw [← rz.length, ← r2.length, l2]
  have e12 := e1.trans e2
  exact run_fnkw (ix := ix) (E := WE Γ.W) F hr (BindsTo.of_eq (hkb kV doc pm an cdv ct us ws lu lw)) (passAt tw σ) I2 (pick_vals (r.append rz) ix)
    ⟨_, G2, F2, Qd, _, g2, pick_reps ((e2.reps _ _ r1).append r2) ix, q2, fun d G' F' v' H' e3 g3 r3 q3 => kk d G' F' v' H' (e12.trans e3) g3 r3 q3,
      fun x G' F' cls d H' e3 g3 r3 q3 => cv x σd G' F' cls d σ H' (e12.trans e3) (w.ext (e12.trans e3) g3) r3 q3⟩
theorem de_callK0 (hF : Has X.prog X.w X.K X.mg X.base k x st ps sp) (hr : Room k X.A) (hg : Gl X x) (tw : Takes X Γ.W) (hkb : KwB x st ps ks 0 ix) (hkw : DKw X Γ kws tk)
    (hall : (backToKw pos (keywordEach kws X.env)).all (·.1.isSome) = true := by rfl) (hks : (backToKw pos (keywordEach kws X.env)).filterMap (·.1) = ks := by rfl)
    (hdb : (x == ("__debug__" : Str)) = false := by decide)
    (hpl : ((backTo pos (starEach [] X.env)).any (·.1) || (backToKw pos (keywordEach kws X.env)).any (·.1.isNone)) = false := by rfl) :
    DE X Γ (.Call (.Name x p) [] kws pos) (dCallK 0 ks.length ix sp dNil tk) := by
  obtain ⟨f, fd, hm, hfn, _, F⟩ := hF
  have hk := hfn.kp
  obtain ⟨oc, od, kV, doc, pm, an, cdv, ct, osl, rfl, lk, hcd⟩ := hfn.ex
  refine ⟨fun pins s σ H Q I ⟨σd, G, F0, Wd, Qd, w, hp, cv, ht, kk⟩ => ?_⟩
  refine wpAny_Call_Name_kw (ld_glob I hg hm ?_ hdb)
  refine PySem.W.callWith_KW0 (h₀ := X.base) I.ok.mod.kin hk hall (thn (hkw.run pos pins s σ H (fun ws H2 => ∃ zs G2 F2, Ext F0 H F2 H2 ∧ GRel X.K H2 F2 G2 ∧ Reps X.K H2 F2 zs ws ∧ ((0 : Nat) = 0 ∧ zs.length = ks.length) ∧ sp (pick ix ([] ++ zs)) G2 Qd fun x G3 => Wd x σd G3) I
    ⟨σd, G, F0, Wd, _, w, hp, cv, ht, fun zs G2 F2 ws H2 e2 g2 r2 q2 => ⟨zs, G2, F2, e2, g2, r2, q2⟩⟩) fun ws s2 ⟨zv, H2, I2, rz, zs, G2, F2, e2, g2, r2, ⟨l1, l2⟩, q2⟩ => ⟨I2.kIn, ?_⟩) hpl
  rw [hks]
  have lw : ws.length = ks.length := by rw [← rz.length, ← r2.length, l2]
  exact run_fnkw (us := []) (ix := ix) (E := WE Γ.W) F hr (BindsTo.of_eq (hkb kV doc pm an cdv ct [] ws rfl lw)) (passAt tw σ) I2 (pick_vals rz ix)
    ⟨_, G2, F2, Qd, _, g2, pick_reps r2 ix, q2, fun d G' F' v' H' e3 g3 r3 q3 => kk d G' F' v' H' (e2.trans e3) g3 r3 q3,
      fun x G' F' cls d H' e3 g3 r3 q3 => cv x σd G' F' cls d σ H' (e2.trans e3) (w.ext (e2.trans e3) g3) r3 q3⟩
/-! ### a module's names -/
theorem de_gint {i : Int} (h : ∃ tk, X.mg x = some (.int i tk)) (hg : Gl X x) (hd : (x == ("__debug__" : Str)) = false := by decide) : DE X Γ (.Name x pos) (dK (.int i)) := by
  obtain ⟨tk, h⟩ := h
  exact de_k (pe_glob hg h (v := .int i) ⟨tk, rfl⟩ hd) fun _ _ => rep_int
theorem de_gref {a : Addr} (h : X.mg x = some (.ref a)) (hg : Gl X x) (hd : (x == ("__debug__" : Str)) = false := by decide) : DE X Γ (.Name x pos) (dK (.ref a)) :=
  de_k (pe_glob hg h (v := .ref a) rfl hd) fun _ _ => rep_ref
theorem de_bty {n : String} (hm : X.mg x = none) (hv : bootBuiltins x = some (.type n)) (hg : Gl X x) (hn : x ≠ "__name__" := by decide) (hd : (x == ("__debug__" : Str)) = false := by decide) : DE X Γ (.Name x pos) (dK (.ty n)) :=
  de_k (pe_bltn hg hm hv (v := .ty n) rfl hn hd) fun _ _ => rep_ty
theorem de_int {i : Int} {j : Nat} : DE X Γ (.Constant (.int i) j pos) (dK (.int i)) := de_k pe_int fun _ _ => rep_int
theorem de_str {i : Str} {j : Nat} : DE X Γ (.Constant (.str i) j pos) (dK (.str i)) := de_k pe_str fun _ _ => rep_str
theorem de_bl {i : Bool} {j : Nat} : DE X Γ (.Constant (.bool i) j pos) (dK (.bl i)) := de_k pe_bl fun _ _ => rep_bl
theorem de_non {j : Nat} : DE X Γ (.Constant .none j pos) (dK .non) := de_k pe_non fun _ _ => rep_non
/-! ### isinstance of a suite's error -/
def clsD : D → Value → Prop
  | .ref T, v => v = .ref T
  | .ty n, v => v = .type n
  | _, _ => False
def dIsE (K : PySem.W.Frag) (a : Addr) (xx : Exc) (t : DTA) : DTE := fun W σ G Q => t W σ G fun ds G1 => match ds with
  | [.ref b, y] => (b = a ∧ xx.flds = [] ∧ ExcC K xx.cls) ∧ ∃ cv r, clsD y cv ∧ PySem.W.kitOne K (.ref xx.cls) cv = some r ∧ Q (.bl r) G1
  | _ => False
theorem de_isE {a : Addr} {oe : Obj} {xx : Exc} {cls : Value} {d : Option Addr} {pn : List (Addr × Obj)} {e2 : Expr} (hz : Zc cls d oe) (hf : ∃ vs, oe.data = .fields vs) (hm : X.mg "isinstance" = none)
    (hg : Gl (X.suite a ((a, oe) :: pn)) "isinstance") (ha : DA (X.suite a ((a, oe) :: pn)) (Γ.exc X.K xx cls d) [e, e2] t)
    (he : starEach [e, e2] X.env = (false, eval e X.env) :: starEach [e2] X.env := by rfl) (hpl : (backTo pos (starEach [e2] X.env)).any (·.1) = false := by rfl) :
    DE (X.suite a ((a, oe) :: pn)) (Γ.exc X.K xx cls d) (.Call (.Name "isinstance" p) [e, e2] [] pos) (dIsE X.K a xx t) := by
  refine ⟨fun pins s σ H Q I ⟨σd, G, F0, Wd, Qd, w, hp, cv, ht, kk⟩ => ?_⟩
  have key : xx.flds = [] → ExcC X.K xx.cls → PE (X.suite a ((a, oe) :: pn)) (.Call (.Name "isinstance" p) [e, e2] [] pos) (tCB (rIsE X.K xx.cls a) (LA X.K (Γ.exc X.K xx cls d) t)) := fun hfl hC => by
    have hc := hp.2.1
    have hd : d = none := by
      obtain ⟨_, h2⟩ := hp.2
      rw [hfl] at h2; exact h2
    subst hc hd
    exact pe_callB (call_isE (X := X) hC hz hf) hg hm PyProof.Rows.boot_isinstance ha (by decide) (by decide) he hpl
  by_cases hh : xx.flds = [] ∧ ExcC X.K xx.cls
  · refine (key hh.1 hh.2).run pins s σ H Q I ⟨σd, G, F0, Wd, _, w, hp, cv, ht, fun ds G1 F1 vs H1 e1 g1 r1 q1 => ?_⟩
    split at q1
    · rename_i b y
      obtain ⟨⟨rfl, _, _⟩, cv2, r, hcl, hk, q⟩ := q1
      obtain ⟨v1, v2, rfl, rv, rw'⟩ := r1.of2
      rw [ref_rep rv]
      refine ⟨v2, cv2, r, rfl, fun u ru => ?_, hk, kk (.bl r) G1 F1 _ H1 e1 g1 rep_bl q⟩
      cases y with
      | ref T => rw [ref_rep rw'] at ru; rw [show cv2 = .ref T from hcl]; exact ru
      | ty n => rw [ty_rep rw'] at ru; rw [show cv2 = .type n from hcl]; exact ru
      | _ => exact hcl.elim
    · exact q1.elim
  · have key2 : PE (X.suite a ((a, oe) :: pn)) (.Call (.Name "isinstance" p) [e, e2] [] pos) (tCB (fun _ _ _ => False) (LA X.K (Γ.exc X.K xx cls d) t)) :=
      pe_callB (fun _ _ _ _ _ _ _ _ _ h => h.elim) hg hm PyProof.Rows.boot_isinstance ha (by decide) (by decide) he hpl
    refine key2.run pins s σ H Q I ⟨σd, G, F0, Wd, _, w, hp, cv, ht, fun ds G1 F1 vs H1 e1 g1 r1 q1 => ?_⟩
    split at q1
    · exact hh ⟨q1.1.2.1, q1.1.2.2⟩
    · exact q1.elim
end
end DL

/-! D10: what the printed derivations name. -/
namespace DL
open PySem PySem.Spec L2

/-- a def of the top as it stands -/
def At (K : PySem.W.Frag) (mg : Str → Option Value) (x : Str) (st : Stmt) (ps : List Str) : Prop := ∃ f fd, mg x = some (.ref f) ∧ Fun K x x st f fd ∧ Binds K fd ps []
theorem takes_blk {X : Cx} {Γ : Amb} : Takes X Γ.blk.W := fun _ _ ⟨_, _, _, _, _, _, _, _, _, _, _, _, _, _, _, _, h⟩ => False.elim h
section
variable {K : PySem.W.Frag}
def qNeg : Q1 := fun x G Q => match x with
  | .int i => Q (.int (-i)) G
  | _ => False
theorem qNeg_ok : L1R K qNeg (rU fun i => .int (-i)) := fun x v G F H Qd Q g r h k => by
  cases x with
  | int i => exact ⟨i, int_rep r, k.here g rep_int h⟩
  | _ => exact h.elim
end
end DL

/-! D11: how transformers are read. -/
namespace DL
open PySem PySem.Spec L2

/-! ### loops over ranges -/
theorem rngD_zero {lo c : Int} : rngD lo c 0 = [] := rfl
theorem rngD_succ {lo c : Int} {n : Nat} : rngD lo c (n + 1) = .int lo :: rngD (lo + c) c n := by
  unfold rngD
  rw [List.range_succ_eq_map, List.map_cons, List.map_map]
  refine congr (congrArg List.cons (congrArg D.int (by simp))) (List.map_congr_left fun i _ => ?_)
  simp only [Function.comp]
  congr 1
  rw [Int.add_assoc]
  congr 1
  push_cast
  rw [Int.add_mul]
  omega
theorem rngD_len {lo c : Int} {n : Nat} : (rngD lo c n).length = n := by unfold rngD; simp
theorem rngD_nat {n : Nat} : rngD 0 1 n = (List.range n).map fun i => D.int (i : Nat) := by
  unfold rngD
  exact List.map_congr_left fun i _ => by simp
theorem rngD_mem {n : Nat} {d : D} (h : d ∈ rngD 0 1 n) : ∃ i : Nat, i < n ∧ d = .int i := by
  rw [rngD_nat] at h
  obtain ⟨i, hi, rfl⟩ := List.mem_map.mp h
  exact ⟨i, by simpa using hi, rfl⟩

/-! ### pure expressions: what they give -/
/-- te gives d and leaves the ledger -/
def Ret (te : DTE) (W : DX) (σ : DSt) (G : DH) (d : D) : Prop := ∀ Q : DK, Q d G → te W σ G Q
def RetT (tt : DTT) (W : DX) (σ : DSt) (G : DH) (b : Bool) : Prop := ∀ Q : Bool → DH → Prop, Q b G → tt W σ G Q
/-- [e for x in xs] -/
theorem comp1 {i : Nat} {te : DTE} {σ : DSt} {G : DH} (f : D → D) : ∀ {xs : List D} {Q : List D → DH → Prop}, (∀ d ∈ xs, Ret te W0 (σ.set i (some d)) G (f d)) → Q (xs.map f) G → dComp (gSet i) dYes te xs σ G Q
  | [], Q, _, q => q
  | d :: r, Q, h, q => h d List.mem_cons_self _ (comp1 f (fun e he => h e (List.mem_cons_of_mem _ he)) q)
/-- [e for x in xs if t] -/
theorem compF {i : Nat} {tt : DTT} {te : DTE} {σ : DSt} {G : DH} (f : D → D) (p : D → Bool) : ∀ {xs : List D} {Q : List D → DH → Prop}, (∀ d ∈ xs, RetT tt W0 (σ.set i (some d)) G (p d)) → (∀ d ∈ xs, p d = true → Ret te W0 (σ.set i (some d)) G (f d)) →
    Q ((xs.filter p).map f) G → dComp (gSet i) tt te xs σ G Q
  | [], Q, _, _, q => q
  | d :: r, Q, ht, h, q => by
    refine ht d List.mem_cons_self _ ?_
    cases hp : p d with
    | true =>
      rw [List.filter_cons_of_pos hp] at q
      exact iteT (h d List.mem_cons_self hp _ (compF f p (fun e he => ht e (List.mem_cons_of_mem _ he)) (fun e he => h e (List.mem_cons_of_mem _ he)) q))
    | false =>
      rw [List.filter_cons_of_neg (by simp [hp])] at q
      exact iteF (compF f p (fun e he => ht e (List.mem_cons_of_mem _ he)) (fun e he => h e (List.mem_cons_of_mem _ he)) q)
def g2 (i j : Nat) : DTG := gTupD 2 (gsCons (gSet i) (gsCons (gSet j) gsNil))
/-- [e for x, y in pairs] -/
theorem comp2 {α : Type} {i j : Nat} {te : DTE} {σ : DSt} {G : DH} (A B f : α → D) : ∀ {xs : List α} {Q : List D → DH → Prop}, (∀ a ∈ xs, Ret te W0 ((σ.set i (some (A a))).set j (some (B a))) G (f a)) → Q (xs.map f) G →
    dComp (gTupD 2 (gsCons (gSet i) (gsCons (gSet j) gsNil))) dYes te (xs.map fun a => .tup [A a, B a]) σ G Q
  | [], Q, _, q => q
  | d :: r, Q, h, q => ⟨rfl, rfl, h d List.mem_cons_self _ (comp2 A B f (fun e he => h e (List.mem_cons_of_mem _ he)) q)⟩
/-- [e for x, y in pairs if t] -/
theorem comp2F {α : Type} {i j : Nat} {tt : DTT} {te : DTE} {σ : DSt} {G : DH} (A B f : α → D) (p : α → Bool) : ∀ {xs : List α} {Q : List D → DH → Prop}, (∀ a ∈ xs, RetT tt W0 ((σ.set i (some (A a))).set j (some (B a))) G (p a)) →
    (∀ a ∈ xs, p a = true → Ret te W0 ((σ.set i (some (A a))).set j (some (B a))) G (f a)) → Q ((xs.filter p).map f) G →
    dComp (gTupD 2 (gsCons (gSet i) (gsCons (gSet j) gsNil))) tt te (xs.map fun a => .tup [A a, B a]) σ G Q
  | [], Q, _, _, q => q
  | d :: r, Q, ht, h, q => by
    refine ⟨rfl, rfl, ht d List.mem_cons_self _ ?_⟩
    cases hp : p d with
    | true =>
      rw [List.filter_cons_of_pos hp] at q
      exact iteT (h d List.mem_cons_self hp _ (comp2F A B f p (fun e he => ht e (List.mem_cons_of_mem _ he)) (fun e he => h e (List.mem_cons_of_mem _ he)) q))
    | false =>
      rw [List.filter_cons_of_neg (by simp [hp])] at q
      exact iteF (comp2F A B f p (fun e he => ht e (List.mem_cons_of_mem _ he)) (fun e he => h e (List.mem_cons_of_mem _ he)) q)
theorem zipD_map {α : Type} (A B : α → D) (xs : List α) : zipD (xs.map A) (xs.map B) = xs.map fun a => .tup [A a, B a] := by
  unfold zipD
  induction xs with
  | nil => rfl
  | cons a r ih => simp [ih]
theorem zipD_zip {α β : Type} (A : α → D) (B : β → D) : ∀ (xs : List α) (ys : List β), zipD (xs.map A) (ys.map B) = (xs.zip ys).map fun a => .tup [A a.1, B a.2]
  | [], _ => by simp [zipD]
  | _ :: _, [] => by simp [zipD]
  | a :: xs, b :: ys => by simpa [zipD] using zipD_zip A B xs ys

/-! ### texts -/
def S (l : List Nat) : Str := ⟨l.toArray⟩
@[simp] theorem S_cps {l : List Nat} : (S l).cps = l.toArray := rfl
theorem S_len {l : List Nat} : (S l).length = l.length := by show l.toArray.size = _; simp
theorem S_inj {a b : List Nat} : S a = S b ↔ a = b := by
  constructor
  · intro h
    have : (S a).cps.toList = (S b).cps.toList := by rw [h]
    simpa using this
  · rintro rfl; rfl
theorem S_eta (z : Str) : z = S z.cps.toList := by cases z; simp [S]
theorem signs_S {l : List Nat} : signs (S l) = l.map fun c => D.str (S [c]) := by unfold signs; simp [S]
theorem S_app {a b : List Nat} : S a ++ S b = S (a ++ b) := by
  show (⟨(S a).cps ++ (S b).cps⟩ : Str) = _
  simp [S]
theorem joinS : ∀ ls : List (List Nat), Str.join (S []) (ls.map S) = S ls.flatten
  | [] => rfl
  | [x] => by show S x = _; simp
  | x :: y :: r => by
    show S x ++ S [] ++ Str.join (S []) ((y :: r).map S) = _
    rw [joinS (y :: r), S_app, S_app]
    simp
theorem join_S (ls : List (List Nat)) : Txt.join (S []) (ls.map S) = S ls.flatten := by
  rw [← joinS, eq_of_beq (PyProof.Rows.join_plain_closes (S []) (ls.map S))]
theorem flat1 : ∀ ls : List Nat, (ls.map fun c => [c]).flatten = ls
  | [] => rfl
  | a :: r => by simp [flat1 r]
theorem join_sep (ls : List Nat) : Txt.join (S []) (ls.map fun c => S [c]) = S ls := by
  have := join_S (ls.map fun c => [c])
  rw [List.map_map] at this
  rw [show (ls.map fun c => S [c]) = ls.map (S ∘ fun c => [c]) from rfl, this, flat1]
end DL

/-! D12: plain facts: what can be compared, masks, strings of bits. -/
namespace DL
open PySem PySem.Spec L2

/-! ### comparing -/
mutual
def okD : D → Bool
  | .ref _ => false
  | .ty _ => false
  | .str z => z.cps.all (· < 0x110000)
  | .tup xs => okDs xs
  | .lst xs => okDs xs
  | _ => true
def okDs : List D → Bool
  | [] => true
  | d :: r => okD d && okDs r
end
mutual
def dpD : D → Nat
  | .tup xs => dpDs xs + 1
  | .lst xs => dpDs xs + 1
  | .scr _ => 1
  | _ => 0
def dpDs : List D → Nat
  | [] => 0
  | d :: r => max (dpD d) (dpDs r)
end
theorem lay_ints : ∀ ns : List Int, PyData.canLayAll0 (ns.map .int) = true ∧ PyData.depthAll (ns.map .int) = 0
  | [] => by unfold List.map PyData.canLayAll0 PyData.depthAll; exact ⟨rfl, rfl⟩
  | n :: ns => by
    obtain ⟨h1, h2⟩ := lay_ints ns
    simp only [List.map_cons, PyData.canLayAll0, PyData.depthAll, PyData.canLay0, PyData.depth, h1, h2]
    exact ⟨rfl, rfl⟩
mutual
theorem ok_of : ∀ d : D, okD d = true → noRef d = true ∧ PyData.canLay0 (toPy d) = true ∧ PyData.depth (toPy d) = dpD d
  | .non, _ => by simp [noRef, toPy, PyData.canLay0, PyData.depth, dpD]
  | .bl _, _ => by simp [noRef, toPy, PyData.canLay0, PyData.depth, dpD]
  | .int _, _ => by simp [noRef, toPy, PyData.canLay0, PyData.depth, dpD]
  | .str z, h => by
    unfold okD at h
    refine ⟨by simp [noRef], ?_, by simp [toPy, PyData.depth, dpD]⟩
    unfold toPy PyData.canLay0
    exact h
  | .tup xs, h => by
    unfold okD at h
    obtain ⟨h1, h2, h3⟩ := oks_of xs h
    unfold noRef toPy PyData.canLay0 PyData.depth dpD
    exact ⟨h1, h2, by rw [h3]⟩
  | .lst xs, h => by
    unfold okD at h
    obtain ⟨h1, h2, h3⟩ := oks_of xs h
    unfold noRef toPy PyData.canLay0 PyData.depth dpD
    exact ⟨h1, h2, by rw [h3]⟩
  | .scr ns, _ => by
    obtain ⟨h1, h2⟩ := lay_ints ns
    unfold noRef toPy PyData.canLay0 PyData.depth dpD
    exact ⟨rfl, h1, by rw [h2]⟩
  | .ref _, h => by unfold okD at h; cases h
  | .ty _, h => by unfold okD at h; cases h
theorem oks_of : ∀ ds : List D, okDs ds = true → noRefs ds = true ∧ PyData.canLayAll0 (toPys ds) = true ∧ PyData.depthAll (toPys ds) = dpDs ds
  | [], _ => by unfold noRefs toPys PyData.canLayAll0 PyData.depthAll dpDs; exact ⟨rfl, rfl, rfl⟩
  | d :: ds, h => by
    unfold okDs at h
    rw [Bool.and_eq_true] at h
    obtain ⟨h1, h2, h3⟩ := ok_of d h.1
    obtain ⟨k1, k2, k3⟩ := oks_of ds h.2
    unfold noRefs toPys PyData.canLayAll0 PyData.depthAll dpDs
    rw [h1, h2, h3, k1, k2, k3]
    exact ⟨rfl, rfl, rfl⟩
end
theorem eqOk_of {d : D} (h : okD d = true) (k : dpD d ≤ 64) : eqOk d := by
  obtain ⟨h1, h2, h3⟩ := ok_of d h
  refine ⟨h1, ?_⟩
  unfold SeqAt.shaped
  rw [h2, h3]
  simpa using k
theorem dview_ok {G : DH} {d : D} (h : okD d = true) : dview G d = d := by
  cases d with
  | ref a => unfold okD at h; cases h
  | _ => rfl
theorem eqv_ints : ∀ ns : List Int, PyData.eqvAll (ns.map .int) (ns.map .int) = true
  | [] => by unfold List.map PyData.eqvAll; rfl
  | n :: ns => by simp [PyData.eqvAll, PyData.eqv, eqv_ints ns]
mutual
theorem eqv_refl : ∀ d : D, PyData.eqv (toPy d) (toPy d) = true
  | .non => by simp [toPy, PyData.eqv]
  | .bl _ => by simp [toPy, PyData.eqv]
  | .int _ => by simp [toPy, PyData.eqv]
  | .str _ => by simp [toPy, PyData.eqv]
  | .tup xs => by simp [toPy, PyData.eqv, eqvs_refl xs]
  | .lst xs => by simp [toPy, PyData.eqv, eqvs_refl xs]
  | .scr ns => by simp [toPy, PyData.eqv, eqv_ints ns]
  | .ref _ => by simp [toPy, PyData.eqv]
  | .ty _ => by simp [toPy, PyData.eqv]
theorem eqvs_refl : ∀ ds : List D, PyData.eqvAll (toPys ds) (toPys ds) = true
  | [] => by simp [toPys, PyData.eqvAll]
  | d :: r => by simp [toPys, PyData.eqvAll, eqv_refl d, eqvs_refl r]
end
theorem deq_refl (d : D) : deq d d = true := eqv_refl d
/-- x == x -/
theorem qEq_self {neg : Bool} {d : D} {G : DH} {Q : DK} (h : okD d = true) (k : dpD d ≤ 64) (q : Q (.bl (!neg)) G) : qEq neg d d G Q := by
  have e := eqOk_of h k
  have q' : Q (.bl (if neg then !true else true)) G := by cases neg <;> exact q
  cases d with
  | int i => show Q (.bl (if neg then !decide (i = i) else decide (i = i))) G; rw [decide_eq_true rfl]; exact q'
  | str i => show Q (.bl (if neg then !decide (i = i) else decide (i = i))) G; rw [decide_eq_true rfl]; exact q'
  | bl i => show Q (.bl (if neg then !decide (i = i) else decide (i = i))) G; rw [decide_eq_true rfl]; exact q'
  | ref a => unfold okD at h; cases h
  | _ =>
    refine ⟨e, e, ?_⟩
    show Q (.bl (if neg then !deq _ _ else deq _ _)) G
    rw [show dview G _ = _ from dview_ok h, deq_refl]
    exact q'
/-! lists of flat things -/
theorem deq_strs : ∀ a b : List Str, PyData.eqvAll (toPys (a.map D.str)) (toPys (b.map D.str)) = decide (a = b)
  | [], [] => by simp [toPys, PyData.eqvAll]
  | [], _ :: _ => by simp [toPys, PyData.eqvAll]
  | _ :: _, [] => by simp [toPys, PyData.eqvAll]
  | x :: a, y :: b => by
    simp only [List.map_cons, toPys, toPy, PyData.eqvAll, PyData.eqv, deq_strs a b]
    by_cases h : x = y
    · subst h; by_cases h2 : a = b
      · subst h2; simp
      · simp [h2]
    · simp [h]
theorem deq_intsL : ∀ a b : List Int, PyData.eqvAll (toPys (a.map D.int)) (toPys (b.map D.int)) = decide (a = b)
  | [], [] => by simp [toPys, PyData.eqvAll]
  | [], _ :: _ => by simp [toPys, PyData.eqvAll]
  | _ :: _, [] => by simp [toPys, PyData.eqvAll]
  | x :: a, y :: b => by
    simp only [List.map_cons, toPys, toPy, PyData.eqvAll, PyData.eqv, deq_intsL a b]
    by_cases h : x = y
    · subst h; by_cases h2 : a = b
      · subst h2; simp
      · simp [h2]
    · simp [h]
theorem deq_blsL : ∀ a b : List Bool, PyData.eqvAll (toPys (a.map D.bl)) (toPys (b.map D.bl)) = decide (a = b)
  | [], [] => by simp [toPys, PyData.eqvAll]
  | [], _ :: _ => by simp [toPys, PyData.eqvAll]
  | _ :: _, [] => by simp [toPys, PyData.eqvAll]
  | x :: a, y :: b => by
    simp only [List.map_cons, toPys, toPy, PyData.eqvAll, PyData.eqv, deq_blsL a b]
    by_cases h : x = y
    · subst h; by_cases h2 : a = b
      · subst h2; simp
      · simp [h2]
    · simp [h]
theorem okDs_all {xs : List D} : okDs xs = xs.all okD := by
  induction xs with
  | nil => rfl
  | cons d r ih => unfold okDs; rw [ih]; rfl
theorem dpDs_le {xs : List D} {n : Nat} (h : ∀ d ∈ xs, dpD d ≤ n) : dpDs xs ≤ n := by
  induction xs with
  | nil => unfold dpDs; omega
  | cons d r ih =>
    unfold dpDs
    have h1 := h d List.mem_cons_self
    have h2 := ih fun e he => h e (List.mem_cons_of_mem _ he)
    omega
theorem okS {l : List Nat} (h : ∀ c ∈ l, c < 0x110000) : okD (.str (S l)) = true := by
  unfold okD
  simpa [S] using h

/-! ### masks -/
theorem xor_add_and (a : Nat) : ∀ b : Nat, (a ^^^ b) + 2 * (a &&& b) = a + b := by
  induction a using Nat.strongRecOn with
  | _ a ih =>
    intro b
    by_cases ha : a = 0
    · subst ha; simp
    · have h := ih (a / 2) (Nat.div_lt_self (by omega) (by decide)) (b / 2)
      rw [← Nat.xor_div_two, ← Nat.and_div_two] at h
      have e1 : (a ^^^ b) % 2 = (a % 2 + b % 2) % 2 := by
        have h1 : (a ^^^ b) % 2 = 1 ↔ _ := Nat.xor_mod_two_eq_one
        omega
      have h2 : (a &&& b) % 2 = 1 ↔ _ := Nat.and_mod_two_eq_one
      by_cases hh : (a &&& b) % 2 = 1
      · obtain ⟨p, q⟩ := h2.mp hh
        omega
      · have z : (a &&& b) % 2 = 0 := by omega
        have nn : ¬ (a % 2 = 1 ∧ b % 2 = 1) := fun k => hh (h2.mpr k)
        omega
theorem bitXor_nat (a b : Nat) : Builtin.bitXor (a : Int) (b : Int) = ((a ^^^ b : Nat) : Int) := by
  rw [PyProof.Rows.bitXor_and, PySem.W.os_band]
  have := xor_add_and a b
  omega
/-! ### strings of bits -/
def lsb : Nat → Nat → List Nat
  | 0, _ => []
  | l + 1, v => (48 + v % 2) :: lsb l (v / 2)
def bsl (l v : Nat) : List Nat := (lsb l v).reverse
theorem lsb_len : ∀ (l v : Nat), (lsb l v).length = l
  | 0, _ => rfl
  | l + 1, v => by simp [lsb, lsb_len l]
@[simp] theorem bsl_len {l v : Nat} : (bsl l v).length = l := by unfold bsl; simp [lsb_len]
theorem lsb_mem : ∀ {l v c : Nat}, c ∈ lsb l v → c = 48 ∨ c = 49
  | 0, _, _, h => by simp [lsb] at h
  | l + 1, v, c, h => by
    unfold lsb at h
    rcases List.mem_cons.mp h with h | h
    · omega
    · exact lsb_mem h
theorem bsl_mem {l v c : Nat} (h : c ∈ bsl l v) : c = 48 ∨ c = 49 := lsb_mem (by unfold bsl at h; simpa using h)
theorem lsb_inj : ∀ {l a b : Nat}, a < 2 ^ l → b < 2 ^ l → lsb l a = lsb l b → a = b
  | 0, a, b, ha, hb, _ => by simp at ha hb; omega
  | l + 1, a, b, ha, hb, h => by
    unfold lsb at h
    injection h with h1 h2
    have := lsb_inj (l := l) (by rw [Nat.pow_succ] at ha; omega) (by rw [Nat.pow_succ] at hb; omega) h2
    omega
theorem bsl_inj {l a b : Nat} (ha : a < 2 ^ l) (hb : b < 2 ^ l) : bsl l a = bsl l b ↔ a = b := by
  constructor
  · intro h
    unfold bsl at h
    exact lsb_inj ha hb (List.reverse_inj.mp h)
  · rintro rfl; rfl
def xorL (a b : List Nat) : List Nat := List.zipWith (fun x y => if x = y then 48 else 49) a b
theorem xor_lsb : ∀ (l a b : Nat), xorL (lsb l a) (lsb l b) = lsb l (a ^^^ b)
  | 0, _, _ => rfl
  | l + 1, a, b => by
    show (if 48 + a % 2 = 48 + b % 2 then 48 else 49) :: xorL (lsb l (a / 2)) (lsb l (b / 2)) = (48 + (a ^^^ b) % 2) :: lsb l ((a ^^^ b) / 2)
    rw [xor_lsb, Nat.xor_div_two]
    congr 1
    have h1 : (a ^^^ b) % 2 = 1 ↔ _ := Nat.xor_mod_two_eq_one
    split <;> omega
theorem xorL_bsl (l a b : Nat) : xorL (bsl l a) (bsl l b) = bsl l (a ^^^ b) := by
  unfold bsl xorL
  rw [← List.reverse_zipWith (by rw [lsb_len, lsb_len])]
  show (xorL _ _).reverse = _
  rw [xor_lsb]
/-- the order of strings is that of the numbers -/
theorem bsl_succ {l v : Nat} : bsl (l + 1) v = bsl l (v / 2) ++ [48 + v % 2] := by unfold bsl; simp [lsb]
theorem bsl_top : ∀ {l v : Nat}, bsl (l + 1) v = (48 + v / 2 ^ l % 2) :: bsl l v
  | 0, v => by simp [bsl, lsb]
  | l + 1, v => by
    rw [bsl_succ, bsl_top (l := l) (v := v / 2), bsl_succ (l := l) (v := v)]
    simp [Nat.div_div_eq_div_mul, Nat.pow_succ, Nat.mul_comm]
theorem bsl_mod {l v : Nat} : bsl l (v % 2 ^ l) = bsl l v := by
  induction l generalizing v with
  | zero => simp [bsl, lsb]
  | succ l ih =>
    rw [bsl_succ, bsl_succ]
    have e1 : v % 2 ^ (l + 1) / 2 = v / 2 % 2 ^ l := by
      rw [Nat.pow_succ, Nat.mul_comm, Nat.mod_mul_right_div_self]
    have e2 : v % 2 ^ (l + 1) % 2 = v % 2 := by
      rw [Nat.pow_succ, Nat.mul_comm, Nat.mod_mul_right_mod]
    rw [e1, e2, ih]
theorem bsl_lt : ∀ {l a b : Nat}, a < 2 ^ l → b < 2 ^ l → (bsl l a < bsl l b ↔ a < b)
  | 0, a, b, ha, hb => by
    simp at ha hb
    subst ha hb
    simp [bsl, lsb]
  | l + 1, a, b, ha, hb => by
    rw [bsl_top, bsl_top, List.cons_lt_cons_iff]
    have hp : 0 < 2 ^ l := Nat.pow_pos (by decide)
    have ha2 : a / 2 ^ l < 2 := by rw [Nat.div_lt_iff_lt_mul hp, Nat.mul_comm, ← Nat.pow_succ]; exact ha
    have hb2 : b / 2 ^ l < 2 := by rw [Nat.div_lt_iff_lt_mul hp, Nat.mul_comm, ← Nat.pow_succ]; exact hb
    rw [Nat.mod_eq_of_lt ha2, Nat.mod_eq_of_lt hb2]
    have ih := bsl_lt (l := l) (a := a % 2 ^ l) (b := b % 2 ^ l) (Nat.mod_lt _ hp) (Nat.mod_lt _ hp)
    rw [bsl_mod, bsl_mod] at ih
    rw [ih]
    have d1 := Nat.div_add_mod a (2 ^ l)
    have d2 := Nat.div_add_mod b (2 ^ l)
    have m1 := Nat.mod_lt a hp
    have m2 := Nat.mod_lt b hp
    have two : ∀ q : Nat, q < 2 → q = 0 ∨ q = 1 := fun q h => by omega
    have c1 : a / 2 ^ l = 0 ∨ a / 2 ^ l = 1 := two _ ha2
    have c2 : b / 2 ^ l = 0 ∨ b / 2 ^ l = 1 := two _ hb2
    clear ih ha2 hb2 ha hb
    generalize a % 2 ^ l = ra at *
    generalize b % 2 ^ l = rb at *
    generalize a / 2 ^ l = qa at *
    generalize b / 2 ^ l = qb at *
    generalize 2 ^ l = q at *
    rcases c1 with rfl | rfl <;> rcases c2 with rfl | rfl <;> simp at d1 d2 ⊢ <;> omega
end DL

/-! D13: reading what refers to the ledger; the laws' hands. -/
namespace DL
open PySem PySem.Spec L2
section
variable {G : DH} {a : Addr} {xs : List D} {Q : DK} {d : D}
theorem ix_ref {i : Int} (h : G a = some (.lst xs)) (e : L2.atI xs i = some d) (q : Q d G) : qIx (.ref a) (.int i) G Q := by
  show (match dseq G (.ref a) with | some xs => (match L2.atI xs i with | some d => Q d G | none => False) | none => False)
  have : dseq G (.ref a) = some xs := by unfold dseq dlst; simp [h]
  rw [this]
  show (match L2.atI xs i with | some d => Q d G | none => False)
  rw [e]; exact q
theorem ix_seq' {i : Int} {x : D} (hs : dseq G x = some xs) (e : L2.atI xs i = some d) (q : Q d G) : qIx x (.int i) G Q := by
  cases x with
  | str z => unfold dseq dlst at hs; cases hs
  | _ => simp only [qIx, hs, e]; exact q
theorem len_seq {x : D} (hs : dseq G x = some xs) (q : Q (.int xs.length) G) : qLen [x] G Q := by
  cases x with
  | str z => unfold dseq dlst at hs; cases hs
  | _ => simp only [qLen, hs]; exact q
theorem dseq_ref (h : G a = some (.lst xs)) : dseq G (.ref a) = some xs := by unfold dseq dlst; simp [h]
theorem dlst_ref (h : G a = some (.lst xs)) : dlst G (.ref a) = some xs := by unfold dlst; simp [h]
theorem dlsh_ref (h : G a = some (.lst xs)) : dlsh G (.ref a) = some xs := by unfold dlsh; simp [h]
theorem set_ref {i : Int} {j : Nat} {Qs : DH → Prop} (h : G a = some (.lst xs)) (e : ixN xs.length i = some j) (q : Qs (dupd G a (.lst (xs.set j d)))) : dSetL (.ref a) (.int i) d G Qs := ⟨xs, j, h, e, q⟩
theorem append_ref (h : G a = some (.lst xs)) (hz : xs.length < sizeLine) (q : Q .non (dupd G a (.lst (xs ++ [d])))) : qAppend (.ref a) [d] G Q := by
  show (match G a with | some (.lst xs) => xs.length < sizeLine ∧ Q .non (dupd G a (.lst (xs ++ [d]))) | _ => False)
  rw [h]; exact ⟨hz, q⟩
theorem tyM_ref (h : G a = some (.lst xs)) : tyM "list" (.ref a) G := by unfold tyM; simp [h]
end
/-! ### the hand of a law: a list of the rests and a count -/
def hq (ds : List D) : Prop := ∃ ns : List Int, ds = ns.map .int ∧ ns.length ≤ 63 ∧ ∀ n ∈ ns, 0 ≤ n ∧ n < 10 ^ 60
def ha (q : Addr) (ds : List D) : Prop := ∃ k : Nat, ds = [.ref q, .int k]
def Hand (a : Addr) (G : DH) : Prop := ∃ q, a ≠ q ∧ G a = some (.hid (ha q)) ∧ G q = some (.hid hq)
theorem Hand.new {a p : Addr} {G : DH} {o : DO} (h : Hand a G) (hp : G p = none) : Hand a (dupd G p o) := by
  obtain ⟨q, n, h1, h2⟩ := h
  exact ⟨q, n, by rw [dupd_ne (dne_of h1 hp)]; exact h1, by rw [dupd_ne (dne_of h2 hp)]; exact h2⟩
theorem Hand.put {a p : Addr} {G : DH} {o : DO} {ds : List D} (h : Hand a G) (hp : G p = some (.lst ds)) : Hand a (dupd G p o) := by
  obtain ⟨q, n, h1, h2⟩ := h
  refine ⟨q, n, ?_, ?_⟩
  · rw [dupd_ne (by rintro rfl; rw [h1] at hp; cases hp)]; exact h1
  · rw [dupd_ne (by rintro rfl; rw [h2] at hp; cases hp)]; exact h2
end DL
namespace DL
open PySem PySem.Spec L2
section
variable {te tb : DTE} {t : DTA} {tt : DTT} {u v : DTS} {W : DX} {σ : DSt} {G : DH} {d x y : D} {b : Bool}
theorem dCons_ret {Q : List D → DH → Prop} (d : D) (h : Ret te W σ G d) (k : t W σ G fun xs G2 => Q (d :: xs) G2) : dCons te t W σ G Q := h _ k
theorem dAsg_ret {g : DTG} {Dn : DEnds} (d : D) (h : Ret te W σ G d) (k : g W d σ G Dn.nx) : dAsg te g W Dn σ G := h _ k
theorem dRet_ret {Dn : DEnds} (d : D) (h : Ret te W σ G d) (k : Dn.rt d G) : dRet te W Dn σ G := h _ k
theorem dIfS_ret {Dn : DEnds} (b : Bool) (h : RetT tt W σ G b) (k : (b = true → u W Dn σ G) ∧ (b = false → v W Dn σ G)) : dIfS tt u v W Dn σ G := h _ (by
  cases b with
  | true => exact iteT (k.1 rfl)
  | false => exact iteF (k.2 rfl))
theorem dIf_ret {ta : DTE} (b : Bool) (h : RetT tt W σ G b) (h1 : b = true → Ret ta W σ G d) (h2 : b = false → Ret tb W σ G d) : Ret (dIf tt ta tb) W σ G d := fun Q q => h _ (by
  cases b with
  | true => exact iteT (h1 rfl Q q)
  | false => exact iteF (h2 rfl Q q))
theorem dTru_ret (b : Bool) (h : Ret te W σ G (.bl b)) : RetT (dTru te) W σ G b := fun Q q => h _ q
theorem dTest_ret (b : Bool) (h : Ret te W σ G (.bl b)) : RetT (dTest te) W σ G b := fun Q q => h _ q
theorem dNot_ret (b : Bool) (h : RetT tt W σ G b) : RetT (dNot tt) W σ G (!b) := fun Q q => h _ q
theorem dAnd_ret {t1 t2 : DTT} (a b : Bool) (h1 : RetT t1 W σ G a) (h2 : a = true → RetT t2 W σ G b) : RetT (dAnd t1 t2) W σ G (a && b) := fun Q q => h1 _ (by
  cases a with
  | true => exact iteT (h2 rfl Q q)
  | false => exact iteF q)
theorem dOr_ret {t1 t2 : DTT} (a b : Bool) (h1 : RetT t1 W σ G a) (h2 : a = false → RetT t2 W σ G b) : RetT (dOr t1 t2) W σ G (a || b) := fun Q q => h1 _ (by
  cases a with
  | false => exact iteF (h2 rfl Q q)
  | true => exact iteT q)
theorem dAndV_ret {t1 t2 : DTE} (a b : Bool) (h1 : Ret t1 W σ G (.bl a)) (h2 : a = true → Ret t2 W σ G (.bl b)) : Ret (dAndV t1 t2) W σ G (.bl (a && b)) := fun Q q => h1 _ (by
  cases a with
  | true => exact iteT (h2 rfl Q q)
  | false => exact iteF q)
theorem dOrV_ret {t1 t2 : DTE} (a b : Bool) (h1 : Ret t1 W σ G (.bl a)) (h2 : a = false → Ret t2 W σ G (.bl b)) : Ret (dOrV t1 t2) W σ G (.bl (a || b)) := fun Q q => h1 _ (by
  cases a with
  | false => exact iteF (h2 rfl Q q)
  | true => exact iteT q)
theorem dNotV_ret {t1 : DTE} (a : Bool) (h1 : Ret t1 W σ G (.bl a)) : Ret (dNotV t1) W σ G (.bl (!a)) := fun Q q => h1 _ q
theorem dVar_ret {i : Nat} (h : σ[i]? = some (some d)) : Ret (dVar i) W σ G d := fun Q q => ⟨d, h, q⟩
theorem dK_ret : Ret (dK d) W σ G d := fun Q q => q
theorem dOp_ret {q : Q2} {ta : DTE} (x y : D) (h1 : Ret ta W σ G x) (h2 : Ret tb W σ G y) (h : ∀ Q : DK, Q d G → q x y G Q) : Ret (dOp q ta tb) W σ G d := fun Q k => h1 _ (h2 _ (h Q k))
theorem dChain_ret {q q' : Q2} {ta tc : DTE} (x y z : D) (a b : Bool) (h1 : Ret ta W σ G x) (h2 : Ret tb W σ G y) (h3 : ∀ Q : DK, Q (.bl a) G → q x y G Q) (h4 : a = true → Ret tc W σ G z) (h5 : a = true → ∀ Q : DK, Q (.bl b) G → q' y z G Q) : Ret (dChain q q' ta tb tc) W σ G (.bl (a && b)) :=
  fun Q k => h1 _ (h2 _ (h3 _ (by
    cases a with
    | true => exact iteT (h4 rfl _ (h5 rfl Q k))
    | false => exact iteF k)))
def RetA (t : DTA) (W : DX) (σ : DSt) (G : DH) (ds : List D) : Prop := ∀ Q : List D → DH → Prop, Q ds G → t W σ G Q
theorem dNil_ret : RetA dNil W σ G [] := fun Q q => q
theorem dConsA_ret {ds : List D} (h : Ret te W σ G d) (h2 : RetA t W σ G ds) : RetA (dCons te t) W σ G (d :: ds) := fun Q q => h _ (h2 _ q)
theorem dN_ret {q : QN} (ds : List D) (h : RetA t W σ G ds) (k : ∀ Q : DK, Q d G → q ds G Q) : Ret (dN q t) W σ G d := fun Q z => h _ (k Q z)
theorem dCall_ret {sp : DSp} (ds : List D) (h : RetA t W σ G ds) (k : ∀ (Q : DK) (E : Exc → DH → Prop), Q d G → sp ds G Q E) : Ret (dCall sp t) W σ G d := fun Q z => h _ (k Q _ z)
theorem dTup_ret {ds : List D} (h : RetA t W σ G ds) (z : ds.length ≤ 1000 := by decide) : Ret (dTup t) W σ G (.tup ds) := fun Q q => h _ ⟨Nat.le_trans z (by decide), q⟩
theorem dLst_ret {ds : List D} (h : RetA t W σ G ds) (z : ds.length ≤ 1000 := by decide) : Ret (dLst false t) W σ G (.lst ds) := fun Q q => h _ ⟨Nat.le_trans z (by decide), q⟩
def RetI (t : DTI) (W : DX) (σ : DSt) (G : DH) (ds : List D) : Prop := ∀ Q : List D → DH → Prop, Q ds G → t W σ G Q
theorem dIt_ret {ds : List D} (x : D) (h : Ret te W σ G x) (e : itD x = some ds) : RetI (dIt te) W σ G ds := fun Q q => h _ (by rw [e]; exact q)
theorem dRng1_ret (n : Nat) (h : RetA t W σ G [.int n]) (hz : n < 2 ^ 60 := by omega) : RetI (dRng1 t) W σ G (rngD 0 1 n) := fun Q q => h _ ⟨⟨by omega, by omega⟩, by simpa using q⟩
theorem dZip_ret {a b : List D} (x y : D) (h : RetA t W σ G [x, y]) (e1 : itD x = some a) (e2 : itD y = some b) : RetI (dZip t) W σ G (zipD a b) := fun Q q => h _ (by
  show (match itD x, itD y with | some a, some b => Q (zipD a b) G | _, _ => False)
  rw [e1, e2]; exact q)
/-- [e for x in xs], frozen -/
theorem dLc1_ret {i : Nat} {vs : List Nat} {t : DTI} {xs : List D} (f : D → D) (h : RetI t W σ G xs) (hz : xs.length ≤ 100000) (he : ∀ d ∈ xs, Ret te W0 ((dwipe σ vs).set i (some d)) G (f d)) : Ret (dLc false vs t (gSet i) dYes te) W σ G (.lst (xs.map f)) :=
  fun Q q => h _ ⟨Nat.le_trans hz (by decide), comp1 f he q⟩
theorem dLcF_ret {i : Nat} {vs : List Nat} {t : DTI} {xs : List D} (f : D → D) (p : D → Bool) (h : RetI t W σ G xs) (hz : xs.length ≤ 100000) (ht : ∀ d ∈ xs, RetT tt W0 ((dwipe σ vs).set i (some d)) G (p d)) (he : ∀ d ∈ xs, p d = true → Ret te W0 ((dwipe σ vs).set i (some d)) G (f d)) :
    Ret (dLc false vs t (gSet i) tt te) W σ G (.lst ((xs.filter p).map f)) := fun Q q => h _ ⟨Nat.le_trans hz (by decide), compF f p ht he q⟩
theorem dLc2_ret {α : Type} {i j : Nat} {vs : List Nat} {t : DTI} {xs : List α} (A B f : α → D) (h : RetI t W σ G (xs.map fun a => .tup [A a, B a])) (hz : xs.length ≤ 100000) (he : ∀ a ∈ xs, Ret te W0 (((dwipe σ vs).set i (some (A a))).set j (some (B a))) G (f a)) :
    Ret (dLc false vs t (gTupD 2 (gsCons (gSet i) (gsCons (gSet j) gsNil))) dYes te) W σ G (.lst (xs.map f)) := fun Q q => h _ ⟨Nat.le_trans (by rw [List.length_map]; exact hz) (by decide), comp2 A B f he q⟩
theorem dLc2F_ret {α : Type} {i j : Nat} {vs : List Nat} {t : DTI} {xs : List α} (A B f : α → D) (p : α → Bool) (h : RetI t W σ G (xs.map fun a => .tup [A a, B a])) (hz : xs.length ≤ 100000) (ht : ∀ a ∈ xs, RetT tt W0 (((dwipe σ vs).set i (some (A a))).set j (some (B a))) G (p a))
    (he : ∀ a ∈ xs, p a = true → Ret te W0 (((dwipe σ vs).set i (some (A a))).set j (some (B a))) G (f a)) :
    Ret (dLc false vs t (gTupD 2 (gsCons (gSet i) (gsCons (gSet j) gsNil))) tt te) W σ G (.lst ((xs.filter p).map f)) := fun Q q => h _ ⟨Nat.le_trans (by rw [List.length_map]; exact hz) (by decide), comp2F A B f p ht he q⟩
/-! built-ins on known trees -/
theorem isi_ret {x : D} {T s : String} {b : Bool} (h1 : tyD G x = some s) (h2 : kitB s T = some b) : ∀ Q : DK, Q (.bl b) G → qIsi [x, .ty T] G Q := fun Q q => by
  have : isTy G x T = some b := by unfold isTy; rw [h1]; exact h2
  show (match isTy G x T with | some b => Q (.bl b) G | none => False)
  rw [this]; exact q
theorem all_ret {bs : List Bool} {x : D} (h : x = .lst (bs.map .bl)) : ∀ Q : DK, Q (.bl (bs.all id)) G → qAll [x] G Q := fun Q q => by
  subst h
  show (match (some (bs.map D.bl)).bind blsOf with | some ns => Q (.bl (ns.all id)) G | none => False)
  rw [Option.bind_some, blsOf_map]; exact q
theorem any_ret {bs : List Bool} {x : D} (h : x = .lst (bs.map .bl)) : ∀ Q : DK, Q (.bl (bs.any id)) G → qAny [x] G Q := fun Q q => by
  subst h
  show (match (some (bs.map D.bl)).bind blsOf with | some ns => Q (.bl (ns.any id)) G | none => False)
  rw [Option.bind_some, blsOf_map]; exact q
theorem join_ret {ls : List (List Nat)} {x : D} (h : dseq G x = some (ls.map fun l => D.str (S l))) (hz : (ls.map List.length).sum ≤ 16777216) : ∀ Q : DK, Q (.str (S ls.flatten)) G → qJoin (.str (S [])) [x] G Q := fun Q q => by
  have e : (dseq G x).bind strsOf = some (ls.map S) := by
    rw [h, Option.bind_some, show (ls.map fun l => D.str (S l)) = (ls.map S).map D.str by simp [Function.comp_def], strsOf_map]
  show (match (dseq G x).bind strsOf with | some ys => (ys.map (·.length)).sum + ys.length * (S []).length ≤ 16777216 ∧ Q (.str (Txt.join (S []) ys)) G | none => False)
  rw [e]
  refine ⟨?_, by rw [join_S]; exact q⟩
  rw [List.map_map, show ((fun x : Str => x.length) ∘ S) = List.length from funext fun l => S_len, S_len]
  simpa using hz
end
end DL
namespace DL
open PySem PySem.Spec L2
theorem lt_sz {n : Nat} (h : n ≤ 1000000) : n < sizeLine := Nat.lt_of_le_of_lt h (by decide)
theorem le_sz {n : Nat} (h : n ≤ 1000000) : n ≤ sizeLine := Nat.le_trans h (by decide)
theorem log_lt {n k : Nat} (h : n < 2 ^ k) (hk : 0 < k) : n.log2 < k := by
  by_cases h0 : n = 0
  · subst h0; exact hk
  · exact (Nat.log2_lt h0).mpr h
theorem cdivW {i j : Int} (hj : 0 < j) (h : j < 2 ^ 256) : CDivW i j := ⟨hj, Nat.lt_trans (log_lt (k := 256) (by omega) (by decide)) (by decide)⟩
end DL
namespace DL
open PySem PySem.Spec L2
section
variable {te tb : DTE} {t : DTA} {tt : DTT} {u v : DTS} {W : DX} {σ : DSt} {G : DH} {d x y : D} {b : Bool} {xs : List D}
theorem dRevL_ret (x : D) (h : Ret te W σ G x) (e : dlst G x = some xs) : Ret (dRevL false te) W σ G (.lst xs.reverse) := fun Q q => h _ (by
  show (match dlst G x with | some xs => mkL false xs.reverse G Q | none => False)
  rw [e]; exact q)
theorem dM_ret {T : String} {q : QM} {ta : DTE} (x : D) (ds : List D) (h1 : Ret ta W σ G x) (h2 : tyM T x G) (h3 : RetA t W σ G ds) (k : ∀ Q : DK, Q d G → q x ds G Q) : Ret (dM T q ta t) W σ G d := fun Q z => h1 _ ⟨h2, h3 _ (k Q z)⟩
theorem dDrop_append {Dn : DEnds} {ta : DTE} (p : Addr) (xs : List D) (d : D) (h1 : Ret ta W σ G (.ref p)) (h2 : G p = some (.lst xs)) (h3 : Ret te W σ G d) (hz : xs.length ≤ 1000000) (k : Dn.nx σ (dupd G p (.lst (xs ++ [d])))) : dDrop (dM "list" qAppend ta (dCons te dNil)) W Dn σ G :=
  h1 _ ⟨tyM_ref h2, h3 _ (show qAppend (.ref p) [d] G (fun _ G1 => Dn.nx σ G1) from append_ref h2 (lt_sz hz) k)⟩
theorem dK_eq (h : x = d) : Ret (dK x) W σ G d := h ▸ dK_ret
theorem dKs_eq {a : Str} {l : List Nat} (h : a = S l) : Ret (dK (.str a)) W σ G (.str (S l)) := h ▸ dK_ret
theorem dDrop_ret {Dn : DEnds} (d : D) (h : Ret te W σ G d) (k : Dn.nx σ G) : dDrop te W Dn σ G := h _ k
/-- ''.join(..) -/
theorem join1_ret {ta : DTE} {ls : List (List Nat)} {x : D} (h1 : Ret ta W σ G (.str (S []))) (h2 : Ret te W σ G x) (h : dseq G x = some (ls.map fun l => D.str (S l))) (hz : (ls.map List.length).sum ≤ 16777216) (e : d = .str (S ls.flatten)) : Ret (dM "str" qJoin ta (dCons te dNil)) W σ G d :=
  dM_ret _ _ h1 rfl (dConsA_ret h2 dNil_ret) fun Q z => join_ret h hz Q (e ▸ z)
/-- .. of single signs -/
theorem joinC_ret {ta : DTE} {l : List Nat} {x : D} (h1 : Ret ta W σ G (.str (S []))) (h2 : Ret te W σ G x) (h : dseq G x = some (l.map fun c => D.str (S [c]))) (hz : l.length ≤ 16777216) : Ret (dM "str" qJoin ta (dCons te dNil)) W σ G (.str (S l)) := by
  refine join1_ret (ls := l.map fun c => [c]) h1 h2 (by rw [h, List.map_map]; rfl) ?_ (by rw [flat1])
  rw [List.map_map, show (List.length ∘ fun c : Nat => [c]) = fun _ => 1 from rfl, List.map_const']
  simpa using hz
end
/-- the draws' tests -/
theorem dec_nat {a b : Nat} : decide ((a : Int) = (b : Int)) = decide (a = b) := decide_eq_decide.mpr (by omega)
theorem mod2i (n : Nat) : ((n : Int) % 2) = ((n % 2 : Nat) : Int) := by omega
theorem zipWith_zip {α β γ : Type} (f : α → β → γ) : ∀ (a : List α) (b : List β), List.zipWith f a b = (a.zip b).map fun p => f p.1 p.2
  | [], _ => by simp
  | _ :: _, [] => by simp
  | x :: a, y :: b => by simp [zipWith_zip f a b]
theorem e_str : Str.ofString "" = S [] := by decide +kernel
theorem e_0 : Str.ofString "0" = S [48] := by decide +kernel
theorem e_1 : Str.ofString "1" = S [49] := by decide +kernel
theorem e_01 : Str.ofString "01" = S [48, 49] := by decide +kernel
end DL

/-! D14: more reading. -/
namespace DL
open PySem PySem.Spec L2
section
variable {te tb : DTE} {t : DTA} {tt : DTT} {u v : DTS} {W : DX} {σ : DSt} {G : DH} {d x y : D} {b : Bool} {xs : List D}
theorem eqI_ret {i j : Int} {p : Bool} (h : decide (i = j) = p) : ∀ Q : DK, Q (.bl p) G → qEq false (.int i) (.int j) G Q := fun Q q => by subst h; exact q
theorem neI_ret {i j : Int} {p : Bool} (h : (!decide (i = j)) = p) : ∀ Q : DK, Q (.bl p) G → qEq true (.int i) (.int j) G Q := fun Q q => by subst h; exact q
theorem eqS_ret {i j : List Nat} {p : Bool} (h : decide (i = j) = p) : ∀ Q : DK, Q (.bl p) G → qEq false (.str (S i)) (.str (S j)) G Q := fun Q q => by
  show Q (.bl (decide (S i = S j))) G
  rw [decide_eq_decide.mpr S_inj, h]; exact q
theorem zip_ret {α β : Type} {te1 te2 : DTE} (A : α → D) (B : β → D) (a : List α) (b : List β) (x y : D) (h1 : Ret te1 W σ G x) (h2 : Ret te2 W σ G y) (e1 : itD x = some (a.map A)) (e2 : itD y = some (b.map B)) : RetI (dZip (dCons te1 (dCons te2 dNil))) W σ G ((a.zip b).map fun p => .tup [A p.1, B p.2]) := by
  rw [← zipD_zip]; exact dZip_ret _ _ (dConsA_ret h1 (dConsA_ret h2 dNil_ret)) e1 e2
theorem it_S {l : List Nat} : itD (.str (S l)) = some (l.map fun c => D.str (S [c])) := by show some (signs (S l)) = _; rw [signs_S]
end
end DL
namespace DL
open PySem PySem.Spec L2
section
variable {te tb : DTE} {t : DTA} {tt : DTT} {u v : DTS} {W : DX} {σ : DSt} {G : DH} {d x y : D} {b : Bool} {xs : List D}
theorem isi1 {T s : String} (x : D) (h : Ret te W σ G x) (h1 : tyD G x = some s) (h2 : kitB s T = some b) : Ret (dN qIsi (dCons te (dCons (dK (.ty T)) dNil))) W σ G (.bl b) :=
  dN_ret _ (dConsA_ret h (dConsA_ret dK_ret dNil_ret)) (isi_ret h1 h2)
theorem comp1M {α : Type} {i : Nat} (A f : α → D) : ∀ {xs : List α} {Q : List D → DH → Prop}, (∀ a ∈ xs, Ret te W0 (σ.set i (some (A a))) G (f a)) → Q (xs.map f) G → dComp (gSet i) dYes te (xs.map A) σ G Q
  | [], Q, _, q => q
  | d :: r, Q, h, q => h d List.mem_cons_self _ (comp1M A f (fun e he => h e (List.mem_cons_of_mem _ he)) q)
theorem dLcM_ret {α : Type} {i : Nat} {vs : List Nat} {t : DTI} {xs : List α} (A f : α → D) (h : RetI t W σ G (xs.map A)) (hz : xs.length ≤ 100000) (he : ∀ a ∈ xs, Ret te W0 ((dwipe σ vs).set i (some (A a))) G (f a)) : Ret (dLc false vs t (gSet i) dYes te) W σ G (.lst (xs.map f)) :=
  fun Q q => h _ ⟨Nat.le_trans (by rw [List.length_map]; exact hz) (by decide), comp1M A f he q⟩
theorem compFM {α : Type} {i : Nat} (A f : α → D) (p : α → Bool) : ∀ {xs : List α} {Q : List D → DH → Prop}, (∀ a ∈ xs, RetT tt W0 (σ.set i (some (A a))) G (p a)) → (∀ a ∈ xs, p a = true → Ret te W0 (σ.set i (some (A a))) G (f a)) → Q ((xs.filter p).map f) G → dComp (gSet i) tt te (xs.map A) σ G Q
  | [], Q, _, _, q => q
  | d :: r, Q, ht, h, q => by
    refine ht d List.mem_cons_self _ ?_
    cases hp : p d with
    | true =>
      rw [List.filter_cons_of_pos hp] at q
      exact iteT (h d List.mem_cons_self hp _ (compFM A f p (fun e he => ht e (List.mem_cons_of_mem _ he)) (fun e he => h e (List.mem_cons_of_mem _ he)) q))
    | false =>
      rw [List.filter_cons_of_neg (by simp [hp])] at q
      exact iteF (compFM A f p (fun e he => ht e (List.mem_cons_of_mem _ he)) (fun e he => h e (List.mem_cons_of_mem _ he)) q)
theorem dLcFM_ret {α : Type} {i : Nat} {vs : List Nat} {t : DTI} {xs : List α} (A f : α → D) (p : α → Bool) (h : RetI t W σ G (xs.map A)) (hz : xs.length ≤ 100000) (ht : ∀ a ∈ xs, RetT tt W0 ((dwipe σ vs).set i (some (A a))) G (p a)) (he : ∀ a ∈ xs, p a = true → Ret te W0 ((dwipe σ vs).set i (some (A a))) G (f a)) :
    Ret (dLc false vs t (gSet i) tt te) W σ G (.lst ((xs.filter p).map f)) := fun Q q => h _ ⟨Nat.le_trans (by rw [List.length_map]; exact hz) (by decide), compFM A f p ht he q⟩
/-- all([..]) -/
theorem allL_ret {bs : List Bool} (h : Ret te W σ G (.lst (bs.map .bl))) : Ret (dN qAll (dCons te dNil)) W σ G (.bl (bs.all id)) := dN_ret _ (dConsA_ret h dNil_ret) (all_ret rfl)
theorem anyL_ret {bs : List Bool} (h : Ret te W σ G (.lst (bs.map .bl))) : Ret (dN qAny (dCons te dNil)) W σ G (.bl (bs.any id)) := dN_ret _ (dConsA_ret h dNil_ret) (any_ret rfl)
theorem allM_ret {α : Type} {l : List α} {f : α → Bool} (h : Ret te W σ G (.lst (l.map fun a => .bl (f a)))) : Ret (dN qAll (dCons te dNil)) W σ G (.bl (l.all f)) := by
  have := allL_ret (bs := l.map f) (te := te) (W := W) (σ := σ) (G := G) (by rw [List.map_map]; exact h)
  rwa [List.all_map] at this
theorem anyM_ret {α : Type} {l : List α} {f : α → Bool} (h : Ret te W σ G (.lst (l.map fun a => .bl (f a)))) : Ret (dN qAny (dCons te dNil)) W σ G (.bl (l.any f)) := by
  have := anyL_ret (bs := l.map f) (te := te) (W := W) (σ := σ) (G := G) (by rw [List.map_map]; exact h)
  rwa [List.any_map] at this
theorem lenS_ret (z : Str) (h : Ret te W σ G (.str z)) (hz : z.length ≤ 1000000) : Ret (dN qLen (dCons te dNil)) W σ G (.int z.length) := dN_ret _ (dConsA_ret h dNil_ret) fun Q q => ⟨le_sz hz, q⟩
theorem lenX_ret (x : D) (h : Ret te W σ G x) (e : dseq G x = some xs) : Ret (dN qLen (dCons te dNil)) W σ G (.int xs.length) := dN_ret _ (dConsA_ret h dNil_ret) fun Q q => len_seq e q
theorem tupX_ret (x : D) (h : Ret te W σ G x) (e : dseq G x = some xs) : Ret (dN qTuple (dCons te dNil)) W σ G (.tup xs) := dN_ret _ (dConsA_ret h dNil_ret) fun Q q => by
  show (match dseq G x with | some xs => Q (.tup xs) G | none => False)
  rw [e]; exact q
theorem lstX_ret (x : D) (h : Ret te W σ G x) (e : dseq G x = some xs) : Ret (dN (qList false) (dCons te dNil)) W σ G (.lst xs) := dN_ret _ (dConsA_ret h dNil_ret) fun Q q => by
  show (match dseq G x with | some xs => mkL false xs G Q | none => False)
  rw [e]; exact q
theorem ixX_ret {ta : DTE} (x : D) (i : Int) (h1 : Ret te W σ G x) (h2 : Ret ta W σ G (.int i)) (e : dseq G x = some xs) (e2 : L2.atI xs i = some d) : Ret (dOp qIx te ta) W σ G d := dOp_ret _ _ h1 h2 fun Q q => ix_seq' e e2 q
theorem ixN_nat {n i : Nat} (h : i < n) : ixN n (i : Int) = some i := by
  unfold ixN
  simp [h]
theorem atI_nat {α : Type} {xs : List α} {i : Nat} {a : α} (h : xs[i]? = some a) : L2.atI xs (i : Int) = some a := by
  have hl : i < xs.length := (List.getElem?_eq_some_iff.mp h).1
  unfold L2.atI
  rw [ixN_nat hl]
  exact h
theorem cut_from {α : Type} {xs : List α} {k : Nat} : cutL xs (some (k : Int)) none = xs.drop k := by
  unfold cutL
  rw [HT.sIx_nat, HT.sIx_none]
  by_cases h : k ≤ xs.length
  · rw [Nat.min_eq_left h, List.take_of_length_le (by rw [List.length_drop]; exact Nat.le_refl _)]
  · rw [Nat.min_eq_right (by omega), List.drop_of_length_le (Nat.le_refl _), List.drop_of_length_le (by omega)]; simp
theorem cut_to {α : Type} {xs : List α} {k : Nat} : cutL xs none (some (k : Int)) = xs.take k := by
  unfold cutL
  rw [HT.sIx_nat, HT.sIx_none, List.drop_zero, Nat.sub_zero]
  by_cases h : k ≤ xs.length
  · rw [Nat.min_eq_left h]
  · rw [Nat.min_eq_right (by omega), List.take_of_length_le (Nat.le_refl _), List.take_of_length_le (by omega)]
theorem shl_ret {ta : DTE} {k : Nat} (h1 : Ret te W σ G (.int 1)) (h2 : Ret ta W σ G (.int k)) (hk : k ≤ 1000) : Ret (dOp qShl te ta) W σ G (.int ((2 ^ k : Nat) : Int)) := dOp_ret _ _ h1 h2 fun Q q => ⟨⟨by omega, by omega, by decide⟩, by
  have : (1 : Int) * 2 ^ (k : Int).toNat = ((2 ^ k : Nat) : Int) := by simp
  show Q (.int ((1 : Int) * 2 ^ (k : Int).toNat)) G
  rw [this]; exact q⟩
end
end DL
namespace DL
open PySem PySem.Spec L2
section
variable {te tb : DTE} {t : DTA} {tt : DTT} {u v : DTS} {W : DX} {σ : DSt} {G : DH} {d x y : D} {b : Bool} {xs : List D} {Dn : DEnds}
theorem dDrop_call {sp : DSp} (ds : List D) (h : RetA t W σ G ds) (k : sp ds G (fun _ G1 => Dn.nx σ G1) (fun x G2 => W x σ G2)) : dDrop (dCall sp t) W Dn σ G := h _ k
theorem dRet_call {sp : DSp} (ds : List D) (h : RetA t W σ G ds) (k : sp ds G Dn.rt (fun x G2 => W x σ G2)) : dRet (dCall sp t) W Dn σ G := h _ k
theorem dAsg_call {sp : DSp} {i : Nat} (ds : List D) (h : RetA t W σ G ds) (k : sp ds G (fun d G1 => Dn.nx (σ.set i (some d)) G1) (fun x G2 => W x σ G2)) : dAsg (dCall sp t) (gSet i) W Dn σ G := h _ k
theorem dNext_i (h : Dn.nx σ G) : dNext W Dn σ G := h
theorem at0 {α : Type} {a : α} {r : List α} : L2.atI (a :: r) 0 = some a := atI_nat (i := 0) rfl
theorem at1 {α : Type} {a b : α} {r : List α} : L2.atI (a :: b :: r) 1 = some b := atI_nat (i := 1) rfl
end
end DL
namespace DL
open PySem PySem.Spec L2
section
variable {te tb : DTE} {t : DTA} {tt : DTT} {u v u1 : DTS} {W : DX} {σ : DSt} {G : DH} {d x y : D} {b : Bool} {xs : List D} {Dn : DEnds} {i : Nat} {sp : DSp}
/-! statement by statement -/
theorem seqSet (d : D) (h : Ret te W σ G d) (k : u W Dn (σ.set i (some d)) G) : dSeq (dAsg te (gSet i)) u W Dn σ G := h _ k
theorem seqSetM {m : Prop} (h : te W σ G fun d G1 => u W Dn (σ.set i (some d)) G1) : dSeq (dAsg te (gSet i)) u W Dn σ G := h
theorem seqCall (ds : List D) (h : RetA t W σ G ds) (k : sp ds G (fun d G1 => u W Dn (σ.set i (some d)) G1) (fun x G2 => W x σ G2)) : dSeq (dAsg (dCall sp t) (gSet i)) u W Dn σ G := h _ k
theorem seqDrop (d : D) (h : Ret te W σ G d) (k : u W Dn σ G) : dSeq (dDrop te) u W Dn σ G := h _ k
theorem seqDropCall (ds : List D) (h : RetA t W σ G ds) (k : sp ds G (fun _ G1 => u W Dn σ G1) (fun x G2 => W x σ G2)) : dSeq (dDrop (dCall sp t)) u W Dn σ G := h _ k
/-- if t: u1 (which leaves); then u -/
theorem seqIfL (b : Bool) (h : RetT tt W σ G b) (h1 : b = true → u1 W { nx := u W Dn, rt := Dn.rt, bk := Dn.bk, ct := Dn.ct } σ G) (h2 : b = false → u W Dn σ G) : dSeq (dIfS tt u1 dNext) u W Dn σ G := h _ (by
  cases b with
  | true => exact iteT (h1 rfl)
  | false => exact iteF (h2 rfl))
theorem seqIf (b : Bool) (h : RetT tt W σ G b) (h1 : b = true → u1 W { nx := u W Dn, rt := Dn.rt, bk := Dn.bk, ct := Dn.ct } σ G) (h2 : b = false → v W { nx := u W Dn, rt := Dn.rt, bk := Dn.bk, ct := Dn.ct } σ G) : dSeq (dIfS tt u1 v) u W Dn σ G := h _ (by
  cases b with
  | true => exact iteT (h1 rfl)
  | false => exact iteF (h2 rfl))
theorem ifL (b : Bool) (h : RetT tt W σ G b) (h1 : b = true → u1 W Dn σ G) (h2 : b = false → v W Dn σ G) : dIfS tt u1 v W Dn σ G := h _ (by
  cases b with
  | true => exact iteT (h1 rfl)
  | false => exact iteF (h2 rfl))
theorem seqApp {ta : DTE} (p : Addr) (xs : List D) (d : D) (h1 : Ret ta W σ G (.ref p)) (h2 : G p = some (.lst xs)) (h3 : Ret te W σ G d) (hz : xs.length ≤ 1000000) (k : u W Dn σ (dupd G p (.lst (xs ++ [d])))) : dSeq (dDrop (dM "list" qAppend ta (dCons te dNil))) u W Dn σ G :=
  dDrop_append p xs d h1 h2 h3 hz k
/-- a list of our own is begun -/
theorem seqNew {t : DTA} {ds : List D} (h : RetA t W σ G ds) (hz : ds.length ≤ 1000) (k : ∀ p, G p = none → u W Dn (σ.set i (some (.ref p))) (dupd G p (.lst ds))) : dSeq (dAsg (dLst true t) (gSet i)) u W Dn σ G := h _ ⟨Nat.le_trans hz (by decide), k⟩
/-- a[j] = e -/
theorem seqPut {to ti : DTE} (p : Addr) (xs : List D) (k : Int) (j : Nat) (d : D) (h1 : Ret te W σ G d) (h2 : Ret to W σ G (.ref p)) (h3 : Ret ti W σ G (.int k)) (h4 : G p = some (.lst xs)) (h5 : ixN xs.length k = some j) (hk : u W Dn σ (dupd G p (.lst (xs.set j d)))) : dSeq (dAsg te (gSubD dSetL to ti)) u W Dn σ G :=
  h1 _ (h2 _ (h3 _ ⟨xs, j, h4, h5, hk⟩))
theorem asgPut {to ti : DTE} (p : Addr) (xs : List D) (k : Int) (j : Nat) (d : D) (h1 : Ret te W σ G d) (h2 : Ret to W σ G (.ref p)) (h3 : Ret ti W σ G (.int k)) (h4 : G p = some (.lst xs)) (h5 : ixN xs.length k = some j) (hk : Dn.nx σ (dupd G p (.lst (xs.set j d)))) : dAsg te (gSubD dSetL to ti) W Dn σ G :=
  h1 _ (h2 _ (h3 _ ⟨xs, j, h4, h5, hk⟩))
theorem seqFor {t : DTI} {g : DTG} {tb : DTS} (xs : List D) (h : RetI t W σ G xs) (k : dRun g tb xs W { nx := u W Dn, rt := Dn.rt, bk := Dn.bk, ct := Dn.ct } σ G) : dSeq (dFor t g tb) u W Dn σ G := h _ k
/-- a loop over numbers, by an invariant -/
theorem run_rng {tb : DTS} (I : Nat → DSt → DH → Prop) (n : Nat) (step : ∀ k σ G, k < n → I k σ G → ∀ nx : DSt → DH → Prop, (∀ σ' G', I (k + 1) σ' G' → nx σ' G') → tb W { nx := nx, rt := Dn.rt, bk := Dn.nx, ct := nx } (σ.set i (some (.int (k : Nat)))) G) (done : ∀ σ G, I n σ G → Dn.nx σ G) :
    ∀ (m k : Nat), k + m = n → ∀ σ G, I k σ G → dRun (gSet i) tb (rngD (k : Nat) 1 m) W Dn σ G
  | 0, k, e, σ, G, h => by rw [rngD_zero]; exact done σ G (by rw [← e]; exact h)
  | m + 1, k, e, σ, G, h => by
    rw [rngD_succ]
    refine step k σ G (by omega) h _ fun σ' G' h' => ?_
    have := run_rng I n step done m (k + 1) (by omega) σ' G' h'
    rw [show ((k : Nat) : Int) + 1 = ((k + 1 : Nat) : Int) by omega]
    exact this
/-- for k in range(n): .., by an invariant -/
theorem seqRng {t : DTA} {tb : DTS} (n : Nat) (I : Nat → DSt → DH → Prop) (h : RetA t W σ G [.int (n : Nat)]) (hz : n < 2 ^ 60) (start : I 0 σ G)
    (step : ∀ k σ G, k < n → I k σ G → ∀ nx : DSt → DH → Prop, (∀ σ' G', I (k + 1) σ' G' → nx σ' G') → tb W { nx := nx, rt := Dn.rt, bk := u W Dn, ct := nx } (σ.set i (some (.int (k : Nat)))) G) (done : ∀ σ G, I n σ G → u W Dn σ G) : dSeq (dFor (dRng1 t) (gSet i) tb) u W Dn σ G :=
  seqFor _ (dRng1_ret n h hz) (run_rng (Dn := { nx := u W Dn, rt := Dn.rt, bk := Dn.bk, ct := Dn.ct }) I n step done n 0 (by omega) σ G start)
end
end DL
namespace DL
open PySem PySem.Spec L2
section
variable {te tb : DTE} {t : DTA} {tt : DTT} {W : DX} {σ : DSt} {G : DH} {d x y : D} {Dn : DEnds} {sp : DSp} {Q : DK}
theorem callV (ds : List D) (h : RetA t W σ G ds) (k : sp ds G Q (fun x G2 => W x σ G2)) : dCall sp t W σ G Q := h _ k
end
end DL
namespace DL
open PySem PySem.Spec L2
section
variable {te ta tb : DTE} {t : DTA} {tt : DTT} {W : DX} {σ : DSt} {G : DH} {d x y : D} {Dn : DEnds} {sp : DSp} {Q : DK} {q : Q2} {qn : QN} {QA : List D → DH → Prop} {u : DTS} {i : Nat}
theorem dRet_i (h : te W σ G Dn.rt) : dRet te W Dn σ G := h
theorem dOp_i (h : ta W σ G fun x G1 => tb W σ G1 fun y G2 => q x y G2 Q) : dOp q ta tb W σ G Q := h
theorem dN_i (h : t W σ G fun xs G1 => qn xs G1 Q) : dN qn t W σ G Q := h
theorem dCons_i (h : te W σ G fun x G1 => t W σ G1 fun xs G2 => QA (x :: xs) G2) : dCons te t W σ G QA := h
theorem seqSet_i (h : te W σ G fun d G1 => u W Dn (σ.set i (some d)) G1) : dSeq (dAsg te (gSet i)) u W Dn σ G := h
theorem dNotV_i (h : te W σ G fun x G1 => match x with | .bl b => Q (.bl (!b)) G1 | _ => False) : dNotV te W σ G Q := h
end
end DL
namespace DL
open PySem PySem.Spec L2
section
variable {te ta tb : DTE} {t : DTA} {tt : DTT} {W : DX} {σ : DSt} {G : DH} {d x y : D} {Dn : DEnds} {sp : DSp} {Q : DK} {i j : Int} {u : DTS}
/-! whole numbers -/
theorem modR (h1 : Ret ta W σ G (.int i)) (h2 : Ret tb W σ G (.int j)) (h : 0 < j) : Ret (dOp qMod ta tb) W σ G (.int (i % j)) := dOp_ret _ _ h1 h2 fun Q q => ⟨h, q⟩
theorem addR {m : Bool} (h1 : Ret ta W σ G (.int i)) (h2 : Ret tb W σ G (.int j)) : Ret (dOp (qAdd m) ta tb) W σ G (.int (i + j)) := dOp_ret _ _ h1 h2 fun Q q => q
theorem subR (h1 : Ret ta W σ G (.int i)) (h2 : Ret tb W σ G (.int j)) : Ret (dOp qSub ta tb) W σ G (.int (i - j)) := dOp_ret _ _ h1 h2 fun Q q => q
theorem mulR {m : Bool} (h1 : Ret ta W σ G (.int i)) (h2 : Ret tb W σ G (.int j)) (h : (-(2 ^ 64) < i ∧ i < 2 ^ 64) ∨ (-(2 ^ 64) < j ∧ j < 2 ^ 64)) : Ret (dOp (qMul m) ta tb) W σ G (.int (i * j)) := dOp_ret _ _ h1 h2 fun Q q => ⟨.inl h, q⟩
theorem fdivR (h1 : Ret ta W σ G (.int i)) (h2 : Ret tb W σ G (.int j)) (h : 0 < j) (hj : j < 2 ^ 256) : Ret (dOp qFdiv ta tb) W σ G (.int (i / j)) := dOp_ret _ _ h1 h2 fun Q q => ⟨cdivW h hj, q⟩
theorem ltR (h1 : Ret ta W σ G (.int i)) (h2 : Ret tb W σ G (.int j)) : Ret (dOp qLt ta tb) W σ G (.bl (decide (i < j))) := dOp_ret _ _ h1 h2 fun Q q => q
theorem leR (h1 : Ret ta W σ G (.int i)) (h2 : Ret tb W σ G (.int j)) : Ret (dOp qLe ta tb) W σ G (.bl (decide (i ≤ j))) := dOp_ret _ _ h1 h2 fun Q q => q
theorem gtR (h1 : Ret ta W σ G (.int i)) (h2 : Ret tb W σ G (.int j)) : Ret (dOp qGt ta tb) W σ G (.bl (decide (j < i))) := dOp_ret _ _ h1 h2 fun Q q => q
theorem geR (h1 : Ret ta W σ G (.int i)) (h2 : Ret tb W σ G (.int j)) : Ret (dOp qGe ta tb) W σ G (.bl (decide (j ≤ i))) := dOp_ret _ _ h1 h2 fun Q q => q
theorem eqR (h1 : Ret ta W σ G (.int i)) (h2 : Ret tb W σ G (.int j)) : Ret (dOp (qEq false) ta tb) W σ G (.bl (decide (i = j))) := dOp_ret _ _ h1 h2 fun Q q => q
theorem neR (h1 : Ret ta W σ G (.int i)) (h2 : Ret tb W σ G (.int j)) : Ret (dOp (qEq true) ta tb) W σ G (.bl (!decide (i = j))) := dOp_ret _ _ h1 h2 fun Q q => q
theorem intR (h : Ret te W σ G (.int i)) : Ret (dN qInt (dCons te dNil)) W σ G (.int i) := dN_ret _ (dConsA_ret h dNil_ret) fun Q q => q
theorem powR {n : Nat} (h1 : Ret ta W σ G (.int i)) (h2 : Ret tb W σ G (.int n)) (hn : n ≤ 1000) (hi : i.natAbs < 2 ^ 64) : Ret (dOp qPow ta tb) W σ G (.int (i ^ n)) := dOp_ret _ _ h1 h2 fun Q q => ⟨⟨by omega, by omega, hi⟩, q⟩
theorem shlR {n : Nat} {i : Int} (h1 : Ret ta W σ G (.int i)) (h2 : Ret tb W σ G (.int n)) (hn : n ≤ 1000) (hi : i.natAbs < 2 ^ 64) : Ret (dOp qShl ta tb) W σ G (.int (i * 2 ^ n)) := dOp_ret _ _ h1 h2 fun Q q => ⟨⟨by omega, by omega, hi⟩, q⟩
theorem xorR {a b : Nat} (h1 : Ret ta W σ G (.int a)) (h2 : Ret tb W σ G (.int b)) : Ret (dOp qXor ta tb) W σ G (.int ((a ^^^ b : Nat) : Int)) := dOp_ret _ _ h1 h2 fun Q q => by
  show Q (.int (Builtin.bitXor (a : Int) (b : Int))) G
  rw [bitXor_nat]; exact q
theorem negR (h : Ret te W σ G (.int i)) : Ret (dUn qNeg te) W σ G (.int (-i)) := fun Q q => h _ q
theorem ixR {xs : List D} {p : Addr} {k : Int} (h1 : Ret ta W σ G (.ref p)) (h2 : Ret tb W σ G (.int k)) (e : G p = some (.lst xs)) (e2 : L2.atI xs k = some d) : Ret (dOp qIx ta tb) W σ G d := ixX_ret _ _ h1 h2 (dseq_ref e) e2
theorem lenR {xs : List D} {p : Addr} (h : Ret te W σ G (.ref p)) (e : G p = some (.lst xs)) : Ret (dN qLen (dCons te dNil)) W σ G (.int xs.length) := lenX_ret _ h (dseq_ref e)
theorem Ret.cast {d2 : D} (h : Ret te W σ G d) (e : d = d2) : Ret te W σ G d2 := e ▸ h
/-- draws in a list -/
theorem compAny {i : Nat} (Pd : D → Prop) : ∀ {xs : List D} {Q : List D → DH → Prop}, (∀ d ∈ xs, ∀ Q : DK, (∀ v, Pd v → Q v G) → te W0 (σ.set i (some d)) G Q) → (∀ ys : List D, ys.length = xs.length → (∀ y ∈ ys, Pd y) → Q ys G) → dComp (gSet i) dYes te xs σ G Q
  | [], Q, _, q => q [] rfl (by simp)
  | d :: r, Q, h, q => h d List.mem_cons_self _ fun v pv => compAny Pd (fun e he => h e (List.mem_cons_of_mem _ he)) fun ys hl hy => q (v :: ys) (by simp [hl]) fun y hm => by
      rcases List.mem_cons.mp hm with rfl | hm
      · exact pv
      · exact hy y hm
end
theorem hand_sub {G G2 : DH} {a q : Addr} (h1 : G a = some (.hid (ha q))) (h2 : G q = some (.hid hq)) {k : Nat} {ns : List Int} (e1 : G2 a = some (.lst [.ref q, .int k])) (e2 : G2 q = some (.lst (ns.map .int))) (hl : ns.length ≤ 63) (hn : ∀ n ∈ ns, 0 ≤ n ∧ n < 10 ^ 60)
    (e3 : ∀ b, b ≠ a → b ≠ q → G2 b = G b) : Sub G G2 := fun b o e => by
  by_cases hb : b = a
  · subst hb
    rw [h1] at e; cases e
    exact .inr ⟨_, _, rfl, ⟨k, rfl⟩, e1⟩
  · by_cases hb2 : b = q
    · subst hb2
      rw [h2] at e; cases e
      exact .inr ⟨_, _, rfl, ⟨ns, rfl, hl, hn⟩, e2⟩
    · exact .inl (by rw [e3 b hb hb2]; exact e)
theorem emod_nat {x : Int} {m : Nat} (h : 0 < m) : ∃ r : Nat, r < m ∧ x % (m : Int) = (r : Int) := by
  have h0 := Int.emod_nonneg x (b := (m : Int)) (by omega)
  have h1 := Int.emod_lt_of_pos x (b := (m : Int)) (by omega)
  exact ⟨(x % (m : Int)).toNat, by omega, by omega⟩
end DL
namespace DL
open PySem PySem.Spec L2
section
variable {te ta tb : DTE} {t : DTA} {ti : DTI} {tt : DTT} {g : DTG} {W : DX} {σ : DSt} {G : DH} {d x y : D} {Dn : DEnds} {sp : DSp} {Q : DK} {i j : Int} {u : DTS} {m : Bool} {vs : List Nat} {xs : List D}
theorem dLst_i (h : t W σ G fun xs G1 => xs.length ≤ sizeLine ∧ mkL m xs G1 Q) : dLst m t W σ G Q := h
theorem dLc_i (h : RetI ti W σ G xs) (hz : xs.length ≤ 100000) (k : dComp g tt te xs (dwipe σ vs) G fun ys G2 => mkL m ys G2 Q) : dLc m vs ti g tt te W σ G Q := h _ ⟨Nat.le_trans hz (by decide), k⟩
end
end DL
namespace DL
open PySem PySem.Spec L2
section
variable {P : Program} {w : World} {K : PySem.W.Frag} {mg : Str → Option Value} {base : Heap}
/-- the empty promise -/
theorem has_none {k : Nat} {x : Str} {st : Stmt} {ps : List Str} (h0 : At K mg x st ps) : Has P w K mg base k x st ps (fun _ _ _ _ => False) := by
  obtain ⟨f, fd, hm, hF, hb⟩ := h0
  exact ⟨f, fd, hm, hF, hb, ⟨fun vs H Q E ⟨_, _, _, _, _, _, _, h, _⟩ => h.elim, fun A outer s H args us vs Q E _ _ _ _ ⟨_, _, _, _, _, _, _, h, _⟩ => h.elim⟩⟩
theorem Has.up {j k : Nat} {x : Str} {st : Stmt} {ps : List Str} {sp : DSp} (h : Has P w K mg base j x st ps sp) (hk : j ≤ k) : Has P w K mg base k x st ps sp := by
  obtain ⟨f, fd, hm, hF, hb, F⟩ := h
  exact ⟨f, fd, hm, hF, hb, F.mono hk⟩
end
section
variable {te ta tb : DTE} {t : DTA} {ti : DTI} {tt : DTT} {g : DTG} {W : DX} {σ : DSt} {G : DH} {d x y : D} {Dn : DEnds} {sp : DSp} {Q : DK} {i j : Int} {u : DTS} {m : Bool} {vs : List Nat} {xs : List D}
theorem asgSet {i : Nat} (d : D) (h : Ret te W σ G d) (k : Dn.nx (σ.set i (some d)) G) : dAsg te (gSet i) W Dn σ G := h _ k
theorem strR {i : Int} (h : Ret te W σ G (.int i)) (hi : i.natAbs < 2 ^ 256) : Ret (dN qStr (dCons te dNil)) W σ G (.str (Str.ofString (toString i))) := dN_ret _ (dConsA_ret h dNil_ret) fun Q q => ⟨Nat.lt_trans (log_lt hi (by decide)) (by decide), q⟩
theorem catR {a b : List Nat} (h1 : Ret ta W σ G (.str (S a))) (h2 : Ret tb W σ G (.str (S b))) (hz : a.length + b.length ≤ 1000000) : Ret (dOp (qAdd m) ta tb) W σ G (.str (S (a ++ b))) := dOp_ret _ _ h1 h2 fun Q q => ⟨by rw [S_len, S_len]; exact le_sz hz, by rw [S_app]; exact q⟩
theorem catT {a b : List D} (h1 : Ret ta W σ G (.tup a)) (h2 : Ret tb W σ G (.tup b)) (hz : a.length + b.length ≤ 1000000) : Ret (dOp (qAdd m) ta tb) W σ G (.tup (a ++ b)) := dOp_ret _ _ h1 h2 fun Q q => ⟨le_sz hz, q⟩
theorem catL {a b : List D} {x y : D} (h1 : Ret ta W σ G x) (h2 : Ret tb W σ G y) (e1 : dlsh G x = some a) (e2 : dlsh G y = some b) (hz : a.length + b.length ≤ 1000000) : Ret (dOp (qAdd false) ta tb) W σ G (.lst (a ++ b)) := dOp_ret _ _ h1 h2 fun Q q => by
  cases x with
  | lst xs => cases y with
    | lst ys => cases e1; cases e2; exact ⟨le_sz hz, q⟩
    | ref p =>
      show (match dlsh G _, dlsh G _ with | some a, some b => a.length + b.length ≤ sizeLine ∧ mkL false (a ++ b) G Q | _, _ => False)
      rw [e1, e2]; exact ⟨le_sz hz, q⟩
    | _ => cases e2
  | ref p => cases y with
    | lst ys =>
      show (match dlsh G _, dlsh G _ with | some a, some b => a.length + b.length ≤ sizeLine ∧ mkL false (a ++ b) G Q | _, _ => False)
      rw [e1, e2]; exact ⟨le_sz hz, q⟩
    | ref p2 =>
      show (match dlsh G _, dlsh G _ with | some a, some b => a.length + b.length ≤ sizeLine ∧ mkL false (a ++ b) G Q | _, _ => False)
      rw [e1, e2]; exact ⟨le_sz hz, q⟩
    | _ => cases e2
  | _ => cases e1
theorem sortR {vs : List Nat} (h : Ret te W σ G (.lst (vs.map fun v : Nat => D.int (v : Int)))) : Ret (dN (qSorted false) (dCons te dNil)) W σ G (.lst ((vs.mergeSort fun a b => decide (a ≤ b)).map fun v : Nat => D.int (v : Int))) := dN_ret _ (dConsA_ret h dNil_ret) fun Q q => by
  have e : (dlst G (.lst (vs.map fun v : Nat => D.int (v : Int)))).bind intsOf = some (vs.map fun v : Nat => (v : Int)) := by
    show (some _).bind intsOf = _
    rw [Option.bind_some, show (vs.map fun v : Nat => D.int (v : Int)) = (vs.map fun v : Nat => (v : Int)).map D.int by rw [List.map_map]; rfl, intsOf_map]
  show (match (dlst G (.lst (vs.map fun v : Nat => D.int (v : Int)))).bind intsOf with | some ns => mkL false ((isort ns).map D.int) G Q | none => False)
  rw [e]
  have e2 : isort (vs.map fun v : Nat => (v : Int)) = (vs.mergeSort fun a b => decide (a ≤ b)).map fun v : Nat => (v : Int) := by
    symm
    refine isort_eq ((List.mergeSort_perm _ _).map _) ?_
    rw [List.pairwise_map]
    have h := List.pairwise_mergeSort (le := fun a b : Nat => decide (a ≤ b)) (fun a b c h1 h2 => by simp at *; omega) (fun a b => by simp; omega) vs
    exact h.imp fun h => by have := of_decide_eq_true h; omega
  show Q (.lst ((isort _).map D.int)) G
  rw [e2, List.map_map]; exact q
/-- x in xs, xs of whole numbers -/
theorem inR {m : Bool} {v : Nat} {vs : List Nat} (h1 : Ret ta W σ G (.int v)) (h2 : Ret tb W σ G (.lst (vs.map fun v : Nat => D.int (v : Int)))) : Ret (dOp (qIn m) ta tb) W σ G (.bl (if m then !decide (v ∈ vs) else decide (v ∈ vs))) := dOp_ret _ _ h1 h2 fun Q q => by
  refine ⟨⟨rfl, ?_⟩, ?_⟩
  · rw [List.all_map, List.all_eq_true]; exact fun _ _ => rfl
  · have e : ((vs.map fun v : Nat => D.int (v : Int)).any fun z => eqF z (.int (v : Int))) = decide (v ∈ vs) := by
      rw [List.any_map, Bool.eq_iff_iff, List.any_eq_true, decide_eq_true_iff]
      constructor
      · rintro ⟨a, ha, h⟩
        have : ((a : Int) == (v : Int)) = true := h
        have e : a = v := by have := eq_of_beq this; omega
        rw [← e]; exact ha
      · intro h; exact ⟨v, h, by show ((v : Int) == (v : Int)) = true; exact beq_self_eq_true _⟩
    rw [e]; exact q
theorem RetW.frz2 {Q : DK} {p : Addr} {ds : List D} {G G1 : DH} (np : G p = none) (s : Sub G G1) (e : G1 p = some (.lst ds)) (h : Q (.lst ds) G) : RetW Q (.ref p) G1 := ⟨G, s, .inr ⟨p, ds, rfl, e, np, h⟩⟩
end
end DL
namespace DL
open PySem PySem.Spec L2
section
variable {te ta tb : DTE} {t : DTA} {W : DX} {σ : DSt} {G : DH} {d x y : D} {Q : DK} {m : Bool}
theorem rep1 (d : D) : ∀ n : Nat, (List.replicate n [d]).flatten = List.replicate n d
  | 0 => rfl
  | n + 1 => by rw [List.replicate_succ, List.flatten_cons, rep1 d n, List.replicate_succ]; rfl
theorem mulL_i {n : Nat} (hn : n ≤ 1000) (h1 : Ret ta W σ G (.lst [d])) (h2 : Ret tb W σ G (.int n)) (k : mkL m (List.replicate n d) G Q) : dOp (qMul m) ta tb W σ G Q := h1 _ (h2 _ ⟨by
  have : (n : Int).toNat = n := by omega
  simp only [List.length_cons, List.length_nil]
  exact ⟨by omega, by omega, le_sz (by rw [this]; omega)⟩, by
  have : (n : Int).toNat = n := by omega
  rw [this, rep1]; exact k⟩)
theorem seqMulL {n i : Nat} {u : DTS} {Dn : DEnds} (hn : n ≤ 1000) (h1 : Ret ta W σ G (.lst [d])) (h2 : Ret tb W σ G (.int n)) (k : ∀ p, G p = none → u W Dn (σ.set i (some (.ref p))) (dupd G p (.lst (List.replicate n d)))) : dSeq (dAsg (dOp (qMul true) ta tb) (gSet i)) u W Dn σ G := mulL_i (m := true) hn h1 h2 k
end
end DL

/-! D15: the ends: error classes with a field, the top, the law's own promise. -/
namespace DL
open PySem PySem.Spec L2
/-- def __init__(self, v): self.f = v -/
theorem ini_ok {P : Program} {w : World} {K : PySem.W.Frag} {mg : Str → Option Value} {base : Heap} {q : Str} {st : Stmt} {fI : Addr} {fd : FuncData} {v f : Str} {C : Addr} {p1 p2 p3 p4 : Pos} (F : Fun K "__init__" q st fI fd) (S : FnScope ["self", v] ["self", v] (defScope st))
    (hb : defBody st = [.Assign [.Attribute (.Name "self" p1) f p2] (.Name v p3) p4]) (T : OexC K C) (n : PySem.W.findIn K (.ref C) f = some none)
    (hv : (v == ("__debug__" : Str)) = false ∧ (v == ("__classdict__" : Str)) = false) (hl : (defScope st).names.lookup v = some .local) (hs : (defScope st).names.lookup ("self" : Str) = some .local) : FnOk P w K mg base CX0 1 fI fd ["self", v] (spIni C f) := by
  refine F.ok S (fun vs H Q E h => ?_) (fun cdv A outer s H vs Q E hr h => ?_)
  · obtain ⟨a, y, rfl, _⟩ := h; rfl
  · rw [hb]
    refine ⟨_, (pss_one (ps_ost (pe_var (i := 0) (by rfl) (Or.inl hs) (by decide) (by decide)) (pe_var (i := 1) (by rfl) (Or.inl hl) hv.1 hv.2))), ?_⟩
    obtain ⟨a, y, rfl, ha, k⟩ := h
    exact ⟨y, rfl, .ref a, rfl, a, C, rfl, T, n, .inl ⟨ha, fun dx hd hne => k dx hd hne⟩⟩
theorem at_mk {K : PySem.W.Frag} {h : Heap} {mg : Str → Option Value} (X : K.In h) (G : h.Ns mainGlobals mg) {x : Str} {st : Stmt} {ps : List Str} {f : Addr} {oc : Value} {od an : Option Addr} {osl : Array (Option Value)} {kV doc pm cdv ct : Value}
    (a : PySem.W.nsIn K mainGlobals x = some (some (.ref f))) (l : K.lookup f = some ⟨oc, od, .func (PySem.W.fnOf x x (defArgs st) (defBody st) (defScope st) .none kV doc pm an cdv ct), osl⟩) (c : PySem.W.codeIn K cdv x = true) (k : PySem.W.keepIn K (.ref f) = true)
    (hb : ∀ (kV doc pm : Value) (an : Option Addr) (cdv ct : Value) (us : List Value), us.length = ps.length → PySem.bindArgs (PySem.W.fnOf x x (defArgs st) (defBody st) (defScope st) .none kV doc pm an cdv ct) ⟨us, []⟩ = pure (ps.zip us)) : At K mg x st ps :=
  have F := fun_mk (st := st) l c k
  ⟨f, _, PySem.W.mg_of X G a, F, F.binds hb⟩
theorem plain_mk {K : PySem.W.Frag} {h : Heap} {mg : Str → Option Value} (X : K.In h) (G : h.Ns mainGlobals mg) {x : Str} {C : Addr} (a : PySem.W.nsIn K mainGlobals x = some (some (.ref C))) (e : PySem.W.excIn K C veMro "ValueError.__new__" = true) (k : PySem.W.keepIn K (.ref C) = true)
    (b : PySem.W.subIn K (.ref C) (.type "BaseException") = some true) (t : PySem.W.typeIn K (.ref C) = some (.type "type")) : PlainX K mg x C := ⟨PySem.W.mg_of X G a, e, k, b, t⟩
/-- what a law promises -/
def topSp : DSp := fun ds G Q E => ∃ ns : List Int, ds = [.scr ns] ∧ ns.length ≤ 63 ∧ ∀ G', Q (.bl true) G'
theorem top_sp {K : PySem.W.Frag} {H : Hp} {a : Addr} {ns : List Int} (hl : ns.length ≤ 63) (hS : SqL K H a (ns.map V.int)) : liftSp K topSp [.ref a] H (fun v _ => v = .bl true) fun _ _ _ => False := by
  refine ⟨[.scr ns], fun _ => none, ⟨fun b => ∃ vs, H b = some (.lst vs), fun _ => False⟩, fun d _ => d = .bl true, fun _ _ => False, ⟨nofun, fun b h => h, nofun⟩, .cons ?_ .nil, ⟨ns, rfl, hl, fun _ => rfl⟩, ?_, fun _ _ _ _ _ _ _ _ _ h => h⟩
  · unfold Rep
    refine ⟨a, rfl, ?_⟩
    rcases hS with (h | ⟨o, h⟩) | h
    · exact .inl ⟨⟨_, h⟩, h⟩
    · exact .inr (.inl ⟨o, h⟩)
    · exact .inr (.inr h)
  · intro d G' F' v H' _ _ r e
    subst e
    exact bl_rep r
theorem no_cx {P : Program} {w : World} (H : Hp) (s : Shared) (e : Value) (s' : Shared) (h : L2.CX P w [] H s (fun _ _ _ => False) e s') : False := by
  obtain ⟨_, _, _, _, _, _, _, _, _, _, _, _, h⟩ := h
  exact h
theorem fd_unique {mg : Str → Option Value} {fa f : Addr} {x : Str} (h : mg x = some (.ref fa)) (h2 : mg x = some (.ref f)) : f = fa := by
  rw [h] at h2; cases h2; rfl
end DL

namespace K75
open PySem PySem.Spec L2 DL
abbrev prog : Program := PySem.Challenge.pw_carriedbreaks_k75_what_a_hole_tells
def top (i : Nat) : Stmt := prog.main.body.getD i (.Pass ⟨0, 0, 0, 0⟩)
abbrev s_bits : Stmt := top 1
abbrev N_bits : List Str := ["length", "number", "signs", "_"]
abbrev P_bits : List Str := ["length", "number"]
abbrev s_xor : Stmt := top 2
abbrev N_xor : List Str := ["first", "second", "one", "two"]
abbrev P_xor : List Str := ["first", "second"]
abbrev s_is_number : Stmt := top 9
abbrev N_is_number : List Str := ["value", "least", "most"]
abbrev P_is_number : List Str := ["value", "least", "most"]
abbrev s_is_bits : Stmt := top 10
abbrev N_is_bits : List Str := ["value", "length", "sign"]
abbrev P_is_bits : List Str := ["value", "length"]
abbrev s_check_length : Stmt := top 13
abbrev N_check_length : List Str := ["l", "most"]
abbrev P_check_length : List Str := ["l", "most"]
abbrev s_is_lot : Stmt := top 14
abbrev N_is_lot : List Str := ["l", "lot", "one", "after"]
abbrev P_is_lot : List Str := ["l", "lot"]
abbrev s_check_lot : Stmt := top 15
abbrev N_check_lot : List Str := ["l", "lot"]
abbrev P_check_lot : List Str := ["l", "lot"]
abbrev s_length_of : Stmt := top 16
abbrev N_length_of : List Str := ["lot"]
abbrev P_length_of : List Str := ["lot"]
abbrev s_strings_of : Stmt := top 17
abbrev N_strings_of : List Str := ["l", "number"]
abbrev P_strings_of : List Str := ["l"]
abbrev s_is_heard : Stmt := top 18
abbrev N_is_heard : List Str := ["lot", "part", "begin"]
abbrev P_is_heard : List Str := ["lot", "part", "begin"]
abbrev s_hole : Stmt := top 19
abbrev N_hole : List Str := ["lot", "part", "begin"]
abbrev P_hole : List Str := ["lot", "part", "begin"]
abbrev s_shifts_of : Stmt := top 20
abbrev N_shifts_of : List Str := ["l", "lot", "shifted", "one", "shift", "strings"]
abbrev P_shifts_of : List Str := ["l", "lot"]
abbrev s_kept_shifts : Stmt := top 21
abbrev N_kept_shifts : List Str := ["l", "lot"]
abbrev P_kept_shifts : List Str := ["l", "lot"]
abbrev s_parts_like : Stmt := top 22
abbrev N_parts_like : List Str := ["l", "lot", "part", "begins", "heard", "begin", "one"]
abbrev P_parts_like : List Str := ["l", "lot", "part"]
abbrev s_told_parts : Stmt := top 23
abbrev N_told_parts : List Str := ["l", "lot", "part"]
abbrev P_told_parts : List Str := ["l", "lot", "part"]
abbrev s_is_told : Stmt := top 24
abbrev N_is_told : List Str := ["l", "lot"]
abbrev P_is_told : List Str := ["l", "lot"]
abbrev s_classes_of : Stmt := top 25
abbrev N_classes_of : List Str := ["l", "lot", "likes", "part", "like"]
abbrev P_classes_of : List Str := ["l", "lot"]
abbrev s_classes : Stmt := top 26
abbrev N_classes : List Str := ["l", "lot"]
abbrev P_classes : List Str := ["l", "lot"]
abbrev s__law_hand : Stmt := top 28
abbrev N__law_hand : List Str := ["script", "cell"]
abbrev P__law_hand : List Str := ["script"]
abbrev s__law_take : Stmt := top 29
abbrev N__law_take : List Str := ["hand", "many", "rests", "k", "cell", "at", "mixed"]
abbrev P__law_take : List Str := ["hand", "many"]
abbrev s__law_same : Stmt := top 30
abbrev N__law_same : List Str := ["told", "due", "k"]
abbrev P__law_same : List Str := ["told", "due"]
abbrev s__law_bits : Stmt := top 31
abbrev N__law_bits : List Str := ["length", "number", "found", "k"]
abbrev P__law_bits : List Str := ["length", "number"]
abbrev s__law_lot : Stmt := top 32
abbrev N__law_lot : List Str := ["hand", "l", "size", "marks", "k", "kind", "turn", "shift"]
abbrev P__law_lot : List Str := ["hand", "l"]
abbrev s__law_kept : Stmt := top 33
abbrev N__law_kept : List Str := ["marks", "found", "shift", "k"]
abbrev P__law_kept : List Str := ["marks"]
abbrev s__law_strings : Stmt := top 34
abbrev N__law_strings : List Str := ["l", "values", "value"]
abbrev P__law_strings : List Str := ["l", "values"]
abbrev s__law_classes : Stmt := top 35
abbrev N__law_classes : List Str := ["kept", "l", "found", "known", "value", "lot", "shift"]
abbrev P__law_classes : List Str := ["kept", "l"]
abbrev s__law_said : Stmt := top 36
abbrev N__law_said : List Str := ["marks", "value", "begin"]
abbrev P__law_said : List Str := ["marks", "value"]
abbrev s__law_refused : Stmt := top 37
abbrev N__law_refused : List Str := ["which", "l", "lot", "part", "error"]
abbrev P__law_refused : List Str := ["which", "l", "lot", "part"]
abbrev s__law_wrong : Stmt := top 38
abbrev N__law_wrong : List Str := ["hand", "l", "lot", "rest", "whole", "value", "zeros", "odd", "string", "bad", "far"]
abbrev P__law_wrong : List Str := ["hand", "l", "lot", "rest"]
abbrev s__law_whole : Stmt := top 39
abbrev N__law_whole : List Str := ["script", "hand", "l", "size", "marks", "lot", "value", "rest", "kept", "due", "turn", "part", "said", "alike", "other", "shift", "begin"]
abbrev P__law_whole : List Str := ["script"]
abbrev s_law : Stmt := top 40
abbrev N_law : List Str := ["script"]
abbrev P_law : List Str := ["script"]
theorem sc_bits : FnScope N_bits P_bits (defScope s_bits) := ⟨rfl, rfl, rfl, by decide +kernel, rfl, by decide +kernel, by decide +kernel⟩
theorem sc_xor : FnScope N_xor P_xor (defScope s_xor) := ⟨rfl, rfl, rfl, by decide +kernel, rfl, by decide +kernel, by decide +kernel⟩
theorem sc_is_number : FnScope N_is_number P_is_number (defScope s_is_number) := ⟨rfl, rfl, rfl, by decide +kernel, rfl, by decide +kernel, by decide +kernel⟩
theorem sc_is_bits : FnScope N_is_bits P_is_bits (defScope s_is_bits) := ⟨rfl, rfl, rfl, by decide +kernel, rfl, by decide +kernel, by decide +kernel⟩
theorem sc_check_length : FnScope N_check_length P_check_length (defScope s_check_length) := ⟨rfl, rfl, rfl, by decide +kernel, rfl, by decide +kernel, by decide +kernel⟩
theorem sc_is_lot : FnScope N_is_lot P_is_lot (defScope s_is_lot) := ⟨rfl, rfl, rfl, by decide +kernel, rfl, by decide +kernel, by decide +kernel⟩
theorem sc_check_lot : FnScope N_check_lot P_check_lot (defScope s_check_lot) := ⟨rfl, rfl, rfl, by decide +kernel, rfl, by decide +kernel, by decide +kernel⟩
theorem sc_length_of : FnScope N_length_of P_length_of (defScope s_length_of) := ⟨rfl, rfl, rfl, by decide +kernel, rfl, by decide +kernel, by decide +kernel⟩
theorem sc_strings_of : FnScope N_strings_of P_strings_of (defScope s_strings_of) := ⟨rfl, rfl, rfl, by decide +kernel, rfl, by decide +kernel, by decide +kernel⟩
theorem sc_is_heard : FnScope N_is_heard P_is_heard (defScope s_is_heard) := ⟨rfl, rfl, rfl, by decide +kernel, rfl, by decide +kernel, by decide +kernel⟩
theorem sc_hole : FnScope N_hole P_hole (defScope s_hole) := ⟨rfl, rfl, rfl, by decide +kernel, rfl, by decide +kernel, by decide +kernel⟩
theorem sc_shifts_of : FnScope N_shifts_of P_shifts_of (defScope s_shifts_of) := ⟨rfl, rfl, rfl, by decide +kernel, rfl, by decide +kernel, by decide +kernel⟩
theorem sc_kept_shifts : FnScope N_kept_shifts P_kept_shifts (defScope s_kept_shifts) := ⟨rfl, rfl, rfl, by decide +kernel, rfl, by decide +kernel, by decide +kernel⟩
theorem sc_parts_like : FnScope N_parts_like P_parts_like (defScope s_parts_like) := ⟨rfl, rfl, rfl, by decide +kernel, rfl, by decide +kernel, by decide +kernel⟩
theorem sc_told_parts : FnScope N_told_parts P_told_parts (defScope s_told_parts) := ⟨rfl, rfl, rfl, by decide +kernel, rfl, by decide +kernel, by decide +kernel⟩
theorem sc_is_told : FnScope N_is_told P_is_told (defScope s_is_told) := ⟨rfl, rfl, rfl, by decide +kernel, rfl, by decide +kernel, by decide +kernel⟩
theorem sc_classes_of : FnScope N_classes_of P_classes_of (defScope s_classes_of) := ⟨rfl, rfl, rfl, by decide +kernel, rfl, by decide +kernel, by decide +kernel⟩
theorem sc_classes : FnScope N_classes P_classes (defScope s_classes) := ⟨rfl, rfl, rfl, by decide +kernel, rfl, by decide +kernel, by decide +kernel⟩
theorem sc__law_hand : FnScope N__law_hand P__law_hand (defScope s__law_hand) := ⟨rfl, rfl, rfl, by decide +kernel, rfl, by decide +kernel, by decide +kernel⟩
theorem sc__law_take : FnScope N__law_take P__law_take (defScope s__law_take) := ⟨rfl, rfl, rfl, by decide +kernel, rfl, by decide +kernel, by decide +kernel⟩
theorem sc__law_same : FnScope N__law_same P__law_same (defScope s__law_same) := ⟨rfl, rfl, rfl, by decide +kernel, rfl, by decide +kernel, by decide +kernel⟩
theorem sc__law_bits : FnScope N__law_bits P__law_bits (defScope s__law_bits) := ⟨rfl, rfl, rfl, by decide +kernel, rfl, by decide +kernel, by decide +kernel⟩
theorem sc__law_lot : FnScope N__law_lot P__law_lot (defScope s__law_lot) := ⟨rfl, rfl, rfl, by decide +kernel, rfl, by decide +kernel, by decide +kernel⟩
theorem sc__law_kept : FnScope N__law_kept P__law_kept (defScope s__law_kept) := ⟨rfl, rfl, rfl, by decide +kernel, rfl, by decide +kernel, by decide +kernel⟩
theorem sc__law_strings : FnScope N__law_strings P__law_strings (defScope s__law_strings) := ⟨rfl, rfl, rfl, by decide +kernel, rfl, by decide +kernel, by decide +kernel⟩
theorem sc__law_classes : FnScope N__law_classes P__law_classes (defScope s__law_classes) := ⟨rfl, rfl, rfl, by decide +kernel, rfl, by decide +kernel, by decide +kernel⟩
theorem sc__law_said : FnScope N__law_said P__law_said (defScope s__law_said) := ⟨rfl, rfl, rfl, by decide +kernel, rfl, by decide +kernel, by decide +kernel⟩
theorem sc__law_refused : FnScope N__law_refused P__law_refused (defScope s__law_refused) := ⟨rfl, rfl, rfl, by decide +kernel, rfl, by decide +kernel, by decide +kernel⟩
theorem sc__law_wrong : FnScope N__law_wrong P__law_wrong (defScope s__law_wrong) := ⟨rfl, rfl, rfl, by decide +kernel, rfl, by decide +kernel, by decide +kernel⟩
theorem sc__law_whole : FnScope N__law_whole P__law_whole (defScope s__law_whole) := ⟨rfl, rfl, rfl, by decide +kernel, rfl, by decide +kernel, by decide +kernel⟩
theorem sc_law : FnScope N_law P_law (defScope s_law) := ⟨rfl, rfl, rfl, by decide +kernel, rfl, by decide +kernel, by decide +kernel⟩
/-- where the classes stand -/
structure Cs where
  BreakError : Addr
  BadBlock : Addr
  BadChoice : Addr
  BadTable : Addr
end K75

/-! S75: lots by their marks, and what each def promises. -/
namespace K75
open PySem PySem.Spec L2 DL

/-! ### lots by marks: M v, v below 2^l -/
def Rg (l : Nat) : List Nat := List.range (2 ^ l)
def valsM (l : Nat) (M : Nat → Bool) : List Nat := (Rg l).filter M
def bD (l v : Nat) : D := .str (S (bsl l v))
def tupB (l : Nat) (vs : List Nat) : D := .tup (vs.map (bD l))
def lotT (l : Nat) (M : Nat → Bool) : D := tupB l (valsM l M)
structure GoodL (l : Nat) (M : Nat → Bool) : Prop where
  lo : 1 ≤ l
  hi : l ≤ 4
  yes : ∃ v, v < 2 ^ l ∧ M v = true
  no : ∃ v, v < 2 ^ l ∧ M v = false
def keptN (l : Nat) (M : Nat → Bool) : List Nat := (Rg l).filter fun s => (Rg l).all fun v => M v == M (v ^^^ s)
def alikeN (l : Nat) (M : Nat → Bool) (p : Nat) : List Nat := (Rg l).filter fun o => (Rg l).all fun b => M (o ^^^ b) == M (p ^^^ b)
def classN (l : Nat) (M : Nat → Bool) : List (List Nat) := ((Rg l).filter fun p => (alikeN l M p).head? == some p).map (alikeN l M)
/-! ### any lot -/
def bitC (c : Nat) : Bool := c == 48 || c == 49
def isBitsD (n : Int) : D → Bool
  | .str z => decide ((z.length : Int) = n) && z.cps.toList.all bitC
  | _ => false
def ltD : D → D → Bool
  | .str a, .str b => decide (a.cps.toList < b.cps.toList)
  | _, _ => false
def isLotD (l : Nat) : D → Bool
  | .tup ds => (decide (0 < ds.length) && decide (ds.length < 2 ^ l)) && (ds.all (isBitsD l) && (ds.zip (ds.drop 1)).all fun p => ltD p.1 p.2)
  | _ => false
def smallF (d : D) : Prop := flatD d = true ∧ ∀ z, d = .str z → z.length ≤ 64
def LotArg : D → Prop
  | .tup ds => ds.length ≤ 64 ∧ ∀ d ∈ ds, smallF d
  | .lst _ => True
  | .non => True
  | .str _ => True
  | _ => False
def lotLen : D → Option Nat
  | .tup (.str z :: r) => if 1 ≤ z.length ∧ z.length ≤ 4 ∧ isLotD z.length (.tup (.str z :: r)) = true then some z.length else none
  | _ => none
def exT (c : Cs) (lot : D) : Exc := ⟨c.BadTable, [("value", lot)]⟩
def exC (c : Cs) : Exc := ⟨c.BadChoice, []⟩
/-- l and lot looked at: refused, or good -/
def Chk (c : Cs) (l : Int) (lot : D) (E : Exc → Prop) (k : Nat → (Nat → Bool) → Prop) : Prop :=
  (¬ (1 ≤ l ∧ l ≤ 4) ∧ E (exC c)) ∨ ((∃ n : Nat, l = n ∧ 1 ≤ n ∧ n ≤ 4 ∧ LotArg lot ∧ isLotD n lot = false) ∧ E (exT c lot)) ∨ ∃ n M, l = (n : Nat) ∧ lot = lotT n M ∧ GoodL n M ∧ k n M
/-! ### promises: the program's defs -/
def sp_bits (c : Cs) : DSp := fun ds G Q E => ∃ l n : Nat, ds = [.int l, .int n] ∧ (l ≤ 64 ∧ n < 2 ^ 64) ∧ Q (bD l n) G
def sp_xor (c : Cs) : DSp := fun ds G Q E => ∃ a b : List Nat, ds = [.str (S a), .str (S b)] ∧ (a.length ≤ 64) ∧ Q (.str (S (xorL a b))) G
def sp_is_number (c : Cs) : DSp := fun ds G Q E => ∃ i lo hi : Int, ds = [.int i, .int lo, .int hi] ∧ Q (.bl (decide (lo ≤ i) && decide (i ≤ hi))) G
def sp_is_bits (c : Cs) : DSp := fun ds G Q E => ∃ (x : D) (n : Int), ds = [x, .int n] ∧ smallF x ∧ Q (.bl (isBitsD n x)) G
def sp_check_length (c : Cs) : DSp := fun ds G Q E => ∃ i hi : Int, ds = [.int i, .int hi] ∧ ((1 ≤ i ∧ i ≤ hi) → Q .non G) ∧ (¬ (1 ≤ i ∧ i ≤ hi) → E (exC c) G)
def sp_is_lot (c : Cs) : DSp := fun ds G Q E => ∃ (l : Nat) (x : D), ds = [.int l, x] ∧ (1 ≤ l ∧ l ≤ 4) ∧ LotArg x ∧ Q (.bl (isLotD l x)) G
def sp_check_lot (c : Cs) : DSp := fun ds G Q E => ∃ (l : Nat) (x : D), ds = [.int l, x] ∧ LotArg x ∧ ((1 ≤ l ∧ l ≤ 4 ∧ isLotD l x = true) → Q .non G) ∧ (¬ (1 ≤ l ∧ l ≤ 4 ∧ isLotD l x = true) → E (exT c x) G)
def sp_length_of (c : Cs) : DSp := fun ds G Q E => ∃ (x : D), ds = [x] ∧ LotArg x ∧ (∀ n, lotLen x = some n → Q (.int n) G) ∧ (lotLen x = none → E (exT c x) G)
def sp_strings_of (c : Cs) : DSp := fun ds G Q E => ∃ (l : Nat), ds = [.int l] ∧ l ≤ 4 ∧ Q (.lst ((Rg l).map (bD l))) G
def sp_is_heard (c : Cs) : DSp := fun ds G Q E => ∃ (xs : List D) (a b : List Nat), ds = [.tup xs, .str (S a), .str (S b)] ∧ a.length ≤ 64 ∧ (∀ d ∈ xs, flatD d = true) ∧ Q (.bl (xs.any fun z => eqF z (.str (S (xorL a b))))) G
def sp_hole (c : Cs) : DSp := fun ds G Q E => ∃ (x : D) (a b : List Nat), ds = [x, .str (S a), .str (S b)] ∧ a.length ≤ 64 ∧ LotArg x ∧ (lotLen x = none → E (exT c x) G) ∧ (∀ xs, x = .tup xs → lotLen x ≠ none → Q (.bl (xs.any fun z => eqF z (.str (S (xorL a b))))) G)
def sp_shifts_of (c : Cs) : DSp := fun ds G Q E => ∃ (l : Nat) (M : Nat → Bool), ds = [.int l, lotT l M] ∧ GoodL l M ∧ Q (tupB l (keptN l M)) G
def sp_kept_shifts (c : Cs) : DSp := fun ds G Q E => ∃ (l : Int) (x : D), ds = [.int l, x] ∧ Chk c l x (E · G) fun l M => Q (tupB l (keptN l M)) G
def sp_parts_like (c : Cs) : DSp := fun ds G Q E => ∃ (l : Nat) (M : Nat → Bool) (p : Nat), ds = [.int l, lotT l M, bD l p] ∧ GoodL l M ∧ p < 2 ^ l ∧ Q (tupB l (alikeN l M p)) G
def sp_told_parts (c : Cs) : DSp := fun ds G Q E => ∃ (l : Int) (x : D) (p : D), ds = [.int l, x, p] ∧ Chk c l x (E · G) fun l M => ∃ v, p = bD l v ∧ v < 2 ^ l ∧ Q (tupB l (alikeN l M v)) G
def sp_is_told (c : Cs) : DSp := fun ds G Q E => ∃ (l : Int) (x : D), ds = [.int l, x] ∧ Chk c l x (E · G) fun l M => Q (.bl (decide ((keptN l M).length = 1))) G
def sp_classes_of (c : Cs) : DSp := fun ds G Q E => ∃ (l : Nat) (M : Nat → Bool), ds = [.int l, lotT l M] ∧ GoodL l M ∧ Q (.tup ((classN l M).map (tupB l))) G
def sp_classes (c : Cs) : DSp := fun ds G Q E => ∃ (l : Int) (x : D), ds = [.int l, x] ∧ Chk c l x (E · G) fun l M => Q (.tup ((classN l M).map (tupB l))) G
/-! ### .. the law's own -/
def mI (b : Bool) : Int := if b then 1 else 0
def marksD (l : Nat) (M : Nat → Bool) : List D := (Rg l).map fun v => .int (mI (M v))
def nI (v : Nat) : D := .int (v : Int)
def sp__law_hand (c : Cs) : DSp := fun ds G Q E => ∃ ns : List Int, ds = [.scr ns] ∧ ns.length ≤ 63 ∧ ∀ a G', G a = none → Hand a G' → (∀ b o, G b = some o → G' b = some o) → Q (.ref a) G'
def sp__law_take (c : Cs) : DSp := fun ds G Q E => ∃ (a : Addr) (m : Nat), ds = [.ref a, .int m] ∧ Hand a G ∧ 0 < m ∧ ∀ r : Nat, r < m → Q (nI r) G
def sameD : Nat → D → Bool
  | _, .non => true
  | _, .bl _ => true
  | _, .int _ => true
  | _, .str _ => true
  | n + 1, .tup xs => decide (xs.length ≤ 1000) && xs.all (sameD n)
  | _, _ => false
def sp_same (n : Nat) : DSp := fun ds G Q E => ∃ x : D, ds = [x, x] ∧ sameD n x = true ∧ Q (.bl true) G
def sp__law_same (c : Cs) : DSp := sp_same 2
def sp__law_bits (c : Cs) : DSp := fun ds G Q E => ∃ l n : Nat, ds = [.int l, .int n] ∧ (l ≤ 64 ∧ n < 2 ^ 64) ∧ Q (bD l n) G
def sp__law_lot (c : Cs) : DSp := fun ds G Q E => ∃ (a : Addr) (l : Nat), ds = [.ref a, .int l] ∧ Hand a G ∧ (1 ≤ l ∧ l ≤ 4) ∧ ∀ M, GoodL l M → Q (.lst (marksD l M)) G
def sp__law_kept (c : Cs) : DSp := fun ds G Q E => ∃ (l : Nat) (M : Nat → Bool), ds = [.lst (marksD l M)] ∧ l ≤ 4 ∧ Q (.lst ((keptN l M).map nI)) G
def sp__law_strings (c : Cs) : DSp := fun ds G Q E => ∃ (l : Nat) (vs : List Nat), ds = [.int l, .lst (vs.map nI)] ∧ (l ≤ 4 ∧ vs.length ≤ 64 ∧ ∀ v ∈ vs, v < 2 ^ 64) ∧ Q (tupB l vs) G
def sp__law_classes (c : Cs) : DSp := fun ds G Q E => ∃ (l : Nat) (M : Nat → Bool), ds = [.lst ((keptN l M).map nI), .int l] ∧ l ≤ 4 ∧ Q (.tup ((classN l M).map (tupB l))) G
def sp__law_said (c : Cs) : DSp := fun ds G Q E => ∃ (l : Nat) (M : Nat → Bool) (v : Nat), ds = [.lst (marksD l M), .int v] ∧ l ≤ 4 ∧ v < 2 ^ l ∧ Q (.lst ((Rg l).map fun b => .int (mI (M (v ^^^ b))))) G
def sp__law_refused (c : Cs) : DSp := fun ds G Q E => ∃ (k : Nat) (l : Int) (x : D) (p : List Nat), ds = [.int k, .int l, x, .str (S p)] ∧ p.length ≤ 64 ∧
  ((k < 4 ∧ (∃ n : Nat, l = n ∧ 1 ≤ n ∧ n ≤ 4 ∧ LotArg x ∧ isLotD n x = false) ∧ Q (.tup [.str "table", x]) G) ∨ (k < 4 ∧ ¬ (1 ≤ l ∧ l ≤ 4) ∧ Q (.tup [.str "choice", .bl false]) G) ∨ (k = 4 ∧ LotArg x ∧ lotLen x = none ∧ Q (.tup [.str "table", x]) G))
def sp__law_wrong (c : Cs) : DSp := fun ds G Q E => ∃ (a : Addr) (l : Nat) (M : Nat → Bool) (r : D), ds = [.ref a, .int l, lotT l M, r] ∧ Hand a G ∧ GoodL l M ∧ Q (.bl true) G
def sp__law_whole (c : Cs) : DSp := fun ds G Q E => ∃ ns : List Int, ds = [.scr ns] ∧ ns.length ≤ 63 ∧ ∀ G', Q (.bl true) G'
def sp_law (c : Cs) : DSp := sp__law_whole c
end K75

namespace K75
open PySem PySem.Spec L2 DL
structure Txt (P : Program) (w : World) (K : PySem.W.Frag) (mg : Str → Option Value) (base : Heap) (c : Cs) : Prop where
  n_ValueError : mg "ValueError" = none
  n_all : mg "all" = none
  n_bool : mg "bool" = none
  n_int : mg "int" = none
  n_isinstance : mg "isinstance" = none
  n_len : mg "len" = none
  n_list : mg "list" = none
  n_range : mg "range" = none
  n_sorted : mg "sorted" = none
  n_str : mg "str" = none
  n_sum : mg "sum" = none
  n_tuple : mg "tuple" = none
  n_zip : mg "zip" = none
  g_MOST_LENGTH : ∃ tk, mg "MOST_LENGTH" = some (.int 4 tk)
  g_BreakError : mg "BreakError" = some (.ref c.BreakError)
  g_BadBlock : mg "BadBlock" = some (.ref c.BadBlock)
  g_BadChoice : mg "BadChoice" = some (.ref c.BadChoice)
  g_BadTable : mg "BadTable" = some (.ref c.BadTable)
  x_BadChoice : PlainX K mg "BadChoice" c.BadChoice
  f_BadTable : FieldX P w K mg base "BadTable" c.BadTable "value"
  xf_BadTable : XfC K c.BadTable
  xn_BadTable : PySem.W.findIn K (.ref c.BadTable) "value" = some none
  at_bits : At K mg "bits" s_bits P_bits
  at_xor : At K mg "xor" s_xor P_xor
  at_is_number : At K mg "is_number" s_is_number P_is_number
  at_is_bits : At K mg "is_bits" s_is_bits P_is_bits
  at_check_length : At K mg "check_length" s_check_length P_check_length
  at_is_lot : At K mg "is_lot" s_is_lot P_is_lot
  at_check_lot : At K mg "check_lot" s_check_lot P_check_lot
  at_length_of : At K mg "length_of" s_length_of P_length_of
  at_strings_of : At K mg "strings_of" s_strings_of P_strings_of
  at_is_heard : At K mg "is_heard" s_is_heard P_is_heard
  at_hole : At K mg "hole" s_hole P_hole
  at_shifts_of : At K mg "shifts_of" s_shifts_of P_shifts_of
  at_kept_shifts : At K mg "kept_shifts" s_kept_shifts P_kept_shifts
  at_parts_like : At K mg "parts_like" s_parts_like P_parts_like
  at_told_parts : At K mg "told_parts" s_told_parts P_told_parts
  at_is_told : At K mg "is_told" s_is_told P_is_told
  at_classes_of : At K mg "classes_of" s_classes_of P_classes_of
  at_classes : At K mg "classes" s_classes P_classes
  at__law_hand : At K mg "_law_hand" s__law_hand P__law_hand
  at__law_take : At K mg "_law_take" s__law_take P__law_take
  at__law_same : At K mg "_law_same" s__law_same P__law_same
  at__law_bits : At K mg "_law_bits" s__law_bits P__law_bits
  at__law_lot : At K mg "_law_lot" s__law_lot P__law_lot
  at__law_kept : At K mg "_law_kept" s__law_kept P__law_kept
  at__law_strings : At K mg "_law_strings" s__law_strings P__law_strings
  at__law_classes : At K mg "_law_classes" s__law_classes P__law_classes
  at__law_said : At K mg "_law_said" s__law_said P__law_said
  at__law_refused : At K mg "_law_refused" s__law_refused P__law_refused
  at__law_wrong : At K mg "_law_wrong" s__law_wrong P__law_wrong
  at__law_whole : At K mg "_law_whole" s__law_whole P__law_whole
  at_law : At K mg "law" s_law P_law
section
variable {P : Program} {w : World} {K : PySem.W.Frag} {mg : Str → Option Value} {base : Heap} {c : Cs}
-- errors: []
-- levels: {'bits': 1, 'xor': 1, 'is_number': 1, 'is_bits': 1, 'check_length': 2, 'is_lot': 2, 'check_lot': 3, 'length_of': 4, 'strings_of': 2, 'is_heard': 2, 'hole': 5, 'shifts_of': 3, 'kept_shifts': 4, 'parts_like': 3, 'told_parts': 4, 'is_told': 5, 'classes_of': 4, 'classes': 5, '_law_hand': 1, '_law_take': 1, '_law_same': 3, '_law_bits': 1, '_law_lot': 2, '_law_kept': 1, '_law_strings': 2, '_law_classes': 3, '_law_said': 1, '_law_refused': 6, '_law_wrong': 7, '_law_whole': 8, 'law': 9} recursive: {'_law_same'}
def lb_bits_0 (K : PySem.W.Frag) (c : Cs) : DTS :=
 (dSeq (dDrop (dM "list" qAppend (dVar 2) (dCons (dIf (dTest (dOp (qEq false) (dOp qMod (dVar 1) (dK (.int 2))) (dK (.int 1)))) (dK (.str "1")) (dK (.str "0"))) dNil)))
 (dAsg (dOp qFdiv (dVar 1) (dK (.int 2))) (gSet 1)))
def t_bits (K : PySem.W.Frag) (c : Cs) : DTS :=
 (dSeq (dAsg (dLst true dNil) (gSet 2))
 (dSeq (dFor (dRng1 (dCons (dVar 0) dNil)) (gSet 3)
 (lb_bits_0 K c))
 (dRet (dM "str" qJoin (dK (.str "")) (dCons (dRevL false (dVar 2)) dNil)))))
theorem has_bits (T : Txt P w K mg base c)  (hlen : ∀ ds G Q E, (sp_bits c) ds G Q E → ds.length = P_bits.length)
    (hread : ∀ ds G Q E, (sp_bits c) ds G Q E → t_bits K c (fun x _ G' => ∃ G2, Sub G2 G' ∧ E x G2) { nx := fun _ G' => RetW Q .non G', rt := RetW Q } (dstart N_bits ds) G) :
    Has P w K mg base (0 + 1) "bits" s_bits P_bits (sp_bits c) :=
  has_mk T.at_bits sc_bits hlen (t_bits K c) (fun f cdv A outer s H E hr tk =>
 (dss_cons (ds_set sc_bits.nd (i := 2) rfl (by first | exact Or.inl rfl | exact Or.inr rfl) (de_lst da_nil))
 (dss_cons (ds_for (passes_of rfl) rfl (di_range1 rfl T.n_range (da_cons (de_var (pv 0)) da_nil)) (dg_name sc_bits.nd rfl (by first | exact Or.inl rfl | exact Or.inr rfl))
 (dss_cons (ds_expr (de_m PySem.F.plainAttrs_list PySem.F.slot_list_append PySem.F.type_list_append mt_append qAppend_ok (de_var (pv 2)) (da_cons (de_if (dt_cmp (op_eqAll (hr.units)) qEq_ok (de_op op_mod qMod_ok (de_var (pv 1)) de_int) de_int) de_str de_str) da_nil)))
 (dss_one (ds_set sc_bits.nd (i := 1) rfl (by first | exact Or.inl rfl | exact Or.inr rfl) (de_op op_fdivW qFdiv_ok (de_var (pv 1)) de_int)))))
 (dss_one (ds_ret (de_m PySem.F.plainAttrs_str PySem.F.slot_str_join PySem.F.type_str_join mt_join qJoin_ok de_str (da_cons (de_revL (de_var (pv 2))) da_nil))))))) hread
def t_xor (K : PySem.W.Frag) (c : Cs) : DTS :=
 (dRet (dM "str" qJoin (dK (.str "")) (dCons (dLc false [2, 3] (dZip (dCons (dVar 0) (dCons (dVar 1) dNil))) (gTupD 2 (gsCons (gSet 2) (gsCons (gSet 3) gsNil))) dYes (dIf (dTest (dOp (qEq false) (dVar 2) (dVar 3))) (dK (.str "0")) (dK (.str "1")))) dNil)))
theorem has_xor (T : Txt P w K mg base c)  (hlen : ∀ ds G Q E, (sp_xor c) ds G Q E → ds.length = P_xor.length)
    (hread : ∀ ds G Q E, (sp_xor c) ds G Q E → t_xor K c (fun x _ G' => ∃ G2, Sub G2 G' ∧ E x G2) { nx := fun _ G' => RetW Q .non G', rt := RetW Q } (dstart N_xor ds) G) :
    Has P w K mg base (0 + 1) "xor" s_xor P_xor (sp_xor c) :=
  has_mk T.at_xor sc_xor hlen (t_xor K c) (fun f cdv A outer s H E hr tk =>
 (dss_one (ds_ret (de_m PySem.F.plainAttrs_str PySem.F.slot_str_join PySem.F.type_str_join mt_join qJoin_ok de_str (da_cons (de_lc (own := [("one", 2), ("two", 3)]) rfl sc_xor.nd (di_zip rfl T.n_zip (da_cons (de_var (pv 0)) (da_cons (de_var (pv 1)) da_nil))) (blkOk_by (own := [("one", 2), ("two", 3)]) (N := N_xor) (sc := defScope s_xor) (by decide +kernel)) (fun _ _ _ _ _ => (cg_tup rfl (cgs_cons (cg_name sc_xor.nd rfl (by first | exact Or.inl rfl | exact Or.inr rfl) (by decide)) (cgs_cons (cg_name sc_xor.nd rfl (by first | exact Or.inl rfl | exact Or.inr rfl) (by decide)) cgs_nil)))) (fun _ _ _ _ _ => dts_nil) (fun _ _ _ _ _ => (de_if (dt_cmp (op_eqAll (hr.units)) qEq_ok (de_var (pv 2)) (de_var (pv 3))) de_str de_str))) da_nil))))) hread
def t_is_number (K : PySem.W.Frag) (c : Cs) : DTS :=
 (dRet (dAndV (dN qIsi (dCons (dVar 0) (dCons (dK (.ty "int")) dNil))) (dAndV (dNotV (dN qIsi (dCons (dVar 0) (dCons (dK (.ty "bool")) dNil)))) (dChain (qLe) (qLe) (dVar 1) (dVar 0) (dVar 2)))))
theorem has_is_number (T : Txt P w K mg base c)  (hlen : ∀ ds G Q E, (sp_is_number c) ds G Q E → ds.length = P_is_number.length)
    (hread : ∀ ds G Q E, (sp_is_number c) ds G Q E → t_is_number K c (fun x _ G' => ∃ G2, Sub G2 G' ∧ E x G2) { nx := fun _ G' => RetW Q .non G', rt := RetW Q } (dstart N_is_number ds) G) :
    Has P w K mg base (0 + 1) "is_number" s_is_number P_is_number (sp_is_number c) :=
  has_mk T.at_is_number sc_is_number hlen (t_is_number K c) (fun f cdv A outer s H E hr tk =>
 (dss_one (ds_ret (de_and (de_callB call_isi qIsi_ok rfl T.n_isinstance PyProof.Rows.boot_isinstance (da_cons (de_var (pv 0)) (da_cons (de_bty T.n_int PyProof.Rows.boot_int rfl) da_nil))) (de_and (de_not (de_callB call_isi qIsi_ok rfl T.n_isinstance PyProof.Rows.boot_isinstance (da_cons (de_var (pv 0)) (da_cons (de_bty T.n_bool PyProof.Rows.boot_bool rfl) da_nil)))) (de_one (de_chain (op_le) qLe_ok (op_le) qLe_ok (de_var (pv 1)) (de_var (pv 0)) (de_var (pv 2))))))))) hread
def t_is_bits (K : PySem.W.Frag) (c : Cs) : DTS :=
 (dRet (dAndV (dN qIsi (dCons (dVar 0) (dCons (dK (.ty "str")) dNil))) (dAndV (dOp (qEq false) (dN qLen (dCons (dVar 0) dNil)) (dVar 1)) (dN qAll (dCons (dLc false [2] (dIt (dVar 0)) (gSet 2) dYes (dOp (qIn false) (dVar 2) (dK (.str "01")))) dNil)))))
theorem has_is_bits (T : Txt P w K mg base c)  (hlen : ∀ ds G Q E, (sp_is_bits c) ds G Q E → ds.length = P_is_bits.length)
    (hread : ∀ ds G Q E, (sp_is_bits c) ds G Q E → t_is_bits K c (fun x _ G' => ∃ G2, Sub G2 G' ∧ E x G2) { nx := fun _ G' => RetW Q .non G', rt := RetW Q } (dstart N_is_bits ds) G) :
    Has P w K mg base (0 + 1) "is_bits" s_is_bits P_is_bits (sp_is_bits c) :=
  has_mk T.at_is_bits sc_is_bits hlen (t_is_bits K c) (fun f cdv A outer s H E hr tk =>
 (dss_one (ds_ret (de_and (de_callB call_isi qIsi_ok rfl T.n_isinstance PyProof.Rows.boot_isinstance (da_cons (de_var (pv 0)) (da_cons (de_bty T.n_str PyProof.Rows.boot_str rfl) da_nil))) (de_and (de_cmp (op_eqAll (hr.units)) qEq_ok (de_callB call_len qLen_ok rfl T.n_len boot_len (da_cons (de_var (pv 0)) da_nil)) (de_var (pv 1))) (de_one (de_callB (cr_all rfl) qAll_ok rfl T.n_all PyProof.Rows.boot_all (da_cons (de_lc (own := [("sign", 2)]) rfl sc_is_bits.nd (di_any (de_var (pv 0))) (blkOk_by (own := [("sign", 2)]) (N := N_is_bits) (sc := defScope s_is_bits) (by decide +kernel)) (fun _ _ _ _ _ => (cg_name sc_is_bits.nd rfl (by first | exact Or.inl rfl | exact Or.inr rfl) (by decide))) (fun _ _ _ _ _ => dts_nil) (fun _ _ _ _ _ => (de_cmp (op_inAll) qInT_ok (de_var (pv 2)) de_str))) da_nil)))))))) hread
def t_check_length (K : PySem.W.Frag) (c : Cs) : DTS :=
 (dIfS (dNot (dTru (dCall (sp_is_number c) (dCons (dVar 0) (dCons (dK (.int 1)) (dCons (dVar 1) dNil))))))
 (dRaise (dMk0 c.BadChoice))
 dNext)
theorem has_check_length (T : Txt P w K mg base c) (h_is_number : Has P w K mg base 1 "is_number" s_is_number P_is_number (sp_is_number c)) (hlen : ∀ ds G Q E, (sp_check_length c) ds G Q E → ds.length = P_check_length.length)
    (hread : ∀ ds G Q E, (sp_check_length c) ds G Q E → t_check_length K c (fun x _ G' => ∃ G2, Sub G2 G' ∧ E x G2) { nx := fun _ G' => RetW Q .non G', rt := RetW Q } (dstart N_check_length ds) G) :
    Has P w K mg base (1 + 1) "check_length" s_check_length P_check_length (sp_check_length c) :=
  has_mk T.at_check_length sc_check_length hlen (t_check_length K c) (fun f cdv A outer s H E hr tk =>
 (dss_one (ds_if (dt_not (dt_truth (de_call h_is_number (hr.mono (by first | decide | omega)) rfl tk (da_cons (de_var (pv 0)) (da_cons de_int (da_cons (de_var (pv 1)) da_nil))))))
 (dss_one (ds_raise rfl tk (dmk_own T.x_BadChoice rfl)))
 dss_nil))) hread
def t_is_lot (K : PySem.W.Frag) (c : Cs) : DTS :=
 (dSeq (dIfS (dOr (dNot (dTru (dN qIsi (dCons (dVar 1) (dCons (dK (.ty "tuple")) dNil))))) (dOr (dNot (dTest (dChain (qLt) (qLt) (dK (.int 0)) (dN qLen (dCons (dVar 1) dNil)) (dOp qShl (dK (.int 1)) (dVar 0))))) (dNot (dTru (dN qAll (dCons (dLc false [2] (dIt (dVar 1)) (gSet 2) dYes (dCall (sp_is_bits c) (dCons (dVar 2) (dCons (dVar 0) dNil)))) dNil))))))
 (dRet (dK (.bl false)))
 dNext)
 (dRet (dN qAll (dCons (dLc false [2, 3] (dZip (dCons (dVar 1) (dCons (dSl (qSl false) (dVar 1) (dPart (dK (.int 1))) dNoP) dNil))) (gTupD 2 (gsCons (gSet 2) (gsCons (gSet 3) gsNil))) dYes (dOp (qLt) (dVar 2) (dVar 3))) dNil))))
theorem has_is_lot (T : Txt P w K mg base c) (h_is_bits : Has P w K mg base 1 "is_bits" s_is_bits P_is_bits (sp_is_bits c)) (hlen : ∀ ds G Q E, (sp_is_lot c) ds G Q E → ds.length = P_is_lot.length)
    (hread : ∀ ds G Q E, (sp_is_lot c) ds G Q E → t_is_lot K c (fun x _ G' => ∃ G2, Sub G2 G' ∧ E x G2) { nx := fun _ G' => RetW Q .non G', rt := RetW Q } (dstart N_is_lot ds) G) :
    Has P w K mg base (1 + 1) "is_lot" s_is_lot P_is_lot (sp_is_lot c) :=
  has_mk T.at_is_lot sc_is_lot hlen (t_is_lot K c) (fun f cdv A outer s H E hr tk =>
 (dss_cons (ds_if (dt_bool (dw_or (dt_not (dt_truth (de_callB call_isi qIsi_ok rfl T.n_isinstance PyProof.Rows.boot_isinstance (da_cons (de_var (pv 1)) (da_cons (de_bty T.n_tuple PyProof.Rows.boot_tuple rfl) da_nil))))) (dw_or (dt_not (dt_chain (op_ltAll) qLt_ok (op_ltAll) qLt_ok de_int (de_callB call_len qLen_ok rfl T.n_len boot_len (da_cons (de_var (pv 1)) da_nil)) (de_op op_shl qShl_ok de_int (de_var (pv 0))))) (dw_or1 (dt_not (dt_truth (de_callB (cr_all rfl) qAll_ok rfl T.n_all PyProof.Rows.boot_all (da_cons (de_lc (own := [("one", 2)]) rfl sc_is_lot.nd (di_any (de_var (pv 1))) (blkOk_by (own := [("one", 2)]) (N := N_is_lot) (sc := defScope s_is_lot) (by decide +kernel)) (fun _ _ _ _ _ => (cg_name sc_is_lot.nd rfl (by first | exact Or.inl rfl | exact Or.inr rfl) (by decide))) (fun _ _ _ _ _ => dts_nil) (fun _ _ _ _ _ => (de_call h_is_bits (hr.mono (by first | decide | omega)) rfl takes_blk (da_cons (de_var (pv 2)) (da_cons (de_var (pv 0)) da_nil))))) da_nil))))))))
 (dss_one (ds_ret de_bl))
 dss_nil)
 (dss_one (ds_ret (de_callB (cr_all rfl) qAll_ok rfl T.n_all PyProof.Rows.boot_all (da_cons (de_lc (own := [("one", 2), ("after", 3)]) rfl sc_is_lot.nd (di_zip rfl T.n_zip (da_cons (de_var (pv 1)) (da_cons (de_slice sl_all qSl_ok (de_var (pv 1)) (do_some de_int) do_none) da_nil))) (blkOk_by (own := [("one", 2), ("after", 3)]) (N := N_is_lot) (sc := defScope s_is_lot) (by decide +kernel)) (fun _ _ _ _ _ => (cg_tup rfl (cgs_cons (cg_name sc_is_lot.nd rfl (by first | exact Or.inl rfl | exact Or.inr rfl) (by decide)) (cgs_cons (cg_name sc_is_lot.nd rfl (by first | exact Or.inl rfl | exact Or.inr rfl) (by decide)) cgs_nil)))) (fun _ _ _ _ _ => dts_nil) (fun _ _ _ _ _ => (de_cmp (op_ltAll) qLt_ok (de_var (pv 2)) (de_var (pv 3))))) da_nil)))))) hread
def t_check_lot (K : PySem.W.Frag) (c : Cs) : DTS :=
 (dIfS (dOr (dNot (dTest (dChain (qLe) (qLe) (dK (.int 1)) (dVar 0) (dK (.int 4))))) (dNot (dTru (dCall (sp_is_lot c) (dCons (dVar 0) (dCons (dVar 1) dNil))))))
 (dRaise (dMk1 c.BadTable "value" (dCons (dVar 1) dNil)))
 dNext)
theorem has_check_lot (T : Txt P w K mg base c) (h_is_lot : Has P w K mg base 2 "is_lot" s_is_lot P_is_lot (sp_is_lot c)) (hlen : ∀ ds G Q E, (sp_check_lot c) ds G Q E → ds.length = P_check_lot.length)
    (hread : ∀ ds G Q E, (sp_check_lot c) ds G Q E → t_check_lot K c (fun x _ G' => ∃ G2, Sub G2 G' ∧ E x G2) { nx := fun _ G' => RetW Q .non G', rt := RetW Q } (dstart N_check_lot ds) G) :
    Has P w K mg base (2 + 1) "check_lot" s_check_lot P_check_lot (sp_check_lot c) :=
  has_mk T.at_check_lot sc_check_lot hlen (t_check_lot K c) (fun f cdv A outer s H E hr tk =>
 (dss_one (ds_if (dt_bool (dw_or (dt_not (dt_chain (op_le) qLe_ok (op_le) qLe_ok de_int (de_var (pv 0)) (de_gint T.g_MOST_LENGTH rfl))) (dw_or1 (dt_not (dt_truth (de_call h_is_lot (hr.mono (by first | decide | omega)) rfl tk (da_cons (de_var (pv 0)) (da_cons (de_var (pv 1)) da_nil))))))))
 (dss_one (ds_raise rfl tk (dmk_fld T.f_BadTable (hr.mono (by first | decide | omega)) rfl (da_cons (de_var (pv 1)) da_nil))))
 dss_nil))) hread
def t_length_of (K : PySem.W.Frag) (c : Cs) : DTS :=
 (dSeq (dIfS (dOr (dNot (dTru (dN qIsi (dCons (dVar 0) (dCons (dK (.ty "tuple")) dNil))))) (dOr (dTest (dOp (qEq false) (dN qLen (dCons (dVar 0) dNil)) (dK (.int 0)))) (dNot (dTru (dN qIsi (dCons (dOp qIx (dVar 0) (dK (.int 0))) (dCons (dK (.ty "str")) dNil)))))))
 (dRaise (dMk1 c.BadTable "value" (dCons (dVar 0) dNil)))
 dNext)
 (dSeq (dDrop (dCall (sp_check_lot c) (dCons (dN qLen (dCons (dOp qIx (dVar 0) (dK (.int 0))) dNil)) (dCons (dVar 0) dNil))))
 (dRet (dN qLen (dCons (dOp qIx (dVar 0) (dK (.int 0))) dNil)))))
theorem has_length_of (T : Txt P w K mg base c) (h_check_lot : Has P w K mg base 3 "check_lot" s_check_lot P_check_lot (sp_check_lot c)) (hlen : ∀ ds G Q E, (sp_length_of c) ds G Q E → ds.length = P_length_of.length)
    (hread : ∀ ds G Q E, (sp_length_of c) ds G Q E → t_length_of K c (fun x _ G' => ∃ G2, Sub G2 G' ∧ E x G2) { nx := fun _ G' => RetW Q .non G', rt := RetW Q } (dstart N_length_of ds) G) :
    Has P w K mg base (3 + 1) "length_of" s_length_of P_length_of (sp_length_of c) :=
  has_mk T.at_length_of sc_length_of hlen (t_length_of K c) (fun f cdv A outer s H E hr tk =>
 (dss_cons (ds_if (dt_bool (dw_or (dt_not (dt_truth (de_callB call_isi qIsi_ok rfl T.n_isinstance PyProof.Rows.boot_isinstance (da_cons (de_var (pv 0)) (da_cons (de_bty T.n_tuple PyProof.Rows.boot_tuple rfl) da_nil))))) (dw_or (dt_cmp (op_eqAll (hr.units)) qEq_ok (de_callB call_len qLen_ok rfl T.n_len boot_len (da_cons (de_var (pv 0)) da_nil)) de_int) (dw_or1 (dt_not (dt_truth (de_callB call_isi qIsi_ok rfl T.n_isinstance PyProof.Rows.boot_isinstance (da_cons (de_ix ix_seq qIx_ok (de_var (pv 0)) de_int) (da_cons (de_bty T.n_str PyProof.Rows.boot_str rfl) da_nil)))))))))
 (dss_one (ds_raise rfl tk (dmk_fld T.f_BadTable (hr.mono (by first | decide | omega)) rfl (da_cons (de_var (pv 0)) da_nil))))
 dss_nil)
 (dss_cons (ds_expr (de_call h_check_lot (hr.mono (by first | decide | omega)) rfl tk (da_cons (de_callB call_len qLen_ok rfl T.n_len boot_len (da_cons (de_ix ix_seq qIx_ok (de_var (pv 0)) de_int) da_nil)) (da_cons (de_var (pv 0)) da_nil))))
 (dss_one (ds_ret (de_callB call_len qLen_ok rfl T.n_len boot_len (da_cons (de_ix ix_seq qIx_ok (de_var (pv 0)) de_int) da_nil))))))) hread
def t_strings_of (K : PySem.W.Frag) (c : Cs) : DTS :=
 (dRet (dLc false [1] (dRng1 (dCons (dOp qShl (dK (.int 1)) (dVar 0)) dNil)) (gSet 1) dYes (dCall (sp_bits c) (dCons (dVar 0) (dCons (dVar 1) dNil)))))
theorem has_strings_of (T : Txt P w K mg base c) (h_bits : Has P w K mg base 1 "bits" s_bits P_bits (sp_bits c)) (hlen : ∀ ds G Q E, (sp_strings_of c) ds G Q E → ds.length = P_strings_of.length)
    (hread : ∀ ds G Q E, (sp_strings_of c) ds G Q E → t_strings_of K c (fun x _ G' => ∃ G2, Sub G2 G' ∧ E x G2) { nx := fun _ G' => RetW Q .non G', rt := RetW Q } (dstart N_strings_of ds) G) :
    Has P w K mg base (1 + 1) "strings_of" s_strings_of P_strings_of (sp_strings_of c) :=
  has_mk T.at_strings_of sc_strings_of hlen (t_strings_of K c) (fun f cdv A outer s H E hr tk =>
 (dss_one (ds_ret (de_lc (own := [("number", 1)]) rfl sc_strings_of.nd (di_range1 rfl T.n_range (da_cons (de_op op_shl qShl_ok de_int (de_var (pv 0))) da_nil)) (blkOk_by (own := [("number", 1)]) (N := N_strings_of) (sc := defScope s_strings_of) (by decide +kernel)) (fun _ _ _ _ _ => (cg_name sc_strings_of.nd rfl (by first | exact Or.inl rfl | exact Or.inr rfl) (by decide))) (fun _ _ _ _ _ => dts_nil) (fun _ _ _ _ _ => (de_call h_bits (hr.mono (by first | decide | omega)) rfl takes_blk (da_cons (de_var (pv 0)) (da_cons (de_var (pv 1)) da_nil)))))))) hread
def t_is_heard (K : PySem.W.Frag) (c : Cs) : DTS :=
 (dRet (dOp (qIn false) (dCall (sp_xor c) (dCons (dVar 1) (dCons (dVar 2) dNil))) (dVar 0)))
theorem has_is_heard (T : Txt P w K mg base c) (h_xor : Has P w K mg base 1 "xor" s_xor P_xor (sp_xor c)) (hlen : ∀ ds G Q E, (sp_is_heard c) ds G Q E → ds.length = P_is_heard.length)
    (hread : ∀ ds G Q E, (sp_is_heard c) ds G Q E → t_is_heard K c (fun x _ G' => ∃ G2, Sub G2 G' ∧ E x G2) { nx := fun _ G' => RetW Q .non G', rt := RetW Q } (dstart N_is_heard ds) G) :
    Has P w K mg base (1 + 1) "is_heard" s_is_heard P_is_heard (sp_is_heard c) :=
  has_mk T.at_is_heard sc_is_heard hlen (t_is_heard K c) (fun f cdv A outer s H E hr tk =>
 (dss_one (ds_ret (de_cmp (op_inAll) qInT_ok (de_call h_xor (hr.mono (by first | decide | omega)) rfl tk (da_cons (de_var (pv 1)) (da_cons (de_var (pv 2)) da_nil))) (de_var (pv 0)))))) hread
def t_hole (K : PySem.W.Frag) (c : Cs) : DTS :=
 (dSeq (dDrop (dCall (sp_length_of c) (dCons (dVar 0) dNil)))
 (dRet (dCall (sp_is_heard c) (dCons (dVar 0) (dCons (dVar 1) (dCons (dVar 2) dNil))))))
theorem has_hole (T : Txt P w K mg base c) (h_length_of : Has P w K mg base 4 "length_of" s_length_of P_length_of (sp_length_of c)) (h_is_heard : Has P w K mg base 2 "is_heard" s_is_heard P_is_heard (sp_is_heard c)) (hlen : ∀ ds G Q E, (sp_hole c) ds G Q E → ds.length = P_hole.length)
    (hread : ∀ ds G Q E, (sp_hole c) ds G Q E → t_hole K c (fun x _ G' => ∃ G2, Sub G2 G' ∧ E x G2) { nx := fun _ G' => RetW Q .non G', rt := RetW Q } (dstart N_hole ds) G) :
    Has P w K mg base (4 + 1) "hole" s_hole P_hole (sp_hole c) :=
  has_mk T.at_hole sc_hole hlen (t_hole K c) (fun f cdv A outer s H E hr tk =>
 (dss_cons (ds_expr (de_call h_length_of (hr.mono (by first | decide | omega)) rfl tk (da_cons (de_var (pv 0)) da_nil)))
 (dss_one (ds_ret (de_call h_is_heard (hr.mono (by first | decide | omega)) rfl tk (da_cons (de_var (pv 0)) (da_cons (de_var (pv 1)) (da_cons (de_var (pv 2)) da_nil)))))))) hread
def t_shifts_of (K : PySem.W.Frag) (c : Cs) : DTS :=
 (dSeq (dAsg (dLc false [4] (dIt (dCall (sp_strings_of c) (dCons (dVar 0) dNil))) (gSet 4) dYes (dTup (dCons (dVar 4) (dCons (dN (qSortedS false) (dCons (dLc false [3] (dIt (dVar 1)) (gSet 3) dYes (dCall (sp_xor c) (dCons (dVar 3) (dCons (dVar 4) dNil)))) dNil)) dNil)))) (gSet 2))
 (dRet (dN qTuple (dCons (dLc false [4, 5] (dIt (dVar 2)) (gTupD 2 (gsCons (gSet 4) (gsCons (gSet 5) gsNil))) (dTest (dOp (qEq false) (dVar 5) (dN (qList false) (dCons (dVar 1) dNil)))) (dVar 4)) dNil))))
theorem has_shifts_of (T : Txt P w K mg base c) (h_strings_of : Has P w K mg base 2 "strings_of" s_strings_of P_strings_of (sp_strings_of c)) (h_xor : Has P w K mg base 1 "xor" s_xor P_xor (sp_xor c)) (hlen : ∀ ds G Q E, (sp_shifts_of c) ds G Q E → ds.length = P_shifts_of.length)
    (hread : ∀ ds G Q E, (sp_shifts_of c) ds G Q E → t_shifts_of K c (fun x _ G' => ∃ G2, Sub G2 G' ∧ E x G2) { nx := fun _ G' => RetW Q .non G', rt := RetW Q } (dstart N_shifts_of ds) G) :
    Has P w K mg base (2 + 1) "shifts_of" s_shifts_of P_shifts_of (sp_shifts_of c) :=
  has_mk T.at_shifts_of sc_shifts_of hlen (t_shifts_of K c) (fun f cdv A outer s H E hr tk =>
 (dss_cons (ds_lc (own := [("shift", 4)]) rfl sc_shifts_of.nd (i := 2) rfl rfl (sw_true rfl rfl rfl (by decide +kernel)) (di_any (de_call h_strings_of (hr.mono (by first | decide | omega)) rfl tk (da_cons (de_var (pv 0)) da_nil))) (blkOk_by (own := [("shift", 4)]) (N := N_shifts_of) (sc := defScope s_shifts_of) (by decide +kernel)) (fun _ _ _ _ _ => (cg_name sc_shifts_of.nd rfl (by first | exact Or.inl rfl | exact Or.inr rfl) (by decide))) (fun _ _ _ _ _ => dts_nil) (fun _ _ _ _ _ => (de_tup (da_cons (de_var (pv 4)) (da_cons (de_callB cr_sortedS qSortedS_ok rfl T.n_sorted PyProof.Rows.boot_sorted (da_cons (de_lc (own := [("one", 3)]) rfl sc_shifts_of.nd (di_any (de_var (pv 1))) (blkOk_by (by kernel_rfl)) (fun _ _ _ _ _ => (cg_name sc_shifts_of.nd rfl (by first | exact Or.inl rfl | exact Or.inr rfl) (by decide))) (fun _ _ _ _ _ => dts_nil) (fun _ _ _ _ _ => (de_call h_xor (hr.mono (by first | decide | omega)) rfl takes_blk (da_cons (de_var (pv 3)) (da_cons (de_var (pv 4)) da_nil))))) da_nil)) da_nil)))))
 (dss_one (ds_ret (de_callTy call_tuple_of qTuple_ok rfl T.n_tuple PyProof.Rows.boot_tuple (da_cons (de_lc (own := [("shift", 4), ("strings", 5)]) rfl sc_shifts_of.nd (di_any (de_var (pv 2))) (blkOk_by (own := [("shift", 4), ("strings", 5)]) (N := N_shifts_of) (sc := defScope s_shifts_of) (by decide +kernel)) (fun _ _ _ _ _ => (cg_tup rfl (cgs_cons (cg_name sc_shifts_of.nd rfl (by first | exact Or.inl rfl | exact Or.inr rfl) (by decide)) (cgs_cons (cg_name sc_shifts_of.nd rfl (by first | exact Or.inl rfl | exact Or.inr rfl) (by decide)) cgs_nil)))) (fun _ _ _ _ _ => (dts_one (dt_cmp (op_eqAll (hr.units)) qEq_ok (de_var (pv 5)) (de_callTy call_list_of qList_ok rfl T.n_list PyProof.Rows.boot_list (da_cons (de_var (pv 1)) da_nil))))) (fun _ _ _ _ _ => (de_var (pv 4)))) da_nil)))))) hread
def t_kept_shifts (K : PySem.W.Frag) (c : Cs) : DTS :=
 (dSeq (dDrop (dCall (sp_check_length c) (dCons (dVar 0) (dCons (dK (.int 4)) dNil))))
 (dSeq (dDrop (dCall (sp_check_lot c) (dCons (dVar 0) (dCons (dVar 1) dNil))))
 (dRet (dCall (sp_shifts_of c) (dCons (dVar 0) (dCons (dVar 1) dNil))))))
theorem has_kept_shifts (T : Txt P w K mg base c) (h_check_length : Has P w K mg base 2 "check_length" s_check_length P_check_length (sp_check_length c)) (h_check_lot : Has P w K mg base 3 "check_lot" s_check_lot P_check_lot (sp_check_lot c)) (h_shifts_of : Has P w K mg base 3 "shifts_of" s_shifts_of P_shifts_of (sp_shifts_of c)) (hlen : ∀ ds G Q E, (sp_kept_shifts c) ds G Q E → ds.length = P_kept_shifts.length)
    (hread : ∀ ds G Q E, (sp_kept_shifts c) ds G Q E → t_kept_shifts K c (fun x _ G' => ∃ G2, Sub G2 G' ∧ E x G2) { nx := fun _ G' => RetW Q .non G', rt := RetW Q } (dstart N_kept_shifts ds) G) :
    Has P w K mg base (3 + 1) "kept_shifts" s_kept_shifts P_kept_shifts (sp_kept_shifts c) :=
  has_mk T.at_kept_shifts sc_kept_shifts hlen (t_kept_shifts K c) (fun f cdv A outer s H E hr tk =>
 (dss_cons (ds_expr (de_call h_check_length (hr.mono (by first | decide | omega)) rfl tk (da_cons (de_var (pv 0)) (da_cons (de_gint T.g_MOST_LENGTH rfl) da_nil))))
 (dss_cons (ds_expr (de_call h_check_lot (hr.mono (by first | decide | omega)) rfl tk (da_cons (de_var (pv 0)) (da_cons (de_var (pv 1)) da_nil))))
 (dss_one (ds_ret (de_call h_shifts_of (hr.mono (by first | decide | omega)) rfl tk (da_cons (de_var (pv 0)) (da_cons (de_var (pv 1)) da_nil)))))))) hread
def t_parts_like (K : PySem.W.Frag) (c : Cs) : DTS :=
 (dSeq (dAsg (dCall (sp_strings_of c) (dCons (dVar 0) dNil)) (gSet 3))
 (dSeq (dAsg (dLc false [5] (dIt (dVar 3)) (gSet 5) dYes (dCall (sp_is_heard c) (dCons (dVar 1) (dCons (dVar 2) (dCons (dVar 5) dNil))))) (gSet 4))
 (dRet (dN qTuple (dCons (dLc false [6] (dIt (dVar 3)) (gSet 6) (dTest (dOp (qEq false) (dLc false [5] (dIt (dVar 3)) (gSet 5) dYes (dCall (sp_is_heard c) (dCons (dVar 1) (dCons (dVar 6) (dCons (dVar 5) dNil))))) (dVar 4))) (dVar 6)) dNil)))))
theorem has_parts_like (T : Txt P w K mg base c) (h_strings_of : Has P w K mg base 2 "strings_of" s_strings_of P_strings_of (sp_strings_of c)) (h_is_heard : Has P w K mg base 2 "is_heard" s_is_heard P_is_heard (sp_is_heard c)) (hlen : ∀ ds G Q E, (sp_parts_like c) ds G Q E → ds.length = P_parts_like.length)
    (hread : ∀ ds G Q E, (sp_parts_like c) ds G Q E → t_parts_like K c (fun x _ G' => ∃ G2, Sub G2 G' ∧ E x G2) { nx := fun _ G' => RetW Q .non G', rt := RetW Q } (dstart N_parts_like ds) G) :
    Has P w K mg base (2 + 1) "parts_like" s_parts_like P_parts_like (sp_parts_like c) :=
  has_mk T.at_parts_like sc_parts_like hlen (t_parts_like K c) (fun f cdv A outer s H E hr tk =>
 (dss_cons (ds_set sc_parts_like.nd (i := 3) rfl (by first | exact Or.inl rfl | exact Or.inr rfl) (de_call h_strings_of (hr.mono (by first | decide | omega)) rfl tk (da_cons (de_var (pv 0)) da_nil)))
 (dss_cons (ds_set sc_parts_like.nd (i := 4) rfl (by first | exact Or.inl rfl | exact Or.inr rfl) (de_lc (own := [("begin", 5)]) rfl sc_parts_like.nd (di_any (de_var (pv 3))) (blkOk_by (own := [("begin", 5)]) (N := N_parts_like) (sc := defScope s_parts_like) (by decide +kernel)) (fun _ _ _ _ _ => (cg_name sc_parts_like.nd rfl (by first | exact Or.inl rfl | exact Or.inr rfl) (by decide))) (fun _ _ _ _ _ => dts_nil) (fun _ _ _ _ _ => (de_call h_is_heard (hr.mono (by first | decide | omega)) rfl takes_blk (da_cons (de_var (pv 1)) (da_cons (de_var (pv 2)) (da_cons (de_var (pv 5)) da_nil)))))))
 (dss_one (ds_ret (de_callTy call_tuple_of qTuple_ok rfl T.n_tuple PyProof.Rows.boot_tuple (da_cons (de_lc (own := [("one", 6)]) rfl sc_parts_like.nd (di_any (de_var (pv 3))) (blkOk_by (own := [("one", 6)]) (N := N_parts_like) (sc := defScope s_parts_like) (by decide +kernel)) (fun _ _ _ _ _ => (cg_name sc_parts_like.nd rfl (by first | exact Or.inl rfl | exact Or.inr rfl) (by decide))) (fun _ _ _ _ _ => (dts_one (dt_cmp (op_eqAll (hr.units)) qEq_ok (de_lc (own := [("begin", 5)]) rfl sc_parts_like.nd (di_any (de_var (pv 3))) (blkOk_by (by kernel_rfl)) (fun _ _ _ _ _ => (cg_name sc_parts_like.nd rfl (by first | exact Or.inl rfl | exact Or.inr rfl) (by decide))) (fun _ _ _ _ _ => dts_nil) (fun _ _ _ _ _ => (de_call h_is_heard (hr.mono (by first | decide | omega)) rfl takes_blk (da_cons (de_var (pv 1)) (da_cons (de_var (pv 6)) (da_cons (de_var (pv 5)) da_nil)))))) (de_var (pv 4))))) (fun _ _ _ _ _ => (de_var (pv 6)))) da_nil))))))) hread
def t_told_parts (K : PySem.W.Frag) (c : Cs) : DTS :=
 (dSeq (dDrop (dCall (sp_check_length c) (dCons (dVar 0) (dCons (dK (.int 4)) dNil))))
 (dSeq (dDrop (dCall (sp_check_lot c) (dCons (dVar 0) (dCons (dVar 1) dNil))))
 (dRet (dCall (sp_parts_like c) (dCons (dVar 0) (dCons (dVar 1) (dCons (dVar 2) dNil)))))))
theorem has_told_parts (T : Txt P w K mg base c) (h_check_length : Has P w K mg base 2 "check_length" s_check_length P_check_length (sp_check_length c)) (h_check_lot : Has P w K mg base 3 "check_lot" s_check_lot P_check_lot (sp_check_lot c)) (h_parts_like : Has P w K mg base 3 "parts_like" s_parts_like P_parts_like (sp_parts_like c)) (hlen : ∀ ds G Q E, (sp_told_parts c) ds G Q E → ds.length = P_told_parts.length)
    (hread : ∀ ds G Q E, (sp_told_parts c) ds G Q E → t_told_parts K c (fun x _ G' => ∃ G2, Sub G2 G' ∧ E x G2) { nx := fun _ G' => RetW Q .non G', rt := RetW Q } (dstart N_told_parts ds) G) :
    Has P w K mg base (3 + 1) "told_parts" s_told_parts P_told_parts (sp_told_parts c) :=
  has_mk T.at_told_parts sc_told_parts hlen (t_told_parts K c) (fun f cdv A outer s H E hr tk =>
 (dss_cons (ds_expr (de_call h_check_length (hr.mono (by first | decide | omega)) rfl tk (da_cons (de_var (pv 0)) (da_cons (de_gint T.g_MOST_LENGTH rfl) da_nil))))
 (dss_cons (ds_expr (de_call h_check_lot (hr.mono (by first | decide | omega)) rfl tk (da_cons (de_var (pv 0)) (da_cons (de_var (pv 1)) da_nil))))
 (dss_one (ds_ret (de_call h_parts_like (hr.mono (by first | decide | omega)) rfl tk (da_cons (de_var (pv 0)) (da_cons (de_var (pv 1)) (da_cons (de_var (pv 2)) da_nil))))))))) hread
def t_is_told (K : PySem.W.Frag) (c : Cs) : DTS :=
 (dRet (dOp (qEq false) (dN qLen (dCons (dCall (sp_kept_shifts c) (dCons (dVar 0) (dCons (dVar 1) dNil))) dNil)) (dK (.int 1))))
theorem has_is_told (T : Txt P w K mg base c) (h_kept_shifts : Has P w K mg base 4 "kept_shifts" s_kept_shifts P_kept_shifts (sp_kept_shifts c)) (hlen : ∀ ds G Q E, (sp_is_told c) ds G Q E → ds.length = P_is_told.length)
    (hread : ∀ ds G Q E, (sp_is_told c) ds G Q E → t_is_told K c (fun x _ G' => ∃ G2, Sub G2 G' ∧ E x G2) { nx := fun _ G' => RetW Q .non G', rt := RetW Q } (dstart N_is_told ds) G) :
    Has P w K mg base (4 + 1) "is_told" s_is_told P_is_told (sp_is_told c) :=
  has_mk T.at_is_told sc_is_told hlen (t_is_told K c) (fun f cdv A outer s H E hr tk =>
 (dss_one (ds_ret (de_cmp (op_eqAll (hr.units)) qEq_ok (de_callB call_len qLen_ok rfl T.n_len boot_len (da_cons (de_call h_kept_shifts (hr.mono (by first | decide | omega)) rfl tk (da_cons (de_var (pv 0)) (da_cons (de_var (pv 1)) da_nil))) da_nil)) de_int)))) hread
def t_classes_of (K : PySem.W.Frag) (c : Cs) : DTS :=
 (dSeq (dAsg (dLc false [3] (dIt (dCall (sp_strings_of c) (dCons (dVar 0) dNil))) (gSet 3) dYes (dCall (sp_parts_like c) (dCons (dVar 0) (dCons (dVar 1) (dCons (dVar 3) dNil))))) (gSet 2))
 (dRet (dN qTuple (dCons (dLc false [3, 4] (dZip (dCons (dCall (sp_strings_of c) (dCons (dVar 0) dNil)) (dCons (dVar 2) dNil))) (gTupD 2 (gsCons (gSet 3) (gsCons (gSet 4) gsNil))) (dTest (dOp (qEq false) (dOp qIx (dVar 4) (dK (.int 0))) (dVar 3))) (dVar 4)) dNil))))
theorem has_classes_of (T : Txt P w K mg base c) (h_strings_of : Has P w K mg base 2 "strings_of" s_strings_of P_strings_of (sp_strings_of c)) (h_parts_like : Has P w K mg base 3 "parts_like" s_parts_like P_parts_like (sp_parts_like c)) (hlen : ∀ ds G Q E, (sp_classes_of c) ds G Q E → ds.length = P_classes_of.length)
    (hread : ∀ ds G Q E, (sp_classes_of c) ds G Q E → t_classes_of K c (fun x _ G' => ∃ G2, Sub G2 G' ∧ E x G2) { nx := fun _ G' => RetW Q .non G', rt := RetW Q } (dstart N_classes_of ds) G) :
    Has P w K mg base (3 + 1) "classes_of" s_classes_of P_classes_of (sp_classes_of c) :=
  has_mk T.at_classes_of sc_classes_of hlen (t_classes_of K c) (fun f cdv A outer s H E hr tk =>
 (dss_cons (ds_lc (own := [("part", 3)]) rfl sc_classes_of.nd (i := 2) rfl rfl (sw_true rfl rfl rfl (by decide +kernel)) (di_any (de_call h_strings_of (hr.mono (by first | decide | omega)) rfl tk (da_cons (de_var (pv 0)) da_nil))) (blkOk_by (own := [("part", 3)]) (N := N_classes_of) (sc := defScope s_classes_of) (by decide +kernel)) (fun _ _ _ _ _ => (cg_name sc_classes_of.nd rfl (by first | exact Or.inl rfl | exact Or.inr rfl) (by decide))) (fun _ _ _ _ _ => dts_nil) (fun _ _ _ _ _ => (de_call h_parts_like (hr.mono (by first | decide | omega)) rfl takes_blk (da_cons (de_var (pv 0)) (da_cons (de_var (pv 1)) (da_cons (de_var (pv 3)) da_nil))))))
 (dss_one (ds_ret (de_callTy call_tuple_of qTuple_ok rfl T.n_tuple PyProof.Rows.boot_tuple (da_cons (de_lc (own := [("part", 3), ("like", 4)]) rfl sc_classes_of.nd (di_zip rfl T.n_zip (da_cons (de_call h_strings_of (hr.mono (by first | decide | omega)) rfl tk (da_cons (de_var (pv 0)) da_nil)) (da_cons (de_var (pv 2)) da_nil))) (blkOk_by (own := [("part", 3), ("like", 4)]) (N := N_classes_of) (sc := defScope s_classes_of) (by decide +kernel)) (fun _ _ _ _ _ => (cg_tup rfl (cgs_cons (cg_name sc_classes_of.nd rfl (by first | exact Or.inl rfl | exact Or.inr rfl) (by decide)) (cgs_cons (cg_name sc_classes_of.nd rfl (by first | exact Or.inl rfl | exact Or.inr rfl) (by decide)) cgs_nil)))) (fun _ _ _ _ _ => (dts_one (dt_cmp (op_eqAll (hr.units)) qEq_ok (de_ix ix_seq qIx_ok (de_var (pv 4)) de_int) (de_var (pv 3))))) (fun _ _ _ _ _ => (de_var (pv 4)))) da_nil)))))) hread
def t_classes (K : PySem.W.Frag) (c : Cs) : DTS :=
 (dSeq (dDrop (dCall (sp_check_length c) (dCons (dVar 0) (dCons (dK (.int 4)) dNil))))
 (dSeq (dDrop (dCall (sp_check_lot c) (dCons (dVar 0) (dCons (dVar 1) dNil))))
 (dRet (dCall (sp_classes_of c) (dCons (dVar 0) (dCons (dVar 1) dNil))))))
theorem has_classes (T : Txt P w K mg base c) (h_check_length : Has P w K mg base 2 "check_length" s_check_length P_check_length (sp_check_length c)) (h_check_lot : Has P w K mg base 3 "check_lot" s_check_lot P_check_lot (sp_check_lot c)) (h_classes_of : Has P w K mg base 4 "classes_of" s_classes_of P_classes_of (sp_classes_of c)) (hlen : ∀ ds G Q E, (sp_classes c) ds G Q E → ds.length = P_classes.length)
    (hread : ∀ ds G Q E, (sp_classes c) ds G Q E → t_classes K c (fun x _ G' => ∃ G2, Sub G2 G' ∧ E x G2) { nx := fun _ G' => RetW Q .non G', rt := RetW Q } (dstart N_classes ds) G) :
    Has P w K mg base (4 + 1) "classes" s_classes P_classes (sp_classes c) :=
  has_mk T.at_classes sc_classes hlen (t_classes K c) (fun f cdv A outer s H E hr tk =>
 (dss_cons (ds_expr (de_call h_check_length (hr.mono (by first | decide | omega)) rfl tk (da_cons (de_var (pv 0)) (da_cons (de_gint T.g_MOST_LENGTH rfl) da_nil))))
 (dss_cons (ds_expr (de_call h_check_lot (hr.mono (by first | decide | omega)) rfl tk (da_cons (de_var (pv 0)) (da_cons (de_var (pv 1)) da_nil))))
 (dss_one (ds_ret (de_call h_classes_of (hr.mono (by first | decide | omega)) rfl tk (da_cons (de_var (pv 0)) (da_cons (de_var (pv 1)) da_nil)))))))) hread
def t__law_hand (K : PySem.W.Frag) (c : Cs) : DTS :=
 (dRet (dLst true (dCons (dLc true [1] (dIt (dVar 0)) (gSet 1) dYes (dOp qMod (dN qInt (dCons (dVar 1) dNil)) (dOp qPow (dK (.int 10)) (dK (.int 60))))) (dCons (dK (.int 0)) dNil))))
theorem has__law_hand (T : Txt P w K mg base c)  (hlen : ∀ ds G Q E, (sp__law_hand c) ds G Q E → ds.length = P__law_hand.length)
    (hread : ∀ ds G Q E, (sp__law_hand c) ds G Q E → t__law_hand K c (fun x _ G' => ∃ G2, Sub G2 G' ∧ E x G2) { nx := fun _ G' => RetW Q .non G', rt := RetW Q } (dstart N__law_hand ds) G) :
    Has P w K mg base (0 + 1) "_law_hand" s__law_hand P__law_hand (sp__law_hand c) :=
  has_mk T.at__law_hand sc__law_hand hlen (t__law_hand K c) (fun f cdv A outer s H E hr tk =>
 (dss_one (ds_ret (de_lst (da_cons (de_lc (own := [("cell", 1)]) rfl sc__law_hand.nd (di_any (de_var (pv 0))) (blkOk_by (own := [("cell", 1)]) (N := N__law_hand) (sc := defScope s__law_hand) (by decide +kernel)) (fun _ _ _ _ _ => (cg_name sc__law_hand.nd rfl (by first | exact Or.inl rfl | exact Or.inr rfl) (by decide))) (fun _ _ _ _ _ => dts_nil) (fun _ _ _ _ _ => (de_op op_mod qMod_ok (de_callTy call_int1 qInt_ok rfl T.n_int PyProof.Rows.boot_int (da_cons (de_var (pv 1)) da_nil)) (de_op op_pow qPow_ok de_int de_int)))) (da_cons de_int da_nil)))))) hread
def t__law_take (K : PySem.W.Frag) (c : Cs) : DTS :=
 (dOpen (dOpen (dSeq (dAsg (dOp qIx (dVar 0) (dK (.int 0))) (gSet 2))
 (dSeq (dAsg (dOp qIx (dVar 0) (dK (.int 1))) (gSet 3))
 (dSeq (dAsg (dOp (qAdd false) (dVar 3) (dK (.int 1))) (gSubD dSetL (dVar 0) (dK (.int 1))))
 (dSeq (dAsg (dVar 3) (gSet 4))
 (dSeq (dIfS (dTest (dOp (qGt) (dN qLen (dCons (dVar 2) dNil)) (dK (.int 0))))
 (dSeq (dAsg (dOp qMod (dN qInt (dCons (dVar 3) dNil)) (dN qLen (dCons (dVar 2) dNil))) (gSet 5))
 (dSeq (dAsg (dOp qIx (dVar 2) (dVar 5)) (gSet 4))
 (dIfS (dTest (dOp (qGe) (dVar 4) (dOp qPow (dK (.int 10)) (dK (.int 18)))))
 (dSeq (dAsg (dOp qFdiv (dVar 4) (dK (.int 1000003))) (gSubD dSetL (dVar 2) (dVar 5)))
 (dRet (dOp qMod (dOp qMod (dN qInt (dCons (dVar 4) dNil)) (dK (.int 1000003))) (dVar 1))))
 dNext)))
 dNext)
 (dSeq (dAsg (dOp qMod (dN qInt (dCons (dOp (qAdd false) (dOp (qAdd false) (dOp (qMul false) (dVar 4) (dK (.int 48271))) (dOp (qMul false) (dVar 3) (dK (.int 69621)))) (dK (.int 11))) dNil)) (dK (.int 2147483647))) (gSet 6))
 (dSeq (dAsg (dOp qMod (dN qInt (dCons (dOp (qAdd false) (dOp qFdiv (dOp (qMul false) (dVar 6) (dVar 6)) (dK (.int 4096))) (dVar 6)) dNil)) (dK (.int 2147483629))) (gSet 6))
 (dRet (dOp qMod (dOp qFdiv (dOp qMod (dN qInt (dCons (dOp (qAdd false) (dOp qFdiv (dOp (qMul false) (dVar 6) (dVar 6)) (dK (.int 4096))) (dOp (qMul false) (dVar 3) (dK (.int 7919)))) dNil)) (dK (.int 2147483629))) (dK (.int 7))) (dVar 1))))))))))))
theorem has__law_take (T : Txt P w K mg base c)  (hlen : ∀ ds G Q E, (sp__law_take c) ds G Q E → ds.length = P__law_take.length)
    (hread : ∀ ds G Q E, (sp__law_take c) ds G Q E → t__law_take K c (fun x _ G' => ∃ G2, Sub G2 G' ∧ E x G2) { nx := fun _ G' => RetW Q .non G', rt := RetW Q } (dstart N__law_take ds) G) :
    Has P w K mg base (0 + 1) "_law_take" s__law_take P__law_take (sp__law_take c) :=
  has_mk T.at__law_take sc__law_take hlen (t__law_take K c) (fun f cdv A outer s H E hr tk =>
 (dss_open (dss_open (dss_cons (ds_set sc__law_take.nd (i := 2) rfl (by first | exact Or.inl rfl | exact Or.inr rfl) (de_ix ix_seq qIx_ok (de_var (pv 0)) de_int))
 (dss_cons (ds_set sc__law_take.nd (i := 3) rfl (by first | exact Or.inl rfl | exact Or.inr rfl) (de_ix ix_seq qIx_ok (de_var (pv 0)) de_int))
 (dss_cons (ds_asg (de_op op_addAll qAdd_ok (de_var (pv 3)) de_int) (dg_sub set_list dSetL_ok (de_var (pv 0)) de_int))
 (dss_cons (ds_set sc__law_take.nd (i := 4) rfl (by first | exact Or.inl rfl | exact Or.inr rfl) (de_var (pv 3)))
 (dss_cons (ds_if (dt_cmp (op_gt) qGt_ok (de_callB call_len qLen_ok rfl T.n_len boot_len (da_cons (de_var (pv 2)) da_nil)) de_int)
 (dss_cons (ds_set sc__law_take.nd (i := 5) rfl (by first | exact Or.inl rfl | exact Or.inr rfl) (de_op op_mod qMod_ok (de_callTy call_int1 qInt_ok rfl T.n_int PyProof.Rows.boot_int (da_cons (de_var (pv 3)) da_nil)) (de_callB call_len qLen_ok rfl T.n_len boot_len (da_cons (de_var (pv 2)) da_nil))))
 (dss_cons (ds_set sc__law_take.nd (i := 4) rfl (by first | exact Or.inl rfl | exact Or.inr rfl) (de_ix ix_seq qIx_ok (de_var (pv 2)) (de_var (pv 5))))
 (dss_one (ds_if (dt_cmp (op_ge) qGe_ok (de_var (pv 4)) (de_op op_pow qPow_ok de_int de_int))
 (dss_cons (ds_asg (de_op op_fdivW qFdiv_ok (de_var (pv 4)) de_int) (dg_sub set_list dSetL_ok (de_var (pv 2)) (de_var (pv 5))))
 (dss_one (ds_ret (de_op op_mod qMod_ok (de_op op_mod qMod_ok (de_callTy call_int1 qInt_ok rfl T.n_int PyProof.Rows.boot_int (da_cons (de_var (pv 4)) da_nil)) de_int) (de_var (pv 1))))))
 dss_nil))))
 dss_nil)
 (dss_cons (ds_set sc__law_take.nd (i := 6) rfl (by first | exact Or.inl rfl | exact Or.inr rfl) (de_op op_mod qMod_ok (de_callTy call_int1 qInt_ok rfl T.n_int PyProof.Rows.boot_int (da_cons (de_op op_addAll qAdd_ok (de_op op_addAll qAdd_ok (de_op op_mulAll qMul_ok (de_var (pv 4)) de_int) (de_op op_mulAll qMul_ok (de_var (pv 3)) de_int)) de_int) da_nil)) de_int))
 (dss_cons (ds_set sc__law_take.nd (i := 6) rfl (by first | exact Or.inl rfl | exact Or.inr rfl) (de_op op_mod qMod_ok (de_callTy call_int1 qInt_ok rfl T.n_int PyProof.Rows.boot_int (da_cons (de_op op_addAll qAdd_ok (de_op op_fdivW qFdiv_ok (de_op op_mulAll qMul_ok (de_var (pv 6)) (de_var (pv 6))) de_int) (de_var (pv 6))) da_nil)) de_int))
 (dss_one (ds_ret (de_op op_mod qMod_ok (de_op op_fdivW qFdiv_ok (de_op op_mod qMod_ok (de_callTy call_int1 qInt_ok rfl T.n_int PyProof.Rows.boot_int (da_cons (de_op op_addAll qAdd_ok (de_op op_fdivW qFdiv_ok (de_op op_mulAll qMul_ok (de_var (pv 6)) (de_var (pv 6))) de_int) (de_op op_mulAll qMul_ok (de_var (pv 3)) de_int)) da_nil)) de_int) de_int) (de_var (pv 1))))))))))))))) hread
def t__law_same (K : PySem.W.Frag) (c : Cs) (spr__law_same : DSp) : DTS :=
 (dSeq (dIfS (dTru (dN qIsi (dCons (dVar 1) (dCons (dK (.ty "tuple")) dNil))))
 (dSeq (dIfS (dOr (dNot (dTru (dN qIsi (dCons (dVar 0) (dCons (dK (.ty "tuple")) dNil))))) (dTest (dOp (qEq true) (dN qLen (dCons (dVar 0) dNil)) (dN qLen (dCons (dVar 1) dNil)))))
 (dRet (dK (.bl false)))
 dNext)
 (dRet (dOp (qIn true) (dK (.bl false)) (dLc false [2] (dRng1 (dCons (dN qLen (dCons (dVar 1) dNil)) dNil)) (gSet 2) dYes (dCall (spr__law_same) (dCons (dOp qIx (dVar 0) (dVar 2)) (dCons (dOp qIx (dVar 1) (dVar 2)) dNil)))))))
 dNext)
 (dSeq (dIfS (dTest (dOp (qIsN false) (dVar 1) (dK .non)))
 (dRet (dOp (qIsN false) (dVar 0) (dK .non)))
 dNext)
 (dSeq (dIfS (dTru (dN qIsi (dCons (dVar 1) (dCons (dK (.ty "bool")) dNil))))
 (dRet (dAndV (dN qIsi (dCons (dVar 0) (dCons (dK (.ty "bool")) dNil))) (dOp (qEq false) (dVar 0) (dVar 1))))
 dNext)
 (dSeq (dIfS (dTru (dN qIsi (dCons (dVar 1) (dCons (dK (.ty "int")) dNil))))
 (dRet (dAndV (dN qIsi (dCons (dVar 0) (dCons (dK (.ty "int")) dNil))) (dAndV (dNotV (dN qIsi (dCons (dVar 0) (dCons (dK (.ty "bool")) dNil)))) (dOp (qEq false) (dVar 0) (dVar 1)))))
 dNext)
 (dRet (dAndV (dN qIsi (dCons (dVar 0) (dCons (dK (.ty "str")) dNil))) (dOp (qEq false) (dVar 0) (dVar 1))))))))
theorem has__law_same (T : Txt P w K mg base c) {k : Nat} (hk : 0 ≤ k) {spr__law_same sq : DSp} (h__law_same : Has P w K mg base k "_law_same" s__law_same P__law_same spr__law_same)  (hlen : ∀ ds G Q E, sq ds G Q E → ds.length = P__law_same.length)
    (hread : ∀ ds G Q E, sq ds G Q E → t__law_same K c spr__law_same (fun x _ G' => ∃ G2, Sub G2 G' ∧ E x G2) { nx := fun _ G' => RetW Q .non G', rt := RetW Q } (dstart N__law_same ds) G) :
    Has P w K mg base (k + 1) "_law_same" s__law_same P__law_same sq :=
  has_mk T.at__law_same sc__law_same hlen (t__law_same K c spr__law_same) (fun f cdv A outer s H E hr tk =>
 (dss_cons (ds_if (dt_truth (de_callB call_isi qIsi_ok rfl T.n_isinstance PyProof.Rows.boot_isinstance (da_cons (de_var (pv 1)) (da_cons (de_bty T.n_tuple PyProof.Rows.boot_tuple rfl) da_nil))))
 (dss_cons (ds_if (dt_bool (dw_or (dt_not (dt_truth (de_callB call_isi qIsi_ok rfl T.n_isinstance PyProof.Rows.boot_isinstance (da_cons (de_var (pv 0)) (da_cons (de_bty T.n_tuple PyProof.Rows.boot_tuple rfl) da_nil))))) (dw_or1 (dt_cmp (op_neAll (hr.units)) qNe_ok (de_callB call_len qLen_ok rfl T.n_len boot_len (da_cons (de_var (pv 0)) da_nil)) (de_callB call_len qLen_ok rfl T.n_len boot_len (da_cons (de_var (pv 1)) da_nil))))))
 (dss_one (ds_ret de_bl))
 dss_nil)
 (dss_one (ds_ret (de_cmp (op_notInAll) qInF_ok de_bl (de_lc (own := [("k", 2)]) rfl sc__law_same.nd (di_range1 rfl T.n_range (da_cons (de_callB call_len qLen_ok rfl T.n_len boot_len (da_cons (de_var (pv 1)) da_nil)) da_nil)) (blkOk_by (own := [("k", 2)]) (N := N__law_same) (sc := defScope s__law_same) (by decide +kernel)) (fun _ _ _ _ _ => (cg_name sc__law_same.nd rfl (by first | exact Or.inl rfl | exact Or.inr rfl) (by decide))) (fun _ _ _ _ _ => dts_nil) (fun _ _ _ _ _ => (de_call h__law_same (hr.mono (Nat.le_refl _)) rfl takes_blk (da_cons (de_ix ix_seq qIx_ok (de_var (pv 0)) (de_var (pv 2))) (da_cons (de_ix ix_seq qIx_ok (de_var (pv 1)) (de_var (pv 2))) da_nil)))))))))
 dss_nil)
 (dss_cons (ds_if (dt_cmp (op_isN) qIs_ok (de_var (pv 1)) de_non)
 (dss_one (ds_ret (de_cmp (op_isN) qIs_ok (de_var (pv 0)) de_non)))
 dss_nil)
 (dss_cons (ds_if (dt_truth (de_callB call_isi qIsi_ok rfl T.n_isinstance PyProof.Rows.boot_isinstance (da_cons (de_var (pv 1)) (da_cons (de_bty T.n_bool PyProof.Rows.boot_bool rfl) da_nil))))
 (dss_one (ds_ret (de_and (de_callB call_isi qIsi_ok rfl T.n_isinstance PyProof.Rows.boot_isinstance (da_cons (de_var (pv 0)) (da_cons (de_bty T.n_bool PyProof.Rows.boot_bool rfl) da_nil))) (de_one (de_cmp (op_eqAll (hr.units)) qEq_ok (de_var (pv 0)) (de_var (pv 1)))))))
 dss_nil)
 (dss_cons (ds_if (dt_truth (de_callB call_isi qIsi_ok rfl T.n_isinstance PyProof.Rows.boot_isinstance (da_cons (de_var (pv 1)) (da_cons (de_bty T.n_int PyProof.Rows.boot_int rfl) da_nil))))
 (dss_one (ds_ret (de_and (de_callB call_isi qIsi_ok rfl T.n_isinstance PyProof.Rows.boot_isinstance (da_cons (de_var (pv 0)) (da_cons (de_bty T.n_int PyProof.Rows.boot_int rfl) da_nil))) (de_and (de_not (de_callB call_isi qIsi_ok rfl T.n_isinstance PyProof.Rows.boot_isinstance (da_cons (de_var (pv 0)) (da_cons (de_bty T.n_bool PyProof.Rows.boot_bool rfl) da_nil)))) (de_one (de_cmp (op_eqAll (hr.units)) qEq_ok (de_var (pv 0)) (de_var (pv 1))))))))
 dss_nil)
 (dss_one (ds_ret (de_and (de_callB call_isi qIsi_ok rfl T.n_isinstance PyProof.Rows.boot_isinstance (da_cons (de_var (pv 0)) (da_cons (de_bty T.n_str PyProof.Rows.boot_str rfl) da_nil))) (de_one (de_cmp (op_eqAll (hr.units)) qEq_ok (de_var (pv 0)) (de_var (pv 1)))))))))))) hread
def lb__law_bits_0 (K : PySem.W.Frag) (c : Cs) : DTS :=
 (dAsg (dOp (qAdd false) (dN qStr (dCons (dOp qSub (dOp qFdiv (dVar 1) (dOp qShl (dK (.int 1)) (dVar 3))) (dOp (qMul false) (dOp qFdiv (dVar 1) (dOp qShl (dK (.int 2)) (dVar 3))) (dK (.int 2)))) dNil)) (dVar 2)) (gSet 2))
def t__law_bits (K : PySem.W.Frag) (c : Cs) : DTS :=
 (dSeq (dAsg (dK (.str "")) (gSet 2))
 (dSeq (dFor (dRng1 (dCons (dVar 0) dNil)) (gSet 3)
 (lb__law_bits_0 K c))
 (dRet (dVar 2))))
theorem has__law_bits (T : Txt P w K mg base c)  (hlen : ∀ ds G Q E, (sp__law_bits c) ds G Q E → ds.length = P__law_bits.length)
    (hread : ∀ ds G Q E, (sp__law_bits c) ds G Q E → t__law_bits K c (fun x _ G' => ∃ G2, Sub G2 G' ∧ E x G2) { nx := fun _ G' => RetW Q .non G', rt := RetW Q } (dstart N__law_bits ds) G) :
    Has P w K mg base (0 + 1) "_law_bits" s__law_bits P__law_bits (sp__law_bits c) :=
  has_mk T.at__law_bits sc__law_bits hlen (t__law_bits K c) (fun f cdv A outer s H E hr tk =>
 (dss_cons (ds_set sc__law_bits.nd (i := 2) rfl (by first | exact Or.inl rfl | exact Or.inr rfl) de_str)
 (dss_cons (ds_for (passes_of rfl) rfl (di_range1 rfl T.n_range (da_cons (de_var (pv 0)) da_nil)) (dg_name sc__law_bits.nd rfl (by first | exact Or.inl rfl | exact Or.inr rfl))
 (dss_one (ds_set sc__law_bits.nd (i := 2) rfl (by first | exact Or.inl rfl | exact Or.inr rfl) (de_op op_addAll qAdd_ok (de_callTy call_str_int qStr_ok rfl T.n_str PyProof.Rows.boot_str (da_cons (de_op op_sub qSub_ok (de_op op_fdivW qFdiv_ok (de_var (pv 1)) (de_op op_shl qShl_ok de_int (de_var (pv 3)))) (de_op op_mulAll qMul_ok (de_op op_fdivW qFdiv_ok (de_var (pv 1)) (de_op op_shl qShl_ok de_int (de_var (pv 3)))) de_int)) da_nil)) (de_var (pv 2))))))
 (dss_one (ds_ret (de_var (pv 2))))))) hread
def lb__law_lot_0 (K : PySem.W.Frag) (c : Cs) : DTS :=
 (dIfS (dTest (dOp (qEq false) (dOp qIx (dVar 3) (dVar 4)) (dK (.int 1))))
 (dAsg (dK (.int 1)) (gSubD dSetL (dVar 3) (dOp qXor (dVar 4) (dVar 7))))
 dNext)
def lb__law_lot_1 (K : PySem.W.Frag) (c : Cs) : DTS :=
 (dSeq (dAsg (dOp (qAdd false) (dK (.int 1)) (dCall (sp__law_take c) (dCons (dVar 0) (dCons (dOp qSub (dVar 2) (dK (.int 1))) dNil)))) (gSet 7))
 (dIfS (dTest (dOp (qLt) (dVar 5) (dK (.int 3))))
 (dFor (dRng1 (dCons (dVar 2) dNil)) (gSet 4)
 (lb__law_lot_0 K c))
 dNext))
def t__law_lot (K : PySem.W.Frag) (c : Cs) : DTS :=
 (dSeq (dAsg (dOp qShl (dK (.int 1)) (dVar 1)) (gSet 2))
 (dSeq (dAsg (dLc true [4] (dRng1 (dCons (dVar 2) dNil)) (gSet 4) dYes (dCall (sp__law_take c) (dCons (dVar 0) (dCons (dK (.int 2)) dNil)))) (gSet 3))
 (dSeq (dAsg (dCall (sp__law_take c) (dCons (dVar 0) (dCons (dK (.int 4)) dNil))) (gSet 5))
 (dSeq (dFor (dRng1 (dCons (dVar 5) dNil)) (gSet 6)
 (lb__law_lot_1 K c))
 (dSeq (dIfS (dOr (dTest (dOp (qEq false) (dVar 5) (dK (.int 3)))) (dOr (dTest (dOp (qEq false) (dN qSum (dCons (dVar 3) dNil)) (dK (.int 0)))) (dTest (dOp (qEq false) (dN qSum (dCons (dVar 3) dNil)) (dVar 2)))))
 (dSeq (dAsg (dOp (qMul true) (dLst false (dCons (dK (.int 0)) dNil)) (dVar 2)) (gSet 3))
 (dAsg (dK (.int 1)) (gSubD dSetL (dVar 3) (dCall (sp__law_take c) (dCons (dVar 0) (dCons (dVar 2) dNil))))))
 dNext)
 (dRet (dVar 3)))))))
theorem has__law_lot (T : Txt P w K mg base c) (h__law_take : Has P w K mg base 1 "_law_take" s__law_take P__law_take (sp__law_take c)) (hlen : ∀ ds G Q E, (sp__law_lot c) ds G Q E → ds.length = P__law_lot.length)
    (hread : ∀ ds G Q E, (sp__law_lot c) ds G Q E → t__law_lot K c (fun x _ G' => ∃ G2, Sub G2 G' ∧ E x G2) { nx := fun _ G' => RetW Q .non G', rt := RetW Q } (dstart N__law_lot ds) G) :
    Has P w K mg base (1 + 1) "_law_lot" s__law_lot P__law_lot (sp__law_lot c) :=
  has_mk T.at__law_lot sc__law_lot hlen (t__law_lot K c) (fun f cdv A outer s H E hr tk =>
 (dss_cons (ds_set sc__law_lot.nd (i := 2) rfl (by first | exact Or.inl rfl | exact Or.inr rfl) (de_op op_shl qShl_ok de_int (de_var (pv 1))))
 (dss_cons (ds_lc (own := [("k", 4)]) rfl sc__law_lot.nd (i := 3) rfl rfl (sw_true rfl rfl rfl (by decide +kernel)) (di_range1 rfl T.n_range (da_cons (de_var (pv 2)) da_nil)) (blkOk_by (own := [("k", 4)]) (N := N__law_lot) (sc := defScope s__law_lot) (by decide +kernel)) (fun _ _ _ _ _ => (cg_name sc__law_lot.nd rfl (by first | exact Or.inl rfl | exact Or.inr rfl) (by decide))) (fun _ _ _ _ _ => dts_nil) (fun _ _ _ _ _ => (de_call h__law_take (hr.mono (by first | decide | omega)) rfl takes_blk (da_cons (de_var (pv 0)) (da_cons de_int da_nil)))))
 (dss_cons (ds_set sc__law_lot.nd (i := 5) rfl (by first | exact Or.inl rfl | exact Or.inr rfl) (de_call h__law_take (hr.mono (by first | decide | omega)) rfl tk (da_cons (de_var (pv 0)) (da_cons de_int da_nil))))
 (dss_cons (ds_for (passes_of rfl) rfl (di_range1 rfl T.n_range (da_cons (de_var (pv 5)) da_nil)) (dg_name sc__law_lot.nd rfl (by first | exact Or.inl rfl | exact Or.inr rfl))
 (dss_cons (ds_set sc__law_lot.nd (i := 7) rfl (by first | exact Or.inl rfl | exact Or.inr rfl) (de_op op_addAll qAdd_ok de_int (de_call h__law_take (hr.mono (by first | decide | omega)) rfl tk (da_cons (de_var (pv 0)) (da_cons (de_op op_sub qSub_ok (de_var (pv 2)) de_int) da_nil)))))
 (dss_one (ds_if (dt_cmp (op_ltAll) qLt_ok (de_var (pv 5)) de_int)
 (dss_one (ds_for (passes_of rfl) rfl (di_range1 rfl T.n_range (da_cons (de_var (pv 2)) da_nil)) (dg_name sc__law_lot.nd rfl (by first | exact Or.inl rfl | exact Or.inr rfl))
 (dss_one (ds_if (dt_cmp (op_eqAll (hr.units)) qEq_ok (de_ix ix_seq qIx_ok (de_var (pv 3)) (de_var (pv 4))) de_int)
 (dss_one (ds_asg de_int (dg_sub set_list dSetL_ok (de_var (pv 3)) (de_op op_xor qXor_ok (de_var (pv 4)) (de_var (pv 7))))))
 dss_nil))))
 dss_nil))))
 (dss_cons (ds_if (dt_bool (dw_or (dt_cmp (op_eqAll (hr.units)) qEq_ok (de_var (pv 5)) de_int) (dw_or (dt_cmp (op_eqAll (hr.units)) qEq_ok (de_callB (cr_sum rfl) qSum_ok rfl T.n_sum PyProof.Rows.boot_sum (da_cons (de_var (pv 3)) da_nil)) de_int) (dw_or1 (dt_cmp (op_eqAll (hr.units)) qEq_ok (de_callB (cr_sum rfl) qSum_ok rfl T.n_sum PyProof.Rows.boot_sum (da_cons (de_var (pv 3)) da_nil)) (de_var (pv 2)))))))
 (dss_cons (ds_set sc__law_lot.nd (i := 3) rfl (by first | exact Or.inl rfl | exact Or.inr rfl) (de_op op_mulAll qMul_ok (de_lst (da_cons de_int da_nil)) (de_var (pv 2))))
 (dss_one (ds_asg de_int (dg_sub set_list dSetL_ok (de_var (pv 3)) (de_call h__law_take (hr.mono (by first | decide | omega)) rfl tk (da_cons (de_var (pv 0)) (da_cons (de_var (pv 2)) da_nil)))))))
 dss_nil)
 (dss_one (ds_ret (de_var (pv 3)))))))))) hread
def lb__law_kept_0 (K : PySem.W.Frag) (c : Cs) : DTS :=
 (dIfS (dTest (dOp (qEq false) (dN qLen (dCons (dLc false [3] (dRng1 (dCons (dN qLen (dCons (dVar 0) dNil)) dNil)) (gSet 3) (dTest (dOp (qEq true) (dOp qIx (dVar 0) (dVar 3)) (dOp qIx (dVar 0) (dOp qXor (dVar 3) (dVar 2))))) (dVar 3)) dNil)) (dK (.int 0))))
 (dDrop (dM "list" qAppend (dVar 1) (dCons (dVar 2) dNil)))
 dNext)
def t__law_kept (K : PySem.W.Frag) (c : Cs) : DTS :=
 (dSeq (dAsg (dLst true dNil) (gSet 1))
 (dSeq (dFor (dRng1 (dCons (dN qLen (dCons (dVar 0) dNil)) dNil)) (gSet 2)
 (lb__law_kept_0 K c))
 (dRet (dVar 1))))
theorem has__law_kept (T : Txt P w K mg base c)  (hlen : ∀ ds G Q E, (sp__law_kept c) ds G Q E → ds.length = P__law_kept.length)
    (hread : ∀ ds G Q E, (sp__law_kept c) ds G Q E → t__law_kept K c (fun x _ G' => ∃ G2, Sub G2 G' ∧ E x G2) { nx := fun _ G' => RetW Q .non G', rt := RetW Q } (dstart N__law_kept ds) G) :
    Has P w K mg base (0 + 1) "_law_kept" s__law_kept P__law_kept (sp__law_kept c) :=
  has_mk T.at__law_kept sc__law_kept hlen (t__law_kept K c) (fun f cdv A outer s H E hr tk =>
 (dss_cons (ds_set sc__law_kept.nd (i := 1) rfl (by first | exact Or.inl rfl | exact Or.inr rfl) (de_lst da_nil))
 (dss_cons (ds_for (passes_of rfl) rfl (di_range1 rfl T.n_range (da_cons (de_callB call_len qLen_ok rfl T.n_len boot_len (da_cons (de_var (pv 0)) da_nil)) da_nil)) (dg_name sc__law_kept.nd rfl (by first | exact Or.inl rfl | exact Or.inr rfl))
 (dss_one (ds_if (dt_cmp (op_eqAll (hr.units)) qEq_ok (de_callB call_len qLen_ok rfl T.n_len boot_len (da_cons (de_lc (own := [("k", 3)]) rfl sc__law_kept.nd (di_range1 rfl T.n_range (da_cons (de_callB call_len qLen_ok rfl T.n_len boot_len (da_cons (de_var (pv 0)) da_nil)) da_nil)) (blkOk_by (own := [("k", 3)]) (N := N__law_kept) (sc := defScope s__law_kept) (by decide +kernel)) (fun _ _ _ _ _ => (cg_name sc__law_kept.nd rfl (by first | exact Or.inl rfl | exact Or.inr rfl) (by decide))) (fun _ _ _ _ _ => (dts_one (dt_cmp (op_neAll (hr.units)) qNe_ok (de_ix ix_seq qIx_ok (de_var (pv 0)) (de_var (pv 3))) (de_ix ix_seq qIx_ok (de_var (pv 0)) (de_op op_xor qXor_ok (de_var (pv 3)) (de_var (pv 2))))))) (fun _ _ _ _ _ => (de_var (pv 3)))) da_nil)) de_int)
 (dss_one (ds_expr (de_m PySem.F.plainAttrs_list PySem.F.slot_list_append PySem.F.type_list_append mt_append qAppend_ok (de_var (pv 1)) (da_cons (de_var (pv 2)) da_nil))))
 dss_nil)))
 (dss_one (ds_ret (de_var (pv 1))))))) hread
def t__law_strings (K : PySem.W.Frag) (c : Cs) : DTS :=
 (dRet (dN qTuple (dCons (dLc false [2] (dIt (dVar 1)) (gSet 2) dYes (dCall (sp__law_bits c) (dCons (dVar 0) (dCons (dVar 2) dNil)))) dNil)))
theorem has__law_strings (T : Txt P w K mg base c) (h__law_bits : Has P w K mg base 1 "_law_bits" s__law_bits P__law_bits (sp__law_bits c)) (hlen : ∀ ds G Q E, (sp__law_strings c) ds G Q E → ds.length = P__law_strings.length)
    (hread : ∀ ds G Q E, (sp__law_strings c) ds G Q E → t__law_strings K c (fun x _ G' => ∃ G2, Sub G2 G' ∧ E x G2) { nx := fun _ G' => RetW Q .non G', rt := RetW Q } (dstart N__law_strings ds) G) :
    Has P w K mg base (1 + 1) "_law_strings" s__law_strings P__law_strings (sp__law_strings c) :=
  has_mk T.at__law_strings sc__law_strings hlen (t__law_strings K c) (fun f cdv A outer s H E hr tk =>
 (dss_one (ds_ret (de_callTy call_tuple_of qTuple_ok rfl T.n_tuple PyProof.Rows.boot_tuple (da_cons (de_lc (own := [("value", 2)]) rfl sc__law_strings.nd (di_any (de_var (pv 1))) (blkOk_by (own := [("value", 2)]) (N := N__law_strings) (sc := defScope s__law_strings) (by decide +kernel)) (fun _ _ _ _ _ => (cg_name sc__law_strings.nd rfl (by first | exact Or.inl rfl | exact Or.inr rfl) (by decide))) (fun _ _ _ _ _ => dts_nil) (fun _ _ _ _ _ => (de_call h__law_bits (hr.mono (by first | decide | omega)) rfl takes_blk (da_cons (de_var (pv 0)) (da_cons (de_var (pv 2)) da_nil))))) da_nil))))) hread
def lb__law_classes_0 (K : PySem.W.Frag) (c : Cs) : DTS :=
 (dIfS (dTest (dOp (qIn true) (dVar 4) (dVar 3)))
 (dSeq (dAsg (dN (qSorted false) (dCons (dLc false [6] (dIt (dVar 0)) (gSet 6) dYes (dOp qXor (dVar 4) (dVar 6))) dNil)) (gSet 5))
 (dSeq (dAsg (dOp (qAdd false) (dVar 3) (dVar 5)) (gSet 3))
 (dDrop (dM "list" qAppend (dVar 2) (dCons (dCall (sp__law_strings c) (dCons (dVar 1) (dCons (dVar 5) dNil))) dNil)))))
 dNext)
def t__law_classes (K : PySem.W.Frag) (c : Cs) : DTS :=
 (dSeq (dAsg (dLst true dNil) (gSet 2))
 (dSeq (dAsg (dLst false dNil) (gSet 3))
 (dSeq (dFor (dRng1 (dCons (dOp qShl (dK (.int 1)) (dVar 1)) dNil)) (gSet 4)
 (lb__law_classes_0 K c))
 (dRet (dN qTuple (dCons (dVar 2) dNil))))))
theorem has__law_classes (T : Txt P w K mg base c) (h__law_strings : Has P w K mg base 2 "_law_strings" s__law_strings P__law_strings (sp__law_strings c)) (hlen : ∀ ds G Q E, (sp__law_classes c) ds G Q E → ds.length = P__law_classes.length)
    (hread : ∀ ds G Q E, (sp__law_classes c) ds G Q E → t__law_classes K c (fun x _ G' => ∃ G2, Sub G2 G' ∧ E x G2) { nx := fun _ G' => RetW Q .non G', rt := RetW Q } (dstart N__law_classes ds) G) :
    Has P w K mg base (2 + 1) "_law_classes" s__law_classes P__law_classes (sp__law_classes c) :=
  has_mk T.at__law_classes sc__law_classes hlen (t__law_classes K c) (fun f cdv A outer s H E hr tk =>
 (dss_cons (ds_set sc__law_classes.nd (i := 2) rfl (by first | exact Or.inl rfl | exact Or.inr rfl) (de_lst da_nil))
 (dss_cons (ds_set sc__law_classes.nd (i := 3) rfl (by first | exact Or.inl rfl | exact Or.inr rfl) (de_lst da_nil))
 (dss_cons (ds_for (passes_of rfl) rfl (di_range1 rfl T.n_range (da_cons (de_op op_shl qShl_ok de_int (de_var (pv 1))) da_nil)) (dg_name sc__law_classes.nd rfl (by first | exact Or.inl rfl | exact Or.inr rfl))
 (dss_one (ds_if (dt_cmp (op_notInAll) qInF_ok (de_var (pv 4)) (de_var (pv 3)))
 (dss_cons (ds_set sc__law_classes.nd (i := 5) rfl (by first | exact Or.inl rfl | exact Or.inr rfl) (de_callB cr_sortedI qSorted_ok rfl T.n_sorted PyProof.Rows.boot_sorted (da_cons (de_lc (own := [("shift", 6)]) rfl sc__law_classes.nd (di_any (de_var (pv 0))) (blkOk_by (own := [("shift", 6)]) (N := N__law_classes) (sc := defScope s__law_classes) (by decide +kernel)) (fun _ _ _ _ _ => (cg_name sc__law_classes.nd rfl (by first | exact Or.inl rfl | exact Or.inr rfl) (by decide))) (fun _ _ _ _ _ => dts_nil) (fun _ _ _ _ _ => (de_op op_xor qXor_ok (de_var (pv 4)) (de_var (pv 6))))) da_nil)))
 (dss_cons (ds_set sc__law_classes.nd (i := 3) rfl (by first | exact Or.inl rfl | exact Or.inr rfl) (de_op op_addAll qAdd_ok (de_var (pv 3)) (de_var (pv 5))))
 (dss_one (ds_expr (de_m PySem.F.plainAttrs_list PySem.F.slot_list_append PySem.F.type_list_append mt_append qAppend_ok (de_var (pv 2)) (da_cons (de_call h__law_strings (hr.mono (by first | decide | omega)) rfl tk (da_cons (de_var (pv 1)) (da_cons (de_var (pv 5)) da_nil))) da_nil))))))
 dss_nil)))
 (dss_one (ds_ret (de_callTy call_tuple_of qTuple_ok rfl T.n_tuple PyProof.Rows.boot_tuple (da_cons (de_var (pv 2)) da_nil)))))))) hread
def t__law_said (K : PySem.W.Frag) (c : Cs) : DTS :=
 (dRet (dLc false [2] (dRng1 (dCons (dN qLen (dCons (dVar 0) dNil)) dNil)) (gSet 2) dYes (dOp qIx (dVar 0) (dOp qXor (dVar 1) (dVar 2)))))
theorem has__law_said (T : Txt P w K mg base c)  (hlen : ∀ ds G Q E, (sp__law_said c) ds G Q E → ds.length = P__law_said.length)
    (hread : ∀ ds G Q E, (sp__law_said c) ds G Q E → t__law_said K c (fun x _ G' => ∃ G2, Sub G2 G' ∧ E x G2) { nx := fun _ G' => RetW Q .non G', rt := RetW Q } (dstart N__law_said ds) G) :
    Has P w K mg base (0 + 1) "_law_said" s__law_said P__law_said (sp__law_said c) :=
  has_mk T.at__law_said sc__law_said hlen (t__law_said K c) (fun f cdv A outer s H E hr tk =>
 (dss_one (ds_ret (de_lc (own := [("begin", 2)]) rfl sc__law_said.nd (di_range1 rfl T.n_range (da_cons (de_callB call_len qLen_ok rfl T.n_len boot_len (da_cons (de_var (pv 0)) da_nil)) da_nil)) (blkOk_by (own := [("begin", 2)]) (N := N__law_said) (sc := defScope s__law_said) (by decide +kernel)) (fun _ _ _ _ _ => (cg_name sc__law_said.nd rfl (by first | exact Or.inl rfl | exact Or.inr rfl) (by decide))) (fun _ _ _ _ _ => dts_nil) (fun _ _ _ _ _ => (de_ix ix_seq qIx_ok (de_var (pv 0)) (de_op op_xor qXor_ok (de_var (pv 1)) (de_var (pv 2))))))))) hread
def t__law_refused (K : PySem.W.Frag) (c : Cs) : DTS :=
 (dSeq (dTry K (dIfS (dTest (dOp (qEq false) (dVar 0) (dK (.int 0))))
 (dDrop (dCall (sp_kept_shifts c) (dCons (dVar 1) (dCons (dVar 2) dNil))))
 (dIfS (dTest (dOp (qEq false) (dVar 0) (dK (.int 1))))
 (dDrop (dCall (sp_told_parts c) (dCons (dVar 1) (dCons (dVar 2) (dCons (dVar 3) dNil)))))
 (dIfS (dTest (dOp (qEq false) (dVar 0) (dK (.int 2))))
 (dDrop (dCall (sp_is_told c) (dCons (dVar 1) (dCons (dVar 2) dNil))))
 (dIfS (dTest (dOp (qEq false) (dVar 0) (dK (.int 3))))
 (dDrop (dCall (sp_classes c) (dCons (dVar 1) (dCons (dVar 2) dNil))))
 (dDrop (dCall (sp_hole c) (dCons (dVar 2) (dCons (dVar 3) (dCons (dVar 3) dNil)))))))))
 [(c.BadTable, (some 4), fun x a => (dRet (dTup (dCons (dK (.str "table")) (dCons (dXf c.BadTable a x "value" (dVar 4)) dNil))))),
(c.BadChoice, (some 4), fun x a => (dRet (dTup (dCons (dK (.str "choice")) (dCons (dOrV (dIsE K a x (dCons (dVar 4) (dCons (dK (.ref c.BadBlock)) dNil))) (dNotV (dIsE K a x (dCons (dVar 4) (dCons (dK (.ty "ValueError")) dNil))))) dNil))))),
(c.BreakError, none, fun x a => (dRet (dTup (dCons (dK (.str "other")) (dCons (dK .non) dNil)))))])
 (dRet (dTup (dCons (dK (.str "")) (dCons (dK .non) dNil)))))
theorem has__law_refused (T : Txt P w K mg base c) (h_kept_shifts : Has P w K mg base 4 "kept_shifts" s_kept_shifts P_kept_shifts (sp_kept_shifts c)) (h_told_parts : Has P w K mg base 4 "told_parts" s_told_parts P_told_parts (sp_told_parts c)) (h_is_told : Has P w K mg base 5 "is_told" s_is_told P_is_told (sp_is_told c)) (h_classes : Has P w K mg base 5 "classes" s_classes P_classes (sp_classes c)) (h_hole : Has P w K mg base 5 "hole" s_hole P_hole (sp_hole c)) (hlen : ∀ ds G Q E, (sp__law_refused c) ds G Q E → ds.length = P__law_refused.length)
    (hread : ∀ ds G Q E, (sp__law_refused c) ds G Q E → t__law_refused K c (fun x _ G' => ∃ G2, Sub G2 G' ∧ E x G2) { nx := fun _ G' => RetW Q .non G', rt := RetW Q } (dstart N__law_refused ds) G) :
    Has P w K mg base (5 + 1) "_law_refused" s__law_refused P__law_refused (sp__law_refused c) :=
  has_mk T.at__law_refused sc__law_refused hlen (t__law_refused K c) (fun f cdv A outer s H E hr tk =>
 (dss_cons (ds_try rfl rfl tk (fun W pn xe tk' hp' => (dss_one (ds_if (dt_cmp (op_eqAll (hr.units)) qEq_ok (de_var (pv 0)) de_int)
 (dss_one (ds_expr (de_call h_kept_shifts (hr.mono (by first | decide | omega)) rfl tk' (da_cons (de_var (pv 1)) (da_cons (de_var (pv 2)) da_nil)))))
 (dss_one (ds_if (dt_cmp (op_eqAll (hr.units)) qEq_ok (de_var (pv 0)) de_int)
 (dss_one (ds_expr (de_call h_told_parts (hr.mono (by first | decide | omega)) rfl tk' (da_cons (de_var (pv 1)) (da_cons (de_var (pv 2)) (da_cons (de_var (pv 3)) da_nil))))))
 (dss_one (ds_if (dt_cmp (op_eqAll (hr.units)) qEq_ok (de_var (pv 0)) de_int)
 (dss_one (ds_expr (de_call h_is_told (hr.mono (by first | decide | omega)) rfl tk' (da_cons (de_var (pv 1)) (da_cons (de_var (pv 2)) da_nil)))))
 (dss_one (ds_if (dt_cmp (op_eqAll (hr.units)) qEq_ok (de_var (pv 0)) de_int)
 (dss_one (ds_expr (de_call h_classes (hr.mono (by first | decide | omega)) rfl tk' (da_cons (de_var (pv 1)) (da_cons (de_var (pv 2)) da_nil)))))
 (dss_one (ds_expr (de_call h_hole (hr.mono (by first | decide | omega)) rfl tk' (da_cons (de_var (pv 2)) (da_cons (de_var (pv 3)) (da_cons (de_var (pv 3)) da_nil)))))))))))))))
 (.named ⟨rfl, by decide, .inl T.g_BadTable⟩ sc__law_refused.nd (i := 4) rfl rfl (fun a oe cls d pn hz hf => su_of (K := K) fun x => by exact (dss_one (ds_ret (de_tup (da_cons de_str (da_cons (de_xf T.xf_BadTable T.xn_BadTable hz hf (de_var (pv 4))) da_nil))))))
 (.named ⟨rfl, by decide, .inl T.g_BadChoice⟩ sc__law_refused.nd (i := 4) rfl rfl (fun a oe cls d pn hz hf => su_of (K := K) fun x => by exact (dss_one (ds_ret (de_tup (da_cons de_str (da_cons (de_or (de_isE (X := cxOf (L2.CX P w) P w K mg base N__law_refused "_law_refused" (defScope s__law_refused) f cdv A outer s H E) (a := a) (oe := oe) (pn := pn) hz hf T.n_isinstance rfl (da_cons (de_var (pv 4)) (da_cons (de_gref T.g_BadBlock rfl) da_nil))) (de_one (de_not (de_isE (X := cxOf (L2.CX P w) P w K mg base N__law_refused "_law_refused" (defScope s__law_refused) f cdv A outer s H E) (a := a) (oe := oe) (pn := pn) hz hf T.n_isinstance rfl (da_cons (de_var (pv 4)) (da_cons (de_bty T.n_ValueError L2.boot_ValueError rfl) da_nil)))))) da_nil))))))
 (.bare ⟨rfl, by decide, .inl T.g_BreakError⟩ (fun a oe cls d pn hz hf => su_of (K := K) fun x => by exact (dss_one (ds_ret (de_tup (da_cons de_str (da_cons de_non da_nil))))))
 .nil))))
 (dss_one (ds_ret (de_tup (da_cons de_str (da_cons de_non da_nil))))))) hread
def t__law_wrong (K : PySem.W.Frag) (c : Cs) : DTS :=
 (dSeq (dAsg (dCall (sp__law_strings c) (dCons (dVar 1) (dCons (dLc false [5] (dRng1 (dCons (dOp qShl (dK (.int 1)) (dVar 1)) dNil)) (gSet 5) dYes (dVar 5)) dNil))) (gSet 4))
 (dSeq (dAsg (dOp (qMul false) (dK (.str "0")) (dVar 1)) (gSet 6))
 (dSeq (dAsg (dLst false (dCons (dTup dNil) (dCons (dVar 4) (dCons (dN (qList false) (dCons (dVar 2) dNil)) (dCons (dOp (qAdd false) (dVar 2) (dSl (qSl false) (dVar 2) (dPart (dUn qNeg (dK (.int 1)))) dNoP)) (dCons (dTup (dCons (dOp qIx (dVar 4) (dK (.int 1))) (dCons (dOp qIx (dVar 4) (dK (.int 0))) dNil))) (dCons (dN qTuple (dCons (dLc false [8] (dIt (dVar 2)) (gSet 8) dYes (dOp (qAdd false) (dK (.str "0")) (dVar 8))) dNil)) (dCons (dK .non) dNil)))))))) (gSet 7))
 (dSeq (dAsg (dOp (qAdd false) (dVar 7) (dLst false (dCons (dTup (dCons (dVar 6) (dCons (dK (.int 0)) dNil))) (dCons (dTup (dCons (dOp (qAdd false) (dSl (qSl false) (dVar 6) dNoP (dPart (dUn qNeg (dK (.int 1))))) (dK (.str "2"))) dNil)) (dCons (dOp (qAdd false) (dTup (dCons (dVar 6) dNil)) (dTup (dCons (dVar 6) dNil))) (dCons (dOp (qAdd false) (dVar 2) (dTup (dCons (dK .non) dNil))) (dCons (dVar 6) (dCons (dTup (dCons (dK (.str "")) dNil)) (dCons (dTup (dCons (dK (.bl true)) dNil)) dNil))))))))) (gSet 7))
 (dSeq (dAsg (dOp qIx (dVar 7) (dCall (sp__law_take c) (dCons (dVar 0) (dCons (dN qLen (dCons (dVar 7) dNil)) dNil)))) (gSet 9))
 (dSeq (dIfS (dTest (dOp (qEq true) (dCall (sp__law_refused c) (dCons (dCall (sp__law_take c) (dCons (dVar 0) (dCons (dK (.int 4)) dNil))) (dCons (dVar 1) (dCons (dVar 9) (dCons (dVar 6) dNil))))) (dTup (dCons (dK (.str "table")) (dCons (dVar 9) dNil)))))
 (dRet (dK (.bl false)))
 dNext)
 (dSeq (dAsg (dOp qIx (dLst false (dCons (dTup dNil) (dCons (dVar 4) (dCons (dN (qList false) (dCons (dVar 2) dNil)) (dCons (dTup (dCons (dOp qIx (dVar 4) (dK (.int 1))) (dCons (dOp qIx (dVar 4) (dK (.int 0))) dNil))) (dCons (dK .non) dNil)))))) (dCall (sp__law_take c) (dCons (dVar 0) (dCons (dK (.int 5)) dNil)))) (gSet 9))
 (dSeq (dIfS (dTest (dOp (qEq true) (dCall (sp__law_refused c) (dCons (dK (.int 4)) (dCons (dVar 1) (dCons (dVar 9) (dCons (dVar 6) dNil))))) (dTup (dCons (dK (.str "table")) (dCons (dVar 9) dNil)))))
 (dRet (dK (.bl false)))
 dNext)
 (dSeq (dAsg (dOp qIx (dLst false (dCons (dK (.int 0)) (dCons (dK (.int 5)) (dCons (dUn qNeg (dK (.int 1))) dNil)))) (dCall (sp__law_take c) (dCons (dVar 0) (dCons (dK (.int 3)) dNil)))) (gSet 10))
 (dRet (dOp (qEq false) (dCall (sp__law_refused c) (dCons (dCall (sp__law_take c) (dCons (dVar 0) (dCons (dK (.int 4)) dNil))) (dCons (dVar 10) (dCons (dOp qIx (dLst false (dCons (dVar 2) (dCons (dVar 9) dNil))) (dCall (sp__law_take c) (dCons (dVar 0) (dCons (dK (.int 2)) dNil)))) (dCons (dVar 6) dNil))))) (dTup (dCons (dK (.str "choice")) (dCons (dK (.bl false)) dNil))))))))))))))
theorem has__law_wrong (T : Txt P w K mg base c) (h__law_strings : Has P w K mg base 2 "_law_strings" s__law_strings P__law_strings (sp__law_strings c)) (h__law_take : Has P w K mg base 1 "_law_take" s__law_take P__law_take (sp__law_take c)) (h__law_refused : Has P w K mg base 6 "_law_refused" s__law_refused P__law_refused (sp__law_refused c)) (hlen : ∀ ds G Q E, (sp__law_wrong c) ds G Q E → ds.length = P__law_wrong.length)
    (hread : ∀ ds G Q E, (sp__law_wrong c) ds G Q E → t__law_wrong K c (fun x _ G' => ∃ G2, Sub G2 G' ∧ E x G2) { nx := fun _ G' => RetW Q .non G', rt := RetW Q } (dstart N__law_wrong ds) G) :
    Has P w K mg base (6 + 1) "_law_wrong" s__law_wrong P__law_wrong (sp__law_wrong c) :=
  has_mk T.at__law_wrong sc__law_wrong hlen (t__law_wrong K c) (fun f cdv A outer s H E hr tk =>
 (dss_cons (ds_set sc__law_wrong.nd (i := 4) rfl (by first | exact Or.inl rfl | exact Or.inr rfl) (de_call h__law_strings (hr.mono (by first | decide | omega)) rfl tk (da_cons (de_var (pv 1)) (da_cons (de_lc (own := [("value", 5)]) rfl sc__law_wrong.nd (di_range1 rfl T.n_range (da_cons (de_op op_shl qShl_ok de_int (de_var (pv 1))) da_nil)) (blkOk_by (own := [("value", 5)]) (N := N__law_wrong) (sc := defScope s__law_wrong) (by decide +kernel)) (fun _ _ _ _ _ => (cg_name sc__law_wrong.nd rfl (by first | exact Or.inl rfl | exact Or.inr rfl) (by decide))) (fun _ _ _ _ _ => dts_nil) (fun _ _ _ _ _ => (de_var (pv 5)))) da_nil))))
 (dss_cons (ds_set sc__law_wrong.nd (i := 6) rfl (by first | exact Or.inl rfl | exact Or.inr rfl) (de_op op_mulAll qMul_ok de_str (de_var (pv 1))))
 (dss_cons (ds_set sc__law_wrong.nd (i := 7) rfl (by first | exact Or.inl rfl | exact Or.inr rfl) (de_lst (da_cons (de_tup da_nil) (da_cons (de_var (pv 4)) (da_cons (de_callTy call_list_of qList_ok rfl T.n_list PyProof.Rows.boot_list (da_cons (de_var (pv 2)) da_nil)) (da_cons (de_op op_addAll qAdd_ok (de_var (pv 2)) (de_slice sl_all qSl_ok (de_var (pv 2)) (do_some (de_un un_neg qNeg_ok de_int)) do_none)) (da_cons (de_tup (da_cons (de_ix ix_seq qIx_ok (de_var (pv 4)) de_int) (da_cons (de_ix ix_seq qIx_ok (de_var (pv 4)) de_int) da_nil))) (da_cons (de_callTy call_tuple_of qTuple_ok rfl T.n_tuple PyProof.Rows.boot_tuple (da_cons (de_lc (own := [("string", 8)]) rfl sc__law_wrong.nd (di_any (de_var (pv 2))) (blkOk_by (own := [("string", 8)]) (N := N__law_wrong) (sc := defScope s__law_wrong) (by decide +kernel)) (fun _ _ _ _ _ => (cg_name sc__law_wrong.nd rfl (by first | exact Or.inl rfl | exact Or.inr rfl) (by decide))) (fun _ _ _ _ _ => dts_nil) (fun _ _ _ _ _ => (de_op op_addAll qAdd_ok de_str (de_var (pv 8))))) da_nil)) (da_cons de_non da_nil)))))))))
 (dss_cons (ds_set sc__law_wrong.nd (i := 7) rfl (by first | exact Or.inl rfl | exact Or.inr rfl) (de_op op_addAll qAdd_ok (de_var (pv 7)) (de_lst (da_cons (de_tup (da_cons (de_var (pv 6)) (da_cons de_int da_nil))) (da_cons (de_tup (da_cons (de_op op_addAll qAdd_ok (de_slice sl_all qSl_ok (de_var (pv 6)) do_none (do_some (de_un un_neg qNeg_ok de_int))) de_str) da_nil)) (da_cons (de_op op_addAll qAdd_ok (de_tup (da_cons (de_var (pv 6)) da_nil)) (de_tup (da_cons (de_var (pv 6)) da_nil))) (da_cons (de_op op_addAll qAdd_ok (de_var (pv 2)) (de_tup (da_cons de_non da_nil))) (da_cons (de_var (pv 6)) (da_cons (de_tup (da_cons de_str da_nil)) (da_cons (de_tup (da_cons de_bl da_nil)) da_nil))))))))))
 (dss_cons (ds_set sc__law_wrong.nd (i := 9) rfl (by first | exact Or.inl rfl | exact Or.inr rfl) (de_ix ix_seq qIx_ok (de_var (pv 7)) (de_call h__law_take (hr.mono (by first | decide | omega)) rfl tk (da_cons (de_var (pv 0)) (da_cons (de_callB call_len qLen_ok rfl T.n_len boot_len (da_cons (de_var (pv 7)) da_nil)) da_nil)))))
 (dss_cons (ds_if (dt_cmp (op_neAll (hr.units)) qNe_ok (de_call h__law_refused (hr.mono (by first | decide | omega)) rfl tk (da_cons (de_call h__law_take (hr.mono (by first | decide | omega)) rfl tk (da_cons (de_var (pv 0)) (da_cons de_int da_nil))) (da_cons (de_var (pv 1)) (da_cons (de_var (pv 9)) (da_cons (de_var (pv 6)) da_nil))))) (de_tup (da_cons de_str (da_cons (de_var (pv 9)) da_nil))))
 (dss_one (ds_ret de_bl))
 dss_nil)
 (dss_cons (ds_set sc__law_wrong.nd (i := 9) rfl (by first | exact Or.inl rfl | exact Or.inr rfl) (de_ix ix_seq qIx_ok (de_lst (da_cons (de_tup da_nil) (da_cons (de_var (pv 4)) (da_cons (de_callTy call_list_of qList_ok rfl T.n_list PyProof.Rows.boot_list (da_cons (de_var (pv 2)) da_nil)) (da_cons (de_tup (da_cons (de_ix ix_seq qIx_ok (de_var (pv 4)) de_int) (da_cons (de_ix ix_seq qIx_ok (de_var (pv 4)) de_int) da_nil))) (da_cons de_non da_nil)))))) (de_call h__law_take (hr.mono (by first | decide | omega)) rfl tk (da_cons (de_var (pv 0)) (da_cons de_int da_nil)))))
 (dss_cons (ds_if (dt_cmp (op_neAll (hr.units)) qNe_ok (de_call h__law_refused (hr.mono (by first | decide | omega)) rfl tk (da_cons de_int (da_cons (de_var (pv 1)) (da_cons (de_var (pv 9)) (da_cons (de_var (pv 6)) da_nil))))) (de_tup (da_cons de_str (da_cons (de_var (pv 9)) da_nil))))
 (dss_one (ds_ret de_bl))
 dss_nil)
 (dss_cons (ds_set sc__law_wrong.nd (i := 10) rfl (by first | exact Or.inl rfl | exact Or.inr rfl) (de_ix ix_seq qIx_ok (de_lst (da_cons de_int (da_cons de_int (da_cons (de_un un_neg qNeg_ok de_int) da_nil)))) (de_call h__law_take (hr.mono (by first | decide | omega)) rfl tk (da_cons (de_var (pv 0)) (da_cons de_int da_nil)))))
 (dss_one (ds_ret (de_cmp (op_eqAll (hr.units)) qEq_ok (de_call h__law_refused (hr.mono (by first | decide | omega)) rfl tk (da_cons (de_call h__law_take (hr.mono (by first | decide | omega)) rfl tk (da_cons (de_var (pv 0)) (da_cons de_int da_nil))) (da_cons (de_var (pv 10)) (da_cons (de_ix ix_seq qIx_ok (de_lst (da_cons (de_var (pv 2)) (da_cons (de_var (pv 9)) da_nil))) (de_call h__law_take (hr.mono (by first | decide | omega)) rfl tk (da_cons (de_var (pv 0)) (da_cons de_int da_nil)))) (da_cons (de_var (pv 6)) da_nil))))) (de_tup (da_cons de_str (da_cons de_bl da_nil)))))))))))))))) hread
theorem kw_kept_shifts_lot_l_0 : KwB "kept_shifts" s_kept_shifts P_kept_shifts ["lot", "l"] 0 [1, 0] := fun _ _ _ _ _ _ us ws hu hw => match us, ws, hu, hw with | [], [_, _], _, _ => rfl
theorem kw_hole_begin_part_lot_0 : KwB "hole" s_hole P_hole ["begin", "part", "lot"] 0 [2, 1, 0] := fun _ _ _ _ _ _ us ws hu hw => match us, ws, hu, hw with | [], [_, _, _], _, _ => rfl
def lb__law_whole_0 (K : PySem.W.Frag) (c : Cs) : DTS :=
 (dSeq (dIfS (dNot (dTru (dCall (sp__law_same c) (dCons (dCall (sp_hole c) (dCons (dVar 5) (dCons (dCall (sp__law_bits c) (dCons (dVar 2) (dCons (dVar 11) dNil))) (dCons (dCall (sp__law_bits c) (dCons (dVar 2) (dCons (dVar 16) dNil))) dNil)))) (dCons (dOp (qEq false) (dOp qIx (dVar 12) (dVar 16)) (dK (.int 1))) dNil)))))
 (dRet (dK (.bl false)))
 dNext)
 (dIfS (dNot (dTru (dCall (sp__law_same c) (dCons (dCallK 0 3 [2, 1, 0] (sp_hole c) dNil (dCons (dCall (sp__law_bits c) (dCons (dVar 2) (dCons (dVar 16) dNil))) (dCons (dCall (sp__law_bits c) (dCons (dVar 2) (dCons (dVar 11) dNil))) (dCons (dVar 7) dNil)))) (dCons (dOp (qEq false) (dOp qIx (dVar 12) (dVar 16)) (dK (.int 0))) dNil)))))
 (dRet (dK (.bl false)))
 dNext))
def lb__law_whole_1 (K : PySem.W.Frag) (c : Cs) : DTS :=
 (dSeq (dAsg (dCall (sp__law_take c) (dCons (dVar 1) (dCons (dVar 3) dNil))) (gSet 11))
 (dSeq (dAsg (dCall (sp__law_said c) (dCons (dVar 4) (dCons (dVar 11) dNil))) (gSet 12))
 (dSeq (dAsg (dLc false [14] (dRng1 (dCons (dVar 3) dNil)) (gSet 14) (dTest (dOp (qEq false) (dCall (sp__law_said c) (dCons (dVar 4) (dCons (dVar 14) dNil))) (dVar 12))) (dVar 14)) (gSet 13))
 (dSeq (dIfS (dTest (dOp (qEq true) (dVar 13) (dN (qSorted false) (dCons (dLc false [15] (dIt (dVar 8)) (gSet 15) dYes (dOp qXor (dVar 11) (dVar 15))) dNil))))
 (dRet (dK (.bl false)))
 dNext)
 (dSeq (dIfS (dNot (dTru (dCall (sp__law_same c) (dCons (dCall (sp_told_parts c) (dCons (dVar 2) (dCons (dVar 5) (dCons (dCall (sp__law_bits c) (dCons (dVar 2) (dCons (dVar 11) dNil))) dNil)))) (dCons (dCall (sp__law_strings c) (dCons (dVar 2) (dCons (dVar 13) dNil))) dNil)))))
 (dRet (dK (.bl false)))
 dNext)
 (dFor (dIt (dTup (dCons (dK (.int 0)) (dCons (dCall (sp__law_take c) (dCons (dVar 1) (dCons (dVar 3) dNil))) (dCons (dOp qSub (dVar 3) (dK (.int 1))) dNil))))) (gSet 16)
 (lb__law_whole_0 K c)))))))
def t__law_whole (K : PySem.W.Frag) (c : Cs) : DTS :=
 (dSeq (dAsg (dCall (sp__law_hand c) (dCons (dVar 0) dNil)) (gSet 1))
 (dSeq (dAsg (dOp (qAdd false) (dK (.int 1)) (dCall (sp__law_take c) (dCons (dVar 1) (dCons (dK (.int 4)) dNil)))) (gSet 2))
 (dSeq (dAsg (dOp qShl (dK (.int 1)) (dVar 2)) (gSet 3))
 (dSeq (dAsg (dCall (sp__law_lot c) (dCons (dVar 1) (dCons (dVar 2) dNil))) (gSet 4))
 (dSeq (dAsg (dCall (sp__law_strings c) (dCons (dVar 2) (dCons (dLc false [6] (dRng1 (dCons (dVar 3) dNil)) (gSet 6) (dTest (dOp (qEq false) (dOp qIx (dVar 4) (dVar 6)) (dK (.int 1)))) (dVar 6)) dNil))) (gSet 5))
 (dSeq (dAsg (dCall (sp__law_strings c) (dCons (dVar 2) (dCons (dLc false [6] (dRng1 (dCons (dVar 3) dNil)) (gSet 6) (dTest (dOp (qEq false) (dOp qIx (dVar 4) (dVar 6)) (dK (.int 0)))) (dVar 6)) dNil))) (gSet 7))
 (dSeq (dAsg (dCall (sp__law_kept c) (dCons (dVar 4) dNil)) (gSet 8))
 (dSeq (dIfS (dNot (dTru (dCall (sp__law_same c) (dCons (dCall (sp_kept_shifts c) (dCons (dVar 2) (dCons (dVar 5) dNil))) (dCons (dCall (sp__law_strings c) (dCons (dVar 2) (dCons (dVar 8) dNil))) dNil)))))
 (dRet (dK (.bl false)))
 dNext)
 (dSeq (dIfS (dNot (dTru (dCall (sp__law_same c) (dCons (dCallK 0 2 [1, 0] (sp_kept_shifts c) dNil (dCons (dVar 7) (dCons (dVar 2) dNil))) (dCons (dCall (sp__law_strings c) (dCons (dVar 2) (dCons (dVar 8) dNil))) dNil)))))
 (dRet (dK (.bl false)))
 dNext)
 (dSeq (dIfS (dNot (dTru (dCall (sp__law_same c) (dCons (dCall (sp_is_told c) (dCons (dVar 2) (dCons (dVar 5) dNil))) (dCons (dOp (qEq false) (dN qLen (dCons (dVar 8) dNil)) (dK (.int 1))) dNil)))))
 (dRet (dK (.bl false)))
 dNext)
 (dSeq (dAsg (dCall (sp__law_classes c) (dCons (dVar 8) (dCons (dVar 2) dNil))) (gSet 9))
 (dSeq (dIfS (dOr (dNot (dTru (dCall (sp__law_same c) (dCons (dCall (sp_classes c) (dCons (dVar 2) (dCons (dVar 5) dNil))) (dCons (dVar 9) dNil))))) (dNot (dTru (dCall (sp__law_same c) (dCons (dCall (sp_classes c) (dCons (dVar 2) (dCons (dVar 7) dNil))) (dCons (dVar 9) dNil))))))
 (dRet (dK (.bl false)))
 dNext)
 (dSeq (dFor (dRng1 (dCons (dK (.int 3)) dNil)) (gSet 10)
 (lb__law_whole_1 K c))
 (dRet (dCall (sp__law_wrong c) (dCons (dVar 1) (dCons (dVar 2) (dCons (dVar 5) (dCons (dVar 7) dNil)))))))))))))))))))
theorem has__law_whole (T : Txt P w K mg base c) (h__law_hand : Has P w K mg base 1 "_law_hand" s__law_hand P__law_hand (sp__law_hand c)) (h__law_take : Has P w K mg base 1 "_law_take" s__law_take P__law_take (sp__law_take c)) (h__law_lot : Has P w K mg base 2 "_law_lot" s__law_lot P__law_lot (sp__law_lot c)) (h__law_strings : Has P w K mg base 2 "_law_strings" s__law_strings P__law_strings (sp__law_strings c)) (h__law_kept : Has P w K mg base 1 "_law_kept" s__law_kept P__law_kept (sp__law_kept c)) (h__law_same : Has P w K mg base 3 "_law_same" s__law_same P__law_same (sp__law_same c)) (h_kept_shifts : Has P w K mg base 4 "kept_shifts" s_kept_shifts P_kept_shifts (sp_kept_shifts c)) (h_is_told : Has P w K mg base 5 "is_told" s_is_told P_is_told (sp_is_told c)) (h__law_classes : Has P w K mg base 3 "_law_classes" s__law_classes P__law_classes (sp__law_classes c)) (h_classes : Has P w K mg base 5 "classes" s_classes P_classes (sp_classes c)) (h__law_said : Has P w K mg base 1 "_law_said" s__law_said P__law_said (sp__law_said c)) (h_told_parts : Has P w K mg base 4 "told_parts" s_told_parts P_told_parts (sp_told_parts c)) (h__law_bits : Has P w K mg base 1 "_law_bits" s__law_bits P__law_bits (sp__law_bits c)) (h_hole : Has P w K mg base 5 "hole" s_hole P_hole (sp_hole c)) (h__law_wrong : Has P w K mg base 7 "_law_wrong" s__law_wrong P__law_wrong (sp__law_wrong c)) (hlen : ∀ ds G Q E, (sp__law_whole c) ds G Q E → ds.length = P__law_whole.length)
    (hread : ∀ ds G Q E, (sp__law_whole c) ds G Q E → t__law_whole K c (fun x _ G' => ∃ G2, Sub G2 G' ∧ E x G2) { nx := fun _ G' => RetW Q .non G', rt := RetW Q } (dstart N__law_whole ds) G) :
    Has P w K mg base (7 + 1) "_law_whole" s__law_whole P__law_whole (sp__law_whole c) :=
  has_mk T.at__law_whole sc__law_whole hlen (t__law_whole K c) (fun f cdv A outer s H E hr tk =>
 (dss_cons (ds_set sc__law_whole.nd (i := 1) rfl (by first | exact Or.inl rfl | exact Or.inr rfl) (de_call h__law_hand (hr.mono (by first | decide | omega)) rfl tk (da_cons (de_var (pv 0)) da_nil)))
 (dss_cons (ds_set sc__law_whole.nd (i := 2) rfl (by first | exact Or.inl rfl | exact Or.inr rfl) (de_op op_addAll qAdd_ok de_int (de_call h__law_take (hr.mono (by first | decide | omega)) rfl tk (da_cons (de_var (pv 1)) (da_cons de_int da_nil)))))
 (dss_cons (ds_set sc__law_whole.nd (i := 3) rfl (by first | exact Or.inl rfl | exact Or.inr rfl) (de_op op_shl qShl_ok de_int (de_var (pv 2))))
 (dss_cons (ds_set sc__law_whole.nd (i := 4) rfl (by first | exact Or.inl rfl | exact Or.inr rfl) (de_call h__law_lot (hr.mono (by first | decide | omega)) rfl tk (da_cons (de_var (pv 1)) (da_cons (de_var (pv 2)) da_nil))))
 (dss_cons (ds_set sc__law_whole.nd (i := 5) rfl (by first | exact Or.inl rfl | exact Or.inr rfl) (de_call h__law_strings (hr.mono (by first | decide | omega)) rfl tk (da_cons (de_var (pv 2)) (da_cons (de_lc (own := [("value", 6)]) rfl sc__law_whole.nd (di_range1 rfl T.n_range (da_cons (de_var (pv 3)) da_nil)) (blkOk_by (own := [("value", 6)]) (N := N__law_whole) (sc := defScope s__law_whole) (by decide +kernel)) (fun _ _ _ _ _ => (cg_name sc__law_whole.nd rfl (by first | exact Or.inl rfl | exact Or.inr rfl) (by decide))) (fun _ _ _ _ _ => (dts_one (dt_cmp (op_eqAll (hr.units)) qEq_ok (de_ix ix_seq qIx_ok (de_var (pv 4)) (de_var (pv 6))) de_int))) (fun _ _ _ _ _ => (de_var (pv 6)))) da_nil))))
 (dss_cons (ds_set sc__law_whole.nd (i := 7) rfl (by first | exact Or.inl rfl | exact Or.inr rfl) (de_call h__law_strings (hr.mono (by first | decide | omega)) rfl tk (da_cons (de_var (pv 2)) (da_cons (de_lc (own := [("value", 6)]) rfl sc__law_whole.nd (di_range1 rfl T.n_range (da_cons (de_var (pv 3)) da_nil)) (blkOk_by (own := [("value", 6)]) (N := N__law_whole) (sc := defScope s__law_whole) (by decide +kernel)) (fun _ _ _ _ _ => (cg_name sc__law_whole.nd rfl (by first | exact Or.inl rfl | exact Or.inr rfl) (by decide))) (fun _ _ _ _ _ => (dts_one (dt_cmp (op_eqAll (hr.units)) qEq_ok (de_ix ix_seq qIx_ok (de_var (pv 4)) (de_var (pv 6))) de_int))) (fun _ _ _ _ _ => (de_var (pv 6)))) da_nil))))
 (dss_cons (ds_set sc__law_whole.nd (i := 8) rfl (by first | exact Or.inl rfl | exact Or.inr rfl) (de_call h__law_kept (hr.mono (by first | decide | omega)) rfl tk (da_cons (de_var (pv 4)) da_nil)))
 (dss_cons (ds_if (dt_not (dt_truth (de_call h__law_same (hr.mono (by first | decide | omega)) rfl tk (da_cons (de_call h_kept_shifts (hr.mono (by first | decide | omega)) rfl tk (da_cons (de_var (pv 2)) (da_cons (de_var (pv 5)) da_nil))) (da_cons (de_call h__law_strings (hr.mono (by first | decide | omega)) rfl tk (da_cons (de_var (pv 2)) (da_cons (de_var (pv 8)) da_nil))) da_nil)))))
 (dss_one (ds_ret de_bl))
 dss_nil)
 (dss_cons (ds_if (dt_not (dt_truth (de_call h__law_same (hr.mono (by first | decide | omega)) rfl tk (da_cons (de_callK0 (ks := ["lot", "l"]) h_kept_shifts (hr.mono (by first | decide | omega)) rfl tk kw_kept_shifts_lot_l_0 (dkw_cons (de_var (pv 7)) (dkw_cons (de_var (pv 2)) dkw_nil))) (da_cons (de_call h__law_strings (hr.mono (by first | decide | omega)) rfl tk (da_cons (de_var (pv 2)) (da_cons (de_var (pv 8)) da_nil))) da_nil)))))
 (dss_one (ds_ret de_bl))
 dss_nil)
 (dss_cons (ds_if (dt_not (dt_truth (de_call h__law_same (hr.mono (by first | decide | omega)) rfl tk (da_cons (de_call h_is_told (hr.mono (by first | decide | omega)) rfl tk (da_cons (de_var (pv 2)) (da_cons (de_var (pv 5)) da_nil))) (da_cons (de_cmp (op_eqAll (hr.units)) qEq_ok (de_callB call_len qLen_ok rfl T.n_len boot_len (da_cons (de_var (pv 8)) da_nil)) de_int) da_nil)))))
 (dss_one (ds_ret de_bl))
 dss_nil)
 (dss_cons (ds_set sc__law_whole.nd (i := 9) rfl (by first | exact Or.inl rfl | exact Or.inr rfl) (de_call h__law_classes (hr.mono (by first | decide | omega)) rfl tk (da_cons (de_var (pv 8)) (da_cons (de_var (pv 2)) da_nil))))
 (dss_cons (ds_if (dt_bool (dw_or (dt_not (dt_truth (de_call h__law_same (hr.mono (by first | decide | omega)) rfl tk (da_cons (de_call h_classes (hr.mono (by first | decide | omega)) rfl tk (da_cons (de_var (pv 2)) (da_cons (de_var (pv 5)) da_nil))) (da_cons (de_var (pv 9)) da_nil))))) (dw_or1 (dt_not (dt_truth (de_call h__law_same (hr.mono (by first | decide | omega)) rfl tk (da_cons (de_call h_classes (hr.mono (by first | decide | omega)) rfl tk (da_cons (de_var (pv 2)) (da_cons (de_var (pv 7)) da_nil))) (da_cons (de_var (pv 9)) da_nil))))))))
 (dss_one (ds_ret de_bl))
 dss_nil)
 (dss_cons (ds_for (passes_of rfl) rfl (di_range1 rfl T.n_range (da_cons de_int da_nil)) (dg_name sc__law_whole.nd rfl (by first | exact Or.inl rfl | exact Or.inr rfl))
 (dss_cons (ds_set sc__law_whole.nd (i := 11) rfl (by first | exact Or.inl rfl | exact Or.inr rfl) (de_call h__law_take (hr.mono (by first | decide | omega)) rfl tk (da_cons (de_var (pv 1)) (da_cons (de_var (pv 3)) da_nil))))
 (dss_cons (ds_set sc__law_whole.nd (i := 12) rfl (by first | exact Or.inl rfl | exact Or.inr rfl) (de_call h__law_said (hr.mono (by first | decide | omega)) rfl tk (da_cons (de_var (pv 4)) (da_cons (de_var (pv 11)) da_nil))))
 (dss_cons (ds_lc (own := [("other", 14)]) rfl sc__law_whole.nd (i := 13) rfl rfl (sw_true rfl rfl rfl (by decide +kernel)) (di_range1 rfl T.n_range (da_cons (de_var (pv 3)) da_nil)) (blkOk_by (own := [("other", 14)]) (N := N__law_whole) (sc := defScope s__law_whole) (by decide +kernel)) (fun _ _ _ _ _ => (cg_name sc__law_whole.nd rfl (by first | exact Or.inl rfl | exact Or.inr rfl) (by decide))) (fun _ _ _ _ _ => (dts_one (dt_cmp (op_eqAll (hr.units)) qEq_ok (de_call h__law_said (hr.mono (by first | decide | omega)) rfl takes_blk (da_cons (de_var (pv 4)) (da_cons (de_var (pv 14)) da_nil))) (de_var (pv 12))))) (fun _ _ _ _ _ => (de_var (pv 14))))
 (dss_cons (ds_if (dt_cmp (op_neAll (hr.units)) qNe_ok (de_var (pv 13)) (de_callB cr_sortedI qSorted_ok rfl T.n_sorted PyProof.Rows.boot_sorted (da_cons (de_lc (own := [("shift", 15)]) rfl sc__law_whole.nd (di_any (de_var (pv 8))) (blkOk_by (own := [("shift", 15)]) (N := N__law_whole) (sc := defScope s__law_whole) (by decide +kernel)) (fun _ _ _ _ _ => (cg_name sc__law_whole.nd rfl (by first | exact Or.inl rfl | exact Or.inr rfl) (by decide))) (fun _ _ _ _ _ => dts_nil) (fun _ _ _ _ _ => (de_op op_xor qXor_ok (de_var (pv 11)) (de_var (pv 15))))) da_nil)))
 (dss_one (ds_ret de_bl))
 dss_nil)
 (dss_cons (ds_if (dt_not (dt_truth (de_call h__law_same (hr.mono (by first | decide | omega)) rfl tk (da_cons (de_call h_told_parts (hr.mono (by first | decide | omega)) rfl tk (da_cons (de_var (pv 2)) (da_cons (de_var (pv 5)) (da_cons (de_call h__law_bits (hr.mono (by first | decide | omega)) rfl tk (da_cons (de_var (pv 2)) (da_cons (de_var (pv 11)) da_nil))) da_nil)))) (da_cons (de_call h__law_strings (hr.mono (by first | decide | omega)) rfl tk (da_cons (de_var (pv 2)) (da_cons (de_var (pv 13)) da_nil))) da_nil)))))
 (dss_one (ds_ret de_bl))
 dss_nil)
 (dss_one (ds_for (passes_of rfl) rfl (di_any (de_tup (da_cons de_int (da_cons (de_call h__law_take (hr.mono (by first | decide | omega)) rfl tk (da_cons (de_var (pv 1)) (da_cons (de_var (pv 3)) da_nil))) (da_cons (de_op op_sub qSub_ok (de_var (pv 3)) de_int) da_nil))))) (dg_name sc__law_whole.nd rfl (by first | exact Or.inl rfl | exact Or.inr rfl))
 (dss_cons (ds_if (dt_not (dt_truth (de_call h__law_same (hr.mono (by first | decide | omega)) rfl tk (da_cons (de_call h_hole (hr.mono (by first | decide | omega)) rfl tk (da_cons (de_var (pv 5)) (da_cons (de_call h__law_bits (hr.mono (by first | decide | omega)) rfl tk (da_cons (de_var (pv 2)) (da_cons (de_var (pv 11)) da_nil))) (da_cons (de_call h__law_bits (hr.mono (by first | decide | omega)) rfl tk (da_cons (de_var (pv 2)) (da_cons (de_var (pv 16)) da_nil))) da_nil)))) (da_cons (de_cmp (op_eqAll (hr.units)) qEq_ok (de_ix ix_seq qIx_ok (de_var (pv 12)) (de_var (pv 16))) de_int) da_nil)))))
 (dss_one (ds_ret de_bl))
 dss_nil)
 (dss_one (ds_if (dt_not (dt_truth (de_call h__law_same (hr.mono (by first | decide | omega)) rfl tk (da_cons (de_callK0 (ks := ["begin", "part", "lot"]) h_hole (hr.mono (by first | decide | omega)) rfl tk kw_hole_begin_part_lot_0 (dkw_cons (de_call h__law_bits (hr.mono (by first | decide | omega)) rfl tk (da_cons (de_var (pv 2)) (da_cons (de_var (pv 16)) da_nil))) (dkw_cons (de_call h__law_bits (hr.mono (by first | decide | omega)) rfl tk (da_cons (de_var (pv 2)) (da_cons (de_var (pv 11)) da_nil))) (dkw_cons (de_var (pv 7)) dkw_nil)))) (da_cons (de_cmp (op_eqAll (hr.units)) qEq_ok (de_ix ix_seq qIx_ok (de_var (pv 12)) (de_var (pv 16))) de_int) da_nil)))))
 (dss_one (ds_ret de_bl))
 dss_nil)))))))))))
 (dss_one (ds_ret (de_call h__law_wrong (hr.mono (by first | decide | omega)) rfl tk (da_cons (de_var (pv 1)) (da_cons (de_var (pv 2)) (da_cons (de_var (pv 5)) (da_cons (de_var (pv 7)) da_nil))))))))))))))))))))) hread
def t_law (K : PySem.W.Frag) (c : Cs) : DTS :=
 (dTry K (dRet (dCall (sp__law_whole c) (dCons (dVar 0) dNil)))
 [(c.BreakError, none, fun x a => (dRet (dK (.bl false))))])
theorem has_law (T : Txt P w K mg base c) (h__law_whole : Has P w K mg base 8 "_law_whole" s__law_whole P__law_whole (sp__law_whole c)) (hlen : ∀ ds G Q E, (sp_law c) ds G Q E → ds.length = P_law.length)
    (hread : ∀ ds G Q E, (sp_law c) ds G Q E → t_law K c (fun x _ G' => ∃ G2, Sub G2 G' ∧ E x G2) { nx := fun _ G' => RetW Q .non G', rt := RetW Q } (dstart N_law ds) G) :
    Has P w K mg base (8 + 1) "law" s_law P_law (sp_law c) :=
  has_mk T.at_law sc_law hlen (t_law K c) (fun f cdv A outer s H E hr tk =>
 (dss_one (ds_try rfl rfl tk (fun W pn xe tk' hp' => (dss_one (ds_ret (de_call h__law_whole (hr.mono (by first | decide | omega)) rfl tk' (da_cons (de_var (pv 0)) da_nil)))))
 (.bare ⟨rfl, by decide, .inl T.g_BreakError⟩ (fun a oe cls d pn hz hf => su_of (K := K) fun x => by exact (dss_one (ds_ret de_bl)))
 .nil)))) hread
end
end K75

namespace K75
open PySem PySem.Spec L2 DL
section
variable {P : Program} {w : World} {K : PySem.W.Frag} {mg : Str → Option Value} {base : Heap} {c : Cs}
/-! bits -/
theorem bits_go {W : DX} {Dn : DEnds} {p : Addr} {L : Nat} : ∀ (l n : Nat) (lo : Int) (acc : List D) (v : Option D) (G : DH), acc.length + l ≤ 64 → n < 2 ^ 64 → 
    (∀ n' v', Dn.nx [some (.int L), n', some (.ref p), v'] (dupd G p (.lst (acc ++ (lsb l n).map fun c => D.str (S [c]))))) → 
    dRun (gSet 3) (lb_bits_0 K c) (rngD lo 1 l) W Dn [some (.int L), some (.int n), some (.ref p), v] (dupd G p (.lst acc)) := by
  intro l
  induction l with
  | zero =>
    intro n lo acc v G hz hn h
    have := h (some (.int n)) v
    rw [rngD_zero]
    show Dn.nx _ _
    simpa [lsb] using this
  | succ l ih =>
    intro n lo acc v G hz hn h
    rw [rngD_succ]
    refine dDrop_append p acc (.str (S [48 + n % 2])) (dVar_ret rfl) dupd_same ?_ (by omega) ?_
    · refine dIf_ret (decide (n % 2 = 1)) (dTest_ret _ (dOp_ret (.int ((n % 2 : Nat) : Int)) (.int 1) (dOp_ret (.int n) (.int 2) (dVar_ret rfl) dK_ret fun Q q => ⟨(by decide : (0 : Int) < 2), q⟩) dK_ret (eqI_ret dec_nat))) (fun h => ?_) fun h => ?_
      · have : n % 2 = 1 := of_decide_eq_true h
        rw [this]; exact dKs_eq e_1
      · have : n % 2 = 0 := by have := of_decide_eq_false h; omega
        rw [this]; exact dKs_eq e_0
    · rw [dupd_dupd]
      refine ⟨_, rfl, ⟨by decide, by decide⟩, ?_⟩
      exact ih (n / 2) (lo + 1) (acc ++ [.str (S [48 + n % 2])]) (some (.int lo)) G (by simp; omega) (by omega) (fun n' v' => by
          have := h n' v'
          simpa [lsb] using this)
theorem b_bits (T : Txt P w K mg base c) : Has P w K mg base 1 "bits" s_bits P_bits (sp_bits c) := by
  refine has_bits T (fun ds G Q E ⟨_, _, e, _⟩ => by rw [e]; rfl) fun ds G Q E ⟨l, n, e, ⟨h1, h2⟩, q⟩ => ?_
  subst e
  refine ⟨by decide, fun p np => ?_⟩
  refine ⟨_, rfl, ⟨by show -(2 ^ 62) ≤ (l : Int); omega, by show (l : Int) < 2 ^ 62; omega⟩, ?_⟩
  rw [show ((l : Int)).toNat = l by omega]
  refine bits_go l n 0 [] none G (by simpa using h1) h2 fun n' v' => ?_
  exact dRet_ret _ (joinC_ret (l := bsl l n) (dKs_eq e_str) (dRevL_ret _ (dVar_ret rfl) (dlst_ref dupd_same)) (by show some _ = some _; simp [bsl]) (by simp; omega)) (RetW.sub (Sub.upd np) q)
/-! xor -/
theorem b_xor (T : Txt P w K mg base c) : Has P w K mg base 1 "xor" s_xor P_xor (sp_xor c) := by
  refine has_xor T (fun ds G Q E ⟨_, _, e, _⟩ => by rw [e]; rfl) fun ds G Q E ⟨a, b, e, h1, q⟩ => ?_
  subst e
  refine dRet_ret _ (joinC_ret (l := xorL a b) (dKs_eq e_str) (dLc2_ret (xs := a.zip b) (fun p => .str (S [p.1])) (fun p => .str (S [p.2])) (fun p => .str (S [if p.1 = p.2 then 48 else 49])) ?_ ?_ fun p hp => ?_) ?_ ?_) (RetW.same q)
  · exact zip_ret (fun x => .str (S [x])) (fun x => .str (S [x])) a b _ _ (dVar_ret rfl) (dVar_ret rfl) it_S it_S
  · simp; omega
  · refine dIf_ret (decide (p.1 = p.2)) (dTest_ret _ (dOp_ret _ _ (dVar_ret rfl) (dVar_ret rfl) (eqS_ret (by simp)))) (fun h => ?_) fun h => ?_
    · rw [if_pos (of_decide_eq_true h)]; exact dKs_eq e_0
    · rw [if_neg (of_decide_eq_false h)]; exact dKs_eq e_1
  · show some _ = some _
    unfold xorL
    rw [zipWith_zip, List.map_map]; rfl
  · unfold xorL; rw [List.length_zipWith]; omega
/-! numbers, bits -/
theorem b_is_number (T : Txt P w K mg base c) : Has P w K mg base 1 "is_number" s_is_number P_is_number (sp_is_number c) := by
  refine has_is_number T (fun ds G Q E ⟨_, _, _, e, _⟩ => by rw [e]; rfl) fun ds G Q E ⟨i, lo, hi, e, q⟩ => ?_
  subst e
  exact dRet_ret _ (dAndV_ret true _ (isi1 _ (dVar_ret rfl) rfl kb_ii) fun _ => dAndV_ret true _ (dNotV_ret false (isi1 _ (dVar_ret rfl) rfl kb_ib)) fun _ => dChain_ret (.int lo) (.int i) (.int hi) (decide (lo ≤ i)) (decide (i ≤ hi)) (dVar_ret rfl) (dVar_ret rfl) (fun Q q => q) (fun _ => dVar_ret rfl) fun _ Q q => q) (RetW.same q)
theorem b_is_bits (T : Txt P w K mg base c) : Has P w K mg base 1 "is_bits" s_is_bits P_is_bits (sp_is_bits c) := by
  refine has_is_bits T (fun ds G Q E ⟨_, _, e, _⟩ => by rw [e]; rfl) fun ds G Q E ⟨x, n, e, ⟨h1, h2⟩, q⟩ => ?_
  subst e
  cases x with
  | str z =>
    have hz := h2 z rfl
    have hl : z.cps.toList.length ≤ 100000 := by
      have e : z.cps.toList.length = z.length := by simp [Str.length]
      omega
    refine dRet_ret _ (dAndV_ret true _ (isi1 _ (dVar_ret rfl) rfl kb_ss) fun _ => dAndV_ret (decide ((z.length : Int) = n)) (z.cps.toList.all bitC) (dOp_ret _ _ (lenS_ret z (dVar_ret rfl) (by omega)) (dVar_ret rfl) (eqI_ret rfl)) fun _ => allM_ret (dLcM_ret (fun c => .str (S [c])) _ (dIt_ret _ (dVar_ret rfl) rfl) hl fun a ha => ?_)) (RetW.same q)
    exact dOp_ret _ _ (dVar_ret rfl) (dKs_eq e_01) fun Q q => by
      show Q (.bl (decide (a ∈ [48, 49]))) G
      have : decide (a ∈ [48, 49]) = bitC a := by unfold bitC; by_cases h1 : a = 48 <;> by_cases h2 : a = 49 <;> simp [h1, h2]
      rw [this]; exact q
  | non => exact dRet_ret _ (dAndV_ret false true (isi1 _ (dVar_ret rfl) rfl kb_ns) fun h => by cases h) (RetW.same q)
  | int _ => exact dRet_ret _ (dAndV_ret false true (isi1 _ (dVar_ret rfl) rfl kb_is) fun h => by cases h) (RetW.same q)
  | bl _ => exact dRet_ret _ (dAndV_ret false true (isi1 _ (dVar_ret rfl) rfl kb_bs) fun h => by cases h) (RetW.same q)
  | _ => cases h1
theorem b_check_length (T : Txt P w K mg base c) : Has P w K mg base 2 "check_length" s_check_length P_check_length (sp_check_length c) := by
  refine has_check_length T (b_is_number T) (fun ds G Q E ⟨_, _, e, _⟩ => by rw [e]; rfl) fun ds G Q E ⟨i, hi, e, h1, h2⟩ => ?_
  subst e
  refine dIfS_ret (!(decide (1 ≤ i) && decide (i ≤ hi))) (dNot_ret _ (dTru_ret _ (dCall_ret _ (dConsA_ret (dVar_ret rfl) (dConsA_ret dK_ret (dConsA_ret (dVar_ret rfl) dNil_ret))) fun Q E q => ⟨i, 1, hi, rfl, q⟩))) ⟨fun h => ?_, fun h => ?_⟩
  · exact ⟨G, Sub.refl, h2 fun ⟨p, q⟩ => by simp [p, q] at h⟩
  · exact RetW.same (h1 (by simpa using h))
theorem lot_tup {l : Nat} {x : D} (ds : List D) (h : x = .tup ds) : isLotD l x = ((decide (0 < ds.length) && decide (ds.length < 2 ^ l)) && (ds.all (isBitsD l) && (ds.zip (ds.drop 1)).all fun p => ltD p.1 p.2)) := by subst h; rfl
theorem b_is_lot (T : Txt P w K mg base c) : Has P w K mg base 2 "is_lot" s_is_lot P_is_lot (sp_is_lot c) := by
  refine has_is_lot T (b_is_bits T) (fun ds G Q E ⟨_, _, e, _⟩ => by rw [e]; rfl) fun ds G Q E ⟨l, x, e, ⟨h1, h2⟩, hx, q⟩ => ?_
  subst e
  have other : ∀ s, tyD G x = some s → kitB s "tuple" = some false → isLotD l x = false → t_is_lot K c (fun x _ G' => ∃ G2, Sub G2 G' ∧ E x G2) { nx := fun _ G' => RetW Q .non G', rt := RetW Q } (dstart N_is_lot [.int l, x]) G := fun s hs hk hf => by
    rw [hf] at q
    refine dIfS_ret true (dOr_ret true true (dNot_ret false (dTru_ret _ (isi1 _ (dVar_ret rfl) hs hk))) fun h => by cases h) ⟨fun _ => ?_, fun h => by cases h⟩
    exact dRet_ret _ dK_ret (RetW.same q)
  cases x with
  | tup ds =>
    obtain ⟨hl, hd⟩ := hx
    have hp : (2 : Nat) ^ l ≤ 16 := Nat.pow_le_pow_right (n := 2) (by decide) h2
    refine dIfS_ret (!((decide (0 < ds.length) && decide (ds.length < 2 ^ l)) && ds.all (isBitsD l))) ?_ ⟨fun h => ?_, fun h => ?_⟩
    · rw [Bool.not_and]
      refine dOr_ret false _ (dNot_ret true (dTru_ret _ (isi1 _ (dVar_ret rfl) rfl kb_tt))) fun _ => dOr_ret _ _ (dNot_ret _ (dTest_ret _ (dChain_ret (.int 0) (.int ds.length) (.int ((2 ^ l : Nat) : Int)) _ _ dK_ret (lenX_ret _ (dVar_ret rfl) rfl) (fun Q q => ?_) (fun _ => shl_ret dK_ret (dVar_ret rfl) (by omega)) fun _ Q q => ?_))) fun _ => dNot_ret _ (dTru_ret _ (allM_ret (dLcM_ret id _ (dIt_ret _ (dVar_ret rfl) (by simp; rfl)) (by omega) fun d hm => dCall_ret _ (dConsA_ret (dVar_ret rfl) (dConsA_ret (dVar_ret rfl) dNil_ret)) fun Q E q => ⟨d, l, rfl, hd d hm, q⟩)))
      · show Q (.bl (decide ((0 : Int) < (ds.length : Int)))) G
        rw [decide_eq_decide.mpr (show (0 : Int) < (ds.length : Int) ↔ 0 < ds.length by omega)]; exact q
      · show Q (.bl (decide ((ds.length : Int) < ((2 ^ l : Nat) : Int)))) G
        rw [decide_eq_decide.mpr (show (ds.length : Int) < ((2 ^ l : Nat) : Int) ↔ ds.length < 2 ^ l by omega)]; exact q
    · refine dRet_ret _ dK_ret (RetW.same ?_)
      rw [lot_tup ds rfl] at q
      have hf : ((decide (0 < ds.length) && decide (ds.length < 2 ^ l)) && ds.all (isBitsD l)) = false := by simpa only [Bool.not_eq_true'] using h
      rw [← Bool.and_assoc, hf] at q
      exact q
    · have ht : ((decide (0 < ds.length) && decide (ds.length < 2 ^ l)) && ds.all (isBitsD l)) = true := by simpa only [Bool.not_eq_false'] using h
      rw [lot_tup ds rfl, ← Bool.and_assoc, ht, Bool.true_and] at q
      have hb : ∀ d ∈ ds, isBitsD l d = true := by
        have := (Bool.and_eq_true_iff.mp ht).2
        simpa using this
      dsimp only [dNext]
      refine dRet_ret (.bl ((ds.zip (ds.drop 1)).all fun p => ltD p.1 p.2)) ?_ (RetW.same q)
      refine allM_ret ?_
      refine dLc2_ret (xs := ds.zip (ds.drop 1)) (fun p => p.1) (fun p => p.2) _ ?_ ?_ fun p hp => ?_
      · have e : ds.map id = ds := by simp
        have := zip_ret (W := fun x _ G' => ∃ G2, DL.Sub G2 G' ∧ E x G2) (σ := dstart N_is_lot [.int l, .tup ds]) (G := G) id id ds (ds.drop 1) (.tup ds) (.tup (ds.drop 1)) (te1 := dVar 1) (te2 := dSl (qSl false) (dVar 1) (dPart (dK (.int 1))) dNoP) (dVar_ret rfl)
          (fun Q q => ⟨_, rfl, show Q (.tup (cutL ds (some ((1 : Nat) : Int)) none)) G by rw [cut_from]; exact q⟩) (by simp; rfl) (by simp; rfl)
        exact this
      · simp; omega
      · have m := List.of_mem_zip hp
        have b1 := hb _ m.1
        have b2 := hb _ (List.mem_of_mem_drop m.2)
        obtain ⟨p1, p2⟩ := p
        refine dOp_ret _ _ (dVar_ret rfl) (dVar_ret rfl) fun Q q => ?_
        cases p1 with
        | str a => cases p2 with
          | str b => exact q
          | _ => cases b2
        | _ => cases b1
  | lst _ => exact other _ rfl kb_lt rfl
  | non => exact other _ rfl kb_nt rfl
  | str _ => exact other _ rfl kb_st rfl
  | _ => exact hx.elim
theorem b_check_lot (T : Txt P w K mg base c) : Has P w K mg base 3 "check_lot" s_check_lot P_check_lot (sp_check_lot c) := by
  refine has_check_lot T (b_is_lot T) (fun ds G Q E ⟨_, _, e, _⟩ => by rw [e]; rfl) fun ds G Q E ⟨l, x, e, hx, h1, h2⟩ => ?_
  subst e
  have rng : RetT (dTest (dChain qLe qLe (dK (.int 1)) (dVar 0) (dK (.int 4)))) (fun x _ G' => ∃ G2, DL.Sub G2 G' ∧ E x G2) (dstart N_check_lot [.int l, x]) G (decide (1 ≤ l) && decide (l ≤ 4)) := by
    refine dTest_ret _ (dChain_ret (.int 1) (.int l) (.int 4) _ _ dK_ret (dVar_ret rfl) (fun Q q => ?_) (fun _ => dK_ret) fun _ Q q => ?_)
    · show Q (.bl (decide ((1 : Int) ≤ (l : Int)))) G
      rw [decide_eq_decide.mpr (show (1 : Int) ≤ (l : Int) ↔ 1 ≤ l by omega)]; exact q
    · show Q (.bl (decide ((l : Int) ≤ 4))) G
      rw [decide_eq_decide.mpr (show (l : Int) ≤ 4 ↔ l ≤ 4 by omega)]; exact q
  by_cases hl : 1 ≤ l ∧ l ≤ 4
  · have e1 : (decide (1 ≤ l) && decide (l ≤ 4)) = true := by simp [hl]
    rw [e1] at rng
    refine dIfS_ret (!(isLotD l x)) (dOr_ret false _ (dNot_ret true rng) fun _ => dNot_ret _ (dTru_ret _ (dCall_ret _ (dConsA_ret (dVar_ret rfl) (dConsA_ret (dVar_ret rfl) dNil_ret)) fun Q E q => ⟨l, x, rfl, hl, hx, q⟩))) ⟨fun h => ?_, fun h => ?_⟩
    · exact ⟨_, rfl, G, Sub.refl, h2 fun ⟨_, _, k⟩ => by rw [k] at h; cases h⟩
    · exact RetW.same (h1 ⟨hl.1, hl.2, by simpa only [Bool.not_eq_false'] using h⟩)
  · have e1 : (decide (1 ≤ l) && decide (l ≤ 4)) = false := by
      rw [Bool.and_eq_false_iff]
      by_cases h : 1 ≤ l
      · exact .inr (decide_eq_false fun k => hl ⟨h, k⟩)
      · exact .inl (decide_eq_false h)
    rw [e1] at rng
    refine dIfS_ret true (dOr_ret true true (dNot_ret false rng) fun h => by cases h) ⟨fun h => ?_, fun h => by cases h⟩
    exact ⟨_, rfl, G, Sub.refl, h2 fun ⟨a, b, _⟩ => hl ⟨a, b⟩⟩
theorem b_length_of (T : Txt P w K mg base c) : Has P w K mg base 4 "length_of" s_length_of P_length_of (sp_length_of c) := by
  refine has_length_of T (b_check_lot T) (fun ds G Q E ⟨_, e, _⟩ => by rw [e]; rfl) fun ds G Q E ⟨x, e, hx, h1, h2⟩ => ?_
  subst e
  have other : ∀ s, tyD G x = some s → kitB s "tuple" = some false → lotLen x = none → t_length_of K c (fun x _ G' => ∃ G2, Sub G2 G' ∧ E x G2) { nx := fun _ G' => RetW Q .non G', rt := RetW Q } (dstart N_length_of [x]) G := fun s hs hk hf => by
    refine dIfS_ret true (dOr_ret true true (dNot_ret false (dTru_ret _ (isi1 _ (dVar_ret rfl) hs hk))) fun h => by cases h) ⟨fun _ => ?_, fun h => by cases h⟩
    exact ⟨_, rfl, G, Sub.refl, h2 hf⟩
  cases x with
  | tup ds =>
    obtain ⟨hl, hd⟩ := hx
    have isT : RetT (dNot (dTru (dN qIsi (dCons (dVar 0) (dCons (dK (.ty "tuple")) dNil))))) (fun x _ G' => ∃ G2, DL.Sub G2 G' ∧ E x G2) (dstart N_length_of [.tup ds]) G false := dNot_ret true (dTru_ret _ (isi1 _ (dVar_ret rfl) rfl kb_tt))
    cases ds with
    | nil =>
      refine dIfS_ret true (dOr_ret false true isT fun _ => dOr_ret true true (dTest_ret _ (dOp_ret _ _ (lenX_ret _ (dVar_ret rfl) rfl) dK_ret (eqI_ret rfl))) fun h => by cases h) ⟨fun _ => ?_, fun h => by cases h⟩
      exact ⟨_, rfl, G, Sub.refl, h2 rfl⟩
    | cons d r =>
      have nz : decide (((d :: r).length : Int) = 0) = false := decide_eq_false (by simp; omega)
      have at0 : ∀ {W σ}, σ[0]? = some (some (D.tup (d :: r))) → Ret (dOp qIx (dVar 0) (dK (.int 0))) W σ G d := fun h => ixX_ret _ 0 (dVar_ret h) dK_ret rfl DL.at0
      have noS : ∀ s, tyD G d = some s → kitB s "str" = some false → lotLen (.tup (d :: r)) = none → t_length_of K c (fun x _ G' => ∃ G2, Sub G2 G' ∧ E x G2) { nx := fun _ G' => RetW Q .non G', rt := RetW Q } (dstart N_length_of [.tup (d :: r)]) G := fun s hs hk hf => by
        refine dIfS_ret true (dOr_ret false true isT fun _ => dOr_ret false true (dTest_ret _ (dOp_ret _ _ (lenX_ret _ (dVar_ret rfl) rfl) dK_ret (eqI_ret nz))) fun _ => dNot_ret false (dTru_ret _ (isi1 _ (at0 rfl) hs hk))) ⟨fun _ => ?_, fun h => by cases h⟩
        exact ⟨_, rfl, G, Sub.refl, h2 hf⟩
      obtain ⟨fd, sd⟩ := hd d List.mem_cons_self
      cases d with
      | str z =>
        have hz := sd z rfl
        refine dIfS_ret false (dOr_ret false false isT fun _ => dOr_ret false false (dTest_ret _ (dOp_ret _ _ (lenX_ret _ (dVar_ret rfl) rfl) dK_ret (eqI_ret nz))) fun _ => dNot_ret true (dTru_ret _ (isi1 _ (at0 rfl) rfl kb_ss))) ⟨fun h => (by cases h), fun _ => ?_⟩
        have len0 : ∀ {W σ}, σ[0]? = some (some (D.tup (.str z :: r))) → Ret (dN qLen (dCons (dOp qIx (dVar 0) (dK (.int 0))) dNil)) W σ G (.int z.length) := fun h => lenS_ret z (at0 h) (by omega)
        by_cases hh : 1 ≤ z.length ∧ z.length ≤ 4 ∧ isLotD z.length (.tup (.str z :: r)) = true
        · have hL : lotLen (.tup (.str z :: r)) = some z.length := by unfold lotLen; simp only; rw [if_pos hh]
          refine dDrop_ret .non (dCall_ret _ (dConsA_ret (len0 rfl) (dConsA_ret (dVar_ret rfl) dNil_ret)) fun Q E q => ⟨z.length, .tup (.str z :: r), rfl, ⟨hl, hd⟩, fun _ => q, fun h => (h hh).elim⟩) ?_
          exact dRet_ret _ (len0 rfl) (RetW.same (h1 _ hL))
        · have hL : lotLen (.tup (.str z :: r)) = none := by unfold lotLen; simp only; rw [if_neg hh]
          refine dDrop_call _ (dConsA_ret (len0 rfl) (dConsA_ret (dVar_ret rfl) dNil_ret)) ⟨z.length, .tup (.str z :: r), rfl, ⟨hl, hd⟩, fun h => (hh h).elim, fun _ => ⟨G, Sub.refl, h2 hL⟩⟩
      | non => exact noS _ rfl kb_ns rfl
      | int _ => exact noS _ rfl kb_is rfl
      | bl _ => exact noS _ rfl kb_bs rfl
      | _ => cases fd
  | lst _ => exact other _ rfl kb_lt rfl
  | non => exact other _ rfl kb_nt rfl
  | str _ => exact other _ rfl kb_st rfl
  | _ => exact hx.elim
theorem b_strings_of (T : Txt P w K mg base c) : Has P w K mg base 2 "strings_of" s_strings_of P_strings_of (sp_strings_of c) := by
  refine has_strings_of T (b_bits T) (fun ds G Q E ⟨_, e, _⟩ => by rw [e]; rfl) fun ds G Q E ⟨l, e, h1, q⟩ => ?_
  subst e
  have hp : (2 : Nat) ^ l ≤ 16 := Nat.pow_le_pow_right (n := 2) (by decide) h1
  refine dRet_ret (.lst ((Rg l).map (bD l))) (dLcM_ret (xs := Rg l) nI _ (fun Q q => dRng1_ret (2 ^ l) (dConsA_ret (shl_ret dK_ret (dVar_ret rfl) (by omega)) dNil_ret) (by omega) Q (by rw [rngD_nat]; exact q)) (by unfold Rg; simp; omega) fun v hv => ?_) (RetW.same q)
  have hv' : v < 2 ^ l := by unfold Rg at hv; simpa using hv
  exact dCall_ret _ (dConsA_ret (dVar_ret rfl) (dConsA_ret (dVar_ret rfl) dNil_ret)) fun Q E q => ⟨l, v, rfl, ⟨by omega, by omega⟩, q⟩
theorem b_is_heard (T : Txt P w K mg base c) : Has P w K mg base 2 "is_heard" s_is_heard P_is_heard (sp_is_heard c) := by
  refine has_is_heard T (b_xor T) (fun ds G Q E ⟨_, _, _, e, _⟩ => by rw [e]; rfl) fun ds G Q E ⟨xs, a, b, e, h1, h2, q⟩ => ?_
  subst e
  refine dRet_ret _ (dOp_ret _ _ (dCall_ret _ (dConsA_ret (dVar_ret rfl) (dConsA_ret (dVar_ret rfl) dNil_ret)) fun Q E q => ⟨a, b, rfl, h1, q⟩) (dVar_ret rfl) fun Q q => ⟨⟨rfl, by simpa using h2⟩, q⟩) (RetW.same q)
theorem b_hole (T : Txt P w K mg base c) : Has P w K mg base 5 "hole" s_hole P_hole (sp_hole c) := by
  refine has_hole T (b_length_of T) (b_is_heard T) (fun ds G Q E ⟨_, _, _, e, _⟩ => by rw [e]; rfl) fun ds G Q E ⟨x, a, b, e, h1, hx, h2, h3⟩ => ?_
  subst e
  cases hL : lotLen x with
  | none =>
    exact dDrop_call _ (dConsA_ret (dVar_ret rfl) dNil_ret) ⟨x, rfl, hx, fun n h => (by rw [hL] at h; cases h), fun _ => ⟨G, Sub.refl, h2 hL⟩⟩
  | some n =>
    refine dDrop_ret (.int n) (dCall_ret _ (dConsA_ret (dVar_ret rfl) dNil_ret) fun Q E q => ⟨x, rfl, hx, fun m h => by rw [hL] at h; cases h; exact q, fun h => by rw [hL] at h; cases h⟩) ?_
    cases x with
    | tup xs =>
      refine dRet_ret _ (dCall_ret _ (dConsA_ret (dVar_ret rfl) (dConsA_ret (dVar_ret rfl) (dConsA_ret (dVar_ret rfl) dNil_ret))) fun Q E q => ⟨xs, a, b, rfl, h1, fun d hd => (hx.2 d hd).1, q⟩) (RetW.same (h3 xs rfl (by rw [hL]; exact nofun)))
    | _ => cases hL
end
end K75

/-! M75: shifts, classes: plain facts. -/
namespace DL
open PySem PySem.Spec L2
/-! ### sorted lists of numbers -/
def sortN (vs : List Nat) : List Nat := vs.mergeSort (fun a b => decide (a ≤ b))
theorem sortN_perm (vs : List Nat) : (sortN vs).Perm vs := List.mergeSort_perm _ _
theorem sortN_sorted (vs : List Nat) : (sortN vs).Pairwise (· ≤ ·) := by
  have h := List.pairwise_mergeSort (le := fun a b : Nat => decide (a ≤ b)) (fun a b c h1 h2 => by simp at *; omega) (fun a b => by simp; omega) vs
  exact h.imp fun h => by simpa using h
theorem sortN_eq {ns ms : List Nat} (h : ms.Perm ns) (s : ms.Pairwise (· ≤ ·)) : ms = sortN ns :=
  List.Perm.eq_of_pairwise (fun x y _ _ h1 h2 => Nat.le_antisymm h1 h2) s (sortN_sorted ns) (h.trans (sortN_perm ns).symm)
theorem perm_of_mem {a b : List Nat} (ha : a.Nodup) (hb : b.Nodup) (h : ∀ x, x ∈ a ↔ x ∈ b) : a.Perm b := (List.perm_ext_iff_of_nodup ha hb).mpr h
theorem isort_nat {vs : List Nat} : isort (vs.map fun v : Nat => (v : Int)) = (sortN vs).map fun v : Nat => (v : Int) := by
  symm
  refine isort_eq ((sortN_perm vs).map _) ?_
  rw [List.pairwise_map]
  exact (sortN_sorted vs).imp fun h => by omega
theorem lt_le {a : List Nat} (h : a.Pairwise (· < ·)) : a.Pairwise (· ≤ ·) := h.imp fun h => Nat.le_of_lt h
theorem lt_nd {a : List Nat} (h : a.Pairwise (· < ·)) : a.Nodup := h.imp fun h => Nat.ne_of_lt h
theorem nodup_map {f : Nat → Nat} {a : List Nat} (inj : ∀ x y, f x = f y → x = y) (h : a.Nodup) : (a.map f).Nodup := by
  unfold List.Nodup
  rw [List.pairwise_map]
  exact h.imp fun hne e => hne (inj _ _ e)
/-- a sorted row of strings is the row of the sorted numbers -/
theorem rising_pw {f : Nat → List Nat} {p : Nat → Prop} (hf : ∀ a b, p a → p b → (f a < f b ↔ a < b)) : ∀ (x : Nat) (us : List Nat), p x → (∀ u ∈ us, p u) → PyProof.Rows.risingS (S (f x)) (us.map fun v => S (f v)) = true → (x :: us).Pairwise (· ≤ ·)
  | x, [], _, _, _ => by simp
  | x, u :: us, hx, hu, h => by
    simp only [List.map_cons, PyProof.Rows.risingS, PyProof.Rows.ltCps_eq, Bool.and_eq_true, Bool.not_eq_true', decide_eq_false_iff_not] at h
    have pu := hu u List.mem_cons_self
    have ih := rising_pw hf u us pu (fun w hw => hu w (List.mem_cons_of_mem _ hw)) h.2
    have hxu : ¬ u < x := fun k => h.1 (by simpa [S] using (hf u x pu hx).mpr k)
    have pc := List.pairwise_cons.mp ih
    refine List.pairwise_cons.mpr ⟨fun w hw => ?_, ih⟩
    rcases List.mem_cons.mp hw with rfl | hw
    · omega
    · have := pc.1 w hw; omega
theorem preimg {α : Type} (f : Nat → α) (p : Nat → Prop) : ∀ (ys : List α), (∀ y ∈ ys, ∃ v, p v ∧ f v = y) → ∃ us : List Nat, (∀ u ∈ us, p u) ∧ us.map f = ys
  | [], _ => ⟨[], by simp, rfl⟩
  | y :: ys, h => by
    obtain ⟨v, hv, e⟩ := h y List.mem_cons_self
    obtain ⟨us, hu, e2⟩ := preimg f p ys fun z hz => h z (List.mem_cons_of_mem _ hz)
    exact ⟨v :: us, fun u hu' => by
      rcases List.mem_cons.mp hu' with rfl | h'
      · exact hv
      · exact hu u h', by simp [e, e2]⟩
theorem perm_inj {α : Type} {f : Nat → α} {p : Nat → Prop} (inj : ∀ a b, p a → p b → f a = f b → a = b) {us vs : List Nat} (hu : ∀ u ∈ us, p u) (hv : ∀ v ∈ vs, p v) (h : (us.map f).Perm (vs.map f)) : us.Perm vs := by
  classical
  let g : α → Nat := fun y => if k : ∃ v, p v ∧ f v = y then k.choose else 0
  have hg : ∀ v, p v → g (f v) = v := fun v pv => by
    have k : ∃ w, p w ∧ f w = f v := ⟨v, pv, rfl⟩
    have e : g (f v) = k.choose := dif_pos k
    rw [e]
    exact inj _ _ k.choose_spec.1 pv k.choose_spec.2
  have back : ∀ ws : List Nat, (∀ w ∈ ws, p w) → (ws.map f).map g = ws := fun ws hw => by
    rw [List.map_map]
    exact (List.map_congr_left fun w hm => hg w (hw w hm)).trans (List.map_id _)
  have := h.map g
  rwa [back us hu, back vs hv] at this
theorem sortedS_bits {l : Nat} {vs : List Nat} (hv : ∀ v ∈ vs, v < 2 ^ l) {ys : List Str} (h : ys.Perm (vs.map fun v => S (bsl l v))) (s : PyProof.Rows.sortedS ys = true) : ys = (sortN vs).map fun v => S (bsl l v) := by
  obtain ⟨us, hu, rfl⟩ := preimg (fun v => S (bsl l v)) (fun v => v < 2 ^ l) ys fun y hy => by
    obtain ⟨v, hm, e⟩ := List.mem_map.mp (h.mem_iff.mp hy)
    exact ⟨v, hv v hm, e⟩
  have hp : us.Perm vs := perm_inj (f := fun v => S (bsl l v)) (p := fun v => v < 2 ^ l) (fun a b ha hb e => (bsl_inj ha hb).mp (S_inj.mp e)) hu hv h
  congr 1
  refine sortN_eq hp ?_
  cases us with
  | nil => simp
  | cons x us => exact rising_pw (f := bsl l) (p := fun v => v < 2 ^ l) (fun a b ha hb => bsl_lt ha hb) x us (hu x List.mem_cons_self) (fun u h => hu u (List.mem_cons_of_mem _ h)) s
end DL
namespace K75
open PySem PySem.Spec L2 DL
variable {l : Nat} {M : Nat → Bool}
theorem mem_Rg {v : Nat} : v ∈ Rg l ↔ v < 2 ^ l := by unfold Rg; simp
theorem Rg_lt : (Rg l).Pairwise (· < ·) := List.pairwise_lt_range
theorem xl {a b : Nat} (ha : a < 2 ^ l) (hb : b < 2 ^ l) : a ^^^ b < 2 ^ l := Nat.xor_lt_two_pow ha hb
theorem xx {a b : Nat} : (a ^^^ b) ^^^ b = a := by rw [Nat.xor_assoc, Nat.xor_self, Nat.xor_zero]
theorem xx' {a b : Nat} : a ^^^ (a ^^^ b) = b := by rw [← Nat.xor_assoc, Nat.xor_self, Nat.zero_xor]
theorem vals_lt {v : Nat} (h : v ∈ valsM l M) : v < 2 ^ l := mem_Rg.mp (List.mem_filter.mp h).1
theorem vals_mem {v : Nat} : v ∈ valsM l M ↔ v < 2 ^ l ∧ M v = true := by unfold valsM; rw [List.mem_filter, mem_Rg]
theorem vals_pw : (valsM l M).Pairwise (· < ·) := Rg_lt.filter _
theorem mem_kept {s : Nat} : s ∈ keptN l M ↔ s < 2 ^ l ∧ ∀ v, v < 2 ^ l → M v = M (v ^^^ s) := by
  unfold keptN
  rw [List.mem_filter, mem_Rg, List.all_eq_true]
  exact ⟨fun ⟨a, b⟩ => ⟨a, fun v hv => eq_of_beq (b v (mem_Rg.mpr hv))⟩, fun ⟨a, b⟩ => ⟨a, fun v hv => beq_iff_eq.mpr (b v (mem_Rg.mp hv))⟩⟩
theorem mem_alike {o p : Nat} : o ∈ alikeN l M p ↔ o < 2 ^ l ∧ ∀ b, b < 2 ^ l → M (o ^^^ b) = M (p ^^^ b) := by
  unfold alikeN
  rw [List.mem_filter, mem_Rg, List.all_eq_true]
  exact ⟨fun ⟨a, b⟩ => ⟨a, fun v hv => eq_of_beq (b v (mem_Rg.mpr hv))⟩, fun ⟨a, b⟩ => ⟨a, fun v hv => beq_iff_eq.mpr (b v (mem_Rg.mp hv))⟩⟩
theorem alike_kept {o p : Nat} (hp : p < 2 ^ l) : o ∈ alikeN l M p ↔ o < 2 ^ l ∧ o ^^^ p ∈ keptN l M := by
  rw [mem_alike, mem_kept]
  constructor
  · rintro ⟨ho, h⟩
    refine ⟨ho, xl ho hp, fun v hv => ?_⟩
    have := h (o ^^^ v) (xl ho hv)
    rw [xx'] at this
    rw [this]
    congr 1
    rw [Nat.xor_comm p, Nat.xor_assoc, Nat.xor_comm v p, ← Nat.xor_assoc, Nat.xor_comm (o ^^^ p)]
  · rintro ⟨ho, _, h⟩
    refine ⟨ho, fun b hb => ?_⟩
    rw [h _ (xl ho hb)]
    congr 1
    rw [Nat.xor_comm o b, Nat.xor_assoc, xx', Nat.xor_comm]
theorem alike_pw {p : Nat} : (alikeN l M p).Pairwise (· < ·) := Rg_lt.filter _
theorem kept_pw : (keptN l M).Pairwise (· < ·) := Rg_lt.filter _
/-- the shifted string's class -/
theorem alike_sorted {p : Nat} (hp : p < 2 ^ l) : sortN ((keptN l M).map fun s => p ^^^ s) = alikeN l M p := by
  symm
  refine sortN_eq (perm_of_mem (lt_nd alike_pw) ?_ fun x => ?_) (lt_le alike_pw)
  · refine nodup_map ?_ (lt_nd kept_pw)
    intro a b e
    have := congrArg (p ^^^ ·) e
    simpa [xx'] using this
  · rw [alike_kept hp, List.mem_map]
    constructor
    · rintro ⟨hx, hk⟩
      exact ⟨x ^^^ p, hk, by rw [Nat.xor_comm x p, xx']⟩
    · rintro ⟨s, hs, rfl⟩
      exact ⟨xl hp (mem_kept.mp hs).1, by rw [Nat.xor_comm p s, xx]; exact hs⟩
theorem alike_self {p : Nat} (hp : p < 2 ^ l) : p ∈ alikeN l M p := mem_alike.mpr ⟨hp, fun _ _ => rfl⟩
theorem alike_eq {o p : Nat} (h : o ∈ alikeN l M p) : alikeN l M o = alikeN l M p := by
  have h2 := (mem_alike.mp h).2
  unfold alikeN
  refine List.filter_congr fun x hx => ?_
  rw [Bool.eq_iff_iff, List.all_eq_true, List.all_eq_true]
  constructor
  · intro k b hb; rw [eq_of_beq (k b hb), h2 b (mem_Rg.mp hb)]; exact beq_self_eq_true _
  · intro k b hb; rw [eq_of_beq (k b hb), ← h2 b (mem_Rg.mp hb)]; exact beq_self_eq_true _
theorem alike_lt {o p : Nat} (h : o ∈ alikeN l M p) : o < 2 ^ l := (mem_alike.mp h).1
theorem head_le {a : List Nat} (h : a.Pairwise (· < ·)) {x y : Nat} (hx : x ∈ a) (hy : a.head? = some y) : y ≤ x := by
  cases a with
  | nil => cases hy
  | cons z r =>
    cases hy
    rcases List.mem_cons.mp hx with rfl | hx
    · exact Nat.le_refl _
    · exact Nat.le_of_lt ((List.pairwise_cons.mp h).1 x hx)
def rep (l : Nat) (M : Nat → Bool) (p : Nat) : Bool := (alikeN l M p).head? == some p
/-- a number is in no class told before exactly where it is the first of its own -/
theorem rep_iff {v : Nat} (hv : v < 2 ^ l) : rep l M v = true ↔ ¬ ∃ p, p < v ∧ rep l M p = true ∧ v ∈ alikeN l M p := by
  unfold rep
  rw [beq_iff_eq]
  constructor
  · rintro h ⟨p, hp, _, hm⟩
    have e := alike_eq hm
    have := head_le alike_pw (alike_self (M := M) (Nat.lt_trans hp hv)) (e ▸ h)
    omega
  · intro h
    cases e : (alikeN l M v).head? with
    | none => rw [List.head?_eq_none_iff] at e; have := alike_self (M := M) hv; rw [e] at this; cases this
    | some y =>
      have hm : y ∈ alikeN l M v := List.mem_of_head? e
      have hle := head_le alike_pw (alike_self (M := M) hv) e
      by_cases hy : y = v
      · rw [hy]
      · exfalso
        refine h ⟨y, by omega, ?_, ?_⟩
        · rw [beq_iff_eq, alike_eq hm]; exact e
        · rw [alike_eq hm]; exact alike_self hv
/-- kept shifts: those under which the sorted strings are the lot's -/
theorem kept_iff {s : Nat} (hs : s < 2 ^ l) : sortN ((valsM l M).map fun v => v ^^^ s) = valsM l M ↔ s ∈ keptN l M := by
  rw [mem_kept]
  constructor
  · intro h
    refine ⟨hs, fun v hv => ?_⟩
    have hp := (sortN_perm ((valsM l M).map fun v => v ^^^ s)).symm
    rw [h] at hp
    have go : ∀ v, v < 2 ^ l → M v = true → M (v ^^^ s) = true := fun v hv hm =>
      (vals_mem.mp (hp.mem_iff.mp (List.mem_map.mpr ⟨v, vals_mem.mpr ⟨hv, hm⟩, rfl⟩))).2
    cases e : M v with
    | true => rw [go v hv e]
    | false =>
      cases e2 : M (v ^^^ s) with
      | false => rfl
      | true => have := go _ (xl hv hs) e2; rw [xx, e] at this; cases this
  · rintro ⟨_, h⟩
    symm
    refine sortN_eq (perm_of_mem (lt_nd vals_pw) ?_ fun x => ?_) (lt_le vals_pw)
    · refine nodup_map ?_ (lt_nd vals_pw)
      intro a b e
      have := congrArg (· ^^^ s) e
      simpa [xx] using this
    · rw [List.mem_map, vals_mem]
      constructor
      · rintro ⟨hx, hm⟩
        exact ⟨x ^^^ s, vals_mem.mpr ⟨xl hx hs, by rw [← h x hx]; exact hm⟩, xx⟩
      · rintro ⟨v, hv, rfl⟩
        obtain ⟨h1, h2⟩ := vals_mem.mp hv
        exact ⟨xl h1 hs, by rw [← h v h1]; exact h2⟩
end K75

namespace DL
open PySem PySem.Spec L2
section
variable {te tb : DTE} {t : DTA} {tt : DTT} {u v : DTS} {W : DX} {σ : DSt} {G : DH} {d x y : D} {b : Bool} {xs : List D} {Dn : DEnds}
theorem sortedS_ret {ns zs : List Str} (hl : ns.length < 64) (h : ∀ ys : List Str, ys.Perm ns → PyProof.Rows.sortedS ys = true → ys = zs) : ∀ Q : DK, Q (.lst (zs.map .str)) G → qSortedS false [.lst (ns.map .str)] G Q := fun Q q => by
  show (match (some (ns.map D.str)).bind strsOf with | some ns => ns.length < 64 ∧ ∀ ys : List Str, ys.Perm ns → PyProof.Rows.sortedS ys = true → mkL false (ys.map D.str) G Q | none => False)
  rw [Option.bind_some, strsOf_map]
  exact ⟨hl, fun ys hp hs => by rw [h ys hp hs]; exact q⟩
theorem okD_strs {l : List (List Nat)} (h : ∀ z ∈ l, ∀ c ∈ z, c < 0x110000) : okDs (l.map fun z => D.str (S z)) = true := by
  rw [okDs_all, List.all_eq_true]
  intro d hd
  obtain ⟨z, hz, rfl⟩ := List.mem_map.mp hd
  exact okS (h z hz)
theorem dpDs_strs {l : List (List Nat)} : dpDs (l.map fun z => D.str (S z)) = 0 := by
  have := dpDs_le (xs := l.map fun z => D.str (S z)) (n := 0) fun d hd => by
    obtain ⟨z, _, rfl⟩ := List.mem_map.mp hd
    exact Nat.le_refl _
  omega
theorem eqStrs_ret {a b : List (List Nat)} {p : Bool} (ha : ∀ z ∈ a, ∀ c ∈ z, c < 0x110000) (hb : ∀ z ∈ b, ∀ c ∈ z, c < 0x110000) (h : decide (a = b) = p) : ∀ Q : DK, Q (.bl p) G → qEq false (.lst (a.map fun z => .str (S z))) (.lst (b.map fun z => .str (S z))) G Q := fun Q q => by
  refine ⟨eqOk_of (by unfold dview okD; exact okD_strs ha) (by unfold dview dpD; rw [dpDs_strs]; decide), eqOk_of (by unfold dview okD; exact okD_strs hb) (by unfold dview dpD; rw [dpDs_strs]; decide), ?_⟩
  have e : deq (.lst (a.map fun z => .str (S z))) (.lst (b.map fun z => .str (S z))) = p := by
    unfold deq toPy PyData.eqv
    have h1 : (a.map fun z => D.str (S z)) = (a.map S).map D.str := by rw [List.map_map]; rfl
    have h2 : (b.map fun z => D.str (S z)) = (b.map S).map D.str := by rw [List.map_map]; rfl
    rw [h1, h2, deq_strs, ← h]
    refine decide_eq_decide.mpr ⟨fun e => ?_, fun e => by rw [e]⟩
    exact (List.map_inj_right fun x y e => S_inj.mp e).mp e
  show Q (.bl (deq (dview G (.lst _)) (dview G (.lst _)))) G
  unfold dview
  rw [e]; exact q
end
end DL
namespace K75
open PySem PySem.Spec L2 DL
section
variable {P : Program} {w : World} {K : PySem.W.Frag} {mg : Str → Option Value} {base : Heap} {c : Cs} {l : Nat} {M : Nat → Bool}
theorem p16 (h : l ≤ 4) : (2 : Nat) ^ l ≤ 16 := Nat.pow_le_pow_right (n := 2) (by decide) h
theorem Rg_len : (Rg l).length = 2 ^ l := by unfold Rg; simp
theorem vals_len : (valsM l M).length ≤ 2 ^ l := by unfold valsM; exact Nat.le_trans (List.length_filter_le _ _) (by rw [Rg_len]; exact Nat.le_refl _)
theorem bits_bD {v : Nat} : isBitsD l (bD l v) = true := by
  show (decide (((S (bsl l v)).length : Int) = l) && (S (bsl l v)).cps.toList.all bitC) = true
  rw [S_len, bsl_len, decide_eq_true rfl, Bool.true_and, List.all_eq_true]
  intro c hc
  have : c ∈ bsl l v := by simpa [S] using hc
  rcases bsl_mem this with rfl | rfl <;> rfl
theorem small_bD {v : Nat} (h : l ≤ 64) : smallF (bD l v) := ⟨rfl, fun z e => by cases e; rw [S_len, bsl_len]; exact h⟩
theorem lt_bD {a b : Nat} (ha : a < 2 ^ l) (hb : b < 2 ^ l) : ltD (bD l a) (bD l b) = decide (a < b) := by
  show decide ((S (bsl l a)).cps.toList < (S (bsl l b)).cps.toList) = _
  exact decide_eq_decide.mpr (by simpa [S] using bsl_lt ha hb)
theorem asc_zip {f : Nat → D} {p : Nat → Prop} (hf : ∀ a b, p a → p b → a < b → ltD (f a) (f b) = true) : ∀ vs : List Nat, (∀ v ∈ vs, p v) → vs.Pairwise (· < ·) → (((vs.map f).zip ((vs.map f).drop 1)).all fun q => ltD q.1 q.2) = true
  | [], _, _ => rfl
  | [a], _, _ => rfl
  | a :: b :: r, hp, h => by
    have ih := asc_zip hf (b :: r) (fun v hv => hp v (List.mem_cons_of_mem _ hv)) (List.pairwise_cons.mp h).2
    show (ltD (f a) (f b) && _) = true
    rw [hf a b (hp a (by simp)) (hp b (by simp)) ((List.pairwise_cons.mp h).1 b (by simp)), Bool.true_and]
    exact ih
theorem lotArg_tupB {vs : List Nat} (h : l ≤ 64) (hv : vs.length ≤ 64) : LotArg (tupB l vs) := ⟨by simpa using hv, fun d hd => by
  obtain ⟨v, _, rfl⟩ := List.mem_map.mp hd
  exact small_bD h⟩
theorem GoodL.arg (g : GoodL l M) : LotArg (lotT l M) := lotArg_tupB (by have := g.hi; omega) (by have := vals_len (l := l) (M := M); have := p16 g.hi; omega)
theorem GoodL.pos (g : GoodL l M) : 0 < (valsM l M).length := by
  obtain ⟨v, hv, hm⟩ := g.yes
  exact List.length_pos_of_mem (vals_mem.mpr ⟨hv, hm⟩)
theorem GoodL.less (g : GoodL l M) : (valsM l M).length < 2 ^ l := by
  obtain ⟨v, hv, hm⟩ := g.no
  have := (List.length_filter_lt_length_iff_exists (p := M) (l := Rg l)).mpr ⟨v, mem_Rg.mpr hv, by rw [hm]; exact nofun⟩
  rw [Rg_len] at this; exact this
theorem GoodL.lot (g : GoodL l M) : isLotD l (lotT l M) = true := by
  show ((decide (0 < ((valsM l M).map (bD l)).length) && decide (((valsM l M).map (bD l)).length < 2 ^ l)) && (((valsM l M).map (bD l)).all (isBitsD l) && _)) = true
  rw [List.length_map, decide_eq_true g.pos, decide_eq_true g.less, asc_zip (p := fun v => v < 2 ^ l) (fun a b ha hb h => by rw [lt_bD ha hb]; exact decide_eq_true h) _ (fun v hv => vals_lt hv) vals_pw]
  simp [bits_bD]
theorem map_bD_inj {a b : List Nat} (ha : ∀ v ∈ a, v < 2 ^ l) (hb : ∀ v ∈ b, v < 2 ^ l) : a.map (bsl l) = b.map (bsl l) ↔ a = b := by
  constructor
  · intro h
    induction a generalizing b with
    | nil => cases b with
      | nil => rfl
      | cons _ _ => cases h
    | cons x a ih => cases b with
      | nil => cases h
      | cons y b =>
        injection h with h1 h2
        rw [(bsl_inj (ha x (by simp)) (hb y (by simp))).mp h1, ih (fun v hv => ha v (List.mem_cons_of_mem _ hv)) (fun v hv => hb v (List.mem_cons_of_mem _ hv)) h2]
  · rintro rfl; rfl
theorem smallc {a : List Nat} : ∀ z ∈ a.map (bsl l), ∀ c ∈ z, c < 0x110000 := fun z hz c hc => by
  obtain ⟨v, _, rfl⟩ := List.mem_map.mp hz
  rcases bsl_mem hc with rfl | rfl <;> decide
theorem bD_map {a : List Nat} : a.map (bD l) = (a.map (bsl l)).map fun z => D.str (S z) := by rw [List.map_map]; rfl
theorem bD_map' {a : List Nat} : a.map (bD l) = (a.map fun v => S (bsl l v)).map D.str := by rw [List.map_map]; rfl
def keptP (l : Nat) (M : Nat → Bool) (s : Nat) : Bool := (Rg l).all fun v => M v == M (v ^^^ s)
theorem sh_lt {s : Nat} (hs : s < 2 ^ l) : ∀ v ∈ (valsM l M).map (fun v => v ^^^ s), v < 2 ^ l := fun v hv => by
  obtain ⟨x, hx, rfl⟩ := List.mem_map.mp hv
  exact xl (vals_lt hx) hs
theorem strings_ret {W : DX} {σ : DSt} {G : DH} (hl : l ≤ 4) (h : σ[0]? = some (some (.int l))) : Ret (dCall (sp_strings_of c) (dCons (dVar 0) dNil)) W σ G (.lst ((Rg l).map (bD l))) := dCall_ret _ (dConsA_ret (dVar_ret h) dNil_ret) fun Q E q => ⟨l, rfl, hl, q⟩
theorem b_shifts_of (T : Txt P w K mg base c) : Has P w K mg base 3 "shifts_of" s_shifts_of P_shifts_of (sp_shifts_of c) := by
  refine has_shifts_of T (b_strings_of T) (b_xor T) (fun ds G Q E ⟨_, _, e, _⟩ => by rw [e]; rfl) fun ds G Q E ⟨l, M, e, g, q⟩ => ?_
  subst e
  have h16 := p16 g.hi
  have hvl := vals_len (l := l) (M := M)
  have hp4 := g.hi
  refine seqSet (.lst ((Rg l).map fun s => .tup [bD l s, .lst ((sortN ((valsM l M).map fun v => v ^^^ s)).map (bD l))])) (dLcM_ret (bD l) _ (dIt_ret _ (strings_ret g.hi rfl) rfl) (by rw [Rg_len]; omega) fun s hs => ?_) ?_
  · refine dTup_ret (dConsA_ret (dVar_ret rfl) (dConsA_ret (dN_ret [.lst ((valsM l M).map fun v => bD l (v ^^^ s))] (dConsA_ret (dLcM_ret (xs := valsM l M) (bD l) (fun v => bD l (v ^^^ s)) (dIt_ret _ (dVar_ret rfl) rfl) (by omega) fun v hv => ?_) dNil_ret) ?_) dNil_ret)) (by simp)
    · exact dCall_ret _ (dConsA_ret (dVar_ret rfl) (dConsA_ret (dVar_ret rfl) dNil_ret)) fun Q E q => ⟨bsl l v, bsl l s, rfl, by rw [bsl_len]; omega, by rw [xorL_bsl]; exact q⟩
    · have e1 : ((valsM l M).map fun v => bD l (v ^^^ s)) = (((valsM l M).map fun v => v ^^^ s).map fun v => S (bsl l v)).map D.str := by rw [List.map_map, List.map_map]; rfl
      rw [e1, bD_map']
      exact sortedS_ret (by rw [List.length_map, List.length_map]; omega) fun ys hp hs2 => sortedS_bits (sh_lt (mem_Rg.mp hs)) hp hs2
  · refine dRet_ret (tupB l (keptN l M)) ?_ (RetW.same q)
    refine tupX_ret _ (dLc2F_ret (xs := Rg l) (fun s => bD l s) (fun s => .lst ((sortN ((valsM l M).map fun v => v ^^^ s)).map (bD l))) (fun s => bD l s) (keptP l M) (dIt_ret _ (dVar_ret rfl) rfl) (by rw [Rg_len]; omega) (fun s hs => ?_) fun s hs _ => dVar_ret rfl) rfl
    refine dTest_ret _ (dOp_ret _ _ (dVar_ret rfl) (lstX_ret _ (dVar_ret rfl) rfl) ?_)
    rw [bD_map, bD_map]
    refine eqStrs_ret smallc smallc ?_
    have hs' := mem_Rg.mp hs
    rw [Bool.eq_iff_iff, decide_eq_true_iff, map_bD_inj (fun v hv => sh_lt hs' v ((sortN_perm _).mem_iff.mp hv)) (fun v hv => vals_lt hv), kept_iff hs']
    unfold keptN keptP
    rw [List.mem_filter]
    exact ⟨fun h => h.2, fun h => ⟨hs, h⟩⟩
theorem seqChk {E : Exc → DH → Prop} {i : Int} {x : D} {k : Nat → (Nat → Bool) → Prop} {G : DH} {u : DTS} {Dn : DEnds} {σ : DSt} (h0 : σ[0]? = some (some (.int i))) (h1 : σ[1]? = some (some x)) (h : Chk c i x (E · G) k)
    (hk : ∀ l M, i = (l : Nat) → x = lotT l M → GoodL l M → k l M → u (fun x _ G' => ∃ G2, DL.Sub G2 G' ∧ E x G2) Dn σ G) :
    dSeq (dDrop (dCall (sp_check_length c) (dCons (dVar 0) (dCons (dK (.int 4)) dNil)))) (dSeq (dDrop (dCall (sp_check_lot c) (dCons (dVar 0) (dCons (dVar 1) dNil)))) u) (fun x _ G' => ∃ G2, DL.Sub G2 G' ∧ E x G2) Dn σ G := by
  refine seqDropCall _ (dConsA_ret (dVar_ret h0) (dConsA_ret dK_ret dNil_ret)) ⟨i, 4, rfl, fun hg => ?_, fun hb => ?_⟩
  · rcases h with ⟨hn, _⟩ | ⟨⟨n, rfl, n1, n4, ha, hf⟩, e⟩ | ⟨l, M, rfl, rfl, g, q⟩
    · exact (hn hg).elim
    · exact seqDropCall _ (dConsA_ret (dVar_ret h0) (dConsA_ret (dVar_ret h1) dNil_ret)) ⟨n, x, rfl, ha, fun k => (by rw [hf] at k; cases k.2.2), fun _ => ⟨G, Sub.refl, e⟩⟩
    · exact seqDropCall _ (dConsA_ret (dVar_ret h0) (dConsA_ret (dVar_ret h1) dNil_ret)) ⟨l, _, rfl, g.arg, fun _ => hk l M rfl rfl g q, fun k => (k ⟨g.lo, g.hi, g.lot⟩).elim⟩
  · rcases h with ⟨_, e⟩ | ⟨⟨n, rfl, n1, n4, _⟩, _⟩ | ⟨l, M, rfl, rfl, g, q⟩
    · exact ⟨G, Sub.refl, e⟩
    · exact (hb ⟨by omega, by omega⟩).elim
    · exact (hb ⟨by have := g.lo; omega, by have := g.hi; omega⟩).elim
theorem b_kept_shifts (T : Txt P w K mg base c) : Has P w K mg base 4 "kept_shifts" s_kept_shifts P_kept_shifts (sp_kept_shifts c) := by
  refine has_kept_shifts T (b_check_length T) (b_check_lot T) (b_shifts_of T) (fun ds G Q E ⟨_, _, e, _⟩ => by rw [e]; rfl) fun ds G Q E ⟨i, x, e, h⟩ => ?_
  subst e
  refine seqChk rfl rfl h fun l M e1 e2 g q => ?_
  subst e1 e2
  exact dRet_ret _ (dCall_ret _ (dConsA_ret (dVar_ret rfl) (dConsA_ret (dVar_ret rfl) dNil_ret)) fun Q E q => ⟨l, M, rfl, g, q⟩) (RetW.same q)
theorem eqF_str {a b : List Nat} : eqF (.str (S a)) (.str (S b)) = decide (a = b) := by
  show (S a == S b) = _
  rw [Bool.eq_iff_iff, beq_iff_eq, decide_eq_true_iff]; exact S_inj
theorem heard_val {a : Nat} (ha : a < 2 ^ l) : ((valsM l M).map (bD l)).any (fun z => eqF z (.str (S (bsl l a)))) = M a := by
  rw [List.any_map, Bool.eq_iff_iff, List.any_eq_true]
  constructor
  · rintro ⟨v, hv, e⟩
    have : decide (bsl l v = bsl l a) = true := by rw [← eqF_str]; exact e
    have e2 := (bsl_inj (vals_lt hv) ha).mp (of_decide_eq_true this)
    rw [← e2]; exact (vals_mem.mp hv).2
  · intro h
    exact ⟨a, vals_mem.mpr ⟨ha, h⟩, by show eqF (.str (S (bsl l a))) (.str (S (bsl l a))) = true; rw [eqF_str]; simp⟩
theorem heard_ret {W : DX} {σ : DSt} {G : DH} {i j : Nat} {p b : Nat} (hl : l ≤ 4) (h1 : σ[1]? = some (some (lotT l M))) (h2 : σ[i]? = some (some (bD l p))) (h3 : σ[j]? = some (some (bD l b))) (hp : p < 2 ^ l) (hb : b < 2 ^ l) :
    Ret (dCall (sp_is_heard c) (dCons (dVar 1) (dCons (dVar i) (dCons (dVar j) dNil)))) W σ G (.bl (M (p ^^^ b))) := dCall_ret _ (dConsA_ret (dVar_ret h1) (dConsA_ret (dVar_ret h2) (dConsA_ret (dVar_ret h3) dNil_ret))) fun Q E q =>
  ⟨(valsM l M).map (bD l), bsl l p, bsl l b, rfl, by rw [bsl_len]; omega, fun d hd => by obtain ⟨v, _, rfl⟩ := List.mem_map.mp hd; rfl, by rw [xorL_bsl, heard_val (xl hp hb)]; exact q⟩
theorem okD_bls {l : List Bool} : okDs (l.map D.bl) = true := by
  rw [okDs_all, List.all_eq_true]
  intro d hd
  obtain ⟨z, hz, rfl⟩ := List.mem_map.mp hd
  rfl
theorem dpDs_flat {l : List D} (h : ∀ d ∈ l, flatD d = true) : dpDs l = 0 := by
  have := dpDs_le (xs := l) (n := 0) fun d hd => by
    have := h d hd
    cases d <;> first | exact Nat.le_refl _ | cases this
  omega
theorem eqBls_ret {G : DH} {a b : List Bool} {p : Bool} (h : decide (a = b) = p) : ∀ Q : DK, Q (.bl p) G → qEq false (.lst (a.map .bl)) (.lst (b.map .bl)) G Q := fun Q q => by
  have fl : ∀ l : List Bool, dpDs (l.map D.bl) = 0 := fun l => dpDs_flat fun d hd => by obtain ⟨z, _, rfl⟩ := List.mem_map.mp hd; rfl
  refine ⟨eqOk_of (by unfold dview okD; exact okD_bls) (by unfold dview dpD; rw [fl]; decide), eqOk_of (by unfold dview okD; exact okD_bls) (by unfold dview dpD; rw [fl]; decide), ?_⟩
  have e : deq (.lst (a.map D.bl)) (.lst (b.map D.bl)) = p := by
    unfold deq toPy PyData.eqv
    rw [deq_blsL, ← h]
  show Q (.bl (deq (dview G (.lst _)) (dview G (.lst _)))) G
  unfold dview
  rw [e]; exact q
theorem b_parts_like (T : Txt P w K mg base c) : Has P w K mg base 3 "parts_like" s_parts_like P_parts_like (sp_parts_like c) := by
  refine has_parts_like T (b_strings_of T) (b_is_heard T) (fun ds G Q E ⟨_, _, _, e, _⟩ => by rw [e]; rfl) fun ds G Q E ⟨l, M, p, e, g, hp, q⟩ => ?_
  subst e
  have h16 := p16 g.hi
  refine seqSet _ (strings_ret g.hi rfl) ?_
  refine seqSet (.lst ((Rg l).map fun b => .bl (M (p ^^^ b)))) (dLcM_ret (bD l) _ (dIt_ret _ (dVar_ret rfl) rfl) (by rw [Rg_len]; omega) fun b hb => heard_ret g.hi rfl rfl rfl hp (mem_Rg.mp hb)) ?_
  refine dRet_ret (tupB l (alikeN l M p)) ?_ (RetW.same q)
  refine tupX_ret _ (dLcFM_ret (xs := Rg l) (bD l) (bD l) (fun o => (Rg l).all fun b => M (o ^^^ b) == M (p ^^^ b)) (dIt_ret _ (dVar_ret rfl) rfl) (by rw [Rg_len]; omega) (fun o ho => ?_) fun o ho _ => dVar_ret rfl) rfl
  refine dTest_ret _ (dOp_ret (.lst ((Rg l).map fun b => .bl (M (o ^^^ b)))) _ (dLcM_ret (bD l) _ (dIt_ret _ (dVar_ret rfl) rfl) (by rw [Rg_len]; omega) fun b hb => heard_ret g.hi rfl rfl rfl (mem_Rg.mp ho) (mem_Rg.mp hb)) (dVar_ret rfl) ?_)
  have e1 : ∀ f : Nat → Bool, ((Rg l).map fun b => D.bl (f b)) = ((Rg l).map f).map D.bl := fun f => by rw [List.map_map]; rfl
  rw [e1, e1]
  refine eqBls_ret ?_
  rw [Bool.eq_iff_iff, decide_eq_true_iff, List.map_inj_left, List.all_eq_true]
  exact ⟨fun h b hb => beq_iff_eq.mpr (h b hb), fun h b hb => eq_of_beq (h b hb)⟩
theorem b_told_parts (T : Txt P w K mg base c) : Has P w K mg base 4 "told_parts" s_told_parts P_told_parts (sp_told_parts c) := by
  refine has_told_parts T (b_check_length T) (b_check_lot T) (b_parts_like T) (fun ds G Q E ⟨_, _, _, e, _⟩ => by rw [e]; rfl) fun ds G Q E ⟨i, x, p, e, h⟩ => ?_
  subst e
  refine seqChk rfl rfl h fun l M e1 e2 g ⟨v, ep, hv, q⟩ => ?_
  subst e1 e2 ep
  exact dRet_ret _ (dCall_ret _ (dConsA_ret (dVar_ret rfl) (dConsA_ret (dVar_ret rfl) (dConsA_ret (dVar_ret rfl) dNil_ret))) fun Q E q => ⟨l, M, v, rfl, g, hv, q⟩) (RetW.same q)
theorem b_is_told (T : Txt P w K mg base c) : Has P w K mg base 5 "is_told" s_is_told P_is_told (sp_is_told c) := by
  refine has_is_told T (b_kept_shifts T) (fun ds G Q E ⟨_, _, e, _⟩ => by rw [e]; rfl) fun ds G Q E ⟨i, x, e, h⟩ => ?_
  subst e
  refine dRet_i (dOp_i (dN_i (dCons_i (callV _ (dConsA_ret (dVar_ret rfl) (dConsA_ret (dVar_ret rfl) dNil_ret)) ⟨i, x, rfl, ?_⟩))))
  rcases h with ⟨hn, e⟩ | ⟨hb, e⟩ | ⟨l, M, rfl, rfl, g, q⟩
  · exact .inl ⟨hn, G, Sub.refl, e⟩
  · exact .inr (.inl ⟨hb, G, Sub.refl, e⟩)
  · refine .inr (.inr ⟨l, M, rfl, rfl, g, ?_⟩)
    dsimp only [dNil, dK]
    refine len_seq (xs := (keptN l M).map (bD l)) rfl ?_
    rw [List.length_map]
    refine (eqI_ret (dec_nat (b := 1))) _ ?_
    exact RetW.same q
theorem b_classes_of (T : Txt P w K mg base c) : Has P w K mg base 4 "classes_of" s_classes_of P_classes_of (sp_classes_of c) := by
  refine has_classes_of T (b_strings_of T) (b_parts_like T) (fun ds G Q E ⟨_, _, e, _⟩ => by rw [e]; rfl) fun ds G Q E ⟨l, M, e, g, q⟩ => ?_
  subst e
  have h16 := p16 g.hi
  refine seqSet (.lst ((Rg l).map fun p => tupB l (alikeN l M p))) (dLcM_ret (bD l) _ (dIt_ret _ (strings_ret g.hi rfl) rfl) (by rw [Rg_len]; omega) fun p hp => dCall_ret _ (dConsA_ret (dVar_ret rfl) (dConsA_ret (dVar_ret rfl) (dConsA_ret (dVar_ret rfl) dNil_ret))) fun Q E q => ⟨l, M, p, rfl, g, mem_Rg.mp hp, q⟩) ?_
  have ec : (classN l M).map (tupB l) = ((Rg l).filter (rep l M)).map fun p => tupB l (alikeN l M p) := by unfold classN; rw [List.map_map]; rfl
  rw [ec] at q
  refine dRet_ret _ ?_ (RetW.same q)
  refine tupX_ret _ (dLc2F_ret (xs := Rg l) (fun p => bD l p) (fun p => tupB l (alikeN l M p)) (fun p => tupB l (alikeN l M p)) (rep l M) ?_ (by rw [Rg_len]; omega) (fun p hp => ?_) fun p hp _ => dVar_ret rfl) rfl
  · rw [← zipD_map]
    exact dZip_ret _ _ (dConsA_ret (strings_ret g.hi rfl) (dConsA_ret (dVar_ret rfl) dNil_ret)) rfl rfl
  · have hp' := mem_Rg.mp hp
    cases e : alikeN l M p with
    | nil => have := alike_self (M := M) hp'; rw [e] at this; cases this
    | cons y r =>
      have hy : y < 2 ^ l := alike_lt (p := p) (M := M) (by rw [e]; exact List.mem_cons_self)
      refine dTest_ret _ (dOp_ret (bD l y) (bD l p) (ixX_ret _ 0 (dVar_ret rfl) dK_ret rfl DL.at0) (dVar_ret rfl) (eqS_ret ?_))
      unfold rep
      rw [e, Bool.eq_iff_iff, decide_eq_true_iff, bsl_inj hy hp', beq_iff_eq]
      simp
theorem b_classes (T : Txt P w K mg base c) : Has P w K mg base 5 "classes" s_classes P_classes (sp_classes c) := by
  refine has_classes T (b_check_length T) (b_check_lot T) (b_classes_of T) (fun ds G Q E ⟨_, _, e, _⟩ => by rw [e]; rfl) fun ds G Q E ⟨i, x, e, h⟩ => ?_
  subst e
  refine seqChk rfl rfl h fun l M e1 e2 g q => ?_
  subst e1 e2
  exact dRet_ret _ (dCall_ret _ (dConsA_ret (dVar_ret rfl) (dConsA_ret (dVar_ret rfl) dNil_ret)) fun Q E q => ⟨l, M, rfl, g, q⟩) (RetW.same q)
end
end K75

namespace K75
open PySem PySem.Spec L2 DL
section
variable {P : Program} {w : World} {K : PySem.W.Frag} {mg : Str → Option Value} {base : Heap} {c : Cs} {l : Nat} {M : Nat → Bool}
theorem b_hand (T : Txt P w K mg base c) : Has P w K mg base 1 "_law_hand" s__law_hand P__law_hand (sp__law_hand c) := by
  refine has__law_hand T (fun ds G Q E ⟨_, e, _⟩ => by rw [e]; rfl) fun ds G Q E ⟨ns, e, hl, q⟩ => ?_
  subst e
  refine dRet_i (dLst_i (dCons_i (dLc_i (xs := ns.map .int) (dIt_ret _ (dVar_ret rfl) rfl) (by simp; omega) ?_)))
  refine comp1M (xs := ns) D.int (fun n => .int (n % 10 ^ 60)) (fun n hn => modR (intR (dVar_ret rfl)) (powR (n := 60) dK_ret dK_ret (by decide) (by decide)) (by decide)) fun p np => ?_
  refine ⟨le_sz (by simp), fun p2 np2 => ?_⟩
  have ne : p2 ≠ p := by rintro rfl; rw [dupd_same] at np2; cases np2
  have np2' : G p2 = none := by rw [dupd_ne ne] at np2; exact np2
  refine RetW.sub (G' := dupd (dupd G p (.hid hq)) p2 (.hid (ha p))) ?_ (q p2 _ np2' ⟨p, ne, dupd_same, by rw [dupd_ne ne.symm, dupd_same]⟩ fun b o e => ?_)
  · exact (Sub.both (Sub.hide ⟨ns.map fun n => n % 10 ^ 60, by rw [List.map_map]; rfl, by simpa using hl, fun n hn => by
      obtain ⟨m, _, rfl⟩ := List.mem_map.mp hn
      exact ⟨Int.emod_nonneg _ (by decide), Int.emod_lt_of_pos _ (by decide)⟩⟩)).trans (Sub.hide (φ := ha p) ⟨0, rfl⟩)
  · rw [dupd_ne (dne_of e np2'), dupd_ne (dne_of e np)]; exact e
theorem b_take (T : Txt P w K mg base c) : Has P w K mg base 1 "_law_take" s__law_take P__law_take (sp__law_take c) := by
  refine has__law_take T (fun ds G Q E ⟨_, _, e, _⟩ => by rw [e]; rfl) fun ds G Q E ⟨a, m, e, ⟨q, ne, h1, h2⟩, hm, k⟩ => ?_
  subst e
  refine ⟨a, ha q, h1, fun ds ⟨k0, e⟩ => ?_⟩
  subst e
  refine ⟨q, hq, by rw [dupd_ne ne.symm]; exact h2, fun ds ⟨ns, e, hl, hn⟩ => ?_⟩
  subst e
  have ea : dupd (dupd G a (.lst [.ref q, .int k0])) q (.lst (ns.map .int)) a = some (.lst [.ref q, .int k0]) := by rw [dupd_ne ne, dupd_same]
  refine seqSet _ (ixR (dVar_ret rfl) dK_ret ea DL.at0) ?_
  refine seqSet _ (ixR (dVar_ret rfl) dK_ret ea DL.at1) ?_
  refine seqPut a _ 1 1 _ (addR (dVar_ret rfl) dK_ret) (dVar_ret rfl) dK_ret ea rfl ?_
  -- the ledger from here on
  obtain ⟨G1, hG1⟩ : ∃ G1, G1 = dupd (dupd (dupd G a (.lst [.ref q, .int k0])) q (.lst (ns.map .int))) a (.lst ([D.ref q, .int k0].set 1 (.int ((k0 : Int) + 1)))) := ⟨_, rfl⟩
  rw [← hG1]
  have f1 : G1 a = some (.lst [.ref q, .int ((k0 + 1 : Nat) : Int)]) := by rw [hG1, dupd_same]; rfl
  have f2 : G1 q = some (.lst (ns.map .int)) := by rw [hG1, dupd_ne ne.symm, dupd_same]
  have f3 : ∀ b, b ≠ a → b ≠ q → G1 b = G b := fun b n1 n2 => by rw [hG1, dupd_ne n1, dupd_ne n2, dupd_ne n1]
  have fin : ∀ (G2 : DH) (ms : List Int), G2 a = some (.lst [.ref q, .int ((k0 + 1 : Nat) : Int)]) → G2 q = some (.lst (ms.map .int)) → ms.length ≤ 63 → (∀ n ∈ ms, 0 ≤ n ∧ n < 10 ^ 60) → (∀ b, b ≠ a → b ≠ q → G2 b = G b) → ∀ x : Int, RetW Q (.int (x % (m : Int))) G2 :=
    fun G2 ms e1 e2 e3 e4 e5 x => by
      obtain ⟨r, hr, e⟩ := emod_nat (x := x) hm
      rw [e]
      exact RetW.sub (hand_sub h1 h2 e1 e2 e3 e4 e5) (k r hr)
  clear hG1 ea
  refine seqSet _ (dVar_ret rfl) ?_
  -- what stands behind the test
  have tail : ∀ (cell : Int) (at' : Option D), (dSeq (dAsg (dOp qMod (dN qInt (dCons (dOp (qAdd false) (dOp (qAdd false) (dOp (qMul false) (dVar 4) (dK (.int 48271))) (dOp (qMul false) (dVar 3) (dK (.int 69621)))) (dK (.int 11))) dNil)) (dK (.int 2147483647))) (gSet 6))
 (dSeq (dAsg (dOp qMod (dN qInt (dCons (dOp (qAdd false) (dOp qFdiv (dOp (qMul false) (dVar 6) (dVar 6)) (dK (.int 4096))) (dVar 6)) dNil)) (dK (.int 2147483629))) (gSet 6))
 (dRet (dOp qMod (dOp qFdiv (dOp qMod (dN qInt (dCons (dOp (qAdd false) (dOp qFdiv (dOp (qMul false) (dVar 6) (dVar 6)) (dK (.int 4096))) (dOp (qMul false) (dVar 3) (dK (.int 7919)))) dNil)) (dK (.int 2147483629))) (dK (.int 7))) (dVar 1))))) (fun x _ G' => ∃ G2, DL.Sub G2 G' ∧ E x G2) { nx := fun _ G' => RetW Q .non G', rt := RetW Q } [some (.ref a), some (.int m), some (.ref q), some (.int k0), some (.int cell), at', none] G1 := fun cell at' => by
    have sq : ∀ y b : Int, 0 < b → b < 2 ^ 40 → -(2 ^ 64) < y % b ∧ y % b < 2 ^ 64 := fun y b h0 h1 => by
      have := Int.emod_nonneg y (b := b) (by omega)
      have := Int.emod_lt_of_pos y h0
      omega
    refine seqSet _ (modR (intR (addR (addR (mulR (dVar_ret rfl) dK_ret (.inr (by decide))) (mulR (dVar_ret rfl) dK_ret (.inr (by decide)))) dK_ret)) dK_ret (by decide)) ?_
    refine seqSet _ (modR (intR (addR (fdivR (mulR (dVar_ret rfl) (dVar_ret rfl) (.inl (sq _ _ (by decide) (by decide)))) dK_ret (by decide) (by decide)) (dVar_ret rfl))) dK_ret (by decide)) ?_
    exact dRet_ret _ (modR (fdivR (modR (intR (addR (fdivR (mulR (dVar_ret rfl) (dVar_ret rfl) (.inl (sq _ _ (by decide) (by decide)))) dK_ret (by decide) (by decide)) (mulR (dVar_ret rfl) dK_ret (.inr (by decide))))) dK_ret (by decide)) dK_ret (by decide) (by decide)) (dVar_ret rfl) (by omega)) (fin G1 ns f1 f2 hl hn f3 _)
  refine seqIf (decide ((0 : Int) < (ns.map D.int).length)) (dTest_ret _ (gtR (lenR (dVar_ret rfl) f2) dK_ret)) (fun hpos => ?_) fun _ => tail k0 none
  have hpos' : 0 < ns.length := by have := of_decide_eq_true hpos; simp at this; omega
  obtain ⟨j, hj, ej⟩ := emod_nat (x := (k0 : Int)) hpos'
  have lenE : ((ns.map D.int).length : Int) = (ns.length : Int) := by simp
  have hj2 : ns[j]? = some ns[j] := List.getElem?_eq_getElem hj
  have atj : L2.atI (ns.map D.int) (j : Int) = some (.int ns[j]) := DL.atI_nat (by rw [List.getElem?_map, hj2]; rfl)
  refine seqSet (.int j) (Ret.cast (modR (intR (dVar_ret rfl)) (lenR (dVar_ret rfl) f2) (by omega)) (by rw [lenE, ej])) ?_
  refine seqSet (.int ns[j]) (ixR (dVar_ret rfl) (dVar_ret rfl) f2 atj) ?_
  refine ifL (decide ((10 : Int) ^ 18 ≤ ns[j])) (dTest_ret _ (geR (dVar_ret rfl) (powR (n := 18) dK_ret dK_ret (by decide) (by decide)))) (fun _ => ?_) fun _ => tail ns[j] _
  have hnj := hn ns[j] (List.getElem_mem hj)
  refine seqPut q (ns.map .int) j j _ (fdivR (dVar_ret rfl) dK_ret (by decide) (by decide)) (dVar_ret rfl) (dVar_ret rfl) f2 (ixN_nat (by simpa using hj)) ?_
  refine dRet_ret _ (modR (modR (intR (dVar_ret rfl)) dK_ret (by decide)) (dVar_ret rfl) (by omega)) (fin _ (ns.set j (ns[j] / 1000003)) (by rw [dupd_ne ne]; exact f1) (by rw [dupd_same, List.map_set]) (by rw [List.length_set]; exact hl) (fun n hm => ?_) (fun b n1 n2 => by rw [dupd_ne n2]; exact f3 b n1 n2) _)
  rcases List.mem_or_eq_of_mem_set hm with h | h
  · exact hn n h
  · rw [h]
    have := hnj.1; have := hnj.2
    exact ⟨Int.ediv_nonneg hnj.1 (by decide), by omega⟩
end
end K75

namespace K75
open PySem PySem.Spec L2 DL
section
variable {P : Program} {w : World} {K : PySem.W.Frag} {mg : Str → Option Value} {base : Heap} {c : Cs} {l : Nat} {M : Nat → Bool}
/-! same -/
theorem same_step (T : Txt P w K mg base c) {k n : Nat} {spr : DSp} (h : Has P w K mg base k "_law_same" s__law_same P__law_same spr) (hs : n = 0 ∨ ∃ m, n = m + 1 ∧ spr = sp_same m) : Has P w K mg base (k + 1) "_law_same" s__law_same P__law_same (sp_same n) := by
  refine has__law_same T (Nat.zero_le _) h (fun ds G Q E ⟨_, e, _⟩ => by rw [e]; rfl) fun ds G Q E ⟨x, e, ok, q⟩ => ?_
  subst e
  cases x with
  | tup xs =>
    rcases hs with rfl | ⟨m, rfl, rfl⟩
    · cases ok
    · obtain ⟨hl, hx⟩ := (Bool.and_eq_true_iff.mp ok)
      have hl := of_decide_eq_true hl
      rw [List.all_eq_true] at hx
      refine seqIfL true (dTru_ret _ (isi1 _ (dVar_ret rfl) rfl kb_tt)) (fun _ => ?_) fun h => by cases h
      refine seqIfL false (dOr_ret false false (dNot_ret true (dTru_ret _ (isi1 _ (dVar_ret rfl) rfl kb_tt))) fun _ => dTest_ret _ (Ret.cast (neR (lenX_ret _ (dVar_ret rfl) rfl) (lenX_ret _ (dVar_ret rfl) rfl)) (by simp))) (fun h => by cases h) fun _ => ?_
      refine dRet_ret (.bl true) ?_ (RetW.same q)
      refine dOp_ret (.bl false) (.lst ((List.range xs.length).map fun _ => .bl true)) dK_ret (dLcM_ret (xs := List.range xs.length) nI (fun _ => .bl true) (fun Q q => dRng1_ret xs.length (dConsA_ret (lenX_ret _ (dVar_ret rfl) rfl) dNil_ret) (by omega) Q (by rw [rngD_nat]; exact q)) (by simp; omega) fun i hi => ?_) fun Q q => ?_
      · have hi' : i < xs.length := by simpa using hi
        have e := DL.atI_nat (List.getElem?_eq_getElem hi')
        exact dCall_ret _ (dConsA_ret (ixX_ret _ _ (dVar_ret rfl) (dVar_ret rfl) rfl e) (dConsA_ret (ixX_ret _ _ (dVar_ret rfl) (dVar_ret rfl) rfl e) dNil_ret)) fun Q E q => ⟨xs[i], rfl, hx _ (List.getElem_mem hi'), q⟩
      · refine ⟨⟨rfl, by rw [List.all_map, List.all_eq_true]; exact fun _ _ => rfl⟩, ?_⟩
        have e : (((List.range xs.length).map fun _ => D.bl true).any fun z => eqF z (.bl false)) = false := by
          rw [List.any_map, List.any_eq_false]; intro _ _ h; cases h
        rw [e]; exact q
  | non =>
    refine seqIfL false (dTru_ret _ (isi1 _ (dVar_ret rfl) rfl kb_nt)) (fun h => by cases h) fun _ => ?_
    refine seqIfL true (dTest_ret _ (dOp_ret _ _ (dVar_ret rfl) dK_ret fun Q q => q)) (fun _ => ?_) fun h => by cases h
    exact dRet_ret (.bl true) (dOp_ret _ _ (dVar_ret rfl) dK_ret fun Q q => q) (RetW.same q)
  | bl b =>
    refine seqIfL false (dTru_ret _ (isi1 _ (dVar_ret rfl) rfl kb_bt)) (fun h => by cases h) fun _ => ?_
    refine seqIfL false (dTest_ret _ (dOp_ret _ _ (dVar_ret rfl) dK_ret fun Q q => q)) (fun h => by cases h) fun _ => ?_
    refine seqIfL true (dTru_ret _ (isi1 _ (dVar_ret rfl) rfl kb_bb)) (fun _ => ?_) fun h => by cases h
    exact dRet_ret (.bl true) (dAndV_ret true true (isi1 _ (dVar_ret rfl) rfl kb_bb) fun _ => dOp_ret _ _ (dVar_ret rfl) (dVar_ret rfl) fun Q q => qEq_self rfl (Nat.zero_le _) q) (RetW.same q)
  | int b =>
    refine seqIfL false (dTru_ret _ (isi1 _ (dVar_ret rfl) rfl kb_it)) (fun h => by cases h) fun _ => ?_
    refine seqIfL false (dTest_ret _ (dOp_ret _ _ (dVar_ret rfl) dK_ret fun Q q => q)) (fun h => by cases h) fun _ => ?_
    refine seqIfL false (dTru_ret _ (isi1 _ (dVar_ret rfl) rfl kb_ib)) (fun h => by cases h) fun _ => ?_
    refine seqIfL true (dTru_ret _ (isi1 _ (dVar_ret rfl) rfl kb_ii)) (fun _ => ?_) fun h => by cases h
    exact dRet_ret (.bl true) (dAndV_ret true true (isi1 _ (dVar_ret rfl) rfl kb_ii) fun _ => dAndV_ret true true (dNotV_ret false (isi1 _ (dVar_ret rfl) rfl kb_ib)) fun _ => Ret.cast (eqR (dVar_ret rfl) (dVar_ret rfl)) (by simp)) (RetW.same q)
  | str b =>
    refine seqIfL false (dTru_ret _ (isi1 _ (dVar_ret rfl) rfl kb_st)) (fun h => by cases h) fun _ => ?_
    refine seqIfL false (dTest_ret _ (dOp_ret _ _ (dVar_ret rfl) dK_ret fun Q q => q)) (fun h => by cases h) fun _ => ?_
    refine seqIfL false (dTru_ret _ (isi1 _ (dVar_ret rfl) rfl kb_sb)) (fun h => by cases h) fun _ => ?_
    refine seqIfL false (dTru_ret _ (isi1 _ (dVar_ret rfl) rfl kb_si)) (fun h => by cases h) fun _ => ?_
    exact dRet_ret (.bl true) (dAndV_ret true true (isi1 _ (dVar_ret rfl) rfl kb_ss) fun _ => dOp_ret _ _ (dVar_ret rfl) (dVar_ret rfl) fun Q q => by show Q (.bl (decide (b = b))) _; rw [decide_eq_true rfl]; exact q) (RetW.same q)
  | _ => cases n <;> cases ok
theorem b_same (T : Txt P w K mg base c) : Has P w K mg base 3 "_law_same" s__law_same P__law_same (sp__law_same c) :=
  same_step T (same_step T (same_step T (k := 0) (n := 0) (has_none T.at__law_same) (.inl rfl)) (.inr ⟨0, rfl, rfl⟩)) (.inr ⟨1, rfl, rfl⟩)
/-! bits -/
theorem str_bit {b : Nat} (h : b < 2) : Str.ofString (toString (b : Int)) = S [48 + b] := by
  rcases (show b = 0 ∨ b = 1 by omega) with rfl | rfl
  · decide +kernel
  · decide +kernel
theorem b_lbits (T : Txt P w K mg base c) : Has P w K mg base 1 "_law_bits" s__law_bits P__law_bits (sp__law_bits c) := by
  refine has__law_bits T (fun ds G Q E ⟨_, _, e, _⟩ => by rw [e]; rfl) fun ds G Q E ⟨l, n, e, ⟨h1, h2⟩, q⟩ => ?_
  subst e
  refine seqSet (.str (S [])) (dKs_eq e_str) ?_
  refine seqRng l (fun k σ G' => ∃ v, σ = [some (.int l), some (.int n), some (bD k n), v] ∧ G' = G) (dConsA_ret (dVar_ret rfl) dNil_ret) (by omega) ⟨none, rfl, rfl⟩ (fun k σ G' hk ⟨v, e, eg⟩ nx hn => ?_) fun σ G' ⟨v, e, eg⟩ => ?_
  · subst e eg
    have hp : (2 : Nat) ^ k ≤ 2 ^ 64 := Nat.pow_le_pow_right (by decide) (by omega)
    have hp0 : 0 < (2 : Nat) ^ k := Nat.pow_pos (by decide)
    have c1 : (1 : Int) * 2 ^ k = ((2 ^ k : Nat) : Int) := by simp
    have c2 : (2 : Int) * 2 ^ k = ((2 ^ (k + 1) : Nat) : Int) := by rw [Nat.pow_succ]; push_cast; omega
    have ev : (n : Int) / ((1 : Int) * 2 ^ k) - (n : Int) / ((2 : Int) * 2 ^ k) * 2 = ((n / 2 ^ k % 2 : Nat) : Int) := by
      rw [c1, c2, ← Int.natCast_ediv, ← Int.natCast_ediv, Nat.pow_succ, ← Nat.div_div_eq_div_mul]
      have := Nat.div_add_mod (n / 2 ^ k) 2
      omega
    have hb : n / 2 ^ k % 2 < 2 := Nat.mod_lt _ (by decide)
    refine asgSet (bD (k + 1) n) (Ret.cast (catR (a := [48 + n / 2 ^ k % 2]) (b := bsl k n) (Ret.cast (strR (i := ((n / 2 ^ k % 2 : Nat) : Int)) (Ret.cast (subR (fdivR (dVar_ret rfl) (shlR (n := k) dK_ret (dVar_ret rfl) (by omega) (by decide)) (by rw [c1]; omega) (by rw [c1]; omega)) (mulR (fdivR (dVar_ret rfl) (shlR (n := k) dK_ret (dVar_ret rfl) (by omega) (by decide)) (by rw [c2]; rw [Nat.pow_succ]; omega) (by rw [c2]; rw [Nat.pow_succ]; omega)) dK_ret (.inr (by decide)))) (by rw [ev])) (by omega)) (by rw [str_bit hb])) (dVar_ret rfl) (by simp; omega)) (by unfold bD; rw [bsl_top]; rfl)) ?_
    exact hn _ _ ⟨_, rfl, rfl⟩
  · subst e eg
    exact dRet_ret _ (dVar_ret rfl) (RetW.same q)
/-! strings -/
theorem b_strings (T : Txt P w K mg base c) : Has P w K mg base 2 "_law_strings" s__law_strings P__law_strings (sp__law_strings c) := by
  refine has__law_strings T (b_lbits T) (fun ds G Q E ⟨_, _, e, _⟩ => by rw [e]; rfl) fun ds G Q E ⟨l, vs, e, ⟨h1, h2, h3⟩, q⟩ => ?_
  subst e
  exact dRet_ret (tupB l vs) (tupX_ret _ (dLcM_ret (xs := vs) nI (bD l) (dIt_ret _ (dVar_ret rfl) rfl) (by omega) fun v hv => dCall_ret _ (dConsA_ret (dVar_ret rfl) (dConsA_ret (dVar_ret rfl) dNil_ret)) fun Q E q => ⟨l, v, rfl, ⟨by omega, h3 v hv⟩, q⟩) rfl) (RetW.same q)
/-! marks -/
theorem marks_len : (marksD l M).length = 2 ^ l := by unfold marksD; rw [List.length_map, Rg_len]
theorem marks_get {v : Nat} (h : v < 2 ^ l) : L2.atI (marksD l M) (v : Int) = some (.int (mI (M v))) := DL.atI_nat (by
  unfold marksD Rg
  rw [List.getElem?_map, List.getElem?_range h]; rfl)
theorem b_said (T : Txt P w K mg base c) : Has P w K mg base 1 "_law_said" s__law_said P__law_said (sp__law_said c) := by
  refine has__law_said T (fun ds G Q E ⟨_, _, _, e, _⟩ => by rw [e]; rfl) fun ds G Q E ⟨l, M, v, e, hl, hv, q⟩ => ?_
  subst e
  have h16 := p16 hl
  refine dRet_ret _ (dLcM_ret (xs := Rg l) nI _ (fun Q q => dRng1_ret (2 ^ l) (dConsA_ret (Ret.cast (lenX_ret _ (dVar_ret rfl) rfl) (by rw [marks_len])) dNil_ret) (by omega) Q (by rw [rngD_nat]; exact q)) (by rw [Rg_len]; omega) fun b hb => ?_) (RetW.same q)
  exact ixX_ret _ _ (dVar_ret rfl) (xorR (dVar_ret rfl) (dVar_ret rfl)) rfl (marks_get (xl hv (mem_Rg.mp hb)))
theorem mI_inj {a b : Bool} : mI a = mI b ↔ a = b := by cases a <;> cases b <;> decide
theorem b_kept (T : Txt P w K mg base c) : Has P w K mg base 1 "_law_kept" s__law_kept P__law_kept (sp__law_kept c) := by
  refine has__law_kept T (fun ds G Q E ⟨_, _, e, _⟩ => by rw [e]; rfl) fun ds G Q E ⟨l, M, e, hl, q⟩ => ?_
  subst e
  have h16 := p16 hl
  refine seqNew dNil_ret (by decide) fun p np => ?_
  refine seqRng (2 ^ l) (fun k σ G' => ∃ v, σ = [some (.lst (marksD l M)), some (.ref p), v, none] ∧ G' = dupd G p (.lst (((List.range k).filter (keptP l M)).map nI))) (dConsA_ret (Ret.cast (lenX_ret _ (dVar_ret rfl) rfl) (by rw [marks_len])) dNil_ret) (by omega) ⟨none, rfl, rfl⟩ (fun k σ G' hk ⟨v, e, eg⟩ nx hn => ?_) fun σ G' ⟨v, e, eg⟩ => ?_
  · subst e eg
    refine ifL (keptP l M k) (dTest_ret _ (Ret.cast (eqR (lenX_ret (xs := ((Rg l).filter fun v => !decide (mI (M v) = mI (M (v ^^^ k)))).map nI) _ (dLcFM_ret (xs := Rg l) nI nI (fun v => !decide (mI (M v) = mI (M (v ^^^ k)))) (fun Q q => dRng1_ret (2 ^ l) (dConsA_ret (Ret.cast (lenX_ret _ (dVar_ret rfl) rfl) (by rw [marks_len])) dNil_ret) (by omega) Q (by rw [rngD_nat]; exact q)) (by rw [Rg_len]; omega)
      (fun v hv => dTest_ret _ (neR (ixX_ret _ _ (dVar_ret rfl) (dVar_ret rfl) rfl (marks_get (mem_Rg.mp hv))) (ixX_ret _ _ (dVar_ret rfl) (xorR (dVar_ret rfl) (dVar_ret rfl)) rfl (marks_get (xl (mem_Rg.mp hv) hk))))) fun v hv _ => dVar_ret rfl) rfl) dK_ret) ?_)) (fun h => ?_) fun h => ?_
    · congr 1
      rw [Bool.eq_iff_iff, decide_eq_true_iff, List.length_map]
      unfold keptP
      rw [List.all_eq_true, show (((Rg l).filter fun v => !decide (mI (M v) = mI (M (v ^^^ k)))).length : Int) = 0 ↔ ((Rg l).filter fun v => !decide (mI (M v) = mI (M (v ^^^ k)))).length = 0 by omega, List.length_eq_zero_iff, List.filter_eq_nil_iff]
      refine forall_congr' fun v => forall_congr' fun hv => ?_
      rw [Bool.not_eq_true, Bool.not_eq_false', decide_eq_true_iff, mI_inj, beq_iff_eq]
    · refine dDrop_append p _ (nI k) (dVar_ret rfl) dupd_same (dVar_ret rfl) (by rw [List.length_map]; have := List.length_filter_le (keptP l M) (List.range k); simp at this; omega) ?_
      refine hn _ _ ⟨_, rfl, ?_⟩
      rw [dupd_dupd, List.range_succ, List.filter_append, List.map_append]
      congr 2
      simp [h]
    · refine hn _ _ ⟨_, rfl, ?_⟩
      rw [List.range_succ, List.filter_append]
      simp [h]
  · subst e eg
    exact dRet_ret _ (dVar_ret rfl) (RetW.frz np q)
end
end K75

namespace K75
open PySem PySem.Spec L2 DL
section
variable {P : Program} {w : World} {K : PySem.W.Frag} {mg : Str → Option Value} {base : Heap} {c : Cs} {l : Nat} {M : Nat → Bool}
/-! classes -/
def knownN (l : Nat) (M : Nat → Bool) (v : Nat) : List Nat := ((List.range v).filter (rep l M)).flatMap (alikeN l M)
theorem sum_le {f : Nat → Nat} {m : Nat} : ∀ a : List Nat, (∀ x ∈ a, f x ≤ m) → (a.map f).sum ≤ a.length * m
  | [], _ => by simp
  | x :: a, h => by
    have h1 := h x (by simp)
    have h2 := sum_le a fun y hy => h y (List.mem_cons_of_mem _ hy)
    simp only [List.map_cons, List.sum_cons, List.length_cons, Nat.succ_mul]
    omega
theorem known_len {v : Nat} (hl : l ≤ 4) (hv : v ≤ 16) : (knownN l M v).length ≤ 256 := by
  unfold knownN
  rw [List.length_flatMap]
  refine Nat.le_trans (sum_le (m := 16) _ fun x _ => ?_) ?_
  · exact Nat.le_trans (by unfold alikeN; exact List.length_filter_le _ _) (by rw [Rg_len]; exact p16 hl)
  · have := List.length_filter_le (rep l M) (List.range v)
    rw [List.length_range] at this
    omega
theorem known_mem {v : Nat} (hv : v < 2 ^ l) : v ∈ knownN l M v ↔ rep l M v = false := by
  rw [← Bool.not_eq_true, rep_iff hv, Classical.not_not]
  unfold knownN
  rw [List.mem_flatMap]
  constructor
  · rintro ⟨p, hp, hm⟩
    rw [List.mem_filter, List.mem_range] at hp
    exact ⟨p, hp.1, hp.2, hm⟩
  · rintro ⟨p, h1, h2, h3⟩
    exact ⟨p, List.mem_filter.mpr ⟨List.mem_range.mpr h1, h2⟩, h3⟩
theorem b_lclasses (T : Txt P w K mg base c) : Has P w K mg base 3 "_law_classes" s__law_classes P__law_classes (sp__law_classes c) := by
  refine has__law_classes T (b_strings T) (fun ds G Q E ⟨_, _, e, _⟩ => by rw [e]; rfl) fun ds G Q E ⟨l, M, e, hl, q⟩ => ?_
  subst e
  have h16 := p16 hl
  refine seqNew dNil_ret (by decide) fun p np => ?_
  refine seqSet (.lst []) (dLst_ret dNil_ret) ?_
  refine seqRng (2 ^ l) (fun k σ G' => ∃ v x, σ = [some (.lst ((keptN l M).map nI)), some (.int l), some (.ref p), some (.lst ((knownN l M k).map nI)), v, x, none] ∧ G' = dupd G p (.lst (((List.range k).filter (rep l M)).map fun p => tupB l (alikeN l M p)))) (dConsA_ret (shl_ret dK_ret (dVar_ret rfl) (by omega)) dNil_ret) (by omega) ⟨none, none, rfl, rfl⟩ (fun k σ G' hk ⟨v, x, e, eg⟩ nx hn => ?_) fun σ G' ⟨v, x, e, eg⟩ => ?_
  · subst e eg
    refine ifL (rep l M k) (dTest_ret _ (Ret.cast (inR (m := true) (v := k) (vs := knownN l M k) (dVar_ret rfl) (dVar_ret rfl)) ?_)) (fun h => ?_) fun h => ?_
    · congr 1
      show (!decide (k ∈ knownN l M k)) = _
      cases e : rep l M k with
      | true => rw [decide_eq_false (fun h => by rw [(known_mem hk).mp h] at e; cases e)]; rfl
      | false => rw [decide_eq_true ((known_mem hk).mpr e)]; rfl
    · refine seqSet (.lst ((alikeN l M k).map nI)) (Ret.cast (sortR (vs := (keptN l M).map fun s => k ^^^ s) (Ret.cast (dLcM_ret (xs := keptN l M) nI (fun s => nI (k ^^^ s)) (dIt_ret _ (dVar_ret rfl) rfl) (by have : (keptN l M).length ≤ (Rg l).length := List.length_filter_le _ _; rw [Rg_len] at this; omega) fun s hs => xorR (dVar_ret rfl) (dVar_ret rfl)) (by rw [List.map_map]; rfl))) (by
        have := alike_sorted (l := l) (M := M) hk
        unfold sortN at this
        rw [this]; rfl)) ?_
      have la : (alikeN l M k).length ≤ 16 := Nat.le_trans (by unfold alikeN; exact List.length_filter_le _ _) (by rw [Rg_len]; exact h16)
      have lk : (knownN l M k).length ≤ 256 := known_len hl (by omega)
      refine seqSet (.lst ((knownN l M k).map nI ++ (alikeN l M k).map nI)) (catL (dVar_ret rfl) (dVar_ret rfl) rfl rfl (by simp; omega)) ?_
      refine dDrop_append p _ (tupB l (alikeN l M k)) (dVar_ret rfl) dupd_same (dCall_ret _ (dConsA_ret (dVar_ret rfl) (dConsA_ret (dVar_ret rfl) dNil_ret)) fun Q E q => ⟨l, alikeN l M k, rfl, ⟨hl, by omega, fun v hv => Nat.lt_of_lt_of_le (alike_lt hv) (Nat.pow_le_pow_right (by decide) (by omega))⟩, q⟩)
        (by rw [List.length_map]; have := List.length_filter_le (rep l M) (List.range k); simp at this; omega) ?_
      refine hn _ _ ⟨some (.int k), some (.lst ((alikeN l M k).map nI)), ?_, ?_⟩
      · rw [show knownN l M (k + 1) = knownN l M k ++ alikeN l M k by unfold knownN; rw [List.range_succ, List.filter_append, List.flatMap_append]; simp [h], List.map_append]; rfl
      · rw [dupd_dupd, List.range_succ, List.filter_append, List.map_append]
        congr 2
        simp [h]
    · refine hn _ _ ⟨some (.int k), x, ?_, ?_⟩
      · rw [show knownN l M (k + 1) = knownN l M k by unfold knownN; rw [List.range_succ, List.filter_append, List.flatMap_append]; simp [h]]; rfl
      · rw [List.range_succ, List.filter_append]
        simp [h]
  · subst e eg
    refine dRet_ret (.tup ((classN l M).map (tupB l))) (tupX_ret _ (dVar_ret rfl) ?_) (RetW.sub (Sub.upd np) q)
    rw [dseq_ref dupd_same]
    unfold classN
    rw [List.map_map]; rfl
/-! lots -/
def Mof (ds : List D) (v : Nat) : Bool := match ds[v]? with
  | some (.int i) => i == 1
  | _ => false
theorem Mof_marks {ds : List D} (hl : ds.length = 2 ^ l) (h : ∀ d ∈ ds, ∃ r : Nat, r < 2 ∧ d = nI r) : ds = marksD l (Mof ds) := by
  refine List.ext_getElem? fun i => ?_
  unfold marksD Rg
  rw [List.getElem?_map]
  by_cases hi : i < 2 ^ l
  · rw [List.getElem?_range hi]
    have hi2 : i < ds.length := by omega
    obtain ⟨r, hr, e⟩ := h ds[i] (List.getElem_mem hi2)
    have e2 : ds[i]? = some (nI r) := by rw [List.getElem?_eq_getElem hi2, e]
    have em : Mof ds i = ((r : Int) == 1) := by unfold Mof; rw [e2]; rfl
    show _ = some (D.int (mI (Mof ds i)))
    rw [e2, em]
    rcases (show r = 0 ∨ r = 1 by omega) with rfl | rfl <;> rfl
  · rw [List.getElem?_eq_none (by omega), List.getElem?_eq_none (by simp; omega)]; rfl
theorem marks_set {v : Nat} (hv : v < 2 ^ l) : (marksD l M).set v (.int 1) = marksD l (fun u => if u = v then true else M u) := by
  unfold marksD Rg
  refine List.ext_getElem? fun i => ?_
  rw [List.getElem?_set, List.getElem?_map, List.getElem?_map]
  by_cases hi : i < 2 ^ l
  · rw [List.getElem?_range hi]
    by_cases h : v = i
    · subst h
      rw [if_pos rfl, if_pos (by simpa using hi)]
      show some _ = some (D.int (mI (if v = v then true else M v)))
      rw [if_pos rfl]; rfl
    · rw [if_neg h]
      show some _ = some (D.int (mI (if i = v then true else M i)))
      rw [if_neg (fun e => h e.symm)]
  · rw [List.getElem?_eq_none (by simp; omega)]
    by_cases h : v = i
    · omega
    · rw [if_neg h]; rfl
theorem marks_sum : (marksD l M) = (((Rg l).map fun v => mI (M v)).map D.int) := by unfold marksD; rw [List.map_map]; rfl
theorem sum_no (h : ∀ v, v < 2 ^ l → M v = false) : ((Rg l).map fun v => mI (M v)).sum = 0 := by
  have : ((Rg l).map fun v => mI (M v)) = (Rg l).map fun _ => (0 : Int) := List.map_congr_left fun v hv => by rw [h v (mem_Rg.mp hv)]; rfl
  rw [this]
  induction Rg l with
  | nil => rfl
  | cons a r ih => simpa using ih
theorem sum_yes (h : ∀ v, v < 2 ^ l → M v = true) : ((Rg l).map fun v => mI (M v)).sum = ((2 ^ l : Nat) : Int) := by
  have : ((Rg l).map fun v => mI (M v)) = (Rg l).map fun _ => (1 : Int) := List.map_congr_left fun v hv => by rw [h v (mem_Rg.mp hv)]; rfl
  rw [this, ← Rg_len (l := l)]
  induction Rg l with
  | nil => rfl
  | cons a r ih => simp only [List.map_cons, List.sum_cons, ih, List.length_cons]; push_cast; omega
theorem sumR {te : DTE} {W : DX} {σ : DSt} {G : DH} {x : D} {ns : List Int} (h : Ret te W σ G x) (e : dlst G x = some (ns.map .int)) : Ret (dN qSum (dCons te dNil)) W σ G (.int ns.sum) := dN_ret _ (dConsA_ret h dNil_ret) fun Q q => by
  show (match (dlst G x).bind intsOf with | some ns => Q (.int ns.sum) G | none => False)
  rw [e, Option.bind_some, intsOf_map]; exact q
theorem take_i {W : DX} {σ : DSt} {G : DH} {Q : DK} {i : Nat} {te : DTE} {a : Addr} {m : Nat} (h1 : σ[i]? = some (some (.ref a))) (h2 : Ret te W σ G (.int m)) (hh : Hand a G) (hm : 0 < m) (k : ∀ r : Nat, r < m → Q (nI r) G) : dCall (sp__law_take c) (dCons (dVar i) (dCons te dNil)) W σ G Q :=
  callV _ (dConsA_ret (dVar_ret h1) (dConsA_ret h2 dNil_ret)) ⟨a, m, rfl, hh, hm, k⟩
theorem b_lot (T : Txt P w K mg base c) : Has P w K mg base 2 "_law_lot" s__law_lot P__law_lot (sp__law_lot c) := by
  refine has__law_lot T (b_take T) (fun ds G Q E ⟨_, _, e, _⟩ => by rw [e]; rfl) fun ds G Q E ⟨a, l, e, hh, ⟨l1, l4⟩, q⟩ => ?_
  subst e
  have h16 := p16 l4
  have h2 : 2 ≤ 2 ^ l := by have := Nat.pow_le_pow_right (n := 2) (by decide) l1; simpa using this
  refine seqSet _ (shl_ret dK_ret (dVar_ret rfl) (by omega)) ?_
  refine seqSet_i (dLc_i (xs := rngD 0 1 (2 ^ l)) (dRng1_ret _ (dConsA_ret (dVar_ret rfl) dNil_ret) (by omega)) (by rw [rngD_len]; omega) (compAny (fun d => ∃ r : Nat, r < 2 ∧ d = nI r) (fun d hd Q hq => take_i (m := 2) rfl dK_ret hh (by decide) fun r hr => hq _ ⟨r, hr, rfl⟩) fun ys hl hy p np => ?_))
  rw [rngD_len] at hl
  rw [Mof_marks hl hy]
  generalize Mof ys = M0
  have hh2 : ∀ o, Hand a (dupd G p o) := fun o => hh.new np
  refine seqSet_i (take_i (m := 4) rfl dK_ret (hh2 _) (by decide) fun kind hkind => ?_)
  refine seqRng kind (fun _ σ G' => ∃ x4 x6 x7 M, σ = [some (.ref a), some (.int l), some (.int ((2 ^ l : Nat) : Int)), some (.ref p), x4, some (nI kind), x6, x7] ∧ G' = dupd G p (.lst (marksD l M))) (dConsA_ret (dVar_ret rfl) dNil_ret) (by omega) ⟨_, _, _, M0, rfl, rfl⟩ (fun k σ G' hk ⟨x4, x6, x7, M, e, eg⟩ nx hn => ?_) fun σ G' ⟨x4, x6, x7, M, e, eg⟩ => ?_
  · subst e eg
    refine seqSet_i (dOp_i (dK_ret _ (take_i (m := 2 ^ l - 1) rfl (Ret.cast (subR (dVar_ret rfl) dK_ret) (by congr 1; omega)) (hh2 _) (by omega) fun r hr => ?_)))
    refine ifL (decide ((kind : Int) < 3)) (dTest_ret _ (ltR (dVar_ret rfl) dK_ret)) (fun _ => ?_) fun _ => hn _ _ ⟨_, _, _, M, rfl, rfl⟩
    refine (dRng1_ret (2 ^ l) (dConsA_ret (dVar_ret rfl) dNil_ret) (by omega)) _ ?_
    refine run_rng (fun _ σ G' => ∃ x4 M, σ = [some (.ref a), some (.int l), some (.int ((2 ^ l : Nat) : Int)), some (.ref p), x4, some (nI kind), some (.int (k : Nat)), some (.int (1 + (r : Int)))] ∧ G' = dupd G p (.lst (marksD l M))) (2 ^ l) (fun j σ G' hj ⟨x4, M, e, eg⟩ nx2 hn2 => ?_) (fun σ G' ⟨x4, M, e, eg⟩ => ?_) (2 ^ l) 0 (by omega) _ _ ⟨_, M, rfl, rfl⟩
    · subst e eg
      exact hn _ _ ⟨_, _, _, M, rfl, rfl⟩
    · subst e eg
      refine ifL (decide (mI (M j) = 1)) (dTest_ret _ (eqR (ixR (dVar_ret rfl) (dVar_ret rfl) dupd_same (marks_get hj)) dK_ret)) (fun _ => ?_) fun _ => hn2 _ _ ⟨_, M, rfl, rfl⟩
      have hx : j ^^^ (1 + r) < 2 ^ l := xl hj (by omega)
      refine asgPut p (marksD l M) ((j ^^^ (1 + r) : Nat) : Int) (j ^^^ (1 + r)) _ dK_ret (dVar_ret rfl) (xorR (b := 1 + r) (dVar_ret rfl) (Ret.cast (dVar_ret rfl) (by congr 1))) dupd_same (ixN_nat (by rw [marks_len]; exact hx)) ?_
      exact hn2 _ _ ⟨_, fun u => if u = j ^^^ (1 + r) then true else M u, rfl, by rw [dupd_dupd, marks_set hx]⟩
  · subst e eg
    have sums : ∀ {W}, Ret (dN qSum (dCons (dVar 3) dNil)) W [some (.ref a), some (.int l), some (.int ((2 ^ l : Nat) : Int)), some (.ref p), x4, some (nI kind), x6, x7] (dupd G p (.lst (marksD l M))) (.int ((Rg l).map fun v => mI (M v)).sum) := sumR (dVar_ret rfl) (by rw [dlst_ref dupd_same, marks_sum])
    refine seqIf _ (dOr_ret _ _ (dTest_ret _ (eqR (dVar_ret rfl) dK_ret)) fun _ => dOr_ret _ _ (dTest_ret _ (eqR sums dK_ret)) fun _ => dTest_ret _ (eqR sums (dVar_ret rfl))) (fun _ => ?_) fun h => ?_
    · refine seqMulL (d := .int 0) (n := 2 ^ l) (by omega) (dLst_ret (dConsA_ret dK_ret dNil_ret)) (dVar_ret rfl) fun p2 np2 => ?_
      have ne : p2 ≠ p := by rintro rfl; rw [dupd_same] at np2; cases np2
      have np2' : G p2 = none := by rw [dupd_ne ne] at np2; exact np2
      have e0 : List.replicate (2 ^ l) (D.int 0) = marksD l fun _ => false := by
        unfold marksD Rg
        rw [show (List.range (2 ^ l)).map (fun v => D.int (mI false)) = (List.range (2 ^ l)).map fun _ => D.int 0 from rfl, List.map_const', List.length_range]
      rw [e0]
      refine dK_ret _ ((dVar_ret rfl) _ (take_i (m := 2 ^ l) rfl (dVar_ret rfl) ((hh2 _).new np2) (by omega) fun r hr => ?_))
      refine set_ref (j := r) dupd_same (ixN_nat (by rw [marks_len]; exact hr)) ?_
      rw [dupd_dupd, marks_set hr]
      refine ⟨.ref p2, rfl, RetW.frz2 np2' ((Sub.upd np).trans (Sub.upd np2)) dupd_same (q _ ⟨l1, l4, ⟨r, hr, if_pos rfl⟩, ?_⟩)⟩
      by_cases h0 : r = 0
      · exact ⟨1, by omega, by rw [if_neg (by omega)]⟩
      · exact ⟨0, by omega, by rw [if_neg (by omega)]⟩
    · refine ⟨.ref p, rfl, RetW.frz np (q M ⟨l1, l4, ?_, ?_⟩)⟩
      · apply Classical.byContradiction
        intro hno
        have := sum_no (l := l) (M := M) fun v hv => by
          cases e : M v with
          | false => rfl
          | true => exact (hno ⟨v, hv, e⟩).elim
        rw [this] at h
        simp at h
      · apply Classical.byContradiction
        intro hno
        have := sum_yes (l := l) (M := M) fun v hv => by
          cases e : M v with
          | true => rfl
          | false => exact (hno ⟨v, hv, e⟩).elim
        rw [this] at h
        simp at h
end
end K75

namespace K75
open PySem PySem.Spec L2 DL
/-- how the text's error classes stand to each other -/
structure Exm (K : PySem.W.Frag) (c : Cs) : Prop where
  tt : PySem.W.exmOne K (.ref c.BadTable) (.ref c.BadTable) = some true
  ct : PySem.W.exmOne K (.ref c.BadChoice) (.ref c.BadTable) = some false
  cc : PySem.W.exmOne K (.ref c.BadChoice) (.ref c.BadChoice) = some true
  kb : PySem.W.kitOne K (.ref c.BadChoice) (.ref c.BadBlock) = some false
  kv : PySem.W.kitOne K (.ref c.BadChoice) (.type "ValueError") = some true
  ec : ExcC K c.BadChoice
section
variable {P : Program} {w : World} {K : PySem.W.Frag} {mg : Str → Option Value} {base : Heap} {c : Cs} {l : Nat} {M : Nat → Bool}
theorem eqC {k : Nat} {n : Int} {W : DX} {σ : DSt} {G : DH} (b : Bool) (h : σ[0]? = some (some (.int (k : Nat)))) (e : decide ((k : Int) = n) = b) : RetT (dTest (dOp (qEq false) (dVar 0) (dK (.int n)))) W σ G b := dTest_ret _ (e ▸ eqR (dVar_ret h) dK_ret)
theorem b_refused (T : Txt P w K mg base c) (X : Exm K c) : Has P w K mg base 6 "_law_refused" s__law_refused P__law_refused (sp__law_refused c) := by
  refine has__law_refused T (b_kept_shifts T) (b_told_parts T) (b_is_told T) (b_classes T) (b_hole T) (fun ds G Q E ⟨_, _, _, _, e, _⟩ => by rw [e]; rfl) fun ds G Q E ⟨k, i, x, p, e, hp, h⟩ => ?_
  subst e
  -- what a refusal comes to
  have hk : k < 4 ∨ k = 4 := by rcases h with h | h | h <;> first | exact .inl h.1 | exact .inr h.1
  let hs : List (Addr × Option Nat × DSuite) := [(c.BadTable, (some 4), fun x a => (dRet (dTup (dCons (dK (.str "table")) (dCons (dXf c.BadTable a x "value" (dVar 4)) dNil))))),
    (c.BadChoice, (some 4), fun x a => (dRet (dTup (dCons (dK (.str "choice")) (dCons (dOrV (dIsE K a x (dCons (dVar 4) (dCons (dK (.ref c.BadBlock)) dNil))) (dNotV (dIsE K a x (dCons (dVar 4) (dCons (dK (.ty "ValueError")) dNil))))) dNil))))),
    (c.BreakError, none, fun x a => (dRet (dTup (dCons (dK (.str "other")) (dCons (dK .non) dNil)))))]
  have hT : ∀ {W : DX} {Dn : DEnds} {σ : DSt}, σ.length = 5 → Dn.rt (.tup [.str "table", x]) G → dHandle K hs (exT c x) W Dn σ G := fun {W Dn σ} hl hq => by
    refine ⟨true, X.tt, fun _ a na => ?_, fun h => by cases h⟩
    have e4 : (σ.set 4 (some (.ref a)))[4]? = some (some (.ref a)) := by rw [List.getElem?_set]; simp [hl]
    exact dRet_ret (.tup [.str "table", x]) (dTup_ret (dConsA_ret dK_ret (dConsA_ret (fun Q q => ⟨_, e4, rfl, rfl, rfl, q⟩) dNil_ret)) (by simp)) hq
  have hC : ∀ {W : DX} {Dn : DEnds} {σ : DSt}, σ.length = 5 → Dn.rt (.tup [.str "choice", .bl false]) G → dHandle K hs (exC c) W Dn σ G := fun {W Dn σ} hl hq => by
    refine ⟨false, X.ct, fun h => (by cases h), fun _ => ⟨true, X.cc, fun _ a na => ?_, fun h => by cases h⟩⟩
    have e4 : (σ.set 4 (some (.ref a)))[4]? = some (some (.ref a)) := by rw [List.getElem?_set]; simp [hl]
    have is1 : ∀ {W : DX} (y : D) (cv : Value) (r : Bool), clsD y cv → PySem.W.kitOne K (.ref c.BadChoice) cv = some r → Ret (dIsE K a (exC c) (dCons (dVar 4) (dCons (dK y) dNil))) W (σ.set 4 (some (.ref a))) G (.bl r) := fun y cv r h1 h2 Q q => ⟨_, e4, ⟨rfl, rfl, X.ec⟩, cv, r, h1, h2, q⟩
    exact dRet_ret (.tup [.str "choice", .bl false]) (dTup_ret (dConsA_ret dK_ret (dConsA_ret (dOrV_ret false false (is1 (.ref c.BadBlock) (.ref c.BadBlock) false rfl X.kb) fun _ => dNotV_ret true (is1 (.ty "ValueError") (.type "ValueError") true rfl X.kv)) dNil_ret)) (by simp)) hq
  -- the four that look at l and the lot
  have chk : ∀ {W : DX} {Dn : DEnds} {σ : DSt} {kk : Nat → (Nat → Bool) → Prop}, k < 4 → σ.length = 5 → Dn.rt = RetW Q → Chk c i x (fun y => dHandle K hs y W Dn σ G) kk := fun {W Dn σ kk} h4 hl hr => by
    rcases h with ⟨_, hb, q⟩ | ⟨_, hb, q⟩ | ⟨h5, _⟩
    · exact .inr (.inl ⟨hb, hT hl (by rw [hr]; exact RetW.same q)⟩)
    · exact .inl ⟨hb, hC hl (by rw [hr]; exact RetW.same q)⟩
    · omega
  rcases (show k = 0 ∨ k = 1 ∨ k = 2 ∨ k = 3 ∨ k = 4 by omega) with rfl | rfl | rfl | rfl | rfl
  · exact ifL true (eqC true rfl rfl) (fun _ => dDrop_call _ (dConsA_ret (dVar_ret rfl) (dConsA_ret (dVar_ret rfl) dNil_ret)) ⟨i, x, rfl, chk (by omega) rfl rfl⟩) fun h => by cases h
  · exact ifL false (eqC false rfl rfl) (fun h => by cases h) fun _ => ifL true (eqC true rfl rfl) (fun _ => dDrop_call _ (dConsA_ret (dVar_ret rfl) (dConsA_ret (dVar_ret rfl) (dConsA_ret (dVar_ret rfl) dNil_ret))) ⟨i, x, _, rfl, chk (by omega) rfl rfl⟩) fun h => by cases h
  · exact ifL false (eqC false rfl rfl) (fun h => by cases h) fun _ => ifL false (eqC false rfl rfl) (fun h => by cases h) fun _ => ifL true (eqC true rfl rfl) (fun _ => dDrop_call _ (dConsA_ret (dVar_ret rfl) (dConsA_ret (dVar_ret rfl) dNil_ret)) ⟨i, x, rfl, chk (by omega) rfl rfl⟩) fun h => by cases h
  · exact ifL false (eqC false rfl rfl) (fun h => by cases h) fun _ => ifL false (eqC false rfl rfl) (fun h => by cases h) fun _ => ifL false (eqC false rfl rfl) (fun h => by cases h) fun _ => ifL true (eqC true rfl rfl) (fun _ => dDrop_call _ (dConsA_ret (dVar_ret rfl) (dConsA_ret (dVar_ret rfl) dNil_ret)) ⟨i, x, rfl, chk (by omega) rfl rfl⟩) fun h => by cases h
  · rcases h with ⟨h4, _⟩ | ⟨h4, _⟩ | ⟨_, ha, hL, q⟩
    · omega
    · omega
    · exact ifL false (eqC false rfl rfl) (fun h => by cases h) fun _ => ifL false (eqC false rfl rfl) (fun h => by cases h) fun _ => ifL false (eqC false rfl rfl) (fun h => by cases h) fun _ => ifL false (eqC false rfl rfl) (fun h => by cases h) fun _ =>
        dDrop_call _ (dConsA_ret (dVar_ret rfl) (dConsA_ret (dVar_ret rfl) (dConsA_ret (dVar_ret rfl) dNil_ret))) ⟨x, p, p, rfl, hp, ha, fun _ => hT rfl (RetW.same q), fun xs _ hn => (hn hL).elim⟩
end
end K75

namespace DL
open PySem PySem.Spec L2
section
variable {te ta tb : DTE} {t : DTA} {W : DX} {σ : DSt} {G : DH} {d x y : D} {Q : DK} {m : Bool}
theorem mulS {a : List Nat} {n : Nat} (hn : n ≤ 1000) (ha : a.length ≤ 1000) (h1 : Ret ta W σ G (.str (S a))) (h2 : Ret tb W σ G (.int n)) : Ret (dOp (qMul m) ta tb) W σ G (.str (S (List.replicate n a).flatten)) := dOp_ret _ _ h1 h2 fun Q q => ⟨⟨by omega, by omega, by rw [S_len]; exact ha⟩, by
  have : (n : Int).toNat = n := by omega
  rw [this]; exact q⟩
theorem sIx_neg1 {n d : Nat} (h : 0 < n) : HT.sIx n d (some (-1)) = n - 1 := by
  show (if (-1 : Int) < 0 then ((-1 : Int) + (n : Int)).toNat else min (-1 : Int).toNat n) = _
  rw [if_pos (by decide)]
  omega
theorem cut_last {xs : List D} {d : D} : cutL (xs ++ [d]) (some (-1)) none = [d] := by
  unfold cutL
  rw [sIx_neg1 (by simp), HT.sIx_none]
  simp
theorem rep48 (x : Nat) : ∀ n : Nat, (List.replicate n [x]).flatten = List.replicate n x
  | 0 => rfl
  | n + 1 => by rw [List.replicate_succ, List.flatten_cons, rep48 x n, List.replicate_succ]; rfl
end
end DL
namespace K75
open PySem PySem.Spec L2 DL
section
variable {P : Program} {w : World} {K : PySem.W.Frag} {mg : Str → Option Value} {base : Heap} {c : Cs} {l : Nat} {M : Nat → Bool}
structure Odd (l : Nat) (x : D) : Prop where
  arg : LotArg x
  no : isLotD l x = false
  ok : okD x = true
  dp : dpD x ≤ 2
structure Odd2 (x : D) : Prop where
  arg : LotArg x
  no : lotLen x = none
  ok : okD x = true
  dp : dpD x ≤ 2
def fl (d : D) : Prop := smallF d ∧ okD d = true
theorem fl_S {a : List Nat} (hl : a.length ≤ 64) (h : ∀ c ∈ a, c < 0x110000) : fl (.str (S a)) := ⟨⟨rfl, fun z e => by cases e; rw [S_len]; exact hl⟩, okS h⟩
theorem fl_bD {v : Nat} (hl : l ≤ 64) : fl (bD l v) := fl_S (by rw [bsl_len]; exact hl) fun c hc => by rcases bsl_mem hc with rfl | rfl <;> decide
theorem dp_flat {d : D} (h : flatD d = true) : dpD d = 0 := by cases d <;> first | rfl | cases h
theorem tup_fl {ds : List D} (hl : ds.length ≤ 64) (h : ∀ d ∈ ds, fl d) : LotArg (.tup ds) ∧ okD (.tup ds) = true ∧ dpD (.tup ds) ≤ 2 := by
  refine ⟨⟨hl, fun d hd => (h d hd).1⟩, by unfold okD; rw [okDs_all, List.all_eq_true]; exact fun d hd => (h d hd).2, ?_⟩
  unfold dpD
  rw [dpDs_flat fun d hd => (h d hd).1.1]; decide
theorem no_bits {ds : List D} {d : D} (hd : d ∈ ds) (h : isBitsD l d = false) : isLotD l (.tup ds) = false := by
  have : ds.all (isBitsD l) = false := by rw [List.all_eq_false]; exact ⟨d, hd, by rw [h]; exact nofun⟩
  show ((_ && _) && (ds.all (isBitsD l) && _)) = false
  rw [this]; simp
theorem no_asc {ds : List D} {p : D × D} (hp : p ∈ ds.zip (ds.drop 1)) (h : ltD p.1 p.2 = false) : isLotD l (.tup ds) = false := by
  have : ((ds.zip (ds.drop 1)).all fun p => ltD p.1 p.2) = false := by rw [List.all_eq_false]; exact ⟨p, hp, by rw [h]; exact nofun⟩
  show ((_ && _) && (_ && ((ds.zip (ds.drop 1)).all fun p => ltD p.1 p.2))) = false
  rw [this]; simp
theorem twice_mem {a : D} : ∀ A : List D, (a, a) ∈ (A ++ [a, a]).zip ((A ++ [a, a]).drop 1)
  | [] => by simp
  | [x] => by simp
  | x :: y :: A => by
    have := twice_mem (a := a) (y :: A)
    simp only [List.cons_append, List.drop_one, List.tail_cons, List.zip_cons_cons] at this ⊢
    exact List.mem_cons_of_mem _ this
theorem lt_self {z : Str} : ltD (.str z) (.str z) = false := by
  show decide (z.cps.toList < z.cps.toList) = false
  exact decide_eq_false (List.lt_irrefl _)
def zr (l : Nat) : List Nat := List.replicate l 48
theorem zr_fl (hl : l ≤ 64) : fl (.str (S (zr l))) := fl_S (by unfold zr; simpa using hl) fun c hc => by rw [List.eq_of_mem_replicate hc]; decide
def odd1 (l : Nat) (M : Nat → Bool) : List D := [.tup [], tupB l (Rg l), .lst ((valsM l M).map (bD l)), .tup ((valsM l M).map (bD l) ++ cutL ((valsM l M).map (bD l)) (some (-1)) none), .tup [bD l 1, bD l 0], .tup ((valsM l M).map fun v => .str (S (48 :: bsl l v))), .non]
def odd2 (l : Nat) (M : Nat → Bool) : List D := [.tup [.str (S (zr l)), .int 0], .tup [.str (S ((zr l).take (l - 1) ++ [50]))], .tup ([.str (S (zr l))] ++ [.str (S (zr l))]), .tup ((valsM l M).map (bD l) ++ [.non]), .str (S (zr l)), .tup [.str (S [])], .tup [.bl true]]
theorem odd_all (g : GoodL l M) : ∀ x ∈ odd1 l M ++ odd2 l M, Odd l x := by
  have h16 := p16 g.hi
  have hl4 := g.hi
  have hl1 := g.lo
  have h2 : 2 ≤ 2 ^ l := by have := Nat.pow_le_pow_right (n := 2) (by decide) hl1; simpa using this
  have hv := vals_len (l := l) (M := M)
  have fB : ∀ v, fl (bD l v) := fun v => fl_bD (by omega)
  have fV : ∀ d ∈ (valsM l M).map (bD l), fl d := fun d hd => by obtain ⟨v, _, rfl⟩ := List.mem_map.mp hd; exact fB v
  have mk : ∀ {ds : List D}, ds.length ≤ 64 → (∀ d ∈ ds, fl d) → isLotD l (.tup ds) = false → Odd l (.tup ds) := fun h1 h2 h3 => ⟨(tup_fl h1 h2).1, h3, (tup_fl h1 h2).2.1, (tup_fl h1 h2).2.2⟩
  have two : ∀ {a b : D}, fl a → fl b → ∀ d ∈ [a, b], fl d := fun ha hb d hd => by
    rcases List.mem_cons.mp hd with rfl | hd
    · exact ha
    · rw [List.mem_singleton.mp hd]; exact hb
  have one : ∀ {a : D}, fl a → ∀ d ∈ [a], fl d := fun ha d hd => by rw [List.mem_singleton.mp hd]; exact ha
  have z := zr_fl (l := l) (by omega)
  unfold odd1 odd2
  simp only [List.cons_append, List.nil_append, List.forall_mem_cons]
  refine ⟨mk (by simp) (by simp) rfl, mk (by simp [Rg_len]; omega) (fun d hd => ?_) ?_, ?_, ?_, mk (by simp) (two (fB 1) (fB 0)) ?_, mk (by simp; omega) (fun d hd => ?_) ?_, ⟨trivial, rfl, rfl, by decide⟩, mk (by simp) (two z ⟨⟨rfl, nofun⟩, rfl⟩) (no_bits (d := .int 0) (by simp) rfl), mk (by simp) (one (fl_S ?_ ?_)) ?_, mk (by simp) (two z z) (no_asc (p := (.str (S (zr l)), .str (S (zr l)))) (by simp) lt_self), mk (by simp; omega) (fun d hd => ?_) (no_bits (d := .non) (by simp) rfl), ?_, mk (by simp) (one (fl_S (by simp) (by simp))) (no_bits (d := .str (S [])) (by simp) ?_), mk (by simp) (one ⟨⟨rfl, nofun⟩, rfl⟩) (no_bits (d := .bl true) (by simp) rfl), nofun⟩
  · obtain ⟨v, _, rfl⟩ := List.mem_map.mp hd; exact fB v
  · show ((decide (0 < ((Rg l).map (bD l)).length) && decide (((Rg l).map (bD l)).length < 2 ^ l)) && _) = false
    rw [List.length_map, Rg_len]; simp
  · refine ⟨trivial, rfl, ?_, ?_⟩
    · unfold okD; rw [okDs_all, List.all_eq_true]; exact fun d hd => (fV d hd).2
    · unfold dpD; rw [dpDs_flat fun d hd => (fV d hd).1.1]; decide
  · obtain ⟨V0, v, e⟩ : ∃ V0 v, valsM l M = V0 ++ [v] := ⟨_, _, (List.dropLast_concat_getLast (List.ne_nil_of_length_pos g.pos)).symm⟩
    have e2 : (valsM l M).map (bD l) ++ cutL ((valsM l M).map (bD l)) (some (-1)) none = V0.map (bD l) ++ [bD l v, bD l v] := by rw [e, List.map_append]; simp only [List.map_cons, List.map_nil]; rw [cut_last]; simp
    rw [e2]
    have le : V0.length ≤ 16 := by have := congrArg List.length e; simp at this; omega
    refine mk (by simp; omega) (fun d hd => ?_) (no_asc (p := (bD l v, bD l v)) (twice_mem _) lt_self)
    rcases List.mem_append.mp hd with hd | hd
    · obtain ⟨v, _, rfl⟩ := List.mem_map.mp hd; exact fB v
    · exact two (fB v) (fB v) d hd
  · exact no_asc (p := (bD l 1, bD l 0)) (by simp) (by rw [lt_bD (by omega) (by omega)]; rfl)
  · obtain ⟨v, _, rfl⟩ := List.mem_map.mp hd
    exact fl_S (by simp; omega) fun c hc => by
      rcases List.mem_cons.mp hc with rfl | hc
      · decide
      · rcases bsl_mem hc with rfl | rfl <;> decide
  · obtain ⟨v, hv⟩ := List.exists_mem_of_length_pos g.pos
    refine no_bits (d := .str (S (48 :: bsl l v))) (List.mem_map.mpr ⟨v, hv, rfl⟩) ?_
    show (decide (((S (48 :: bsl l v)).length : Int) = l) && _) = false
    rw [S_len, List.length_cons, bsl_len, decide_eq_false (by omega)]; rfl
  · simp [zr]; omega
  · intro c hc
    rcases List.mem_append.mp hc with hc | hc
    · rw [List.eq_of_mem_replicate (List.mem_of_mem_take hc)]; decide
    · rw [List.mem_singleton.mp hc]; decide
  · refine no_bits (List.mem_singleton.mpr rfl) ?_
    show (_ && (S ((zr l).take (l - 1) ++ [50])).cps.toList.all bitC) = false
    have : ((zr l).take (l - 1) ++ [50]).all bitC = false := by rw [List.all_append]; simp; intro _; decide
    simp [S, this]
  · rcases List.mem_append.mp hd with hd | hd
    · exact fV d hd
    · rw [List.mem_singleton.mp hd]; exact ⟨⟨rfl, nofun⟩, rfl⟩
  · exact ⟨trivial, rfl, z.2, Nat.zero_le _⟩
  · show (decide (((S []).length : Int) = l) && _) = false
    rw [S_len, decide_eq_false (by simp; omega)]; rfl
def bad2 (l : Nat) (M : Nat → Bool) : List D := [.tup [], tupB l (Rg l), .lst ((valsM l M).map (bD l)), .tup [bD l 1, bD l 0], .non]
theorem lotLen_of {z : Str} {r : List D} (h : isLotD z.length (.tup (.str z :: r)) = false) : lotLen (.tup (.str z :: r)) = none := by
  unfold lotLen
  simp only
  rw [if_neg fun k => by rw [h] at k; cases k.2.2]
theorem lotLen_bD {v : Nat} {r : List D} (h : isLotD l (.tup (bD l v :: r)) = false) : lotLen (.tup (bD l v :: r)) = none := lotLen_of (by rw [S_len, bsl_len]; exact h)
theorem bad2_all (g : GoodL l M) : ∀ x ∈ bad2 l M, Odd2 x := by
  have o := odd_all g
  have get : ∀ x, x ∈ odd1 l M ++ odd2 l M → lotLen x = none → Odd2 x := fun x hx h => ⟨(o x hx).arg, h, (o x hx).ok, (o x hx).dp⟩
  unfold bad2
  simp only [List.forall_mem_cons]
  refine ⟨get _ (by simp [odd1]) rfl, get _ (by simp [odd1]) ?_, get _ (by simp [odd1]) rfl, get _ (by simp [odd1]) ?_, get _ (by simp [odd1]) rfl, nofun⟩
  · have h := (o (tupB l (Rg l)) (by simp [odd1])).no
    unfold tupB Rg at h ⊢
    cases e : List.range (2 ^ l) with
    | nil => have := congrArg List.length e; simp at this
    | cons a r => rw [e] at h; exact lotLen_bD h
  · exact lotLen_bD (o (.tup [bD l 1, bD l 0]) (by simp [odd1])).no
theorem eqS_table {W : DX} {σ : DSt} {G : DH} {te tb : DTE} {x : D} (neg : Bool) (h1 : Ret te W σ G (.tup [.str "table", x])) (h2 : Ret tb W σ G x) (ok : okD x = true) (dp : dpD x ≤ 2) : Ret (dOp (qEq neg) te (dTup (dCons (dK (.str "table")) (dCons tb dNil)))) W σ G (.bl (!neg)) := by
  refine dOp_ret _ _ h1 (dTup_ret (dConsA_ret dK_ret (dConsA_ret h2 dNil_ret)) (by simp)) fun Q q => qEq_self ?_ ?_ q
  · unfold okD okDs okDs okDs
    rw [ok]
    decide +kernel
  · unfold dpD dpDs dpDs dpDs
    show max 0 (max (dpD x) 0) + 1 ≤ 64
    omega
theorem pickD {x : D} {xs : List D} {W : DX} {σ : DSt} {G : DH} {te ta : DTE} {r : Nat} {Pd : D → Prop} (h : ∀ x ∈ xs, Pd x) (hr : r < xs.length) : ∃ d, Pd d ∧ L2.atI xs (r : Int) = some d := ⟨xs[r], h _ (List.getElem_mem hr), DL.atI_nat (List.getElem?_eq_getElem hr)⟩
theorem b_wrong (T : Txt P w K mg base c) (X : Exm K c) : Has P w K mg base 7 "_law_wrong" s__law_wrong P__law_wrong (sp__law_wrong c) := by
  refine has__law_wrong T (b_strings T) (b_take T) (b_refused T X) (fun ds G Q E ⟨_, _, _, _, e, _⟩ => by rw [e]; rfl) fun ds G Q E ⟨a, l, M, r0, e, hh, g, q⟩ => ?_
  subst e
  have h16 := p16 g.hi
  have hl4 := g.hi
  have hl1 := g.lo
  have h2 : 2 ≤ 2 ^ l := by have := Nat.pow_le_pow_right (n := 2) (by decide) hl1; simpa using this
  have hv := vals_len (l := l) (M := M)
  have hz : (zr l).length ≤ 64 := by simp [zr]; omega
  refine seqSet (tupB l (Rg l)) (dCall_ret _ (dConsA_ret (dVar_ret rfl) (dConsA_ret (dLcM_ret (xs := Rg l) nI nI (fun Q q => dRng1_ret (2 ^ l) (dConsA_ret (shl_ret dK_ret (dVar_ret rfl) (by omega)) dNil_ret) (by omega) Q (by rw [rngD_nat]; exact q)) (by rw [Rg_len]; omega) fun v hv => dVar_ret rfl) dNil_ret)) fun Q E q => ⟨l, Rg l, rfl, ⟨hl4, by rw [Rg_len]; omega, fun v hv => Nat.lt_of_lt_of_le (mem_Rg.mp hv) (Nat.pow_le_pow_right (by decide) (by omega))⟩, q⟩) ?_
  refine seqSet (.str (S (zr l))) (Ret.cast (mulS (a := [48]) (n := l) (by omega) (by decide) (dKs_eq e_0) (dVar_ret rfl)) (by rw [rep48]; rfl)) ?_
  have g0 : L2.atI ((Rg l).map (bD l)) (0 : Int) = some (bD l 0) := DL.atI_nat (i := 0) (by unfold Rg; rw [List.getElem?_map, List.getElem?_range (by omega)]; rfl)
  have g1 : L2.atI ((Rg l).map (bD l)) (1 : Int) = some (bD l 1) := DL.atI_nat (i := 1) (by unfold Rg; rw [List.getElem?_map, List.getElem?_range (by omega)]; rfl)
  have pr : ∀ {W : DX} {σ : DSt}, σ[4]? = some (some (tupB l (Rg l))) → Ret (dTup (dCons (dOp qIx (dVar 4) (dK (.int 1))) (dCons (dOp qIx (dVar 4) (dK (.int 0))) dNil))) W σ G (.tup [bD l 1, bD l 0]) := fun h => dTup_ret (dConsA_ret (ixX_ret _ _ (dVar_ret h) dK_ret rfl g1) (dConsA_ret (ixX_ret _ _ (dVar_ret h) dK_ret rfl g0) dNil_ret)) (by simp)
  refine seqSet (.lst (odd1 l M)) (dLst_ret (dConsA_ret (dTup_ret dNil_ret) (dConsA_ret (dVar_ret rfl) (dConsA_ret (lstX_ret _ (dVar_ret rfl) rfl) (dConsA_ret (catT (a := (valsM l M).map (bD l)) (b := cutL ((valsM l M).map (bD l)) (some (-1)) none) (dVar_ret rfl) (fun Q q => ⟨_, rfl, q⟩) ?_) (dConsA_ret (pr rfl) (dConsA_ret (tupX_ret (xs := (valsM l M).map fun v => .str (S (48 :: bsl l v))) _ (dLcM_ret (xs := valsM l M) (bD l) _ (dIt_ret _ (dVar_ret rfl) rfl) (by omega) fun v hv => catR (a := [48]) (b := bsl l v) (dKs_eq e_0) (dVar_ret rfl) (by simp; omega)) rfl) (dConsA_ret dK_ret dNil_ret))))))) (by simp [odd1])) ?_
  · have : (cutL ((valsM l M).map (bD l)) (some (-1)) none).length ≤ ((valsM l M).map (bD l)).length := by unfold cutL; rw [List.length_take, List.length_drop]; omega
    rw [List.length_map] at this ⊢
    omega
  have e_2 : Str.ofString "2" = S [50] := by decide +kernel
  have cz : cutS (S (zr l)) none (some (-1)) = S ((zr l).take (l - 1)) := by
    unfold cutS
    rw [HT.sIx_none, S_len, sIx_neg1 (by simp [zr]; omega)]
    simp [S, zr]
  refine seqSet (.lst (odd1 l M ++ odd2 l M)) (catL (dVar_ret rfl) (dLst_ret (ds := odd2 l M) (dConsA_ret (dTup_ret (dConsA_ret (dVar_ret rfl) (dConsA_ret dK_ret dNil_ret)) (by simp)) (dConsA_ret (dTup_ret (dConsA_ret (catR (a := (zr l).take (l - 1)) (b := [50]) (fun Q q => ⟨_, rfl, ⟨by rw [S_len]; exact le_sz (by omega), by
    show Q (.str (cutS (S (zr l)) none (some (-1)))) G
    rw [cz]; exact q⟩⟩) (dKs_eq e_2) (by simp; omega)) dNil_ret) (by simp)) (dConsA_ret (catT (a := [.str (S (zr l))]) (b := [.str (S (zr l))]) (dTup_ret (dConsA_ret (dVar_ret rfl) dNil_ret) (by simp)) (dTup_ret (dConsA_ret (dVar_ret rfl) dNil_ret) (by simp)) (by simp)) (dConsA_ret (catT (a := (valsM l M).map (bD l)) (b := [.non]) (dVar_ret rfl) (dTup_ret (dConsA_ret dK_ret dNil_ret)) (by simp; omega)) (dConsA_ret (dVar_ret rfl) (dConsA_ret (dTup_ret (dConsA_ret (dKs_eq e_str) dNil_ret) (by simp)) (dConsA_ret (dTup_ret (dConsA_ret dK_ret dNil_ret)) dNil_ret))))))) (by simp [odd2])) rfl rfl (by simp [odd1, odd2])) ?_
  have ol : (odd1 l M ++ odd2 l M).length = 14 := by simp [odd1, odd2]
  refine seqSet_i (dOp_i ((dVar_ret rfl) _ (take_i (m := 14) rfl (Ret.cast (lenX_ret (xs := odd1 l M ++ odd2 l M) _ (dVar_ret rfl) rfl) (by rw [ol])) hh (by decide) fun r hr => ?_)))
  obtain ⟨x, ox, ex⟩ : ∃ d, Odd l d ∧ L2.atI (odd1 l M ++ odd2 l M) (r : Int) = some d := ⟨_, odd_all g _ (List.getElem_mem (by rw [ol]; exact hr)), DL.atI_nat (List.getElem?_eq_getElem (by rw [ol]; exact hr))⟩
  refine ix_seq' rfl ex ?_
  refine seqIfL false (dTest_ret _ (eqS_table (x := x) true (fun Q q => dCons_i (take_i (m := 4) rfl dK_ret hh (by decide) fun k hk => (dConsA_ret (dVar_ret rfl) (dConsA_ret (dVar_ret rfl) (dConsA_ret (dVar_ret rfl) dNil_ret))) _ ⟨k, l, x, zr l, rfl, hz, .inl ⟨hk, ⟨l, rfl, hl1, hl4, ox.arg, ox.no⟩, q⟩⟩)) (dVar_ret rfl) ox.ok ox.dp)) (fun h => by cases h) fun _ => ?_
  have bl5 : (bad2 l M).length = 5 := by simp [bad2]
  refine seqSet_i (dOp_i ((dLst_ret (ds := bad2 l M) (dConsA_ret (dTup_ret dNil_ret) (dConsA_ret (dVar_ret rfl) (dConsA_ret (lstX_ret _ (dVar_ret rfl) rfl) (dConsA_ret (pr rfl) (dConsA_ret dK_ret dNil_ret))))) (by simp [bad2])) _ (take_i (m := 5) rfl dK_ret hh (by decide) fun r2 hr2 => ?_)))
  obtain ⟨y, oy, ey⟩ : ∃ d, Odd2 d ∧ L2.atI (bad2 l M) (r2 : Int) = some d := ⟨_, bad2_all g _ (List.getElem_mem (by rw [bl5]; exact hr2)), DL.atI_nat (List.getElem?_eq_getElem (by rw [bl5]; exact hr2))⟩
  refine ix_seq' rfl ey ?_
  refine seqIfL false (dTest_ret _ (eqS_table (x := y) true (dCall_ret _ (dConsA_ret dK_ret (dConsA_ret (dVar_ret rfl) (dConsA_ret (dVar_ret rfl) (dConsA_ret (dVar_ret rfl) dNil_ret)))) fun Q E q => ⟨4, l, y, zr l, rfl, hz, .inr (.inr ⟨rfl, oy.arg, oy.no, q⟩)⟩) (dVar_ret rfl) oy.ok oy.dp)) (fun h => by cases h) fun _ => ?_
  refine seqSet_i (dOp_i ((dLst_ret (ds := [.int 0, .int 5, .int (-1)]) (dConsA_ret dK_ret (dConsA_ret dK_ret (dConsA_ret (negR dK_ret) dNil_ret)))) _ (take_i (m := 3) rfl dK_ret hh (by decide) fun r3 hr3 => ?_)))
  obtain ⟨i, hi, ei⟩ : ∃ i : Int, ¬ (1 ≤ i ∧ i ≤ 4) ∧ L2.atI [D.int 0, .int 5, .int (-1)] (r3 : Int) = some (.int i) := by
    rcases (show r3 = 0 ∨ r3 = 1 ∨ r3 = 2 by omega) with rfl | rfl | rfl
    · exact ⟨0, by omega, DL.atI_nat (i := 0) rfl⟩
    · exact ⟨5, by omega, DL.atI_nat (i := 1) rfl⟩
    · exact ⟨-1, by omega, DL.atI_nat (i := 2) rfl⟩
  refine ix_seq' rfl ei ?_
  refine dRet_i (dOp_i (dCons_i (take_i (m := 4) rfl dK_ret hh (by decide) fun k hk => ?_)))
  refine (dVar_ret rfl) _ (dCons_i (dOp_i ((dLst_ret (ds := [lotT l M, y]) (dConsA_ret (dVar_ret rfl) (dConsA_ret (dVar_ret rfl) dNil_ret)) (by simp)) _ (take_i (m := 2) rfl dK_ret hh (by decide) fun r4 hr4 => ?_))))
  obtain ⟨d, ed⟩ : ∃ d, L2.atI [lotT l M, y] (r4 : Int) = some d := by
    rcases (show r4 = 0 ∨ r4 = 1 by omega) with rfl | rfl
    · exact ⟨_, DL.atI_nat (i := 0) rfl⟩
    · exact ⟨_, DL.atI_nat (i := 1) rfl⟩
  refine ix_seq' rfl ed ?_
  refine dCons_i ((dVar_ret rfl) _ ?_)
  refine ⟨k, i, d, zr l, rfl, hz, .inr (.inl ⟨hk, hi, ?_⟩)⟩
  refine (dTup_ret (dConsA_ret dK_ret (dConsA_ret dK_ret dNil_ret))) _ ?_
  refine qEq_self ?_ ?_ (RetW.same q)
  · decide +kernel
  · decide
end
end K75

namespace DL
open PySem PySem.Spec L2
section
variable {te ta tb : DTE} {t tk : DTA} {W : DX} {σ : DSt} {G : DH} {d x y : D} {Q : DK} {m n : Nat} {ix : List Nat} {sp : DSp}
theorem dCallK_ret (ds zs : List D) (h1 : RetA t W σ G ds) (h2 : RetA tk W σ G zs) (hl : ds.length = m ∧ zs.length = n) (k : ∀ (Q : DK) (E : Exc → DH → Prop), Q d G → sp (pick ix (ds ++ zs)) G Q E) : Ret (dCallK m n ix sp t tk) W σ G d := fun Q z => h1 _ (h2 _ ⟨hl, k Q _ z⟩)
theorem okD_intsL {l : List Int} : okDs (l.map D.int) = true := by
  rw [okDs_all, List.all_eq_true]
  intro d hd
  obtain ⟨z, hz, rfl⟩ := List.mem_map.mp hd
  rfl
theorem dpD_intsL {l : List Int} : dpDs (l.map D.int) = 0 := by
  have := dpDs_le (xs := l.map D.int) (n := 0) fun d hd => by
    obtain ⟨z, _, rfl⟩ := List.mem_map.mp hd
    exact Nat.le_refl _
  omega
theorem eqIntsL_ret {a b : List Int} {p : Bool} (h : decide (a = b) = p) : ∀ Q : DK, Q (.bl p) G → qEq false (.lst (a.map .int)) (.lst (b.map .int)) G Q := fun Q q => by
  refine ⟨eqOk_of (by unfold dview okD; exact okD_intsL) (by unfold dview dpD; rw [dpD_intsL]; decide), eqOk_of (by unfold dview okD; exact okD_intsL) (by unfold dview dpD; rw [dpD_intsL]; decide), ?_⟩
  have e : deq (.lst (a.map D.int)) (.lst (b.map D.int)) = p := by
    unfold deq toPy PyData.eqv
    rw [deq_intsL, ← h]
  show Q (.bl (deq (dview G (.lst _)) (dview G (.lst _)))) G
  unfold dview
  rw [e]; exact q
end
end DL
namespace K75
open PySem PySem.Spec L2 DL
section
variable {P : Program} {w : World} {K : PySem.W.Frag} {mg : Str → Option Value} {base : Heap} {c : Cs} {l : Nat} {M : Nat → Bool}
def nM (M : Nat → Bool) : Nat → Bool := fun v => !M v
theorem GoodL.neg (g : GoodL l M) : GoodL l (nM M) := by
  obtain ⟨a, ha, h1⟩ := g.yes
  obtain ⟨b, hb, h2⟩ := g.no
  exact ⟨g.lo, g.hi, ⟨b, hb, by unfold nM; rw [h2]; rfl⟩, ⟨a, ha, by unfold nM; rw [h1]; rfl⟩⟩
theorem neg_beq (a b : Bool) : ((!a) == (!b)) = (a == b) := by cases a <;> cases b <;> rfl
theorem kept_neg : keptN l (nM M) = keptN l M := by unfold keptN nM; simp only [neg_beq]
theorem alike_neg {p : Nat} : alikeN l (nM M) p = alikeN l M p := by unfold alikeN nM; simp only [neg_beq]
theorem class_neg : classN l (nM M) = classN l M := by
  unfold classN
  rw [show alikeN l (nM M) = alikeN l M from funext fun p => alike_neg]
theorem lotLen_good (g : GoodL l M) : lotLen (lotT l M) ≠ none := by
  have h := g.lot
  have hp := g.pos
  unfold lotT tupB at h ⊢
  cases e : valsM l M with
  | nil => rw [e] at hp; cases hp
  | cons v r =>
    rw [e] at h
    show lotLen (.tup (.str (S (bsl l v)) :: r.map (bD l))) ≠ none
    unfold lotLen
    simp only
    rw [S_len, bsl_len, if_pos ⟨g.lo, g.hi, h⟩]
    exact nofun
theorem same_tup {vs : List Nat} (hl : vs.length ≤ 1000) : sameD 2 (tupB l vs) = true := by
  show (decide ((vs.map (bD l)).length ≤ 1000) && (vs.map (bD l)).all (sameD 1)) = true
  rw [List.length_map, decide_eq_true hl, Bool.true_and, List.all_map, List.all_eq_true]
  exact fun v _ => rfl
theorem same_tup1 {vs : List Nat} (hl : vs.length ≤ 1000) : sameD 1 (tupB l vs) = true := by
  show (decide ((vs.map (bD l)).length ≤ 1000) && (vs.map (bD l)).all (sameD 0)) = true
  rw [List.length_map, decide_eq_true hl, Bool.true_and, List.all_map, List.all_eq_true]
  exact fun v _ => rfl
theorem kept_len (hl : l ≤ 4) : (keptN l M).length ≤ 16 := Nat.le_trans (List.length_filter_le _ _) (by rw [Rg_len]; exact p16 hl)
theorem alike_len {p : Nat} (hl : l ≤ 4) : (alikeN l M p).length ≤ 16 := Nat.le_trans (List.length_filter_le _ _) (by rw [Rg_len]; exact p16 hl)
theorem class_same (hl : l ≤ 4) : sameD 2 (.tup ((classN l M).map (tupB l))) = true := by
  have hc : (classN l M).length ≤ 16 := by unfold classN; rw [List.length_map]; exact Nat.le_trans (List.length_filter_le _ _) (by rw [Rg_len]; exact p16 hl)
  show (decide (((classN l M).map (tupB l)).length ≤ 1000) && ((classN l M).map (tupB l)).all (sameD 1)) = true
  rw [List.length_map, decide_eq_true (by omega), Bool.true_and, List.all_map, List.all_eq_true]
  intro vs hv
  refine same_tup1 ?_
  unfold classN at hv
  obtain ⟨p, _, rfl⟩ := List.mem_map.mp hv
  have := alike_len (M := M) (p := p) hl
  omega
theorem same_ret {W : DX} {σ : DSt} {G : DH} {ta tb : DTE} (x : D) (h1 : Ret ta W σ G x) (h2 : Ret tb W σ G x) (ok : sameD 2 x = true) : RetT (dNot (dTru (dCall (sp__law_same c) (dCons ta (dCons tb dNil))))) W σ G false :=
  dNot_ret true (dTru_ret _ (dCall_ret _ (dConsA_ret h1 (dConsA_ret h2 dNil_ret)) fun Q E q => ⟨x, rfl, ok, q⟩))
theorem strs_ret {W : DX} {σ : DSt} {G : DH} {te : DTE} {vs : List Nat} (hl : l ≤ 4) (h0 : σ[2]? = some (some (.int l))) (h : Ret te W σ G (.lst (vs.map nI))) (hv : vs.length ≤ 16) (hb : ∀ v ∈ vs, v < 2 ^ l) : Ret (dCall (sp__law_strings c) (dCons (dVar 2) (dCons te dNil))) W σ G (tupB l vs) :=
  dCall_ret _ (dConsA_ret (dVar_ret h0) (dConsA_ret h dNil_ret)) fun Q E q => ⟨l, vs, rfl, ⟨hl, by omega, fun v hv => Nat.lt_of_lt_of_le (hb v hv) (Nat.pow_le_pow_right (by decide) (by omega))⟩, q⟩
theorem bits_ret {W : DX} {σ : DSt} {G : DH} {i v : Nat} (hl : l ≤ 4) (h0 : σ[2]? = some (some (.int l))) (h1 : σ[i]? = some (some (.int (v : Nat)))) (hv : v < 2 ^ l) : Ret (dCall (sp__law_bits c) (dCons (dVar 2) (dCons (dVar i) dNil))) W σ G (bD l v) :=
  dCall_ret _ (dConsA_ret (dVar_ret h0) (dConsA_ret (dVar_ret h1) dNil_ret)) fun Q E q => ⟨l, v, rfl, ⟨by omega, Nat.lt_of_lt_of_le hv (Nat.pow_le_pow_right (by decide) (by omega))⟩, q⟩
theorem hole_sp {G : DH} {Q : DK} {E : Exc → DH → Prop} {p b : Nat} (g : GoodL l M) (hp : p < 2 ^ l) (hb : b < 2 ^ l) (q : Q (.bl (M (p ^^^ b))) G) : sp_hole c [lotT l M, bD l p, bD l b] G Q E :=
  ⟨lotT l M, bsl l p, bsl l b, rfl, by rw [bsl_len]; have := g.hi; omega, g.arg, fun h => (lotLen_good g h).elim, fun xs e _ => by
    cases e
    rw [xorL_bsl, heard_val (xl hp hb)]; exact q⟩
/-- the begins of one part -/
theorem begins_go (g : GoodL l M) {W : DX} {Dn : DEnds} {G : DH} {x0 x1 x3 x4 x6 x8 x9 x10 x13 x14 x15 : Option D} {p : Nat} (hp : p < 2 ^ l) (hn : ∀ b, Dn.nx [x0, x1, some (.int l), x3, x4, some (lotT l M), x6, some (lotT l (nM M)), x8, x9, x10, some (.int (p : Nat)), some (.lst ((Rg l).map fun b => .int (mI (M (p ^^^ b))))), x13, x14, x15, b] G) :
    ∀ (bs : List Nat) (x16 : Option D), (∀ b ∈ bs, b < 2 ^ l) → dRun (gSet 16) (lb__law_whole_0 K c) (bs.map nI) W Dn [x0, x1, some (.int l), x3, x4, some (lotT l M), x6, some (lotT l (nM M)), x8, x9, x10, some (.int (p : Nat)), some (.lst ((Rg l).map fun b => .int (mI (M (p ^^^ b))))), x13, x14, x15, x16] G
  | [], x16, _ => hn x16
  | b :: bs, x16, h => by
    have hb := h b List.mem_cons_self
    have hs : L2.atI ((Rg l).map fun b => D.int (mI (M (p ^^^ b)))) (b : Int) = some (.int (mI (M (p ^^^ b)))) := DL.atI_nat (by unfold Rg; rw [List.getElem?_map, List.getElem?_range hb]; rfl)
    have e1 : decide (mI (M (p ^^^ b)) = 1) = M (p ^^^ b) := by cases M (p ^^^ b) <;> rfl
    have e2 : decide (mI (M (p ^^^ b)) = 0) = nM M (p ^^^ b) := by unfold nM; cases M (p ^^^ b) <;> rfl
    refine seqIfL false (same_ret (.bl (M (p ^^^ b))) (dCall_ret _ (dConsA_ret (dVar_ret rfl) (dConsA_ret (bits_ret g.hi rfl rfl hp) (dConsA_ret (bits_ret g.hi rfl rfl hb) dNil_ret))) fun Q E q => hole_sp g hp hb q) (Ret.cast (eqR (ixX_ret _ _ (dVar_ret rfl) (dVar_ret rfl) rfl hs) dK_ret) (by rw [e1])) rfl) (fun h => by cases h) fun _ => ?_
    refine ifL false (same_ret (.bl (nM M (p ^^^ b))) (dCallK_ret [] _ dNil_ret (dConsA_ret (bits_ret g.hi rfl rfl hb) (dConsA_ret (bits_ret g.hi rfl rfl hp) (dConsA_ret (dVar_ret rfl) dNil_ret))) ⟨rfl, rfl⟩ fun Q E q => hole_sp g.neg hp hb q) (Ret.cast (eqR (ixX_ret _ _ (dVar_ret rfl) (dVar_ret rfl) rfl hs) dK_ret) (by rw [e2])) rfl) (fun h => by cases h) fun _ => ?_
    exact begins_go g hp hn bs (some (.int (b : Nat))) fun x hx => h x (List.mem_cons_of_mem _ hx)
end
end K75

namespace K75
open PySem PySem.Spec L2 DL
section
variable {P : Program} {w : World} {K : PySem.W.Frag} {mg : Str → Option Value} {base : Heap} {c : Cs} {l : Nat} {M : Nat → Bool}
theorem addI {i j k : Int} {m : Bool} {G : DH} {Q : DK} (e : i + j = k) (h : Q (.int k) G) : qAdd m (.int i) (.int j) G Q := by subst e; exact h
theorem dFor_i {t : DTI} {g : DTG} {tb : DTS} {W : DX} {Dn : DEnds} {σ : DSt} {G : DH} (h : t W σ G fun xs G1 => dRun g tb xs W Dn σ G1) : dFor t g tb W Dn σ G := h
theorem dIt_i {te : DTE} {W : DX} {σ : DSt} {G : DH} {Q : List D → DH → Prop} (h : te W σ G fun x G1 => match itD x with | some xs => Q xs G1 | none => False) : dIt te W σ G Q := h
theorem dTup_i {t : DTA} {W : DX} {σ : DSt} {G : DH} {Q : DK} (h : t W σ G fun xs G1 => xs.length ≤ sizeLine ∧ Q (.tup xs) G1) : dTup t W σ G Q := h
theorem chk_good {E : Exc → Prop} {k : Nat → (Nat → Bool) → Prop} (g : GoodL l M) (h : k l M) : Chk c (l : Nat) (lotT l M) E k := .inr (.inr ⟨l, M, rfl, rfl, g, h⟩)
theorem b_whole (T : Txt P w K mg base c) (X : Exm K c) : Has P w K mg base 8 "_law_whole" s__law_whole P__law_whole (sp__law_whole c) := by
  refine has__law_whole T (b_hand T) (b_take T) (b_lot T) (b_strings T) (b_kept T) (b_same T) (b_kept_shifts T) (b_is_told T) (b_lclasses T) (b_classes T) (b_said T) (b_told_parts T) (b_lbits T) (b_hole T) (b_wrong T X) (fun ds G Q E ⟨_, e, _⟩ => by rw [e]; rfl) fun ds G Q E ⟨ns, e, hns, q⟩ => ?_
  subst e
  refine seqCall _ (dConsA_ret (dVar_ret rfl) dNil_ret) ⟨ns, rfl, hns, fun a G1 _ hh _ => ?_⟩
  refine seqSet_i (dOp_i (dK_ret _ (take_i (m := 4) rfl dK_ret hh (by decide) fun r hr => ?_)))
  obtain ⟨l, el, hl1, hl4⟩ : ∃ l : Nat, (1 + (r : Int)) = (l : Nat) ∧ 1 ≤ l ∧ l ≤ 4 := ⟨1 + r, by omega, by omega, by omega⟩
  refine addI el ?_
  have h16 := p16 hl4
  refine seqSet _ (shl_ret dK_ret (dVar_ret rfl) (by omega)) ?_
  refine seqCall _ (dConsA_ret (dVar_ret rfl) (dConsA_ret (dVar_ret rfl) dNil_ret)) ⟨a, l, rfl, hh, ⟨hl1, hl4⟩, fun M g => ?_⟩
  have rng : ∀ {W : DX} {σ : DSt}, σ[3]? = some (some (.int ((2 ^ l : Nat) : Int))) → RetI (dRng1 (dCons (dVar 3) dNil)) W σ G1 ((Rg l).map nI) := fun h Q q => dRng1_ret (2 ^ l) (dConsA_ret (dVar_ret h) dNil_ret) (by omega) Q (by rw [rngD_nat]; exact q)
  have fl : ∀ p : Nat → Bool, ((Rg l).filter p).length ≤ 16 := fun p => Nat.le_trans (List.length_filter_le _ _) (by rw [Rg_len]; exact h16)
  have flt : ∀ (p : Nat → Bool), ∀ v ∈ (Rg l).filter p, v < 2 ^ l := fun p v hv => mem_Rg.mp (List.mem_filter.mp hv).1
  have e1 : ∀ v, decide (mI (M v) = 1) = M v := fun v => by cases M v <;> rfl
  have e0 : ∀ v, decide (mI (M v) = 0) = nM M v := fun v => by unfold nM; cases M v <;> rfl
  refine seqSet (lotT l M) (strs_ret (vs := valsM l M) hl4 rfl (dLcFM_ret (xs := Rg l) nI nI M (rng rfl) (by rw [Rg_len]; omega) (fun v hv => dTest_ret _ (Ret.cast (eqR (ixX_ret _ _ (dVar_ret rfl) (dVar_ret rfl) rfl (marks_get (mem_Rg.mp hv))) dK_ret) (by rw [e1]))) fun v hv _ => dVar_ret rfl) (fl _) (flt _)) ?_
  refine seqSet (lotT l (nM M)) (strs_ret (vs := valsM l (nM M)) hl4 rfl (dLcFM_ret (xs := Rg l) nI nI (nM M) (rng rfl) (by rw [Rg_len]; omega) (fun v hv => dTest_ret _ (Ret.cast (eqR (ixX_ret _ _ (dVar_ret rfl) (dVar_ret rfl) rfl (marks_get (mem_Rg.mp hv))) dK_ret) (by rw [e0]))) fun v hv _ => dVar_ret rfl) (fl _) (flt _)) ?_
  refine seqSet (.lst ((keptN l M).map nI)) (dCall_ret _ (dConsA_ret (dVar_ret rfl) dNil_ret) fun Q E q => ⟨l, M, rfl, hl4, q⟩) ?_
  have kl := kept_len (M := M) hl4
  have kt : ∀ v ∈ keptN l M, v < 2 ^ l := flt _
  refine seqIfL false (same_ret (tupB l (keptN l M)) (dCall_ret _ (dConsA_ret (dVar_ret rfl) (dConsA_ret (dVar_ret rfl) dNil_ret)) fun Q E q => ⟨l, _, rfl, chk_good g q⟩) (strs_ret hl4 rfl (dVar_ret rfl) kl kt) (same_tup (by omega))) (fun h => by cases h) fun _ => ?_
  refine seqIfL false (same_ret (tupB l (keptN l M)) (dCallK_ret [] _ dNil_ret (dConsA_ret (dVar_ret rfl) (dConsA_ret (dVar_ret rfl) dNil_ret)) ⟨rfl, rfl⟩ fun Q E q => ⟨l, _, rfl, chk_good g.neg (by rw [kept_neg]; exact q)⟩) (strs_ret hl4 rfl (dVar_ret rfl) kl kt) (same_tup (by omega))) (fun h => by cases h) fun _ => ?_
  refine seqIfL false (same_ret (.bl (decide ((keptN l M).length = 1))) (dCall_ret _ (dConsA_ret (dVar_ret rfl) (dConsA_ret (dVar_ret rfl) dNil_ret)) fun Q E q => ⟨l, _, rfl, chk_good g q⟩) (Ret.cast (eqR (lenX_ret _ (dVar_ret rfl) rfl) dK_ret) (by rw [List.length_map]; congr 1; exact dec_nat (b := 1))) rfl) (fun h => by cases h) fun _ => ?_
  refine seqSet (.tup ((classN l M).map (tupB l))) (dCall_ret _ (dConsA_ret (dVar_ret rfl) (dConsA_ret (dVar_ret rfl) dNil_ret)) fun Q E q => ⟨l, M, rfl, hl4, q⟩) ?_
  refine seqIfL false (dOr_ret false false (same_ret (.tup ((classN l M).map (tupB l))) (dCall_ret _ (dConsA_ret (dVar_ret rfl) (dConsA_ret (dVar_ret rfl) dNil_ret)) fun Q E q => ⟨l, _, rfl, chk_good g q⟩) (dVar_ret rfl) (class_same hl4)) fun _ => same_ret (.tup ((classN l M).map (tupB l))) (dCall_ret _ (dConsA_ret (dVar_ret rfl) (dConsA_ret (dVar_ret rfl) dNil_ret)) fun Q E q => ⟨l, _, rfl, chk_good g.neg (by rw [class_neg]; exact q)⟩) (dVar_ret rfl) (class_same hl4)) (fun h => by cases h) fun _ => ?_
  refine seqRng 3 (fun _ σ G' => G' = G1 ∧ ∃ x10 x11 x12 x13 x16, σ = [some (.scr ns), some (.ref a), some (.int (l : Nat)), some (.int ((2 ^ l : Nat) : Int)), some (.lst (marksD l M)), some (lotT l M), none, some (lotT l (nM M)), some (.lst ((keptN l M).map nI)), some (.tup ((classN l M).map (tupB l))), x10, x11, x12, x13, none, none, x16])
    (dConsA_ret dK_ret dNil_ret) (by decide) ⟨rfl, _, _, _, _, _, rfl⟩ (fun k σ G' hk ⟨eg, x10, x11, x12, x13, x16, e⟩ nx hn => ?_) fun σ G' ⟨eg, x10, x11, x12, x13, x16, e⟩ => ?_
  · subst eg e
    refine seqSet_i (take_i (m := 2 ^ l) rfl (dVar_ret rfl) hh (Nat.pow_pos (by decide)) fun p hp => ?_)
    have said : ∀ {W : DX} {σ : DSt} {i v : Nat}, σ[4]? = some (some (.lst (marksD l M))) → σ[i]? = some (some (nI v)) → v < 2 ^ l → Ret (dCall (sp__law_said c) (dCons (dVar 4) (dCons (dVar i) dNil))) W σ G' (.lst ((Rg l).map fun b => .int (mI (M (v ^^^ b))))) := fun h1 h2 hv => dCall_ret _ (dConsA_ret (dVar_ret h1) (dConsA_ret (dVar_ret h2) dNil_ret)) fun Q E q => ⟨l, M, _, rfl, hl4, hv, q⟩
    refine seqSet _ (said rfl rfl hp) ?_
    have al := alike_len (M := M) (p := p) hl4
    refine seqSet (.lst ((alikeN l M p).map nI)) (dLcFM_ret (xs := Rg l) nI nI (fun o => (Rg l).all fun b => M (o ^^^ b) == M (p ^^^ b)) (rng rfl) (by rw [Rg_len]; omega) (fun v hv => dTest_ret _ (dOp_ret _ _ (said rfl rfl (mem_Rg.mp hv)) (dVar_ret rfl) ?_)) fun v hv _ => dVar_ret rfl) ?_
    · have em : ∀ f : Nat → Int, ((Rg l).map fun b => D.int (f b)) = ((Rg l).map f).map D.int := fun f => by rw [List.map_map]; rfl
      rw [em, em]
      refine eqIntsL_ret ?_
      rw [Bool.eq_iff_iff, decide_eq_true_iff, List.map_inj_left, List.all_eq_true]
      exact forall_congr' fun b => forall_congr' fun hb => by rw [mI_inj, beq_iff_eq]
    have sorted : ∀ {W : DX} {σ : DSt}, σ[8]? = some (some (.lst ((keptN l M).map nI))) → (dwipe σ [15])[11]? = some (some (nI p)) → 15 < σ.length → Ret (dN (qSorted false) (dCons (dLc false [15] (dIt (dVar 8)) (gSet 15) dYes (dOp qXor (dVar 11) (dVar 15))) dNil)) W σ G' (.lst ((alikeN l M p).map nI)) := fun {W σ} h8 h11 h15 => by
      refine Ret.cast (sortR (vs := (keptN l M).map fun s => p ^^^ s) (Ret.cast (dLcM_ret (xs := keptN l M) nI (fun s => nI (p ^^^ s)) (dIt_ret _ (dVar_ret h8) rfl) (by omega) fun s hs => xorR (dVar_ret ?_) (dVar_ret ?_)) (by rw [List.map_map]; rfl))) ?_
      · rw [List.getElem?_set_ne (by decide)]; exact h11
      · rw [List.getElem?_set]; simp [dwipe, h15]; rfl
      · have := alike_sorted (l := l) (M := M) hp
        unfold sortN at this
        rw [this]; rfl
    refine seqIfL false (dTest_ret _ (dOp_ret _ _ (dVar_ret rfl) (sorted rfl rfl (by simp)) fun Q q => qEq_self (d := .lst ((alikeN l M p).map nI)) ?_ ?_ q)) (fun h => by cases h) fun _ => ?_
    · unfold okD; rw [okDs_all, List.all_map, List.all_eq_true]; exact fun _ _ => rfl
    · unfold dpD; rw [dpDs_flat fun d hd => by obtain ⟨v, _, rfl⟩ := List.mem_map.mp hd; rfl]; decide
    refine seqIfL false (same_ret (tupB l (alikeN l M p)) (dCall_ret _ (dConsA_ret (dVar_ret rfl) (dConsA_ret (dVar_ret rfl) (dConsA_ret (bits_ret hl4 rfl rfl hp) dNil_ret))) fun Q E q => ⟨l, _, _, rfl, chk_good g ⟨p, rfl, hp, q⟩⟩) (strs_ret hl4 rfl (dVar_ret rfl) al (flt _)) (same_tup (by omega))) (fun h => by cases h) fun _ => ?_
    have h2p : 0 < 2 ^ l := Nat.pow_pos (by decide)
    refine dFor_i (dIt_i (dTup_i (dCons_i (dK_ret _ (dCons_i (take_i (m := 2 ^ l) rfl (dVar_ret rfl) hh h2p fun b hb => ?_))))))
    refine dCons_i (subR (i := ((2 ^ l : Nat) : Int)) (j := 1) (dVar_ret rfl) dK_ret _ ⟨le_sz (by simp), ?_⟩)
    have e3 : ([.int 0, nI b, .int (((2 ^ l : Nat) : Int) - 1)] : List D) = [0, b, 2 ^ l - 1].map nI := by
      simp only [List.map_cons, List.map_nil]
      congr 3
      unfold nI
      congr 1
      omega
    show dRun _ _ ([.int 0, nI b, .int (((2 ^ l : Nat) : Int) - 1)] : List D) _ _ _ _
    rw [e3]
    refine begins_go g hp (fun x => hn _ _ ⟨rfl, _, _, _, _, _, rfl⟩) _ _ fun x hx => ?_
    simp only [List.mem_cons, List.not_mem_nil, or_false] at hx
    rcases hx with rfl | rfl | rfl <;> omega
  · subst eg e
    exact dRet_ret _ (dCall_ret _ (dConsA_ret (dVar_ret rfl) (dConsA_ret (dVar_ret rfl) (dConsA_ret (dVar_ret rfl) (dConsA_ret (dVar_ret rfl) dNil_ret)))) fun Q E q => ⟨a, l, M, _, rfl, hh, g, q⟩) (RetW.same (q _))
theorem b_law (T : Txt P w K mg base c) (X : Exm K c) : Has P w K mg base 9 "law" s_law P_law (sp_law c) := by
  refine has_law T (b_whole T X) (fun ds G Q E ⟨_, e, _⟩ => by rw [e]; rfl) fun ds G Q E ⟨ns, e, hns, q⟩ => ?_
  subst e
  exact dRet_call _ (dConsA_ret (dVar_ret rfl) dNil_ret) ⟨ns, rfl, hns, fun G' => RetW.same (q G')⟩
end
end K75

namespace K75
open PySem PySem.Spec L2 DL
theorem top_mk {P : Program} {w : World} {K : PySem.W.Frag} {h : Heap} {mg : Str → Option Value} (X : K.In h) (G : h.Ns mainGlobals mg) {fa : Addr}
    {C_BreakError C_BadBlock C_BadChoice C_BadTable : Addr}
    {f_bits f_xor f_is_number f_is_bits f_check_length f_is_lot f_check_lot f_length_of f_strings_of f_is_heard f_hole f_shifts_of f_kept_shifts f_parts_like f_told_parts f_is_told f_classes_of f_classes f__law_hand f__law_take f__law_same f__law_bits f__law_lot f__law_kept f__law_strings f__law_classes f__law_said f__law_refused f__law_wrong f__law_whole f_law : Addr}
    {od_bits an_bits : Option Addr} {sl_bits : Array (Option Value)} {oc_bits kV_bits dc_bits pm_bits cd_bits ct_bits : Value}
    {od_xor an_xor : Option Addr} {sl_xor : Array (Option Value)} {oc_xor kV_xor dc_xor pm_xor cd_xor ct_xor : Value}
    {od_is_number an_is_number : Option Addr} {sl_is_number : Array (Option Value)} {oc_is_number kV_is_number dc_is_number pm_is_number cd_is_number ct_is_number : Value}
    {od_is_bits an_is_bits : Option Addr} {sl_is_bits : Array (Option Value)} {oc_is_bits kV_is_bits dc_is_bits pm_is_bits cd_is_bits ct_is_bits : Value}
    {od_check_length an_check_length : Option Addr} {sl_check_length : Array (Option Value)} {oc_check_length kV_check_length dc_check_length pm_check_length cd_check_length ct_check_length : Value}
    {od_is_lot an_is_lot : Option Addr} {sl_is_lot : Array (Option Value)} {oc_is_lot kV_is_lot dc_is_lot pm_is_lot cd_is_lot ct_is_lot : Value}
    {od_check_lot an_check_lot : Option Addr} {sl_check_lot : Array (Option Value)} {oc_check_lot kV_check_lot dc_check_lot pm_check_lot cd_check_lot ct_check_lot : Value}
    {od_length_of an_length_of : Option Addr} {sl_length_of : Array (Option Value)} {oc_length_of kV_length_of dc_length_of pm_length_of cd_length_of ct_length_of : Value}
    {od_strings_of an_strings_of : Option Addr} {sl_strings_of : Array (Option Value)} {oc_strings_of kV_strings_of dc_strings_of pm_strings_of cd_strings_of ct_strings_of : Value}
    {od_is_heard an_is_heard : Option Addr} {sl_is_heard : Array (Option Value)} {oc_is_heard kV_is_heard dc_is_heard pm_is_heard cd_is_heard ct_is_heard : Value}
    {od_hole an_hole : Option Addr} {sl_hole : Array (Option Value)} {oc_hole kV_hole dc_hole pm_hole cd_hole ct_hole : Value}
    {od_shifts_of an_shifts_of : Option Addr} {sl_shifts_of : Array (Option Value)} {oc_shifts_of kV_shifts_of dc_shifts_of pm_shifts_of cd_shifts_of ct_shifts_of : Value}
    {od_kept_shifts an_kept_shifts : Option Addr} {sl_kept_shifts : Array (Option Value)} {oc_kept_shifts kV_kept_shifts dc_kept_shifts pm_kept_shifts cd_kept_shifts ct_kept_shifts : Value}
    {od_parts_like an_parts_like : Option Addr} {sl_parts_like : Array (Option Value)} {oc_parts_like kV_parts_like dc_parts_like pm_parts_like cd_parts_like ct_parts_like : Value}
    {od_told_parts an_told_parts : Option Addr} {sl_told_parts : Array (Option Value)} {oc_told_parts kV_told_parts dc_told_parts pm_told_parts cd_told_parts ct_told_parts : Value}
    {od_is_told an_is_told : Option Addr} {sl_is_told : Array (Option Value)} {oc_is_told kV_is_told dc_is_told pm_is_told cd_is_told ct_is_told : Value}
    {od_classes_of an_classes_of : Option Addr} {sl_classes_of : Array (Option Value)} {oc_classes_of kV_classes_of dc_classes_of pm_classes_of cd_classes_of ct_classes_of : Value}
    {od_classes an_classes : Option Addr} {sl_classes : Array (Option Value)} {oc_classes kV_classes dc_classes pm_classes cd_classes ct_classes : Value}
    {od__law_hand an__law_hand : Option Addr} {sl__law_hand : Array (Option Value)} {oc__law_hand kV__law_hand dc__law_hand pm__law_hand cd__law_hand ct__law_hand : Value}
    {od__law_take an__law_take : Option Addr} {sl__law_take : Array (Option Value)} {oc__law_take kV__law_take dc__law_take pm__law_take cd__law_take ct__law_take : Value}
    {od__law_same an__law_same : Option Addr} {sl__law_same : Array (Option Value)} {oc__law_same kV__law_same dc__law_same pm__law_same cd__law_same ct__law_same : Value}
    {od__law_bits an__law_bits : Option Addr} {sl__law_bits : Array (Option Value)} {oc__law_bits kV__law_bits dc__law_bits pm__law_bits cd__law_bits ct__law_bits : Value}
    {od__law_lot an__law_lot : Option Addr} {sl__law_lot : Array (Option Value)} {oc__law_lot kV__law_lot dc__law_lot pm__law_lot cd__law_lot ct__law_lot : Value}
    {od__law_kept an__law_kept : Option Addr} {sl__law_kept : Array (Option Value)} {oc__law_kept kV__law_kept dc__law_kept pm__law_kept cd__law_kept ct__law_kept : Value}
    {od__law_strings an__law_strings : Option Addr} {sl__law_strings : Array (Option Value)} {oc__law_strings kV__law_strings dc__law_strings pm__law_strings cd__law_strings ct__law_strings : Value}
    {od__law_classes an__law_classes : Option Addr} {sl__law_classes : Array (Option Value)} {oc__law_classes kV__law_classes dc__law_classes pm__law_classes cd__law_classes ct__law_classes : Value}
    {od__law_said an__law_said : Option Addr} {sl__law_said : Array (Option Value)} {oc__law_said kV__law_said dc__law_said pm__law_said cd__law_said ct__law_said : Value}
    {od__law_refused an__law_refused : Option Addr} {sl__law_refused : Array (Option Value)} {oc__law_refused kV__law_refused dc__law_refused pm__law_refused cd__law_refused ct__law_refused : Value}
    {od__law_wrong an__law_wrong : Option Addr} {sl__law_wrong : Array (Option Value)} {oc__law_wrong kV__law_wrong dc__law_wrong pm__law_wrong cd__law_wrong ct__law_wrong : Value}
    {od__law_whole an__law_whole : Option Addr} {sl__law_whole : Array (Option Value)} {oc__law_whole kV__law_whole dc__law_whole pm__law_whole cd__law_whole ct__law_whole : Value}
    {od_law an_law : Option Addr} {sl_law : Array (Option Value)} {oc_law kV_law dc_law pm_law cd_law ct_law : Value}
    {tk_MOST_LENGTH : Tok}
    {nm_BadTable q_BadTable : Str} {N_BadTable I_BadTable : Addr} {bs_BadTable bm_BadTable sub_BadTable : List Value} {sn_BadTable : List Str} {ab_BadTable : Bool} {col_BadTable : Option Bool} {dd_BadTable : Option Addr} {m0_BadTable m1_BadTable m2_BadTable m3_BadTable m5_BadTable : Option Value}
    {od_BadTable an_BadTable : Option Addr} {sl_BadTable : Array (Option Value)} {oc_BadTable kV_BadTable dc_BadTable pm_BadTable cd_BadTable ct_BadTable : Value}
    (hfa : mg "law" = some (.ref fa))
    (a_bits : PySem.W.nsIn K mainGlobals "bits" = some (some (.ref f_bits)))
    (l_bits : K.lookup f_bits = some ⟨oc_bits, od_bits, .func (PySem.W.fnOf "bits" "bits" (defArgs s_bits) (defBody s_bits) (defScope s_bits) .none kV_bits dc_bits pm_bits an_bits cd_bits ct_bits), sl_bits⟩)
    (c_bits : PySem.W.codeIn K cd_bits "bits" = true)
    (k_bits : PySem.W.keepIn K (.ref f_bits) = true)
    (a_xor : PySem.W.nsIn K mainGlobals "xor" = some (some (.ref f_xor)))
    (l_xor : K.lookup f_xor = some ⟨oc_xor, od_xor, .func (PySem.W.fnOf "xor" "xor" (defArgs s_xor) (defBody s_xor) (defScope s_xor) .none kV_xor dc_xor pm_xor an_xor cd_xor ct_xor), sl_xor⟩)
    (c_xor : PySem.W.codeIn K cd_xor "xor" = true)
    (k_xor : PySem.W.keepIn K (.ref f_xor) = true)
    (a_is_number : PySem.W.nsIn K mainGlobals "is_number" = some (some (.ref f_is_number)))
    (l_is_number : K.lookup f_is_number = some ⟨oc_is_number, od_is_number, .func (PySem.W.fnOf "is_number" "is_number" (defArgs s_is_number) (defBody s_is_number) (defScope s_is_number) .none kV_is_number dc_is_number pm_is_number an_is_number cd_is_number ct_is_number), sl_is_number⟩)
    (c_is_number : PySem.W.codeIn K cd_is_number "is_number" = true)
    (k_is_number : PySem.W.keepIn K (.ref f_is_number) = true)
    (a_is_bits : PySem.W.nsIn K mainGlobals "is_bits" = some (some (.ref f_is_bits)))
    (l_is_bits : K.lookup f_is_bits = some ⟨oc_is_bits, od_is_bits, .func (PySem.W.fnOf "is_bits" "is_bits" (defArgs s_is_bits) (defBody s_is_bits) (defScope s_is_bits) .none kV_is_bits dc_is_bits pm_is_bits an_is_bits cd_is_bits ct_is_bits), sl_is_bits⟩)
    (c_is_bits : PySem.W.codeIn K cd_is_bits "is_bits" = true)
    (k_is_bits : PySem.W.keepIn K (.ref f_is_bits) = true)
    (a_check_length : PySem.W.nsIn K mainGlobals "check_length" = some (some (.ref f_check_length)))
    (l_check_length : K.lookup f_check_length = some ⟨oc_check_length, od_check_length, .func (PySem.W.fnOf "check_length" "check_length" (defArgs s_check_length) (defBody s_check_length) (defScope s_check_length) .none kV_check_length dc_check_length pm_check_length an_check_length cd_check_length ct_check_length), sl_check_length⟩)
    (c_check_length : PySem.W.codeIn K cd_check_length "check_length" = true)
    (k_check_length : PySem.W.keepIn K (.ref f_check_length) = true)
    (a_is_lot : PySem.W.nsIn K mainGlobals "is_lot" = some (some (.ref f_is_lot)))
    (l_is_lot : K.lookup f_is_lot = some ⟨oc_is_lot, od_is_lot, .func (PySem.W.fnOf "is_lot" "is_lot" (defArgs s_is_lot) (defBody s_is_lot) (defScope s_is_lot) .none kV_is_lot dc_is_lot pm_is_lot an_is_lot cd_is_lot ct_is_lot), sl_is_lot⟩)
    (c_is_lot : PySem.W.codeIn K cd_is_lot "is_lot" = true)
    (k_is_lot : PySem.W.keepIn K (.ref f_is_lot) = true)
    (a_check_lot : PySem.W.nsIn K mainGlobals "check_lot" = some (some (.ref f_check_lot)))
    (l_check_lot : K.lookup f_check_lot = some ⟨oc_check_lot, od_check_lot, .func (PySem.W.fnOf "check_lot" "check_lot" (defArgs s_check_lot) (defBody s_check_lot) (defScope s_check_lot) .none kV_check_lot dc_check_lot pm_check_lot an_check_lot cd_check_lot ct_check_lot), sl_check_lot⟩)
    (c_check_lot : PySem.W.codeIn K cd_check_lot "check_lot" = true)
    (k_check_lot : PySem.W.keepIn K (.ref f_check_lot) = true)
    (a_length_of : PySem.W.nsIn K mainGlobals "length_of" = some (some (.ref f_length_of)))
    (l_length_of : K.lookup f_length_of = some ⟨oc_length_of, od_length_of, .func (PySem.W.fnOf "length_of" "length_of" (defArgs s_length_of) (defBody s_length_of) (defScope s_length_of) .none kV_length_of dc_length_of pm_length_of an_length_of cd_length_of ct_length_of), sl_length_of⟩)
    (c_length_of : PySem.W.codeIn K cd_length_of "length_of" = true)
    (k_length_of : PySem.W.keepIn K (.ref f_length_of) = true)
    (a_strings_of : PySem.W.nsIn K mainGlobals "strings_of" = some (some (.ref f_strings_of)))
    (l_strings_of : K.lookup f_strings_of = some ⟨oc_strings_of, od_strings_of, .func (PySem.W.fnOf "strings_of" "strings_of" (defArgs s_strings_of) (defBody s_strings_of) (defScope s_strings_of) .none kV_strings_of dc_strings_of pm_strings_of an_strings_of cd_strings_of ct_strings_of), sl_strings_of⟩)
    (c_strings_of : PySem.W.codeIn K cd_strings_of "strings_of" = true)
    (k_strings_of : PySem.W.keepIn K (.ref f_strings_of) = true)
    (a_is_heard : PySem.W.nsIn K mainGlobals "is_heard" = some (some (.ref f_is_heard)))
    (l_is_heard : K.lookup f_is_heard = some ⟨oc_is_heard, od_is_heard, .func (PySem.W.fnOf "is_heard" "is_heard" (defArgs s_is_heard) (defBody s_is_heard) (defScope s_is_heard) .none kV_is_heard dc_is_heard pm_is_heard an_is_heard cd_is_heard ct_is_heard), sl_is_heard⟩)
    (c_is_heard : PySem.W.codeIn K cd_is_heard "is_heard" = true)
    (k_is_heard : PySem.W.keepIn K (.ref f_is_heard) = true)
    (a_hole : PySem.W.nsIn K mainGlobals "hole" = some (some (.ref f_hole)))
    (l_hole : K.lookup f_hole = some ⟨oc_hole, od_hole, .func (PySem.W.fnOf "hole" "hole" (defArgs s_hole) (defBody s_hole) (defScope s_hole) .none kV_hole dc_hole pm_hole an_hole cd_hole ct_hole), sl_hole⟩)
    (c_hole : PySem.W.codeIn K cd_hole "hole" = true)
    (k_hole : PySem.W.keepIn K (.ref f_hole) = true)
    (a_shifts_of : PySem.W.nsIn K mainGlobals "shifts_of" = some (some (.ref f_shifts_of)))
    (l_shifts_of : K.lookup f_shifts_of = some ⟨oc_shifts_of, od_shifts_of, .func (PySem.W.fnOf "shifts_of" "shifts_of" (defArgs s_shifts_of) (defBody s_shifts_of) (defScope s_shifts_of) .none kV_shifts_of dc_shifts_of pm_shifts_of an_shifts_of cd_shifts_of ct_shifts_of), sl_shifts_of⟩)
    (c_shifts_of : PySem.W.codeIn K cd_shifts_of "shifts_of" = true)
    (k_shifts_of : PySem.W.keepIn K (.ref f_shifts_of) = true)
    (a_kept_shifts : PySem.W.nsIn K mainGlobals "kept_shifts" = some (some (.ref f_kept_shifts)))
    (l_kept_shifts : K.lookup f_kept_shifts = some ⟨oc_kept_shifts, od_kept_shifts, .func (PySem.W.fnOf "kept_shifts" "kept_shifts" (defArgs s_kept_shifts) (defBody s_kept_shifts) (defScope s_kept_shifts) .none kV_kept_shifts dc_kept_shifts pm_kept_shifts an_kept_shifts cd_kept_shifts ct_kept_shifts), sl_kept_shifts⟩)
    (c_kept_shifts : PySem.W.codeIn K cd_kept_shifts "kept_shifts" = true)
    (k_kept_shifts : PySem.W.keepIn K (.ref f_kept_shifts) = true)
    (a_parts_like : PySem.W.nsIn K mainGlobals "parts_like" = some (some (.ref f_parts_like)))
    (l_parts_like : K.lookup f_parts_like = some ⟨oc_parts_like, od_parts_like, .func (PySem.W.fnOf "parts_like" "parts_like" (defArgs s_parts_like) (defBody s_parts_like) (defScope s_parts_like) .none kV_parts_like dc_parts_like pm_parts_like an_parts_like cd_parts_like ct_parts_like), sl_parts_like⟩)
    (c_parts_like : PySem.W.codeIn K cd_parts_like "parts_like" = true)
    (k_parts_like : PySem.W.keepIn K (.ref f_parts_like) = true)
    (a_told_parts : PySem.W.nsIn K mainGlobals "told_parts" = some (some (.ref f_told_parts)))
    (l_told_parts : K.lookup f_told_parts = some ⟨oc_told_parts, od_told_parts, .func (PySem.W.fnOf "told_parts" "told_parts" (defArgs s_told_parts) (defBody s_told_parts) (defScope s_told_parts) .none kV_told_parts dc_told_parts pm_told_parts an_told_parts cd_told_parts ct_told_parts), sl_told_parts⟩)
    (c_told_parts : PySem.W.codeIn K cd_told_parts "told_parts" = true)
    (k_told_parts : PySem.W.keepIn K (.ref f_told_parts) = true)
    (a_is_told : PySem.W.nsIn K mainGlobals "is_told" = some (some (.ref f_is_told)))
    (l_is_told : K.lookup f_is_told = some ⟨oc_is_told, od_is_told, .func (PySem.W.fnOf "is_told" "is_told" (defArgs s_is_told) (defBody s_is_told) (defScope s_is_told) .none kV_is_told dc_is_told pm_is_told an_is_told cd_is_told ct_is_told), sl_is_told⟩)
    (c_is_told : PySem.W.codeIn K cd_is_told "is_told" = true)
    (k_is_told : PySem.W.keepIn K (.ref f_is_told) = true)
    (a_classes_of : PySem.W.nsIn K mainGlobals "classes_of" = some (some (.ref f_classes_of)))
    (l_classes_of : K.lookup f_classes_of = some ⟨oc_classes_of, od_classes_of, .func (PySem.W.fnOf "classes_of" "classes_of" (defArgs s_classes_of) (defBody s_classes_of) (defScope s_classes_of) .none kV_classes_of dc_classes_of pm_classes_of an_classes_of cd_classes_of ct_classes_of), sl_classes_of⟩)
    (c_classes_of : PySem.W.codeIn K cd_classes_of "classes_of" = true)
    (k_classes_of : PySem.W.keepIn K (.ref f_classes_of) = true)
    (a_classes : PySem.W.nsIn K mainGlobals "classes" = some (some (.ref f_classes)))
    (l_classes : K.lookup f_classes = some ⟨oc_classes, od_classes, .func (PySem.W.fnOf "classes" "classes" (defArgs s_classes) (defBody s_classes) (defScope s_classes) .none kV_classes dc_classes pm_classes an_classes cd_classes ct_classes), sl_classes⟩)
    (c_classes : PySem.W.codeIn K cd_classes "classes" = true)
    (k_classes : PySem.W.keepIn K (.ref f_classes) = true)
    (a__law_hand : PySem.W.nsIn K mainGlobals "_law_hand" = some (some (.ref f__law_hand)))
    (l__law_hand : K.lookup f__law_hand = some ⟨oc__law_hand, od__law_hand, .func (PySem.W.fnOf "_law_hand" "_law_hand" (defArgs s__law_hand) (defBody s__law_hand) (defScope s__law_hand) .none kV__law_hand dc__law_hand pm__law_hand an__law_hand cd__law_hand ct__law_hand), sl__law_hand⟩)
    (c__law_hand : PySem.W.codeIn K cd__law_hand "_law_hand" = true)
    (k__law_hand : PySem.W.keepIn K (.ref f__law_hand) = true)
    (a__law_take : PySem.W.nsIn K mainGlobals "_law_take" = some (some (.ref f__law_take)))
    (l__law_take : K.lookup f__law_take = some ⟨oc__law_take, od__law_take, .func (PySem.W.fnOf "_law_take" "_law_take" (defArgs s__law_take) (defBody s__law_take) (defScope s__law_take) .none kV__law_take dc__law_take pm__law_take an__law_take cd__law_take ct__law_take), sl__law_take⟩)
    (c__law_take : PySem.W.codeIn K cd__law_take "_law_take" = true)
    (k__law_take : PySem.W.keepIn K (.ref f__law_take) = true)
    (a__law_same : PySem.W.nsIn K mainGlobals "_law_same" = some (some (.ref f__law_same)))
    (l__law_same : K.lookup f__law_same = some ⟨oc__law_same, od__law_same, .func (PySem.W.fnOf "_law_same" "_law_same" (defArgs s__law_same) (defBody s__law_same) (defScope s__law_same) .none kV__law_same dc__law_same pm__law_same an__law_same cd__law_same ct__law_same), sl__law_same⟩)
    (c__law_same : PySem.W.codeIn K cd__law_same "_law_same" = true)
    (k__law_same : PySem.W.keepIn K (.ref f__law_same) = true)
    (a__law_bits : PySem.W.nsIn K mainGlobals "_law_bits" = some (some (.ref f__law_bits)))
    (l__law_bits : K.lookup f__law_bits = some ⟨oc__law_bits, od__law_bits, .func (PySem.W.fnOf "_law_bits" "_law_bits" (defArgs s__law_bits) (defBody s__law_bits) (defScope s__law_bits) .none kV__law_bits dc__law_bits pm__law_bits an__law_bits cd__law_bits ct__law_bits), sl__law_bits⟩)
    (c__law_bits : PySem.W.codeIn K cd__law_bits "_law_bits" = true)
    (k__law_bits : PySem.W.keepIn K (.ref f__law_bits) = true)
    (a__law_lot : PySem.W.nsIn K mainGlobals "_law_lot" = some (some (.ref f__law_lot)))
    (l__law_lot : K.lookup f__law_lot = some ⟨oc__law_lot, od__law_lot, .func (PySem.W.fnOf "_law_lot" "_law_lot" (defArgs s__law_lot) (defBody s__law_lot) (defScope s__law_lot) .none kV__law_lot dc__law_lot pm__law_lot an__law_lot cd__law_lot ct__law_lot), sl__law_lot⟩)
    (c__law_lot : PySem.W.codeIn K cd__law_lot "_law_lot" = true)
    (k__law_lot : PySem.W.keepIn K (.ref f__law_lot) = true)
    (a__law_kept : PySem.W.nsIn K mainGlobals "_law_kept" = some (some (.ref f__law_kept)))
    (l__law_kept : K.lookup f__law_kept = some ⟨oc__law_kept, od__law_kept, .func (PySem.W.fnOf "_law_kept" "_law_kept" (defArgs s__law_kept) (defBody s__law_kept) (defScope s__law_kept) .none kV__law_kept dc__law_kept pm__law_kept an__law_kept cd__law_kept ct__law_kept), sl__law_kept⟩)
    (c__law_kept : PySem.W.codeIn K cd__law_kept "_law_kept" = true)
    (k__law_kept : PySem.W.keepIn K (.ref f__law_kept) = true)
    (a__law_strings : PySem.W.nsIn K mainGlobals "_law_strings" = some (some (.ref f__law_strings)))
    (l__law_strings : K.lookup f__law_strings = some ⟨oc__law_strings, od__law_strings, .func (PySem.W.fnOf "_law_strings" "_law_strings" (defArgs s__law_strings) (defBody s__law_strings) (defScope s__law_strings) .none kV__law_strings dc__law_strings pm__law_strings an__law_strings cd__law_strings ct__law_strings), sl__law_strings⟩)
    (c__law_strings : PySem.W.codeIn K cd__law_strings "_law_strings" = true)
    (k__law_strings : PySem.W.keepIn K (.ref f__law_strings) = true)
    (a__law_classes : PySem.W.nsIn K mainGlobals "_law_classes" = some (some (.ref f__law_classes)))
    (l__law_classes : K.lookup f__law_classes = some ⟨oc__law_classes, od__law_classes, .func (PySem.W.fnOf "_law_classes" "_law_classes" (defArgs s__law_classes) (defBody s__law_classes) (defScope s__law_classes) .none kV__law_classes dc__law_classes pm__law_classes an__law_classes cd__law_classes ct__law_classes), sl__law_classes⟩)
    (c__law_classes : PySem.W.codeIn K cd__law_classes "_law_classes" = true)
    (k__law_classes : PySem.W.keepIn K (.ref f__law_classes) = true)
    (a__law_said : PySem.W.nsIn K mainGlobals "_law_said" = some (some (.ref f__law_said)))
    (l__law_said : K.lookup f__law_said = some ⟨oc__law_said, od__law_said, .func (PySem.W.fnOf "_law_said" "_law_said" (defArgs s__law_said) (defBody s__law_said) (defScope s__law_said) .none kV__law_said dc__law_said pm__law_said an__law_said cd__law_said ct__law_said), sl__law_said⟩)
    (c__law_said : PySem.W.codeIn K cd__law_said "_law_said" = true)
    (k__law_said : PySem.W.keepIn K (.ref f__law_said) = true)
    (a__law_refused : PySem.W.nsIn K mainGlobals "_law_refused" = some (some (.ref f__law_refused)))
    (l__law_refused : K.lookup f__law_refused = some ⟨oc__law_refused, od__law_refused, .func (PySem.W.fnOf "_law_refused" "_law_refused" (defArgs s__law_refused) (defBody s__law_refused) (defScope s__law_refused) .none kV__law_refused dc__law_refused pm__law_refused an__law_refused cd__law_refused ct__law_refused), sl__law_refused⟩)
    (c__law_refused : PySem.W.codeIn K cd__law_refused "_law_refused" = true)
    (k__law_refused : PySem.W.keepIn K (.ref f__law_refused) = true)
    (a__law_wrong : PySem.W.nsIn K mainGlobals "_law_wrong" = some (some (.ref f__law_wrong)))
    (l__law_wrong : K.lookup f__law_wrong = some ⟨oc__law_wrong, od__law_wrong, .func (PySem.W.fnOf "_law_wrong" "_law_wrong" (defArgs s__law_wrong) (defBody s__law_wrong) (defScope s__law_wrong) .none kV__law_wrong dc__law_wrong pm__law_wrong an__law_wrong cd__law_wrong ct__law_wrong), sl__law_wrong⟩)
    (c__law_wrong : PySem.W.codeIn K cd__law_wrong "_law_wrong" = true)
    (k__law_wrong : PySem.W.keepIn K (.ref f__law_wrong) = true)
    (a__law_whole : PySem.W.nsIn K mainGlobals "_law_whole" = some (some (.ref f__law_whole)))
    (l__law_whole : K.lookup f__law_whole = some ⟨oc__law_whole, od__law_whole, .func (PySem.W.fnOf "_law_whole" "_law_whole" (defArgs s__law_whole) (defBody s__law_whole) (defScope s__law_whole) .none kV__law_whole dc__law_whole pm__law_whole an__law_whole cd__law_whole ct__law_whole), sl__law_whole⟩)
    (c__law_whole : PySem.W.codeIn K cd__law_whole "_law_whole" = true)
    (k__law_whole : PySem.W.keepIn K (.ref f__law_whole) = true)
    (a_law : PySem.W.nsIn K mainGlobals "law" = some (some (.ref f_law)))
    (l_law : K.lookup f_law = some ⟨oc_law, od_law, .func (PySem.W.fnOf "law" "law" (defArgs s_law) (defBody s_law) (defScope s_law) .none kV_law dc_law pm_law an_law cd_law ct_law), sl_law⟩)
    (c_law : PySem.W.codeIn K cd_law "law" = true)
    (k_law : PySem.W.keepIn K (.ref f_law) = true)
    (n_ValueError : PySem.W.nsIn K mainGlobals "ValueError" = some none)
    (n_all : PySem.W.nsIn K mainGlobals "all" = some none)
    (n_bool : PySem.W.nsIn K mainGlobals "bool" = some none)
    (n_int : PySem.W.nsIn K mainGlobals "int" = some none)
    (n_isinstance : PySem.W.nsIn K mainGlobals "isinstance" = some none)
    (n_len : PySem.W.nsIn K mainGlobals "len" = some none)
    (n_list : PySem.W.nsIn K mainGlobals "list" = some none)
    (n_range : PySem.W.nsIn K mainGlobals "range" = some none)
    (n_sorted : PySem.W.nsIn K mainGlobals "sorted" = some none)
    (n_str : PySem.W.nsIn K mainGlobals "str" = some none)
    (n_sum : PySem.W.nsIn K mainGlobals "sum" = some none)
    (n_tuple : PySem.W.nsIn K mainGlobals "tuple" = some none)
    (n_zip : PySem.W.nsIn K mainGlobals "zip" = some none)
    (g_MOST_LENGTH : PySem.W.nsIn K mainGlobals "MOST_LENGTH" = some (some (.int 4 tk_MOST_LENGTH)))
    (a_BreakError : PySem.W.nsIn K mainGlobals "BreakError" = some (some (.ref C_BreakError)))
    (a_BadBlock : PySem.W.nsIn K mainGlobals "BadBlock" = some (some (.ref C_BadBlock)))
    (a_BadChoice : PySem.W.nsIn K mainGlobals "BadChoice" = some (some (.ref C_BadChoice)))
    (a_BadTable : PySem.W.nsIn K mainGlobals "BadTable" = some (some (.ref C_BadTable)))
    (k_BadChoice : PySem.W.keepIn K (.ref C_BadChoice) = true)
    (b_BadChoice : PySem.W.subIn K (.ref C_BadChoice) (.type "BaseException") = some true)
    (t_BadChoice : PySem.W.typeIn K (.ref C_BadChoice) = some (.type "type"))
    (x_BadChoice : PySem.W.excIn K C_BadChoice veMro "ValueError.__new__" = true)
    (k_BadTable : PySem.W.keepIn K (.ref C_BadTable) = true)
    (b_BadTable : PySem.W.subIn K (.ref C_BadTable) (.type "BaseException") = some true)
    (t_BadTable : PySem.W.typeIn K (.ref C_BadTable) = some (.type "type"))
    (L_BadTable : K.lookup C_BadTable = some (excClassObj nm_BadTable q_BadTable C_BadTable N_BadTable bs_BadTable bm_BadTable true sn_BadTable sub_BadTable ab_BadTable col_BadTable dd_BadTable m0_BadTable m1_BadTable m2_BadTable m3_BadTable m5_BadTable "ValueError.__new__"))
    (r_BadTable : PySem.HandSPX.refsVE bm_BadTable = true)
    (sa_BadTable : PySem.W.findIn K (.ref C_BadTable) "__setattr__" = some (some (.builtin "object.__setattr__")))
    (nf_BadTable : PySem.W.findIn K (.ref C_BadTable) "value" = some none)
    (i_BadTable : PySem.W.findIn K (.ref C_BadTable) "__init__" = some (some (.ref I_BadTable)))
    (ti_BadTable : PySem.W.typeIn K (.ref I_BadTable) = some (.type "function"))
    (li_BadTable : K.lookup I_BadTable = some ⟨oc_BadTable, od_BadTable, .func (PySem.W.fnOf "__init__" "BadTable.__init__" (defArgs (inClass (top 7) 0)) (defBody (inClass (top 7) 0)) (defScope (inClass (top 7) 0)) .none kV_BadTable dc_BadTable pm_BadTable an_BadTable cd_BadTable ct_BadTable), sl_BadTable⟩)
    (ci_BadTable : PySem.W.codeIn K cd_BadTable "BadTable.__init__" = true)
    (ki_BadTable : PySem.W.keepIn K (.ref I_BadTable) = true)
    (ga_BadTable : PySem.W.findIn K (.ref C_BadTable) "__getattribute__" = some (some (.builtin "BaseException.__getattribute__")))
    (gg_BadTable : PySem.W.findIn K (.ref C_BadTable) "__getattr__" = some none)
    (hd_BadTable : PySem.W.hasDictIn K C_BadTable = true)
    (s_BadTable_BadTable : PySem.W.subIn K (.ref C_BadTable) (.ref C_BadTable) = some true)
    (s_BadChoice_BadTable : PySem.W.subIn K (.ref C_BadChoice) (.ref C_BadTable) = some false)
    (hd_BadChoice : PySem.W.hasDictIn K C_BadChoice = true)
    (s_BadChoice_BadChoice : PySem.W.subIn K (.ref C_BadChoice) (.ref C_BadChoice) = some true)
    (kt_BadChoice_BadBlock : PySem.W.kitOne K (.ref C_BadChoice) (.ref C_BadBlock) = some false)
    (kt_BadChoice_ValueError : PySem.W.kitOne K (.ref C_BadChoice) (.type "ValueError") = some true)
    (ga_BadChoice : PySem.W.findIn K (.ref C_BadChoice) "__getattribute__" = some (some (.builtin "BaseException.__getattribute__")))
    (gg_BadChoice : PySem.W.findIn K (.ref C_BadChoice) "__getattr__" = some none)
    (ca_BadChoice : PySem.W.findIn K (.ref C_BadChoice) "__class__" = some (some (.builtin "object.__class__")))
    (gn : PySem.W.specialIn K (.builtin "object.__class__") "__get__" = some (some (.builtin "getset_descriptor.__get__")))
    (gt : PySem.W.takesIn K (.builtin "object.__class__") = some true)
    (mo_BadChoice : PySem.W.mroIn K C_BadChoice (.type "object") = some true)
    : ∃ fd : FuncData, (∀ (s : Shared) (u : Value), BindsTo s fd ⟨[u], []⟩ [("script", u)]) ∧ ∀ base : Heap, K.In base → base.Ns mainGlobals mg → FnOk P w K mg base (L2.CX P w) 9 fa fd ["script"] (liftSp K topSp) := by
  cases fd_unique hfa (PySem.W.mg_of X G a_law)
  let c : Cs := ⟨C_BreakError, C_BadBlock, C_BadChoice, C_BadTable⟩
  have FI_BadTable := fun_mk (st := (inClass (top 7) 0)) li_BadTable ci_BadTable ki_BadTable
  have OX_BadTable : OexC K C_BadTable := ⟨⟨_, _, _, _, _, _, _, _, _, _, _, _, _, _, _, L_BadTable, r_BadTable⟩, sa_BadTable, b_BadTable, t_BadTable, k_BadTable⟩
  have T : ∀ base : Heap, Txt P w K mg base c := fun base => {
    n_ValueError := PySem.W.mg_none_of X G n_ValueError
    n_all := PySem.W.mg_none_of X G n_all
    n_bool := PySem.W.mg_none_of X G n_bool
    n_int := PySem.W.mg_none_of X G n_int
    n_isinstance := PySem.W.mg_none_of X G n_isinstance
    n_len := PySem.W.mg_none_of X G n_len
    n_list := PySem.W.mg_none_of X G n_list
    n_range := PySem.W.mg_none_of X G n_range
    n_sorted := PySem.W.mg_none_of X G n_sorted
    n_str := PySem.W.mg_none_of X G n_str
    n_sum := PySem.W.mg_none_of X G n_sum
    n_tuple := PySem.W.mg_none_of X G n_tuple
    n_zip := PySem.W.mg_none_of X G n_zip
    g_MOST_LENGTH := ⟨_, PySem.W.mg_of X G g_MOST_LENGTH⟩
    g_BreakError := PySem.W.mg_of X G a_BreakError
    g_BadBlock := PySem.W.mg_of X G a_BadBlock
    g_BadChoice := PySem.W.mg_of X G a_BadChoice
    g_BadTable := PySem.W.mg_of X G a_BadTable
    x_BadChoice := plain_mk X G a_BadChoice x_BadChoice k_BadChoice b_BadChoice t_BadChoice
    f_BadTable := ⟨PySem.W.mg_of X G a_BadTable, OX_BadTable, ⟨_, _, ["self", "value"], i_BadTable, ti_BadTable, FI_BadTable.binds (fun _ _ _ _ _ _ us hl => match us, hl with | [_, _], _ => rfl), ini_ok FI_BadTable ⟨rfl, rfl, rfl, by decide +kernel, rfl, by decide +kernel, by decide +kernel⟩ rfl OX_BadTable nf_BadTable (by decide +kernel) rfl rfl⟩, nf_BadTable, ⟨ga_BadTable, gg_BadTable, b_BadTable, hd_BadTable⟩⟩
    xf_BadTable := ⟨ga_BadTable, gg_BadTable, b_BadTable, hd_BadTable⟩
    xn_BadTable := nf_BadTable
    at_bits := at_mk X G a_bits l_bits c_bits k_bits (fun _ _ _ _ _ _ us hl => match us, hl with | [_, _], _ => rfl)
    at_xor := at_mk X G a_xor l_xor c_xor k_xor (fun _ _ _ _ _ _ us hl => match us, hl with | [_, _], _ => rfl)
    at_is_number := at_mk X G a_is_number l_is_number c_is_number k_is_number (fun _ _ _ _ _ _ us hl => match us, hl with | [_, _, _], _ => rfl)
    at_is_bits := at_mk X G a_is_bits l_is_bits c_is_bits k_is_bits (fun _ _ _ _ _ _ us hl => match us, hl with | [_, _], _ => rfl)
    at_check_length := at_mk X G a_check_length l_check_length c_check_length k_check_length (fun _ _ _ _ _ _ us hl => match us, hl with | [_, _], _ => rfl)
    at_is_lot := at_mk X G a_is_lot l_is_lot c_is_lot k_is_lot (fun _ _ _ _ _ _ us hl => match us, hl with | [_, _], _ => rfl)
    at_check_lot := at_mk X G a_check_lot l_check_lot c_check_lot k_check_lot (fun _ _ _ _ _ _ us hl => match us, hl with | [_, _], _ => rfl)
    at_length_of := at_mk X G a_length_of l_length_of c_length_of k_length_of (fun _ _ _ _ _ _ us hl => match us, hl with | [_], _ => rfl)
    at_strings_of := at_mk X G a_strings_of l_strings_of c_strings_of k_strings_of (fun _ _ _ _ _ _ us hl => match us, hl with | [_], _ => rfl)
    at_is_heard := at_mk X G a_is_heard l_is_heard c_is_heard k_is_heard (fun _ _ _ _ _ _ us hl => match us, hl with | [_, _, _], _ => rfl)
    at_hole := at_mk X G a_hole l_hole c_hole k_hole (fun _ _ _ _ _ _ us hl => match us, hl with | [_, _, _], _ => rfl)
    at_shifts_of := at_mk X G a_shifts_of l_shifts_of c_shifts_of k_shifts_of (fun _ _ _ _ _ _ us hl => match us, hl with | [_, _], _ => rfl)
    at_kept_shifts := at_mk X G a_kept_shifts l_kept_shifts c_kept_shifts k_kept_shifts (fun _ _ _ _ _ _ us hl => match us, hl with | [_, _], _ => rfl)
    at_parts_like := at_mk X G a_parts_like l_parts_like c_parts_like k_parts_like (fun _ _ _ _ _ _ us hl => match us, hl with | [_, _, _], _ => rfl)
    at_told_parts := at_mk X G a_told_parts l_told_parts c_told_parts k_told_parts (fun _ _ _ _ _ _ us hl => match us, hl with | [_, _, _], _ => rfl)
    at_is_told := at_mk X G a_is_told l_is_told c_is_told k_is_told (fun _ _ _ _ _ _ us hl => match us, hl with | [_, _], _ => rfl)
    at_classes_of := at_mk X G a_classes_of l_classes_of c_classes_of k_classes_of (fun _ _ _ _ _ _ us hl => match us, hl with | [_, _], _ => rfl)
    at_classes := at_mk X G a_classes l_classes c_classes k_classes (fun _ _ _ _ _ _ us hl => match us, hl with | [_, _], _ => rfl)
    at__law_hand := at_mk X G a__law_hand l__law_hand c__law_hand k__law_hand (fun _ _ _ _ _ _ us hl => match us, hl with | [_], _ => rfl)
    at__law_take := at_mk X G a__law_take l__law_take c__law_take k__law_take (fun _ _ _ _ _ _ us hl => match us, hl with | [_, _], _ => rfl)
    at__law_same := at_mk X G a__law_same l__law_same c__law_same k__law_same (fun _ _ _ _ _ _ us hl => match us, hl with | [_, _], _ => rfl)
    at__law_bits := at_mk X G a__law_bits l__law_bits c__law_bits k__law_bits (fun _ _ _ _ _ _ us hl => match us, hl with | [_, _], _ => rfl)
    at__law_lot := at_mk X G a__law_lot l__law_lot c__law_lot k__law_lot (fun _ _ _ _ _ _ us hl => match us, hl with | [_, _], _ => rfl)
    at__law_kept := at_mk X G a__law_kept l__law_kept c__law_kept k__law_kept (fun _ _ _ _ _ _ us hl => match us, hl with | [_], _ => rfl)
    at__law_strings := at_mk X G a__law_strings l__law_strings c__law_strings k__law_strings (fun _ _ _ _ _ _ us hl => match us, hl with | [_, _], _ => rfl)
    at__law_classes := at_mk X G a__law_classes l__law_classes c__law_classes k__law_classes (fun _ _ _ _ _ _ us hl => match us, hl with | [_, _], _ => rfl)
    at__law_said := at_mk X G a__law_said l__law_said c__law_said k__law_said (fun _ _ _ _ _ _ us hl => match us, hl with | [_, _], _ => rfl)
    at__law_refused := at_mk X G a__law_refused l__law_refused c__law_refused k__law_refused (fun _ _ _ _ _ _ us hl => match us, hl with | [_, _, _, _], _ => rfl)
    at__law_wrong := at_mk X G a__law_wrong l__law_wrong c__law_wrong k__law_wrong (fun _ _ _ _ _ _ us hl => match us, hl with | [_, _, _, _], _ => rfl)
    at__law_whole := at_mk X G a__law_whole l__law_whole c__law_whole k__law_whole (fun _ _ _ _ _ _ us hl => match us, hl with | [_], _ => rfl)
    at_law := at_mk X G a_law l_law c_law k_law (fun _ _ _ _ _ _ us hl => match us, hl with | [_], _ => rfl) }
  have e_BadTable_BadTable : PySem.W.exmOne K (.ref C_BadTable) (.ref C_BadTable) = some true := PySem.W.exm_ref b_BadTable hd_BadTable t_BadTable s_BadTable_BadTable
  have e_BadChoice_BadTable : PySem.W.exmOne K (.ref C_BadChoice) (.ref C_BadTable) = some false := PySem.W.exm_ref b_BadTable hd_BadTable t_BadTable s_BadChoice_BadTable
  have e_BadChoice_BadChoice : PySem.W.exmOne K (.ref C_BadChoice) (.ref C_BadChoice) = some true := PySem.W.exm_ref b_BadChoice hd_BadChoice t_BadChoice s_BadChoice_BadChoice
  have ec_BadChoice : ExcC K C_BadChoice := ⟨ga_BadChoice, gg_BadChoice, b_BadChoice, hd_BadChoice, ca_BadChoice, gn, gt, mo_BadChoice⟩
  have XX : Exm K c := ⟨e_BadTable_BadTable, e_BadChoice_BadTable, e_BadChoice_BadChoice, kt_BadChoice_BadBlock, kt_BadChoice_ValueError, ec_BadChoice⟩
  have F_law := fun_mk (st := s_law) l_law c_law k_law
  refine ⟨PySem.W.fnOf "law" "law" (defArgs s_law) (defBody s_law) (defScope s_law) .none kV_law dc_law pm_law an_law cd_law ct_law, fun s v => .of_eq rfl, fun base _ _ => ?_⟩
  obtain ⟨f2, fd2, hm2, hF2, hb2, ok⟩ := b_law (T base) XX
  cases fd_unique (PySem.W.mg_of X G a_law) hm2
  obtain ⟨_, _, _, _, _, _, _, _, _, _, e2, _⟩ := hF2.ex
  have e3 := l_law.symm.trans e2
  simp only [Option.some.injEq, PySem.Obj.mk.injEq, PySem.Data.func.injEq] at e3
  obtain ⟨_, _, e4, _⟩ := e3
  rw [e4]
  exact ok
theorem walk {l : PySem.W.OpenLaw} {q : Program} {loose : List Str} {XP : (Str → Option Value) → Heap → Prop} {YP : World → Heap → Prop} {d : DefRec} {K : Params → PySem.W.Frag} (hn : l.most = some 63) (hdf : d.params.defaults = [])
    (hY : ∀ (w : World) (h : Heap), YP w h → (K w.params).In h)
    (F : ∀ (w : World) (mg : Str → Option Value) (fa : Addr) (h : Heap), (K w.params).In h → h.Ns mainGlobals mg → mg d.name = some (.ref fa) →
      ∃ fd : FuncData, (∀ (s : Shared) (u : Value), BindsTo s fd ⟨[u], []⟩ [("script", u)]) ∧ ∀ base : Heap, (K w.params).In base → base.Ns mainGlobals mg → FnOk l.prog w (K w.params) mg base (L2.CX l.prog w) 9 fa fd ["script"] (liftSp (K w.params) topSp)) :
    PySem.W.WalkO q loose XP YP l.row.toRowW d [] (fun f vs => PySem.call f vs) :=
  L2.walk_of (n := 63) (k := 9) (x := "script") (CX := fun w => L2.CX l.prog w) (sp := fun w => liftSp (K w.params) topSp) hn (by decide) hdf ⟨rfl, by decide, by decide⟩ hY F (fun _ _ a ns hl _ hS => top_sp hl hS) fun _ _ _ _ _ z => no_cx _ _ _ _ z
end K75
open PySem PySem.W PyProof.Rows
set_option maxRecDepth 100000 in
set_option maxHeartbeats 0 in
theorem PySem.Challenge.cw_carriedbreaks_k75_what_a_hole_tells_holds : PySem.Challenge.rw_carriedbreaks_k75_what_a_hole_tells.Holds := by
  w_on; o_law; k_head; (case hw => w_witness2)
  k_fill
  refine K75.walk (l := PySem.Challenge.rw_carriedbreaks_k75_what_a_hole_tells) rfl rfl (fun w h Y => PySem.W.kIn_of Y) ?F
  case F =>
    intro w mg fa h KX G hmg
    refine' K75.top_mk KX G hmg ?a_bits ?l_bits ?c_bits ?k_bits ?a_xor ?l_xor ?c_xor ?k_xor ?a_is_number ?l_is_number ?c_is_number ?k_is_number ?a_is_bits ?l_is_bits ?c_is_bits ?k_is_bits ?a_check_length ?l_check_length ?c_check_length ?k_check_length ?a_is_lot ?l_is_lot ?c_is_lot ?k_is_lot ?a_check_lot ?l_check_lot ?c_check_lot ?k_check_lot ?a_length_of ?l_length_of ?c_length_of ?k_length_of ?a_strings_of ?l_strings_of ?c_strings_of ?k_strings_of ?a_is_heard ?l_is_heard ?c_is_heard ?k_is_heard ?a_hole ?l_hole ?c_hole ?k_hole ?a_shifts_of ?l_shifts_of ?c_shifts_of ?k_shifts_of ?a_kept_shifts ?l_kept_shifts ?c_kept_shifts ?k_kept_shifts ?a_parts_like ?l_parts_like ?c_parts_like ?k_parts_like ?a_told_parts ?l_told_parts ?c_told_parts ?k_told_parts ?a_is_told ?l_is_told ?c_is_told ?k_is_told ?a_classes_of ?l_classes_of ?c_classes_of ?k_classes_of ?a_classes ?l_classes ?c_classes ?k_classes ?a__law_hand ?l__law_hand ?c__law_hand ?k__law_hand ?a__law_take ?l__law_take ?c__law_take ?k__law_take ?a__law_same ?l__law_same ?c__law_same ?k__law_same ?a__law_bits ?l__law_bits ?c__law_bits ?k__law_bits ?a__law_lot ?l__law_lot ?c__law_lot ?k__law_lot ?a__law_kept ?l__law_kept ?c__law_kept ?k__law_kept ?a__law_strings ?l__law_strings ?c__law_strings ?k__law_strings ?a__law_classes ?l__law_classes ?c__law_classes ?k__law_classes ?a__law_said ?l__law_said ?c__law_said ?k__law_said ?a__law_refused ?l__law_refused ?c__law_refused ?k__law_refused ?a__law_wrong ?l__law_wrong ?c__law_wrong ?k__law_wrong ?a__law_whole ?l__law_whole ?c__law_whole ?k__law_whole ?a_law ?l_law ?c_law ?k_law ?n_ValueError ?n_all ?n_bool ?n_int ?n_isinstance ?n_len ?n_list ?n_range ?n_sorted ?n_str ?n_sum ?n_tuple ?n_zip ?g_MOST_LENGTH ?a_BreakError ?a_BadBlock ?a_BadChoice ?a_BadTable ?k_BadChoice ?b_BadChoice ?t_BadChoice ?x_BadChoice ?k_BadTable ?b_BadTable ?t_BadTable ?L_BadTable ?r_BadTable ?sa_BadTable ?nf_BadTable ?i_BadTable ?ti_BadTable ?li_BadTable ?ci_BadTable ?ki_BadTable ?ga_BadTable ?gg_BadTable ?hd_BadTable ?s_BadTable_BadTable ?s_BadChoice_BadTable ?hd_BadChoice ?s_BadChoice_BadChoice ?kt_BadChoice_BadBlock ?kt_BadChoice_ValueError ?ga_BadChoice ?gg_BadChoice ?ca_BadChoice ?gn ?gt ?mo_BadChoice
    (case a_bits => k_is)
    (case l_bits => k_is)
    (case c_bits => k_is)
    (case k_bits => k_is)
    (case a_xor => k_is)
    (case l_xor => k_is)
    (case c_xor => k_is)
    (case k_xor => k_is)
    (case a_is_number => k_is)
    (case l_is_number => k_is)
    (case c_is_number => k_is)
    (case k_is_number => k_is)
    (case a_is_bits => k_is)
    (case l_is_bits => k_is)
    (case c_is_bits => k_is)
    (case k_is_bits => k_is)
    (case a_check_length => k_is)
    (case l_check_length => k_is)
    (case c_check_length => k_is)
    (case k_check_length => k_is)
    (case a_is_lot => k_is)
    (case l_is_lot => k_is)
    (case c_is_lot => k_is)
    (case k_is_lot => k_is)
    (case a_check_lot => k_is)
    (case l_check_lot => k_is)
    (case c_check_lot => k_is)
    (case k_check_lot => k_is)
    (case a_length_of => k_is)
    (case l_length_of => k_is)
    (case c_length_of => k_is)
    (case k_length_of => k_is)
    (case a_strings_of => k_is)
    (case l_strings_of => k_is)
    (case c_strings_of => k_is)
    (case k_strings_of => k_is)
    (case a_is_heard => k_is)
    (case l_is_heard => k_is)
    (case c_is_heard => k_is)
    (case k_is_heard => k_is)
    (case a_hole => k_is)
    (case l_hole => k_is)
    (case c_hole => k_is)
    (case k_hole => k_is)
    (case a_shifts_of => k_is)
    (case l_shifts_of => k_is)
    (case c_shifts_of => k_is)
    (case k_shifts_of => k_is)
    (case a_kept_shifts => k_is)
    (case l_kept_shifts => k_is)
    (case c_kept_shifts => k_is)
    (case k_kept_shifts => k_is)
    (case a_parts_like => k_is)
    (case l_parts_like => k_is)
    (case c_parts_like => k_is)
    (case k_parts_like => k_is)
    (case a_told_parts => k_is)
    (case l_told_parts => k_is)
    (case c_told_parts => k_is)
    (case k_told_parts => k_is)
    (case a_is_told => k_is)
    (case l_is_told => k_is)
    (case c_is_told => k_is)
    (case k_is_told => k_is)
    (case a_classes_of => k_is)
    (case l_classes_of => k_is)
    (case c_classes_of => k_is)
    (case k_classes_of => k_is)
    (case a_classes => k_is)
    (case l_classes => k_is)
    (case c_classes => k_is)
    (case k_classes => k_is)
    (case a__law_hand => k_is)
    (case l__law_hand => k_is)
    (case c__law_hand => k_is)
    (case k__law_hand => k_is)
    (case a__law_take => k_is)
    (case l__law_take => k_is)
    (case c__law_take => k_is)
    (case k__law_take => k_is)
    (case a__law_same => k_is)
    (case l__law_same => k_is)
    (case c__law_same => k_is)
    (case k__law_same => k_is)
    (case a__law_bits => k_is)
    (case l__law_bits => k_is)
    (case c__law_bits => k_is)
    (case k__law_bits => k_is)
    (case a__law_lot => k_is)
    (case l__law_lot => k_is)
    (case c__law_lot => k_is)
    (case k__law_lot => k_is)
    (case a__law_kept => k_is)
    (case l__law_kept => k_is)
    (case c__law_kept => k_is)
    (case k__law_kept => k_is)
    (case a__law_strings => k_is)
    (case l__law_strings => k_is)
    (case c__law_strings => k_is)
    (case k__law_strings => k_is)
    (case a__law_classes => k_is)
    (case l__law_classes => k_is)
    (case c__law_classes => k_is)
    (case k__law_classes => k_is)
    (case a__law_said => k_is)
    (case l__law_said => k_is)
    (case c__law_said => k_is)
    (case k__law_said => k_is)
    (case a__law_refused => k_is)
    (case l__law_refused => k_is)
    (case c__law_refused => k_is)
    (case k__law_refused => k_is)
    (case a__law_wrong => k_is)
    (case l__law_wrong => k_is)
    (case c__law_wrong => k_is)
    (case k__law_wrong => k_is)
    (case a__law_whole => k_is)
    (case l__law_whole => k_is)
    (case c__law_whole => k_is)
    (case k__law_whole => k_is)
    (case a_law => k_is)
    (case l_law => k_is)
    (case c_law => k_is)
    (case k_law => k_is)
    (case n_ValueError => k_is)
    (case n_all => k_is)
    (case n_bool => k_is)
    (case n_int => k_is)
    (case n_isinstance => k_is)
    (case n_len => k_is)
    (case n_list => k_is)
    (case n_range => k_is)
    (case n_sorted => k_is)
    (case n_str => k_is)
    (case n_sum => k_is)
    (case n_tuple => k_is)
    (case n_zip => k_is)
    (case g_MOST_LENGTH => k_is)
    (case a_BreakError => k_is)
    (case a_BadBlock => k_is)
    (case a_BadChoice => k_is)
    (case a_BadTable => k_is)
    (case k_BadChoice => k_is)
    (case b_BadChoice => k_is)
    (case t_BadChoice => k_is)
    (case x_BadChoice => k_exc)
    (case k_BadTable => k_is)
    (case b_BadTable => k_is)
    (case t_BadTable => k_is)
    (case L_BadTable => k_is)
    (case r_BadTable => decide +kernel)
    (case sa_BadTable => k_is)
    (case nf_BadTable => k_is)
    (case i_BadTable => k_is)
    (case ti_BadTable => k_is)
    (case li_BadTable => k_is)
    (case ci_BadTable => k_is)
    (case ki_BadTable => k_is)
    (case ga_BadTable => k_is)
    (case gg_BadTable => k_is)
    (case hd_BadTable => k_is)
    (case s_BadTable_BadTable => k_is)
    (case s_BadChoice_BadTable => k_is)
    (case hd_BadChoice => k_is)
    (case s_BadChoice_BadChoice => k_is)
    (case kt_BadChoice_BadBlock => kit_is)
    (case kt_BadChoice_ValueError => kit_is)
    (case ga_BadChoice => k_is)
    (case gg_BadChoice => k_is)
    (case ca_BadChoice => k_is)
    (case gn => k_is)
    (case gt => k_is)
    (case mo_BadChoice => k_is)
