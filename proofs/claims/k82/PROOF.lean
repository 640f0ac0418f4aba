import PyProof.Rows.All
import Wide.All
import OpenK.AllK
import Wide.FinOn
import HandS.ForMost
import HandS.ForExc
import HandS.IsInst
import HandS.TryMany
import HandS.ExcIs
import HandS.ExcField
import HandS.ExcInit
import HandS.Wide
import HandS.WideBits
import HandS.Deep
import HandS.TupAny
import HandS.TupMul
import HandS.TupLe
import HandS.SortInts
import HandS.Style
import HandS.Flow
import HandS.Conv
import HandS.Text
import HandS.Gcd
import HandS.SetKeys
import KE.GoesMore
import KE.GoesZip
import KE.GoesEnum
import HandS.Zip
import HandS.ExcBuiltin
import PyProof.Rows.StrFin3
import KE.OsArith
import KE.BitLaws
import PySem.Challenge.RW_carriedbreaks_k82_whole_turned_back_or_d
set_option Elab.async false
set_option linter.all false
set_option autoImplicit false
set_option maxRecDepth 100000
set_option maxHeartbeats 4000000
/-! D1: data as trees over the hand layer: values D, the ledger of changing lists G, what is frozen F; the judgements lifted. -/
namespace DL
open PySem PySem.Spec L2

/-- a value as a tree: tuples and frozen lists by what they hold, a changing list by its address -/
inductive D where
  | non | bl (b : Bool) | int (i : Int) | str (x : Str) | tup (xs : List D) | lst (xs : List D) | scr (ns : List Int) | ref (a : Addr) | ty (n : String)
/-- what is frozen; what is held back (a list that a comprehension grows) -/
structure Fz where
  fz : Addr → Prop
  bl : Addr → Prop
/-- what stands at a changing address -/
inductive DO where
  | lst (ds : List D)
  | hid (φ : List D → Prop)
  | dct (kvs : List (Key × D))
  | set (S : Int → Bool) (n : Nat)
abbrev DH := Addr → Option DO
def dupd (G : DH) (a : Addr) (o : DO) : DH := fun b => if b = a then some o else G b
def ddel (G : DH) (a : Addr) : DH := fun b => if b = a then none else G b
@[simp] theorem dupd_same {G : DH} {a : Addr} {o : DO} : dupd G a o a = some o := by unfold dupd; rw [if_pos rfl]
theorem dupd_ne {G : DH} {a b : Addr} {o : DO} (h : b ≠ a) : dupd G a o b = G b := by unfold dupd; rw [if_neg h]
@[simp] theorem dupd_dupd {G : DH} {a : Addr} {o u : DO} : dupd (dupd G a o) a u = dupd G a u := by funext b; unfold dupd; split <;> rfl
theorem dupd_self {G : DH} {a : Addr} {o : DO} (h : G a = some o) : dupd G a o = G := by
  funext b; unfold dupd; split
  · rename_i e; rw [e, h]
  · rfl
theorem dne_of {G : DH} {a b : Addr} {o : DO} (h : G a = some o) (h' : G b = none) : a ≠ b := by
  intro e; subst e; rw [h] at h'; cases h'

def FrzL (H : Hp) (F : Fz) (a : Addr) (vs : List V) : Prop := F.fz a ∧ H a = some (.lst vs)
/-- a list that stands in the module -/
def KonL (K : PySem.W.Frag) (a : Addr) (xs : List V) : Prop := ∃ (o : Obj) (its : Array Value) (n : Nat), K.lookup a = some o ∧ o.cls = .type "list" ∧ o.dict = none ∧ o.data = .seq its n ∧ its.size ≤ sizeLine ∧ Vals xs its.toList
/-- a list that is read alone, whatever it is -/
def ScrL (K : PySem.W.Frag) (H : Hp) (F : Fz) (a : Addr) (vs : List V) : Prop := FrzL H F a vs ∨ (∃ o, H a = some (.frz o (.lst vs))) ∨ KonL K a vs
section
variable (K : PySem.W.Frag) (H : Hp) (F : Fz)
mutual
def Rep : D → V → Prop
  | .non, v => v = .non
  | .bl b, v => v = .bl b
  | .int i, v => v = .int i
  | .str x, v => v = .str x
  | .tup ds, v => ∃ a vs, v = .ref a ∧ SqT K H a vs ∧ Reps ds vs
  | .lst ds, v => ∃ a vs, v = .ref a ∧ FrzL H F a vs ∧ Reps ds vs
  | .scr ns, v => ∃ a, v = .ref a ∧ ScrL K H F a (ns.map V.int)
  | .ref a, v => v = .ref a
  | .ty n, v => v = .ty n
def Reps : List D → List V → Prop
  | [], vs => vs = []
  | d :: ds, vs => ∃ v r, vs = v :: r ∧ Rep d v ∧ Reps ds r
end
def RepO : DO → HO → Prop
  | .lst ds, ho => ∃ vs, ho = .lst vs ∧ Reps K H F ds vs
  | .hid φ, ho => ∃ ds vs, φ ds ∧ ho = .lst vs ∧ Reps K H F ds vs
  | .dct kvs, ho => ∃ ws, ho = .dK ws ∧ Paired (fun (p : Key × D) (q : Key × V) => p.1 = q.1 ∧ Rep K H F p.2 q.2) kvs ws
  | .set S n, ho => ho = .set S n
structure GRel (G : DH) : Prop where
  at_ : ∀ a o, G a = some o → (¬ F.fz a ∧ ¬ F.bl a) ∧ ∃ ho, H a = some ho ∧ RepO K H F o ho
  fz : ∀ a, F.fz a → ∃ vs, H a = some (.lst vs)
  bl : ∀ a, F.bl a → ¬ F.fz a ∧ ∃ ho, H a = some ho
end
/-- what a tree leans on stays -/
structure Ext0 (F : Fz) (H : Hp) (F' : Fz) (H' : Hp) : Prop where
  tup : ∀ a xs, H a = some (.tup xs) → H' a = some (.tup xs)
  frz : ∀ a o u, H a = some (.frz o u) → H' a = some (.frz o u)
  xd : ∀ a fs, H a = some (.xd fs) → H' a = some (.xd fs)
  old : ∀ a, F.fz a → F'.fz a
  keep : ∀ a vs, F.fz a → H a = some (.lst vs) → H' a = some (.lst vs)
/-- what stays from one moment to a later one -/
structure Ext (F : Fz) (H : Hp) (F' : Fz) (H' : Hp) : Prop extends Ext0 F H F' H' where
  bl : ∀ a, F.bl a → F'.bl a
  kb : ∀ a o, F.bl a → H a = some o → H' a = some o
theorem Ext0.refl {F : Fz} {H : Hp} : Ext0 F H F H := ⟨fun _ _ h => h, fun _ _ _ h => h, fun _ _ h => h, fun _ h => h, fun _ _ _ h => h⟩
theorem Ext.refl {F : Fz} {H : Hp} : Ext F H F H := ⟨Ext0.refl, fun _ h => h, fun _ _ _ h => h⟩
theorem Ext0.trans {F F1 F2 : Fz} {H H1 H2 : Hp} (a : Ext0 F H F1 H1) (b : Ext0 F1 H1 F2 H2) : Ext0 F H F2 H2 :=
  ⟨fun c xs h => b.tup c xs (a.tup c xs h), fun c o u h => b.frz c o u (a.frz c o u h), fun c fs h => b.xd c fs (a.xd c fs h), fun c h => b.old c (a.old c h), fun c vs f h => b.keep c vs (a.old c f) (a.keep c vs f h)⟩
theorem Ext.trans {F F1 F2 : Fz} {H H1 H2 : Hp} (a : Ext F H F1 H1) (b : Ext F1 H1 F2 H2) : Ext F H F2 H2 :=
  ⟨a.toExt0.trans b.toExt0, fun c h => b.bl c (a.bl c h), fun c o h q => b.kb c o (a.bl c h) (a.kb c o h q)⟩
section
variable {K : PySem.W.Frag} {F F' : Fz} {H H' : Hp}
theorem Ext0.sqt (e : Ext0 F H F' H') {a : Addr} {vs : List V} (h : SqT K H a vs) : SqT K H' a vs := by
  rcases h with (h | ⟨o, h⟩) | h
  · exact .inl (.inl (e.tup _ _ h))
  · exact .inl (.inr ⟨o, e.frz _ _ _ h⟩)
  · exact .inr h
theorem Ext0.frzl (e : Ext0 F H F' H') {a : Addr} {vs : List V} (h : FrzL H F a vs) : FrzL H' F' a vs := ⟨e.old a h.1, e.keep a vs h.1 h.2⟩
theorem Ext0.scrl (e : Ext0 F H F' H') {a : Addr} {vs : List V} (h : ScrL K H F a vs) : ScrL K H' F' a vs := by
  rcases h with h | ⟨o, h⟩ | h
  · exact .inl (e.frzl h)
  · exact .inr (.inl ⟨o, e.frz _ _ _ h⟩)
  · exact .inr (.inr h)
mutual
theorem Ext0.rep (e : Ext0 F H F' H') : ∀ (d : D) (v : V), Rep K H F d v → Rep K H' F' d v
  | .non, _, h => h
  | .bl _, _, h => h
  | .int _, _, h => h
  | .str _, _, h => h
  | .ref _, _, h => h
  | .ty _, _, h => h
  | .scr ns, v, h => by
    unfold Rep at h ⊢
    obtain ⟨a, e1, h1⟩ := h
    exact ⟨a, e1, e.scrl h1⟩
  | .tup ds, v, h => by
    unfold Rep at h ⊢
    obtain ⟨a, vs, e1, h1, h2⟩ := h
    exact ⟨a, vs, e1, e.sqt h1, Ext0.reps e ds vs h2⟩
  | .lst ds, v, h => by
    unfold Rep at h ⊢
    obtain ⟨a, vs, e1, h1, h2⟩ := h
    exact ⟨a, vs, e1, e.frzl h1, Ext0.reps e ds vs h2⟩
theorem Ext0.reps (e : Ext0 F H F' H') : ∀ (ds : List D) (vs : List V), Reps K H F ds vs → Reps K H' F' ds vs
  | [], _, h => by unfold Reps at h ⊢; exact h
  | d :: ds, vs, h => by
    unfold Reps at h ⊢
    obtain ⟨v, r, e1, h1, h2⟩ := h
    exact ⟨v, r, e1, Ext0.rep e d v h1, Ext0.reps e ds r h2⟩
end
theorem Ext0.repo (e : Ext0 F H F' H') {o : DO} {ho : HO} (h : RepO K H F o ho) : RepO K H' F' o ho := by
  cases o with
  | lst ds => obtain ⟨vs, e1, h⟩ := h; exact ⟨vs, e1, e.reps _ _ h⟩
  | hid φ => obtain ⟨ds, vs, p, e1, h⟩ := h; exact ⟨ds, vs, p, e1, e.reps _ _ h⟩
  | dct kvs => obtain ⟨ws, e1, h⟩ := h; exact ⟨ws, e1, Paired.mapP h fun p q z => ⟨z.1, e.rep _ _ z.2⟩⟩
  | set S n => exact h
theorem Ext0.new {a : Addr} {o : HO} (h : H a = none) : Ext0 F H F (upd H a o) := by
  refine ⟨fun b xs q => ?_, fun b u w q => ?_, fun b fs q => ?_, fun _ f => f, fun b vs _ q => ?_⟩
  all_goals (rw [upd_ne (ne_of_none q h)]; exact q)
theorem Ext.new {a : Addr} {o : HO} (h : H a = none) : Ext F H F (upd H a o) := ⟨Ext0.new h, fun _ f => f, fun b u _ q => by rw [upd_ne (ne_of_none q h)]; exact q⟩
/-- a thing of ours (no tuple, nothing locked, no exception's dict, not frozen) is written -/
theorem Ext0.put {a : Addr} {o ho : HO} (h : H a = some ho) (hf : ¬ F.fz a) (h1 : ∀ xs, ho ≠ .tup xs) (h2 : ∀ ob u, ho ≠ .frz ob u) (h3 : ∀ fs, ho ≠ .xd fs) : Ext0 F H F (upd H a o) := by
  refine ⟨fun b xs q => ?_, fun b u w q => ?_, fun b fs q => ?_, fun _ f => f, fun b vs f q => ?_⟩
  · have : b ≠ a := by rintro rfl; rw [h] at q; exact h1 xs (Option.some.inj q)
    rw [upd_ne this]; exact q
  · have : b ≠ a := by rintro rfl; rw [h] at q; exact h2 u w (Option.some.inj q)
    rw [upd_ne this]; exact q
  · have : b ≠ a := by rintro rfl; rw [h] at q; exact h3 fs (Option.some.inj q)
    rw [upd_ne this]; exact q
  · have : b ≠ a := by rintro rfl; exact hf f
    rw [upd_ne this]; exact q
def fadd (F : Fz) (a : Addr) : Fz := ⟨fun b => F.fz b ∨ b = a, F.bl⟩
def badd (F : Fz) (a : Addr) : Fz := ⟨F.fz, fun b => F.bl b ∨ b = a⟩
theorem RepO.kinds {o : DO} {ho : HO} (h : RepO K H F o ho) : (∀ xs, ho ≠ .tup xs) ∧ (∀ ob u, ho ≠ .frz ob u) ∧ ∀ fs, ho ≠ .xd fs := by
  cases o with
  | lst ds => obtain ⟨vs, rfl, _⟩ := h; exact ⟨(by intro _ z; cases z), (by intro _ _ z; cases z), (by intro _ z; cases z)⟩
  | hid φ => obtain ⟨ds, vs, _, rfl, _⟩ := h; exact ⟨(by intro _ z; cases z), (by intro _ _ z; cases z), (by intro _ z; cases z)⟩
  | dct kvs => obtain ⟨ws, rfl, _⟩ := h; exact ⟨(by intro _ z; cases z), (by intro _ _ z; cases z), (by intro _ z; cases z)⟩
  | set S n => cases (show ho = .set S n from h); exact ⟨(by intro _ z; cases z), (by intro _ _ z; cases z), (by intro _ z; cases z)⟩
theorem GRel.free {G : DH} (g : GRel K H F G) {a : Addr} (h : H a = none) : G a = none := by
  cases e : G a with
  | none => rfl
  | some o => obtain ⟨_, ho, q, _⟩ := g.at_ a o e; rw [h] at q; cases q
theorem GRel.put {G : DH} (g : GRel K H F G) {a : Addr} {o : DO} (e : G a = some o) {o' : DO} {ho : HO} (r : RepO K H F o' ho) : Ext F H F (upd H a ho) ∧ GRel K (upd H a ho) F (dupd G a o') := by
  obtain ⟨⟨nf, nb⟩, h1, q1, r1⟩ := g.at_ a o e
  obtain ⟨k1, k2, k3⟩ := r1.kinds
  have x0 : Ext0 F H F (upd H a ho) := Ext0.put q1 nf k1 k2 k3
  have x : Ext F H F (upd H a ho) := ⟨x0, fun _ f => f, fun b u f q => by
    have : b ≠ a := by rintro rfl; exact nb f
    rw [upd_ne this]; exact q⟩
  refine ⟨x, fun b u eb => ?_, fun b f => ?_, fun b f => ?_⟩
  · by_cases hb : b = a
    · subst hb
      rw [dupd_same] at eb; cases eb
      exact ⟨⟨nf, nb⟩, ho, upd_same, x.repo r⟩
    · rw [dupd_ne hb] at eb
      obtain ⟨nf', h2, q2, r2⟩ := g.at_ b u eb
      exact ⟨nf', h2, by rw [upd_ne hb]; exact q2, x.repo r2⟩
  · obtain ⟨vs, q⟩ := g.fz b f
    exact ⟨vs, x.keep b vs f q⟩
  · obtain ⟨n, u, q⟩ := g.bl b f
    exact ⟨n, u, x.kb b u f q⟩
theorem GRel.old {G : DH} (g : GRel K H F G) {a : Addr} {ho : HO} (h : H a = none) : GRel K (upd H a ho) F G := by
  have x : Ext F H F (upd H a ho) := Ext.new h
  refine ⟨fun b u eb => ?_, fun b f => ?_, fun b f => ?_⟩
  · obtain ⟨nf', h2, q2, r2⟩ := g.at_ b u eb
    exact ⟨nf', h2, by rw [upd_ne (ne_of_none q2 h)]; exact q2, x.repo r2⟩
  · obtain ⟨vs, q⟩ := g.fz b f
    exact ⟨vs, x.keep b vs f q⟩
  · obtain ⟨n, u, q⟩ := g.bl b f
    exact ⟨n, u, x.kb b u f q⟩
theorem GRel.nofz {G : DH} (g : GRel K H F G) {a : Addr} (h : H a = none) : ¬ F.fz a := fun f => by
  obtain ⟨vs, q⟩ := g.fz a f
  rw [h] at q; cases q
theorem GRel.nobl {G : DH} (g : GRel K H F G) {a : Addr} (h : H a = none) : ¬ F.bl a := fun f => by
  obtain ⟨_, vs, q⟩ := g.bl a f
  rw [h] at q; cases q
theorem GRel.new {G : DH} (g : GRel K H F G) {a : Addr} {o : DO} {ho : HO} (h : H a = none) (r : RepO K H F o ho) : GRel K (upd H a ho) F (dupd G a o) := by
  refine ⟨fun b u eb => ?_, (g.old h).fz, (g.old h).bl⟩
  by_cases hb : b = a
  · subst hb
    rw [dupd_same] at eb; cases eb
    exact ⟨⟨g.nofz h, g.nobl h⟩, ho, upd_same, (Ext0.new h).repo r⟩
  · rw [dupd_ne hb] at eb
    exact (g.old h).at_ b u eb
/-- a new list, frozen at once -/
theorem GRel.newF {G : DH} (g : GRel K H F G) {a : Addr} {vs : List V} (h : H a = none) : Ext F H (fadd F a) (upd H a (.lst vs)) ∧ GRel K (upd H a (.lst vs)) (fadd F a) G := by
  have y : Ext F H F (upd H a (.lst vs)) := Ext.new h
  have x : Ext F H (fadd F a) (upd H a (.lst vs)) := ⟨⟨y.tup, y.frz, y.xd, fun b f => .inl f, y.keep⟩, fun _ f => f, y.kb⟩
  refine ⟨x, fun b u eb => ?_, fun b f => ?_, fun b f => ?_⟩
  · obtain ⟨nf, h2, q2, r2⟩ := g.at_ b u eb
    refine ⟨⟨fun z => ?_, nf.2⟩, h2, by rw [upd_ne (ne_of_none q2 h)]; exact q2, x.repo r2⟩
    rcases z with z | z
    · exact nf.1 z
    · exact ne_of_none q2 h z
  · rcases f with f | f
    · obtain ⟨ws, q⟩ := g.fz b f
      exact ⟨ws, x.keep b ws f q⟩
    · exact ⟨vs, by rw [f]; exact upd_same⟩
  · obtain ⟨n, u, q⟩ := g.bl b f
    refine ⟨fun z => ?_, u, y.kb b u f q⟩
    rcases z with z | z
    · exact n z
    · exact ne_of_none q h z
/-- G' asks less than G: things left out, lists hidden -/
def Sub (G' G : DH) : Prop := ∀ a o, G' a = some o → G a = some o ∨ ∃ φ ds, o = .hid φ ∧ φ ds ∧ G a = some (.lst ds)
theorem Sub.refl {G : DH} : Sub G G := fun _ _ h => .inl h
theorem Sub.upd {G : DH} {a : Addr} {o : DO} (h : G a = none) : Sub G (dupd G a o) := fun b u e => .inl (by rw [dupd_ne (dne_of e h)]; exact e)
theorem Sub.trans {G G1 G2 : DH} (a : Sub G G1) (b : Sub G1 G2) : Sub G G2 := fun c o h => by
  rcases a c o h with q | ⟨φ, ds, e, p, q⟩
  · exact b c o q
  · rcases b c _ q with q2 | ⟨φ2, ds2, e2, _, _⟩
    · exact .inr ⟨φ, ds, e, p, q2⟩
    · cases e2
theorem Sub.hide {G : DH} {a : Addr} {ds : List D} {φ : List D → Prop} (p : φ ds) : Sub (dupd G a (.hid φ)) (dupd G a (.lst ds)) := fun b u e => by
  by_cases hb : b = a
  · subst hb; rw [dupd_same] at e ⊢; cases e; exact .inr ⟨φ, ds, rfl, p, rfl⟩
  · rw [dupd_ne hb] at e ⊢; exact .inl e
theorem Sub.rehide {G : DH} {a : Addr} {ds : List D} {φ : List D → Prop} (h : G a = some (.hid φ)) (p : φ ds) : Sub G (dupd G a (.lst ds)) := fun b u e => by
  by_cases hb : b = a
  · subst hb; rw [h] at e; cases e; exact .inr ⟨φ, ds, rfl, p, dupd_same⟩
  · rw [dupd_ne hb]; exact .inl e
theorem Sub.both {G G' : DH} {a : Addr} {o : DO} (s : Sub G G') : Sub (dupd G a o) (dupd G' a o) := fun b u e => by
  by_cases hb : b = a
  · subst hb; rw [dupd_same] at e ⊢; exact .inl e
  · rw [dupd_ne hb] at e ⊢; exact s b u e
theorem GRel.sub {G G' : DH} (g : GRel K H F G) (s : Sub G' G) : GRel K H F G' := ⟨fun a o e => by
  rcases s a o e with q | ⟨φ, ds, rfl, p, q⟩
  · exact g.at_ a o q
  · obtain ⟨n, ho, q2, vs, rfl, r⟩ := g.at_ a _ q
    exact ⟨n, _, q2, ds, vs, p, rfl, r⟩, g.fz, g.bl⟩
/-- a changing list is frozen: nobody changes it any more -/
theorem GRel.freeze {G : DH} (g : GRel K H F G) {a : Addr} {ds : List D} (e : G a = some (.lst ds)) : Ext F H (fadd F a) H ∧ GRel K H (fadd F a) (ddel G a) ∧ Rep K H (fadd F a) (.lst ds) (.ref a) := by
  obtain ⟨nf, ho, q, r⟩ := g.at_ a _ e
  obtain ⟨vs, rfl, r⟩ := r
  have x : Ext F H (fadd F a) H := ⟨⟨fun _ _ h => h, fun _ _ _ h => h, fun _ _ h => h, fun _ f => .inl f, fun _ _ _ h => h⟩, fun _ f => f, fun _ _ _ h => h⟩
  refine ⟨x, ⟨fun b u eb => ?_, fun b f => ?_, fun b f => ?_⟩, ?_⟩
  · unfold ddel at eb
    split at eb
    · cases eb
    · rename_i hb
      obtain ⟨nf', h2, q2, r2⟩ := g.at_ b u eb
      exact ⟨⟨fun z => z.elim nf'.1 hb, nf'.2⟩, h2, q2, x.repo r2⟩
  · rcases f with f | f
    · exact g.fz b f
    · exact ⟨vs, by rw [f]; exact q⟩
  · obtain ⟨n, u, q'⟩ := g.bl b f
    exact ⟨fun z => z.elim n (fun z => by subst z; exact nf.2 f), u, q'⟩
  · unfold Rep
    exact ⟨a, vs, rfl, ⟨.inr rfl, q⟩, x.reps _ _ r⟩
end

/-! ### slots -/
abbrev DSt := List (Option D)
section
variable (K : PySem.W.Frag) (H : Hp) (F : Fz)
def Slots (σd : DSt) (σ : St) : Prop := σd.length = σ.length ∧ ∀ (i : Nat) (d : D), σd[i]? = some (some d) → ∃ v, σ[i]? = some (some v) ∧ Rep K H F d v
structure WR (σd : DSt) (G : DH) (σ : St) : Prop where
  sl : Slots K H F σd σ
  gr : GRel K H F G
end
section
variable {K : PySem.W.Frag} {F F' : Fz} {H H' : Hp} {σd : DSt} {σ : St} {G G' : DH}
theorem Slots.ext (s : Slots K H F σd σ) (e : Ext0 F H F' H') : Slots K H' F' σd σ := ⟨s.1, fun i d h => let ⟨v, h1, h2⟩ := s.2 i d h; ⟨v, h1, e.rep _ _ h2⟩⟩
theorem Slots.set (s : Slots K H F σd σ) {i : Nat} {d : D} {v : V} (r : Rep K H F d v) : Slots K H F (σd.set i (some d)) (σ.set i (some v)) := by
  refine ⟨by simp [s.1], fun j e h => ?_⟩
  by_cases hj : i = j
  · subst hj
    rw [List.getElem?_set] at h ⊢
    simp only [if_true] at h ⊢
    split at h
    · rename_i hl
      rw [if_pos (by rw [← s.1]; exact hl)]
      cases h
      exact ⟨v, rfl, r⟩
    · cases h
  · rw [List.getElem?_set_ne hj] at h ⊢
    exact s.2 j e h
theorem Slots.clear (s : Slots K H F σd σ) {i : Nat} {x : Option V} : Slots K H F (σd.set i none) (σ.set i x) := by
  refine ⟨by simp [s.1], fun j e h => ?_⟩
  by_cases hj : i = j
  · subst hj
    rw [List.getElem?_set] at h
    simp only [if_true] at h
    split at h <;> cases h
  · rw [List.getElem?_set_ne hj] at h ⊢
    exact s.2 j e h
theorem WR.ext0 (w : WR K H F σd G σ) (e : Ext0 F H F' H') (g : GRel K H' F' G') : WR K H' F' σd G' σ := ⟨w.sl.ext e, g⟩
theorem WR.ext (w : WR K H F σd G σ) (e : Ext F H F' H') (g : GRel K H' F' G') : WR K H' F' σd G' σ := ⟨w.sl.ext e.toExt0, g⟩
theorem WR.set (w : WR K H F σd G σ) {i : Nat} {d : D} {v : V} (r : Rep K H F d v) : WR K H F (σd.set i (some d)) G (σ.set i (some v)) := ⟨w.sl.set r, w.gr⟩
end

/-! ### exceptions -/
structure Exc where
  cls : Addr
  flds : List (Str × D)
section
variable (K : PySem.W.Frag) (H : Hp) (F : Fz)
def RepX (x : Exc) (cls : Value) (d : Option Addr) : Prop := cls = .ref x.cls ∧ match x.flds with
  | [] => d = none
  | fs => ∃ dd vs, d = some dd ∧ H dd = some (.xd vs) ∧ Paired (fun (p : Str × D) (q : Str × V) => p.1 = q.1 ∧ Rep K H F p.2 q.2) fs vs
end
theorem RepX.ext {K : PySem.W.Frag} {F F' : Fz} {H H' : Hp} {x : Exc} {cls : Value} {d : Option Addr} (r : RepX K H F x cls d) (e : Ext0 F H F' H') : RepX K H' F' x cls d := by
  obtain ⟨c, fs⟩ := x
  obtain ⟨h1, h2⟩ := r
  refine ⟨h1, ?_⟩
  cases fs with
  | nil => exact h2
  | cons p r =>
    obtain ⟨dd, vs, e1, e2, e3⟩ := h2
    exact ⟨dd, vs, e1, e.xd _ _ e2, Paired.mapP e3 fun p q z => ⟨z.1, e.rep _ _ z.2⟩⟩

/-! ### transformers over trees, lifted -/
abbrev DK := D → DH → Prop
abbrev DX := Exc → DSt → DH → Prop
abbrev DT (α : Type) := DX → DSt → DH → (α → DH → Prop) → Prop
abbrev DTE := DT D
abbrev DTT := DT Bool
abbrev DTA := DT (List D)
structure DEnds where
  nx : DSt → DH → Prop
  rt : DK
  bk : DSt → DH → Prop := fun _ _ => False
  ct : DSt → DH → Prop := fun _ _ => False
abbrev DTS := DX → DEnds → DSt → DH → Prop

/-- where a body stands: what is wished of exceptions, and a fact that stays -/
structure Amb where
  W : WX
  P : Hp → Fz → Prop
  mono : ∀ F H F' H', Ext0 F H F' H' → P H F → P H' F'
def Cov (K : PySem.W.Frag) (W : WX) (Wd : DX) (H : Hp) (F : Fz) : Prop := ∀ x σd G F' cls d σ H', Ext F H F' H' → WR K H' F' σd G σ → RepX K H' F' x cls d → Wd x σd G → W cls d σ H'
theorem Cov.ext {K : PySem.W.Frag} {W : WX} {Wd : DX} {H H' : Hp} {F F' : Fz} (c : Cov K W Wd H F) (e : Ext F H F' H') : Cov K W Wd H' F' :=
  fun x σd G F2 cls d σ H2 e2 w r q => c x σd G F2 cls d σ H2 (e.trans e2) w r q

section
variable (K : PySem.W.Frag) (Γ : Amb)
def Lift {α β : Type} (R : Hp → Fz → α → β → Prop) (t : DT α) : St → Hp → (β → Hp → Prop) → Prop :=
  fun σ H Q => ∃ σd G F Wd Qd, WR K H F σd G σ ∧ Γ.P H F ∧ Cov K Γ.W Wd H F ∧ t Wd σd G Qd ∧
    ∀ d G' F' v H', Ext F H F' H' → GRel K H' F' G' → R H' F' d v → Qd d G' → Q v H'
abbrev LE (t : DTE) : TE := Lift K Γ (Rep K) t
abbrev LT (t : DTT) : TT := Lift K Γ (fun _ _ (a b : Bool) => a = b) t
abbrev LA (t : DTA) : TA := Lift K Γ (Reps K) t
structure EndsOk (H : Hp) (F : Fz) (Dd : DEnds) (D : Ends) : Prop where
  nx : ∀ σd' G' F' σ' H', Ext F H F' H' → WR K H' F' σd' G' σ' → Dd.nx σd' G' → D.nx σ' H'
  rt : ∀ d G' F' v H', Ext F H F' H' → GRel K H' F' G' → Rep K H' F' d v → Dd.rt d G' → D.rt v H'
  bk : ∀ σd' G' F' σ' H', Ext F H F' H' → WR K H' F' σd' G' σ' → Dd.bk σd' G' → D.bk σ' H'
  ct : ∀ σd' G' F' σ' H', Ext F H F' H' → WR K H' F' σd' G' σ' → Dd.ct σd' G' → D.ct σ' H'
def LS (t : DTS) : TS := fun D σ H => ∃ σd G F Wd Dd, WR K H F σd G σ ∧ Γ.P H F ∧ Cov K Γ.W Wd H F ∧ t Wd Dd σd G ∧ EndsOk K H F Dd D
theorem EndsOk.ext {K : PySem.W.Frag} {H H' : Hp} {F F' : Fz} {Dd : DEnds} {D : Ends} (k : EndsOk K H F Dd D) (e : Ext F H F' H') : EndsOk K H' F' Dd D :=
  ⟨fun a b c d f e2 w q => k.nx a b c d f (e.trans e2) w q, fun a b c d f e2 g r q => k.rt a b c d f (e.trans e2) g r q, fun a b c d f e2 w q => k.bk a b c d f (e.trans e2) w q, fun a b c d f e2 w q => k.ct a b c d f (e.trans e2) w q⟩
end
/-- the judgements -/
def DE (X : Cx) (Γ : Amb) (e : Expr) (t : DTE) : Prop := PE X e (LE X.K Γ t)
def DTs (X : Cx) (Γ : Amb) (e : Expr) (t : DTT) : Prop := PT X e (LT X.K Γ t)
def DA (X : Cx) (Γ : Amb) (es : List Expr) (t : DTA) : Prop := PA X es (LA X.K Γ t)
def DS (X : Cx) (Γ : Amb) (s : Stmt) (t : DTS) : Prop := PS X s (LS X.K Γ t)
def DSs (X : Cx) (Γ : Amb) (s : List Stmt) (t : DTS) : Prop := PSs X s (LS X.K Γ t)

theorem pe_of {X : Cx} {e : Expr} {t u : TE} (h : PE X e u) (i : ∀ σ H Q, t σ H Q → u σ H Q) : PE X e t := ⟨fun pins s σ H Q I q => h.run pins s σ H Q I (i _ _ _ q)⟩
theorem pt_of {X : Cx} {e : Expr} {t u : TT} (h : PT X e u) (i : ∀ σ H Q, t σ H Q → u σ H Q) : PT X e t := ⟨fun pins s σ H Q I q => h.run pins s σ H Q I (i _ _ _ q)⟩
theorem pw_of {X : Cx} {e : Expr} {t u : TT} (h : PW X e u) (i : ∀ σ H Q, t σ H Q → u σ H Q) : PW X e t := ⟨fun w pins s σ H Q I q => h.run w pins s σ H Q I (i _ _ _ q)⟩
theorem pa_of {X : Cx} {e : List Expr} {t u : TA} (h : PA X e u) (i : ∀ σ H Q, t σ H Q → u σ H Q) : PA X e t := ⟨fun pos pins s σ H Q I q => h.run pos pins s σ H Q I (i _ _ _ q)⟩
theorem ps_of {X : Cx} {e : Stmt} {t u : TS} (h : PS X e u) (i : ∀ D σ H, t D σ H → u D σ H) : PS X e t := ⟨fun pins s σ H D I q => h.run pins s σ H D I (i _ _ _ q)⟩
theorem pss_of {X : Cx} {e : List Stmt} {t u : TS} (h : PSs X e u) (i : ∀ D σ H, t D σ H → u D σ H) : PSs X e t := ⟨fun pins s σ H D I q => h.run pins s σ H D I (i _ _ _ q)⟩

/-- the core of every rule: one part, then a rest that knows its outcome -/
theorem Lift.bind {K : PySem.W.Frag} {Γ : Amb} {α β γ δ : Type} {R : Hp → Fz → α → β → Prop} {S : Hp → Fz → γ → δ → Prop} {t : DT α} {u : α → DT γ} {σ : St} {H : Hp} {Q : δ → Hp → Prop} {k : β → Hp → Prop}
    (h : Lift K Γ S (fun W σd G Qd => t W σd G fun x G1 => u x W σd G1 Qd) σ H Q)
    (hk : ∀ x v H1 F1, R H1 F1 x v → (∃ σd G Wd Qd, WR K H1 F1 σd G σ ∧ Γ.P H1 F1 ∧ Cov K Γ.W Wd H1 F1 ∧ u x Wd σd G Qd ∧ ∀ d G' F' v H', Ext F1 H1 F' H' → GRel K H' F' G' → S H' F' d v → Qd d G' → Q v H') → k v H1) :
    Lift K Γ R t σ H k := by
  obtain ⟨σd, G, F, Wd, Qd, w, hp, c, ht, hq⟩ := h
  refine ⟨σd, G, F, Wd, _, w, hp, c, ht, fun x G1 F1 v H1 e1 g1 r1 q1 => hk x v H1 F1 r1 ⟨σd, G1, Wd, Qd, w.ext e1 g1, Γ.mono _ _ _ _ e1.toExt0 hp, c.ext e1, q1, fun d G' F' v' H' e2 g2 r2 q2 => hq d G' F' v' H' (e1.trans e2) g2 r2 q2⟩⟩
end DL

/-! D2: what operators, built-ins and methods do to trees. -/
namespace DL
open PySem PySem.Spec L2

section
variable (K : PySem.W.Frag) (H : Hp) (F : Fz)
def Kont (Qd : DK) (Q : VK) : Prop := ∀ d G' F' v H', Ext F H F' H' → GRel K H' F' G' → Rep K H' F' d v → Qd d G' → Q v H'
end
def mkL (m : Bool) (ds : List D) (G : DH) (Q : DK) : Prop := match m with
  | false => Q (.lst ds) G
  | true => ∀ p, G p = none → Q (.ref p) (dupd G p (.lst ds))
section
variable {K : PySem.W.Frag} {H H' : Hp} {F F' : Fz} {G : DH} {Qd : DK} {Q : VK} {d : D} {v : V} {ds : List D} {vs : List V}
theorem Kont.ext (k : Kont K H F Qd Q) (e : Ext F H F' H') : Kont K H' F' Qd Q := fun d G' F2 v H2 e2 g r q => k d G' F2 v H2 (e.trans e2) g r q
theorem Kont.here (k : Kont K H F Qd Q) (g : GRel K H F G) (r : Rep K H F d v) (q : Qd d G) : Q v H := k d G F v H Ext.refl g r q
theorem Kont.tup (k : Kont K H F Qd Q) (g : GRel K H F G) (r : Reps K H F ds vs) (q : Qd (.tup ds) G) : ∀ p, H p = none → Q (.ref p) (upd H p (.tup vs)) := fun p hp => by
  have e : Ext F H F (upd H p (.tup vs)) := Ext.new hp
  refine k _ G F _ _ e (g.old hp) ?_ q
  unfold Rep
  exact ⟨p, vs, rfl, SqT.of upd_same, e.reps _ _ r⟩
theorem Kont.lst {m : Bool} (k : Kont K H F Qd Q) (g : GRel K H F G) (r : Reps K H F ds vs) (q : mkL m ds G Qd) : ∀ p, H p = none → Q (.ref p) (upd H p (.lst vs)) := fun p hp => by
  cases m with
  | false =>
    obtain ⟨e, g'⟩ := g.newF (vs := vs) hp
    refine k _ G _ _ _ e g' ?_ q
    unfold Rep
    exact ⟨p, vs, rfl, ⟨.inr rfl, upd_same⟩, e.reps _ _ r⟩
  | true =>
    exact k _ _ F _ _ (Ext.new hp) (g.new (o := .lst ds) hp ⟨vs, rfl, r⟩) (by unfold Rep; rfl) (q p (g.free hp))
end

/-! ### lists of represented things -/
section
variable {K : PySem.W.Frag} {H : Hp} {F : Fz}
theorem Reps.nil : Reps K H F [] [] := by unfold Reps; rfl
theorem Reps.cons {d : D} {v : V} {ds : List D} {vs : List V} (a : Rep K H F d v) (b : Reps K H F ds vs) : Reps K H F (d :: ds) (v :: vs) := by unfold Reps; exact ⟨v, vs, rfl, a, b⟩
theorem Reps.inv {d : D} {ds : List D} {vs : List V} (h : Reps K H F (d :: ds) vs) : ∃ v r, vs = v :: r ∧ Rep K H F d v ∧ Reps K H F ds r := by unfold Reps at h; exact h
theorem Reps.inv0 {vs : List V} (h : Reps K H F [] vs) : vs = [] := by unfold Reps at h; exact h
theorem Reps.length : ∀ {ds : List D} {vs : List V}, Reps K H F ds vs → ds.length = vs.length
  | [], _, h => by rw [h.inv0]; rfl
  | _ :: _, _, h => by obtain ⟨v, r, rfl, _, h2⟩ := h.inv; simp [Reps.length h2]
theorem Reps.get : ∀ {ds : List D} {vs : List V} {i : Nat} {d : D}, Reps K H F ds vs → ds[i]? = some d → ∃ v, vs[i]? = some v ∧ Rep K H F d v
  | [], _, _, _, _, e => by simp at e
  | _ :: _, _, 0, _, h, e => by obtain ⟨v, r, rfl, h1, _⟩ := h.inv; simp at e; subst e; exact ⟨v, rfl, h1⟩
  | _ :: _, _, i + 1, _, h, e => by obtain ⟨v, r, rfl, _, h2⟩ := h.inv; simpa using Reps.get (i := i) h2 (by simpa using e)
theorem Reps.append : ∀ {ds es : List D} {vs ws : List V}, Reps K H F ds vs → Reps K H F es ws → Reps K H F (ds ++ es) (vs ++ ws)
  | [], _, _, _, h, k => by rw [h.inv0]; exact k
  | _ :: _, _, _, _, h, k => by obtain ⟨v, r, rfl, h1, h2⟩ := h.inv; exact .cons h1 (Reps.append h2 k)
theorem Reps.take : ∀ {ds : List D} {vs : List V} (n : Nat), Reps K H F ds vs → Reps K H F (ds.take n) (vs.take n)
  | _, _, 0, _ => by simp; exact .nil
  | [], _, _ + 1, h => by rw [h.inv0]; simp; exact .nil
  | _ :: _, _, n + 1, h => by obtain ⟨v, r, rfl, h1, h2⟩ := h.inv; simpa using Reps.cons h1 (Reps.take n h2)
theorem Reps.drop : ∀ {ds : List D} {vs : List V} (n : Nat), Reps K H F ds vs → Reps K H F (ds.drop n) (vs.drop n)
  | _, _, 0, h => by simpa using h
  | [], _, _ + 1, h => by rw [h.inv0]; simp; exact .nil
  | _ :: _, _, n + 1, h => by obtain ⟨v, r, rfl, h1, h2⟩ := h.inv; simpa using Reps.drop n h2
theorem Reps.set {d : D} {v : V} (a : Rep K H F d v) : ∀ {ds : List D} {vs : List V} (i : Nat), Reps K H F ds vs → Reps K H F (ds.set i d) (vs.set i v)
  | [], _, _, h => by rw [h.inv0]; simp; exact .nil
  | _ :: _, _, 0, h => by obtain ⟨w, r, rfl, h1, h2⟩ := h.inv; exact .cons a h2
  | _ :: _, _, i + 1, h => by obtain ⟨w, r, rfl, h1, h2⟩ := h.inv; exact .cons h1 (Reps.set a i h2)
theorem Reps.reverse : ∀ {ds : List D} {vs : List V}, Reps K H F ds vs → Reps K H F ds.reverse vs.reverse
  | [], _, h => by rw [h.inv0]; exact .nil
  | _ :: _, _, h => by obtain ⟨w, r, rfl, h1, h2⟩ := h.inv; rw [List.reverse_cons, List.reverse_cons]; exact (Reps.reverse h2).append (.cons h1 .nil)
theorem Reps.rep {ds : List D} {vs : List V} (h : Reps K H F ds vs) : ∀ k : Nat, Reps K H F (List.replicate k ds).flatten (List.replicate k vs).flatten
  | 0 => .nil
  | k + 1 => by simpa [List.replicate_succ] using h.append (Reps.rep h k)
theorem Reps.dropLast {ds : List D} {vs : List V} (h : Reps K H F ds vs) : Reps K H F ds.dropLast vs.dropLast := by
  rw [List.dropLast_eq_take, List.dropLast_eq_take, h.length]; exact h.take _
theorem Reps.ints {vs : List V} : ∀ {ns : List Int}, Reps K H F (ns.map D.int) vs → vs = ns.map V.int := fun {ns} => by
  induction ns generalizing vs with
  | nil => intro h; exact h.inv0
  | cons n ns ih => intro h; obtain ⟨v, r, rfl, h1, h2⟩ := h.inv; unfold Rep at h1; rw [h1, ih h2]; rfl
theorem Reps.ofInts : ∀ {ns : List Int}, Reps K H F (ns.map D.int) (ns.map V.int)
  | [] => .nil
  | n :: ns => .cons (by unfold Rep; rfl) Reps.ofInts
theorem Reps.strs {vs : List V} : ∀ {ns : List Str}, Reps K H F (ns.map D.str) vs → vs = ns.map V.str := fun {ns} => by
  induction ns generalizing vs with
  | nil => intro h; exact h.inv0
  | cons n ns ih => intro h; obtain ⟨v, r, rfl, h1, h2⟩ := h.inv; unfold Rep at h1; rw [h1, ih h2]; rfl
theorem Reps.ofStrs : ∀ {ns : List Str}, Reps K H F (ns.map D.str) (ns.map V.str)
  | [] => .nil
  | n :: ns => .cons (by unfold Rep; rfl) Reps.ofStrs
theorem Reps.bls {vs : List V} : ∀ {ns : List Bool}, Reps K H F (ns.map D.bl) vs → vs = ns.map V.bl := fun {ns} => by
  induction ns generalizing vs with
  | nil => intro h; exact h.inv0
  | cons n ns ih => intro h; obtain ⟨v, r, rfl, h1, h2⟩ := h.inv; unfold Rep at h1; rw [h1, ih h2]; rfl
theorem Reps.atI {ds : List D} {vs : List V} (h : Reps K H F ds vs) {i : Int} {d : D} (e : L2.atI ds i = some d) : ∃ v, L2.atI vs i = some v ∧ Rep K H F d v := by
  unfold L2.atI at e ⊢
  rw [← h.length]
  cases q : ixN ds.length i with
  | none => rw [q] at e; cases e
  | some j => rw [q] at e; exact h.get e
theorem Reps.of1 {d : D} {vs : List V} (h : Reps K H F [d] vs) : ∃ v, vs = [v] ∧ Rep K H F d v := by
  obtain ⟨v, r, rfl, h1, h2⟩ := h.inv; rw [h2.inv0]; exact ⟨v, rfl, h1⟩
theorem Reps.of2 {d e : D} {vs : List V} (h : Reps K H F [d, e] vs) : ∃ v w, vs = [v, w] ∧ Rep K H F d v ∧ Rep K H F e w := by
  obtain ⟨v, r, rfl, h1, h2⟩ := h.inv; obtain ⟨w, rfl, h3⟩ := h2.of1; exact ⟨v, w, rfl, h1, h3⟩
theorem Reps.of3 {d e f : D} {vs : List V} (h : Reps K H F [d, e, f] vs) : ∃ v w x, vs = [v, w, x] ∧ Rep K H F d v ∧ Rep K H F e w ∧ Rep K H F f x := by
  obtain ⟨v, r, rfl, h1, h2⟩ := h.inv; obtain ⟨w, x, rfl, h3, h4⟩ := h2.of2; exact ⟨v, w, x, rfl, h1, h3, h4⟩
end

/-! ### sequences -/
def dlst (G : DH) : D → Option (List D)
  | .lst xs => some xs
  | .scr ns => some (ns.map D.int)
  | .ref a => match G a with
    | some (.lst xs) => some xs
    | _ => none
  | _ => none
/-- a list of ours -/
def dlsh (G : DH) : D → Option (List D)
  | .lst xs => some xs
  | .ref a => match G a with
    | some (.lst xs) => some xs
    | _ => none
  | _ => none
def dseq (G : DH) : D → Option (List D)
  | .tup xs => some xs
  | d => dlst G d
section
variable {K : PySem.W.Frag} {H : Hp} {F : Fz} {G : DH}
theorem dlsh_rep (g : GRel K H F G) {d : D} {v : V} {ds : List D} (r : Rep K H F d v) (e : dlsh G d = some ds) : ∃ a vs, v = .ref a ∧ H a = some (.lst vs) ∧ Reps K H F ds vs := by
  cases d with
  | lst xs =>
    unfold dlsh at e; cases e
    unfold Rep at r
    obtain ⟨a, vs, rfl, ⟨_, h⟩, r⟩ := r
    exact ⟨a, vs, rfl, h, r⟩
  | ref a =>
    unfold dlsh at e
    cases q : G a with
    | none => simp [q] at e
    | some o =>
      cases o with
      | lst xs =>
        simp [q] at e; subst e
        obtain ⟨_, ho, q2, vs, rfl, r2⟩ := g.at_ a _ q
        unfold Rep at r
        exact ⟨a, vs, r, q2, r2⟩
      | hid _ => simp [q] at e
      | dct _ => simp [q] at e
      | set _ _ => simp [q] at e
  | _ => unfold dlsh at e; cases e
theorem dlst_rep (g : GRel K H F G) {d : D} {v : V} {ds : List D} (r : Rep K H F d v) (e : dlst G d = some ds) : ∃ a vs, v = .ref a ∧ SqL K H a vs ∧ Reps K H F ds vs := by
  cases d with
  | lst xs =>
    obtain ⟨a, vs, rfl, h, r⟩ := dlsh_rep (ds := ds) g r (by unfold dlst at e; unfold dlsh; exact e)
    exact ⟨a, vs, rfl, SqL.of h, r⟩
  | ref a =>
    obtain ⟨a, vs, e2, h, r⟩ := dlsh_rep (ds := ds) g r (by unfold dlst at e; unfold dlsh; exact e)
    exact ⟨a, vs, e2, SqL.of h, r⟩
  | scr ns =>
    unfold dlst at e; cases e
    unfold Rep at r
    obtain ⟨a, rfl, h⟩ := r
    refine ⟨a, _, rfl, ?_, Reps.ofInts⟩
    rcases h with h | ⟨o, h⟩ | h
    · exact SqL.of h.2
    · exact .inl (.inr ⟨o, h⟩)
    · exact .inr h
  | _ => unfold dlst at e; cases e
theorem dseq_rep (g : GRel K H F G) {d : D} {v : V} {ds : List D} (r : Rep K H F d v) (e : dseq G d = some ds) : ∃ a vs, v = .ref a ∧ (SqL K H a vs ∨ SqT K H a vs) ∧ Reps K H F ds vs := by
  cases d with
  | tup xs =>
    unfold dseq at e; cases e
    unfold Rep at r
    obtain ⟨a, vs, rfl, h, r⟩ := r
    exact ⟨a, vs, rfl, .inr h, r⟩
  | lst _ => obtain ⟨a, vs, e2, h, r⟩ := dlst_rep (ds := ds) g r (by unfold dseq at e; exact e); exact ⟨a, vs, e2, .inl h, r⟩
  | scr _ => obtain ⟨a, vs, e2, h, r⟩ := dlst_rep (ds := ds) g r (by unfold dseq at e; exact e); exact ⟨a, vs, e2, .inl h, r⟩
  | ref _ => obtain ⟨a, vs, e2, h, r⟩ := dlst_rep (ds := ds) g r (by unfold dseq at e; exact e); exact ⟨a, vs, e2, .inl h, r⟩
  | _ => unfold dseq dlst at e; cases e
theorem tup_rep {xs : List D} {v : V} (r : Rep K H F (.tup xs) v) : ∃ a vs, v = .ref a ∧ SqT K H a vs ∧ Reps K H F xs vs := by unfold Rep at r; exact r
theorem int_rep {i : Int} {v : V} (r : Rep K H F (.int i) v) : v = .int i := by unfold Rep at r; exact r
theorem str_rep {i : Str} {v : V} (r : Rep K H F (.str i) v) : v = .str i := by unfold Rep at r; exact r
theorem bl_rep {i : Bool} {v : V} (r : Rep K H F (.bl i) v) : v = .bl i := by unfold Rep at r; exact r
theorem non_rep {v : V} (r : Rep K H F .non v) : v = .non := by unfold Rep at r; exact r
theorem ref_rep {a : Addr} {v : V} (r : Rep K H F (.ref a) v) : v = .ref a := by unfold Rep at r; exact r
theorem rep_int {i : Int} : Rep K H F (.int i) (.int i) := by unfold Rep; rfl
theorem rep_str {i : Str} : Rep K H F (.str i) (.str i) := by unfold Rep; rfl
theorem rep_bl {i : Bool} : Rep K H F (.bl i) (.bl i) := by unfold Rep; rfl
theorem rep_non : Rep K H F .non .non := by unfold Rep; rfl
theorem rep_ref {a : Addr} : Rep K H F (.ref a) (.ref a) := by unfold Rep; rfl
theorem ty_rep {n : String} {v : V} (r : Rep K H F (.ty n) v) : v = .ty n := by unfold Rep at r; exact r
theorem rep_ty {n : String} : Rep K H F (.ty n) (.ty n) := by unfold Rep; rfl
end

/-! ### the rules' link: a tree's rule q and the layer's rule r -/
abbrev Q2 := D → D → DH → DK → Prop
abbrev Q1 := D → DH → DK → Prop
abbrev QN := List D → DH → DK → Prop
def L2R (K : PySem.W.Frag) (q : Q2) (r : R2) : Prop := ∀ x y v w G F H Qd Q, GRel K H F G → Rep K H F x v → Rep K H F y w → q x y G Qd → Kont K H F Qd Q → r v w H Q
def L1R (K : PySem.W.Frag) (q : Q1) (r : V → Hp → VK → Prop) : Prop := ∀ x v G F H Qd Q, GRel K H F G → Rep K H F x v → q x G Qd → Kont K H F Qd Q → r v H Q
def LNR (K : PySem.W.Frag) (q : QN) (r : List V → Hp → VK → Prop) : Prop := ∀ ds vs G F H Qd Q, GRel K H F G → Reps K H F ds vs → q ds G Qd → Kont K H F Qd Q → r vs H Q

section
variable {X : Cx} {Γ : Amb} {a b c e : Expr} {es : List Expr} {pos : Pos} {ta tb tc : DTE} {t : DTA} {K : PySem.W.Frag}
def dVar (i : Nat) : DTE := fun _ σ G Q => ∃ d, σ[i]? = some (some d) ∧ Q d G
def dK (d : D) : DTE := fun _ _ G Q => Q d G
theorem de_var {i : Nat} {x : Str} (h : PE X (.Name x pos) (tVar i)) : DE X Γ (.Name x pos) (dVar i) := pe_of h fun σ H Q ⟨σd, G, F, Wd, Qd, w, hp, cv, ⟨d, e, q⟩, k⟩ => by
  obtain ⟨v, e1, r⟩ := w.sl.2 i d e
  exact ⟨v, e1, k d G F v H Ext.refl w.gr r q⟩
theorem de_k {v : V} {d : D} (h : PE X e (tC v)) (r : ∀ H F, Rep X.K H F d v) : DE X Γ e (dK d) := pe_of h fun σ H Q ⟨σd, G, F, Wd, Qd, w, hp, cv, q, k⟩ => k d G F v H Ext.refl w.gr (r H F) q
def dOp (q : Q2) (ta tb : DTE) : DTE := fun W σ G Q => ta W σ G fun x G1 => tb W σ G1 fun y G2 => q x y G2 Q
def dUn (q : Q1) (ta : DTE) : DTE := fun W σ G Q => ta W σ G fun x G1 => q x G1 Q
def dN (q : QN) (t : DTA) : DTE := fun W σ G Q => t W σ G fun xs G1 => q xs G1 Q
def dNil : DTA := fun _ _ G Q => Q [] G
def dCons (ta : DTE) (t : DTA) : DTA := fun W σ G Q => ta W σ G fun x G1 => t W σ G1 fun xs G2 => Q (x :: xs) G2
theorem lift_op {q : Q2} {r : R2} (hq : L2R K q r) {σ : St} {H : Hp} {Q : VK} (h : LE K Γ (dOp q ta tb) σ H Q) : tOp r (LE K Γ ta) (LE K Γ tb) σ H Q := by
  obtain ⟨σd, G, F, Wd, Qd, w, hp, cv, ht, k⟩ := h
  exact ⟨σd, G, F, Wd, _, w, hp, cv, ht, fun x G1 F1 v H1 e1 g1 r1 q1 => ⟨σd, G1, F1, Wd, _, w.ext e1 g1, Γ.mono _ _ _ _ e1.toExt0 hp, cv.ext e1, q1, fun y G2 F2 u H2 e2 g2 r2 q2 =>
    hq x y v u G2 F2 H2 Qd Q g2 (e2.rep _ _ r1) r2 q2 fun d G' F' v' H' e3 g3 r3 q3 => k d G' F' v' H' ((e1.trans e2).trans e3) g3 r3 q3⟩⟩
theorem lift_un {q : Q1} {r : V → Hp → VK → Prop} (hq : L1R K q r) {σ : St} {H : Hp} {Q : VK} (h : LE K Γ (dUn q ta) σ H Q) : tUn r (LE K Γ ta) σ H Q := by
  obtain ⟨σd, G, F, Wd, Qd, w, hp, cv, ht, k⟩ := h
  exact ⟨σd, G, F, Wd, _, w, hp, cv, ht, fun x G1 F1 v H1 e1 g1 r1 q1 => hq x v G1 F1 H1 Qd Q g1 r1 q1 fun d G' F' v' H' e3 g3 r3 q3 => k d G' F' v' H' (e1.trans e3) g3 r3 q3⟩
theorem lift_n {q : QN} {r : List V → Hp → VK → Prop} (hq : LNR K q r) {σ : St} {H : Hp} {Q : VK} (h : LE K Γ (dN q t) σ H Q) : tCB r (LA K Γ t) σ H Q := by
  obtain ⟨σd, G, F, Wd, Qd, w, hp, cv, ht, k⟩ := h
  exact ⟨σd, G, F, Wd, _, w, hp, cv, ht, fun x G1 F1 v H1 e1 g1 r1 q1 => hq x v G1 F1 H1 Qd Q g1 r1 q1 fun d G' F' v' H' e3 g3 r3 q3 => k d G' F' v' H' (e1.trans e3) g3 r3 q3⟩
theorem da_nil : DA X Γ [] dNil := pa_of pa_nil fun σ H Q ⟨σd, G, F, Wd, Qd, w, hp, cv, q, k⟩ => k [] G F [] H Ext.refl w.gr .nil q
theorem da_cons (ha : DE X Γ e ta) (hr : DA X Γ es t) (hs : starEach (e :: es) X.env = (false, eval e X.env) :: starEach es X.env := by rfl) : DA X Γ (e :: es) (dCons ta t) := pa_of (pa_cons ha hr hs) fun σ H Q ⟨σd, G, F, Wd, Qd, w, hp, cv, ht, k⟩ =>
  ⟨σd, G, F, Wd, _, w, hp, cv, ht, fun x G1 F1 v H1 e1 g1 r1 q1 => ⟨σd, G1, F1, Wd, _, w.ext e1 g1, Γ.mono _ _ _ _ e1.toExt0 hp, cv.ext e1, q1, fun xs G2 F2 vs H2 e2 g2 r2 q2 =>
    k (x :: xs) G2 F2 (v :: vs) H2 (e1.trans e2) g2 (.cons (e2.rep _ _ r1) r2) q2⟩⟩
/-! the forms: an operator, a comparison, a subscript, a built-in -/
theorem de_op {op : Operator} {q : Q2} {r : R2} (ho : OpR X (binaryOp op) r) (hq : L2R X.K q r) (ha : DE X Γ a ta) (hb : DE X Γ b tb) : DE X Γ (.BinOp a op b pos) (dOp q ta tb) := pe_of (pe_op ho ha hb) fun _ _ _ h => lift_op hq h
theorem de_un {op : UnaryOp} {q : Q1} {r : V → Hp → VK → Prop} (ho : UnR X (unaryOp op) r) (hq : L1R X.K q r) (ha : DE X Γ a ta) : DE X Γ (.UnaryOp op a pos) (dUn q ta) := pe_of (pe_un ho ha) fun _ _ _ h => lift_un hq h
theorem de_cmp {op : CmpOp} {q : Q2} {r : R2} (ho : OpR X (compareOp op) r) (hq : L2R X.K q r) (ha : DE X Γ a ta) (hb : DE X Γ b tb) (hm : behindInMarks op b = false := by first | rfl | exact nomark _) : DE X Γ (.Compare a [op] [b] pos) (dOp q ta tb) := pe_of (pe_cmpR ho ha hb hm) fun _ _ _ h => lift_op hq h
theorem de_ix {q : Q2} {r : R2} (ho : IxR X r) (hq : L2R X.K q r) (ha : DE X Γ a ta) (hb : DE X Γ b tb) (hs : PlainIx b := by intro _ _; rfl) : DE X Γ (.Subscript a b pos) (dOp q ta tb) := pe_of (pe_ix ho ha hb hs) fun _ _ _ h => lift_op hq h
theorem de_callB {x : Str} {p : Pos} {id : String} {q : QN} {r : List V → Hp → VK → Prop} (hc : CallR X (.builtin id) r) (hq : LNR X.K q r) (hg : Gl X x) (hm : X.mg x = none) (hv : bootBuiltins x = some (.builtin id)) (ha : DA X Γ (e :: es) t)
    (hn : x ≠ "__name__" := by decide) (hdb : (x == ("__debug__" : Str)) = false := by decide) (he : starEach (e :: es) X.env = (false, eval e X.env) :: starEach es X.env := by rfl) (hpl : (backTo pos (starEach es X.env)).any (·.1) = false := by rfl) :
    DE X Γ (.Call (.Name x p) (e :: es) [] pos) (dN q t) := pe_of (pe_callB hc hg hm hv ha hn hdb he hpl) fun _ _ _ h => lift_n hq h
theorem de_callTy {x : Str} {p : Pos} {T : String} {q : QN} {r : List V → Hp → VK → Prop} (hc : CallR X (.type T) r) (hq : LNR X.K q r) (hg : Gl X x) (hm : X.mg x = none) (hv : bootBuiltins x = some (.type T)) (ha : DA X Γ (e :: es) t)
    (hn : x ≠ "__name__" := by decide) (hdb : (x == ("__debug__" : Str)) = false := by decide) (he : starEach (e :: es) X.env = (false, eval e X.env) :: starEach es X.env := by rfl) (hpl : (backTo pos (starEach es X.env)).any (·.1) = false := by rfl) :
    DE X Γ (.Call (.Name x p) (e :: es) [] pos) (dN q t) := pe_of (pe_callTy hc hg hm hv ha hn hdb he hpl) fun _ _ _ h => lift_n hq h

/-! displays -/
def dTup (t : DTA) : DTE := fun W σ G Q => t W σ G fun xs G1 => xs.length ≤ sizeLine ∧ Q (.tup xs) G1
def dLst (m : Bool) (t : DTA) : DTE := fun W σ G Q => t W σ G fun xs G1 => xs.length ≤ sizeLine ∧ mkL m xs G1 Q
theorem de_tup {k : Nat} (h : DA X Γ es t) : DE X Γ (.Tuple es k pos) (dTup t) := pe_of (pe_tup h) fun σ H Q ⟨σd, G, F, Wd, Qd, w, hp, cv, ht, k⟩ =>
  ⟨σd, G, F, Wd, _, w, hp, cv, ht, fun xs G1 F1 vs H1 e1 g1 r1 ⟨hz, q1⟩ => ⟨by rw [← r1.length]; exact hz, Kont.tup (fun d G' F' v' H' e3 g3 r3 q3 => k d G' F' v' H' (e1.trans e3) g3 r3 q3) g1 r1 q1⟩⟩
theorem de_lst {m : Bool} (h : DA X Γ es t) : DE X Γ (.List es pos) (dLst m t) := pe_of (pe_lst h) fun σ H Q ⟨σd, G, F, Wd, Qd, w, hp, cv, ht, k⟩ =>
  ⟨σd, G, F, Wd, _, w, hp, cv, ht, fun xs G1 F1 vs H1 e1 g1 r1 ⟨hz, q1⟩ => ⟨by rw [← r1.length]; exact hz, Kont.lst (fun d G' F' v' H' e3 g3 r3 q3 => k d G' F' v' H' (e1.trans e3) g3 r3 q3) g1 r1 q1⟩⟩

/-! tests -/
def dTest (t : DTE) : DTT := fun W σ G Q => t W σ G fun x G1 => match x with | .bl b => Q b G1 | _ => False
theorem dt_val {e : Expr} {t : DTE} (h : DE X Γ e t) (he : ∀ whole, isTrue e X.env whole = (do let v ← whole; standAt e.pos; holding [v] (truthy v)) := by intro _; rfl) : DTs X Γ e (dTest t) :=
  pt_of (pt_val h he) fun σ H Q ⟨σd, G, F, Wd, Qd, w, hp, cv, ht, k⟩ => ⟨σd, G, F, Wd, _, w, hp, cv, ht, fun x G1 F1 v H1 e1 g1 r1 q1 => by
    cases x with
    | bl b => exact ⟨b, bl_rep r1, k b G1 F1 b H1 e1 g1 rfl q1⟩
    | _ => exact q1.elim⟩
theorem dt_cmp {op : CmpOp} {q : Q2} {r : R2} (ho : OpR X (compareOp op) r) (hq : L2R X.K q r) (ha : DE X Γ a ta) (hb : DE X Γ b tb) (hm : behindInMarks op b = false := by first | rfl | exact nomark _) : DTs X Γ (.Compare a [op] [b] pos) (dTest (dOp q ta tb)) := by
  refine pt_of (pt_cmpR ho ha hb hm) fun σ H Q ⟨σd, G, F, Wd, Qd, w, hp, cv, ht, k⟩ => ?_
  refine lift_op hq (ta := ta) (tb := tb) (Γ := Γ) ⟨σd, G, F, Wd, _, w, hp, cv, ht, fun x G1 F1 v H1 e1 g1 r1 q1 => ?_⟩
  cases x with
  | bl b => exact ⟨b, bl_rep r1, k b G1 F1 b H1 e1 g1 rfl q1⟩
  | _ => exact q1.elim
def dAndK (b : Bool) (u : DTT) : DTT := fun W σ G Q => if b = true then u W σ G Q else Q false G
def dOrK (b : Bool) (u : DTT) : DTT := fun W σ G Q => if b = true then Q true G else u W σ G Q
def dAnd (t u : DTT) : DTT := fun W σ G Q => t W σ G fun b G1 => dAndK b u W σ G1 Q
def dOr (t u : DTT) : DTT := fun W σ G Q => t W σ G fun b G1 => dOrK b u W σ G1 Q
def dNot (t : DTT) : DTT := fun W σ G Q => t W σ G fun b G1 => Q (!b) G1
def DW (X : Cx) (Γ : Amb) (e : Expr) (t : DTT) : Prop := PW X e (LT X.K Γ t)
variable {t1 t2 : DTT} {rest : List Expr}
theorem dw_and1 (h : DTs X Γ a t1) : DW X Γ (.BoolOp .And [a] pos) t1 := pw_and1 h
theorem dw_or1 (h : DTs X Γ a t1) : DW X Γ (.BoolOp .Or [a] pos) t1 := pw_or1 h
theorem dw_and (h1 : DTs X Γ a t1) (h2 : DW X Γ (.BoolOp .And (b :: rest) pos) t2) : DW X Γ (.BoolOp .And (a :: b :: rest) pos) (dAnd t1 t2) := pw_of (pw_and h1 h2) fun σ H Q ⟨σd, G, F, Wd, Qd, w, hp, cv, ht, k⟩ =>
  ⟨σd, G, F, Wd, _, w, hp, cv, ht, fun x G1 F1 v H1 e1 g1 r1 q1 => by
    subst r1
    cases x with
    | true => exact iteT ⟨σd, G1, F1, Wd, Qd, w.ext e1 g1, Γ.mono _ _ _ _ e1.toExt0 hp, cv.ext e1, q1, fun d G' F' v' H' e3 g3 r3 q3 => k d G' F' v' H' (e1.trans e3) g3 r3 q3⟩
    | false => exact iteF (k false G1 F1 false H1 e1 g1 rfl q1)⟩
theorem dw_or (h1 : DTs X Γ a t1) (h2 : DW X Γ (.BoolOp .Or (b :: rest) pos) t2) : DW X Γ (.BoolOp .Or (a :: b :: rest) pos) (dOr t1 t2) := pw_of (pw_or h1 h2) fun σ H Q ⟨σd, G, F, Wd, Qd, w, hp, cv, ht, k⟩ =>
  ⟨σd, G, F, Wd, _, w, hp, cv, ht, fun x G1 F1 v H1 e1 g1 r1 q1 => by
    subst r1
    cases x with
    | false => exact iteF ⟨σd, G1, F1, Wd, Qd, w.ext e1 g1, Γ.mono _ _ _ _ e1.toExt0 hp, cv.ext e1, q1, fun d G' F' v' H' e3 g3 r3 q3 => k d G' F' v' H' (e1.trans e3) g3 r3 q3⟩
    | true => exact iteT (k true G1 F1 true H1 e1 g1 rfl q1)⟩
theorem dt_bool (h : DW X Γ e t1) : DTs X Γ e t1 := PW.pt h
theorem dt_not (h : DTs X Γ a t1) : DTs X Γ (.UnaryOp .Not a pos) (dNot t1) := pt_of (pt_not h) fun σ H Q ⟨σd, G, F, Wd, Qd, w, hp, cv, ht, k⟩ =>
  ⟨σd, G, F, Wd, _, w, hp, cv, ht, fun x G1 F1 v H1 e1 g1 r1 q1 => by subst r1; exact k (!x) G1 F1 (!x) H1 e1 g1 rfl q1⟩
/-! .. as values: all but the last are truth values -/
def dAndVK (b : Bool) (u : DTE) : DTE := fun W σ G Q => if b = true then u W σ G Q else Q (.bl false) G
def dOrVK (b : Bool) (u : DTE) : DTE := fun W σ G Q => if b = true then Q (.bl true) G else u W σ G Q
def dAndV (t u : DTE) : DTE := fun W σ G Q => t W σ G fun x G1 => match x with | .bl b => dAndVK b u W σ G1 Q | _ => False
def dOrV (t u : DTE) : DTE := fun W σ G Q => t W σ G fun x G1 => match x with | .bl b => dOrVK b u W σ G1 Q | _ => False
def dNotV (t : DTE) : DTE := fun W σ G Q => t W σ G fun x G1 => match x with | .bl b => Q (.bl (!b)) G1 | _ => False
theorem de_one {op : BoolOp} (h : DE X Γ a ta) : DE X Γ (.BoolOp op [a] pos) ta := pe_one h
theorem de_and (h1 : DE X Γ a ta) (h2 : DE X Γ (.BoolOp .And (b :: rest) pos) tb) : DE X Γ (.BoolOp .And (a :: b :: rest) pos) (dAndV ta tb) := pe_of (pe_and h1 h2) fun σ H Q ⟨σd, G, F, Wd, Qd, w, hp, cv, ht, k⟩ =>
  ⟨σd, G, F, Wd, _, w, hp, cv, ht, fun x G1 F1 v H1 e1 g1 r1 q1 => by
    cases x with
    | bl c =>
      refine ⟨c, bl_rep r1, ?_⟩
      cases c with
      | true => exact iteT ⟨σd, G1, F1, Wd, Qd, w.ext e1 g1, Γ.mono _ _ _ _ e1.toExt0 hp, cv.ext e1, q1, fun d G' F' v' H' e3 g3 r3 q3 => k d G' F' v' H' (e1.trans e3) g3 r3 q3⟩
      | false => exact iteF (k (.bl false) G1 F1 _ H1 e1 g1 rep_bl q1)
    | _ => exact q1.elim⟩
theorem de_or (h1 : DE X Γ a ta) (h2 : DE X Γ (.BoolOp .Or (b :: rest) pos) tb) : DE X Γ (.BoolOp .Or (a :: b :: rest) pos) (dOrV ta tb) := pe_of (pe_or h1 h2) fun σ H Q ⟨σd, G, F, Wd, Qd, w, hp, cv, ht, k⟩ =>
  ⟨σd, G, F, Wd, _, w, hp, cv, ht, fun x G1 F1 v H1 e1 g1 r1 q1 => by
    cases x with
    | bl c =>
      refine ⟨c, bl_rep r1, ?_⟩
      cases c with
      | false => exact iteF ⟨σd, G1, F1, Wd, Qd, w.ext e1 g1, Γ.mono _ _ _ _ e1.toExt0 hp, cv.ext e1, q1, fun d G' F' v' H' e3 g3 r3 q3 => k d G' F' v' H' (e1.trans e3) g3 r3 q3⟩
      | true => exact iteT (k (.bl true) G1 F1 _ H1 e1 g1 rep_bl q1)
    | _ => exact q1.elim⟩
theorem de_not (h : DE X Γ a ta) : DE X Γ (.UnaryOp .Not a pos) (dNotV ta) := pe_of (pe_not h) fun σ H Q ⟨σd, G, F, Wd, Qd, w, hp, cv, ht, k⟩ =>
  ⟨σd, G, F, Wd, _, w, hp, cv, ht, fun x G1 F1 v H1 e1 g1 r1 q1 => by
    cases x with
    | bl c => exact ⟨c, bl_rep r1, k (.bl (!c)) G1 F1 _ H1 e1 g1 rep_bl q1⟩
    | _ => exact q1.elim⟩
def dIfK (b : Bool) (ta tb : DTE) : DTE := fun W σ G Q => if b = true then ta W σ G Q else tb W σ G Q
def dIf (t : DTT) (ta tb : DTE) : DTE := fun W σ G Q => t W σ G fun b G1 => dIfK b ta tb W σ G1 Q
theorem de_if (h : DTs X Γ c t1) (ha : DE X Γ a ta) (hb : DE X Γ b tb) : DE X Γ (.IfExp c a b pos) (dIf t1 ta tb) := pe_of (pe_ifExp h ha hb) fun σ H Q ⟨σd, G, F, Wd, Qd, w, hp, cv, ht, k⟩ =>
  ⟨σd, G, F, Wd, _, w, hp, cv, ht, fun x G1 F1 v H1 e1 g1 r1 q1 => by
    subst r1
    cases x with
    | true => exact iteT ⟨σd, G1, F1, Wd, Qd, w.ext e1 g1, Γ.mono _ _ _ _ e1.toExt0 hp, cv.ext e1, q1, fun d G' F' v' H' e3 g3 r3 q3 => k d G' F' v' H' (e1.trans e3) g3 r3 q3⟩
    | false => exact iteF ⟨σd, G1, F1, Wd, Qd, w.ext e1 g1, Γ.mono _ _ _ _ e1.toExt0 hp, cv.ext e1, q1, fun d G' F' v' H' e3 g3 r3 q3 => k d G' F' v' H' (e1.trans e3) g3 r3 q3⟩⟩
/-- a chain of two comparisons -/
def dChainK (b : Bool) (q' : Q2) (y : D) (tc : DTE) : DTE := fun W σ G Q => if b = true then tc W σ G fun z G2 => q' y z G2 Q else Q (.bl false) G
def dChain (q q' : Q2) (ta tb tc : DTE) : DTE := fun W σ G Q => ta W σ G fun x G1 => tb W σ G1 fun y G2 => q x y G2 fun r G3 => match r with | .bl b => dChainK b q' y tc W σ G3 Q | _ => False
theorem lift_chain {q q' : Q2} {r r' : R2} (hq : L2R K q r) (hq' : L2R K q' r') {σ : St} {H : Hp} {Q : VK} (h : LE K Γ (dChain q q' ta tb tc) σ H Q) : tChain r r' (LE K Γ ta) (LE K Γ tb) (LE K Γ tc) σ H Q := by
  obtain ⟨σd, G, F, Wd, Qd, w, hp, cv, ht, k⟩ := h
  refine ⟨σd, G, F, Wd, _, w, hp, cv, ht, fun x G1 F1 v H1 e1 g1 r1 q1 => ⟨σd, G1, F1, Wd, _, w.ext e1 g1, Γ.mono _ _ _ _ e1.toExt0 hp, cv.ext e1, q1, fun y G2 F2 u H2 e2 g2 r2 q2 =>
    hq x y v u G2 F2 H2 _ _ g2 (e2.rep _ _ r1) r2 q2 fun z G3 F3 v3 H3 e3 g3 r3 q3 => ?_⟩⟩
  have e03 := (e1.trans e2).trans e3
  cases z with
  | bl b =>
    refine ⟨b, bl_rep r3, ?_⟩
    cases b with
    | false => exact iteF (k (.bl false) G3 F3 _ H3 e03 g3 rep_bl q3)
    | true =>
      refine iteT ⟨σd, G3, F3, Wd, _, w.ext e03 g3, Γ.mono _ _ _ _ e03.toExt0 hp, cv.ext e03, q3, fun z G4 F4 u4 H4 e4 g4 r4 q4 => ?_⟩
      exact hq' y z u u4 G4 F4 H4 Qd Q g4 ((e3.trans e4).rep _ _ r2) r4 q4 fun d G' F' v' H' e5 g5 r5 q5 => k d G' F' v' H' ((e03.trans e4).trans e5) g5 r5 q5
  | _ => exact q3.elim
theorem de_chain {op op' : CmpOp} {q q' : Q2} {r r' : R2} (ho : OpR X (compareOp op) r) (hq : L2R X.K q r) (ho' : OpR X (compareOp op') r') (hq' : L2R X.K q' r') (ha : DE X Γ a ta) (hb : DE X Γ b tb) (hc : DE X Γ c tc)
    (hm : lastMarks [op, op'] [b, c] = false := by with_unfolding_all rfl) : DE X Γ (.Compare a [op, op'] [b, c] pos) (dChain q q' ta tb tc) := pe_of (pe_chain ho ho' ha hb hc hm) fun _ _ _ h => lift_chain hq hq' h
theorem dt_chain {op op' : CmpOp} {q q' : Q2} {r r' : R2} (ho : OpR X (compareOp op) r) (hq : L2R X.K q r) (ho' : OpR X (compareOp op') r') (hq' : L2R X.K q' r') (ha : DE X Γ a ta) (hb : DE X Γ b tb) (hc : DE X Γ c tc)
    (hm : lastMarks [op, op'] [b, c] = false := by with_unfolding_all rfl) : DTs X Γ (.Compare a [op, op'] [b, c] pos) (dTest (dChain q q' ta tb tc)) := by
  refine pt_of (pt_chain ho ho' ha hb hc hm) fun σ H Q ⟨σd, G, F, Wd, Qd, w, hp, cv, ht, k⟩ => ?_
  refine lift_chain hq hq' (ta := ta) (tb := tb) (tc := tc) (Γ := Γ) ⟨σd, G, F, Wd, _, w, hp, cv, ht, fun x G1 F1 v H1 e1 g1 r1 q1 => ?_⟩
  cases x with
  | bl b => exact ⟨b, bl_rep r1, k b G1 F1 b H1 e1 g1 rfl q1⟩
  | _ => exact q1.elim
/-! truth of a thing of any kind -/
def truD (G : DH) (d : D) (Q : Bool → Prop) : Prop := match d with
  | .non => Q false
  | .bl b => Q b
  | .int i => Q (i != 0)
  | .str y => y.length ≤ sizeLine ∧ Q ((y.length : Int) != 0)
  | d => match dseq G d with
    | some xs => Q (!xs.isEmpty)
    | none => False
def dTru (t : DTE) : DTT := fun W σ G Q => t W σ G fun x G1 => truD G1 x fun b => Q b G1
theorem truD_ok {H : Hp} {F : Fz} {G : DH} (g : GRel K H F G) {d : D} {v : V} (r : Rep K H F d v) {Q : Bool → Prop} (h : truD G d Q) : ∃ b, TruV K v H b ∧ Q b := by
  have seqs : ∀ xs, dseq G d = some xs → Q (!xs.isEmpty) → ∃ b, TruV K v H b ∧ Q b := fun xs e q => by
    obtain ⟨a, vs, rfl, hs, rs⟩ := dseq_rep g r e
    have em : (!xs.isEmpty) = !vs.isEmpty := by
      have := rs.length
      cases xs <;> cases vs <;> simp at this ⊢
    refine ⟨_, ?_, q⟩
    rcases hs with hs | hs
    · exact .inl ⟨vs, hs, em⟩
    · exact .inr (.inl ⟨vs, hs, em⟩)
  cases d with
  | non => rw [non_rep r]; exact ⟨_, rfl, h⟩
  | bl b => rw [bl_rep r]; exact ⟨_, rfl, h⟩
  | int i => rw [int_rep r]; exact ⟨_, rfl, h⟩
  | str y => rw [str_rep r]; exact ⟨_, ⟨h.1, rfl⟩, h.2⟩
  | tup xs => exact seqs xs rfl h
  | lst xs => exact seqs xs rfl h
  | scr ns => exact seqs _ rfl h
  | ty n => exact h.elim
  | ref a =>
    have h' : (match dseq G (.ref a) with | some xs => Q (!xs.isEmpty) | none => False) := h
    cases e : dseq G (.ref a) with
    | none => rw [e] at h'; exact h'.elim
    | some xs => rw [e] at h'; exact seqs xs e h'
theorem dt_truth (ha : DE X Γ a ta) (he : ∀ whole, isTrue a X.env whole = (do let v ← whole; standAt a.pos; holding [v] (truthy v)) := by intro _; rfl) : DTs X Γ a (dTru ta) :=
  pt_of (pt_truth ha he) fun σ H Q ⟨σd, G, F, Wd, Qd, w, hp, cv, ht, k⟩ => ⟨σd, G, F, Wd, _, w, hp, cv, ht, fun x G1 F1 v H1 e1 g1 r1 q1 => by
    obtain ⟨b, h1, h2⟩ := truD_ok g1 r1 q1
    exact ⟨b, h1, k b G1 F1 b H1 e1 g1 rfl h2⟩⟩
/-! methods of built-in types -/
abbrev QM := D → List D → DH → DK → Prop
def tyD (G : DH) : D → Option String
  | .non => some "NoneType"
  | .bl _ => some "bool"
  | .int _ => some "int"
  | .str _ => some "str"
  | .tup _ => some "tuple"
  | .lst _ => some "list"
  | .scr _ => some "list"
  | .ty _ => none
  | .ref a => match G a with
    | some (.lst _) => some "list"
    | some (.hid _) => some "list"
    | some (.dct _) => some "dict"
    | some (.set _ _) => some "set"
    | none => none
def tyM (T : String) (x : D) (G : DH) : Prop := match x with
  | .str _ => T = "str"
  | .int _ => T = "int"
  | .lst _ => T = "list"
  | .scr _ => T = "list"
  | .ref a => match G a with
    | some (.lst _) => T = "list"
    | some (.dct _) => T = "dict"
    | some (.set _ _) => T = "set"
    | _ => False
  | _ => False
theorem tyM_ok {H : Hp} {F : Fz} {G : DH} (g : GRel K H F G) {d : D} {v : V} (r : Rep K H F d v) {T : String} (h : tyM T d G) : tyV K T v H := by
  cases d with
  | str _ => rw [str_rep r]; exact h
  | int _ => rw [int_rep r]; exact h
  | lst xs => obtain ⟨a, vs, rfl, h1, _⟩ := dlst_rep (ds := xs) g r rfl; exact .inl ⟨h, vs, h1⟩
  | scr ns => obtain ⟨a, vs, rfl, h1, _⟩ := dlst_rep (ds := ns.map D.int) g r rfl; exact .inl ⟨h, vs, h1⟩
  | ref a =>
    unfold tyM at h
    rw [ref_rep r]
    cases e : G a with
    | none => simp [e] at h
    | some o =>
      obtain ⟨_, ho, q, ro⟩ := g.at_ a o e
      cases o with
      | lst xs => simp [e] at h; obtain ⟨vs, rfl, _⟩ := ro; exact .inl ⟨h, vs, SqL.of q⟩
      | hid _ => simp [e] at h
      | dct kvs => simp [e] at h; obtain ⟨ws, rfl, _⟩ := ro; exact .inr (.inr (.inl ⟨h, .inl ⟨ws, q⟩⟩))
      | set S n => simp [e] at h; cases (show ho = .set S n from ro); exact .inr (.inr (.inr ⟨h, S, n, q⟩))
  | _ => exact h.elim
def LMR (K : PySem.W.Frag) (q : QM) (r : V → List V → Hp → VK → Prop) : Prop := ∀ x v ds vs G F H Qd Q, GRel K H F G → Rep K H F x v → Reps K H F ds vs → q x ds G Qd → Kont K H F Qd Q → r v vs H Q
def dM0 (T : String) (q : QM) (ta : DTE) : DTE := fun W σ G Q => ta W σ G fun x G1 => tyM T x G1 ∧ q x [] G1 Q
def dM (T : String) (q : QM) (ta : DTE) (t : DTA) : DTE := fun W σ G Q => ta W σ G fun x G1 => tyM T x G1 ∧ t W σ G1 fun xs G2 => q x xs G2 Q
variable {o : Expr} {name : Str} {apos cpos : Pos} {T id : String} {r : V → List V → Hp → VK → Prop} {q : QM}
theorem de_m0 (pa : PlainAttrs T) (slot : Slot T name id) (hty : typeOf (.builtin id) = pure (.type "method_descriptor")) (hm : MtR X id r) (hq : LMR X.K q r) (ho : DE X Γ o ta)
    (hbase : attributeBase o name X.env (eval o X.env) = eval o X.env := by rfl) (hline : (apos.endLine == cpos.line) = true := by rfl) : DE X Γ (.Call (.Attribute o name apos) [] [] cpos) (dM0 T q ta) :=
  pe_of (pe_bm0 pa slot hty hm ho hbase hline) fun σ H Q ⟨σd, G, F, Wd, Qd, w, hp, cv, ht, k⟩ => ⟨σd, G, F, Wd, _, w, hp, cv, ht, fun x G1 F1 v H1 e1 g1 r1 ⟨h1, q1⟩ =>
    ⟨tyM_ok g1 r1 h1, hq x v [] [] G1 F1 H1 Qd Q g1 r1 .nil q1 fun d G' F' v' H' e3 g3 r3 q3 => k d G' F' v' H' (e1.trans e3) g3 r3 q3⟩⟩
theorem de_m (pa : PlainAttrs T) (slot : Slot T name id) (hty : typeOf (.builtin id) = pure (.type "method_descriptor")) (hm : MtR X id r) (hq : LMR X.K q r) (ho : DE X Γ o ta) (ha : DA X Γ (e :: es) t)
    (hbase : attributeBase o name X.env (eval o X.env) = eval o X.env := by rfl)
    (hfew : ((backTo cpos (starEach (e :: es) X.env)).all (fun x => !x.1) && (backToKw cpos (keywordEach [] X.env)).all (fun x => x.1.isSome)
      && decide ((e :: es).length + ([] : List Keyword).length + (if ([] : List Keyword).isEmpty then 0 else 1) < 30)) = true := by rfl)
    (hline : (apos.endLine == cpos.line) = true := by rfl) (hs : starEach (e :: es) X.env = (false, eval e X.env) :: starEach es X.env := by rfl) (hplain : (backTo cpos (starEach es X.env)).any (·.1) = false := by rfl) :
    DE X Γ (.Call (.Attribute o name apos) (e :: es) [] cpos) (dM T q ta t) :=
  pe_of (pe_bm pa slot hty hm ho ha hbase hfew hline hs hplain) fun σ H Q ⟨σd, G, F, Wd, Qd, w, hp, cv, ht, k⟩ => ⟨σd, G, F, Wd, _, w, hp, cv, ht, fun x G1 F1 v H1 e1 g1 r1 ⟨h1, q1⟩ =>
    ⟨tyM_ok g1 r1 h1, σd, G1, F1, Wd, _, w.ext e1 g1, Γ.mono _ _ _ _ e1.toExt0 hp, cv.ext e1, q1, fun xs G2 F2 vs H2 e2 g2 r2 q2 =>
      hq x v xs vs G2 F2 H2 Qd Q g2 (e2.rep _ _ r1) r2 q2 fun d G' F' v' H' e3 g3 r3 q3 => k d G' F' v' H' ((e1.trans e2).trans e3) g3 r3 q3⟩⟩
/-! slices -/
abbrev QS := D → Option Int → Option Int → DH → DK → Prop
def LSR (K : PySem.W.Frag) (q : QS) (r : V → Option Int → Option Int → Hp → VK → Prop) : Prop := ∀ x v lo hi G F H Qd Q, GRel K H F G → Rep K H F x v → q x lo hi G Qd → Kont K H F Qd Q → r v lo hi H Q
abbrev DTO := DT (Option Int)
def DO_ (X : Cx) (Γ : Amb) (e : Option Expr) (t : DTO) : Prop := PO X e (Lift X.K Γ (fun _ _ (a b : Option Int) => a = b) t)
theorem po_of {e : Option Expr} {t u : TO} (h : PO X e u) (i : ∀ σ H Q, t σ H Q → u σ H Q) : PO X e t := ⟨fun pins s σ H Q I q => h.run pins s σ H Q I (i _ _ _ q)⟩
def dNoP : DTO := fun _ _ G Q => Q none G
def dPart (t : DTE) : DTO := fun W σ G Q => t W σ G fun x G1 => match x with | .int i => Q (some i) G1 | _ => False
theorem do_none : DO_ X Γ none dNoP := po_of po_none fun σ H Q ⟨σd, G, F, Wd, Qd, w, hp, cv, q, k⟩ => k none G F none H Ext.refl w.gr rfl q
theorem do_some (h : DE X Γ e ta) : DO_ X Γ (some e) (dPart ta) := po_of (po_some h) fun σ H Q ⟨σd, G, F, Wd, Qd, w, hp, cv, ht, k⟩ => ⟨σd, G, F, Wd, _, w, hp, cv, ht, fun x G1 F1 v H1 e1 g1 r1 q1 => by
  cases x with
  | int i => exact ⟨i, int_rep r1, k (some i) G1 F1 _ H1 e1 g1 rfl q1⟩
  | _ => exact q1.elim⟩
def dSl (q : QS) (ta : DTE) (tl th : DTO) : DTE := fun W σ G Q => ta W σ G fun x G1 => tl W σ G1 fun l G2 => th W σ G2 fun h G3 => q x l h G3 Q
theorem de_slice {q : QS} {r : V → Option Int → Option Int → Hp → VK → Prop} {lo hi : Option Expr} {tl th : DTO} {p2 : Pos} (hr : SlR X r) (hq : LSR X.K q r) (he : DE X Γ e ta) (hl : DO_ X Γ lo tl) (hu : DO_ X Γ hi th) :
    DE X Γ (.Subscript e (.Slice lo hi none p2) pos) (dSl q ta tl th) := pe_of (pe_slice hr he hl hu) fun σ H Q ⟨σd, G, F, Wd, Qd, w, hp, cv, ht, k⟩ =>
  ⟨σd, G, F, Wd, _, w, hp, cv, ht, fun x G1 F1 v H1 e1 g1 r1 q1 => ⟨σd, G1, F1, Wd, _, w.ext e1 g1, Γ.mono _ _ _ _ e1.toExt0 hp, cv.ext e1, q1, fun l G2 F2 l' H2 e2 g2 r2 q2 => by
    subst r2
    have e12 := e1.trans e2
    exact ⟨σd, G2, F2, Wd, _, w.ext e12 g2, Γ.mono _ _ _ _ e12.toExt0 hp, cv.ext e12, q2, fun u G3 F3 u' H3 e3 g3 r3 q3 => by
      subst r3
      exact hq x v l u G3 F3 H3 Qd Q g3 ((e2.trans e3).rep _ _ r1) q3 fun d G' F' v' H' e4 g4 r4 q4 => k d G' F' v' H' ((e12.trans e3).trans e4) g4 r4 q4⟩⟩⟩
end
end DL

/-! D3: statements, targets, calls, exceptions over trees. -/
namespace DL
open PySem PySem.Spec L2

section
variable {X : Cx} {Γ : Amb} {K : PySem.W.Frag} {st : Stmt} {rest : List Stmt} {t u : DTS} {e a b c : Expr} {es : List Expr} {te ta : DTE} {tA : DTA} {tt : DTT} {pos : Pos}
def dNext : DTS := fun _ D σ G => D.nx σ G
def dSeq (t u : DTS) : DTS := fun W D σ G => t W { nx := u W D, rt := D.rt, bk := D.bk, ct := D.ct } σ G
theorem dss_nil : DSs X Γ [] dNext := pss_of pss_nil fun D σ H ⟨σd, G, F, Wd, Dd, w, hp, cv, ht, k⟩ => k.nx σd G F σ H Ext.refl w ht
theorem dss_cons (h1 : DS X Γ st t) (h2 : DSs X Γ rest u) : DSs X Γ (st :: rest) (dSeq t u) := pss_of (pss_cons h1 h2) fun D σ H ⟨σd, G, F, Wd, Dd, w, hp, cv, ht, k⟩ =>
  ⟨σd, G, F, Wd, _, w, hp, cv, ht, fun σd' G' F' σ' H' e1 w1 q1 => ⟨σd', G', F', Wd, Dd, w1, Γ.mono _ _ _ _ e1.toExt0 hp, cv.ext e1, q1, k.ext e1⟩, k.rt, k.bk, k.ct⟩
theorem dss_one (h1 : DS X Γ st t) : DSs X Γ [st] t := pss_one h1
def dBreak : DTS := fun _ D σ G => D.bk σ G
def dCont : DTS := fun _ D σ G => D.ct σ G
theorem ds_pass : DS X Γ (.Pass pos) dNext := ps_of ps_pass fun D σ H ⟨σd, G, F, Wd, Dd, w, hp, cv, ht, k⟩ => k.nx σd G F σ H Ext.refl w ht
theorem ds_break : DS X Γ (.Break pos) dBreak := ps_of ps_break fun D σ H ⟨σd, G, F, Wd, Dd, w, hp, cv, ht, k⟩ => k.bk σd G F σ H Ext.refl w ht
theorem ds_continue : DS X Γ (.Continue pos) dCont := ps_of ps_continue fun D σ H ⟨σd, G, F, Wd, Dd, w, hp, cv, ht, k⟩ => k.ct σd G F σ H Ext.refl w ht
def dDrop (te : DTE) : DTS := fun W D σ G => te W σ G fun _ G1 => D.nx σ G1
theorem ds_expr (he : DE X Γ e te) (hs : swapsWith e none pos.line X.env = pure false := by rfl) : DS X Γ (.Expr e pos) (dDrop te) := ps_of (ps_expr he hs) fun D σ H ⟨σd, G, F, Wd, Dd, w, hp, cv, ht, k⟩ =>
  ⟨σd, G, F, Wd, _, w, hp, cv, ht, fun x G1 F1 v H1 e1 g1 r1 q1 => k.nx σd G1 F1 σ H1 e1 (w.ext e1 g1) q1⟩
def dRet (te : DTE) : DTS := fun W D σ G => te W σ G D.rt
theorem ds_ret (he : DE X Γ e te) : DS X Γ (.Return (some e) pos) (dRet te) := ps_of (ps_ret he) fun D σ H ⟨σd, G, F, Wd, Dd, w, hp, cv, ht, k⟩ =>
  ⟨σd, G, F, Wd, _, w, hp, cv, ht, fun x G1 F1 v H1 e1 g1 r1 q1 => k.rt x G1 F1 v H1 e1 g1 r1 q1⟩
def dRetN : DTS := fun _ D _ G => D.rt .non G
theorem ds_retN : DS X Γ (.Return none pos) dRetN := ps_of ps_retN fun D σ H ⟨σd, G, F, Wd, Dd, w, hp, cv, ht, k⟩ => k.rt .non G F .non H Ext.refl w.gr rep_non ht
def dIfSK (b : Bool) (t u : DTS) : DTS := fun W D σ G => if b = true then t W D σ G else u W D σ G
def dIfS (tt : DTT) (t u : DTS) : DTS := fun W D σ G => tt W σ G fun b G1 => dIfSK b t u W D σ G1
theorem ds_if {p q : List Stmt} (hc : DTs X Γ c tt) (ha : DSs X Γ p t) (hb : DSs X Γ q u) : DS X Γ (.If c p q pos) (dIfS tt t u) := ps_of (ps_if hc ha hb) fun D σ H ⟨σd, G, F, Wd, Dd, w, hp, cv, ht, k⟩ =>
  ⟨σd, G, F, Wd, _, w, hp, cv, ht, fun x G1 F1 v H1 e1 g1 r1 q1 => by
    subst r1
    cases x with
    | true => exact iteT ⟨σd, G1, F1, Wd, Dd, w.ext e1 g1, Γ.mono _ _ _ _ e1.toExt0 hp, cv.ext e1, q1, k.ext e1⟩
    | false => exact iteF ⟨σd, G1, F1, Wd, Dd, w.ext e1 g1, Γ.mono _ _ _ _ e1.toExt0 hp, cv.ext e1, q1, k.ext e1⟩⟩
def dNever : DTS := fun _ _ _ _ => False
theorem ds_never : DS X Γ st dNever := ⟨fun _ _ _ _ _ _ ⟨_, _, _, _, _, _, _, _, h, _⟩ => h.elim⟩

/-! ### what may be done to the ledger between two statements -/
inductive Ghost : DSt → DH → DSt → DH → Prop
  | refl {σ : DSt} {G : DH} : Ghost σ G σ G
  | drop {σ σ' : DSt} {G G' G2 : DH} (s : Sub G2 G) (h : Ghost σ G2 σ' G') : Ghost σ G σ' G'
  | freeze {σ σ' : DSt} {G G' : DH} (i : Nat) (p : Addr) (ds : List D) (e : σ[i]? = some (some (.ref p))) (e2 : G p = some (.lst ds)) (h : Ghost (σ.set i (some (.lst ds))) (ddel G p) σ' G') : Ghost σ G σ' G'
  | hide {σ σ' : DSt} {G G' : DH} (p : Addr) (ds : List D) (φ : List D → Prop) (e2 : G p = some (.lst ds)) (q : φ ds) (h : Ghost σ (dupd G p (.hid φ)) σ' G') : Ghost σ G σ' G'
theorem Ghost.ok {σd σd' : DSt} {G G' : DH} (z : Ghost σd G σd' G') : ∀ {H : Hp} {F : Fz} {σ : St}, WR K H F σd G σ → ∃ F', Ext F H F' H ∧ WR K H F' σd' G' σ := by
  induction z with
  | refl => intro H F σ w; exact ⟨F, Ext.refl, w⟩
  | drop s h ih => intro H F σ w; exact ih ⟨w.sl, w.gr.sub s⟩
  | @freeze σ1 σ2 G1 G2 i p ds e e2 h ih =>
    intro H F σ w
    obtain ⟨x, g, r⟩ := w.gr.freeze e2
    obtain ⟨v, e3, r3⟩ := w.sl.2 i _ e
    have ev : v = .ref p := ref_rep r3
    subst ev
    have s2 : Slots K H (fadd F p) (σ1.set i (some (.lst ds))) (σ.set i (some (.ref p))) := (w.sl.ext x.toExt0).set r
    have es : σ.set i (some (V.ref p)) = σ := by
      apply List.ext_getElem?
      intro j
      by_cases hj : i = j
      · subst hj
        rw [List.getElem?_set]
        have hl : i < σ.length := (List.getElem?_eq_some_iff.mp e3).1
        simp [hl]
        exact ((List.getElem?_eq_some_iff.mp e3).2).symm
      · rw [List.getElem?_set_ne hj]
    rw [es] at s2
    obtain ⟨F', x2, w2⟩ := ih ⟨s2, g⟩
    exact ⟨F', x.trans x2, w2⟩
  | @hide σ1 σ2 G1 G2 p ds φ e2 q h ih =>
    intro H F σ w
    refine ih ⟨w.sl, ⟨fun b u eb => ?_, w.gr.fz, w.gr.bl⟩⟩
    by_cases hb : b = p
    · subst hb
      rw [dupd_same] at eb; cases eb
      obtain ⟨nf, ho, q1, vs, rfl, r⟩ := w.gr.at_ b _ e2
      exact ⟨nf, _, q1, ds, vs, q, rfl, r⟩
    · rw [dupd_ne hb] at eb
      exact w.gr.at_ b u eb
def dGhost (t : DTS) : DTS := fun W D σ G => ∃ σ' G', Ghost σ G σ' G' ∧ t W D σ' G'
theorem dss_ghost {sts : List Stmt} (h : DSs X Γ sts t) : DSs X Γ sts (dGhost t) := pss_of h fun D σ H ⟨σd, G, F, Wd, Dd, w, hp, cv, ⟨σd', G', z, ht⟩, k⟩ => by
  obtain ⟨F', x, w'⟩ := z.ok w
  exact ⟨σd', G', F', Wd, Dd, w', Γ.mono _ _ _ _ x.toExt0 hp, cv.ext x, ht, k.ext x⟩
/-- what is hidden is looked at -/
def dOpen (t : DTS) : DTS := fun W D σ G => ∃ p φ, G p = some (.hid φ) ∧ ∀ ds, φ ds → t W D σ (dupd G p (.lst ds))
theorem GRel.openH {H : Hp} {F : Fz} {G : DH} (g : GRel K H F G) {p : Addr} {φ : List D → Prop} (e : G p = some (.hid φ)) : ∃ ds, φ ds ∧ GRel K H F (dupd G p (.lst ds)) := by
  obtain ⟨nf, ho, q1, ds, vs, q, rfl, r⟩ := g.at_ p _ e
  refine ⟨ds, q, ⟨fun b u eb => ?_, g.fz, g.bl⟩⟩
  by_cases hb : b = p
  · subst hb
    rw [dupd_same] at eb; cases eb
    exact ⟨nf, _, q1, vs, rfl, r⟩
  · rw [dupd_ne hb] at eb
    exact g.at_ b u eb
theorem dss_open {sts : List Stmt} (h : DSs X Γ sts t) : DSs X Γ sts (dOpen t) := pss_of h fun D σ H ⟨σd, G, F, Wd, Dd, w, hp, cv, ⟨p, φ, e, ht⟩, k⟩ => by
  obtain ⟨ds, q, g⟩ := w.gr.openH e
  exact ⟨σd, _, F, Wd, Dd, ⟨w.sl, g⟩, hp, cv, ht ds q, k⟩

/-! ### targets -/
abbrev DTG := DX → D → DSt → DH → (DSt → DH → Prop) → Prop
abbrev DTGs := DX → List D → DSt → DH → (DSt → DH → Prop) → Prop
def LG (K : PySem.W.Frag) (Γ : Amb) (t : DTG) : TG := fun v σ H Q => ∃ d σd G F Wd Qd, WR K H F σd G σ ∧ Γ.P H F ∧ Cov K Γ.W Wd H F ∧ Rep K H F d v ∧ t Wd d σd G Qd ∧ ∀ σd' G' F' σ' H', Ext F H F' H' → WR K H' F' σd' G' σ' → Qd σd' G' → Q σ' H'
def LGs (K : PySem.W.Frag) (Γ : Amb) (t : DTGs) : TGs := fun vs σ H Q => ∃ ds σd G F Wd Qd, WR K H F σd G σ ∧ Γ.P H F ∧ Cov K Γ.W Wd H F ∧ Reps K H F ds vs ∧ t Wd ds σd G Qd ∧ ∀ σd' G' F' σ' H', Ext F H F' H' → WR K H' F' σd' G' σ' → Qd σd' G' → Q σ' H'
def DG (X : Cx) (Γ : Amb) (e : Expr) (t : DTG) : Prop := PG X e (LG X.K Γ t)
def DGs (X : Cx) (Γ : Amb) (es : List Expr) (t : DTGs) : Prop := PGs X es (LGs X.K Γ t)
theorem pg_of {e : Expr} {t u : TG} (h : PG X e u) (i : ∀ v σ H Q, t v σ H Q → u v σ H Q) : PG X e t := ⟨fun pins s σ H v uv Q I r q => h.run pins s σ H v uv Q I r (i _ _ _ _ q)⟩
theorem pgs_of {e : List Expr} {t u : TGs} (h : PGs X e u) (i : ∀ v σ H Q, t v σ H Q → u v σ H Q) : PGs X e t := ⟨fun pins s σ H v uv Q I r q => h.run pins s σ H v uv Q I r (i _ _ _ _ q)⟩
def gSet (i : Nat) : DTG := fun _ d σ G Q => Q (σ.set i (some d)) G
theorem dg_name {i : Nat} {x : Str} (hN : X.N.Nodup) (hi : X.N[i]? = some x) (hx : Loc X.env.scope x) (hf : X.fn x = true ∨ X.env.scope.names.lookup x = some .local := by first | exact .inl rfl | exact .inr rfl | assumption) : DG X Γ (.Name x pos) (gSet i) :=
  pg_of (pg_name hN hi hx hf) fun v σ H Q ⟨d, σd, G, F, Wd, Qd, w, hp, cv, r, ht, k⟩ => k _ G F _ H Ext.refl (w.set r) ht
def gsNil : DTGs := fun _ ds σ G Q => ds = [] ∧ Q σ G
def gsCons (t : DTG) (u : DTGs) : DTGs := fun W ds σ G Q => match ds with
  | d :: r => t W d σ G fun σ' G' => u W r σ' G' Q
  | [] => False
theorem dgs_nil : DGs X Γ [] gsNil := pgs_of pgs_nil fun v σ H Q ⟨ds, σd, G, F, Wd, Qd, w, hp, cv, r, ⟨e, ht⟩, k⟩ => by
  subst e
  exact ⟨r.inv0, k _ G F _ H Ext.refl w ht⟩
theorem dgs_cons {t : DTG} {u : DTGs} (h1 : DG X Γ e t) (h2 : DGs X Γ es u) (hs : (assignEach (e :: es) X.env).map (·.2) = assign e X.env :: (assignEach es X.env).map (·.2) := by rfl) : DGs X Γ (e :: es) (gsCons t u) :=
  pgs_of (pgs_cons h1 h2 hs) fun v σ H Q ⟨ds, σd, G, F, Wd, Qd, w, hp, cv, r, ht, k⟩ => by
    cases ds with
    | nil => exact ht.elim
    | cons d r' =>
      obtain ⟨v1, vs, rfl, r1, r2⟩ := r.inv
      exact ⟨v1, vs, rfl, d, σd, G, F, Wd, _, w, hp, cv, r1, ht, fun σd' G' F' σ' H' e1 w1 q1 => ⟨r', σd', G', F', Wd, Qd, w1, Γ.mono _ _ _ _ e1.toExt0 hp, cv.ext e1, e1.reps _ _ r2, q1, fun a b c d f e2 w2 q2 => k a b c d f (e1.trans e2) w2 q2⟩⟩
def gTupD (n : Nat) (t : DTGs) : DTG := fun W d σ G Q => match d with
  | .tup xs => xs.length = n ∧ t W xs σ G Q
  | _ => False
theorem dg_tup {k : Nat} {t : DTGs} {n : Nat} (hc : X.calm = true) (h : DGs X Γ es t) (hn : (assignEach es X.env).length = n := by rfl) (hst : (assignEach es X.env).findIdx? (·.1) = none := by rfl) : DG X Γ (.Tuple es k pos) (gTupD n t) :=
  pg_of (pg_tup hc h hn hst) fun v σ H Q ⟨d, σd, G, F, Wd, Qd, w, hp, cv, r, ht, k⟩ => by
    cases d with
    | tup xs =>
      obtain ⟨a, vs, rfl, hs, rs⟩ := tup_rep r
      exact ⟨a, vs, rfl, hs, by rw [← rs.length]; exact ht.1, xs, σd, G, F, Wd, Qd, w, hp, cv, rs, ht.2, k⟩
    | _ => exact ht.elim
/-- a list at p gets d at place k -/
abbrev DQSet := D → D → D → DH → (DH → Prop) → Prop
def LSet (K : PySem.W.Frag) (q : DQSet) (r : TSet) : Prop := ∀ o i x ov iv xv G F H Qd Q, GRel K H F G → Rep K H F o ov → Rep K H F i iv → Rep K H F x xv → q o i x G Qd → (∀ G' H', Ext F H F H' → GRel K H' F G' → Qd G' → Q H') → r ov iv xv H Q
def gSubD (q : DQSet) (to ti : DTE) : DTG := fun W d σ G Q => to W σ G fun o G1 => ti W σ G1 fun i G2 => q o i d G2 fun G3 => Q σ G3
theorem dg_sub {o i : Expr} {to ti : DTE} {q : DQSet} {r : TSet} (hr : PSet X r) (hq : LSet X.K q r) (ho : DE X Γ o to) (hi : DE X Γ i ti)
    (ha : ∀ v, assign (.Subscript o i pos) X.env v = (do
      let ov ← holding [v] (eval o X.env)
      let iv ← holding [v, ov] (eval i X.env)
      standAt pos
      holding [v, ov, iv] (setItem ov iv v)
      release [v, ov, iv] []) := by intro _; rfl) : DG X Γ (.Subscript o i pos) (gSubD q to ti) :=
  pg_of (pg_sub ho hi hr ha) fun v σ H Q ⟨d, σd, G, F, Wd, Qd, w, hp, cv, r, ht, k⟩ => ⟨σd, G, F, Wd, _, w, hp, cv, ht, fun x G1 F1 v1 H1 e1 g1 r1 q1 =>
    ⟨σd, G1, F1, Wd, _, w.ext e1 g1, Γ.mono _ _ _ _ e1.toExt0 hp, cv.ext e1, q1, fun y G2 F2 u H2 e2 g2 r2 q2 =>
      hq x y d v1 u v G2 F2 H2 _ _ g2 (e2.rep _ _ r1) r2 ((e1.trans e2).rep _ _ r) q2 fun G3 H3 e3 g3 q3 => k σd G3 F2 σ H3 ((e1.trans e2).trans e3) (w.ext ((e1.trans e2).trans e3) g3) q3⟩⟩
def dSetL : DQSet := fun o i x G Q => match o, i with
  | .ref p, .int k => ∃ ds j, G p = some (.lst ds) ∧ ixN ds.length k = some j ∧ Q (dupd G p (.lst (ds.set j x)))
  | _, _ => False
theorem dSetL_ok : LSet K dSetL rSetL := fun o i x ov iv xv G F H Qd Q g ro ri rx h k => by
  cases o with
  | ref p =>
    cases i with
    | int n =>
      obtain ⟨ds, j, e, hj, q⟩ := h
      obtain ⟨_, ho, q1, vs, rfl, rs⟩ := g.at_ p _ e
      rw [ref_rep ro, int_rep ri]
      obtain ⟨x1, g1⟩ := g.put (o' := .lst (ds.set j x)) (ho := .lst (vs.set j xv)) e ⟨_, rfl, rs.set rx j⟩
      exact ⟨p, vs, n, j, rfl, rfl, q1, by rw [← rs.length]; exact hj, k _ _ x1 g1 q⟩
    | _ => exact h.elim
  | _ => cases i <;> exact h.elim
def dAsg (te : DTE) (g : DTG) : DTS := fun W D σ G => te W σ G fun x G1 => g W x σ G1 D.nx
theorem ds_asg {tg : Expr} {g : DTG} (he : DE X Γ e te) (hg : DG X Γ tg g) (hs : swapsWithSole [tg] e pos.line X.env = pure false := by rfl) (hw : swappedStores [tg] e X.env = pure none := by rfl)
    (h1 : (assignEach [tg] X.env).map (·.2) = [assign tg X.env] := by rfl) : DS X Γ (.Assign [tg] e pos) (dAsg te g) := ps_of (ps_asg he hg hs hw h1) fun D σ H ⟨σd, G, F, Wd, Dd, w, hp, cv, ht, k⟩ =>
  ⟨σd, G, F, Wd, _, w, hp, cv, ht, fun x G1 F1 v H1 e1 g1 r1 q1 => ⟨x, σd, G1, F1, Wd, _, w.ext e1 g1, Γ.mono _ _ _ _ e1.toExt0 hp, cv.ext e1, r1, q1, fun a b c d f e2 w2 q2 => k.nx a b c d f (e1.trans e2) w2 q2⟩⟩
theorem ds_set {i : Nat} {x : Str} {pos' : Pos} (hN : X.N.Nodup) (hi : X.N[i]? = some x) (hx : Loc X.env.scope x) (he : DE X Γ e te) (hs : swapsWith e (some (.Name x pos')) pos.line X.env = pure false := by rfl) (hf : X.fn x = true ∨ X.env.scope.names.lookup x = some .local := by first | exact .inl rfl | exact .inr rfl | assumption) :
    DS X Γ (.Assign [.Name x pos'] e pos) (dAsg te (gSet i)) := ps_of (ps_set hN hi hx he hs hf) fun D σ H ⟨σd, G, F, Wd, Dd, w, hp, cv, ht, k⟩ =>
  ⟨σd, G, F, Wd, _, w, hp, cv, ht, fun x G1 F1 v H1 e1 g1 r1 q1 => k.nx _ G1 F1 _ H1 e1 ((w.ext e1 g1).set r1) q1⟩
def dPar (i j : Nat) (ta : DTA) : DTS := fun W D σ G => ta W σ G fun xs G1 => match xs with
  | [v, w] => D.nx ((σ.set i (some v)).set j (some w)) G1
  | _ => False
theorem ds_par {i j : Nat} {x y : Str} {px py pt : Pos} {kt k2 pt2} (hc : X.calm = true) (hN : X.N.Nodup) (hi : X.N[i]? = some x) (hj : X.N[j]? = some y) (hij : i ≠ j)
    (hx : X.env.scope.names.lookup x = some .local) (hy : X.env.scope.names.lookup y = some .local) (ha : DA X Γ [a, b] tA)
    (hw : swappedStores [.Tuple [.Name x px, .Name y py] kt pt] (.Tuple [a, b] k2 pt2) X.env = pure (some [x, y]))
    (hs : swapsWithSole [.Tuple [.Name x px, .Name y py] kt pt] (.Tuple [a, b] k2 pt2) pos.line X.env = pure false := by rfl) :
    DS X Γ (.Assign [.Tuple [.Name x px, .Name y py] kt pt] (.Tuple [a, b] k2 pt2) pos) (dPar i j tA) := ps_of (ps_par hc hN hi hj hij hx hy ha hw hs) fun D σ H ⟨σd, G, F, Wd, Dd, w, hp, cv, ht, k⟩ =>
  ⟨σd, G, F, Wd, _, w, hp, cv, ht, fun xs G1 F1 vs H1 e1 g1 r1 q1 => by
    match xs, r1, q1 with
    | [d1, d2], r1, q1 =>
      obtain ⟨v1, v2, rfl, r2, r3⟩ := r1.of2
      exact ⟨v1, v2, rfl, k.nx _ G1 F1 _ H1 e1 (((w.ext e1 g1).set r2).set r3) q1⟩
    | [], _, q1 => exact q1.elim
    | [_], _, q1 => exact q1.elim
    | _ :: _ :: _ :: _, _, q1 => exact q1.elim⟩
def dAug (i : Nat) (te : DTE) (q : Q2) : DTS := fun W D σ G => ∃ x, σ[i]? = some (some x) ∧ te W σ G fun y G1 => q x y G1 fun z G2 => D.nx (σ.set i (some z)) G2
theorem ds_aug {i : Nat} {x : Str} {op : Operator} {q : Q2} {r : R2} {pos' : Pos} (hN : X.N.Nodup) (hi : X.N[i]? = some x) (hx : Loc X.env.scope x) (he : DE X Γ e te) (ho : OpR X (inplaceOp op) r) (hq : L2R X.K q r) (hf : X.fn x = true ∨ X.env.scope.names.lookup x = some .local := by first | exact .inl rfl | exact .inr rfl | assumption) :
    DS X Γ (.AugAssign (.Name x pos') op e pos) (dAug i te q) := ps_of (ps_aug (ti := r) hN hi hx he (fun pins s σ H x y v u Q I r1 r2 h => ho pins s σ H x y v u Q I r1 r2 h) hf) fun D σ H ⟨σd, G, F, Wd, Dd, w, hp, cv, ⟨x, ex, ht⟩, k⟩ => by
  obtain ⟨xv, exv, rx⟩ := w.sl.2 i x ex
  exact ⟨xv, exv, σd, G, F, Wd, _, w, hp, cv, ht, fun y G1 F1 v H1 e1 g1 r1 q1 => hq x y xv v G1 F1 H1 _ _ g1 (e1.rep _ _ rx) r1 q1 fun z G2 F2 u H2 e2 g2 r2 q2 => k.nx _ G2 F2 _ H2 (e1.trans e2) ((w.ext (e1.trans e2) g2).set r2) q2⟩
end

/-! ### calls -/
abbrev DSp := List D → DH → DK → (Exc → DH → Prop) → Prop
def liftSp (K : PySem.W.Frag) (sp : DSp) : Sp := fun vs H Q E => ∃ ds G F Qd Ed, GRel K H F G ∧ Reps K H F ds vs ∧ sp ds G Qd Ed ∧ Kont K H F Qd Q ∧ ∀ x G' F' cls d H', Ext F H F' H' → GRel K H' F' G' → RepX K H' F' x cls d → Ed x G' → E cls d H'
/-- a def of the text that keeps a promise over trees -/
def Has (P : Program) (w : World) (K : PySem.W.Frag) (mg : Str → Option Value) (base : Heap) (k : Nat) (x : Str) (st : Stmt) (ps : List Str) (sp : DSp) : Prop :=
  ∃ f fd, mg x = some (.ref f) ∧ Fun K x x st f fd ∧ Binds K fd ps [] ∧ FnOk P w K mg base (L2.CX P w) k f fd ps (liftSp K sp)
def dCall (sp : DSp) (t : DTA) : DTE := fun W σ G Q => t W σ G fun xs G1 => sp xs G1 Q fun x G2 => W x σ G2
section
variable {X : Cx} {Γ : Amb} {e : Expr} {es : List Expr} {t : DTA} {pos p : Pos} {x : Str} {ps : List Str} {sp : DSp} {k : Nat} {st : Stmt}
theorem de_call (hF : Has X.prog X.w X.K X.mg X.base k x st ps sp) (hr : Room k X.A) (hg : Gl X x) (tk : Takes X Γ.W) (ha : DA X Γ (e :: es) t)
    (hdb : (x == ("__debug__" : Str)) = false := by decide) (he : starEach (e :: es) X.env = (false, eval e X.env) :: starEach es X.env := by rfl) (hpl : (backTo pos (starEach es X.env)).any (·.1) = false := by rfl) :
    DE X Γ (.Call (.Name x p) (e :: es) [] pos) (dCall sp t) := by
  obtain ⟨f, fd, hm, hfn, hb, F⟩ := hF
  refine pe_of (pe_callS F hr hg hm hfn.kp hb (fun σ => passAt tk σ) ha hdb he hpl) fun σ H Q ⟨σd, G, F, Wd, Qd, w, hp, cv, ht, kk⟩ => ?_
  exact ⟨σd, G, F, Wd, _, w, hp, cv, ht, fun xs G1 F1 vs H1 e1 g1 r1 q1 => ⟨xs, G1, F1, Qd, _, g1, r1, q1, fun d G' F' v' H' e3 g3 r3 q3 => kk d G' F' v' H' (e1.trans e3) g3 r3 q3,
    fun x G' F' cls d H' e3 g3 r3 q3 => cv x σd G' F' cls d σ H' (e1.trans e3) (w.ext (e1.trans e3) g3) r3 q3⟩⟩
end
end DL

/-! D4: what is raised and caught; a def's body; calls with keywords. -/
namespace DL
open PySem PySem.Spec L2

/-! ### raising -/
abbrev DTM := DX → DSt → DH → (Exc → DH → Prop) → Prop
def LM (K : PySem.W.Frag) (Γ : Amb) (t : DTM) : L2.St → Hp → XK → Prop := fun σ H Q => ∃ σd G F Wd Qd, WR K H F σd G σ ∧ Γ.P H F ∧ Cov K Γ.W Wd H F ∧ t Wd σd G Qd ∧
  ∀ x G' F' cls d H', Ext F H F' H' → GRel K H' F' G' → RepX K H' F' x cls d → Qd x G' → Q cls d H'
def DMk (X : Cx) (Γ : Amb) (e : Expr) (t : DTM) : Prop := PMk X e (LM X.K Γ t)
section
variable {X : Cx} {Γ : Amb} {e : Expr} {es : List Expr} {pos p : Pos} {x : Str}
theorem pmk_of {t u : L2.St → Hp → XK → Prop} (h : PMk X e u) (i : ∀ σ H Q, t σ H Q → u σ H Q) : PMk X e t := fun pins s σ H Q I q => h pins s σ H Q I (i _ _ _ q)
def dRaise (t : DTM) : DTS := fun W _ σ G => t W σ G fun x G1 => W x σ G1
theorem ds_raise {t : DTM} (hc : X.calm = true) (tk : Takes X Γ.W) (h : DMk X Γ e t) : DS X Γ (.Raise (some e) none pos) (dRaise t) := ps_of (ps_raise hc tk h) fun D σ H ⟨σd, G, F, Wd, Dd, w, hp, cv, ht, k⟩ =>
  ⟨σd, G, F, Wd, _, w, hp, cv, ht, fun x G' F' cls d H' e1 g1 r1 q1 => cv x σd G' F' cls d σ H' e1 (w.ext e1 g1) r1 q1⟩
abbrev veMro : List Value := [.type "ValueError", .type "Exception", .type "BaseException", .type "object"]
/-- a plain error class of the text -/
structure PlainX (K : PySem.W.Frag) (mg : Str → Option Value) (x : Str) (C : Addr) : Prop where
  g : mg x = some (.ref C)
  x : PySem.W.excIn K C veMro "ValueError.__new__" = true
  k : PySem.W.keepIn K (.ref C) = true
  b : PySem.W.subIn K (.ref C) (.type "BaseException") = some true
  t : PySem.W.typeIn K (.ref C) = some (.type "type")
def dMk0 (C : Addr) : DTM := fun _ _ G Q => Q ⟨C, []⟩ G
theorem dmk_own {C : Addr} {m : Str} {j : Nat} {p2 : Pos} (T : PlainX X.K X.mg x C) (hg : Gl X x) (hdb : (x == ("__debug__" : Str)) = false := by decide) : DMk X Γ (.Call (.Name x p) [.Constant (.str m) j p2] [] pos) (dMk0 C) :=
  pmk_of (pmk_own PySem.F.excBase_ValueError T.x T.g T.k (raises_own T.b T.t) hg hdb) fun σ H Q ⟨σd, G, F, Wd, Qd, w, hp, cv, ht, k⟩ => k ⟨C, []⟩ G F (.ref C) none H Ext.refl w.gr ⟨rfl, rfl⟩ ht
/-- __init__(self, v): self.f = v -/
def spIni (C : Addr) (f : Str) : Sp := fun vs H Q _ => ∃ a y, vs = [.ref a, y] ∧ H a = some (exo a C none) ∧ ∀ dx, H dx = none → dx ≠ a → Q .non (upd (upd H dx (exd dx [(f, y)])) a (exo a C (some dx)))
/-- an error class with a field of its own -/
structure FieldX (P : Program) (w : World) (K : PySem.W.Frag) (mg : Str → Option Value) (base : Heap) (x : Str) (C : Addr) (f : Str) : Prop where
  g : mg x = some (.ref C)
  o : OexC K C
  i : ∃ (fI : Addr) (fd : FuncData) (ps : List Str), PySem.W.findIn K (.ref C) "__init__" = some (some (.ref fI)) ∧ PySem.W.typeIn K (.ref fI) = some (.type "function") ∧ Binds K fd ps [] ∧ FnOk P w K mg base CX0 1 fI fd ps (spIni C f)
  n : PySem.W.findIn K (.ref C) f = some none
  xf : XfC K C
def dMk1 (C : Addr) (f : Str) (ta : DTA) : DTM := fun W σ G Q => ta W σ G fun xs G1 => match xs with
  | [y] => Q ⟨C, [(f, y)]⟩ G1
  | _ => False
theorem upd_del_eq {H1 : Hp} {a dx : Addr} {o1 o2 o3 o4 : HO} (ha : H1 a = none) (hd : dx ≠ a) : upd (L2.del (upd (upd (upd H1 a o1) dx o2) a o3) a) dx o4 = upd H1 dx o4 := by
  funext b
  unfold upd L2.del
  by_cases h1 : b = dx
  · simp [h1]
  · simp only [h1, if_false]
    by_cases h2 : b = a
    · simp [h2, ha]
    · simp [h2]
theorem dmk_fld {C : Addr} {f : Str} {ta : DTA} (T : FieldX X.prog X.w X.K X.mg X.base x C f) (hr : Room 2 X.A) (hg : Gl X x) (ha : DA X Γ (e :: es) ta)
    (hdb : (x == ("__debug__" : Str)) = false := by decide) (he : starEach (e :: es) X.env = (false, eval e X.env) :: starEach es X.env := by rfl) (hpl : (backTo pos (starEach es X.env)).any (·.1) = false := by rfl) :
    DMk X Γ (.Call (.Name x p) (e :: es) [] pos) (dMk1 C f ta) := by
  obtain ⟨fI, fd, ps, h1, h2, hb, F1⟩ := T.i
  refine pmk_of (pmk_oex T.o h1 h2 F1 hr hb .nil (fun _ _ _ _ _ _ _ z => z.elim) hg T.g ha hdb he hpl) fun σ H Q ⟨σd, G, F, Wd, Qd, w, hp, cv, ht, k⟩ => ?_
  refine ⟨σd, G, F, Wd, _, w, hp, cv, ht, fun xs G1 F1 vs H1 e1 g1 r1 q1 => ?_⟩
  match xs, r1, q1 with
  | [y], r1, q1 =>
    obtain ⟨v, rfl, rv⟩ := r1.of1
    refine ⟨(by show 1 ≤ 1000; omega), fun a ha => ⟨a, v, rfl, upd_same, fun dx hdx hne => ⟨rfl, dx, [(f, v)], upd_same, by rw [upd_ne hne]; exact upd_same, by rw [upd_ne hne] at hdx; exact hdx, ?_⟩⟩⟩
    have hdx' : H1 dx = none := by rw [upd_ne hne] at hdx; exact hdx
    rw [upd_del_eq ha hne]
    have x1 : Ext F1 H1 F1 (upd H1 dx (.xd [(f, v)])) := Ext.new hdx'
    exact k ⟨C, [(f, y)]⟩ G1 F1 (.ref C) (some dx) _ (e1.trans x1) (g1.old hdx') ⟨rfl, dx, [(f, v)], rfl, upd_same, .cons ⟨rfl, x1.rep _ _ rv⟩ .nil⟩ q1
  | [], _, q1 => exact q1.elim
  | _ :: _ :: _, _, q1 => exact q1.elim
end

/-! ### try: several clauses, with or without a name -/
abbrev SuiteT := Addr → Value → Option Addr → TS
/-- a clause's suite, entered: the name's slot bears the error, and is empty behind it -/
def atSuite (nm : Option Nat) (a : Addr) (t : TS) : TS := fun D σ H => match nm with
  | none => t D σ H
  | some i => t { nx := fun σ' H' => D.nx (σ'.set i none) H', rt := D.rt, bk := fun σ' H' => D.bk (σ'.set i none) H', ct := fun σ' H' => D.ct (σ'.set i none) H' } (σ.set i (some (.ref a))) H
def wAll (K : PySem.W.Frag) (Wo : WX) (D : Ends) : List (Value × Option Nat × SuiteT) → WX
  | [] => Wo
  | (c, nm, ts) :: r => fun cls d σ H => ∃ b, PySem.W.exmOne K cls c = some b ∧ (b = true → ∀ a, H a = none → atSuite nm a (ts a cls d) D σ H) ∧ (b = false → wAll K Wo D r cls d σ H)
inductive Clauses (X : Cx) : List ExceptHandler → List (Value × Option Nat × SuiteT) → Prop
  | nil : Clauses X [] []
  | bare {x : Str} {c : Value} {ts : SuiteT} {s0 : Stmt} {ss : List Stmt} {np hpos : Pos} {hs : List ExceptHandler} {l : List (Value × Option Nat × SuiteT)} (hc : Names X x c)
      (su : ∀ (a : Addr) (oe : Obj) (cls : Value) (d : Option Addr) (pn : List (Addr × Obj)), Zc cls d oe → (∃ vs, oe.data = .fields vs) → PSs (X.suite a ((a, oe) :: pn)) (s0 :: ss) (ts a cls d)) (r : Clauses X hs l) :
      Clauses X (.ExceptHandler (some (.Name x np)) none (s0 :: ss) hpos :: hs) ((c, none, ts) :: l)
  | named {x n : Str} {c : Value} {i : Nat} {ts : SuiteT} {s0 : Stmt} {ss : List Stmt} {np hpos : Pos} {hs : List ExceptHandler} {l : List (Value × Option Nat × SuiteT)} (hc : Names X x c) (hN : X.N.Nodup) (hi : X.N[i]? = some n) (hl : X.env.kindOf n = some .local)
      (su : ∀ (a : Addr) (oe : Obj) (cls : Value) (d : Option Addr) (pn : List (Addr × Obj)), Zc cls d oe → (∃ vs, oe.data = .fields vs) → PSs (X.suite a ((a, oe) :: pn)) (s0 :: ss) (ts a cls d)) (r : Clauses X hs l) :
      Clauses X (.ExceptHandler (some (.Name x np)) (some n) (s0 :: ss) hpos :: hs) ((c, some i, ts) :: l)
theorem ps_tries {X : Cx} {body : List Stmt} {c0 : ExceptHandler} {hs : List ExceptHandler} {l : List (Value × Option Nat × SuiteT)} {pos : Pos} {tb : WX → TS} {Wo : WX} (hst : X.stack = X.env :: X.outer) (hfm : X.env.frame = some X.env.locals) (tk : Takes X Wo)
    (hb : ∀ (W : WX) (pn : List (Addr × Obj)) (xe : Value → Shared → Prop), Takes (X.tr pn xe) W → PassesOwn (model X.prog X.w) X.A X.env xe → PSs (X.tr pn xe) body (tb W)) (hh : Clauses X (c0 :: hs) l) :
    PS X (.Try body (c0 :: hs) [] [] pos) (fun D σ H => tb (wAll X.K Wo D l) D σ H) := by
  constructor
  intro pins s σ H D I h
  have ok := I.ok
  have fr0 : X.A.frames = some (X.env :: X.outer) := by rw [ok.frames, hst]
  apply wpAny_Try_except
  have body_run := (hb (wAll X.K Wo D l) (X.pn ++ pins) (fun e s₁ => wpAny (model X.prog X.w) X.A (noteFrame e X.env) (fun _ s₂ => wpAny (model X.prog X.w) X.A (setFlight e none) (fun _ s₃ =>
    wpAny (model X.prog X.w) X.A (handleBy e X.env (c0 :: hs)) (SP X pins D) X.xe s₃) X.xe s₂) X.xe s₁) (by
      intro u s' air
      obtain ⟨a, B, sI, pins', σ', H', cls, d, rfl, J', nb, up, sky, na, hos, hag, w⟩ := air
      have J : Inv X pins σ' H' sI := J'.ofTry ok
      have sky2 : Sky B (X.env :: X.outer) a (Zc cls d) X.env.locals s'.heap := by rw [← hst]; exact sky
      show wpAny (model X.prog X.w) X.A (noteFrame (.ref a) X.env) _ _ _
      apply Sky.land Zc.steady fr0 hfm sky2
      intro k3 fl up3
      have J3 : Inv X pins σ' H' { s' with heap := k3 } := J.landed nb fl.1 (up.trans up3) hos hag
      obtain ⟨ob, vs3, he3, hz3, hd3⟩ := fl.there
      have out : a ∉ frs (X.env :: X.outer) := fun hm => by
        obtain ⟨_, o', e', hnf⟩ := fl.2.2.1.mem hm
        rw [he3] at e'; cases e'
        exact hnf _ hd3
      have aL : a ≠ X.env.locals := fun z => out (List.mem_filterMap.mpr ⟨X.env, List.mem_cons_self, by rw [hfm, z]⟩)
      have aF : a ∉ X.fs := fun hm => by
        obtain ⟨v, hv, q⟩ := List.mem_filterMap.mp hm
        exact out (List.mem_filterMap.mpr ⟨v, List.mem_cons_of_mem _ hv, q⟩)
      have S3 := J3.suite he3 hd3 na aL aF
      have go : ∀ {hds : List ExceptHandler} {l' : List (Value × Option Nat × SuiteT)}, Clauses X hds l' → wAll X.K Wo D l' cls d σ' H' →
          wpAny (model X.prog X.w) X.A (handleBy (.ref a) X.env hds) (SP X pins D) X.xe { s' with heap := k3 } := by
        intro hds l' hk
        have tellsT : PySem.W.Looks (model X.prog X.w) k3 (typeOf (.ref a)) cls := fun A Q E s k q => wpAny_typeOf_ref (k _ _ he3) (by rw [hz3.1]; exact q)
        have naming : ∀ {x : Str} {c : Value} {np : Pos} {Q : Value → Shared → Prop} {E : Value → Shared → Prop}, Names X x c → Q c { s' with heap := k3 } → wpAny (model X.prog X.w) (X.A.mark (some (.ref a))) (eval (.Name x np) X.env) Q E { s' with heap := k3 } := by
          intro x c np Q E hc q
          obtain ⟨hg, hdbg, hm | ⟨hm, hv, hnn⟩⟩ := hc
          · exact ld_glob (X := X.suite a ((a, ob) :: (X.pn ++ pins))) S3 hg hm q hdbg
          · exact ld_blt (X := X.suite a ((a, ob) :: (X.pn ++ pins))) S3 hg hm hv q hnn hdbg
        induction hk with
        | nil =>
          intro w
          apply wpAny_handleBy_nil
          obtain ⟨k1, k2, k3', oe, vs, T, oT, ts', he, hz, hd, h1, hr⟩ := id fl
          unfold PySem.passOn
          apply wpAny_bind
          apply wpAny_field he hd h1
          rw [if_neg (show ¬ ((Value.ref T == Value.none) = true) from by simp)]
          have fin : wpAny (model X.prog X.w) X.A (setFlight (.ref a) X.env.frame) (fun _ s4 => wpAny (model X.prog X.w) X.A (throw (.ref a) : Sem Flow) (SP X pins D) X.xe s4) X.xe { s' with heap := k3 } := by
            rw [hfm]
            refine HandSPX.setFlight_upZ fl fun h4 hh4 up4 => wpAny_throw (tk _ _ ?_)
            exact ⟨a, B, sI, pins, σ', H', cls, d, rfl, J, nb, (up.trans up3).trans up4, .inr (.inr (by rw [hst]; exact hh4)), na, hos, hag, w⟩
          first
            | exact wpAny_bind (wpAny_pure (wpAny_bind fin))
            | exact wpAny_bind fin
        | @bare x c ts s0 ss np hpos hs2 l2 hc su r ih =>
          intro w
          obtain ⟨b, hb1, hyes, hno⟩ := w
          refine wpAny_handleBy_cons (codeAny_handlers_test ?_) (by intro q; cases q)
          refine naming hc ((PySem.W.exm_one (M := model X.prog X.w) J3.kIn tellsT hb1).here ?_)
          cases b with
          | false =>
            show wpAny _ X.A (handleBy (.ref a) X.env hs2) _ _ _
            exact ih (hno rfl)
          | true =>
            refine codeAny_handlers_suite (HandSPX.lands_againZ fl fun h4 fl4 up4 => ?_)
            have J4 : Inv X pins σ' H' { s' with heap := h4 } := J.landed nb fl4.1 ((up.trans up3).trans up4) hos hag
            obtain ⟨oe4, vs4, he4, hz4, hd4⟩ := fl4.there
            have S4 := J4.suite he4 hd4 na aL aF
            refine wpAny_mono ((su a oe4 cls d (X.pn ++ pins) hz4 ⟨_, hd4⟩).run [] _ _ H' _ S4 (hyes rfl a na)) (fun f s6 hsp => ?_) (fun _ _ z => False.elim z)
            cases f with
            | ret u => obtain ⟨v6, σ6, H6, S6, r6, q6⟩ := hsp; exact ⟨_, _, _, S6.unsuite ok, r6, q6⟩
            | _ => obtain ⟨σ6, H6, S6, q6⟩ := hsp; exact ⟨_, _, S6.unsuite ok, q6⟩
        | @named x n c i ts s0 ss np hpos hs2 l2 hc hN hi hl su r ih =>
          intro w
          obtain ⟨b, hb1, hyes, hno⟩ := w
          refine wpAny_handleBy_cons (codeAny_handlers_test ?_) (by intro q; cases q)
          refine naming hc ((PySem.W.exm_one (M := model X.prog X.w) J3.kIn tellsT hb1).here ?_)
          cases b with
          | false =>
            show wpAny _ X.A (handleBy (.ref a) X.env hs2) _ _ _
            exact ih (hno rfl)
          | true =>
            refine codeAny_handlers_suite_as (HandSPX.lands_againZ fl fun h4 fl4 up4 => ?_)
            have J4 : Inv X pins σ' H' { s' with heap := h4 } := J.landed nb fl4.1 ((up.trans up3).trans up4) hos hag
            obtain ⟨oe4, vs4, he4, hz4, hd4⟩ := fl4.there
            have S4 := J4.suite he4 hd4 na aL aF
            refine store_ok (X := X.suite a ((a, oe4) :: (X.pn ++ pins))) (v := .ref a) S4 hN hi (.inl hl) rfl (fun s5 S5 => ?_) (.inr hl)
            refine wpAny_mono ((su a oe4 cls d (X.pn ++ pins) hz4 ⟨_, hd4⟩).run [] s5 _ H' _ S5 (hyes rfl a na)) (fun f s6 hsp => ?_) (fun _ _ z => False.elim z)
            have leave : ∀ {σ6 : L2.St} {H6 : Hp} {Q : Shared → Prop}, Inv (X.suite a ((a, oe4) :: (X.pn ++ pins))) [] σ6 H6 s6 → (∀ s7, Inv X pins (σ6.set i none) H6 s7 → Q s7) →
                wpAny (model X.prog X.w) X.A (do bindName X.env n .none; unbindBehindTheSuite X.env n hpos) (fun _ s7 => Q s7) X.xe s6 := fun S6 hq => gone_ok (S6.unsuite ok) hN hi hl hq
            cases f with
            | ret u => obtain ⟨v6, σ6, H6, S6, r6, q6⟩ := hsp; exact leave S6 fun s7 J7 => ⟨_, _, _, J7, r6, q6⟩
            | _ => obtain ⟨σ6, H6, S6, q6⟩ := hsp; exact leave S6 fun s7 J7 => ⟨_, _, J7, q6⟩
      exact go hh w) PassesOwn.looking).run [] s σ H D (I.toTry _) h
  refine wpAny_mono body_run (fun f s1 hsp => ?_) (fun e s1 he => he)
  cases f with
  | next => obtain ⟨σ', H', J', q⟩ := hsp; exact wpAny_execs_nil ⟨σ', H', J'.ofTry ok, q⟩
  | ret u => obtain ⟨v, σ', H', J', r, q⟩ := hsp; exact ⟨v, σ', H', J'.ofTry ok, r, q⟩
  | _ => obtain ⟨σ', H', J', q⟩ := hsp; exact ⟨σ', H', J'.ofTry ok, q⟩
/-! ### .. over trees -/
abbrev DSuite := Exc → Addr → DTS
def dAtS (nm : Option Nat) (a : Addr) (t : DTS) : DEnds → DSt → DH → Prop := fun D σ G => match nm with
  | none => t (fun _ _ _ => False) D σ G
  | some i => t (fun _ _ _ => False) { nx := fun σ' G' => D.nx (σ'.set i none) G', rt := D.rt, bk := fun σ' G' => D.bk (σ'.set i none) G', ct := fun σ' G' => D.ct (σ'.set i none) G' } (σ.set i (some (.ref a))) G
def dHandle (K : PySem.W.Frag) : List (Addr × Option Nat × DSuite) → Exc → DX → DEnds → DSt → DH → Prop
  | [], x, W, _, σ, G => W x σ G
  | (C, nm, ts) :: r, x, W, D, σ, G => ∃ b, PySem.W.exmOne K (.ref x.cls) (.ref C) = some b ∧ (b = true → ∀ a, G a = none → dAtS nm a (ts x a) D σ G) ∧ (b = false → dHandle K r x W D σ G)
def dTry (K : PySem.W.Frag) (tb : DTS) (hs : List (Addr × Option Nat × DSuite)) : DTS := fun W D σ G => tb (fun x σ' G' => dHandle K hs x W D σ' G') D σ G
/-- a suite's ambience: the error is known -/
def Amb.exc (Γ : Amb) (K : PySem.W.Frag) (x : Exc) (cls : Value) (d : Option Addr) : Amb := ⟨fun _ _ _ _ => False, fun H F => Γ.P H F ∧ RepX K H F x cls d, fun F H F' H' e h => ⟨Γ.mono F H F' H' e h.1, h.2.ext e⟩⟩
def Amb.with (Γ : Amb) (W : WX) : Amb := ⟨W, Γ.P, Γ.mono⟩
def sLift (K : PySem.W.Frag) (Γ : Amb) (ts : DSuite) : SuiteT := fun a cls d D σ H => ∃ x, LS K (Γ.exc K x cls d) (ts x a) D σ H
def hsOf (K : PySem.W.Frag) (Γ : Amb) (hs : List (Addr × Option Nat × DSuite)) : List (Value × Option Nat × SuiteT) := hs.map fun h => (.ref h.1, h.2.1, sLift K Γ h.2.2)
theorem wAll_of {K : PySem.W.Frag} {Γ : Amb} {Wd : DX} {Dd : DEnds} {D : Ends} {x : Exc} {cls : Value} {d : Option Addr} {σd : DSt} {G : DH} {F : Fz} {σ : L2.St} {H : Hp} (cv : Cov K Γ.W Wd H F) (hp : Γ.P H F) (k : EndsOk K H F Dd D) (w : WR K H F σd G σ) (r : RepX K H F x cls d) :
    ∀ hs : List (Addr × Option Nat × DSuite), dHandle K hs x Wd Dd σd G → wAll K Γ.W D (hsOf K Γ hs) cls d σ H
  | [], h => cv x σd G F cls d σ H Ext.refl w r h
  | (C, nm, ts) :: rest, h => by
    obtain ⟨b, h1, h2, h3⟩ := h
    refine ⟨b, by rw [r.1]; exact h1, fun hb a na => ?_, fun hb => wAll_of cv hp k w r rest (h3 hb)⟩
    have q := h2 hb a (w.gr.free na)
    cases nm with
    | none => exact ⟨x, σd, G, F, fun _ _ _ => False, Dd, w, ⟨hp, r⟩, fun _ _ _ _ _ _ _ _ _ _ _ z => z.elim, q, k⟩
    | some i =>
      refine ⟨x, σd.set i (some (.ref a)), G, F, fun _ _ _ => False, _, w.set rep_ref, ⟨hp, r⟩, fun _ _ _ _ _ _ _ _ _ _ _ z => z.elim, q, ?_⟩
      exact ⟨fun a b c d f e w q => k.nx _ b c _ f e ⟨w.sl.clear, w.gr⟩ q, k.rt, fun a b c d f e w q => k.bk _ b c _ f e ⟨w.sl.clear, w.gr⟩ q, fun a b c d f e w q => k.ct _ b c _ f e ⟨w.sl.clear, w.gr⟩ q⟩
theorem ds_try {X : Cx} {Γ : Amb} {body : List Stmt} {c0 : ExceptHandler} {hs : List ExceptHandler} {l : List (Addr × Option Nat × DSuite)} {pos : Pos} {tb : DTS} (hst : X.stack = X.env :: X.outer) (hfm : X.env.frame = some X.env.locals) (tk : Takes X Γ.W)
    (hb : ∀ (W : WX) (pn : List (Addr × Obj)) (xe : Value → Shared → Prop), Takes (X.tr pn xe) W → PassesOwn (model X.prog X.w) X.A X.env xe → DSs (X.tr pn xe) (Γ.with W) body tb) (hh : Clauses X (c0 :: hs) (hsOf X.K Γ l)) :
    DS X Γ (.Try body (c0 :: hs) [] [] pos) (dTry X.K tb l) :=
  ps_of (ps_tries (tb := fun W => LS X.K (Γ.with W) tb) hst hfm tk hb hh) fun D σ H ⟨σd, G, F, Wd, Dd, w, hp, cv, ht, k⟩ =>
    ⟨σd, G, F, _, Dd, w, hp, fun x σd' G' F' cls d σ' H' e w' r q => wAll_of (cv.ext e) (Γ.mono _ _ _ _ e.toExt0 hp) (k.ext e) w' r l q, ht, k⟩
theorem su_of {X : Cx} {Γ : Amb} {K : PySem.W.Frag} {ss : List Stmt} {ts : DSuite} {a : Addr} {oe : Obj} {cls : Value} {d : Option Addr} {pn : List (Addr × Obj)} (h : ∀ x, DSs (X.suite a ((a, oe) :: pn)) (Γ.exc X.K x cls d) ss (ts x a)) : PSs (X.suite a ((a, oe) :: pn)) ss (sLift X.K Γ ts a cls d) :=
  ⟨fun pins s σ H D I ⟨x, q⟩ => (h x).run pins s σ H D I q⟩
/-- error.f in a suite -/
def dXf (C a : Addr) (x : Exc) (f : Str) (te : DTE) : DTE := fun W σ G Q => te W σ G fun y G1 => match y with
  | .ref b => b = a ∧ x.cls = C ∧ (match x.flds with | [(g, v)] => g = f ∧ Q v G1 | _ => False)
  | _ => False
theorem de_xf {X : Cx} {Γ : Amb} {a C : Addr} {oe : Obj} {x : Exc} {cls : Value} {d : Option Addr} {pn : List (Addr × Obj)} {e : Expr} {te : DTE} {pos : Pos} {n : Str} (T : XfC X.K C) (hno : PySem.W.findIn X.K (.ref C) n = some none) (hz : Zc cls d oe) (hf : ∃ vs, oe.data = .fields vs)
    (he : DE (X.suite a ((a, oe) :: pn)) (Γ.exc X.K x cls d) e te) (hb : attributeBase e n X.env (eval e X.env) = eval e X.env := by rfl) : DE (X.suite a ((a, oe) :: pn)) (Γ.exc X.K x cls d) (.Attribute e n pos) (dXf C a x n te) :=
  pe_of (pe_xf T hno hz hf he hb) fun σ H Q ⟨σd, G, F, Wd, Qd, w, hp, cv, ht, k⟩ => ⟨σd, G, F, Wd, _, w, hp, cv, ht, fun y G1 F1 v H1 e1 g1 r1 q1 => by
    cases y with
    | ref b =>
      obtain ⟨rfl, hc, q⟩ := q1
      obtain ⟨cl, fl⟩ := x
      obtain ⟨r0, r2⟩ := hp.2.ext e1.toExt0
      match fl, r2, q with
      | [(g, dv)], r2, q =>
        obtain ⟨dd, vs, ed, eh, pr⟩ := r2
        cases pr with
        | cons h1 h2 =>
          cases h2
          rename_i qv
          obtain ⟨g2, vv⟩ := qv
          obtain ⟨h3, h4⟩ := h1
          simp only at h3 h4
          refine ⟨ref_rep r1, by rw [r0]; exact congrArg _ hc, dd, [(g2, vv)], vv, ed, eh, by rw [← h3, q.1]; simp [List.lookup], k dv G1 F1 vv H1 e1 g1 h4 q.2⟩
      | [], _, q => exact q.elim
      | _ :: _ :: _, _, q => exact q.elim
    | _ => exact q1.elim⟩
/-- isinstance(error, T) in a suite, the error a plain one -/
def qIsE (K : PySem.W.Frag) (C a : Addr) (x : Exc) : QN := fun ds G Q => match ds with
  | [.ref b, .ref T] => b = a ∧ x = ⟨C, []⟩ ∧ ∃ r, PySem.W.kitOne K (.ref C) (.ref T) = some r ∧ Q (.bl r) G
  | _ => False

/-! ### a def's body -/
/-- what is handed back: the ledger may be made smaller, a list handed back may be frozen -/
def RetW (Q : DK) : DK := fun d G => ∃ G', Sub G' G ∧ (Q d G' ∨ ∃ p ds, d = .ref p ∧ G p = some (.lst ds) ∧ G' p = none ∧ Q (.lst ds) G')
theorem RetW.same {Q : DK} {d : D} {G : DH} (h : Q d G) : RetW Q d G := ⟨G, Sub.refl, .inl h⟩
theorem RetW.sub {Q : DK} {d : D} {G G' : DH} (s : Sub G' G) (h : Q d G') : RetW Q d G := ⟨G', s, .inl h⟩
theorem RetW.frz {Q : DK} {p : Addr} {ds : List D} {G : DH} (np : G p = none) (h : Q (.lst ds) G) : RetW Q (.ref p) (dupd G p (.lst ds)) := ⟨G, Sub.upd np, .inr ⟨p, ds, rfl, dupd_same, np, h⟩⟩
def dstart (N : List Str) (ds : List D) : DSt := ds.map some ++ List.replicate (N.length - ds.length) none
theorem start_slots {K : PySem.W.Frag} {H : Hp} {F : Fz} {N : List Str} {ds : List D} {vs : List V} (r : Reps K H F ds vs) : Slots K H F (dstart N ds) (start N vs) := by
  have hl := r.length
  refine ⟨by simp [dstart, L2.start, hl], fun i d e => ?_⟩
  unfold dstart at e
  unfold L2.start
  by_cases hi : i < ds.length
  · rw [List.getElem?_append_left (by simpa using hi), List.getElem?_map] at e
    rw [List.getElem?_append_left (by simpa [← hl] using hi), List.getElem?_map]
    cases q : ds[i]? with
    | none => rw [q] at e; simp at e
    | some d' =>
      rw [q] at e
      simp at e
      subst e
      obtain ⟨v, q2, rv⟩ := r.get q
      exact ⟨v, by rw [q2]; rfl, rv⟩
  · rw [List.getElem?_append_right (by simpa using hi), List.getElem?_replicate] at e
    split at e <;> simp at e
def ambF (E : XK) : Amb := ⟨fun cls d _ H => E cls d H, fun _ _ => True, fun _ _ _ _ _ _ => trivial⟩
theorem has_mk {P : Program} {w : World} {K : PySem.W.Frag} {mg : Str → Option Value} {base : Heap} {x : Str} {st : Stmt} {N ps : List Str} {k : Nat} {sp : DSp} (h0 : ∃ f fd, mg x = some (.ref f) ∧ Fun K x x st f fd ∧ Binds K fd ps []) (S : FnScope N ps (defScope st))
    (len : ∀ ds G Q E, sp ds G Q E → ds.length = ps.length) (t : DTS)
    (hbody : ∀ (f : Addr) (cdv : Value) (A : Around) (outer : List Env) (s : Shared) (H : Hp) (E : XK), Room k (A.deeper (PyProof.Rows.envOfC x (defScope st) s.heap.objs.size f cdv)) → Takes (cxOf (L2.CX P w) P w K mg base N x (defScope st) f cdv A outer s H E) (ambF E).W →
      DSs (cxOf (L2.CX P w) P w K mg base N x (defScope st) f cdv A outer s H E) (ambF E) (defBody st) t)
    (hread : ∀ ds G Q E, sp ds G Q E → t (fun x _ G' => ∃ G2, Sub G2 G' ∧ E x G2) { nx := fun _ G' => RetW Q .non G', rt := RetW Q } (dstart N ds) G) :
    Has P w K mg base (k + 1) x st ps sp := by
  obtain ⟨f, fd, hm, hF, hb⟩ := h0
  refine ⟨f, fd, hm, hF, hb, hF.okX S (fun vs H Q E ⟨ds, G, F, Qd, Ed, g, r, hs, _⟩ => by rw [← r.length]; exact len _ _ _ _ hs) fun cdv A outer s H vs Q E hr ⟨ds, G, F, Qd, Ed, g, r, hs, kq, ke⟩ => ?_⟩
  have tk : Takes (cxOf (L2.CX P w) P w K mg base N x (defScope st) f cdv A outer s H E) (ambF E).W := takes_of rfl rfl rfl rfl
  refine ⟨_, hbody f cdv A outer s H E hr tk, dstart N ds, G, F, _, _, ⟨start_slots r, g⟩, trivial, ?_, hread ds G Qd Ed hs, ?_⟩
  · intro x σd G' F' cls d σ H' e w rx ⟨G2, s2, q⟩
    exact ke x G2 F' cls d H' e (w.gr.sub s2) rx q
  · have fin : ∀ d G' F' v H', Ext F H F' H' → GRel K H' F' G' → Rep K H' F' d v → RetW Qd d G' → Q v H' := by
      intro d G' F' v H' e gr rv ⟨G2, s2, q⟩
      rcases q with q | ⟨p, es, rfl, e2, np, q⟩
      · exact kq d G2 F' v H' e (gr.sub s2) rv q
      · obtain ⟨x, g3, r3⟩ := gr.freeze e2
        rw [ref_rep rv]
        refine kq (.lst es) G2 _ _ H' (e.trans x) (g3.sub fun a o q2 => ?_) r3 q
        unfold ddel
        by_cases ha : a = p
        · rw [ha, np] at q2; cases q2
        · rw [if_neg ha]; exact s2 a o q2
    exact ⟨fun _ G' F' _ H' e w q => fin .non G' F' .non H' e w.gr rep_non q, fin, fun _ _ _ _ _ _ _ z => z.elim, fun _ _ _ _ _ _ _ z => z.elim⟩
end DL

/-! D5: loops and comprehensions over trees. -/
namespace DL
open PySem PySem.Spec L2

/-! ### what is walked -/
abbrev DTI := DT (List D)
def Yields (K : PySem.W.Frag) (J : It) (F : Fz) (H : Hp) (xs : List D) : Prop := ∀ F2 H2, Ext0 F H F2 H2 → (∀ (i : Nat) (d : D), xs[i]? = some d → J.go i H2 ∧ ∀ v H3, J.yld i H2 v H3 → Ext F2 H2 F2 H3 ∧ (∀ G, GRel K H2 F2 G → GRel K H3 F2 G) ∧ Rep K H3 F2 d v) ∧ J.stop xs.length H2
def LI (K : PySem.W.Frag) (Γ : Amb) (t : DTI) : TI := fun σ H R => ∃ σd G F Wd Qd, WR K H F σd G σ ∧ Γ.P H F ∧ Cov K Γ.W Wd H F ∧ t Wd σd G Qd ∧ ∀ xs G' F' J H', Ext F H F' H' → GRel K H' F' G' → Yields K J F' H' xs → Qd xs G' → R J H'
def DI (X : Cx) (Γ : Amb) (tg iter : Expr) (t : DTI) : Prop := PI X tg iter (LI X.K Γ t)
theorem pi_of {X : Cx} {tg iter : Expr} {t u : TI} (h : PI X tg iter u) (i : ∀ σ H R, t σ H R → u σ H R) : PI X tg iter t := ⟨fun pins s σ H R I q => h.run pins s σ H R I (i _ _ _ q)⟩
section
variable {K : PySem.W.Frag} {F : Fz} {H : Hp}
theorem yields_list {a : Addr} {vs : List V} {ds : List D} (h : ScrL K H F a vs) (r : Reps K H F ds vs) : Yields K (Itl K a) F H ds := fun F2 H2 e => by
  have h2 : SqL K H2 a vs := by
    rcases e.scrl h with q | ⟨o, q⟩ | q
    · exact SqL.of q.2
    · exact .inl (.inr ⟨o, q⟩)
    · exact .inr q
  have r2 := e.reps _ _ r
  refine ⟨fun i d hd => ?_, ⟨vs, h2, by rw [r.length]; exact Nat.le_refl _⟩⟩
  obtain ⟨v, hv, rv⟩ := r2.get hd
  refine ⟨⟨vs, v, h2, hv⟩, fun v' H3 y => ?_⟩
  obtain ⟨rfl, y⟩ := y
  have e2 : v = v' := Option.some.inj (hv.symm.trans (y vs h2))
  subst e2
  exact ⟨Ext.refl, fun _ g => g, rv⟩
theorem yields_tup {a : Addr} {vs : List V} {ds : List D} (h : SqT K H a vs) (r : Reps K H F ds vs) : Yields K (Itt K a) F H ds := fun F2 H2 e => by
  have h2 : SqT K H2 a vs := e.sqt h
  have r2 := e.reps _ _ r
  refine ⟨fun i d hd => ?_, ⟨vs, h2, by rw [r.length]; exact Nat.le_refl _⟩⟩
  obtain ⟨v, hv, rv⟩ := r2.get hd
  refine ⟨⟨vs, v, h2, hv⟩, fun v' H3 y => ?_⟩
  obtain ⟨rfl, y⟩ := y
  have e2 : v = v' := Option.some.inj (hv.symm.trans (y vs h2))
  subst e2
  exact ⟨Ext.refl, fun _ g => g, rv⟩
/-- the signs of a text, as texts -/
def signs (z : Str) : List D := z.cps.toList.map fun c => D.str ⟨#[c]⟩
theorem yields_str {z : Str} : Yields K (Its z) F H (signs z) := fun F2 H2 e => by
  refine ⟨fun i d hd => ?_, by show z.cps.size ≤ _; simp [signs]⟩
  unfold signs at hd
  rw [List.getElem?_map] at hd
  cases q : z.cps.toList[i]? with
  | none => rw [q] at hd; cases hd
  | some c =>
    rw [q] at hd
    cases hd
    have q2 : z.cps[i]? = some c := by rw [← Array.getElem?_toList]; exact q
    refine ⟨(Array.getElem?_eq_some_iff.mp q2).1, fun v H3 y => ?_⟩
    obtain ⟨rfl, c', hc, rfl⟩ := y
    rw [q2] at hc; cases hc
    exact ⟨Ext.refl, fun _ g => g, rep_str⟩
def rngD (lo : Int) (c : Int) (n : Nat) : List D := (List.range n).map fun i : Nat => D.int (lo + i * c)
theorem yields_rng {lo : Int} {n : Nat} : Yields K (Itr lo n) F H (rngD lo 1 n) := fun F2 H2 e => by
  refine ⟨fun i d hd => ?_, by show n ≤ _; simp [rngD]⟩
  unfold rngD at hd
  rw [List.getElem?_map] at hd
  by_cases hi : i < n
  · rw [List.getElem?_range hi] at hd
    cases hd
    refine ⟨hi, fun v H3 y => ?_⟩
    obtain ⟨rfl, rfl⟩ := y
    exact ⟨Ext.refl, fun _ g => g, by show Rep K H3 F2 (.int (lo + (i : Int) * 1)) _; rw [Int.mul_one]; exact rep_int⟩
  · rw [List.getElem?_eq_none (by simpa using hi)] at hd
    cases hd
theorem yields_rngC {lo c : Int} {n : Nat} : Yields K (Itc lo c n) F H (rngD lo c n) := fun F2 H2 e => by
  refine ⟨fun i d hd => ?_, by show n ≤ _; simp [rngD]⟩
  unfold rngD at hd
  rw [List.getElem?_map] at hd
  by_cases hi : i < n
  · rw [List.getElem?_range hi] at hd
    cases hd
    refine ⟨hi, fun v H3 y => ?_⟩
    obtain ⟨rfl, rfl⟩ := y
    exact ⟨Ext.refl, fun _ g => g, rep_int⟩
  · rw [List.getElem?_eq_none (by simpa using hi)] at hd
    cases hd
end
section
variable {X : Cx} {Γ : Amb} {tg e a b c : Expr} {te : DTE} {t : DTA} {p pos : Pos}
/-- a list, a tuple or a text that stands still -/
def itD : D → Option (List D)
  | .tup xs => some xs
  | .lst xs => some xs
  | .scr ns => some (ns.map D.int)
  | .str z => some (signs z)
  | _ => none
def dIt (te : DTE) : DTI := fun W σ G Q => te W σ G fun x G1 => match itD x with
  | some xs => Q xs G1
  | none => False
def iAny (K : PySem.W.Frag) (tl : TE) : TI := fun σ H R => tl σ H fun x H1 => (∃ a, x = .ref a ∧ (∃ xs, SqL K H1 a xs) ∧ R (Itl K a) H1) ∨ (∃ a, x = .ref a ∧ (∃ xs, SqT K H1 a xs) ∧ R (Itt K a) H1) ∨ ∃ z, x = .str z ∧ R (Its z) H1
theorem pi_any {l : Expr} {tl : TE} (hl : PE X l tl) : PI X tg l (iAny X.K tl) := by
  constructor
  intro pins s σ H R I h
  refine thn (hl.run pins s σ H _ I h) fun v s1 ⟨x, H1, I1, r1, q1⟩ => ?_
  rcases q1 with q1 | q1 | q1
  · obtain ⟨a, ex, ⟨xs, hq⟩, q⟩ := q1
    subst ex
    cases r1
    obtain ⟨its, rv, pl, hz⟩ := I1.list hq
    refine wpAny_pyIter_list pl.isList ?_
    refine ⟨s1.heap.objs.size, [s1.heap.objs.size], _, _, H1, rfl, I1.kept (t' := s1.toks) fun b o e => Heap.get?_push_of_some _ e, turn_list a _, ⟨_, Heap.get?_push_size _ rfl, rfl, rfl⟩, fun b hb => ?_, q⟩
    obtain rfl : b = s1.heap.objs.size := by simpa using hb
    exact I1.fpOk (Nat.le_refl _) (I1.hok.fresh (Nat.le_refl _))
  · obtain ⟨a, ex, ⟨xs, hq⟩, q⟩ := q1
    subst ex
    cases r1
    obtain ⟨its, rv, pl, hz⟩ := I1.tuple hq
    refine wpAny_pyIter_tuple (show s1.heap.IsTuple a its.toArray from pl) ?_
    refine ⟨s1.heap.objs.size, [s1.heap.objs.size], _, _, H1, rfl, I1.kept (t' := s1.toks) fun b o e => Heap.get?_push_of_some _ e, turn_tuple a _, ⟨_, Heap.get?_push_size _ rfl, rfl, rfl⟩, fun b hb => ?_, q⟩
    obtain rfl : b = s1.heap.objs.size := by simpa using hb
    exact I1.fpOk (Nat.le_refl _) (I1.hok.fresh (Nat.le_refl _))
  · obtain ⟨z, ex, q⟩ := q1
    subst ex
    obtain ⟨tk, rfl⟩ := r1
    cases ha : z.cps.all (· < 128)
    · exact wpAny_pyIter_wide ha (pi_one (tk := s1.toks) I1 _ (turn_str _ z tk "str_iterator" (.inr rfl)) ⟨_, Heap.get?_push_size _ rfl, rfl, rfl⟩ q)
    · exact wpAny_pyIter_ascii ha (pi_one (tk := s1.toks) I1 _ (turn_str _ z tk "str_ascii_iterator" (.inl rfl)) ⟨_, Heap.get?_push_size _ rfl, rfl, rfl⟩ q)
theorem scr_sql {K : PySem.W.Frag} {H : Hp} {F : Fz} {a : Addr} {vs : List V} (h : ScrL K H F a vs) : SqL K H a vs := by
  rcases h with q | ⟨o, q⟩ | q
  · exact SqL.of q.2
  · exact .inl (.inr ⟨o, q⟩)
  · exact .inr q
theorem di_any (h : DE X Γ e te) : DI X Γ tg e (dIt te) := pi_of (pi_any h) fun σ H R ⟨σd, G, F, Wd, Qd, w, hp, cv, ht, k⟩ => ⟨σd, G, F, Wd, _, w, hp, cv, ht, fun x G1 F1 v H1 e1 g1 r1 q1 => by
  cases x with
  | tup xs =>
    obtain ⟨a, vs, rfl, h1, r⟩ := tup_rep r1
    exact .inr (.inl ⟨a, rfl, ⟨vs, h1⟩, k xs G1 F1 _ H1 e1 g1 (yields_tup h1 r) q1⟩)
  | lst xs =>
    unfold Rep at r1
    obtain ⟨a, vs, rfl, h1, r⟩ := r1
    exact .inl ⟨a, rfl, ⟨vs, SqL.of h1.2⟩, k xs G1 F1 _ H1 e1 g1 (yields_list (.inl h1) r) q1⟩
  | scr ns =>
    unfold Rep at r1
    obtain ⟨a, rfl, h1⟩ := r1
    exact .inl ⟨a, rfl, ⟨_, scr_sql h1⟩, k _ G1 F1 _ H1 e1 g1 (yields_list h1 Reps.ofInts) q1⟩
  | str z => rw [str_rep r1]; exact .inr (.inr ⟨z, rfl, k (signs z) G1 F1 _ H1 e1 g1 yields_str q1⟩)
  | _ => exact q1.elim⟩
def smallI (j : Int) : Prop := -(2 ^ 62) ≤ j ∧ j < 2 ^ 62
def dRng1 (t : DTA) : DTI := fun W σ G Q => t W σ G fun xs G1 => match xs with
  | [.int j] => smallI j ∧ Q (rngD 0 1 j.toNat) G1
  | _ => False
def dRng2 (t : DTA) : DTI := fun W σ G Q => t W σ G fun xs G1 => match xs with
  | [.int i, .int j] => (smallI i ∧ smallI j) ∧ Q (rngD i 1 (j - i).toNat) G1
  | _ => False
def dRng3 (t : DTA) : DTI := fun W σ G Q => t W σ G fun xs G1 => match xs with
  | [.int i, .int j, .int c] => ∃ n, RgC i j c n ∧ Q (rngD i c n) G1
  | _ => False
theorem di_range1 (hg : Gl X "range") (hm : X.mg "range" = none) (ha : DA X Γ [a] t) (hs : starEach [a] X.env = [(false, eval a X.env)] := by rfl) : DI X Γ tg (.Call (.Name "range" p) [a] [] pos) (dRng1 t) :=
  pi_of (pi_range1 hg hm ha hs) fun σ H R ⟨σd, G, F, Wd, Qd, w, hp, cv, ht, k⟩ => ⟨σd, G, F, Wd, _, w, hp, cv, ht, fun xs G1 F1 vs H1 e1 g1 r1 q1 => by
    split at q1
    · rename_i j
      obtain ⟨v, rfl, rv⟩ := r1.of1
      rw [int_rep rv]
      exact ⟨j, rfl, q1.1.1, q1.1.2, k _ G1 F1 _ H1 e1 g1 yields_rng q1.2⟩
    · exact q1.elim⟩
theorem di_range2 (hg : Gl X "range") (hm : X.mg "range" = none) (ha : DA X Γ [a, b] t) (hs : starEach [a, b] X.env = [(false, eval a X.env), (false, eval b X.env)] := by rfl) (hs2 : starEach [b] X.env = [(false, eval b X.env)] := by rfl) : DI X Γ tg (.Call (.Name "range" p) [a, b] [] pos) (dRng2 t) :=
  pi_of (pi_range2 hg hm ha hs hs2) fun σ H R ⟨σd, G, F, Wd, Qd, w, hp, cv, ht, k⟩ => ⟨σd, G, F, Wd, _, w, hp, cv, ht, fun xs G1 F1 vs H1 e1 g1 r1 q1 => by
    split at q1
    · rename_i i j
      obtain ⟨v, w', rfl, rv, rw'⟩ := r1.of2
      rw [int_rep rv, int_rep rw']
      exact ⟨i, j, rfl, ⟨q1.1.1.1, q1.1.1.2, q1.1.2.1, q1.1.2.2⟩, k _ G1 F1 _ H1 e1 g1 yields_rng q1.2⟩
    · exact q1.elim⟩
theorem di_range3 (hg : Gl X "range") (hm : X.mg "range" = none) (ha : DA X Γ [a, b, c] t) (hs : starEach [a, b, c] X.env = (false, eval a X.env) :: starEach [b, c] X.env := by rfl) (hpl : (backTo pos (starEach [b, c] X.env)).any (·.1) = false := by rfl) : DI X Γ tg (.Call (.Name "range" p) [a, b, c] [] pos) (dRng3 t) :=
  pi_of (pi_range3 hg hm ha hs hpl) fun σ H R ⟨σd, G, F, Wd, Qd, w, hp, cv, ht, k⟩ => ⟨σd, G, F, Wd, _, w, hp, cv, ht, fun xs G1 F1 vs H1 e1 g1 r1 q1 => by
    split at q1
    · rename_i i j c
      obtain ⟨v, w', x', rfl, rv, rw', rx'⟩ := r1.of3
      rw [int_rep rv, int_rep rw', int_rep rx']
      obtain ⟨n, h1, h2⟩ := q1
      exact ⟨i, j, c, n, rfl, h1, k _ G1 F1 _ H1 e1 g1 yields_rngC h2⟩
    · exact q1.elim⟩
end

/-! ### for -/
/-- the turns, one by one -/
def dRun (g : DTG) (tb : DTS) : List D → DX → DEnds → DSt → DH → Prop
  | [], _, D, σ, G => D.nx σ G
  | d :: r, W, D, σ, G => g W d σ G fun σ2 G2 => tb W { nx := dRun g tb r W D, rt := D.rt, bk := D.nx, ct := dRun g tb r W D } σ2 G2
def dFor (t : DTI) (g : DTG) (tb : DTS) : DTS := fun W D σ G => t W σ G fun xs G1 => dRun g tb xs W D σ G1
theorem ds_for {X : Cx} {Γ : Amb} {tg iter : Expr} {body : List Stmt} {t : DTI} {g : DTG} {tb : DTS} {pos : Pos} (hp : PassesOwn (model X.prog X.w) X.A X.env X.xe) (hc : X.calm = true) (hi : DI X Γ tg iter t) (hg : DG X Γ tg g) (hb : DSs X Γ body tb)
    (hs : ∀ x, foldedSetIterable iter X.env x = pure x := by intro _; rfl) : DS X Γ (.For tg iter body [] pos) (dFor t g tb) :=
  ps_of (ps_for hp hc hi hg hb hs) fun D σ H ⟨σd, G, F, Wd, Dd, w, hP, cv, ht, k⟩ => ⟨σd, G, F, Wd, _, w, hP, cv, ht, fun xs G1 F1 J H1 e1 g1 y1 q1 => by
    refine ⟨fun i m σ' H' => m = xs.length - i ∧ i ≤ xs.length ∧ ∃ σd' G' F', Ext F1 H1 F' H' ∧ WR X.K H' F' σd' G' σ' ∧ dRun g tb (xs.drop i) Wd Dd σd' G', ⟨xs.length, by simp, Nat.zero_le _, σd, G1, F1, Ext.refl, w.ext e1 g1, by simpa using q1⟩, ?_⟩
    rintro i m σ' H' ⟨rfl, hi, σd', G', F', e2, w2, q2⟩
    obtain ⟨yi, ys⟩ := y1 F' H' e2.toExt0
    by_cases hlt : i < xs.length
    · obtain ⟨go, yy⟩ := yi i xs[i] (List.getElem?_eq_getElem hlt)
      refine .inr ⟨go, fun σ3 H3 => ∃ σd3 G3 F3, Ext F1 H1 F3 H3 ∧ WR X.K H3 F3 σd3 G3 σ3 ∧ dRun g tb (xs.drop (i + 1)) Wd Dd σd3 G3, fun σ3 H3 ⟨σd3, G3, F3, e3, w3, q3⟩ => ⟨xs.length - (i + 1), by omega, rfl, hlt, σd3, G3, F3, e3, w3, q3⟩, fun v H3 hy => ?_⟩
      obtain ⟨e3, gk, rv⟩ := yy v H3 hy
      rw [List.drop_eq_getElem_cons hlt] at q2
      have e13 := (e1.trans e2).trans e3
      refine ⟨xs[i], σd', G', F', Wd, _, w2.ext e3 (gk _ w2.gr), Γ.mono _ _ _ _ e13.toExt0 hP, cv.ext e13, rv, q2, fun σd4 G4 F4 σ4 H4 e4 w4 q4 => ?_⟩
      have e14 := e13.trans e4
      have eJ := (e2.trans e3).trans e4
      exact ⟨σd4, G4, F4, Wd, _, w4, Γ.mono _ _ _ _ e14.toExt0 hP, cv.ext e14, q4, ⟨fun a b c d f e5 w5 q5 => ⟨a, b, c, eJ.trans e5, w5, q5⟩, fun a b c d f e5 g5 r5 q5 => k.rt a b c d f (e14.trans e5) g5 r5 q5,
        fun a b c d f e5 w5 q5 => k.nx a b c d f (e14.trans e5) w5 q5, fun a b c d f e5 w5 q5 => ⟨a, b, c, eJ.trans e5, w5, q5⟩⟩⟩
    · have ei : i = xs.length := by omega
      subst ei
      refine .inl ⟨ys, ?_⟩
      rw [List.drop_length] at q2
      exact k.nx σd' G' F' σ' H' (e1.trans e2) w2 q2⟩

/-! ### while -/
def dWhile (c : DTT) (tb : DTS) : DTS := fun W D σ G => ∃ I : Nat → DSt → DH → Prop, (∃ m, I m σ G) ∧ ∀ m σ G, I m σ G → c W σ G fun b G1 => if b = true then tb W { nx := fun σ' G' => ∃ m', m' < m ∧ I m' σ' G', rt := D.rt, bk := D.nx, ct := fun σ' G' => ∃ m', m' < m ∧ I m' σ' G' } σ G1 else D.nx σ G1
theorem ds_while {X : Cx} {Γ : Amb} {c : Expr} {body : List Stmt} {tc : DTT} {tb : DTS} {pos : Pos} (hp : PassesOwn (model X.prog X.w) X.A X.env X.xe) (hc : DTs X Γ c tc) (hb : DSs X Γ body tb) : DS X Γ (.While c body [] pos) (dWhile tc tb) :=
  ps_of (ps_while hp hc hb) fun D σ H ⟨σd, G, F, Wd, Dd, w, hP, cv, ⟨I, ⟨m0, h0⟩, step⟩, k⟩ => by
    refine ⟨fun m σ' H' => ∃ σd' G' F', Ext F H F' H' ∧ WR X.K H' F' σd' G' σ' ∧ I m σd' G', ⟨m0, σd, G, F, Ext.refl, w, h0⟩, ?_⟩
    rintro m σ' H' ⟨σd', G', F', e1, w1, h1⟩
    refine ⟨σd', G', F', Wd, _, w1, Γ.mono _ _ _ _ e1.toExt0 hP, cv.ext e1, step m σd' G' h1, fun b G2 F2 b' H2 e2 g2 r2 q2 => ?_⟩
    subst r2
    have e12 := e1.trans e2
    cases b with
    | false => exact iteF (k.nx σd' G2 F2 σ' H2 e12 (w1.ext e2 g2) q2)
    | true =>
      refine iteT ⟨fun σ3 H3 => ∃ m', m' < m ∧ ∃ σd3 G3 F3, Ext F H F3 H3 ∧ WR X.K H3 F3 σd3 G3 σ3 ∧ I m' σd3 G3, fun _ _ h => h, ?_⟩
      exact ⟨σd', G2, F2, Wd, _, w1.ext e2 g2, Γ.mono _ _ _ _ e12.toExt0 hP, cv.ext e12, q2, ⟨fun a b c d f e5 w5 ⟨m', hm, q5⟩ => ⟨m', hm, a, b, c, e12.trans e5, w5, q5⟩, fun a b c d f e5 g5 r5 q5 => k.rt a b c d f (e12.trans e5) g5 r5 q5,
        fun a b c d f e5 w5 q5 => k.nx a b c d f (e12.trans e5) w5 q5, fun a b c d f e5 w5 ⟨m', hm, q5⟩ => ⟨m', hm, a, b, c, e12.trans e5, w5, q5⟩⟩⟩
/-! ### comprehensions -/
def dwipe (σ : DSt) : List Nat → DSt
  | [] => σ
  | v :: vs => (dwipe σ vs).set v none
theorem slots_wipe {K : PySem.W.Frag} {H : Hp} {F : Fz} {σd : DSt} {σ : L2.St} (s : Slots K H F σd σ) : ∀ vs : List Nat, Slots K H F (dwipe σd vs) (wipe σ vs)
  | [] => s
  | _ :: vs => (slots_wipe s vs).clear
theorem wipe_set {σ : L2.St} {i : Nat} {x : Option V} : ∀ {vs : List Nat}, i ∈ vs → wipe (σ.set i x) vs = wipe σ vs
  | [], h => by simp at h
  | v :: vs, h => by
    unfold wipe
    by_cases hi : i ∈ vs
    · rw [wipe_set hi]
    · have e : i = v := by
        rcases List.mem_cons.mp h with h | h
        · exact h
        · exact absurd h hi
      subst e
      have go : ∀ ws : List Nat, i ∉ ws → wipe (σ.set i x) ws = (wipe σ ws).set i x := by
        intro ws
        induction ws with
        | nil => intro _; rfl
        | cons w ws ih =>
          intro hw
          unfold wipe
          rw [ih (fun z => hw (List.mem_cons_of_mem _ z)), List.set_comm]
          intro z
          exact hw (by rw [z]; exact List.mem_cons_self)
      rw [go vs hi, List.set_set]
/-- a target that stores within vs alone -/
def LGw (K : PySem.W.Frag) (Γ : Amb) (vs : List Nat) (t : DTG) : TG := fun v σ H Q => ∃ d σd G F Wd Qd, WR K H F σd G σ ∧ Γ.P H F ∧ Cov K Γ.W Wd H F ∧ Rep K H F d v ∧ t Wd d σd G Qd ∧ ∀ σd' G' F' σ' H', wipe σ' vs = wipe σ vs → Ext F H F' H' → WR K H' F' σd' G' σ' → Qd σd' G' → Q σ' H'
def LGsw (K : PySem.W.Frag) (Γ : Amb) (vs : List Nat) (t : DTGs) : TGs := fun us σ H Q => ∃ ds σd G F Wd Qd, WR K H F σd G σ ∧ Γ.P H F ∧ Cov K Γ.W Wd H F ∧ Reps K H F ds us ∧ t Wd ds σd G Qd ∧ ∀ σd' G' F' σ' H', wipe σ' vs = wipe σ vs → Ext F H F' H' → WR K H' F' σd' G' σ' → Qd σd' G' → Q σ' H'
def CG (X : Cx) (Γ : Amb) (vs : List Nat) (e : Expr) (t : DTG) : Prop := PG X e (LGw X.K Γ vs t)
def CGs (X : Cx) (Γ : Amb) (vs : List Nat) (es : List Expr) (t : DTGs) : Prop := PGs X es (LGsw X.K Γ vs t)
section
variable {X : Cx} {Γ : Amb} {vs : List Nat} {e : Expr} {es : List Expr} {pos : Pos}
theorem cg_name {i : Nat} {x : Str} (hN : X.N.Nodup) (hi : X.N[i]? = some x) (hx : Loc X.env.scope x) (hv : i ∈ vs) (hf : X.fn x = true ∨ X.env.scope.names.lookup x = some .local := by first | exact .inl rfl | exact .inr rfl | assumption) : CG X Γ vs (.Name x pos) (gSet i) :=
  pg_of (pg_name hN hi hx hf) fun v σ H Q ⟨d, σd, G, F, Wd, Qd, w, hp, cv, r, ht, k⟩ => k _ G F _ H (wipe_set hv) Ext.refl (w.set r) ht
theorem cgs_nil : CGs X Γ vs [] gsNil := pgs_of pgs_nil fun v σ H Q ⟨ds, σd, G, F, Wd, Qd, w, hp, cv, r, ⟨e, ht⟩, k⟩ => by
  subst e
  exact ⟨r.inv0, k _ G F _ H rfl Ext.refl w ht⟩
theorem cgs_cons {t : DTG} {u : DTGs} (h1 : CG X Γ vs e t) (h2 : CGs X Γ vs es u) (hs : (assignEach (e :: es) X.env).map (·.2) = assign e X.env :: (assignEach es X.env).map (·.2) := by rfl) : CGs X Γ vs (e :: es) (gsCons t u) :=
  pgs_of (pgs_cons h1 h2 hs) fun v σ H Q ⟨ds, σd, G, F, Wd, Qd, w, hp, cv, r, ht, k⟩ => by
    cases ds with
    | nil => exact ht.elim
    | cons d r' =>
      obtain ⟨v1, ws, rfl, r1, r2⟩ := r.inv
      exact ⟨v1, ws, rfl, d, σd, G, F, Wd, _, w, hp, cv, r1, ht, fun σd' G' F' σ' H' z1 e1 w1 q1 => ⟨r', σd', G', F', Wd, Qd, w1, Γ.mono _ _ _ _ e1.toExt0 hp, cv.ext e1, e1.reps _ _ r2, q1, fun a b c d f z2 e2 w2 q2 => k a b c d f (z2.trans z1) (e1.trans e2) w2 q2⟩⟩
theorem cg_tup {k : Nat} {t : DTGs} {n : Nat} (hc : X.calm = true) (h : CGs X Γ vs es t) (hn : (assignEach es X.env).length = n := by rfl) (hst : (assignEach es X.env).findIdx? (·.1) = none := by rfl) : CG X Γ vs (.Tuple es k pos) (gTupD n t) :=
  pg_of (pg_tup hc h hn hst) fun v σ H Q ⟨d, σd, G, F, Wd, Qd, w, hp, cv, r, ht, k⟩ => by
    cases d with
    | tup xs =>
      obtain ⟨a, us, rfl, hs, rs⟩ := tup_rep r
      exact ⟨a, us, rfl, hs, by rw [← rs.length]; exact ht.1, xs, σd, G, F, Wd, Qd, w, hp, cv, rs, ht.2, k⟩
    | _ => exact ht.elim
end
def DTts (X : Cx) (Γ : Amb) (es : List Expr) (t : DTT) : Prop := PTs X es (LT X.K Γ t)
def dYes : DTT := fun _ _ G Q => Q true G
theorem pts_of {X : Cx} {es : List Expr} {t u : TT} (h : PTs X es u) (i : ∀ σ H Q, t σ H Q → u σ H Q) : PTs X es t := ⟨fun pins s σ H Q I q => h.run pins s σ H Q I (i _ _ _ q)⟩
theorem dts_nil {X : Cx} {Γ : Amb} : DTts X Γ [] dYes := pts_of pts_nil fun σ H Q ⟨σd, G, F, Wd, Qd, w, hp, cv, q, k⟩ => k true G F true H Ext.refl w.gr rfl q
theorem dts_one {X : Cx} {Γ : Amb} {c : Expr} {t : DTT} (h : DTs X Γ c t) : DTts X Γ [c] t := pts_one h
def W0 : DX := fun _ _ _ => False
def Amb.blk (Γ : Amb) : Amb := ⟨fun _ _ _ _ => False, Γ.P, Γ.mono⟩
theorem cov0 {K : PySem.W.Frag} {W : WX} {H : Hp} {F : Fz} : Cov K W W0 H F := fun _ _ _ _ _ _ _ _ _ _ _ z => z.elim
/-- one turn's end: kept or left out -/
def dCompK (b : Bool) (te : DTE) (next : DH → (List D → DH → Prop) → Prop) (σ : DSt) (G : DH) (Q : List D → DH → Prop) : Prop := if b = true then te W0 σ G fun y G2 => next G2 fun ys G3 => Q (y :: ys) G3 else next G Q
/-- the turns of a comprehension, σ the slots of the def with the block's own names wiped -/
def dComp (g : DTG) (tt : DTT) (te : DTE) : List D → DSt → DH → (List D → DH → Prop) → Prop
  | [], _, G, Q => Q [] G
  | d :: r, σ, G, Q => g W0 d σ G fun σ2 G2 => tt W0 σ2 G2 fun b G3 => dCompK b te (fun G4 Q4 => dComp g tt te r σ G4 Q4) σ2 G3 Q
def dLc (m : Bool) (vs : List Nat) (t : DTI) (g : DTG) (tt : DTT) (te : DTE) : DTE := fun W σ G Q => t W σ G fun xs G1 => xs.length ≤ sizeLine ∧ dComp g tt te xs (dwipe σ vs) G1 fun ys G2 => mkL m ys G2 Q
theorem Ext.fresh {F F' : Fz} {H H' : Hp} {a : Addr} {o : HO} (e : Ext F H F' H') (h : H a = none) : Ext F H F' (upd H' a o) := by
  have ne : ∀ {b : Addr} {u : HO}, H b = some u → b ≠ a := fun q => ne_of_none q h
  exact ⟨⟨fun b xs q => by rw [upd_ne (ne q)]; exact e.tup b xs q, fun b u v q => by rw [upd_ne (ne q)]; exact e.frz b u v q, fun b fs q => by rw [upd_ne (ne q)]; exact e.xd b fs q, e.old, fun b vs f q => by rw [upd_ne (ne q)]; exact e.keep b vs f q⟩, e.bl, fun b u f q => by rw [upd_ne (ne q)]; exact e.kb b u f q⟩
/-- the growing list: put by the block's own hand -/
theorem GRel.bput {K : PySem.W.Frag} {F : Fz} {H : Hp} {G : DH} (g : GRel K H F G) {a : Addr} {vs ws : List V} (hb : F.bl a) (h : H a = some (.lst vs)) : Ext0 F H F (upd H a (.lst ws)) ∧ GRel K (upd H a (.lst ws)) F G := by
  have nf := (g.bl a hb).1
  have x : Ext0 F H F (upd H a (.lst ws)) := Ext0.put h nf (by intro _ z; cases z) (by intro _ _ z; cases z) (by intro _ z; cases z)
  refine ⟨x, fun b u eb => ?_, fun b f => ?_, fun b f => ?_⟩
  · obtain ⟨⟨n1, n2⟩, ho, q, r⟩ := g.at_ b u eb
    have : b ≠ a := by rintro rfl; exact n2 hb
    exact ⟨⟨n1, n2⟩, ho, by rw [upd_ne this]; exact q, x.repo r⟩
  · obtain ⟨us, q⟩ := g.fz b f
    exact ⟨us, x.keep b us f q⟩
  · obtain ⟨n, u, q⟩ := g.bl b f
    by_cases hba : b = a
    · subst hba; exact ⟨n, _, upd_same⟩
    · exact ⟨n, u, by rw [upd_ne hba]; exact q⟩
theorem GRel.bnew {K : PySem.W.Frag} {F : Fz} {H : Hp} {G : DH} (g : GRel K H F G) {a : Addr} {vs : List V} (h : H a = none) : Ext F H (badd F a) (upd H a (.lst vs)) ∧ GRel K (upd H a (.lst vs)) (badd F a) G := by
  have y : Ext F H F (upd H a (.lst vs)) := Ext.new h
  have x : Ext F H (badd F a) (upd H a (.lst vs)) := ⟨⟨y.tup, y.frz, y.xd, fun b f => f, y.keep⟩, fun _ f => .inl f, y.kb⟩
  refine ⟨x, fun b u eb => ?_, fun b f => ?_, fun b f => ?_⟩
  · obtain ⟨nf', h2, q2, r2⟩ := g.at_ b u eb
    refine ⟨⟨nf'.1, fun z => ?_⟩, h2, by rw [upd_ne (ne_of_none q2 h)]; exact q2, x.repo r2⟩
    rcases z with z | z
    · exact nf'.2 z
    · exact ne_of_none q2 h z
  · obtain ⟨ws, q⟩ := g.fz b f
    exact ⟨ws, y.keep b ws f q⟩
  · rcases f with f | f
    · obtain ⟨n, u, q⟩ := g.bl b f
      exact ⟨n, u, y.kb b u f q⟩
    · subst f
      exact ⟨g.nofz h, _, upd_same⟩
/-- the list is done: frozen, or ours -/
theorem GRel.bend {K : PySem.W.Frag} {F F2 : Fz} {H H2 : Hp} {G G2 : DH} (g : GRel K H F G) (e : Ext F H F2 H2) (g2 : GRel K H2 F2 G2) {a : Addr} {vs : List V} (h : H a = none) (hb : F2.bl a) (h2 : H2 a = some (.lst vs)) {ds : List D} (r : Reps K H2 F2 ds vs) {m : Bool} {Qd : DK} {Q : VK} (k : Kont K H F Qd Q) (q : mkL m ds G2 Qd) : Q (.ref a) H2 := by
  have nf := (g2.bl a hb).1
  have nb : ¬ F.bl a := g.nobl h
  have nG : G2 a = none := by
    cases z : G2 a with
    | none => rfl
    | some o => exact absurd hb (g2.at_ a o z).1.2
  cases m with
  | false =>
    have x2 : Ext0 F2 H2 ⟨fun b => F2.fz b ∨ b = a, F.bl⟩ H2 := ⟨fun _ _ z => z, fun _ _ _ z => z, fun _ _ z => z, fun _ f => .inl f, fun _ _ _ z => z⟩
    have x : Ext F H ⟨fun b => F2.fz b ∨ b = a, F.bl⟩ H2 := ⟨e.toExt0.trans x2, fun _ f => f, e.kb⟩
    refine k (.lst ds) G2 _ _ H2 x ⟨fun b u eb => ?_, fun b f => ?_, fun b f => ?_⟩ ?_ q
    · obtain ⟨⟨n1, n2⟩, ho, q1, ro⟩ := g2.at_ b u eb
      exact ⟨⟨fun z => z.elim n1 fun z => by subst z; exact n2 hb, fun z => n2 (e.bl b z)⟩, ho, q1, x2.repo ro⟩
    · rcases f with f | f
      · exact g2.fz b f
      · subst f; exact ⟨vs, h2⟩
    · obtain ⟨n, u, q1⟩ := g2.bl b (e.bl b f)
      exact ⟨fun z => z.elim n fun z => by subst z; exact nb f, u, q1⟩
    · unfold Rep
      exact ⟨a, vs, rfl, ⟨.inr rfl, h2⟩, x2.reps _ _ r⟩
  | true =>
    have x2 : Ext0 F2 H2 ⟨F2.fz, F.bl⟩ H2 := ⟨fun _ _ z => z, fun _ _ _ z => z, fun _ _ z => z, fun _ f => f, fun _ _ _ z => z⟩
    have x : Ext F H ⟨F2.fz, F.bl⟩ H2 := ⟨e.toExt0.trans x2, fun _ f => f, e.kb⟩
    refine k (.ref a) _ _ _ H2 x ⟨fun b u eb => ?_, g2.fz, fun b f => g2.bl b (e.bl b f)⟩ rep_ref (q a nG)
    by_cases hba : b = a
    · subst hba
      rw [dupd_same] at eb; cases eb
      exact ⟨⟨nf, nb⟩, _, h2, vs, rfl, x2.reps _ _ r⟩
    · rw [dupd_ne hba] at eb
      obtain ⟨⟨n1, n2⟩, ho, q1, ro⟩ := g2.at_ b u eb
      exact ⟨⟨n1, fun z => n2 (e.bl b z)⟩, ho, q1, x2.repo ro⟩
theorem lift_lc {K : PySem.W.Frag} {Γ : Amb} {m : Bool} {vs : List Nat} {t : DTI} {g : DTG} {tt : DTT} {te : DTE} {σ : L2.St} {H : Hp} {Q : VK} (h : LE K Γ (dLc m vs t g tt te) σ H Q) :
    tLc (LI K Γ t) (LGw K Γ.blk vs g) (LT K Γ.blk tt) (LE K Γ.blk te) vs σ H Q := by
  obtain ⟨σd, G, F, Wd, Qd, w, hP, cv, ht, k⟩ := h
  refine ⟨σd, G, F, Wd, _, w, hP, cv, ht, fun xs G1 F1 J H1 e1 g1 y1 ⟨hz, q1⟩ => fun A hA => ?_⟩
  have P1 := Γ.mono _ _ _ _ e1.toExt0 hP
  obtain ⟨e0, g0⟩ := g1.bnew (vs := []) hA
  refine ⟨fun i n H' => n = xs.length - i ∧ i ≤ xs.length ∧ ∃ G' F' acc av, Ext F1 H1 F' H' ∧ F'.bl A ∧ H' A = some (.lst av) ∧ Reps K H' F' acc av ∧ acc.length ≤ i ∧ GRel K H' F' G' ∧ dComp g tt te (xs.drop i) (dwipe σd vs) G' (fun ys G2 => mkL m (acc ++ ys) G2 Qd),
    ⟨xs.length, by simp, Nat.zero_le _, G1, badd F1 A, [], [], e0, .inr rfl, upd_same, .nil, Nat.zero_le _, g0, by simpa using q1⟩, ?_⟩
  rintro i n H' ⟨rfl, hi, G', F', acc, av, e2, hb, hA2, ra, la, g2, q2⟩
  obtain ⟨yi, ys⟩ := y1 F' H' e2.toExt0
  by_cases hlt : i < xs.length
  · obtain ⟨go, yy⟩ := yi i xs[i] (List.getElem?_eq_getElem hlt)
    refine .inr ⟨go, fun H3 => ∃ G3 F3 acc av, Ext F1 H1 F3 H3 ∧ F3.bl A ∧ H3 A = some (.lst av) ∧ Reps K H3 F3 acc av ∧ acc.length ≤ i + 1 ∧ GRel K H3 F3 G3 ∧ dComp g tt te (xs.drop (i + 1)) (dwipe σd vs) G3 (fun ys G2 => mkL m (acc ++ ys) G2 Qd),
      fun H3 ⟨G3, F3, acc3, av3, a1, a2, a3, a4, a5, a6, a7⟩ => ⟨xs.length - (i + 1), by omega, rfl, hlt, G3, F3, acc3, av3, a1, a2, a3, a4, a5, a6, a7⟩, fun v H3 hy => ?_⟩
    obtain ⟨e3, gk, rv⟩ := yy v H3 hy
    rw [List.drop_eq_getElem_cons hlt] at q2
    have e13 := e2.trans e3
    have w3 : WR K H3 F' (dwipe σd vs) G' (wipe σ vs) := ⟨slots_wipe (w.sl.ext (e1.trans e13).toExt0) vs, gk _ g2⟩
    refine ⟨xs[i], dwipe σd vs, G', F', W0, _, w3, Γ.mono _ _ _ _ e13.toExt0 P1, cov0, rv, q2, fun σd4 G4 F4 σ4 H4 hw e4 w4 q4 => ⟨?_, ?_⟩⟩
    · rw [hw]
      have ww : ∀ us : List Nat, (∀ u ∈ us, u ∈ vs) → wipe (wipe σ us) vs = wipe σ vs := by
        intro us
        induction us with
        | nil => intro _; rfl
        | cons u us ih =>
          intro hu
          show wipe ((wipe σ us).set u none) vs = _
          rw [wipe_set (hu u List.mem_cons_self), ih fun z hz => hu z (List.mem_cons_of_mem _ hz)]
      exact ww vs fun _ z => z
    · have e14 := e13.trans e4
      refine ⟨σd4, G4, F4, W0, _, w4, Γ.mono _ _ _ _ e14.toExt0 P1, cov0, q4, fun b G5 F5 b' H5 e5 g5 r5 q5 => ?_⟩
      subst r5
      have eA := (e3.trans e4).trans e5
      have e15 := e14.trans e5
      have bA : F5.bl A := eA.bl A hb
      have hA5 : H5 A = some (.lst av) := eA.kb A _ hb hA2
      have ra5 := eA.reps _ _ ra
      cases b with
      | false => exact iteF ⟨G5, F5, acc, av, e15, bA, hA5, ra5, by omega, g5, q5⟩
      | true =>
        refine iteT ⟨σd4, G5, F5, W0, _, w4.ext e5 g5, Γ.mono _ _ _ _ e15.toExt0 P1, cov0, q5, fun y G6 F6 yv H6 e6 g6 r6 q6 => ?_⟩
        have bA6 : F6.bl A := e6.bl A bA
        have hA6 : H6 A = some (.lst av) := e6.kb A _ bA hA5
        have ra6 := e6.reps _ _ ra5
        obtain ⟨x7, g7⟩ := g6.bput (ws := av ++ [yv]) bA6 hA6
        refine ⟨av, hA6, by rw [← ra.length]; omega, G6, F6, acc ++ [y], av ++ [yv], (e15.trans e6).fresh hA, bA6, upd_same, x7.reps _ _ (ra6.append (.cons r6 .nil)), by simp; omega, g7, ?_⟩
        simpa using q6
  · have ei : i = xs.length := by omega
    subst ei
    refine .inl ⟨ys, ?_⟩
    rw [List.drop_length] at q2
    have q3 : mkL m acc G' Qd := by simpa [dComp] using q2
    exact g1.bend e2 g2 hA hb hA2 ra (fun d G' F' v' H' e3 g3 r3 q3 => k d G' F' v' H' (e1.trans e3) g3 r3 q3) q3
section
variable {X : Cx} {Γ : Amb} {m : Bool} {elt tg iter : Expr} {ifs : List Expr} {scope : Scope} {own : List (Str × Nat)} {pos : Pos} {t : DTI} {g : DTG} {tt : DTT} {te : DTE}
theorem de_lc (hc : X.calm = true) (hN : X.N.Nodup) (hi : DI X Γ tg iter t) (ok : BlkOk X.N X.env.scope scope own)
    (hg : ∀ (s : Shared) (H : Hp) (C : Addr) (cl : List (Str × Addr)) (fp : List Addr), CG (X.blk s H scope (PySem.compEnvC scope cl C X.env) fp) Γ.blk (own.map (·.2)) tg g) (ht : ∀ (s : Shared) (H : Hp) (C : Addr) (cl : List (Str × Addr)) (fp : List Addr), DTts (X.blk s H scope (PySem.compEnvC scope cl C X.env) fp) Γ.blk ifs tt)
    (he : ∀ (s : Shared) (H : Hp) (C : Addr) (cl : List (Str × Addr)) (fp : List Addr), DE (X.blk s H scope (PySem.compEnvC scope cl C X.env) fp) Γ.blk elt te) (hs : ∀ x, foldedSetIterable iter X.env x = pure x := by intro _; rfl) :
    DE X Γ (.ListComp elt [⟨tg, iter, ifs, 0⟩] scope pos) (dLc m (own.map (·.2)) t g tt te) := pe_of (pe_lc (wi := LI X.K Γ t) (g := LGw X.K Γ.blk (own.map fun (x : Str × Nat) => x.2) g) (tt := LT X.K Γ.blk tt) (te := LE X.K Γ.blk te) hc hN hi ok hg ht he hs) fun _ _ _ h => lift_lc h
theorem ds_lc {i : Nat} {y : Str} {py spos : Pos} (hc : X.calm = true) (hN : X.N.Nodup) (hy : X.N[i]? = some y) (hyl : X.env.scope.names.lookup y = some .local)
    (hsw : swapsWith (.ListComp elt [⟨tg, iter, ifs, 0⟩] scope pos) (some (.Name y py)) spos.line X.env = pure true) (hi : DI X Γ tg iter t) (ok : BlkOk X.N X.env.scope scope own)
    (hg : ∀ (s : Shared) (H : Hp) (C : Addr) (cl : List (Str × Addr)) (fp : List Addr), CG (X.blk s H scope (PySem.compEnvC scope cl C X.env) fp) Γ.blk (own.map (·.2)) tg g) (ht : ∀ (s : Shared) (H : Hp) (C : Addr) (cl : List (Str × Addr)) (fp : List Addr), DTts (X.blk s H scope (PySem.compEnvC scope cl C X.env) fp) Γ.blk ifs tt)
    (he : ∀ (s : Shared) (H : Hp) (C : Addr) (cl : List (Str × Addr)) (fp : List Addr), DE (X.blk s H scope (PySem.compEnvC scope cl C X.env) fp) Γ.blk elt te) (hs : ∀ x, foldedSetIterable iter X.env x = pure x := by intro _; rfl) :
    DS X Γ (.Assign [.Name y py] (.ListComp elt [⟨tg, iter, ifs, 0⟩] scope pos) spos) (dAsg (dLc m (own.map (·.2)) t g tt te) (gSet i)) :=
  ps_of (ps_setLc (wi := LI X.K Γ t) (g := LGw X.K Γ.blk (own.map fun (x : Str × Nat) => x.2) g) (tt := LT X.K Γ.blk tt) (te := LE X.K Γ.blk te) hc hN hy hyl hsw hi ok hg ht he hs) fun D σ H ⟨σd, G, F, Wd, Dd, w, hp, cv, ht, k⟩ => lift_lc (m := m) ⟨σd, G, F, Wd, _, w, hp, cv, ht, fun x G1 F1 v H1 e1 g1 r1 q1 => k.nx _ G1 F1 _ H1 e1 ((w.ext e1 g1).set r1) q1⟩
end
end DL

/-! D6: the catalog: operators, built-ins, methods over trees. -/
namespace DL
open PySem PySem.Spec L2

/-! ### + - * // % ** << >> -/
def qAdd (m : Bool) : Q2 := fun x y G Q => match x, y with
  | .int i, .int j => Q (.int (i + j)) G
  | .str a, .str b => a.length + b.length ≤ sizeLine ∧ Q (.str (a ++ b)) G
  | .tup a, .tup b => a.length + b.length ≤ sizeLine ∧ Q (.tup (a ++ b)) G
  | x, y => match dlsh G x, dlsh G y with
    | some a, some b => a.length + b.length ≤ sizeLine ∧ mkL m (a ++ b) G Q
    | _, _ => False
abbrev rAddAll (K : PySem.W.Frag) : R2 := fun x y H Q => (rI0 (fun i j => .int (i + j)) x y H Q ∨ (∃ i j, x = .str i ∧ y = .str j ∧ i.length + j.length ≤ sizeLine ∧ Q (.str (i ++ j)) H)) ∨ (rCatA K x y H Q ∨ rCat x y H Q)
theorem op_addAll {X : Cx} : OpR X (binaryOp .Add) (rAddAll X.K) := (op_add.or op_add_str).or (op_catA.or op_cat)
section
variable {K : PySem.W.Frag}
theorem Kont.tupA {H : Hp} {F : Fz} {G : DH} {Qd : DK} {Q : VK} {ds es : List D} {a b : Addr} {vs ws : List V} (k : Kont K H F Qd Q) (g : GRel K H F G) (h1 : SqT K H a vs) (h2 : SqT K H b ws) (r1 : Reps K H F ds vs) (r2 : Reps K H F es ws) (q : Qd (.tup (ds ++ es)) G) :
    (vs = [] → Q (.ref b) H) ∧ (vs ≠ [] → ws = [] → Q (.ref a) H) ∧ (vs ≠ [] → ws ≠ [] → ∀ p, H p = none → Q (.ref p) (upd H p (.tup (vs ++ ws)))) := by
  refine ⟨fun e => ?_, fun _ e => ?_, fun _ _ => k.tup g (r1.append r2) q⟩
  · subst e
    have e2 : ds = [] := by have := r1.length; cases ds <;> simp at this ⊢
    subst e2
    exact k.here (d := .tup es) g (by unfold Rep; exact ⟨b, ws, rfl, h2, r2⟩) (by simpa using q)
  · subst e
    have e2 : es = [] := by have := r2.length; cases es <;> simp at this ⊢
    subst e2
    exact k.here (d := .tup ds) g (by unfold Rep; exact ⟨a, vs, rfl, h1, r1⟩) (by simpa using q)
theorem qAdd_ok {m : Bool} : L2R K (qAdd m) (rAddAll K) := fun x y v w G F H Qd Q g rx ry h k => by
  have lists : ∀ a b, dlsh G x = some a → dlsh G y = some b → a.length + b.length ≤ sizeLine → mkL m (a ++ b) G Qd → rAddAll K v w H Q := fun a b e1 e2 hz q => by
    obtain ⟨p1, vs, rfl, h1, r1⟩ := dlsh_rep g rx e1
    obtain ⟨p2, ws, rfl, h2, r2⟩ := dlsh_rep g ry e2
    exact .inr (.inr ⟨p1, p2, vs, ws, rfl, rfl, h1, h2, by rw [← r1.length, ← r2.length]; exact hz, k.lst g (r1.append r2) q⟩)
  have other : (match dlsh G x, dlsh G y with | some a, some b => a.length + b.length ≤ sizeLine ∧ mkL m (a ++ b) G Qd | _, _ => False) → rAddAll K v w H Q := fun h' => by
    cases e1 : dlsh G x with
    | none => rw [e1] at h'; exact h'.elim
    | some a =>
      cases e2 : dlsh G y with
      | none => rw [e1, e2] at h'; exact h'.elim
      | some b => rw [e1, e2] at h'; exact lists a b e1 e2 h'.1 h'.2
  unfold qAdd at h
  split at h
  · rename_i i j
    rw [int_rep rx, int_rep ry]
    exact .inl (.inl ⟨i, j, rfl, rfl, k.here g rep_int h⟩)
  · rename_i a b
    rw [str_rep rx, str_rep ry]
    exact .inl (.inr ⟨a, b, rfl, rfl, h.1, k.here g rep_str h.2⟩)
  · rename_i a b
    obtain ⟨p1, vs, rfl, h1, r1⟩ := tup_rep rx
    obtain ⟨p2, ws, rfl, h2, r2⟩ := tup_rep ry
    obtain ⟨c1, c2, c3⟩ := k.tupA g h1 h2 r1 r2 h.2
    exact .inr (.inl ⟨p1, p2, vs, ws, rfl, rfl, h1, h2, by rw [← r1.length, ← r2.length]; exact h.1, c1, c2, c3⟩)
  · exact other h
/-- an operator on two ints, with a premise -/
def qI (C : Int → Int → Prop) (g : Int → Int → D) : Q2 := fun x y G Q => match x, y with
  | .int i, .int j => C i j ∧ Q (g i j) G
  | _, _ => False
def qI0 (g : Int → Int → D) : Q2 := fun x y G Q => match x, y with
  | .int i, .int j => Q (g i j) G
  | _, _ => False
theorem qI_ok {C : Int → Int → Prop} {g : Int → Int → D} {g' : Int → Int → V} (e : ∀ i j H F, Rep K H F (g i j) (g' i j)) : L2R K (qI C g) (rI C g') := fun x y v w G F H Qd Q gr rx ry h k => by
  unfold qI at h
  split at h
  · rename_i i j
    rw [int_rep rx, int_rep ry]
    exact ⟨i, j, rfl, rfl, h.1, k.here gr (e i j H F) h.2⟩
  · exact h.elim
theorem qI0_ok {g : Int → Int → D} {g' : Int → Int → V} (e : ∀ i j H F, Rep K H F (g i j) (g' i j)) : L2R K (qI0 g) (rI0 g') := fun x y v w G F H Qd Q gr rx ry h k => by
  unfold qI0 at h
  split at h
  · rename_i i j
    rw [int_rep rx, int_rep ry]
    exact ⟨i, j, rfl, rfl, k.here gr (e i j H F) h⟩
  · exact h.elim
def qSub : Q2 := qI0 fun i j => .int (i - j)
theorem qSub_ok : L2R K qSub (rI0 fun i j => .int (i - j)) := qI0_ok fun _ _ _ _ => rep_int
def qFdiv : Q2 := qI CDivW fun i j => .int (i / j)
theorem qFdiv_ok : L2R K qFdiv (rI CDivW fun i j => .int (i / j)) := qI_ok fun _ _ _ _ => rep_int
def qMod : Q2 := qI (fun _ j => 0 < j) fun i j => .int (i % j)
theorem qMod_ok : L2R K qMod (rI (fun _ j => 0 < j) fun i j => .int (i % j)) := qI_ok fun _ _ _ _ => rep_int
def qPow : Q2 := qI CPow fun i j => .int (i ^ j.toNat)
theorem qPow_ok : L2R K qPow (rI CPow fun i j => .int (i ^ j.toNat)) := qI_ok fun _ _ _ _ => rep_int
def qShl : Q2 := qI CPow fun i j => .int (i * 2 ^ j.toNat)
theorem qShl_ok : L2R K qShl (rI CPow fun i j => .int (i * 2 ^ j.toNat)) := qI_ok fun _ _ _ _ => rep_int
def qShr : Q2 := qI (fun _ j => 0 ≤ j) fun i j => .int (i / 2 ^ j.toNat)
theorem qShr_ok : L2R K qShr (rI (fun _ j => 0 ≤ j) fun i j => .int (i / 2 ^ j.toNat)) := qI_ok fun _ _ _ _ => rep_int
def qXor : Q2 := qI0 fun i j => .int (Builtin.bitXor i j)
theorem qXor_ok : L2R K qXor (rI0 fun i j => .int (Builtin.bitXor i j)) := qI0_ok fun _ _ _ _ => rep_int
def qAnd : Q2 := qI0 fun i j => .int (Builtin.bitAnd i j)
theorem qAnd_ok : L2R K qAnd (rI0 fun i j => .int (Builtin.bitAnd i j)) := qI0_ok fun _ _ _ _ => rep_int
def MulI (i j : Int) : Prop := CMul i j ∨ CMulW i j
theorem op_mulI {X : Cx} : OpR X (binaryOp .Mult) (rI MulI fun i j => .int (i * j)) := opI fun _ _ _ _ _ _ _ hc q => PyProof.Rows.mul_int q (hc.elim CMul.ok CMulW.ok)
def reps (x : Str) (n : Nat) : Str := ⟨((List.replicate n x.cps.toList).flatten).toArray⟩
theorem txt_mul {x : Str} {n : Int} (h : 0 ≤ n) : PySem.Txt.mul x n = reps x n.toNat := by
  unfold PySem.Txt.mul reps
  have fold : ∀ (k : Nat) (acc : Array Nat), ((List.replicate k x.cps).foldl (· ++ ·) acc).toList = acc.toList ++ (List.replicate k x.cps.toList).flatten := by
    intro k
    induction k with
    | zero => intro acc; simp
    | succ k ih => intro acc; simp [List.replicate_succ, ih]
  by_cases h1 : n < 1
  · rw [if_pos h1]
    have : n.toNat = 0 := by omega
    rw [this]; rfl
  · rw [if_neg h1]
    by_cases h2 : (n == 1 || x.length == 0) = true
    · rw [if_pos h2]
      rcases Bool.or_eq_true _ _ ▸ h2 with h2 | h2
      · have : n.toNat = 1 := by have := beq_iff_eq.mp h2; omega
        rw [this]
        simp
      · have e : x.cps.size = 0 := by have := beq_iff_eq.mp h2; exact this
        have e2 : x.cps.toList = [] := by simpa using e
        have e3 : x = ⟨#[]⟩ := by cases x; simp at e2; simp [e2]
        rw [e2]
        simp [e3]
    · rw [if_neg h2]
      have := fold n.toNat #[]
      congr 1
      apply Array.ext'
      simpa using this
def qMul (m : Bool) : Q2 := fun x y G Q => match x, y with
  | .int i, .int j => MulI i j ∧ Q (.int (i * j)) G
  | .str a, .int n => (0 ≤ n ∧ n ≤ 1000 ∧ a.length ≤ 1000) ∧ Q (.str (reps a n.toNat)) G
  | x, .int n => match dlsh G x with
    | some a => (-(2 ^ 63) ≤ n ∧ n < 2 ^ 63 ∧ a.length * n.toNat ≤ sizeLine) ∧ mkL m (List.replicate n.toNat a).flatten G Q
    | none => False
  | _, _ => False
def rRepS : R2 := fun x y H Q => ∃ a n, x = .str a ∧ y = .int n ∧ (0 ≤ n ∧ n ≤ 1000 ∧ a.length ≤ 1000) ∧ Q (.str (reps a n.toNat)) H
theorem op_repS {X : Cx} : OpR X (binaryOp .Mult) rRepS := by
  intro pins s σ H x y v u Q I rx ry h
  obtain ⟨a, n, rfl, rfl, ⟨h0, h1, h2⟩, q⟩ := h
  obtain ⟨t, rfl⟩ := rx
  obtain ⟨t', rfl⟩ := ry
  refine PySem.SB.mul ⟨?_, fun _ _ => ?_, fun _ _ => ?_⟩ fun t2 k => ?_
  · have a1 : ¬ n < -(2 ^ 63 : Int) := by omega
    have a2 : ¬ n ≥ (2 ^ 63 : Int) := by omega
    simp [a1, a2]
    omega
  · have e : (1000 : Int) ≤ (2 ^ 63 - 1) / n := by
      have : 0 < n := by omega
      rw [Int.le_ediv_iff_mul_le this]
      omega
    omega
  · have e : a.length * n.toNat ≤ 1000 * 1000 := Nat.mul_le_mul h2 (by omega)
    have : Builtin.Str.tooLong (a.length * n.toNat) = false := by
      unfold Builtin.Str.tooLong
      simp [sizeLine_eq]
      omega
    exact this
  · rw [txt_mul h0]
    exact ⟨.str _, H, I.tok k, ⟨t2, rfl⟩, q⟩
abbrev rMulAll : R2 := fun x y H Q => rI MulI (fun i j => .int (i * j)) x y H Q ∨ (rRepS x y H Q ∨ rRep x y H Q)
theorem op_mulAll {X : Cx} : OpR X (binaryOp .Mult) rMulAll := op_mulI.or (op_repS.or op_rep)
theorem qMul_ok {m : Bool} : L2R K (qMul m) rMulAll := fun x y v w G F H Qd Q g rx ry h k => by
  unfold qMul at h
  split at h
  · rename_i i j
    rw [int_rep rx, int_rep ry]
    exact .inl ⟨i, j, rfl, rfl, h.1, k.here g rep_int h.2⟩
  · rename_i a n
    rw [str_rep rx, int_rep ry]
    exact .inr (.inl ⟨a, n, rfl, rfl, h.1, k.here g rep_str h.2⟩)
  · rename_i n _ _
    cases e : dlsh G x with
    | none => rw [e] at h; exact h.elim
    | some a =>
      rw [e] at h
      obtain ⟨⟨h1, h2, h3⟩, q⟩ := h
      obtain ⟨p, vs, rfl, hp, r⟩ := dlsh_rep g rx e
      rw [int_rep ry]
      exact .inr (.inr ⟨p, n, vs, rfl, rfl, hp, h1, h2, by rw [← r.length]; exact h3, k.lst g (r.rep n.toNat) q⟩)
  · exact h.elim
end

/-! ### == and != -/
mutual
def noRef : D → Bool
  | .ref _ => false
  | .ty _ => false
  | .tup xs => noRefs xs
  | .lst xs => noRefs xs
  | _ => true
def noRefs : List D → Bool
  | [] => true
  | d :: ds => noRef d && noRefs ds
end
mutual
def toPy : D → PyData
  | .non => .none
  | .bl b => .bool b
  | .int i => .int i
  | .str x => .str x
  | .tup xs => .tuple (toPys xs)
  | .lst xs => .list (toPys xs)
  | .scr ns => .list (ns.map .int)
  | .ref _ => .none
  | .ty _ => .none
def toPys : List D → List PyData
  | [] => []
  | d :: ds => toPy d :: toPys ds
end
def deq (x y : D) : Bool := PyData.eqv (toPy x) (toPy y)
/-- it can be compared: no changing list within, no deeper than 64 -/
def eqOk (d : D) : Prop := noRef d = true ∧ SeqAt.shaped (toPy d) = true
def dview (G : DH) : D → D
  | .ref a => match G a with
    | some (.lst xs) => .lst xs
    | _ => .ref a
  | d => d
section
variable {K : PySem.W.Frag} {H : Hp} {F : Fz}
theorem dpAll_ints : ∀ ns : List Int, DpAll K H (ns.map V.int) (ns.map PyData.int)
  | [] => .nil
  | n :: ns => .cons (.int n) (dpAll_ints ns)
mutual
theorem dp_of : ∀ (d : D) (v : V), noRef d = true → Rep K H F d v → Dp K H v (toPy d)
  | .non, v, _, r => by rw [non_rep r]; unfold toPy; exact .non
  | .bl b, v, _, r => by rw [bl_rep r]; unfold toPy; exact .bl b
  | .int b, v, _, r => by rw [int_rep r]; unfold toPy; exact .int b
  | .str b, v, _, r => by rw [str_rep r]; unfold toPy; exact .str b
  | .tup xs, v, n, r => by
    obtain ⟨a, vs, rfl, h, rs⟩ := tup_rep r
    unfold toPy
    unfold noRef at n
    exact .tup h (dps_of xs vs n rs)
  | .lst xs, v, n, r => by
    unfold Rep at r
    obtain ⟨a, vs, rfl, h, rs⟩ := r
    unfold toPy
    unfold noRef at n
    exact .lst (SqL.of h.2) (dps_of xs vs n rs)
  | .scr ns, v, _, r => by
    unfold Rep at r
    obtain ⟨a, rfl, h⟩ := r
    unfold toPy
    exact .lst (scr_sql h) (dpAll_ints ns)
  | .ref _, _, n, _ => by unfold noRef at n; cases n
  | .ty _, _, n, _ => by unfold noRef at n; cases n
theorem dps_of : ∀ (ds : List D) (vs : List V), noRefs ds = true → Reps K H F ds vs → DpAll K H vs (toPys ds)
  | [], vs, _, r => by rw [r.inv0]; unfold toPys; exact .nil
  | d :: ds, vs, n, r => by
    obtain ⟨v, ws, rfl, r1, r2⟩ := r.inv
    unfold noRefs at n
    rw [Bool.and_eq_true] at n
    unfold toPys
    exact .cons (dp_of d v n.1 r1) (dps_of ds ws n.2 r2)
end
theorem dp_view {G : DH} (g : GRel K H F G) {d : D} {v : V} (r : Rep K H F d v) (n : noRef (dview G d) = true) : Dp K H v (toPy (dview G d)) := by
  cases d with
  | ref a =>
    unfold dview at n ⊢
    cases e : G a with
    | none => simp [e, noRef] at n
    | some o =>
      cases o with
      | lst xs =>
        simp [e] at n ⊢
        obtain ⟨_, ho, q, vs, rfl, rs⟩ := g.at_ a _ e
        rw [ref_rep r]
        unfold toPy
        unfold noRef at n
        exact .lst (SqL.of q) (dps_of xs vs n rs)
      | _ => simp [e, noRef] at n
  | _ => exact dp_of _ v n r
end
def qEq (neg : Bool) : Q2 := fun x y G Q => match x, y with
  | .int i, .int j => Q (.bl (if neg then !decide (i = j) else decide (i = j))) G
  | .str i, .str j => Q (.bl (if neg then !decide (i = j) else decide (i = j))) G
  | .bl i, .bl j => Q (.bl (if neg then !decide (i = j) else decide (i = j))) G
  | x, y => eqOk (dview G x) ∧ eqOk (dview G y) ∧ Q (.bl (if neg then !deq (dview G x) (dview G y) else deq (dview G x) (dview G y))) G
abbrev rEqAll (K : PySem.W.Frag) : R2 := fun x y H Q => rEq x y H Q ∨ rEqD K x y H Q
abbrev rNeAll (K : PySem.W.Frag) : R2 := fun x y H Q => rNe x y H Q ∨ rNeD K x y H Q
theorem op_eqAll {X : Cx} (hu : X.A.units + 64 < cLine) : OpR X (compareOp .Eq) (rEqAll X.K) := op_eq.or (op_eqD hu)
theorem op_neAll {X : Cx} (hu : X.A.units + 64 < cLine) : OpR X (compareOp .NotEq) (rNeAll X.K) := op_ne.or (op_neD hu)
section
variable {K : PySem.W.Frag}
theorem qEq_ok : L2R K (qEq false) (rEqAll K) := fun x y v w G F H Qd Q g rx ry h k => by
  unfold qEq at h
  split at h
  · rw [int_rep rx, int_rep ry]; exact .inl ⟨rfl, k.here g rep_bl (by simpa using h)⟩
  · rw [str_rep rx, str_rep ry]; exact .inl ⟨rfl, k.here g rep_bl (by simpa using h)⟩
  · rw [bl_rep rx, bl_rep ry]; exact .inl ⟨rfl, k.here g rep_bl (by simpa using h)⟩
  · obtain ⟨h1, h2, q⟩ := h
    exact .inr ⟨_, _, dp_view g rx h1.1, dp_view g ry h2.1, h1.2, h2.2, k.here g rep_bl (by simpa [deq] using q)⟩
theorem qNe_ok : L2R K (qEq true) (rNeAll K) := fun x y v w G F H Qd Q g rx ry h k => by
  unfold qEq at h
  split at h
  · rw [int_rep rx, int_rep ry]; exact .inl ⟨rfl, k.here g rep_bl (by simpa using h)⟩
  · rw [str_rep rx, str_rep ry]; exact .inl ⟨rfl, k.here g rep_bl (by simpa using h)⟩
  · rw [bl_rep rx, bl_rep ry]; exact .inl ⟨rfl, k.here g rep_bl (by simpa using h)⟩
  · obtain ⟨h1, h2, q⟩ := h
    exact .inr ⟨_, _, dp_view g rx h1.1, dp_view g ry h2.1, h1.2, h2.2, k.here g rep_bl (by simpa [deq] using q)⟩
end
/-! ### < <= > >= -/
def qLt : Q2 := fun x y G Q => match x, y with
  | .int i, .int j => Q (.bl (decide (i < j))) G
  | .str a, .str b => Q (.bl (decide (a.cps.toList < b.cps.toList))) G
  | _, _ => False
abbrev rLtAll : R2 := fun x y H Q => rI0 (fun i j => .bl (decide (i < j))) x y H Q ∨ (∃ i j, x = .str i ∧ y = .str j ∧ Q (.bl (decide (i.cps.toList < j.cps.toList))) H)
theorem op_ltAll {X : Cx} : OpR X (compareOp .Lt) rLtAll := op_lt.or op_lt_str
section
variable {K : PySem.W.Frag}
theorem qLt_ok : L2R K qLt rLtAll := fun x y v w G F H Qd Q g rx ry h k => by
  unfold qLt at h
  split at h
  · rw [int_rep rx, int_rep ry]; exact .inl ⟨_, _, rfl, rfl, k.here g rep_bl h⟩
  · rw [str_rep rx, str_rep ry]; exact .inr ⟨_, _, rfl, rfl, k.here g rep_bl h⟩
  · exact h.elim
def qLe : Q2 := qI0 fun i j => .bl (decide (i ≤ j))
theorem qLe_ok : L2R K qLe (rI0 fun i j => .bl (decide (i ≤ j))) := qI0_ok fun _ _ _ _ => rep_bl
def qGt : Q2 := qI0 fun i j => .bl (decide (j < i))
theorem qGt_ok : L2R K qGt (rI0 fun i j => .bl (decide (j < i))) := qI0_ok fun _ _ _ _ => rep_bl
def qGe : Q2 := qI0 fun i j => .bl (decide (j ≤ i))
theorem qGe_ok : L2R K qGe (rI0 fun i j => .bl (decide (j ≤ i))) := qI0_ok fun _ _ _ _ => rep_bl
/-- is None, is not None -/
def isNon : D → Bool
  | .non => true
  | _ => false
def qIsN (neg : Bool) : Q2 := fun x y G Q => match y with
  | .non => Q (.bl (if neg then !isNon x else isNon x)) G
  | _ => False
theorem isNon_rep {H : Hp} {F : Fz} {x : D} {v : V} (r : Rep K H F x v) : decide (v = .non) = isNon x := by
  cases x with
  | non => rw [non_rep r]; rfl
  | bl _ => rw [bl_rep r]; rfl
  | int _ => rw [int_rep r]; rfl
  | str _ => rw [str_rep r]; rfl
  | ref _ => rw [ref_rep r]; rfl
  | ty _ => rw [ty_rep r]; rfl
  | tup _ => obtain ⟨a, vs, rfl, _⟩ := tup_rep r; rfl
  | lst _ => unfold Rep at r; obtain ⟨a, vs, rfl, _⟩ := r; rfl
  | scr _ => unfold Rep at r; obtain ⟨a, rfl, _⟩ := r; rfl
theorem qIs_ok : L2R K (qIsN false) (fun x y H Q => y = .non ∧ Q (.bl (decide (x = .non))) H) := fun x y v w G F H Qd Q g rx ry h k => by
  unfold qIsN at h
  split at h
  · exact ⟨non_rep ry, by rw [isNon_rep rx]; exact k.here g rep_bl (by simpa using h)⟩
  · exact h.elim
theorem qIsNot_ok : L2R K (qIsN true) (fun x y H Q => y = .non ∧ Q (.bl (!decide (x = .non))) H) := fun x y v w G F H Qd Q g rx ry h k => by
  unfold qIsN at h
  split at h
  · exact ⟨non_rep ry, by rw [isNon_rep rx]; exact k.here g rep_bl (by simpa using h)⟩
  · exact h.elim
end
end DL

/-! D7: the catalog, further: in, isinstance, len, conversions, sums, sorts, texts, list methods, places, slices. -/
namespace DL
open PySem PySem.Spec L2

/-! ### x in xs -/
def flatD : D → Bool
  | .non => true
  | .bl _ => true
  | .int _ => true
  | .str _ => true
  | _ => false
def eqF : D → D → Bool
  | .non, .non => true
  | .bl a, .bl b => a == b
  | .bl a, .int b => (if a then 1 else 0) == b
  | .int a, .bl b => a == (if b then 1 else 0)
  | .int a, .int b => a == b
  | .str a, .str b => a == b
  | _, _ => false
def qIn (neg : Bool) : Q2 := fun x y G Q => match x, y with
  | .str a, .str z => match a.cps.toList with
    | [c] => Q (.bl (if neg then !decide (c ∈ z.cps.toList) else decide (c ∈ z.cps.toList))) G
    | _ => False
  | x, y => match dseq G y with
    | some ys => (flatD x = true ∧ ys.all flatD = true) ∧ Q (.bl (if neg then !(ys.any fun z => eqF z x) else ys.any fun z => eqF z x)) G
    | none => False
abbrev rInAll (K : PySem.W.Frag) : R2 := fun x y H Q => (∃ (c : Nat) (z : Str), x = .str ⟨#[c]⟩ ∧ y = .str z ∧ Q (.bl (decide (c ∈ z.cps.toList))) H) ∨ rIn K false x y H Q
abbrev rNotInAll (K : PySem.W.Frag) : R2 := fun x y H Q => (∃ (c : Nat) (z : Str), x = .str ⟨#[c]⟩ ∧ y = .str z ∧ Q (.bl (!decide (c ∈ z.cps.toList))) H) ∨ rIn K true x y H Q
theorem op_inAll {X : Cx} : OpR X (compareOp .In) (rInAll X.K) := op_in_sign.or op_in_seq
theorem op_notInAll {X : Cx} : OpR X (compareOp .NotIn) (rNotInAll X.K) := op_notIn_sign.or op_notIn_seq
section
variable {K : PySem.W.Frag} {H : Hp} {F : Fz}
theorem flat_rep {x : D} {v : V} (r : Rep K H F x v) (f : flatD x = true) : flatV v = true := by
  cases x with
  | non => rw [non_rep r]; rfl
  | bl _ => rw [bl_rep r]; rfl
  | int _ => rw [int_rep r]; rfl
  | str _ => rw [str_rep r]; rfl
  | _ => cases f
theorem eqF_rep {x y : D} {v w : V} (r : Rep K H F x v) (s : Rep K H F y w) (f : flatD x = true) (g : flatD y = true) : eqV v w = eqF x y := by
  cases x with
  | non => rw [non_rep r]; cases y with
    | non => rw [non_rep s]; rfl
    | bl _ => rw [bl_rep s]; rfl
    | int _ => rw [int_rep s]; rfl
    | str _ => rw [str_rep s]; rfl
    | _ => cases g
  | bl _ => rw [bl_rep r]; cases y with
    | non => rw [non_rep s]; rfl
    | bl _ => rw [bl_rep s]; rfl
    | int _ => rw [int_rep s]; rfl
    | str _ => rw [str_rep s]; rfl
    | _ => cases g
  | int _ => rw [int_rep r]; cases y with
    | non => rw [non_rep s]; rfl
    | bl _ => rw [bl_rep s]; rfl
    | int _ => rw [int_rep s]; rfl
    | str _ => rw [str_rep s]; rfl
    | _ => cases g
  | str _ => rw [str_rep r]; cases y with
    | non => rw [non_rep s]; rfl
    | bl _ => rw [bl_rep s]; rfl
    | int _ => rw [int_rep s]; rfl
    | str _ => rw [str_rep s]; rfl
    | _ => cases g
  | _ => cases f
theorem inV_rep {x : D} {v : V} (r : Rep K H F x v) (f : flatD x = true) : ∀ {ys : List D} {ws : List V}, Reps K H F ys ws → ys.all flatD = true → ws.all flatV = true ∧ inV v ws = ys.any fun z => eqF z x
  | [], ws, h, _ => by rw [h.inv0]; exact ⟨rfl, rfl⟩
  | y :: ys, ws, h, a => by
    obtain ⟨w, us, rfl, h1, h2⟩ := h.inv
    rw [List.all_cons, Bool.and_eq_true] at a
    obtain ⟨i1, i2⟩ := inV_rep r f h2 a.2
    refine ⟨by rw [List.all_cons, flat_rep h1 a.1, i1]; rfl, ?_⟩
    unfold inV at i2 ⊢
    rw [List.any_cons, List.any_cons, i2, eqF_rep h1 r a.1 f]
theorem qIn_ok {neg : Bool} : L2R K (qIn neg) (fun x y H Q => (∃ (c : Nat) (z : Str), x = .str ⟨#[c]⟩ ∧ y = .str z ∧ Q (.bl (if neg then !decide (c ∈ z.cps.toList) else decide (c ∈ z.cps.toList))) H) ∨ rIn K neg x y H Q) := fun x y v w G F H Qd Q g rx ry h k => by
  unfold qIn at h
  split at h
  · rename_i a z
    split at h
    · rename_i c e
      have ea : a = ⟨#[c]⟩ := by
        cases a with
        | mk cps => exact congrArg Str.mk (Array.ext' e)
      rw [str_rep rx, str_rep ry, ea]
      exact .inl ⟨c, z, rfl, rfl, k.here g rep_bl h⟩
    · exact h.elim
  · cases e : dseq G y with
    | none => rw [e] at h; exact h.elim
    | some ys =>
      rw [e] at h
      obtain ⟨⟨h1, h2⟩, q⟩ := h
      obtain ⟨p, ws, rfl, hs, rs⟩ := dseq_rep g ry e
      obtain ⟨i1, i2⟩ := inV_rep rx h1 rs h2
      exact .inr ⟨p, ws, rfl, hs, flat_rep rx h1, i1, by rw [i2]; exact k.here g rep_bl q⟩
theorem qInT_ok : L2R K (qIn false) (rInAll K) := qIn_ok
theorem qInF_ok : L2R K (qIn true) (rNotInAll K) := qIn_ok
end

/-! ### isinstance -/
def isTy (G : DH) (x : D) (T : String) : Option Bool := match tyD G x with
  | some t => kitB t T
  | none => none
def qIsi : QN := fun ds G Q => match ds with
  | [x, .ty T] => match isTy G x T with
    | some b => Q (.bl b) G
    | none => False
  | _ => False
theorem tyX_of {K : PySem.W.Frag} {H : Hp} {F : Fz} {G : DH} (g : GRel K H F G) {x : D} {v : V} (r : Rep K H F x v) {t : String} (h : tyD G x = some t) : TyX K H v (.type t) := by
  cases x with
  | non => rw [non_rep r]; cases h; exact .base .non
  | bl b => rw [bl_rep r]; cases h; exact .base (.bl b)
  | int i => rw [int_rep r]; cases h; exact .base (.int i)
  | str i => rw [str_rep r]; cases h; exact .base (.str i)
  | ty n => cases h
  | tup xs =>
    cases h
    obtain ⟨a, vs, rfl, hs, _⟩ := tup_rep r
    rcases hs with (hs | ⟨o, hs⟩) | ⟨o, its, n, hk, hc, _⟩
    · exact .base (.tup hs)
    · exact .fTuple hs
    · exact .kTuple hk hc
  | lst xs =>
    cases h
    unfold Rep at r
    obtain ⟨a, vs, rfl, hs, _⟩ := r
    exact .base (.lst hs.2)
  | scr ns =>
    cases h
    unfold Rep at r
    obtain ⟨a, rfl, hs⟩ := r
    rcases hs with hs | ⟨o, hs⟩ | ⟨o, its, n, hk, hc, _⟩
    · exact .base (.lst hs.2)
    · exact .base (.frz hs)
    · exact .kList hk hc
  | ref a =>
    rw [ref_rep r]
    unfold tyD at h
    cases e : G a with
    | none => simp [e] at h
    | some o =>
      obtain ⟨_, ho, q, ro⟩ := g.at_ a o e
      cases o with
      | lst xs => simp [e] at h; subst h; obtain ⟨vs, rfl, _⟩ := ro; exact .base (.lst q)
      | hid φ => simp [e] at h; subst h; obtain ⟨ds, vs, _, rfl, _⟩ := ro; exact .base (.lst q)
      | dct kvs => simp [e] at h; subst h; obtain ⟨ws, rfl, _⟩ := ro; exact .base (.dK q)
      | set S n => simp [e] at h; subst h; cases (show ho = .set S n from ro); exact .set q
theorem qIsi_ok {K : PySem.W.Frag} : LNR K qIsi (rIsi K) := fun ds vs G F H Qd Q g r h k => by
  unfold qIsi at h
  split at h
  · rename_i x T
    cases e : isTy G x T with
    | none => rw [e] at h; exact h.elim
    | some b =>
      rw [e] at h
      obtain ⟨v, w, rfl, r1, r2⟩ := r.of2
      rw [ty_rep r2]
      unfold isTy at e
      cases e2 : tyD G x with
      | none => rw [e2] at e; cases e
      | some t =>
        rw [e2] at e
        exact ⟨v, .ty T, .type t, .type T, b, rfl, .ty T, tyX_of g r1 e2, kit_ty e, k.here g rep_bl h⟩
  · exact h.elim
/-! which built-in types are which -/
section
theorem kb_ii : kitB "int" "int" = some true := by decide +kernel
theorem kb_ib : kitB "int" "bool" = some false := by decide +kernel
theorem kb_is : kitB "int" "str" = some false := by decide +kernel
theorem kb_it : kitB "int" "tuple" = some false := by decide +kernel
theorem kb_il : kitB "int" "list" = some false := by decide +kernel
theorem kb_bi : kitB "bool" "int" = some true := by decide +kernel
theorem kb_bb : kitB "bool" "bool" = some true := by decide +kernel
theorem kb_bs : kitB "bool" "str" = some false := by decide +kernel
theorem kb_bt : kitB "bool" "tuple" = some false := by decide +kernel
theorem kb_bl : kitB "bool" "list" = some false := by decide +kernel
theorem kb_si : kitB "str" "int" = some false := by decide +kernel
theorem kb_sb : kitB "str" "bool" = some false := by decide +kernel
theorem kb_ss : kitB "str" "str" = some true := by decide +kernel
theorem kb_st : kitB "str" "tuple" = some false := by decide +kernel
theorem kb_sl : kitB "str" "list" = some false := by decide +kernel
theorem kb_ti : kitB "tuple" "int" = some false := by decide +kernel
theorem kb_tb : kitB "tuple" "bool" = some false := by decide +kernel
theorem kb_ts : kitB "tuple" "str" = some false := by decide +kernel
theorem kb_tt : kitB "tuple" "tuple" = some true := by decide +kernel
theorem kb_tl : kitB "tuple" "list" = some false := by decide +kernel
theorem kb_li : kitB "list" "int" = some false := by decide +kernel
theorem kb_lb : kitB "list" "bool" = some false := by decide +kernel
theorem kb_ls : kitB "list" "str" = some false := by decide +kernel
theorem kb_lt : kitB "list" "tuple" = some false := by decide +kernel
theorem kb_ll : kitB "list" "list" = some true := by decide +kernel
theorem kb_ni : kitB "NoneType" "int" = some false := by decide +kernel
theorem kb_nb : kitB "NoneType" "bool" = some false := by decide +kernel
theorem kb_ns : kitB "NoneType" "str" = some false := by decide +kernel
theorem kb_nt : kitB "NoneType" "tuple" = some false := by decide +kernel
theorem kb_nl : kitB "NoneType" "list" = some false := by decide +kernel
end
/-! ### len, conversions, sums, sorts -/
def intsOf : List D → Option (List Int)
  | [] => some []
  | .int i :: r => (intsOf r).map (i :: ·)
  | _ :: _ => none
def strsOf : List D → Option (List Str)
  | [] => some []
  | .str i :: r => (strsOf r).map (i :: ·)
  | _ :: _ => none
def blsOf : List D → Option (List Bool)
  | [] => some []
  | .bl i :: r => (blsOf r).map (i :: ·)
  | _ :: _ => none
@[simp] theorem intsOf_map : ∀ ns : List Int, intsOf (ns.map D.int) = some ns
  | [] => rfl
  | n :: ns => by simp [intsOf, intsOf_map ns]
@[simp] theorem strsOf_map : ∀ ns : List Str, strsOf (ns.map D.str) = some ns
  | [] => rfl
  | n :: ns => by simp [strsOf, strsOf_map ns]
@[simp] theorem blsOf_map : ∀ ns : List Bool, blsOf (ns.map D.bl) = some ns
  | [] => rfl
  | n :: ns => by simp [blsOf, blsOf_map ns]
theorem intsOf_eq : ∀ {ds : List D} {ns : List Int}, intsOf ds = some ns → ds = ns.map D.int
  | [], ns, h => by cases h; rfl
  | .int i :: r, ns, h => by
    unfold intsOf at h
    cases e : intsOf r with
    | none => rw [e] at h; cases h
    | some ms => rw [e] at h; cases h; rw [intsOf_eq e]; rfl
  | .non :: _, _, h => by cases h
  | .bl _ :: _, _, h => by cases h
  | .str _ :: _, _, h => by cases h
  | .tup _ :: _, _, h => by cases h
  | .lst _ :: _, _, h => by cases h
  | .scr _ :: _, _, h => by cases h
  | .ref _ :: _, _, h => by cases h
  | .ty _ :: _, _, h => by cases h
theorem strsOf_eq : ∀ {ds : List D} {ns : List Str}, strsOf ds = some ns → ds = ns.map D.str
  | [], ns, h => by cases h; rfl
  | .str i :: r, ns, h => by
    unfold strsOf at h
    cases e : strsOf r with
    | none => rw [e] at h; cases h
    | some ms => rw [e] at h; cases h; rw [strsOf_eq e]; rfl
  | .non :: _, _, h => by cases h
  | .bl _ :: _, _, h => by cases h
  | .int _ :: _, _, h => by cases h
  | .tup _ :: _, _, h => by cases h
  | .lst _ :: _, _, h => by cases h
  | .scr _ :: _, _, h => by cases h
  | .ref _ :: _, _, h => by cases h
  | .ty _ :: _, _, h => by cases h
theorem blsOf_eq : ∀ {ds : List D} {ns : List Bool}, blsOf ds = some ns → ds = ns.map D.bl
  | [], ns, h => by cases h; rfl
  | .bl i :: r, ns, h => by
    unfold blsOf at h
    cases e : blsOf r with
    | none => rw [e] at h; cases h
    | some ms => rw [e] at h; cases h; rw [blsOf_eq e]; rfl
  | .non :: _, _, h => by cases h
  | .int _ :: _, _, h => by cases h
  | .str _ :: _, _, h => by cases h
  | .tup _ :: _, _, h => by cases h
  | .lst _ :: _, _, h => by cases h
  | .scr _ :: _, _, h => by cases h
  | .ref _ :: _, _, h => by cases h
  | .ty _ :: _, _, h => by cases h
def qLen : QN := fun ds G Q => match ds with
  | [.str z] => z.length ≤ sizeLine ∧ Q (.int z.length) G
  | [x] => match dseq G x with
    | some xs => Q (.int xs.length) G
    | none => False
  | _ => False
def qTuple : QN := fun ds G Q => match ds with
  | [x] => match dseq G x with
    | some xs => Q (.tup xs) G
    | none => False
  | _ => False
def qList (m : Bool) : QN := fun ds G Q => match ds with
  | [x] => match dseq G x with
    | some xs => mkL m xs G Q
    | none => False
  | _ => False
/-- sum(t) of a tuple of whole numbers -/
theorem sum_tupT {prog : Program} {w : World} {A : Around} {E : Value → Shared → Prop} {s : Shared} {l : Addr} {its : List Value} {ns : List Int} {Q : Value → Shared → Prop} (hh : A.handled = none) (hl : s.heap.IsTuple l its.toArray) (hi : PyProof.Rows.IntsAre its ns)
    (h : ∀ h' tk t', (∀ b o, s.heap.get? b = some o → h'.get? b = some o) → Q (.int ns.sum t') { s with heap := h', toks := tk }) : wpAny (model prog w) A (call (.builtin "sum") [.ref l]) Q E s := by
  obtain ⟨xs, e⟩ := hi.allInts.items
  have hn : numsOf (intItems xs).toList = ns := by rw [← e]; exact hi.numsOf
  rw [nums_intItems] at hn
  rw [e] at hl
  have hlt : l < s.heap.objs.size := by obtain ⟨_, e, _⟩ := hl; exact Heap.lt_size e
  refine call_sum_walkG (wpAny_pyIter_tuple hl ?_)
  refine ⟨_, [s.heap.objs.size, l], [s.heap.objs.size], _, _, _, numAt xs, rfl, Walks.tuple (A := A.in1) hh _ l (Nat.ne_of_lt hlt) (intItems xs), ⟨⟨_, Heap.get?_push_size _ rfl, rfl, rfl⟩, hl.push _⟩, fun b hb => ?_, (fun _ _ => intItems_at), fun h' tk t' hk => ?_⟩
  · show b < (s.heap.push _).objs.size
    rw [Heap.size_push]
    rcases List.mem_cons.mp hb with rfl | hb
    · exact Nat.lt_succ_self _
    · rw [List.mem_singleton.mp hb]; exact Nat.lt_succ_of_lt hlt
  · have := h h' tk t' (fun b o e => by
      refine hk b o (fun hm => ?_) (Heap.get?_push_of_some _ e)
      rcases List.mem_cons.mp hm with e1 | hm
      · exact absurd (e1 ▸ Heap.lt_size e) (Nat.lt_irrefl _)
      · cases hm)
    rw [preSum_eq, List.take_of_length_le (by simp [intItems]), hn]; exact this
abbrev rSumQ (K : PySem.W.Frag) : List V → Hp → VK → Prop := fun vs H Q => rSum K vs H Q ∨ ∃ (a : Addr) (ns : List Int), vs = [V.ref a] ∧ SqT K H a (ns.map V.int) ∧ Q (.int ns.sum) H
theorem cr_sumQ {X : Cx} (hc : X.calm = true) : CallR X (.builtin "sum") (rSumQ X.K) := (cr_sum hc).or fun pins s σ H vs us Q I r h => by
  obtain ⟨a, ns, rfl, hs, q⟩ := h
  obtain ⟨its, rv, hl, _⟩ := I.tuple hs
  rw [Vals.ref1 r]
  exact sum_tupT (I.ok.hd hc) hl rv.ints fun h' tk t' hk => ⟨.int _, H, I.kept hk, ⟨_, rfl⟩, q⟩
def qSum : QN := fun ds G Q => match ds with
  | [x] => match (dseq G x).bind intsOf with
    | some ns => Q (.int ns.sum) G
    | none => False
  | _ => False
def qAll : QN := fun ds G Q => match ds with
  | [x] => match (dlst G x).bind blsOf with
    | some ns => Q (.bl (ns.all id)) G
    | none => False
  | _ => False
def qAny : QN := fun ds G Q => match ds with
  | [x] => match (dlst G x).bind blsOf with
    | some ns => Q (.bl (ns.any id)) G
    | none => False
  | _ => False
def isort (ns : List Int) : List Int := ns.mergeSort (fun a b => decide (a ≤ b))
theorem isort_perm (ns : List Int) : (isort ns).Perm ns := List.mergeSort_perm _ _
theorem isort_sorted (ns : List Int) : (isort ns).Pairwise (· ≤ ·) := by
  have h := List.pairwise_mergeSort (le := fun a b : Int => decide (a ≤ b)) (fun a b c h1 h2 => by simp at *; omega) (fun a b => by simp; omega) ns
  exact h.imp fun h => by simpa using h
theorem isort_eq {ns ms : List Int} (h : ms.Perm ns) (s : ms.Pairwise (· ≤ ·)) : ms = isort ns :=
  List.Perm.eq_of_pairwise (fun x y _ _ h1 h2 => Int.le_antisymm h1 h2) s (isort_sorted ns) (h.trans (isort_perm ns).symm)
def qSorted (m : Bool) : QN := fun ds G Q => match ds with
  | [x] => match (dlst G x).bind intsOf with
    | some ns => mkL m ((isort ns).map D.int) G Q
    | none => False
  | _ => False
def qSortedS (m : Bool) : QN := fun ds G Q => match ds with
  | [x] => match (dlst G x).bind strsOf with
    | some ns => ns.length < 64 ∧ ∀ ys : List Str, ys.Perm ns → PyProof.Rows.sortedS ys = true → mkL m (ys.map D.str) G Q
    | none => False
  | _ => False
def qInt : QN := fun ds G Q => match ds with
  | [.int i] => Q (.int i) G
  | [.bl b] => Q (.int (if b then 1 else 0)) G
  | [.str a] => match PySem.intText? a with
    | some n => a.length ≤ 640 ∧ Q (.int n) G
    | none => False
  | _ => False
abbrev rIntA : List V → Hp → VK → Prop := fun xs H Q => ((∃ i, xs = [.int i] ∧ Q (.int i) H) ∨ ∃ k, xs = [.bl k] ∧ Q (.int (if k then 1 else 0)) H) ∨ (∃ a n, xs = [.str a] ∧ PySem.intText? a = some n ∧ a.length ≤ 640 ∧ Q (.int n) H)
theorem call_intA {X : Cx} : CallR X (.type "int") rIntA := call_int1.or call_int_str
def qStr : QN := fun ds G Q => match ds with
  | [.int i] => i.natAbs.log2 < 1920 ∧ Q (.str (toString i)) G
  | _ => False
def qAbs : QN := fun ds G Q => match ds with
  | [.int i] => Q (.int (if i < 0 then -i else i)) G
  | _ => False
def qMax2 : QN := fun ds G Q => match ds with
  | [.int i, .int j] => Q (.int (if j > i then j else i)) G
  | _ => False
def qMin2 : QN := fun ds G Q => match ds with
  | [.int i, .int j] => Q (.int (if j < i then j else i)) G
  | _ => False
section
variable {K : PySem.W.Frag}
theorem qLen_ok : LNR K qLen (fun xs H Q => ∃ x n, xs = [x] ∧ LenV K x H n ∧ Q (.int n) H) := fun ds vs G F H Qd Q g r h k => by
  unfold qLen at h
  split at h
  · rename_i z
    obtain ⟨v, rfl, r1⟩ := r.of1
    rw [str_rep r1]
    exact ⟨_, z.length, rfl, ⟨h.1, rfl⟩, k.here g rep_int h.2⟩
  · rename_i x _
    obtain ⟨v, rfl, r1⟩ := r.of1
    cases e : dseq G x with
    | none => rw [e] at h; exact h.elim
    | some xs =>
      rw [e] at h
      obtain ⟨a, ws, rfl, hs, rs⟩ := dseq_rep g r1 e
      refine ⟨_, xs.length, rfl, ?_, k.here g rep_int h⟩
      rcases hs with hs | hs
      · exact .inl ⟨ws, hs, rs.length⟩
      · exact .inr ⟨ws, hs, rs.length⟩
  · exact h.elim
theorem qTuple_ok : LNR K qTuple (fun xs H Q => ∃ p ys, xs = [.ref p] ∧ ((SqL K H p ys ∧ ∀ l, H l = none → Q (.ref l) (upd H l (.tup ys))) ∨ (SqT K H p ys ∧ Q (.ref p) H))) := fun ds vs G F H Qd Q g r h k => by
  unfold qTuple at h
  split at h
  · rename_i x
    obtain ⟨v, rfl, r1⟩ := r.of1
    cases e : dseq G x with
    | none => rw [e] at h; exact h.elim
    | some xs =>
      rw [e] at h
      obtain ⟨a, ws, rfl, hs, rs⟩ := dseq_rep g r1 e
      refine ⟨a, ws, rfl, ?_⟩
      rcases hs with hs | hs
      · exact .inl ⟨hs, k.tup g rs h⟩
      · exact .inr ⟨hs, k.here (d := .tup xs) g (by unfold Rep; exact ⟨a, ws, rfl, hs, rs⟩) h⟩
  · exact h.elim
theorem qList_ok {m : Bool} : LNR K (qList m) (fun xs H Q => ∃ p ys, xs = [.ref p] ∧ (SqL K H p ys ∨ SqT K H p ys) ∧ ∀ l, H l = none → Q (.ref l) (upd H l (.lst ys))) := fun ds vs G F H Qd Q g r h k => by
  unfold qList at h
  split at h
  · rename_i x
    obtain ⟨v, rfl, r1⟩ := r.of1
    cases e : dseq G x with
    | none => rw [e] at h; exact h.elim
    | some xs =>
      rw [e] at h
      obtain ⟨a, ws, rfl, hs, rs⟩ := dseq_rep g r1 e
      exact ⟨a, ws, rfl, hs, k.lst g rs h⟩
  · exact h.elim
theorem lstInts {H : Hp} {F : Fz} {G : DH} (g : GRel K H F G) {x : D} {v : V} (r : Rep K H F x v) {ns : List Int} (e : (dlst G x).bind intsOf = some ns) : ∃ a, v = .ref a ∧ SqL K H a (ns.map V.int) := by
  cases e1 : dlst G x with
  | none => rw [e1] at e; cases e
  | some xs =>
    rw [e1] at e
    obtain ⟨a, ws, rfl, hs, rs⟩ := dlst_rep g r e1
    have e2 := intsOf_eq (ds := xs) e
    subst e2
    rw [rs.ints] at hs
    exact ⟨a, rfl, hs⟩
theorem lstStrs {H : Hp} {F : Fz} {G : DH} (g : GRel K H F G) {x : D} {v : V} (r : Rep K H F x v) {ns : List Str} (e : (dlst G x).bind strsOf = some ns) : ∃ a, v = .ref a ∧ SqL K H a (ns.map V.str) := by
  cases e1 : dlst G x with
  | none => rw [e1] at e; cases e
  | some xs =>
    rw [e1] at e
    obtain ⟨a, ws, rfl, hs, rs⟩ := dlst_rep g r e1
    have e2 := strsOf_eq (ds := xs) e
    subst e2
    rw [rs.strs] at hs
    exact ⟨a, rfl, hs⟩
theorem lstBls {H : Hp} {F : Fz} {G : DH} (g : GRel K H F G) {x : D} {v : V} (r : Rep K H F x v) {ns : List Bool} (e : (dlst G x).bind blsOf = some ns) : ∃ a, v = .ref a ∧ SqL K H a (ns.map V.bl) := by
  cases e1 : dlst G x with
  | none => rw [e1] at e; cases e
  | some xs =>
    rw [e1] at e
    obtain ⟨a, ws, rfl, hs, rs⟩ := dlst_rep g r e1
    have e2 := blsOf_eq (ds := xs) e
    subst e2
    rw [rs.bls] at hs
    exact ⟨a, rfl, hs⟩
theorem qSum_ok : LNR K qSum (rSumQ K) := fun ds vs G F H Qd Q g r h k => by
  unfold qSum at h
  split at h
  · rename_i x
    obtain ⟨v, rfl, r1⟩ := r.of1
    cases e1 : dseq G x with
    | none => rw [e1] at h; exact h.elim
    | some xs =>
      rw [e1] at h
      obtain ⟨a, ws, rfl, hs, rs⟩ := dseq_rep g r1 e1
      cases e : intsOf xs with
      | none => simp only [Option.bind_some, e] at h
      | some ns =>
        simp only [Option.bind_some, e] at h
        have e2 := intsOf_eq (ds := xs) e
        subst e2
        rw [rs.ints] at hs
        rcases hs with hs | hs
        · exact .inl ⟨a, ns, rfl, hs, k.here g rep_int h⟩
        · exact .inr ⟨a, ns, rfl, hs, k.here g rep_int h⟩
  · exact h.elim
theorem qAll_ok : LNR K qAll (rAll K) := fun ds vs G F H Qd Q g r h k => by
  unfold qAll at h
  split at h
  · rename_i x
    obtain ⟨v, rfl, r1⟩ := r.of1
    cases e : (dlst G x).bind blsOf with
    | none => rw [e] at h; exact h.elim
    | some ns => rw [e] at h; obtain ⟨a, rfl, hs⟩ := lstBls g r1 e; exact ⟨a, ns, rfl, hs, k.here g rep_bl h⟩
  · exact h.elim
theorem qAny_ok : LNR K qAny (rAny K) := fun ds vs G F H Qd Q g r h k => by
  unfold qAny at h
  split at h
  · rename_i x
    obtain ⟨v, rfl, r1⟩ := r.of1
    cases e : (dlst G x).bind blsOf with
    | none => rw [e] at h; exact h.elim
    | some ns => rw [e] at h; obtain ⟨a, rfl, hs⟩ := lstBls g r1 e; exact ⟨a, ns, rfl, hs, k.here g rep_bl h⟩
  · exact h.elim
theorem qSorted_ok {m : Bool} : LNR K (qSorted m) (rSortedI K) := fun ds vs G F H Qd Q g r h k => by
  unfold qSorted at h
  split at h
  · rename_i x
    obtain ⟨v, rfl, r1⟩ := r.of1
    cases e : (dlst G x).bind intsOf with
    | none => rw [e] at h; exact h.elim
    | some ns =>
      rw [e] at h
      obtain ⟨a, rfl, hs⟩ := lstInts g r1 e
      refine ⟨a, ns, rfl, hs, fun ms p hp hso hn => ?_⟩
      rw [isort_eq hp hso]
      exact k.lst g Reps.ofInts h p hn
  · exact h.elim
theorem qSortedS_ok {m : Bool} : LNR K (qSortedS m) (rSortedS K) := fun ds vs G F H Qd Q g r h k => by
  unfold qSortedS at h
  split at h
  · rename_i x
    obtain ⟨v, rfl, r1⟩ := r.of1
    cases e : (dlst G x).bind strsOf with
    | none => rw [e] at h; exact h.elim
    | some ns =>
      rw [e] at h
      obtain ⟨a, rfl, hs⟩ := lstStrs g r1 e
      exact ⟨a, ns, rfl, hs, h.1, fun ms p hp hso hn => k.lst g Reps.ofStrs (h.2 ms hp hso) p hn⟩
  · exact h.elim
theorem qInt_ok : LNR K qInt rIntA := fun ds vs G F H Qd Q g r h k => by
  unfold qInt at h
  split at h
  · obtain ⟨v, rfl, r1⟩ := r.of1
    rw [int_rep r1]; exact .inl (.inl ⟨_, rfl, k.here g rep_int h⟩)
  · obtain ⟨v, rfl, r1⟩ := r.of1
    rw [bl_rep r1]; exact .inl (.inr ⟨_, rfl, k.here g rep_int h⟩)
  · obtain ⟨v, rfl, r1⟩ := r.of1
    rw [str_rep r1]
    split at h
    · rename_i n e
      exact .inr ⟨_, n, rfl, e, h.1, k.here g rep_int h.2⟩
    · exact h.elim
  · exact h.elim
theorem qStr_ok : LNR K qStr (fun xs H Q => ∃ i, xs = [.int i] ∧ i.natAbs.log2 < 1920 ∧ Q (.str (toString i)) H) := fun ds vs G F H Qd Q g r h k => by
  unfold qStr at h
  split at h
  · obtain ⟨v, rfl, r1⟩ := r.of1
    rw [int_rep r1]; exact ⟨_, rfl, h.1, k.here g rep_str h.2⟩
  · exact h.elim
theorem qAbs_ok : LNR K qAbs (fun xs H Q => ∃ i, xs = [.int i] ∧ Q (.int (if i < 0 then -i else i)) H) := fun ds vs G F H Qd Q g r h k => by
  unfold qAbs at h
  split at h
  · obtain ⟨v, rfl, r1⟩ := r.of1
    rw [int_rep r1]; exact ⟨_, rfl, k.here g rep_int h⟩
  · exact h.elim
theorem qMax2_ok : LNR K qMax2 (fun xs H Q => ∃ i j, xs = [.int i, .int j] ∧ Q (.int (if j > i then j else i)) H) := fun ds vs G F H Qd Q g r h k => by
  unfold qMax2 at h
  split at h
  · obtain ⟨v, w, rfl, r1, r2⟩ := r.of2
    rw [int_rep r1, int_rep r2]; exact ⟨_, _, rfl, k.here g rep_int h⟩
  · exact h.elim
theorem qMin2_ok : LNR K qMin2 (fun xs H Q => ∃ i j, xs = [.int i, .int j] ∧ Q (.int (if j < i then j else i)) H) := fun ds vs G F H Qd Q g r h k => by
  unfold qMin2 at h
  split at h
  · obtain ⟨v, w, rfl, r1, r2⟩ := r.of2
    rw [int_rep r1, int_rep r2]; exact ⟨_, _, rfl, k.here g rep_int h⟩
  · exact h.elim
end

/-! ### methods -/
def qJoin : QM := fun x ds G Q => match x, ds with
  | .str a, [y] => match (dseq G y).bind strsOf with
    | some ys => (ys.map (·.length)).sum + ys.length * a.length ≤ 16777216 ∧ Q (.str (Txt.join a ys)) G
    | none => False
  | _, _ => False
def qAppend : QM := fun x ds G Q => match x, ds with
  | .ref p, [y] => match G p with
    | some (.lst xs) => xs.length < sizeLine ∧ Q .non (dupd G p (.lst (xs ++ [y])))
    | _ => False
  | _, _ => False
def qPop : QM := fun x ds G Q => match x, ds with
  | .ref p, [] => match G p with
    | some (.lst xs) => match xs[xs.length - 1]? with
      | some y => Q y (dupd G p (.lst xs.dropLast))
      | none => False
    | _ => False
  | _, _ => False
def qExtend : QM := fun x ds G Q => match x, ds with
  | .ref p, [y] => match G p, dlsh G y with
    | some (.lst xs), some ys => xs.length + ys.length ≤ sizeLine ∧ Q .non (dupd G p (.lst (xs ++ ys)))
    | _, _ => False
  | _, _ => False
section
variable {K : PySem.W.Frag}
theorem qJoin_ok : LMR K qJoin (fun x xs H Q => ∃ a p, ∃ ys : List Str, x = .str a ∧ xs = [.ref p] ∧ (SqL K H p (ys.map V.str) ∨ SqT K H p (ys.map V.str)) ∧ (ys.map (·.length)).sum + ys.length * a.length ≤ 16777216 ∧ Q (.str (Txt.join a ys)) H) := fun x v ds vs G F H Qd Q g rx r h k => by
  unfold qJoin at h
  split at h
  · rename_i a y
    obtain ⟨w, rfl, r1⟩ := r.of1
    rw [str_rep rx]
    cases e1 : dseq G y with
    | none => rw [e1] at h; exact h.elim
    | some xs =>
      rw [e1] at h
      simp only [Option.bind_some] at h
      cases e2 : strsOf xs with
      | none => rw [e2] at h; exact h.elim
      | some ys =>
        rw [e2] at h
        obtain ⟨p, ws, rfl, hs, rs⟩ := dseq_rep g r1 e1
        have e3 := strsOf_eq e2
        subst e3
        rw [rs.strs] at hs
        exact ⟨a, p, ys, rfl, rfl, hs, h.1, k.here g rep_str h.2⟩
  · exact h.elim
theorem qAppend_ok : LMR K qAppend rAppend := fun x v ds vs G F H Qd Q g rx r h k => by
  unfold qAppend at h
  split at h
  · rename_i p y
    obtain ⟨w, rfl, r1⟩ := r.of1
    rw [ref_rep rx]
    split at h
    · rename_i xs e
      obtain ⟨_, ho, q, ws, rfl, rs⟩ := g.at_ p _ e
      obtain ⟨x1, g1⟩ := g.put (o' := .lst (xs ++ [y])) (ho := .lst (ws ++ [w])) e ⟨_, rfl, rs.append (.cons r1 .nil)⟩
      exact ⟨p, ws, w, rfl, rfl, q, by rw [← rs.length]; exact h.1, k _ _ F _ _ x1 g1 rep_non h.2⟩
    · exact h.elim
  · exact h.elim
theorem qPop_ok : LMR K qPop rPop := fun x v ds vs G F H Qd Q g rx r h k => by
  unfold qPop at h
  split at h
  · rename_i p
    rw [ref_rep rx, r.inv0]
    split at h
    · rename_i xs e
      split at h
      · rename_i y ey
        obtain ⟨_, ho, q, ws, rfl, rs⟩ := g.at_ p _ e
        obtain ⟨w, ew, rw'⟩ := rs.get ey
        obtain ⟨x1, g1⟩ := g.put (o' := .lst xs.dropLast) (ho := .lst ws.dropLast) e ⟨_, rfl, rs.dropLast⟩
        exact ⟨p, ws, w, rfl, rfl, q, by rw [← rs.length]; exact ew, k _ _ F _ _ x1 g1 (x1.rep _ _ rw') h⟩
      · exact h.elim
    · exact h.elim
  · exact h.elim
theorem qExtend_ok : LMR K qExtend rExtend := fun x v ds vs G F H Qd Q g rx r h k => by
  unfold qExtend at h
  split at h
  · rename_i p y
    obtain ⟨w, rfl, r1⟩ := r.of1
    rw [ref_rep rx]
    split at h
    · rename_i xs ys e ey
      obtain ⟨_, ho, q, ws, rfl, rs⟩ := g.at_ p _ e
      obtain ⟨b, us, rfl, hb, ru⟩ := dlsh_rep g r1 ey
      obtain ⟨x1, g1⟩ := g.put (o' := .lst (xs ++ ys)) (ho := .lst (ws ++ us)) e ⟨_, rfl, rs.append ru⟩
      exact ⟨p, b, ws, us, rfl, rfl, q, hb, by rw [← rs.length, ← ru.length]; exact h.1, k _ _ F _ _ x1 g1 rep_non h.2⟩
    · exact h.elim
  · exact h.elim
end

/-! ### places and slices -/
def qIx : Q2 := fun x y G Q => match x, y with
  | .str z, .int i => z.length ≤ sizeLine ∧ match atI z.cps.toList i with
    | some c => Q (.str ⟨#[c]⟩) G
    | none => False
  | x, .int i => match dseq G x with
    | some xs => match atI xs i with
      | some d => Q d G
      | none => False
    | none => False
  | _, _ => False
def cutL {α : Type} (xs : List α) (lo hi : Option Int) : List α := (xs.drop (HT.sIx xs.length 0 lo)).take (HT.sIx xs.length xs.length hi - HT.sIx xs.length 0 lo)
def qSl (m : Bool) : QS := fun x lo hi G Q => match x with
  | .str z => z.length ≤ sizeLine ∧ Q (.str (cutS z lo hi)) G
  | .tup xs => Q (.tup (cutL xs lo hi)) G
  | x => match dlst G x with
    | some xs => mkL m (cutL xs lo hi) G Q
    | none => False
abbrev rSlAll (K : PySem.W.Frag) : V → Option Int → Option Int → Hp → VK → Prop := fun x lo hi H Q => rSlL K x lo hi H Q ∨ (rSlA K x lo hi H Q ∨ rSlS x lo hi H Q)
theorem sl_all {X : Cx} : SlR X (rSlAll X.K) := sl_list.or (sl_tupA.or sl_str)
section
variable {K : PySem.W.Frag}
theorem qIx_ok : L2R K qIx (rIx K) := fun x y v w G F H Qd Q g rx ry h k => by
  have seqs : ∀ i xs d, dseq G x = some xs → atI xs i = some d → w = .int i → Qd d G → rIx K v w H Q := fun i xs d e1 e2 ew q => by
    obtain ⟨p, ws, rfl, hs, rs⟩ := dseq_rep g rx e1
    obtain ⟨u, eu, ru⟩ := rs.atI e2
    rcases hs with hs | hs
    · exact .inl ⟨p, ws, i, u, rfl, ew, hs, eu, k.here g ru q⟩
    · exact .inr (.inl ⟨p, ws, i, u, rfl, ew, hs, eu, k.here g ru q⟩)
  unfold qIx at h
  split at h
  · rename_i z i
    obtain ⟨h1, h2⟩ := h
    rw [str_rep rx, int_rep ry]
    split at h2
    · rename_i c e
      exact .inr (.inr ⟨z, i, c, rfl, rfl, h1, e, k.here g rep_str h2⟩)
    · exact h2.elim
  · rename_i i _
    split at h
    · rename_i xs e1
      split at h
      · rename_i d e2
        exact seqs i xs d e1 e2 (int_rep ry) h
      · exact h.elim
    · exact h.elim
  · exact h.elim
theorem cutL_rep {H : Hp} {F : Fz} {ds : List D} {vs : List V} (r : Reps K H F ds vs) (lo hi : Option Int) : Reps K H F (cutL ds lo hi) (cutV vs lo hi) := by
  unfold cutL cutV
  rw [← r.length]
  exact (r.drop _).take _
theorem qSl_ok {m : Bool} : LSR K (qSl m) (rSlAll K) := fun x v lo hi G F H Qd Q g rx h k => by
  unfold qSl at h
  split at h
  · rename_i z
    rw [str_rep rx]
    exact .inr (.inr ⟨z, rfl, h.1, k.here g rep_str h.2⟩)
  · rename_i xs
    obtain ⟨a, vs, rfl, hs, rs⟩ := tup_rep rx
    refine .inr (.inl ⟨a, vs, rfl, hs, fun ⟨e1, e2⟩ => ?_, fun _ => k.tup g (cutL_rep rs lo hi) h⟩)
    have e : cutL xs lo hi = xs := by
      unfold cutL
      rw [rs.length, e1, e2, ← rs.length]
      simp
    rw [e] at h
    exact k.here (d := .tup xs) g rx h
  · cases e : dlst G x with
    | none => rw [e] at h; exact h.elim
    | some xs =>
      rw [e] at h
      obtain ⟨a, vs, rfl, hs, rs⟩ := dlst_rep g rx e
      exact .inl ⟨a, vs, rfl, hs, k.lst g (cutL_rep rs lo hi) h⟩
end
/-- xs[::-1], a list -/
def dRevL (m : Bool) (te : DTE) : DTE := fun W σ G Q => te W σ G fun x G1 => match dlst G1 x with
  | some xs => mkL m xs.reverse G1 Q
  | none => False
theorem de_revL {X : Cx} {Γ : Amb} {e : Expr} {te : DTE} {m : Bool} {k : Nat} {p1 p2 p3 pos : Pos} (he : DE X Γ e te) : DE X Γ (.Subscript e (.Slice none none (some (.UnaryOp .USub (.Constant (.int 1) k p1) p2)) p3) pos) (dRevL m te) :=
  pe_of (pe_revL he) fun σ H Q ⟨σd, G, F, Wd, Qd, w, hp, cv, ht, k⟩ => ⟨σd, G, F, Wd, _, w, hp, cv, ht, fun x G1 F1 v H1 e1 g1 r1 q1 => by
    cases e : dlst G1 x with
    | none => rw [e] at q1; exact q1.elim
    | some xs =>
      rw [e] at q1
      obtain ⟨a, vs, rfl, hs, rs⟩ := dlst_rep g1 r1 e
      exact ⟨a, vs, rfl, hs, Kont.lst (fun d G' F' v' H' e3 g3 r3 q3 => k d G' F' v' H' (e1.trans e3) g3 r3 q3) g1 rs.reverse q1⟩⟩
end DL

/-! D8: zip and enumerate over lists, tuples and texts in any mix. -/
namespace DL
open PySem PySem.Spec L2

/-- its iterator at turn i -/
def IsIt (h : Heap) (ty : String) (u : Value) (it : Addr) (i : Nat) : Prop := ∃ o, h.get? it = some o ∧ o.cls = .type ty ∧ o.data = .fields #[u, .int i 0]
def sty (k : Nat) (u : Value) : String := match k, u with
  | 0, _ => "list_iterator"
  | 1, _ => "tuple_iterator"
  | _, .str z _ => PySem.strIterType z
  | _, _ => ""
/-- of which kind (0 a list, 1 a tuple, 2 a text) -/
inductive SrcK (K : PySem.W.Frag) (H : Hp) : Nat → V → List V → Prop
  | lst {a : Addr} {vs : List V} (h : SqL K H a vs) : SrcK K H 0 (.ref a) vs
  | tup {a : Addr} {vs : List V} (h : SqT K H a vs) : SrcK K H 1 (.ref a) vs
  | str (z : Str) : SrcK K H 2 (.str z) (z.cps.toList.map fun c => .str ⟨#[c]⟩)
theorem IsIt.at {h h' : Heap} {ty : String} {u : Value} {it : Addr} {i : Nat} (x : IsIt h ty u it i) (k : ∀ o, h.get? it = some o → h'.get? it = some o) : IsIt h' ty u it i := let ⟨o, e, r⟩ := x; ⟨o, k o e, r⟩
section
variable {X : Cx} {pins : List (Addr × Obj)} {σ : L2.St} {H : Hp} {s : Shared} {K : PySem.W.Frag}
/-- how it is drawn from -/
theorem SrcK.draws (I : L2.Inv X pins σ H s) {k : Nat} {x : V} {vs : List V} {u : Value} {it : Addr} (h : SrcK X.K H k x vs) (r : RelV x u) (ne : ∀ a, u = .ref a → a ≠ it) (hh : X.A.handled = none) : ∃ (fp : List Addr) (P : Nat → Value → Prop) (St : Nat → Heap → Prop),
    Draws X.prog X.w X.A.in1 it fp vs.length P St ∧ (∀ b, b ∈ fp → b = it ∨ u = .ref b) ∧ it ∈ fp ∧ (∀ i, IsIt s.heap (sty k u) u it i → St i s.heap) ∧ (∀ i h', St i h' → IsIt h' (sty k u) u it i) ∧ ∀ i y, P i y → ∃ v, vs[i]? = some v ∧ RelV v y := by
  have hh1 : X.A.in1.handled = none := hh
  cases h with
  | @lst a _ hs =>
    cases r
    obtain ⟨its, rv, pl, _⟩ := I.list hs
    have d := Draws.list (prog := X.prog) (w := X.w) hh1 it a (ne a rfl) its.toArray
    have e : its.toArray.size = vs.length := by rw [rv.length]; simp
    rw [e] at d
    refine ⟨_, _, _, d, fun b hb => ?_, by simp, fun i q => ⟨q, pl.isList⟩, fun i h' q => q.1, fun i y q => ?_⟩
    · simp at hb
      rcases hb with hb | hb
      · exact .inl hb
      · exact .inr (by rw [hb])
    · have q' : its[i]? = some y := by simpa using q
      cases ev : vs[i]? with
      | none => rw [rv.none_of ev] at q'; cases q'
      | some v => obtain ⟨u2, e2, r2⟩ := rv.get ev; rw [e2] at q'; cases q'; exact ⟨v, rfl, r2⟩
  | @tup a _ hs =>
    cases r
    obtain ⟨its, rv, pl, _⟩ := I.tuple hs
    have d := Draws.tuple (prog := X.prog) (w := X.w) hh1 it a (ne a rfl) its.toArray
    have e : its.toArray.size = vs.length := by rw [rv.length]; simp
    rw [e] at d
    refine ⟨_, _, _, d, fun b hb => ?_, by simp, fun i q => ⟨q, pl⟩, fun i h' q => q.1, fun i y q => ?_⟩
    · simp at hb
      rcases hb with hb | hb
      · exact .inl hb
      · exact .inr (by rw [hb])
    · have q' : its[i]? = some y := by simpa using q
      cases ev : vs[i]? with
      | none => rw [rv.none_of ev] at q'; cases q'
      | some v => obtain ⟨u2, e2, r2⟩ := rv.get ev; rw [e2] at q'; cases q'; exact ⟨v, rfl, r2⟩
  | str z =>
    obtain ⟨t, rfl⟩ := r
    have d := Draws.text (prog := X.prog) (w := X.w) hh1 it z t
    have e : z.cps.size = (z.cps.toList.map fun c => V.str ⟨#[c]⟩).length := by simp
    rw [e] at d
    refine ⟨_, _, _, d, fun b hb => .inl (by simpa using hb), by simp, fun i q => q, fun i h' q => q, fun i y q => ?_⟩
    obtain ⟨c, t', q1, rfl⟩ := q
    refine ⟨.str ⟨#[c]⟩, ?_, ⟨t', rfl⟩⟩
    rw [List.getElem?_map]
    have : z.cps.toList[i]? = some c := by simpa using q1
    rw [this]; rfl
theorem SrcK.inj (I : L2.Inv X pins σ H s) {k : Nat} {x : V} {vs ws : List V} (h : SrcK X.K H k x vs) (h' : SrcK X.K H k x ws) : vs = ws := by
  cases h with
  | lst h => cases h' with | lst h' => exact I.list_inj h h'
  | tup h => cases h' with | tup h' => exact I.tuple_inj h h'
  | str z => cases h'; rfl
end
structure ZApart (z TI TO i1 i2 : Addr) (u1 u2 : Value) : Prop where
  TIz : TI ≠ z
  TOz : TO ≠ z
  TITO : TI ≠ TO
  TIi1 : TI ≠ i1
  TIi2 : TI ≠ i2
  TOi1 : TO ≠ i1
  TOi2 : TO ≠ i2
  zi1 : z ≠ i1
  zi2 : z ≠ i2
  i12 : i1 ≠ i2
  s1 : ∀ a, u1 = .ref a → a ≠ z ∧ a ≠ TO ∧ a ≠ i1 ∧ a ≠ i2
  s2 : ∀ a, u2 = .ref a → a ≠ z ∧ a ≠ TO ∧ a ≠ i1 ∧ a ≠ i2
theorem ZApart.sep {z TI TO i1 i2 : Addr} {u1 u2 : Value} (D : ZApart z TI TO i1 i2 u1 u2) {fp1 fp2 : List Addr} (h1 : ∀ b, b ∈ fp1 → b = i1 ∨ u1 = .ref b) (h2 : ∀ b, b ∈ fp2 → b = i2 ∨ u2 = .ref b) (m1 : i1 ∈ fp1) (m2 : i2 ∈ fp2) : ZipSep2 z TI TO i1 i2 fp1 fp2 where
  TIz := D.TIz
  TOz := D.TOz
  TITO := D.TITO
  TIi1 := D.TIi1
  mem1 := m1
  zf1 := fun h => (h1 _ h).elim D.zi1 fun e => (D.s1 _ e).1 rfl
  Tf1 := fun h => (h1 _ h).elim D.TOi1 fun e => (D.s1 _ e).2.1 rfl
  TIi2 := D.TIi2
  mem2 := m2
  zf2 := fun h => (h2 _ h).elim D.zi2 fun e => (D.s2 _ e).1 rfl
  Tf2 := fun h => (h2 _ h).elim D.TOi2 fun e => (D.s2 _ e).2.1 rfl
  sep1_2 := fun h => (h2 _ h).elim D.i12 fun e => (D.s2 _ e).2.2.1 rfl
  sep2_1 := fun h => (h1 _ h).elim (fun e => D.i12 e.symm) fun e => (D.s1 _ e).2.2.2 rfl
/-- pairs of what two things yield -/
def ItzU (K : PySem.W.Frag) (k1 k2 : Nat) (x y : V) : It :=
  ⟨fun i H => ∃ (xs ys : List V) (a b : V), SrcK K H k1 x xs ∧ SrcK K H k2 y ys ∧ xs[i]? = some a ∧ ys[i]? = some b,
    fun i H v H' => ∃ T a b, v = .ref T ∧ H T = none ∧ H' = upd H T (.tup [a, b]) ∧ (∀ xs, SrcK K H k1 x xs → xs[i]? = some a) ∧ ∀ ys, SrcK K H k2 y ys → ys[i]? = some b,
    fun i H => ∃ xs ys : List V, SrcK K H k1 x xs ∧ SrcK K H k2 y ys ∧ i ≤ xs.length ∧ i ≤ ys.length ∧ (i = xs.length ∨ i = ys.length)⟩
theorem turn_zipU {P : Program} {w : World} {K : PySem.W.Frag} {elts : List Expr} {kk : Nat} {tpos : Pos} {z TI TO i1 i2 : Addr} {k1 k2 : Nat} {x y : V} {u1 u2 : Value} (D : ZApart z TI TO i1 i2 u1 u2) (rx : RelV x u1) (ry : RelV y u2) :
    Turn P w K (.Tuple elts kk tpos) (ItzU K k1 k2 x y) [z, TI, TO, i1, i2] z (fun i h => IsZip h z TI TO .none ∧ IsTupOf2 h TI (.ref i1) (.ref i2) ∧ (∃ a b, IsTupOf2 h TO a b) ∧ IsIt h (sty k1 u1) u1 i1 i ∧ IsIt h (sty k2 u2) u2 i2 i) where
  mem := by simp
  obj := fun i h st c hc => by
    obtain ⟨hz, hTI, ⟨_, _, hTO⟩, ⟨o1, e1, _, d1⟩, ⟨o2, e2, _, d2⟩⟩ := st
    simp only [List.mem_cons, List.not_mem_nil, or_false] at hc
    rcases hc with rfl | rfl | rfl | rfl | rfl
    · exact ⟨_, hz, fun v q => nomatch q⟩
    · exact ⟨_, hTI, fun v q => nomatch q⟩
    · exact ⟨_, hTO, fun v q => nomatch q⟩
    · exact ⟨o1, e1, fun v q => by rw [d1] at q; cases q⟩
    · exact ⟨o2, e2, fun v q => by rw [d2] at q; cases q⟩
  keep := fun i h h' st k => by
    obtain ⟨hz, hTI, ⟨_, _, hTO⟩, h1, h2⟩ := st
    exact ⟨k z (by simp) _ hz, k TI (by simp) _ hTI, ⟨_, _, k TO (by simp) _ hTO⟩, h1.at (k i1 (by simp)), h2.at (k i2 (by simp))⟩
  item := by
    intro X hP hw hK hc i pins s σ H E I hf st hg
    subst hP hw hK
    obtain ⟨hz, hTI, ⟨a0, b0, hTO⟩, h1, h2⟩ := st
    obtain ⟨xs, ys, a, b, hx, hy, ha, hb⟩ := hg
    obtain ⟨fp1, P1, St1, D1, f1, m1, i1a, i1b, p1⟩ := hx.draws I rx (fun c e => (D.s1 c e).2.2.1) (I.ok.hd hc)
    obtain ⟨fp2, P2, St2, D2, f2, m2, i2a, i2b, p2⟩ := hy.draws I ry (fun c e => (D.s2 c e).2.2.2) (I.ok.hd hc)
    have hl1 : i < xs.length := (List.getElem?_eq_some_iff.mp ha).1
    have hl2 : i < ys.length := (List.getElem?_eq_some_iff.mp hb).1
    have hzl : z < s.heap.objs.size := Heap.lt_size hz
    refine wpAny_pyNext_zipD2_item (D.sep f1 f2 m1 m2) D1 D2 hz hTI hTO (i1a i h1) (i2a i h2) hl1 hl2 fun w1 w2 h' tk q1 q2 z' TO' s1' s2' hT hsz hk => ?_
    obtain ⟨a', ea, ra⟩ := p1 _ _ q1
    obtain ⟨b', eb, rb⟩ := p2 _ _ q2
    rw [ha] at ea; cases ea
    rw [hb] at eb; cases eb
    refine ⟨_, rfl, wpAny_letOwnedTupleGo_zip (s := { s with heap := h', toks := tk }) z' fun h'' z'' sb => ?_⟩
    have hT2 : h''.get? s.heap.objs.size = some { cls := .type "tuple", data := .seq #[w1, w2] } := (sb.2 _ (Nat.ne_of_gt hzl)).trans hT
    have new : ObjOk X.prog X.w (upd H s.heap.objs.size (.tup [a, b])) h'' s.heap.objs.size (.tup [a, b]) :=
      ⟨by show 2 ≤ sizeLine; decide, [w1, w2], .cons ra (.cons rb .nil), ⟨_, hT2, rfl, _, rfl⟩⟩
    have I1 : Inv X pins σ (upd H s.heap.objs.size (.tup [a, b])) { s with heap := h'', toks := tk } :=
      I.turnedNew (t' := tk) (ch := [z, TI, TO, i1, i2]) (fun c o hn q => (sb.2 c (fun e => hn (by simp [e]))).trans (hk c o (fun e => hn (by simp [e])) (fun e => hn (by simp [e])) (fun e => hn (by simp [e])) (fun e => hn (by simp [e])) q)) hf (Nat.le_refl _) new
    refine ⟨.ref s.heap.objs.size, _, I1, rfl, ⟨_, a, b, rfl, I.hok.fresh (Nat.le_refl _), rfl, fun l hl => by rw [hl.inj I hx]; exact ha, fun l hl => by rw [hl.inj I hy]; exact hb⟩, ⟨z'', ?_, ⟨w1, w2, ?_⟩, ?_, ?_⟩, fun c hcm => ?_⟩
    · exact (sb.2 _ D.TIz).trans (hk _ _ D.TIz D.TITO D.TIi1 D.TIi2 hTI)
    · exact (sb.2 _ D.TOz).trans TO'
    · exact (i1b _ _ s1').at fun o q => (sb.2 _ (Ne.symm D.zi1)).trans q
    · exact (i2b _ _ s2').at fun o q => (sb.2 _ (Ne.symm D.zi2)).trans q
    · have hlt : c < s.heap.objs.size := by
        simp only [List.mem_cons, List.not_mem_nil, or_false] at hcm
        rcases hcm with rfl | rfl | rfl | rfl | rfl
        · exact hzl
        · exact Heap.lt_size hTI
        · exact Heap.lt_size hTO
        · obtain ⟨_, e1, _⟩ := h1; exact Heap.lt_size e1
        · obtain ⟨_, e2, _⟩ := h2; exact Heap.lt_size e2
      rw [upd_ne (Nat.ne_of_lt hlt)]
      exact (hf c hcm).1
  done := by
    intro X hP hw hK hc i pins s σ H E I hf st hg
    subst hP hw hK
    obtain ⟨hz, hTI, ⟨a0, b0, hTO⟩, h1, h2⟩ := st
    obtain ⟨xs, ys, hx, hy, hl1, hl2, hend⟩ := hg
    obtain ⟨fp1, P1, St1, D1, f1, m1, i1a, i1b, p1⟩ := hx.draws I rx (fun c e => (D.s1 c e).2.2.1) (I.ok.hd hc)
    obtain ⟨fp2, P2, St2, D2, f2, m2, i2a, i2b, p2⟩ := hy.draws I ry (fun c e => (D.s2 c e).2.2.2) (I.ok.hd hc)
    exact wpAny_pyNext_zipD2_end (D.sep f1 f2 m1 m2) D1 D2 hz hTI hTO (i1a i h1) (i2a i h2) hl1 hl2 hend fun h' tk hk => ⟨rfl, I.turnedL (t' := tk) (ch := [z, TI, TO, i1, i2]) (fun c o hn q =>
      hk c o (fun e => hn (by simp [e])) (fun e => hn (by simp [e])) (fun e => hn (by simp [e])) (fun e => hn (by simp [e])) q) hf⟩
  self := fun A i s Q E st h => wpAny_pyIter_zip st.1 h
theorem SrcK.starts {X : Cx} {pins : List (Addr × Obj)} {σ : L2.St} {H : Hp} {s : Shared} (I : L2.Inv X pins σ H s) {k : Nat} {x : V} {vs : List V} {u : Value} (h : SrcK X.K H k x vs) (r : RelV x u) : ∃ (o : Obj) (Hb : Heap → Prop), Begins u o Hb ∧ Hb s.heap ∧ o.cls = .type (sty k u) ∧ o.data = .fields #[u, .int 0 0] ∧ ∀ a, u = .ref a → a < s.heap.objs.size := by
  cases h with
  | @lst a _ hs =>
    cases r
    obtain ⟨its, rv, pl, _⟩ := I.list hs
    exact ⟨_, _, begins_list a its.toArray, pl.isList, rfl, rfl, fun b e => by cases e; exact pl.lt⟩
  | @tup a _ hs =>
    cases r
    obtain ⟨its, rv, pl, _⟩ := I.tuple hs
    exact ⟨_, _, begins_tuple a its.toArray, pl, rfl, rfl, fun b e => by cases e; obtain ⟨o, ho, _⟩ := pl; exact Heap.lt_size ho⟩
  | str z =>
    obtain ⟨t, rfl⟩ := r
    exact ⟨_, _, begins_text z t, trivial, rfl, rfl, fun b e => by cases e⟩
def iZipU (K : PySem.W.Frag) (ta : TA) : TI := fun σ H R => ta σ H fun vs H1 => ∃ x y k1 k2 xs ys, vs = [x, y] ∧ SrcK K H1 k1 x xs ∧ SrcK K H1 k2 y ys ∧ R (ItzU K k1 k2 x y) H1
theorem pi_zipU {X : Cx} {e e2 : Expr} {ta : TA} {p pos tpos : Pos} {elts : List Expr} {kk : Nat} (hg : Gl X "zip") (hm : X.mg "zip" = none) (ha : PA X [e, e2] ta)
    (hs : starEach [e, e2] X.env = (false, eval e X.env) :: starEach [e2] X.env := by rfl) (hpl : (backTo pos (starEach [e2] X.env)).any (·.1) = false := by rfl) :
    PI X (.Tuple elts kk tpos) (.Call (.Name "zip" p) [e, e2] [] pos) (iZipU X.K ta) := by
  constructor
  intro pins s σ H R I h
  refine PyProof.Rows.Call_ (ld_blt I hg hm PyProof.Rows.boot_zip (PyProof.Rows.callWith_type1 (thn (ha.run pos pins s σ H _ I h) fun us s1 ⟨vs, H1, I1, r1, q1⟩ => ?_) hs hpl))
  obtain ⟨x, y, k1, k2, xs, ys, rfl, h1, h2, q⟩ := q1
  obtain ⟨u1, u2, rfl, rx, ry⟩ := vals2 r1
  obtain ⟨o1, B1, b1, c1, d1, e1, l1⟩ := h1.starts I1 rx
  obtain ⟨o2, B2, b2, c2, d2, e2', l2⟩ := h2.starts I1 ry
  refine zip_begins2 b1 b2 c1 c2 fun h' hz hTI hTO g1 g2 hsz hk => wpAny_pyIter_zip hz ?_
  have I2 : L2.Inv X pins σ H1 { s1 with heap := h' } := I1.kept (t' := s1.toks) hk
  have D : ZApart (s1.heap.objs.size + 4) (s1.heap.objs.size + 2) (s1.heap.objs.size + 3) s1.heap.objs.size (s1.heap.objs.size + 1) u1 u2 := by
    have gt : ∀ (a n : Nat), a < n → a ≠ n + 4 ∧ a ≠ n + 3 ∧ a ≠ n ∧ a ≠ n + 1 := fun a n h => by omega
    have ap : ∀ n : Nat, n + 2 ≠ n + 4 ∧ n + 3 ≠ n + 4 ∧ n + 2 ≠ n + 3 ∧ n + 2 ≠ n ∧ n + 2 ≠ n + 1 ∧ n + 3 ≠ n ∧ n + 3 ≠ n + 1 ∧ n + 4 ≠ n ∧ n + 4 ≠ n + 1 ∧ n ≠ n + 1 := fun n => by omega
    obtain ⟨a1, a2, a3, a4, a5, a6, a7, a8, a9, a10⟩ := ap s1.heap.objs.size
    exact ⟨a1, a2, a3, a4, a5, a6, a7, a8, a9, a10, fun a e => gt _ _ (l1 a e), fun a e => gt _ _ (l2 a e)⟩
  refine ⟨s1.heap.objs.size + 4, [s1.heap.objs.size + 4, s1.heap.objs.size + 2, s1.heap.objs.size + 3, s1.heap.objs.size, s1.heap.objs.size + 1], _, _, H1, rfl, I2, turn_zipU (k1 := k1) (k2 := k2) D rx ry, ⟨hz, hTI, ⟨_, _, hTO⟩, ⟨o1, g1, d1, e1⟩, ⟨o2, g2, d2, e2'⟩⟩, fun c hc => ?_, q⟩
  have hle : s1.heap.objs.size ≤ c := by
    simp only [List.mem_cons, List.not_mem_nil, or_false] at hc
    rcases hc with rfl | rfl | rfl | rfl | rfl
    · exact Nat.le_add_right _ _
    · exact Nat.le_add_right _ _
    · exact Nat.le_add_right _ _
    · exact Nat.le_refl _
    · exact Nat.le_add_right _ _
  exact I1.fpOk hle (I1.hok.fresh hle)
theorem itD_src {K : PySem.W.Frag} {H : Hp} {F : Fz} {d : D} {v : V} {ds : List D} (e : itD d = some ds) (r : Rep K H F d v) : ∃ k vs, Reps K H F ds vs ∧ ∀ F2 H2, Ext0 F H F2 H2 → SrcK K H2 k v vs := by
  cases d with
  | tup xs => cases e; obtain ⟨a, vs, rfl, h, rs⟩ := tup_rep r; exact ⟨1, vs, rs, fun F2 H2 x => .tup (x.sqt h)⟩
  | lst xs =>
    cases e
    unfold Rep at r
    obtain ⟨a, vs, rfl, h, rs⟩ := r
    exact ⟨0, vs, rs, fun F2 H2 x => .lst (SqL.of (x.frzl h).2)⟩
  | scr ns =>
    cases e
    unfold Rep at r
    obtain ⟨a, rfl, h⟩ := r
    exact ⟨0, _, Reps.ofInts, fun F2 H2 x => .lst (scr_sql (x.scrl h))⟩
  | str z =>
    cases e
    rw [str_rep r]
    refine ⟨2, _, ?_, fun F2 H2 x => .str z⟩
    have go : ∀ l : List Nat, Reps K H F (l.map fun c => D.str ⟨#[c]⟩) (l.map fun c => V.str ⟨#[c]⟩) := fun l => by
      induction l with
      | nil => exact .nil
      | cons a l ih => exact .cons rep_str ih
    exact go _
  | _ => cases e
def zipD (a b : List D) : List D := List.zipWith (fun p q => D.tup [p, q]) a b
theorem yields_zip {K : PySem.W.Frag} {H : Hp} {F : Fz} {k1 k2 : Nat} {x y : V} {xs ys : List V} {ds es : List D} (h1 : ∀ F2 H2, Ext0 F H F2 H2 → SrcK K H2 k1 x xs) (h2 : ∀ F2 H2, Ext0 F H F2 H2 → SrcK K H2 k2 y ys) (r1 : Reps K H F ds xs) (r2 : Reps K H F es ys) : Yields K (ItzU K k1 k2 x y) F H (zipD ds es) := fun F2 H2 e => by
  have lz : (zipD ds es).length = min xs.length ys.length := by unfold zipD; rw [List.length_zipWith, r1.length, r2.length]
  refine ⟨fun i d hd => ?_, ⟨xs, ys, h1 F2 H2 e, h2 F2 H2 e, by rw [lz]; exact Nat.min_le_left _ _, by rw [lz]; exact Nat.min_le_right _ _, by rw [lz]; omega⟩⟩
  unfold zipD at hd
  rw [List.getElem?_zipWith] at hd
  cases q1 : ds[i]? with
  | none => rw [q1] at hd; cases hd
  | some p =>
    cases q2 : es[i]? with
    | none => rw [q1, q2] at hd; cases hd
    | some q =>
      rw [q1, q2] at hd
      cases hd
      obtain ⟨a, ha, ra⟩ := (e.reps _ _ r1).get q1
      obtain ⟨b, hb, rb⟩ := (e.reps _ _ r2).get q2
      refine ⟨⟨xs, ys, a, b, h1 F2 H2 e, h2 F2 H2 e, ha, hb⟩, fun v H3 y => ?_⟩
      obtain ⟨T, a', b', rfl, hT, rfl, f1, f2⟩ := y
      have ea := f1 xs (h1 F2 H2 e)
      have eb := f2 ys (h2 F2 H2 e)
      rw [ha] at ea; cases ea
      rw [hb] at eb; cases eb
      have x2 : Ext F2 H2 F2 (upd H2 T (.tup [a, b])) := Ext.new hT
      refine ⟨x2, fun G g => g.old hT, ?_⟩
      unfold Rep
      exact ⟨T, [a, b], rfl, SqT.of upd_same, .cons (x2.rep _ _ ra) (.cons (x2.rep _ _ rb) .nil)⟩
def dZip (t : DTA) : DTI := fun W σ G Q => t W σ G fun xs G1 => match xs with
  | [x, y] => match itD x, itD y with
    | some a, some b => Q (zipD a b) G1
    | _, _ => False
  | _ => False
theorem di_zip {X : Cx} {Γ : Amb} {e e2 : Expr} {t : DTA} {p pos tpos : Pos} {elts : List Expr} {kk : Nat} (hg : Gl X "zip") (hm : X.mg "zip" = none) (ha : DA X Γ [e, e2] t)
    (hs : starEach [e, e2] X.env = (false, eval e X.env) :: starEach [e2] X.env := by rfl) (hpl : (backTo pos (starEach [e2] X.env)).any (·.1) = false := by rfl) :
    DI X Γ (.Tuple elts kk tpos) (.Call (.Name "zip" p) [e, e2] [] pos) (dZip t) :=
  pi_of (pi_zipU hg hm ha hs hpl) fun σ H R ⟨σd, G, F, Wd, Qd, w, hp, cv, ht, k⟩ => ⟨σd, G, F, Wd, _, w, hp, cv, ht, fun xs G1 F1 vs H1 e1 g1 r1 q1 => by
    split at q1
    · rename_i x y
      obtain ⟨v1, v2, rfl, rx, ry⟩ := r1.of2
      split at q1
      · rename_i a b ea eb
        obtain ⟨k1, us, ra, s1⟩ := itD_src ea rx
        obtain ⟨k2, ws, rb, s2⟩ := itD_src eb ry
        exact ⟨v1, v2, k1, k2, us, ws, rfl, s1 F1 H1 Ext0.refl, s2 F1 H1 Ext0.refl, k _ G1 F1 _ H1 e1 g1 (yields_zip s1 s2 ra rb) q1⟩
      · exact q1.elim
    · exact q1.elim⟩
end DL

/-! D9: calls by keywords, a module's names, isinstance of an error. -/
namespace DL
open PySem PySem.Spec L2

/-! ### by keywords -/
def pick {α : Type} : List Nat → List α → List α
  | [], _ => []
  | i :: r, xs => match xs[i]? with
    | some x => x :: pick r xs
    | none => pick r xs
theorem pick_vals {vs : List V} {us : List Value} (h : Vals vs us) : ∀ ix : List Nat, Vals (pick ix vs) (pick ix us)
  | [] => .nil
  | i :: r => by
    unfold pick
    cases ev : vs[i]? with
    | none => rw [h.none_of ev]; exact pick_vals h r
    | some v => obtain ⟨u, e, q⟩ := h.get ev; rw [e]; exact .cons q (pick_vals h r)
theorem pick_reps {K : PySem.W.Frag} {H : Hp} {F : Fz} {ds : List D} {vs : List V} (h : Reps K H F ds vs) : ∀ ix : List Nat, Reps K H F (pick ix ds) (pick ix vs)
  | [] => .nil
  | i :: r => by
    unfold pick
    cases ev : ds[i]? with
    | none =>
      have : vs[i]? = none := by rw [List.getElem?_eq_none_iff] at ev ⊢; rw [← h.length]; exact ev
      rw [this]; exact pick_reps h r
    | some v => obtain ⟨u, e, q⟩ := h.get ev; rw [e]; exact .cons q (pick_reps h r)
/-- how positional values and those by keywords come to the parameters -/
def KwB (x : Str) (st : Stmt) (ps ks : List Str) (m : Nat) (ix : List Nat) : Prop := ∀ (kV doc pm : Value) (an : Option Addr) (cdv ct : Value) (us ws : List Value), us.length = m → ws.length = ks.length →
  PySem.bindArgs (PySem.W.fnOf x x (defArgs st) (defBody st) (defScope st) .none kV doc pm an cdv ct) ⟨us, ks.zip ws⟩ = pure (ps.zip (pick ix (us ++ ws)))
section
variable {X : Cx} {Γ : Amb} {e : Expr} {es : List Expr} {kws : List Keyword} {t tk : DTA} {ta : DTE} {pos p kpos : Pos} {x : Str} {ps ks : List Str} {sp : DSp} {k m : Nat} {ix : List Nat} {st : Stmt} {nm : Option Str}
theorem run_fnkw {pins : List (Addr × Obj)} {σ : L2.St} {H : Hp} {s : Shared} {Q : VK} {us ws : List Value} {vs : List V} {f : Addr} {fd : FuncData} {CX : CXT} {spv : Sp} {E : L2.St → XK} (F : FnOk X.prog X.w X.K X.mg X.base CX k f fd ps spv) (hr : Room k X.A)
    (hb : BindsTo s fd ⟨us, ks.zip ws⟩ (ps.zip (pick ix (us ++ ws)))) (hx : PassesAt CX X σ (E σ)) (I : Inv X pins σ H s) (r : Vals vs (pick ix (us ++ ws))) (h : spv vs H Q (E σ)) :
    wpAny (model X.prog X.w) X.A (call (.ref f) us (ks.zip ws)) (EP X pins σ Q) X.xe s := by
  refine wpAny_call (codeAny_mono (F.run X.A X.stack s H ⟨us, ks.zip ws⟩ (pick ix (us ++ ws)) vs Q (E σ) hr I.env0 hb r h) fun r s' hq => ?_)
  cases r with
  | error e => exact hx pins H s e s' I hq
  | ok fl =>
    cases fl with
    | ret u => exact I.after hq
    | next => exact False.elim hq
    | brk => exact False.elim hq
    | cont => exact False.elim hq
def DKw (X : Cx) (Γ : Amb) (kws : List Keyword) (t : DTA) : Prop := PK X kws (LA X.K Γ t)
theorem pk_of {e : List Keyword} {t u : TA} (h : PK X e u) (i : ∀ σ H Q, t σ H Q → u σ H Q) : PK X e t := ⟨fun pos pins s σ H Q I q => h.run pos pins s σ H Q I (i _ _ _ q)⟩
theorem dkw_nil : DKw X Γ [] dNil := pk_of pk_nil fun σ H Q ⟨σd, G, F, Wd, Qd, w, hp, cv, q, k⟩ => k [] G F [] H Ext.refl w.gr .nil q
theorem dkw_cons (ha : DE X Γ e ta) (hr : DKw X Γ kws t) : DKw X Γ (⟨nm, e, kpos⟩ :: kws) (dCons ta t) := pk_of (pk_cons ha hr) fun σ H Q ⟨σd, G, F, Wd, Qd, w, hp, cv, ht, k⟩ =>
  ⟨σd, G, F, Wd, _, w, hp, cv, ht, fun x G1 F1 v H1 e1 g1 r1 q1 => ⟨σd, G1, F1, Wd, _, w.ext e1 g1, Γ.mono _ _ _ _ e1.toExt0 hp, cv.ext e1, q1, fun xs G2 F2 vs H2 e2 g2 r2 q2 =>
    k (x :: xs) G2 F2 (v :: vs) H2 (e1.trans e2) g2 (.cons (e2.rep _ _ r1) r2) q2⟩⟩
def dCallK (m n : Nat) (ix : List Nat) (sp : DSp) (t tk : DTA) : DTE := fun W σ G Q => t W σ G fun xs G1 => tk W σ G1 fun zs G2 => (xs.length = m ∧ zs.length = n) ∧ sp (pick ix (xs ++ zs)) G2 Q fun x G3 => W x σ G3
theorem de_callK (hF : Has X.prog X.w X.K X.mg X.base k x st ps sp) (hr : Room k X.A) (hg : Gl X x) (tw : Takes X Γ.W) (hkb : KwB x st ps ks m ix) (ha : DA X Γ (e :: es) t) (hkw : DKw X Γ kws tk)
    (hall : (backToKw pos (keywordEach kws X.env)).all (·.1.isSome) = true := by rfl) (hks : (backToKw pos (keywordEach kws X.env)).filterMap (·.1) = ks := by rfl)
    (hdb : (x == ("__debug__" : Str)) = false := by decide) (he : starEach (e :: es) X.env = (false, eval e X.env) :: starEach es X.env := by rfl)
    (hpl : ((backTo pos (starEach (e :: es) X.env)).any (·.1) || (backToKw pos (keywordEach kws X.env)).any (·.1.isNone)) = false := by rfl) :
    DE X Γ (.Call (.Name x p) (e :: es) kws pos) (dCallK m ks.length ix sp t tk) := by
  obtain ⟨f, fd, hm, hfn, _, F⟩ := hF
  have hk := hfn.kp
  obtain ⟨oc, od, kV, doc, pm, an, cdv, ct, osl, rfl, lk, hcd⟩ := hfn.ex
  refine ⟨fun pins s σ H Q I ⟨σd, G, F0, Wd, Qd, w, hp, cv, ht, kk⟩ => ?_⟩
  refine wpAny_Call_Name_kw (ld_glob I hg hm ?_ hdb)
  refine PySem.W.callWith_KW (h₀ := X.base) I.ok.mod.kin hk hall (thn (ha.run pos pins s σ H (fun vs H1 => ∃ xs G1 F1, Ext F0 H F1 H1 ∧ GRel X.K H1 F1 G1 ∧ Reps X.K H1 F1 xs vs ∧ tk Wd σd G1 fun zs G2 => (xs.length = m ∧ zs.length = ks.length) ∧ sp (pick ix (xs ++ zs)) G2 Qd fun x G3 => Wd x σd G3) I
    ⟨σd, G, F0, Wd, _, w, hp, cv, ht, fun xs G1 F1 vs H1 e1 g1 r1 q1 => ⟨xs, G1, F1, e1, g1, r1, q1⟩⟩) fun us s1 ⟨vs, H1, I1, r, xs, G1, F1, e1, g1, r1, q1⟩ => ?_) hpl he
  refine thn (hkw.run pos pins s1 σ H1 (fun ws H2 => ∃ zs G2 F2, Ext F1 H1 F2 H2 ∧ GRel X.K H2 F2 G2 ∧ Reps X.K H2 F2 zs ws ∧ (xs.length = m ∧ zs.length = ks.length) ∧ sp (pick ix (xs ++ zs)) G2 Qd fun x G3 => Wd x σd G3) I1
    ⟨σd, G1, F1, Wd, _, w.ext e1 g1, Γ.mono _ _ _ _ e1.toExt0 hp, cv.ext e1, q1, fun zs G2 F2 ws H2 e2 g2 r2 q2 => ⟨zs, G2, F2, e2, g2, r2, q2⟩⟩) fun ws s2 ⟨zv, H2, I2, rz, zs, G2, F2, e2, g2, r2, ⟨l1, l2⟩, q2⟩ => ⟨I2.kIn, ?_⟩
  rw [hks]
  have lu : us.length = m := by rw [← r.length, ← r1.length, l1]
  have lw : ws.length = ks.length := by rw [← rz.length, ← r2.length, l2]
  have e12 := e1.trans e2
  exact run_fnkw (ix := ix) (E := WE Γ.W) F hr (BindsTo.of_eq (hkb kV doc pm an cdv ct us ws lu lw)) (passAt tw σ) I2 (pick_vals (r.append rz) ix)
    ⟨_, G2, F2, Qd, _, g2, pick_reps ((e2.reps _ _ r1).append r2) ix, q2, fun d G' F' v' H' e3 g3 r3 q3 => kk d G' F' v' H' (e12.trans e3) g3 r3 q3,
      fun x G' F' cls d H' e3 g3 r3 q3 => cv x σd G' F' cls d σ H' (e12.trans e3) (w.ext (e12.trans e3) g3) r3 q3⟩
theorem de_callK0 (hF : Has X.prog X.w X.K X.mg X.base k x st ps sp) (hr : Room k X.A) (hg : Gl X x) (tw : Takes X Γ.W) (hkb : KwB x st ps ks 0 ix) (hkw : DKw X Γ kws tk)
    (hall : (backToKw pos (keywordEach kws X.env)).all (·.1.isSome) = true := by rfl) (hks : (backToKw pos (keywordEach kws X.env)).filterMap (·.1) = ks := by rfl)
    (hdb : (x == ("__debug__" : Str)) = false := by decide)
    (hpl : ((backTo pos (starEach [] X.env)).any (·.1) || (backToKw pos (keywordEach kws X.env)).any (·.1.isNone)) = false := by rfl) :
    DE X Γ (.Call (.Name x p) [] kws pos) (dCallK 0 ks.length ix sp dNil tk) := by
  obtain ⟨f, fd, hm, hfn, _, F⟩ := hF
  have hk := hfn.kp
  obtain ⟨oc, od, kV, doc, pm, an, cdv, ct, osl, rfl, lk, hcd⟩ := hfn.ex
  refine ⟨fun pins s σ H Q I ⟨σd, G, F0, Wd, Qd, w, hp, cv, ht, kk⟩ => ?_⟩
  refine wpAny_Call_Name_kw (ld_glob I hg hm ?_ hdb)
  refine PySem.W.callWith_KW0 (h₀ := X.base) I.ok.mod.kin hk hall (thn (hkw.run pos pins s σ H (fun ws H2 => ∃ zs G2 F2, Ext F0 H F2 H2 ∧ GRel X.K H2 F2 G2 ∧ Reps X.K H2 F2 zs ws ∧ ((0 : Nat) = 0 ∧ zs.length = ks.length) ∧ sp (pick ix ([] ++ zs)) G2 Qd fun x G3 => Wd x σd G3) I
    ⟨σd, G, F0, Wd, _, w, hp, cv, ht, fun zs G2 F2 ws H2 e2 g2 r2 q2 => ⟨zs, G2, F2, e2, g2, r2, q2⟩⟩) fun ws s2 ⟨zv, H2, I2, rz, zs, G2, F2, e2, g2, r2, ⟨l1, l2⟩, q2⟩ => ⟨I2.kIn, ?_⟩) hpl
  rw [hks]
  have lw : ws.length = ks.length := by rw [← rz.length, ← r2.length, l2]
  exact run_fnkw (us := []) (ix := ix) (E := WE Γ.W) F hr (BindsTo.of_eq (hkb kV doc pm an cdv ct [] ws rfl lw)) (passAt tw σ) I2 (pick_vals rz ix)
    ⟨_, G2, F2, Qd, _, g2, pick_reps r2 ix, q2, fun d G' F' v' H' e3 g3 r3 q3 => kk d G' F' v' H' (e2.trans e3) g3 r3 q3,
      fun x G' F' cls d H' e3 g3 r3 q3 => cv x σd G' F' cls d σ H' (e2.trans e3) (w.ext (e2.trans e3) g3) r3 q3⟩
/-! ### a module's names -/
theorem de_gint {i : Int} (h : ∃ tk, X.mg x = some (.int i tk)) (hg : Gl X x) (hd : (x == ("__debug__" : Str)) = false := by decide) : DE X Γ (.Name x pos) (dK (.int i)) := by
  obtain ⟨tk, h⟩ := h
  exact de_k (pe_glob hg h (v := .int i) ⟨tk, rfl⟩ hd) fun _ _ => rep_int
theorem de_gref {a : Addr} (h : X.mg x = some (.ref a)) (hg : Gl X x) (hd : (x == ("__debug__" : Str)) = false := by decide) : DE X Γ (.Name x pos) (dK (.ref a)) :=
  de_k (pe_glob hg h (v := .ref a) rfl hd) fun _ _ => rep_ref
theorem de_bty {n : String} (hm : X.mg x = none) (hv : bootBuiltins x = some (.type n)) (hg : Gl X x) (hn : x ≠ "__name__" := by decide) (hd : (x == ("__debug__" : Str)) = false := by decide) : DE X Γ (.Name x pos) (dK (.ty n)) :=
  de_k (pe_bltn hg hm hv (v := .ty n) rfl hn hd) fun _ _ => rep_ty
theorem de_int {i : Int} {j : Nat} : DE X Γ (.Constant (.int i) j pos) (dK (.int i)) := de_k pe_int fun _ _ => rep_int
theorem de_str {i : Str} {j : Nat} : DE X Γ (.Constant (.str i) j pos) (dK (.str i)) := de_k pe_str fun _ _ => rep_str
theorem de_bl {i : Bool} {j : Nat} : DE X Γ (.Constant (.bool i) j pos) (dK (.bl i)) := de_k pe_bl fun _ _ => rep_bl
theorem de_non {j : Nat} : DE X Γ (.Constant .none j pos) (dK .non) := de_k pe_non fun _ _ => rep_non
/-! ### isinstance of a suite's error -/
def clsD : D → Value → Prop
  | .ref T, v => v = .ref T
  | .ty n, v => v = .type n
  | _, _ => False
def dIsE (K : PySem.W.Frag) (a : Addr) (xx : Exc) (t : DTA) : DTE := fun W σ G Q => t W σ G fun ds G1 => match ds with
  | [.ref b, y] => (b = a ∧ xx.flds = [] ∧ ExcC K xx.cls) ∧ ∃ cv r, clsD y cv ∧ PySem.W.kitOne K (.ref xx.cls) cv = some r ∧ Q (.bl r) G1
  | _ => False
theorem de_isE {a : Addr} {oe : Obj} {xx : Exc} {cls : Value} {d : Option Addr} {pn : List (Addr × Obj)} {e2 : Expr} (hz : Zc cls d oe) (hf : ∃ vs, oe.data = .fields vs) (hm : X.mg "isinstance" = none)
    (hg : Gl (X.suite a ((a, oe) :: pn)) "isinstance") (ha : DA (X.suite a ((a, oe) :: pn)) (Γ.exc X.K xx cls d) [e, e2] t)
    (he : starEach [e, e2] X.env = (false, eval e X.env) :: starEach [e2] X.env := by rfl) (hpl : (backTo pos (starEach [e2] X.env)).any (·.1) = false := by rfl) :
    DE (X.suite a ((a, oe) :: pn)) (Γ.exc X.K xx cls d) (.Call (.Name "isinstance" p) [e, e2] [] pos) (dIsE X.K a xx t) := by
  refine ⟨fun pins s σ H Q I ⟨σd, G, F0, Wd, Qd, w, hp, cv, ht, kk⟩ => ?_⟩
  have key : xx.flds = [] → ExcC X.K xx.cls → PE (X.suite a ((a, oe) :: pn)) (.Call (.Name "isinstance" p) [e, e2] [] pos) (tCB (rIsE X.K xx.cls a) (LA X.K (Γ.exc X.K xx cls d) t)) := fun hfl hC => by
    have hc := hp.2.1
    have hd : d = none := by
      obtain ⟨_, h2⟩ := hp.2
      rw [hfl] at h2; exact h2
    subst hc hd
    exact pe_callB (call_isE (X := X) hC hz hf) hg hm PyProof.Rows.boot_isinstance ha (by decide) (by decide) he hpl
  by_cases hh : xx.flds = [] ∧ ExcC X.K xx.cls
  · refine (key hh.1 hh.2).run pins s σ H Q I ⟨σd, G, F0, Wd, _, w, hp, cv, ht, fun ds G1 F1 vs H1 e1 g1 r1 q1 => ?_⟩
    split at q1
    · rename_i b y
      obtain ⟨⟨rfl, _, _⟩, cv2, r, hcl, hk, q⟩ := q1
      obtain ⟨v1, v2, rfl, rv, rw'⟩ := r1.of2
      rw [ref_rep rv]
      refine ⟨v2, cv2, r, rfl, fun u ru => ?_, hk, kk (.bl r) G1 F1 _ H1 e1 g1 rep_bl q⟩
      cases y with
      | ref T => rw [ref_rep rw'] at ru; rw [show cv2 = .ref T from hcl]; exact ru
      | ty n => rw [ty_rep rw'] at ru; rw [show cv2 = .type n from hcl]; exact ru
      | _ => exact hcl.elim
    · exact q1.elim
  · have key2 : PE (X.suite a ((a, oe) :: pn)) (.Call (.Name "isinstance" p) [e, e2] [] pos) (tCB (fun _ _ _ => False) (LA X.K (Γ.exc X.K xx cls d) t)) :=
      pe_callB (fun _ _ _ _ _ _ _ _ _ h => h.elim) hg hm PyProof.Rows.boot_isinstance ha (by decide) (by decide) he hpl
    refine key2.run pins s σ H Q I ⟨σd, G, F0, Wd, _, w, hp, cv, ht, fun ds G1 F1 vs H1 e1 g1 r1 q1 => ?_⟩
    split at q1
    · exact hh ⟨q1.1.2.1, q1.1.2.2⟩
    · exact q1.elim
end
end DL

/-! D10: what the printed derivations name. -/
namespace DL
open PySem PySem.Spec L2

/-- a def of the top as it stands -/
def At (K : PySem.W.Frag) (mg : Str → Option Value) (x : Str) (st : Stmt) (ps : List Str) : Prop := ∃ f fd, mg x = some (.ref f) ∧ Fun K x x st f fd ∧ Binds K fd ps []
theorem takes_blk {X : Cx} {Γ : Amb} : Takes X Γ.blk.W := fun _ _ ⟨_, _, _, _, _, _, _, _, _, _, _, _, _, _, _, _, h⟩ => False.elim h
section
variable {K : PySem.W.Frag}
def qNeg : Q1 := fun x G Q => match x with
  | .int i => Q (.int (-i)) G
  | _ => False
theorem qNeg_ok : L1R K qNeg (rU fun i => .int (-i)) := fun x v G F H Qd Q g r h k => by
  cases x with
  | int i => exact ⟨i, int_rep r, k.here g rep_int h⟩
  | _ => exact h.elim
end
end DL

/-! D11: how transformers are read. -/
namespace DL
open PySem PySem.Spec L2

/-! ### loops over ranges -/
theorem rngD_zero {lo c : Int} : rngD lo c 0 = [] := rfl
theorem rngD_succ {lo c : Int} {n : Nat} : rngD lo c (n + 1) = .int lo :: rngD (lo + c) c n := by
  unfold rngD
  rw [List.range_succ_eq_map, List.map_cons, List.map_map]
  refine congr (congrArg List.cons (congrArg D.int (by simp))) (List.map_congr_left fun i _ => ?_)
  simp only [Function.comp]
  congr 1
  rw [Int.add_assoc]
  congr 1
  push_cast
  rw [Int.add_mul]
  omega
theorem rngD_len {lo c : Int} {n : Nat} : (rngD lo c n).length = n := by unfold rngD; simp
theorem rngD_nat {n : Nat} : rngD 0 1 n = (List.range n).map fun i => D.int (i : Nat) := by
  unfold rngD
  exact List.map_congr_left fun i _ => by simp
theorem rngD_mem {n : Nat} {d : D} (h : d ∈ rngD 0 1 n) : ∃ i : Nat, i < n ∧ d = .int i := by
  rw [rngD_nat] at h
  obtain ⟨i, hi, rfl⟩ := List.mem_map.mp h
  exact ⟨i, by simpa using hi, rfl⟩

/-! ### pure expressions: what they give -/
/-- te gives d and leaves the ledger -/
def Ret (te : DTE) (W : DX) (σ : DSt) (G : DH) (d : D) : Prop := ∀ Q : DK, Q d G → te W σ G Q
def RetT (tt : DTT) (W : DX) (σ : DSt) (G : DH) (b : Bool) : Prop := ∀ Q : Bool → DH → Prop, Q b G → tt W σ G Q
/-- [e for x in xs] -/
theorem comp1 {i : Nat} {te : DTE} {σ : DSt} {G : DH} (f : D → D) : ∀ {xs : List D} {Q : List D → DH → Prop}, (∀ d ∈ xs, Ret te W0 (σ.set i (some d)) G (f d)) → Q (xs.map f) G → dComp (gSet i) dYes te xs σ G Q
  | [], Q, _, q => q
  | d :: r, Q, h, q => h d List.mem_cons_self _ (comp1 f (fun e he => h e (List.mem_cons_of_mem _ he)) q)
/-- [e for x in xs if t] -/
theorem compF {i : Nat} {tt : DTT} {te : DTE} {σ : DSt} {G : DH} (f : D → D) (p : D → Bool) : ∀ {xs : List D} {Q : List D → DH → Prop}, (∀ d ∈ xs, RetT tt W0 (σ.set i (some d)) G (p d)) → (∀ d ∈ xs, p d = true → Ret te W0 (σ.set i (some d)) G (f d)) →
    Q ((xs.filter p).map f) G → dComp (gSet i) tt te xs σ G Q
  | [], Q, _, _, q => q
  | d :: r, Q, ht, h, q => by
    refine ht d List.mem_cons_self _ ?_
    cases hp : p d with
    | true =>
      rw [List.filter_cons_of_pos hp] at q
      exact iteT (h d List.mem_cons_self hp _ (compF f p (fun e he => ht e (List.mem_cons_of_mem _ he)) (fun e he => h e (List.mem_cons_of_mem _ he)) q))
    | false =>
      rw [List.filter_cons_of_neg (by simp [hp])] at q
      exact iteF (compF f p (fun e he => ht e (List.mem_cons_of_mem _ he)) (fun e he => h e (List.mem_cons_of_mem _ he)) q)
def g2 (i j : Nat) : DTG := gTupD 2 (gsCons (gSet i) (gsCons (gSet j) gsNil))
/-- [e for x, y in pairs] -/
theorem comp2 {α : Type} {i j : Nat} {te : DTE} {σ : DSt} {G : DH} (A B f : α → D) : ∀ {xs : List α} {Q : List D → DH → Prop}, (∀ a ∈ xs, Ret te W0 ((σ.set i (some (A a))).set j (some (B a))) G (f a)) → Q (xs.map f) G →
    dComp (gTupD 2 (gsCons (gSet i) (gsCons (gSet j) gsNil))) dYes te (xs.map fun a => .tup [A a, B a]) σ G Q
  | [], Q, _, q => q
  | d :: r, Q, h, q => ⟨rfl, rfl, h d List.mem_cons_self _ (comp2 A B f (fun e he => h e (List.mem_cons_of_mem _ he)) q)⟩
/-- [e for x, y in pairs if t] -/
theorem comp2F {α : Type} {i j : Nat} {tt : DTT} {te : DTE} {σ : DSt} {G : DH} (A B f : α → D) (p : α → Bool) : ∀ {xs : List α} {Q : List D → DH → Prop}, (∀ a ∈ xs, RetT tt W0 ((σ.set i (some (A a))).set j (some (B a))) G (p a)) →
    (∀ a ∈ xs, p a = true → Ret te W0 ((σ.set i (some (A a))).set j (some (B a))) G (f a)) → Q ((xs.filter p).map f) G →
    dComp (gTupD 2 (gsCons (gSet i) (gsCons (gSet j) gsNil))) tt te (xs.map fun a => .tup [A a, B a]) σ G Q
  | [], Q, _, _, q => q
  | d :: r, Q, ht, h, q => by
    refine ⟨rfl, rfl, ht d List.mem_cons_self _ ?_⟩
    cases hp : p d with
    | true =>
      rw [List.filter_cons_of_pos hp] at q
      exact iteT (h d List.mem_cons_self hp _ (comp2F A B f p (fun e he => ht e (List.mem_cons_of_mem _ he)) (fun e he => h e (List.mem_cons_of_mem _ he)) q))
    | false =>
      rw [List.filter_cons_of_neg (by simp [hp])] at q
      exact iteF (comp2F A B f p (fun e he => ht e (List.mem_cons_of_mem _ he)) (fun e he => h e (List.mem_cons_of_mem _ he)) q)
theorem zipD_map {α : Type} (A B : α → D) (xs : List α) : zipD (xs.map A) (xs.map B) = xs.map fun a => .tup [A a, B a] := by
  unfold zipD
  induction xs with
  | nil => rfl
  | cons a r ih => simp [ih]
theorem zipD_zip {α β : Type} (A : α → D) (B : β → D) : ∀ (xs : List α) (ys : List β), zipD (xs.map A) (ys.map B) = (xs.zip ys).map fun a => .tup [A a.1, B a.2]
  | [], _ => by simp [zipD]
  | _ :: _, [] => by simp [zipD]
  | a :: xs, b :: ys => by simpa [zipD] using zipD_zip A B xs ys

/-! ### texts -/
def S (l : List Nat) : Str := ⟨l.toArray⟩
@[simp] theorem S_cps {l : List Nat} : (S l).cps = l.toArray := rfl
theorem S_len {l : List Nat} : (S l).length = l.length := by show l.toArray.size = _; simp
theorem S_inj {a b : List Nat} : S a = S b ↔ a = b := by
  constructor
  · intro h
    have : (S a).cps.toList = (S b).cps.toList := by rw [h]
    simpa using this
  · rintro rfl; rfl
theorem S_eta (z : Str) : z = S z.cps.toList := by cases z; simp [S]
theorem signs_S {l : List Nat} : signs (S l) = l.map fun c => D.str (S [c]) := by unfold signs; simp [S]
theorem S_app {a b : List Nat} : S a ++ S b = S (a ++ b) := by
  show (⟨(S a).cps ++ (S b).cps⟩ : Str) = _
  simp [S]
theorem joinS : ∀ ls : List (List Nat), Str.join (S []) (ls.map S) = S ls.flatten
  | [] => rfl
  | [x] => by show S x = _; simp
  | x :: y :: r => by
    show S x ++ S [] ++ Str.join (S []) ((y :: r).map S) = _
    rw [joinS (y :: r), S_app, S_app]
    simp
theorem join_S (ls : List (List Nat)) : Txt.join (S []) (ls.map S) = S ls.flatten := by
  rw [← joinS, eq_of_beq (PyProof.Rows.join_plain_closes (S []) (ls.map S))]
theorem flat1 : ∀ ls : List Nat, (ls.map fun c => [c]).flatten = ls
  | [] => rfl
  | a :: r => by simp [flat1 r]
theorem join_sep (ls : List Nat) : Txt.join (S []) (ls.map fun c => S [c]) = S ls := by
  have := join_S (ls.map fun c => [c])
  rw [List.map_map] at this
  rw [show (ls.map fun c => S [c]) = ls.map (S ∘ fun c => [c]) from rfl, this, flat1]
end DL

/-! D12: plain facts: what can be compared, masks, strings of bits. -/
namespace DL
open PySem PySem.Spec L2

/-! ### comparing -/
mutual
def okD : D → Bool
  | .ref _ => false
  | .ty _ => false
  | .str z => z.cps.all (· < 0x110000)
  | .tup xs => okDs xs
  | .lst xs => okDs xs
  | _ => true
def okDs : List D → Bool
  | [] => true
  | d :: r => okD d && okDs r
end
mutual
def dpD : D → Nat
  | .tup xs => dpDs xs + 1
  | .lst xs => dpDs xs + 1
  | .scr _ => 1
  | _ => 0
def dpDs : List D → Nat
  | [] => 0
  | d :: r => max (dpD d) (dpDs r)
end
theorem lay_ints : ∀ ns : List Int, PyData.canLayAll0 (ns.map .int) = true ∧ PyData.depthAll (ns.map .int) = 0
  | [] => by unfold List.map PyData.canLayAll0 PyData.depthAll; exact ⟨rfl, rfl⟩
  | n :: ns => by
    obtain ⟨h1, h2⟩ := lay_ints ns
    simp only [List.map_cons, PyData.canLayAll0, PyData.depthAll, PyData.canLay0, PyData.depth, h1, h2]
    exact ⟨rfl, rfl⟩
mutual
theorem ok_of : ∀ d : D, okD d = true → noRef d = true ∧ PyData.canLay0 (toPy d) = true ∧ PyData.depth (toPy d) = dpD d
  | .non, _ => by simp [noRef, toPy, PyData.canLay0, PyData.depth, dpD]
  | .bl _, _ => by simp [noRef, toPy, PyData.canLay0, PyData.depth, dpD]
  | .int _, _ => by simp [noRef, toPy, PyData.canLay0, PyData.depth, dpD]
  | .str z, h => by
    unfold okD at h
    refine ⟨by simp [noRef], ?_, by simp [toPy, PyData.depth, dpD]⟩
    unfold toPy PyData.canLay0
    exact h
  | .tup xs, h => by
    unfold okD at h
    obtain ⟨h1, h2, h3⟩ := oks_of xs h
    unfold noRef toPy PyData.canLay0 PyData.depth dpD
    exact ⟨h1, h2, by rw [h3]⟩
  | .lst xs, h => by
    unfold okD at h
    obtain ⟨h1, h2, h3⟩ := oks_of xs h
    unfold noRef toPy PyData.canLay0 PyData.depth dpD
    exact ⟨h1, h2, by rw [h3]⟩
  | .scr ns, _ => by
    obtain ⟨h1, h2⟩ := lay_ints ns
    unfold noRef toPy PyData.canLay0 PyData.depth dpD
    exact ⟨rfl, h1, by rw [h2]⟩
  | .ref _, h => by unfold okD at h; cases h
  | .ty _, h => by unfold okD at h; cases h
theorem oks_of : ∀ ds : List D, okDs ds = true → noRefs ds = true ∧ PyData.canLayAll0 (toPys ds) = true ∧ PyData.depthAll (toPys ds) = dpDs ds
  | [], _ => by unfold noRefs toPys PyData.canLayAll0 PyData.depthAll dpDs; exact ⟨rfl, rfl, rfl⟩
  | d :: ds, h => by
    unfold okDs at h
    rw [Bool.and_eq_true] at h
    obtain ⟨h1, h2, h3⟩ := ok_of d h.1
    obtain ⟨k1, k2, k3⟩ := oks_of ds h.2
    unfold noRefs toPys PyData.canLayAll0 PyData.depthAll dpDs
    rw [h1, h2, h3, k1, k2, k3]
    exact ⟨rfl, rfl, rfl⟩
end
theorem eqOk_of {d : D} (h : okD d = true) (k : dpD d ≤ 64) : eqOk d := by
  obtain ⟨h1, h2, h3⟩ := ok_of d h
  refine ⟨h1, ?_⟩
  unfold SeqAt.shaped
  rw [h2, h3]
  simpa using k
theorem dview_ok {G : DH} {d : D} (h : okD d = true) : dview G d = d := by
  cases d with
  | ref a => unfold okD at h; cases h
  | _ => rfl
theorem eqv_ints : ∀ ns : List Int, PyData.eqvAll (ns.map .int) (ns.map .int) = true
  | [] => by unfold List.map PyData.eqvAll; rfl
  | n :: ns => by simp [PyData.eqvAll, PyData.eqv, eqv_ints ns]
mutual
theorem eqv_refl : ∀ d : D, PyData.eqv (toPy d) (toPy d) = true
  | .non => by simp [toPy, PyData.eqv]
  | .bl _ => by simp [toPy, PyData.eqv]
  | .int _ => by simp [toPy, PyData.eqv]
  | .str _ => by simp [toPy, PyData.eqv]
  | .tup xs => by simp [toPy, PyData.eqv, eqvs_refl xs]
  | .lst xs => by simp [toPy, PyData.eqv, eqvs_refl xs]
  | .scr ns => by simp [toPy, PyData.eqv, eqv_ints ns]
  | .ref _ => by simp [toPy, PyData.eqv]
  | .ty _ => by simp [toPy, PyData.eqv]
theorem eqvs_refl : ∀ ds : List D, PyData.eqvAll (toPys ds) (toPys ds) = true
  | [] => by simp [toPys, PyData.eqvAll]
  | d :: r => by simp [toPys, PyData.eqvAll, eqv_refl d, eqvs_refl r]
end
theorem deq_refl (d : D) : deq d d = true := eqv_refl d
/-- x == x -/
theorem qEq_self {neg : Bool} {d : D} {G : DH} {Q : DK} (h : okD d = true) (k : dpD d ≤ 64) (q : Q (.bl (!neg)) G) : qEq neg d d G Q := by
  have e := eqOk_of h k
  have q' : Q (.bl (if neg then !true else true)) G := by cases neg <;> exact q
  cases d with
  | int i => show Q (.bl (if neg then !decide (i = i) else decide (i = i))) G; rw [decide_eq_true rfl]; exact q'
  | str i => show Q (.bl (if neg then !decide (i = i) else decide (i = i))) G; rw [decide_eq_true rfl]; exact q'
  | bl i => show Q (.bl (if neg then !decide (i = i) else decide (i = i))) G; rw [decide_eq_true rfl]; exact q'
  | ref a => unfold okD at h; cases h
  | _ =>
    refine ⟨e, e, ?_⟩
    show Q (.bl (if neg then !deq _ _ else deq _ _)) G
    rw [show dview G _ = _ from dview_ok h, deq_refl]
    exact q'
/-! lists of flat things -/
theorem deq_strs : ∀ a b : List Str, PyData.eqvAll (toPys (a.map D.str)) (toPys (b.map D.str)) = decide (a = b)
  | [], [] => by simp [toPys, PyData.eqvAll]
  | [], _ :: _ => by simp [toPys, PyData.eqvAll]
  | _ :: _, [] => by simp [toPys, PyData.eqvAll]
  | x :: a, y :: b => by
    simp only [List.map_cons, toPys, toPy, PyData.eqvAll, PyData.eqv, deq_strs a b]
    by_cases h : x = y
    · subst h; by_cases h2 : a = b
      · subst h2; simp
      · simp [h2]
    · simp [h]
theorem deq_intsL : ∀ a b : List Int, PyData.eqvAll (toPys (a.map D.int)) (toPys (b.map D.int)) = decide (a = b)
  | [], [] => by simp [toPys, PyData.eqvAll]
  | [], _ :: _ => by simp [toPys, PyData.eqvAll]
  | _ :: _, [] => by simp [toPys, PyData.eqvAll]
  | x :: a, y :: b => by
    simp only [List.map_cons, toPys, toPy, PyData.eqvAll, PyData.eqv, deq_intsL a b]
    by_cases h : x = y
    · subst h; by_cases h2 : a = b
      · subst h2; simp
      · simp [h2]
    · simp [h]
theorem deq_blsL : ∀ a b : List Bool, PyData.eqvAll (toPys (a.map D.bl)) (toPys (b.map D.bl)) = decide (a = b)
  | [], [] => by simp [toPys, PyData.eqvAll]
  | [], _ :: _ => by simp [toPys, PyData.eqvAll]
  | _ :: _, [] => by simp [toPys, PyData.eqvAll]
  | x :: a, y :: b => by
    simp only [List.map_cons, toPys, toPy, PyData.eqvAll, PyData.eqv, deq_blsL a b]
    by_cases h : x = y
    · subst h; by_cases h2 : a = b
      · subst h2; simp
      · simp [h2]
    · simp [h]
theorem okDs_all {xs : List D} : okDs xs = xs.all okD := by
  induction xs with
  | nil => rfl
  | cons d r ih => unfold okDs; rw [ih]; rfl
theorem dpDs_le {xs : List D} {n : Nat} (h : ∀ d ∈ xs, dpD d ≤ n) : dpDs xs ≤ n := by
  induction xs with
  | nil => unfold dpDs; omega
  | cons d r ih =>
    unfold dpDs
    have h1 := h d List.mem_cons_self
    have h2 := ih fun e he => h e (List.mem_cons_of_mem _ he)
    omega
theorem okS {l : List Nat} (h : ∀ c ∈ l, c < 0x110000) : okD (.str (S l)) = true := by
  unfold okD
  simpa [S] using h

/-! ### masks -/
theorem xor_add_and (a : Nat) : ∀ b : Nat, (a ^^^ b) + 2 * (a &&& b) = a + b := by
  induction a using Nat.strongRecOn with
  | _ a ih =>
    intro b
    by_cases ha : a = 0
    · subst ha; simp
    · have h := ih (a / 2) (Nat.div_lt_self (by omega) (by decide)) (b / 2)
      rw [← Nat.xor_div_two, ← Nat.and_div_two] at h
      have e1 : (a ^^^ b) % 2 = (a % 2 + b % 2) % 2 := by
        have h1 : (a ^^^ b) % 2 = 1 ↔ _ := Nat.xor_mod_two_eq_one
        omega
      have h2 : (a &&& b) % 2 = 1 ↔ _ := Nat.and_mod_two_eq_one
      by_cases hh : (a &&& b) % 2 = 1
      · obtain ⟨p, q⟩ := h2.mp hh
        omega
      · have z : (a &&& b) % 2 = 0 := by omega
        have nn : ¬ (a % 2 = 1 ∧ b % 2 = 1) := fun k => hh (h2.mpr k)
        omega
theorem bitXor_nat (a b : Nat) : Builtin.bitXor (a : Int) (b : Int) = ((a ^^^ b : Nat) : Int) := by
  rw [PyProof.Rows.bitXor_and, PySem.W.os_band]
  have := xor_add_and a b
  omega
/-! ### strings of bits -/
def lsb : Nat → Nat → List Nat
  | 0, _ => []
  | l + 1, v => (48 + v % 2) :: lsb l (v / 2)
def bsl (l v : Nat) : List Nat := (lsb l v).reverse
theorem lsb_len : ∀ (l v : Nat), (lsb l v).length = l
  | 0, _ => rfl
  | l + 1, v => by simp [lsb, lsb_len l]
@[simp] theorem bsl_len {l v : Nat} : (bsl l v).length = l := by unfold bsl; simp [lsb_len]
theorem lsb_mem : ∀ {l v c : Nat}, c ∈ lsb l v → c = 48 ∨ c = 49
  | 0, _, _, h => by simp [lsb] at h
  | l + 1, v, c, h => by
    unfold lsb at h
    rcases List.mem_cons.mp h with h | h
    · omega
    · exact lsb_mem h
theorem bsl_mem {l v c : Nat} (h : c ∈ bsl l v) : c = 48 ∨ c = 49 := lsb_mem (by unfold bsl at h; simpa using h)
theorem lsb_inj : ∀ {l a b : Nat}, a < 2 ^ l → b < 2 ^ l → lsb l a = lsb l b → a = b
  | 0, a, b, ha, hb, _ => by simp at ha hb; omega
  | l + 1, a, b, ha, hb, h => by
    unfold lsb at h
    injection h with h1 h2
    have := lsb_inj (l := l) (by rw [Nat.pow_succ] at ha; omega) (by rw [Nat.pow_succ] at hb; omega) h2
    omega
theorem bsl_inj {l a b : Nat} (ha : a < 2 ^ l) (hb : b < 2 ^ l) : bsl l a = bsl l b ↔ a = b := by
  constructor
  · intro h
    unfold bsl at h
    exact lsb_inj ha hb (List.reverse_inj.mp h)
  · rintro rfl; rfl
def xorL (a b : List Nat) : List Nat := List.zipWith (fun x y => if x = y then 48 else 49) a b
theorem xor_lsb : ∀ (l a b : Nat), xorL (lsb l a) (lsb l b) = lsb l (a ^^^ b)
  | 0, _, _ => rfl
  | l + 1, a, b => by
    show (if 48 + a % 2 = 48 + b % 2 then 48 else 49) :: xorL (lsb l (a / 2)) (lsb l (b / 2)) = (48 + (a ^^^ b) % 2) :: lsb l ((a ^^^ b) / 2)
    rw [xor_lsb, Nat.xor_div_two]
    congr 1
    have h1 : (a ^^^ b) % 2 = 1 ↔ _ := Nat.xor_mod_two_eq_one
    split <;> omega
theorem xorL_bsl (l a b : Nat) : xorL (bsl l a) (bsl l b) = bsl l (a ^^^ b) := by
  unfold bsl xorL
  rw [← List.reverse_zipWith (by rw [lsb_len, lsb_len])]
  show (xorL _ _).reverse = _
  rw [xor_lsb]
/-- the order of strings is that of the numbers -/
theorem bsl_succ {l v : Nat} : bsl (l + 1) v = bsl l (v / 2) ++ [48 + v % 2] := by unfold bsl; simp [lsb]
theorem bsl_top : ∀ {l v : Nat}, bsl (l + 1) v = (48 + v / 2 ^ l % 2) :: bsl l v
  | 0, v => by simp [bsl, lsb]
  | l + 1, v => by
    rw [bsl_succ, bsl_top (l := l) (v := v / 2), bsl_succ (l := l) (v := v)]
    simp [Nat.div_div_eq_div_mul, Nat.pow_succ, Nat.mul_comm]
theorem bsl_mod {l v : Nat} : bsl l (v % 2 ^ l) = bsl l v := by
  induction l generalizing v with
  | zero => simp [bsl, lsb]
  | succ l ih =>
    rw [bsl_succ, bsl_succ]
    have e1 : v % 2 ^ (l + 1) / 2 = v / 2 % 2 ^ l := by
      rw [Nat.pow_succ, Nat.mul_comm, Nat.mod_mul_right_div_self]
    have e2 : v % 2 ^ (l + 1) % 2 = v % 2 := by
      rw [Nat.pow_succ, Nat.mul_comm, Nat.mod_mul_right_mod]
    rw [e1, e2, ih]
theorem bsl_lt : ∀ {l a b : Nat}, a < 2 ^ l → b < 2 ^ l → (bsl l a < bsl l b ↔ a < b)
  | 0, a, b, ha, hb => by
    simp at ha hb
    subst ha hb
    simp [bsl, lsb]
  | l + 1, a, b, ha, hb => by
    rw [bsl_top, bsl_top, List.cons_lt_cons_iff]
    have hp : 0 < 2 ^ l := Nat.pow_pos (by decide)
    have ha2 : a / 2 ^ l < 2 := by rw [Nat.div_lt_iff_lt_mul hp, Nat.mul_comm, ← Nat.pow_succ]; exact ha
    have hb2 : b / 2 ^ l < 2 := by rw [Nat.div_lt_iff_lt_mul hp, Nat.mul_comm, ← Nat.pow_succ]; exact hb
    rw [Nat.mod_eq_of_lt ha2, Nat.mod_eq_of_lt hb2]
    have ih := bsl_lt (l := l) (a := a % 2 ^ l) (b := b % 2 ^ l) (Nat.mod_lt _ hp) (Nat.mod_lt _ hp)
    rw [bsl_mod, bsl_mod] at ih
    rw [ih]
    have d1 := Nat.div_add_mod a (2 ^ l)
    have d2 := Nat.div_add_mod b (2 ^ l)
    have m1 := Nat.mod_lt a hp
    have m2 := Nat.mod_lt b hp
    have two : ∀ q : Nat, q < 2 → q = 0 ∨ q = 1 := fun q h => by omega
    have c1 : a / 2 ^ l = 0 ∨ a / 2 ^ l = 1 := two _ ha2
    have c2 : b / 2 ^ l = 0 ∨ b / 2 ^ l = 1 := two _ hb2
    clear ih ha2 hb2 ha hb
    generalize a % 2 ^ l = ra at *
    generalize b % 2 ^ l = rb at *
    generalize a / 2 ^ l = qa at *
    generalize b / 2 ^ l = qb at *
    generalize 2 ^ l = q at *
    rcases c1 with rfl | rfl <;> rcases c2 with rfl | rfl <;> simp at d1 d2 ⊢ <;> omega
end DL

/-! D13: reading what refers to the ledger; the laws' hands. -/
namespace DL
open PySem PySem.Spec L2
section
variable {G : DH} {a : Addr} {xs : List D} {Q : DK} {d : D}
theorem ix_ref {i : Int} (h : G a = some (.lst xs)) (e : L2.atI xs i = some d) (q : Q d G) : qIx (.ref a) (.int i) G Q := by
  show (match dseq G (.ref a) with | some xs => (match L2.atI xs i with | some d => Q d G | none => False) | none => False)
  have : dseq G (.ref a) = some xs := by unfold dseq dlst; simp [h]
  rw [this]
  show (match L2.atI xs i with | some d => Q d G | none => False)
  rw [e]; exact q
theorem ix_seq' {i : Int} {x : D} (hs : dseq G x = some xs) (e : L2.atI xs i = some d) (q : Q d G) : qIx x (.int i) G Q := by
  cases x with
  | str z => unfold dseq dlst at hs; cases hs
  | _ => simp only [qIx, hs, e]; exact q
theorem len_seq {x : D} (hs : dseq G x = some xs) (q : Q (.int xs.length) G) : qLen [x] G Q := by
  cases x with
  | str z => unfold dseq dlst at hs; cases hs
  | _ => simp only [qLen, hs]; exact q
theorem dseq_ref (h : G a = some (.lst xs)) : dseq G (.ref a) = some xs := by unfold dseq dlst; simp [h]
theorem dlst_ref (h : G a = some (.lst xs)) : dlst G (.ref a) = some xs := by unfold dlst; simp [h]
theorem dlsh_ref (h : G a = some (.lst xs)) : dlsh G (.ref a) = some xs := by unfold dlsh; simp [h]
theorem set_ref {i : Int} {j : Nat} {Qs : DH → Prop} (h : G a = some (.lst xs)) (e : ixN xs.length i = some j) (q : Qs (dupd G a (.lst (xs.set j d)))) : dSetL (.ref a) (.int i) d G Qs := ⟨xs, j, h, e, q⟩
theorem append_ref (h : G a = some (.lst xs)) (hz : xs.length < sizeLine) (q : Q .non (dupd G a (.lst (xs ++ [d])))) : qAppend (.ref a) [d] G Q := by
  show (match G a with | some (.lst xs) => xs.length < sizeLine ∧ Q .non (dupd G a (.lst (xs ++ [d]))) | _ => False)
  rw [h]; exact ⟨hz, q⟩
theorem tyM_ref (h : G a = some (.lst xs)) : tyM "list" (.ref a) G := by unfold tyM; simp [h]
end
/-! ### the hand of a law: a list of the rests and a count -/
def hq (ds : List D) : Prop := ∃ ns : List Int, ds = ns.map .int ∧ ns.length ≤ 63 ∧ ∀ n ∈ ns, 0 ≤ n ∧ n < 10 ^ 60
def ha (q : Addr) (ds : List D) : Prop := ∃ k : Nat, ds = [.ref q, .int k]
def Hand (a : Addr) (G : DH) : Prop := ∃ q, a ≠ q ∧ G a = some (.hid (ha q)) ∧ G q = some (.hid hq)
theorem Hand.new {a p : Addr} {G : DH} {o : DO} (h : Hand a G) (hp : G p = none) : Hand a (dupd G p o) := by
  obtain ⟨q, n, h1, h2⟩ := h
  exact ⟨q, n, by rw [dupd_ne (dne_of h1 hp)]; exact h1, by rw [dupd_ne (dne_of h2 hp)]; exact h2⟩
theorem Hand.put {a p : Addr} {G : DH} {o : DO} {ds : List D} (h : Hand a G) (hp : G p = some (.lst ds)) : Hand a (dupd G p o) := by
  obtain ⟨q, n, h1, h2⟩ := h
  refine ⟨q, n, ?_, ?_⟩
  · rw [dupd_ne (by rintro rfl; rw [h1] at hp; cases hp)]; exact h1
  · rw [dupd_ne (by rintro rfl; rw [h2] at hp; cases hp)]; exact h2
end DL
namespace DL
open PySem PySem.Spec L2
section
variable {te tb : DTE} {t : DTA} {tt : DTT} {u v : DTS} {W : DX} {σ : DSt} {G : DH} {d x y : D} {b : Bool}
theorem dCons_ret {Q : List D → DH → Prop} (d : D) (h : Ret te W σ G d) (k : t W σ G fun xs G2 => Q (d :: xs) G2) : dCons te t W σ G Q := h _ k
theorem dAsg_ret {g : DTG} {Dn : DEnds} (d : D) (h : Ret te W σ G d) (k : g W d σ G Dn.nx) : dAsg te g W Dn σ G := h _ k
theorem dRet_ret {Dn : DEnds} (d : D) (h : Ret te W σ G d) (k : Dn.rt d G) : dRet te W Dn σ G := h _ k
theorem dIfS_ret {Dn : DEnds} (b : Bool) (h : RetT tt W σ G b) (k : (b = true → u W Dn σ G) ∧ (b = false → v W Dn σ G)) : dIfS tt u v W Dn σ G := h _ (by
  cases b with
  | true => exact iteT (k.1 rfl)
  | false => exact iteF (k.2 rfl))
theorem dIf_ret {ta : DTE} (b : Bool) (h : RetT tt W σ G b) (h1 : b = true → Ret ta W σ G d) (h2 : b = false → Ret tb W σ G d) : Ret (dIf tt ta tb) W σ G d := fun Q q => h _ (by
  cases b with
  | true => exact iteT (h1 rfl Q q)
  | false => exact iteF (h2 rfl Q q))
theorem dTru_ret (b : Bool) (h : Ret te W σ G (.bl b)) : RetT (dTru te) W σ G b := fun Q q => h _ q
theorem dTest_ret (b : Bool) (h : Ret te W σ G (.bl b)) : RetT (dTest te) W σ G b := fun Q q => h _ q
theorem dNot_ret (b : Bool) (h : RetT tt W σ G b) : RetT (dNot tt) W σ G (!b) := fun Q q => h _ q
theorem dAnd_ret {t1 t2 : DTT} (a b : Bool) (h1 : RetT t1 W σ G a) (h2 : a = true → RetT t2 W σ G b) : RetT (dAnd t1 t2) W σ G (a && b) := fun Q q => h1 _ (by
  cases a with
  | true => exact iteT (h2 rfl Q q)
  | false => exact iteF q)
theorem dOr_ret {t1 t2 : DTT} (a b : Bool) (h1 : RetT t1 W σ G a) (h2 : a = false → RetT t2 W σ G b) : RetT (dOr t1 t2) W σ G (a || b) := fun Q q => h1 _ (by
  cases a with
  | false => exact iteF (h2 rfl Q q)
  | true => exact iteT q)
theorem dAndV_ret {t1 t2 : DTE} (a b : Bool) (h1 : Ret t1 W σ G (.bl a)) (h2 : a = true → Ret t2 W σ G (.bl b)) : Ret (dAndV t1 t2) W σ G (.bl (a && b)) := fun Q q => h1 _ (by
  cases a with
  | true => exact iteT (h2 rfl Q q)
  | false => exact iteF q)
theorem dOrV_ret {t1 t2 : DTE} (a b : Bool) (h1 : Ret t1 W σ G (.bl a)) (h2 : a = false → Ret t2 W σ G (.bl b)) : Ret (dOrV t1 t2) W σ G (.bl (a || b)) := fun Q q => h1 _ (by
  cases a with
  | false => exact iteF (h2 rfl Q q)
  | true => exact iteT q)
theorem dNotV_ret {t1 : DTE} (a : Bool) (h1 : Ret t1 W σ G (.bl a)) : Ret (dNotV t1) W σ G (.bl (!a)) := fun Q q => h1 _ q
theorem dVar_ret {i : Nat} (h : σ[i]? = some (some d)) : Ret (dVar i) W σ G d := fun Q q => ⟨d, h, q⟩
theorem dK_ret : Ret (dK d) W σ G d := fun Q q => q
theorem dOp_ret {q : Q2} {ta : DTE} (x y : D) (h1 : Ret ta W σ G x) (h2 : Ret tb W σ G y) (h : ∀ Q : DK, Q d G → q x y G Q) : Ret (dOp q ta tb) W σ G d := fun Q k => h1 _ (h2 _ (h Q k))
theorem dChain_ret {q q' : Q2} {ta tc : DTE} (x y z : D) (a b : Bool) (h1 : Ret ta W σ G x) (h2 : Ret tb W σ G y) (h3 : ∀ Q : DK, Q (.bl a) G → q x y G Q) (h4 : a = true → Ret tc W σ G z) (h5 : a = true → ∀ Q : DK, Q (.bl b) G → q' y z G Q) : Ret (dChain q q' ta tb tc) W σ G (.bl (a && b)) :=
  fun Q k => h1 _ (h2 _ (h3 _ (by
    cases a with
    | true => exact iteT (h4 rfl _ (h5 rfl Q k))
    | false => exact iteF k)))
def RetA (t : DTA) (W : DX) (σ : DSt) (G : DH) (ds : List D) : Prop := ∀ Q : List D → DH → Prop, Q ds G → t W σ G Q
theorem dNil_ret : RetA dNil W σ G [] := fun Q q => q
theorem dConsA_ret {ds : List D} (h : Ret te W σ G d) (h2 : RetA t W σ G ds) : RetA (dCons te t) W σ G (d :: ds) := fun Q q => h _ (h2 _ q)
theorem dN_ret {q : QN} (ds : List D) (h : RetA t W σ G ds) (k : ∀ Q : DK, Q d G → q ds G Q) : Ret (dN q t) W σ G d := fun Q z => h _ (k Q z)
theorem dCall_ret {sp : DSp} (ds : List D) (h : RetA t W σ G ds) (k : ∀ (Q : DK) (E : Exc → DH → Prop), Q d G → sp ds G Q E) : Ret (dCall sp t) W σ G d := fun Q z => h _ (k Q _ z)
theorem dTup_ret {ds : List D} (h : RetA t W σ G ds) (z : ds.length ≤ 1000 := by decide) : Ret (dTup t) W σ G (.tup ds) := fun Q q => h _ ⟨Nat.le_trans z (by decide), q⟩
theorem dLst_ret {ds : List D} (h : RetA t W σ G ds) (z : ds.length ≤ 1000 := by decide) : Ret (dLst false t) W σ G (.lst ds) := fun Q q => h _ ⟨Nat.le_trans z (by decide), q⟩
def RetI (t : DTI) (W : DX) (σ : DSt) (G : DH) (ds : List D) : Prop := ∀ Q : List D → DH → Prop, Q ds G → t W σ G Q
theorem dIt_ret {ds : List D} (x : D) (h : Ret te W σ G x) (e : itD x = some ds) : RetI (dIt te) W σ G ds := fun Q q => h _ (by rw [e]; exact q)
theorem dRng1_ret (n : Nat) (h : RetA t W σ G [.int n]) (hz : n < 2 ^ 60 := by omega) : RetI (dRng1 t) W σ G (rngD 0 1 n) := fun Q q => h _ ⟨⟨by omega, by omega⟩, by simpa using q⟩
theorem dZip_ret {a b : List D} (x y : D) (h : RetA t W σ G [x, y]) (e1 : itD x = some a) (e2 : itD y = some b) : RetI (dZip t) W σ G (zipD a b) := fun Q q => h _ (by
  show (match itD x, itD y with | some a, some b => Q (zipD a b) G | _, _ => False)
  rw [e1, e2]; exact q)
/-- [e for x in xs], frozen -/
theorem dLc1_ret {i : Nat} {vs : List Nat} {t : DTI} {xs : List D} (f : D → D) (h : RetI t W σ G xs) (hz : xs.length ≤ 100000) (he : ∀ d ∈ xs, Ret te W0 ((dwipe σ vs).set i (some d)) G (f d)) : Ret (dLc false vs t (gSet i) dYes te) W σ G (.lst (xs.map f)) :=
  fun Q q => h _ ⟨Nat.le_trans hz (by decide), comp1 f he q⟩
theorem dLcF_ret {i : Nat} {vs : List Nat} {t : DTI} {xs : List D} (f : D → D) (p : D → Bool) (h : RetI t W σ G xs) (hz : xs.length ≤ 100000) (ht : ∀ d ∈ xs, RetT tt W0 ((dwipe σ vs).set i (some d)) G (p d)) (he : ∀ d ∈ xs, p d = true → Ret te W0 ((dwipe σ vs).set i (some d)) G (f d)) :
    Ret (dLc false vs t (gSet i) tt te) W σ G (.lst ((xs.filter p).map f)) := fun Q q => h _ ⟨Nat.le_trans hz (by decide), compF f p ht he q⟩
theorem dLc2_ret {α : Type} {i j : Nat} {vs : List Nat} {t : DTI} {xs : List α} (A B f : α → D) (h : RetI t W σ G (xs.map fun a => .tup [A a, B a])) (hz : xs.length ≤ 100000) (he : ∀ a ∈ xs, Ret te W0 (((dwipe σ vs).set i (some (A a))).set j (some (B a))) G (f a)) :
    Ret (dLc false vs t (gTupD 2 (gsCons (gSet i) (gsCons (gSet j) gsNil))) dYes te) W σ G (.lst (xs.map f)) := fun Q q => h _ ⟨Nat.le_trans (by rw [List.length_map]; exact hz) (by decide), comp2 A B f he q⟩
theorem dLc2F_ret {α : Type} {i j : Nat} {vs : List Nat} {t : DTI} {xs : List α} (A B f : α → D) (p : α → Bool) (h : RetI t W σ G (xs.map fun a => .tup [A a, B a])) (hz : xs.length ≤ 100000) (ht : ∀ a ∈ xs, RetT tt W0 (((dwipe σ vs).set i (some (A a))).set j (some (B a))) G (p a))
    (he : ∀ a ∈ xs, p a = true → Ret te W0 (((dwipe σ vs).set i (some (A a))).set j (some (B a))) G (f a)) :
    Ret (dLc false vs t (gTupD 2 (gsCons (gSet i) (gsCons (gSet j) gsNil))) tt te) W σ G (.lst ((xs.filter p).map f)) := fun Q q => h _ ⟨Nat.le_trans (by rw [List.length_map]; exact hz) (by decide), comp2F A B f p ht he q⟩
/-! built-ins on known trees -/
theorem isi_ret {x : D} {T s : String} {b : Bool} (h1 : tyD G x = some s) (h2 : kitB s T = some b) : ∀ Q : DK, Q (.bl b) G → qIsi [x, .ty T] G Q := fun Q q => by
  have : isTy G x T = some b := by unfold isTy; rw [h1]; exact h2
  show (match isTy G x T with | some b => Q (.bl b) G | none => False)
  rw [this]; exact q
theorem all_ret {bs : List Bool} {x : D} (h : x = .lst (bs.map .bl)) : ∀ Q : DK, Q (.bl (bs.all id)) G → qAll [x] G Q := fun Q q => by
  subst h
  show (match (some (bs.map D.bl)).bind blsOf with | some ns => Q (.bl (ns.all id)) G | none => False)
  rw [Option.bind_some, blsOf_map]; exact q
theorem any_ret {bs : List Bool} {x : D} (h : x = .lst (bs.map .bl)) : ∀ Q : DK, Q (.bl (bs.any id)) G → qAny [x] G Q := fun Q q => by
  subst h
  show (match (some (bs.map D.bl)).bind blsOf with | some ns => Q (.bl (ns.any id)) G | none => False)
  rw [Option.bind_some, blsOf_map]; exact q
theorem join_ret {ls : List (List Nat)} {x : D} (h : dseq G x = some (ls.map fun l => D.str (S l))) (hz : (ls.map List.length).sum ≤ 16777216) : ∀ Q : DK, Q (.str (S ls.flatten)) G → qJoin (.str (S [])) [x] G Q := fun Q q => by
  have e : (dseq G x).bind strsOf = some (ls.map S) := by
    rw [h, Option.bind_some, show (ls.map fun l => D.str (S l)) = (ls.map S).map D.str by simp [Function.comp_def], strsOf_map]
  show (match (dseq G x).bind strsOf with | some ys => (ys.map (·.length)).sum + ys.length * (S []).length ≤ 16777216 ∧ Q (.str (Txt.join (S []) ys)) G | none => False)
  rw [e]
  refine ⟨?_, by rw [join_S]; exact q⟩
  rw [List.map_map, show ((fun x : Str => x.length) ∘ S) = List.length from funext fun l => S_len, S_len]
  simpa using hz
end
end DL
namespace DL
open PySem PySem.Spec L2
theorem lt_sz {n : Nat} (h : n ≤ 1000000) : n < sizeLine := Nat.lt_of_le_of_lt h (by decide)
theorem le_sz {n : Nat} (h : n ≤ 1000000) : n ≤ sizeLine := Nat.le_trans h (by decide)
theorem log_lt {n k : Nat} (h : n < 2 ^ k) (hk : 0 < k) : n.log2 < k := by
  by_cases h0 : n = 0
  · subst h0; exact hk
  · exact (Nat.log2_lt h0).mpr h
theorem cdivW {i j : Int} (hj : 0 < j) (h : j < 2 ^ 256) : CDivW i j := ⟨hj, Nat.lt_trans (log_lt (k := 256) (by omega) (by decide)) (by decide)⟩
end DL
namespace DL
open PySem PySem.Spec L2
section
variable {te tb : DTE} {t : DTA} {tt : DTT} {u v : DTS} {W : DX} {σ : DSt} {G : DH} {d x y : D} {b : Bool} {xs : List D}
theorem dRevL_ret (x : D) (h : Ret te W σ G x) (e : dlst G x = some xs) : Ret (dRevL false te) W σ G (.lst xs.reverse) := fun Q q => h _ (by
  show (match dlst G x with | some xs => mkL false xs.reverse G Q | none => False)
  rw [e]; exact q)
theorem dM_ret {T : String} {q : QM} {ta : DTE} (x : D) (ds : List D) (h1 : Ret ta W σ G x) (h2 : tyM T x G) (h3 : RetA t W σ G ds) (k : ∀ Q : DK, Q d G → q x ds G Q) : Ret (dM T q ta t) W σ G d := fun Q z => h1 _ ⟨h2, h3 _ (k Q z)⟩
theorem dDrop_append {Dn : DEnds} {ta : DTE} (p : Addr) (xs : List D) (d : D) (h1 : Ret ta W σ G (.ref p)) (h2 : G p = some (.lst xs)) (h3 : Ret te W σ G d) (hz : xs.length ≤ 1000000) (k : Dn.nx σ (dupd G p (.lst (xs ++ [d])))) : dDrop (dM "list" qAppend ta (dCons te dNil)) W Dn σ G :=
  h1 _ ⟨tyM_ref h2, h3 _ (show qAppend (.ref p) [d] G (fun _ G1 => Dn.nx σ G1) from append_ref h2 (lt_sz hz) k)⟩
theorem dK_eq (h : x = d) : Ret (dK x) W σ G d := h ▸ dK_ret
theorem dKs_eq {a : Str} {l : List Nat} (h : a = S l) : Ret (dK (.str a)) W σ G (.str (S l)) := h ▸ dK_ret
theorem dDrop_ret {Dn : DEnds} (d : D) (h : Ret te W σ G d) (k : Dn.nx σ G) : dDrop te W Dn σ G := h _ k
/-- ''.join(..) -/
theorem join1_ret {ta : DTE} {ls : List (List Nat)} {x : D} (h1 : Ret ta W σ G (.str (S []))) (h2 : Ret te W σ G x) (h : dseq G x = some (ls.map fun l => D.str (S l))) (hz : (ls.map List.length).sum ≤ 16777216) (e : d = .str (S ls.flatten)) : Ret (dM "str" qJoin ta (dCons te dNil)) W σ G d :=
  dM_ret _ _ h1 rfl (dConsA_ret h2 dNil_ret) fun Q z => join_ret h hz Q (e ▸ z)
/-- .. of single signs -/
theorem joinC_ret {ta : DTE} {l : List Nat} {x : D} (h1 : Ret ta W σ G (.str (S []))) (h2 : Ret te W σ G x) (h : dseq G x = some (l.map fun c => D.str (S [c]))) (hz : l.length ≤ 16777216) : Ret (dM "str" qJoin ta (dCons te dNil)) W σ G (.str (S l)) := by
  refine join1_ret (ls := l.map fun c => [c]) h1 h2 (by rw [h, List.map_map]; rfl) ?_ (by rw [flat1])
  rw [List.map_map, show (List.length ∘ fun c : Nat => [c]) = fun _ => 1 from rfl, List.map_const']
  simpa using hz
end
/-- the draws' tests -/
theorem dec_nat {a b : Nat} : decide ((a : Int) = (b : Int)) = decide (a = b) := decide_eq_decide.mpr (by omega)
theorem mod2i (n : Nat) : ((n : Int) % 2) = ((n % 2 : Nat) : Int) := by omega
theorem zipWith_zip {α β γ : Type} (f : α → β → γ) : ∀ (a : List α) (b : List β), List.zipWith f a b = (a.zip b).map fun p => f p.1 p.2
  | [], _ => by simp
  | _ :: _, [] => by simp
  | x :: a, y :: b => by simp [zipWith_zip f a b]
theorem e_str : Str.ofString "" = S [] := by decide +kernel
theorem e_0 : Str.ofString "0" = S [48] := by decide +kernel
theorem e_1 : Str.ofString "1" = S [49] := by decide +kernel
theorem e_01 : Str.ofString "01" = S [48, 49] := by decide +kernel
end DL

/-! D14: more reading. -/
namespace DL
open PySem PySem.Spec L2
section
variable {te tb : DTE} {t : DTA} {tt : DTT} {u v : DTS} {W : DX} {σ : DSt} {G : DH} {d x y : D} {b : Bool} {xs : List D}
theorem eqI_ret {i j : Int} {p : Bool} (h : decide (i = j) = p) : ∀ Q : DK, Q (.bl p) G → qEq false (.int i) (.int j) G Q := fun Q q => by subst h; exact q
theorem neI_ret {i j : Int} {p : Bool} (h : (!decide (i = j)) = p) : ∀ Q : DK, Q (.bl p) G → qEq true (.int i) (.int j) G Q := fun Q q => by subst h; exact q
theorem eqS_ret {i j : List Nat} {p : Bool} (h : decide (i = j) = p) : ∀ Q : DK, Q (.bl p) G → qEq false (.str (S i)) (.str (S j)) G Q := fun Q q => by
  show Q (.bl (decide (S i = S j))) G
  rw [decide_eq_decide.mpr S_inj, h]; exact q
theorem zip_ret {α β : Type} {te1 te2 : DTE} (A : α → D) (B : β → D) (a : List α) (b : List β) (x y : D) (h1 : Ret te1 W σ G x) (h2 : Ret te2 W σ G y) (e1 : itD x = some (a.map A)) (e2 : itD y = some (b.map B)) : RetI (dZip (dCons te1 (dCons te2 dNil))) W σ G ((a.zip b).map fun p => .tup [A p.1, B p.2]) := by
  rw [← zipD_zip]; exact dZip_ret _ _ (dConsA_ret h1 (dConsA_ret h2 dNil_ret)) e1 e2
theorem it_S {l : List Nat} : itD (.str (S l)) = some (l.map fun c => D.str (S [c])) := by show some (signs (S l)) = _; rw [signs_S]
end
end DL
namespace DL
open PySem PySem.Spec L2
section
variable {te tb : DTE} {t : DTA} {tt : DTT} {u v : DTS} {W : DX} {σ : DSt} {G : DH} {d x y : D} {b : Bool} {xs : List D}
theorem isi1 {T s : String} (x : D) (h : Ret te W σ G x) (h1 : tyD G x = some s) (h2 : kitB s T = some b) : Ret (dN qIsi (dCons te (dCons (dK (.ty T)) dNil))) W σ G (.bl b) :=
  dN_ret _ (dConsA_ret h (dConsA_ret dK_ret dNil_ret)) (isi_ret h1 h2)
theorem comp1M {α : Type} {i : Nat} (A f : α → D) : ∀ {xs : List α} {Q : List D → DH → Prop}, (∀ a ∈ xs, Ret te W0 (σ.set i (some (A a))) G (f a)) → Q (xs.map f) G → dComp (gSet i) dYes te (xs.map A) σ G Q
  | [], Q, _, q => q
  | d :: r, Q, h, q => h d List.mem_cons_self _ (comp1M A f (fun e he => h e (List.mem_cons_of_mem _ he)) q)
theorem dLcM_ret {α : Type} {i : Nat} {vs : List Nat} {t : DTI} {xs : List α} (A f : α → D) (h : RetI t W σ G (xs.map A)) (hz : xs.length ≤ 100000) (he : ∀ a ∈ xs, Ret te W0 ((dwipe σ vs).set i (some (A a))) G (f a)) : Ret (dLc false vs t (gSet i) dYes te) W σ G (.lst (xs.map f)) :=
  fun Q q => h _ ⟨Nat.le_trans (by rw [List.length_map]; exact hz) (by decide), comp1M A f he q⟩
theorem compFM {α : Type} {i : Nat} (A f : α → D) (p : α → Bool) : ∀ {xs : List α} {Q : List D → DH → Prop}, (∀ a ∈ xs, RetT tt W0 (σ.set i (some (A a))) G (p a)) → (∀ a ∈ xs, p a = true → Ret te W0 (σ.set i (some (A a))) G (f a)) → Q ((xs.filter p).map f) G → dComp (gSet i) tt te (xs.map A) σ G Q
  | [], Q, _, _, q => q
  | d :: r, Q, ht, h, q => by
    refine ht d List.mem_cons_self _ ?_
    cases hp : p d with
    | true =>
      rw [List.filter_cons_of_pos hp] at q
      exact iteT (h d List.mem_cons_self hp _ (compFM A f p (fun e he => ht e (List.mem_cons_of_mem _ he)) (fun e he => h e (List.mem_cons_of_mem _ he)) q))
    | false =>
      rw [List.filter_cons_of_neg (by simp [hp])] at q
      exact iteF (compFM A f p (fun e he => ht e (List.mem_cons_of_mem _ he)) (fun e he => h e (List.mem_cons_of_mem _ he)) q)
theorem dLcFM_ret {α : Type} {i : Nat} {vs : List Nat} {t : DTI} {xs : List α} (A f : α → D) (p : α → Bool) (h : RetI t W σ G (xs.map A)) (hz : xs.length ≤ 100000) (ht : ∀ a ∈ xs, RetT tt W0 ((dwipe σ vs).set i (some (A a))) G (p a)) (he : ∀ a ∈ xs, p a = true → Ret te W0 ((dwipe σ vs).set i (some (A a))) G (f a)) :
    Ret (dLc false vs t (gSet i) tt te) W σ G (.lst ((xs.filter p).map f)) := fun Q q => h _ ⟨Nat.le_trans (by rw [List.length_map]; exact hz) (by decide), compFM A f p ht he q⟩
/-- all([..]) -/
theorem allL_ret {bs : List Bool} (h : Ret te W σ G (.lst (bs.map .bl))) : Ret (dN qAll (dCons te dNil)) W σ G (.bl (bs.all id)) := dN_ret _ (dConsA_ret h dNil_ret) (all_ret rfl)
theorem anyL_ret {bs : List Bool} (h : Ret te W σ G (.lst (bs.map .bl))) : Ret (dN qAny (dCons te dNil)) W σ G (.bl (bs.any id)) := dN_ret _ (dConsA_ret h dNil_ret) (any_ret rfl)
theorem allM_ret {α : Type} {l : List α} {f : α → Bool} (h : Ret te W σ G (.lst (l.map fun a => .bl (f a)))) : Ret (dN qAll (dCons te dNil)) W σ G (.bl (l.all f)) := by
  have := allL_ret (bs := l.map f) (te := te) (W := W) (σ := σ) (G := G) (by rw [List.map_map]; exact h)
  rwa [List.all_map] at this
theorem anyM_ret {α : Type} {l : List α} {f : α → Bool} (h : Ret te W σ G (.lst (l.map fun a => .bl (f a)))) : Ret (dN qAny (dCons te dNil)) W σ G (.bl (l.any f)) := by
  have := anyL_ret (bs := l.map f) (te := te) (W := W) (σ := σ) (G := G) (by rw [List.map_map]; exact h)
  rwa [List.any_map] at this
theorem lenS_ret (z : Str) (h : Ret te W σ G (.str z)) (hz : z.length ≤ 1000000) : Ret (dN qLen (dCons te dNil)) W σ G (.int z.length) := dN_ret _ (dConsA_ret h dNil_ret) fun Q q => ⟨le_sz hz, q⟩
theorem lenX_ret (x : D) (h : Ret te W σ G x) (e : dseq G x = some xs) : Ret (dN qLen (dCons te dNil)) W σ G (.int xs.length) := dN_ret _ (dConsA_ret h dNil_ret) fun Q q => len_seq e q
theorem tupX_ret (x : D) (h : Ret te W σ G x) (e : dseq G x = some xs) : Ret (dN qTuple (dCons te dNil)) W σ G (.tup xs) := dN_ret _ (dConsA_ret h dNil_ret) fun Q q => by
  show (match dseq G x with | some xs => Q (.tup xs) G | none => False)
  rw [e]; exact q
theorem lstX_ret (x : D) (h : Ret te W σ G x) (e : dseq G x = some xs) : Ret (dN (qList false) (dCons te dNil)) W σ G (.lst xs) := dN_ret _ (dConsA_ret h dNil_ret) fun Q q => by
  show (match dseq G x with | some xs => mkL false xs G Q | none => False)
  rw [e]; exact q
theorem ixX_ret {ta : DTE} (x : D) (i : Int) (h1 : Ret te W σ G x) (h2 : Ret ta W σ G (.int i)) (e : dseq G x = some xs) (e2 : L2.atI xs i = some d) : Ret (dOp qIx te ta) W σ G d := dOp_ret _ _ h1 h2 fun Q q => ix_seq' e e2 q
theorem ixN_nat {n i : Nat} (h : i < n) : ixN n (i : Int) = some i := by
  unfold ixN
  simp [h]
theorem atI_nat {α : Type} {xs : List α} {i : Nat} {a : α} (h : xs[i]? = some a) : L2.atI xs (i : Int) = some a := by
  have hl : i < xs.length := (List.getElem?_eq_some_iff.mp h).1
  unfold L2.atI
  rw [ixN_nat hl]
  exact h
theorem cut_from {α : Type} {xs : List α} {k : Nat} : cutL xs (some (k : Int)) none = xs.drop k := by
  unfold cutL
  rw [HT.sIx_nat, HT.sIx_none]
  by_cases h : k ≤ xs.length
  · rw [Nat.min_eq_left h, List.take_of_length_le (by rw [List.length_drop]; exact Nat.le_refl _)]
  · rw [Nat.min_eq_right (by omega), List.drop_of_length_le (Nat.le_refl _), List.drop_of_length_le (by omega)]; simp
theorem cut_to {α : Type} {xs : List α} {k : Nat} : cutL xs none (some (k : Int)) = xs.take k := by
  unfold cutL
  rw [HT.sIx_nat, HT.sIx_none, List.drop_zero, Nat.sub_zero]
  by_cases h : k ≤ xs.length
  · rw [Nat.min_eq_left h]
  · rw [Nat.min_eq_right (by omega), List.take_of_length_le (Nat.le_refl _), List.take_of_length_le (by omega)]
theorem shl_ret {ta : DTE} {k : Nat} (h1 : Ret te W σ G (.int 1)) (h2 : Ret ta W σ G (.int k)) (hk : k ≤ 1000) : Ret (dOp qShl te ta) W σ G (.int ((2 ^ k : Nat) : Int)) := dOp_ret _ _ h1 h2 fun Q q => ⟨⟨by omega, by omega, by decide⟩, by
  have : (1 : Int) * 2 ^ (k : Int).toNat = ((2 ^ k : Nat) : Int) := by simp
  show Q (.int ((1 : Int) * 2 ^ (k : Int).toNat)) G
  rw [this]; exact q⟩
end
end DL
namespace DL
open PySem PySem.Spec L2
section
variable {te tb : DTE} {t : DTA} {tt : DTT} {u v : DTS} {W : DX} {σ : DSt} {G : DH} {d x y : D} {b : Bool} {xs : List D} {Dn : DEnds}
theorem dDrop_call {sp : DSp} (ds : List D) (h : RetA t W σ G ds) (k : sp ds G (fun _ G1 => Dn.nx σ G1) (fun x G2 => W x σ G2)) : dDrop (dCall sp t) W Dn σ G := h _ k
theorem dRet_call {sp : DSp} (ds : List D) (h : RetA t W σ G ds) (k : sp ds G Dn.rt (fun x G2 => W x σ G2)) : dRet (dCall sp t) W Dn σ G := h _ k
theorem dAsg_call {sp : DSp} {i : Nat} (ds : List D) (h : RetA t W σ G ds) (k : sp ds G (fun d G1 => Dn.nx (σ.set i (some d)) G1) (fun x G2 => W x σ G2)) : dAsg (dCall sp t) (gSet i) W Dn σ G := h _ k
theorem dNext_i (h : Dn.nx σ G) : dNext W Dn σ G := h
theorem at0 {α : Type} {a : α} {r : List α} : L2.atI (a :: r) 0 = some a := atI_nat (i := 0) rfl
theorem at1 {α : Type} {a b : α} {r : List α} : L2.atI (a :: b :: r) 1 = some b := atI_nat (i := 1) rfl
end
end DL
namespace DL
open PySem PySem.Spec L2
section
variable {te tb : DTE} {t : DTA} {tt : DTT} {u v u1 : DTS} {W : DX} {σ : DSt} {G : DH} {d x y : D} {b : Bool} {xs : List D} {Dn : DEnds} {i : Nat} {sp : DSp}
/-! statement by statement -/
theorem seqSet (d : D) (h : Ret te W σ G d) (k : u W Dn (σ.set i (some d)) G) : dSeq (dAsg te (gSet i)) u W Dn σ G := h _ k
theorem seqSetM {m : Prop} (h : te W σ G fun d G1 => u W Dn (σ.set i (some d)) G1) : dSeq (dAsg te (gSet i)) u W Dn σ G := h
theorem seqCall (ds : List D) (h : RetA t W σ G ds) (k : sp ds G (fun d G1 => u W Dn (σ.set i (some d)) G1) (fun x G2 => W x σ G2)) : dSeq (dAsg (dCall sp t) (gSet i)) u W Dn σ G := h _ k
theorem seqDrop (d : D) (h : Ret te W σ G d) (k : u W Dn σ G) : dSeq (dDrop te) u W Dn σ G := h _ k
theorem seqDropCall (ds : List D) (h : RetA t W σ G ds) (k : sp ds G (fun _ G1 => u W Dn σ G1) (fun x G2 => W x σ G2)) : dSeq (dDrop (dCall sp t)) u W Dn σ G := h _ k
/-- if t: u1 (which leaves); then u -/
theorem seqIfL (b : Bool) (h : RetT tt W σ G b) (h1 : b = true → u1 W { nx := u W Dn, rt := Dn.rt, bk := Dn.bk, ct := Dn.ct } σ G) (h2 : b = false → u W Dn σ G) : dSeq (dIfS tt u1 dNext) u W Dn σ G := h _ (by
  cases b with
  | true => exact iteT (h1 rfl)
  | false => exact iteF (h2 rfl))
theorem seqIf (b : Bool) (h : RetT tt W σ G b) (h1 : b = true → u1 W { nx := u W Dn, rt := Dn.rt, bk := Dn.bk, ct := Dn.ct } σ G) (h2 : b = false → v W { nx := u W Dn, rt := Dn.rt, bk := Dn.bk, ct := Dn.ct } σ G) : dSeq (dIfS tt u1 v) u W Dn σ G := h _ (by
  cases b with
  | true => exact iteT (h1 rfl)
  | false => exact iteF (h2 rfl))
theorem ifL (b : Bool) (h : RetT tt W σ G b) (h1 : b = true → u1 W Dn σ G) (h2 : b = false → v W Dn σ G) : dIfS tt u1 v W Dn σ G := h _ (by
  cases b with
  | true => exact iteT (h1 rfl)
  | false => exact iteF (h2 rfl))
theorem seqApp {ta : DTE} (p : Addr) (xs : List D) (d : D) (h1 : Ret ta W σ G (.ref p)) (h2 : G p = some (.lst xs)) (h3 : Ret te W σ G d) (hz : xs.length ≤ 1000000) (k : u W Dn σ (dupd G p (.lst (xs ++ [d])))) : dSeq (dDrop (dM "list" qAppend ta (dCons te dNil))) u W Dn σ G :=
  dDrop_append p xs d h1 h2 h3 hz k
/-- a list of our own is begun -/
theorem seqNew {t : DTA} {ds : List D} (h : RetA t W σ G ds) (hz : ds.length ≤ 1000) (k : ∀ p, G p = none → u W Dn (σ.set i (some (.ref p))) (dupd G p (.lst ds))) : dSeq (dAsg (dLst true t) (gSet i)) u W Dn σ G := h _ ⟨Nat.le_trans hz (by decide), k⟩
/-- a[j] = e -/
theorem seqPut {to ti : DTE} (p : Addr) (xs : List D) (k : Int) (j : Nat) (d : D) (h1 : Ret te W σ G d) (h2 : Ret to W σ G (.ref p)) (h3 : Ret ti W σ G (.int k)) (h4 : G p = some (.lst xs)) (h5 : ixN xs.length k = some j) (hk : u W Dn σ (dupd G p (.lst (xs.set j d)))) : dSeq (dAsg te (gSubD dSetL to ti)) u W Dn σ G :=
  h1 _ (h2 _ (h3 _ ⟨xs, j, h4, h5, hk⟩))
theorem asgPut {to ti : DTE} (p : Addr) (xs : List D) (k : Int) (j : Nat) (d : D) (h1 : Ret te W σ G d) (h2 : Ret to W σ G (.ref p)) (h3 : Ret ti W σ G (.int k)) (h4 : G p = some (.lst xs)) (h5 : ixN xs.length k = some j) (hk : Dn.nx σ (dupd G p (.lst (xs.set j d)))) : dAsg te (gSubD dSetL to ti) W Dn σ G :=
  h1 _ (h2 _ (h3 _ ⟨xs, j, h4, h5, hk⟩))
theorem seqFor {t : DTI} {g : DTG} {tb : DTS} (xs : List D) (h : RetI t W σ G xs) (k : dRun g tb xs W { nx := u W Dn, rt := Dn.rt, bk := Dn.bk, ct := Dn.ct } σ G) : dSeq (dFor t g tb) u W Dn σ G := h _ k
/-- a loop over numbers, by an invariant -/
theorem run_rng {tb : DTS} (I : Nat → DSt → DH → Prop) (n : Nat) (step : ∀ k σ G, k < n → I k σ G → ∀ nx : DSt → DH → Prop, (∀ σ' G', I (k + 1) σ' G' → nx σ' G') → tb W { nx := nx, rt := Dn.rt, bk := Dn.nx, ct := nx } (σ.set i (some (.int (k : Nat)))) G) (done : ∀ σ G, I n σ G → Dn.nx σ G) :
    ∀ (m k : Nat), k + m = n → ∀ σ G, I k σ G → dRun (gSet i) tb (rngD (k : Nat) 1 m) W Dn σ G
  | 0, k, e, σ, G, h => by rw [rngD_zero]; exact done σ G (by rw [← e]; exact h)
  | m + 1, k, e, σ, G, h => by
    rw [rngD_succ]
    refine step k σ G (by omega) h _ fun σ' G' h' => ?_
    have := run_rng I n step done m (k + 1) (by omega) σ' G' h'
    rw [show ((k : Nat) : Int) + 1 = ((k + 1 : Nat) : Int) by omega]
    exact this
/-- for k in range(n): .., by an invariant -/
theorem seqRng {t : DTA} {tb : DTS} (n : Nat) (I : Nat → DSt → DH → Prop) (h : RetA t W σ G [.int (n : Nat)]) (hz : n < 2 ^ 60) (start : I 0 σ G)
    (step : ∀ k σ G, k < n → I k σ G → ∀ nx : DSt → DH → Prop, (∀ σ' G', I (k + 1) σ' G' → nx σ' G') → tb W { nx := nx, rt := Dn.rt, bk := u W Dn, ct := nx } (σ.set i (some (.int (k : Nat)))) G) (done : ∀ σ G, I n σ G → u W Dn σ G) : dSeq (dFor (dRng1 t) (gSet i) tb) u W Dn σ G :=
  seqFor _ (dRng1_ret n h hz) (run_rng (Dn := { nx := u W Dn, rt := Dn.rt, bk := Dn.bk, ct := Dn.ct }) I n step done n 0 (by omega) σ G start)
end
end DL
namespace DL
open PySem PySem.Spec L2
section
variable {te tb : DTE} {t : DTA} {tt : DTT} {W : DX} {σ : DSt} {G : DH} {d x y : D} {Dn : DEnds} {sp : DSp} {Q : DK}
theorem callV (ds : List D) (h : RetA t W σ G ds) (k : sp ds G Q (fun x G2 => W x σ G2)) : dCall sp t W σ G Q := h _ k
end
end DL
namespace DL
open PySem PySem.Spec L2
section
variable {te ta tb : DTE} {t : DTA} {tt : DTT} {W : DX} {σ : DSt} {G : DH} {d x y : D} {Dn : DEnds} {sp : DSp} {Q : DK} {q : Q2} {qn : QN} {QA : List D → DH → Prop} {u : DTS} {i : Nat}
theorem dRet_i (h : te W σ G Dn.rt) : dRet te W Dn σ G := h
theorem dOp_i (h : ta W σ G fun x G1 => tb W σ G1 fun y G2 => q x y G2 Q) : dOp q ta tb W σ G Q := h
theorem dN_i (h : t W σ G fun xs G1 => qn xs G1 Q) : dN qn t W σ G Q := h
theorem dCons_i (h : te W σ G fun x G1 => t W σ G1 fun xs G2 => QA (x :: xs) G2) : dCons te t W σ G QA := h
theorem seqSet_i (h : te W σ G fun d G1 => u W Dn (σ.set i (some d)) G1) : dSeq (dAsg te (gSet i)) u W Dn σ G := h
theorem dNotV_i (h : te W σ G fun x G1 => match x with | .bl b => Q (.bl (!b)) G1 | _ => False) : dNotV te W σ G Q := h
end
end DL
namespace DL
open PySem PySem.Spec L2
section
variable {te ta tb : DTE} {t : DTA} {tt : DTT} {W : DX} {σ : DSt} {G : DH} {d x y : D} {Dn : DEnds} {sp : DSp} {Q : DK} {i j : Int} {u : DTS}
/-! whole numbers -/
theorem modR (h1 : Ret ta W σ G (.int i)) (h2 : Ret tb W σ G (.int j)) (h : 0 < j) : Ret (dOp qMod ta tb) W σ G (.int (i % j)) := dOp_ret _ _ h1 h2 fun Q q => ⟨h, q⟩
theorem addR {m : Bool} (h1 : Ret ta W σ G (.int i)) (h2 : Ret tb W σ G (.int j)) : Ret (dOp (qAdd m) ta tb) W σ G (.int (i + j)) := dOp_ret _ _ h1 h2 fun Q q => q
theorem subR (h1 : Ret ta W σ G (.int i)) (h2 : Ret tb W σ G (.int j)) : Ret (dOp qSub ta tb) W σ G (.int (i - j)) := dOp_ret _ _ h1 h2 fun Q q => q
theorem mulR {m : Bool} (h1 : Ret ta W σ G (.int i)) (h2 : Ret tb W σ G (.int j)) (h : (-(2 ^ 64) < i ∧ i < 2 ^ 64) ∨ (-(2 ^ 64) < j ∧ j < 2 ^ 64)) : Ret (dOp (qMul m) ta tb) W σ G (.int (i * j)) := dOp_ret _ _ h1 h2 fun Q q => ⟨.inl h, q⟩
theorem fdivR (h1 : Ret ta W σ G (.int i)) (h2 : Ret tb W σ G (.int j)) (h : 0 < j) (hj : j < 2 ^ 256) : Ret (dOp qFdiv ta tb) W σ G (.int (i / j)) := dOp_ret _ _ h1 h2 fun Q q => ⟨cdivW h hj, q⟩
theorem ltR (h1 : Ret ta W σ G (.int i)) (h2 : Ret tb W σ G (.int j)) : Ret (dOp qLt ta tb) W σ G (.bl (decide (i < j))) := dOp_ret _ _ h1 h2 fun Q q => q
theorem leR (h1 : Ret ta W σ G (.int i)) (h2 : Ret tb W σ G (.int j)) : Ret (dOp qLe ta tb) W σ G (.bl (decide (i ≤ j))) := dOp_ret _ _ h1 h2 fun Q q => q
theorem gtR (h1 : Ret ta W σ G (.int i)) (h2 : Ret tb W σ G (.int j)) : Ret (dOp qGt ta tb) W σ G (.bl (decide (j < i))) := dOp_ret _ _ h1 h2 fun Q q => q
theorem geR (h1 : Ret ta W σ G (.int i)) (h2 : Ret tb W σ G (.int j)) : Ret (dOp qGe ta tb) W σ G (.bl (decide (j ≤ i))) := dOp_ret _ _ h1 h2 fun Q q => q
theorem eqR (h1 : Ret ta W σ G (.int i)) (h2 : Ret tb W σ G (.int j)) : Ret (dOp (qEq false) ta tb) W σ G (.bl (decide (i = j))) := dOp_ret _ _ h1 h2 fun Q q => q
theorem neR (h1 : Ret ta W σ G (.int i)) (h2 : Ret tb W σ G (.int j)) : Ret (dOp (qEq true) ta tb) W σ G (.bl (!decide (i = j))) := dOp_ret _ _ h1 h2 fun Q q => q
theorem intR (h : Ret te W σ G (.int i)) : Ret (dN qInt (dCons te dNil)) W σ G (.int i) := dN_ret _ (dConsA_ret h dNil_ret) fun Q q => q
theorem powR {n : Nat} (h1 : Ret ta W σ G (.int i)) (h2 : Ret tb W σ G (.int n)) (hn : n ≤ 1000) (hi : i.natAbs < 2 ^ 64) : Ret (dOp qPow ta tb) W σ G (.int (i ^ n)) := dOp_ret _ _ h1 h2 fun Q q => ⟨⟨by omega, by omega, hi⟩, q⟩
theorem shlR {n : Nat} {i : Int} (h1 : Ret ta W σ G (.int i)) (h2 : Ret tb W σ G (.int n)) (hn : n ≤ 1000) (hi : i.natAbs < 2 ^ 64) : Ret (dOp qShl ta tb) W σ G (.int (i * 2 ^ n)) := dOp_ret _ _ h1 h2 fun Q q => ⟨⟨by omega, by omega, hi⟩, q⟩
theorem xorR {a b : Nat} (h1 : Ret ta W σ G (.int a)) (h2 : Ret tb W σ G (.int b)) : Ret (dOp qXor ta tb) W σ G (.int ((a ^^^ b : Nat) : Int)) := dOp_ret _ _ h1 h2 fun Q q => by
  show Q (.int (Builtin.bitXor (a : Int) (b : Int))) G
  rw [bitXor_nat]; exact q
theorem negR (h : Ret te W σ G (.int i)) : Ret (dUn qNeg te) W σ G (.int (-i)) := fun Q q => h _ q
theorem ixR {xs : List D} {p : Addr} {k : Int} (h1 : Ret ta W σ G (.ref p)) (h2 : Ret tb W σ G (.int k)) (e : G p = some (.lst xs)) (e2 : L2.atI xs k = some d) : Ret (dOp qIx ta tb) W σ G d := ixX_ret _ _ h1 h2 (dseq_ref e) e2
theorem lenR {xs : List D} {p : Addr} (h : Ret te W σ G (.ref p)) (e : G p = some (.lst xs)) : Ret (dN qLen (dCons te dNil)) W σ G (.int xs.length) := lenX_ret _ h (dseq_ref e)
theorem Ret.cast {d2 : D} (h : Ret te W σ G d) (e : d = d2) : Ret te W σ G d2 := e ▸ h
/-- draws in a list -/
theorem compAny {i : Nat} (Pd : D → Prop) : ∀ {xs : List D} {Q : List D → DH → Prop}, (∀ d ∈ xs, ∀ Q : DK, (∀ v, Pd v → Q v G) → te W0 (σ.set i (some d)) G Q) → (∀ ys : List D, ys.length = xs.length → (∀ y ∈ ys, Pd y) → Q ys G) → dComp (gSet i) dYes te xs σ G Q
  | [], Q, _, q => q [] rfl (by simp)
  | d :: r, Q, h, q => h d List.mem_cons_self _ fun v pv => compAny Pd (fun e he => h e (List.mem_cons_of_mem _ he)) fun ys hl hy => q (v :: ys) (by simp [hl]) fun y hm => by
      rcases List.mem_cons.mp hm with rfl | hm
      · exact pv
      · exact hy y hm
end
theorem hand_sub {G G2 : DH} {a q : Addr} (h1 : G a = some (.hid (ha q))) (h2 : G q = some (.hid hq)) {k : Nat} {ns : List Int} (e1 : G2 a = some (.lst [.ref q, .int k])) (e2 : G2 q = some (.lst (ns.map .int))) (hl : ns.length ≤ 63) (hn : ∀ n ∈ ns, 0 ≤ n ∧ n < 10 ^ 60)
    (e3 : ∀ b, b ≠ a → b ≠ q → G2 b = G b) : Sub G G2 := fun b o e => by
  by_cases hb : b = a
  · subst hb
    rw [h1] at e; cases e
    exact .inr ⟨_, _, rfl, ⟨k, rfl⟩, e1⟩
  · by_cases hb2 : b = q
    · subst hb2
      rw [h2] at e; cases e
      exact .inr ⟨_, _, rfl, ⟨ns, rfl, hl, hn⟩, e2⟩
    · exact .inl (by rw [e3 b hb hb2]; exact e)
theorem emod_nat {x : Int} {m : Nat} (h : 0 < m) : ∃ r : Nat, r < m ∧ x % (m : Int) = (r : Int) := by
  have h0 := Int.emod_nonneg x (b := (m : Int)) (by omega)
  have h1 := Int.emod_lt_of_pos x (b := (m : Int)) (by omega)
  exact ⟨(x % (m : Int)).toNat, by omega, by omega⟩
end DL
namespace DL
open PySem PySem.Spec L2
section
variable {te ta tb : DTE} {t : DTA} {ti : DTI} {tt : DTT} {g : DTG} {W : DX} {σ : DSt} {G : DH} {d x y : D} {Dn : DEnds} {sp : DSp} {Q : DK} {i j : Int} {u : DTS} {m : Bool} {vs : List Nat} {xs : List D}
theorem dLst_i (h : t W σ G fun xs G1 => xs.length ≤ sizeLine ∧ mkL m xs G1 Q) : dLst m t W σ G Q := h
theorem dLc_i (h : RetI ti W σ G xs) (hz : xs.length ≤ 100000) (k : dComp g tt te xs (dwipe σ vs) G fun ys G2 => mkL m ys G2 Q) : dLc m vs ti g tt te W σ G Q := h _ ⟨Nat.le_trans hz (by decide), k⟩
end
end DL
namespace DL
open PySem PySem.Spec L2
section
variable {P : Program} {w : World} {K : PySem.W.Frag} {mg : Str → Option Value} {base : Heap}
/-- the empty promise -/
theorem has_none {k : Nat} {x : Str} {st : Stmt} {ps : List Str} (h0 : At K mg x st ps) : Has P w K mg base k x st ps (fun _ _ _ _ => False) := by
  obtain ⟨f, fd, hm, hF, hb⟩ := h0
  exact ⟨f, fd, hm, hF, hb, ⟨fun vs H Q E ⟨_, _, _, _, _, _, _, h, _⟩ => h.elim, fun A outer s H args us vs Q E _ _ _ _ ⟨_, _, _, _, _, _, _, h, _⟩ => h.elim⟩⟩
theorem Has.up {j k : Nat} {x : Str} {st : Stmt} {ps : List Str} {sp : DSp} (h : Has P w K mg base j x st ps sp) (hk : j ≤ k) : Has P w K mg base k x st ps sp := by
  obtain ⟨f, fd, hm, hF, hb, F⟩ := h
  exact ⟨f, fd, hm, hF, hb, F.mono hk⟩
end
section
variable {te ta tb : DTE} {t : DTA} {ti : DTI} {tt : DTT} {g : DTG} {W : DX} {σ : DSt} {G : DH} {d x y : D} {Dn : DEnds} {sp : DSp} {Q : DK} {i j : Int} {u : DTS} {m : Bool} {vs : List Nat} {xs : List D}
theorem asgSet {i : Nat} (d : D) (h : Ret te W σ G d) (k : Dn.nx (σ.set i (some d)) G) : dAsg te (gSet i) W Dn σ G := h _ k
theorem strR {i : Int} (h : Ret te W σ G (.int i)) (hi : i.natAbs < 2 ^ 256) : Ret (dN qStr (dCons te dNil)) W σ G (.str (Str.ofString (toString i))) := dN_ret _ (dConsA_ret h dNil_ret) fun Q q => ⟨Nat.lt_trans (log_lt hi (by decide)) (by decide), q⟩
theorem catR {a b : List Nat} (h1 : Ret ta W σ G (.str (S a))) (h2 : Ret tb W σ G (.str (S b))) (hz : a.length + b.length ≤ 1000000) : Ret (dOp (qAdd m) ta tb) W σ G (.str (S (a ++ b))) := dOp_ret _ _ h1 h2 fun Q q => ⟨by rw [S_len, S_len]; exact le_sz hz, by rw [S_app]; exact q⟩
theorem catT {a b : List D} (h1 : Ret ta W σ G (.tup a)) (h2 : Ret tb W σ G (.tup b)) (hz : a.length + b.length ≤ 1000000) : Ret (dOp (qAdd m) ta tb) W σ G (.tup (a ++ b)) := dOp_ret _ _ h1 h2 fun Q q => ⟨le_sz hz, q⟩
theorem catL {a b : List D} {x y : D} (h1 : Ret ta W σ G x) (h2 : Ret tb W σ G y) (e1 : dlsh G x = some a) (e2 : dlsh G y = some b) (hz : a.length + b.length ≤ 1000000) : Ret (dOp (qAdd false) ta tb) W σ G (.lst (a ++ b)) := dOp_ret _ _ h1 h2 fun Q q => by
  cases x with
  | lst xs => cases y with
    | lst ys => cases e1; cases e2; exact ⟨le_sz hz, q⟩
    | ref p =>
      show (match dlsh G _, dlsh G _ with | some a, some b => a.length + b.length ≤ sizeLine ∧ mkL false (a ++ b) G Q | _, _ => False)
      rw [e1, e2]; exact ⟨le_sz hz, q⟩
    | _ => cases e2
  | ref p => cases y with
    | lst ys =>
      show (match dlsh G _, dlsh G _ with | some a, some b => a.length + b.length ≤ sizeLine ∧ mkL false (a ++ b) G Q | _, _ => False)
      rw [e1, e2]; exact ⟨le_sz hz, q⟩
    | ref p2 =>
      show (match dlsh G _, dlsh G _ with | some a, some b => a.length + b.length ≤ sizeLine ∧ mkL false (a ++ b) G Q | _, _ => False)
      rw [e1, e2]; exact ⟨le_sz hz, q⟩
    | _ => cases e2
  | _ => cases e1
theorem sortR {vs : List Nat} (h : Ret te W σ G (.lst (vs.map fun v : Nat => D.int (v : Int)))) : Ret (dN (qSorted false) (dCons te dNil)) W σ G (.lst ((vs.mergeSort fun a b => decide (a ≤ b)).map fun v : Nat => D.int (v : Int))) := dN_ret _ (dConsA_ret h dNil_ret) fun Q q => by
  have e : (dlst G (.lst (vs.map fun v : Nat => D.int (v : Int)))).bind intsOf = some (vs.map fun v : Nat => (v : Int)) := by
    show (some _).bind intsOf = _
    rw [Option.bind_some, show (vs.map fun v : Nat => D.int (v : Int)) = (vs.map fun v : Nat => (v : Int)).map D.int by rw [List.map_map]; rfl, intsOf_map]
  show (match (dlst G (.lst (vs.map fun v : Nat => D.int (v : Int)))).bind intsOf with | some ns => mkL false ((isort ns).map D.int) G Q | none => False)
  rw [e]
  have e2 : isort (vs.map fun v : Nat => (v : Int)) = (vs.mergeSort fun a b => decide (a ≤ b)).map fun v : Nat => (v : Int) := by
    symm
    refine isort_eq ((List.mergeSort_perm _ _).map _) ?_
    rw [List.pairwise_map]
    have h := List.pairwise_mergeSort (le := fun a b : Nat => decide (a ≤ b)) (fun a b c h1 h2 => by simp at *; omega) (fun a b => by simp; omega) vs
    exact h.imp fun h => by have := of_decide_eq_true h; omega
  show Q (.lst ((isort _).map D.int)) G
  rw [e2, List.map_map]; exact q
/-- x in xs, xs of whole numbers -/
theorem inR {m : Bool} {v : Nat} {vs : List Nat} (h1 : Ret ta W σ G (.int v)) (h2 : Ret tb W σ G (.lst (vs.map fun v : Nat => D.int (v : Int)))) : Ret (dOp (qIn m) ta tb) W σ G (.bl (if m then !decide (v ∈ vs) else decide (v ∈ vs))) := dOp_ret _ _ h1 h2 fun Q q => by
  refine ⟨⟨rfl, ?_⟩, ?_⟩
  · rw [List.all_map, List.all_eq_true]; exact fun _ _ => rfl
  · have e : ((vs.map fun v : Nat => D.int (v : Int)).any fun z => eqF z (.int (v : Int))) = decide (v ∈ vs) := by
      rw [List.any_map, Bool.eq_iff_iff, List.any_eq_true, decide_eq_true_iff]
      constructor
      · rintro ⟨a, ha, h⟩
        have : ((a : Int) == (v : Int)) = true := h
        have e : a = v := by have := eq_of_beq this; omega
        rw [← e]; exact ha
      · intro h; exact ⟨v, h, by show ((v : Int) == (v : Int)) = true; exact beq_self_eq_true _⟩
    rw [e]; exact q
theorem RetW.frz2 {Q : DK} {p : Addr} {ds : List D} {G G1 : DH} (np : G p = none) (s : Sub G G1) (e : G1 p = some (.lst ds)) (h : Q (.lst ds) G) : RetW Q (.ref p) G1 := ⟨G, s, .inr ⟨p, ds, rfl, e, np, h⟩⟩
end
end DL
namespace DL
open PySem PySem.Spec L2
section
variable {te ta tb : DTE} {t : DTA} {W : DX} {σ : DSt} {G : DH} {d x y : D} {Q : DK} {m : Bool}
theorem rep1 (d : D) : ∀ n : Nat, (List.replicate n [d]).flatten = List.replicate n d
  | 0 => rfl
  | n + 1 => by rw [List.replicate_succ, List.flatten_cons, rep1 d n, List.replicate_succ]; rfl
theorem mulL_i {n : Nat} (hn : n ≤ 1000) (h1 : Ret ta W σ G (.lst [d])) (h2 : Ret tb W σ G (.int n)) (k : mkL m (List.replicate n d) G Q) : dOp (qMul m) ta tb W σ G Q := h1 _ (h2 _ ⟨by
  have : (n : Int).toNat = n := by omega
  simp only [List.length_cons, List.length_nil]
  exact ⟨by omega, by omega, le_sz (by rw [this]; omega)⟩, by
  have : (n : Int).toNat = n := by omega
  rw [this, rep1]; exact k⟩)
theorem seqMulL {n i : Nat} {u : DTS} {Dn : DEnds} (hn : n ≤ 1000) (h1 : Ret ta W σ G (.lst [d])) (h2 : Ret tb W σ G (.int n)) (k : ∀ p, G p = none → u W Dn (σ.set i (some (.ref p))) (dupd G p (.lst (List.replicate n d)))) : dSeq (dAsg (dOp (qMul true) ta tb) (gSet i)) u W Dn σ G := mulL_i (m := true) hn h1 h2 k
end
end DL

/-! D15: the ends: error classes with a field, the top, the law's own promise. -/
namespace DL
open PySem PySem.Spec L2
/-- def __init__(self, v): self.f = v -/
theorem ini_ok {P : Program} {w : World} {K : PySem.W.Frag} {mg : Str → Option Value} {base : Heap} {q : Str} {st : Stmt} {fI : Addr} {fd : FuncData} {v f : Str} {C : Addr} {p1 p2 p3 p4 : Pos} (F : Fun K "__init__" q st fI fd) (S : FnScope ["self", v] ["self", v] (defScope st))
    (hb : defBody st = [.Assign [.Attribute (.Name "self" p1) f p2] (.Name v p3) p4]) (T : OexC K C) (n : PySem.W.findIn K (.ref C) f = some none)
    (hv : (v == ("__debug__" : Str)) = false ∧ (v == ("__classdict__" : Str)) = false) (hl : (defScope st).names.lookup v = some .local) (hs : (defScope st).names.lookup ("self" : Str) = some .local) : FnOk P w K mg base CX0 1 fI fd ["self", v] (spIni C f) := by
  refine F.ok S (fun vs H Q E h => ?_) (fun cdv A outer s H vs Q E hr h => ?_)
  · obtain ⟨a, y, rfl, _⟩ := h; rfl
  · rw [hb]
    refine ⟨_, (pss_one (ps_ost (pe_var (i := 0) (by rfl) (Or.inl hs) (by decide) (by decide)) (pe_var (i := 1) (by rfl) (Or.inl hl) hv.1 hv.2))), ?_⟩
    obtain ⟨a, y, rfl, ha, k⟩ := h
    exact ⟨y, rfl, .ref a, rfl, a, C, rfl, T, n, .inl ⟨ha, fun dx hd hne => k dx hd hne⟩⟩
theorem at_mk {K : PySem.W.Frag} {h : Heap} {mg : Str → Option Value} (X : K.In h) (G : h.Ns mainGlobals mg) {x : Str} {st : Stmt} {ps : List Str} {f : Addr} {oc : Value} {od an : Option Addr} {osl : Array (Option Value)} {kV doc pm cdv ct : Value}
    (a : PySem.W.nsIn K mainGlobals x = some (some (.ref f))) (l : K.lookup f = some ⟨oc, od, .func (PySem.W.fnOf x x (defArgs st) (defBody st) (defScope st) .none kV doc pm an cdv ct), osl⟩) (c : PySem.W.codeIn K cdv x = true) (k : PySem.W.keepIn K (.ref f) = true)
    (hb : ∀ (kV doc pm : Value) (an : Option Addr) (cdv ct : Value) (us : List Value), us.length = ps.length → PySem.bindArgs (PySem.W.fnOf x x (defArgs st) (defBody st) (defScope st) .none kV doc pm an cdv ct) ⟨us, []⟩ = pure (ps.zip us)) : At K mg x st ps :=
  have F := fun_mk (st := st) l c k
  ⟨f, _, PySem.W.mg_of X G a, F, F.binds hb⟩
theorem plain_mk {K : PySem.W.Frag} {h : Heap} {mg : Str → Option Value} (X : K.In h) (G : h.Ns mainGlobals mg) {x : Str} {C : Addr} (a : PySem.W.nsIn K mainGlobals x = some (some (.ref C))) (e : PySem.W.excIn K C veMro "ValueError.__new__" = true) (k : PySem.W.keepIn K (.ref C) = true)
    (b : PySem.W.subIn K (.ref C) (.type "BaseException") = some true) (t : PySem.W.typeIn K (.ref C) = some (.type "type")) : PlainX K mg x C := ⟨PySem.W.mg_of X G a, e, k, b, t⟩
/-- what a law promises -/
def topSp : DSp := fun ds G Q E => ∃ ns : List Int, ds = [.scr ns] ∧ ns.length ≤ 63 ∧ ∀ G', Q (.bl true) G'
theorem top_sp {K : PySem.W.Frag} {H : Hp} {a : Addr} {ns : List Int} (hl : ns.length ≤ 63) (hS : SqL K H a (ns.map V.int)) : liftSp K topSp [.ref a] H (fun v _ => v = .bl true) fun _ _ _ => False := by
  refine ⟨[.scr ns], fun _ => none, ⟨fun b => ∃ vs, H b = some (.lst vs), fun _ => False⟩, fun d _ => d = .bl true, fun _ _ => False, ⟨nofun, fun b h => h, nofun⟩, .cons ?_ .nil, ⟨ns, rfl, hl, fun _ => rfl⟩, ?_, fun _ _ _ _ _ _ _ _ _ h => h⟩
  · unfold Rep
    refine ⟨a, rfl, ?_⟩
    rcases hS with (h | ⟨o, h⟩) | h
    · exact .inl ⟨⟨_, h⟩, h⟩
    · exact .inr (.inl ⟨o, h⟩)
    · exact .inr (.inr h)
  · intro d G' F' v H' _ _ r e
    subst e
    exact bl_rep r
theorem no_cx {P : Program} {w : World} (H : Hp) (s : Shared) (e : Value) (s' : Shared) (h : L2.CX P w [] H s (fun _ _ _ => False) e s') : False := by
  obtain ⟨_, _, _, _, _, _, _, _, _, _, _, _, h⟩ := h
  exact h
theorem fd_unique {mg : Str → Option Value} {fa f : Addr} {x : Str} (h : mg x = some (.ref fa)) (h2 : mg x = some (.ref f)) : f = fa := by
  rw [h] at h2; cases h2; rfl
end DL

/-! D16: enumerate over lists, tuples, texts; is True; comprehensions of two clauses. -/
namespace DL
open PySem PySem.Spec L2

/-! ### is, is not of bools -/
def qIsB (neg : Bool) : Q2 := fun x y G Q => match x, y with
  | .bl a, .bl b => Q (.bl (if neg then !decide (a = b) else decide (a = b))) G
  | _, _ => False
section
variable {K : PySem.W.Frag}
theorem qIsB_ok : L2R K (qIsB false) rIsB := fun x y v w G F H Qd Q g rx ry h k => by
  unfold qIsB at h
  split at h
  · rw [bl_rep rx, bl_rep ry]; exact ⟨_, _, rfl, rfl, k.here g rep_bl (by simpa using h)⟩
  · exact h.elim
theorem qIsNB_ok : L2R K (qIsB true) rNotB := fun x y v w G F H Qd Q g rx ry h k => by
  unfold qIsB at h
  split at h
  · rw [bl_rep rx, bl_rep ry]; exact ⟨_, _, rfl, rfl, k.here g rep_bl (by simpa using h)⟩
  · exact h.elim
end

/-! ### enumerate -/
set_option maxHeartbeats 1000000 in
theorem meets_enum1 {v : Value} {o : Obj} {H : Heap → Prop} (B : Begins v o H) :
    Meets (Builtin.«enumerate.__new__» ⟨[.type "enumerate", v], []⟩) (fun _ R s => H s.heap ∧
      R (.ok (.ret (.ref (s.heap.push o).objs.size))) { s with heap := (s.heap.push o).push { cls := .type "enumerate", data := .fields #[.none, .bool false, .ref s.heap.objs.size, rawInt 0, .none, .none] } }) :=
  .of_wp fun prog w A R s h => by
    obtain ⟨hp, g, d, tk, os⟩ := s; obtain ⟨h1, h⟩ := h
    have hsub := sub_enumerate
    have q1 : ∀ {A' : Around} {E : Value → Shared → Prop} {Q : Value → Shared → Prop}, Q (.ref hp.objs.size) ⟨hp.push o, g, d, tk, os⟩ → wpAny (model prog w) A' (pyIter v) Q E ⟨hp, g, d, tk, os⟩ :=
      fun q => B.iter prog w _ _ ⟨hp, g, d, tk, os⟩ _ h1 q
    wp_walk using q1
    refine wpAny_stack_any fun st => wpAny_pure ?_
    split
    · rename_i c _ _ _ _ _
      cases (c == Value.type "enumerate")
      · wp_walk using q1
        exact ⟨_, rfl, h⟩
      · wp_walk using q1
        exact ⟨_, rfl, h⟩
    · wp_walk using q1
      exact ⟨_, rfl, h⟩
section
variable {prog : Program} {w : World} {A : Around} {E : Value → Shared → Prop} {s : Shared}
theorem enum_begins1 {v : Value} {o : Obj} {H : Heap → Prop} {Q : Value → Shared → Prop} (B : Begins v o H) (h1 : H s.heap)
    (h : ∀ h', IsEnum h' (s.heap.objs.size + 1) s.heap.objs.size 0 .none → h'.get? s.heap.objs.size = some o → h'.objs.size = s.heap.objs.size + 2 →
      (∀ b o, s.heap.get? b = some o → h'.get? b = some o) → Q (.ref (s.heap.objs.size + 1)) { s with heap := h' }) :
    wpAny (model prog w) A (call (.type "enumerate") [v]) Q E s := by
  refine callType_new F.called_enumerate (by decide) (F.typeCall_enumerate_1 _) (F.newCall_enumerate_1 _) (fun obj => F.args_object_init_2 obj _) F.entry_enumerate_new (meets_enum1 B) ⟨h1, ?_⟩
  have hz : (s.heap.push o).objs.size = s.heap.objs.size + 1 := Heap.size_push ..
  show _ ∧ _
  rw [hz]
  have he : IsEnum ((s.heap.push o).push { cls := .type "enumerate", data := .fields #[.none, .bool false, .ref s.heap.objs.size, rawInt 0, .none, .none] }) (s.heap.objs.size + 1) s.heap.objs.size 0 .none := by
    have := Heap.get?_push_size (s.heap.push o) (o := { cls := .type "enumerate", data := .fields #[.none, .bool false, .ref s.heap.objs.size, rawInt 0, .none, .none] }) rfl
    rw [hz] at this; exact this
  refine ⟨⟨_, he, rfl⟩, h _ he (Heap.get?_push_of_some _ (Heap.get?_push_size _ B.free)) (by rw [Heap.size_push, hz]) fun b o x => Heap.get?_push_of_some _ (Heap.get?_push_of_some _ x)⟩
end
/-- numbered items of what a thing yields -/
def IteU (K : PySem.W.Frag) (k : Nat) (x : V) : It :=
  ⟨fun i H => ∃ (xs : List V) (a : V), SrcK K H k x xs ∧ xs[i]? = some a,
    fun i H v H' => ∃ T a, v = .ref T ∧ H T = none ∧ H' = upd H T (.tup [.int (i : Nat), a]) ∧ ∀ xs, SrcK K H k x xs → xs[i]? = some a,
    fun i H => ∃ xs : List V, SrcK K H k x xs ∧ i = xs.length⟩
theorem turn_enumU {P : Program} {w : World} {K : PySem.W.Frag} {elts : List Expr} {kk : Nat} {tpos : Pos} {e it : Addr} {k : Nat} {x : V} {u : Value} (hne : e ≠ it) (h1 : ∀ a, u = .ref a → a ≠ e ∧ a ≠ it) (rx : RelV x u) :
    Turn P w K (.Tuple elts kk tpos) (IteU K k x) [e, it] e (fun i h => (∃ old, IsEnum h e it ((i : Nat) : Int) old) ∧ IsIt h (sty k u) u it i) where
  mem := by simp
  obj := fun i h st b hb => by
    obtain ⟨⟨old, he⟩, ⟨o, ho, _, hd⟩⟩ := st
    simp only [List.mem_cons, List.not_mem_nil, or_false] at hb
    rcases hb with rfl | rfl
    · exact ⟨_, he, fun v q => nomatch q⟩
    · exact ⟨o, ho, fun v q => by rw [hd] at q; cases q⟩
  keep := fun i h h' st k => by
    obtain ⟨⟨old, he⟩, hi⟩ := st
    exact ⟨⟨old, k e (by simp) _ he⟩, hi.at (k it (by simp))⟩
  item := by
    intro X hP hw hK hc i pins s σ H E I hf st hg
    subst hP hw hK
    obtain ⟨⟨old, he⟩, hit⟩ := st
    obtain ⟨xs, a, hx, ha⟩ := hg
    obtain ⟨fp, P1, St1, D1, f1, m1, i1a, i1b, p1⟩ := hx.draws I rx (fun c e => (h1 c e).2) (I.ok.hd hc)
    have hl : i < xs.length := (List.getElem?_eq_some_iff.mp ha).1
    have hel : e < s.heap.objs.size := Heap.lt_size he
    have hil : it < s.heap.objs.size := by obtain ⟨_, q, _⟩ := hit; exact Heap.lt_size q
    have hef : e ∉ fp := fun h => (f1 e h).elim hne fun z => (h1 _ z).1 rfl
    refine wpAny_pyNext_enum_itemC D1 he (i1a i hit) hl hne hef fun y h' tk hp ho hs' hT hsz hk => ?_
    obtain ⟨a', ea, ra⟩ := p1 _ _ hp
    rw [ha] at ea; cases ea
    refine ⟨_, rfl, wpAny_letOwnedTupleGo_enum (s := { s with heap := h', toks := tk + 1 }) ho fun h'' he' sb => ?_⟩
    have hT2 : h''.get? s.heap.objs.size = some { cls := .type "tuple", data := .seq #[.int i tk, y] } := (sb.2 _ (Nat.ne_of_gt hel)).trans hT
    have new : ObjOk X.prog X.w (upd H s.heap.objs.size (.tup [.int (i : Nat), a])) h'' s.heap.objs.size (.tup [.int (i : Nat), a]) :=
      ⟨by show 2 ≤ sizeLine; decide, [.int i tk, y], .cons ⟨_, rfl⟩ (.cons ra .nil), ⟨_, hT2, rfl, _, rfl⟩⟩
    have I1 : L2.Inv X pins σ (upd H s.heap.objs.size (.tup [.int (i : Nat), a])) { s with heap := h'', toks := tk + 1 } :=
      I.turnedNew (t' := tk + 1) (ch := [e, it]) (fun b ob hb q => (sb.2 b (fun z => hb (by simp [z]))).trans (hk b ob (fun z => hb (by simp [z])) (fun z => hb (by simp [z])) q)) hf (Nat.le_refl _) new
    refine ⟨.ref s.heap.objs.size, _, I1, rfl, ⟨_, a, rfl, I.hok.fresh (Nat.le_refl _), rfl, fun l hl => by rw [hl.inj I hx]; exact ha⟩, ⟨⟨y, ?_⟩, (i1b _ _ hs').at fun o q => (sb.2 it (Ne.symm hne)).trans q⟩, fun b hb => ?_⟩
    · have e1 : ((i + 1 : Nat) : Int) = (i : Int) + 1 := by omega
      rw [e1]; exact he'
    · have hb' : b < s.heap.objs.size := by
        simp only [List.mem_cons, List.not_mem_nil, or_false] at hb
        rcases hb with rfl | rfl
        · exact hel
        · exact hil
      rw [upd_ne (Nat.ne_of_lt hb')]
      exact (hf b hb).1
  done := by
    intro X hP hw hK hc i pins s σ H E I hf st hg
    subst hP hw hK
    obtain ⟨⟨old, he⟩, hit⟩ := st
    obtain ⟨xs, hx, hl⟩ := hg
    obtain ⟨fp, P1, St1, D1, f1, m1, i1a, i1b, p1⟩ := hx.draws I rx (fun c e => (h1 c e).2) (I.ok.hd hc)
    obtain ⟨f0, f1', f2, f3, f4, f5⟩ := hf it (by simp)
    exact wpAny_pyNext_enum_endD D1 he (hl ▸ i1a i hit) fun h' eb => ⟨rfl, I.turned (t' := s.toks) (fun b o hb q => eb b o hb q) f0 f1' f3 f4 f5⟩
  self := fun A i s Q E st h => let ⟨⟨_, he⟩, _⟩ := st; wpAny_pyIter_enum he h
def iEnumU (K : PySem.W.Frag) (ta : TA) : TI := fun σ H R => ta σ H fun vs H1 => ∃ x k xs, vs = [x] ∧ SrcK K H1 k x xs ∧ R (IteU K k x) H1
theorem pi_enumU {X : Cx} {e : Expr} {ta : TA} {p pos tpos : Pos} {elts : List Expr} {kk : Nat} (hg : Gl X "enumerate") (hm : X.mg "enumerate" = none) (ha : PA X [e] ta) (hs : starEach [e] X.env = [(false, eval e X.env)] := by rfl) :
    PI X (.Tuple elts kk tpos) (.Call (.Name "enumerate" p) [e] [] pos) (iEnumU X.K ta) := by
  constructor
  intro pins s σ H R I h
  refine PyProof.Rows.Call_ (ld_blt I hg hm PyProof.Rows.boot_enumerate (PyProof.Rows.callWith_type1 (thn (ha.run pos pins s σ H _ I h) fun us s1 ⟨vs, H1, I1, r1, q1⟩ => ?_) hs rfl))
  obtain ⟨x, k, xs, rfl, h1, q⟩ := q1
  cases r1 with
  | cons r rr =>
    cases rr
    rename_i u
    obtain ⟨o1, B1, b1, c1, d1, e1, l1⟩ := h1.starts I1 r
    refine enum_begins1 b1 c1 fun h' he hit hsz hk => wpAny_pyIter_enum he ?_
    have I2 : L2.Inv X pins σ H1 { s1 with heap := h' } := I1.kept (t' := s1.toks) hk
    refine ⟨s1.heap.objs.size + 1, [s1.heap.objs.size + 1, s1.heap.objs.size], _, _, H1, rfl, I2, turn_enumU (k := k) (Nat.succ_ne_self _) (fun a e => ⟨Nat.ne_of_lt (Nat.lt_succ_of_lt (l1 a e)), Nat.ne_of_lt (l1 a e)⟩) r, ⟨⟨.none, he⟩, ⟨o1, hit, d1, e1⟩⟩, fun b hb => ?_, q⟩
    have hle : s1.heap.objs.size ≤ b := by
      simp only [List.mem_cons, List.not_mem_nil, or_false] at hb
      rcases hb with rfl | rfl
      · exact Nat.le_add_right _ _
      · exact Nat.le_refl _
    exact I1.fpOk hle (I1.hok.fresh hle)
def enumD (xs : List D) : List D := zipD (rngD 0 1 xs.length) xs
theorem enumD_get {xs : List D} {i : Nat} {d : D} (h : (enumD xs)[i]? = some d) : ∃ a, xs[i]? = some a ∧ d = .tup [.int (i : Nat), a] := by
  unfold enumD zipD at h
  rw [List.getElem?_zipWith, rngD_nat, List.getElem?_map] at h
  cases q : xs[i]? with
  | none => rw [q] at h; split at h <;> simp_all
  | some a =>
    have hl : i < xs.length := (List.getElem?_eq_some_iff.mp q).1
    rw [q, List.getElem?_range hl] at h
    cases h
    exact ⟨a, rfl, rfl⟩
theorem enumD_len {xs : List D} : (enumD xs).length = xs.length := by unfold enumD zipD; rw [List.length_zipWith, rngD_len]; omega
theorem enumD_map {α : Type} (A : α → D) (xs : List α) : enumD (xs.map A) = ((List.range xs.length).zip xs).map fun p => .tup [.int (p.1 : Nat), A p.2] := by
  unfold enumD
  rw [List.length_map, rngD_nat]
  exact zipD_zip (fun i : Nat => D.int (i : Nat)) A (List.range xs.length) xs
theorem yields_enum {K : PySem.W.Frag} {H : Hp} {F : Fz} {k : Nat} {x : V} {xs : List V} {ds : List D} (h1 : ∀ F2 H2, Ext0 F H F2 H2 → SrcK K H2 k x xs) (r1 : Reps K H F ds xs) : Yields K (IteU K k x) F H (enumD ds) := fun F2 H2 e => by
  refine ⟨fun i d hd => ?_, ⟨xs, h1 F2 H2 e, by rw [enumD_len, r1.length]⟩⟩
  obtain ⟨p, q1, rfl⟩ := enumD_get hd
  obtain ⟨a, ha, ra⟩ := (e.reps _ _ r1).get q1
  refine ⟨⟨xs, a, h1 F2 H2 e, ha⟩, fun v H3 y => ?_⟩
  obtain ⟨T, a', rfl, hT, rfl, f1⟩ := y
  have ea := f1 xs (h1 F2 H2 e)
  rw [ha] at ea; cases ea
  have x2 : Ext F2 H2 F2 (upd H2 T (.tup [.int (i : Nat), a])) := Ext.new hT
  refine ⟨x2, fun G g => g.old hT, ?_⟩
  unfold Rep
  exact ⟨T, [.int (i : Nat), a], rfl, SqT.of upd_same, .cons rep_int (.cons (x2.rep _ _ ra) .nil)⟩
def dEnum (t : DTA) : DTI := fun W σ G Q => t W σ G fun xs G1 => match xs with
  | [x] => match itD x with
    | some a => Q (enumD a) G1
    | none => False
  | _ => False
theorem di_enum {X : Cx} {Γ : Amb} {e : Expr} {t : DTA} {p pos tpos : Pos} {elts : List Expr} {kk : Nat} (hg : Gl X "enumerate") (hm : X.mg "enumerate" = none) (ha : DA X Γ [e] t) (hs : starEach [e] X.env = [(false, eval e X.env)] := by rfl) :
    DI X Γ (.Tuple elts kk tpos) (.Call (.Name "enumerate" p) [e] [] pos) (dEnum t) :=
  pi_of (pi_enumU hg hm ha hs) fun σ H R ⟨σd, G, F, Wd, Qd, w, hp, cv, ht, k⟩ => ⟨σd, G, F, Wd, _, w, hp, cv, ht, fun xs G1 F1 vs H1 e1 g1 r1 q1 => by
    split at q1
    · rename_i x
      obtain ⟨v1, rfl, rx⟩ := r1.of1
      split at q1
      · rename_i a ea
        obtain ⟨k1, us, ra, s1⟩ := itD_src ea rx
        exact ⟨v1, k1, us, rfl, s1 F1 H1 Ext0.refl, k _ G1 F1 _ H1 e1 g1 (yields_enum s1 ra) q1⟩
      · exact q1.elim
    · exact q1.elim⟩
theorem dEnum_ret {te : DTE} {W : DX} {σ : DSt} {G : DH} {a : List D} (x : D) (h : Ret te W σ G x) (e : itD x = some a) : RetI (dEnum (dCons te dNil)) W σ G (enumD a) := fun Q q => h _ (by
  show (match itD x with | some a => Q (enumD a) G | none => False)
  rw [e]; exact q)
end DL

/-! D17: comprehensions of two clauses. -/
namespace DL
open PySem PySem.Spec L2
def dInK (b : Bool) (te : DTE) (σ : DSt) (G : DH) (acc : List D) (next : DH → List D → Prop) : Prop := if b = true then te W0 σ G fun y G5 => acc.length < sizeLine ∧ next G5 (acc ++ [y]) else next G acc
/-- the inner turns -/
def dIn (g1 : DTG) (tt1 : DTT) (te : DTE) : List D → DSt → DH → List D → (List D → DH → Prop) → Prop
  | [], _, G, acc, Q => Q acc G
  | d :: r, σ, G, acc, Q => g1 W0 d σ G fun σ3 G3 => tt1 W0 σ3 G3 fun b G4 => dInK b te σ3 G4 acc fun G5 acc' => dIn g1 tt1 te r σ G5 acc' Q
def dOutK (b : Bool) (t1 : DTI) (k : List D → DH → Prop) (σ : DSt) (G : DH) (next : Prop) : Prop := if b = true then t1 W0 σ G k else next
/-- the outer turns -/
def dOut (g : DTG) (tt : DTT) (t1 : DTI) (g1 : DTG) (tt1 : DTT) (te : DTE) (vs1 : List Nat) : List D → DSt → DH → List D → (List D → DH → Prop) → Prop
  | [], _, G, acc, Q => Q acc G
  | d :: r, σ, G, acc, Q => g W0 d σ G fun σ2 G2 => tt W0 σ2 G2 fun b G3 => dOutK b t1 (fun ys G4 => dIn g1 tt1 te ys (dwipe σ2 vs1) G4 acc fun acc' G5 => dOut g tt t1 g1 tt1 te vs1 r σ G5 acc' Q) σ2 G3 (dOut g tt t1 g1 tt1 te vs1 r σ G3 acc Q)
def dLcc (m : Bool) (vs vs1 : List Nat) (t : DTI) (g : DTG) (tt : DTT) (t1 : DTI) (g1 : DTG) (tt1 : DTT) (te : DTE) : DTE := fun W σ G Q => t W σ G fun xs G1 => dOut g tt t1 g1 tt1 te vs1 xs (dwipe σ vs) G1 [] fun ys G2 => mkL m ys G2 Q
theorem wipe_twice {σ : L2.St} {vs : List Nat} : ∀ us : List Nat, (∀ u ∈ us, u ∈ vs) → wipe (wipe σ us) vs = wipe σ vs := by
  intro us
  induction us with
  | nil => intro _; rfl
  | cons u us ih =>
    intro hu
    show wipe ((wipe σ us).set u none) vs = _
    rw [wipe_set (hu u List.mem_cons_self), ih fun z hz => hu z (List.mem_cons_of_mem _ hz)]
theorem lift_lcc {K : PySem.W.Frag} {Γ : Amb} {m : Bool} {vs vs1 : List Nat} {t t1 : DTI} {g g1 : DTG} {tt tt1 : DTT} {te : DTE} {σ : L2.St} {H : Hp} {Q : VK} (h : LE K Γ (dLcc m vs vs1 t g tt t1 g1 tt1 te) σ H Q) :
    tLc2 (LI K Γ t) (LGw K Γ.blk vs g) (LT K Γ.blk tt) (LI K Γ.blk t1) (LGw K Γ.blk vs1 g1) (LT K Γ.blk tt1) (LE K Γ.blk te) vs vs1 σ H Q := by
  obtain ⟨σd, G, F, Wd, Qd, w, hP, cv, ht, k⟩ := h
  refine ⟨σd, G, F, Wd, _, w, hP, cv, ht, fun xs G1 F1 J H1 e1 g1' y1 q1 => fun A hA => ?_⟩
  have P1 := Γ.mono _ _ _ _ e1.toExt0 hP
  obtain ⟨e0, g0⟩ := g1'.bnew (vs := []) hA
  let Out : Nat → Hp → Prop := fun i H' => ∃ G' F' acc av, Ext F1 H1 F' H' ∧ F'.bl A ∧ H' A = some (.lst av) ∧ Reps K H' F' acc av ∧ GRel K H' F' G' ∧ dOut g tt t1 g1 tt1 te vs1 (xs.drop i) (dwipe σd vs) G' acc (fun ys G2 => mkL m ys G2 Qd)
  refine ⟨fun i n H' => n = xs.length - i ∧ i ≤ xs.length ∧ Out i H', ⟨xs.length, by simp, Nat.zero_le _, G1, badd F1 A, [], [], e0, .inr rfl, upd_same, .nil, g0, by simpa using q1⟩, ?_⟩
  rintro i n H' ⟨rfl, hi, G', F', acc, av, e2, hb, hA2, ra, g2, q2⟩
  obtain ⟨yi, ys⟩ := y1 F' H' e2.toExt0
  by_cases hlt : i < xs.length
  · obtain ⟨go, yy⟩ := yi i xs[i] (List.getElem?_eq_getElem hlt)
    refine .inr ⟨go, fun H3 => Out (i + 1) H3, fun H3 h3 => ⟨xs.length - (i + 1), by omega, rfl, hlt, h3⟩, fun v H3 hy => ?_⟩
    obtain ⟨e3, gk, rv⟩ := yy v H3 hy
    rw [List.drop_eq_getElem_cons hlt] at q2
    have e13 := e2.trans e3
    have w3 : WR K H3 F' (dwipe σd vs) G' (wipe σ vs) := ⟨slots_wipe (w.sl.ext (e1.trans e13).toExt0) vs, gk _ g2⟩
    refine ⟨xs[i], dwipe σd vs, G', F', W0, _, w3, Γ.mono _ _ _ _ e13.toExt0 P1, cov0, rv, q2, fun σd4 G4 F4 σ4 H4 hw e4 w4 q4 => ⟨?_, ?_⟩⟩
    · rw [hw]; exact wipe_twice vs fun _ z => z
    · have e14 := e13.trans e4
      refine ⟨σd4, G4, F4, W0, _, w4, Γ.mono _ _ _ _ e14.toExt0 P1, cov0, q4, fun b G5 F5 b' H5 e5 g5 r5 q5 => ?_⟩
      subst r5
      have eA := (e3.trans e4).trans e5
      have e15 := e14.trans e5
      have bA : F5.bl A := eA.bl A hb
      have hA5 : H5 A = some (.lst av) := eA.kb A _ hb hA2
      have ra5 := eA.reps _ _ ra
      cases b with
      | false => exact iteF ⟨G5, F5, acc, av, e15, bA, hA5, ra5, g5, q5⟩
      | true =>
        refine iteT ⟨σd4, G5, F5, W0, _, w4.ext e5 g5, Γ.mono _ _ _ _ e15.toExt0 P1, cov0, q5, fun zs G6 F6 J1 H6 e6 g6 y6 q6 => ?_⟩
        have e16 := e15.trans e6
        have w6 : WR K H6 F6 σd4 G6 σ4 := (w4.ext e5 g5).ext e6 g6
        refine ⟨fun j k' H' => k' = zs.length - j ∧ j ≤ zs.length ∧ ∃ G' F' acc av, (Ext F1 H1 F' H' ∧ Ext0 F6 H6 F' H') ∧ F'.bl A ∧ H' A = some (.lst av) ∧ Reps K H' F' acc av ∧ GRel K H' F' G' ∧ dIn g1 tt1 te (zs.drop j) (dwipe σd4 vs1) G' acc (fun acc' G5 => dOut g tt t1 g1 tt1 te vs1 (xs.drop (i + 1)) (dwipe σd vs) G5 acc' fun ys G2 => mkL m ys G2 Qd),
          ⟨zs.length, by simp, Nat.zero_le _, G6, F6, acc, av, ⟨e16, Ext0.refl⟩, e6.bl A bA, e6.kb A _ bA hA5, e6.reps _ _ ra5, g6, by simpa using q6⟩, ?_⟩
        rintro j k' H7 ⟨rfl, hj, G7, F7, acc7, av7, ⟨e7, z7⟩, bA7, hA7, ra7, g7, q7⟩
        obtain ⟨yj, yt⟩ := y6 F7 H7 z7
        by_cases hjl : j < zs.length
        · obtain ⟨go1, yy1⟩ := yj j zs[j] (List.getElem?_eq_getElem hjl)
          refine .inr ⟨go1, fun H3 => ∃ G' F' acc av, (Ext F1 H1 F' H3 ∧ Ext0 F6 H6 F' H3) ∧ F'.bl A ∧ H3 A = some (.lst av) ∧ Reps K H3 F' acc av ∧ GRel K H3 F' G' ∧ dIn g1 tt1 te (zs.drop (j + 1)) (dwipe σd4 vs1) G' acc (fun acc' G5 => dOut g tt t1 g1 tt1 te vs1 (xs.drop (i + 1)) (dwipe σd vs) G5 acc' fun ys G2 => mkL m ys G2 Qd),
            fun H3 h3 => ⟨zs.length - (j + 1), by omega, rfl, hjl, h3⟩, fun v1 H8 hy1 => ?_⟩
          obtain ⟨e8, gk8, rv8⟩ := yy1 v1 H8 hy1
          rw [List.drop_eq_getElem_cons hjl] at q7
          have e78 := e7.trans e8
          have w8 : WR K H8 F7 (dwipe σd4 vs1) G7 (wipe σ4 vs1) := ⟨slots_wipe (w6.sl.ext (z7.trans e8.toExt0)) vs1, gk8 _ g7⟩
          refine ⟨zs[j], dwipe σd4 vs1, G7, F7, W0, _, w8, Γ.mono _ _ _ _ e78.toExt0 P1, cov0, rv8, q7, fun σd9 G9 F9 σ9 H9 hw9 e9 w9 q9 => ⟨?_, ?_⟩⟩
          · rw [hw9]; exact wipe_twice vs1 fun _ z => z
          · have e79 := e78.trans e9
            refine ⟨σd9, G9, F9, W0, _, w9, Γ.mono _ _ _ _ e79.toExt0 P1, cov0, q9, fun b1 G10 F10 b1' H10 e10 g10 r10 q10 => ?_⟩
            subst r10
            have eB := (e8.trans e9).trans e10
            have bB : F10.bl A := eB.bl A bA7
            have hB : H10 A = some (.lst av7) := eB.kb A _ bA7 hA7
            have rB := eB.reps _ _ ra7
            have e710 := e79.trans e10
            cases b1 with
            | false => exact iteF ⟨G10, F10, acc7, av7, ⟨e710, z7.trans eB.toExt0⟩, bB, hB, rB, g10, q10⟩
            | true =>
              refine iteT ⟨σd9, G10, F10, W0, _, w9.ext e10 g10, Γ.mono _ _ _ _ e710.toExt0 P1, cov0, q10, fun y G11 F11 yv H11 e11 g11 r11 q11 => ?_⟩
              have bC : F11.bl A := e11.bl A bB
              have hC : H11 A = some (.lst av7) := e11.kb A _ bB hB
              have rC := e11.reps _ _ rB
              obtain ⟨x7, g12⟩ := g11.bput (ws := av7 ++ [yv]) bC hC
              have eN : Ext F1 H1 F11 (upd H11 A (.lst (av7 ++ [yv]))) ∧ Ext0 F6 H6 F11 (upd H11 A (.lst (av7 ++ [yv]))) := ⟨(e710.trans e11).fresh hA, ((z7.trans eB.toExt0).trans e11.toExt0).trans x7⟩
              exact ⟨av7, hC, by rw [← rC.length]; exact q11.1, G11, F11, acc7 ++ [y], av7 ++ [yv], eN, bC, upd_same, x7.reps _ _ (rC.append (.cons r11 .nil)), g12, q11.2⟩
        · have ej : j = zs.length := by omega
          subst ej
          refine .inl ⟨yt, ?_⟩
          rw [List.drop_length] at q7
          exact ⟨G7, F7, acc7, av7, e7, bA7, hA7, ra7, g7, q7⟩
  · have ei : i = xs.length := by omega
    subst ei
    refine .inl ⟨ys, ?_⟩
    rw [List.drop_length] at q2
    exact g1'.bend e2 g2 hA hb hA2 ra (fun d G' F' v' H' e3 g3 r3 q3 => k d G' F' v' H' (e1.trans e3) g3 r3 q3) q2
end DL
namespace DL
open PySem PySem.Spec L2
section
variable {X : Cx} {Γ : Amb} {m : Bool} {elt tg iter tg1 iter1 : Expr} {ifs ifs1 : List Expr} {scope : Scope} {own : List (Str × Nat)} {vs1 : List Nat} {pos : Pos} {t t1 : DTI} {g g1 : DTG} {tt tt1 : DTT} {te : DTE}
theorem de_lcc (hc : X.calm = true) (hN : X.N.Nodup) (hi : DI X Γ tg iter t) (ok : BlkOk X.N X.env.scope scope own) (hv : ∀ i ∈ vs1, i ∈ own.map (·.2))
    (hg : ∀ (s : Shared) (H : Hp) (C : Addr) (cl : List (Str × Addr)) (fp : List Addr), CG (X.blk s H scope (PySem.compEnvC scope cl C X.env) fp) Γ.blk (own.map (·.2)) tg g) (ht : ∀ (s : Shared) (H : Hp) (C : Addr) (cl : List (Str × Addr)) (fp : List Addr), DTts (X.blk s H scope (PySem.compEnvC scope cl C X.env) fp) Γ.blk ifs tt)
    (hi1 : ∀ (s : Shared) (H : Hp) (C : Addr) (cl : List (Str × Addr)) (fp : List Addr), DI (X.blk s H scope (PySem.compEnvC scope cl C X.env) fp) Γ.blk tg1 iter1 t1)
    (hg1 : ∀ (s : Shared) (H : Hp) (C : Addr) (cl : List (Str × Addr)) (fp : List Addr), CG (X.blk s H scope (PySem.compEnvC scope cl C X.env) fp) Γ.blk vs1 tg1 g1) (ht1 : ∀ (s : Shared) (H : Hp) (C : Addr) (cl : List (Str × Addr)) (fp : List Addr), DTts (X.blk s H scope (PySem.compEnvC scope cl C X.env) fp) Γ.blk ifs1 tt1)
    (he : ∀ (s : Shared) (H : Hp) (C : Addr) (cl : List (Str × Addr)) (fp : List Addr), DE (X.blk s H scope (PySem.compEnvC scope cl C X.env) fp) Γ.blk elt te) (hs : ∀ x, foldedSetIterable iter X.env x = pure x := by intro _; rfl) (hs1 : ∀ env x, foldedSetIterable iter1 env x = pure x := by intro _ _; rfl) :
    DE X Γ (.ListComp elt [⟨tg, iter, ifs, 0⟩, ⟨tg1, iter1, ifs1, 0⟩] scope pos) (dLcc m (own.map (·.2)) vs1 t g tt t1 g1 tt1 te) :=
  pe_of (pe_lc2 (wi := LI X.K Γ t) (g := LGw X.K Γ.blk (own.map fun (x : Str × Nat) => x.2) g) (tt := LT X.K Γ.blk tt) (wi1 := LI X.K Γ.blk t1) (g1 := LGw X.K Γ.blk vs1 g1) (tt1 := LT X.K Γ.blk tt1) (te := LE X.K Γ.blk te) hc hN hi ok hv hg ht hi1 hg1 ht1 he hs hs1) fun _ _ _ h => lift_lcc h
theorem ds_lcc {i : Nat} {y : Str} {py spos : Pos} (hc : X.calm = true) (hN : X.N.Nodup) (hy : X.N[i]? = some y) (hyl : X.env.scope.names.lookup y = some .local)
    (hsw : swapsWith (.ListComp elt [⟨tg, iter, ifs, 0⟩, ⟨tg1, iter1, ifs1, 0⟩] scope pos) (some (.Name y py)) spos.line X.env = pure true) (hi : DI X Γ tg iter t) (ok : BlkOk X.N X.env.scope scope own) (hv : ∀ i ∈ vs1, i ∈ own.map (·.2))
    (hg : ∀ (s : Shared) (H : Hp) (C : Addr) (cl : List (Str × Addr)) (fp : List Addr), CG (X.blk s H scope (PySem.compEnvC scope cl C X.env) fp) Γ.blk (own.map (·.2)) tg g) (ht : ∀ (s : Shared) (H : Hp) (C : Addr) (cl : List (Str × Addr)) (fp : List Addr), DTts (X.blk s H scope (PySem.compEnvC scope cl C X.env) fp) Γ.blk ifs tt)
    (hi1 : ∀ (s : Shared) (H : Hp) (C : Addr) (cl : List (Str × Addr)) (fp : List Addr), DI (X.blk s H scope (PySem.compEnvC scope cl C X.env) fp) Γ.blk tg1 iter1 t1)
    (hg1 : ∀ (s : Shared) (H : Hp) (C : Addr) (cl : List (Str × Addr)) (fp : List Addr), CG (X.blk s H scope (PySem.compEnvC scope cl C X.env) fp) Γ.blk vs1 tg1 g1) (ht1 : ∀ (s : Shared) (H : Hp) (C : Addr) (cl : List (Str × Addr)) (fp : List Addr), DTts (X.blk s H scope (PySem.compEnvC scope cl C X.env) fp) Γ.blk ifs1 tt1)
    (he : ∀ (s : Shared) (H : Hp) (C : Addr) (cl : List (Str × Addr)) (fp : List Addr), DE (X.blk s H scope (PySem.compEnvC scope cl C X.env) fp) Γ.blk elt te) (hs : ∀ x, foldedSetIterable iter X.env x = pure x := by intro _; rfl) (hs1 : ∀ env x, foldedSetIterable iter1 env x = pure x := by intro _ _; rfl) :
    DS X Γ (.Assign [.Name y py] (.ListComp elt [⟨tg, iter, ifs, 0⟩, ⟨tg1, iter1, ifs1, 0⟩] scope pos) spos) (dAsg (dLcc m (own.map (·.2)) vs1 t g tt t1 g1 tt1 te) (gSet i)) :=
  ps_of (ps_setLc2 (wi := LI X.K Γ t) (g := LGw X.K Γ.blk (own.map fun (x : Str × Nat) => x.2) g) (tt := LT X.K Γ.blk tt) (wi1 := LI X.K Γ.blk t1) (g1 := LGw X.K Γ.blk vs1 g1) (tt1 := LT X.K Γ.blk tt1) (te := LE X.K Γ.blk te) hc hN hy hyl hsw hi ok hv hg ht hi1 hg1 ht1 he hs hs1)
    fun D σ H ⟨σd, G, F, Wd, Dd, w, hp, cv, ht, k⟩ => lift_lcc (m := m) ⟨σd, G, F, Wd, _, w, hp, cv, ht, fun x G1 F1 v H1 e1 g1 r1 q1 => k.nx _ G1 F1 _ H1 e1 ((w.ext e1 g1).set r1) q1⟩
end
end DL

/-! D18: rows of strings of bits, shared words. -/
namespace DL
open PySem PySem.Spec L2
def bD (l v : Nat) : D := .str (S (bsl l v))
def tupB (l : Nat) (vs : List Nat) : D := .tup (vs.map (bD l))
def nI (v : Nat) : D := .int (v : Int)
def bitC (c : Nat) : Bool := c == 48 || c == 49
def sameD : Nat → D → Bool
  | _, .non => true
  | _, .bl _ => true
  | _, .int _ => true
  | _, .str _ => true
  | n + 1, .tup xs => decide (xs.length ≤ 1000) && xs.all (sameD n)
  | _, _ => false
def smallF (d : D) : Prop := flatD d = true ∧ ∀ z, d = .str z → z.length ≤ 64
def isBitsD (n : Int) : D → Bool
  | .str z => decide ((z.length : Int) = n) && z.cps.toList.all bitC
  | _ => false
def isNumD (lo hi : Int) : D → Bool
  | .int i => decide (lo ≤ i) && decide (i ≤ hi)
  | _ => false
theorem bits_bD {l v : Nat} : isBitsD l (bD l v) = true := by
  show (decide (((S (bsl l v)).length : Int) = l) && (S (bsl l v)).cps.toList.all bitC) = true
  rw [S_len, bsl_len, decide_eq_true rfl, Bool.true_and, List.all_eq_true]
  intro c hc
  have : c ∈ bsl l v := by simpa [S] using hc
  rcases bsl_mem this with rfl | rfl <;> rfl
theorem small_bD {l v : Nat} (h : l ≤ 64) : smallF (bD l v) := ⟨rfl, fun z e => by cases e; rw [S_len, bsl_len]; exact h⟩
theorem intT_0 : PySem.intText? (S [48]) = some 0 := by decide +kernel
theorem intT_1 : PySem.intText? (S [49]) = some 1 := by decide +kernel
section
variable {te ta tb : DTE} {t : DTA} {W : DX} {σ : DSt} {G : DH} {d x y : D} {Q : DK}
theorem intBit {b : Nat} (hb : b < 2) (h : Ret te W σ G (.str (S [48 + b]))) : Ret (dN qInt (dCons te dNil)) W σ G (.int (b : Int)) := dN_ret _ (dConsA_ret h dNil_ret) fun Q q => by
  rcases (show b = 0 ∨ b = 1 by omega) with rfl | rfl
  · show (match PySem.intText? (S [48]) with | some n => (S [48]).length ≤ 640 ∧ Q (.int n) G | none => False)
    rw [intT_0]; exact ⟨by decide, q⟩
  · show (match PySem.intText? (S [49]) with | some n => (S [49]).length ≤ 640 ∧ Q (.int n) G | none => False)
    rw [intT_1]; exact ⟨by decide, q⟩
end
end DL

/-! D19: two clauses as a map; the last of a list; enumerate as a range. -/
namespace DL
open PySem PySem.Spec L2
section
variable {te : DTE} {W : DX} {σ : DSt} {G : DH} {α β : Type}
theorem dIn_map (B : β → D) (f : β → D) {j : Nat} : ∀ (ys : List β) (acc : List D) (Q : List D → DH → Prop), acc.length + ys.length ≤ 1000000 → (∀ b ∈ ys, Ret te W0 (σ.set j (some (B b))) G (f b)) → Q (acc ++ ys.map f) G → dIn (gSet j) dYes te (ys.map B) σ G acc Q
  | [], acc, Q, hz, he, q => by rw [List.map_nil, List.append_nil] at q; exact q
  | b :: ys, acc, Q, hz, he, q => by
    refine he b List.mem_cons_self _ ⟨lt_sz (by simp at hz; omega), ?_⟩
    exact dIn_map B f ys (acc ++ [f b]) Q (by simp at hz ⊢; omega) (fun b hb => he b (List.mem_cons_of_mem _ hb)) (by rw [List.append_assoc]; exact q)
theorem dOut_map (A : α → D) (B : β → D) (f : α → β → D) (ys : α → List β) {i j : Nat} {vs1 : List Nat} {t1 : DTI} : ∀ (xs : List α) (acc : List D) (Q : List D → DH → Prop), acc.length + (xs.flatMap fun a => (ys a).map (f a)).length ≤ 1000000 →
    (∀ a ∈ xs, RetI t1 W0 (σ.set i (some (A a))) G ((ys a).map B)) → (∀ a ∈ xs, ∀ b ∈ ys a, Ret te W0 ((dwipe (σ.set i (some (A a))) vs1).set j (some (B b))) G (f a b)) →
    Q (acc ++ xs.flatMap fun a => (ys a).map (f a)) G → dOut (gSet i) dYes t1 (gSet j) dYes te vs1 (xs.map A) σ G acc Q
  | [], acc, Q, hz, h1, he, q => by rw [List.flatMap_nil, List.append_nil] at q; exact q
  | a :: xs, acc, Q, hz, h1, he, q => by
    rw [List.flatMap_cons, List.length_append, List.length_map] at hz
    refine h1 a List.mem_cons_self _ ?_
    refine dIn_map B (f a) (ys a) acc _ (by omega) (he a List.mem_cons_self) ?_
    refine dOut_map A B f ys xs _ Q (by rw [List.length_append, List.length_map]; omega) (fun a ha => h1 a (List.mem_cons_of_mem _ ha)) (fun a ha => he a (List.mem_cons_of_mem _ ha)) ?_
    rw [List.append_assoc]; exact q
theorem dLcc_ret (A : α → D) (B : β → D) (f : α → β → D) (ys : α → List β) {i j : Nat} {vs vs1 : List Nat} {t t1 : DTI} {xs : List α} (h : RetI t W σ G (xs.map A)) (h1 : ∀ a ∈ xs, RetI t1 W0 ((dwipe σ vs).set i (some (A a))) G ((ys a).map B))
    (he : ∀ a ∈ xs, ∀ b ∈ ys a, Ret te W0 ((dwipe ((dwipe σ vs).set i (some (A a))) vs1).set j (some (B b))) G (f a b)) (hz : (xs.flatMap fun a => (ys a).map (f a)).length ≤ 1000000) :
    Ret (dLcc false vs vs1 t (gSet i) dYes t1 (gSet j) dYes te) W σ G (.lst (xs.flatMap fun a => (ys a).map (f a))) := fun Q q =>
  h _ (dOut_map A B f ys xs [] _ (by simpa using hz) h1 he q)
theorem zip_rng (d0 : α) (xs : List α) : (List.range xs.length).zip xs = (List.range xs.length).map fun i => (i, (xs[i]?).getD d0) := by
  refine List.ext_getElem (by simp) fun i h1 h2 => ?_
  have : i < xs.length := by simpa using h1
  simp [this]
theorem enum_rng (A : α → D) (d0 : α) (xs : List α) : enumD (xs.map A) = (List.range xs.length).map fun i => .tup [.int (i : Nat), A ((xs[i]?).getD d0)] := by
  rw [enumD_map, zip_rng d0, List.map_map]; rfl
theorem atI_last {xs : List D} {d : D} : L2.atI (xs ++ [d]) (-1) = some d := by
  unfold L2.atI ixN
  have e : (-1 + ((xs.length : Int) + 1)).toNat = xs.length := by omega
  have h1 : (1 : Int) ≤ (xs.length : Int) + 1 := by omega
  simp [e, h1]
theorem dFor_i {t : DTI} {g : DTG} {tb : DTS} {Dn : DEnds} (h : t W σ G fun xs G1 => dRun g tb xs W Dn σ G1) : dFor t g tb W Dn σ G := h
theorem dIt_i {Q : List D → DH → Prop} (h : te W σ G fun x G1 => match itD x with | some xs => Q xs G1 | none => False) : dIt te W σ G Q := h
theorem dTup_i {t : DTA} {Q : DK} (h : t W σ G fun xs G1 => xs.length ≤ sizeLine ∧ Q (.tup xs) G1) : dTup t W σ G Q := h
end
end DL
namespace DL
open PySem PySem.Spec L2
section
variable {te : DTE} {W : DX} {σ : DSt} {G : DH}
theorem okDs_bs {n : Nat} {vs : List Nat} : okDs (vs.map (bD n)) = true := by
  rw [okDs_all, List.all_eq_true]
  intro d hd
  obtain ⟨z, hz, rfl⟩ := List.mem_map.mp hd
  exact okS fun c hc => by rcases bsl_mem hc with rfl | rfl <;> decide
theorem dpDs_bs {n : Nat} {vs : List Nat} : dpDs (vs.map (bD n)) = 0 := by
  have := dpDs_le (xs := vs.map (bD n)) (n := 0) fun d hd => by
    obtain ⟨z, _, rfl⟩ := List.mem_map.mp hd
    exact Nat.le_refl _
  omega
theorem bs_inj {n : Nat} : ∀ {a b : List Nat}, (∀ v ∈ a, v < 2 ^ n) → (∀ v ∈ b, v < 2 ^ n) → (a.map fun v => S (bsl n v)) = (b.map fun v => S (bsl n v)) → a = b
  | [], [], _, _, _ => rfl
  | [], _ :: _, _, _, e => by cases e
  | _ :: _, [], _, _, e => by cases e
  | x :: a, y :: b, ha, hb, e => by
    rw [List.map_cons, List.map_cons, List.cons.injEq] at e
    rw [(bsl_inj (ha x List.mem_cons_self) (hb y List.mem_cons_self)).mp (S_inj.mp e.1), bs_inj (fun v hv => ha v (List.mem_cons_of_mem _ hv)) (fun v hv => hb v (List.mem_cons_of_mem _ hv)) e.2]
theorem eqTupB {n : Nat} {a b : List Nat} (ha : ∀ v ∈ a, v < 2 ^ n) (hb : ∀ v ∈ b, v < 2 ^ n) : ∀ Q : DK, Q (.bl (decide (a = b))) G → qEq false (tupB n a) (tupB n b) G Q := fun Q q => by
  refine ⟨eqOk_of (by unfold tupB dview okD; exact okDs_bs) (by unfold tupB dview dpD; rw [dpDs_bs]; decide), eqOk_of (by unfold tupB dview okD; exact okDs_bs) (by unfold tupB dview dpD; rw [dpDs_bs]; decide), ?_⟩
  have e : deq (tupB n a) (tupB n b) = decide (a = b) := by
    unfold deq tupB toPy PyData.eqv
    have h1 : ∀ l : List Nat, l.map (bD n) = (l.map fun v => S (bsl n v)).map D.str := fun l => by rw [List.map_map]; rfl
    rw [h1, h1, deq_strs]
    exact decide_eq_decide.mpr ⟨fun e => bs_inj ha hb e, fun e => by rw [e]⟩
  show Q (.bl (deq (dview G (.tup _)) (dview G (.tup _)))) G
  unfold dview
  have e2 : deq (.tup (a.map (bD n))) (.tup (b.map (bD n))) = decide (a = b) := e
  rw [e2]; exact q
end
end DL

/-! E1: defs as functions over trees: the wishes M, expressions. -/
namespace FL
open PySem PySem.Spec L2 DL

/-- a value, an error or nothing: by what is wished of it -/
abbrev M (α : Type) := (Exc → Prop) → (α → Prop) → Prop
section
variable {α β γ : Type}
def ret (a : α) : M α := fun _ Q => Q a
def bnd (m : M α) (f : α → M β) : M β := fun E Q => m E fun a => f a E Q
def thr (x : Exc) : M α := fun E _ => E x
def bad : M α := fun _ _ => False
def req (p : Prop) (m : M α) : M α := fun E Q => p ∧ m E Q
def anyM (p : α → Prop) : M α := fun _ Q => ∀ a, p a → Q a
def noX (m : M α) : M α := fun _ Q => m (fun _ => False) Q
theorem mk_eq {m m' : M α} (h : ∀ E Q, m E Q = m' E Q) : m = m' := funext fun E => funext (h E)
@[simp] theorem bnd_ret (a : α) (f : α → M β) : bnd (ret a) f = f a := mk_eq fun _ _ => rfl
@[simp] theorem bnd_assoc (m : M α) (f : α → M β) (g : β → M γ) : bnd (bnd m f) g = bnd m fun a => bnd (f a) g := mk_eq fun _ _ => rfl
@[simp] theorem bnd_thr (x : Exc) (f : α → M β) : bnd (thr x) f = thr x := mk_eq fun _ _ => rfl
@[simp] theorem bnd_id' (m : M α) : bnd m ret = m := mk_eq fun _ _ => rfl
@[simp] theorem bnd_bad (f : α → M β) : bnd bad f = bad := mk_eq fun _ _ => rfl
@[simp] theorem bnd_req (p : Prop) (m : M α) (f : α → M β) : bnd (req p m) f = req p (bnd m f) := mk_eq fun _ _ => rfl
@[simp] theorem bnd_id (m : M α) : (bnd m fun a => ret a) = m := mk_eq fun _ _ => rfl
theorem req_t {p : Prop} (h : p) (m : M α) : req p m = m := by funext E Q; exact propext ⟨fun z => z.2, fun z => ⟨h, z⟩⟩
@[simp] theorem noX_ret (a : α) : noX (ret a) = ret a := mk_eq fun _ _ => rfl
@[simp] theorem noX_bnd (m : M α) (f : α → M β) : noX (bnd m f) = bnd (noX m) fun a => noX (f a) := mk_eq fun _ _ => rfl
@[simp] theorem noX_any (p : α → Prop) : noX (anyM p) = anyM p := mk_eq fun _ _ => rfl
@[simp] theorem noX_req (p : Prop) (m : M α) : noX (req p m) = req p (noX m) := mk_eq fun _ _ => rfl
@[simp] theorem noX_bad : noX (bad : M α) = bad := mk_eq fun _ _ => rfl
@[simp] theorem noX_noX (m : M α) : noX (noX m) = noX m := mk_eq fun _ _ => rfl
@[simp] theorem noX_ite {c : Prop} [Decidable c] (a b : M α) : noX (if c then a else b) = if c then noX a else noX b := by split <;> rfl
@[simp] theorem bnd_ite {c : Prop} [Decidable c] (a b : M α) (f : α → M β) : bnd (if c then a else b) f = if c then bnd a f else bnd b f := by split <;> rfl
end
def G0 : DH := fun _ => none
def op (q : Q2) (x y : D) : M D := fun _ Q => q x y G0 fun d _ => Q d
def un (q : Q1) (x : D) : M D := fun _ Q => q x G0 fun d _ => Q d
def nop (q : QN) (xs : List D) : M D := fun _ Q => q xs G0 fun d _ => Q d
def sop (q : QS) (x : D) (l h : Option Int) : M D := fun _ Q => q x l h G0 fun d _ => Q d
def mop (q : QM) (x : D) (xs : List D) : M D := fun _ Q => q x xs G0 fun d _ => Q d
def isB {α : Type} (x : D) (k : Bool → M α) : M α := match x with
  | .bl b => k b
  | _ => bad
def isI {α : Type} (x : D) (k : Int → M α) : M α := match x with
  | .int b => k b
  | _ => bad
def tru (x : D) : M Bool := fun _ Q => truD G0 x Q
def tupM (xs : List D) : M D := req (xs.length ≤ sizeLine) (ret (.tup xs))
def lstM (xs : List D) : M D := req (xs.length ≤ sizeLine) (ret (.lst xs))
def itM (x : D) : M (List D) := match itD x with
  | some xs => ret xs
  | none => bad
def rng1 (xs : List D) : M (List D) := match xs with
  | [.int j] => req (smallI j) (ret (rngD 0 1 j.toNat))
  | _ => bad
def rng2 (xs : List D) : M (List D) := match xs with
  | [.int i, .int j] => req (smallI i ∧ smallI j) (ret (rngD i 1 (j - i).toNat))
  | _ => bad
def rng3 (xs : List D) : M (List D) := match xs with
  | [.int i, .int j, .int c] => fun _ Q => ∃ n, RgC i j c n ∧ Q (rngD i c n)
  | _ => bad
def zipM (xs : List D) : M (List D) := match xs with
  | [x, y] => match itD x, itD y with
    | some a, some b => ret (zipD a b)
    | _, _ => bad
  | _ => bad
def enumM (xs : List D) : M (List D) := match xs with
  | [x] => match itD x with
    | some a => ret (enumD a)
    | none => bad
  | _ => bad
def revM (x : D) : M D := match dlst G0 x with
  | some xs => ret (.lst xs.reverse)
  | none => bad
def un2 (d : D) : M (D × D) := match d with
  | .tup [a, b] => ret (a, b)
  | _ => bad
def un3 (d : D) : M (D × D × D) := match d with
  | .tup [a, b, c] => ret (a, b, c)
  | _ => bad
def ap1 (f : D → M D) (ds : List D) : M D := match ds with | [a] => f a | _ => bad
def ap2 (f : D → D → M D) (ds : List D) : M D := match ds with | [a, b] => f a b | _ => bad
def ap3 (f : D → D → D → M D) (ds : List D) : M D := match ds with | [a, b, c] => f a b c | _ => bad
def ap4 (f : D → D → D → D → M D) (ds : List D) : M D := match ds with | [a, b, c, d] => f a b c d | _ => bad
def ap5 (f : D → D → D → D → D → M D) (ds : List D) : M D := match ds with | [a, b, c, d, e] => f a b c d e | _ => bad
def ap6 (f : D → D → D → D → D → D → M D) (ds : List D) : M D := match ds with | [a, b, c, d, e, g] => f a b c d e g | _ => bad
def ap7 (f : D → D → D → D → D → D → D → M D) (ds : List D) : M D := match ds with | [a, b, c, d, e, g, h] => f a b c d e g h | _ => bad
def ap0 (f : M D) (ds : List D) : M D := match ds with | [] => f | _ => bad
def mapA {α β : Type} (f : α → M β) : List α → M (List β)
  | [] => ret []
  | x :: xs => bnd (f x) fun y => bnd (mapA f xs) fun ys => ret (y :: ys)
def filA {α β : Type} (p : α → M Bool) (f : α → M β) : List α → M (List β)
  | [] => ret []
  | x :: xs => bnd (p x) fun b => if b = true then bnd (f x) fun y => bnd (filA p f xs) fun ys => ret (y :: ys) else filA p f xs
/-- the element of a comprehension with a target of several names -/
def lccM (mi : D → M (List D)) (f : D → D → M D) : List D → List D → M (List D)
  | [], acc => ret acc
  | x :: xs, acc => bnd (mi x) fun ys => bnd (mapA (f x) ys) fun zs => req (acc.length + zs.length ≤ sizeLine) (lccM mi f xs (acc ++ zs))

/-! ### a value beheld: a changing list by what it holds -/
def Vw (G : DH) (x d : D) : Prop := x = d ∨ ∃ p xs, x = .ref p ∧ G p = some (.lst xs) ∧ d = .lst xs
inductive Vws (G : DH) : List D → List D → Prop
  | nil : Vws G [] []
  | cons {x d : D} {xs ds : List D} : Vw G x d → Vws G xs ds → Vws G (x :: xs) (d :: ds)
theorem Vw.rfl' {G : DH} {x : D} : Vw G x x := .inl rfl
theorem Vws.rfl' {G : DH} : ∀ {xs : List D}, Vws G xs xs
  | [] => .nil
  | _ :: _ => .cons .rfl' Vws.rfl'
theorem Vw.dseq {G : DH} {x d : D} {xs : List D} (h : Vw G x d) (e : DL.dseq G0 d = some xs) : DL.dseq G x = some xs := by
  rcases h with rfl | ⟨p, ys, rfl, h1, rfl⟩
  · cases x <;> first | exact e | cases e
  · have e2 : ys = xs := Option.some.inj e
    subst e2
    simp [DL.dseq, DL.dlst, h1]
theorem Vw.dlst {G : DH} {x d : D} {xs : List D} (h : Vw G x d) (e : DL.dlst G0 d = some xs) : DL.dlst G x = some xs := by
  rcases h with rfl | ⟨p, ys, rfl, h1, rfl⟩
  · cases x <;> first | exact e | cases e
  · have e2 : ys = xs := Option.some.inj e
    subst e2
    simp [DL.dlst, h1]
theorem Vw.dlsh {G : DH} {x d : D} {xs : List D} (h : Vw G x d) (e : DL.dlsh G0 d = some xs) : DL.dlsh G x = some xs := by
  rcases h with rfl | ⟨p, ys, rfl, h1, rfl⟩
  · cases x <;> first | exact e | cases e
  · have e2 : ys = xs := Option.some.inj e
    subst e2
    simp [DL.dlsh, h1]
def Loc2 (q : Q2) : Prop := ∀ (G : DH) (x y x' y' : D) (Q : DK) (R : D → Prop), Vw G x x' → Vw G y y' → (∀ d, R d → Q d G) → q x' y' G0 (fun d _ => R d) → q x y G Q
def Loc1 (q : Q1) : Prop := ∀ (G : DH) (x x' : D) (Q : DK) (R : D → Prop), Vw G x x' → (∀ d, R d → Q d G) → q x' G0 (fun d _ => R d) → q x G Q
def LocN (q : QN) : Prop := ∀ (G : DH) (xs ds : List D) (Q : DK) (R : D → Prop), Vws G xs ds → (∀ d, R d → Q d G) → q ds G0 (fun d _ => R d) → q xs G Q
def LocS (q : QS) : Prop := ∀ (G : DH) (x d : D) (l h : Option Int) (Q : DK) (R : D → Prop), Vw G x d → (∀ d, R d → Q d G) → q d l h G0 (fun d _ => R d) → q x l h G Q
/-- .. as a new changing list -/
def New2 (q q0 : Q2) : Prop := ∀ (G : DH) (x y x' y' : D) (Q : DK) (R : List D → Prop), Vw G x x' → Vw G y y' → (∀ xs, R xs → ∀ p, G p = none → Q (.ref p) (dupd G p (.lst xs))) → q0 x' y' G0 (fun d _ => ∃ xs, d = .lst xs ∧ R xs) → q x y G Q
def NewN (q q0 : QN) : Prop := ∀ (G : DH) (xs ds : List D) (Q : DK) (R : List D → Prop), Vws G xs ds → (∀ xs, R xs → ∀ p, G p = none → Q (.ref p) (dupd G p (.lst xs))) → q0 ds G0 (fun d _ => ∃ xs, d = .lst xs ∧ R xs) → q xs G Q

/-! ### what is known of the names: a value, a changing list of our own -/
inductive Sl where
  | no | val (d : D) | own (xs : List D)
abbrev Nm := List Sl
structure Rw (hs : List Addr) (B : DH) (env : Nm) (σ : DSt) (G : DH) : Prop where
  val : ∀ (i : Nat) (d : D), env[i]? = some (.val d) → σ[i]? = some (some d)
  own : ∀ (i : Nat) (xs : List D), env[i]? = some (.own xs) → ∃ p, σ[i]? = some (some (.ref p)) ∧ G p = some (.lst xs) ∧ B p = none
  dis : ∀ (i j : Nat) (xs ys : List D) (p : Addr), env[i]? = some (.own xs) → env[j]? = some (.own ys) → σ[i]? = some (some (.ref p)) → σ[j]? = some (some (.ref p)) → i = j
  inc : ∀ a o, B a = some o → G a = some o
  hnd : ∀ a ∈ hs, Hand a B
structure Rl (hs : List Addr) (B : DH) (env : Nm) (σ : DSt) (G : DH) : Prop extends Rw hs B env σ G where
  len : env.length = σ.length
def NmLe (e env : Nm) : Prop := ∀ (i : Nat) (s : Sl), e[i]? = some s → s = .no ∨ env[i]? = some s
theorem NmLe.nil {env : Nm} : NmLe [] env := fun i s h => by cases h
theorem NmLe.refl {env : Nm} : NmLe env env := fun i s h => .inr h
theorem NmLe.same {s : Sl} {e env : Nm} (h : NmLe e env) : NmLe (s :: e) (s :: env) := fun i t q => by
  cases i with
  | zero => exact .inr q
  | succ i => exact h i t q
theorem NmLe.drop {s : Sl} {e env : Nm} (h : NmLe e env) : NmLe (.no :: e) (s :: env) := fun i t q => by
  cases i with
  | zero => cases q; exact .inl rfl
  | succ i => exact h i t q
section
variable {hs : List Addr} {B : DH} {env e : Nm} {σ : DSt} {G : DH}
theorem Rw.le (w : Rw hs B env σ G) (h : NmLe e env) : Rw hs B e σ G := by
  have go : ∀ (i : Nat) (s : Sl), e[i]? = some s → s ≠ .no → env[i]? = some s := fun i s q n => (h i s q).resolve_left n
  exact ⟨fun i d q => w.val i d (go i _ q (by simp)), fun i xs q => w.own i xs (go i _ q (by simp)), fun i j xs ys p q1 q2 => w.dis i j xs ys p (go i _ q1 (by simp)) (go j _ q2 (by simp)), w.inc, w.hnd⟩
theorem Rl.le (w : Rl hs B env σ G) (h : NmLe e env) (hl : e.length = env.length) : Rl hs B e σ G := ⟨w.toRw.le h, by rw [hl, w.len]⟩
theorem Rl.setVal (w : Rl hs B env σ G) (i : Nat) (d : D) : Rl hs B (env.set i (.val d)) (σ.set i (some d)) G := by
  refine ⟨⟨fun j x q => ?_, fun j xs q => ?_, fun j k xs ys p q1 q2 s1 s2 => ?_, w.inc, w.hnd⟩, by simp [w.len]⟩
  · by_cases hj : i = j
    · subst hj
      rw [List.getElem?_set] at q ⊢
      simp only [if_true] at q ⊢
      rw [← w.len]
      split at q
      · rename_i h; rw [if_pos h]; cases q; rfl
      · cases q
    · rw [List.getElem?_set_ne hj] at q ⊢; exact w.val j x q
  · by_cases hj : i = j
    · subst hj
      rw [List.getElem?_set] at q
      simp only [if_true] at q
      split at q <;> cases q
    · rw [List.getElem?_set_ne hj] at q ⊢; exact w.own j xs q
  · have ne : ∀ (j : Nat) (xs : List D), (env.set i (.val d))[j]? = some (.own xs) → i ≠ j ∧ env[j]? = some (.own xs) := fun j xs q => by
      by_cases hj : i = j
      · subst hj
        rw [List.getElem?_set] at q
        simp only [if_true] at q
        split at q <;> cases q
      · rw [List.getElem?_set_ne hj] at q; exact ⟨hj, q⟩
    obtain ⟨n1, q1⟩ := ne j xs q1
    obtain ⟨n2, q2⟩ := ne k ys q2
    rw [List.getElem?_set_ne n1] at s1
    rw [List.getElem?_set_ne n2] at s2
    exact w.dis j k xs ys p q1 q2 s1 s2
theorem Rl.clear (w : Rl hs B env σ G) (i : Nat) (x : Option D) : Rl hs B (env.set i .no) (σ.set i x) G := by
  have ne : ∀ (j : Nat) (s : Sl), s ≠ .no → (env.set i .no)[j]? = some s → i ≠ j ∧ env[j]? = some s := fun j s hs q => by
    by_cases hj : i = j
    · subst hj
      rw [List.getElem?_set] at q
      simp only [if_true] at q
      split at q
      · cases q; exact (hs rfl).elim
      · cases q
    · rw [List.getElem?_set_ne hj] at q; exact ⟨hj, q⟩
  refine ⟨⟨fun j d q => ?_, fun j xs q => ?_, fun j k xs ys p q1 q2 s1 s2 => ?_, w.inc, w.hnd⟩, by simp [w.len]⟩
  · obtain ⟨n, q⟩ := ne j _ (by simp) q
    rw [List.getElem?_set_ne n]; exact w.val j d q
  · obtain ⟨n, q⟩ := ne j _ (by simp) q
    rw [List.getElem?_set_ne n]; exact w.own j xs q
  · obtain ⟨n1, q1⟩ := ne j _ (by simp) q1
    obtain ⟨n2, q2⟩ := ne k _ (by simp) q2
    rw [List.getElem?_set_ne n1] at s1
    rw [List.getElem?_set_ne n2] at s2
    exact w.dis j k xs ys p q1 q2 s1 s2
theorem incUp {B G : DH} (h : ∀ a o, B a = some o → G a = some o) {p : Addr} {o : DO} (hp : B p = none) : ∀ a u, B a = some u → dupd G p o a = some u := fun a u q => by
  rw [dupd_ne (by rintro rfl; rw [hp] at q; cases q)]; exact h a u q
/-- a new list of our own -/
theorem Rl.setOwn (w : Rl hs B env σ G) (i : Nat) {p : Addr} {xs : List D} (hp : G p = none) : Rl hs B (env.set i (.own xs)) (σ.set i (some (.ref p))) (dupd G p (.lst xs)) := by
  have bp : B p = none := by
    cases e : B p with
    | none => rfl
    | some o => have := w.inc p o e; rw [hp] at this; cases this
  have keep : ∀ (j : Nat) (ys : List D), env[j]? = some (.own ys) → ∀ q : Addr, σ[j]? = some (some (.ref q)) → q ≠ p := fun j ys hj q hq => by
    obtain ⟨q', h1, h2, _⟩ := w.own j ys hj
    rw [hq] at h1; cases h1
    rintro rfl; rw [hp] at h2; cases h2
  refine ⟨⟨fun j x q => ?_, fun j ys q => ?_, fun j k ys zs r q1 q2 s1 s2 => ?_, incUp w.inc bp, w.hnd⟩, by simp [w.len]⟩
  · by_cases hj : i = j
    · subst hj
      rw [List.getElem?_set] at q
      simp only [if_true] at q
      split at q <;> cases q
    · rw [List.getElem?_set_ne hj] at q ⊢; exact w.val j x q
  · by_cases hj : i = j
    · subst hj
      rw [List.getElem?_set] at q ⊢
      simp only [if_true] at q ⊢
      rw [← w.len]
      split at q
      · rename_i h; rw [if_pos h]; cases q; exact ⟨p, rfl, dupd_same, bp⟩
      · cases q
    · rw [List.getElem?_set_ne hj] at q ⊢
      obtain ⟨r, h1, h2, h3⟩ := w.own j ys q
      exact ⟨r, h1, by rw [dupd_ne (keep j ys q r h1)]; exact h2, h3⟩
  · by_cases hj : i = j
    · by_cases hk : i = k
      · rw [← hj, ← hk]
      · rw [List.getElem?_set_ne hk] at q2 s2
        subst hj
        rw [List.getElem?_set] at s1
        simp only [if_true] at s1
        split at s1
        · cases s1; exact (keep k zs q2 _ s2 rfl).elim
        · cases s1
    · rw [List.getElem?_set_ne hj] at q1 s1
      by_cases hk : i = k
      · subst hk
        rw [List.getElem?_set] at s2
        simp only [if_true] at s2
        split at s2
        · cases s2; exact (keep j ys q1 _ s1 rfl).elim
        · cases s2
      · rw [List.getElem?_set_ne hk] at q2 s2
        exact w.dis j k ys zs r q1 q2 s1 s2
/-- our list gets other things -/
theorem Rl.putOwn (w : Rl hs B env σ G) {i : Nat} {xs : List D} (e : env[i]? = some (.own xs)) {p : Addr} (hp : σ[i]? = some (some (.ref p))) (ys : List D) : Rl hs B (env.set i (.own ys)) σ (dupd G p (.lst ys)) := by
  obtain ⟨p', h1, h2, h3⟩ := w.own i xs e
  rw [hp] at h1; cases h1
  have il : i < env.length := (List.getElem?_eq_some_iff.mp e).1
  refine ⟨⟨fun j x q => ?_, fun j zs q => ?_, fun j k zs us r q1 q2 s1 s2 => ?_, incUp w.inc h3, w.hnd⟩, by simp [w.len]⟩
  · by_cases hj : i = j
    · subst hj
      rw [List.getElem?_set] at q
      simp only [if_true] at q
      split at q <;> cases q
    · rw [List.getElem?_set_ne hj] at q; exact w.val j x q
  · by_cases hj : i = j
    · subst hj
      rw [List.getElem?_set] at q
      simp only [if_true] at q
      rw [if_pos il] at q; cases q
      exact ⟨p, hp, dupd_same, h3⟩
    · rw [List.getElem?_set_ne hj] at q
      obtain ⟨r, g1, g2, g3⟩ := w.own j zs q
      refine ⟨r, g1, ?_, g3⟩
      rw [dupd_ne (by rintro rfl; exact hj (w.dis i j xs zs _ e q hp g1))]; exact g2
  · have own' : ∀ (j : Nat) (zs : List D), (env.set i (.own ys))[j]? = some (.own zs) → ∃ us, env[j]? = some (.own us) := fun j zs q => by
      by_cases hj : i = j
      · subst hj; exact ⟨xs, e⟩
      · rw [List.getElem?_set_ne hj] at q; exact ⟨_, q⟩
    obtain ⟨a, q1⟩ := own' j zs q1
    obtain ⟨b, q2⟩ := own' k us q2
    exact w.dis j k a b r q1 q2 s1 s2
/-- our list is frozen -/
theorem Rl.frz (w : Rl hs B env σ G) {i : Nat} {xs : List D} (e : env[i]? = some (.own xs)) {p : Addr} (hp : σ[i]? = some (some (.ref p))) : Rl hs B (env.set i (.val (.lst xs))) (σ.set i (some (.lst xs))) (ddel G p) := by
  obtain ⟨p', h1, h2, h3⟩ := w.own i xs e
  rw [hp] at h1; cases h1
  have il : i < env.length := (List.getElem?_eq_some_iff.mp e).1
  have ne : ∀ (j : Nat) (zs : List D), (env.set i (.val (.lst xs)))[j]? = some (.own zs) → i ≠ j ∧ env[j]? = some (.own zs) := fun j zs q => by
    by_cases hj : i = j
    · subst hj
      rw [List.getElem?_set] at q
      simp only [if_true] at q
      split at q <;> cases q
    · rw [List.getElem?_set_ne hj] at q; exact ⟨hj, q⟩
  refine ⟨⟨fun j x q => ?_, fun j zs q => ?_, fun j k zs us r q1 q2 s1 s2 => ?_, fun a o q => ?_, w.hnd⟩, by simp [w.len]⟩
  · by_cases hj : i = j
    · subst hj
      rw [List.getElem?_set] at q ⊢
      simp only [if_true] at q ⊢
      rw [← w.len]
      rw [if_pos il] at q ⊢; cases q; rfl
    · rw [List.getElem?_set_ne hj] at q ⊢; exact w.val j x q
  · obtain ⟨n, q⟩ := ne j zs q
    obtain ⟨r, g1, g2, g3⟩ := w.own j zs q
    refine ⟨r, by rw [List.getElem?_set_ne n]; exact g1, ?_, g3⟩
    unfold ddel
    rw [if_neg (by rintro rfl; exact n (w.dis i j xs zs _ e q hp g1))]; exact g2
  · obtain ⟨n1, q1⟩ := ne j zs q1
    obtain ⟨n2, q2⟩ := ne k us q2
    rw [List.getElem?_set_ne n1] at s1
    rw [List.getElem?_set_ne n2] at s2
    exact w.dis j k zs us r q1 q2 s1 s2
  · unfold ddel
    rw [if_neg (by rintro rfl; rw [h3] at q; cases q)]; exact w.inc a o q
theorem Rl.wipe (w : Rl hs B env σ G) : ∀ vs : List Nat, ∃ e2 : Nm, e2 = vs.foldr (fun v e => e.set v .no) env ∧ Rl hs B e2 (dwipe σ vs) G
  | [] => ⟨env, rfl, w⟩
  | v :: vs => by
    obtain ⟨e2, h, w2⟩ := w.wipe vs
    exact ⟨_, by rw [List.foldr_cons, ← h], w2.clear v none⟩
end
structure XLe (X env : Nm) : Prop where
  le : NmLe X env
  ln : X ≠ [] → X.length = env.length
theorem XLe.nil {env : Nm} : XLe [] env := ⟨.nil, fun h => (h rfl).elim⟩
theorem XLe.refl {env : Nm} : XLe env env := ⟨.refl, fun _ => rfl⟩
structure Rx (hs : List Addr) (B : DH) (env : Nm) (σ : DSt) (G : DH) : Prop extends Rw hs B env σ G where
  len : env ≠ [] → env.length = σ.length
theorem Rl.x {hs : List Addr} {B : DH} {env X : Nm} {σ : DSt} {G : DH} (w : Rl hs B env σ G) (h : XLe X env) : Rx hs B X σ G := ⟨w.toRw.le h.le, fun n => by rw [h.ln n, w.len]⟩
theorem Rx.nil {B : DH} {σ : DSt} {G : DH} (h : ∀ a o, B a = some o → G a = some o) : Rx [] B [] σ G := ⟨⟨fun i d q => by simp at q, fun i xs q => by simp at q, fun i j xs ys p q => by simp at q, h, fun a q => by simp at q⟩, fun h => (h rfl).elim⟩
def wipeE (env : Nm) (vs : List Nat) : Nm := vs.foldr (fun v e => e.set v .no) env
theorem Rl.wipe' {hs : List Addr} {B : DH} {env : Nm} {σ : DSt} {G : DH} (w : Rl hs B env σ G) (vs : List Nat) : Rl hs B (wipeE env vs) (dwipe σ vs) G := by
  obtain ⟨e2, h, w2⟩ := w.wipe vs
  unfold wipeE; rw [← h]; exact w2
end FL

/-! E2: expressions as functions. -/
namespace FL
open PySem PySem.Spec L2 DL

/-- te gives what m wishes: exactly; beheld; a new changing list -/
def LE (hs : List Addr) (env : Nm) (te : DTE) (m : M D) : Prop := ∀ (B : DH) (σ : DSt) (G : DH) (W : DX) (E : Exc → Prop) (Q : DK) (R : D → Prop), Rl hs B env σ G → (∀ x, E x → W x σ G) → (∀ d, R d → Q d G) → m E R → te W σ G Q
def LV (hs : List Addr) (env : Nm) (te : DTE) (m : M D) : Prop := ∀ (B : DH) (σ : DSt) (G : DH) (W : DX) (E : Exc → Prop) (Q : DK) (R : D → Prop), Rl hs B env σ G → (∀ x, E x → W x σ G) → (∀ d, R d → ∀ x, Vw G x d → Q x G) → m E R → te W σ G Q
def LN (hs : List Addr) (env : Nm) (te : DTE) (m : M (List D)) : Prop := ∀ (B : DH) (σ : DSt) (G : DH) (W : DX) (E : Exc → Prop) (Q : DK) (R : List D → Prop), Rl hs B env σ G → (∀ x, E x → W x σ G) → (∀ ds, R ds → ∀ p, G p = none → Q (.ref p) (dupd G p (.lst ds))) → m E R → te W σ G Q
def LT (hs : List Addr) (env : Nm) (tt : DTT) (m : M Bool) : Prop := ∀ (B : DH) (σ : DSt) (G : DH) (W : DX) (E : Exc → Prop) (Q : Bool → DH → Prop) (R : Bool → Prop), Rl hs B env σ G → (∀ x, E x → W x σ G) → (∀ d, R d → Q d G) → m E R → tt W σ G Q
/-- lists of values; of what is walked -/
def LA (hs : List Addr) (env : Nm) (ta : DTA) (m : M (List D)) : Prop := ∀ (B : DH) (σ : DSt) (G : DH) (W : DX) (E : Exc → Prop) (Q : List D → DH → Prop) (R : List D → Prop), Rl hs B env σ G → (∀ x, E x → W x σ G) → (∀ d, R d → Q d G) → m E R → ta W σ G Q
def LAV (hs : List Addr) (env : Nm) (ta : DTA) (m : M (List D)) : Prop := ∀ (B : DH) (σ : DSt) (G : DH) (W : DX) (E : Exc → Prop) (Q : List D → DH → Prop) (R : List D → Prop), Rl hs B env σ G → (∀ x, E x → W x σ G) → (∀ ds, R ds → ∀ xs, Vws G xs ds → Q xs G) → m E R → ta W σ G Q
def LO (hs : List Addr) (env : Nm) (ta : DTO) (m : M (Option Int)) : Prop := ∀ (B : DH) (σ : DSt) (G : DH) (W : DX) (E : Exc → Prop) (Q : Option Int → DH → Prop) (R : Option Int → Prop), Rl hs B env σ G → (∀ x, E x → W x σ G) → (∀ d, R d → Q d G) → m E R → ta W σ G Q
/-- plain: a name, a constant -/
def LP (hs : List Addr) (env : Nm) (te : DTE) (d : D) : Prop := LE hs env te (ret d)
def LPV (hs : List Addr) (env : Nm) (te : DTE) (d : D) : Prop := LV hs env te (ret d)
section
variable {hs : List Addr} {env : Nm} {ta tb tc te : DTE} {ma mb mc m : M D} {x y d : D} {t u : DTA} {mt mu : M (List D)} {tt tu : DTT} {mT mU : M Bool} {xs ys : List D}
theorem lv_of (h : LE hs env te m) : LV hs env te m := fun B σ G W E Q R w hw hq hm => h B σ G W E Q _ w hw (fun d r => hq d r d .rfl') hm
theorem lp_v (h : LP hs env te d) : LPV hs env te d := lv_of h
theorem lp_e (h : LP hs env te d) : LE hs env te (ret d) := h
theorem lp_var {i : Nat} (h : env[i]? = some (.val d)) : LP hs env (dVar i) d := fun B σ G W E Q R w hw hq hm => ⟨d, w.val i d h, hq d hm⟩
theorem lp_k : LP hs env (dK d) d := fun B σ G W E Q R w hw hq hm => hq d hm
theorem lp_own {i : Nat} (h : env[i]? = some (.own xs)) : LPV hs env (dVar i) (.lst xs) := fun B σ G W E Q R w hw hq hm => by
  obtain ⟨p, h1, h2, h3⟩ := w.own i xs h
  exact ⟨.ref p, h1, hq _ hm _ (.inr ⟨p, xs, rfl, h2, rfl⟩)⟩
/-! operators -/
theorem le_op {q : Q2} (hq : Loc2 q) (h1 : LV hs env ta ma) (h2 : LV hs env tb mb) : LE hs env (dOp q ta tb) (bnd ma fun x => bnd mb fun y => op q x y) := fun B σ G W E Q R w hw k hm =>
  h1 B σ G W E _ _ w hw (fun d r x vx => h2 B σ G W E _ _ w hw (fun d' r' y vy => hq G x y d d' Q R vx vy k r') r) hm
theorem le_op_pp {q : Q2} (hq : Loc2 q) (h1 : LPV hs env ta x) (h2 : LPV hs env tb y) : LE hs env (dOp q ta tb) (op q x y) := le_op hq h1 h2
theorem le_op_mp {q : Q2} (hq : Loc2 q) (h1 : LV hs env ta ma) (h2 : LPV hs env tb y) : LE hs env (dOp q ta tb) (bnd ma fun x => op q x y) := le_op hq h1 h2
theorem le_op_pm {q : Q2} (hq : Loc2 q) (h1 : LPV hs env ta x) (h2 : LV hs env tb mb) : LE hs env (dOp q ta tb) (bnd mb fun y => op q x y) := le_op hq h1 h2
theorem le_un {q : Q1} (hq : Loc1 q) (h1 : LV hs env ta ma) : LE hs env (dUn q ta) (bnd ma fun x => un q x) := fun B σ G W E Q R w hw k hm =>
  h1 B σ G W E _ _ w hw (fun d r x vx => hq G x d Q R vx k r) hm
theorem le_un_p {q : Q1} (hq : Loc1 q) (h1 : LPV hs env ta x) : LE hs env (dUn q ta) (un q x) := le_un hq h1
theorem la_nil : LA hs env dNil (ret []) := fun B σ G W E Q R w hw k hm => k [] hm
theorem lav_nil : LAV hs env dNil (ret []) := fun B σ G W E Q R w hw k hm => k [] hm [] .nil
theorem la_cons (h1 : LE hs env te m) (h2 : LA hs env t mt) : LA hs env (dCons te t) (bnd m fun x => bnd mt fun xs => ret (x :: xs)) := fun B σ G W E Q R w hw k hm =>
  h1 B σ G W E _ _ w hw (fun d r => h2 B σ G W E _ _ w hw (fun ds rs => k (d :: ds) rs) r) hm
theorem la_consp (h1 : LP hs env te d) (h2 : LA hs env t mt) : LA hs env (dCons te t) (bnd mt fun xs => ret (d :: xs)) := la_cons h1 h2
theorem lav_cons (h1 : LV hs env te m) (h2 : LAV hs env t mt) : LAV hs env (dCons te t) (bnd m fun x => bnd mt fun xs => ret (x :: xs)) := fun B σ G W E Q R w hw k hm =>
  h1 B σ G W E _ _ w hw (fun d r x vx => h2 B σ G W E _ _ w hw (fun ds rs xs vxs => k (d :: ds) rs (x :: xs) (.cons vx vxs)) r) hm
theorem lav_consp (h1 : LPV hs env te d) (h2 : LAV hs env t mt) : LAV hs env (dCons te t) (bnd mt fun xs => ret (d :: xs)) := lav_cons h1 h2
/-- all plain -/
def LAP (hs : List Addr) (env : Nm) (t : DTA) (xs : List D) : Prop := LA hs env t (ret xs)
def LAPV (hs : List Addr) (env : Nm) (t : DTA) (xs : List D) : Prop := LAV hs env t (ret xs)
theorem lap_nil : LAP hs env dNil [] := la_nil
theorem lap_cons (h1 : LP hs env te d) (h2 : LAP hs env t xs) : LAP hs env (dCons te t) (d :: xs) := la_cons h1 h2
theorem lapv_nil : LAPV hs env dNil [] := lav_nil
theorem lapv_cons (h1 : LPV hs env te d) (h2 : LAPV hs env t xs) : LAPV hs env (dCons te t) (d :: xs) := lav_cons h1 h2
theorem le_n {q : QN} (hq : LocN q) (h : LAV hs env t mt) : LE hs env (dN q t) (bnd mt fun xs => nop q xs) := fun B σ G W E Q R w hw k hm =>
  h B σ G W E _ _ w hw (fun ds r xs v => hq G xs ds Q R v k r) hm
theorem le_n_p {q : QN} (hq : LocN q) (h : LAPV hs env t xs) : LE hs env (dN q t) (nop q xs) := le_n hq h
theorem le_tup (h : LA hs env t mt) : LE hs env (dTup t) (bnd mt tupM) := fun B σ G W E Q R w hw k hm =>
  h B σ G W E _ _ w hw (fun ds r => ⟨r.1, k _ r.2⟩) hm
theorem le_tup_p (h : LAP hs env t xs) : LE hs env (dTup t) (tupM xs) := le_tup h
theorem le_lst (h : LA hs env t mt) : LE hs env (dLst false t) (bnd mt lstM) := fun B σ G W E Q R w hw k hm =>
  h B σ G W E _ _ w hw (fun ds r => ⟨r.1, k _ r.2⟩) hm
theorem le_lst_p (h : LAP hs env t xs) : LE hs env (dLst false t) (lstM xs) := le_lst h
theorem le_if (hc : LT hs env tt mT) (h1 : LE hs env ta ma) (h2 : LE hs env tb mb) : LE hs env (dIf tt ta tb) (bnd mT fun b => if b = true then ma else mb) := fun B σ G W E Q R w hw k hm =>
  hc B σ G W E _ _ w hw (fun b r => by
    cases b with
    | true => exact h1 B σ G W E Q R w hw k r
    | false => exact h2 B σ G W E Q R w hw k r) hm
theorem le_andV (h1 : LE hs env ta ma) (h2 : LE hs env tb mb) : LE hs env (dAndV ta tb) (bnd ma fun x => isB x fun b => if b = true then mb else ret (.bl false)) := fun B σ G W E Q R w hw k hm =>
  h1 B σ G W E _ _ w hw (fun d r => by
    cases d with
    | bl b => cases b with
      | true => exact h2 B σ G W E Q R w hw k r
      | false => exact k _ r
    | _ => exact r.elim) hm
theorem le_orV (h1 : LE hs env ta ma) (h2 : LE hs env tb mb) : LE hs env (dOrV ta tb) (bnd ma fun x => isB x fun b => if b = true then ret (.bl true) else mb) := fun B σ G W E Q R w hw k hm =>
  h1 B σ G W E _ _ w hw (fun d r => by
    cases d with
    | bl b => cases b with
      | false => exact h2 B σ G W E Q R w hw k r
      | true => exact k _ r
    | _ => exact r.elim) hm
theorem le_notV (h1 : LE hs env ta ma) : LE hs env (dNotV ta) (bnd ma fun x => isB x fun b => ret (.bl (!b))) := fun B σ G W E Q R w hw k hm =>
  h1 B σ G W E _ _ w hw (fun d r => by
    cases d with
    | bl b => exact k _ r
    | _ => exact r.elim) hm
theorem le_chain {q q' : Q2} (hq : Loc2 q) (hq' : Loc2 q') (h1 : LV hs env ta ma) (h2 : LV hs env tb mb) (h3 : LV hs env tc mc) : LE hs env (dChain q q' ta tb tc) (bnd ma fun x => bnd mb fun y => bnd (op q x y) fun r => isB r fun b => if b = true then bnd mc fun z => op q' y z else ret (.bl false)) := fun B σ G W E Q R w hw k hm =>
  h1 B σ G W E _ _ w hw (fun d r x vx => h2 B σ G W E _ _ w hw (fun d' r' y vy => hq G x y d d' _ _ vx vy (fun z rz => by
    cases z with
    | bl b => cases b with
      | true => exact h3 B σ G W E _ _ w hw (fun d3 r3 z vz => hq' G y z d' d3 Q R vy vz k r3) rz
      | false => exact k _ rz
    | _ => exact rz.elim) r') r) hm
/-! tests -/
theorem lt_test (h : LE hs env te m) : LT hs env (dTest te) (bnd m fun x => isB x ret) := fun B σ G W E Q R w hw k hm =>
  h B σ G W E _ _ w hw (fun d r => by
    cases d with
    | bl b => exact k _ r
    | _ => exact r.elim) hm
theorem truLoc {G : DH} {x d : D} {Q R : Bool → Prop} (v : Vw G x d) (k : ∀ b, R b → Q b) (h : truD G0 d R) : truD G x Q := by
  rcases v with rfl | ⟨p, xs, rfl, h1, rfl⟩
  · cases x with
    | non => exact k _ h
    | bl b => exact k _ h
    | int i => exact k _ h
    | str y => exact ⟨h.1, k _ h.2⟩
    | tup ys => exact k _ h
    | lst ys => exact k _ h
    | scr ns => exact k _ h
    | ref a => exact (show False from h).elim
    | ty n => exact (show False from h).elim
  · have e : DL.dseq G (.ref p) = some xs := by unfold DL.dseq DL.dlst; simp [h1]
    show (match DL.dseq G (.ref p) with | some xs => Q (!xs.isEmpty) | none => False)
    rw [e]; exact k _ h
theorem lt_tru (h : LV hs env te m) : LT hs env (dTru te) (bnd m tru) := fun B σ G W E Q R w hw k hm =>
  h B σ G W E _ _ w hw (fun d r x vx => truLoc vx k r) hm
theorem lt_not (h : LT hs env tt mT) : LT hs env (dNot tt) (bnd mT fun b => ret (!b)) := fun B σ G W E Q R w hw k hm => h B σ G W E _ _ w hw (fun d r => k _ r) hm
theorem lt_and (h1 : LT hs env tt mT) (h2 : LT hs env tu mU) : LT hs env (dAnd tt tu) (bnd mT fun b => if b = true then mU else ret false) := fun B σ G W E Q R w hw k hm =>
  h1 B σ G W E _ _ w hw (fun b r => by
    cases b with
    | true => exact h2 B σ G W E Q R w hw k r
    | false => exact k _ r) hm
theorem lt_or (h1 : LT hs env tt mT) (h2 : LT hs env tu mU) : LT hs env (dOr tt tu) (bnd mT fun b => if b = true then ret true else mU) := fun B σ G W E Q R w hw k hm =>
  h1 B σ G W E _ _ w hw (fun b r => by
    cases b with
    | false => exact h2 B σ G W E Q R w hw k r
    | true => exact k _ r) hm
/-! slices -/
theorem lo_none : LO hs env dNoP (ret none) := fun B σ G W E Q R w hw k hm => k _ hm
theorem lo_some (h : LE hs env te m) : LO hs env (dPart te) (bnd m fun x => isI x fun i => ret (some i)) := fun B σ G W E Q R w hw k hm =>
  h B σ G W E _ _ w hw (fun d r => by
    cases d with
    | int b => exact k _ r
    | _ => exact r.elim) hm
theorem le_slice {q : QS} {tl th : DTO} {ml mh : M (Option Int)} (hq : LocS q) (h1 : LV hs env ta ma) (h2 : LO hs env tl ml) (h3 : LO hs env th mh) : LE hs env (dSl q ta tl th) (bnd ma fun x => bnd ml fun l => bnd mh fun h => sop q x l h) := fun B σ G W E Q R w hw k hm =>
  h1 B σ G W E _ _ w hw (fun d r x vx => h2 B σ G W E _ _ w hw (fun l rl => h3 B σ G W E _ _ w hw (fun h rh => hq G x d l h Q R vx k rh) rl) r) hm
theorem le_revL (h1 : LV hs env ta ma) : LE hs env (dRevL false ta) (bnd ma revM) := fun B σ G W E Q R w hw k hm =>
  h1 B σ G W E _ _ w hw (fun d r x vx => by
    unfold revM at r
    cases e : DL.dlst G0 d with
    | none => rw [e] at r; exact r.elim
    | some ys =>
      rw [e] at r
      show (match DL.dlst G x with | some xs => mkL false xs.reverse G Q | none => False)
      rw [vx.dlst e]; exact k _ r) hm
/-! calls -/
def spF (F : List D → M D) : DSp := fun ds G Q E => F ds (fun x => E x G) fun d => Q d G
def spH (F : List D → M D) : DSp := fun ds G Q E => ∃ a r, ds = .ref a :: r ∧ Hand a G ∧ F r (fun x => E x G) fun d => Q d G
def LocF (F : List D → M D) : Prop := ∀ (ds : List D) (E E' : Exc → Prop) (R R' : D → Prop), (∀ x, E x → E' x) → (∀ d, R d → R' d) → F ds E R → F ds E' R'
/-- where monotony is wanted: the least monotone wish above m -/
def mono {α : Type} (m : M α) : M α := fun E Q => ∃ (E' : Exc → Prop) (Q' : α → Prop), (∀ x, E' x → E x) ∧ (∀ a, Q' a → Q a) ∧ m E' Q'
def spM (F : List D → M D) : DSp := spF fun ds => mono (F ds)
def spMH (F : List D → M D) : DSp := spH fun ds => mono (F ds)
theorem le_call {F : List D → M D} (h : LA hs env t mt) : LE hs env (dCall (spM F) t) (bnd mt F) := fun B σ G W E Q R w hw k hm =>
  h B σ G W E _ _ w hw (fun ds r => ⟨E, R, hw, k, r⟩) hm
theorem le_call_p {F : List D → M D} (h : LAP hs env t xs) : LE hs env (dCall (spM F) t) (F xs) := le_call h
theorem handUp {B G : DH} (inc : ∀ a o, B a = some o → G a = some o) {a : Addr} (h : Hand a B) : Hand a G := by
  obtain ⟨q, n, h1, h2⟩ := h
  exact ⟨q, n, inc _ _ h1, inc _ _ h2⟩
theorem le_callH {F : List D → M D} {i : Nat} {a : Addr} (hi : env[i]? = some (.val (.ref a))) (ha : a ∈ hs) (h : LA hs env t mt) : LE hs env (dCall (spMH F) (dCons (dVar i) t)) (bnd mt F) := fun B σ G W E Q R w hw k hm =>
  ⟨.ref a, w.val i _ hi, h B σ G W E _ _ w hw (fun ds r => ⟨a, ds, rfl, handUp w.inc (w.hnd a ha), E, R, hw, k, r⟩) hm⟩
theorem le_callH_p {F : List D → M D} {i : Nat} {a : Addr} (hi : env[i]? = some (.val (.ref a))) (ha : a ∈ hs) (h : LAP hs env t xs) : LE hs env (dCall (spMH F) (dCons (dVar i) t)) (F xs) := le_callH hi ha h
theorem le_callK {F : List D → M D} {k n : Nat} {ix : List Nat} (h1 : LA hs env t mt) (h2 : LA hs env u mu) : LE hs env (dCallK k n ix (spM F) t u) (bnd mt fun xs => bnd mu fun zs => req (xs.length = k ∧ zs.length = n) (F (pick ix (xs ++ zs)))) := fun B σ G W E Q R w hw kq hm =>
  h1 B σ G W E _ _ w hw (fun ds r => h2 B σ G W E _ _ w hw (fun es re => ⟨re.1, E, R, hw, kq, re.2⟩) r) hm
/-! methods of texts -/
def LocM (q : QM) : Prop := ∀ (G : DH) (x d : D) (xs ds : List D) (Q : DK) (R : D → Prop), Vw G x d → Vws G xs ds → (∀ d, R d → Q d G) → q d ds G0 (fun d _ => R d) → q x xs G Q
theorem le_mS {q : QM} (hq : LocM q) (h1 : LE hs env ta ma) (h2 : LAV hs env t mt) : LE hs env (dM "str" q ta t) (bnd ma fun x => req (∃ z, x = .str z) (bnd mt fun xs => mop q x xs)) := fun B σ G W E Q R w hw k hm =>
  h1 B σ G W E _ _ w hw (fun d r => by
    obtain ⟨⟨z, rfl⟩, r⟩ := r
    exact ⟨rfl, h2 B σ G W E _ _ w hw (fun ds rs xs v => hq G (.str z) (.str z) xs ds Q R .rfl' v k rs) r⟩) hm
end
/-! ### what is walked -/
def LI (hs : List Addr) (env : Nm) (ti : DTI) (m : M (List D)) : Prop := ∀ (B : DH) (σ : DSt) (G : DH) (W : DX) (E : Exc → Prop) (Q : List D → DH → Prop) (R : List D → Prop), Rl hs B env σ G → (∀ x, E x → W x σ G) → (∀ d, R d → Q d G) → m E R → ti W σ G Q
section
variable {hs : List Addr} {env : Nm} {te : DTE} {m : M D} {d : D} {t : DTA} {mt : M (List D)} {xs : List D}
theorem li_it (h : LE hs env te m) : LI hs env (dIt te) (bnd m itM) := fun B σ G W E Q R w hw k hm =>
  h B σ G W E _ _ w hw (fun d r => by
    unfold itM at r
    cases e : itD d with
    | none => rw [e] at r; exact r.elim
    | some ys => rw [e] at r; exact k _ r) hm
theorem li_it_p (h : LP hs env te d) : LI hs env (dIt te) (itM d) := li_it h
theorem li_rng1 (h : LA hs env t mt) : LI hs env (dRng1 t) (bnd mt rng1) := fun B σ G W E Q R w hw k hm =>
  h B σ G W E _ _ w hw (fun ds r => by
    unfold rng1 at r
    split at r
    · exact ⟨r.1, k _ r.2⟩
    · exact r.elim) hm
theorem li_rng1_p (h : LAP hs env t xs) : LI hs env (dRng1 t) (rng1 xs) := li_rng1 h
theorem li_rng2 (h : LA hs env t mt) : LI hs env (dRng2 t) (bnd mt rng2) := fun B σ G W E Q R w hw k hm =>
  h B σ G W E _ _ w hw (fun ds r => by
    unfold rng2 at r
    split at r
    · exact ⟨r.1, k _ r.2⟩
    · exact r.elim) hm
theorem li_rng2_p (h : LAP hs env t xs) : LI hs env (dRng2 t) (rng2 xs) := li_rng2 h
theorem li_rng3 (h : LA hs env t mt) : LI hs env (dRng3 t) (bnd mt rng3) := fun B σ G W E Q R w hw k hm =>
  h B σ G W E _ _ w hw (fun ds r => by
    unfold rng3 at r
    split at r
    · obtain ⟨n, h1, h2⟩ := r; exact ⟨n, h1, k _ h2⟩
    · exact r.elim) hm
theorem li_rng3_p (h : LAP hs env t xs) : LI hs env (dRng3 t) (rng3 xs) := li_rng3 h
theorem li_zip (h : LA hs env t mt) : LI hs env (dZip t) (bnd mt zipM) := fun B σ G W E Q R w hw k hm =>
  h B σ G W E _ _ w hw (fun ds r => by
    match ds, r with
    | [x, y], r =>
      show (match itD x, itD y with | some a, some b => Q (zipD a b) G | _, _ => False)
      unfold zipM at r
      cases e1 : itD x with
      | none => simp only [e1] at r; exact r.elim
      | some a => cases e2 : itD y with
        | none => simp only [e1, e2] at r; exact r.elim
        | some b => simp only [e1, e2] at r; exact k _ r
    | [], r => exact r.elim
    | [_], r => exact r.elim
    | _ :: _ :: _ :: _, r => exact r.elim) hm
theorem li_zip_p (h : LAP hs env t xs) : LI hs env (dZip t) (zipM xs) := li_zip h
theorem li_enum (h : LA hs env t mt) : LI hs env (dEnum t) (bnd mt enumM) := fun B σ G W E Q R w hw k hm =>
  h B σ G W E _ _ w hw (fun ds r => by
    match ds, r with
    | [x], r =>
      show (match itD x with | some a => Q (enumD a) G | none => False)
      unfold enumM at r
      cases e1 : itD x with
      | none => simp only [e1] at r; exact r.elim
      | some a => simp only [e1] at r; exact k _ r
    | [], r => exact r.elim
    | _ :: _ :: _, r => exact r.elim) hm
theorem li_enum_p (h : LAP hs env t xs) : LI hs env (dEnum t) (enumM xs) := li_enum h
end
/-! ### targets -/
def LGt {α : Type} (hs : List Addr) (env : Nm) (g : DTG) (u : D → M α) (ext : α → Nm) : Prop := ∀ (B : DH) (σ : DSt) (G : DH) (W : DX) (E : Exc → Prop) (R : α → Prop) (Q : DSt → DH → Prop) (d : D), Rl hs B env σ G → u d E R → (∀ a σ', R a → Rl hs B (ext a) σ' G → Q σ' G) → g W d σ G Q
section
variable {hs : List Addr} {env : Nm} {i j k : Nat}
theorem lg_name : LGt hs env (gSet i) ret fun d => env.set i (.val d) := fun B σ G W E R Q d w hr k => k d _ hr (w.setVal i d)
theorem lg_2 : LGt hs env (gTupD 2 (gsCons (gSet i) (gsCons (gSet j) gsNil))) un2 fun a => (env.set i (.val a.1)).set j (.val a.2) := fun B σ G W E R Q d w hr kk => by
  unfold un2 at hr
  split at hr
  · rename_i a b
    exact ⟨rfl, rfl, kk (a, b) _ hr ((w.setVal i a).setVal j b)⟩
  · exact hr.elim
theorem lg_3 : LGt hs env (gTupD 3 (gsCons (gSet i) (gsCons (gSet j) (gsCons (gSet k) gsNil)))) un3 fun a => ((env.set i (.val a.1)).set j (.val a.2.1)).set k (.val a.2.2) := fun B σ G W E R Q d w hr kk => by
  unfold un3 at hr
  split at hr
  · rename_i a b c
    exact ⟨rfl, rfl, kk (a, b, c) _ hr (((w.setVal i a).setVal j b).setVal k c)⟩
  · exact hr.elim
def un12 (d : D) : M (D × D × D) := match d with
  | .tup [a, .tup [b, c]] => ret (a, b, c)
  | _ => bad
theorem lg_12 : LGt hs env (gTupD 2 (gsCons (gSet i) (gsCons (gTupD 2 (gsCons (gSet j) (gsCons (gSet k) gsNil))) gsNil))) un12 fun a => ((env.set i (.val a.1)).set j (.val a.2.1)).set k (.val a.2.2) := fun B σ G W E R Q d w hr kk => by
  unfold un12 at hr
  split at hr
  · rename_i a b c
    exact ⟨rfl, rfl, rfl, rfl, kk (a, b, c) _ hr (((w.setVal i a).setVal j b).setVal k c)⟩
  · exact hr.elim
end
/-! ### comprehensions -/
def mapU {α β : Type} (u : D → M α) (f : α → M β) : List D → M (List β)
  | [] => ret []
  | x :: xs => bnd (u x) fun a => bnd (f a) fun y => bnd (mapU u f xs) fun ys => ret (y :: ys)
def filU {α β : Type} (u : D → M α) (p : α → M Bool) (f : α → M β) : List D → M (List β)
  | [] => ret []
  | x :: xs => bnd (u x) fun a => bnd (p a) fun b => if b = true then bnd (f a) fun y => bnd (filU u p f xs) fun ys => ret (y :: ys) else filU u p f xs
/-- [f x y for x in xs if p x for y in mi x if q x y] -/
def lccI {β : Type} (v : D → M β) (q : β → M Bool) (f : β → M D) : List D → List D → M (List D)
  | [], acc => ret acc
  | y :: ys, acc => bnd (v y) fun a => bnd (q a) fun b => if b = true then bnd (f a) fun z => req (acc.length < sizeLine) (lccI v q f ys (acc ++ [z])) else lccI v q f ys acc
def lccU {α β : Type} (u : D → M α) (p : α → M Bool) (mi : α → M (List D)) (v : D → M β) (q : α → β → M Bool) (f : α → β → M D) : List D → List D → M (List D)
  | [], acc => ret acc
  | x :: xs, acc => bnd (u x) fun a => bnd (p a) fun b => if b = true then bnd (mi a) fun ys => bnd (lccI v (q a) (f a) ys acc) fun acc' => lccU u p mi v q f xs acc' else lccU u p mi v q f xs acc
section
variable {hs : List Addr} {env : Nm} {α β : Type} {g g1 : DTG} {u : D → M α} {v : D → M β} {ext : α → Nm} {te : DTE} {tt : DTT} {f : α → M D} {p : α → M Bool} {ti : DTI} {mi : M (List D)} {vs : List Nat} {m : Bool}
theorem comp_map (hg : LGt hs env g u ext) (he : ∀ a, LE hs (ext a) te (f a)) : ∀ (xs : List D) (B : DH) (σ : DSt) (G : DH) (Q : List D → DH → Prop) (R : List D → Prop), Rl hs B env σ G → (∀ ds, R ds → Q ds G) → mapU u f xs (fun _ => False) R → dComp g dYes te xs σ G Q
  | [], B, σ, G, Q, R, w, k, hm => k _ hm
  | x :: xs, B, σ, G, Q, R, w, k, hm => by
    refine hg B σ G W0 (fun _ => False) _ _ x w hm fun a σ' r w' => ?_
    show (if true = true then te W0 σ' G fun y G2 => dComp g dYes te xs σ G2 fun ys G3 => Q (y :: ys) G3 else dComp g dYes te xs σ G Q)
    rw [if_pos rfl]
    refine he a B σ' G W0 (fun _ => False) _ _ w' (fun _ h => h.elim) (fun y ry => ?_) r
    exact comp_map hg he xs B σ G _ _ w (fun ys rys => k _ rys) ry
theorem comp_fil (hg : LGt hs env g u ext) (ht : ∀ a, LT hs (ext a) tt (p a)) (he : ∀ a, LE hs (ext a) te (f a)) : ∀ (xs : List D) (B : DH) (σ : DSt) (G : DH) (Q : List D → DH → Prop) (R : List D → Prop), Rl hs B env σ G → (∀ ds, R ds → Q ds G) → filU u p f xs (fun _ => False) R → dComp g tt te xs σ G Q
  | [], B, σ, G, Q, R, w, k, hm => k _ hm
  | x :: xs, B, σ, G, Q, R, w, k, hm => by
    refine hg B σ G W0 (fun _ => False) _ _ x w hm fun a σ' r w' => ?_
    refine ht a B σ' G W0 (fun _ => False) _ _ w' (fun _ h => h.elim) (fun b rb => ?_) r
    cases b with
    | true =>
      refine iteT (he a B σ' G W0 (fun _ => False) _ _ w' (fun _ h => h.elim) (fun y ry => ?_) rb)
      exact comp_fil hg ht he xs B σ G _ _ w (fun ys rys => k _ rys) ry
    | false => exact iteF (comp_fil hg ht he xs B σ G _ _ w k rb)
theorem le_lc (hi : LI hs env ti mi) (hg : LGt hs (wipeE env vs) g u ext) (he : ∀ a, LE hs (ext a) te (f a)) : LE hs env (dLc false vs ti g dYes te) (bnd mi fun xs => req (xs.length ≤ sizeLine) (bnd (noX (mapU u f xs)) fun ys => ret (.lst ys))) := fun B σ G W E Q R w hw k hm =>
  hi B σ G W E _ _ w hw (fun xs r => ⟨r.1, comp_map hg he xs B _ G _ _ (w.wipe' vs) (fun ys ry => k _ ry) r.2⟩) hm
theorem le_lcf (hi : LI hs env ti mi) (hg : LGt hs (wipeE env vs) g u ext) (ht : ∀ a, LT hs (ext a) tt (p a)) (he : ∀ a, LE hs (ext a) te (f a)) : LE hs env (dLc false vs ti g tt te) (bnd mi fun xs => req (xs.length ≤ sizeLine) (bnd (noX (filU u p f xs)) fun ys => ret (.lst ys))) := fun B σ G W E Q R w hw k hm =>
  hi B σ G W E _ _ w hw (fun xs r => ⟨r.1, comp_fil hg ht he xs B _ G _ _ (w.wipe' vs) (fun ys ry => k _ ry) r.2⟩) hm
theorem ln_lc (hi : LI hs env ti mi) (hg : LGt hs (wipeE env vs) g u ext) (he : ∀ a, LE hs (ext a) te (f a)) : LN hs env (dLc true vs ti g dYes te) (bnd mi fun xs => req (xs.length ≤ sizeLine) (noX (mapU u f xs))) := fun B σ G W E Q R w hw k hm =>
  hi B σ G W E _ _ w hw (fun xs r => ⟨r.1, comp_map hg he xs B _ G _ _ (w.wipe' vs) (fun ys ry p np => k _ ry p np) r.2⟩) hm
theorem ln_lcf (hi : LI hs env ti mi) (hg : LGt hs (wipeE env vs) g u ext) (ht : ∀ a, LT hs (ext a) tt (p a)) (he : ∀ a, LE hs (ext a) te (f a)) : LN hs env (dLc true vs ti g tt te) (bnd mi fun xs => req (xs.length ≤ sizeLine) (noX (filU u p f xs))) := fun B σ G W E Q R w hw k hm =>
  hi B σ G W E _ _ w hw (fun xs r => ⟨r.1, comp_fil hg ht he xs B _ G _ _ (w.wipe' vs) (fun ys ry p np => k _ ry p np) r.2⟩) hm
/-! two clauses -/
variable {ti1 : DTI} {mi1 : α → M (List D)} {ext1 : α → β → Nm} {f1 : α → β → M D} {vs1 : List Nat} {tt1 : DTT} {q1 : α → β → M Bool}
theorem in_map {env1 : Nm} {ext' : β → Nm} {f' : β → M D} {q' : β → M Bool} (hg : LGt hs env1 g1 v ext') (ht : ∀ a, LT hs (ext' a) tt (q' a)) (he : ∀ a, LE hs (ext' a) te (f' a)) : ∀ (ys acc : List D) (B : DH) (σ : DSt) (G : DH) (Q : List D → DH → Prop) (R : List D → Prop), Rl hs B env1 σ G → (∀ zs, R zs → Q zs G) → lccI v q' f' ys acc (fun _ => False) R → dIn g1 tt te ys σ G acc Q
  | [], acc, B, σ, G, Q, R, w, k, hm => k _ hm
  | y :: ys, acc, B, σ, G, Q, R, w, k, hm => by
    refine hg B σ G W0 (fun _ => False) _ _ y w hm fun a σ' r w' => ?_
    refine ht a B σ' G W0 (fun _ => False) _ _ w' (fun _ h => h.elim) (fun b rb => ?_) r
    cases b with
    | true =>
      show (if true = true then te W0 σ' G fun y G5 => acc.length < sizeLine ∧ dIn g1 tt te ys σ G5 (acc ++ [y]) Q else dIn g1 tt te ys σ G acc Q)
      rw [if_pos rfl]
      refine he a B σ' G W0 (fun _ => False) _ _ w' (fun _ h => h.elim) (fun z rz => ?_) rb
      exact ⟨rz.1, in_map hg ht he ys _ B σ G _ _ w k rz.2⟩
    | false => exact iteF (in_map hg ht he ys _ B σ G _ _ w k rb)
theorem out_map (hg : LGt hs env g u ext) (ht : ∀ a, LT hs (ext a) tt (p a)) (hi1 : ∀ a, LI hs (ext a) ti1 (mi1 a)) (hg1 : ∀ a, LGt hs (wipeE (ext a) vs1) g1 v (ext1 a)) (ht1 : ∀ a b, LT hs (ext1 a b) tt1 (q1 a b)) (he : ∀ a b, LE hs (ext1 a b) te (f1 a b)) : ∀ (xs acc : List D) (B : DH) (σ : DSt) (G : DH) (Q : List D → DH → Prop) (R : List D → Prop), Rl hs B env σ G → (∀ zs, R zs → Q zs G) → lccU u p mi1 v q1 f1 xs acc (fun _ => False) R → dOut g tt ti1 g1 tt1 te vs1 xs σ G acc Q
  | [], acc, B, σ, G, Q, R, w, k, hm => k _ hm
  | x :: xs, acc, B, σ, G, Q, R, w, k, hm => by
    refine hg B σ G W0 (fun _ => False) _ _ x w hm fun a σ' r w' => ?_
    refine ht a B σ' G W0 (fun _ => False) _ _ w' (fun _ h => h.elim) (fun b rb => ?_) r
    cases b with
    | true =>
      show (if true = true then ti1 W0 σ' G fun ys G4 => dIn g1 tt1 te ys (dwipe σ' vs1) G4 acc fun acc' G5 => dOut g tt ti1 g1 tt1 te vs1 xs σ G5 acc' Q else dOut g tt ti1 g1 tt1 te vs1 xs σ G acc Q)
      rw [if_pos rfl]
      refine hi1 a B σ' G W0 (fun _ => False) _ _ w' (fun _ h => h.elim) (fun ys rys => ?_) rb
      exact in_map (hg1 a) (ht1 a) (he a) ys acc B _ G _ _ (w'.wipe' vs1) (fun acc' ra => out_map hg ht hi1 hg1 ht1 he xs acc' B σ G Q R w k ra) rys
    | false => exact iteF (out_map hg ht hi1 hg1 ht1 he xs acc B σ G Q R w k rb)
theorem le_lcc (hi : LI hs env ti mi) (hg : LGt hs (wipeE env vs) g u ext) (ht : ∀ a, LT hs (ext a) tt (p a)) (hi1 : ∀ a, LI hs (ext a) ti1 (mi1 a)) (hg1 : ∀ a, LGt hs (wipeE (ext a) vs1) g1 v (ext1 a)) (ht1 : ∀ a b, LT hs (ext1 a b) tt1 (q1 a b)) (he : ∀ a b, LE hs (ext1 a b) te (f1 a b)) :
    LE hs env (dLcc false vs vs1 ti g tt ti1 g1 tt1 te) (bnd mi fun xs => bnd (noX (lccU u p mi1 v q1 f1 xs [])) fun ys => ret (.lst ys)) := fun B σ G W E Q R w hw k hm =>
  hi B σ G W E _ _ w hw (fun xs r => out_map hg ht hi1 hg1 ht1 he xs [] B _ G _ _ (w.wipe' vs) (fun ys ry => k _ ry) r) hm
theorem ln_lcc (hi : LI hs env ti mi) (hg : LGt hs (wipeE env vs) g u ext) (ht : ∀ a, LT hs (ext a) tt (p a)) (hi1 : ∀ a, LI hs (ext a) ti1 (mi1 a)) (hg1 : ∀ a, LGt hs (wipeE (ext a) vs1) g1 v (ext1 a)) (ht1 : ∀ a b, LT hs (ext1 a b) tt1 (q1 a b)) (he : ∀ a b, LE hs (ext1 a b) te (f1 a b)) :
    LN hs env (dLcc true vs vs1 ti g tt ti1 g1 tt1 te) (bnd mi fun xs => noX (lccU u p mi1 v q1 f1 xs [])) := fun B σ G W E Q R w hw k hm =>
  hi B σ G W E _ _ w hw (fun xs r => out_map hg ht hi1 hg1 ht1 he xs [] B _ G _ _ (w.wipe' vs) (fun ys ry p np => k _ ry p np) r) hm
theorem lt_yes {env : Nm} : LT hs env dYes (ret true) := fun B σ G W E Q R w hw k hm => k _ hm
/-! new lists of our own -/
theorem ln_lst {ta : DTA} {ma : M (List D)} (h : LA hs env ta ma) : LN hs env (dLst true ta) (bnd ma fun xs => req (xs.length ≤ sizeLine) (ret xs)) := fun B σ G W E Q R w hw k hm =>
  h B σ G W E _ _ w hw (fun ds r => ⟨r.1, fun p np => k _ r.2 p np⟩) hm
theorem ln_lst_p {ta : DTA} {xs : List D} (h : LAP hs env ta xs) : LN hs env (dLst true ta) (req (xs.length ≤ sizeLine) (ret xs)) := ln_lst h
def isL {α : Type} (x : D) (k : List D → M α) : M α := match x with
  | .lst xs => k xs
  | _ => bad
theorem ln_op {q q0 : Q2} {ta tb : DTE} {ma mb : M D} (hq : New2 q q0) (h1 : LV hs env ta ma) (h2 : LV hs env tb mb) : LN hs env (dOp q ta tb) (bnd ma fun x => bnd mb fun y => fun _ R => q0 x y G0 fun d _ => ∃ xs, d = .lst xs ∧ R xs) := fun B σ G W E Q R w hw k hm =>
  h1 B σ G W E _ _ w hw (fun d r x vx => h2 B σ G W E _ _ w hw (fun d' r' y vy => hq G x y d d' Q R vx vy k r') r) hm
theorem ln_n {q q0 : QN} {ta : DTA} {ma : M (List D)} (hq : NewN q q0) (h1 : LAV hs env ta ma) : LN hs env (dN q ta) (bnd ma fun x => fun _ R => q0 x G0 fun d _ => ∃ xs, d = .lst xs ∧ R xs) := fun B σ G W E Q R w hw k hm =>
  h1 B σ G W E _ _ w hw (fun d r x vx => hq G x d Q R vx k r) hm
end
end FL

/-! E3: the rules look at the ledger through their arguments alone. -/
namespace FL
open PySem PySem.Spec L2 DL
def nolst : D → Bool
  | .lst _ => false
  | _ => true
theorem Vw.eq {G : DH} {x d : D} (h : Vw G x d) (n : nolst d = true) : x = d := by
  rcases h with h | ⟨p, xs, _, _, rfl⟩
  · exact h
  · cases n
theorem Vws.one {G : DH} {xs : List D} {d : D} (h : Vws G xs [d]) : ∃ x, xs = [x] ∧ Vw G x d := by
  cases h with
  | cons h1 h2 => cases h2; exact ⟨_, rfl, h1⟩
theorem Vws.two {G : DH} {xs : List D} {d e : D} (h : Vws G xs [d, e]) : ∃ x y, xs = [x, y] ∧ Vw G x d ∧ Vw G y e := by
  cases h with
  | cons h1 h2 => obtain ⟨y, rfl, h3⟩ := h2.one; exact ⟨_, y, rfl, h1, h3⟩
section
variable {G : DH} {x y d : D} {Q : DK} {a b : List D} {m : Bool}
theorem dlsh_kind (e : dlsh G x = some a) : x = .lst a ∨ ∃ p, x = .ref p := by
  cases x with
  | lst xs => left; unfold dlsh at e; cases e; rfl
  | ref p => exact .inr ⟨p, rfl⟩
  | _ => unfold dlsh at e; cases e
theorem qAdd_l (e1 : dlsh G x = some a) (e2 : dlsh G y = some b) (hz : a.length + b.length ≤ sizeLine) (q : mkL m (a ++ b) G Q) : qAdd m x y G Q := by
  have go : (match dlsh G x, dlsh G y with | some a, some b => a.length + b.length ≤ sizeLine ∧ mkL m (a ++ b) G Q | _, _ => False) := by rw [e1, e2]; exact ⟨hz, q⟩
  rcases dlsh_kind e1 with rfl | ⟨p, rfl⟩ <;> rcases dlsh_kind e2 with rfl | ⟨p2, rfl⟩ <;> exact go
theorem qMul_l {n : Int} (e1 : dlsh G x = some a) (hz : -(2 ^ 63) ≤ n ∧ n < 2 ^ 63 ∧ a.length * n.toNat ≤ sizeLine) (q : mkL m (List.replicate n.toNat a).flatten G Q) : qMul m x (.int n) G Q := by
  have go : (match dlsh G x with | some a => (-(2 ^ 63) ≤ n ∧ n < 2 ^ 63 ∧ a.length * n.toNat ≤ sizeLine) ∧ mkL m (List.replicate n.toNat a).flatten G Q | none => False) := by rw [e1]; exact ⟨hz, q⟩
  rcases dlsh_kind e1 with rfl | ⟨p, rfl⟩ <;> exact go
end
theorem opt2 {α : Type} {u v : Option (List α)} {P : List α → List α → Prop} (h : (match u, v with | some a, some b => P a b | _, _ => False)) : ∃ a b, u = some a ∧ v = some b ∧ P a b := by
  cases u with
  | none => exact h.elim
  | some a => cases v with
    | none => exact h.elim
    | some b => exact ⟨a, b, rfl, rfl, h⟩
theorem opt1 {α : Type} {u : Option α} {P : α → Prop} (h : (match u with | some a => P a | none => False)) : ∃ a, u = some a ∧ P a := by
  cases u with
  | none => exact h.elim
  | some a => exact ⟨a, rfl, h⟩
theorem loc_I0 (g : Int → Int → D) : Loc2 (qI0 g) := fun G x y x' y' Q R vx vy k h => by
  unfold qI0 at h ⊢
  split at h
  · rw [vx.eq rfl, vy.eq rfl]; exact k _ h
  · exact h.elim
theorem loc_I (C : Int → Int → Prop) (g : Int → Int → D) : Loc2 (qI C g) := fun G x y x' y' Q R vx vy k h => by
  unfold qI at h ⊢
  split at h
  · rw [vx.eq rfl, vy.eq rfl]; exact ⟨h.1, k _ h.2⟩
  · exact h.elim
theorem loc_add : Loc2 (qAdd false) := fun G x y x' y' Q R vx vy k h => by
  unfold qAdd at h
  split at h
  · rw [vx.eq rfl, vy.eq rfl]; exact k _ h
  · rw [vx.eq rfl, vy.eq rfl]; exact ⟨h.1, k _ h.2⟩
  · rw [vx.eq rfl, vy.eq rfl]; exact ⟨h.1, k _ h.2⟩
  · split at h
    rotate_left
    · exact h.elim
    rename_i a b e1 e2
    obtain ⟨hz, r⟩ := h
    exact qAdd_l (vx.dlsh e1) (vy.dlsh e2) hz (k _ r)
theorem new_add : New2 (qAdd true) (qAdd false) := fun G x y x' y' Q R vx vy k h => by
  unfold qAdd at h
  split at h
  · obtain ⟨_, e, _⟩ := h; cases e
  · obtain ⟨_, _, e, _⟩ := h; cases e
  · obtain ⟨_, _, e, _⟩ := h; cases e
  · split at h
    rotate_left
    · exact h.elim
    rename_i a b e1 e2
    obtain ⟨hz, xs, e, r⟩ := h
    cases e
    exact qAdd_l (vx.dlsh e1) (vy.dlsh e2) hz fun p np => k _ r p np
theorem loc_mul : Loc2 (qMul false) := fun G x y x' y' Q R vx vy k h => by
  unfold qMul at h
  split at h
  · rw [vx.eq rfl, vy.eq rfl]; exact ⟨h.1, k _ h.2⟩
  · rw [vx.eq rfl, vy.eq rfl]; exact ⟨h.1, k _ h.2⟩
  · split at h
    rotate_left
    · exact h.elim
    rename_i a e1
    obtain ⟨hz, r⟩ := h
    rw [vy.eq rfl]
    exact qMul_l (vx.dlsh e1) hz (k _ r)
  · exact h.elim
theorem new_mul : New2 (qMul true) (qMul false) := fun G x y x' y' Q R vx vy k h => by
  unfold qMul at h
  split at h
  · obtain ⟨_, _, e, _⟩ := h; cases e
  · obtain ⟨_, _, e, _⟩ := h; cases e
  · split at h
    rotate_left
    · exact h.elim
    rename_i a e1
    obtain ⟨hz, xs, e, r⟩ := h
    cases e
    rw [vy.eq rfl]
    exact qMul_l (vx.dlsh e1) hz fun p np => k _ r p np
  · exact h.elim
theorem view_eq {G : DH} {x d : D} (v : Vw G x d) (n : noRef (dview G0 d) = true) : dview G x = dview G0 d := by
  rcases v with rfl | ⟨p, xs, rfl, h1, rfl⟩
  · cases x with
    | ref a => exfalso; have : dview G0 (.ref a) = .ref a := rfl; rw [this] at n; cases n
    | _ => rfl
  · show (match G p with | some (.lst xs) => D.lst xs | _ => .ref p) = _
    rw [h1]; rfl
theorem loc_eq (neg : Bool) : Loc2 (qEq neg) := fun G x y x' y' Q R vx vy k h => by
  unfold qEq at h
  split at h
  · rw [vx.eq rfl, vy.eq rfl]; exact k _ h
  · rw [vx.eq rfl, vy.eq rfl]; exact k _ h
  · rw [vx.eq rfl, vy.eq rfl]; exact k _ h
  · rename_i n1 n2 n3
    obtain ⟨h1, h2, h3⟩ := h
    have e1 := view_eq vx h1.1
    have e2 := view_eq vy h2.1
    have go : eqOk (dview G x) ∧ eqOk (dview G y) ∧ Q (.bl (if neg then !deq (dview G x) (dview G y) else deq (dview G x) (dview G y))) G := by
      rw [e1, e2]; exact ⟨h1, h2, k _ h3⟩
    cases x with
    | int i => cases y with
      | int j => exact (n1 i j ((Vw.eq (G := G) (x := x') (d := .int i) (by rcases vx with h | ⟨_, _, h, _⟩; exact .inl h.symm; cases h) rfl)) ((by rcases vy with h | ⟨_, _, h, _⟩; exact h.symm; cases h))).elim
      | _ => exact go
    | str i => cases y with
      | str j => exact (n2 i j (by rcases vx with h | ⟨_, _, h, _⟩; exact h.symm; cases h) (by rcases vy with h | ⟨_, _, h, _⟩; exact h.symm; cases h)).elim
      | _ => exact go
    | bl i => cases y with
      | bl j => exact (n3 i j (by rcases vx with h | ⟨_, _, h, _⟩; exact h.symm; cases h) (by rcases vy with h | ⟨_, _, h, _⟩; exact h.symm; cases h)).elim
      | _ => exact go
    | _ => exact go
theorem loc_lt : Loc2 qLt := fun G x y x' y' Q R vx vy k h => by
  unfold qLt at h
  split at h
  · rw [vx.eq rfl, vy.eq rfl]; exact k _ h
  · rw [vx.eq rfl, vy.eq rfl]; exact k _ h
  · exact h.elim
theorem isNon_view {G : DH} {x d : D} (v : Vw G x d) : isNon x = isNon d := by
  rcases v with rfl | ⟨p, xs, rfl, h1, rfl⟩
  · rfl
  · rfl
theorem loc_isN (neg : Bool) : Loc2 (qIsN neg) := fun G x y x' y' Q R vx vy k h => by
  unfold qIsN at h
  split at h
  · rw [vy.eq rfl]
    show Q (.bl (if neg then !isNon x else isNon x)) G
    rw [isNon_view vx]; exact k _ h
  · exact h.elim
theorem loc_isB (neg : Bool) : Loc2 (qIsB neg) := fun G x y x' y' Q R vx vy k h => by
  unfold qIsB at h
  split at h
  · rw [vx.eq rfl, vy.eq rfl]; exact k _ h
  · exact h.elim
theorem dseq_kind {G : DH} {y : D} {ys : List D} (e : dseq G y = some ys) : (∃ z, y = .tup z) ∨ (∃ z, y = .lst z) ∨ (∃ z, y = .scr z) ∨ ∃ z, y = .ref z := by
  cases y with
  | tup z => exact .inl ⟨z, rfl⟩
  | lst z => exact .inr (.inl ⟨z, rfl⟩)
  | scr z => exact .inr (.inr (.inl ⟨z, rfl⟩))
  | ref z => exact .inr (.inr (.inr ⟨z, rfl⟩))
  | _ => unfold dseq dlst at e; cases e
theorem qIn_s {G : DH} {x y : D} {ys : List D} {neg : Bool} {Q : DK} (e : dseq G y = some ys) (f : flatD x = true ∧ ys.all flatD = true) (q : Q (.bl (if neg then !(ys.any fun z => eqF z x) else ys.any fun z => eqF z x)) G) : qIn neg x y G Q := by
  have go : (match dseq G y with
    | some ys => (flatD x = true ∧ ys.all flatD = true) ∧ Q (.bl (if neg then !(ys.any fun z => eqF z x) else ys.any fun z => eqF z x)) G
    | none => False) := by rw [e]; exact ⟨f, q⟩
  rcases dseq_kind e with ⟨z, rfl⟩ | ⟨z, rfl⟩ | ⟨z, rfl⟩ | ⟨z, rfl⟩ <;> cases x <;> exact go
theorem loc_in (neg : Bool) : Loc2 (qIn neg) := fun G x y x' y' Q R vx vy k h => by
  unfold qIn at h
  split at h
  · rename_i a z
    rw [vx.eq rfl, vy.eq rfl]
    show (match a.cps.toList with | [c] => Q (.bl (if neg then !decide (c ∈ z.cps.toList) else decide (c ∈ z.cps.toList))) G | _ => False)
    split at h
    · rename_i c hc; first | exact k _ h | (simp only [hc]; exact k _ h)
    · exact h.elim
  · split at h
    rotate_left
    · exact h.elim
    rename_i ys e1
    obtain ⟨f, r⟩ := h
    have ex : x = x' := by
      rcases vx with h | ⟨p, xs, _, _, rfl⟩
      · exact h
      · cases f.1
    rw [ex]
    exact qIn_s (vy.dseq e1) f (k _ r)
theorem qIx_s {G : DH} {x d : D} {xs : List D} {i : Int} {Q : DK} (e : dseq G x = some xs) (e2 : L2.atI xs i = some d) (q : Q d G) : qIx x (.int i) G Q := ix_seq' e e2 q
theorem loc_ix : Loc2 qIx := fun G x y x' y' Q R vx vy k h => by
  unfold qIx at h
  split at h
  · rename_i z i
    rw [vx.eq rfl, vy.eq rfl]
    obtain ⟨h1, h2⟩ := h
    split at h2
    rotate_left
    · exact h2.elim
    rename_i c e
    have r := h2
    refine ⟨h1, ?_⟩
    rw [e]; exact k _ r
  · rename_i i hn
    rw [vy.eq rfl]
    split at h
    rotate_left
    · exact h.elim
    rename_i xs e
    have h2 := h
    split at h2
    rotate_left
    · exact h2.elim
    rename_i c e2
    have r := h2
    exact qIx_s (vx.dseq e) e2 (k _ r)
  · exact h.elim
theorem qSl_l {G : DH} {x : D} {xs : List D} {lo hi : Option Int} {m : Bool} {Q : DK} (e : dlst G x = some xs) (q : mkL m (cutL xs lo hi) G Q) : qSl m x lo hi G Q := by
  have go : (match dlst G x with | some xs => mkL m (cutL xs lo hi) G Q | none => False) := by rw [e]; exact q
  cases x with
  | lst z => exact go
  | scr z => exact go
  | ref z => exact go
  | _ => unfold dlst at e; cases e
theorem loc_sl : LocS (qSl false) := fun G x d l h Q R v k hm => by
  unfold qSl at hm
  split at hm
  · rw [v.eq rfl]; exact ⟨hm.1, k _ hm.2⟩
  · rw [v.eq rfl]; exact k _ hm
  · split at hm
    rotate_left
    · exact hm.elim
    rename_i xs e
    have r := hm
    exact qSl_l (v.dlst e) (k _ r)
theorem loc_neg : Loc1 qNeg := fun G x d Q R v k h => by
  unfold qNeg at h
  split at h
  · rw [v.eq rfl]; exact k _ h
  · exact h.elim
theorem len_s {G : DH} {x : D} {xs : List D} {Q : DK} (e : dseq G x = some xs) (q : Q (.int xs.length) G) : qLen [x] G Q := len_seq e q
theorem loc_len : LocN qLen := fun G xs ds Q R v k h => by
  unfold qLen at h
  split at h
  · obtain ⟨x, rfl, vx⟩ := v.one
    rw [vx.eq rfl]; exact ⟨h.1, k _ h.2⟩
  · obtain ⟨x, rfl, vx⟩ := v.one
    split at h
    rotate_left
    · exact h.elim
    rename_i ys e
    have r := h
    exact len_s (vx.dseq e) (k _ r)
  · exact h.elim
theorem loc_tuple : LocN qTuple := fun G xs ds Q R v k h => by
  unfold qTuple at h
  split at h
  · obtain ⟨x, rfl, vx⟩ := v.one
    split at h
    rotate_left
    · exact h.elim
    rename_i ys e
    have r := h
    show (match dseq G x with | some xs => Q (.tup xs) G | none => False)
    rw [vx.dseq e]; exact k _ r
  · exact h.elim
theorem loc_list : LocN (qList false) := fun G xs ds Q R v k h => by
  unfold qList at h
  split at h
  · obtain ⟨x, rfl, vx⟩ := v.one
    split at h
    rotate_left
    · exact h.elim
    rename_i ys e
    have r := h
    show (match dseq G x with | some xs => mkL false xs G Q | none => False)
    rw [vx.dseq e]; exact k _ r
  · exact h.elim
theorem new_list : NewN (qList true) (qList false) := fun G xs ds Q R v k h => by
  unfold qList at h
  split at h
  · obtain ⟨x, rfl, vx⟩ := v.one
    split at h
    rotate_left
    · exact h.elim
    rename_i ys e
    obtain ⟨zs, e2, r⟩ := h
    cases e2
    show (match dseq G x with | some xs => mkL true xs G Q | none => False)
    rw [vx.dseq e]; exact fun p np => k _ r p np
  · exact h.elim
theorem loc_sum : LocN qSum := fun G xs ds Q R v k h => by
  unfold qSum at h
  split at h
  · obtain ⟨x, rfl, vx⟩ := v.one
    split at h
    rotate_left
    · exact h.elim
    rename_i ns e
    have r := h
    show (match (dseq G x).bind intsOf with | some ns => Q (.int ns.sum) G | none => False)
    obtain ⟨ys, e1, e2⟩ := Option.bind_eq_some_iff.mp e
    rw [vx.dseq e1, Option.bind_some, e2]; exact k _ r
  · exact h.elim
theorem loc_all : LocN qAll := fun G xs ds Q R v k h => by
  unfold qAll at h
  split at h
  · obtain ⟨x, rfl, vx⟩ := v.one
    split at h
    rotate_left
    · exact h.elim
    rename_i ns e
    have r := h
    show (match (dlst G x).bind blsOf with | some ns => Q (.bl (ns.all id)) G | none => False)
    obtain ⟨ys, e1, e2⟩ := Option.bind_eq_some_iff.mp e
    rw [vx.dlst e1, Option.bind_some, e2]; exact k _ r
  · exact h.elim
theorem loc_any : LocN qAny := fun G xs ds Q R v k h => by
  unfold qAny at h
  split at h
  · obtain ⟨x, rfl, vx⟩ := v.one
    split at h
    rotate_left
    · exact h.elim
    rename_i ns e
    have r := h
    show (match (dlst G x).bind blsOf with | some ns => Q (.bl (ns.any id)) G | none => False)
    obtain ⟨ys, e1, e2⟩ := Option.bind_eq_some_iff.mp e
    rw [vx.dlst e1, Option.bind_some, e2]; exact k _ r
  · exact h.elim
theorem loc_sorted : LocN (qSorted false) := fun G xs ds Q R v k h => by
  unfold qSorted at h
  split at h
  · obtain ⟨x, rfl, vx⟩ := v.one
    split at h
    rotate_left
    · exact h.elim
    rename_i ns e
    have r := h
    show (match (dlst G x).bind intsOf with | some ns => mkL false ((isort ns).map D.int) G Q | none => False)
    obtain ⟨ys, e1, e2⟩ := Option.bind_eq_some_iff.mp e
    rw [vx.dlst e1, Option.bind_some, e2]; exact k _ r
  · exact h.elim
theorem loc_sortedS : LocN (qSortedS false) := fun G xs ds Q R v k h => by
  unfold qSortedS at h
  split at h
  · obtain ⟨x, rfl, vx⟩ := v.one
    split at h
    rotate_left
    · exact h.elim
    rename_i ns e
    have r := h
    show (match (dlst G x).bind strsOf with | some ns => ns.length < 64 ∧ ∀ ys : List Str, ys.Perm ns → PyProof.Rows.sortedS ys = true → mkL false (ys.map D.str) G Q | none => False)
    obtain ⟨ys, e1, e2⟩ := Option.bind_eq_some_iff.mp e
    rw [vx.dlst e1, Option.bind_some, e2]; exact ⟨r.1, fun zs hp hs => k _ (r.2 zs hp hs)⟩
  · exact h.elim
theorem loc_int : LocN qInt := fun G xs ds Q R v k h => by
  unfold qInt at h
  split at h
  · obtain ⟨x, rfl, vx⟩ := v.one; rw [vx.eq rfl]; exact k _ h
  · obtain ⟨x, rfl, vx⟩ := v.one; rw [vx.eq rfl]; exact k _ h
  · rename_i a
    obtain ⟨x, rfl, vx⟩ := v.one; rw [vx.eq rfl]
    split at h
    rotate_left
    · exact h.elim
    rename_i n e
    obtain ⟨h1, r⟩ := h
    show (match PySem.intText? a with | some n => a.length ≤ 640 ∧ Q (.int n) G | none => False)
    rw [e]; exact ⟨h1, k _ r⟩
  · exact h.elim
theorem loc_str : LocN qStr := fun G xs ds Q R v k h => by
  unfold qStr at h
  split at h
  · obtain ⟨x, rfl, vx⟩ := v.one; rw [vx.eq rfl]; exact ⟨h.1, k _ h.2⟩
  · exact h.elim
theorem loc_abs : LocN qAbs := fun G xs ds Q R v k h => by
  unfold qAbs at h
  split at h
  · obtain ⟨x, rfl, vx⟩ := v.one; rw [vx.eq rfl]; exact k _ h
  · exact h.elim
theorem loc_max2 : LocN qMax2 := fun G xs ds Q R v k h => by
  unfold qMax2 at h
  split at h
  · obtain ⟨x, y, rfl, vx, vy⟩ := v.two; rw [vx.eq rfl, vy.eq rfl]; exact k _ h
  · exact h.elim
theorem loc_min2 : LocN qMin2 := fun G xs ds Q R v k h => by
  unfold qMin2 at h
  split at h
  · obtain ⟨x, y, rfl, vx, vy⟩ := v.two; rw [vx.eq rfl, vy.eq rfl]; exact k _ h
  · exact h.elim
theorem isTy_view {G : DH} {x d : D} (v : Vw G x d) {T : String} {b : Bool} (h : isTy G0 d T = some b) : isTy G x T = some b := by
  rcases v with rfl | ⟨p, xs, rfl, h1, rfl⟩
  · cases x with
    | ref a => unfold isTy tyD at h; cases h
    | _ => exact h
  · unfold isTy tyD at h ⊢
    simp [h1]
    exact h
theorem loc_isi : LocN qIsi := fun G xs ds Q R v k h => by
  unfold qIsi at h
  split at h
  · rename_i x' T
    obtain ⟨x, y, rfl, vx, vy⟩ := v.two
    rw [vy.eq rfl]
    split at h
    rotate_left
    · exact h.elim
    rename_i b e
    have r := h
    show (match isTy G x T with | some b => Q (.bl b) G | none => False)
    rw [isTy_view vx e]; exact k _ r
  · exact h.elim
theorem loc_join : LocM qJoin := fun G x d xs ds Q R v vs k h => by
  unfold qJoin at h
  split at h
  · rename_i a y'
    obtain ⟨y, rfl, vy⟩ := vs.one
    rw [v.eq rfl]
    split at h
    rotate_left
    · exact h.elim
    rename_i ys e
    obtain ⟨h1, r⟩ := h
    obtain ⟨zs, e1, e2⟩ := Option.bind_eq_some_iff.mp e
    show (match (dseq G y).bind strsOf with | some ys => (ys.map (·.length)).sum + ys.length * a.length ≤ 16777216 ∧ Q (.str (Txt.join a ys)) G | none => False)
    rw [vy.dseq e1, Option.bind_some, e2]; exact ⟨h1, k _ r⟩
  · exact h.elim
end FL

/-! E4: statements as functions: what follows is a function of what is known. -/
namespace FL
open PySem PySem.Spec L2 DL
abbrev Cn (ρ : Type) := Nm → M ρ → Prop
def cNo {ρ : Type} : Cn ρ := fun _ _ => False
/-- at T s goes on k s -/
def cT {ρ τ : Type} (T : τ → Nm) (k : τ → M ρ) : Cn ρ := fun e m => ∃ s, e = T s ∧ m = k s
def c1 {ρ : Type} (e0 : Nm) (m0 : M ρ) : Cn ρ := fun e m => e = e0 ∧ m = m0
/-- ts does what m wishes; X: what is known wherever an error starts -/
def LS {ρ : Type} (hs : List Addr) (X : Nm) (rt : D → ρ) (env : Nm) (ts : DTS) (m : M ρ) (N Bk Ct : Cn ρ) : Prop :=
  XLe X env → ∀ (B : DH) (σ : DSt) (G : DH) (W : DX) (Dn : DEnds) (E : Exc → Prop) (R : ρ → Prop), Rl hs B env σ G →
    (∀ x σ' G', Rx hs B X σ' G' → E x → W x σ' G') →
    (∀ e m' σ' G', N e m' → Rl hs B e σ' G' → m' E R → Dn.nx σ' G') → (∀ e m' σ' G', Bk e m' → Rl hs B e σ' G' → m' E R → Dn.bk σ' G') → (∀ e m' σ' G', Ct e m' → Rl hs B e σ' G' → m' E R → Dn.ct σ' G') →
    (∀ d G', (∀ a o, B a = some o → G' a = some o) → R (rt d) → Dn.rt d G') → m E R → ts W Dn σ G
section
variable {ρ τ : Type} {hs : List Addr} {X : Nm} {rt : D → ρ} {env e : Nm} {a b rest : DTS} {m : M ρ} {N N1 Bk Ct : Cn ρ} {te : DTE} {mE : M D} {tt : DTT} {mT : M Bool} {d : D}
theorem ls_one (h : LS hs X rt env (dSeq a dNext) m N Bk Ct) : LS hs X rt env a m N Bk Ct := h
theorem ls_nx (h : N env m) : LS hs X rt env dNext m N Bk Ct := fun _ B σ G W Dn E R w hw hn hb hc hr hm => hn env m σ G h w hm
theorem ls_nxw (le : NmLe e env) (hl : e.length = env.length) (h : N e m) : LS hs X rt env dNext m N Bk Ct := fun _ B σ G W Dn E R w hw hn hb hc hr hm => hn e m σ G h (w.le le hl) hm
theorem ls_bk (le : NmLe e env) (hl : e.length = env.length) (h : Bk e m) : LS hs X rt env dBreak m N Bk Ct := fun _ B σ G W Dn E R w hw hn hb hc hr hm => hb e m σ G h (w.le le hl) hm
theorem ls_ct (le : NmLe e env) (hl : e.length = env.length) (h : Ct e m) : LS hs X rt env dCont m N Bk Ct := fun _ B σ G W Dn E R w hw hn hb hc hr hm => hc e m σ G h (w.le le hl) hm
theorem exOf {hs : List Addr} {B G : DH} {X env : Nm} {σ : DSt} {W : DX} {E : Exc → Prop} (le : XLe X env) (w : Rl hs B env σ G) (hw : ∀ x σ' G', Rx hs B X σ' G' → E x → W x σ' G') : ∀ x, E x → W x σ G := fun x ex => hw x σ G (w.x le) ex
theorem ls_drop (h : LE hs env te mE) (hr : LS hs X rt env rest m N Bk Ct) : LS hs X rt env (dSeq (dDrop te) rest) (bnd mE fun _ => m) N Bk Ct := fun le B σ G W Dn E R w hw hn hb hc hrt hm =>
  h B σ G W E _ _ w (exOf le w hw) (fun d r => hr le B σ G W Dn E R w hw hn hb hc hrt r) hm
theorem ls_ret (h : LE hs env te mE) : LS hs X rt env (dRet te) (bnd mE fun d => ret (rt d)) N Bk Ct := fun le B σ G W Dn E R w hw hn hb hc hrt hm =>
  h B σ G W E _ _ w (exOf le w hw) (fun d r => hrt d G w.inc r) hm
theorem ls_ret_p (h : LP hs env te d) : LS hs X rt env (dRet te) (ret (rt d)) N Bk Ct := ls_ret h
theorem ls_retN : LS hs X rt env dRetN (ret (rt .non)) N Bk Ct := fun le B σ G W Dn E R w hw hn hb hc hrt hm => hrt .non G w.inc hm
theorem ls_raise0 {C : Addr} : LS hs X rt env (dRaise (dMk0 C)) (thr ⟨C, []⟩) N Bk Ct := fun le B σ G W Dn E R w hw hn hb hc hrt hm => exOf le w hw _ hm
def thr1 {α : Type} (C : Addr) (f : Str) (xs : List D) : M α := match xs with
  | [y] => thr ⟨C, [(f, y)]⟩
  | _ => bad
theorem ls_raise1 {C : Addr} {f : Str} {ta : DTA} {ma : M (List D)} (h : LA hs env ta ma) : LS hs X rt env (dRaise (dMk1 C f ta)) (bnd ma (thr1 C f)) N Bk Ct := fun le B σ G W Dn E R w hw hn hb hc hrt hm =>
  h B σ G W E _ _ w (exOf le w hw) (fun ds r => by
    match ds, r with
    | [y], r => exact exOf le w hw _ r
    | [], r => exact r.elim
    | _ :: _ :: _, r => exact r.elim) hm
theorem ls_raise1_p {C : Addr} {f : Str} {ta : DTA} {xs : List D} (h : LAP hs env ta xs) : LS hs X rt env (dRaise (dMk1 C f ta)) (thr1 C f xs) N Bk Ct := ls_raise1 h
/-! both ways end where the rest begins, or nowhere -/
theorem ls_if {ma mb : M ρ} (ht : LT hs env tt mT) (h1 : LS hs X rt env a ma N Bk Ct) (h2 : LS hs X rt env b mb N Bk Ct) : LS hs X rt env (dIfS tt a b) (bnd mT fun c => if c = true then ma else mb) N Bk Ct := fun le B σ G W Dn E R w hw hn hb hc hrt hm =>
  ht B σ G W E _ _ w (exOf le w hw) (fun c r => by
    cases c with
    | true => exact h1 le B σ G W Dn E R w hw hn hb hc hrt r
    | false => exact h2 le B σ G W Dn E R w hw hn hb hc hrt r) hm
/-- a, then rest -/
theorem ls_seq (h1 : LS hs X rt env a m N1 Bk Ct) (h2 : ∀ e m', N1 e m' → XLe X e ∧ LS hs X rt e rest m' N Bk Ct) : LS hs X rt env (dSeq a rest) m N Bk Ct := fun le B σ G W Dn E R w hw hn hb hc hrt hm =>
  h1 le B σ G W { nx := rest W Dn, rt := Dn.rt, bk := Dn.bk, ct := Dn.ct } E R w hw (fun e m' σ' G' q w' hm' => (h2 e m' q).2 (h2 e m' q).1 B σ' G' W Dn E R w' hw hn hb hc hrt hm') hb hc hrt hm
theorem ls_seq1 {m1 : M ρ} (h1 : LS hs X rt env a m (c1 e m1) Bk Ct) (le : XLe X e) (h2 : LS hs X rt e rest m1 N Bk Ct) : LS hs X rt env (dSeq a rest) m N Bk Ct := ls_seq h1 fun e' m' q => by obtain ⟨rfl, rfl⟩ := q; exact ⟨le, h2⟩
theorem ls_seq0 (h1 : LS hs X rt env a m cNo Bk Ct) : LS hs X rt env (dSeq a rest) m N Bk Ct := ls_seq h1 fun e' m' q => q.elim
theorem ls_seqT {T : τ → Nm} {k : τ → M ρ} (h1 : LS hs X rt env a m (cT T k) Bk Ct) (le : ∀ s, XLe X (T s)) (h2 : ∀ s, LS hs X rt (T s) rest (k s) N Bk Ct) : LS hs X rt env (dSeq a rest) m N Bk Ct := ls_seq h1 fun e' m' q => by obtain ⟨s, rfl, rfl⟩ := q; exact ⟨le s, h2 s⟩
/-- a named rest -/
def jn {κ : Type} (k : κ) (f : κ → M ρ) : M ρ := f k
theorem ls_jn {κ : Type} {k : κ} {f : κ → M ρ} (h : LS hs X rt env a (f k) N Bk Ct) : LS hs X rt env a (jn k f) N Bk Ct := h
end
section
variable {ρ τ : Type} {hs : List Addr} {rt : D → ρ} {env e : Nm} {a b rest tb : DTS} {m : M ρ} {N N1 Bk Ct : Cn ρ} {te ti : DTE} {mE mI : M D} {tt : DTT} {mT : M Bool} {d d2 : D} {i j : Nat} {xs : List D} {k : D → M ρ} {kL : List D → M ρ} {mL : M (List D)}
theorem ls_set (h : LE hs env te mE) (hr : ∀ d, LS hs [] rt (env.set i (.val d)) rest (k d) N Bk Ct) : LS hs [] rt env (dSeq (dAsg te (gSet i)) rest) (bnd mE k) N Bk Ct := fun le B σ G W Dn E R w hw hn hb hc hrt hm =>
  h B σ G W E _ _ w (exOf le w hw) (fun d r => hr d .nil B _ G W Dn E R (w.setVal i d) hw hn hb hc hrt r) hm
theorem ls_set_p (h : LP hs env te d) (hr : LS hs [] rt (env.set i (.val d)) rest m N Bk Ct) : LS hs [] rt env (dSeq (dAsg te (gSet i)) rest) m N Bk Ct := fun le B σ G W Dn E R w hw hn hb hc hrt hm =>
  h B σ G W E _ (fun d' => d' = d) w (exOf le w hw) (fun d' r => by subst r; exact hr .nil B _ G W Dn E R (w.setVal i d') hw hn hb hc hrt hm) rfl
theorem ls_new (h : LN hs env te mL) (hr : ∀ xs, LS hs [] rt (env.set i (.own xs)) rest (kL xs) N Bk Ct) : LS hs [] rt env (dSeq (dAsg te (gSet i)) rest) (bnd mL kL) N Bk Ct := fun le B σ G W Dn E R w hw hn hb hc hrt hm =>
  h B σ G W E _ _ w (exOf le w hw) (fun xs r p np => hr xs .nil B _ _ W Dn E R (w.setOwn i np) hw hn hb hc hrt r) hm
theorem ls_tgt {α : Type} {g : DTG} {u : D → M α} {ext : α → Nm} {kk : α → M ρ} (h : LE hs env te mE) (hg : LGt hs env g u ext) (hr : ∀ x, LS hs [] rt (ext x) rest (kk x) N Bk Ct) : LS hs [] rt env (dSeq (dAsg te g) rest) (bnd mE fun d => bnd (u d) kk) N Bk Ct := fun le B σ G W Dn E R w hw hn hb hc hrt hm =>
  h B σ G W E _ _ w (exOf le w hw) (fun d r => hg B σ G W E _ _ d w r fun x σ' r' w' => hr x .nil B σ' G W Dn E R w' hw hn hb hc hrt r') hm
theorem ls_par {ta tb' : DTE} {ma mb : M D} {kk : D → D → M ρ} (h1 : LE hs env ta ma) (h2 : LE hs env tb' mb) (hr : ∀ x y, LS hs [] rt ((env.set i (.val x)).set j (.val y)) rest (kk x y) N Bk Ct) : LS hs [] rt env (dSeq (dPar i j (dCons ta (dCons tb' dNil))) rest) (bnd ma fun x => bnd mb fun y => kk x y) N Bk Ct := fun le B σ G W Dn E R w hw hn hb hc hrt hm =>
  h1 B σ G W E _ _ w (exOf le w hw) (fun d r => h2 B σ G W E _ _ w (exOf le w hw) (fun d2 r2 => hr d d2 .nil B _ G W Dn E R ((w.setVal i d).setVal j d2) hw hn hb hc hrt r2) r) hm
theorem ls_aug {q : Q2} (hq : Loc2 q) (hi : env[i]? = some (.val d)) (h : LV hs env te mE) (hr : ∀ z, LS hs [] rt (env.set i (.val z)) rest (k z) N Bk Ct) : LS hs [] rt env (dSeq (dAug i te q) rest) (bnd mE fun y => bnd (op q d y) k) N Bk Ct := fun le B σ G W Dn E R w hw hn hb hc hrt hm =>
  ⟨d, w.val i d hi, h B σ G W E _ _ w (exOf le w hw) (fun y r x vx => hq G d x d y _ _ .rfl' vx (fun z rz => hr z .nil B _ G W Dn E R (w.setVal i z) hw hn hb hc hrt rz) r) hm⟩
/-- xs.append(x) -/
theorem ls_append (hi : env[i]? = some (.own xs)) (h : LE hs env te mE) (hr : ∀ d, LS hs [] rt (env.set i (.own (xs ++ [d]))) rest (kL (xs ++ [d])) N Bk Ct) : LS hs [] rt env (dSeq (dDrop (dM "list" qAppend (dVar i) (dCons te dNil))) rest) (bnd mE fun d => req (xs.length < sizeLine) (kL (xs ++ [d]))) N Bk Ct := fun le B σ G W Dn E R w hw hn hb hc hrt hm => by
  obtain ⟨p, h1, h2, h3⟩ := w.own i xs hi
  refine ⟨.ref p, h1, by unfold tyM; simp [h2], ?_⟩
  refine h B σ G W E _ _ w (exOf le w hw) (fun d r => ?_) hm
  show (match G p with | some (.lst xs) => xs.length < sizeLine ∧ rest W Dn σ (dupd G p (.lst (xs ++ [d]))) | _ => False)
  rw [h2]
  exact ⟨r.1, hr d .nil B σ _ W Dn E R (w.putOwn hi h1 _) hw hn hb hc hrt r.2⟩
theorem ls_append_p (hi : env[i]? = some (.own xs)) (h : LP hs env te d) (hr : LS hs [] rt (env.set i (.own (xs ++ [d]))) rest m N Bk Ct) : LS hs [] rt env (dSeq (dDrop (dM "list" qAppend (dVar i) (dCons te dNil))) rest) (req (xs.length < sizeLine) m) N Bk Ct := fun le B σ G W Dn E R w hw hn hb hc hrt hm => by
  obtain ⟨p, h1, h2, h3⟩ := w.own i xs hi
  refine ⟨.ref p, h1, by unfold tyM; simp [h2], ?_⟩
  refine h B σ G W E _ (fun d' => d' = d) w (exOf le w hw) (fun d' r => ?_) rfl
  subst r
  show (match G p with | some (.lst xs) => xs.length < sizeLine ∧ rest W Dn σ (dupd G p (.lst (xs ++ [d']))) | _ => False)
  rw [h2]
  exact ⟨hm.1, hr .nil B σ _ W Dn E R (w.putOwn hi h1 _) hw hn hb hc hrt hm.2⟩
theorem ls_extend (hi : env[i]? = some (.own xs)) (h : LE hs env te mE) (hr : ∀ ys, LS hs [] rt (env.set i (.own (xs ++ ys))) rest (kL (xs ++ ys)) N Bk Ct) : LS hs [] rt env (dSeq (dDrop (dM "list" qExtend (dVar i) (dCons te dNil))) rest) (bnd mE fun d => isL d fun ys => req (xs.length + ys.length ≤ sizeLine) (kL (xs ++ ys))) N Bk Ct := fun le B σ G W Dn E R w hw hn hb hc hrt hm => by
  obtain ⟨p, h1, h2, h3⟩ := w.own i xs hi
  refine ⟨.ref p, h1, by unfold tyM; simp [h2], ?_⟩
  refine h B σ G W E _ _ w (exOf le w hw) (fun d r => ?_) hm
  cases d with
  | lst ys =>
    show (match G p, dlsh G (.lst ys) with | some (.lst xs), some ys => xs.length + ys.length ≤ sizeLine ∧ rest W Dn σ (dupd G p (.lst (xs ++ ys))) | _, _ => False)
    rw [h2]
    exact ⟨r.1, hr ys .nil B σ _ W Dn E R (w.putOwn hi h1 _) hw hn hb hc hrt r.2⟩
  | _ => exact r.elim
def popM (xs : List D) (k : D → List D → M ρ) : M ρ := match xs[xs.length - 1]? with
  | some y => k y xs.dropLast
  | none => bad
/-- x = xs.pop() -/
theorem ls_pop {kk : D → List D → M ρ} (hi : env[i]? = some (.own xs)) (hr : ∀ d ys, LS hs [] rt ((env.set i (.own ys)).set j (.val d)) rest (kk d ys) N Bk Ct) : LS hs [] rt env (dSeq (dAsg (dM0 "list" qPop (dVar i)) (gSet j)) rest) (popM xs kk) N Bk Ct := fun le B σ G W Dn E R w hw hn hb hc hrt hm => by
  obtain ⟨p, h1, h2, h3⟩ := w.own i xs hi
  refine ⟨.ref p, h1, by unfold tyM; simp [h2], ?_⟩
  unfold popM at hm
  show (match G p with | some (.lst xs) => (match xs[xs.length - 1]? with | some y => rest W Dn (σ.set j (some y)) (dupd G p (.lst xs.dropLast)) | none => False) | _ => False)
  rw [h2]
  show (match xs[xs.length - 1]? with | some y => rest W Dn (σ.set j (some y)) (dupd G p (.lst xs.dropLast)) | none => False)
  cases e : xs[xs.length - 1]? with
  | none => rw [e] at hm; exact hm.elim
  | some y => rw [e] at hm; exact hr y _ .nil B _ _ W Dn E R ((w.putOwn hi h1 _).setVal j y) hw hn hb hc hrt hm
theorem ls_popT {α : Type} {g : DTG} {u : D → M α} {ext : List D → α → Nm} {kk : α → List D → M ρ} (hi : env[i]? = some (.own xs)) (hg : ∀ ys, LGt hs (env.set i (.own ys)) g u (ext ys)) (hr : ∀ x ys, LS hs [] rt (ext ys x) rest (kk x ys) N Bk Ct) : LS hs [] rt env (dSeq (dAsg (dM0 "list" qPop (dVar i)) g) rest) (popM xs fun d ys => bnd (u d) fun x => kk x ys) N Bk Ct := fun le B σ G W Dn E R w hw hn hb hc hrt hm => by
  obtain ⟨p, h1, h2, h3⟩ := w.own i xs hi
  refine ⟨.ref p, h1, by unfold tyM; simp [h2], ?_⟩
  unfold popM at hm
  show (match G p with | some (.lst xs) => (match xs[xs.length - 1]? with | some y => g W y σ (dupd G p (.lst xs.dropLast)) (rest W Dn) | none => False) | _ => False)
  rw [h2]
  show (match xs[xs.length - 1]? with | some y => g W y σ (dupd G p (.lst xs.dropLast)) (rest W Dn) | none => False)
  cases e : xs[xs.length - 1]? with
  | none => rw [e] at hm; exact hm.elim
  | some y => rw [e] at hm; exact hg _ B σ _ W E _ _ y (w.putOwn hi h1 _) hm fun x σ' r' w' => hr x _ .nil B σ' _ W Dn E R w' hw hn hb hc hrt r'
/-- xs[k] = d -/
def setM (xs : List D) (o d : D) (k : List D → M ρ) : M ρ := match o with
  | .int n => match ixN xs.length n with
    | some j => k (xs.set j d)
    | none => bad
  | _ => bad
theorem ls_item (hi : env[i]? = some (.own xs)) (h : LE hs env te mE) (h2 : LE hs env ti mI) (hr : ∀ ys, LS hs [] rt (env.set i (.own ys)) rest (kL ys) N Bk Ct) : LS hs [] rt env (dSeq (dAsg te (gSubD dSetL (dVar i) ti)) rest) (bnd mE fun d => bnd mI fun o => setM xs o d kL) N Bk Ct := fun le B σ G W Dn E R w hw hn hb hc hrt hm => by
  obtain ⟨p, h1, h2', h3⟩ := w.own i xs hi
  refine h B σ G W E _ _ w (exOf le w hw) (fun d r => ⟨.ref p, h1, ?_⟩) hm
  refine h2 B σ G W E _ _ w (exOf le w hw) (fun o ro => ?_) r
  cases o with
  | int n =>
    unfold setM at ro
    simp only at ro
    cases e : ixN xs.length n with
    | none => rw [e] at ro; exact ro.elim
    | some j => rw [e] at ro; exact ⟨xs, j, h2', e, hr _ .nil B σ _ W Dn E R (w.putOwn hi h1 _) hw hn hb hc hrt ro⟩
  | _ => exact ro.elim
/-- from here the list stays -/
theorem ls_frz (hi : env[i]? = some (.own xs)) (hr : LS hs [] rt (env.set i (.val (.lst xs))) rest m N Bk Ct) : LS hs [] rt env (dGhost rest) m N Bk Ct := fun le B σ G W Dn E R w hw hn hb hc hrt hm => by
  obtain ⟨p, h1, h2, h3⟩ := w.own i xs hi
  exact ⟨_, _, Ghost.freeze i p xs h1 h2 .refl, hr .nil B _ _ W Dn E R (w.frz hi h1) hw hn hb hc hrt hm⟩
/-- y = x, and x is gone -/
theorem Rl.move {B G : DH} {σ : DSt} (w : Rl hs B env σ G) {p : Addr} (hi : env[i]? = some (.own xs)) (hp : σ[i]? = some (some (.ref p))) (ne : i ≠ j) : Rl hs B ((env.set i .no).set j (.own xs)) (σ.set j (some (.ref p))) G := by
  obtain ⟨p', h1, h2, h3⟩ := w.own i xs hi
  rw [hp] at h1; cases h1
  have get : ∀ (n : Nat) (s : Sl), s ≠ .no → ((env.set i .no).set j (.own xs))[n]? = some s → (n = j ∧ s = .own xs ∧ j < env.length) ∨ (n ≠ j ∧ n ≠ i ∧ env[n]? = some s) := fun n s hs q => by
    by_cases hj : j = n
    · subst hj
      rw [List.getElem?_set] at q
      simp only [if_true, List.length_set] at q
      split at q
      · rename_i hl; cases q; exact .inl ⟨rfl, rfl, hl⟩
      · cases q
    · rw [List.getElem?_set_ne hj] at q
      by_cases hn : i = n
      · subst hn
        rw [List.getElem?_set] at q
        simp only [if_true] at q
        split at q
        · cases q; exact (hs rfl).elim
        · cases q
      · rw [List.getElem?_set_ne hn] at q; exact .inr ⟨fun z => hj z.symm, fun z => hn z.symm, q⟩
  have keep : ∀ (n : Nat), n ≠ j → (σ.set j (some (.ref p)))[n]? = σ[n]? := fun n hn => List.getElem?_set_ne (fun z => hn z.symm)
  have at_j : j < env.length → (σ.set j (some (D.ref p)))[j]? = some (some (.ref p)) := fun hl => by
    rw [List.getElem?_set]; simp only [if_true]; rw [if_pos (by rw [← w.len]; exact hl)]
  refine ⟨⟨fun n x q => ?_, fun n zs q => ?_, fun n k zs us r q1 q2 s1 s2 => ?_, w.inc, w.hnd⟩, by simp [w.len]⟩
  · rcases get n _ (by simp) q with ⟨_, h, _⟩ | ⟨a, b, c⟩
    · cases h
    · rw [keep n a]; exact w.val n x c
  · rcases get n _ (by simp) q with ⟨rfl, h, hl⟩ | ⟨a, b, c⟩
    · cases h; exact ⟨p, at_j hl, h2, h3⟩
    · rw [keep n a]; exact w.own n zs c
  · rcases get n _ (by simp) q1 with ⟨rfl, e1, hl⟩ | ⟨a1, b1, c1⟩ <;> rcases get k _ (by simp) q2 with ⟨rfl, e2, hl2⟩ | ⟨a2, b2, c2⟩
    · rfl
    · rw [at_j hl] at s1; cases s1
      rw [keep k a2] at s2
      exact (b2 (w.dis i k xs us _ hi c2 hp s2).symm).elim
    · rw [at_j hl2] at s2; cases s2
      rw [keep n a1] at s1
      exact (b1 (w.dis i n xs zs _ hi c1 hp s1).symm).elim
    · rw [keep n a1] at s1; rw [keep k a2] at s2
      exact w.dis n k zs us r c1 c2 s1 s2
theorem ls_move (hi : env[i]? = some (.own xs)) (ne : i ≠ j) (hr : LS hs [] rt ((env.set i .no).set j (.own xs)) rest m N Bk Ct) : LS hs [] rt env (dSeq (dAsg (dVar i) (gSet j)) rest) m N Bk Ct := fun le B σ G W Dn E R w hw hn hb hc hrt hm => by
  obtain ⟨p, h1, h2, h3⟩ := w.own i xs hi
  exact ⟨.ref p, h1, hr .nil B _ _ W Dn E R (w.move hi h1 ne) hw hn hb hc hrt hm⟩
/-! loops -/
def loopR {ρ τ : Type} (body : D → τ → (τ → M ρ) → (τ → M ρ) → M ρ) : List D → τ → (τ → M ρ) → M ρ
  | [], s, k => k s
  | x :: xs, s, k => body x s (fun s' => loopR body xs s' k) k
theorem run_for {g : DTG} {T : τ → Nm} {body : D → τ → (τ → M ρ) → (τ → M ρ) → M ρ} {kk : τ → M ρ}
    (hb : ∀ (x : D) (s : τ) (nx bk : τ → M ρ) (B : DH) (σ : DSt) (G : DH) (W : DX) (Dn : DEnds) (E : Exc → Prop) (R : ρ → Prop), Rl hs B (T s) σ G → (∀ x σ' G', Rx hs B [] σ' G' → E x → W x σ' G') →
      (∀ s' σ' G', Rl hs B (T s') σ' G' → nx s' E R → Dn.nx σ' G') → (∀ s' σ' G', Rl hs B (T s') σ' G' → bk s' E R → Dn.bk σ' G') → (∀ s' σ' G', Rl hs B (T s') σ' G' → nx s' E R → Dn.ct σ' G') →
      (∀ d G', (∀ a o, B a = some o → G' a = some o) → R (rt d) → Dn.rt d G') → body x s nx bk E R → g W x σ G fun σ2 G2 => tb W Dn σ2 G2) :
    ∀ (xs : List D) (s : τ) (B : DH) (σ : DSt) (G : DH) (W : DX) (Dn : DEnds) (E : Exc → Prop) (R : ρ → Prop), Rl hs B (T s) σ G → (∀ x σ' G', Rx hs B [] σ' G' → E x → W x σ' G') →
      (∀ s' σ' G', Rl hs B (T s') σ' G' → kk s' E R → Dn.nx σ' G') → (∀ d G', (∀ a o, B a = some o → G' a = some o) → R (rt d) → Dn.rt d G') → loopR body xs s kk E R → dRun g tb xs W Dn σ G
  | [], s, B, σ, G, W, Dn, E, R, w, hw, hn, hr, hm => hn s σ G w hm
  | x :: xs, s, B, σ, G, W, Dn, E, R, w, hw, hn, hr, hm => by
    have ih : ∀ s' σ' G', Rl hs B (T s') σ' G' → loopR body xs s' kk E R → dRun g tb xs W Dn σ' G' := fun s' σ' G' w' h' => run_for hb xs s' B σ' G' W Dn E R w' hw hn hr h'
    exact hb x s (fun s' => loopR body xs s' kk) kk B σ G W { nx := dRun g tb xs W Dn, rt := Dn.rt, bk := Dn.nx, ct := dRun g tb xs W Dn } E R w hw ih hn ih hr hm
theorem ls_for {α : Type} {g : DTG} {u : D → M α} {ti : DTI} {mi : M (List D)} {T : τ → Nm} {ext : τ → α → Nm} {body : α → τ → (τ → M ρ) → (τ → M ρ) → M ρ} {kk : τ → M ρ} {s0 : τ} (hi : LI hs env ti mi) (le : NmLe (T s0) env) (hl : (T s0).length = env.length)
    (hg : ∀ s, LGt hs (T s) g u (ext s)) (hb : ∀ (x : α) (s : τ) (nx bk : τ → M ρ), LS hs [] rt (ext s x) tb (body x s nx bk) (cT T nx) (cT T bk) (cT T nx)) (hr : ∀ s, LS hs [] rt (T s) rest (kk s) N Bk Ct) :
    LS hs [] rt env (dSeq (dFor ti g tb) rest) (bnd mi fun xs => loopR (fun d s nx bk => bnd (u d) fun x => body x s nx bk) xs s0 kk) N Bk Ct := fun le' B σ G W Dn E R w hw hn hbk hct hrt hm =>
  hi B σ G W E _ _ w (exOf le' w hw) (fun xs r => by
    refine run_for (rt := rt) (T := T) (body := fun d s nx bk => bnd (u d) fun x => body x s nx bk) (fun x s nx bk B σ G W Dn E R w hw hn hb' hc hrt hm => ?_) xs s0 B σ G W { nx := rest W Dn, rt := Dn.rt, bk := Dn.bk, ct := Dn.ct } E R (w.le le hl) hw (fun s' σ' G' w' h' => hr s' .nil B σ' G' W Dn E R w' hw hn hbk hct hrt h') hrt r
    refine hg s B σ G W E _ _ x w hm fun a σ' ra w' => ?_
    exact hb a s nx bk .nil B σ' G W Dn E R w' hw (fun e m' σ' G' q w h => by obtain ⟨s', rfl, rfl⟩ := q; exact hn s' σ' G' w h) (fun e m' σ' G' q w h => by obtain ⟨s', rfl, rfl⟩ := q; exact hb' s' σ' G' w h) (fun e m' σ' G' q w h => by obtain ⟨s', rfl, rfl⟩ := q; exact hc s' σ' G' w h) hrt ra) hm
/-- while: some number of turns is enough -/
def whileN {ρ τ : Type} (c : τ → M Bool) (body : τ → (τ → M ρ) → (τ → M ρ) → M ρ) (k : τ → M ρ) : Nat → τ → M ρ
  | 0, _ => bad
  | n + 1, s => bnd (c s) fun b => if b = true then body s (whileN c body k n) k else k s
def whileM {ρ τ : Type} (c : τ → M Bool) (body : τ → (τ → M ρ) → (τ → M ρ) → M ρ) (s : τ) (k : τ → M ρ) : M ρ := fun E Q => ∃ n, whileN c body k n s E Q
theorem ls_while {T : τ → Nm} {c : τ → M Bool} {body : τ → (τ → M ρ) → (τ → M ρ) → M ρ} {kk : τ → M ρ} {s0 : τ} (le : NmLe (T s0) env) (hl : (T s0).length = env.length)
    (ht : ∀ s, LT hs (T s) tt (c s)) (hb : ∀ (s : τ) (nx bk : τ → M ρ), LS hs [] rt (T s) tb (body s nx bk) (cT T nx) (cT T bk) (cT T nx)) (hr : ∀ s, LS hs [] rt (T s) rest (kk s) N Bk Ct) :
    LS hs [] rt env (dSeq (dWhile tt tb) rest) (whileM c body s0 kk) N Bk Ct := fun le' B σ G W Dn E R w hw hn hbk hct hrt ⟨n, hm⟩ => by
  refine ⟨fun n σ G => ∃ s, Rl hs B (T s) σ G ∧ whileN c body kk n s E R, ⟨n, s0, w.le le hl, hm⟩, fun n σ G ⟨s, w, h⟩ => ?_⟩
  cases n with
  | zero => exact h.elim
  | succ n =>
    refine ht s B σ G W E _ _ w (fun x ex => hw x σ G (w.x .nil) ex) (fun b r => ?_) h
    cases b with
    | true =>
      simp only [if_true] at r ⊢
      exact hb s (whileN c body kk n) kk .nil B σ G W _ E R w hw (fun e m' σ' G' q w h => by obtain ⟨s', rfl, rfl⟩ := q; exact ⟨n, by omega, s', w, h⟩) (fun e m' σ' G' q w h => by obtain ⟨s', rfl, rfl⟩ := q; exact hr s' .nil B σ' G' W Dn E R w hw hn hbk hct hrt h) (fun e m' σ' G' q w h => by obtain ⟨s', rfl, rfl⟩ := q; exact ⟨n, by omega, s', w, h⟩) hrt r
    | false => exact hr s .nil B σ G W Dn E R w hw hn hbk hct hrt r
end
theorem Rw.nil0 {B : DH} {σ : DSt} {G : DH} (h : ∀ a o, B a = some o → G a = some o) : Rw [] B [] σ G := ⟨fun i d q => by simp at q, fun i xs q => by simp at q, fun i j xs ys p q => by simp at q, h, fun a q => by simp at q⟩
/-! a law's hand -/
section
variable {ρ : Type} {rt : D → ρ} {env : Nm} {rest : DTS} {m : M ρ} {N Bk Ct : Cn ρ} {i j : Nat} {ns : List Int} {spH : DSp}
theorem ls_hand (hsp : ∀ (G : DH) (Q : DK) (E : Exc → DH → Prop), (∀ a G', G a = none → Hand a G' → (∀ b o, G b = some o → G' b = some o) → Q (.ref a) G') → spH [.scr ns] G Q E) (hj : env[j]? = some (.val (.scr ns))) (ho : ∀ (n : Nat) (xs : List D), env[n]? ≠ some (.own xs)) (hr : ∀ a, LS [a] [] rt (env.set i (.val (.ref a))) rest m N Bk Ct) (hN : ∀ e m', ¬ N e m') (hBk : ∀ e m', ¬ Bk e m') (hCt : ∀ e m', ¬ Ct e m') : LS [] [] rt env (dSeq (dAsg (dCall spH (dCons (dVar j) dNil)) (gSet i)) rest) m N Bk Ct := fun le B σ G W Dn E R w hw hn hb hc hrt hm => by
  refine ⟨.scr ns, w.val j _ hj, hsp _ _ _ fun a G' ha hh hk => ?_⟩
  refine hr a .nil G' (σ.set i (some (.ref a))) G' W Dn E R ?_ (fun x σ' G'' w' ex => hw x σ' G'' (Rx.nil fun b o q => w'.inc b o (hk b o (w.inc b o q))) ex) (fun e m' σ' G'' q => (hN e m' q).elim) (fun e m' σ' G'' q => (hBk e m' q).elim) (fun e m' σ' G'' q => (hCt e m' q).elim) (fun d G'' hi r => hrt d G'' (fun b o q => hi b o (hk b o (w.inc b o q))) r) hm
  have w1 := w.setVal i (.ref a)
  refine ⟨⟨w1.val, fun n xs q => ?_, fun n k xs ys p q => ?_, fun b o q => q, fun b hb => by rw [List.mem_singleton] at hb; subst hb; exact hh⟩, w1.len⟩
  all_goals
    exfalso
    by_cases hn : i = n
    · subst hn
      rw [List.getElem?_set] at q
      simp only [if_true] at q
      split at q <;> cases q
    · rw [List.getElem?_set_ne hn] at q; exact ho n xs q
end
/-! the whole of a def -/
def envOf (N : List Str) (ds : List D) : Nm := ds.map Sl.val ++ List.replicate (N.length - ds.length) .no
theorem rl_start {N : List Str} {ds : List D} {hs : List Addr} {G : DH} (hh : ∀ a ∈ hs, Hand a G) : Rl hs G (envOf N ds) (dstart N ds) G := by
  refine ⟨⟨fun i d q => ?_, fun i xs q => ?_, fun i j xs ys p q => ?_, fun a o q => q, hh⟩, by simp [envOf, dstart]⟩
  · unfold envOf at q
    unfold dstart
    by_cases hi : i < ds.length
    · rw [List.getElem?_append_left (by simpa using hi), List.getElem?_map] at q ⊢
      cases e : ds[i]? with
      | none => rw [e] at q; simp at q
      | some x => rw [e] at q; simp at q; subst q; rfl
    · rw [List.getElem?_append_right (by simpa using hi), List.getElem?_replicate] at q
      split at q <;> simp at q
  all_goals
    exfalso
    unfold envOf at q
    by_cases hi : i < ds.length
    · rw [List.getElem?_append_left (by simpa using hi), List.getElem?_map] at q
      cases e : ds[i]? with
      | none => rw [e] at q; simp at q
      | some x => rw [e] at q; simp at q
    · rw [List.getElem?_append_right (by simpa using hi), List.getElem?_replicate] at q
      split at q <;> simp at q
def cEnd : Cn D := fun _ m => m = ret .non
theorem fin_of {hs : List Addr} {N : List Str} {ds : List D} {ts : DTS} {m : M D} {G : DH} {Q : DK} {E : Exc → DH → Prop} {E' : Exc → Prop} {R : D → Prop} (hh : ∀ a ∈ hs, Hand a G) (h : LS hs [] (fun d => d) (envOf N ds) ts m cEnd cNo cNo) (h1 : ∀ x, E' x → E x G) (h2 : ∀ d, R d → Q d G) (hm : m E' R) :
    ts (fun x _ G' => ∃ G2, Sub G2 G' ∧ E x G2) { nx := fun _ G' => RetW Q .non G', rt := RetW Q } (dstart N ds) G := by
  have sub : ∀ G', (∀ a o, G a = some o → G' a = some o) → Sub G G' := fun G' hi a o q => .inl (hi a o q)
  refine h .nil G _ G _ _ E' R (rl_start hh) (fun x σ' G' w ex => ⟨G, sub G' w.inc, h1 x ex⟩) (fun e m' σ' G' q w r => ?_) (fun _ _ _ _ q => q.elim) (fun _ _ _ _ q => q.elim) (fun d G' hi r => RetW.sub (sub G' hi) (h2 d r)) hm
  have q' : m' = ret .non := q
  subst q'
  exact RetW.sub (sub G' w.inc) (h2 _ r)
theorem fin_spM {F : List D → M D} {N : List Str} {ds : List D} {ts : DTS} {G : DH} {Q : DK} {E : Exc → DH → Prop} (h : LS [] [] (fun d => d) (envOf N ds) ts (F ds) cEnd cNo cNo) (hs : spM F ds G Q E) :
    ts (fun x _ G' => ∃ G2, Sub G2 G' ∧ E x G2) { nx := fun _ G' => RetW Q .non G', rt := RetW Q } (dstart N ds) G := by
  obtain ⟨E', R, h1, h2, hm⟩ := hs
  exact fin_of (fun _ h => by cases h) h h1 h2 hm
end FL

/-! E5: errors caught; names alone as targets; what gen2 prints. -/
namespace FL
open PySem PySem.Spec L2 DL
section
variable {ρ τ : Type} {hs : List Addr} {X : Nm} {rt : D → ρ} {env e : Nm} {a b rest tb : DTS} {m : M ρ} {N N1 Bk Ct : Cn ρ} {te : DTE} {mE : M D} {tt : DTT} {mT : M Bool} {d : D} {i : Nat}
theorem ls_retI {mD : M D} {N Bk Ct : Cn D} (h : LE hs env te mD) : LS hs X (fun d => d) env (dRet te) mD N Bk Ct := fun le B σ G W Dn E R w hw hn hb hc hrt hm =>
  h B σ G W E _ _ w (exOf le w hw) (fun d r => hrt d G w.inc r) hm
theorem ls_ifj {T : τ → Nm} {k : τ → M ρ} {f : (τ → M ρ) → M ρ} (h1 : ∀ k', LS hs X rt env a (f k') (cT T k') Bk Ct) (le : ∀ s, XLe X (T s)) (h2 : ∀ s, LS hs X rt (T s) rest (k s) N Bk Ct) : LS hs X rt env (dSeq a rest) (jn k f) N Bk Ct := ls_seqT (h1 k) le h2
theorem ls_end (h : N env m) : LS hs X rt env dNext m N Bk Ct := ls_nx h
/-! loops over names alone -/
theorem ls_forN {ti : DTI} {mi : M (List D)} {T : τ → Nm} {body : D → τ → (τ → M ρ) → (τ → M ρ) → M ρ} {kk : τ → M ρ} {s0 : τ} (hi : LI hs env ti mi) (le : NmLe (T s0) env) (hl : (T s0).length = env.length)
    (hb : ∀ (x : D) (s : τ) (nx bk : τ → M ρ), LS hs [] rt ((T s).set i (.val x)) tb (body x s nx bk) (cT T nx) (cT T bk) (cT T nx)) (hr : ∀ s, LS hs [] rt (T s) rest (kk s) N Bk Ct) :
    LS hs [] rt env (dSeq (dFor ti (gSet i) tb) rest) (bnd mi fun xs => loopR body xs s0 kk) N Bk Ct := ls_for (u := ret) hi le hl (fun s => lg_name) hb hr
theorem mapU_ret {α : Type} (f : D → M α) : ∀ xs, mapU ret f xs = mapA f xs
  | [] => rfl
  | x :: xs => by
    show bnd (f x) (fun y => bnd (mapU ret f xs) fun ys => ret (y :: ys)) = _
    rw [mapU_ret f xs]; rfl
theorem filU_ret {α : Type} (p : D → M Bool) (f : D → M α) : ∀ xs, filU ret p f xs = filA p f xs
  | [] => rfl
  | x :: xs => by
    show bnd (p x) (fun b => if b = true then bnd (f x) fun y => bnd (filU ret p f xs) fun ys => ret (y :: ys) else filU ret p f xs) = _
    rw [filU_ret p f xs]; rfl
variable {ti : DTI} {mi : M (List D)} {vs : List Nat} {f : D → M D} {p : D → M Bool}
theorem le_lcN (hi : LI hs env ti mi) (he : ∀ a, LE hs ((wipeE env vs).set i (.val a)) te (f a)) : LE hs env (dLc false vs ti (gSet i) dYes te) (bnd mi fun xs => req (xs.length ≤ sizeLine) (bnd (noX (mapA f xs)) fun ys => ret (.lst ys))) := by
  have h := le_lc (u := ret) hi (lg_name (i := i)) he
  simp only [mapU_ret] at h; exact h
theorem le_lcfN (hi : LI hs env ti mi) (ht : ∀ a, LT hs ((wipeE env vs).set i (.val a)) tt (p a)) (he : ∀ a, LE hs ((wipeE env vs).set i (.val a)) te (f a)) : LE hs env (dLc false vs ti (gSet i) tt te) (bnd mi fun xs => req (xs.length ≤ sizeLine) (bnd (noX (filA p f xs)) fun ys => ret (.lst ys))) := by
  have h := le_lcf (u := ret) hi (lg_name (i := i)) ht he
  simp only [filU_ret] at h; exact h
theorem ln_lcN (hi : LI hs env ti mi) (he : ∀ a, LE hs ((wipeE env vs).set i (.val a)) te (f a)) : LN hs env (dLc true vs ti (gSet i) dYes te) (bnd mi fun xs => req (xs.length ≤ sizeLine) (noX (mapA f xs))) := by
  have h := ln_lc (u := ret) hi (lg_name (i := i)) he
  simp only [mapU_ret] at h; exact h
theorem ln_lcfN (hi : LI hs env ti mi) (ht : ∀ a, LT hs ((wipeE env vs).set i (.val a)) tt (p a)) (he : ∀ a, LE hs ((wipeE env vs).set i (.val a)) te (f a)) : LN hs env (dLc true vs ti (gSet i) tt te) (bnd mi fun xs => req (xs.length ≤ sizeLine) (noX (filA p f xs))) := by
  have h := ln_lcf (u := ret) hi (lg_name (i := i)) ht he
  simp only [filU_ret] at h; exact h
/-! new lists -/
def opN (q : Q2) (x y : D) : M (List D) := fun _ R => q x y G0 fun d _ => ∃ xs, d = .lst xs ∧ R xs
def nopN (q : QN) (xs : List D) : M (List D) := fun _ R => q xs G0 fun d _ => ∃ ys, d = .lst ys ∧ R ys
theorem ln_opN {q q0 : Q2} {ta tb : DTE} {ma mb : M D} (hq : New2 q q0) (h1 : LV hs env ta ma) (h2 : LV hs env tb mb) : LN hs env (dOp q ta tb) (bnd ma fun x => bnd mb fun y => opN q0 x y) := ln_op hq h1 h2
theorem ln_nN {q q0 : QN} {ta : DTA} {ma : M (List D)} (hq : NewN q q0) (h1 : LAV hs env ta ma) : LN hs env (dN q ta) (bnd ma fun x => nopN q0 x) := ln_n hq h1
end
/-! errors caught -/
def tryM {ρ : Type} (rt : D → ρ) (mb : M (Option D)) (h : Exc → M ρ) (k : M ρ) : M ρ := fun E Q => mb (fun x => h x E Q) fun o => match o with
  | some d => Q (rt d)
  | none => k E Q
/-- C catches x? -/
def exM {ρ : Type} (K : PySem.W.Frag) (C : Addr) (x : Exc) (y n : M ρ) : M ρ := fun E Q => ∃ b, PySem.W.exmOne K (.ref x.cls) (.ref C) = some b ∧ if b = true then y E Q else n E Q
section
variable {ρ : Type} {K : PySem.W.Frag} {hs : List Addr} {X : Nm} {rt : D → ρ} {env : Nm} {rest tb : DTS} {m : M ρ} {N Bk Ct : Cn ρ}
def LH (K : PySem.W.Frag) (hs : List Addr) (X : Nm) (rt : D → ρ) (env : Nm) (l : List (Addr × Option Nat × DSuite)) (h : Exc → M ρ) : Prop := ∀ (x : Exc) (B : DH) (σ : DSt) (G : DH) (W : DX) (Dn : DEnds) (E : Exc → Prop) (R : ρ → Prop), Rl hs B env σ G →
    (∀ x σ' G', Rx hs B X σ' G' → E x → W x σ' G') → (∀ d G', (∀ a o, B a = some o → G' a = some o) → R (rt d) → Dn.rt d G') → h x E R → dHandle K l x W Dn σ G
theorem lh_nil (le : XLe X env) : LH K hs X rt env [] fun x => thr x := fun x B σ G W Dn E R w hw hrt hm => hw x σ G (w.x le) hm
theorem lh_bare {C : Addr} {ts : DSuite} {l : List (Addr × Option Nat × DSuite)} {mm : Exc → M ρ} {h : Exc → M ρ} (hs1 : ∀ x a, LS hs [] rt env (ts x a) (mm x) cNo cNo cNo) (hl : LH K hs X rt env l h) : LH K hs X rt env ((C, none, ts) :: l) fun x => exM K C x (noX (mm x)) (h x) := fun x B σ G W Dn E R w hw hrt ⟨b, hb, hm⟩ => by
  refine ⟨b, hb, fun e a na => ?_, fun e => ?_⟩
  · subst e
    exact hs1 x a .nil B σ G _ Dn (fun _ => False) R w (fun _ _ _ _ z => z.elim) (fun _ _ _ _ q => q.elim) (fun _ _ _ _ q => q.elim) (fun _ _ _ _ q => q.elim) hrt hm
  · subst e; exact hl x B σ G W Dn E R w hw hrt hm
theorem lh_named {C : Addr} {i : Nat} {ts : DSuite} {l : List (Addr × Option Nat × DSuite)} {mm : Exc → M ρ} {h : Exc → M ρ} (hs1 : ∀ x a, LS hs [] rt (env.set i (.val (.ref a))) (ts x a) (mm x) cNo cNo cNo) (hl : LH K hs X rt env l h) : LH K hs X rt env ((C, some i, ts) :: l) fun x => exM K C x (noX (mm x)) (h x) := fun x B σ G W Dn E R w hw hrt ⟨b, hb, hm⟩ => by
  refine ⟨b, hb, fun e a na => ?_, fun e => ?_⟩
  · subst e
    exact hs1 x a .nil B _ G _ _ (fun _ => False) R (w.setVal i (.ref a)) (fun _ _ _ _ z => z.elim) (fun _ _ _ _ q => q.elim) (fun _ _ _ _ q => q.elim) (fun _ _ _ _ q => q.elim) hrt hm
  · subst e; exact hl x B σ G W Dn E R w hw hrt hm
theorem ls_try {mb : M (Option D)} {h : Exc → M ρ} {l : List (Addr × Option Nat × DSuite)} (ne : env ≠ []) (hb : LS hs env some env tb mb (fun e m => e = env ∧ m = ret none) cNo cNo) (hl : LH K hs X rt env l h) (hr : LS hs X rt env rest m N Bk Ct) :
    LS hs X rt env (dSeq (dTry K tb l) rest) (tryM rt mb h m) N Bk Ct := fun le B σ G W Dn E R w hw hn hbk hct hrt hm => by
  refine hb .refl B σ G _ _ (fun x => h x E R) _ w (fun x σ' G' w' hx => ?_) (fun e m' σ' G' q w' r => ?_) (fun _ _ _ _ q => q.elim) (fun _ _ _ _ q => q.elim) (fun d G' hi r => hrt d G' hi r) hm
  · exact hl x B σ' G' W { nx := rest W Dn, rt := Dn.rt, bk := Dn.bk, ct := Dn.ct } E R ⟨w'.toRw, w'.len ne⟩ hw hrt hx
  · obtain ⟨rfl, rfl⟩ := q
    exact hr le B σ' G' W Dn E R w' hw hn hbk hct hrt r
end
/-! .. in a suite -/
def xfM (C : Addr) (f : Str) (x : Exc) : M D := fun _ Q => x.cls = C ∧ match x.flds with
  | [(g, v)] => g = f ∧ Q v
  | _ => False
def isEM (K : PySem.W.Frag) (x : Exc) (y : D) : M D := fun _ Q => (x.flds = [] ∧ ExcC K x.cls) ∧ ∃ cv r, clsD y cv ∧ PySem.W.kitOne K (.ref x.cls) cv = some r ∧ Q (.bl r)
section
variable {K : PySem.W.Frag} {hs : List Addr} {env : Nm} {i : Nat} {a C : Addr} {x : Exc} {f : Str}
theorem le_xf (hi : env[i]? = some (.val (.ref a))) : LE hs env (dXf C a x f (dVar i)) (xfM C f x) := fun B σ G W E Q R w hw k hm => by
  refine ⟨.ref a, w.val i _ hi, rfl, hm.1, ?_⟩
  obtain ⟨h1, h2⟩ := hm
  revert h2
  rcases x.flds with _ | ⟨⟨g, v⟩, _ | _⟩
  · exact fun h => h
  · exact fun h => ⟨h.1, k _ h.2⟩
  · exact fun h => h
theorem le_isE {y : D} {ty : DTE} (hi : env[i]? = some (.val (.ref a))) (hy : LP hs env ty y) : LE hs env (dIsE K a x (dCons (dVar i) (dCons ty dNil))) (isEM K x y) := fun B σ G W E Q R w hw k hm => by
  refine ⟨.ref a, w.val i _ hi, ?_⟩
  refine hy B σ G W E _ (fun y' => y' = y) w hw (fun y' e => ?_) rfl
  subst e
  obtain ⟨⟨h1, h2⟩, cv, r, h3, h4, h5⟩ := hm
  exact ⟨⟨rfl, h1, h2⟩, cv, r, h3, h4, k _ h5⟩
end
/-! draws -/
def takeF (ds : List D) : M D := match ds with
  | [.int m] => req (0 < m) (bnd (anyM fun r : Nat => (r : Int) < m) fun r => ret (.int (r : Int)))
  | _ => bad
end FL

/-! E6: the ends of a def; the laws' draws. -/
namespace FL
open PySem PySem.Spec L2 DL
section
variable {ρ τ : Type} {hs : List Addr} {rt : D → ρ} {env : Nm} {rest : DTS} {N Bk Ct : Cn ρ} {te : DTE} {mE : M D} {i : Nat} {xs : List D}
theorem ls_appendX {k : D → M ρ} (hi : env[i]? = some (.own xs)) (h : LE hs env te mE) (hr : ∀ d, LS hs [] rt (env.set i (.own (xs ++ [d]))) rest (k d) N Bk Ct) : LS hs [] rt env (dSeq (dDrop (dM "list" qAppend (dVar i) (dCons te dNil))) rest) (bnd mE fun d => req (xs.length < sizeLine) (k d)) N Bk Ct := fun le B σ G W Dn E R w hw hn hb hc hrt hm => by
  obtain ⟨p, h1, h2, h3⟩ := w.own i xs hi
  refine ⟨.ref p, h1, by unfold tyM; simp [h2], ?_⟩
  refine h B σ G W E _ _ w (exOf le w hw) (fun d r => ?_) hm
  show (match G p with | some (.lst xs) => xs.length < sizeLine ∧ rest W Dn σ (dupd G p (.lst (xs ++ [d]))) | _ => False)
  rw [h2]
  exact ⟨r.1, hr d .nil B σ _ W Dn E R (w.putOwn hi h1 _) hw hn hb hc hrt r.2⟩
theorem ls_extendX {k : List D → M ρ} (hi : env[i]? = some (.own xs)) (h : LE hs env te mE) (hr : ∀ ys, LS hs [] rt (env.set i (.own (xs ++ ys))) rest (k ys) N Bk Ct) : LS hs [] rt env (dSeq (dDrop (dM "list" qExtend (dVar i) (dCons te dNil))) rest) (bnd mE fun d => isL d fun ys => req (xs.length + ys.length ≤ sizeLine) (k ys)) N Bk Ct := fun le B σ G W Dn E R w hw hn hb hc hrt hm => by
  obtain ⟨p, h1, h2, h3⟩ := w.own i xs hi
  refine ⟨.ref p, h1, by unfold tyM; simp [h2], ?_⟩
  refine h B σ G W E _ _ w (exOf le w hw) (fun d r => ?_) hm
  cases d with
  | lst ys =>
    show (match G p, dlsh G (.lst ys) with | some (.lst xs), some ys => xs.length + ys.length ≤ sizeLine ∧ rest W Dn σ (dupd G p (.lst (xs ++ ys))) | _, _ => False)
    rw [h2]
    exact ⟨r.1, hr ys .nil B σ _ W Dn E R (w.putOwn hi h1 _) hw hn hb hc hrt r.2⟩
  | _ => exact r.elim
end
theorem envOf_own {N : List Str} {ds : List D} : ∀ (n : Nat) (xs : List D), (envOf N ds)[n]? ≠ some (.own xs) := fun n xs q => by
  unfold envOf at q
  by_cases hi : n < ds.length
  · rw [List.getElem?_append_left (by simpa using hi), List.getElem?_map] at q
    cases e : ds[n]? with
    | none => rw [e] at q; simp at q
    | some x => rw [e] at q; simp at q
  · rw [List.getElem?_append_right (by simpa using hi), List.getElem?_replicate] at q
    split at q <;> simp at q
theorem fin_no {N : List Str} {ds : List D} {ts : DTS} {m : M D} {G : DH} {Q : DK} {E : Exc → DH → Prop} {E' : Exc → Prop} {R : D → Prop} (h : LS [] [] (fun d => d) (envOf N ds) ts m cNo cNo cNo) (h1 : ∀ x, E' x → E x G) (h2 : ∀ d, R d → Q d G) (hm : m E' R) :
    ts (fun x _ G' => ∃ G2, Sub G2 G' ∧ E x G2) { nx := fun _ G' => RetW Q .non G', rt := RetW Q } (dstart N ds) G := by
  refine fin_of (fun _ h => by cases h) (fun le B σ G W Dn E R w hw hn hb hc hrt hm => h le B σ G W Dn E R w hw (fun _ _ _ _ q => q.elim) hb hc hrt hm) h1 h2 hm
theorem ls_to {ρ : Type} {hs : List Addr} {X : Nm} {rt : D → ρ} {env e : Nm} {ts : DTS} {m : M ρ} {N Bk Ct : Cn ρ} (h : env = e) (k : LS hs X rt e ts m N Bk Ct) : LS hs X rt env ts m N Bk Ct := by subst h; exact k
theorem ne_of_len {env : Nm} {n : Nat} (h : env.length = n + 1) : env ≠ [] := fun e => by rw [e] at h; cases h
def spHand : DSp := fun ds G Q E => ∃ ns : List Int, ds = [.scr ns] ∧ ns.length ≤ 63 ∧ ∀ a G', G a = none → Hand a G' → (∀ b o, G b = some o → G' b = some o) → Q (.ref a) G'
def spW (F : M D) : DSp := fun ds G Q E => ∃ ns : List Int, ds = [.scr ns] ∧ ns.length ≤ 63 ∧ mono F (fun x => E x G) fun d => Q d G
section
variable {G : DH} {Q : DK} {E : Exc → DH → Prop} {ds : List D}
theorem len0 {f : M D} (h : spM (ap0 f) ds G Q E) : ds.length = 0 := by
  obtain ⟨_, _, _, _, hm⟩ := h
  match ds, hm with | [], _ => rfl | _ :: _, hm => exact hm.elim
theorem len1 {f : D → M D} (h : spM (ap1 f) ds G Q E) : ds.length = 1 := by
  obtain ⟨_, _, _, _, hm⟩ := h
  match ds, hm with | [_], _ => rfl | [], hm => exact hm.elim | _ :: _ :: _, hm => exact hm.elim
theorem len2 {f : D → D → M D} (h : spM (ap2 f) ds G Q E) : ds.length = 2 := by
  obtain ⟨_, _, _, _, hm⟩ := h
  match ds, hm with | [_, _], _ => rfl | [], hm => exact hm.elim | [_], hm => exact hm.elim | _ :: _ :: _ :: _, hm => exact hm.elim
theorem len3 {f : D → D → D → M D} (h : spM (ap3 f) ds G Q E) : ds.length = 3 := by
  obtain ⟨_, _, _, _, hm⟩ := h
  match ds, hm with | [_, _, _], _ => rfl | [], hm => exact hm.elim | [_], hm => exact hm.elim | [_, _], hm => exact hm.elim | _ :: _ :: _ :: _ :: _, hm => exact hm.elim
theorem len4 {f : D → D → D → D → M D} (h : spM (ap4 f) ds G Q E) : ds.length = 4 := by
  obtain ⟨_, _, _, _, hm⟩ := h
  match ds, hm with | [_, _, _, _], _ => rfl | [], hm => exact hm.elim | [_], hm => exact hm.elim | [_, _], hm => exact hm.elim | [_, _, _], hm => exact hm.elim | _ :: _ :: _ :: _ :: _ :: _, hm => exact hm.elim
theorem len5 {f : D → D → D → D → D → M D} (h : spM (ap5 f) ds G Q E) : ds.length = 5 := by
  obtain ⟨_, _, _, _, hm⟩ := h
  match ds, hm with | [_, _, _, _, _], _ => rfl | [], hm => exact hm.elim | [_], hm => exact hm.elim | [_, _], hm => exact hm.elim | [_, _, _], hm => exact hm.elim | [_, _, _, _], hm => exact hm.elim | _ :: _ :: _ :: _ :: _ :: _ :: _, hm => exact hm.elim
theorem len6 {f : D → D → D → D → D → D → M D} (h : spM (ap6 f) ds G Q E) : ds.length = 6 := by
  obtain ⟨_, _, _, _, hm⟩ := h
  match ds, hm with | [_, _, _, _, _, _], _ => rfl | [], hm => exact hm.elim | [_], hm => exact hm.elim | [_, _], hm => exact hm.elim | [_, _, _], hm => exact hm.elim | [_, _, _, _], hm => exact hm.elim | [_, _, _, _, _], hm => exact hm.elim | _ :: _ :: _ :: _ :: _ :: _ :: _ :: _, hm => exact hm.elim
theorem len7 {f : D → D → D → D → D → D → D → M D} (h : spM (ap7 f) ds G Q E) : ds.length = 7 := by
  obtain ⟨_, _, _, _, hm⟩ := h
  match ds, hm with | [_, _, _, _, _, _, _], _ => rfl | [], hm => exact hm.elim | [_], hm => exact hm.elim | [_, _], hm => exact hm.elim | [_, _, _], hm => exact hm.elim | [_, _, _, _], hm => exact hm.elim | [_, _, _, _, _], hm => exact hm.elim | [_, _, _, _, _, _], hm => exact hm.elim | _ :: _ :: _ :: _ :: _ :: _ :: _ :: _ :: _, hm => exact hm.elim
theorem lenH {n : Nat} {F : List D → M D} (hF : ∀ (r : List D) (G : DH) (Q : DK) (E : Exc → DH → Prop), spM F r G Q E → r.length = n) (h : spMH F ds G Q E) : ds.length = n + 1 := by
  obtain ⟨a, r, rfl, hh, hm⟩ := h
  rw [List.length_cons, hF r G Q E hm]
theorem lenH0 {f : M D} (h : spMH (ap0 f) ds G Q E) : ds.length = 1 := lenH (fun r G Q E h => len0 h) h
theorem lenH1 {f : D → M D} (h : spMH (ap1 f) ds G Q E) : ds.length = 2 := lenH (fun r G Q E h => len1 h) h
theorem lenH2 {f : D → D → M D} (h : spMH (ap2 f) ds G Q E) : ds.length = 3 := lenH (fun r G Q E h => len2 h) h
theorem lenH3 {f : D → D → D → M D} (h : spMH (ap3 f) ds G Q E) : ds.length = 4 := lenH (fun r G Q E h => len3 h) h
theorem lenH4 {f : D → D → D → D → M D} (h : spMH (ap4 f) ds G Q E) : ds.length = 5 := lenH (fun r G Q E h => len4 h) h
theorem lenH5 {f : D → D → D → D → D → M D} (h : spMH (ap5 f) ds G Q E) : ds.length = 6 := lenH (fun r G Q E h => len5 h) h
theorem lenH6 {f : D → D → D → D → D → D → M D} (h : spMH (ap6 f) ds G Q E) : ds.length = 7 := lenH (fun r G Q E h => len6 h) h
theorem lenH7 {f : D → D → D → D → D → D → D → M D} (h : spMH (ap7 f) ds G Q E) : ds.length = 8 := lenH (fun r G Q E h => len7 h) h
/-- an argument list by its length -/
theorem apE0 {f : M D} {E' : Exc → Prop} {R : D → Prop} (h : ap0 f ds E' R) : ds = [] ∧ f E' R := by
  match ds, h with | [], h => exact ⟨rfl, h⟩ | _ :: _, h => exact h.elim
theorem take_pre (h : spMH takeF ds G Q E) : ∃ (a : Addr) (m : Nat), ds = [.ref a, .int m] ∧ Hand a G ∧ 0 < m ∧ ∀ r : Nat, r < m → Q (nI r) G := by
  obtain ⟨a, r, rfl, hh, E', R, h1, h2, hm⟩ := h
  unfold takeF at hm
  split at hm
  · rename_i m
    obtain ⟨h0, hm⟩ := hm
    refine ⟨a, m.toNat, by rw [Int.toNat_of_nonneg (by omega)], hh, by omega, fun r hr => h2 _ (hm r ?_)⟩
    show (r : Int) < m
    omega
  · exact hm.elim
end
section
variable {P : Program} {w : World} {K : PySem.W.Frag} {mg : Str → Option Value} {base : Heap} {k : Nat} {x : Str} {st : Stmt} {ps : List Str}
theorem has_bad {F : List D → M D} (h0 : At K mg x st ps) (hF : ∀ ds E Q, ¬ F ds E Q) : Has P w K mg base k x st ps (spM F) := by
  obtain ⟨f, fd, hm, hF', hb⟩ := h0
  refine ⟨f, fd, hm, hF', hb, ⟨fun vs H Q E ⟨_, _, _, _, _, _, _, h, _⟩ => ?_, fun A outer s H args us vs Q E _ _ _ _ ⟨_, _, _, _, _, _, _, h, _⟩ => ?_⟩⟩
  all_goals
    obtain ⟨_, _, _, _, hm⟩ := h
    exact (hF _ _ _ hm).elim
theorem has_bad1 {f : D → M D} (h0 : At K mg x st ps) (hF : ∀ a, f a = bad) : Has P w K mg base k x st ps (spM (ap1 f)) := has_bad h0 fun ds E Q h => by
  match ds, h with | [a], h => (rw [show ap1 f [a] = f a from rfl, hF a] at h; exact h) | [], h => exact h | _ :: _ :: _, h => exact h
theorem has_bad2 {f : D → D → M D} (h0 : At K mg x st ps) (hF : ∀ a b, f a b = bad) : Has P w K mg base k x st ps (spM (ap2 f)) := has_bad h0 fun ds E Q h => by
  match ds, h with | [a, b], h => (rw [show ap2 f [a, b] = f a b from rfl, hF a b] at h; exact h) | [], h => exact h | [_], h => exact h | _ :: _ :: _ :: _, h => exact h
theorem has_bad3 {f : D → D → D → M D} (h0 : At K mg x st ps) (hF : ∀ a b c, f a b c = bad) : Has P w K mg base k x st ps (spM (ap3 f)) := has_bad h0 fun ds E Q h => by
  match ds, h with | [a, b, c], h => (rw [show ap3 f [a, b, c] = f a b c from rfl, hF a b c] at h; exact h) | [], h => exact h | [_], h => exact h | [_, _], h => exact h | _ :: _ :: _ :: _ :: _, h => exact h
theorem has_bad4 {f : D → D → D → D → M D} (h0 : At K mg x st ps) (hF : ∀ a b c d, f a b c d = bad) : Has P w K mg base k x st ps (spM (ap4 f)) := has_bad h0 fun ds E Q h => by
  match ds, h with | [a, b, c, d], h => (rw [show ap4 f [a, b, c, d] = f a b c d from rfl, hF a b c d] at h; exact h) | [], h => exact h | [_], h => exact h | [_, _], h => exact h | [_, _, _], h => exact h | _ :: _ :: _ :: _ :: _ :: _, h => exact h
end
end FL

/-! E7: functions worked out. -/
namespace FL
open PySem PySem.Spec L2 DL
section
variable {α β ρ τ : Type}
@[simp] theorem ite_t {γ : Type} (a b : γ) : (if true = true then a else b) = a := if_pos rfl
@[simp] theorem ite_f {γ : Type} (a b : γ) : (if false = true then a else b) = b := if_neg Bool.false_ne_true
@[simp] theorem isB_bl (b : Bool) (k : Bool → M α) : isB (.bl b) k = k b := mk_eq fun _ _ => rfl
@[simp] theorem isI_int (b : Int) (k : Int → M α) : isI (.int b) k = k b := mk_eq fun _ _ => rfl
@[simp] theorem isL_lst (b : List D) (k : List D → M α) : isL (.lst b) k = k b := mk_eq fun _ _ => rfl
@[simp] theorem tru_bl (b : Bool) : tru (.bl b) = ret b := mk_eq fun _ _ => rfl
@[simp] theorem tru_non : tru .non = ret false := mk_eq fun _ _ => rfl
@[simp] theorem tru_int (i : Int) : tru (.int i) = ret (i != 0) := mk_eq fun _ _ => rfl
@[simp] theorem tru_tup (xs : List D) : tru (.tup xs) = ret (!xs.isEmpty) := mk_eq fun _ _ => rfl
@[simp] theorem tru_lst (xs : List D) : tru (.lst xs) = ret (!xs.isEmpty) := mk_eq fun _ _ => rfl
@[simp] theorem ap0_e (f : M D) : ap0 f [] = f := mk_eq fun _ _ => rfl
@[simp] theorem ap1_e (f : D → M D) (a : D) : ap1 f [a] = f a := mk_eq fun _ _ => rfl
@[simp] theorem ap2_e (f : D → D → M D) (a b : D) : ap2 f [a, b] = f a b := mk_eq fun _ _ => rfl
@[simp] theorem ap3_e (f : D → D → D → M D) (a b c : D) : ap3 f [a, b, c] = f a b c := mk_eq fun _ _ => rfl
@[simp] theorem ap4_e (f : D → D → D → D → M D) (a b c d : D) : ap4 f [a, b, c, d] = f a b c d := mk_eq fun _ _ => rfl
@[simp] theorem ap5_e (f : D → D → D → D → D → M D) (a b c d e : D) : ap5 f [a, b, c, d, e] = f a b c d e := mk_eq fun _ _ => rfl
@[simp] theorem ap6_e (f : D → D → D → D → D → D → M D) (a b c d e g : D) : ap6 f [a, b, c, d, e, g] = f a b c d e g := mk_eq fun _ _ => rfl
@[simp] theorem ap7_e (f : D → D → D → D → D → D → D → M D) (a b c d e g h : D) : ap7 f [a, b, c, d, e, g, h] = f a b c d e g h := mk_eq fun _ _ => rfl
theorem sz {n : Nat} (h : n ≤ 1000000) : n ≤ sizeLine := le_sz h
@[simp] theorem req_sz (n : Nat) (m : M α) (h : n ≤ 1000000) : req (n ≤ sizeLine) m = m := req_t (le_sz h) m
@[simp] theorem req_lsz (n : Nat) (m : M α) (h : n ≤ 1000000) : req (n < sizeLine) m = m := req_t (lt_sz h) m
@[simp] theorem tupM_nil : tupM [] = ret (.tup []) := req_t (by decide) _
theorem tupM_ok {xs : List D} (h : xs.length ≤ 1000000) : tupM xs = ret (.tup xs) := req_t (le_sz h) _
theorem lstM_ok {xs : List D} (h : xs.length ≤ 1000000) : lstM xs = ret (.lst xs) := req_t (le_sz h) _
@[simp] theorem tupM_1 (a : D) : tupM [a] = ret (.tup [a]) := tupM_ok (by simp)
@[simp] theorem tupM_2 (a b : D) : tupM [a, b] = ret (.tup [a, b]) := tupM_ok (by simp)
@[simp] theorem tupM_3 (a b c : D) : tupM [a, b, c] = ret (.tup [a, b, c]) := tupM_ok (by simp)
@[simp] theorem tupM_4 (a b c d : D) : tupM [a, b, c, d] = ret (.tup [a, b, c, d]) := tupM_ok (by simp)
@[simp] theorem tupM_5 (a b c d e : D) : tupM [a, b, c, d, e] = ret (.tup [a, b, c, d, e]) := tupM_ok (by simp)
@[simp] theorem lstM_nil : lstM [] = ret (.lst []) := req_t (by decide) _
@[simp] theorem lstM_1 (a : D) : lstM [a] = ret (.lst [a]) := lstM_ok (by simp)
@[simp] theorem lstM_2 (a b : D) : lstM [a, b] = ret (.lst [a, b]) := lstM_ok (by simp)
@[simp] theorem lstM_3 (a b c : D) : lstM [a, b, c] = ret (.lst [a, b, c]) := lstM_ok (by simp)
@[simp] theorem lstM_4 (a b c d : D) : lstM [a, b, c, d] = ret (.lst [a, b, c, d]) := lstM_ok (by simp)
@[simp] theorem lstM_5 (a b c d e : D) : lstM [a, b, c, d, e] = ret (.lst [a, b, c, d, e]) := lstM_ok (by simp)
@[simp] theorem lstM_6 (a b c d e f : D) : lstM [a, b, c, d, e, f] = ret (.lst [a, b, c, d, e, f]) := lstM_ok (by simp)
@[simp] theorem lstM_7 (a b c d e f g : D) : lstM [a, b, c, d, e, f, g] = ret (.lst [a, b, c, d, e, f, g]) := lstM_ok (by simp)
@[simp] theorem itM_tup (xs : List D) : itM (.tup xs) = ret xs := mk_eq fun _ _ => rfl
@[simp] theorem itM_lst (xs : List D) : itM (.lst xs) = ret xs := mk_eq fun _ _ => rfl
@[simp] theorem itM_str (l : List Nat) : itM (.str (S l)) = ret (l.map fun c => D.str (S [c])) := by
  show ret (signs (S l)) = _
  rw [signs_S]
@[simp] theorem revM_lst (xs : List D) : revM (.lst xs) = ret (.lst xs.reverse) := mk_eq fun _ _ => rfl
@[simp] theorem un2_e (a b : D) : un2 (.tup [a, b]) = ret (a, b) := mk_eq fun _ _ => rfl
@[simp] theorem un3_e (a b c : D) : un3 (.tup [a, b, c]) = ret (a, b, c) := mk_eq fun _ _ => rfl
@[simp] theorem un12_e (a b c : D) : un12 (.tup [a, .tup [b, c]]) = ret (a, b, c) := mk_eq fun _ _ => rfl
/-! whole numbers -/
@[simp] theorem op_add_i (a b : Int) : op (qAdd false) (.int a) (.int b) = ret (.int (a + b)) := mk_eq fun _ _ => rfl
@[simp] theorem op_sub_i (a b : Int) : op qSub (.int a) (.int b) = ret (.int (a - b)) := mk_eq fun _ _ => rfl
theorem op_mul_i (a b : Int) (h : (-(2 ^ 64) < a ∧ a < 2 ^ 64) ∨ (-(2 ^ 64) < b ∧ b < 2 ^ 64)) : op (qMul false) (.int a) (.int b) = ret (.int (a * b)) := req_t (p := MulI a b) (.inl h) _
theorem op_fdiv_i (a b : Int) (h : 0 < b) (hj : b < 2 ^ 256) : op qFdiv (.int a) (.int b) = ret (.int (a / b)) := req_t (p := CDivW a b) (cdivW h hj) _
theorem op_mod_i (a b : Int) (h : 0 < b) : op qMod (.int a) (.int b) = ret (.int (a % b)) := req_t (p := 0 < b) h _
theorem op_pow_i (a : Int) (n : Nat) (h : a.natAbs < 2 ^ 64) (hn : n ≤ 1000) : op qPow (.int a) (.int n) = ret (.int (a ^ n)) := req_t (p := CPow a n) ⟨by omega, by omega, h⟩ _
theorem op_shl_i (a : Int) (n : Nat) (h : a.natAbs < 2 ^ 64) (hn : n ≤ 1000) : op qShl (.int a) (.int n) = ret (.int (a * 2 ^ n)) := req_t (p := CPow a n) ⟨by omega, by omega, h⟩ _
theorem op_shl_1 (n : Nat) (hn : n ≤ 1000) : op qShl (.int 1) (.int n) = ret (.int ((2 ^ n : Nat) : Int)) := by rw [op_shl_i 1 n (by decide) hn]; congr 2; push_cast; omega
theorem op_shl_2 (n : Nat) (hn : n ≤ 1000) : op qShl (.int 2) (.int n) = ret (.int ((2 * 2 ^ n : Nat) : Int)) := by rw [op_shl_i 2 n (by decide) hn]; congr 1
theorem op_xor_n (a b : Nat) : op qXor (.int a) (.int b) = ret (.int ((a ^^^ b : Nat) : Int)) := by
  show ret (D.int (Builtin.bitXor (a : Int) (b : Int))) = _
  rw [bitXor_nat]
@[simp] theorem op_lt_i (a b : Int) : op qLt (.int a) (.int b) = ret (.bl (decide (a < b))) := mk_eq fun _ _ => rfl
@[simp] theorem op_le_i (a b : Int) : op qLe (.int a) (.int b) = ret (.bl (decide (a ≤ b))) := mk_eq fun _ _ => rfl
@[simp] theorem op_gt_i (a b : Int) : op qGt (.int a) (.int b) = ret (.bl (decide (b < a))) := mk_eq fun _ _ => rfl
@[simp] theorem op_ge_i (a b : Int) : op qGe (.int a) (.int b) = ret (.bl (decide (b ≤ a))) := mk_eq fun _ _ => rfl
@[simp] theorem op_eq_i (a b : Int) : op (qEq false) (.int a) (.int b) = ret (.bl (decide (a = b))) := mk_eq fun _ _ => rfl
@[simp] theorem op_ne_i (a b : Int) : op (qEq true) (.int a) (.int b) = ret (.bl (!decide (a = b))) := mk_eq fun _ _ => rfl
@[simp] theorem op_eq_s (a b : Str) : op (qEq false) (.str a) (.str b) = ret (.bl (decide (a = b))) := mk_eq fun _ _ => rfl
@[simp] theorem op_ne_s (a b : Str) : op (qEq true) (.str a) (.str b) = ret (.bl (!decide (a = b))) := mk_eq fun _ _ => rfl
@[simp] theorem op_eq_b (a b : Bool) : op (qEq false) (.bl a) (.bl b) = ret (.bl (decide (a = b))) := mk_eq fun _ _ => rfl
@[simp] theorem op_ne_b (a b : Bool) : op (qEq true) (.bl a) (.bl b) = ret (.bl (!decide (a = b))) := mk_eq fun _ _ => rfl
theorem op_lt_s (a b : List Nat) : op qLt (.str (S a)) (.str (S b)) = ret (.bl (decide (a < b))) := rfl
@[simp] theorem op_isN (x : D) : op (qIsN false) x .non = ret (.bl (isNon x)) := mk_eq fun _ _ => rfl
@[simp] theorem op_isNN (x : D) : op (qIsN true) x .non = ret (.bl (!isNon x)) := mk_eq fun _ _ => rfl
@[simp] theorem op_isB (a b : Bool) : op (qIsB false) (.bl a) (.bl b) = ret (.bl (decide (a = b))) := mk_eq fun _ _ => rfl
@[simp] theorem op_isNB (a b : Bool) : op (qIsB true) (.bl a) (.bl b) = ret (.bl (!decide (a = b))) := mk_eq fun _ _ => rfl
@[simp] theorem un_neg_i (a : Int) : un qNeg (.int a) = ret (.int (-a)) := mk_eq fun _ _ => rfl
/-! equality of trees -/
theorem op_eq_ok {x y : D} (hx : okD x = true) (hy : okD y = true) (dx : dpD x ≤ 60) (dy : dpD y ≤ 60) (n : ¬ ∃ a b, x = .int a ∧ y = .int b) (n2 : ¬ ∃ a b, x = .str a ∧ y = .str b) (n3 : ¬ ∃ a b, x = .bl a ∧ y = .bl b) (neg : Bool) : op (qEq neg) x y = ret (.bl (if neg then !deq x y else deq x y)) := by
  have vx : dview G0 x = x := by cases x <;> rfl
  have vy : dview G0 y = y := by cases y <;> rfl
  have ex : eqOk (dview G0 x) := eqOk_of (by rw [vx]; exact hx) (by rw [vx]; omega)
  have ey : eqOk (dview G0 y) := eqOk_of (by rw [vy]; exact hy) (by rw [vy]; omega)
  funext E Q
  show qEq neg x y G0 (fun d _ => Q d) = Q _
  have go : (eqOk (dview G0 x) ∧ eqOk (dview G0 y) ∧ Q (.bl (if neg then !deq (dview G0 x) (dview G0 y) else deq (dview G0 x) (dview G0 y)))) = Q (.bl (if neg then !deq x y else deq x y)) := by
    rw [vx, vy] at *
    exact propext ⟨fun h => h.2.2, fun h => ⟨ex, ey, h⟩⟩
  rw [← go]
  unfold qEq
  split
  · exact (n ⟨_, _, rfl, rfl⟩).elim
  · exact (n2 ⟨_, _, rfl, rfl⟩).elim
  · exact (n3 ⟨_, _, rfl, rfl⟩).elim
  · rfl
/-! sequences -/
@[simp] theorem op_add_S (a b : List Nat) (h : a.length + b.length ≤ 1000000) : op (qAdd false) (.str (S a)) (.str (S b)) = ret (.str (S (a ++ b))) := by
  have e : op (qAdd false) (.str (S a)) (.str (S b)) = req ((S a).length + (S b).length ≤ sizeLine) (ret (.str (S a ++ S b))) := rfl
  rw [e, req_t (by rw [S_len, S_len]; exact le_sz h), S_app]
@[simp] theorem op_add_t (a b : List D) (h : a.length + b.length ≤ 1000000) : op (qAdd false) (.tup a) (.tup b) = ret (.tup (a ++ b)) := req_t (p := a.length + b.length ≤ sizeLine) (le_sz h) _
@[simp] theorem op_add_l (a b : List D) (h : a.length + b.length ≤ 1000000) : op (qAdd false) (.lst a) (.lst b) = ret (.lst (a ++ b)) := req_t (p := a.length + b.length ≤ sizeLine) (le_sz h) _
theorem op_mul_l (a : D) (n : Nat) (h : n ≤ 1000000) : op (qMul false) (.lst [a]) (.int n) = ret (.lst (List.replicate n a)) := by
  have e : op (qMul false) (.lst [a]) (.int n) = req (-(2 ^ 63) ≤ (n : Int) ∧ (n : Int) < 2 ^ 63 ∧ [a].length * (n : Int).toNat ≤ sizeLine) (ret (.lst (List.replicate (n : Int).toNat [a]).flatten)) := rfl
  have h2 : (n : Int).toNat = n := by omega
  rw [e, req_t ⟨by omega, by omega, by rw [h2, List.length_singleton, Nat.one_mul]; exact le_sz h⟩, h2, rep1]
theorem opN_of {q : Q2} {x y : D} {xs : List D} (h : op q x y = ret (.lst xs)) : opN q x y = ret xs := by
  funext E R
  have := congrFun (congrFun h (fun _ => False)) (fun d => ∃ ys, d = .lst ys ∧ R ys)
  exact this.trans (propext ⟨fun ⟨ys, e, r⟩ => by cases e; exact r, fun r => ⟨_, rfl, r⟩⟩)
theorem nopN_of {q : QN} {x : List D} {xs : List D} (h : nop q x = ret (.lst xs)) : nopN q x = ret xs := by
  funext E R
  have := congrFun (congrFun h (fun _ => False)) (fun d => ∃ ys, d = .lst ys ∧ R ys)
  exact this.trans (propext ⟨fun ⟨ys, e, r⟩ => by cases e; exact r, fun r => ⟨_, rfl, r⟩⟩)
theorem opN_mul (a : D) (n : Nat) (h : n ≤ 1000000) : opN (qMul false) (.lst [a]) (.int n) = ret (List.replicate n a) := opN_of (op_mul_l a n h)
theorem opN_add (a b : List D) (h : a.length + b.length ≤ 1000000) : opN (qAdd false) (.lst a) (.lst b) = ret (a ++ b) := opN_of (op_add_l a b h)
@[simp] theorem nop_len_t (xs : List D) : nop qLen [.tup xs] = ret (.int xs.length) := mk_eq fun _ _ => rfl
@[simp] theorem nop_len_l (xs : List D) : nop qLen [.lst xs] = ret (.int xs.length) := mk_eq fun _ _ => rfl
@[simp] theorem nop_len_S (l : List Nat) (h : l.length ≤ 1000000) : nop qLen [.str (S l)] = ret (.int l.length) := by
  have e : nop qLen [.str (S l)] = req ((S l).length ≤ sizeLine) (ret (.int (S l).length)) := rfl
  rw [e, req_t (by rw [S_len]; exact le_sz h), S_len]
theorem nop_len_s (z : Str) (h : z.length ≤ 1000000) : nop qLen [.str z] = ret (.int z.length) := req_t (p := z.length ≤ sizeLine) (le_sz h) _
@[simp] theorem nop_tuple_t (xs : List D) : nop qTuple [.tup xs] = ret (.tup xs) := mk_eq fun _ _ => rfl
@[simp] theorem nop_tuple_l (xs : List D) : nop qTuple [.lst xs] = ret (.tup xs) := mk_eq fun _ _ => rfl
@[simp] theorem nop_list_t (xs : List D) : nop (qList false) [.tup xs] = ret (.lst xs) := mk_eq fun _ _ => rfl
@[simp] theorem nop_list_l (xs : List D) : nop (qList false) [.lst xs] = ret (.lst xs) := mk_eq fun _ _ => rfl
@[simp] theorem nopN_list_t (xs : List D) : nopN (qList false) [.tup xs] = ret xs := nopN_of rfl
@[simp] theorem nopN_list_l (xs : List D) : nopN (qList false) [.lst xs] = ret xs := nopN_of rfl
@[simp] theorem nop_int_i (i : Int) : nop qInt [.int i] = ret (.int i) := mk_eq fun _ _ => rfl
@[simp] theorem nop_int_b (b : Bool) : nop qInt [.bl b] = ret (.int (if b then 1 else 0)) := mk_eq fun _ _ => rfl
theorem nop_int_bit {b : Nat} (hb : b < 2) : nop qInt [.str (S [48 + b])] = ret (.int (b : Int)) := by
  rcases (show b = 0 ∨ b = 1 by omega) with rfl | rfl
  · have e : nop qInt [.str (S [48])] = (match PySem.intText? (S [48]) with | some n => req ((S [48]).length ≤ 640) (ret (.int n)) | none => bad) := by
      funext E Q
      show (match PySem.intText? (S [48]) with | some n => (S [48]).length ≤ 640 ∧ Q (.int n) | none => False) = _
      cases PySem.intText? (S [48]) <;> rfl
    rw [show 48 + 0 = 48 from rfl, e, intT_0]
    exact req_t (by decide) _
  · have e : nop qInt [.str (S [49])] = (match PySem.intText? (S [49]) with | some n => req ((S [49]).length ≤ 640) (ret (.int n)) | none => bad) := by
      funext E Q
      show (match PySem.intText? (S [49]) with | some n => (S [49]).length ≤ 640 ∧ Q (.int n) | none => False) = _
      cases PySem.intText? (S [49]) <;> rfl
    rw [show 48 + 1 = 49 from rfl, e, intT_1]
    exact req_t (by decide) _
theorem nop_str_i (i : Int) (h : i.natAbs < 2 ^ 256) : nop qStr [.int i] = ret (.str (Str.ofString (toString i))) := req_t (p := i.natAbs.log2 < 1920) (Nat.lt_trans (log_lt h (by decide)) (by decide)) _
@[simp] theorem nop_max2 (i j : Int) : nop qMax2 [.int i, .int j] = ret (.int (max i j)) := by
  show ret (D.int (if j > i then j else i)) = _
  congr 2; omega
@[simp] theorem nop_min2 (i j : Int) : nop qMin2 [.int i, .int j] = ret (.int (min i j)) := by
  show ret (D.int (if j < i then j else i)) = _
  congr 2; omega
@[simp] theorem nop_abs (i : Int) : nop qAbs [.int i] = ret (.int (if i < 0 then -i else i)) := mk_eq fun _ _ => rfl
theorem isi_ty {x : D} {T t : String} {b : Bool} (h : tyD G0 x = some t) (k : kitB t T = some b) : nop qIsi [x, .ty T] = ret (.bl b) := by
  funext E Q
  show (match isTy G0 x T with | some b => Q (.bl b) | none => False) = Q (.bl b)
  have e : isTy G0 x T = some b := by unfold isTy; rw [h]; exact k
  rw [e]
@[simp] theorem isi_int_i (i : Int) : nop qIsi [.int i, .ty "int"] = ret (.bl true) := isi_ty (t := "int") rfl kb_ii
@[simp] theorem isi_int_b (i : Int) : nop qIsi [.int i, .ty "bool"] = ret (.bl false) := isi_ty (t := "int") rfl kb_ib
theorem dseq_sum {x : D} {ns : List Int} (h : dseq G0 x = some (ns.map D.int)) : nop qSum [x] = ret (.int ns.sum) := by
  funext E Q
  show (match (dseq G0 x).bind intsOf with | some ns => Q (.int ns.sum) | none => False) = _
  rw [h, Option.bind_some, intsOf_map]; rfl
theorem nop_all_b (bs : List Bool) : nop qAll [.lst (bs.map D.bl)] = ret (.bl (bs.all id)) := by
  funext E Q
  show (match (dlst G0 (.lst (bs.map D.bl))).bind blsOf with | some ns => Q (.bl (ns.all id)) | none => False) = _
  show (match blsOf (bs.map D.bl) with | some ns => Q (.bl (ns.all id)) | none => False) = _
  rw [blsOf_map]; rfl
theorem nop_any_b (bs : List Bool) : nop qAny [.lst (bs.map D.bl)] = ret (.bl (bs.any id)) := by
  funext E Q
  show (match blsOf (bs.map D.bl) with | some ns => Q (.bl (ns.any id)) | none => False) = _
  rw [blsOf_map]; rfl
theorem nop_all_m (xs : List α) (p : α → Bool) : nop qAll [.lst (xs.map fun x => D.bl (p x))] = ret (.bl (xs.all p)) := by
  have := nop_all_b (xs.map p)
  rw [List.map_map] at this
  rw [show (xs.map fun x => D.bl (p x)) = xs.map (D.bl ∘ p) from rfl, this, List.all_map]; rfl
theorem nop_any_m (xs : List α) (p : α → Bool) : nop qAny [.lst (xs.map fun x => D.bl (p x))] = ret (.bl (xs.any p)) := by
  have := nop_any_b (xs.map p)
  rw [List.map_map] at this
  rw [show (xs.map fun x => D.bl (p x)) = xs.map (D.bl ∘ p) from rfl, this, List.any_map]; rfl
theorem ix_t {xs : List D} {i : Int} {d : D} (h : L2.atI xs i = some d) : op qIx (.tup xs) (.int i) = ret d := by
  funext E Q
  show (match L2.atI xs i with | some d => Q d | none => False) = Q d
  rw [h]
theorem ix_l {xs : List D} {i : Int} {d : D} (h : L2.atI xs i = some d) : op qIx (.lst xs) (.int i) = ret d := by
  funext E Q
  show (match L2.atI xs i with | some d => Q d | none => False) = Q d
  rw [h]
theorem ix_tn {xs : List D} {i : Nat} {d : D} (h : xs[i]? = some d) : op qIx (.tup xs) (.int (i : Int)) = ret d := ix_t (DL.atI_nat h)
theorem ix_ln {xs : List D} {i : Nat} {d : D} (h : xs[i]? = some d) : op qIx (.lst xs) (.int (i : Int)) = ret d := ix_l (DL.atI_nat h)
@[simp] theorem ix_t0 (a : D) (xs : List D) : op qIx (.tup (a :: xs)) (.int 0) = ret a := ix_tn (i := 0) rfl
@[simp] theorem ix_t1 (a b : D) (xs : List D) : op qIx (.tup (a :: b :: xs)) (.int 1) = ret b := ix_tn (i := 1) rfl
@[simp] theorem ix_t2 (a b c : D) (xs : List D) : op qIx (.tup (a :: b :: c :: xs)) (.int 2) = ret c := ix_tn (i := 2) rfl
@[simp] theorem ix_t3 (a b c d : D) (xs : List D) : op qIx (.tup (a :: b :: c :: d :: xs)) (.int 3) = ret d := ix_tn (i := 3) rfl
@[simp] theorem ix_t4 (a b c d e : D) (xs : List D) : op qIx (.tup (a :: b :: c :: d :: e :: xs)) (.int 4) = ret e := ix_tn (i := 4) rfl
@[simp] theorem ix_l0 (a : D) (xs : List D) : op qIx (.lst (a :: xs)) (.int 0) = ret a := ix_ln (i := 0) rfl
@[simp] theorem ix_l1 (a b : D) (xs : List D) : op qIx (.lst (a :: b :: xs)) (.int 1) = ret b := ix_ln (i := 1) rfl
@[simp] theorem ix_l2 (a b c : D) (xs : List D) : op qIx (.lst (a :: b :: c :: xs)) (.int 2) = ret c := ix_ln (i := 2) rfl
@[simp] theorem ix_l3 (a b c d : D) (xs : List D) : op qIx (.lst (a :: b :: c :: d :: xs)) (.int 3) = ret d := ix_ln (i := 3) rfl
theorem ix_last {xs : List D} {d : D} : op qIx (.lst (xs ++ [d])) (.int (-1)) = ret d := ix_l atI_last
/-- e[i] of a row told by a function -/
theorem ix_map {xs : List α} {f : α → D} {i : Nat} {a : α} (h : xs[i]? = some a) : op qIx (.tup (xs.map f)) (.int (i : Int)) = ret (f a) := ix_tn (by rw [List.getElem?_map, h]; rfl)
theorem ix_mapl {xs : List α} {f : α → D} {i : Nat} {a : α} (h : xs[i]? = some a) : op qIx (.lst (xs.map f)) (.int (i : Int)) = ret (f a) := ix_ln (by rw [List.getElem?_map, h]; rfl)
theorem slT (xs : List D) (lo hi : Option Int) : sop (qSl false) (.tup xs) lo hi = ret (.tup (cutL xs lo hi)) := rfl
theorem slL (xs : List D) (lo hi : Option Int) : sop (qSl false) (.lst xs) lo hi = ret (.lst (cutL xs lo hi)) := rfl
theorem in_sign {c : Nat} {l : List Nat} (neg : Bool) : op (qIn neg) (.str (S [c])) (.str (S l)) = ret (.bl (if neg then !decide (c ∈ l) else decide (c ∈ l))) := rfl
/-! ranges -/
theorem rng1_n {n : Nat} (h : n < 2 ^ 60) : rng1 [.int (n : Int)] = ret ((List.range n).map nI) := by
  have e : rng1 [D.int (n : Int)] = req (smallI n) (ret (rngD 0 1 (n : Int).toNat)) := rfl
  rw [e, req_t ⟨by omega, by omega⟩, show (n : Int).toNat = n by omega, rngD_nat]; rfl
theorem rng1_i {i : Int} {n : Nat} (e : i = (n : Int)) (h : n < 2 ^ 60) : rng1 [.int i] = ret ((List.range n).map nI) := by rw [e]; exact rng1_n h
theorem rng2_n {m n : Nat} (hn : n < 2 ^ 60) (hm : m ≤ n) : rng2 [.int (m : Int), .int (n : Int)] = ret ((List.range (n - m)).map fun k => nI (m + k)) := by
  have e : rng2 [.int (m : Int), .int (n : Int)] = req (smallI m ∧ smallI n) (ret (rngD m 1 ((n : Int) - m).toNat)) := rfl
  rw [e, req_t ⟨⟨by omega, by omega⟩, ⟨by omega, by omega⟩⟩, show ((n : Int) - m).toNat = n - m by omega]
  unfold rngD
  congr 1
  exact List.map_congr_left fun k _ => by unfold nI; congr 1; push_cast; omega
/-! maps -/
theorem mapA_ret {f : α → M β} {g : α → β} : ∀ {xs : List α}, (∀ x ∈ xs, f x = ret (g x)) → mapA f xs = ret (xs.map g)
  | [], _ => rfl
  | x :: xs, h => by
    show bnd (f x) (fun y => bnd (mapA f xs) fun ys => ret (y :: ys)) = _
    rw [h x List.mem_cons_self, mapA_ret fun y hy => h y (List.mem_cons_of_mem _ hy)]; rfl
theorem mapA_map {γ : Type} (f : γ → M β) (r : α → γ) : ∀ xs : List α, mapA f (xs.map r) = mapA (fun x => f (r x)) xs
  | [] => rfl
  | x :: xs => by
    show bnd (f (r x)) (fun y => bnd (mapA f (xs.map r)) fun ys => ret (y :: ys)) = _
    rw [mapA_map f r xs]; rfl
theorem mapA_rep {γ : Type} {f : γ → M β} (r : α → γ) (g : α → β) {xs : List α} (h : ∀ x ∈ xs, f (r x) = ret (g x)) : mapA f (xs.map r) = ret (xs.map g) := by rw [mapA_map]; exact mapA_ret h
theorem mapA_congr {f g : α → M β} : ∀ {xs : List α}, (∀ x ∈ xs, f x = g x) → mapA f xs = mapA g xs
  | [], _ => rfl
  | x :: xs, h => by
    show bnd (f x) (fun y => bnd (mapA f xs) fun ys => ret (y :: ys)) = _
    rw [h x List.mem_cons_self, mapA_congr fun y hy => h y (List.mem_cons_of_mem _ hy)]; rfl
@[simp] theorem mapA_noX (f : α → M β) : ∀ xs : List α, noX (mapA f xs) = mapA (fun x => noX (f x)) xs
  | [] => rfl
  | x :: xs => by
    show bnd (noX (f x)) (fun y => bnd (noX (mapA f xs)) fun ys => ret (y :: ys)) = _
    rw [mapA_noX f xs]; rfl
@[simp] theorem filA_noX (p : α → M Bool) (f : α → M β) : ∀ xs : List α, noX (filA p f xs) = filA (fun x => noX (p x)) (fun x => noX (f x)) xs
  | [] => rfl
  | x :: xs => by
    show bnd (noX (p x)) (fun b => noX (if b = true then bnd (f x) fun y => bnd (filA p f xs) fun ys => ret (y :: ys) else filA p f xs)) = bnd (noX (p x)) (fun b => if b = true then bnd (noX (f x)) fun y => bnd (filA (fun x => noX (p x)) (fun x => noX (f x)) xs) fun ys => ret (y :: ys) else filA (fun x => noX (p x)) (fun x => noX (f x)) xs)
    congr 1
    funext b
    cases b with
    | true => show bnd (noX (f x)) (fun y => bnd (noX (filA p f xs)) fun ys => ret (y :: ys)) = _; rw [filA_noX p f xs]; rfl
    | false => exact filA_noX p f xs
theorem filA_ret {p : α → M Bool} {f : α → M β} {q : α → Bool} {g : α → β} : ∀ {xs : List α}, (∀ x ∈ xs, p x = ret (q x)) → (∀ x ∈ xs, q x = true → f x = ret (g x)) → filA p f xs = ret ((xs.filter q).map g)
  | [], _, _ => rfl
  | x :: xs, h1, h2 => by
    show bnd (p x) (fun b => if b = true then bnd (f x) fun y => bnd (filA p f xs) fun ys => ret (y :: ys) else filA p f xs) = _
    rw [h1 x List.mem_cons_self, filA_ret (fun y hy => h1 y (List.mem_cons_of_mem _ hy)) (fun y hy => h2 y (List.mem_cons_of_mem _ hy))]
    cases e : q x with
    | true => rw [bnd_ret, if_pos rfl, h2 x List.mem_cons_self e, List.filter_cons_of_pos e]; rfl
    | false => rw [bnd_ret, if_neg (by simp), List.filter_cons_of_neg (by simp [e])]
theorem filA_map {γ : Type} (p : γ → M Bool) (f : γ → M β) (r : α → γ) : ∀ xs : List α, filA p f (xs.map r) = filA (fun x => p (r x)) (fun x => f (r x)) xs
  | [] => rfl
  | x :: xs => by
    show bnd (p (r x)) (fun b => if b = true then bnd (f (r x)) fun y => bnd (filA p f (xs.map r)) fun ys => ret (y :: ys) else filA p f (xs.map r)) = _
    rw [filA_map p f r xs]; rfl
theorem filA_rep {γ : Type} {p : γ → M Bool} {f : γ → M β} (r : α → γ) (q : α → Bool) (g : α → β) {xs : List α} (h1 : ∀ x ∈ xs, p (r x) = ret (q x)) (h2 : ∀ x ∈ xs, q x = true → f (r x) = ret (g x)) : filA p f (xs.map r) = ret ((xs.filter q).map g) := by rw [filA_map]; exact filA_ret h1 h2
theorem mapU_rep {γ : Type} {u : D → M γ} {f : γ → M β} (r : α → D) (v : α → γ) : ∀ {xs : List α}, (∀ x ∈ xs, u (r x) = ret (v x)) → mapU u f (xs.map r) = mapA (fun x => f (v x)) xs
  | [], _ => rfl
  | x :: xs, h => by
    show bnd (u (r x)) (fun a => bnd (f a) fun y => bnd (mapU u f (xs.map r)) fun ys => ret (y :: ys)) = _
    rw [h x List.mem_cons_self, mapU_rep r v fun y hy => h y (List.mem_cons_of_mem _ hy)]; rfl
theorem filU_rep {γ : Type} {u : D → M γ} {p : γ → M Bool} {f : γ → M β} (r : α → D) (v : α → γ) : ∀ {xs : List α}, (∀ x ∈ xs, u (r x) = ret (v x)) → filU u p f (xs.map r) = filA (fun x => p (v x)) (fun x => f (v x)) xs
  | [], _ => rfl
  | x :: xs, h => by
    show bnd (u (r x)) (fun a => bnd (p a) fun b => if b = true then bnd (f a) fun y => bnd (filU u p f (xs.map r)) fun ys => ret (y :: ys) else filU u p f (xs.map r)) = _
    rw [h x List.mem_cons_self, filU_rep r v fun y hy => h y (List.mem_cons_of_mem _ hy)]; rfl
theorem mapU_2 {f : D × D → M β} (A B : α → D) (xs : List α) : mapU un2 f (xs.map fun a => .tup [A a, B a]) = mapA (fun x => f (A x, B x)) xs := mapU_rep _ (fun x => (A x, B x)) fun _ _ => rfl
theorem filU_2 {p : D × D → M Bool} {f : D × D → M β} (A B : α → D) (xs : List α) : filU un2 p f (xs.map fun a => .tup [A a, B a]) = filA (fun x => p (A x, B x)) (fun x => f (A x, B x)) xs := filU_rep _ (fun x => (A x, B x)) fun _ _ => rfl
theorem zip_maps {A : α → D} {B : β → D} {x y : D} {xs : List α} {ys : List β} (hx : itD x = some (xs.map A)) (hy : itD y = some (ys.map B)) : zipM [x, y] = ret ((xs.zip ys).map fun a => .tup [A a.1, B a.2]) := by
  unfold zipM
  simp only [hx, hy, zipD_zip]
theorem enum_maps {A : α → D} {x : D} {xs : List α} (d0 : α) (hx : itD x = some (xs.map A)) : enumM [x] = ret ((List.range xs.length).map fun i => .tup [.int (i : Nat), A ((xs[i]?).getD d0)]) := by
  unfold enumM
  simp only [hx, enum_rng A d0]
/-! two clauses -/
theorem lccI_rep {v : D → M β} {f : β → M D} {γ : Type} (r : γ → D) (w : γ → β) (g : γ → D) : ∀ {ys : List γ} {acc : List D}, (∀ y ∈ ys, v (r y) = ret (w y)) → (∀ y ∈ ys, f (w y) = ret (g y)) → acc.length + ys.length ≤ 1000000 → lccI v (fun _ => ret true) f (ys.map r) acc = ret (acc ++ ys.map g)
  | [], acc, _, _, _ => by show ret acc = _; simp
  | y :: ys, acc, h1, h2, hz => by
    show bnd (v (r y)) (fun a => bnd (ret true) fun b => if b = true then bnd (f a) fun z => req (acc.length < sizeLine) (lccI v (fun _ => ret true) f (ys.map r) (acc ++ [z])) else lccI v (fun _ => ret true) f (ys.map r) acc) = _
    simp only [List.length_cons] at hz
    rw [h1 y List.mem_cons_self, bnd_ret, bnd_ret, if_pos rfl, h2 y List.mem_cons_self, bnd_ret, req_t (lt_sz (by omega)),
      lccI_rep r w g (fun z hz => h1 z (List.mem_cons_of_mem _ hz)) (fun z hz => h2 z (List.mem_cons_of_mem _ hz)) (by simp; omega)]
    simp
theorem lccU_rep {α' β' γ δ : Type} {u : D → M α'} {mi : α' → M (List D)} {v : D → M β'} {f : α' → β' → M D} (r : γ → D) (w : γ → α') (ys : γ → List δ) (r2 : δ → D) (w2 : δ → β') (g : γ → δ → D) : ∀ {xs : List γ} {acc : List D}, (∀ x ∈ xs, u (r x) = ret (w x)) → (∀ x ∈ xs, mi (w x) = ret ((ys x).map r2)) → (∀ x ∈ xs, ∀ y ∈ ys x, v (r2 y) = ret (w2 y)) → (∀ x ∈ xs, ∀ y ∈ ys x, f (w x) (w2 y) = ret (g x y)) → acc.length + (xs.flatMap fun x => (ys x).map (g x)).length ≤ 1000000 → lccU u (fun _ => ret true) mi v (fun _ _ => ret true) f (xs.map r) acc = ret (acc ++ xs.flatMap fun x => (ys x).map (g x))
  | [], acc, _, _, _, _, _ => by show ret acc = _; simp
  | x :: xs, acc, h1, h2, h3, h4, hz => by
    show bnd (u (r x)) (fun a => bnd (ret true) fun b => if b = true then bnd (mi a) fun ys => bnd (lccI v (fun _ => ret true) (f a) ys acc) fun acc' => lccU u (fun _ => ret true) mi v (fun _ _ => ret true) f (xs.map r) acc' else lccU u (fun _ => ret true) mi v (fun _ _ => ret true) f (xs.map r) acc) = _
    rw [List.flatMap_cons, List.length_append, List.length_map] at hz
    rw [h1 x List.mem_cons_self, bnd_ret, bnd_ret, if_pos rfl, h2 x List.mem_cons_self, bnd_ret, lccI_rep r2 w2 (g x) (h3 x List.mem_cons_self) (h4 x List.mem_cons_self) (by omega), bnd_ret,
      lccU_rep r w ys r2 w2 g (fun z hz => h1 z (List.mem_cons_of_mem _ hz)) (fun z hz => h2 z (List.mem_cons_of_mem _ hz)) (fun z hz => h3 z (List.mem_cons_of_mem _ hz)) (fun z hz => h4 z (List.mem_cons_of_mem _ hz)) (by rw [List.length_append, List.length_map]; omega)]
    rw [List.flatMap_cons, List.append_assoc]
theorem lccI_noX {β : Type} (v : D → M β) (q : β → M Bool) (f : β → M D) : ∀ (ys acc : List D), noX (lccI v q f ys acc) = lccI (fun x => noX (v x)) (fun x => noX (q x)) (fun x => noX (f x)) ys acc
  | [], acc => rfl
  | y :: ys, acc => by
    show bnd (noX (v y)) (fun a => bnd (noX (q a)) fun b => noX (if b = true then bnd (f a) fun z => req (acc.length < sizeLine) (lccI v q f ys (acc ++ [z])) else lccI v q f ys acc)) = bnd (noX (v y)) (fun a => bnd (noX (q a)) fun b => if b = true then bnd (noX (f a)) fun z => req (acc.length < sizeLine) (lccI (fun x => noX (v x)) (fun x => noX (q x)) (fun x => noX (f x)) ys (acc ++ [z])) else lccI (fun x => noX (v x)) (fun x => noX (q x)) (fun x => noX (f x)) ys acc)
    congr 1; funext a; congr 1; funext b
    cases b with
    | true => rw [if_pos rfl, if_pos rfl]; show bnd (noX (f a)) (fun z => req _ (noX (lccI v q f ys (acc ++ [z])))) = _; congr 1; funext z; rw [lccI_noX v q f ys]
    | false => exact lccI_noX v q f ys acc
theorem lccU_noX {α β : Type} (u : D → M α) (p : α → M Bool) (mi : α → M (List D)) (v : D → M β) (q : α → β → M Bool) (f : α → β → M D) : ∀ (xs acc : List D), noX (lccU u p mi v q f xs acc) = lccU (fun x => noX (u x)) (fun x => noX (p x)) (fun x => noX (mi x)) (fun x => noX (v x)) (fun x y => noX (q x y)) (fun x y => noX (f x y)) xs acc
  | [], acc => rfl
  | x :: xs, acc => by
    show bnd (noX (u x)) (fun a => bnd (noX (p a)) fun b => noX (if b = true then bnd (mi a) fun ys => bnd (lccI v (q a) (f a) ys acc) fun acc' => lccU u p mi v q f xs acc' else lccU u p mi v q f xs acc)) = bnd (noX (u x)) (fun a => bnd (noX (p a)) fun b => if b = true then bnd (noX (mi a)) fun ys => bnd (lccI (fun x => noX (v x)) (fun y => noX (q a y)) (fun y => noX (f a y)) ys acc) fun acc' => lccU (fun x => noX (u x)) (fun x => noX (p x)) (fun x => noX (mi x)) (fun x => noX (v x)) (fun x y => noX (q x y)) (fun x y => noX (f x y)) xs acc' else lccU (fun x => noX (u x)) (fun x => noX (p x)) (fun x => noX (mi x)) (fun x => noX (v x)) (fun x y => noX (q x y)) (fun x y => noX (f x y)) xs acc)
    congr 1; funext a; congr 1; funext b
    cases b with
    | true =>
      rw [if_pos rfl, if_pos rfl]
      show bnd (noX (mi a)) (fun ys => bnd (noX (lccI v (q a) (f a) ys acc)) fun acc' => noX (lccU u p mi v q f xs acc')) = _
      congr 1; funext ys; rw [lccI_noX]; congr 1; funext acc'; rw [lccU_noX u p mi v q f xs]
    | false => exact lccU_noX u p mi v q f xs acc
/-! loops -/
@[simp] theorem loopR_nil (body : D → τ → (τ → M ρ) → (τ → M ρ) → M ρ) (s : τ) (k : τ → M ρ) : loopR body [] s k = k s := mk_eq fun _ _ => rfl
@[simp] theorem loopR_cons (body : D → τ → (τ → M ρ) → (τ → M ρ) → M ρ) (x : D) (xs : List D) (s : τ) (k : τ → M ρ) : loopR body (x :: xs) s k = body x s (fun s' => loopR body xs s' k) k := mk_eq fun _ _ => rfl
/-- each turn goes on: a fold -/
theorem loop_fold {body : D → τ → (τ → M ρ) → (τ → M ρ) → M ρ} (r : α → D) (g : τ → α → τ) (I : τ → Prop) {k : τ → M ρ} : ∀ {xs : List α} {s : τ}, I s → (∀ x ∈ xs, ∀ s nx bk, I s → body (r x) s nx bk = nx (g s x)) → (∀ x ∈ xs, ∀ s, I s → I (g s x)) → loopR body (xs.map r) s k = k (xs.foldl g s)
  | [], s, _, _, _ => rfl
  | x :: xs, s, hi, h, hs => by
    show body (r x) s (fun s' => loopR body (xs.map r) s' k) k = _
    rw [h x List.mem_cons_self s _ _ hi]
    exact loop_fold r g I (hs x List.mem_cons_self s hi) (fun y hy => h y (List.mem_cons_of_mem _ hy)) (fun y hy => hs y (List.mem_cons_of_mem _ hy))
/-- .. told by the number of turns -/
theorem loop_st {body : D → τ → (τ → M ρ) → (τ → M ρ) → M ρ} {k : τ → M ρ} (r : α → D) (st : Nat → τ) : ∀ (xs : List α) (j : Nat), (∀ (i : Nat) (x : α), xs[i]? = some x → ∀ nx bk, body (r x) (st (j + i)) nx bk = nx (st (j + i + 1))) → loopR body (xs.map r) (st j) k = k (st (j + xs.length))
  | [], j, _ => rfl
  | x :: xs, j, h => by
    show body (r x) (st j) (fun s' => loopR body (xs.map r) s' k) k = _
    have h0 := h 0 x rfl (fun s' => loopR body (xs.map r) s' k) k
    rw [Nat.add_zero] at h0
    rw [h0, loop_st r st xs (j + 1) fun i y hy nx bk => by
      have := h (i + 1) y (by simpa using hy) nx bk
      rw [show j + (i + 1) = j + 1 + i by omega] at this; exact this]
    rw [List.length_cons, show j + 1 + xs.length = j + (xs.length + 1) by omega]
theorem loop_rng {body : D → τ → (τ → M ρ) → (τ → M ρ) → M ρ} {k : τ → M ρ} {n : Nat} (st : Nat → τ) (h : ∀ i, i < n → ∀ nx bk, body (nI i) (st i) nx bk = nx (st (i + 1))) : loopR body ((List.range n).map nI) (st 0) k = k (st n) := by
  have := loop_st (body := body) (k := k) nI st (List.range n) 0 fun i x hx nx bk => by
    obtain ⟨hi, e⟩ := List.getElem?_eq_some_iff.mp hx
    have hi' : i < n := by simpa using hi
    have ex : x = i := by rw [← e]; simp
    rw [Nat.zero_add, ex]; exact h i hi' nx bk
  rw [this]; simp
/-- all is well, or the first that is not ends it -/
theorem loop_all {body : D → Unit → (Unit → M ρ) → (Unit → M ρ) → M ρ} {k : Unit → M ρ} (r : α → D) (p : α → Bool) (m : M ρ) : ∀ {xs : List α}, (∀ x ∈ xs, ∀ nx bk, body (r x) () nx bk = if p x = true then nx () else m) → loopR body (xs.map r) () k = if xs.all p = true then k () else m
  | [], _ => rfl
  | x :: xs, h => by
    show body (r x) () (fun s' => loopR body (xs.map r) s' k) k = _
    rw [h x List.mem_cons_self, loop_all r p m fun y hy => h y (List.mem_cons_of_mem _ hy), List.all_cons]
    cases p x <;> simp
/-- all turns go on -/
theorem loop_unit {body : D → Unit → (Unit → M ρ) → (Unit → M ρ) → M ρ} {k : Unit → M ρ} (r : α → D) {xs : List α} (h : ∀ x ∈ xs, ∀ nx bk, body (r x) () nx bk = nx ()) : loopR body (xs.map r) () k = k () := by
  have := loop_fold (τ := Unit) (k := k) r (fun _ _ => ()) (fun _ => True) (xs := xs) (s := ()) trivial (fun x hx s nx bk _ => h x hx nx bk) (fun _ _ _ _ => trivial)
  rw [this]
/-! draws -/
theorem take_n (m : Nat) (h : 0 < m) : takeF [.int (m : Int)] = bnd (anyM fun r : Nat => r < m) fun r => ret (nI r) := by
  have e : takeF [.int (m : Int)] = req ((0 : Int) < m) (bnd (anyM fun r : Nat => (r : Int) < (m : Int)) fun r => ret (.int (r : Int))) := rfl
  rw [e, req_t (by omega)]
  have : (fun r : Nat => (r : Int) < (m : Int)) = fun r : Nat => r < m := by funext r; exact propext (by omega)
  rw [this]; rfl
theorem any_w {p : α → Prop} {f : α → M β} {E : Exc → Prop} {Q : β → Prop} (h : ∀ a, p a → f a E Q) : bnd (anyM p) f E Q := h
theorem wp_eq {m m' : M α} {E : Exc → Prop} {Q : α → Prop} (e : m = m') (h : m' E Q) : m E Q := e ▸ h
end
end FL

/-! E8: shapes that are met often: equality, the laws' own comparisons. -/
namespace FL
open PySem PySem.Spec L2 DL
theorem okD_tup {xs : List D} : okD (.tup xs) = xs.all okD := by rw [← okDs_all]; rfl
theorem okD_lst {xs : List D} : okD (.lst xs) = xs.all okD := by rw [← okDs_all]; rfl
theorem dpD_tup {xs : List D} {n : Nat} (h : ∀ d ∈ xs, dpD d ≤ n) : dpD (.tup xs) ≤ n + 1 := by
  have := dpDs_le h
  show dpDs xs + 1 ≤ n + 1
  omega
theorem dpD_lst {xs : List D} {n : Nat} (h : ∀ d ∈ xs, dpD d ≤ n) : dpD (.lst xs) ≤ n + 1 := by
  have := dpDs_le h
  show dpDs xs + 1 ≤ n + 1
  omega
theorem eq_tt {xs ys : List D} (hx : okD (.tup xs) = true) (hy : okD (.tup ys) = true) (dx : dpD (.tup xs) ≤ 60) (dy : dpD (.tup ys) ≤ 60) (neg : Bool) : op (qEq neg) (.tup xs) (.tup ys) = ret (.bl (if neg then !deq (.tup xs) (.tup ys) else deq (.tup xs) (.tup ys))) :=
  op_eq_ok hx hy dx dy (fun ⟨_, _, h, _⟩ => by cases h) (fun ⟨_, _, h, _⟩ => by cases h) (fun ⟨_, _, h, _⟩ => by cases h) neg
theorem ok_bD {n v : Nat} : okD (bD n v) = true := okS fun c hc => by rcases bsl_mem hc with rfl | rfl <;> decide
theorem ok_tupB {n : Nat} {vs : List Nat} : okD (tupB n vs) = true := by unfold tupB; rw [okD_tup, List.all_map, List.all_eq_true]; exact fun _ _ => ok_bD
theorem dp_tupB {n : Nat} {vs : List Nat} : dpD (tupB n vs) ≤ 1 := dpD_tup (n := 0) fun d hd => by
  obtain ⟨v, _, rfl⟩ := List.mem_map.mp hd; exact Nat.le_refl _
theorem deq_tupB {n : Nat} {a b : List Nat} (ha : ∀ v ∈ a, v < 2 ^ n) (hb : ∀ v ∈ b, v < 2 ^ n) : deq (tupB n a) (tupB n b) = decide (a = b) := by
  unfold deq tupB toPy PyData.eqv
  have h1 : ∀ l : List Nat, l.map (bD n) = (l.map fun v => S (bsl n v)).map D.str := fun l => by rw [List.map_map]; rfl
  rw [h1, h1, deq_strs]
  exact decide_eq_decide.mpr ⟨fun e => bs_inj ha hb e, fun e => by rw [e]⟩
theorem eq_tupB {n : Nat} {a b : List Nat} (ha : ∀ v ∈ a, v < 2 ^ n) (hb : ∀ v ∈ b, v < 2 ^ n) (neg : Bool) : op (qEq neg) (tupB n a) (tupB n b) = ret (.bl (if neg then !decide (a = b) else decide (a = b))) := by
  have := eq_tt (xs := a.map (bD n)) (ys := b.map (bD n)) ok_tupB ok_tupB (Nat.le_trans dp_tupB (by decide)) (Nat.le_trans dp_tupB (by decide)) neg
  rw [show deq (.tup (a.map (bD n))) (.tup (b.map (bD n))) = decide (a = b) from deq_tupB ha hb] at this
  exact this
theorem eq_bD {n a b : Nat} (ha : a < 2 ^ n) (hb : b < 2 ^ n) (neg : Bool) : op (qEq neg) (bD n a) (bD n b) = ret (.bl (if neg then !decide (a = b) else decide (a = b))) := by
  have e : decide (S (bsl n a) = S (bsl n b)) = decide (a = b) := decide_eq_decide.mpr (S_inj.trans (bsl_inj ha hb))
  unfold bD
  cases neg
  · rw [op_eq_s, e]; rfl
  · rw [op_ne_s, e]; rfl
theorem bool_false_not_in (n : Nat) {α : Type} (xs : List α) : op (qIn true) (.bl false) (.lst (xs.map fun _ => D.bl true)) = ret (.bl true) := by
  funext E Q
  show (match dseq G0 (.lst (xs.map fun _ => D.bl true)) with
    | some ys => (flatD (.bl false) = true ∧ ys.all flatD = true) ∧ Q (.bl (if true then !(ys.any fun z => eqF z (.bl false)) else ys.any fun z => eqF z (.bl false)))
    | none => False) = Q (.bl true)
  show ((flatD (.bl false) = true ∧ (xs.map fun _ => D.bl true).all flatD = true) ∧ Q (.bl (!((xs.map fun _ => D.bl true).any fun z => eqF z (.bl false))))) = Q (.bl true)
  have e : ((xs.map fun _ => D.bl true).any fun z => eqF z (.bl false)) = false := by
    rw [List.any_map, List.any_eq_false]; intro _ _ h; cases h
  have e2 : (xs.map fun _ => D.bl true).all flatD = true := by rw [List.all_map, List.all_eq_true]; exact fun _ _ => rfl
  rw [e, e2]
  exact propext ⟨fun h => h.2, fun h => ⟨⟨rfl, rfl⟩, h⟩⟩
theorem str_bit {b : Nat} (h : b < 2) : Str.ofString (toString (b : Int)) = S [48 + b] := by
  rcases (show b = 0 ∨ b = 1 by omega) with rfl | rfl
  · decide +kernel
  · decide +kernel
/-- the caught error's tag: word + "0" -/
theorem tag0 {w z : Str} {A : List Nat} (e : w = S A) (e2 : z = S (A ++ [48])) (hA : A.length ≤ 20) : (bnd (nop qInt [.bl false]) fun x => bnd (nop qStr [x]) fun y => op (qAdd false) (.str w) y) = ret (.str z) := by
  rw [nop_int_b, bnd_ret, nop_str_i _ (by decide), bnd_ret, e, e2]
  rw [show Str.ofString (toString (if false = true then (1 : Int) else 0)) = S [48] by decide +kernel, op_add_S _ _ (by simp; omega)]
theorem exM_yes {ρ : Type} {K : PySem.W.Frag} {C : Addr} {x : Exc} {y n : M ρ} (h : PySem.W.exmOne K (.ref x.cls) (.ref C) = some true) : exM K C x y n = y := by
  funext E Q
  exact propext ⟨fun ⟨b, e, z⟩ => by rw [h] at e; cases e; exact z, fun z => ⟨true, h, z⟩⟩
theorem exM_no {ρ : Type} {K : PySem.W.Frag} {C : Addr} {x : Exc} {y n : M ρ} (h : PySem.W.exmOne K (.ref x.cls) (.ref C) = some false) : exM K C x y n = n := by
  funext E Q
  exact propext ⟨fun ⟨b, e, z⟩ => by rw [h] at e; cases e; exact z, fun z => ⟨false, h, z⟩⟩
theorem isEM_of {K : PySem.W.Frag} {C : Addr} {y : D} {cv : Value} {r : Bool} (e : ExcC K C) (h1 : clsD y cv) (h2 : PySem.W.kitOne K (.ref C) cv = some r) : isEM K ⟨C, []⟩ y = ret (.bl r) := by
  funext E Q
  refine propext ⟨fun ⟨_, cv', r', a, b, q⟩ => ?_, fun q => ⟨⟨rfl, e⟩, cv, r, h1, h2, q⟩⟩
  have : cv' = cv := by
    cases y with
    | ref T => exact (show cv' = .ref T from a).trans (show cv = .ref T from h1).symm
    | ty n => exact (show cv' = .type n from a).trans (show cv = .type n from h1).symm
    | _ => exact (show False from a).elim
  rw [this, h2] at b; cases b; exact q
theorem isEM_ref {K : PySem.W.Frag} {C T : Addr} {r : Bool} (e : ExcC K C) (h2 : PySem.W.kitOne K (.ref C) (.ref T) = some r) : isEM K ⟨C, []⟩ (.ref T) = ret (.bl r) := isEM_of (cv := .ref T) e rfl h2
theorem isEM_ty {K : PySem.W.Frag} {C : Addr} {n : String} {r : Bool} (e : ExcC K C) (h2 : PySem.W.kitOne K (.ref C) (.type n) = some r) : isEM K ⟨C, []⟩ (.ty n) = ret (.bl r) := isEM_of (cv := .type n) e rfl h2
theorem tryM_thr {ρ : Type} {rt : D → ρ} {h : Exc → M ρ} {k : M ρ} {x : Exc} : tryM rt (thr x) h k = h x := rfl
theorem tryM_some {ρ : Type} {rt : D → ρ} {h : Exc → M ρ} {k : M ρ} {d : D} : tryM rt (ret (some d)) h k = ret (rt d) := rfl
theorem tryM_none {ρ : Type} {rt : D → ρ} {h : Exc → M ρ} {k : M ρ} : tryM rt (ret none) h k = k := rfl
/-! draws in a list -/
inductive All2 {α β : Type} (P : α → β → Prop) : List α → List β → Prop
  | nil : All2 P [] []
  | cons {a : α} {b : β} {as : List α} {bs : List β} : P a b → All2 P as bs → All2 P (a :: as) (b :: bs)
theorem All2.length {α β : Type} {P : α → β → Prop} {as : List α} {bs : List β} (h : All2 P as bs) : bs.length = as.length := by
  induction h with
  | nil => rfl
  | cons _ _ ih => simp [ih]
theorem All2.get {α β : Type} {P : α → β → Prop} {as : List α} {bs : List β} (h : All2 P as bs) : ∀ {i : Nat} {a : α} {b : β}, as[i]? = some a → bs[i]? = some b → P a b := by
  induction h with
  | nil => intro i a b h; simp at h
  | cons h1 h2 ih =>
    intro i a b ha hb
    cases i with
    | zero => simp at ha hb; subst ha hb; exact h1
    | succ i => exact ih (by simpa using ha) (by simpa using hb)
theorem All2.mem {α β : Type} {P : α → β → Prop} {as : List α} {bs : List β} (h : All2 P as bs) : ∀ b ∈ bs, ∃ a ∈ as, P a b := by
  induction h with
  | nil => intro b hb; cases hb
  | cons h1 h2 ih =>
    intro b hb
    rcases List.mem_cons.mp hb with rfl | hb
    · exact ⟨_, List.mem_cons_self, h1⟩
    · obtain ⟨a, ha, p⟩ := ih b hb; exact ⟨a, List.mem_cons_of_mem _ ha, p⟩
theorem All2_const {α β : Type} {p : β → Prop} : ∀ {as : List α} {bs : List β}, All2 (fun _ b => p b) as bs ↔ bs.length = as.length ∧ ∀ b ∈ bs, p b
  | [], [] => ⟨fun _ => ⟨rfl, fun _ h => by cases h⟩, fun _ => .nil⟩
  | [], _ :: _ => ⟨(fun h => by cases h), fun h => by simp at h⟩
  | _ :: _, [] => ⟨(fun h => by cases h), fun h => by simp at h⟩
  | a :: as, b :: bs => by
    constructor
    · intro h
      cases h with
      | cons h1 h2 =>
        obtain ⟨h3, h4⟩ := All2_const.mp h2
        exact ⟨by simp [h3], fun x hx => (List.mem_cons.mp hx).elim (fun e => e ▸ h1) (h4 x)⟩
    · rintro ⟨h1, h2⟩
      exact .cons (h2 b List.mem_cons_self) (All2_const.mpr ⟨by simpa using h1, fun x hx => h2 x (List.mem_cons_of_mem _ hx)⟩)
theorem mapA_any {α β γ : Type} {f : β → M γ} (g : α → γ) (P : β → α → Prop) : ∀ {xs : List β}, (∀ x ∈ xs, f x = bnd (anyM (P x)) fun a => ret (g a)) → mapA f xs = bnd (anyM fun ys : List α => All2 P xs ys) fun ys => ret (ys.map g)
  | [], _ => by
    funext E Q
    exact propext ⟨fun h ys a => by cases a; exact h, fun h => h [] .nil⟩
  | x :: xs, h => by
    show bnd (f x) (fun y => bnd (mapA f xs) fun ys => ret (y :: ys)) = _
    rw [h x List.mem_cons_self, mapA_any g P fun y hy => h y (List.mem_cons_of_mem _ hy)]
    funext E Q
    refine propext ⟨fun h ys a => ?_, fun h a pa ys hy => h (a :: ys) (.cons pa hy)⟩
    cases a with
    | cons pa hy => exact h _ pa _ hy
/-- n draws below m -/
theorem draws {α : Type} {f : α → M D} {m : Nat} (hm : 0 < m) {xs : List α} (h : ∀ x ∈ xs, f x = takeF [nI m]) : mapA f xs = bnd (anyM fun ys : List Nat => ys.length = xs.length ∧ ∀ y ∈ ys, y < m) fun ys => ret (ys.map nI) := by
  rw [mapA_any nI (fun _ y => y < m) fun x hx => by rw [h x hx]; exact take_n m hm]
  congr 1
  congr 1
  funext ys
  exact propext All2_const
theorem mapA_w {α β γ : Type} {f : β → M γ} (g : α → γ) (P : β → α → Prop) : ∀ {xs : List β}, (∀ x ∈ xs, ∀ (E : Exc → Prop) (Q : γ → Prop), (∀ y, P x y → Q (g y)) → f x E Q) → ∀ (E : Exc → Prop) (Q : List γ → Prop), (∀ ys : List α, All2 P xs ys → Q (ys.map g)) → mapA f xs E Q
  | [], _, E, Q, q => q [] .nil
  | x :: xs, h, E, Q, q => h x List.mem_cons_self E _ fun y py => mapA_w g P (fun z hz => h z (List.mem_cons_of_mem _ hz)) E _ fun ys hy => q (y :: ys) (.cons py hy)
theorem filA_any {α β : Type} {p : α → M Bool} {f : α → M β} (g : α → β) : ∀ {xs : List α}, (∀ x ∈ xs, ∀ E Q, (∀ b, Q b) → p x E Q) → (∀ x ∈ xs, f x = ret (g x)) → ∀ (E : Exc → Prop) (Q : List β → Prop), (∀ ys : List α, ys.Sublist xs → Q (ys.map g)) → filA p f xs E Q
  | [], _, _, E, Q, q => q [] (List.Sublist.refl _)
  | x :: xs, hp, hf, E, Q, q => by
    refine hp x List.mem_cons_self E _ fun b => ?_
    cases b with
    | true =>
      rw [hf x List.mem_cons_self]
      exact filA_any g (fun y hy => hp y (List.mem_cons_of_mem _ hy)) (fun y hy => hf y (List.mem_cons_of_mem _ hy)) E _ fun ys hs => q (x :: ys) (hs.cons₂ x)
    | false => exact filA_any g (fun y hy => hp y (List.mem_cons_of_mem _ hy)) (fun y hy => hf y (List.mem_cons_of_mem _ hy)) E _ fun ys hs => q ys (hs.cons x)
@[simp] theorem takeF_noX (xs : List D) : noX (takeF xs) = takeF xs := by
  unfold takeF
  split <;> rfl
theorem take_nI {m : Nat} (h : 0 < m) : takeF [nI m] = bnd (anyM fun r : Nat => r < m) fun r => ret (nI r) := take_n m h
theorem take_w {m : Nat} {E : Exc → Prop} {Q : D → Prop} (h : 0 < m) (k : ∀ r, r < m → Q (nI r)) : takeF [nI m] E Q := by
  show takeF [.int (m : Int)] E Q
  rw [take_n m h]; exact k
theorem take_b {α : Type} {m : Nat} {f : D → M α} {E : Exc → Prop} {Q : α → Prop} (h : 0 < m) (k : ∀ r, r < m → f (nI r) E Q) : bnd (takeF [nI m]) f E Q := take_w h k
theorem setM_n {ρ : Type} {xs : List D} {p : Nat} {d : D} {k : List D → M ρ} (h : p < xs.length) : setM xs (nI p) d k = k (xs.set p d) := by
  unfold setM nI
  simp only [ixN_nat h]
theorem setM_i {ρ : Type} {xs : List D} {i : Int} {p : Nat} {d : D} {k : List D → M ρ} (e : ixN xs.length i = some p) : setM xs (.int i) d k = k (xs.set p d) := by
  unfold setM
  simp only [e]
theorem ix_nl {xs : List Nat} {p v : Nat} (h : xs[p]? = some v) : op qIx (.lst (xs.map nI)) (nI p) = ret (nI v) := ix_mapl h
theorem ix_nt {xs : List Nat} {p v : Nat} (h : xs[p]? = some v) : op qIx (.tup (xs.map nI)) (nI p) = ret (nI v) := ix_map h
theorem add_n1 {a : Nat} : op (qAdd false) (nI a) (.int 1) = ret (nI (a + 1)) := mk_eq fun _ _ => rfl
theorem add_nn {a b : Nat} : op (qAdd false) (nI a) (nI b) = ret (nI (a + b)) := mk_eq fun _ _ => rfl
theorem add_1n {b : Nat} : op (qAdd false) (.int 1) (nI b) = ret (nI (1 + b)) := mk_eq fun _ _ => rfl
theorem add_2n {b : Nat} : op (qAdd false) (.int 2) (nI b) = ret (nI (2 + b)) := mk_eq fun _ _ => rfl
theorem sub_nn {a b : Nat} (h : b ≤ a) : op qSub (nI a) (nI b) = ret (nI (a - b)) := by
  unfold nI; rw [op_sub_i]; congr 2; omega
theorem mul_nn {a b : Nat} (h : a < 2 ^ 60 ∨ b < 2 ^ 60) : op (qMul false) (nI a) (nI b) = ret (nI (a * b)) := by
  unfold nI; rw [op_mul_i _ _ (by omega)]; congr 2
theorem shl_1n {n : Nat} (h : n ≤ 1000) : op qShl (.int 1) (nI n) = ret (nI (2 ^ n)) := op_shl_1 n h
theorem rng_n {n : Nat} (h : n < 2 ^ 60) : rng1 [nI n] = ret ((List.range n).map nI) := rng1_n h
theorem rng_n1 {n : Nat} (h : n < 2 ^ 59) : rng1 [nI (n + 1)] = ret ((List.range (n + 1)).map nI) := rng1_n (by omega)
theorem eq_nn (a b : Nat) : op (qEq false) (nI a) (nI b) = ret (.bl (decide (a = b))) := by
  unfold nI; rw [op_eq_i]; congr 2; exact decide_eq_decide.mpr (by omega)
theorem ne_nn (a b : Nat) : op (qEq true) (nI a) (nI b) = ret (.bl (!decide (a = b))) := by
  unfold nI; rw [op_ne_i]; congr 3; exact decide_eq_decide.mpr (by omega)
theorem lt_nn (a b : Nat) : op qLt (nI a) (nI b) = ret (.bl (decide (a < b))) := by
  unfold nI; rw [op_lt_i]; congr 2; exact decide_eq_decide.mpr (by omega)
theorem le_nn (a b : Nat) : op qLe (nI a) (nI b) = ret (.bl (decide (a ≤ b))) := by
  unfold nI; rw [op_le_i]; congr 2; exact decide_eq_decide.mpr (by omega)
theorem gt_nn (a b : Nat) : op qGt (nI a) (nI b) = ret (.bl (decide (b < a))) := by
  unfold nI; rw [op_gt_i]; congr 2; exact decide_eq_decide.mpr (by omega)
theorem ge_nn (a b : Nat) : op qGe (nI a) (nI b) = ret (.bl (decide (b ≤ a))) := by
  unfold nI; rw [op_ge_i]; congr 2; exact decide_eq_decide.mpr (by omega)
theorem jn_w {τ ρ : Type} {k : τ → M ρ} {f : (τ → M ρ) → M ρ} {E : Exc → Prop} {Q : ρ → Prop} (P : τ → Prop) (hk : ∀ s, P s → k s E Q) (hf : ∀ k' : τ → M ρ, (∀ s, P s → k' s E Q) → f k' E Q) : jn k f E Q := hf k hk
theorem add_n2 {a : Nat} : op (qAdd false) (nI a) (.int 2) = ret (nI (a + 2)) := mk_eq fun _ _ => rfl
theorem ixN_last {n : Nat} (h : 0 < n) : ixN n (-1) = some (n - 1) := by
  unfold ixN
  have h1 : (1 : Int) ≤ (n : Int) := by omega
  have e : (-1 + (n : Int)).toNat = n - 1 := by omega
  simp [e, h1]
theorem ix_neg1 {xs : List D} {d : D} (h : xs[xs.length - 1]? = some d) : op qIx (.lst xs) (.int (-1)) = ret d := by
  refine ix_l ?_
  unfold L2.atI
  have hl : 0 < xs.length := by
    cases xs with
    | nil => simp at h
    | cons _ _ => simp
  rw [ixN_last hl]; exact h
theorem bnd_w {α β : Type} {m : M α} {f : α → M β} {E : Exc → Prop} {Q : β → Prop} (h : m E fun a => f a E Q) : bnd m f E Q := h
theorem any_b {α β : Type} {p : α → Prop} {f : α → M β} {E : Exc → Prop} {Q : β → Prop} (h : ∀ a, p a → f a E Q) : bnd (anyM p) f E Q := h
/-- a drawn condition -/
theorem drawn {α : Type} {m n : Nat} (hm : 0 < m) {f : Bool → M α} {E : Exc → Prop} {Q : α → Prop} (h : ∀ b, f b E Q) : (bnd (takeF [nI m]) fun a => bnd (op (qEq false) a (nI n)) fun b => bnd (isB b ret) f) E Q := take_b hm fun r _ => by
  rw [eq_nn, bnd_ret, isB_bl, bnd_ret]; exact h _
theorem drawnIf {α : Type} {m n : Nat} (hm : 0 < m) {p : Bool} {f : Bool → M α} {E : Exc → Prop} {Q : α → Prop} (h1 : p = true → ∀ b, f b E Q) (h2 : p = false → f false E Q) : bnd (if p = true then bnd (takeF [nI m]) fun a => bnd (op (qEq false) a (nI n)) fun b => isB b ret else ret false) f E Q := by
  cases p with
  | true => rw [if_pos rfl]; exact drawn (m := m) (n := n) hm (h1 rfl)
  | false => rw [if_neg Bool.false_ne_true]; exact h2 rfl
/-- a loop with draws: an invariant -/
theorem loop_w {α τ ρ : Type} {body : D → τ → (τ → M ρ) → (τ → M ρ) → M ρ} {k : τ → M ρ} {E : Exc → Prop} {Q : ρ → Prop} (r : α → D) (I : τ → Prop) : ∀ {xs : List α} {s : τ}, (∀ x ∈ xs, ∀ s nx bk, I s → (∀ s', I s' → nx s' E Q) → body (r x) s nx bk E Q) → I s → (∀ s, I s → k s E Q) → loopR body (xs.map r) s k E Q
  | [], s, _, hi, hk => hk s hi
  | x :: xs, s, h, hi, hk => h x List.mem_cons_self s _ _ hi fun s' hi' => loop_w r I (fun y hy => h y (List.mem_cons_of_mem _ hy)) hi' hk
theorem exc_eta (x : Exc) {C : Addr} (h : x = ⟨C, []⟩) : x.cls = C := by rw [h]
end FL

/-! E9: calls of many arguments. -/
namespace FL
open PySem PySem.Spec L2 DL
def ap8 (f : D → D → D → D → D → D → D → D → M D) (ds : List D) : M D := match ds with | [a0, a1, a2, a3, a4, a5, a6, a7] => f a0 a1 a2 a3 a4 a5 a6 a7 | _ => bad
@[simp] theorem ap8_e (f : D → D → D → D → D → D → D → D → M D) (a0 a1 a2 a3 a4 a5 a6 a7 : D) : ap8 f [a0, a1, a2, a3, a4, a5, a6, a7] = f a0 a1 a2 a3 a4 a5 a6 a7 := mk_eq fun _ _ => rfl
def ap9 (f : D → D → D → D → D → D → D → D → D → M D) (ds : List D) : M D := match ds with | [a0, a1, a2, a3, a4, a5, a6, a7, a8] => f a0 a1 a2 a3 a4 a5 a6 a7 a8 | _ => bad
@[simp] theorem ap9_e (f : D → D → D → D → D → D → D → D → D → M D) (a0 a1 a2 a3 a4 a5 a6 a7 a8 : D) : ap9 f [a0, a1, a2, a3, a4, a5, a6, a7, a8] = f a0 a1 a2 a3 a4 a5 a6 a7 a8 := mk_eq fun _ _ => rfl
def ap10 (f : D → D → D → D → D → D → D → D → D → D → M D) (ds : List D) : M D := match ds with | [a0, a1, a2, a3, a4, a5, a6, a7, a8, a9] => f a0 a1 a2 a3 a4 a5 a6 a7 a8 a9 | _ => bad
@[simp] theorem ap10_e (f : D → D → D → D → D → D → D → D → D → D → M D) (a0 a1 a2 a3 a4 a5 a6 a7 a8 a9 : D) : ap10 f [a0, a1, a2, a3, a4, a5, a6, a7, a8, a9] = f a0 a1 a2 a3 a4 a5 a6 a7 a8 a9 := mk_eq fun _ _ => rfl
def ap11 (f : D → D → D → D → D → D → D → D → D → D → D → M D) (ds : List D) : M D := match ds with | [a0, a1, a2, a3, a4, a5, a6, a7, a8, a9, a10] => f a0 a1 a2 a3 a4 a5 a6 a7 a8 a9 a10 | _ => bad
@[simp] theorem ap11_e (f : D → D → D → D → D → D → D → D → D → D → D → M D) (a0 a1 a2 a3 a4 a5 a6 a7 a8 a9 a10 : D) : ap11 f [a0, a1, a2, a3, a4, a5, a6, a7, a8, a9, a10] = f a0 a1 a2 a3 a4 a5 a6 a7 a8 a9 a10 := mk_eq fun _ _ => rfl
def ap12 (f : D → D → D → D → D → D → D → D → D → D → D → D → M D) (ds : List D) : M D := match ds with | [a0, a1, a2, a3, a4, a5, a6, a7, a8, a9, a10, a11] => f a0 a1 a2 a3 a4 a5 a6 a7 a8 a9 a10 a11 | _ => bad
@[simp] theorem ap12_e (f : D → D → D → D → D → D → D → D → D → D → D → D → M D) (a0 a1 a2 a3 a4 a5 a6 a7 a8 a9 a10 a11 : D) : ap12 f [a0, a1, a2, a3, a4, a5, a6, a7, a8, a9, a10, a11] = f a0 a1 a2 a3 a4 a5 a6 a7 a8 a9 a10 a11 := mk_eq fun _ _ => rfl
section
variable {G : DH} {Q : DK} {E : Exc → DH → Prop} {ds : List D}
theorem len8 {f : D → D → D → D → D → D → D → D → M D} (h : spM (ap8 f) ds G Q E) : ds.length = 8 := by
  obtain ⟨_, _, _, _, hm⟩ := h
  match ds, hm with | [_, _, _, _, _, _, _, _], _ => rfl | [], hm => exact hm.elim | [_], hm => exact hm.elim | [_, _], hm => exact hm.elim | [_, _, _], hm => exact hm.elim | [_, _, _, _], hm => exact hm.elim | [_, _, _, _, _], hm => exact hm.elim | [_, _, _, _, _, _], hm => exact hm.elim | [_, _, _, _, _, _, _], hm => exact hm.elim | _ :: _ :: _ :: _ :: _ :: _ :: _ :: _ :: _ :: _, hm => exact hm.elim
theorem lenH8 {f : D → D → D → D → D → D → D → D → M D} (h : spMH (ap8 f) ds G Q E) : ds.length = 9 := lenH (fun r G Q E h => len8 h) h
theorem len9 {f : D → D → D → D → D → D → D → D → D → M D} (h : spM (ap9 f) ds G Q E) : ds.length = 9 := by
  obtain ⟨_, _, _, _, hm⟩ := h
  match ds, hm with | [_, _, _, _, _, _, _, _, _], _ => rfl | [], hm => exact hm.elim | [_], hm => exact hm.elim | [_, _], hm => exact hm.elim | [_, _, _], hm => exact hm.elim | [_, _, _, _], hm => exact hm.elim | [_, _, _, _, _], hm => exact hm.elim | [_, _, _, _, _, _], hm => exact hm.elim | [_, _, _, _, _, _, _], hm => exact hm.elim | [_, _, _, _, _, _, _, _], hm => exact hm.elim | _ :: _ :: _ :: _ :: _ :: _ :: _ :: _ :: _ :: _ :: _, hm => exact hm.elim
theorem lenH9 {f : D → D → D → D → D → D → D → D → D → M D} (h : spMH (ap9 f) ds G Q E) : ds.length = 10 := lenH (fun r G Q E h => len9 h) h
theorem len10 {f : D → D → D → D → D → D → D → D → D → D → M D} (h : spM (ap10 f) ds G Q E) : ds.length = 10 := by
  obtain ⟨_, _, _, _, hm⟩ := h
  match ds, hm with | [_, _, _, _, _, _, _, _, _, _], _ => rfl | [], hm => exact hm.elim | [_], hm => exact hm.elim | [_, _], hm => exact hm.elim | [_, _, _], hm => exact hm.elim | [_, _, _, _], hm => exact hm.elim | [_, _, _, _, _], hm => exact hm.elim | [_, _, _, _, _, _], hm => exact hm.elim | [_, _, _, _, _, _, _], hm => exact hm.elim | [_, _, _, _, _, _, _, _], hm => exact hm.elim | [_, _, _, _, _, _, _, _, _], hm => exact hm.elim | _ :: _ :: _ :: _ :: _ :: _ :: _ :: _ :: _ :: _ :: _ :: _, hm => exact hm.elim
theorem lenH10 {f : D → D → D → D → D → D → D → D → D → D → M D} (h : spMH (ap10 f) ds G Q E) : ds.length = 11 := lenH (fun r G Q E h => len10 h) h
theorem len11 {f : D → D → D → D → D → D → D → D → D → D → D → M D} (h : spM (ap11 f) ds G Q E) : ds.length = 11 := by
  obtain ⟨_, _, _, _, hm⟩ := h
  match ds, hm with | [_, _, _, _, _, _, _, _, _, _, _], _ => rfl | [], hm => exact hm.elim | [_], hm => exact hm.elim | [_, _], hm => exact hm.elim | [_, _, _], hm => exact hm.elim | [_, _, _, _], hm => exact hm.elim | [_, _, _, _, _], hm => exact hm.elim | [_, _, _, _, _, _], hm => exact hm.elim | [_, _, _, _, _, _, _], hm => exact hm.elim | [_, _, _, _, _, _, _, _], hm => exact hm.elim | [_, _, _, _, _, _, _, _, _], hm => exact hm.elim | [_, _, _, _, _, _, _, _, _, _], hm => exact hm.elim | _ :: _ :: _ :: _ :: _ :: _ :: _ :: _ :: _ :: _ :: _ :: _ :: _, hm => exact hm.elim
theorem lenH11 {f : D → D → D → D → D → D → D → D → D → D → D → M D} (h : spMH (ap11 f) ds G Q E) : ds.length = 12 := lenH (fun r G Q E h => len11 h) h
theorem len12 {f : D → D → D → D → D → D → D → D → D → D → D → D → M D} (h : spM (ap12 f) ds G Q E) : ds.length = 12 := by
  obtain ⟨_, _, _, _, hm⟩ := h
  match ds, hm with | [_, _, _, _, _, _, _, _, _, _, _, _], _ => rfl | [], hm => exact hm.elim | [_], hm => exact hm.elim | [_, _], hm => exact hm.elim | [_, _, _], hm => exact hm.elim | [_, _, _, _], hm => exact hm.elim | [_, _, _, _, _], hm => exact hm.elim | [_, _, _, _, _, _], hm => exact hm.elim | [_, _, _, _, _, _, _], hm => exact hm.elim | [_, _, _, _, _, _, _, _], hm => exact hm.elim | [_, _, _, _, _, _, _, _, _], hm => exact hm.elim | [_, _, _, _, _, _, _, _, _, _], hm => exact hm.elim | [_, _, _, _, _, _, _, _, _, _, _], hm => exact hm.elim | _ :: _ :: _ :: _ :: _ :: _ :: _ :: _ :: _ :: _ :: _ :: _ :: _ :: _, hm => exact hm.elim
theorem lenH12 {f : D → D → D → D → D → D → D → D → D → D → D → D → M D} (h : spMH (ap12 f) ds G Q E) : ds.length = 13 := lenH (fun r G Q E h => len12 h) h
end
end FL

/-! EA: more of the same: searches, numbered loops, rows of numbers in lists or tuples. -/
namespace FL
open PySem PySem.Spec L2 DL
section
variable {α β ρ τ : Type}
theorem sub_n1 {a : Nat} (h : 1 ≤ a) : op qSub (nI a) (.int 1) = ret (nI (a - 1)) := sub_nn (b := 1) h
theorem zip_same {A B : α → D} {x y : D} {xs : List α} (hx : itD x = some (xs.map A)) (hy : itD y = some (xs.map B)) : zipM [x, y] = ret (xs.map fun a => .tup [A a, B a]) := by
  unfold zipM
  simp only [hx, hy, zipD_map]
theorem loop_find {body : D → Unit → (Unit → M ρ) → (Unit → M ρ) → M ρ} {k : Unit → M ρ} (r : α → D) (p : α → Bool) (m : α → M ρ) : ∀ {xs : List α}, (∀ x ∈ xs, ∀ nx bk, body (r x) () nx bk = if p x = true then m x else nx ()) → loopR body (xs.map r) () k = match xs.find? p with
    | some x => m x
    | none => k ()
  | [], _ => rfl
  | x :: xs, h => by
    show body (r x) () (fun s' => loopR body (xs.map r) s' k) k = _
    rw [h x List.mem_cons_self, loop_find r p m fun y hy => h y (List.mem_cons_of_mem _ hy), List.find?_cons]
    cases p x <;> rfl
/-- a loop over numbers, with draws -/
theorem loop_wn {body : D → τ → (τ → M ρ) → (τ → M ρ) → M ρ} {k : τ → M ρ} {E : Exc → Prop} {Q : ρ → Prop} (I : Nat → τ → Prop) {n : Nat} {s : τ} (h : ∀ i, i < n → ∀ s nx bk, I i s → (∀ s', I (i + 1) s' → nx s' E Q) → body (nI i) s nx bk E Q) (h0 : I 0 s) (hk : ∀ s, I n s → k s E Q) : loopR body ((List.range n).map nI) s k E Q := by
  have go : ∀ (m j : Nat) (s : τ), j + m = n → I j s → loopR body ((List.range m).map fun i => nI (j + i)) s k E Q := by
    intro m
    induction m with
    | zero => intro j s e hj; exact hk s (by rw [← e]; exact hj)
    | succ m ih =>
      intro j s e hj
      rw [List.range_succ_eq_map, List.map_cons, List.map_map, loopR_cons, Nat.add_zero]
      refine h j (by omega) s _ _ hj fun s' hs' => ?_
      have := ih (j + 1) s' (by omega) hs'
      have e2 : ((fun i => nI (j + i)) ∘ Nat.succ) = fun i => nI (j + 1 + i) := by funext i; show nI (j + (i + 1)) = _; congr 1; omega
      rw [e2]; exact this
  have := go n 0 s (by omega) h0
  have e3 : (fun i => nI (0 + i)) = nI := by funext i; rw [Nat.zero_add]
  rw [e3] at this; exact this
/-- a row of numbers, in a list or a tuple -/
def RowD (x : D) (xs : List Nat) : Prop := x = .lst (xs.map nI) ∨ x = .tup (xs.map nI)
theorem RowD.ix {x : D} {xs : List Nat} (h : RowD x xs) {i v : Nat} (e : xs[i]? = some v) : op qIx x (nI i) = ret (nI v) := by
  rcases h with rfl | rfl
  · exact ix_nl e
  · exact ix_nt e
theorem RowD.len {x : D} {xs : List Nat} (h : RowD x xs) : nop qLen [x] = ret (nI xs.length) := by
  rcases h with rfl | rfl
  · rw [nop_len_l, List.length_map]; rfl
  · rw [nop_len_t, List.length_map]; rfl
theorem RowD.tuple {x : D} {xs : List Nat} (h : RowD x xs) : nop qTuple [x] = ret (.tup (xs.map nI)) := by
  rcases h with rfl | rfl
  · rw [nop_tuple_l]
  · rw [nop_tuple_t]
theorem RowD.list {x : D} {xs : List Nat} (h : RowD x xs) : nopN (qList false) [x] = ret (xs.map nI) := by
  rcases h with rfl | rfl
  · rw [nopN_list_l]
  · rw [nopN_list_t]
theorem RowD.it {x : D} {xs : List Nat} (h : RowD x xs) : itM x = ret (xs.map nI) := by
  rcases h with rfl | rfl
  · rw [itM_lst]
  · rw [itM_tup]
theorem get_some {xs : List Nat} {i : Nat} (h : i < xs.length) : xs[i]? = some ((xs[i]?).getD 0) := by rw [List.getElem?_eq_getElem h]; rfl
theorem get_mem {xs : List Nat} {i : Nat} (h : i < xs.length) : (xs[i]?).getD 0 ∈ xs := by rw [List.getElem?_eq_getElem h]; exact List.getElem_mem _
theorem get_eq {xs : List Nat} {i v : Nat} (h : xs[i]? = some v) : (xs[i]?).getD 0 = v := by rw [h]; rfl
theorem filter_range {p : Nat → Bool} {n j : Nat} (hj : j ≤ n) (h : ∀ i, i < n → (p i = true ↔ i < j)) : (List.range n).filter p = List.range j := by
  induction n with
  | zero => have : j = 0 := by omega
            subst this; rfl
  | succ n ih =>
    rw [List.range_succ, List.filter_append]
    by_cases e : j = n + 1
    · subst e
      have h1 : (List.range n).filter p = List.range n := List.filter_eq_self.mpr fun i hi => (h i (by have := List.mem_range.mp hi; omega)).mpr (by have := List.mem_range.mp hi; omega)
      have h2 : p n = true := (h n (by omega)).mpr (by omega)
      rw [h1, List.filter_cons_of_pos h2, List.range_succ]; rfl
    · have h2 : p n = false := by rw [Bool.eq_false_iff]; intro k; have := (h n (by omega)).mp k; omega
      rw [ih (by omega) fun i hi => h i (by omega), List.filter_cons_of_neg (by simp [h2])]
      simp
theorem ext_nat {a b : List Nat} {k : Nat} (ha : a.length = k) (hb : b.length = k) (h : ∀ i, i < k → a[i]? = b[i]?) : a = b := List.ext_getElem? fun i => by
  by_cases hi : i < k
  · exact h i hi
  · rw [List.getElem?_eq_none (by omega), List.getElem?_eq_none (by omega)]
end
end FL

namespace K82
open PySem PySem.Spec L2 DL FL
abbrev prog : Program := PySem.Challenge.pw_carriedbreaks_k82_whole_turned_back_or_d
def top (i : Nat) : Stmt := prog.main.body.getD i (.Pass ⟨0, 0, 0, 0⟩)
abbrev s_number_of : Stmt := top 1
abbrev N_number_of : List Str := ["string", "number", "sign"]
abbrev P_number_of : List Str := ["string"]
abbrev s_is_number : Stmt := top 10
abbrev N_is_number : List Str := ["value", "least", "most"]
abbrev P_is_number : List Str := ["value", "least", "most"]
abbrev s_is_bits : Stmt := top 11
abbrev N_is_bits : List Str := ["value", "length", "sign"]
abbrev P_is_bits : List Str := ["value", "length"]
abbrev s_is_row : Stmt := top 12
abbrev N_is_row : List Str := ["value", "many", "length", "one"]
abbrev P_is_row : List Str := ["value", "many", "length"]
abbrev s_is_generator : Stmt := top 13
abbrev N_is_generator : List Str := ["block"]
abbrev P_is_generator : List Str := ["block"]
abbrev s_is_function : Stmt := top 14
abbrev N_is_function : List Str := ["block", "one"]
abbrev P_is_function : List Str := ["block"]
abbrev s_check_block : Stmt := top 15
abbrev N_check_block : List Str := ["block"]
abbrev P_check_block : List Str := ["block"]
abbrev s_row_at : Stmt := top 16
abbrev N_row_at : List Str := ["block", "string"]
abbrev P_row_at : List Str := ["block", "string"]
abbrev s_row_of : Stmt := top 17
abbrev N_row_of : List Str := ["block", "string"]
abbrev P_row_of : List Str := ["block", "string"]
abbrev s_check_even : Stmt := top 20
abbrev N_check_even : List Str := ["f"]
abbrev P_check_even : List Str := ["f"]
abbrev s_check_depth : Stmt := top 21
abbrev N_check_depth : List Str := ["depth"]
abbrev P_check_depth : List Str := ["depth"]
abbrev s_check_numbers : Stmt := top 22
abbrev N_check_numbers : List Str := ["depth", "message", "number"]
abbrev P_check_numbers : List Str := ["depth", "message"]
abbrev s_way_on : Stmt := top 23
abbrev N_way_on : List Str := ["f", "string", "many", "way", "_"]
abbrev P_way_on : List Str := ["f", "string", "many"]
abbrev s_led : Stmt := top 24
abbrev N_led : List Str := ["f", "string", "times"]
abbrev P_led : List Str := ["f", "string", "times"]
abbrev s_rises_at : Stmt := top 25
abbrev N_rises_at : List Str := ["message", "other", "place", "number"]
abbrev P_rises_at : List Str := ["message", "other"]
abbrev s_is_steady : Stmt := top 26
abbrev N_is_steady : List Str := ["depth", "messages", "message", "at", "others", "other"]
abbrev P_is_steady : List Str := ["depth", "messages"]
abbrev s_level_messages : Stmt := top 27
abbrev N_level_messages : List Str := ["k", "depth", "total", "rows", "_", "row", "number"]
abbrev P_level_messages : List Str := ["k", "depth", "total"]
abbrev s_signed : Stmt := top 28
abbrev N_signed : List Str := ["f", "depth", "secrets", "message", "secret", "number"]
abbrev P_signed : List Str := ["f", "depth", "secrets", "message"]
abbrev s_comes_up : Stmt := top 29
abbrev N_comes_up : List Str := ["f", "tops", "message", "signature", "ends", "string", "number"]
abbrev P_comes_up : List Str := ["f", "tops", "message", "signature"]
abbrev s_is_signed : Stmt := top 30
abbrev N_is_signed : List Str := ["f", "depth", "tops", "message", "signature"]
abbrev P_is_signed : List Str := ["f", "depth", "tops", "message", "signature"]
abbrev s_turned_by : Stmt := top 31
abbrev N_turned_by : List Str := ["f", "depth", "tops", "message", "signature", "other", "forged", "places", "place", "string", "way", "told", "unlike", "one", "two"]
abbrev P_turned_by : List Str := ["f", "depth", "tops", "message", "signature", "other", "forged"]
abbrev s_is_map : Stmt := top 34
abbrev N_is_map : List Str := ["table", "one"]
abbrev P_is_map : List Str := ["table"]
abbrev s_check_map : Stmt := top 35
abbrev N_check_map : List Str := ["table"]
abbrev P_check_map : List Str := ["table"]
abbrev s_first_double : Stmt := top 36
abbrev N_first_double : List Str := ["table", "one", "other"]
abbrev P_first_double : List Str := ["table"]
abbrev s__law_hand : Stmt := top 38
abbrev N__law_hand : List Str := ["script", "cell"]
abbrev P__law_hand : List Str := ["script"]
abbrev s__law_take : Stmt := top 39
abbrev N__law_take : List Str := ["hand", "many", "rests", "k", "cell", "at", "mixed"]
abbrev P__law_take : List Str := ["hand", "many"]
abbrev s__law_same : Stmt := top 40
abbrev N__law_same : List Str := ["told", "due", "k"]
abbrev P__law_same : List Str := ["told", "due"]
abbrev s__law_bits : Stmt := top 41
abbrev N__law_bits : List Str := ["length", "number", "found", "k"]
abbrev P__law_bits : List Str := ["length", "number"]
abbrev s__law_led : Stmt := top 42
abbrev N__law_led : List Str := ["table", "value", "times", "found", "turn"]
abbrev P__law_led : List Str := ["table", "value", "times"]
abbrev s__law_right : Stmt := top 43
abbrev N__law_right : List Str := ["hand", "table", "tops", "message", "found", "k", "fit", "value"]
abbrev P__law_right : List Str := ["hand", "table", "tops", "message"]
abbrev s__law_strings : Stmt := top 44
abbrev N__law_strings : List Str := ["n", "values", "value"]
abbrev P__law_strings : List Str := ["n", "values"]
abbrev s__law_above : Stmt := top 45
abbrev N__law_above : List Str := ["message", "other", "k"]
abbrev P__law_above : List Str := ["message", "other"]
abbrev s__law_due : Stmt := top 46
abbrev N__law_due : List Str := ["table", "n", "message", "signature", "other", "forged", "place", "below", "turned", "one", "pair", "turn"]
abbrev P__law_due : List Str := ["table", "n", "message", "signature", "other", "forged"]
abbrev s__law_refused : Stmt := top 47
abbrev N__law_refused : List Str := ["f", "depth", "tops", "message", "signature", "other", "forged", "error"]
abbrev P__law_refused : List Str := ["f", "depth", "tops", "message", "signature", "other", "forged"]
abbrev s__law_messages : Stmt := top 48
abbrev N__law_messages : List Str := ["hand", "k", "depth", "one", "turn", "other", "place", "at"]
abbrev P__law_messages : List Str := ["hand", "k", "depth"]
abbrev s__law_bent : Stmt := top 49
abbrev N__law_bent : List Str := ["hand", "table", "values", "tops", "message", "found", "place", "off", "value"]
abbrev P__law_bent : List Str := ["hand", "table", "values", "tops", "message"]
abbrev s__law_wrong : Stmt := top 50
abbrev N__law_wrong : List Str := ["hand", "f", "table", "depth", "n", "tops", "one", "sign", "other", "forged", "tell", "first", "second", "bent", "lower", "k", "honest", "out", "bad", "row"]
abbrev P__law_wrong : List Str := ["hand", "f", "table", "depth", "n", "tops", "one", "sign", "other", "forged"]
abbrev s__law_lot : Stmt := top 51
abbrev N__law_lot : List Str := ["k", "depth", "total", "found", "turn", "grown", "message", "number"]
abbrev P__law_lot : List Str := ["k", "depth", "total"]
abbrev s__law_level : Stmt := top 52
abbrev N__law_level : List Str := ["hand", "f", "table", "n", "k", "depth", "total", "lot", "at", "one", "other", "tops", "turn", "sign", "forged", "told"]
abbrev P__law_level : List Str := ["hand", "f", "table", "n"]
abbrev s__law_whole : Stmt := top 53
abbrev N__law_whole : List Str := ["script", "hand", "n", "size", "table", "turn", "order", "value", "f", "k", "depth", "secrets", "tops", "one", "other", "honest", "at", "sign", "forged", "first", "second", "tell", "due", "told"]
abbrev P__law_whole : List Str := ["script"]
abbrev s_law : Stmt := top 54
abbrev N_law : List Str := ["script"]
abbrev P_law : List Str := ["script"]
theorem sc_number_of : FnScope N_number_of P_number_of (defScope s_number_of) := ⟨rfl, rfl, rfl, by decide +kernel, rfl, by decide +kernel, by decide +kernel⟩
theorem sc_is_number : FnScope N_is_number P_is_number (defScope s_is_number) := ⟨rfl, rfl, rfl, by decide +kernel, rfl, by decide +kernel, by decide +kernel⟩
theorem sc_is_bits : FnScope N_is_bits P_is_bits (defScope s_is_bits) := ⟨rfl, rfl, rfl, by decide +kernel, rfl, by decide +kernel, by decide +kernel⟩
theorem sc_is_row : FnScope N_is_row P_is_row (defScope s_is_row) := ⟨rfl, rfl, rfl, by decide +kernel, rfl, by decide +kernel, by decide +kernel⟩
theorem sc_is_generator : FnScope N_is_generator P_is_generator (defScope s_is_generator) := ⟨rfl, rfl, rfl, by decide +kernel, rfl, by decide +kernel, by decide +kernel⟩
theorem sc_is_function : FnScope N_is_function P_is_function (defScope s_is_function) := ⟨rfl, rfl, rfl, by decide +kernel, rfl, by decide +kernel, by decide +kernel⟩
theorem sc_check_block : FnScope N_check_block P_check_block (defScope s_check_block) := ⟨rfl, rfl, rfl, by decide +kernel, rfl, by decide +kernel, by decide +kernel⟩
theorem sc_row_at : FnScope N_row_at P_row_at (defScope s_row_at) := ⟨rfl, rfl, rfl, by decide +kernel, rfl, by decide +kernel, by decide +kernel⟩
theorem sc_row_of : FnScope N_row_of P_row_of (defScope s_row_of) := ⟨rfl, rfl, rfl, by decide +kernel, rfl, by decide +kernel, by decide +kernel⟩
theorem sc_check_even : FnScope N_check_even P_check_even (defScope s_check_even) := ⟨rfl, rfl, rfl, by decide +kernel, rfl, by decide +kernel, by decide +kernel⟩
theorem sc_check_depth : FnScope N_check_depth P_check_depth (defScope s_check_depth) := ⟨rfl, rfl, rfl, by decide +kernel, rfl, by decide +kernel, by decide +kernel⟩
theorem sc_check_numbers : FnScope N_check_numbers P_check_numbers (defScope s_check_numbers) := ⟨rfl, rfl, rfl, by decide +kernel, rfl, by decide +kernel, by decide +kernel⟩
theorem sc_way_on : FnScope N_way_on P_way_on (defScope s_way_on) := ⟨rfl, rfl, rfl, by decide +kernel, rfl, by decide +kernel, by decide +kernel⟩
theorem sc_led : FnScope N_led P_led (defScope s_led) := ⟨rfl, rfl, rfl, by decide +kernel, rfl, by decide +kernel, by decide +kernel⟩
theorem sc_rises_at : FnScope N_rises_at P_rises_at (defScope s_rises_at) := ⟨rfl, rfl, rfl, by decide +kernel, rfl, by decide +kernel, by decide +kernel⟩
theorem sc_is_steady : FnScope N_is_steady P_is_steady (defScope s_is_steady) := ⟨rfl, rfl, rfl, by decide +kernel, rfl, by decide +kernel, by decide +kernel⟩
theorem sc_level_messages : FnScope N_level_messages P_level_messages (defScope s_level_messages) := ⟨rfl, rfl, rfl, by decide +kernel, rfl, by decide +kernel, by decide +kernel⟩
theorem sc_signed : FnScope N_signed P_signed (defScope s_signed) := ⟨rfl, rfl, rfl, by decide +kernel, rfl, by decide +kernel, by decide +kernel⟩
theorem sc_comes_up : FnScope N_comes_up P_comes_up (defScope s_comes_up) := ⟨rfl, rfl, rfl, by decide +kernel, rfl, by decide +kernel, by decide +kernel⟩
theorem sc_is_signed : FnScope N_is_signed P_is_signed (defScope s_is_signed) := ⟨rfl, rfl, rfl, by decide +kernel, rfl, by decide +kernel, by decide +kernel⟩
theorem sc_turned_by : FnScope N_turned_by P_turned_by (defScope s_turned_by) := ⟨rfl, rfl, rfl, by decide +kernel, rfl, by decide +kernel, by decide +kernel⟩
theorem sc_is_map : FnScope N_is_map P_is_map (defScope s_is_map) := ⟨rfl, rfl, rfl, by decide +kernel, rfl, by decide +kernel, by decide +kernel⟩
theorem sc_check_map : FnScope N_check_map P_check_map (defScope s_check_map) := ⟨rfl, rfl, rfl, by decide +kernel, rfl, by decide +kernel, by decide +kernel⟩
theorem sc_first_double : FnScope N_first_double P_first_double (defScope s_first_double) := ⟨rfl, rfl, rfl, by decide +kernel, rfl, by decide +kernel, by decide +kernel⟩
theorem sc__law_hand : FnScope N__law_hand P__law_hand (defScope s__law_hand) := ⟨rfl, rfl, rfl, by decide +kernel, rfl, by decide +kernel, by decide +kernel⟩
theorem sc__law_take : FnScope N__law_take P__law_take (defScope s__law_take) := ⟨rfl, rfl, rfl, by decide +kernel, rfl, by decide +kernel, by decide +kernel⟩
theorem sc__law_same : FnScope N__law_same P__law_same (defScope s__law_same) := ⟨rfl, rfl, rfl, by decide +kernel, rfl, by decide +kernel, by decide +kernel⟩
theorem sc__law_bits : FnScope N__law_bits P__law_bits (defScope s__law_bits) := ⟨rfl, rfl, rfl, by decide +kernel, rfl, by decide +kernel, by decide +kernel⟩
theorem sc__law_led : FnScope N__law_led P__law_led (defScope s__law_led) := ⟨rfl, rfl, rfl, by decide +kernel, rfl, by decide +kernel, by decide +kernel⟩
theorem sc__law_right : FnScope N__law_right P__law_right (defScope s__law_right) := ⟨rfl, rfl, rfl, by decide +kernel, rfl, by decide +kernel, by decide +kernel⟩
theorem sc__law_strings : FnScope N__law_strings P__law_strings (defScope s__law_strings) := ⟨rfl, rfl, rfl, by decide +kernel, rfl, by decide +kernel, by decide +kernel⟩
theorem sc__law_above : FnScope N__law_above P__law_above (defScope s__law_above) := ⟨rfl, rfl, rfl, by decide +kernel, rfl, by decide +kernel, by decide +kernel⟩
theorem sc__law_due : FnScope N__law_due P__law_due (defScope s__law_due) := ⟨rfl, rfl, rfl, by decide +kernel, rfl, by decide +kernel, by decide +kernel⟩
theorem sc__law_refused : FnScope N__law_refused P__law_refused (defScope s__law_refused) := ⟨rfl, rfl, rfl, by decide +kernel, rfl, by decide +kernel, by decide +kernel⟩
theorem sc__law_messages : FnScope N__law_messages P__law_messages (defScope s__law_messages) := ⟨rfl, rfl, rfl, by decide +kernel, rfl, by decide +kernel, by decide +kernel⟩
theorem sc__law_bent : FnScope N__law_bent P__law_bent (defScope s__law_bent) := ⟨rfl, rfl, rfl, by decide +kernel, rfl, by decide +kernel, by decide +kernel⟩
theorem sc__law_wrong : FnScope N__law_wrong P__law_wrong (defScope s__law_wrong) := ⟨rfl, rfl, rfl, by decide +kernel, rfl, by decide +kernel, by decide +kernel⟩
theorem sc__law_lot : FnScope N__law_lot P__law_lot (defScope s__law_lot) := ⟨rfl, rfl, rfl, by decide +kernel, rfl, by decide +kernel, by decide +kernel⟩
theorem sc__law_level : FnScope N__law_level P__law_level (defScope s__law_level) := ⟨rfl, rfl, rfl, by decide +kernel, rfl, by decide +kernel, by decide +kernel⟩
theorem sc__law_whole : FnScope N__law_whole P__law_whole (defScope s__law_whole) := ⟨rfl, rfl, rfl, by decide +kernel, rfl, by decide +kernel, by decide +kernel⟩
theorem sc_law : FnScope N_law P_law (defScope s_law) := ⟨rfl, rfl, rfl, by decide +kernel, rfl, by decide +kernel, by decide +kernel⟩
/-- where the classes stand -/
structure Cs where
  BreakError : Addr
  BadBlock : Addr
  BadChoice : Addr
  BadMessage : Addr
  BadTable : Addr
end K82

namespace K82
open PySem PySem.Spec L2 DL FL
-- not made: []
def L_number_of_0 (x_e : D) (x_s : D) (x_nx x_bk : D → M D) : M D :=
 (bnd (bnd (op (qMul false) x_s (.int 2)) fun x_t => bnd (nop qInt [x_e]) fun x_t1 => op (qAdd false) x_t x_t1) fun x_number => (x_nx x_number))
def F_number_of (x_string : D) : M D :=
 (bnd (itM x_string) fun x_xs => loopR L_number_of_0 x_xs (.int 0) fun x_s1 : D => (ret x_s1))
def sp_number_of (c : Cs) : DSp := spM (ap1 F_number_of)
def F_is_number (x_value : D) (x_least : D) (x_most : D) : M D :=
 (bnd (nop qIsi [x_value, (.ty "int")]) fun x_t6 => isB x_t6 fun x_b3 => if x_b3 = true then (bnd (bnd (nop qIsi [x_value, (.ty "bool")]) fun x_t => isB x_t fun x_b => ret (.bl (!x_b))) fun x_t5 => isB x_t5 fun x_b2 => if x_b2 = true then (bnd (ret x_least) fun x_t1 => bnd (ret x_value) fun x_t2 => bnd (op qLe x_t1 x_t2) fun x_t4 => isB x_t4 fun x_b1 => if x_b1 = true then bnd (ret x_most) fun x_t3 => op qLe x_t2 x_t3 else ret (.bl false)) else ret (.bl false)) else ret (.bl false))
def sp_is_number (c : Cs) : DSp := spM (ap3 F_is_number)
def F_is_bits (x_value : D) (x_length : D) : M D :=
 (bnd (nop qIsi [x_value, (.ty "str")]) fun x_t3 => isB x_t3 fun x_b1 => if x_b1 = true then (bnd (bnd (nop qLen [x_value]) fun x_t => op (qEq false) x_t x_length) fun x_t2 => isB x_t2 fun x_b => if x_b = true then (bnd (bnd (bnd (itM x_value) fun x_xs => req (x_xs.length ≤ sizeLine) (bnd (noX (mapA (fun x_e => (op (qIn false) x_e (.str "01"))) x_xs)) fun x_ys => ret (.lst x_ys))) fun x_t1 => bnd (ret []) fun x_ts => ret (x_t1 :: x_ts)) fun x_ts1 => nop qAll x_ts1) else ret (.bl false)) else ret (.bl false))
def sp_is_bits (c : Cs) : DSp := spM (ap2 F_is_bits)
def F_is_row (x_value : D) (x_many : D) (x_length : D) : M D :=
 (bnd (nop qIsi [x_value, (.ty "tuple")]) fun x_t3 => isB x_t3 fun x_b1 => if x_b1 = true then (bnd (bnd (nop qLen [x_value]) fun x_t => op (qEq false) x_t x_many) fun x_t2 => isB x_t2 fun x_b => if x_b = true then (bnd (bnd (bnd (itM x_value) fun x_xs => req (x_xs.length ≤ sizeLine) (bnd (noX (mapA (fun x_e => ((ap2 F_is_bits) [x_e, x_length])) x_xs)) fun x_ys => ret (.lst x_ys))) fun x_t1 => bnd (ret []) fun x_ts => ret (x_t1 :: x_ts)) fun x_ts1 => nop qAll x_ts1) else ret (.bl false)) else ret (.bl false))
def sp_is_row (c : Cs) : DSp := spM (ap3 F_is_row)
def F_is_generator (x_block : D) : M D :=
 (bnd (bnd (bnd (bnd (nop qIsi [x_block, (.ty "tuple")]) tru) fun x_b => ret (!x_b)) fun x_b2 => if x_b2 = true then ret true else (bnd (bnd (bnd (nop qLen [x_block]) fun x_t => op (qEq true) x_t (.int 4)) fun x_t1 => isB x_t1 ret) fun x_b1 => if x_b1 = true then ret true else (bnd (bnd (op qIx x_block (.int 0)) fun x_t2 => op (qEq true) x_t2 (.str "generator")) fun x_t3 => isB x_t3 ret))) fun x_b3 => if x_b3 = true then (ret (.bl false)) else (bnd (bnd (bnd (bnd (bnd (bnd (op qIx x_block (.int 1)) fun x_t6 => bnd (bnd (bnd (ret []) fun x_ts => ret ((.int 10) :: x_ts)) fun x_ts1 => ret ((.int 1) :: x_ts1)) fun x_ts2 => ret (x_t6 :: x_ts2)) (ap3 F_is_number)) tru) fun x_b4 => ret (!x_b4)) fun x_b6 => if x_b6 = true then ret true else (bnd (bnd (bnd (bnd (op qIx x_block (.int 2)) fun x_t9 => bnd (bnd (bnd (ret []) fun x_ts3 => ret ((.int 40) :: x_ts3)) fun x_ts4 => ret ((.int 1) :: x_ts4)) fun x_ts5 => ret (x_t9 :: x_ts5)) (ap3 F_is_number)) tru) fun x_b5 => ret (!x_b5))) fun x_b7 => if x_b7 = true then (ret (.bl false)) else (bnd (bnd (op qIx x_block (.int 3)) fun x_t13 => bnd (bnd (bnd (op qIx x_block (.int 1)) fun x_t10 => op qShl (.int 1) x_t10) fun x_t12 => bnd (bnd (op qIx x_block (.int 2)) fun x_t11 => bnd (ret []) fun x_ts6 => ret (x_t11 :: x_ts6)) fun x_ts7 => ret (x_t12 :: x_ts7)) fun x_ts8 => ret (x_t13 :: x_ts8)) (ap3 F_is_row))))
def sp_is_generator (c : Cs) : DSp := spM (ap1 F_is_generator)
def F_is_function (x_block : D) : M D :=
 (bnd (bnd (bnd (bnd (nop qIsi [x_block, (.ty "tuple")]) tru) fun x_b => ret (!x_b)) fun x_b2 => if x_b2 = true then ret true else (bnd (bnd (bnd (nop qLen [x_block]) fun x_t => op (qEq true) x_t (.int 5)) fun x_t1 => isB x_t1 ret) fun x_b1 => if x_b1 = true then ret true else (bnd (bnd (op qIx x_block (.int 0)) fun x_t2 => op (qEq true) x_t2 (.str "function")) fun x_t3 => isB x_t3 ret))) fun x_b3 => if x_b3 = true then (ret (.bl false)) else (bnd (bnd (bnd (bnd (bnd (bnd (op qIx x_block (.int 1)) fun x_t6 => bnd (bnd (bnd (ret []) fun x_ts => ret ((.int 8) :: x_ts)) fun x_ts1 => ret ((.int 1) :: x_ts1)) fun x_ts2 => ret (x_t6 :: x_ts2)) (ap3 F_is_number)) tru) fun x_b4 => ret (!x_b4)) fun x_b7 => if x_b7 = true then ret true else (bnd (bnd (bnd (bnd (bnd (op qIx x_block (.int 2)) fun x_t9 => bnd (bnd (bnd (ret []) fun x_ts3 => ret ((.int 8) :: x_ts3)) fun x_ts4 => ret ((.int 1) :: x_ts4)) fun x_ts5 => ret (x_t9 :: x_ts5)) (ap3 F_is_number)) tru) fun x_b5 => ret (!x_b5)) fun x_b6 => if x_b6 = true then ret true else (bnd (bnd (bnd (op qIx x_block (.int 1)) fun x_t10 => bnd (op qIx x_block (.int 2)) fun x_t11 => op (qAdd false) x_t10 x_t11) fun x_t12 => op qGt x_t12 (.int 12)) fun x_t13 => isB x_t13 ret))) fun x_b8 => if x_b8 = true then (ret (.bl false)) else (bnd (bnd (bnd (bnd (bnd (bnd (op qIx x_block (.int 3)) fun x_t16 => bnd (bnd (bnd (ret []) fun x_ts6 => ret ((.int 40) :: x_ts6)) fun x_ts7 => ret ((.int 1) :: x_ts7)) fun x_ts8 => ret (x_t16 :: x_ts8)) (ap3 F_is_number)) tru) fun x_b9 => ret (!x_b9)) fun x_b11 => if x_b11 = true then ret true else (bnd (bnd (bnd (bnd (op qIx x_block (.int 4)) fun x_t18 => bnd (bnd (ret []) fun x_ts9 => ret ((.ty "tuple") :: x_ts9)) fun x_ts10 => ret (x_t18 :: x_ts10)) fun x_ts11 => nop qIsi x_ts11) tru) fun x_b10 => ret (!x_b10))) fun x_b12 => if x_b12 = true then (ret (.bl false)) else (bnd (bnd (bnd (bnd (op qIx x_block (.int 4)) fun x_t19 => bnd (ret []) fun x_ts12 => ret (x_t19 :: x_ts12)) fun x_ts13 => nop qLen x_ts13) fun x_t21 => bnd (bnd (op qIx x_block (.int 1)) fun x_t20 => op qShl (.int 1) x_t20) fun x_t22 => op (qEq false) x_t21 x_t22) fun x_t28 => isB x_t28 fun x_b13 => if x_b13 = true then (bnd (bnd (bnd (bnd (op qIx x_block (.int 4)) itM) fun x_xs => req (x_xs.length ≤ sizeLine) (bnd (noX (mapA (fun x_e => (bnd (bnd (bnd (bnd (op qIx x_block (.int 2)) fun x_t23 => op qShl (.int 1) x_t23) fun x_t25 => bnd (bnd (op qIx x_block (.int 3)) fun x_t24 => bnd (ret []) fun x_ts14 => ret (x_t24 :: x_ts14)) fun x_ts15 => ret (x_t25 :: x_ts15)) fun x_ts16 => ret (x_e :: x_ts16)) (ap3 F_is_row))) x_xs)) fun x_ys => ret (.lst x_ys))) fun x_t27 => bnd (ret []) fun x_ts17 => ret (x_t27 :: x_ts17)) fun x_ts18 => nop qAll x_ts18) else ret (.bl false)))))
def sp_is_function (c : Cs) : DSp := spM (ap1 F_is_function)
def F_check_block (c : Cs) (x_block : D) : M D :=
 (bnd (bnd (bnd (bnd ((ap1 F_is_generator) [x_block]) tru) fun x_b => ret (!x_b)) fun x_b2 => if x_b2 = true then (bnd (bnd ((ap1 F_is_function) [x_block]) tru) fun x_b1 => ret (!x_b1)) else ret false) fun x_b3 => if x_b3 = true then (thr ⟨c.BadBlock, []⟩) else (ret .non))
def sp_check_block (c : Cs) : DSp := spM (ap1 (F_check_block c))
def F_row_at (x_block : D) (x_string : D) : M D :=
 (bnd (op qIx x_block (.int 3)) fun x_t => bnd ((ap1 F_number_of) [x_string]) fun x_t1 => op qIx x_t x_t1)
def sp_row_at (c : Cs) : DSp := spM (ap2 F_row_at)
def F_row_of (c : Cs) (x_block : D) (x_string : D) : M D :=
 (bnd ((ap1 (F_check_block c)) [x_block]) fun _ => ((ap2 F_row_at) [x_block, x_string]))
def sp_row_of (c : Cs) : DSp := spM (ap2 (F_row_of c))
def F_check_even (c : Cs) (x_f : D) : M D :=
 (bnd ((ap1 (F_check_block c)) [x_f]) fun _ => (bnd (bnd (bnd (bnd (op qIx x_f (.int 0)) fun x_t => op (qEq true) x_t (.str "generator")) fun x_t1 => isB x_t1 ret) fun x_b => if x_b = true then ret true else (bnd (bnd (op qIx x_f (.int 1)) fun x_t2 => bnd (op qIx x_f (.int 2)) fun x_t3 => op (qEq true) x_t2 x_t3) fun x_t4 => isB x_t4 ret)) fun x_b1 => if x_b1 = true then (thr ⟨c.BadBlock, []⟩) else (ret .non)))
def sp_check_even (c : Cs) : DSp := spM (ap1 (F_check_even c))
def F_check_depth (c : Cs) (x_depth : D) : M D :=
 (bnd (bnd (bnd ((ap3 F_is_number) [x_depth, (.int 1), (.int 15)]) tru) fun x_b => ret (!x_b)) fun x_b1 => if x_b1 = true then (thr ⟨c.BadChoice, []⟩) else (ret .non))
def sp_check_depth (c : Cs) : DSp := spM (ap1 (F_check_depth c))
def L_check_numbers_0 (c : Cs) (x_depth1 : D) (x_e : D) (x_s : Unit) (x_nx x_bk : Unit → M D) : M D :=
 (bnd (bnd (bnd ((ap3 F_is_number) [x_e, (.int 0), x_depth1]) tru) fun x_b => ret (!x_b)) fun x_b1 => if x_b1 = true then (thr ⟨c.BadChoice, []⟩) else (x_nx ()))
def F_check_numbers (c : Cs) (x_depth : D) (x_message : D) : M D :=
 (bnd (itM x_message) fun x_xs => loopR (L_check_numbers_0 c x_depth) x_xs () fun x_s1 : Unit => (ret .non))
def sp_check_numbers (c : Cs) : DSp := spM (ap2 (F_check_numbers c))
def L_way_on_0 (x_f1 : D) (x_e : D) (x_s : List D) (x_nx x_bk : List D → M D) : M D :=
 (bnd (bnd (bnd (bnd (bnd (un qNeg (.int 1)) fun x_t => op qIx (.lst x_s) x_t) fun x_t1 => bnd (ret []) fun x_ts1 => ret (x_t1 :: x_ts1)) fun x_ts2 => ret (x_f1 :: x_ts2)) (ap2 F_row_at)) fun x_d => req (x_s.length < sizeLine) (x_nx (x_s ++ [x_d])))
def F_way_on (x_f : D) (x_string : D) (x_many : D) : M D :=
 (bnd (req ([x_string].length ≤ sizeLine) (ret [x_string])) fun x_way => (bnd (rng1 [x_many]) fun x_xs => loopR (L_way_on_0 x_f) x_xs x_way fun x_s1 : List D => (ret (.lst x_s1))))
def sp_way_on (c : Cs) : DSp := spM (ap3 F_way_on)
def F_led (c : Cs) (x_f : D) (x_string : D) (x_times : D) : M D :=
 (bnd ((ap1 (F_check_even c)) [x_f]) fun _ => (bnd (bnd (bnd ((ap3 F_is_number) [x_times, (.int 0), (.int 15)]) tru) fun x_b => ret (!x_b)) fun x_b1 => if x_b1 = true then (thr ⟨c.BadChoice, []⟩) else (bnd ((ap3 F_way_on) [x_f, x_string, x_times]) fun x_t => bnd (un qNeg (.int 1)) fun x_t1 => op qIx x_t x_t1)))
def sp_led (c : Cs) : DSp := spM (ap3 (F_led c))
def F_rises_at (x_message : D) (x_other : D) : M D :=
 (bnd (enumM [x_message]) fun x_xs => req (x_xs.length ≤ sizeLine) (bnd (noX (filU un2 (fun x_e => (bnd (bnd (op qIx x_other x_e.1) fun x_t => op qGt x_t x_e.2) fun x_t1 => isB x_t1 ret)) (fun x_e => (ret x_e.1)) x_xs)) fun x_ys => ret (.lst x_ys)))
def sp_rises_at (c : Cs) : DSp := spM (ap2 F_rises_at)
def L_is_steady_0 (c : Cs) (x_depth1 : D) (x_messages1 : D) (x_e : D) (x_s : Unit) (x_nx x_bk : Unit → M D) : M D :=
 (bnd ((ap2 (F_check_numbers c)) [x_depth1, x_e]) fun _ => (x_nx ()))
def L_is_steady_1 (c : Cs) (x_messages2 : D) (x_e1 : D × D) (x_s2 : Unit) (x_nx1 x_bk1 : Unit → M D) : M D :=
 (bnd (bnd (bnd (ret x_messages2) fun x_t1 => bnd (ret none) fun x_l => bnd (bnd (ret x_e1.1) fun x_t => isI x_t fun x_i => ret (some x_i)) fun x_h => sop (qSl false) x_t1 x_l x_h) fun x_t4 => bnd (bnd (ret x_messages2) fun x_t3 => bnd (bnd (op (qAdd false) x_e1.1 (.int 1)) fun x_t2 => isI x_t2 fun x_i1 => ret (some x_i1)) fun x_l1 => bnd (ret none) fun x_h1 => sop (qSl false) x_t3 x_l1 x_h1) fun x_t5 => op (qAdd false) x_t4 x_t5) fun x_others => (bnd (bnd (bnd (bnd (bnd (bnd (itM x_others) fun x_xs => req (x_xs.length ≤ sizeLine) (bnd (noX (mapA (fun x_e2 => (bnd (bnd (bnd ((ap2 F_rises_at) [x_e1.2, x_e2]) fun x_t6 => bnd (ret []) fun x_ts => ret (x_t6 :: x_ts)) fun x_ts1 => nop qLen x_ts1) fun x_t7 => op qGt x_t7 (.int 0))) x_xs)) fun x_ys => ret (.lst x_ys))) fun x_t8 => bnd (ret []) fun x_ts2 => ret (x_t8 :: x_ts2)) fun x_ts3 => nop qAll x_ts3) tru) fun x_b => ret (!x_b)) fun x_b1 => if x_b1 = true then (ret (.bl false)) else (x_nx1 ())))
def F_is_steady (c : Cs) (x_depth : D) (x_messages : D) : M D :=
 (bnd ((ap1 (F_check_depth c)) [x_depth]) fun _ => (bnd (itM x_messages) fun x_xs2 => loopR (L_is_steady_0 c x_depth x_messages) x_xs2 () fun x_s1 : Unit => (bnd (enumM [x_messages]) fun x_xs1 => loopR (fun d s nx bk => bnd (un2 d) fun x => L_is_steady_1 c x_messages x s nx bk) x_xs1 () fun x_s3 : Unit => (ret (.bl true)))))
def sp_is_steady (c : Cs) : DSp := spM (ap2 (F_is_steady c))
def L_level_messages_0 (c : Cs) (x_depth1 : D) (x_total1 : D) (x_e : D) (x_s : D) (x_nx x_bk : D → M D) : M D :=
 (bnd (bnd (itM x_s) fun x_xs => bnd (noX (lccU ret (fun x_e1 => (ret true)) (fun x_e1 => (bnd (bnd (op (qAdd false) x_depth1 (.int 1)) fun x_t1 => bnd (ret []) fun x_ts1 => ret (x_t1 :: x_ts1)) rng1)) ret (fun x_e1 x_e2 => (ret true)) (fun x_e1 x_e2 => (bnd (tupM [x_e2]) fun x_t2 => op (qAdd false) x_e1 x_t2)) x_xs [])) fun x_ys => ret (.lst x_ys)) fun x_rows1 => (x_nx x_rows1))
def F_level_messages (c : Cs) (x_k : D) (x_depth : D) (x_total : D) : M D :=
 (bnd (bnd (bnd ((ap3 F_is_number) [x_k, (.int 2), (.int 4)]) tru) fun x_b => ret (!x_b)) fun x_b1 => if x_b1 = true then (thr ⟨c.BadChoice, []⟩) else (bnd ((ap1 (F_check_depth c)) [x_depth]) fun _ => (bnd (bnd (bnd (tupM ([] : List D)) fun x_t => bnd (ret []) fun x_ts => ret (x_t :: x_ts)) lstM) fun x_rows => (bnd (rng1 [x_k]) fun x_xs2 => loopR (L_level_messages_0 c x_depth x_total) x_xs2 x_rows fun x_s1 : D => (bnd (bnd (bnd (itM x_s1) fun x_xs1 => req (x_xs1.length ≤ sizeLine) (bnd (noX (filA (fun x_e3 => (bnd (bnd (nop qSum [x_e3]) fun x_t3 => op (qEq false) x_t3 x_total) fun x_t4 => isB x_t4 ret)) (fun x_e3 => (ret x_e3)) x_xs1)) fun x_ys1 => ret (.lst x_ys1))) fun x_t5 => bnd (ret []) fun x_ts2 => ret (x_t5 :: x_ts2)) fun x_ts3 => nop qTuple x_ts3)))))
def sp_level_messages (c : Cs) : DSp := spM (ap3 (F_level_messages c))
def F_signed (c : Cs) (x_f : D) (x_depth : D) (x_secrets : D) (x_message : D) : M D :=
 (bnd ((ap1 (F_check_even c)) [x_f]) fun _ => (bnd ((ap1 (F_check_depth c)) [x_depth]) fun _ => (bnd ((ap2 (F_check_numbers c)) [x_depth, x_message]) fun _ => (bnd (bnd (bnd (zipM [x_secrets, x_message]) fun x_xs => req (x_xs.length ≤ sizeLine) (bnd (noX (mapU un2 (fun x_e => (bnd (bnd (bnd (bnd (bnd (op qSub x_depth x_e.2) fun x_t => bnd (ret []) fun x_ts => ret (x_t :: x_ts)) fun x_ts1 => ret (x_e.1 :: x_ts1)) fun x_ts2 => ret (x_f :: x_ts2)) (ap3 F_way_on)) fun x_t3 => bnd (un qNeg (.int 1)) fun x_t4 => op qIx x_t3 x_t4)) x_xs)) fun x_ys => ret (.lst x_ys))) fun x_t5 => bnd (ret []) fun x_ts3 => ret (x_t5 :: x_ts3)) fun x_ts4 => nop qTuple x_ts4))))
def sp_signed (c : Cs) : DSp := spM (ap4 (F_signed c))
def F_comes_up (x_f : D) (x_tops : D) (x_message : D) (x_signature : D) : M D :=
 (bnd (bnd (zipM [x_signature, x_message]) fun x_xs => req (x_xs.length ≤ sizeLine) (bnd (noX (mapU un2 (fun x_e => (bnd ((ap3 F_way_on) [x_f, x_e.1, x_e.2]) fun x_t => bnd (un qNeg (.int 1)) fun x_t1 => op qIx x_t x_t1)) x_xs)) fun x_ys => ret (.lst x_ys))) fun x_ends => (bnd (bnd (nop qLen [x_signature]) fun x_t2 => bnd (nop qLen [x_message]) fun x_t3 => op (qEq false) x_t2 x_t3) fun x_t5 => isB x_t5 fun x_b => if x_b = true then (bnd (nop qTuple [x_ends]) fun x_t4 => op (qEq false) x_t4 x_tops) else ret (.bl false)))
def sp_comes_up (c : Cs) : DSp := spM (ap4 F_comes_up)
def F_is_signed (c : Cs) (x_f : D) (x_depth : D) (x_tops : D) (x_message : D) (x_signature : D) : M D :=
 (bnd ((ap1 (F_check_even c)) [x_f]) fun _ => (bnd ((ap1 (F_check_depth c)) [x_depth]) fun _ => (bnd ((ap2 (F_check_numbers c)) [x_depth, x_message]) fun _ => ((ap4 F_comes_up) [x_f, x_tops, x_message, x_signature]))))
def sp_is_signed (c : Cs) : DSp := spM (ap5 (F_is_signed c))
def F_turned_by (c : Cs) (x_f : D) (x_depth : D) (x_tops : D) (x_message : D) (x_signature : D) (x_other : D) (x_forged : D) : M D :=
 (bnd ((ap1 (F_check_even c)) [x_f]) fun _ => (bnd ((ap1 (F_check_depth c)) [x_depth]) fun _ => (bnd ((ap2 (F_check_numbers c)) [x_depth, x_message]) fun _ => (bnd ((ap2 (F_check_numbers c)) [x_depth, x_other]) fun _ => (bnd ((ap2 F_rises_at) [x_message, x_other]) fun x_places => (bnd (bnd (bnd (bnd (nop qLen [x_places]) fun x_t => op (qEq false) x_t (.int 0)) fun x_t1 => isB x_t1 ret) fun x_b3 => if x_b3 = true then ret true else (bnd (bnd (bnd ((ap4 F_comes_up) [x_f, x_tops, x_message, x_signature]) tru) fun x_b => ret (!x_b)) fun x_b2 => if x_b2 = true then ret true else (bnd (bnd ((ap4 F_comes_up) [x_f, x_tops, x_other, x_forged]) tru) fun x_b1 => ret (!x_b1)))) fun x_b4 => if x_b4 = true then (thr ⟨c.BadMessage, []⟩) else (bnd (op qIx x_places (.int 0)) fun x_place => (bnd (bnd (bnd (bnd (bnd (op qIx x_forged x_place) fun x_t6 => bnd (bnd (bnd (bnd (op qIx x_other x_place) fun x_t2 => bnd (op qIx x_message x_place) fun x_t3 => op qSub x_t2 x_t3) fun x_t4 => op qSub x_t4 (.int 1)) fun x_t5 => bnd (ret []) fun x_ts => ret (x_t5 :: x_ts)) fun x_ts1 => ret (x_t6 :: x_ts1)) fun x_ts2 => ret (x_f :: x_ts2)) (ap3 F_way_on)) fun x_t8 => bnd (un qNeg (.int 1)) fun x_t9 => op qIx x_t8 x_t9) fun x_string => (bnd (bnd (bnd (bnd (bnd (bnd (op qIx x_message x_place) fun x_t10 => op (qAdd false) x_t10 (.int 1)) fun x_t11 => bnd (ret []) fun x_ts3 => ret (x_t11 :: x_ts3)) fun x_ts4 => ret (x_string :: x_ts4)) fun x_ts5 => ret (x_f :: x_ts5)) (ap3 F_way_on)) fun x_way => (bnd (bnd (bnd (bnd (op qIx x_signature x_place) fun x_t15 => bnd (bnd (op qIx x_message x_place) fun x_t14 => bnd (ret []) fun x_ts6 => ret (x_t14 :: x_ts6)) fun x_ts7 => ret (x_t15 :: x_ts7)) fun x_ts8 => ret (x_f :: x_ts8)) (ap3 F_way_on)) fun x_told => (bnd (bnd (bnd (bnd (bnd (ret x_way) fun x_t18 => bnd (bnd (ret (.int 1)) fun x_t17 => isI x_t17 fun x_i => ret (some x_i)) fun x_l => bnd (ret none) fun x_h => sop (qSl false) x_t18 x_l x_h) fun x_t20 => bnd (bnd (ret []) fun x_ts9 => ret (x_told :: x_ts9)) fun x_ts10 => ret (x_t20 :: x_ts10)) zipM) fun x_xs => req (x_xs.length ≤ sizeLine) (bnd (noX (filU un2 (fun x_e => (bnd (op (qEq true) x_e.1 x_e.2) fun x_t21 => isB x_t21 ret)) (fun x_e => (tupM [x_e.1, x_e.2])) x_xs)) fun x_ys => ret (.lst x_ys))) fun x_unlike => (bnd (bnd (bnd (nop qLen [x_unlike]) fun x_t22 => op (qEq false) x_t22 (.int 0)) fun x_t23 => isB x_t23 ret) fun x_b5 => if x_b5 = true then (tupM [(.str "turned"), x_place, x_string]) else (bnd (bnd (bnd (bnd (bnd (un qNeg (.int 1)) fun x_t24 => op qIx x_unlike x_t24) fun x_t25 => bnd (ret []) fun x_ts11 => ret (x_t25 :: x_ts11)) fun x_ts12 => ret (x_place :: x_ts12)) fun x_ts13 => ret ((.str "double") :: x_ts13)) tupM)))))))))))))
def sp_turned_by (c : Cs) : DSp := spM (ap7 (F_turned_by c))
def F_is_map (x_table : D) : M D :=
 (bnd (bnd (bnd (bnd (nop qIsi [x_table, (.ty "tuple")]) tru) fun x_b => ret (!x_b)) fun x_b3 => if x_b3 = true then ret true else (bnd (bnd (bnd (ret (.int 1)) fun x_t => bnd (nop qLen [x_table]) fun x_t1 => bnd (op qLe x_t x_t1) fun x_t3 => isB x_t3 fun x_b1 => if x_b1 = true then bnd (ret (.int 64)) fun x_t2 => op qLe x_t1 x_t2 else ret (.bl false)) fun x_t4 => isB x_t4 ret) fun x_b2 => ret (!x_b2))) fun x_b4 => if x_b4 = true then (ret (.bl false)) else (bnd (bnd (bnd (itM x_table) fun x_xs => req (x_xs.length ≤ sizeLine) (bnd (noX (mapA (fun x_e => (bnd (bnd (bnd (bnd (op qSub (.int 64) (.int 1)) fun x_t5 => bnd (ret []) fun x_ts => ret (x_t5 :: x_ts)) fun x_ts1 => ret ((.int 0) :: x_ts1)) fun x_ts2 => ret (x_e :: x_ts2)) (ap3 F_is_number))) x_xs)) fun x_ys => ret (.lst x_ys))) fun x_t8 => bnd (ret []) fun x_ts3 => ret (x_t8 :: x_ts3)) fun x_ts4 => nop qAll x_ts4))
def sp_is_map (c : Cs) : DSp := spM (ap1 F_is_map)
def F_check_map (c : Cs) (x_table : D) : M D :=
 (bnd (bnd (bnd ((ap1 F_is_map) [x_table]) tru) fun x_b => ret (!x_b)) fun x_b1 => if x_b1 = true then (thr1 c.BadTable "value" [x_table]) else (ret .non))
def sp_check_map (c : Cs) : DSp := spM (ap1 (F_check_map c))
def L_first_double_0 (c : Cs) (x_table2 : D) (x_one : D) (x_e1 : D) (x_s1 : Unit) (x_nx1 x_bk1 : Unit → M D) : M D :=
 (bnd (bnd (bnd (op qIx x_table2 x_one) fun x_t3 => bnd (op qIx x_table2 x_e1) fun x_t4 => op (qEq false) x_t3 x_t4) fun x_t5 => isB x_t5 ret) fun x_b => if x_b = true then (tupM [x_one, x_e1]) else (x_nx1 ()))
def L_first_double_1 (c : Cs) (x_table1 : D) (x_e : D) (x_s : Unit) (x_nx x_bk : Unit → M D) : M D :=
 (bnd (bnd (bnd (op (qAdd false) x_e (.int 1)) fun x_t2 => bnd (bnd (nop qLen [x_table1]) fun x_t1 => bnd (ret []) fun x_ts1 => ret (x_t1 :: x_ts1)) fun x_ts2 => ret (x_t2 :: x_ts2)) rng2) fun x_xs => loopR (L_first_double_0 c x_table1 x_e) x_xs () fun x_s2 : Unit => (x_nx ()))
def F_first_double (c : Cs) (x_table : D) : M D :=
 (bnd ((ap1 (F_check_map c)) [x_table]) fun _ => (bnd (bnd (bnd (nop qLen [x_table]) fun x_t => bnd (ret []) fun x_ts => ret (x_t :: x_ts)) rng1) fun x_xs1 => loopR (L_first_double_1 c x_table) x_xs1 () fun x_s3 : Unit => (ret .non)))
def sp_first_double (c : Cs) : DSp := spM (ap1 (F_first_double c))
def sp__law_hand (c : Cs) : DSp := spHand
def sp__law_take (c : Cs) : DSp := spMH takeF
def Fb__law_same (rc : D → D → M D) (x_told : D) (x_due : D) : M D :=
 (bnd (bnd (nop qIsi [x_due, (.ty "tuple")]) tru) fun x_b => if x_b = true then (bnd (bnd (bnd (bnd (nop qIsi [x_told, (.ty "tuple")]) tru) fun x_b1 => ret (!x_b1)) fun x_b2 => if x_b2 = true then ret true else (bnd (bnd (nop qLen [x_told]) fun x_t => bnd (nop qLen [x_due]) fun x_t1 => op (qEq true) x_t x_t1) fun x_t2 => isB x_t2 ret)) fun x_b3 => if x_b3 = true then (ret (.bl false)) else (bnd (bnd (bnd (bnd (nop qLen [x_due]) fun x_t3 => bnd (ret []) fun x_ts => ret (x_t3 :: x_ts)) rng1) fun x_xs => req (x_xs.length ≤ sizeLine) (bnd (noX (mapA (fun x_e => (bnd (bnd (op qIx x_told x_e) fun x_t5 => bnd (bnd (op qIx x_due x_e) fun x_t4 => bnd (ret []) fun x_ts1 => ret (x_t4 :: x_ts1)) fun x_ts2 => ret (x_t5 :: x_ts2)) (ap2 rc))) x_xs)) fun x_ys => ret (.lst x_ys))) fun x_t6 => op (qIn true) (.bl false) x_t6)) else (bnd (bnd (op (qIsN false) x_due .non) fun x_t7 => isB x_t7 ret) fun x_b4 => if x_b4 = true then (op (qIsN false) x_told .non) else (bnd (bnd (nop qIsi [x_due, (.ty "bool")]) tru) fun x_b5 => if x_b5 = true then (bnd (nop qIsi [x_told, (.ty "bool")]) fun x_t8 => isB x_t8 fun x_b6 => if x_b6 = true then (op (qEq false) x_told x_due) else ret (.bl false)) else (bnd (bnd (nop qIsi [x_due, (.ty "int")]) tru) fun x_b7 => if x_b7 = true then (bnd (nop qIsi [x_told, (.ty "int")]) fun x_t11 => isB x_t11 fun x_b10 => if x_b10 = true then (bnd (bnd (nop qIsi [x_told, (.ty "bool")]) fun x_t9 => isB x_t9 fun x_b8 => ret (.bl (!x_b8))) fun x_t10 => isB x_t10 fun x_b9 => if x_b9 = true then (op (qEq false) x_told x_due) else ret (.bl false)) else ret (.bl false)) else (bnd (nop qIsi [x_told, (.ty "str")]) fun x_t12 => isB x_t12 fun x_b11 => if x_b11 = true then (op (qEq false) x_told x_due) else ret (.bl false))))))
def F__law_same : Nat → D → D → M D
  | 0, _, _ => bad
  | n + 1, x_told, x_due => Fb__law_same (F__law_same n) x_told x_due
def sp__law_same (c : Cs) : DSp := spM (ap2 (F__law_same 3))
def L__law_bits_0 (x_number1 : D) (x_e : D) (x_s : D) (x_nx x_bk : D → M D) : M D :=
 (bnd (bnd (bnd (bnd (bnd (bnd (op qShl (.int 1) x_e) fun x_t => op qFdiv x_number1 x_t) fun x_t3 => bnd (bnd (bnd (op qShl (.int 2) x_e) fun x_t1 => op qFdiv x_number1 x_t1) fun x_t2 => op (qMul false) x_t2 (.int 2)) fun x_t4 => op qSub x_t3 x_t4) fun x_t5 => bnd (ret []) fun x_ts => ret (x_t5 :: x_ts)) fun x_ts1 => nop qStr x_ts1) fun x_t6 => op (qAdd false) x_t6 x_s) fun x_found => (x_nx x_found))
def F__law_bits (x_length : D) (x_number : D) : M D :=
 (bnd (rng1 [x_length]) fun x_xs => loopR (L__law_bits_0 x_number) x_xs (.str "") fun x_s1 : D => (ret x_s1))
def sp__law_bits (c : Cs) : DSp := spM (ap2 F__law_bits)
def L__law_led_0 (x_table1 : D) (x_e : D) (x_s : D) (x_nx x_bk : D → M D) : M D :=
 (bnd (op qIx x_table1 x_s) fun x_found => (x_nx x_found))
def F__law_led (x_table : D) (x_value : D) (x_times : D) : M D :=
 (bnd (rng1 [x_times]) fun x_xs => loopR (L__law_led_0 x_table) x_xs x_value fun x_s1 : D => (ret x_s1))
def sp__law_led (c : Cs) : DSp := spM (ap3 F__law_led)
def L__law_right_0 (x_table1 : D) (x_tops1 : D) (x_message1 : D) (x_e : D) (x_s : List D) (x_nx x_bk : List D → M D) : M D :=
 (bnd (bnd (bnd (bnd (nop qLen [x_table1]) fun x_t1 => bnd (ret []) fun x_ts2 => ret (x_t1 :: x_ts2)) rng1) fun x_xs => req (x_xs.length ≤ sizeLine) (bnd (noX (filA (fun x_e1 => (bnd (bnd (bnd (bnd (bnd (bnd (op qIx x_message1 x_e) fun x_t2 => bnd (ret []) fun x_ts3 => ret (x_t2 :: x_ts3)) fun x_ts4 => ret (x_e1 :: x_ts4)) fun x_ts5 => ret (x_table1 :: x_ts5)) (ap3 F__law_led)) fun x_t5 => bnd (op qIx x_tops1 x_e) fun x_t6 => op (qEq false) x_t5 x_t6) fun x_t7 => isB x_t7 ret)) (fun x_e1 => (ret x_e1)) x_xs)) fun x_ys => ret (.lst x_ys))) fun x_fit => (bnd (bnd (bnd (bnd (nop qLen [x_fit]) fun x_t8 => bnd (ret []) fun x_ts6 => ret (x_t8 :: x_ts6)) takeF) fun x_t9 => op qIx x_fit x_t9) fun x_d => req (x_s.length < sizeLine) (x_nx (x_s ++ [x_d]))))
def F__law_right (x_table : D) (x_tops : D) (x_message : D) : M D :=
 (bnd (req (([] : List D).length ≤ sizeLine) (ret ([] : List D))) fun x_found => (bnd (bnd (bnd (nop qLen [x_tops]) fun x_t => bnd (ret []) fun x_ts1 => ret (x_t :: x_ts1)) rng1) fun x_xs1 => loopR (L__law_right_0 x_table x_tops x_message) x_xs1 x_found fun x_s1 : List D => (ret (.lst x_s1))))
def sp__law_right (c : Cs) : DSp := spMH (ap3 F__law_right)
def F__law_strings (x_n : D) (x_values : D) : M D :=
 (bnd (bnd (bnd (itM x_values) fun x_xs => req (x_xs.length ≤ sizeLine) (bnd (noX (mapA (fun x_e => ((ap2 F__law_bits) [x_n, x_e])) x_xs)) fun x_ys => ret (.lst x_ys))) fun x_t => bnd (ret []) fun x_ts => ret (x_t :: x_ts)) fun x_ts1 => nop qTuple x_ts1)
def sp__law_strings (c : Cs) : DSp := spM (ap2 F__law_strings)
def F__law_above (x_message : D) (x_other : D) : M D :=
 (bnd (bnd (bnd (nop qLen [x_message]) fun x_t => bnd (ret []) fun x_ts => ret (x_t :: x_ts)) rng1) fun x_xs => req (x_xs.length ≤ sizeLine) (bnd (noX (filA (fun x_e => (bnd (bnd (op qIx x_other x_e) fun x_t1 => bnd (op qIx x_message x_e) fun x_t2 => op qGt x_t1 x_t2) fun x_t3 => isB x_t3 ret)) (fun x_e => (ret x_e)) x_xs)) fun x_ys => ret (.lst x_ys)))
def sp__law_above (c : Cs) : DSp := spM (ap2 F__law_above)
def L__law_due_0 (x_table1 : D) (x_n1 : D) (x_place1 : D) (x_e : D) (x_s : D × D × D) (x_nx x_bk : D × D × D → M D) : M D :=
 (jn (fun x_s1 : D => (bnd (op qIx x_table1 x_s.2.1) fun x_one1 => (bnd (op qIx x_table1 x_s.1) fun x_below1 => (x_nx (x_below1, x_one1, x_s1))))) fun x_k => bnd (bnd (bnd (op (qEq true) x_s.2.1 x_s.1) fun x_t13 => isB x_t13 ret) fun x_b1 => if x_b1 = true then (bnd (bnd (op qIx x_table1 x_s.2.1) fun x_t14 => bnd (op qIx x_table1 x_s.1) fun x_t15 => op (qEq false) x_t14 x_t15) fun x_t16 => isB x_t16 ret) else ret false) fun x_b2 => if x_b2 = true then (bnd (bnd (bnd ((ap2 F__law_bits) [x_n1, x_s.2.1]) fun x_t18 => bnd (bnd ((ap2 F__law_bits) [x_n1, x_s.1]) fun x_t17 => bnd (ret []) fun x_ts7 => ret (x_t17 :: x_ts7)) fun x_ts8 => ret (x_t18 :: x_ts8)) tupM) fun x_pair => (x_k x_pair)) else (x_k x_s.2.2))
def F__law_due (x_table : D) (x_n : D) (x_message : D) (x_signature : D) (x_other : D) (x_forged : D) : M D :=
 (bnd (bnd ((ap2 F__law_above) [x_message, x_other]) fun x_t => op qIx x_t (.int 0)) fun x_place => (bnd (op qIx x_signature x_place) fun x_below => (bnd (bnd (bnd (bnd (op qIx x_forged x_place) fun x_t5 => bnd (bnd (bnd (bnd (op qIx x_other x_place) fun x_t1 => bnd (op qIx x_message x_place) fun x_t2 => op qSub x_t1 x_t2) fun x_t3 => op qSub x_t3 (.int 1)) fun x_t4 => bnd (ret []) fun x_ts => ret (x_t4 :: x_ts)) fun x_ts1 => ret (x_t5 :: x_ts1)) fun x_ts2 => ret (x_table :: x_ts2)) (ap3 F__law_led)) fun x_turned => (bnd (bnd (bnd (op qIx x_table x_turned) fun x_t7 => op (qEq false) x_t7 x_below) fun x_t8 => isB x_t8 ret) fun x_b => if x_b = true then (bnd (bnd (bnd (bnd ((ap2 F__law_bits) [x_n, x_turned]) fun x_t9 => bnd (ret []) fun x_ts3 => ret (x_t9 :: x_ts3)) fun x_ts4 => ret (x_place :: x_ts4)) fun x_ts5 => ret ((.str "turned") :: x_ts5)) tupM) else (bnd (op qIx x_table x_turned) fun x_one => (bnd (bnd (bnd (op qIx x_message x_place) fun x_t12 => bnd (ret []) fun x_ts6 => ret (x_t12 :: x_ts6)) rng1) fun x_xs => loopR (L__law_due_0 x_table x_n x_place) x_xs (x_below, x_one, .non) fun x_s2 : D × D × D => (tupM [(.str "double"), x_place, x_s2.2.2])))))))
def sp__law_due (c : Cs) : DSp := spM (ap6 F__law_due)
def H__law_refused_0 (K : PySem.W.Frag) (c : Cs) (x : Exc) : M D :=
 (exM K c.BadBlock x (noX (bnd (bnd (bnd (bnd (bnd (bnd (isEM K x (.ref c.BadChoice)) fun x_t7 => isB x_t7 fun x_b1 => if x_b1 = true then ret (.bl true) else (isEM K x (.ref c.BadMessage))) fun x_t8 => bnd (ret []) fun x_ts8 => ret (x_t8 :: x_ts8)) fun x_ts9 => nop qInt x_ts9) fun x_t9 => bnd (ret []) fun x_ts10 => ret (x_t9 :: x_ts10)) fun x_ts11 => nop qStr x_ts11) fun x_t10 => op (qAdd false) (.str "block") x_t10)) (exM K c.BadChoice x (noX (bnd (bnd (bnd (bnd (bnd (isEM K x (.ref c.BadMessage)) fun x_t4 => bnd (ret []) fun x_ts4 => ret (x_t4 :: x_ts4)) fun x_ts5 => nop qInt x_ts5) fun x_t5 => bnd (ret []) fun x_ts6 => ret (x_t5 :: x_ts6)) fun x_ts7 => nop qStr x_ts7) fun x_t6 => op (qAdd false) (.str "choice") x_t6)) (exM K c.BadMessage x (noX (bnd (bnd (bnd (bnd (bnd (bnd (isEM K x (.ty "ValueError")) fun x_t => isB x_t fun x_b => ret (.bl (!x_b))) fun x_t1 => bnd (ret []) fun x_ts => ret (x_t1 :: x_ts)) fun x_ts1 => nop qInt x_ts1) fun x_t2 => bnd (ret []) fun x_ts2 => ret (x_t2 :: x_ts2)) fun x_ts3 => nop qStr x_ts3) fun x_t3 => op (qAdd false) (.str "message") x_t3)) (thr x))))
def F__law_refused (K : PySem.W.Frag) (c : Cs) (x_f : D) (x_depth : D) (x_tops : D) (x_message : D) (x_signature : D) (x_other : D) (x_forged : D) : M D :=
 (tryM (fun d => d) (bnd ((ap7 (F_turned_by c)) [x_f, x_depth, x_tops, x_message, x_signature, x_other, x_forged]) fun _ => (ret none)) (H__law_refused_0 K c) (ret (.str "")))
def sp__law_refused (K : PySem.W.Frag) (c : Cs) : DSp := spM (ap7 (F__law_refused K c))
def L__law_messages_0 (x_depth1 : D) (x_place1 : D) (x_e1 : D) (x_s1 : List D) (x_nx x_bk : List D → M D) : M D :=
 (bnd (bnd (bnd (op (qEq true) x_e1 x_place1) fun x_t8 => isB x_t8 ret) fun x_b1 => if x_b1 = true then (bnd (bnd (takeF [(.int 3)]) fun x_t9 => op qGt x_t9 (.int 0)) fun x_t10 => isB x_t10 ret) else ret false) fun x_b2 => if x_b2 = true then (bnd (bnd (bnd (op (qAdd false) x_depth1 (.int 1)) fun x_t11 => bnd (ret []) fun x_ts3 => ret (x_t11 :: x_ts3)) takeF) fun x_d2 => bnd (ret x_e1) fun x_o2 => setM x_s1 x_o2 x_d2 fun x_other2 => (x_nx x_other2)) else (x_nx x_s1))
def F__law_messages (x_k : D) (x_depth : D) : M D :=
 (bnd (bnd (rng1 [x_k]) fun x_xs => req (x_xs.length ≤ sizeLine) (noX (mapA (fun x_e => (bnd (bnd (op (qAdd false) x_depth (.int 1)) fun x_t => bnd (ret []) fun x_ts => ret (x_t :: x_ts)) takeF)) x_xs))) fun x_one => (bnd (bnd (ret [(.lst x_one)]) fun x_ts1 => nopN (qList false) x_ts1) fun x_other => (bnd (takeF [x_k]) fun x_place => (jn (fun x_s : List D => (bnd (bnd (bnd (op qIx (.lst x_s) x_place) fun x_t3 => op (qAdd false) x_t3 (.int 1)) fun x_t6 => bnd (bnd (bnd (bnd (op qIx (.lst x_s) x_place) fun x_t4 => op qSub x_depth x_t4) fun x_t5 => bnd (ret []) fun x_ts2 => ret (x_t5 :: x_ts2)) takeF) fun x_t7 => op (qAdd false) x_t6 x_t7) fun x_d1 => bnd (ret x_place) fun x_o1 => setM x_other x_o1 x_d1 fun x_other1 => (bnd (rng1 [x_k]) fun x_xs1 => loopR (L__law_messages_0 x_depth x_place) x_xs1 x_other1 fun x_s2 : List D => (tupM [(.lst x_s), (.lst x_s2)])))) fun x_k1 => bnd (bnd (bnd (op qIx (.lst x_one) x_place) fun x_t1 => op (qEq false) x_t1 x_depth) fun x_t2 => isB x_t2 ret) fun x_b => if x_b = true then (bnd (takeF [x_depth]) fun x_d => bnd (ret x_place) fun x_o => setM x_one x_o x_d fun x_one1 => (x_k1 x_one1)) else (x_k1 x_one)))))
def sp__law_messages (c : Cs) : DSp := spMH (ap2 F__law_messages)
def F__law_bent (x_table : D) (x_values : D) (x_tops : D) (x_message : D) : M D :=
 (bnd (bnd (ret [x_values]) fun x_ts => nopN (qList false) x_ts) fun x_found => (bnd (bnd (bnd (nop qLen [x_values]) fun x_t => bnd (ret []) fun x_ts1 => ret (x_t :: x_ts1)) takeF) fun x_place => (bnd (bnd (bnd (bnd (nop qLen [x_table]) fun x_t1 => bnd (ret []) fun x_ts2 => ret (x_t1 :: x_ts2)) rng1) fun x_xs => req (x_xs.length ≤ sizeLine) (bnd (noX (filA (fun x_e => (bnd (bnd (bnd (bnd (bnd (bnd (op qIx x_message x_place) fun x_t2 => bnd (ret []) fun x_ts3 => ret (x_t2 :: x_ts3)) fun x_ts4 => ret (x_e :: x_ts4)) fun x_ts5 => ret (x_table :: x_ts5)) (ap3 F__law_led)) fun x_t5 => bnd (op qIx x_tops x_place) fun x_t6 => op (qEq true) x_t5 x_t6) fun x_t7 => isB x_t7 ret)) (fun x_e => (ret x_e)) x_xs)) fun x_ys => ret (.lst x_ys))) fun x_off => (bnd (bnd (bnd (nop qLen [x_off]) fun x_t8 => op (qEq false) x_t8 (.int 0)) fun x_t9 => isB x_t9 ret) fun x_b => if x_b = true then (ret .non) else (bnd (bnd (bnd (bnd (nop qLen [x_off]) fun x_t10 => bnd (ret []) fun x_ts6 => ret (x_t10 :: x_ts6)) takeF) fun x_t11 => op qIx x_off x_t11) fun x_d => bnd (ret x_place) fun x_o => setM x_found x_o x_d fun x_found1 => (ret (.lst x_found1)))))))
def sp__law_bent (c : Cs) : DSp := spMH (ap4 F__law_bent)
def F__law_wrong (K : PySem.W.Frag) (c : Cs) (x_f : D) (x_table : D) (x_depth : D) (x_n : D) (x_tops : D) (x_one : D) (x_sign : D) (x_other : D) (x_forged : D) : M D :=
 (bnd ((ap2 F__law_strings) [x_n, x_tops]) fun x_tell => (bnd ((ap2 F__law_strings) [x_n, x_sign]) fun x_first => (bnd ((ap2 F__law_strings) [x_n, x_forged]) fun x_second => (bnd ((ap4 F__law_bent) [x_table, x_forged, x_tops, x_other]) fun x_bent => (jn (fun x_s : Unit => (bnd ((ap4 F__law_bent) [x_table, x_sign, x_tops, x_one]) fun x_bent1 => (jn (fun x_s1 : Unit => (bnd (bnd (bnd (bnd (nop qLen [x_one]) fun x_t20 => bnd (ret []) fun x_ts14 => ret (x_t20 :: x_ts14)) rng1) fun x_xs => req (x_xs.length ≤ sizeLine) (bnd (noX (mapA (fun x_e => (bnd (bnd (op qIx x_one x_e) fun x_t22 => bnd (bnd (op qIx x_other x_e) fun x_t21 => bnd (ret []) fun x_ts15 => ret (x_t21 :: x_ts15)) fun x_ts16 => ret (x_t22 :: x_ts16)) fun x_ts17 => nop qMin2 x_ts17)) x_xs)) fun x_ys => ret (.lst x_ys))) fun x_lower => (bnd (bnd (bnd (bnd ((ap3 F__law_right) [x_table, x_tops, x_lower]) fun x_t23 => bnd (ret []) fun x_ts18 => ret (x_t23 :: x_ts18)) fun x_ts19 => ret (x_n :: x_ts19)) (ap2 F__law_strings)) fun x_honest => (bnd (bnd (bnd (bnd (bnd (bnd (bnd (bnd (nop qTuple [x_one]) fun x_t28 => bnd (bnd (bnd (nop qTuple [x_lower]) fun x_t26 => bnd (bnd (ret []) fun x_ts20 => ret (x_honest :: x_ts20)) fun x_ts21 => ret (x_t26 :: x_ts21)) fun x_ts22 => ret (x_first :: x_ts22)) fun x_ts23 => ret (x_t28 :: x_ts23)) fun x_ts24 => ret (x_tell :: x_ts24)) fun x_ts25 => ret (x_depth :: x_ts25)) fun x_ts26 => ret (x_f :: x_ts26)) (ap7 (F__law_refused K c))) fun x_t32 => op (qEq true) x_t32 (.str "message0")) fun x_t33 => isB x_t33 ret) fun x_b4 => if x_b4 = true then (ret (.bl false)) else (bnd (bnd (ret [x_one]) fun x_ts27 => nopN (qList false) x_ts27) fun x_out => (bnd (bnd (bnd (bnd (un qNeg (.int 1)) fun x_t35 => bnd (bnd (op (qAdd false) x_depth (.int 1)) fun x_t34 => bnd (ret []) fun x_ts28 => ret (x_t34 :: x_ts28)) fun x_ts29 => ret (x_t35 :: x_ts29)) lstM) fun x_t36 => bnd (takeF [(.int 2)]) fun x_t37 => op qIx x_t36 x_t37) fun x_d => bnd (bnd (bnd (nop qLen [(.lst x_out)]) fun x_t38 => bnd (ret []) fun x_ts30 => ret (x_t38 :: x_ts30)) takeF) fun x_o => setM x_out x_o x_d fun x_out1 => (bnd (bnd (bnd (bnd (bnd (bnd (bnd (bnd (nop qTuple [(.lst x_out1)]) fun x_t42 => bnd (bnd (bnd (nop qTuple [x_lower]) fun x_t40 => bnd (bnd (ret []) fun x_ts31 => ret (x_honest :: x_ts31)) fun x_ts32 => ret (x_t40 :: x_ts32)) fun x_ts33 => ret (x_second :: x_ts33)) fun x_ts34 => ret (x_t42 :: x_ts34)) fun x_ts35 => ret (x_tell :: x_ts35)) fun x_ts36 => ret (x_depth :: x_ts36)) fun x_ts37 => ret (x_f :: x_ts37)) (ap7 (F__law_refused K c))) fun x_t46 => op (qEq true) x_t46 (.str "choice0")) fun x_t47 => isB x_t47 ret) fun x_b5 => if x_b5 = true then (ret (.bl false)) else (bnd (bnd (bnd (bnd (bnd (bnd (bnd (bnd (nop qTuple [x_one]) fun x_t51 => bnd (bnd (bnd (nop qTuple [(.lst x_out1)]) fun x_t49 => bnd (bnd (ret []) fun x_ts38 => ret (x_second :: x_ts38)) fun x_ts39 => ret (x_t49 :: x_ts39)) fun x_ts40 => ret (x_first :: x_ts40)) fun x_ts41 => ret (x_t51 :: x_ts41)) fun x_ts42 => ret (x_tell :: x_ts42)) fun x_ts43 => ret (x_depth :: x_ts43)) fun x_ts44 => ret (x_f :: x_ts44)) (ap7 (F__law_refused K c))) fun x_t55 => op (qEq true) x_t55 (.str "choice0")) fun x_t56 => isB x_t56 ret) fun x_b6 => if x_b6 = true then (ret (.bl false)) else (bnd (bnd (bnd (bnd (bnd (op (qAdd false) x_n (.int 1)) fun x_t59 => bnd (bnd (bnd (bnd (bnd (bnd (op qIx x_f (.int 3)) itM) fun x_xs1 => req (x_xs1.length ≤ sizeLine) (bnd (noX (mapA (fun x_e1 => (op (qAdd false) x_e1 (.str "0"))) x_xs1)) fun x_ys1 => ret (.lst x_ys1))) fun x_t57 => bnd (ret []) fun x_ts45 => ret (x_t57 :: x_ts45)) fun x_ts46 => nop qTuple x_ts46) fun x_t58 => bnd (ret []) fun x_ts47 => ret (x_t58 :: x_ts47)) fun x_ts48 => ret (x_t59 :: x_ts48)) fun x_ts49 => ret (x_n :: x_ts49)) fun x_ts50 => ret ((.str "generator") :: x_ts50)) tupM) fun x_bad => (bnd (bnd (bnd (bnd (bnd (bnd (bnd (bnd (nop qTuple [x_one]) fun x_t65 => bnd (bnd (bnd (nop qTuple [x_other]) fun x_t63 => bnd (bnd (ret []) fun x_ts51 => ret (x_second :: x_ts51)) fun x_ts52 => ret (x_t63 :: x_ts52)) fun x_ts53 => ret (x_first :: x_ts53)) fun x_ts54 => ret (x_t65 :: x_ts54)) fun x_ts55 => ret (x_tell :: x_ts55)) fun x_ts56 => ret (x_depth :: x_ts56)) fun x_ts57 => ret (x_bad :: x_ts57)) (ap7 (F__law_refused K c))) fun x_t69 => op (qEq true) x_t69 (.str "block0")) fun x_t70 => isB x_t70 ret) fun x_b7 => if x_b7 = true then (ret (.bl false)) else (bnd (bnd (bnd (bnd (bnd (bnd (bnd (bnd (bnd (bnd (bnd (op qIx x_f (.int 3)) fun x_t72 => bnd (bnd (ret (.int 1)) fun x_t71 => isI x_t71 fun x_i => ret (some x_i)) fun x_l => bnd (ret none) fun x_h => sop (qSl false) x_t72 x_l x_h) fun x_t73 => bnd (ret []) fun x_ts58 => ret (x_t73 :: x_ts58)) fun x_ts59 => ret (x_n :: x_ts59)) fun x_ts60 => ret (x_n :: x_ts60)) fun x_ts61 => ret ((.str "generator") :: x_ts61)) tupM) fun x_t83 => bnd (bnd (bnd (bnd (nop qTuple [x_one]) fun x_t80 => bnd (bnd (bnd (nop qTuple [x_lower]) fun x_t78 => bnd (bnd (ret []) fun x_ts62 => ret (x_honest :: x_ts62)) fun x_ts63 => ret (x_t78 :: x_ts63)) fun x_ts64 => ret (x_first :: x_ts64)) fun x_ts65 => ret (x_t80 :: x_ts65)) fun x_ts66 => ret (x_tell :: x_ts66)) fun x_ts67 => ret ((.int 16) :: x_ts67)) fun x_ts68 => ret (x_t83 :: x_ts68)) (ap7 (F__law_refused K c))) fun x_t84 => op (qEq true) x_t84 (.str "block0")) fun x_t85 => isB x_t85 ret) fun x_b8 => if x_b8 = true then (ret (.bl false)) else (bnd (bnd (bnd (bnd (bnd (lstM [(.int 0), (.int 16)]) fun x_t86 => bnd (takeF [(.int 2)]) fun x_t87 => op qIx x_t86 x_t87) fun x_t93 => bnd (bnd (bnd (nop qTuple [x_one]) fun x_t91 => bnd (bnd (bnd (nop qTuple [x_other]) fun x_t89 => bnd (bnd (ret []) fun x_ts69 => ret (x_second :: x_ts69)) fun x_ts70 => ret (x_t89 :: x_ts70)) fun x_ts71 => ret (x_first :: x_ts71)) fun x_ts72 => ret (x_t91 :: x_ts72)) fun x_ts73 => ret (x_tell :: x_ts73)) fun x_ts74 => ret (x_t93 :: x_ts74)) fun x_ts75 => ret (x_f :: x_ts75)) (ap7 (F__law_refused K c))) fun x_t95 => op (qEq false) x_t95 (.str "choice0"))))))))))))) fun x_k1 => bnd (bnd (op (qIsN true) x_bent1 .non) fun x_t10 => isB x_t10 ret) fun x_b2 => if x_b2 = true then (bnd (bnd (bnd (bnd (bnd (bnd (bnd (bnd (nop qTuple [x_one]) fun x_t14 => bnd (bnd ((ap2 F__law_strings) [x_n, x_bent1]) fun x_t13 => bnd (bnd (nop qTuple [x_other]) fun x_t12 => bnd (bnd (ret []) fun x_ts7 => ret (x_second :: x_ts7)) fun x_ts8 => ret (x_t12 :: x_ts8)) fun x_ts9 => ret (x_t13 :: x_ts9)) fun x_ts10 => ret (x_t14 :: x_ts10)) fun x_ts11 => ret (x_tell :: x_ts11)) fun x_ts12 => ret (x_depth :: x_ts12)) fun x_ts13 => ret (x_f :: x_ts13)) (ap7 (F__law_refused K c))) fun x_t18 => op (qEq true) x_t18 (.str "message0")) fun x_t19 => isB x_t19 ret) fun x_b3 => if x_b3 = true then (ret (.bl false)) else (x_k1 ())) else (x_k1 ())))) fun x_k => bnd (bnd (op (qIsN true) x_bent .non) fun x_t => isB x_t ret) fun x_b => if x_b = true then (bnd (bnd (bnd (bnd (bnd (bnd (bnd (bnd (nop qTuple [x_one]) fun x_t4 => bnd (bnd (bnd (nop qTuple [x_other]) fun x_t2 => bnd (bnd ((ap2 F__law_strings) [x_n, x_bent]) fun x_t1 => bnd (ret []) fun x_ts => ret (x_t1 :: x_ts)) fun x_ts1 => ret (x_t2 :: x_ts1)) fun x_ts2 => ret (x_first :: x_ts2)) fun x_ts3 => ret (x_t4 :: x_ts3)) fun x_ts4 => ret (x_tell :: x_ts4)) fun x_ts5 => ret (x_depth :: x_ts5)) fun x_ts6 => ret (x_f :: x_ts6)) (ap7 (F__law_refused K c))) fun x_t8 => op (qEq true) x_t8 (.str "message0")) fun x_t9 => isB x_t9 ret) fun x_b1 => if x_b1 = true then (ret (.bl false)) else (x_k ())) else (x_k ()))))))
def sp__law_wrong (K : PySem.W.Frag) (c : Cs) : DSp := spMH (ap9 (F__law_wrong K c))
def L__law_lot_0 (x_depth3 : D) (x_total3 : D) (x_message : D) (x_e2 : D) (x_s2 : List D) (x_nx2 x_bk2 : List D → M D) : M D :=
 (bnd (bnd (lstM [x_e2]) fun x_t2 => op (qAdd false) x_message x_t2) fun x_d => req (x_s2.length < sizeLine) (x_nx2 (x_s2 ++ [x_d])))
def L__law_lot_1 (x_depth2 : D) (x_total2 : D) (x_e1 : D) (x_s1 : List D) (x_nx1 x_bk1 : List D → M D) : M D :=
 (bnd (bnd (bnd (op (qAdd false) x_depth2 (.int 1)) fun x_t1 => bnd (ret []) fun x_ts2 => ret (x_t1 :: x_ts2)) rng1) fun x_xs => loopR (L__law_lot_0 x_depth2 x_total2 x_e1) x_xs x_s1 fun x_s3 : List D => (x_nx1 x_s3))
def L__law_lot_2 (x_depth1 : D) (x_total1 : D) (x_e : D) (x_s : D) (x_nx x_bk : D → M D) : M D :=
 (bnd (req (([] : List D).length ≤ sizeLine) (ret ([] : List D))) fun x_grown => (bnd (itM x_s) fun x_xs1 => loopR (L__law_lot_1 x_depth1 x_total1) x_xs1 x_grown fun x_s4 : List D => (x_nx (.lst x_s4))))
def F__law_lot (x_k : D) (x_depth : D) (x_total : D) : M D :=
 (bnd (bnd (bnd (lstM ([] : List D)) fun x_t => bnd (ret []) fun x_ts => ret (x_t :: x_ts)) lstM) fun x_found => (bnd (rng1 [x_k]) fun x_xs3 => loopR (L__law_lot_2 x_depth x_total) x_xs3 x_found fun x_s5 : D => (bnd (bnd (bnd (itM x_s5) fun x_xs2 => req (x_xs2.length ≤ sizeLine) (bnd (noX (filA (fun x_e3 => (bnd (bnd (nop qSum [x_e3]) fun x_t3 => op (qEq false) x_t3 x_total) fun x_t4 => isB x_t4 ret)) (fun x_e3 => (nop qTuple [x_e3])) x_xs2)) fun x_ys => ret (.lst x_ys))) fun x_t5 => bnd (ret []) fun x_ts3 => ret (x_t5 :: x_ts3)) fun x_ts4 => nop qTuple x_ts4)))
def sp__law_lot (c : Cs) : DSp := spM (ap3 F__law_lot)
def F__law_level (c : Cs) (x_f : D) (x_table : D) (x_n : D) : M D :=
 (bnd (bnd (takeF [(.int 2)]) fun x_t => op (qAdd false) (.int 2) x_t) fun x_k => (bnd (bnd (takeF [(.int 3)]) fun x_t1 => op (qAdd false) (.int 1) x_t1) fun x_depth => (bnd (bnd (bnd (bnd (bnd (op (qMul false) x_k x_depth) fun x_t2 => op qSub x_t2 (.int 1)) fun x_t3 => bnd (ret []) fun x_ts => ret (x_t3 :: x_ts)) takeF) fun x_t4 => op (qAdd false) (.int 1) x_t4) fun x_total => (bnd ((ap3 F__law_lot) [x_k, x_depth, x_total]) fun x_lot => (bnd (bnd (bnd (bnd (bnd (bnd ((ap3 (F_level_messages c)) [x_k, x_depth, x_total]) fun x_t6 => bnd (bnd (ret []) fun x_ts1 => ret (x_lot :: x_ts1)) fun x_ts2 => ret (x_t6 :: x_ts2)) (ap2 (F__law_same 3))) tru) fun x_b => ret (!x_b)) fun x_b1 => if x_b1 = true then ret true else (bnd (bnd ((ap2 (F_is_steady c)) [x_depth, x_lot]) fun x_t7 => op (qIsB true) x_t7 (.bl true)) fun x_t8 => isB x_t8 ret)) fun x_b2 => if x_b2 = true then (ret (.bl false)) else (bnd (bnd (bnd (nop qLen [x_lot]) fun x_t9 => bnd (ret []) fun x_ts3 => ret (x_t9 :: x_ts3)) takeF) fun x_at => (bnd (op qIx x_lot x_at) fun x_one => (bnd (bnd (bnd (bnd (bnd (bnd (op (qAdd false) x_at (.int 1)) fun x_t12 => bnd (bnd (bnd (bnd (nop qLen [x_lot]) fun x_t10 => op qSub x_t10 (.int 1)) fun x_t11 => bnd (ret []) fun x_ts4 => ret (x_t11 :: x_ts4)) takeF) fun x_t13 => op (qAdd false) x_t12 x_t13) fun x_t14 => bnd (ret []) fun x_ts5 => ret (x_t14 :: x_ts5)) fun x_ts6 => nop qInt x_ts6) fun x_t15 => bnd (nop qLen [x_lot]) fun x_t16 => op qMod x_t15 x_t16) fun x_t17 => op qIx x_lot x_t17) fun x_other => (bnd (bnd (rng1 [x_k]) fun x_xs => req (x_xs.length ≤ sizeLine) (bnd (noX (mapA (fun x_e => (bnd (bnd (bnd (bnd (bnd (op qShl (.int 1) x_n) fun x_t18 => bnd (ret []) fun x_ts7 => ret (x_t18 :: x_ts7)) takeF) fun x_t20 => bnd (bnd (ret []) fun x_ts8 => ret (x_depth :: x_ts8)) fun x_ts9 => ret (x_t20 :: x_ts9)) fun x_ts10 => ret (x_table :: x_ts10)) (ap3 F__law_led))) x_xs)) fun x_ys => ret (.lst x_ys))) fun x_tops => (bnd ((ap3 F__law_right) [x_table, x_tops, x_one]) fun x_sign => (bnd ((ap3 F__law_right) [x_table, x_tops, x_other]) fun x_forged => (bnd (bnd (bnd (bnd (bnd ((ap2 F__law_strings) [x_n, x_tops]) fun x_t26 => bnd (bnd (bnd ((ap2 F__law_strings) [x_n, x_sign]) fun x_t24 => bnd (bnd (bnd ((ap2 F__law_strings) [x_n, x_forged]) fun x_t22 => bnd (ret []) fun x_ts11 => ret (x_t22 :: x_ts11)) fun x_ts12 => ret (x_other :: x_ts12)) fun x_ts13 => ret (x_t24 :: x_ts13)) fun x_ts14 => ret (x_one :: x_ts14)) fun x_ts15 => ret (x_t26 :: x_ts15)) fun x_ts16 => ret (x_depth :: x_ts16)) fun x_ts17 => ret (x_f :: x_ts17)) (ap7 (F_turned_by c))) fun x_told => (bnd (bnd (bnd ((ap6 F__law_due) [x_table, x_n, x_one, x_sign, x_other, x_forged]) fun x_t29 => bnd (ret []) fun x_ts18 => ret (x_t29 :: x_ts18)) fun x_ts19 => ret (x_told :: x_ts19)) (ap2 (F__law_same 3)))))))))))))))
def sp__law_level (c : Cs) : DSp := spMH (ap3 (F__law_level c))
def F__law_whole (K : PySem.W.Frag) (c : Cs) : M D :=
 (bnd (bnd (takeF [(.int 4)]) fun x_t => op (qAdd false) (.int 1) x_t) fun x_n => (bnd (op qShl (.int 1) x_n) fun x_size => (bnd (bnd (rng1 [x_size]) fun x_xs => req (x_xs.length ≤ sizeLine) (bnd (noX (mapA (fun x_e => (takeF [x_size])) x_xs)) fun x_ys => ret (.lst x_ys))) fun x_table => (bnd (bnd (takeF [(.int 3)]) fun x_t1 => op (qEq false) x_t1 (.int 0)) fun x_order => (jn (fun x_s : D => (bnd (bnd (bnd (bnd (bnd (bnd ((ap2 F__law_strings) [x_n, x_s]) fun x_t9 => bnd (ret []) fun x_ts2 => ret (x_t9 :: x_ts2)) fun x_ts3 => ret (x_n :: x_ts3)) fun x_ts4 => ret (x_n :: x_ts4)) fun x_ts5 => ret ((.str "generator") :: x_ts5)) tupM) fun x_f => (bnd (bnd (takeF [(.int 3)]) fun x_t13 => op (qAdd false) (.int 2) x_t13) fun x_k1 => (bnd (bnd (lstM [(.int 1), (.int 2), (.int 3), (.int 4), (.int 5), (.int 15), (.int 9)]) fun x_t14 => bnd (takeF [(.int 7)]) fun x_t15 => op qIx x_t14 x_t15) fun x_depth => (bnd (bnd (rng1 [x_k1]) fun x_xs2 => req (x_xs2.length ≤ sizeLine) (bnd (noX (mapA (fun x_e2 => (takeF [x_size])) x_xs2)) fun x_ys2 => ret (.lst x_ys2))) fun x_secrets => (bnd (bnd (itM x_secrets) fun x_xs3 => req (x_xs3.length ≤ sizeLine) (bnd (noX (mapA (fun x_e3 => ((ap3 F__law_led) [x_s, x_e3, x_depth])) x_xs3)) fun x_ys3 => ret (.lst x_ys3))) fun x_tops => (bnd ((ap2 F__law_messages) [x_k1, x_depth]) fun x_d => bnd (un2 x_d) fun x_p => (bnd (bnd (rng1 [x_k1]) fun x_xs4 => req (x_xs4.length ≤ sizeLine) (bnd (noX (mapA (fun x_e4 => (bnd (bnd (bnd (op qIx x_secrets x_e4) fun x_t18 => bnd (bnd (bnd (op qIx x_p.1 x_e4) fun x_t16 => op qSub x_depth x_t16) fun x_t17 => bnd (ret []) fun x_ts6 => ret (x_t17 :: x_ts6)) fun x_ts7 => ret (x_t18 :: x_ts7)) fun x_ts8 => ret (x_s :: x_ts8)) (ap3 F__law_led))) x_xs4)) fun x_ys4 => ret (.lst x_ys4))) fun x_honest => (bnd (bnd (bnd (bnd (bnd (bnd (bnd (bnd (bnd ((ap2 F__law_strings) [x_n, x_secrets]) fun x_t21 => bnd (bnd (nop qTuple [x_p.1]) fun x_t20 => bnd (ret []) fun x_ts9 => ret (x_t20 :: x_ts9)) fun x_ts10 => ret (x_t21 :: x_ts10)) fun x_ts11 => ret (x_depth :: x_ts11)) fun x_ts12 => ret (x_f :: x_ts12)) (ap4 (F_signed c))) fun x_t25 => bnd (bnd ((ap2 F__law_strings) [x_n, x_honest]) fun x_t24 => bnd (ret []) fun x_ts13 => ret (x_t24 :: x_ts13)) fun x_ts14 => ret (x_t25 :: x_ts14)) (ap2 (F__law_same 3))) tru) fun x_b1 => ret (!x_b1)) fun x_b2 => if x_b2 = true then (ret (.bl false)) else (bnd (bnd (bnd (bnd (takeF [(.int 2)]) fun x_t26 => op (qEq false) x_t26 (.int 0)) fun x_t27 => isB x_t27 ret) fun x_b3 => if x_b3 = true then ((ap3 F__law_right) [x_s, x_tops, x_p.1]) else (ret x_honest)) fun x_sign => (bnd ((ap3 F__law_right) [x_s, x_tops, x_p.2]) fun x_forged => (bnd ((ap2 F__law_strings) [x_n, x_sign]) fun x_first => (bnd ((ap2 F__law_strings) [x_n, x_forged]) fun x_second => (bnd ((ap2 F__law_strings) [x_n, x_tops]) fun x_tell => (bnd (bnd (bnd (bnd (bnd (bnd (bnd (bnd (bnd (nop qTuple [x_p.1]) fun x_t29 => bnd (bnd (ret []) fun x_ts15 => ret (x_first :: x_ts15)) fun x_ts16 => ret (x_t29 :: x_ts16)) fun x_ts17 => ret (x_tell :: x_ts17)) fun x_ts18 => ret (x_depth :: x_ts18)) fun x_ts19 => ret (x_f :: x_ts19)) (ap5 (F_is_signed c))) fun x_t33 => op (qIsB true) x_t33 (.bl true)) fun x_t34 => isB x_t34 ret) fun x_b4 => if x_b4 = true then ret true else (bnd (bnd (bnd (bnd (bnd (bnd (bnd (nop qTuple [x_p.2]) fun x_t36 => bnd (bnd (ret []) fun x_ts20 => ret (x_second :: x_ts20)) fun x_ts21 => ret (x_t36 :: x_ts21)) fun x_ts22 => ret (x_tell :: x_ts22)) fun x_ts23 => ret (x_depth :: x_ts23)) fun x_ts24 => ret (x_f :: x_ts24)) (ap5 (F_is_signed c))) fun x_t40 => op (qIsB true) x_t40 (.bl true)) fun x_t41 => isB x_t41 ret)) fun x_b5 => if x_b5 = true then (ret (.bl false)) else (bnd ((ap6 F__law_due) [x_s, x_n, x_p.1, x_sign, x_p.2, x_forged]) fun x_due => (bnd (bnd (bnd (bnd (bnd (bnd (nop qTuple [x_p.1]) fun x_t45 => bnd (bnd (bnd (nop qTuple [x_p.2]) fun x_t43 => bnd (bnd (ret []) fun x_ts25 => ret (x_second :: x_ts25)) fun x_ts26 => ret (x_t43 :: x_ts26)) fun x_ts27 => ret (x_first :: x_ts27)) fun x_ts28 => ret (x_t45 :: x_ts28)) fun x_ts29 => ret (x_tell :: x_ts29)) fun x_ts30 => ret (x_depth :: x_ts30)) fun x_ts31 => ret (x_f :: x_ts31)) (ap7 (F_turned_by c))) fun x_told => (bnd (bnd (bnd (bnd ((ap2 (F__law_same 3)) [x_told, x_due]) tru) fun x_b6 => ret (!x_b6)) fun x_b9 => if x_b9 = true then ret true else (bnd (bnd (bnd (op qIx x_due (.int 0)) fun x_t49 => op (qEq false) x_t49 (.str "double")) fun x_t50 => isB x_t50 ret) fun x_b8 => if x_b8 = true then (bnd (bnd (ret x_order) tru) fun x_b7 => if x_b7 = true then ret true else (bnd (bnd (bnd (bnd (nop qTuple [x_s]) fun x_t51 => bnd (ret []) fun x_ts32 => ret (x_t51 :: x_ts32)) (ap1 (F_first_double c))) fun x_t52 => op (qIsN false) x_t52 .non) fun x_t53 => isB x_t53 ret)) else ret false)) fun x_b10 => if x_b10 = true then (ret (.bl false)) else (bnd (bnd (bnd (bnd (op qIx x_due (.int 0)) fun x_t54 => op (qEq false) x_t54 (.str "turned")) fun x_t55 => isB x_t55 ret) fun x_b11 => if x_b11 = true then (bnd (bnd (bnd (bnd (bnd (op qIx x_told (.int 2)) fun x_t56 => bnd (ret []) fun x_ts33 => ret (x_t56 :: x_ts33)) fun x_ts34 => ret (x_f :: x_ts34)) (ap2 (F_row_of c))) fun x_t59 => bnd (bnd (op qIx x_due (.int 1)) fun x_t58 => op qIx x_first x_t58) fun x_t60 => op (qEq true) x_t59 x_t60) fun x_t61 => isB x_t61 ret) else ret false) fun x_b12 => if x_b12 = true then (ret (.bl false)) else (bnd (bnd (bnd (bnd (op qIx x_due (.int 0)) fun x_t62 => op (qEq false) x_t62 (.str "double")) fun x_t63 => isB x_t63 ret) fun x_b14 => if x_b14 = true then (bnd (bnd (bnd (bnd (bnd (bnd (bnd (op qIx x_told (.int 2)) fun x_t64 => op qIx x_t64 (.int 0)) fun x_t65 => bnd (ret []) fun x_ts35 => ret (x_t65 :: x_ts35)) fun x_ts36 => ret (x_f :: x_ts36)) (ap2 (F_row_of c))) fun x_t70 => bnd (bnd (bnd (bnd (bnd (op qIx x_told (.int 2)) fun x_t67 => op qIx x_t67 (.int 1)) fun x_t68 => bnd (ret []) fun x_ts37 => ret (x_t68 :: x_ts37)) fun x_ts38 => ret (x_f :: x_ts38)) (ap2 (F_row_of c))) fun x_t71 => op (qEq true) x_t70 x_t71) fun x_t72 => isB x_t72 ret) fun x_b13 => if x_b13 = true then ret true else (bnd (bnd (bnd (bnd (bnd (bnd (op qIx x_told (.int 2)) fun x_t73 => op qIx x_t73 (.int 0)) fun x_t75 => bnd (bnd (ret []) fun x_ts39 => ret ((.int 0) :: x_ts39)) fun x_ts40 => ret (x_t75 :: x_ts40)) fun x_ts41 => ret (x_f :: x_ts41)) (ap3 (F_led c))) fun x_t78 => bnd (bnd (op qIx x_told (.int 2)) fun x_t77 => op qIx x_t77 (.int 1)) fun x_t79 => op (qEq false) x_t78 x_t79) fun x_t80 => isB x_t80 ret)) else ret false) fun x_b15 => if x_b15 = true then (ret (.bl false)) else (bnd (bnd (bnd ((ap3 (F__law_level c)) [x_f, x_s, x_n]) tru) fun x_b16 => ret (!x_b16)) fun x_b17 => if x_b17 = true then (ret (.bl false)) else ((ap9 (F__law_wrong K c)) [x_f, x_s, x_depth, x_n, x_tops, x_p.1, x_sign, x_p.2, x_forged])))))))))))))))))))))) fun x_k => bnd (bnd (ret x_order) tru) fun x_b => if x_b = true then (bnd (bnd (rng1 [x_size]) fun x_xs1 => req (x_xs1.length ≤ sizeLine) (bnd (noX (mapA (fun x_e1 => (bnd (bnd (bnd (bnd (bnd (bnd (bnd (op qIx x_table (.int 0)) fun x_t2 => op (qMul false) (.int 2) x_t2) fun x_t3 => op (qAdd false) x_t3 (.int 1)) fun x_t4 => op (qMul false) x_e1 x_t4) fun x_t5 => bnd (op qIx x_table (.int 1)) fun x_t6 => op (qAdd false) x_t5 x_t6) fun x_t7 => bnd (ret []) fun x_ts => ret (x_t7 :: x_ts)) fun x_ts1 => nop qInt x_ts1) fun x_t8 => op qMod x_t8 x_size)) x_xs1)) fun x_ys1 => ret (.lst x_ys1))) fun x_table1 => (x_k x_table1)) else (x_k x_table))))))
def sp__law_whole (K : PySem.W.Frag) (c : Cs) : DSp := spW (F__law_whole K c)
def sp_law (K : PySem.W.Frag) (c : Cs) : DSp := topSp
end K82

namespace K82
open PySem PySem.Spec L2 DL FL
variable {K : PySem.W.Frag} {c : Cs}
/-! numbers and strings -/
theorem num_go {k : D → M D} : ∀ (l v acc : Nat), loopR L_number_of_0 ((bsl l v).map fun c => D.str (S [c])) (nI acc) k = k (nI (acc * 2 ^ l + v % 2 ^ l)) := by
  intro l
  induction l with
  | zero => intro v acc; simp [bsl, lsb, Nat.mod_one]
  | succ l ih =>
    intro v acc
    have hb : v / 2 ^ l % 2 < 2 := Nat.mod_lt _ (by decide)
    have e : (acc * 2 + v / 2 ^ l % 2) * 2 ^ l + v % 2 ^ l = acc * 2 ^ (l + 1) + v % 2 ^ (l + 1) := by
      rw [Nat.mod_pow_succ, Nat.pow_succ, Nat.add_mul, Nat.mul_assoc, Nat.mul_comm 2 (2 ^ l), Nat.mul_comm (v / 2 ^ l % 2)]; omega
    rw [bsl_top, List.map_cons, loopR_cons, ← e, ← ih]
    unfold L_number_of_0 nI
    rw [op_mul_i _ _ (.inr (by decide)), bnd_ret, nop_int_bit hb]
    rfl
theorem f_number_of {n v : Nat} (h : v < 2 ^ n) : F_number_of (bD n v) = ret (nI v) := by
  unfold F_number_of bD
  rw [itM_str, bnd_ret]
  rw [show (D.int 0) = nI 0 from rfl, num_go, Nat.zero_mul, Nat.zero_add, Nat.mod_eq_of_lt h]
theorem f_is_number (i lo hi : Int) : F_is_number (.int i) (.int lo) (.int hi) = ret (.bl (decide (lo ≤ i) && decide (i ≤ hi))) := by
  unfold F_is_number
  simp
  by_cases h : lo ≤ i <;> simp [h]
theorem f_is_bits {x : D} {n : Int} (h : smallF x) : F_is_bits x (.int n) = ret (.bl (isBitsD n x)) := by
  obtain ⟨h1, h2⟩ := h
  unfold F_is_bits
  cases x with
  | str z =>
    have hz := h2 z rfl
    have hl : z.cps.toList.length ≤ 64 := by
      have e : z.cps.toList.length = z.length := by simp [Str.length]
      omega
    obtain ⟨l, rfl⟩ : ∃ l, z = S l := ⟨_, S_eta z⟩
    have hl : l.length ≤ 64 := by simpa using hl
    rw [isi_ty (t := "str") rfl kb_ss, bnd_ret, isB_bl, if_pos rfl, nop_len_S l (by omega), itM_str]
    simp only [bnd_ret, op_eq_i, isB_bl]
    rw [req_sz _ _ (by simp; omega), mapA_noX, mapA_rep (fun c => D.str (S [c])) (fun c => D.bl (bitC c)) fun a _ => ?_]
    · simp only [bnd_ret, nop_all_m]
      show _ = FL.ret (D.bl (decide (((S l).length : Int) = n) && (S l).cps.toList.all bitC))
      rw [S_len]
      cases decide ((l.length : Int) = n) <;> simp
    · rw [e_01, in_sign]
      have : decide (a ∈ [48, 49]) = bitC a := by unfold bitC; by_cases h1 : a = 48 <;> by_cases h2 : a = 49 <;> simp [h1, h2]
      rw [this]; rfl
  | non => rw [isi_ty (t := "NoneType") rfl kb_ns]; rfl
  | int _ => rw [isi_ty (t := "int") rfl kb_is]; rfl
  | bl _ => rw [isi_ty (t := "bool") rfl kb_bs]; rfl
  | _ => cases h1
theorem f_is_row {rows : List D} {a n : Int} (hl : rows.length ≤ 5000) (h : ∀ d ∈ rows, smallF d) : F_is_row (.tup rows) (.int a) (.int n) = ret (.bl (decide ((rows.length : Int) = a) && rows.all (isBitsD n))) := by
  unfold F_is_row
  rw [isi_ty (t := "tuple") rfl kb_tt]
  simp only [bnd_ret, isB_bl, if_pos, nop_len_t, op_eq_i, itM_tup]
  rw [req_sz _ _ (by omega), mapA_noX, mapA_ret (g := fun d => D.bl (isBitsD n d)) fun d hd => by rw [ap2_e, f_is_bits (h d hd)]; rfl]
  simp only [bnd_ret, nop_all_m]
  cases decide ((rows.length : Int) = a) <;> simp
/-! blocks -/
/-- led along a row of values -/
def ledN (tb : List Nat) (v : Nat) : Nat → Nat
  | 0 => v
  | t + 1 => (tb[ledN tb v t]?).getD 0
structure GT (n : Nat) (tb : List Nat) : Prop where
  lo : 1 ≤ n
  hi : n ≤ 4
  len : tb.length = 2 ^ n
  lt : ∀ x ∈ tb, x < 2 ^ n
def fT (n : Nat) (tb : List Nat) : D := .tup [.str "generator", .int n, .int n, tupB n tb]
def genD (a b : Nat) (rows : List D) : D := .tup [.str "generator", .int a, .int b, .tup rows]
def exB (c : Cs) : Exc := ⟨c.BadBlock, []⟩
def exC (c : Cs) : Exc := ⟨c.BadChoice, []⟩
def exM (c : Cs) : Exc := ⟨c.BadMessage, []⟩
structure Sm (a b : Nat) (rows : List D) : Prop where
  a1 : 1 ≤ a
  a2 : a ≤ 10
  b1 : b ≤ 40
  l : rows.length ≤ 5000
  s : ∀ d ∈ rows, smallF d
def genOk (a b : Nat) (rows : List D) : Bool := decide (1 ≤ b) && (decide (rows.length = 2 ^ a) && rows.all (isBitsD b))
theorem f_gen {a b : Nat} {rows : List D} (h : Sm a b rows) : F_is_generator (genD a b rows) = ret (.bl (genOk a b rows)) := by
  have := h.a1; have := h.a2; have := h.b1
  unfold F_is_generator genD genOk
  rw [isi_ty (t := "tuple") rfl kb_tt]
  have e1 : decide ((1 : Int) ≤ (a : Int)) = true := decide_eq_true (by omega)
  have e2 : decide ((a : Int) ≤ 10) = true := decide_eq_true (by omega)
  have e3 : decide ((b : Int) ≤ 40) = true := decide_eq_true (by omega)
  have e4 : decide ((1 : Int) ≤ (b : Int)) = decide (1 ≤ b) := decide_eq_decide.mpr (by omega)
  have e5 : decide ((rows.length : Int) = ((2 ^ a : Nat) : Int)) = decide (rows.length = 2 ^ a) := decide_eq_decide.mpr (by norm_cast)
  simp only [bnd_ret, bnd_assoc, tru_bl, Bool.not_true, ite_f, nop_len_t, op_ne_i, List.length_cons, List.length_nil, isB_bl, ix_t0, ix_t1, ix_t2, ix_t3, op_ne_s, decide_true, ap3_e, f_is_number, op_shl_1 a (by omega), f_is_row h.l h.s, e1, e2, e3, e4, e5]
  cases decide (1 ≤ b) <;> rfl
/-- no generator at all -/
def Odd0 (x : D) : Prop := x = .non ∨ ∃ xs, x = .lst xs
theorem f_gen0 {x : D} (h : Odd0 x) : F_is_generator x = ret (.bl false) := by
  unfold F_is_generator
  rcases h with rfl | ⟨xs, rfl⟩
  · rw [isi_ty (t := "NoneType") rfl kb_nt]; rfl
  · rw [isi_ty (t := "list") rfl kb_lt]; rfl
theorem f_fun0 {x : D} (h : Odd0 x) : F_is_function x = ret (.bl false) := by
  unfold F_is_function
  rcases h with rfl | ⟨xs, rfl⟩
  · rw [isi_ty (t := "NoneType") rfl kb_nt]; rfl
  · rw [isi_ty (t := "list") rfl kb_lt]; rfl
theorem f_fun4 {a b c d : D} : F_is_function (.tup [a, b, c, d]) = ret (.bl false) := by
  unfold F_is_function
  rw [isi_ty (t := "tuple") rfl kb_tt]; rfl
theorem f_blk0 {x : D} (h : Odd0 x) : F_check_block c x = thr (exB c) := by
  unfold F_check_block
  rw [ap1_e, ap1_e, f_gen0 h, f_fun0 h]; rfl
theorem f_blk {a b : Nat} {rows : List D} (h : Sm a b rows) : F_check_block c (genD a b rows) = if genOk a b rows = true then ret .non else thr (exB c) := by
  unfold F_check_block
  rw [ap1_e, ap1_e, f_gen h]
  unfold genD
  rw [f_fun4]
  cases genOk a b rows <;> rfl
theorem gt_sm {n : Nat} {tb : List Nat} (g : GT n tb) : Sm n n (tb.map (bD n)) := by
  have := g.lo; have h4 := g.hi
  have : 2 ^ n ≤ 2 ^ 4 := Nat.pow_le_pow_right (by decide) h4
  exact ⟨by omega, by omega, by omega, by rw [List.length_map, g.len]; omega, fun d hd => by
    obtain ⟨v, _, rfl⟩ := List.mem_map.mp hd
    exact small_bD (by omega)⟩
theorem gt_ok {n : Nat} {tb : List Nat} (g : GT n tb) : genOk n n (tb.map (bD n)) = true := by
  unfold genOk
  rw [decide_eq_true g.lo, decide_eq_true (by simpa using g.len), Bool.true_and, Bool.true_and, List.all_map, List.all_eq_true]
  exact fun _ _ => bits_bD
theorem f_blkT {n : Nat} {tb : List Nat} (g : GT n tb) : F_check_block c (fT n tb) = ret .non := by
  have := f_blk (c := c) (gt_sm g)
  rw [gt_ok g] at this; exact this
theorem f_row_at {n v : Nat} {tb : List Nat} (g : GT n tb) (hv : v < 2 ^ n) : F_row_at (fT n tb) (bD n v) = ret (bD n ((tb[v]?).getD 0)) := by
  unfold F_row_at fT tupB
  have hl : v < tb.length := by rw [g.len]; exact hv
  have e : tb[v]? = some tb[v] := List.getElem?_eq_getElem hl
  rw [ix_t3, bnd_ret, ap1_e, f_number_of hv, bnd_ret]
  unfold nI
  rw [ix_map e, e]; rfl
/-- a block that is no generator to as many bits -/
inductive OddB : D → Prop
  | no {x : D} : Odd0 x → OddB x
  | gen {a b : Nat} {rows : List D} : Sm a b rows → (genOk a b rows = true → a ≠ b) → OddB (genD a b rows)
theorem f_even {n : Nat} {tb : List Nat} (g : GT n tb) : F_check_even c (fT n tb) = ret .non := by
  unfold F_check_even
  rw [ap1_e, f_blkT g, bnd_ret]
  unfold fT
  simp
theorem f_even0 {x : D} (h : OddB x) : F_check_even c x = thr (exB c) := by
  unfold F_check_even
  rw [ap1_e]
  cases h with
  | no h => rw [f_blk0 h]; rfl
  | @gen a b rows h hne =>
    rw [f_blk h]
    cases e : genOk a b rows with
    | false => rfl
    | true =>
      have ne := hne e
      unfold genD
      have : (a : Int) ≠ (b : Int) := by omega
      simp [this]; rfl
theorem f_depth (i : Int) : F_check_depth c (.int i) = if (decide (1 ≤ i) && decide (i ≤ 15)) = true then ret .non else thr (exC c) := by
  unfold F_check_depth
  rw [ap3_e, f_is_number]
  cases (decide (1 ≤ i) && decide (i ≤ 15)) <;> rfl
def okN (d : Int) (ms : List Int) : Bool := ms.all fun m => decide (0 ≤ m) && decide (m ≤ d)
def intsT (ms : List Int) : D := .tup (ms.map .int)
def natsT (ms : List Nat) : D := .tup (ms.map nI)
theorem f_numbers (d : Int) (ms : List Int) : F_check_numbers c (.int d) (intsT ms) = if okN d ms = true then ret .non else thr (exC c) := by
  unfold F_check_numbers intsT okN
  rw [itM_tup, bnd_ret, loop_all D.int (fun m => decide (0 ≤ m) && decide (m ≤ d)) (thr (exC c))]
  intro x _ nx bk
  unfold L_check_numbers_0
  rw [ap3_e, f_is_number]
  cases (decide (0 ≤ x) && decide (x ≤ d)) <;> rfl
theorem led_lt {n : Nat} {tb : List Nat} {v : Nat} (g : GT n tb) (h : v < 2 ^ n) : ∀ t, ledN tb v t < 2 ^ n
  | 0 => h
  | t + 1 => by
    show (tb[ledN tb v t]?).getD 0 < 2 ^ n
    have := led_lt g h t
    rw [List.getElem?_eq_getElem (by rw [g.len]; exact this)]
    exact g.lt _ (List.getElem_mem _)
def wayD (n : Nat) (tb : List Nat) (v t : Nat) : List D := (List.range (t + 1)).map fun i => bD n (ledN tb v i)
theorem way_succ {n : Nat} {tb : List Nat} {v t : Nat} : wayD n tb v (t + 1) = wayD n tb v t ++ [bD n (ledN tb v (t + 1))] := by
  unfold wayD; rw [List.range_succ, List.map_append]; rfl
theorem way_last {n : Nat} {tb : List Nat} {v t : Nat} : op qIx (.lst (wayD n tb v t)) (.int (-1)) = ret (bD n (ledN tb v t)) := by
  unfold wayD; rw [List.range_succ, List.map_append]; exact ix_last
theorem f_way {n v t : Nat} {tb : List Nat} (g : GT n tb) (hv : v < 2 ^ n) (ht : t ≤ 1000) : F_way_on (fT n tb) (bD n v) (nI t) = ret (.lst (wayD n tb v t)) := by
  unfold F_way_on
  rw [req_sz _ _ (by simp), bnd_ret]
  unfold nI
  rw [rng1_n (by omega), bnd_ret, show [bD n v] = wayD n tb v 0 from rfl, loop_rng (wayD n tb v)]
  intro i hi nx bk
  unfold L_way_on_0
  simp only [un_neg_i, bnd_ret, bnd_assoc, way_last, ap2_e, f_row_at g (led_lt g hv i)]
  rw [req_lsz _ _ (by simp [wayD]; omega), way_succ]; rfl
/-- the last string of a way -/
theorem f_last {n v t : Nat} {tb : List Nat} (g : GT n tb) (hv : v < 2 ^ n) (ht : t ≤ 1000) : (bnd (F_way_on (fT n tb) (bD n v) (nI t)) fun x => op qIx x (.int (-1))) = ret (bD n (ledN tb v t)) := by
  rw [f_way g hv ht, bnd_ret, way_last]
theorem f_led {n v t : Nat} {tb : List Nat} (g : GT n tb) (hv : v < 2 ^ n) (ht : t ≤ 15) : F_led c (fT n tb) (bD n v) (nI t) = ret (bD n (ledN tb v t)) := by
  unfold F_led
  rw [ap1_e, f_even g, bnd_ret, ap3_e]
  show bnd (bnd (bnd (F_is_number (.int t) (.int 0) (.int 15)) tru) fun b => ret (!b)) _ = _
  rw [f_is_number, decide_eq_true (show (0 : Int) ≤ t by omega), decide_eq_true (show (t : Int) ≤ 15 by omega)]
  simp [f_last g hv (show t ≤ 1000 by omega)]
theorem f_ledB {x s t : D} (h : OddB x) : F_led c x s t = thr (exB c) := by
  unfold F_led
  rw [ap1_e, f_even0 h]; rfl
theorem f_ledC {n : Nat} {tb : List Nat} {s : D} {t : Int} (g : GT n tb) (ht : ¬ (0 ≤ t ∧ t ≤ 15)) : F_led c (fT n tb) s (.int t) = thr (exC c) := by
  unfold F_led
  rw [ap1_e, f_even g, bnd_ret, ap3_e, f_is_number]
  have : (decide (0 ≤ t) && decide (t ≤ 15)) = false := by rw [Bool.eq_false_iff]; simpa using ht
  rw [this]; rfl
end K82

namespace K82
open PySem PySem.Spec L2 DL FL
variable {K : PySem.W.Frag} {c : Cs}
def rises (a b : List Int) : List Nat := (List.range a.length).filter fun i => decide ((a[i]?).getD 0 < (b[i]?).getD 0)
theorem f_rises {a b : List Int} (hl : a.length ≤ 1000) (h : a.length = b.length) : F_rises_at (intsT a) (intsT b) = ret (.lst ((rises a b).map nI)) := by
  unfold F_rises_at rises
  rw [enum_maps (A := D.int) (0 : Int) (xs := a) rfl, bnd_ret, req_sz _ _ (by simp; omega), filU_2, filA_noX, filA_ret (q := fun i => decide ((a[i]?).getD 0 < (b[i]?).getD 0)) (g := nI)]
  · rfl
  · intro i hi
    have hi : i < a.length := by simpa using hi
    have e : b[i]? = some ((b[i]?).getD 0) := by rw [List.getElem?_eq_getElem (by omega)]; rfl
    unfold intsT
    simp only [noX_bnd, ix_map e]
    rfl
  · intro i _ _; rfl
def mAt (ms : List (List Int)) (i : Nat) : List Int := (ms[i]?).getD []
def steadyN (ms : List (List Int)) : Bool := (List.range ms.length).all fun i => (List.range ms.length).all fun j => i == j || decide (0 < (rises (mAt ms i) (mAt ms j)).length)
def offRow (ms : List (List Int)) (i : Nat) : Bool := (ms.take i ++ ms.drop (i + 1)).all fun o => decide (0 < (rises (mAt ms i) o).length)
theorem offRow_eq {ms : List (List Int)} {i : Nat} (hi : i < ms.length) : offRow ms i = (List.range ms.length).all fun j => i == j || decide (0 < (rises (mAt ms i) (mAt ms j)).length) := by
  unfold offRow
  rw [Bool.eq_iff_iff, List.all_eq_true, List.all_eq_true]
  constructor
  · intro h j hj
    have hj : j < ms.length := by simpa using hj
    by_cases e : i = j
    · simp [e]
    · have e2 : (i == j) = false := by simpa using e
      rw [e2, Bool.false_or]
      refine h (mAt ms j) ?_
      have em : ms[j]? = some (mAt ms j) := by unfold mAt; rw [List.getElem?_eq_getElem hj]; rfl
      rw [List.mem_append]
      by_cases hlt : j < i
      · exact .inl (List.mem_of_getElem? (i := j) (by rw [List.getElem?_take, if_pos hlt]; exact em))
      · refine .inr (List.mem_of_getElem? (i := j - (i + 1)) ?_)
        rw [List.getElem?_drop, show i + 1 + (j - (i + 1)) = j by omega]; exact em
  · intro h o ho
    have : ∃ j, j < ms.length ∧ i ≠ j ∧ mAt ms j = o := by
      rcases List.mem_append.mp ho with ho | ho
      · obtain ⟨j, hj, rfl⟩ := List.mem_iff_getElem.mp ho
        rw [List.length_take] at hj
        refine ⟨j, by omega, by omega, ?_⟩
        unfold mAt; rw [List.getElem?_eq_getElem (show j < ms.length by omega), List.getElem_take]; rfl
      · obtain ⟨j, hj, rfl⟩ := List.mem_iff_getElem.mp ho
        rw [List.length_drop] at hj
        refine ⟨i + 1 + j, by omega, by omega, ?_⟩
        unfold mAt; rw [List.getElem?_eq_getElem (show i + 1 + j < ms.length by omega), List.getElem_drop]; rfl
    obtain ⟨j, hj, hne, rfl⟩ := this
    have := h j (by simpa using hj)
    have e2 : (i == j) = false := by simpa using hne
    rw [e2, Bool.false_or] at this
    exact this
theorem steady_off {ms : List (List Int)} : steadyN ms = (List.range ms.length).all (offRow ms) := by
  unfold steadyN
  rw [Bool.eq_iff_iff, List.all_eq_true, List.all_eq_true]
  constructor
  · intro h i hi
    rw [offRow_eq (by simpa using hi)]; exact h i hi
  · intro h i hi
    have := h i hi
    rw [offRow_eq (by simpa using hi)] at this; exact this
def cell (ms : List (List Int)) (i j : Nat) : Bool := i == j || decide (0 < (rises (mAt ms i) (mAt ms j)).length)
theorem steady_true {ms : List (List Int)} (h : ∀ i, i < ms.length → ∀ j, j < ms.length → cell ms i j = true) : steadyN ms = true := by
  show ((List.range ms.length).all fun i => (List.range ms.length).all fun j => cell ms i j) = true
  rw [List.all_eq_true]; intro i hi
  rw [List.all_eq_true]; intro j hj
  exact h i (by simpa using hi) j (by simpa using hj)
theorem steady_false {ms : List (List Int)} {i j : Nat} (hi : i < ms.length) (hj : j < ms.length) (h : cell ms i j = false) : steadyN ms = false := by
  cases e : steadyN ms with
  | false => rfl
  | true =>
    have e : ((List.range ms.length).all fun i => (List.range ms.length).all fun j => cell ms i j) = true := e
    rw [List.all_eq_true] at e
    have := e i (by simpa using hi)
    rw [List.all_eq_true] at this
    have := this j (by simpa using hj)
    rw [h] at this; cases this
def rowsN (d : Nat) : Nat → List (List Nat)
  | 0 => [[]]
  | k + 1 => (rowsN d k).flatMap fun r => (List.range (d + 1)).map fun x => r ++ [x]
def levelN (k d t : Nat) : List (List Nat) := (rowsN d k).filter fun r => r.sum == t
theorem rowsN_len (d : Nat) : ∀ k, (rowsN d k).length = (d + 1) ^ k
  | 0 => rfl
  | k + 1 => by
    have ih := rowsN_len d k
    have : ∀ (l : List (List Nat)), (l.flatMap fun r => (List.range (d + 1)).map fun x => r ++ [x]).length = l.length * (d + 1) := fun l => by
      induction l with
      | nil => simp
      | cons a l ih => rw [List.flatMap_cons, List.length_append, ih, List.length_map, List.length_range, List.length_cons, Nat.succ_mul]; omega
    show ((rowsN d k).flatMap _).length = _
    rw [this, ih, Nat.pow_succ]
theorem rowsN_row {d : Nat} : ∀ {k : Nat} {r : List Nat}, r ∈ rowsN d k → r.length = k
  | 0, r, h => by cases h with
    | head => rfl
    | tail _ h => cases h
  | k + 1, r, h => by
    obtain ⟨r1, h1, h2⟩ := List.mem_flatMap.mp h
    obtain ⟨x, _, rfl⟩ := List.mem_map.mp h2
    rw [List.length_append, rowsN_row h1]; rfl
theorem pow_cap {d k j : Nat} (hd : 1 ≤ d) (h : (d + 1) ^ k ≤ 256) (hj : j ≤ k) : (d + 1) ^ j ≤ 256 := Nat.le_trans (Nat.pow_le_pow_right (by omega) hj) h
theorem sum_nats (r : List Nat) : ((r.map fun x : Nat => (x : Int)).sum) = ((r.sum : Nat) : Int) := by
  induction r with
  | nil => rfl
  | cons a r ih => rw [List.map_cons, List.sum_cons, ih, List.sum_cons]; push_cast; rfl

theorem cut_to' {xs : List D} {k : Nat} : cutL xs none (some (k : Int)) = xs.take k := cut_to
theorem f_is_steady {d : Int} {ms : List (List Int)} {w : Nat} (hl : ms.length ≤ 100) (hw : w ≤ 100) (h : ∀ m ∈ ms, m.length = w) : F_is_steady c (.int d) (.tup (ms.map intsT)) = if (decide (1 ≤ d) && decide (d ≤ 15)) = true then (if ms.all (okN d) = true then ret (.bl (steadyN ms)) else thr (exC c)) else thr (exC c) := by
  unfold F_is_steady
  rw [ap1_e, f_depth]
  cases (decide (1 ≤ d) && decide (d ≤ 15)) with
  | false => rfl
  | true =>
    rw [if_pos rfl, if_pos rfl, bnd_ret, itM_tup, bnd_ret, loop_all intsT (okN d) (thr (exC c)) fun m hm nx bk => ?_]
    · cases ms.all (okN d) with
      | false => rfl
      | true =>
        rw [if_pos rfl, if_pos rfl, enum_maps (A := intsT) ([] : List Int) (xs := ms) rfl, bnd_ret, loop_all (fun i => .tup [.int (i : Nat), intsT ((ms[i]?).getD [])]) (offRow ms) (ret (.bl false)) fun i hi nx bk => ?_]
        · rw [steady_off]
          cases (List.range ms.length).all (offRow ms) <;> rfl
        · have hi : i < ms.length := by simpa using hi
          have em : ms[i]? = some (mAt ms i) := by unfold mAt; rw [List.getElem?_eq_getElem hi]; rfl
          have hm := h _ (List.mem_of_getElem? em)
          have e0 : cutL (ms.map intsT) none (some (i : Int)) = (ms.take i).map intsT := by rw [cut_to, List.map_take]
          have e1 : cutL (ms.map intsT) (some ((i : Int) + 1)) none = (ms.drop (i + 1)).map intsT := by
            have := cut_from (xs := ms.map intsT) (k := i + 1)
            rw [List.map_drop, ← this]; push_cast; rfl
          show bnd (un2 (.tup [.int (i : Nat), intsT (mAt ms i)])) _ = _
          rw [un2_e, bnd_ret]
          unfold L_is_steady_1
          simp only [bnd_ret, bnd_assoc, isI_int, slT, op_add_i, e0, e1]
          rw [op_add_t _ _ (by simp; omega), bnd_ret, ← List.map_append, itM_tup, bnd_ret, req_sz _ _ (by simp; omega), mapA_noX, mapA_rep intsT (fun o => D.bl (decide (0 < (rises (mAt ms i) o).length))) fun o ho => ?_]
          · simp only [bnd_ret]
            rw [nop_all_m (p := fun o => decide (0 < (rises (mAt ms i) o).length)), bnd_ret]
            show bnd (tru (.bl (offRow ms i))) _ = _
            cases offRow ms i <;> rfl
          · have ho2 : o ∈ ms := by
              rcases List.mem_append.mp ho with h | h
              · exact List.mem_of_mem_take h
              · exact List.mem_of_mem_drop h
            rw [ap2_e, f_rises (by omega) (by rw [hm, h o ho2])]
            simp
    · unfold L_is_steady_0
      rw [ap2_e, f_numbers]
      cases okN d m <;> rfl
theorem f_level {k d t : Nat} (hk : 2 ≤ k ∧ k ≤ 4) (hd : 1 ≤ d ∧ d ≤ 15) (hp : (d + 1) ^ k ≤ 256) : F_level_messages c (nI k) (nI d) (nI t) = ret (.tup ((levelN k d t).map natsT)) := by
  unfold F_level_messages nI
  rw [ap3_e, f_is_number, decide_eq_true (show (2 : Int) ≤ k by omega), decide_eq_true (show (k : Int) ≤ 4 by omega), ap1_e, f_depth, decide_eq_true (show (1 : Int) ≤ d by omega), decide_eq_true (show (d : Int) ≤ 15 by omega)]
  simp only [Bool.and_self, bnd_ret, bnd_assoc, tru_bl, Bool.not_true, ↓reduceIte, Bool.false_eq_true, tupM_nil, lstM_1]
  rw [rng1_n (by omega), bnd_ret, show D.lst [.tup []] = .lst ((rowsN d 0).map natsT) from rfl, loop_rng (fun j => D.lst ((rowsN d j).map natsT)) fun j hj nx bk => ?_]
  · have hlen := rowsN_len d k
    rw [itM_lst, bnd_ret, req_sz _ _ (by simp; omega), filA_noX, filA_rep natsT (fun r => r.sum == t) natsT (fun r hr => ?_) (fun r hr _ => ?_)]
    · rfl
    · rw [dseq_sum (ns := r.map fun x : Nat => (x : Int)) (by unfold natsT; rw [List.map_map]; rfl), sum_nats]
      simp only [noX_bnd, noX_ret, bnd_ret, op_eq_i, isB_bl]
      have : decide (((r.sum : Nat) : Int) = (t : Int)) = (r.sum == t) := by rw [Bool.eq_iff_iff]; simp; omega
      rw [← this]
    · rfl
  · unfold L_level_messages_0
    have hcap := pow_cap hd.1 hp (show j + 1 ≤ k by omega)
    have hlen := rowsN_len d (j + 1)
    rw [itM_lst, bnd_ret, lccU_noX]
    simp only [noX_ret]
    rw [lccU_rep (xs := rowsN d j) natsT natsT (fun _ => List.range (d + 1)) nI nI (fun r x => natsT (r ++ [x])) (fun _ _ => rfl) (fun r _ => ?_) (fun _ _ _ _ => rfl) (fun r hr x _ => ?_) ?_]
    · simp only [bnd_ret, bnd_assoc, List.nil_append]
      show nx (.lst ((rowsN d j).flatMap fun x => (List.range (d + 1)).map fun y => natsT (x ++ [y]))) = nx (.lst ((rowsN d (j + 1)).map natsT))
      congr 2
      show _ = ((rowsN d j).flatMap fun r => (List.range (d + 1)).map fun x => r ++ [x]).map natsT
      rw [List.map_flatMap]
      congr 1; funext r; rw [List.map_map]; rfl
    · have : ((rowsN d j).flatMap fun x => (List.range (d + 1)).map fun y => natsT (x ++ [y])).length = (rowsN d (j + 1)).length := by
        show _ = ((rowsN d j).flatMap fun r => (List.range (d + 1)).map fun x => r ++ [x]).length
        rw [List.length_flatMap, List.length_flatMap]; simp
      rw [this, hlen]; simp; omega
    · simp only [op_add_i, bnd_ret]
      rw [rng1_i (n := d + 1) (by push_cast; rfl) (by omega)]; rfl
    · have := rowsN_row hr
      rw [tupM_1, bnd_ret]
      unfold natsT
      rw [op_add_t _ _ (by simp; omega), List.map_append]; rfl
theorem f_levelC {k d t : Int} (h : ¬ (2 ≤ k ∧ k ≤ 4) ∨ ¬ (1 ≤ d ∧ d ≤ 15)) : F_level_messages c (.int k) (.int d) (.int t) = thr (exC c) := by
  unfold F_level_messages
  rw [ap3_e, f_is_number, ap1_e, f_depth]
  by_cases hk : (decide (2 ≤ k) && decide (k ≤ 4)) = true
  · have hd : (decide (1 ≤ d) && decide (d ≤ 15)) = false := by
      rw [Bool.eq_false_iff]; intro hd
      simp at hk hd
      omega
    rw [hk, hd]; rfl
  · rw [Bool.eq_false_iff.mpr hk]; rfl
end K82

namespace K82
open PySem PySem.Spec L2 DL FL
variable {K : PySem.W.Frag} {c : Cs}
theorem nats_ints {mn : List Nat} : intsT (mn.map fun m : Nat => (m : Int)) = natsT mn := by unfold intsT natsT; rw [List.map_map]; rfl
theorem ok_nat {d : Nat} {mn : List Nat} (h : ∀ m ∈ mn, m ≤ d) : okN (d : Int) (mn.map fun m : Nat => (m : Int)) = true := by
  unfold okN
  rw [List.all_map, List.all_eq_true]
  intro m hm
  have := h m hm
  simp; omega
theorem f_numbersT {d : Nat} {mn : List Nat} (h : ∀ m ∈ mn, m ≤ d) : F_check_numbers c (nI d) (natsT mn) = ret .non := by
  have := f_numbers (c := c) (d : Int) (mn.map fun m : Nat => (m : Int))
  rw [ok_nat h, nats_ints] at this; exact this
theorem f_depthT {d : Nat} (h : 1 ≤ d ∧ d ≤ 15) : F_check_depth c (nI d) = ret .non := by
  unfold nI
  rw [f_depth, decide_eq_true (show (1 : Int) ≤ d by omega), decide_eq_true (show (d : Int) ≤ 15 by omega)]; rfl
/-- depth or numbers that are not as they must be -/
def badN (d : Int) (ms : List Int) : Prop := ((decide (1 ≤ d) && decide (d ≤ 15)) && okN d ms) = false
theorem chkC {d : Int} {ms : List Int} (h : badN d ms) (m : M D) : (bnd (F_check_depth c (.int d)) fun _ => bnd (F_check_numbers c (.int d) (intsT ms)) fun _ => m) = thr (exC c) := by
  rw [f_depth, f_numbers]
  unfold badN at h
  cases e : (decide (1 ≤ d) && decide (d ≤ 15)) with
  | false => rfl
  | true =>
    rw [e, Bool.true_and] at h
    rw [h]; rfl
theorem f_signed {n d : Nat} {tb vs mn : List Nat} (g : GT n tb) (hd : 1 ≤ d ∧ d ≤ 15) (hv : ∀ v ∈ vs, v < 2 ^ n) (hm : ∀ m ∈ mn, m ≤ d) (hl : mn.length ≤ 1000) : F_signed c (fT n tb) (nI d) (tupB n vs) (natsT mn) = ret (tupB n (List.zipWith (fun v m => ledN tb v (d - m)) vs mn)) := by
  unfold F_signed
  rw [ap1_e, f_even g, bnd_ret, ap1_e, f_depthT hd, bnd_ret, ap2_e, f_numbersT hm, bnd_ret, zip_maps (A := bD n) (B := nI) (xs := vs) (ys := mn) rfl rfl, bnd_ret, req_sz _ _ (by simp; omega), mapU_2, mapA_noX, mapA_ret (g := fun p : Nat × Nat => bD n (ledN tb p.1 (d - p.2))) fun p hp => ?_]
  · simp only [bnd_ret, nop_tuple_l]
    unfold tupB
    rw [zipWith_zip, List.map_map]; rfl
  · have h1 := hv p.1 (List.of_mem_zip hp).1
    have h2 := hm p.2 (List.of_mem_zip hp).2
    have e : (d : Int) - (p.2 : Int) = ((d - p.2 : Nat) : Int) := by omega
    unfold nI
    simp only [op_sub_i, bnd_ret, bnd_assoc, ap3_e, un_neg_i, e]
    show noX (bnd (F_way_on (fT n tb) (bD n p.1) (nI (d - p.2))) fun x => op qIx x (.int (-1))) = _
    rw [f_last g h1 (by omega)]; rfl
theorem f_signedB {x d s m : D} (h : OddB x) : F_signed c x d s m = thr (exB c) := by
  unfold F_signed
  rw [ap1_e, f_even0 h]; rfl
theorem f_signedC {n : Nat} {tb : List Nat} {d : Int} {ms : List Int} {s : D} (g : GT n tb) (h : badN d ms) : F_signed c (fT n tb) (.int d) s (intsT ms) = thr (exC c) := by
  unfold F_signed
  rw [ap1_e, f_even g, bnd_ret, ap1_e, ap2_e]
  exact chkC h _
theorem f_comes {n : Nat} {tb ts vs mn : List Nat} (g : GT n tb) (ht : ∀ v ∈ ts, v < 2 ^ n) (hv : ∀ v ∈ vs, v < 2 ^ n) (hm : ∀ m ∈ mn, m ≤ 15) (he : vs.length = mn.length) (hl : mn.length ≤ 1000) : F_comes_up (fT n tb) (tupB n ts) (natsT mn) (tupB n vs) = ret (.bl (decide (List.zipWith (ledN tb) vs mn = ts))) := by
  unfold F_comes_up
  rw [zip_maps (A := bD n) (B := nI) (xs := vs) (ys := mn) rfl rfl, bnd_ret, req_sz _ _ (by simp; omega), mapU_2, mapA_noX, mapA_ret (g := fun p : Nat × Nat => bD n (ledN tb p.1 p.2)) fun p hp => ?_]
  · have e1 : ((vs.zip mn).map fun p : Nat × Nat => bD n (ledN tb p.1 p.2)) = (List.zipWith (ledN tb) vs mn).map (bD n) := by
      rw [zipWith_zip, List.map_map]; rfl
    have e2 : ∀ v ∈ List.zipWith (ledN tb) vs mn, v < 2 ^ n := fun v hv' => by
      rw [zipWith_zip] at hv'
      obtain ⟨p, hp, rfl⟩ := List.mem_map.mp hv'
      exact led_lt g (hv _ (List.of_mem_zip hp).1) _
    rw [e1]
    have e3 : decide (((vs.map (bD n)).length : Int) = ((mn.map nI).length : Int)) = true := decide_eq_true (by simp [he])
    unfold natsT
    simp only [bnd_ret, nop_len_t, op_eq_i, isB_bl, nop_tuple_l]
    show (bnd (nop qLen [.tup (vs.map (bD n))]) fun x => bnd (op (qEq false) x (.int (mn.map nI).length)) fun y => isB y fun b => if b = true then op (qEq false) (tupB n (List.zipWith (ledN tb) vs mn)) (tupB n ts) else ret (.bl false)) = _
    rw [nop_len_t, bnd_ret, op_eq_i, e3, eq_tupB e2 ht]; rfl
  · have h1 := hv p.1 (List.of_mem_zip hp).1
    have h2 := hm p.2 (List.of_mem_zip hp).2
    simp only [bnd_assoc, ap3_e, un_neg_i, bnd_ret]
    rw [f_last g h1 (by omega)]; rfl
theorem f_is_signed {n d : Nat} {tb ts vs mn : List Nat} (g : GT n tb) (hd : 1 ≤ d ∧ d ≤ 15) (ht : ∀ v ∈ ts, v < 2 ^ n) (hv : ∀ v ∈ vs, v < 2 ^ n) (hm : ∀ m ∈ mn, m ≤ d) (he : vs.length = mn.length) (hl : mn.length ≤ 1000) : F_is_signed c (fT n tb) (nI d) (tupB n ts) (natsT mn) (tupB n vs) = ret (.bl (decide (List.zipWith (ledN tb) vs mn = ts))) := by
  unfold F_is_signed
  rw [ap1_e, f_even g, bnd_ret, ap1_e, f_depthT hd, bnd_ret, ap2_e, f_numbersT hm, bnd_ret, ap4_e]
  exact f_comes g ht hv (fun m h => Nat.le_trans (hm m h) hd.2) he hl
theorem f_is_signedB {x d t s m : D} (h : OddB x) : F_is_signed c x d t m s = thr (exB c) := by
  unfold F_is_signed
  rw [ap1_e, f_even0 h]; rfl
theorem f_is_signedC {n : Nat} {tb : List Nat} {d : Int} {ms : List Int} {s t : D} (g : GT n tb) (h : badN d ms) : F_is_signed c (fT n tb) (.int d) t (intsT ms) s = thr (exC c) := by
  unfold F_is_signed
  rw [ap1_e, f_even g, bnd_ret, ap1_e, ap2_e]
  exact chkC h _
/-! the law's own -/
theorem f_same : ∀ (m n : Nat) (x : D), sameD m x = true → m < n → F__law_same n x x = ret (.bl true)
  | m, 0, x, _, h => by omega
  | m, n + 1, x, hx, h => by
    show Fb__law_same (F__law_same n) x x = _
    unfold Fb__law_same
    cases x with
    | tup xs =>
      cases m with
      | zero => cases hx
      | succ m =>
        have hx2 : (decide (xs.length ≤ 1000) && xs.all (sameD m)) = true := hx
        rw [Bool.and_eq_true, List.all_eq_true] at hx2
        have hl := of_decide_eq_true hx2.1
        rw [isi_ty (t := "tuple") rfl kb_tt]
        simp only [bnd_ret, tru_bl, nop_len_t, op_ne_i, isB_bl, Bool.not_true, decide_true, ite_t, ite_f]
        rw [rng1_n (by omega), bnd_ret, req_sz _ _ (by simp; omega), mapA_noX, mapA_rep nI (fun _ => D.bl true) fun i hi => ?_]
        · rw [bnd_ret, bnd_ret, bool_false_not_in 0]; rfl
        · have hi' : i < xs.length := by simpa using hi
          have e : xs[i]? = some xs[i] := List.getElem?_eq_getElem hi'
          unfold nI
          simp only [noX_bnd, ix_tn e, bnd_ret, noX_ret, ap2_e]
          rw [f_same m n _ (hx2.2 _ (List.getElem_mem hi')) (by omega)]; rfl
    | non => rw [isi_ty (t := "NoneType") rfl kb_nt]; rfl
    | bl b => rw [isi_ty (t := "bool") rfl kb_bt, isi_ty (t := "bool") rfl kb_bb]; simp [isNon]
    | int b => rw [isi_ty (t := "int") rfl kb_it]; simp [isNon]
    | str b => rw [isi_ty (t := "str") rfl kb_st, isi_ty (t := "str") rfl kb_sb, isi_ty (t := "str") rfl kb_si, isi_ty (t := "str") rfl kb_ss]; simp [isNon]
    | _ => cases m <;> cases hx
theorem f_lbits {l v : Nat} (hl : l ≤ 64) (hv : v < 2 ^ 64) : F__law_bits (nI l) (nI v) = ret (bD l v) := by
  unfold F__law_bits nI
  rw [rng1_n (by omega), bnd_ret, show D.str "" = bD 0 v by unfold bD; rw [show ("" : Str) = S [] from e_str]; rfl, loop_rng (fun k => bD k v) fun k hk nx bk => ?_]
  unfold L__law_bits_0 nI
  have hp : (2 : Nat) ^ k ≤ 2 ^ 64 := Nat.pow_le_pow_right (by decide) (by omega)
  have hp0 : 0 < (2 : Nat) ^ k := Nat.pow_pos (by decide)
  have hb : v / 2 ^ k % 2 < 2 := Nat.mod_lt _ (by decide)
  have ev : (v : Int) / ((2 ^ k : Nat) : Int) - (v : Int) / ((2 * 2 ^ k : Nat) : Int) * 2 = ((v / 2 ^ k % 2 : Nat) : Int) := by
    rw [← Int.natCast_ediv, ← Int.natCast_ediv, Nat.mul_comm 2, ← Nat.div_div_eq_div_mul]
    have := Nat.div_add_mod (v / 2 ^ k) 2
    omega
  rw [op_shl_1 k (by omega), op_shl_2 k (by omega)]
  simp only [bnd_ret, bnd_assoc]
  rw [op_fdiv_i _ _ (by omega) (by omega), op_fdiv_i _ _ (by omega) (by omega)]
  simp only [bnd_ret, bnd_assoc]
  rw [op_mul_i _ _ (.inr (by decide))]
  simp only [bnd_ret, bnd_assoc, op_sub_i, ev]
  rw [nop_str_i _ (by omega)]
  simp only [bnd_ret, bnd_assoc, str_bit hb]
  unfold bD
  rw [op_add_S _ _ (by simp; omega), bsl_top]; rfl
theorem f_strings {l : Nat} {vs : List Nat} (hl : l ≤ 64) (hv : ∀ v ∈ vs, v < 2 ^ 64) (hz : vs.length ≤ 1000) : F__law_strings (nI l) (.lst (vs.map nI)) = ret (tupB l vs) := by
  unfold F__law_strings tupB
  rw [itM_lst, bnd_ret, req_sz _ _ (by simp; omega), mapA_noX, mapA_rep nI (bD l) fun v h => by rw [ap2_e, f_lbits hl (hv v h)]; rfl]
  rfl
theorem f_lled {n v t : Nat} {tb : List Nat} (g : GT n tb) (hv : v < 2 ^ n) (ht : t ≤ 1000) : F__law_led (.lst (tb.map nI)) (nI v) (nI t) = ret (nI (ledN tb v t)) := by
  unfold F__law_led
  rw [show rng1 [nI t] = ret ((List.range t).map nI) from rng1_n (by omega), bnd_ret, show nI v = nI (ledN tb v 0) from rfl, loop_rng (fun k => nI (ledN tb v k)) fun k hk nx bk => ?_]
  unfold L__law_led_0
  have hlt : ledN tb v k < tb.length := by rw [g.len]; exact led_lt g hv k
  have e : tb[ledN tb v k]? = some ((tb[ledN tb v k]?).getD 0) := by rw [List.getElem?_eq_getElem hlt]; rfl
  rw [show op qIx (.lst (tb.map nI)) (nI (ledN tb v k)) = ret (nI ((tb[ledN tb v k]?).getD 0)) from ix_mapl e]
  rfl
end K82

namespace K82
open PySem PySem.Spec L2 DL FL
variable {K : PySem.W.Frag} {c : Cs}
theorem led_add {tb : List Nat} {v a : Nat} : ∀ b, ledN tb v (a + b) = ledN tb (ledN tb v a) b
  | 0 => rfl
  | b + 1 => by show (tb[ledN tb v (a + b)]?).getD 0 = (tb[ledN tb (ledN tb v a) b]?).getD 0; rw [led_add b]
theorem led_succ {tb : List Nat} {v a : Nat} : ledN tb v (a + 1) = (tb[ledN tb v a]?).getD 0 := rfl
/-! which numbers are above -/
def above (a b : List Nat) : List Nat := (List.range a.length).filter fun i => decide ((a[i]?).getD 0 < (b[i]?).getD 0)
theorem rises_nat {a b : List Nat} : rises (a.map fun m : Nat => (m : Int)) (b.map fun m : Nat => (m : Int)) = above a b := by
  have e : ∀ (l : List Nat) (i : Nat), (((l.map fun m : Nat => (m : Int))[i]?).getD 0) = (((l[i]?).getD 0 : Nat) : Int) := fun l i => by
    rw [List.getElem?_map]; cases l[i]? <;> rfl
  unfold rises above
  rw [List.length_map]
  refine List.filter_congr fun i _ => ?_
  rw [e, e]
  exact decide_eq_decide.mpr (by omega)
theorem f_above {a b : List Nat} (hl : a.length ≤ 1000) (h : a.length = b.length) : F_rises_at (natsT a) (natsT b) = ret (.lst ((above a b).map nI)) := by
  rw [← nats_ints, ← nats_ints, f_rises (by simpa using hl) (by simpa using h), rises_nat]
theorem above_mem {a b : List Nat} {p : Nat} (h : p ∈ above a b) : p < a.length ∧ (a[p]?).getD 0 < (b[p]?).getD 0 := by
  unfold above at h
  obtain ⟨h1, h2⟩ := List.mem_filter.mp h
  exact ⟨by simpa using h1, of_decide_eq_true h2⟩
theorem f_labove {x y : D} {a b : List Nat} (hx : RowD x a) (hy : RowD y b) (hl : a.length ≤ 1000) (h : a.length = b.length) : F__law_above x y = ret (.lst ((above a b).map nI)) := by
  unfold F__law_above
  rw [hx.len]
  simp only [bnd_ret]
  rw [rng_n (by omega), bnd_ret, req_sz _ _ (by simp; omega), filA_noX, filA_rep nI (fun i => decide ((a[i]?).getD 0 < (b[i]?).getD 0)) nI (fun i hi => ?_) (fun i hi _ => ?_)]
  · rfl
  · have hi : i < a.length := by simpa using hi
    simp only [hx.ix (get_some hi), hy.ix (get_some (show i < b.length by omega)), bnd_ret, gt_nn, isB_bl, noX_ret]
  · rfl
/-! two ways that meet -/
theorem meet {a b : Nat → Nat} (h : ∀ i, a i = b i → a (i + 1) = b (i + 1)) : ∀ m, a m = b m → ∃ j, j ≤ m ∧ (∀ i, i < j → a i ≠ b i) ∧ ∀ i, j ≤ i → a i = b i
  | 0, h0 => ⟨0, Nat.le_refl _, (fun i hi => by omega), fun i _ => by
    induction i with
    | zero => exact h0
    | succ i ih => exact h i (ih (by omega))⟩
  | m + 1, hm => by
    by_cases e : a m = b m
    · obtain ⟨j, h1, h2, h3⟩ := meet h m e
      exact ⟨j, by omega, h2, h3⟩
    · refine ⟨m + 1, Nat.le_refl _, fun i hi k => e ?_, fun i hi => ?_⟩
      · have : ∀ t, a (i + t) = b (i + t) := fun t => by
          induction t with
          | zero => exact k
          | succ t ih => exact h _ ih
        have := this (m - i)
        rwa [show i + (m - i) = m by omega] at this
      · have : ∀ t, a (m + 1 + t) = b (m + 1 + t) := fun t => by
          induction t with
          | zero => exact hm
          | succ t ih => exact h _ ih
        have := this (i - (m + 1))
        rwa [show m + 1 + (i - (m + 1)) = i by omega] at this
/-- how far two ways are unlike -/
def apartN (tb : List Nat) (x s m : Nat) : Nat := ((List.range (m + 1)).filter fun i => decide (ledN tb x (i + 1) ≠ ledN tb s i)).length
theorem apart_is {tb : List Nat} {x s m : Nat} (hm : ledN tb x (m + 1) = ledN tb s m) : apartN tb x s m ≤ m ∧ ((List.range (m + 1)).filter fun i => decide (ledN tb x (i + 1) ≠ ledN tb s i)) = List.range (apartN tb x s m) ∧ (∀ i, i < apartN tb x s m → ledN tb x (i + 1) ≠ ledN tb s i) ∧ ∀ i, apartN tb x s m ≤ i → ledN tb x (i + 1) = ledN tb s i := by
  obtain ⟨j, h1, h2, h3⟩ := meet (a := fun i => ledN tb x (i + 1)) (b := fun i => ledN tb s i) (fun i e => by show (tb[ledN tb x (i + 1)]?).getD 0 = (tb[ledN tb s i]?).getD 0; rw [show ledN tb x (i + 1) = ledN tb s i from e]) m hm
  have e : ((List.range (m + 1)).filter fun i => decide (ledN tb x (i + 1) ≠ ledN tb s i)) = List.range j := filter_range (by omega) fun i _ => by
    rw [decide_eq_true_iff]
    exact ⟨fun k => by
      by_cases hi : i < j
      · exact hi
      · exact (k (h3 i (by omega))).elim, fun k => h2 i k⟩
  have ej : apartN tb x s m = j := by unfold apartN; rw [e, List.length_range]
  rw [ej]; exact ⟨h1, e, h2, h3⟩
/-- what is told: turned back, or two unlike strings with one row -/
def toldD (n : Nat) (tb : List Nat) (p x s m : Nat) : D := match apartN tb x s m with
  | 0 => .tup [.str "turned", nI p, bD n x]
  | j + 1 => .tup [.str "double", nI p, .tup [bD n (ledN tb x (j + 1)), bD n (ledN tb s j)]]
theorem way_drop {n : Nat} {tb : List Nat} {v t : Nat} : (wayD n tb v (t + 1)).drop 1 = (List.range (t + 1)).map fun i => bD n (ledN tb v (i + 1)) := by
  unfold wayD
  rw [List.range_succ_eq_map (n := t + 1), List.map_cons, List.drop_one, List.tail_cons, List.map_map]; rfl
structure Sg (n : Nat) (tb ts mn ss : List Nat) : Prop where
  l : ss.length = mn.length
  lt : ∀ s ∈ ss, s < 2 ^ n
  up : List.zipWith (ledN tb) ss mn = ts
theorem Sg.at' {n : Nat} {tb ts mn ss : List Nat} (h : Sg n tb ts mn ss) {i : Nat} (hi : i < mn.length) : ledN tb ((ss[i]?).getD 0) ((mn[i]?).getD 0) = (ts[i]?).getD 0 := by
  rw [← h.up, List.getElem?_zipWith, get_some (show i < ss.length by rw [h.l]; exact hi), get_some hi]; rfl
theorem Sg.tl {n : Nat} {tb ts mn ss : List Nat} (h : Sg n tb ts mn ss) : ts.length = mn.length := by rw [← h.up, List.length_zipWith, h.l, Nat.min_self]
theorem Sg.tlt {n : Nat} {tb ts mn ss : List Nat} (g : GT n tb) (h : Sg n tb ts mn ss) : ∀ t ∈ ts, t < 2 ^ n := fun t ht => by
  rw [← h.up, zipWith_zip] at ht
  obtain ⟨p, hp, rfl⟩ := List.mem_map.mp ht
  exact led_lt g (h.lt _ (List.of_mem_zip hp).1) _
theorem Sg.slt {n : Nat} {tb ts mn ss : List Nat} (h : Sg n tb ts mn ss) {i : Nat} (hi : i < mn.length) : (ss[i]?).getD 0 < 2 ^ n := h.lt _ (get_mem (by rw [h.l]; exact hi))
/-- where the two ways of a place begin -/
def startN (tb fs mn on : List Nat) (p : Nat) : Nat := ledN tb ((fs[p]?).getD 0) ((on[p]?).getD 0 - (mn[p]?).getD 0 - 1)
theorem ways_meet {n : Nat} {tb ts mn on ss fs : List Nat} (h1 : Sg n tb ts mn ss) (h2 : Sg n tb ts on fs) {p : Nat} (hp : p ∈ above mn on) (hl : mn.length = on.length) : ledN tb (startN tb fs mn on p) ((mn[p]?).getD 0 + 1) = ledN tb ((ss[p]?).getD 0) ((mn[p]?).getD 0) := by
  obtain ⟨hp1, hp2⟩ := above_mem hp
  rw [h1.at' hp1, ← h2.at' (by omega), startN, ← led_add]
  congr 1; omega
theorem f_turned {n d : Nat} {tb ts mn on ss fs : List Nat} {p : Nat} {r : List Nat} (g : GT n tb) (hd : 1 ≤ d ∧ d ≤ 15) (hm : ∀ m ∈ mn, m ≤ d) (ho : ∀ m ∈ on, m ≤ d) (hl : mn.length = on.length) (hz : mn.length ≤ 1000) (h1 : Sg n tb ts mn ss) (h2 : Sg n tb ts on fs) (ha : above mn on = p :: r) : F_turned_by c (fT n tb) (nI d) (tupB n ts) (natsT mn) (tupB n ss) (natsT on) (tupB n fs) = ret (toldD n tb p (startN tb fs mn on p) ((ss[p]?).getD 0) ((mn[p]?).getD 0)) := by
  have hp : p ∈ above mn on := by rw [ha]; exact List.mem_cons_self
  obtain ⟨hp1, hp2⟩ := above_mem hp
  have md : (mn[p]?).getD 0 ≤ d := hm _ (get_mem hp1)
  have od : (on[p]?).getD 0 ≤ d := ho _ (get_mem (by omega))
  have c1 := f_comes g (h1.tlt g) h1.lt (fun m h => Nat.le_trans (hm m h) hd.2) h1.l hz
  have c2 := f_comes g (h2.tlt g) h2.lt (fun m h => Nat.le_trans (ho m h) hd.2) h2.l (by omega)
  rw [h1.up, decide_eq_true rfl] at c1
  rw [h2.up, decide_eq_true rfl] at c2
  have xlt : startN tb fs mn on p < 2 ^ n := led_lt g (h2.slt (by omega)) _
  unfold F_turned_by
  rw [ap1_e, f_even g, bnd_ret, ap1_e, f_depthT hd, bnd_ret, ap2_e, ap2_e, f_numbersT hm, bnd_ret, f_numbersT ho, bnd_ret, ap2_e, f_above hz hl, ha, bnd_ret, ap4_e, ap4_e, c1, c2]
  have l0 : decide ((((p :: r).map nI).length : Int) = 0) = false := decide_eq_false (by simp; omega)
  simp only [bnd_ret, bnd_assoc, nop_len_l, op_eq_i, isB_bl, l0, tru_bl, Bool.not_true, Bool.false_eq_true, ↓reduceIte]
  rw [List.map_cons, ix_l0, bnd_ret]
  have i1 : op qIx (tupB n fs) (nI p) = ret (bD n ((fs[p]?).getD 0)) := ix_map (get_some (by rw [h2.l]; omega))
  have i2 : op qIx (natsT on) (nI p) = ret (nI ((on[p]?).getD 0)) := ix_nt (get_some (by omega))
  have i3 : op qIx (natsT mn) (nI p) = ret (nI ((mn[p]?).getD 0)) := ix_nt (get_some hp1)
  have i4 : op qIx (tupB n ss) (nI p) = ret (bD n ((ss[p]?).getD 0)) := ix_map (get_some (by rw [h1.l]; omega))
  rw [i1, i2, i3, i4]
  simp only [bnd_ret, bnd_assoc, sub_nn (show (mn[p]?).getD 0 ≤ (on[p]?).getD 0 by omega), sub_n1 (show 1 ≤ (on[p]?).getD 0 - (mn[p]?).getD 0 by omega), ap3_e, un_neg_i, add_n1]
  have fl := f_last (t := (on[p]?).getD 0 - (mn[p]?).getD 0 - 1) g (h2.slt (show p < on.length by omega)) (by omega)
  rw [f_way g (h2.slt (show p < on.length by omega)) (by omega), bnd_ret, way_last, bnd_ret]
  show bnd (F_way_on (fT n tb) (bD n (startN tb fs mn on p)) (nI ((mn[p]?).getD 0 + 1))) _ = _
  rw [f_way g xlt (by omega), bnd_ret, f_way g (h1.slt hp1) (by omega), bnd_ret]
  simp only [isI_int, bnd_ret, slL]
  have ec : cutL (wayD n tb (startN tb fs mn on p) ((mn[p]?).getD 0 + 1)) (some (1 : Int)) none = (List.range ((mn[p]?).getD 0 + 1)).map fun i => bD n (ledN tb (startN tb fs mn on p) (i + 1)) := by
    rw [← way_drop]; exact cut_from (k := 1)
  rw [ec, zip_same (A := fun i => bD n (ledN tb (startN tb fs mn on p) (i + 1))) (B := fun i => bD n (ledN tb ((ss[p]?).getD 0) i)) (xs := List.range ((mn[p]?).getD 0 + 1)) rfl rfl, bnd_ret, req_sz _ _ (by simp; omega), filU_2, filA_noX,
    filA_ret (q := fun i => decide (ledN tb (startN tb fs mn on p) (i + 1) ≠ ledN tb ((ss[p]?).getD 0) i)) (g := fun i => D.tup [bD n (ledN tb (startN tb fs mn on p) (i + 1)), bD n (ledN tb ((ss[p]?).getD 0) i)]) (fun i _ => ?_) (fun i _ _ => ?_)]
  · obtain ⟨e1, e2, e3, e4⟩ := apart_is (ways_meet h1 h2 hp hl)
    rw [e2, bnd_ret, bnd_ret, nop_len_l, bnd_ret, List.length_map, List.length_range, op_eq_i, bnd_ret, isB_bl, bnd_ret]
    unfold toldD
    cases e : apartN tb (startN tb fs mn on p) ((ss[p]?).getD 0) ((mn[p]?).getD 0) with
    | zero => rw [decide_eq_true (by rfl), if_pos rfl, tupM_3]; rfl
    | succ j =>
      rw [decide_eq_false (by omega), if_neg Bool.false_ne_true, List.range_succ, List.map_append, List.map_cons, List.map_nil, ix_last, bnd_ret, tupM_3]
  · simp only [eq_bD (led_lt g xlt (i + 1)) (led_lt g (h1.slt hp1) i), bnd_ret, isB_bl, noX_ret, ↓reduceIte]
    congr 1
    rw [decide_not]
  · rw [tupM_2]; rfl
end K82

namespace K82
open PySem PySem.Spec L2 DL FL
variable {K : PySem.W.Frag} {c : Cs}
theorem f_row_of {n v : Nat} {tb : List Nat} (g : GT n tb) (hv : v < 2 ^ n) : F_row_of c (fT n tb) (bD n v) = ret (bD n ((tb[v]?).getD 0)) := by
  unfold F_row_of
  rw [ap1_e, f_blkT g, bnd_ret, ap2_e, f_row_at g hv]
theorem tb_ix {n v : Nat} {tb : List Nat} (g : GT n tb) (hv : v < 2 ^ n) : op qIx (.lst (tb.map nI)) (nI v) = ret (nI ((tb[v]?).getD 0)) := ix_nl (get_some (by rw [g.len]; exact hv))
theorem f_due {n d : Nat} {tb ts mn on ss fs : List Nat} {x y : D} {p : Nat} {r : List Nat} (g : GT n tb) (hx : RowD x mn) (hy : RowD y on) (hm : ∀ m ∈ mn, m ≤ d) (ho : ∀ m ∈ on, m ≤ d) (hd : d ≤ 15) (hl : mn.length = on.length) (hz : mn.length ≤ 1000) (h1 : Sg n tb ts mn ss) (h2 : Sg n tb ts on fs) (ha : above mn on = p :: r) : F__law_due (.lst (tb.map nI)) (nI n) x (.lst (ss.map nI)) y (.lst (fs.map nI)) = ret (toldD n tb p (startN tb fs mn on p) ((ss[p]?).getD 0) ((mn[p]?).getD 0)) := by
  have hp : p ∈ above mn on := by rw [ha]; exact List.mem_cons_self
  obtain ⟨hp1, hp2⟩ := above_mem hp
  have md : (mn[p]?).getD 0 ≤ d := hm _ (get_mem hp1)
  have od : (on[p]?).getD 0 ≤ d := ho _ (get_mem (by omega))
  have xlt : startN tb fs mn on p < 2 ^ n := led_lt g (h2.slt (by omega)) _
  have slt := h1.slt hp1
  have lt64 : ∀ {v : Nat}, v < 2 ^ n → v < 2 ^ 64 := fun {v} h => by
    have : 2 ^ n ≤ 2 ^ 4 := Nat.pow_le_pow_right (by decide) g.hi
    omega
  have g4 := g.hi
  unfold F__law_due
  rw [ap2_e, f_labove hx hy hz hl, bnd_ret, ha, List.map_cons, ix_l0, bnd_ret, ix_nl (get_some (show p < ss.length by rw [h1.l]; exact hp1)), bnd_ret, ix_nl (get_some (show p < fs.length by rw [h2.l]; omega))]
  simp only [bnd_ret, bnd_assoc, hy.ix (get_some (show p < on.length by omega)), hx.ix (get_some hp1), sub_nn (show (mn[p]?).getD 0 ≤ (on[p]?).getD 0 by omega), sub_n1 (show 1 ≤ (on[p]?).getD 0 - (mn[p]?).getD 0 by omega), ap3_e]
  rw [f_lled g (h2.slt (show p < on.length by omega)) (by omega), bnd_ret, show ledN tb ((fs[p]?).getD 0) ((on[p]?).getD 0 - (mn[p]?).getD 0 - 1) = startN tb fs mn on p from rfl]
  rw [tb_ix g xlt, bnd_ret, eq_nn, bnd_ret, isB_bl, bnd_ret]
  obtain ⟨e1, e2, e3, e4⟩ := apart_is (ways_meet h1 h2 hp hl)
  have first : (tb[startN tb fs mn on p]?).getD 0 = ledN tb (startN tb fs mn on p) 1 := rfl
  unfold toldD
  cases e : apartN tb (startN tb fs mn on p) ((ss[p]?).getD 0) ((mn[p]?).getD 0) with
  | zero =>
    have := e4 0 (by omega)
    rw [decide_eq_true (show (tb[startN tb fs mn on p]?).getD 0 = (ss[p]?).getD 0 from this), if_pos rfl, ap2_e, f_lbits (by omega) (lt64 xlt)]
    simp only [bnd_ret, tupM_3]
  | succ j =>
    have h0 := e3 0 (by omega)
    rw [decide_eq_false (show ¬ (tb[startN tb fs mn on p]?).getD 0 = (ss[p]?).getD 0 from h0), if_neg Bool.false_ne_true]
    rw [bnd_ret, rng_n (by omega), bnd_ret]
    have alt : ∀ i, ledN tb (startN tb fs mn on p) i < 2 ^ n := fun i => led_lt g xlt i
    have blt : ∀ i, ledN tb ((ss[p]?).getD 0) i < 2 ^ n := fun i => led_lt g slt i
    let pr : D := .tup [bD n (ledN tb (startN tb fs mn on p) (j + 1)), bD n (ledN tb ((ss[p]?).getD 0) j)]
    let st : Nat → D × D × D := fun i => (nI (ledN tb ((ss[p]?).getD 0) i), nI (ledN tb (startN tb fs mn on p) (i + 1)), if j < i then pr else .non)
    have s0 : (nI ((ss[p]?).getD 0), nI ((tb[startN tb fs mn on p]?).getD 0), D.non) = st 0 := by
      show _ = (_, _, if j < 0 then pr else .non)
      rw [if_neg (by omega)]; rfl
    rw [s0, loop_rng st fun i hi nx bk => ?_]
    · show tupM [.str "double", nI p, if j < (mn[p]?).getD 0 then pr else .non] = _
      rw [if_pos (by omega), tupM_3]
    · have go : ∀ z, (bnd (op qIx (.lst (tb.map nI)) (nI (ledN tb (startN tb fs mn on p) (i + 1)))) fun one => bnd (op qIx (.lst (tb.map nI)) (nI (ledN tb ((ss[p]?).getD 0) i))) fun below => nx (below, one, z)) = nx (nI (ledN tb ((ss[p]?).getD 0) (i + 1)), nI (ledN tb (startN tb fs mn on p) (i + 2)), z) := fun z => by
        rw [tb_ix g (alt _), bnd_ret, tb_ix g (blt _), bnd_ret]; rfl
      unfold L__law_due_0 jn
      show (bnd (bnd (bnd (op (qEq true) (nI (ledN tb (startN tb fs mn on p) (i + 1))) (nI (ledN tb ((ss[p]?).getD 0) i))) _) _) _) = nx (nI (ledN tb ((ss[p]?).getD 0) (i + 1)), nI (ledN tb (startN tb fs mn on p) (i + 2)), if j < i + 1 then pr else .non)
      simp only [st, go]
      rw [ne_nn, tb_ix g (alt _), tb_ix g (blt _)]
      simp only [bnd_ret, bnd_assoc, isB_bl, eq_nn, ap2_e, f_lbits (show n ≤ 64 by omega) (lt64 (alt _)), f_lbits (show n ≤ 64 by omega) (lt64 (blt _)), tupM_2, go]
      by_cases hij : i < j + 1
      · have ne := e3 i (by omega)
        rw [decide_eq_false ne, Bool.not_false, if_pos rfl, bnd_ret]
        by_cases hj : i = j
        · subst hj
          have eq := e4 (i + 1) (by omega)
          rw [decide_eq_true (show (tb[ledN tb (startN tb fs mn on p) (i + 1)]?).getD 0 = (tb[ledN tb ((ss[p]?).getD 0) i]?).getD 0 from eq), if_pos rfl, if_pos (by omega)]
        · have ne2 := e3 (i + 1) (by omega)
          rw [decide_eq_false (show ¬ (tb[ledN tb (startN tb fs mn on p) (i + 1)]?).getD 0 = (tb[ledN tb ((ss[p]?).getD 0) i]?).getD 0 from ne2), if_neg Bool.false_ne_true, if_neg (by omega), if_neg (by omega)]
      · have eq := e4 i (by omega)
        rw [decide_eq_true eq, Bool.not_true, if_neg Bool.false_ne_true, bnd_ret, if_neg Bool.false_ne_true, if_pos (by omega), if_pos (by omega)]
/-! doubles -/
theorem f_map {tb : List Nat} (h : 1 ≤ tb.length ∧ tb.length ≤ 64) (hv : ∀ v ∈ tb, v < 64) : F_check_map c (.tup (tb.map nI)) = ret .non := by
  unfold F_check_map F_is_map
  rw [ap1_e, isi_ty (t := "tuple") rfl kb_tt]
  simp only [bnd_ret, bnd_assoc, tru_bl, Bool.not_true, ite_f, nop_len_t, List.length_map, op_le_i, isB_bl, Bool.false_eq_true, ↓reduceIte]
  rw [decide_eq_true (show (1 : Int) ≤ tb.length by omega), decide_eq_true (show (tb.length : Int) ≤ 64 by omega)]
  simp only [bnd_ret, ↓reduceIte, isB_bl, Bool.not_true, Bool.false_eq_true, itM_tup]
  rw [req_sz _ _ (by simp; omega), mapA_noX, mapA_rep nI (fun _ => D.bl true) fun v h => ?_]
  · have e : nop qAll [.lst (tb.map fun _ => D.bl true)] = ret (.bl true) := by
      rw [nop_all_m tb (fun _ => true)]
      have : tb.all (fun _ => true) = true := by rw [List.all_eq_true]; exact fun _ _ => rfl
      rw [this]
    simp only [bnd_ret, e, tru_bl, Bool.not_true, Bool.false_eq_true, ↓reduceIte]
  · have := hv v h
    unfold nI
    simp only [op_sub_i, bnd_ret, ap3_e, f_is_number]
    rw [decide_eq_true (show (0 : Int) ≤ v by omega), decide_eq_true (show (v : Int) ≤ 64 - 1 by omega)]; rfl
theorem f_double {tb : List Nat} (h : 1 ≤ tb.length ∧ tb.length ≤ 64) (hv : ∀ v ∈ tb, v < 64) (hd : ∃ a b, a < b ∧ b < tb.length ∧ (tb[a]?).getD 0 = (tb[b]?).getD 0) : ∃ z, F_first_double c (.tup (tb.map nI)) = FL.ret z ∧ isNon z = false := by
  obtain ⟨a, b, hab, hb, e⟩ := hd
  have ix : ∀ {i}, i < tb.length → op qIx (.tup (tb.map nI)) (nI i) = FL.ret (nI ((tb[i]?).getD 0)) := fun hi => ix_nt (get_some hi)
  have inner : ∀ i, i < tb.length → ∀ nx bk, ∃ z, isNon z = false ∧ L_first_double_1 c (.tup (tb.map nI)) (nI i) () nx bk = if (List.range (tb.length - (i + 1))).any (fun k => decide ((tb[i]?).getD 0 = (tb[i + 1 + k]?).getD 0)) = true then FL.ret z else nx () := fun i hi nx bk => by
    have ne : ∀ k, L_first_double_1 c (.tup (tb.map nI)) (nI i) () nx bk = k → True := fun _ _ => trivial
    have body : L_first_double_1 c (.tup (tb.map nI)) (nI i) () nx bk = match (List.range (tb.length - (i + 1))).find? (fun k => decide ((tb[i]?).getD 0 = (tb[i + 1 + k]?).getD 0)) with
        | some k => FL.ret (D.tup [nI i, nI (i + 1 + k)])
        | none => nx () := by
      unfold L_first_double_1
      rw [add_n1, nop_len_t, List.length_map]
      simp only [bnd_ret]
      rw [show rng2 [nI (i + 1), .int (tb.length : Int)] = _ from rng2_n (m := i + 1) (n := tb.length) (by omega) (by omega), bnd_ret]
      refine (loop_find (fun k => nI (i + 1 + k)) (fun k => decide ((tb[i]?).getD 0 = (tb[i + 1 + k]?).getD 0)) (fun k => FL.ret (D.tup [nI i, nI (i + 1 + k)])) fun k hk nx2 bk2 => ?_).trans (by cases (List.range (tb.length - (i + 1))).find? (fun k => decide ((tb[i]?).getD 0 = (tb[i + 1 + k]?).getD 0)) <;> rfl)
      have hk : k < tb.length - (i + 1) := by simpa using hk
      unfold L_first_double_0
      rw [ix hi, ix (show i + 1 + k < tb.length by omega)]
      simp only [bnd_ret, eq_nn, isB_bl, tupM_2]
    cases e : (List.range (tb.length - (i + 1))).find? (fun k => decide ((tb[i]?).getD 0 = (tb[i + 1 + k]?).getD 0)) with
    | none =>
      refine ⟨.tup [], rfl, ?_⟩
      rw [body, e]
      have : (List.range (tb.length - (i + 1))).any (fun k => decide ((tb[i]?).getD 0 = (tb[i + 1 + k]?).getD 0)) = false := by
        rw [List.any_eq_false]; exact List.find?_eq_none.mp e
      rw [this]; rfl
    | some k =>
      refine ⟨.tup [nI i, nI (i + 1 + k)], rfl, ?_⟩
      rw [body, e]
      have : (List.range (tb.length - (i + 1))).any (fun k => decide ((tb[i]?).getD 0 = (tb[i + 1 + k]?).getD 0)) = true := by
        rw [List.any_eq_true]; exact ⟨k, List.mem_of_find?_eq_some e, List.find?_some (p := fun k => decide ((tb[i]?).getD 0 = (tb[i + 1 + k]?).getD 0)) e⟩
      rw [this]; rfl
  unfold F_first_double
  rw [ap1_e, f_map h hv, bnd_ret, nop_len_t, List.length_map]
  simp only [bnd_ret]
  rw [rng1_n (by omega), bnd_ret]
  have go : ∀ (l : List Nat), (∀ i ∈ l, i < tb.length) → a ∈ l → ∃ z, isNon z = false ∧ loopR (L_first_double_1 c (.tup (tb.map nI))) (l.map nI) () (fun _ => FL.ret D.non) = FL.ret z := by
    intro l
    induction l with
    | nil => intro _ h; cases h
    | cons i l ih =>
      intro hl ha
      obtain ⟨z, hz, ez⟩ := inner i (hl i List.mem_cons_self) (fun s' => loopR (L_first_double_1 c (.tup (tb.map nI))) (l.map nI) s' fun _ => FL.ret D.non) (fun _ => FL.ret D.non)
      rw [List.map_cons, loopR_cons, ez]
      cases hp : (List.range (tb.length - (i + 1))).any (fun k => decide ((tb[i]?).getD 0 = (tb[i + 1 + k]?).getD 0)) with
      | true => exact ⟨z, hz, rfl⟩
      | false =>
        rcases List.mem_cons.mp ha with rfl | ha
        · rw [List.any_eq_false] at hp
          have := hp (b - (a + 1)) (by simp; omega)
          rw [show a + 1 + (b - (a + 1)) = b by omega] at this
          exact (this (decide_eq_true e)).elim
        · exact ih (fun j hj => hl j (List.mem_cons_of_mem _ hj)) ha
  obtain ⟨z, hz, ez⟩ := go (List.range tb.length) (fun i hi => by simpa using hi) (by simp; omega)
  exact ⟨z, ez, hz⟩
end K82

namespace K82
open PySem PySem.Spec L2 DL FL
variable {K : PySem.W.Frag} {c : Cs}
/-- how the text's error classes stand to each other -/
structure Exm (K : PySem.W.Frag) (c : Cs) : Prop where
  bb : PySem.W.exmOne K (.ref c.BadBlock) (.ref c.BadBlock) = some true
  cb : PySem.W.exmOne K (.ref c.BadChoice) (.ref c.BadBlock) = some false
  cc : PySem.W.exmOne K (.ref c.BadChoice) (.ref c.BadChoice) = some true
  mb : PySem.W.exmOne K (.ref c.BadMessage) (.ref c.BadBlock) = some false
  mc : PySem.W.exmOne K (.ref c.BadMessage) (.ref c.BadChoice) = some false
  mm : PySem.W.exmOne K (.ref c.BadMessage) (.ref c.BadMessage) = some true
  k1 : PySem.W.kitOne K (.ref c.BadBlock) (.ref c.BadChoice) = some false
  k2 : PySem.W.kitOne K (.ref c.BadBlock) (.ref c.BadMessage) = some false
  k3 : PySem.W.kitOne K (.ref c.BadChoice) (.ref c.BadMessage) = some false
  k4 : PySem.W.kitOne K (.ref c.BadMessage) (.type "ValueError") = some true
  eb : ExcC K c.BadBlock
  ec : ExcC K c.BadChoice
  em : ExcC K c.BadMessage
def Tg (K : PySem.W.Frag) (c : Cs) (e : Exc) (z : Str) : Prop := H__law_refused_0 K c e = FL.ret (.str z)
theorem tgB (X : Exm K c) : Tg K c (exB c) "block0" := by
  unfold Tg H__law_refused_0
  rw [exM_yes X.bb]
  unfold exB
  rw [isEM_ref X.eb X.k1, isEM_ref X.eb X.k2]
  have := tag0 (w := "block") (z := "block0") (A := [98, 108, 111, 99, 107]) (by decide +kernel) (by decide +kernel) (by decide)
  simp only [bnd_ret, bnd_assoc, isB_bl, ite_f, this, Bool.false_eq_true, ↓reduceIte, noX_ret]
theorem tgC (X : Exm K c) : Tg K c (exC c) "choice0" := by
  unfold Tg H__law_refused_0
  rw [exM_no X.cb, exM_yes X.cc]
  unfold exC
  rw [isEM_ref X.ec X.k3]
  have := tag0 (w := "choice") (z := "choice0") (A := [99, 104, 111, 105, 99, 101]) (by decide +kernel) (by decide +kernel) (by decide)
  simp only [bnd_ret, bnd_assoc, this, noX_ret]
theorem tgM (X : Exm K c) : Tg K c (exM c) "message0" := by
  unfold Tg H__law_refused_0
  rw [exM_no X.mb, exM_no X.mc, exM_yes X.mm]
  unfold K82.exM
  rw [isEM_ty X.em X.k4]
  have := tag0 (w := "message") (z := "message0") (A := [109, 101, 115, 115, 97, 103, 101]) (by decide +kernel) (by decide +kernel) (by decide)
  simp only [bnd_ret, bnd_assoc, isB_bl, Bool.not_true, this, noX_ret]

theorem ref {x d ts m s o fs : D} {e : Exc} {z : Str} (t : Tg K c e z) (h : F_turned_by c x d ts m s o fs = thr e) : F__law_refused K c x d ts m s o fs = FL.ret (.str z) := by
  unfold F__law_refused
  rw [ap7_e, h]
  exact t
theorem tB {x d ts m s o fs : D} (h : OddB x) : F_turned_by c x d ts m s o fs = thr (exB c) := by
  unfold F_turned_by
  rw [ap1_e, f_even0 h]; rfl
theorem tC {n : Nat} {tb : List Nat} {d : Int} {ms os : List Int} {ts s fs : D} (g : GT n tb) (h : ¬ ((1 ≤ d ∧ d ≤ 15) ∧ okN d ms = true ∧ okN d os = true)) : F_turned_by c (fT n tb) (.int d) ts (intsT ms) s (intsT os) fs = thr (exC c) := by
  unfold F_turned_by
  rw [ap1_e, f_even g, bnd_ret, ap1_e, ap2_e, ap2_e, f_depth, f_numbers, f_numbers]
  by_cases hd : (decide (1 ≤ d) && decide (d ≤ 15)) = true
  · rw [if_pos hd, bnd_ret]
    simp only [Bool.and_eq_true, decide_eq_true_eq] at hd
    by_cases h1 : okN d ms = true
    · rw [if_pos h1, bnd_ret]
      by_cases h2 : okN d os = true
      · exact (h ⟨hd, h1, h2⟩).elim
      · rw [if_neg h2]; rfl
    · rw [if_neg h1]; rfl
  · rw [if_neg hd]; rfl
theorem tM {n d : Nat} {tb ts mn on ss fs : List Nat} (g : GT n tb) (hd : 1 ≤ d ∧ d ≤ 15) (hm : ∀ m ∈ mn, m ≤ d) (ho : ∀ m ∈ on, m ≤ d) (hl : mn.length = on.length) (hz : mn.length ≤ 1000) (ht : ∀ t ∈ ts, t < 2 ^ n) (hs : ∀ s ∈ ss, s < 2 ^ n) (hf : ∀ s ∈ fs, s < 2 ^ n) (ls : ss.length = mn.length) (lf : fs.length = on.length)
    (h : above mn on = [] ∨ List.zipWith (ledN tb) ss mn ≠ ts ∨ List.zipWith (ledN tb) fs on ≠ ts) : F_turned_by c (fT n tb) (nI d) (tupB n ts) (natsT mn) (tupB n ss) (natsT on) (tupB n fs) = thr (exM c) := by
  have c1 := f_comes g ht hs (fun m h => Nat.le_trans (hm m h) hd.2) ls hz
  have c2 := f_comes g ht hf (fun m h => Nat.le_trans (ho m h) hd.2) lf (by omega)
  unfold F_turned_by
  rw [ap1_e, f_even g, bnd_ret, ap1_e, f_depthT hd, bnd_ret, ap2_e, ap2_e, f_numbersT hm, bnd_ret, f_numbersT ho, bnd_ret, ap2_e, f_above hz hl, bnd_ret, ap4_e, ap4_e, c1, c2]
  simp only [bnd_ret, bnd_assoc, nop_len_l, op_eq_i, isB_bl, tru_bl, List.length_map]
  by_cases h0 : above mn on = []
  · rw [h0]; rfl
  · rw [decide_eq_false (show ¬ (((above mn on).length : Nat) : Int) = 0 from fun k => h0 (List.length_eq_zero_iff.mp (by omega))), if_neg Bool.false_ne_true]
    by_cases h1 : List.zipWith (ledN tb) ss mn = ts
    · have h2 : List.zipWith (ledN tb) fs on ≠ ts := by rcases h with h | h | h; exact (h0 h).elim; exact (h h1).elim; exact h
      rw [decide_eq_true h1, decide_eq_false h2]; rfl
    · rw [decide_eq_false h1]; rfl
/-! draws of right strings -/
theorem f_right {n : Nat} {tb ts mn : List Nat} {x : D} (g : GT n tb) (hx : RowD x mn) (hm : ∀ m ∈ mn, m ≤ 15) (hl : ts.length = mn.length) (hz : mn.length ≤ 100) (h : ∀ i, i < mn.length → ∃ v, v < 2 ^ n ∧ ledN tb v ((mn[i]?).getD 0) = (ts[i]?).getD 0) {E : Exc → Prop} {Q : D → Prop} (q : ∀ ss, Sg n tb ts mn ss → Q (.lst (ss.map nI))) : F__law_right (.lst (tb.map nI)) (.lst (ts.map nI)) x E Q := by
  have p16 : 2 ^ n ≤ 16 := Nat.pow_le_pow_right (n := 2) (by decide) g.hi
  unfold F__law_right
  rw [req_sz _ _ (by simp), bnd_ret, nop_len_l, List.length_map]
  simp only [bnd_ret]
  rw [rng1_n (by omega), bnd_ret, hl]
  refine loop_wn (fun i s => ∃ ys : List Nat, s = ys.map nI ∧ ys.length = i ∧ (∀ y ∈ ys, y < 2 ^ n) ∧ ∀ j, j < i → ledN tb ((ys[j]?).getD 0) ((mn[j]?).getD 0) = (ts[j]?).getD 0) (fun i hi s nx bk hs hnx => ?_) ⟨[], rfl, rfl, (fun _ h => by cases h), fun j hj => by omega⟩ fun s hs => ?_
  · obtain ⟨ys, rfl, yl, ylt, yj⟩ := hs
    unfold L__law_right_0
    rw [nop_len_l, List.length_map]
    simp only [bnd_ret]
    have mi : (mn[i]?).getD 0 ≤ 15 := hm _ (get_mem hi)
    rw [rng1_n (by rw [g.len]; omega), bnd_ret, req_sz _ _ (by simp; rw [g.len]; omega), filA_noX, filA_rep nI (fun v => decide (ledN tb v ((mn[i]?).getD 0) = (ts[i]?).getD 0)) nI (fun v hv => ?_) (fun v hv _ => ?_)]
    · obtain ⟨fit, hfit⟩ : ∃ fit, fit = (List.range tb.length).filter fun v => decide (ledN tb v ((mn[i]?).getD 0) = (ts[i]?).getD 0) := ⟨_, rfl⟩
      rw [← hfit]
      have fm : ∀ v, v ∈ fit ↔ v < 2 ^ n ∧ ledN tb v ((mn[i]?).getD 0) = (ts[i]?).getD 0 := fun v => by
        rw [hfit, List.mem_filter, List.mem_range, g.len, decide_eq_true_iff]
      have pos : 0 < fit.length := by
        obtain ⟨v, h1, h2⟩ := h i hi
        exact List.length_pos_of_mem ((fm v).mpr ⟨h1, h2⟩)
      simp only [bnd_ret, bnd_assoc, nop_len_l, List.length_map]
      refine take_b (m := fit.length) pos fun r hr => ?_
      rw [ix_nl (get_some hr), bnd_ret, req_lsz ys.length _ (by omega)]
      obtain ⟨v1, v2⟩ := (fm _).mp (get_mem hr)
      refine hnx _ ⟨ys ++ [(fit[r]?).getD 0], by rw [List.map_append]; rfl, by simp [yl], fun y hy => ?_, fun j hj => ?_⟩
      · rcases List.mem_append.mp hy with h | h
        · exact ylt y h
        · rw [List.mem_singleton] at h; subst h; exact v1
      · by_cases e : j = i
        · subst e
          rw [List.getElem?_append_right (by omega), yl, Nat.sub_self]
          exact v2
        · rw [List.getElem?_append_left (by omega)]
          exact yj j (by omega)
    · have hv : v < 2 ^ n := by rw [← g.len]; simpa using hv
      simp only [hx.ix (get_some hi), bnd_ret, ap3_e, f_lled g hv (show (mn[i]?).getD 0 ≤ 1000 by omega), ix_nl (get_some (show i < ts.length by omega)), eq_nn, isB_bl, noX_ret]
    · rfl
  · obtain ⟨ys, rfl, yl, ylt, yj⟩ := hs
    refine q ys ⟨yl, ylt, ext_nat (k := mn.length) (by rw [List.length_zipWith]; omega) hl fun i hi => ?_⟩
    rw [List.getElem?_zipWith, get_some (show i < ys.length by omega), get_some hi, get_some (show i < ts.length by omega)]
    exact congrArg some (yj i hi)
/-! a bent signature -/
theorem f_bent {n : Nat} {tb ts mn ss : List Nat} {x : D} (g : GT n tb) (hx : RowD x mn) (hm : ∀ m ∈ mn, m ≤ 15) (hl : ts.length = mn.length) (h0 : 0 < mn.length) (hz : mn.length ≤ 100) (hs : ∀ s ∈ ss, s < 2 ^ n) (ls : ss.length = mn.length) {E : Exc → Prop} {Q : D → Prop} (q0 : Q .non) (q : ∀ ys : List Nat, ys.length = mn.length → (∀ y ∈ ys, y < 2 ^ n) → List.zipWith (ledN tb) ys mn ≠ ts → Q (.lst (ys.map nI))) : F__law_bent (.lst (tb.map nI)) (.lst (ss.map nI)) (.lst (ts.map nI)) x E Q := by
  have p16 : 2 ^ n ≤ 16 := Nat.pow_le_pow_right (n := 2) (by decide) g.hi
  unfold F__law_bent
  rw [bnd_ret, nopN_list_l, bnd_ret, nop_len_l, nop_len_l, List.length_map, List.length_map]
  simp only [bnd_ret, bnd_assoc]
  refine take_b (m := ss.length) (by omega) fun p hp => ?_
  have mi : (mn[p]?).getD 0 ≤ 15 := hm _ (get_mem (by omega))
  rw [rng1_n (by rw [g.len]; omega), bnd_ret, req_sz _ _ (by simp; rw [g.len]; omega), filA_noX, filA_rep nI (fun v => decide (¬ ledN tb v ((mn[p]?).getD 0) = (ts[p]?).getD 0)) nI (fun v hv => ?_) (fun v hv _ => ?_)]
  · obtain ⟨off, hoff⟩ : ∃ off, off = (List.range tb.length).filter fun v => decide (¬ ledN tb v ((mn[p]?).getD 0) = (ts[p]?).getD 0) := ⟨_, rfl⟩
    rw [← hoff]
    have fm : ∀ v, v ∈ off ↔ v < 2 ^ n ∧ ¬ ledN tb v ((mn[p]?).getD 0) = (ts[p]?).getD 0 := fun v => by
      rw [hoff, List.mem_filter, List.mem_range, g.len, decide_eq_true_iff]
    simp only [bnd_ret, bnd_assoc, nop_len_l, List.length_map, op_eq_i, isB_bl]
    by_cases e : (off.length : Int) = 0
    · rw [decide_eq_true e, if_pos rfl]; exact q0
    · rw [decide_eq_false e, if_neg Bool.false_ne_true]
      refine take_b (m := off.length) (by omega) fun r hr => ?_
      rw [ix_nl (get_some hr), bnd_ret, setM_n (by simpa using hp), ← List.map_set]
      obtain ⟨v1, v2⟩ := (fm _).mp (get_mem hr)
      refine q _ (by rw [List.length_set, ls]) (fun y hy => ?_) fun k => v2 ?_
      · rcases List.mem_or_eq_of_mem_set hy with h | h
        · exact hs y h
        · rw [h]; exact v1
      · have := congrArg (·[p]?) k
        rw [List.getElem?_zipWith, List.getElem?_set, if_pos rfl, if_pos hp, get_some (show p < mn.length by omega), get_some (show p < ts.length by omega)] at this
        exact Option.some.inj this
  · have hv : v < 2 ^ n := by rw [← g.len]; simpa using hv
    simp only [hx.ix (get_some (show p < mn.length by omega)), bnd_ret, ap3_e, f_lled g hv (show (mn[p]?).getD 0 ≤ 1000 by omega), ix_nl (get_some (show p < ts.length by omega)), ne_nn, isB_bl, noX_ret]
    congr 1
    rw [decide_not]
  · rfl
def lN (r : List Nat) : D := .lst (r.map nI)
def grow (d : Nat) (r : List Nat) : List (List Nat) := (List.range (d + 1)).map fun x => r ++ [x]
theorem grow_len {d : Nat} {r : List Nat} : (grow d r).length = d + 1 := by unfold grow; simp

/-! the law's messages -/
theorem f_messages {k d : Nat} (hk : 1 ≤ k ∧ k ≤ 10) (hd : 1 ≤ d ∧ d ≤ 15) {E : Exc → Prop} {Q : D → Prop} (q : ∀ mn on : List Nat, mn.length = k → on.length = k → (∀ m ∈ mn, m ≤ d) → (∀ m ∈ on, m ≤ d) → above mn on ≠ [] → Q (.tup [.lst (mn.map nI), .lst (on.map nI)])) : F__law_messages (nI k) (nI d) E Q := by
  unfold F__law_messages
  rw [rng_n (by omega), bnd_ret, req_sz _ _ (by simp; omega), mapA_noX]
  simp only [add_n1, bnd_ret, takeF_noX]
  rw [draws (m := d + 1) (by omega) (fun x _ => rfl), bnd_assoc]
  refine any_b fun m0 hm0 => ?_
  obtain ⟨l0, b0⟩ := hm0
  have l0 : m0.length = k := by simpa using l0
  rw [bnd_ret, nopN_list_l, bnd_ret]
  refine take_b (by omega) fun p hp => ?_
  refine jn_w (fun s => ∃ mn : List Nat, s = mn.map nI ∧ mn.length = k ∧ (∀ m ∈ mn, m ≤ d) ∧ (mn[p]?).getD 0 < d) (fun s hs => ?_) fun k' hk' => ?_
  · obtain ⟨mn, rfl, ml, mb, mp⟩ := hs
    rw [ix_nl (get_some (show p < mn.length by omega))]
    simp only [bnd_ret, bnd_assoc, add_n1, sub_nn (show (mn[p]?).getD 0 ≤ d by omega)]
    refine take_b (by omega) fun r hr => ?_
    rw [add_nn, bnd_ret, setM_n (by simp; omega), ← List.map_set]
    refine loop_w nI (fun s => ∃ on : List Nat, s = on.map nI ∧ on.length = k ∧ (∀ m ∈ on, m ≤ d) ∧ (on[p]?).getD 0 = (mn[p]?).getD 0 + 1 + r) (fun i hi s nx bk hs hnx => ?_) ⟨_, rfl, by rw [List.length_set]; exact l0, fun y hy => ?_, by rw [List.getElem?_set, if_pos rfl, if_pos (by omega)]; rfl⟩ fun s hs => ?_
    · obtain ⟨on, rfl, ol, ob, op'⟩ := hs
      have hi : i < k := by simpa using hi
      unfold L__law_messages_0
      rw [ne_nn]
      simp only [bnd_ret, bnd_assoc, isB_bl]
      by_cases e : i = p
      · rw [decide_eq_true e, Bool.not_true, if_neg Bool.false_ne_true, bnd_ret, if_neg Bool.false_ne_true]
        exact hnx _ ⟨on, rfl, ol, ob, op'⟩
      · rw [decide_eq_false e, Bool.not_false, if_pos rfl, bnd_assoc]
        refine take_b (m := 3) (by decide) fun r3 _ => ?_
        rw [show op qGt (nI r3) (.int 0) = FL.ret (.bl (decide (0 < r3))) from gt_nn _ 0, bnd_assoc, bnd_ret, isB_bl, bnd_ret]
        cases decide (0 < r3) with
        | false => exact hnx _ ⟨on, rfl, ol, ob, op'⟩
        | true =>
          rw [if_pos rfl, add_n1, bnd_ret]
          refine take_b (by omega) fun v hv => ?_
          rw [setM_n (by simp; omega), ← List.map_set]
          refine hnx _ ⟨_, rfl, by rw [List.length_set]; exact ol, fun y hy => ?_, by rw [List.getElem?_set_ne e]; exact op'⟩
          rcases List.mem_or_eq_of_mem_set hy with h | h
          · exact ob y h
          · omega
    · rcases List.mem_or_eq_of_mem_set hy with h | h
      · have := b0 y h; omega
      · omega
    · obtain ⟨on, rfl, ol, ob, op'⟩ := hs
      rw [tupM_2]
      refine q mn on ml ol mb ob fun h => ?_
      have : p ∈ above mn on := List.mem_filter.mpr ⟨by simp; omega, decide_eq_true (by omega)⟩
      rw [h] at this; cases this
  · rw [ix_nl (get_some (show p < m0.length by omega)), bnd_ret, eq_nn]
    simp only [bnd_ret, isB_bl]
    have bp : (m0[p]?).getD 0 ≤ d := by have := b0 _ (get_mem (show p < m0.length by omega)); omega
    by_cases e : (m0[p]?).getD 0 = d
    · rw [decide_eq_true e, if_pos rfl]
      refine take_b (by omega) fun v hv => ?_
      rw [setM_n (by simp; omega), ← List.map_set]
      refine hk' _ ⟨_, rfl, by rw [List.length_set]; exact l0, fun y hy => ?_, by rw [List.getElem?_set, if_pos rfl, if_pos (by omega)]; exact hv⟩
      rcases List.mem_or_eq_of_mem_set hy with h | h
      · have := b0 y h; omega
      · omega
    · rw [decide_eq_false e, if_neg Bool.false_ne_true]
      exact hk' _ ⟨m0, rfl, l0, fun y hy => by have := b0 y hy; omega, by omega⟩
/-! a level's lot -/
theorem lot_go {d : Nat} {x3 : D} {k : List D → M D} (hd : d ≤ 15) : ∀ (l done : List (List Nat)), (∀ r ∈ l, r.length ≤ 100) → done.length + (l.flatMap (grow d)).length ≤ 256 → loopR (L__law_lot_1 (nI d) x3) (l.map lN) (done.map lN) k = k ((done ++ l.flatMap (grow d)).map lN)
  | [], done, hr, hz => by rw [List.map_nil, loopR_nil, List.flatMap_nil, List.append_nil]
  | r :: l, done, hr, hz => by
    rw [List.flatMap_cons, List.length_append, grow_len] at hz
    rw [List.map_cons, loopR_cons]
    have hrl := hr r List.mem_cons_self
    have e : L__law_lot_1 (nI d) x3 (lN r) (done.map lN) (fun s' => loopR (L__law_lot_1 (nI d) x3) (l.map lN) s' k) k = loopR (L__law_lot_1 (nI d) x3) (l.map lN) ((done ++ grow d r).map lN) k := by
      unfold L__law_lot_1
      rw [add_n1]
      simp only [bnd_ret]
      rw [rng_n (by omega), bnd_ret, show done.map lN = (done ++ (List.range 0).map fun x => r ++ [x]).map lN by simp, loop_rng (fun j => (done ++ (List.range j).map fun x => r ++ [x]).map lN) fun j hj nx bk => ?_]
      · rfl
      · unfold L__law_lot_0
        rw [lstM_1, bnd_ret]
        rw [show op (qAdd false) (lN r) (.lst [nI j]) = FL.ret (lN (r ++ [j])) by unfold lN; rw [op_add_l _ _ (by simp; omega), List.map_append]; rfl, bnd_ret, req_lsz _ _ (by simp; omega), List.range_succ]
        congr 1
        simp
    rw [e, lot_go hd l _ (fun r h => hr r (List.mem_cons_of_mem _ h)) (by rw [List.length_append, grow_len]; omega), List.flatMap_cons, List.append_assoc]
theorem f_lot {k d t : Nat} (hk : 2 ≤ k ∧ k ≤ 4) (hd : 1 ≤ d ∧ d ≤ 15) (hp : (d + 1) ^ k ≤ 256) : F__law_lot (nI k) (nI d) (nI t) = ret (.tup ((levelN k d t).map natsT)) := by
  unfold F__law_lot
  rw [lstM_nil]
  simp only [lstM_1, bnd_ret]
  rw [rng_n (by omega), bnd_ret, show D.lst [.lst []] = .lst ((rowsN d 0).map lN) from rfl, loop_rng (fun j => D.lst ((rowsN d j).map lN)) fun j hj nx bk => ?_]
  · have hlen := rowsN_len d k
    rw [itM_lst, bnd_ret, req_sz _ _ (by simp; omega), filA_noX, filA_rep lN (fun r => r.sum == t) natsT (fun r hr => ?_) (fun r hr _ => ?_)]
    · rfl
    · rw [dseq_sum (ns := r.map fun x : Nat => (x : Int)) (by unfold lN; rw [List.map_map]; rfl), sum_nats]
      unfold nI
      simp only [noX_bnd, noX_ret, bnd_ret, op_eq_i, isB_bl]
      have : decide (((r.sum : Nat) : Int) = (t : Int)) = (r.sum == t) := by rw [Bool.eq_iff_iff]; simp; omega
      rw [← this]
    · rfl
  · have hcap := pow_cap hd.1 hp (show j + 1 ≤ k by omega)
    have hlen := rowsN_len d (j + 1)
    have hfm : (rowsN d j).flatMap (grow d) = rowsN d (j + 1) := rfl
    unfold L__law_lot_2
    rw [req_sz _ _ (by simp), bnd_ret, itM_lst, bnd_ret, show ([] : List D) = (([] : List (List Nat)).map lN) from rfl, lot_go hd.2 (rowsN d j) [] (fun r hr => by rw [rowsN_row hr]; omega) (by rw [hfm, hlen]; simpa using hcap)]
    rw [List.nil_append, hfm]
end K82

namespace K82
open PySem PySem.Spec L2 DL FL
variable {K : PySem.W.Frag} {c : Cs}
theorem same_nats {l : List (List Nat)} (h1 : l.length ≤ 1000) (h2 : ∀ r ∈ l, r.length ≤ 1000) : sameD 2 (.tup (l.map natsT)) = true := by
  unfold sameD
  rw [Bool.and_eq_true, List.length_map]
  refine ⟨decide_eq_true h1, ?_⟩
  rw [List.all_map, List.all_eq_true]
  intro r hr
  show sameD 1 (natsT r) = true
  unfold natsT sameD
  rw [Bool.and_eq_true, List.length_map]
  refine ⟨decide_eq_true (h2 r hr), ?_⟩
  rw [List.all_map, List.all_eq_true]
  intro x _
  rfl
theorem level_row {k d t : Nat} {r : List Nat} (h : r ∈ levelN k d t) : r.length = k := rowsN_row (List.mem_filter.mp h).1
theorem level_len {k d t : Nat} : (levelN k d t).length ≤ (d + 1) ^ k := by
  rw [← rowsN_len d k]; exact List.length_filter_le _ _
theorem same_tupB {n : Nat} {vs : List Nat} (h : vs.length ≤ 1000) : sameD 2 (tupB n vs) = true := by
  unfold tupB sameD
  rw [Bool.and_eq_true, List.length_map]
  refine ⟨decide_eq_true h, ?_⟩
  rw [List.all_map, List.all_eq_true]
  intro x _; rfl
/-- the law goes on where a comparison is right -/
theorem same_go {x : D} {m : Nat} (h : sameD m x = true) (hm : m < 3) {f : M D} : (bnd (F__law_same 3 x x) fun a => bnd (tru a) fun a => if (!a) = true then FL.ret (.bl false) else f) = f := by
  rw [f_same m 3 x h hm, bnd_ret, tru_bl, bnd_ret, if_neg (by decide)]

def castR (rows : List (List Nat)) : List (List Int) := rows.map fun r => r.map fun m : Nat => (m : Int)
theorem cast_T {rows : List (List Nat)} : rows.map natsT = (castR rows).map intsT := by
  unfold castR
  rw [List.map_map]
  exact List.map_congr_left fun r _ => nats_ints.symm
/-- the levels that are looked at -/
theorem lots_fin : (∀ k ∈ [2, 3], ∀ d ∈ [1, 2, 3], ∀ t ∈ List.range 9, (1 ≤ t ∧ t < k * d) → (2 ≤ (levelN k d t).length ∧ steadyN (castR (levelN k d t)) = true ∧ (levelN k d t).all (fun r => r.all fun y => decide (y ≤ d)) = true)) := by decide +kernel
theorem mod_nn {a b : Nat} (h : 0 < b) : op qMod (nI a) (nI b) = FL.ret (nI (a % b)) := by
  unfold nI; rw [op_mod_i _ _ (by omega)]; congr 2
theorem same_told {n p x s m : Nat} {tb : List Nat} : sameD 2 (toldD n tb p x s m) = true := by
  unfold toldD
  cases apartN tb x s m <;> rfl
/-- some string comes up -/
theorem some_up {n d : Nat} {tb vs mn : List Nat} (g : GT n tb) (hv : ∀ v ∈ vs, v < 2 ^ n) (hl : vs.length = mn.length) (hm : ∀ m ∈ mn, m ≤ d) : ∀ i, i < mn.length → ∃ v, v < 2 ^ n ∧ ledN tb v ((mn[i]?).getD 0) = (((vs.map fun v => ledN tb v d)[i]?).getD 0) := fun i hi => by
  have h1 := get_some (show i < vs.length by omega)
  have h2 : (mn[i]?).getD 0 ≤ d := hm _ (get_mem hi)
  refine ⟨ledN tb ((vs[i]?).getD 0) (d - (mn[i]?).getD 0), led_lt g (hv _ (get_mem (by omega))) _, ?_⟩
  rw [← led_add, List.getElem?_map, h1]
  show _ = ledN tb ((vs[i]?).getD 0) d
  congr 1; omega
theorem f_lawlevel {n : Nat} {tb : List Nat} (g : GT n tb) {E : Exc → Prop} {Q : D → Prop} (q : Q (.bl true)) : F__law_level c (fT n tb) (.lst (tb.map nI)) (nI n) E Q := by
  have p0 : 0 < 2 ^ n := Nat.pow_pos (by decide)
  have g4 := g.hi
  have lt64 : ∀ {v : Nat}, v < 2 ^ n → v < 2 ^ 64 := fun {v} h => by
    have : 2 ^ n ≤ 2 ^ 4 := Nat.pow_le_pow_right (by decide) g.hi
    omega
  unfold F__law_level
  simp only [bnd_ret, bnd_assoc]
  refine take_b (m := 2) (by decide) fun rk hrk => ?_
  rw [add_2n, bnd_ret]
  obtain ⟨k, hk⟩ : ∃ k, k = 2 + rk := ⟨_, rfl⟩
  rw [← hk]
  refine take_b (m := 3) (by decide) fun rd hrd => ?_
  rw [add_1n, bnd_ret]
  obtain ⟨d, hd⟩ : ∃ d, d = 1 + rd := ⟨_, rfl⟩
  rw [← hd]
  have hkd : 2 ≤ k * d ∧ k * d ≤ 9 := by
    rcases (show k = 2 ∨ k = 3 by omega) with rfl | rfl <;> omega
  rw [mul_nn (by omega), bnd_ret, sub_n1 (by omega), bnd_ret]
  refine take_b (by omega) fun rt hrt => ?_
  rw [add_1n, bnd_ret]
  obtain ⟨t, ht⟩ : ∃ t, t = 1 + rt := ⟨_, rfl⟩
  rw [← ht]
  have hp : (d + 1) ^ k ≤ 64 := by
    rcases (show k = 2 ∨ k = 3 by omega) with rfl | rfl <;> rcases (show d = 1 ∨ d = 2 ∨ d = 3 by omega) with rfl | rfl | rfl <;> decide
  have hd15 : 1 ≤ d ∧ d ≤ 15 := by omega
  obtain ⟨l2, st, lr⟩ := lots_fin k (by rcases (show k = 2 ∨ k = 3 by omega) with rfl | rfl <;> decide) d (by rcases (show d = 1 ∨ d = 2 ∨ d = 3 by omega) with rfl | rfl | rfl <;> decide) t (by rw [List.mem_range]; omega) ⟨by omega, by omega⟩
  have sm : sameD 2 (.tup ((levelN k d t).map natsT)) = true := same_nats (Nat.le_trans level_len (by omega)) fun r hr => by rw [level_row hr]; omega
  have stp : F_is_steady c (nI d) (.tup ((levelN k d t).map natsT)) = FL.ret (.bl true) := by
    have := f_is_steady (c := c) (d := (d : Int)) (ms := castR (levelN k d t)) (w := k) (by unfold castR; rw [List.length_map]; exact Nat.le_trans level_len (by omega)) (by omega) (fun m hm => by
      unfold castR at hm
      obtain ⟨r, hr, rfl⟩ := List.mem_map.mp hm
      rw [List.length_map]; exact level_row hr)
    rw [decide_eq_true (show (1 : Int) ≤ d by omega), decide_eq_true (show (d : Int) ≤ 15 by omega), st] at this
    rw [cast_T]
    refine this.trans ?_
    have : (castR (levelN k d t)).all (okN (d : Int)) = true := by
      rw [List.all_eq_true]; intro m hm
      unfold castR at hm
      obtain ⟨r, hr, rfl⟩ := List.mem_map.mp hm
      rw [List.all_eq_true] at lr
      have := lr r hr
      rw [List.all_eq_true] at this
      exact ok_nat fun y hy => of_decide_eq_true (this y hy)
    rw [this]; rfl
  rw [ap3_e, ap3_e, f_lot (by omega) hd15 (by omega), f_level (by omega) hd15 (by omega), bnd_ret, bnd_ret, ap2_e, f_same 2 3 _ sm (by decide), bnd_ret, tru_bl, bnd_ret, if_neg (by decide), ap2_e, stp]
  simp only [bnd_ret, bnd_assoc, op_isNB, isB_bl, decide_true, Bool.not_true, Bool.false_eq_true, ↓reduceIte]
  obtain ⟨lot, hlot⟩ : ∃ lot, lot = levelN k d t := ⟨_, rfl⟩
  have row : ∀ r ∈ lot, r.length = k := fun r hr => level_row (by rw [← hlot]; exact hr)
  have le : ∀ r ∈ lot, ∀ y ∈ r, y ≤ d := fun r hr y hy => by
    rw [← hlot, List.all_eq_true] at lr
    have := lr r hr
    rw [List.all_eq_true] at this
    exact of_decide_eq_true (this y hy)
  have lz : lot.length ≤ 64 := by rw [hlot]; exact Nat.le_trans level_len hp
  rw [← hlot] at st l2
  rw [← hlot, nop_len_t, List.length_map, bnd_ret]
  refine take_b (m := lot.length) (by omega) fun i hi => ?_
  have ei : lot[i]? = some lot[i] := List.getElem?_eq_getElem hi
  rw [show op qIx (.tup (lot.map natsT)) (nI i) = FL.ret (natsT lot[i]) from ix_map ei, bnd_ret, add_n1, bnd_ret, bnd_ret, show op qSub (.int (lot.length : Int)) (.int 1) = FL.ret (nI (lot.length - 1)) from sub_n1 (by omega), bnd_ret]
  refine take_b (m := lot.length - 1) (by omega) fun r hr => ?_
  rw [add_nn, bnd_ret, show nop qInt [nI (i + 1 + r)] = FL.ret (nI (i + 1 + r)) from nop_int_i _, bnd_ret, bnd_ret, show op qMod (nI (i + 1 + r)) (.int (lot.length : Int)) = FL.ret (nI ((i + 1 + r) % lot.length)) from mod_nn (by omega), bnd_ret]
  obtain ⟨j, hj⟩ : ∃ j, j = (i + 1 + r) % lot.length := ⟨_, rfl⟩
  have jl : j < lot.length := by rw [hj]; exact Nat.mod_lt _ (by omega)
  have jne : i ≠ j := fun e => by
    have h1 : (i + 1 + r) % lot.length = i := by omega
    by_cases h2 : i + 1 + r < lot.length
    · rw [Nat.mod_eq_of_lt h2] at h1; omega
    · rw [Nat.mod_eq_sub_mod (by omega), Nat.mod_eq_of_lt (by omega)] at h1; omega
  have ej : lot[j]? = some lot[j] := List.getElem?_eq_getElem jl
  rw [← hj, show op qIx (.tup (lot.map natsT)) (nI j) = FL.ret (natsT lot[j]) from ix_map ej, bnd_ret, rng_n (by omega), bnd_ret, req_sz _ _ (by simp; omega), mapA_noX]
  have li := row _ (List.getElem_mem hi)
  have lj := row _ (List.getElem_mem jl)
  have mi := le _ (List.getElem_mem hi)
  have mj := le _ (List.getElem_mem jl)
  have ab : above lot[i] lot[j] ≠ [] := fun k0 => by
    have h := st
    unfold steadyN castR at h
    rw [List.length_map, List.all_eq_true] at h
    have h := h i (by simpa using hi)
    rw [List.all_eq_true] at h
    have h := h j (by simpa using jl)
    unfold mAt at h
    rw [List.getElem?_map, List.getElem?_map, ei, ej] at h
    have e : (i == j) = false := by simpa using jne
    rw [e, Bool.false_or, Option.map_some, Option.map_some, Option.getD_some, Option.getD_some, rises_nat, k0] at h
    cases h
  obtain ⟨p, pr, hpr⟩ : ∃ p pr, above lot[i] lot[j] = p :: pr := by
    cases h : above lot[i] lot[j] with
    | nil => exact (ab h).elim
    | cons a b => exact ⟨a, b, rfl⟩
  rw [mapA_any (α := Nat) (fun v => nI (ledN tb v d)) (fun _ v => v < 2 ^ n) (fun x _ => ?_), bnd_assoc, bnd_assoc]
  · refine any_b fun vs hvs => ?_
    have vl : vs.length = k := by rw [hvs.length]; simp
    have vlt : ∀ v ∈ vs, v < 2 ^ n := fun v hv => (hvs.mem v hv).elim fun _ h => h.2
    clear hvs
    obtain ⟨ts, hts⟩ : ∃ ts, ts = vs.map fun v => ledN tb v d := ⟨_, rfl⟩
    have et : (vs.map fun v => nI (ledN tb v d)) = ts.map nI := by rw [hts, List.map_map]; rfl
    have tl : ts.length = k := by rw [hts, List.length_map, vl]
    rw [bnd_ret, bnd_ret, et, ap3_e]
    refine bnd_w (f_right g (mn := lot[i]) (.inr rfl) (fun m h => by have := mi m h; omega) (by omega) (by omega) (by rw [hts]; exact some_up g vlt (by omega) mi) fun ss h1 => ?_)
    rw [ap3_e]
    refine bnd_w (f_right g (mn := lot[j]) (.inr rfl) (fun m h => by have := mj m h; omega) (by omega) (by omega) (by rw [hts]; exact some_up g vlt (by omega) mj) fun fs h2 => ?_)
    have sl := h1.l
    have fl := h2.l
    rw [ap2_e, f_strings (by omega) (fun v h => lt64 (h1.tlt g v h)) (by omega), bnd_ret, ap2_e, f_strings (by omega) (fun v h => lt64 (h1.lt v h)) (by omega), bnd_ret, ap2_e, f_strings (by omega) (fun v h => lt64 (h2.lt v h)) (by omega), bnd_ret, ap7_e, f_turned g hd15 mi mj (by omega) (by omega) h1 h2 hpr, bnd_ret, ap6_e, f_due (x := natsT lot[i]) (y := natsT lot[j]) g (.inr rfl) (.inr rfl) mi mj (by omega) (by omega) (by omega) h1 h2 hpr, bnd_ret, ap2_e, f_same 2 3 _ same_told (by decide)]
    exact q
  · rw [shl_1n (by omega)]
    simp only [bnd_ret, noX_bnd, takeF_noX, noX_ret]
    rw [take_nI p0]
    simp only [bnd_assoc, bnd_ret, ap3_e]
    funext E Q
    refine propext ⟨fun h a ha => ?_, fun h a ha => ?_⟩
    · have h' : noX (F__law_led (.lst (tb.map nI)) (nI a) (nI d)) E Q := h a ha
      rw [f_lled g ha (by omega)] at h'; exact h'
    · show noX (F__law_led (.lst (tb.map nI)) (nI a) (nI d)) E Q
      rw [f_lled g ha (by omega)]; exact h a ha
end K82

namespace K82
open PySem PySem.Spec L2 DL FL
variable {K : PySem.W.Frag} {c : Cs}
theorem notok {d : Int} {ms : List Int} {y : Int} (hy : y ∈ ms) (h : ¬ (0 ≤ y ∧ y ≤ d)) : okN d ms = false := by
  unfold okN
  rw [Bool.eq_false_iff]
  intro k
  rw [List.all_eq_true] at k
  have := k y hy
  simp at this
  exact h this
theorem strne2 {ρ : Type} (z : Str) (f : Bool → M ρ) : (bnd (op (qEq true) (.str z) (.str z)) fun a => bnd (isB a FL.ret) f) = f false := by
  rw [op_ne_s, decide_eq_true rfl]; rfl

theorem strne3 {ρ : Type} (z : Str) (x y : M ρ) : (bnd (op (qEq true) (.str z) (.str z)) fun a => bnd (isB a FL.ret) fun b => if b = true then x else y) = y := by
  rw [op_ne_s, decide_eq_true rfl]; rfl
/-- what a bent signature may be -/
def Bt (n : Nat) (tb ts mn : List Nat) (x : D) : Prop := x = .non ∨ ∃ ys : List Nat, x = .lst (ys.map nI) ∧ ys.length = mn.length ∧ (∀ y ∈ ys, y < 2 ^ n) ∧ List.zipWith (ledN tb) ys mn ≠ ts
theorem f_bent2 {n : Nat} {tb ts mn ss : List Nat} (g : GT n tb) (hm : ∀ m ∈ mn, m ≤ 15) (hl : ts.length = mn.length) (h0 : 0 < mn.length) (hz : mn.length ≤ 100) (hs : ∀ s ∈ ss, s < 2 ^ n) (ls : ss.length = mn.length) {E : Exc → Prop} {Q : D → Prop} (q : ∀ x, Bt n tb ts mn x → Q x) : F__law_bent (.lst (tb.map nI)) (.lst (ss.map nI)) (.lst (ts.map nI)) (.lst (mn.map nI)) E Q :=
  f_bent g (.inl rfl) hm hl h0 hz hs ls (q _ (.inl rfl)) fun ys a b d => q _ (.inr ⟨ys, rfl, a, b, d⟩)
theorem f_wrong (X : Exm K c) {n d : Nat} {tb ts mn on ss fs : List Nat} (g : GT n tb) (hd : 1 ≤ d ∧ d ≤ 15) (hm : ∀ m ∈ mn, m ≤ d) (ho : ∀ m ∈ on, m ≤ d) (hl : mn.length = on.length) (h2 : 2 ≤ mn.length ∧ mn.length ≤ 4) (h1 : Sg n tb ts mn ss) (h3 : Sg n tb ts on fs) {E : Exc → Prop} {Q : D → Prop} (q : Q (.bl true)) :
    F__law_wrong K c (fT n tb) (.lst (tb.map nI)) (nI d) (nI n) (.lst (ts.map nI)) (.lst (mn.map nI)) (.lst (ss.map nI)) (.lst (on.map nI)) (.lst (fs.map nI)) E Q := by
  have g4 := g.hi
  have lt64 : ∀ {v : Nat}, v < 2 ^ n → v < 2 ^ 64 := fun {v} h => by
    have : 2 ^ n ≤ 2 ^ 4 := Nat.pow_le_pow_right (by decide) g.hi
    omega
  have tl := h1.tl
  have sl := h1.l
  have fl := h3.l
  have tlt := h1.tlt g
  have m15 : ∀ m ∈ mn, m ≤ 15 := fun m h => Nat.le_trans (hm m h) hd.2
  have o15 : ∀ m ∈ on, m ≤ 15 := fun m h => Nat.le_trans (ho m h) hd.2
  unfold F__law_wrong
  rw [ap2_e, f_strings (by omega) (fun v h => lt64 (tlt v h)) (by omega), bnd_ret, ap2_e, f_strings (by omega) (fun v h => lt64 (h1.lt v h)) (by omega), bnd_ret, ap2_e, f_strings (by omega) (fun v h => lt64 (h3.lt v h)) (by omega), bnd_ret, ap4_e]
  simp only [bnd_ret, bnd_assoc]
  have lz : mn.length ≤ 100 := by omega
  have lo : on.length ≤ 100 := by omega
  -- refusals of right strings and wrong ones
  have M : ∀ {m1 s1 m2 s2 : List Nat}, (∀ m ∈ m1, m ≤ d) → (∀ m ∈ m2, m ≤ d) → m1.length = mn.length → m2.length = mn.length → (∀ s ∈ s1, s < 2 ^ n) → (∀ s ∈ s2, s < 2 ^ n) → s1.length = mn.length → s2.length = mn.length → (above m1 m2 = [] ∨ List.zipWith (ledN tb) s1 m1 ≠ ts ∨ List.zipWith (ledN tb) s2 m2 ≠ ts) → F__law_refused K c (fT n tb) (nI d) (tupB n ts) (.tup (m1.map nI)) (tupB n s1) (.tup (m2.map nI)) (tupB n s2) = FL.ret (.str "message0") := fun a1 a2 a3 a4 a5 a6 a7 a8 a9 => ref (tgM X) (tM g hd a1 a2 (by omega) (by omega) tlt a5 a6 (by omega) (by omega) a9)
  refine bnd_w (f_bent2 g o15 (by omega) (by omega) lo h3.lt fl fun x hx => ?_)
  refine jn_w (fun _ => True) (fun _ _ => ?_) fun k' hk' => ?_
  rotate_left
  · rcases hx with rfl | ⟨ys, rfl, yl, ylt, yn⟩
    · rw [op_isNN, bnd_ret, isB_bl]
      exact hk' () trivial
    · rw [op_isNN, bnd_ret, isB_bl, bnd_ret]
      simp only [isNon, Bool.not_false, ↓reduceIte, nop_tuple_l, bnd_ret, ap2_e, ap7_e]
      rw [f_strings (by omega) (fun v h => lt64 (ylt v h)) (by omega)]
      simp only [bnd_ret]
      rw [M hm ho rfl (by omega) h1.lt ylt sl (by omega) (.inr (.inr yn)), bnd_ret, strne3]
      exact hk' () trivial
  refine bnd_w ?_
  rw [ap4_e]
  refine f_bent2 g m15 (by omega) (by omega) lz h1.lt sl fun x hx => ?_
  refine jn_w (fun _ => True) (fun _ _ => ?_) fun k' hk' => ?_
  rotate_left
  · rcases hx with rfl | ⟨ys, rfl, yl, ylt, yn⟩
    · rw [op_isNN, bnd_ret, isB_bl]
      exact hk' () trivial
    · rw [op_isNN, bnd_ret, isB_bl, bnd_ret]
      simp only [isNon, Bool.not_false, ↓reduceIte, nop_tuple_l, bnd_ret, ap2_e, ap7_e]
      rw [f_strings (by omega) (fun v h => lt64 (ylt v h)) (by omega)]
      simp only [bnd_ret]
      rw [M hm ho rfl (by omega) ylt h3.lt (by omega) (by omega) (.inr (.inl yn)), bnd_ret, strne3]
      exact hk' () trivial
  -- the lower message
  obtain ⟨lw, hlw⟩ : ∃ lw, lw = (List.range mn.length).map fun k => min ((mn[k]?).getD 0) ((on[k]?).getD 0) := ⟨_, rfl⟩
  have lwl : lw.length = mn.length := by rw [hlw]; simp
  have lwg : ∀ {k}, k < mn.length → (lw[k]?).getD 0 = min ((mn[k]?).getD 0) ((on[k]?).getD 0) := fun {k} hk => by
    rw [hlw, List.getElem?_map, List.getElem?_range hk]; rfl
  have lwm : ∀ m ∈ lw, m ≤ d := fun m h => by
    rw [hlw] at h
    obtain ⟨k, hk, rfl⟩ := List.mem_map.mp h
    have hk : k < mn.length := by simpa using hk
    have := hm _ (get_mem hk)
    omega
  have lw15 : ∀ m ∈ lw, m ≤ 15 := fun m h => Nat.le_trans (lwm m h) hd.2
  have abl : above mn lw = [] := by
    unfold above
    rw [List.filter_eq_nil_iff]
    intro k hk
    have hk : k < mn.length := by simpa using hk
    rw [lwg hk, decide_eq_true_iff]; omega
  rw [nop_len_l, List.length_map]
  simp only [bnd_ret, bnd_assoc]
  rw [rng1_n (by omega), bnd_ret, req_sz _ _ (by simp; omega), mapA_noX, mapA_rep nI (fun k => nI (min ((mn[k]?).getD 0) ((on[k]?).getD 0))) fun k hk => by
    have hk : k < mn.length := by simpa using hk
    rw [ix_nl (get_some hk), ix_nl (get_some (show k < on.length by omega))]
    simp only [bnd_ret]
    rw [show nop qMin2 [nI ((mn[k]?).getD 0), nI ((on[k]?).getD 0)] = FL.ret (nI (min ((mn[k]?).getD 0) ((on[k]?).getD 0))) from by
      unfold nI; rw [nop_min2]; congr 2; omega]
    rfl]
  have elw : ((List.range mn.length).map fun k => nI (min ((mn[k]?).getD 0) ((on[k]?).getD 0))) = lw.map nI := by rw [hlw, List.map_map]; rfl
  rw [bnd_ret, bnd_ret, elw, ap3_e]
  refine bnd_w (f_right g (mn := lw) (.inl rfl) lw15 (by omega) (by omega) (fun i hi => ?_) fun hs h4 => ?_)
  · have hi : i < mn.length := by omega
    have := lwg hi
    refine ⟨ledN tb ((ss[i]?).getD 0) ((mn[i]?).getD 0 - (lw[i]?).getD 0), led_lt g (h1.slt hi) _, ?_⟩
    rw [← led_add, ← h1.at' hi]
    congr 1; omega
  have hsl := h4.l
  rw [ap2_e, f_strings (by omega) (fun v h => lt64 (h4.lt v h)) (by omega), bnd_ret, nop_tuple_l, bnd_ret, nop_tuple_l]
  simp only [bnd_ret, ap7_e]
  rw [M hm lwm rfl lwl h1.lt h4.lt sl (by omega) (.inl abl), bnd_ret, strne3, nopN_list_l, bnd_ret, un_neg_i, bnd_ret, add_n1, bnd_ret]
  simp only [lstM_2, bnd_ret, bnd_assoc]
  -- a message out of reach
  refine take_b (m := 2) (by decide) fun r hr => ?_
  obtain ⟨y, ey, hy⟩ : ∃ y : Int, op qIx (.lst [.int (-1), nI (d + 1)]) (nI r) = FL.ret (.int y) ∧ ¬ (0 ≤ y ∧ y ≤ d) := by
    rcases (show r = 0 ∨ r = 1 by omega) with rfl | rfl
    · exact ⟨-1, ix_l0 _ _, by omega⟩
    · exact ⟨((d + 1 : Nat) : Int), ix_l1 _ _ _, by omega⟩
  rw [ey, bnd_ret, nop_len_l, List.length_map, bnd_ret]
  refine take_b (m := mn.length) (by omega) fun p hp => ?_
  obtain ⟨ms, hms⟩ : ∃ ms : List Int, ms = mn.map fun m : Nat => (m : Int) := ⟨_, rfl⟩
  have em : mn.map nI = ms.map D.int := by rw [hms, List.map_map]; rfl
  have lms : ms.length = mn.length := by rw [hms, List.length_map]
  have ci : ∀ l : List Nat, D.tup (l.map nI) = intsT (l.map fun m : Nat => (m : Int)) := fun l => by unfold intsT; rw [List.map_map]; rfl
  have yin : y ∈ ms.set p y := List.mem_iff_getElem.mpr ⟨p, by rw [List.length_set]; omega, by simp⟩
  have n1 : okN (d : Int) (ms.set p y) = false := notok yin hy
  have C : ∀ {d' : Int} {m1 m2 : List Int} {x1 x2 x3 s1 s2 : D}, x1 = intsT m1 → x2 = intsT m2 → ¬ ((1 ≤ d' ∧ d' ≤ 15) ∧ okN d' m1 = true ∧ okN d' m2 = true) → F__law_refused K c (fT n tb) (.int d') x3 x1 s1 x2 s2 = FL.ret (.str "choice0") := fun e1 e2 h => by
    rw [e1, e2]; exact ref (tgC X) (tC g h)
  rw [setM_n (by simp; omega), em, ← List.map_set, nop_tuple_l, bnd_ret, nop_tuple_l, bnd_ret]
  simp only [bnd_ret, ap7_e]
  have c1 : ∀ {x3 s1 x2 s2 : D} {m2 : List Int}, x2 = intsT m2 → F__law_refused K c (fT n tb) (nI d) x3 (.tup ((ms.set p y).map D.int)) s1 x2 s2 = FL.ret (.str "choice0") := fun e => C rfl e fun h => by rw [n1] at h; exact Bool.noConfusion h.2.1
  have c2 : ∀ {x3 s1 x1 s2 : D} {m1 : List Int}, x1 = intsT m1 → F__law_refused K c (fT n tb) (nI d) x3 x1 s1 (.tup ((ms.set p y).map D.int)) s2 = FL.ret (.str "choice0") := fun e => C e rfl fun h => by rw [n1] at h; exact Bool.noConfusion h.2.2
  rw [c1 (ci lw), bnd_ret, strne3]
  try simp only [nop_tuple_l, bnd_ret, ap7_e]
  rw [c2 (x1 := .tup (ms.map D.int)) (m1 := ms) rfl, bnd_ret, strne3, add_n1, bnd_ret]
  -- no blocks
  have e3 : op qIx (fT n tb) (.int 3) = FL.ret (tupB n tb) := ix_t3 _ _ _ _ _
  have hsm : ∀ v : Nat, bsl n v ++ [48] = bsl (n + 1) (2 * v) := fun v => by rw [bsl_succ]; congr 2 <;> omega
  have len : tb.length ≤ 16 := by
    have : 2 ^ n ≤ 2 ^ 4 := Nat.pow_le_pow_right (by decide) g.hi
    rw [g.len]; omega
  rw [e3, bnd_ret]
  unfold tupB
  rw [itM_tup, bnd_ret, req_sz _ _ (by simp; omega), mapA_noX, mapA_rep (bD n) (fun v => bD (n + 1) (2 * v)) fun v _ => by
    unfold bD
    rw [show ("0" : Str) = S [48] from e_0, op_add_S _ _ (by simp; omega), hsm]; rfl]
  simp only [bnd_ret, nop_tuple_l, tupM_4, isI_int, slT, lstM_2, bnd_assoc, ap7_e]
  have o1 : OddB (.tup [.str "generator", nI n, nI (n + 1), .tup (tb.map fun v => bD (n + 1) (2 * v))]) :=
    .gen (a := n) (b := n + 1) (rows := tb.map fun v => bD (n + 1) (2 * v)) ⟨g.lo, by omega, by omega, by rw [List.length_map]; omega, fun x hx => by
      obtain ⟨v, _, rfl⟩ := List.mem_map.mp hx
      exact small_bD (by omega)⟩ fun _ => by omega
  have ec : cutL (tb.map (bD n)) (some (1 : Int)) none = (tb.map (bD n)).drop 1 := cut_from (k := 1)
  have o2 : OddB (.tup [.str "generator", nI n, nI n, .tup (cutL (tb.map (bD n)) (some (1 : Int)) none)]) := by
    rw [ec]
    refine .gen (a := n) (b := n) (rows := (tb.map (bD n)).drop 1) ⟨g.lo, by omega, by omega, by simp; omega, fun x hx => ?_⟩ fun k => ?_
    · obtain ⟨v, _, rfl⟩ := List.mem_map.mp (List.mem_of_mem_drop hx)
      exact small_bD (by omega)
    · exfalso
      unfold genOk at k
      simp only [Bool.and_eq_true, decide_eq_true_eq, List.length_drop, List.length_map, g.len] at k
      have : 0 < 2 ^ n := Nat.pow_pos (by decide)
      omega
  rw [ref (tgB X) (tB o1), bnd_ret, strne3, ref (tgB X) (tB o2), bnd_ret, strne3]
  refine take_b (m := 2) (by decide) fun r2 hr2 => ?_
  obtain ⟨y2, ey2, hy2⟩ : ∃ y : Int, op qIx (.lst [.int 0, .int 16]) (nI r2) = FL.ret (.int y) ∧ ¬ (1 ≤ y ∧ y ≤ 15) := by
    rcases (show r2 = 0 ∨ r2 = 1 by omega) with rfl | rfl
    · exact ⟨0, ix_l0 _ _, by omega⟩
    · exact ⟨16, ix_l1 _ _ _, by omega⟩
  rw [ey2, bnd_ret, C (x1 := .tup (ms.map D.int)) (m1 := ms) rfl (ci on) fun h => hy2 h.1, bnd_ret, op_eq_s, decide_eq_true rfl]
  exact q
end K82

namespace K82
open PySem PySem.Spec L2 DL FL
variable {K : PySem.W.Frag} {c : Cs}
theorem odd_fin : ∀ n ∈ [1, 2, 3, 4], ∀ t ∈ List.range 16, ∀ d ∈ List.range 16, d * (2 * t + 1) % 2 ^ n = 0 → d % 2 ^ n = 0 := by decide +kernel
theorem odd_inj {n t u a b : Nat} (hn : 1 ≤ n ∧ n ≤ 4) (ht : t < 16) (ha : a < 2 ^ n) (hb : b < 2 ^ n) (h : a < b) : (a * (2 * t + 1) + u) % 2 ^ n ≠ (b * (2 * t + 1) + u) % 2 ^ n := fun e => by
  have p16 : 2 ^ n ≤ 16 := Nat.pow_le_pow_right (n := 2) (by decide) hn.2
  have e2 : (b - a) * (2 * t + 1) % 2 ^ n = 0 := by
    have e3 : b * (2 * t + 1) + u = (a * (2 * t + 1) + u) + (b - a) * (2 * t + 1) := by
      rw [Nat.add_right_comm, ← Nat.add_mul]; congr 2; omega
    rw [e3] at e
    have := Nat.sub_mod_eq_zero_of_mod_eq e.symm
    rwa [Nat.add_sub_cancel_left] at this
  have := odd_fin n (by simp; omega) t (by simp; omega) (b - a) (by simp; omega) e2
  rw [Nat.mod_eq_of_lt (by omega)] at this
  omega
theorem range_zip {g : Nat → Nat → Nat} : ∀ {a b : List Nat}, a.length = b.length → ((List.range a.length).map fun i => g ((a[i]?).getD 0) ((b[i]?).getD 0)) = List.zipWith g a b
  | [], [], _ => rfl
  | x :: a, y :: b, h => by
    rw [List.length_cons, List.range_succ_eq_map, List.map_cons, List.map_map, List.zipWith_cons_cons, ← range_zip (g := g) (a := a) (b := b) (by simpa using h)]
    rfl
  | [], _ :: _, h => by simp at h
  | _ :: _, [], h => by simp at h
/-- signed anew, or honestly -/
theorem sign_w {n : Nat} {tb ts mn due : List Nat} {b : Bool} {m : M D} {E : Exc → Prop} {Q : D → Prop} (h : (∀ ss, Sg n tb ts mn ss → Q (.lst (ss.map nI))) → m E Q) (hon : Sg n tb ts mn due) (q : ∀ ss, Sg n tb ts mn ss → Q (.lst (ss.map nI))) : (if b = true then m else FL.ret (.lst (due.map nI))) E Q := by
  cases b with
  | true => exact h q
  | false => exact q _ hon
theorem f_whole (X : Exm K c) : F__law_whole K c (fun _ => False) (fun d => d = .bl true) := by
  unfold F__law_whole
  simp only [bnd_ret, bnd_assoc]
  refine take_b (m := 4) (by decide) fun r1 hr1 => ?_
  rw [add_1n, bnd_ret, shl_1n (by omega), bnd_ret]
  obtain ⟨n, hn⟩ : ∃ n, n = 1 + r1 := ⟨_, rfl⟩
  rw [← hn]
  have n4 : 1 ≤ n ∧ n ≤ 4 := by omega
  have p16 : 2 ^ n ≤ 16 := Nat.pow_le_pow_right (n := 2) (by decide) n4.2
  have p0 : 0 < 2 ^ n := Nat.pow_pos (by decide)
  have p1 : 2 ^ 1 ≤ 2 ^ n := Nat.pow_le_pow_right (n := 2) (by decide) n4.1
  rw [rng_n (by omega), bnd_ret, req_sz _ _ (by simp; omega), mapA_noX]
  simp only [takeF_noX]
  rw [draws p0 (fun x _ => rfl)]
  simp only [bnd_assoc, bnd_ret, List.length_map, List.length_range]
  refine any_b fun tb0 htb => ?_
  have g0 : GT n tb0 := ⟨n4.1, n4.2, htb.1, htb.2⟩
  have lt64 : ∀ {v : Nat}, v < 2 ^ n → v < 2 ^ 64 := fun h => by omega
  refine take_b (m := 3) (by decide) fun ro hro => ?_
  rw [show op (qEq false) (nI ro) (.int 0) = FL.ret (.bl (decide (ro = 0))) from eq_nn _ 0, bnd_ret]
  obtain ⟨o, ho⟩ : ∃ o, o = decide (ro = 0) := ⟨_, rfl⟩
  rw [← ho, tru_bl]
  refine jn_w (fun s => ∃ tb, s = .lst (tb.map nI) ∧ GT n tb ∧ (o = true → ∀ a b, a < 2 ^ n → b < 2 ^ n → a < b → (tb[a]?).getD 0 ≠ (tb[b]?).getD 0)) (fun s hs => ?_) fun k' hk' => ?_
  rotate_left
  · rw [bnd_ret]
    cases o with
    | false => exact hk' _ ⟨tb0, rfl, g0, fun h => Bool.noConfusion h⟩
    | true =>
      have t0 : (tb0[0]?).getD 0 < 2 ^ n := g0.lt _ (get_mem (by rw [g0.len]; omega))
      have t1 : (tb0[1]?).getD 0 < 2 ^ n := g0.lt _ (get_mem (by rw [g0.len]; omega))
      rw [if_pos rfl, req_sz _ _ (by omega), mapA_noX, mapA_rep nI (fun v => nI ((v * (2 * (tb0[0]?).getD 0 + 1) + (tb0[1]?).getD 0) % 2 ^ n)) fun v hv => ?_]
      · obtain ⟨tb, htb2⟩ : ∃ tb, tb = (List.range (2 ^ n)).map fun v => (v * (2 * (tb0[0]?).getD 0 + 1) + (tb0[1]?).getD 0) % 2 ^ n := ⟨_, rfl⟩
        have e : ((List.range (2 ^ n)).map fun v => nI ((v * (2 * (tb0[0]?).getD 0 + 1) + (tb0[1]?).getD 0) % 2 ^ n)) = tb.map nI := by rw [htb2, List.map_map]; rfl
        have at' : ∀ {a}, a < 2 ^ n → (tb[a]?).getD 0 = (a * (2 * (tb0[0]?).getD 0 + 1) + (tb0[1]?).getD 0) % 2 ^ n := fun {a} ha => by
          rw [htb2, List.getElem?_map, List.getElem?_range ha]; rfl
        rw [bnd_ret, bnd_ret, e]
        refine hk' _ ⟨tb, rfl, ⟨n4.1, n4.2, by rw [htb2]; simp, fun x hx => ?_⟩, fun _ a b ha hb hab => ?_⟩
        · rw [htb2] at hx
          obtain ⟨v, _, rfl⟩ := List.mem_map.mp hx
          exact Nat.mod_lt _ p0
        · rw [at' ha, at' hb]
          exact odd_inj n4 (by omega) ha hb hab
      · have hv : v < 2 ^ n := by simpa using hv
        rw [show op qIx (.lst (tb0.map nI)) (.int 0) = FL.ret (nI ((tb0[0]?).getD 0)) from tb_ix (v := 0) g0 p0, show op qIx (.lst (tb0.map nI)) (.int 1) = FL.ret (nI ((tb0[1]?).getD 0)) from tb_ix (v := 1) g0 (by omega)]
        simp only [bnd_ret]
        rw [show op (qMul false) (.int 2) (nI ((tb0[0]?).getD 0)) = FL.ret (nI (2 * (tb0[0]?).getD 0)) from mul_nn (a := 2) (.inl (by omega)), bnd_ret, add_n1, bnd_ret, mul_nn (.inl (by omega)), bnd_ret, add_nn, bnd_ret, show nop qInt [nI (v * (2 * (tb0[0]?).getD 0 + 1) + (tb0[1]?).getD 0)] = FL.ret (nI (v * (2 * (tb0[0]?).getD 0 + 1) + (tb0[1]?).getD 0)) from nop_int_i _, bnd_ret, mod_nn p0]
        rfl
  obtain ⟨tb, rfl, g, inj⟩ := hs
  rw [ap2_e, f_strings (by omega) (fun v hv => lt64 (g.lt v hv)) (by rw [g.len]; omega), bnd_ret, tupM_4, bnd_ret]
  have ef : D.tup [.str "generator", nI n, nI n, tupB n tb] = fT n tb := rfl
  rw [ef]
  refine take_b (m := 3) (by decide) fun rk hrk => ?_
  rw [add_2n, bnd_ret]
  obtain ⟨k, hk⟩ : ∃ k, k = 2 + rk := ⟨_, rfl⟩
  rw [← hk, lstM_7, bnd_ret]
  refine take_b (m := 7) (by decide) fun rd hrd => ?_
  obtain ⟨d, ed, d15⟩ : ∃ d, op qIx (.lst [.int 1, .int 2, .int 3, .int 4, .int 5, .int 15, .int 9]) (nI rd) = FL.ret (nI d) ∧ (1 ≤ d ∧ d ≤ 15) := by
    rcases (show rd = 0 ∨ rd = 1 ∨ rd = 2 ∨ rd = 3 ∨ rd = 4 ∨ rd = 5 ∨ rd = 6 by omega) with rfl | rfl | rfl | rfl | rfl | rfl | rfl
    · exact ⟨1, ix_ln (i := 0) rfl, by decide⟩
    · exact ⟨2, ix_ln (i := 1) rfl, by decide⟩
    · exact ⟨3, ix_ln (i := 2) rfl, by decide⟩
    · exact ⟨4, ix_ln (i := 3) rfl, by decide⟩
    · exact ⟨5, ix_ln (i := 4) rfl, by decide⟩
    · exact ⟨15, ix_ln (i := 5) rfl, by decide⟩
    · exact ⟨9, ix_ln (i := 6) rfl, by decide⟩
  rw [ed, bnd_ret, rng_n (by omega), bnd_ret, req_sz _ _ (by simp; omega), mapA_noX]
  simp only [takeF_noX]
  rw [draws p0 (fun x _ => rfl)]
  simp only [bnd_assoc, bnd_ret, List.length_map, List.length_range]
  refine any_b fun vs hvs => ?_
  obtain ⟨hvl, hvs⟩ := hvs
  rw [itM_lst, bnd_ret, req_sz _ _ (by simp; omega), mapA_noX, mapA_rep nI (fun v => nI (ledN tb v d)) fun v hv => by rw [ap3_e, f_lled g (hvs v hv) (by omega)]; rfl]
  obtain ⟨tops, htops⟩ : ∃ tops, tops = vs.map fun v => ledN tb v d := ⟨_, rfl⟩
  have etop : (vs.map fun v => nI (ledN tb v d)) = tops.map nI := by rw [htops, List.map_map]; rfl
  rw [bnd_ret, bnd_ret, etop, ap2_e]
  refine bnd_w (f_messages (by omega) d15 fun mn on ml ol hm ho hab => ?_)
  rw [un2_e, bnd_ret]
  dsimp only
  have ltop : tops.length = k := by rw [htops, List.length_map]; omega
  have getv : ∀ {i}, i < k → vs[i]? = some ((vs[i]?).getD 0) := fun hi => get_some (by omega)
  have getm : ∀ {i}, i < k → mn[i]? = some ((mn[i]?).getD 0) := fun hi => get_some (by omega)
  have vlt : ∀ {i}, i < k → (vs[i]?).getD 0 < 2 ^ n := fun hi => hvs _ (get_mem (by omega))
  have mle : ∀ {i}, i < k → (mn[i]?).getD 0 ≤ d := fun hi => hm _ (get_mem (by omega))
  rw [req_sz _ _ (by first | omega | (simp; omega)), mapA_noX, mapA_rep nI (fun i => nI (ledN tb ((vs[i]?).getD 0) (d - (mn[i]?).getD 0))) fun i hi => by
    have hi : i < k := by simpa using hi
    rw [ix_nl (getv hi), bnd_ret, ix_nl (getm hi)]
    simp only [bnd_ret, sub_nn (mle hi), ap3_e, f_lled g (vlt hi) (show d - (mn[i]?).getD 0 ≤ 1000 by omega), noX_ret]]
  obtain ⟨due, hdue⟩ : ∃ due, due = List.zipWith (fun v m => ledN tb v (d - m)) vs mn := ⟨_, rfl⟩
  have ed2 : ((List.range k).map fun i => nI (ledN tb ((vs[i]?).getD 0) (d - (mn[i]?).getD 0))) = due.map nI := by
    rw [hdue, ← range_zip (g := fun v m => ledN tb v (d - m)) (show vs.length = mn.length by omega), List.map_map, ← hvl]; rfl
  have ldue : due.length = k := by rw [hdue, List.length_zipWith]; omega
  have gdue : ∀ {i}, i < k → due[i]? = some (ledN tb ((vs[i]?).getD 0) (d - (mn[i]?).getD 0)) := fun hi => by rw [hdue, List.getElem?_zipWith, getv hi, getm hi]; rfl
  have gtop : ∀ {i}, i < k → tops[i]? = some (ledN tb ((vs[i]?).getD 0) d) := fun hi => by rw [htops, List.getElem?_map, getv hi]; rfl
  have dlt : ∀ v ∈ due, v < 2 ^ n := fun v hv => by
    obtain ⟨i, e⟩ := List.mem_iff_getElem?.mp hv
    have hi := (List.getElem?_eq_some_iff.mp e).1
    rw [gdue (by omega)] at e; cases e
    exact led_lt g (vlt (by omega)) _
  have hon : Sg n tb tops mn due := ⟨by omega, dlt, ext_nat (k := k) (by rw [List.length_zipWith]; omega) ltop fun i hi => by
    rw [List.getElem?_zipWith, gdue hi, getm hi, gtop hi]
    show some (ledN tb (ledN tb ((vs[i]?).getD 0) (d - (mn[i]?).getD 0)) ((mn[i]?).getD 0)) = _
    rw [← led_add, show d - (mn[i]?).getD 0 + (mn[i]?).getD 0 = d by have := mle hi; omega]⟩
  rw [bnd_ret, bnd_ret, ed2, ap2_e, f_strings (by omega) (fun v h => lt64 (hvs v h)) (by omega), bnd_ret, nop_tuple_l, bnd_ret, ap4_e]
  have hsig : F_signed c (fT n tb) (nI d) (tupB n vs) (.tup (mn.map nI)) = FL.ret (tupB n due) := by rw [hdue]; exact f_signed g d15 hvs hm (by omega)
  rw [hsig, bnd_ret, ap2_e, f_strings (by omega) (fun v h => lt64 (dlt v h)) (by omega), bnd_ret, ap2_e, same_go (same_tupB (by omega)) (by decide)]
  have up1 : ∀ i, i < mn.length → ∃ v, v < 2 ^ n ∧ ledN tb v ((mn[i]?).getD 0) = (tops[i]?).getD 0 := by rw [htops]; exact some_up g hvs (by omega) hm
  have up2 : ∀ i, i < on.length → ∃ v, v < 2 ^ n ∧ ledN tb v ((on[i]?).getD 0) = (tops[i]?).getD 0 := by rw [htops]; exact some_up g hvs (by omega) ho
  refine take_b (m := 2) (by decide) fun rs hrs => ?_
  rw [show op (qEq false) (nI rs) (.int 0) = FL.ret (.bl (decide (rs = 0))) from eq_nn _ 0, bnd_ret, isB_bl, bnd_ret]
  refine bnd_w ?_
  refine sign_w (n := n) (tb := tb) (ts := tops) (mn := mn) (fun q => ?_) hon fun ss h1 => ?_
  · rw [ap3_e]
    exact f_right g (.inl rfl) (fun m h => Nat.le_trans (hm m h) d15.2) (by omega) (by omega) up1 q
  rw [ap3_e]
  refine bnd_w (f_right g (.inl rfl) (fun m h => Nat.le_trans (ho m h) d15.2) (by omega) (by omega) up2 fun fs h3 => ?_)
  have tl := h1.tl
  have sl := h1.l
  have fl := h3.l
  have tlt := h1.tlt g
  rw [ap2_e, f_strings (by omega) (fun v h => lt64 (h1.lt v h)) (by omega), bnd_ret, ap2_e, f_strings (by omega) (fun v h => lt64 (h3.lt v h)) (by omega), bnd_ret, ap2_e, f_strings (by omega) (fun v h => lt64 (tlt v h)) (by omega), bnd_ret, nop_tuple_l, bnd_ret, ap5_e, nop_tuple_l, ap6_e]
  have s1 : F_is_signed c (fT n tb) (nI d) (tupB n tops) (.tup (mn.map nI)) (tupB n ss) = FL.ret (.bl true) := by
    have := f_is_signed (c := c) g d15 tlt h1.lt hm (by omega) (by omega)
    rw [h1.up, decide_eq_true rfl] at this; exact this
  have s2 : F_is_signed c (fT n tb) (nI d) (tupB n tops) (.tup (on.map nI)) (tupB n fs) = FL.ret (.bl true) := by
    have := f_is_signed (c := c) g d15 tlt h3.lt ho (by omega) (by omega)
    rw [h3.up, decide_eq_true rfl] at this; exact this
  obtain ⟨p, pr, hpr⟩ : ∃ p pr, above mn on = p :: pr := by
    cases h : above mn on with
    | nil => exact (hab h).elim
    | cons a b => exact ⟨a, b, rfl⟩
  simp only [bnd_ret, bnd_assoc, ap5_e, s1, s2, op_isNB, isB_bl, decide_true, Bool.not_true, Bool.false_eq_true, ↓reduceIte, ap7_e, ap2_e]
  rw [f_due (x := .lst (mn.map nI)) (y := .lst (on.map nI)) g (.inl rfl) (.inl rfl) hm ho (by omega) (by omega) (by omega) h1 h3 hpr, bnd_ret]
  have ht : F_turned_by c (fT n tb) (nI d) (tupB n tops) (.tup (mn.map nI)) (tupB n ss) (.tup (on.map nI)) (tupB n fs) = _ := f_turned g d15 hm ho (by omega) (by omega) h1 h3 hpr
  rw [ht, bnd_ret, f_same 2 3 _ same_told (by decide), bnd_ret, tru_bl, bnd_ret]
  have fin : (bnd (ap3 (F__law_level c) [fT n tb, .lst (tb.map nI), nI n]) fun a => bnd (tru a) fun a => if (!a) = true then FL.ret (.bl false) else ap9 (F__law_wrong K c) [fT n tb, .lst (tb.map nI), nI d, nI n, .lst (tops.map nI), .lst (mn.map nI), .lst (ss.map nI), .lst (on.map nI), .lst (fs.map nI)]) (fun _ => False) fun d => d = .bl true := by
    rw [ap3_e]
    refine bnd_w (f_lawlevel g ?_)
    rw [tru_bl, bnd_ret, if_neg (by decide), ap9_e]
    exact f_wrong X g d15 hm ho (by omega) (by omega) h1 h3 rfl
  obtain ⟨hp1, hp2⟩ := above_mem (by rw [hpr]; exact List.mem_cons_self : p ∈ above mn on)
  obtain ⟨x, hx⟩ : ∃ x, x = startN tb fs mn on p := ⟨_, rfl⟩
  obtain ⟨sv, hsv⟩ : ∃ sv, sv = (ss[p]?).getD 0 := ⟨_, rfl⟩
  have xlt : x < 2 ^ n := by rw [hx]; exact led_lt g (h3.slt (by omega)) _
  have svlt : sv < 2 ^ n := by rw [hsv]; exact h1.slt hp1
  obtain ⟨e1, e2, e3, e4⟩ := apart_is (ways_meet h1 h3 (by rw [hpr]; exact List.mem_cons_self : p ∈ above mn on) (by omega))
  rw [← hx, ← hsv] at e1 e3 e4
  rw [← hx, ← hsv]
  have td : decide (("turned" : Str) = "double") = false := by decide +kernel
  have dt : decide (("double" : Str) = "turned") = false := by decide +kernel
  unfold toldD
  cases e : apartN tb x sv ((mn[p]?).getD 0) with
  | zero =>
    have r1 : F_row_of c (fT n tb) (bD n x) = FL.ret (bD n sv) := by
      rw [f_row_of g xlt]
      have := e4 0 (by omega)
      rw [show (tb[x]?).getD 0 = sv from this]
    have i1 : op qIx (tupB n ss) (nI p) = FL.ret (bD n sv) := by rw [hsv]; exact ix_map (get_some (by omega))
    dsimp only
    rw [ix_t0, ix_t1, ix_t2, bnd_ret, op_eq_s, td, bnd_ret, isB_bl]
    simp only [bnd_ret, bnd_assoc, isB_bl, Bool.not_true, Bool.false_eq_true, ↓reduceIte, op_eq_s, td, decide_true, i1, ap2_e, r1, eq_bD svlt svlt]
    exact fin
  | succ j =>
    have alt : ledN tb x (j + 1) < 2 ^ n := led_lt g xlt _
    have blt : ledN tb sv j < 2 ^ n := led_lt g svlt _
    have ne : ledN tb x (j + 1) ≠ ledN tb sv j := e3 j (by omega)
    have eq : (tb[ledN tb x (j + 1)]?).getD 0 = (tb[ledN tb sv j]?).getD 0 := e4 (j + 1) (by omega)
    have o0 : o = false := by
      cases o with
      | false => rfl
      | true =>
        exfalso
        rcases Nat.lt_or_gt_of_ne ne with h | h
        · exact inj rfl _ _ alt blt h eq
        · exact inj rfl _ _ blt alt h eq.symm
    obtain ⟨z, ez, nz⟩ := f_double (c := c) (tb := tb) ⟨by rw [g.len]; omega, by rw [g.len]; omega⟩ (fun v hv => by have := g.lt v hv; omega) (by
      rcases Nat.lt_or_gt_of_ne ne with h | h
      · exact ⟨_, _, h, by rw [g.len]; exact blt, eq⟩
      · exact ⟨_, _, h, by rw [g.len]; exact alt, eq.symm⟩)
    have l0 : F_led c (fT n tb) (bD n (ledN tb x (j + 1))) (.int 0) = FL.ret (bD n (ledN tb x (j + 1))) := f_led (t := 0) g alt (by omega)
    have ra := f_row_of (c := c) g alt
    have rb := f_row_of (c := c) g blt
    rw [← eq] at rb
    have rlt : (tb[ledN tb x (j + 1)]?).getD 0 < 2 ^ n := g.lt _ (get_mem (by rw [g.len]; exact alt))
    dsimp only
    rw [ix_t0, ix_t1, ix_t2, bnd_ret, op_eq_s, decide_eq_true rfl, bnd_ret, isB_bl, o0]
    simp only [bnd_ret, bnd_assoc, isB_bl, Bool.not_true, Bool.false_eq_true, ↓reduceIte, op_eq_s, dt, decide_true, ap1_e, ap2_e, ap3_e, ez, FL.op_isN, nz, ix_t0, ix_t1, ra, rb, eq_bD rlt rlt, l0, eq_bD alt blt, decide_eq_false ne]
    exact fin
end K82

namespace K82
open PySem PySem.Spec L2 DL FL
structure Txt (P : Program) (w : World) (K : PySem.W.Frag) (mg : Str → Option Value) (base : Heap) (c : Cs) : Prop where
  n_ValueError : mg "ValueError" = none
  n_all : mg "all" = none
  n_bool : mg "bool" = none
  n_enumerate : mg "enumerate" = none
  n_int : mg "int" = none
  n_isinstance : mg "isinstance" = none
  n_len : mg "len" = none
  n_list : mg "list" = none
  n_min : mg "min" = none
  n_range : mg "range" = none
  n_str : mg "str" = none
  n_sum : mg "sum" = none
  n_tuple : mg "tuple" = none
  n_zip : mg "zip" = none
  g_MOST_LENGTH : ∃ tk, mg "MOST_LENGTH" = some (.int 40 tk)
  g_MOST_DEPTH : ∃ tk, mg "MOST_DEPTH" = some (.int 15 tk)
  g_MOST_INPUTS : ∃ tk, mg "MOST_INPUTS" = some (.int 64 tk)
  g_BreakError : mg "BreakError" = some (.ref c.BreakError)
  g_BadBlock : mg "BadBlock" = some (.ref c.BadBlock)
  g_BadChoice : mg "BadChoice" = some (.ref c.BadChoice)
  g_BadMessage : mg "BadMessage" = some (.ref c.BadMessage)
  g_BadTable : mg "BadTable" = some (.ref c.BadTable)
  x_BadBlock : PlainX K mg "BadBlock" c.BadBlock
  x_BadChoice : PlainX K mg "BadChoice" c.BadChoice
  x_BadMessage : PlainX K mg "BadMessage" c.BadMessage
  f_BadTable : FieldX P w K mg base "BadTable" c.BadTable "value"
  at_number_of : At K mg "number_of" s_number_of P_number_of
  at_is_number : At K mg "is_number" s_is_number P_is_number
  at_is_bits : At K mg "is_bits" s_is_bits P_is_bits
  at_is_row : At K mg "is_row" s_is_row P_is_row
  at_is_generator : At K mg "is_generator" s_is_generator P_is_generator
  at_is_function : At K mg "is_function" s_is_function P_is_function
  at_check_block : At K mg "check_block" s_check_block P_check_block
  at_row_at : At K mg "row_at" s_row_at P_row_at
  at_row_of : At K mg "row_of" s_row_of P_row_of
  at_check_even : At K mg "check_even" s_check_even P_check_even
  at_check_depth : At K mg "check_depth" s_check_depth P_check_depth
  at_check_numbers : At K mg "check_numbers" s_check_numbers P_check_numbers
  at_way_on : At K mg "way_on" s_way_on P_way_on
  at_led : At K mg "led" s_led P_led
  at_rises_at : At K mg "rises_at" s_rises_at P_rises_at
  at_is_steady : At K mg "is_steady" s_is_steady P_is_steady
  at_level_messages : At K mg "level_messages" s_level_messages P_level_messages
  at_signed : At K mg "signed" s_signed P_signed
  at_comes_up : At K mg "comes_up" s_comes_up P_comes_up
  at_is_signed : At K mg "is_signed" s_is_signed P_is_signed
  at_turned_by : At K mg "turned_by" s_turned_by P_turned_by
  at_is_map : At K mg "is_map" s_is_map P_is_map
  at_check_map : At K mg "check_map" s_check_map P_check_map
  at_first_double : At K mg "first_double" s_first_double P_first_double
  at__law_hand : At K mg "_law_hand" s__law_hand P__law_hand
  at__law_take : At K mg "_law_take" s__law_take P__law_take
  at__law_same : At K mg "_law_same" s__law_same P__law_same
  at__law_bits : At K mg "_law_bits" s__law_bits P__law_bits
  at__law_led : At K mg "_law_led" s__law_led P__law_led
  at__law_right : At K mg "_law_right" s__law_right P__law_right
  at__law_strings : At K mg "_law_strings" s__law_strings P__law_strings
  at__law_above : At K mg "_law_above" s__law_above P__law_above
  at__law_due : At K mg "_law_due" s__law_due P__law_due
  at__law_refused : At K mg "_law_refused" s__law_refused P__law_refused
  at__law_messages : At K mg "_law_messages" s__law_messages P__law_messages
  at__law_bent : At K mg "_law_bent" s__law_bent P__law_bent
  at__law_wrong : At K mg "_law_wrong" s__law_wrong P__law_wrong
  at__law_lot : At K mg "_law_lot" s__law_lot P__law_lot
  at__law_level : At K mg "_law_level" s__law_level P__law_level
  at__law_whole : At K mg "_law_whole" s__law_whole P__law_whole
  at_law : At K mg "law" s_law P_law
section
variable {P : Program} {w : World} {K : PySem.W.Frag} {mg : Str → Option Value} {base : Heap} {c : Cs}
-- errors: []
-- levels: {'number_of': 1, 'is_number': 1, 'is_bits': 1, 'is_row': 2, 'is_generator': 3, 'is_function': 3, 'check_block': 4, 'row_at': 2, 'row_of': 5, 'check_even': 5, 'check_depth': 2, 'check_numbers': 2, 'way_on': 3, 'led': 6, 'rises_at': 1, 'is_steady': 3, 'level_messages': 3, 'signed': 6, 'comes_up': 4, 'is_signed': 6, 'turned_by': 6, 'is_map': 2, 'check_map': 3, 'first_double': 4, '_law_hand': 1, '_law_take': 1, '_law_same': 3, '_law_bits': 1, '_law_led': 1, '_law_right': 2, '_law_strings': 2, '_law_above': 1, '_law_due': 2, '_law_refused': 7, '_law_messages': 2, '_law_bent': 2, '_law_wrong': 8, '_law_lot': 1, '_law_level': 7, '_law_whole': 9, 'law': 10} recursive: {'_law_same'}
def lb_number_of_0 (K : PySem.W.Frag) (c : Cs) : DTS :=
 (dAsg (dOp (qAdd false) (dOp (qMul false) (dVar 1) (dK (.int 2))) (dN qInt (dCons (dVar 2) dNil))) (gSet 1))
def t_number_of (K : PySem.W.Frag) (c : Cs) : DTS :=
 (dSeq (dAsg (dK (.int 0)) (gSet 1))
 (dSeq (dFor (dIt (dVar 0)) (gSet 2)
 (lb_number_of_0 K c))
 (dRet (dVar 1))))
theorem has_number_of (T : Txt P w K mg base c)  (hlen : ∀ ds G Q E, (sp_number_of c) ds G Q E → ds.length = P_number_of.length)
    (hread : ∀ ds G Q E, (sp_number_of c) ds G Q E → t_number_of K c (fun x _ G' => ∃ G2, Sub G2 G' ∧ E x G2) { nx := fun _ G' => RetW Q .non G', rt := RetW Q } (dstart N_number_of ds) G) :
    Has P w K mg base (0 + 1) "number_of" s_number_of P_number_of (sp_number_of c) :=
  has_mk T.at_number_of sc_number_of hlen (t_number_of K c) (fun f cdv A outer s H E hr tk =>
 (dss_cons (ds_set sc_number_of.nd (i := 1) rfl (by first | exact Or.inl rfl | exact Or.inr rfl) de_int)
 (dss_cons (ds_for (passes_of rfl) rfl (di_any (de_var (pv 0))) (dg_name sc_number_of.nd rfl (by first | exact Or.inl rfl | exact Or.inr rfl))
 (dss_one (ds_set sc_number_of.nd (i := 1) rfl (by first | exact Or.inl rfl | exact Or.inr rfl) (de_op op_addAll qAdd_ok (de_op op_mulAll qMul_ok (de_var (pv 1)) de_int) (de_callTy call_intA qInt_ok rfl T.n_int PyProof.Rows.boot_int (da_cons (de_var (pv 2)) da_nil))))))
 (dss_one (ds_ret (de_var (pv 1))))))) hread
def t_is_number (K : PySem.W.Frag) (c : Cs) : DTS :=
 (dRet (dAndV (dN qIsi (dCons (dVar 0) (dCons (dK (.ty "int")) dNil))) (dAndV (dNotV (dN qIsi (dCons (dVar 0) (dCons (dK (.ty "bool")) dNil)))) (dChain (qLe) (qLe) (dVar 1) (dVar 0) (dVar 2)))))
theorem has_is_number (T : Txt P w K mg base c)  (hlen : ∀ ds G Q E, (sp_is_number c) ds G Q E → ds.length = P_is_number.length)
    (hread : ∀ ds G Q E, (sp_is_number c) ds G Q E → t_is_number K c (fun x _ G' => ∃ G2, Sub G2 G' ∧ E x G2) { nx := fun _ G' => RetW Q .non G', rt := RetW Q } (dstart N_is_number ds) G) :
    Has P w K mg base (0 + 1) "is_number" s_is_number P_is_number (sp_is_number c) :=
  has_mk T.at_is_number sc_is_number hlen (t_is_number K c) (fun f cdv A outer s H E hr tk =>
 (dss_one (ds_ret (de_and (de_callB call_isi qIsi_ok rfl T.n_isinstance PyProof.Rows.boot_isinstance (da_cons (de_var (pv 0)) (da_cons (de_bty T.n_int PyProof.Rows.boot_int rfl) da_nil))) (de_and (de_not (de_callB call_isi qIsi_ok rfl T.n_isinstance PyProof.Rows.boot_isinstance (da_cons (de_var (pv 0)) (da_cons (de_bty T.n_bool PyProof.Rows.boot_bool rfl) da_nil)))) (de_one (de_chain (op_le) qLe_ok (op_le) qLe_ok (de_var (pv 1)) (de_var (pv 0)) (de_var (pv 2))))))))) hread
def t_is_bits (K : PySem.W.Frag) (c : Cs) : DTS :=
 (dRet (dAndV (dN qIsi (dCons (dVar 0) (dCons (dK (.ty "str")) dNil))) (dAndV (dOp (qEq false) (dN qLen (dCons (dVar 0) dNil)) (dVar 1)) (dN qAll (dCons (dLc false [2] (dIt (dVar 0)) (gSet 2) dYes (dOp (qIn false) (dVar 2) (dK (.str "01")))) dNil)))))
theorem has_is_bits (T : Txt P w K mg base c)  (hlen : ∀ ds G Q E, (sp_is_bits c) ds G Q E → ds.length = P_is_bits.length)
    (hread : ∀ ds G Q E, (sp_is_bits c) ds G Q E → t_is_bits K c (fun x _ G' => ∃ G2, Sub G2 G' ∧ E x G2) { nx := fun _ G' => RetW Q .non G', rt := RetW Q } (dstart N_is_bits ds) G) :
    Has P w K mg base (0 + 1) "is_bits" s_is_bits P_is_bits (sp_is_bits c) :=
  has_mk T.at_is_bits sc_is_bits hlen (t_is_bits K c) (fun f cdv A outer s H E hr tk =>
 (dss_one (ds_ret (de_and (de_callB call_isi qIsi_ok rfl T.n_isinstance PyProof.Rows.boot_isinstance (da_cons (de_var (pv 0)) (da_cons (de_bty T.n_str PyProof.Rows.boot_str rfl) da_nil))) (de_and (de_cmp (op_eqAll (hr.units)) qEq_ok (de_callB call_len qLen_ok rfl T.n_len boot_len (da_cons (de_var (pv 0)) da_nil)) (de_var (pv 1))) (de_one (de_callB (cr_all rfl) qAll_ok rfl T.n_all PyProof.Rows.boot_all (da_cons (de_lc (own := [("sign", 2)]) rfl sc_is_bits.nd (di_any (de_var (pv 0))) (blkOk_by (own := [("sign", 2)]) (N := N_is_bits) (sc := defScope s_is_bits) (by decide +kernel)) (fun _ _ _ _ _ => (cg_name sc_is_bits.nd rfl (by first | exact Or.inl rfl | exact Or.inr rfl) (by decide))) (fun _ _ _ _ _ => dts_nil) (fun _ _ _ _ _ => (de_cmp (op_inAll) qInT_ok (de_var (pv 2)) de_str))) da_nil)))))))) hread
def t_is_row (K : PySem.W.Frag) (c : Cs) : DTS :=
 (dRet (dAndV (dN qIsi (dCons (dVar 0) (dCons (dK (.ty "tuple")) dNil))) (dAndV (dOp (qEq false) (dN qLen (dCons (dVar 0) dNil)) (dVar 1)) (dN qAll (dCons (dLc false [3] (dIt (dVar 0)) (gSet 3) dYes (dCall (sp_is_bits c) (dCons (dVar 3) (dCons (dVar 2) dNil)))) dNil)))))
theorem has_is_row (T : Txt P w K mg base c) (h_is_bits : Has P w K mg base 1 "is_bits" s_is_bits P_is_bits (sp_is_bits c)) (hlen : ∀ ds G Q E, (sp_is_row c) ds G Q E → ds.length = P_is_row.length)
    (hread : ∀ ds G Q E, (sp_is_row c) ds G Q E → t_is_row K c (fun x _ G' => ∃ G2, Sub G2 G' ∧ E x G2) { nx := fun _ G' => RetW Q .non G', rt := RetW Q } (dstart N_is_row ds) G) :
    Has P w K mg base (1 + 1) "is_row" s_is_row P_is_row (sp_is_row c) :=
  has_mk T.at_is_row sc_is_row hlen (t_is_row K c) (fun f cdv A outer s H E hr tk =>
 (dss_one (ds_ret (de_and (de_callB call_isi qIsi_ok rfl T.n_isinstance PyProof.Rows.boot_isinstance (da_cons (de_var (pv 0)) (da_cons (de_bty T.n_tuple PyProof.Rows.boot_tuple rfl) da_nil))) (de_and (de_cmp (op_eqAll (hr.units)) qEq_ok (de_callB call_len qLen_ok rfl T.n_len boot_len (da_cons (de_var (pv 0)) da_nil)) (de_var (pv 1))) (de_one (de_callB (cr_all rfl) qAll_ok rfl T.n_all PyProof.Rows.boot_all (da_cons (de_lc (own := [("one", 3)]) rfl sc_is_row.nd (di_any (de_var (pv 0))) (blkOk_by (own := [("one", 3)]) (N := N_is_row) (sc := defScope s_is_row) (by decide +kernel)) (fun _ _ _ _ _ => (cg_name sc_is_row.nd rfl (by first | exact Or.inl rfl | exact Or.inr rfl) (by decide))) (fun _ _ _ _ _ => dts_nil) (fun _ _ _ _ _ => (de_call h_is_bits (hr.mono (by first | decide | omega)) rfl takes_blk (da_cons (de_var (pv 3)) (da_cons (de_var (pv 2)) da_nil))))) da_nil)))))))) hread
def t_is_generator (K : PySem.W.Frag) (c : Cs) : DTS :=
 (dSeq (dIfS (dOr (dNot (dTru (dN qIsi (dCons (dVar 0) (dCons (dK (.ty "tuple")) dNil))))) (dOr (dTest (dOp (qEq true) (dN qLen (dCons (dVar 0) dNil)) (dK (.int 4)))) (dTest (dOp (qEq true) (dOp qIx (dVar 0) (dK (.int 0))) (dK (.str "generator"))))))
 (dRet (dK (.bl false)))
 dNext)
 (dSeq (dIfS (dOr (dNot (dTru (dCall (sp_is_number c) (dCons (dOp qIx (dVar 0) (dK (.int 1))) (dCons (dK (.int 1)) (dCons (dK (.int 10)) dNil)))))) (dNot (dTru (dCall (sp_is_number c) (dCons (dOp qIx (dVar 0) (dK (.int 2))) (dCons (dK (.int 1)) (dCons (dK (.int 40)) dNil)))))))
 (dRet (dK (.bl false)))
 dNext)
 (dRet (dCall (sp_is_row c) (dCons (dOp qIx (dVar 0) (dK (.int 3))) (dCons (dOp qShl (dK (.int 1)) (dOp qIx (dVar 0) (dK (.int 1)))) (dCons (dOp qIx (dVar 0) (dK (.int 2))) dNil)))))))
theorem has_is_generator (T : Txt P w K mg base c) (h_is_number : Has P w K mg base 1 "is_number" s_is_number P_is_number (sp_is_number c)) (h_is_row : Has P w K mg base 2 "is_row" s_is_row P_is_row (sp_is_row c)) (hlen : ∀ ds G Q E, (sp_is_generator c) ds G Q E → ds.length = P_is_generator.length)
    (hread : ∀ ds G Q E, (sp_is_generator c) ds G Q E → t_is_generator K c (fun x _ G' => ∃ G2, Sub G2 G' ∧ E x G2) { nx := fun _ G' => RetW Q .non G', rt := RetW Q } (dstart N_is_generator ds) G) :
    Has P w K mg base (2 + 1) "is_generator" s_is_generator P_is_generator (sp_is_generator c) :=
  has_mk T.at_is_generator sc_is_generator hlen (t_is_generator K c) (fun f cdv A outer s H E hr tk =>
 (dss_cons (ds_if (dt_bool (dw_or (dt_not (dt_truth (de_callB call_isi qIsi_ok rfl T.n_isinstance PyProof.Rows.boot_isinstance (da_cons (de_var (pv 0)) (da_cons (de_bty T.n_tuple PyProof.Rows.boot_tuple rfl) da_nil))))) (dw_or (dt_cmp (op_neAll (hr.units)) qNe_ok (de_callB call_len qLen_ok rfl T.n_len boot_len (da_cons (de_var (pv 0)) da_nil)) de_int) (dw_or1 (dt_cmp (op_neAll (hr.units)) qNe_ok (de_ix ix_seq qIx_ok (de_var (pv 0)) de_int) de_str)))))
 (dss_one (ds_ret de_bl))
 dss_nil)
 (dss_cons (ds_if (dt_bool (dw_or (dt_not (dt_truth (de_call h_is_number (hr.mono (by first | decide | omega)) rfl tk (da_cons (de_ix ix_seq qIx_ok (de_var (pv 0)) de_int) (da_cons de_int (da_cons de_int da_nil)))))) (dw_or1 (dt_not (dt_truth (de_call h_is_number (hr.mono (by first | decide | omega)) rfl tk (da_cons (de_ix ix_seq qIx_ok (de_var (pv 0)) de_int) (da_cons de_int (da_cons (de_gint T.g_MOST_LENGTH rfl) da_nil)))))))))
 (dss_one (ds_ret de_bl))
 dss_nil)
 (dss_one (ds_ret (de_call h_is_row (hr.mono (by first | decide | omega)) rfl tk (da_cons (de_ix ix_seq qIx_ok (de_var (pv 0)) de_int) (da_cons (de_op op_shl qShl_ok de_int (de_ix ix_seq qIx_ok (de_var (pv 0)) de_int)) (da_cons (de_ix ix_seq qIx_ok (de_var (pv 0)) de_int) da_nil))))))))) hread
def t_is_function (K : PySem.W.Frag) (c : Cs) : DTS :=
 (dSeq (dIfS (dOr (dNot (dTru (dN qIsi (dCons (dVar 0) (dCons (dK (.ty "tuple")) dNil))))) (dOr (dTest (dOp (qEq true) (dN qLen (dCons (dVar 0) dNil)) (dK (.int 5)))) (dTest (dOp (qEq true) (dOp qIx (dVar 0) (dK (.int 0))) (dK (.str "function"))))))
 (dRet (dK (.bl false)))
 dNext)
 (dSeq (dIfS (dOr (dNot (dTru (dCall (sp_is_number c) (dCons (dOp qIx (dVar 0) (dK (.int 1))) (dCons (dK (.int 1)) (dCons (dK (.int 8)) dNil)))))) (dOr (dNot (dTru (dCall (sp_is_number c) (dCons (dOp qIx (dVar 0) (dK (.int 2))) (dCons (dK (.int 1)) (dCons (dK (.int 8)) dNil)))))) (dTest (dOp (qGt) (dOp (qAdd false) (dOp qIx (dVar 0) (dK (.int 1))) (dOp qIx (dVar 0) (dK (.int 2)))) (dK (.int 12))))))
 (dRet (dK (.bl false)))
 dNext)
 (dSeq (dIfS (dOr (dNot (dTru (dCall (sp_is_number c) (dCons (dOp qIx (dVar 0) (dK (.int 3))) (dCons (dK (.int 1)) (dCons (dK (.int 40)) dNil)))))) (dNot (dTru (dN qIsi (dCons (dOp qIx (dVar 0) (dK (.int 4))) (dCons (dK (.ty "tuple")) dNil))))))
 (dRet (dK (.bl false)))
 dNext)
 (dRet (dAndV (dOp (qEq false) (dN qLen (dCons (dOp qIx (dVar 0) (dK (.int 4))) dNil)) (dOp qShl (dK (.int 1)) (dOp qIx (dVar 0) (dK (.int 1))))) (dN qAll (dCons (dLc false [1] (dIt (dOp qIx (dVar 0) (dK (.int 4)))) (gSet 1) dYes (dCall (sp_is_row c) (dCons (dVar 1) (dCons (dOp qShl (dK (.int 1)) (dOp qIx (dVar 0) (dK (.int 2)))) (dCons (dOp qIx (dVar 0) (dK (.int 3))) dNil))))) dNil)))))))
theorem has_is_function (T : Txt P w K mg base c) (h_is_number : Has P w K mg base 1 "is_number" s_is_number P_is_number (sp_is_number c)) (h_is_row : Has P w K mg base 2 "is_row" s_is_row P_is_row (sp_is_row c)) (hlen : ∀ ds G Q E, (sp_is_function c) ds G Q E → ds.length = P_is_function.length)
    (hread : ∀ ds G Q E, (sp_is_function c) ds G Q E → t_is_function K c (fun x _ G' => ∃ G2, Sub G2 G' ∧ E x G2) { nx := fun _ G' => RetW Q .non G', rt := RetW Q } (dstart N_is_function ds) G) :
    Has P w K mg base (2 + 1) "is_function" s_is_function P_is_function (sp_is_function c) :=
  has_mk T.at_is_function sc_is_function hlen (t_is_function K c) (fun f cdv A outer s H E hr tk =>
 (dss_cons (ds_if (dt_bool (dw_or (dt_not (dt_truth (de_callB call_isi qIsi_ok rfl T.n_isinstance PyProof.Rows.boot_isinstance (da_cons (de_var (pv 0)) (da_cons (de_bty T.n_tuple PyProof.Rows.boot_tuple rfl) da_nil))))) (dw_or (dt_cmp (op_neAll (hr.units)) qNe_ok (de_callB call_len qLen_ok rfl T.n_len boot_len (da_cons (de_var (pv 0)) da_nil)) de_int) (dw_or1 (dt_cmp (op_neAll (hr.units)) qNe_ok (de_ix ix_seq qIx_ok (de_var (pv 0)) de_int) de_str)))))
 (dss_one (ds_ret de_bl))
 dss_nil)
 (dss_cons (ds_if (dt_bool (dw_or (dt_not (dt_truth (de_call h_is_number (hr.mono (by first | decide | omega)) rfl tk (da_cons (de_ix ix_seq qIx_ok (de_var (pv 0)) de_int) (da_cons de_int (da_cons de_int da_nil)))))) (dw_or (dt_not (dt_truth (de_call h_is_number (hr.mono (by first | decide | omega)) rfl tk (da_cons (de_ix ix_seq qIx_ok (de_var (pv 0)) de_int) (da_cons de_int (da_cons de_int da_nil)))))) (dw_or1 (dt_cmp (op_gt) qGt_ok (de_op op_addAll qAdd_ok (de_ix ix_seq qIx_ok (de_var (pv 0)) de_int) (de_ix ix_seq qIx_ok (de_var (pv 0)) de_int)) de_int)))))
 (dss_one (ds_ret de_bl))
 dss_nil)
 (dss_cons (ds_if (dt_bool (dw_or (dt_not (dt_truth (de_call h_is_number (hr.mono (by first | decide | omega)) rfl tk (da_cons (de_ix ix_seq qIx_ok (de_var (pv 0)) de_int) (da_cons de_int (da_cons (de_gint T.g_MOST_LENGTH rfl) da_nil)))))) (dw_or1 (dt_not (dt_truth (de_callB call_isi qIsi_ok rfl T.n_isinstance PyProof.Rows.boot_isinstance (da_cons (de_ix ix_seq qIx_ok (de_var (pv 0)) de_int) (da_cons (de_bty T.n_tuple PyProof.Rows.boot_tuple rfl) da_nil))))))))
 (dss_one (ds_ret de_bl))
 dss_nil)
 (dss_one (ds_ret (de_and (de_cmp (op_eqAll (hr.units)) qEq_ok (de_callB call_len qLen_ok rfl T.n_len boot_len (da_cons (de_ix ix_seq qIx_ok (de_var (pv 0)) de_int) da_nil)) (de_op op_shl qShl_ok de_int (de_ix ix_seq qIx_ok (de_var (pv 0)) de_int))) (de_one (de_callB (cr_all rfl) qAll_ok rfl T.n_all PyProof.Rows.boot_all (da_cons (de_lc (own := [("one", 1)]) rfl sc_is_function.nd (di_any (de_ix ix_seq qIx_ok (de_var (pv 0)) de_int)) (blkOk_by (own := [("one", 1)]) (N := N_is_function) (sc := defScope s_is_function) (by decide +kernel)) (fun _ _ _ _ _ => (cg_name sc_is_function.nd rfl (by first | exact Or.inl rfl | exact Or.inr rfl) (by decide))) (fun _ _ _ _ _ => dts_nil) (fun _ _ _ _ _ => (de_call h_is_row (hr.mono (by first | decide | omega)) rfl takes_blk (da_cons (de_var (pv 1)) (da_cons (de_op op_shl qShl_ok de_int (de_ix ix_seq qIx_ok (de_var (pv 0)) de_int)) (da_cons (de_ix ix_seq qIx_ok (de_var (pv 0)) de_int) da_nil)))))) da_nil)))))))))) hread
def t_check_block (K : PySem.W.Frag) (c : Cs) : DTS :=
 (dIfS (dAnd (dNot (dTru (dCall (sp_is_generator c) (dCons (dVar 0) dNil)))) (dNot (dTru (dCall (sp_is_function c) (dCons (dVar 0) dNil)))))
 (dRaise (dMk0 c.BadBlock))
 dNext)
theorem has_check_block (T : Txt P w K mg base c) (h_is_generator : Has P w K mg base 3 "is_generator" s_is_generator P_is_generator (sp_is_generator c)) (h_is_function : Has P w K mg base 3 "is_function" s_is_function P_is_function (sp_is_function c)) (hlen : ∀ ds G Q E, (sp_check_block c) ds G Q E → ds.length = P_check_block.length)
    (hread : ∀ ds G Q E, (sp_check_block c) ds G Q E → t_check_block K c (fun x _ G' => ∃ G2, Sub G2 G' ∧ E x G2) { nx := fun _ G' => RetW Q .non G', rt := RetW Q } (dstart N_check_block ds) G) :
    Has P w K mg base (3 + 1) "check_block" s_check_block P_check_block (sp_check_block c) :=
  has_mk T.at_check_block sc_check_block hlen (t_check_block K c) (fun f cdv A outer s H E hr tk =>
 (dss_one (ds_if (dt_bool (dw_and (dt_not (dt_truth (de_call h_is_generator (hr.mono (by first | decide | omega)) rfl tk (da_cons (de_var (pv 0)) da_nil)))) (dw_and1 (dt_not (dt_truth (de_call h_is_function (hr.mono (by first | decide | omega)) rfl tk (da_cons (de_var (pv 0)) da_nil)))))))
 (dss_one (ds_raise rfl tk (dmk_own T.x_BadBlock rfl)))
 dss_nil))) hread
def t_row_at (K : PySem.W.Frag) (c : Cs) : DTS :=
 (dRet (dOp qIx (dOp qIx (dVar 0) (dK (.int 3))) (dCall (sp_number_of c) (dCons (dVar 1) dNil))))
theorem has_row_at (T : Txt P w K mg base c) (h_number_of : Has P w K mg base 1 "number_of" s_number_of P_number_of (sp_number_of c)) (hlen : ∀ ds G Q E, (sp_row_at c) ds G Q E → ds.length = P_row_at.length)
    (hread : ∀ ds G Q E, (sp_row_at c) ds G Q E → t_row_at K c (fun x _ G' => ∃ G2, Sub G2 G' ∧ E x G2) { nx := fun _ G' => RetW Q .non G', rt := RetW Q } (dstart N_row_at ds) G) :
    Has P w K mg base (1 + 1) "row_at" s_row_at P_row_at (sp_row_at c) :=
  has_mk T.at_row_at sc_row_at hlen (t_row_at K c) (fun f cdv A outer s H E hr tk =>
 (dss_one (ds_ret (de_ix ix_seq qIx_ok (de_ix ix_seq qIx_ok (de_var (pv 0)) de_int) (de_call h_number_of (hr.mono (by first | decide | omega)) rfl tk (da_cons (de_var (pv 1)) da_nil)))))) hread
def t_row_of (K : PySem.W.Frag) (c : Cs) : DTS :=
 (dSeq (dDrop (dCall (sp_check_block c) (dCons (dVar 0) dNil)))
 (dRet (dCall (sp_row_at c) (dCons (dVar 0) (dCons (dVar 1) dNil)))))
theorem has_row_of (T : Txt P w K mg base c) (h_check_block : Has P w K mg base 4 "check_block" s_check_block P_check_block (sp_check_block c)) (h_row_at : Has P w K mg base 2 "row_at" s_row_at P_row_at (sp_row_at c)) (hlen : ∀ ds G Q E, (sp_row_of c) ds G Q E → ds.length = P_row_of.length)
    (hread : ∀ ds G Q E, (sp_row_of c) ds G Q E → t_row_of K c (fun x _ G' => ∃ G2, Sub G2 G' ∧ E x G2) { nx := fun _ G' => RetW Q .non G', rt := RetW Q } (dstart N_row_of ds) G) :
    Has P w K mg base (4 + 1) "row_of" s_row_of P_row_of (sp_row_of c) :=
  has_mk T.at_row_of sc_row_of hlen (t_row_of K c) (fun f cdv A outer s H E hr tk =>
 (dss_cons (ds_expr (de_call h_check_block (hr.mono (by first | decide | omega)) rfl tk (da_cons (de_var (pv 0)) da_nil)))
 (dss_one (ds_ret (de_call h_row_at (hr.mono (by first | decide | omega)) rfl tk (da_cons (de_var (pv 0)) (da_cons (de_var (pv 1)) da_nil))))))) hread
def t_check_even (K : PySem.W.Frag) (c : Cs) : DTS :=
 (dSeq (dDrop (dCall (sp_check_block c) (dCons (dVar 0) dNil)))
 (dIfS (dOr (dTest (dOp (qEq true) (dOp qIx (dVar 0) (dK (.int 0))) (dK (.str "generator")))) (dTest (dOp (qEq true) (dOp qIx (dVar 0) (dK (.int 1))) (dOp qIx (dVar 0) (dK (.int 2))))))
 (dRaise (dMk0 c.BadBlock))
 dNext))
theorem has_check_even (T : Txt P w K mg base c) (h_check_block : Has P w K mg base 4 "check_block" s_check_block P_check_block (sp_check_block c)) (hlen : ∀ ds G Q E, (sp_check_even c) ds G Q E → ds.length = P_check_even.length)
    (hread : ∀ ds G Q E, (sp_check_even c) ds G Q E → t_check_even K c (fun x _ G' => ∃ G2, Sub G2 G' ∧ E x G2) { nx := fun _ G' => RetW Q .non G', rt := RetW Q } (dstart N_check_even ds) G) :
    Has P w K mg base (4 + 1) "check_even" s_check_even P_check_even (sp_check_even c) :=
  has_mk T.at_check_even sc_check_even hlen (t_check_even K c) (fun f cdv A outer s H E hr tk =>
 (dss_cons (ds_expr (de_call h_check_block (hr.mono (by first | decide | omega)) rfl tk (da_cons (de_var (pv 0)) da_nil)))
 (dss_one (ds_if (dt_bool (dw_or (dt_cmp (op_neAll (hr.units)) qNe_ok (de_ix ix_seq qIx_ok (de_var (pv 0)) de_int) de_str) (dw_or1 (dt_cmp (op_neAll (hr.units)) qNe_ok (de_ix ix_seq qIx_ok (de_var (pv 0)) de_int) (de_ix ix_seq qIx_ok (de_var (pv 0)) de_int)))))
 (dss_one (ds_raise rfl tk (dmk_own T.x_BadBlock rfl)))
 dss_nil)))) hread
def t_check_depth (K : PySem.W.Frag) (c : Cs) : DTS :=
 (dIfS (dNot (dTru (dCall (sp_is_number c) (dCons (dVar 0) (dCons (dK (.int 1)) (dCons (dK (.int 15)) dNil))))))
 (dRaise (dMk0 c.BadChoice))
 dNext)
theorem has_check_depth (T : Txt P w K mg base c) (h_is_number : Has P w K mg base 1 "is_number" s_is_number P_is_number (sp_is_number c)) (hlen : ∀ ds G Q E, (sp_check_depth c) ds G Q E → ds.length = P_check_depth.length)
    (hread : ∀ ds G Q E, (sp_check_depth c) ds G Q E → t_check_depth K c (fun x _ G' => ∃ G2, Sub G2 G' ∧ E x G2) { nx := fun _ G' => RetW Q .non G', rt := RetW Q } (dstart N_check_depth ds) G) :
    Has P w K mg base (1 + 1) "check_depth" s_check_depth P_check_depth (sp_check_depth c) :=
  has_mk T.at_check_depth sc_check_depth hlen (t_check_depth K c) (fun f cdv A outer s H E hr tk =>
 (dss_one (ds_if (dt_not (dt_truth (de_call h_is_number (hr.mono (by first | decide | omega)) rfl tk (da_cons (de_var (pv 0)) (da_cons de_int (da_cons (de_gint T.g_MOST_DEPTH rfl) da_nil))))))
 (dss_one (ds_raise rfl tk (dmk_own T.x_BadChoice rfl)))
 dss_nil))) hread
def lb_check_numbers_0 (K : PySem.W.Frag) (c : Cs) : DTS :=
 (dIfS (dNot (dTru (dCall (sp_is_number c) (dCons (dVar 2) (dCons (dK (.int 0)) (dCons (dVar 0) dNil))))))
 (dRaise (dMk0 c.BadChoice))
 dNext)
def t_check_numbers (K : PySem.W.Frag) (c : Cs) : DTS :=
 (dFor (dIt (dVar 1)) (gSet 2)
 (lb_check_numbers_0 K c))
theorem has_check_numbers (T : Txt P w K mg base c) (h_is_number : Has P w K mg base 1 "is_number" s_is_number P_is_number (sp_is_number c)) (hlen : ∀ ds G Q E, (sp_check_numbers c) ds G Q E → ds.length = P_check_numbers.length)
    (hread : ∀ ds G Q E, (sp_check_numbers c) ds G Q E → t_check_numbers K c (fun x _ G' => ∃ G2, Sub G2 G' ∧ E x G2) { nx := fun _ G' => RetW Q .non G', rt := RetW Q } (dstart N_check_numbers ds) G) :
    Has P w K mg base (1 + 1) "check_numbers" s_check_numbers P_check_numbers (sp_check_numbers c) :=
  has_mk T.at_check_numbers sc_check_numbers hlen (t_check_numbers K c) (fun f cdv A outer s H E hr tk =>
 (dss_one (ds_for (passes_of rfl) rfl (di_any (de_var (pv 1))) (dg_name sc_check_numbers.nd rfl (by first | exact Or.inl rfl | exact Or.inr rfl))
 (dss_one (ds_if (dt_not (dt_truth (de_call h_is_number (hr.mono (by first | decide | omega)) rfl tk (da_cons (de_var (pv 2)) (da_cons de_int (da_cons (de_var (pv 0)) da_nil))))))
 (dss_one (ds_raise rfl tk (dmk_own T.x_BadChoice rfl)))
 dss_nil))))) hread
def lb_way_on_0 (K : PySem.W.Frag) (c : Cs) : DTS :=
 (dDrop (dM "list" qAppend (dVar 3) (dCons (dCall (sp_row_at c) (dCons (dVar 0) (dCons (dOp qIx (dVar 3) (dUn qNeg (dK (.int 1)))) dNil))) dNil)))
def t_way_on (K : PySem.W.Frag) (c : Cs) : DTS :=
 (dSeq (dAsg (dLst true (dCons (dVar 1) dNil)) (gSet 3))
 (dSeq (dFor (dRng1 (dCons (dVar 2) dNil)) (gSet 4)
 (lb_way_on_0 K c))
 (dGhost (dRet (dVar 3)))))
theorem has_way_on (T : Txt P w K mg base c) (h_row_at : Has P w K mg base 2 "row_at" s_row_at P_row_at (sp_row_at c)) (hlen : ∀ ds G Q E, (sp_way_on c) ds G Q E → ds.length = P_way_on.length)
    (hread : ∀ ds G Q E, (sp_way_on c) ds G Q E → t_way_on K c (fun x _ G' => ∃ G2, Sub G2 G' ∧ E x G2) { nx := fun _ G' => RetW Q .non G', rt := RetW Q } (dstart N_way_on ds) G) :
    Has P w K mg base (2 + 1) "way_on" s_way_on P_way_on (sp_way_on c) :=
  has_mk T.at_way_on sc_way_on hlen (t_way_on K c) (fun f cdv A outer s H E hr tk =>
 (dss_cons (ds_set sc_way_on.nd (i := 3) rfl (by first | exact Or.inl rfl | exact Or.inr rfl) (de_lst (da_cons (de_var (pv 1)) da_nil)))
 (dss_cons (ds_for (passes_of rfl) rfl (di_range1 rfl T.n_range (da_cons (de_var (pv 2)) da_nil)) (dg_name sc_way_on.nd rfl (by first | exact Or.inl rfl | exact Or.inr rfl))
 (dss_one (ds_expr (de_m PySem.F.plainAttrs_list PySem.F.slot_list_append PySem.F.type_list_append mt_append qAppend_ok (de_var (pv 3)) (da_cons (de_call h_row_at (hr.mono (by first | decide | omega)) rfl tk (da_cons (de_var (pv 0)) (da_cons (de_ix ix_seq qIx_ok (de_var (pv 3)) (de_un un_neg qNeg_ok de_int)) da_nil))) da_nil)))))
 (dss_ghost (dss_one (ds_ret (de_var (pv 3)))))))) hread
def t_led (K : PySem.W.Frag) (c : Cs) : DTS :=
 (dSeq (dDrop (dCall (sp_check_even c) (dCons (dVar 0) dNil)))
 (dSeq (dIfS (dNot (dTru (dCall (sp_is_number c) (dCons (dVar 2) (dCons (dK (.int 0)) (dCons (dK (.int 15)) dNil))))))
 (dRaise (dMk0 c.BadChoice))
 dNext)
 (dRet (dOp qIx (dCall (sp_way_on c) (dCons (dVar 0) (dCons (dVar 1) (dCons (dVar 2) dNil)))) (dUn qNeg (dK (.int 1)))))))
theorem has_led (T : Txt P w K mg base c) (h_check_even : Has P w K mg base 5 "check_even" s_check_even P_check_even (sp_check_even c)) (h_is_number : Has P w K mg base 1 "is_number" s_is_number P_is_number (sp_is_number c)) (h_way_on : Has P w K mg base 3 "way_on" s_way_on P_way_on (sp_way_on c)) (hlen : ∀ ds G Q E, (sp_led c) ds G Q E → ds.length = P_led.length)
    (hread : ∀ ds G Q E, (sp_led c) ds G Q E → t_led K c (fun x _ G' => ∃ G2, Sub G2 G' ∧ E x G2) { nx := fun _ G' => RetW Q .non G', rt := RetW Q } (dstart N_led ds) G) :
    Has P w K mg base (5 + 1) "led" s_led P_led (sp_led c) :=
  has_mk T.at_led sc_led hlen (t_led K c) (fun f cdv A outer s H E hr tk =>
 (dss_cons (ds_expr (de_call h_check_even (hr.mono (by first | decide | omega)) rfl tk (da_cons (de_var (pv 0)) da_nil)))
 (dss_cons (ds_if (dt_not (dt_truth (de_call h_is_number (hr.mono (by first | decide | omega)) rfl tk (da_cons (de_var (pv 2)) (da_cons de_int (da_cons (de_gint T.g_MOST_DEPTH rfl) da_nil))))))
 (dss_one (ds_raise rfl tk (dmk_own T.x_BadChoice rfl)))
 dss_nil)
 (dss_one (ds_ret (de_ix ix_seq qIx_ok (de_call h_way_on (hr.mono (by first | decide | omega)) rfl tk (da_cons (de_var (pv 0)) (da_cons (de_var (pv 1)) (da_cons (de_var (pv 2)) da_nil)))) (de_un un_neg qNeg_ok de_int))))))) hread
def t_rises_at (K : PySem.W.Frag) (c : Cs) : DTS :=
 (dRet (dLc false [2, 3] (dEnum (dCons (dVar 0) dNil)) (gTupD 2 (gsCons (gSet 2) (gsCons (gSet 3) gsNil))) (dTest (dOp (qGt) (dOp qIx (dVar 1) (dVar 2)) (dVar 3))) (dVar 2)))
theorem has_rises_at (T : Txt P w K mg base c)  (hlen : ∀ ds G Q E, (sp_rises_at c) ds G Q E → ds.length = P_rises_at.length)
    (hread : ∀ ds G Q E, (sp_rises_at c) ds G Q E → t_rises_at K c (fun x _ G' => ∃ G2, Sub G2 G' ∧ E x G2) { nx := fun _ G' => RetW Q .non G', rt := RetW Q } (dstart N_rises_at ds) G) :
    Has P w K mg base (0 + 1) "rises_at" s_rises_at P_rises_at (sp_rises_at c) :=
  has_mk T.at_rises_at sc_rises_at hlen (t_rises_at K c) (fun f cdv A outer s H E hr tk =>
 (dss_one (ds_ret (de_lc (own := [("place", 2), ("number", 3)]) rfl sc_rises_at.nd (di_enum rfl T.n_enumerate (da_cons (de_var (pv 0)) da_nil)) (blkOk_by (own := [("place", 2), ("number", 3)]) (N := N_rises_at) (sc := defScope s_rises_at) (by decide +kernel)) (fun _ _ _ _ _ => (cg_tup rfl (cgs_cons (cg_name sc_rises_at.nd rfl (by first | exact Or.inl rfl | exact Or.inr rfl) (by decide)) (cgs_cons (cg_name sc_rises_at.nd rfl (by first | exact Or.inl rfl | exact Or.inr rfl) (by decide)) cgs_nil)))) (fun _ _ _ _ _ => (dts_one (dt_cmp (op_gt) qGt_ok (de_ix ix_seq qIx_ok (de_var (pv 1)) (de_var (pv 2))) (de_var (pv 3))))) (fun _ _ _ _ _ => (de_var (pv 2))))))) hread
def lb_is_steady_0 (K : PySem.W.Frag) (c : Cs) : DTS :=
 (dDrop (dCall (sp_check_numbers c) (dCons (dVar 0) (dCons (dVar 2) dNil))))
def lb_is_steady_1 (K : PySem.W.Frag) (c : Cs) : DTS :=
 (dSeq (dAsg (dOp (qAdd false) (dSl (qSl false) (dVar 1) dNoP (dPart (dVar 3))) (dSl (qSl false) (dVar 1) (dPart (dOp (qAdd false) (dVar 3) (dK (.int 1)))) dNoP)) (gSet 4))
 (dIfS (dNot (dTru (dN qAll (dCons (dLc false [5] (dIt (dVar 4)) (gSet 5) dYes (dOp (qGt) (dN qLen (dCons (dCall (sp_rises_at c) (dCons (dVar 2) (dCons (dVar 5) dNil))) dNil)) (dK (.int 0)))) dNil))))
 (dRet (dK (.bl false)))
 dNext))
def t_is_steady (K : PySem.W.Frag) (c : Cs) : DTS :=
 (dSeq (dDrop (dCall (sp_check_depth c) (dCons (dVar 0) dNil)))
 (dSeq (dFor (dIt (dVar 1)) (gSet 2)
 (lb_is_steady_0 K c))
 (dSeq (dFor (dEnum (dCons (dVar 1) dNil)) (gTupD 2 (gsCons (gSet 3) (gsCons (gSet 2) gsNil)))
 (lb_is_steady_1 K c))
 (dRet (dK (.bl true))))))
theorem has_is_steady (T : Txt P w K mg base c) (h_check_depth : Has P w K mg base 2 "check_depth" s_check_depth P_check_depth (sp_check_depth c)) (h_check_numbers : Has P w K mg base 2 "check_numbers" s_check_numbers P_check_numbers (sp_check_numbers c)) (h_rises_at : Has P w K mg base 1 "rises_at" s_rises_at P_rises_at (sp_rises_at c)) (hlen : ∀ ds G Q E, (sp_is_steady c) ds G Q E → ds.length = P_is_steady.length)
    (hread : ∀ ds G Q E, (sp_is_steady c) ds G Q E → t_is_steady K c (fun x _ G' => ∃ G2, Sub G2 G' ∧ E x G2) { nx := fun _ G' => RetW Q .non G', rt := RetW Q } (dstart N_is_steady ds) G) :
    Has P w K mg base (2 + 1) "is_steady" s_is_steady P_is_steady (sp_is_steady c) :=
  has_mk T.at_is_steady sc_is_steady hlen (t_is_steady K c) (fun f cdv A outer s H E hr tk =>
 (dss_cons (ds_expr (de_call h_check_depth (hr.mono (by first | decide | omega)) rfl tk (da_cons (de_var (pv 0)) da_nil)))
 (dss_cons (ds_for (passes_of rfl) rfl (di_any (de_var (pv 1))) (dg_name sc_is_steady.nd rfl (by first | exact Or.inl rfl | exact Or.inr rfl))
 (dss_one (ds_expr (de_call h_check_numbers (hr.mono (by first | decide | omega)) rfl tk (da_cons (de_var (pv 0)) (da_cons (de_var (pv 2)) da_nil))))))
 (dss_cons (ds_for (passes_of rfl) rfl (di_enum rfl T.n_enumerate (da_cons (de_var (pv 1)) da_nil)) (dg_tup rfl (dgs_cons (dg_name sc_is_steady.nd rfl (by first | exact Or.inl rfl | exact Or.inr rfl)) (dgs_cons (dg_name sc_is_steady.nd rfl (by first | exact Or.inl rfl | exact Or.inr rfl)) dgs_nil)))
 (dss_cons (ds_set sc_is_steady.nd (i := 4) rfl (by first | exact Or.inl rfl | exact Or.inr rfl) (de_op op_addAll qAdd_ok (de_slice sl_all qSl_ok (de_var (pv 1)) do_none (do_some (de_var (pv 3)))) (de_slice sl_all qSl_ok (de_var (pv 1)) (do_some (de_op op_addAll qAdd_ok (de_var (pv 3)) de_int)) do_none)))
 (dss_one (ds_if (dt_not (dt_truth (de_callB (cr_all rfl) qAll_ok rfl T.n_all PyProof.Rows.boot_all (da_cons (de_lc (own := [("other", 5)]) rfl sc_is_steady.nd (di_any (de_var (pv 4))) (blkOk_by (own := [("other", 5)]) (N := N_is_steady) (sc := defScope s_is_steady) (by decide +kernel)) (fun _ _ _ _ _ => (cg_name sc_is_steady.nd rfl (by first | exact Or.inl rfl | exact Or.inr rfl) (by decide))) (fun _ _ _ _ _ => dts_nil) (fun _ _ _ _ _ => (de_cmp (op_gt) qGt_ok (de_callB call_len qLen_ok rfl T.n_len boot_len (da_cons (de_call h_rises_at (hr.mono (by first | decide | omega)) rfl takes_blk (da_cons (de_var (pv 2)) (da_cons (de_var (pv 5)) da_nil))) da_nil)) de_int))) da_nil))))
 (dss_one (ds_ret de_bl))
 dss_nil))))
 (dss_one (ds_ret de_bl)))))) hread
def lb_level_messages_0 (K : PySem.W.Frag) (c : Cs) : DTS :=
 (dAsg (dLcc false [5, 6] [6] (dIt (dVar 3)) (gSet 5) dYes (dRng1 (dCons (dOp (qAdd false) (dVar 1) (dK (.int 1))) dNil)) (gSet 6) dYes (dOp (qAdd false) (dVar 5) (dTup (dCons (dVar 6) dNil)))) (gSet 3))
def t_level_messages (K : PySem.W.Frag) (c : Cs) : DTS :=
 (dSeq (dIfS (dNot (dTru (dCall (sp_is_number c) (dCons (dVar 0) (dCons (dK (.int 2)) (dCons (dK (.int 4)) dNil))))))
 (dRaise (dMk0 c.BadChoice))
 dNext)
 (dSeq (dDrop (dCall (sp_check_depth c) (dCons (dVar 1) dNil)))
 (dSeq (dAsg (dLst false (dCons (dTup dNil) dNil)) (gSet 3))
 (dSeq (dFor (dRng1 (dCons (dVar 0) dNil)) (gSet 4)
 (lb_level_messages_0 K c))
 (dRet (dN qTuple (dCons (dLc false [5] (dIt (dVar 3)) (gSet 5) (dTest (dOp (qEq false) (dN qSum (dCons (dVar 5) dNil)) (dVar 2))) (dVar 5)) dNil)))))))
theorem has_level_messages (T : Txt P w K mg base c) (h_is_number : Has P w K mg base 1 "is_number" s_is_number P_is_number (sp_is_number c)) (h_check_depth : Has P w K mg base 2 "check_depth" s_check_depth P_check_depth (sp_check_depth c)) (hlen : ∀ ds G Q E, (sp_level_messages c) ds G Q E → ds.length = P_level_messages.length)
    (hread : ∀ ds G Q E, (sp_level_messages c) ds G Q E → t_level_messages K c (fun x _ G' => ∃ G2, Sub G2 G' ∧ E x G2) { nx := fun _ G' => RetW Q .non G', rt := RetW Q } (dstart N_level_messages ds) G) :
    Has P w K mg base (2 + 1) "level_messages" s_level_messages P_level_messages (sp_level_messages c) :=
  has_mk T.at_level_messages sc_level_messages hlen (t_level_messages K c) (fun f cdv A outer s H E hr tk =>
 (dss_cons (ds_if (dt_not (dt_truth (de_call h_is_number (hr.mono (by first | decide | omega)) rfl tk (da_cons (de_var (pv 0)) (da_cons de_int (da_cons de_int da_nil))))))
 (dss_one (ds_raise rfl tk (dmk_own T.x_BadChoice rfl)))
 dss_nil)
 (dss_cons (ds_expr (de_call h_check_depth (hr.mono (by first | decide | omega)) rfl tk (da_cons (de_var (pv 1)) da_nil)))
 (dss_cons (ds_set sc_level_messages.nd (i := 3) rfl (by first | exact Or.inl rfl | exact Or.inr rfl) (de_lst (da_cons (de_tup da_nil) da_nil)))
 (dss_cons (ds_for (passes_of rfl) rfl (di_range1 rfl T.n_range (da_cons (de_var (pv 0)) da_nil)) (dg_name sc_level_messages.nd rfl (by first | exact Or.inl rfl | exact Or.inr rfl))
 (dss_one (ds_lcc (own := [("row", 5), ("number", 6)]) (vs1 := [6]) rfl sc_level_messages.nd (i := 3) rfl rfl (sw_true rfl rfl rfl (by decide +kernel)) (di_any (de_var (pv 3))) (blkOk_by (own := [("row", 5), ("number", 6)]) (N := N_level_messages) (sc := defScope s_level_messages) (by decide +kernel)) (by decide) (fun _ _ _ _ _ => (cg_name sc_level_messages.nd rfl (by first | exact Or.inl rfl | exact Or.inr rfl) (by decide))) (fun _ _ _ _ _ => dts_nil) (fun _ _ _ _ _ => (di_range1 rfl T.n_range (da_cons (de_op op_addAll qAdd_ok (de_var (pv 1)) de_int) da_nil))) (fun _ _ _ _ _ => (cg_name sc_level_messages.nd rfl (by first | exact Or.inl rfl | exact Or.inr rfl) (by decide))) (fun _ _ _ _ _ => dts_nil) (fun _ _ _ _ _ => (de_op op_addAll qAdd_ok (de_var (pv 5)) (de_tup (da_cons (de_var (pv 6)) da_nil)))))))
 (dss_one (ds_ret (de_callTy call_tuple_of qTuple_ok rfl T.n_tuple PyProof.Rows.boot_tuple (da_cons (de_lc (own := [("row", 5)]) rfl sc_level_messages.nd (di_any (de_var (pv 3))) (blkOk_by (own := [("row", 5)]) (N := N_level_messages) (sc := defScope s_level_messages) (by decide +kernel)) (fun _ _ _ _ _ => (cg_name sc_level_messages.nd rfl (by first | exact Or.inl rfl | exact Or.inr rfl) (by decide))) (fun _ _ _ _ _ => (dts_one (dt_cmp (op_eqAll (hr.units)) qEq_ok (de_callB (cr_sumQ rfl) qSum_ok rfl T.n_sum PyProof.Rows.boot_sum (da_cons (de_var (pv 5)) da_nil)) (de_var (pv 2))))) (fun _ _ _ _ _ => (de_var (pv 5)))) da_nil))))))))) hread
def t_signed (K : PySem.W.Frag) (c : Cs) : DTS :=
 (dSeq (dDrop (dCall (sp_check_even c) (dCons (dVar 0) dNil)))
 (dSeq (dDrop (dCall (sp_check_depth c) (dCons (dVar 1) dNil)))
 (dSeq (dDrop (dCall (sp_check_numbers c) (dCons (dVar 1) (dCons (dVar 3) dNil))))
 (dRet (dN qTuple (dCons (dLc false [4, 5] (dZip (dCons (dVar 2) (dCons (dVar 3) dNil))) (gTupD 2 (gsCons (gSet 4) (gsCons (gSet 5) gsNil))) dYes (dOp qIx (dCall (sp_way_on c) (dCons (dVar 0) (dCons (dVar 4) (dCons (dOp qSub (dVar 1) (dVar 5)) dNil)))) (dUn qNeg (dK (.int 1))))) dNil))))))
theorem has_signed (T : Txt P w K mg base c) (h_check_even : Has P w K mg base 5 "check_even" s_check_even P_check_even (sp_check_even c)) (h_check_depth : Has P w K mg base 2 "check_depth" s_check_depth P_check_depth (sp_check_depth c)) (h_check_numbers : Has P w K mg base 2 "check_numbers" s_check_numbers P_check_numbers (sp_check_numbers c)) (h_way_on : Has P w K mg base 3 "way_on" s_way_on P_way_on (sp_way_on c)) (hlen : ∀ ds G Q E, (sp_signed c) ds G Q E → ds.length = P_signed.length)
    (hread : ∀ ds G Q E, (sp_signed c) ds G Q E → t_signed K c (fun x _ G' => ∃ G2, Sub G2 G' ∧ E x G2) { nx := fun _ G' => RetW Q .non G', rt := RetW Q } (dstart N_signed ds) G) :
    Has P w K mg base (5 + 1) "signed" s_signed P_signed (sp_signed c) :=
  has_mk T.at_signed sc_signed hlen (t_signed K c) (fun f cdv A outer s H E hr tk =>
 (dss_cons (ds_expr (de_call h_check_even (hr.mono (by first | decide | omega)) rfl tk (da_cons (de_var (pv 0)) da_nil)))
 (dss_cons (ds_expr (de_call h_check_depth (hr.mono (by first | decide | omega)) rfl tk (da_cons (de_var (pv 1)) da_nil)))
 (dss_cons (ds_expr (de_call h_check_numbers (hr.mono (by first | decide | omega)) rfl tk (da_cons (de_var (pv 1)) (da_cons (de_var (pv 3)) da_nil))))
 (dss_one (ds_ret (de_callTy call_tuple_of qTuple_ok rfl T.n_tuple PyProof.Rows.boot_tuple (da_cons (de_lc (own := [("secret", 4), ("number", 5)]) rfl sc_signed.nd (di_zip rfl T.n_zip (da_cons (de_var (pv 2)) (da_cons (de_var (pv 3)) da_nil))) (blkOk_by (own := [("secret", 4), ("number", 5)]) (N := N_signed) (sc := defScope s_signed) (by decide +kernel)) (fun _ _ _ _ _ => (cg_tup rfl (cgs_cons (cg_name sc_signed.nd rfl (by first | exact Or.inl rfl | exact Or.inr rfl) (by decide)) (cgs_cons (cg_name sc_signed.nd rfl (by first | exact Or.inl rfl | exact Or.inr rfl) (by decide)) cgs_nil)))) (fun _ _ _ _ _ => dts_nil) (fun _ _ _ _ _ => (de_ix ix_seq qIx_ok (de_call h_way_on (hr.mono (by first | decide | omega)) rfl takes_blk (da_cons (de_var (pv 0)) (da_cons (de_var (pv 4)) (da_cons (de_op op_sub qSub_ok (de_var (pv 1)) (de_var (pv 5))) da_nil)))) (de_un un_neg qNeg_ok de_int)))) da_nil)))))))) hread
def t_comes_up (K : PySem.W.Frag) (c : Cs) : DTS :=
 (dSeq (dAsg (dLc false [5, 6] (dZip (dCons (dVar 3) (dCons (dVar 2) dNil))) (gTupD 2 (gsCons (gSet 5) (gsCons (gSet 6) gsNil))) dYes (dOp qIx (dCall (sp_way_on c) (dCons (dVar 0) (dCons (dVar 5) (dCons (dVar 6) dNil)))) (dUn qNeg (dK (.int 1))))) (gSet 4))
 (dRet (dAndV (dOp (qEq false) (dN qLen (dCons (dVar 3) dNil)) (dN qLen (dCons (dVar 2) dNil))) (dOp (qEq false) (dN qTuple (dCons (dVar 4) dNil)) (dVar 1)))))
theorem has_comes_up (T : Txt P w K mg base c) (h_way_on : Has P w K mg base 3 "way_on" s_way_on P_way_on (sp_way_on c)) (hlen : ∀ ds G Q E, (sp_comes_up c) ds G Q E → ds.length = P_comes_up.length)
    (hread : ∀ ds G Q E, (sp_comes_up c) ds G Q E → t_comes_up K c (fun x _ G' => ∃ G2, Sub G2 G' ∧ E x G2) { nx := fun _ G' => RetW Q .non G', rt := RetW Q } (dstart N_comes_up ds) G) :
    Has P w K mg base (3 + 1) "comes_up" s_comes_up P_comes_up (sp_comes_up c) :=
  has_mk T.at_comes_up sc_comes_up hlen (t_comes_up K c) (fun f cdv A outer s H E hr tk =>
 (dss_cons (ds_lc (own := [("string", 5), ("number", 6)]) rfl sc_comes_up.nd (i := 4) rfl rfl (sw_true rfl rfl rfl (by decide +kernel)) (di_zip rfl T.n_zip (da_cons (de_var (pv 3)) (da_cons (de_var (pv 2)) da_nil))) (blkOk_by (own := [("string", 5), ("number", 6)]) (N := N_comes_up) (sc := defScope s_comes_up) (by decide +kernel)) (fun _ _ _ _ _ => (cg_tup rfl (cgs_cons (cg_name sc_comes_up.nd rfl (by first | exact Or.inl rfl | exact Or.inr rfl) (by decide)) (cgs_cons (cg_name sc_comes_up.nd rfl (by first | exact Or.inl rfl | exact Or.inr rfl) (by decide)) cgs_nil)))) (fun _ _ _ _ _ => dts_nil) (fun _ _ _ _ _ => (de_ix ix_seq qIx_ok (de_call h_way_on (hr.mono (by first | decide | omega)) rfl takes_blk (da_cons (de_var (pv 0)) (da_cons (de_var (pv 5)) (da_cons (de_var (pv 6)) da_nil)))) (de_un un_neg qNeg_ok de_int))))
 (dss_one (ds_ret (de_and (de_cmp (op_eqAll (hr.units)) qEq_ok (de_callB call_len qLen_ok rfl T.n_len boot_len (da_cons (de_var (pv 3)) da_nil)) (de_callB call_len qLen_ok rfl T.n_len boot_len (da_cons (de_var (pv 2)) da_nil))) (de_one (de_cmp (op_eqAll (hr.units)) qEq_ok (de_callTy call_tuple_of qTuple_ok rfl T.n_tuple PyProof.Rows.boot_tuple (da_cons (de_var (pv 4)) da_nil)) (de_var (pv 1))))))))) hread
def t_is_signed (K : PySem.W.Frag) (c : Cs) : DTS :=
 (dSeq (dDrop (dCall (sp_check_even c) (dCons (dVar 0) dNil)))
 (dSeq (dDrop (dCall (sp_check_depth c) (dCons (dVar 1) dNil)))
 (dSeq (dDrop (dCall (sp_check_numbers c) (dCons (dVar 1) (dCons (dVar 3) dNil))))
 (dRet (dCall (sp_comes_up c) (dCons (dVar 0) (dCons (dVar 2) (dCons (dVar 3) (dCons (dVar 4) dNil)))))))))
theorem has_is_signed (T : Txt P w K mg base c) (h_check_even : Has P w K mg base 5 "check_even" s_check_even P_check_even (sp_check_even c)) (h_check_depth : Has P w K mg base 2 "check_depth" s_check_depth P_check_depth (sp_check_depth c)) (h_check_numbers : Has P w K mg base 2 "check_numbers" s_check_numbers P_check_numbers (sp_check_numbers c)) (h_comes_up : Has P w K mg base 4 "comes_up" s_comes_up P_comes_up (sp_comes_up c)) (hlen : ∀ ds G Q E, (sp_is_signed c) ds G Q E → ds.length = P_is_signed.length)
    (hread : ∀ ds G Q E, (sp_is_signed c) ds G Q E → t_is_signed K c (fun x _ G' => ∃ G2, Sub G2 G' ∧ E x G2) { nx := fun _ G' => RetW Q .non G', rt := RetW Q } (dstart N_is_signed ds) G) :
    Has P w K mg base (5 + 1) "is_signed" s_is_signed P_is_signed (sp_is_signed c) :=
  has_mk T.at_is_signed sc_is_signed hlen (t_is_signed K c) (fun f cdv A outer s H E hr tk =>
 (dss_cons (ds_expr (de_call h_check_even (hr.mono (by first | decide | omega)) rfl tk (da_cons (de_var (pv 0)) da_nil)))
 (dss_cons (ds_expr (de_call h_check_depth (hr.mono (by first | decide | omega)) rfl tk (da_cons (de_var (pv 1)) da_nil)))
 (dss_cons (ds_expr (de_call h_check_numbers (hr.mono (by first | decide | omega)) rfl tk (da_cons (de_var (pv 1)) (da_cons (de_var (pv 3)) da_nil))))
 (dss_one (ds_ret (de_call h_comes_up (hr.mono (by first | decide | omega)) rfl tk (da_cons (de_var (pv 0)) (da_cons (de_var (pv 2)) (da_cons (de_var (pv 3)) (da_cons (de_var (pv 4)) da_nil))))))))))) hread
def t_turned_by (K : PySem.W.Frag) (c : Cs) : DTS :=
 (dSeq (dDrop (dCall (sp_check_even c) (dCons (dVar 0) dNil)))
 (dSeq (dDrop (dCall (sp_check_depth c) (dCons (dVar 1) dNil)))
 (dSeq (dDrop (dCall (sp_check_numbers c) (dCons (dVar 1) (dCons (dVar 3) dNil))))
 (dSeq (dDrop (dCall (sp_check_numbers c) (dCons (dVar 1) (dCons (dVar 5) dNil))))
 (dSeq (dAsg (dCall (sp_rises_at c) (dCons (dVar 3) (dCons (dVar 5) dNil))) (gSet 7))
 (dSeq (dIfS (dOr (dTest (dOp (qEq false) (dN qLen (dCons (dVar 7) dNil)) (dK (.int 0)))) (dOr (dNot (dTru (dCall (sp_comes_up c) (dCons (dVar 0) (dCons (dVar 2) (dCons (dVar 3) (dCons (dVar 4) dNil))))))) (dNot (dTru (dCall (sp_comes_up c) (dCons (dVar 0) (dCons (dVar 2) (dCons (dVar 5) (dCons (dVar 6) dNil)))))))))
 (dRaise (dMk0 c.BadMessage))
 dNext)
 (dSeq (dAsg (dOp qIx (dVar 7) (dK (.int 0))) (gSet 8))
 (dSeq (dAsg (dOp qIx (dCall (sp_way_on c) (dCons (dVar 0) (dCons (dOp qIx (dVar 6) (dVar 8)) (dCons (dOp qSub (dOp qSub (dOp qIx (dVar 5) (dVar 8)) (dOp qIx (dVar 3) (dVar 8))) (dK (.int 1))) dNil)))) (dUn qNeg (dK (.int 1)))) (gSet 9))
 (dSeq (dAsg (dCall (sp_way_on c) (dCons (dVar 0) (dCons (dVar 9) (dCons (dOp (qAdd false) (dOp qIx (dVar 3) (dVar 8)) (dK (.int 1))) dNil)))) (gSet 10))
 (dSeq (dAsg (dCall (sp_way_on c) (dCons (dVar 0) (dCons (dOp qIx (dVar 4) (dVar 8)) (dCons (dOp qIx (dVar 3) (dVar 8)) dNil)))) (gSet 11))
 (dSeq (dAsg (dLc false [13, 14] (dZip (dCons (dSl (qSl false) (dVar 10) (dPart (dK (.int 1))) dNoP) (dCons (dVar 11) dNil))) (gTupD 2 (gsCons (gSet 13) (gsCons (gSet 14) gsNil))) (dTest (dOp (qEq true) (dVar 13) (dVar 14))) (dTup (dCons (dVar 13) (dCons (dVar 14) dNil)))) (gSet 12))
 (dRet (dIf (dTest (dOp (qEq false) (dN qLen (dCons (dVar 12) dNil)) (dK (.int 0)))) (dTup (dCons (dK (.str "turned")) (dCons (dVar 8) (dCons (dVar 9) dNil)))) (dTup (dCons (dK (.str "double")) (dCons (dVar 8) (dCons (dOp qIx (dVar 12) (dUn qNeg (dK (.int 1)))) dNil)))))))))))))))))
theorem has_turned_by (T : Txt P w K mg base c) (h_check_even : Has P w K mg base 5 "check_even" s_check_even P_check_even (sp_check_even c)) (h_check_depth : Has P w K mg base 2 "check_depth" s_check_depth P_check_depth (sp_check_depth c)) (h_check_numbers : Has P w K mg base 2 "check_numbers" s_check_numbers P_check_numbers (sp_check_numbers c)) (h_rises_at : Has P w K mg base 1 "rises_at" s_rises_at P_rises_at (sp_rises_at c)) (h_comes_up : Has P w K mg base 4 "comes_up" s_comes_up P_comes_up (sp_comes_up c)) (h_way_on : Has P w K mg base 3 "way_on" s_way_on P_way_on (sp_way_on c)) (hlen : ∀ ds G Q E, (sp_turned_by c) ds G Q E → ds.length = P_turned_by.length)
    (hread : ∀ ds G Q E, (sp_turned_by c) ds G Q E → t_turned_by K c (fun x _ G' => ∃ G2, Sub G2 G' ∧ E x G2) { nx := fun _ G' => RetW Q .non G', rt := RetW Q } (dstart N_turned_by ds) G) :
    Has P w K mg base (5 + 1) "turned_by" s_turned_by P_turned_by (sp_turned_by c) :=
  has_mk T.at_turned_by sc_turned_by hlen (t_turned_by K c) (fun f cdv A outer s H E hr tk =>
 (dss_cons (ds_expr (de_call h_check_even (hr.mono (by first | decide | omega)) rfl tk (da_cons (de_var (pv 0)) da_nil)))
 (dss_cons (ds_expr (de_call h_check_depth (hr.mono (by first | decide | omega)) rfl tk (da_cons (de_var (pv 1)) da_nil)))
 (dss_cons (ds_expr (de_call h_check_numbers (hr.mono (by first | decide | omega)) rfl tk (da_cons (de_var (pv 1)) (da_cons (de_var (pv 3)) da_nil))))
 (dss_cons (ds_expr (de_call h_check_numbers (hr.mono (by first | decide | omega)) rfl tk (da_cons (de_var (pv 1)) (da_cons (de_var (pv 5)) da_nil))))
 (dss_cons (ds_set sc_turned_by.nd (i := 7) rfl (by first | exact Or.inl rfl | exact Or.inr rfl) (de_call h_rises_at (hr.mono (by first | decide | omega)) rfl tk (da_cons (de_var (pv 3)) (da_cons (de_var (pv 5)) da_nil))))
 (dss_cons (ds_if (dt_bool (dw_or (dt_cmp (op_eqAll (hr.units)) qEq_ok (de_callB call_len qLen_ok rfl T.n_len boot_len (da_cons (de_var (pv 7)) da_nil)) de_int) (dw_or (dt_not (dt_truth (de_call h_comes_up (hr.mono (by first | decide | omega)) rfl tk (da_cons (de_var (pv 0)) (da_cons (de_var (pv 2)) (da_cons (de_var (pv 3)) (da_cons (de_var (pv 4)) da_nil))))))) (dw_or1 (dt_not (dt_truth (de_call h_comes_up (hr.mono (by first | decide | omega)) rfl tk (da_cons (de_var (pv 0)) (da_cons (de_var (pv 2)) (da_cons (de_var (pv 5)) (da_cons (de_var (pv 6)) da_nil)))))))))))
 (dss_one (ds_raise rfl tk (dmk_own T.x_BadMessage rfl)))
 dss_nil)
 (dss_cons (ds_set sc_turned_by.nd (i := 8) rfl (by first | exact Or.inl rfl | exact Or.inr rfl) (de_ix ix_seq qIx_ok (de_var (pv 7)) de_int))
 (dss_cons (ds_set sc_turned_by.nd (i := 9) rfl (by first | exact Or.inl rfl | exact Or.inr rfl) (de_ix ix_seq qIx_ok (de_call h_way_on (hr.mono (by first | decide | omega)) rfl tk (da_cons (de_var (pv 0)) (da_cons (de_ix ix_seq qIx_ok (de_var (pv 6)) (de_var (pv 8))) (da_cons (de_op op_sub qSub_ok (de_op op_sub qSub_ok (de_ix ix_seq qIx_ok (de_var (pv 5)) (de_var (pv 8))) (de_ix ix_seq qIx_ok (de_var (pv 3)) (de_var (pv 8)))) de_int) da_nil)))) (de_un un_neg qNeg_ok de_int)))
 (dss_cons (ds_set sc_turned_by.nd (i := 10) rfl (by first | exact Or.inl rfl | exact Or.inr rfl) (de_call h_way_on (hr.mono (by first | decide | omega)) rfl tk (da_cons (de_var (pv 0)) (da_cons (de_var (pv 9)) (da_cons (de_op op_addAll qAdd_ok (de_ix ix_seq qIx_ok (de_var (pv 3)) (de_var (pv 8))) de_int) da_nil)))))
 (dss_cons (ds_set sc_turned_by.nd (i := 11) rfl (by first | exact Or.inl rfl | exact Or.inr rfl) (de_call h_way_on (hr.mono (by first | decide | omega)) rfl tk (da_cons (de_var (pv 0)) (da_cons (de_ix ix_seq qIx_ok (de_var (pv 4)) (de_var (pv 8))) (da_cons (de_ix ix_seq qIx_ok (de_var (pv 3)) (de_var (pv 8))) da_nil)))))
 (dss_cons (ds_lc (own := [("one", 13), ("two", 14)]) rfl sc_turned_by.nd (i := 12) rfl rfl (sw_true rfl rfl rfl (by decide +kernel)) (di_zip rfl T.n_zip (da_cons (de_slice sl_all qSl_ok (de_var (pv 10)) (do_some de_int) do_none) (da_cons (de_var (pv 11)) da_nil))) (blkOk_by (own := [("one", 13), ("two", 14)]) (N := N_turned_by) (sc := defScope s_turned_by) (by decide +kernel)) (fun _ _ _ _ _ => (cg_tup rfl (cgs_cons (cg_name sc_turned_by.nd rfl (by first | exact Or.inl rfl | exact Or.inr rfl) (by decide)) (cgs_cons (cg_name sc_turned_by.nd rfl (by first | exact Or.inl rfl | exact Or.inr rfl) (by decide)) cgs_nil)))) (fun _ _ _ _ _ => (dts_one (dt_cmp (op_neAll (hr.units)) qNe_ok (de_var (pv 13)) (de_var (pv 14))))) (fun _ _ _ _ _ => (de_tup (da_cons (de_var (pv 13)) (da_cons (de_var (pv 14)) da_nil)))))
 (dss_one (ds_ret (de_if (dt_cmp (op_eqAll (hr.units)) qEq_ok (de_callB call_len qLen_ok rfl T.n_len boot_len (da_cons (de_var (pv 12)) da_nil)) de_int) (de_tup (da_cons de_str (da_cons (de_var (pv 8)) (da_cons (de_var (pv 9)) da_nil)))) (de_tup (da_cons de_str (da_cons (de_var (pv 8)) (da_cons (de_ix ix_seq qIx_ok (de_var (pv 12)) (de_un un_neg qNeg_ok de_int)) da_nil))))))))))))))))))) hread
def t_is_map (K : PySem.W.Frag) (c : Cs) : DTS :=
 (dSeq (dIfS (dOr (dNot (dTru (dN qIsi (dCons (dVar 0) (dCons (dK (.ty "tuple")) dNil))))) (dNot (dTest (dChain (qLe) (qLe) (dK (.int 1)) (dN qLen (dCons (dVar 0) dNil)) (dK (.int 64))))))
 (dRet (dK (.bl false)))
 dNext)
 (dRet (dN qAll (dCons (dLc false [1] (dIt (dVar 0)) (gSet 1) dYes (dCall (sp_is_number c) (dCons (dVar 1) (dCons (dK (.int 0)) (dCons (dOp qSub (dK (.int 64)) (dK (.int 1))) dNil))))) dNil))))
theorem has_is_map (T : Txt P w K mg base c) (h_is_number : Has P w K mg base 1 "is_number" s_is_number P_is_number (sp_is_number c)) (hlen : ∀ ds G Q E, (sp_is_map c) ds G Q E → ds.length = P_is_map.length)
    (hread : ∀ ds G Q E, (sp_is_map c) ds G Q E → t_is_map K c (fun x _ G' => ∃ G2, Sub G2 G' ∧ E x G2) { nx := fun _ G' => RetW Q .non G', rt := RetW Q } (dstart N_is_map ds) G) :
    Has P w K mg base (1 + 1) "is_map" s_is_map P_is_map (sp_is_map c) :=
  has_mk T.at_is_map sc_is_map hlen (t_is_map K c) (fun f cdv A outer s H E hr tk =>
 (dss_cons (ds_if (dt_bool (dw_or (dt_not (dt_truth (de_callB call_isi qIsi_ok rfl T.n_isinstance PyProof.Rows.boot_isinstance (da_cons (de_var (pv 0)) (da_cons (de_bty T.n_tuple PyProof.Rows.boot_tuple rfl) da_nil))))) (dw_or1 (dt_not (dt_chain (op_le) qLe_ok (op_le) qLe_ok de_int (de_callB call_len qLen_ok rfl T.n_len boot_len (da_cons (de_var (pv 0)) da_nil)) (de_gint T.g_MOST_INPUTS rfl))))))
 (dss_one (ds_ret de_bl))
 dss_nil)
 (dss_one (ds_ret (de_callB (cr_all rfl) qAll_ok rfl T.n_all PyProof.Rows.boot_all (da_cons (de_lc (own := [("one", 1)]) rfl sc_is_map.nd (di_any (de_var (pv 0))) (blkOk_by (own := [("one", 1)]) (N := N_is_map) (sc := defScope s_is_map) (by decide +kernel)) (fun _ _ _ _ _ => (cg_name sc_is_map.nd rfl (by first | exact Or.inl rfl | exact Or.inr rfl) (by decide))) (fun _ _ _ _ _ => dts_nil) (fun _ _ _ _ _ => (de_call h_is_number (hr.mono (by first | decide | omega)) rfl takes_blk (da_cons (de_var (pv 1)) (da_cons de_int (da_cons (de_op op_sub qSub_ok (de_gint T.g_MOST_INPUTS rfl) de_int) da_nil)))))) da_nil)))))) hread
def t_check_map (K : PySem.W.Frag) (c : Cs) : DTS :=
 (dIfS (dNot (dTru (dCall (sp_is_map c) (dCons (dVar 0) dNil))))
 (dRaise (dMk1 c.BadTable "value" (dCons (dVar 0) dNil)))
 dNext)
theorem has_check_map (T : Txt P w K mg base c) (h_is_map : Has P w K mg base 2 "is_map" s_is_map P_is_map (sp_is_map c)) (hlen : ∀ ds G Q E, (sp_check_map c) ds G Q E → ds.length = P_check_map.length)
    (hread : ∀ ds G Q E, (sp_check_map c) ds G Q E → t_check_map K c (fun x _ G' => ∃ G2, Sub G2 G' ∧ E x G2) { nx := fun _ G' => RetW Q .non G', rt := RetW Q } (dstart N_check_map ds) G) :
    Has P w K mg base (2 + 1) "check_map" s_check_map P_check_map (sp_check_map c) :=
  has_mk T.at_check_map sc_check_map hlen (t_check_map K c) (fun f cdv A outer s H E hr tk =>
 (dss_one (ds_if (dt_not (dt_truth (de_call h_is_map (hr.mono (by first | decide | omega)) rfl tk (da_cons (de_var (pv 0)) da_nil))))
 (dss_one (ds_raise rfl tk (dmk_fld T.f_BadTable (hr.mono (by first | decide | omega)) rfl (da_cons (de_var (pv 0)) da_nil))))
 dss_nil))) hread
def lb_first_double_0 (K : PySem.W.Frag) (c : Cs) : DTS :=
 (dIfS (dTest (dOp (qEq false) (dOp qIx (dVar 0) (dVar 1)) (dOp qIx (dVar 0) (dVar 2))))
 (dRet (dTup (dCons (dVar 1) (dCons (dVar 2) dNil))))
 dNext)
def lb_first_double_1 (K : PySem.W.Frag) (c : Cs) : DTS :=
 (dFor (dRng2 (dCons (dOp (qAdd false) (dVar 1) (dK (.int 1))) (dCons (dN qLen (dCons (dVar 0) dNil)) dNil))) (gSet 2)
 (lb_first_double_0 K c))
def t_first_double (K : PySem.W.Frag) (c : Cs) : DTS :=
 (dSeq (dDrop (dCall (sp_check_map c) (dCons (dVar 0) dNil)))
 (dSeq (dFor (dRng1 (dCons (dN qLen (dCons (dVar 0) dNil)) dNil)) (gSet 1)
 (lb_first_double_1 K c))
 (dRet (dK .non))))
theorem has_first_double (T : Txt P w K mg base c) (h_check_map : Has P w K mg base 3 "check_map" s_check_map P_check_map (sp_check_map c)) (hlen : ∀ ds G Q E, (sp_first_double c) ds G Q E → ds.length = P_first_double.length)
    (hread : ∀ ds G Q E, (sp_first_double c) ds G Q E → t_first_double K c (fun x _ G' => ∃ G2, Sub G2 G' ∧ E x G2) { nx := fun _ G' => RetW Q .non G', rt := RetW Q } (dstart N_first_double ds) G) :
    Has P w K mg base (3 + 1) "first_double" s_first_double P_first_double (sp_first_double c) :=
  has_mk T.at_first_double sc_first_double hlen (t_first_double K c) (fun f cdv A outer s H E hr tk =>
 (dss_cons (ds_expr (de_call h_check_map (hr.mono (by first | decide | omega)) rfl tk (da_cons (de_var (pv 0)) da_nil)))
 (dss_cons (ds_for (passes_of rfl) rfl (di_range1 rfl T.n_range (da_cons (de_callB call_len qLen_ok rfl T.n_len boot_len (da_cons (de_var (pv 0)) da_nil)) da_nil)) (dg_name sc_first_double.nd rfl (by first | exact Or.inl rfl | exact Or.inr rfl))
 (dss_one (ds_for (passes_of rfl) rfl (di_range2 rfl T.n_range (da_cons (de_op op_addAll qAdd_ok (de_var (pv 1)) de_int) (da_cons (de_callB call_len qLen_ok rfl T.n_len boot_len (da_cons (de_var (pv 0)) da_nil)) da_nil))) (dg_name sc_first_double.nd rfl (by first | exact Or.inl rfl | exact Or.inr rfl))
 (dss_one (ds_if (dt_cmp (op_eqAll (hr.units)) qEq_ok (de_ix ix_seq qIx_ok (de_var (pv 0)) (de_var (pv 1))) (de_ix ix_seq qIx_ok (de_var (pv 0)) (de_var (pv 2))))
 (dss_one (ds_ret (de_tup (da_cons (de_var (pv 1)) (da_cons (de_var (pv 2)) da_nil)))))
 dss_nil)))))
 (dss_one (ds_ret de_non))))) hread
def t__law_hand (K : PySem.W.Frag) (c : Cs) : DTS :=
 (dRet (dLst true (dCons (dLc true [1] (dIt (dVar 0)) (gSet 1) dYes (dOp qMod (dN qInt (dCons (dVar 1) dNil)) (dOp qPow (dK (.int 10)) (dK (.int 60))))) (dCons (dK (.int 0)) dNil))))
theorem has__law_hand (T : Txt P w K mg base c)  (hlen : ∀ ds G Q E, (sp__law_hand c) ds G Q E → ds.length = P__law_hand.length)
    (hread : ∀ ds G Q E, (sp__law_hand c) ds G Q E → t__law_hand K c (fun x _ G' => ∃ G2, Sub G2 G' ∧ E x G2) { nx := fun _ G' => RetW Q .non G', rt := RetW Q } (dstart N__law_hand ds) G) :
    Has P w K mg base (0 + 1) "_law_hand" s__law_hand P__law_hand (sp__law_hand c) :=
  has_mk T.at__law_hand sc__law_hand hlen (t__law_hand K c) (fun f cdv A outer s H E hr tk =>
 (dss_one (ds_ret (de_lst (da_cons (de_lc (own := [("cell", 1)]) rfl sc__law_hand.nd (di_any (de_var (pv 0))) (blkOk_by (own := [("cell", 1)]) (N := N__law_hand) (sc := defScope s__law_hand) (by decide +kernel)) (fun _ _ _ _ _ => (cg_name sc__law_hand.nd rfl (by first | exact Or.inl rfl | exact Or.inr rfl) (by decide))) (fun _ _ _ _ _ => dts_nil) (fun _ _ _ _ _ => (de_op op_mod qMod_ok (de_callTy call_intA qInt_ok rfl T.n_int PyProof.Rows.boot_int (da_cons (de_var (pv 1)) da_nil)) (de_op op_pow qPow_ok de_int de_int)))) (da_cons de_int da_nil)))))) hread
def t__law_take (K : PySem.W.Frag) (c : Cs) : DTS :=
 (dOpen (dOpen (dSeq (dAsg (dOp qIx (dVar 0) (dK (.int 0))) (gSet 2))
 (dSeq (dAsg (dOp qIx (dVar 0) (dK (.int 1))) (gSet 3))
 (dSeq (dAsg (dOp (qAdd false) (dVar 3) (dK (.int 1))) (gSubD dSetL (dVar 0) (dK (.int 1))))
 (dSeq (dAsg (dVar 3) (gSet 4))
 (dSeq (dIfS (dTest (dOp (qGt) (dN qLen (dCons (dVar 2) dNil)) (dK (.int 0))))
 (dSeq (dAsg (dOp qMod (dN qInt (dCons (dVar 3) dNil)) (dN qLen (dCons (dVar 2) dNil))) (gSet 5))
 (dSeq (dAsg (dOp qIx (dVar 2) (dVar 5)) (gSet 4))
 (dIfS (dTest (dOp (qGe) (dVar 4) (dOp qPow (dK (.int 10)) (dK (.int 18)))))
 (dSeq (dAsg (dOp qFdiv (dVar 4) (dK (.int 1000003))) (gSubD dSetL (dVar 2) (dVar 5)))
 (dRet (dOp qMod (dOp qMod (dN qInt (dCons (dVar 4) dNil)) (dK (.int 1000003))) (dVar 1))))
 dNext)))
 dNext)
 (dSeq (dAsg (dOp qMod (dN qInt (dCons (dOp (qAdd false) (dOp (qAdd false) (dOp (qMul false) (dVar 4) (dK (.int 48271))) (dOp (qMul false) (dVar 3) (dK (.int 69621)))) (dK (.int 11))) dNil)) (dK (.int 2147483647))) (gSet 6))
 (dSeq (dAsg (dOp qMod (dN qInt (dCons (dOp (qAdd false) (dOp qFdiv (dOp (qMul false) (dVar 6) (dVar 6)) (dK (.int 4096))) (dVar 6)) dNil)) (dK (.int 2147483629))) (gSet 6))
 (dRet (dOp qMod (dOp qFdiv (dOp qMod (dN qInt (dCons (dOp (qAdd false) (dOp qFdiv (dOp (qMul false) (dVar 6) (dVar 6)) (dK (.int 4096))) (dOp (qMul false) (dVar 3) (dK (.int 7919)))) dNil)) (dK (.int 2147483629))) (dK (.int 7))) (dVar 1))))))))))))
theorem has__law_take (T : Txt P w K mg base c)  (hlen : ∀ ds G Q E, (sp__law_take c) ds G Q E → ds.length = P__law_take.length)
    (hread : ∀ ds G Q E, (sp__law_take c) ds G Q E → t__law_take K c (fun x _ G' => ∃ G2, Sub G2 G' ∧ E x G2) { nx := fun _ G' => RetW Q .non G', rt := RetW Q } (dstart N__law_take ds) G) :
    Has P w K mg base (0 + 1) "_law_take" s__law_take P__law_take (sp__law_take c) :=
  has_mk T.at__law_take sc__law_take hlen (t__law_take K c) (fun f cdv A outer s H E hr tk =>
 (dss_open (dss_open (dss_cons (ds_set sc__law_take.nd (i := 2) rfl (by first | exact Or.inl rfl | exact Or.inr rfl) (de_ix ix_seq qIx_ok (de_var (pv 0)) de_int))
 (dss_cons (ds_set sc__law_take.nd (i := 3) rfl (by first | exact Or.inl rfl | exact Or.inr rfl) (de_ix ix_seq qIx_ok (de_var (pv 0)) de_int))
 (dss_cons (ds_asg (de_op op_addAll qAdd_ok (de_var (pv 3)) de_int) (dg_sub set_list dSetL_ok (de_var (pv 0)) de_int))
 (dss_cons (ds_set sc__law_take.nd (i := 4) rfl (by first | exact Or.inl rfl | exact Or.inr rfl) (de_var (pv 3)))
 (dss_cons (ds_if (dt_cmp (op_gt) qGt_ok (de_callB call_len qLen_ok rfl T.n_len boot_len (da_cons (de_var (pv 2)) da_nil)) de_int)
 (dss_cons (ds_set sc__law_take.nd (i := 5) rfl (by first | exact Or.inl rfl | exact Or.inr rfl) (de_op op_mod qMod_ok (de_callTy call_intA qInt_ok rfl T.n_int PyProof.Rows.boot_int (da_cons (de_var (pv 3)) da_nil)) (de_callB call_len qLen_ok rfl T.n_len boot_len (da_cons (de_var (pv 2)) da_nil))))
 (dss_cons (ds_set sc__law_take.nd (i := 4) rfl (by first | exact Or.inl rfl | exact Or.inr rfl) (de_ix ix_seq qIx_ok (de_var (pv 2)) (de_var (pv 5))))
 (dss_one (ds_if (dt_cmp (op_ge) qGe_ok (de_var (pv 4)) (de_op op_pow qPow_ok de_int de_int))
 (dss_cons (ds_asg (de_op op_fdivW qFdiv_ok (de_var (pv 4)) de_int) (dg_sub set_list dSetL_ok (de_var (pv 2)) (de_var (pv 5))))
 (dss_one (ds_ret (de_op op_mod qMod_ok (de_op op_mod qMod_ok (de_callTy call_intA qInt_ok rfl T.n_int PyProof.Rows.boot_int (da_cons (de_var (pv 4)) da_nil)) de_int) (de_var (pv 1))))))
 dss_nil))))
 dss_nil)
 (dss_cons (ds_set sc__law_take.nd (i := 6) rfl (by first | exact Or.inl rfl | exact Or.inr rfl) (de_op op_mod qMod_ok (de_callTy call_intA qInt_ok rfl T.n_int PyProof.Rows.boot_int (da_cons (de_op op_addAll qAdd_ok (de_op op_addAll qAdd_ok (de_op op_mulAll qMul_ok (de_var (pv 4)) de_int) (de_op op_mulAll qMul_ok (de_var (pv 3)) de_int)) de_int) da_nil)) de_int))
 (dss_cons (ds_set sc__law_take.nd (i := 6) rfl (by first | exact Or.inl rfl | exact Or.inr rfl) (de_op op_mod qMod_ok (de_callTy call_intA qInt_ok rfl T.n_int PyProof.Rows.boot_int (da_cons (de_op op_addAll qAdd_ok (de_op op_fdivW qFdiv_ok (de_op op_mulAll qMul_ok (de_var (pv 6)) (de_var (pv 6))) de_int) (de_var (pv 6))) da_nil)) de_int))
 (dss_one (ds_ret (de_op op_mod qMod_ok (de_op op_fdivW qFdiv_ok (de_op op_mod qMod_ok (de_callTy call_intA qInt_ok rfl T.n_int PyProof.Rows.boot_int (da_cons (de_op op_addAll qAdd_ok (de_op op_fdivW qFdiv_ok (de_op op_mulAll qMul_ok (de_var (pv 6)) (de_var (pv 6))) de_int) (de_op op_mulAll qMul_ok (de_var (pv 3)) de_int)) da_nil)) de_int) de_int) (de_var (pv 1))))))))))))))) hread
def t__law_same (K : PySem.W.Frag) (c : Cs) (spr__law_same : DSp) : DTS :=
 (dSeq (dIfS (dTru (dN qIsi (dCons (dVar 1) (dCons (dK (.ty "tuple")) dNil))))
 (dSeq (dIfS (dOr (dNot (dTru (dN qIsi (dCons (dVar 0) (dCons (dK (.ty "tuple")) dNil))))) (dTest (dOp (qEq true) (dN qLen (dCons (dVar 0) dNil)) (dN qLen (dCons (dVar 1) dNil)))))
 (dRet (dK (.bl false)))
 dNext)
 (dRet (dOp (qIn true) (dK (.bl false)) (dLc false [2] (dRng1 (dCons (dN qLen (dCons (dVar 1) dNil)) dNil)) (gSet 2) dYes (dCall (spr__law_same) (dCons (dOp qIx (dVar 0) (dVar 2)) (dCons (dOp qIx (dVar 1) (dVar 2)) dNil)))))))
 dNext)
 (dSeq (dIfS (dTest (dOp (qIsN false) (dVar 1) (dK .non)))
 (dRet (dOp (qIsN false) (dVar 0) (dK .non)))
 dNext)
 (dSeq (dIfS (dTru (dN qIsi (dCons (dVar 1) (dCons (dK (.ty "bool")) dNil))))
 (dRet (dAndV (dN qIsi (dCons (dVar 0) (dCons (dK (.ty "bool")) dNil))) (dOp (qEq false) (dVar 0) (dVar 1))))
 dNext)
 (dSeq (dIfS (dTru (dN qIsi (dCons (dVar 1) (dCons (dK (.ty "int")) dNil))))
 (dRet (dAndV (dN qIsi (dCons (dVar 0) (dCons (dK (.ty "int")) dNil))) (dAndV (dNotV (dN qIsi (dCons (dVar 0) (dCons (dK (.ty "bool")) dNil)))) (dOp (qEq false) (dVar 0) (dVar 1)))))
 dNext)
 (dRet (dAndV (dN qIsi (dCons (dVar 0) (dCons (dK (.ty "str")) dNil))) (dOp (qEq false) (dVar 0) (dVar 1))))))))
theorem has__law_same (T : Txt P w K mg base c) {k : Nat} (hk : 0 ≤ k) {spr__law_same sq : DSp} (h__law_same : Has P w K mg base k "_law_same" s__law_same P__law_same spr__law_same)  (hlen : ∀ ds G Q E, sq ds G Q E → ds.length = P__law_same.length)
    (hread : ∀ ds G Q E, sq ds G Q E → t__law_same K c spr__law_same (fun x _ G' => ∃ G2, Sub G2 G' ∧ E x G2) { nx := fun _ G' => RetW Q .non G', rt := RetW Q } (dstart N__law_same ds) G) :
    Has P w K mg base (k + 1) "_law_same" s__law_same P__law_same sq :=
  has_mk T.at__law_same sc__law_same hlen (t__law_same K c spr__law_same) (fun f cdv A outer s H E hr tk =>
 (dss_cons (ds_if (dt_truth (de_callB call_isi qIsi_ok rfl T.n_isinstance PyProof.Rows.boot_isinstance (da_cons (de_var (pv 1)) (da_cons (de_bty T.n_tuple PyProof.Rows.boot_tuple rfl) da_nil))))
 (dss_cons (ds_if (dt_bool (dw_or (dt_not (dt_truth (de_callB call_isi qIsi_ok rfl T.n_isinstance PyProof.Rows.boot_isinstance (da_cons (de_var (pv 0)) (da_cons (de_bty T.n_tuple PyProof.Rows.boot_tuple rfl) da_nil))))) (dw_or1 (dt_cmp (op_neAll (hr.units)) qNe_ok (de_callB call_len qLen_ok rfl T.n_len boot_len (da_cons (de_var (pv 0)) da_nil)) (de_callB call_len qLen_ok rfl T.n_len boot_len (da_cons (de_var (pv 1)) da_nil))))))
 (dss_one (ds_ret de_bl))
 dss_nil)
 (dss_one (ds_ret (de_cmp (op_notInAll) qInF_ok de_bl (de_lc (own := [("k", 2)]) rfl sc__law_same.nd (di_range1 rfl T.n_range (da_cons (de_callB call_len qLen_ok rfl T.n_len boot_len (da_cons (de_var (pv 1)) da_nil)) da_nil)) (blkOk_by (own := [("k", 2)]) (N := N__law_same) (sc := defScope s__law_same) (by decide +kernel)) (fun _ _ _ _ _ => (cg_name sc__law_same.nd rfl (by first | exact Or.inl rfl | exact Or.inr rfl) (by decide))) (fun _ _ _ _ _ => dts_nil) (fun _ _ _ _ _ => (de_call h__law_same (hr.mono (Nat.le_refl _)) rfl takes_blk (da_cons (de_ix ix_seq qIx_ok (de_var (pv 0)) (de_var (pv 2))) (da_cons (de_ix ix_seq qIx_ok (de_var (pv 1)) (de_var (pv 2))) da_nil)))))))))
 dss_nil)
 (dss_cons (ds_if (dt_cmp (op_isN) qIs_ok (de_var (pv 1)) de_non)
 (dss_one (ds_ret (de_cmp (op_isN) qIs_ok (de_var (pv 0)) de_non)))
 dss_nil)
 (dss_cons (ds_if (dt_truth (de_callB call_isi qIsi_ok rfl T.n_isinstance PyProof.Rows.boot_isinstance (da_cons (de_var (pv 1)) (da_cons (de_bty T.n_bool PyProof.Rows.boot_bool rfl) da_nil))))
 (dss_one (ds_ret (de_and (de_callB call_isi qIsi_ok rfl T.n_isinstance PyProof.Rows.boot_isinstance (da_cons (de_var (pv 0)) (da_cons (de_bty T.n_bool PyProof.Rows.boot_bool rfl) da_nil))) (de_one (de_cmp (op_eqAll (hr.units)) qEq_ok (de_var (pv 0)) (de_var (pv 1)))))))
 dss_nil)
 (dss_cons (ds_if (dt_truth (de_callB call_isi qIsi_ok rfl T.n_isinstance PyProof.Rows.boot_isinstance (da_cons (de_var (pv 1)) (da_cons (de_bty T.n_int PyProof.Rows.boot_int rfl) da_nil))))
 (dss_one (ds_ret (de_and (de_callB call_isi qIsi_ok rfl T.n_isinstance PyProof.Rows.boot_isinstance (da_cons (de_var (pv 0)) (da_cons (de_bty T.n_int PyProof.Rows.boot_int rfl) da_nil))) (de_and (de_not (de_callB call_isi qIsi_ok rfl T.n_isinstance PyProof.Rows.boot_isinstance (da_cons (de_var (pv 0)) (da_cons (de_bty T.n_bool PyProof.Rows.boot_bool rfl) da_nil)))) (de_one (de_cmp (op_eqAll (hr.units)) qEq_ok (de_var (pv 0)) (de_var (pv 1))))))))
 dss_nil)
 (dss_one (ds_ret (de_and (de_callB call_isi qIsi_ok rfl T.n_isinstance PyProof.Rows.boot_isinstance (da_cons (de_var (pv 0)) (da_cons (de_bty T.n_str PyProof.Rows.boot_str rfl) da_nil))) (de_one (de_cmp (op_eqAll (hr.units)) qEq_ok (de_var (pv 0)) (de_var (pv 1)))))))))))) hread
def lb__law_bits_0 (K : PySem.W.Frag) (c : Cs) : DTS :=
 (dAsg (dOp (qAdd false) (dN qStr (dCons (dOp qSub (dOp qFdiv (dVar 1) (dOp qShl (dK (.int 1)) (dVar 3))) (dOp (qMul false) (dOp qFdiv (dVar 1) (dOp qShl (dK (.int 2)) (dVar 3))) (dK (.int 2)))) dNil)) (dVar 2)) (gSet 2))
def t__law_bits (K : PySem.W.Frag) (c : Cs) : DTS :=
 (dSeq (dAsg (dK (.str "")) (gSet 2))
 (dSeq (dFor (dRng1 (dCons (dVar 0) dNil)) (gSet 3)
 (lb__law_bits_0 K c))
 (dRet (dVar 2))))
theorem has__law_bits (T : Txt P w K mg base c)  (hlen : ∀ ds G Q E, (sp__law_bits c) ds G Q E → ds.length = P__law_bits.length)
    (hread : ∀ ds G Q E, (sp__law_bits c) ds G Q E → t__law_bits K c (fun x _ G' => ∃ G2, Sub G2 G' ∧ E x G2) { nx := fun _ G' => RetW Q .non G', rt := RetW Q } (dstart N__law_bits ds) G) :
    Has P w K mg base (0 + 1) "_law_bits" s__law_bits P__law_bits (sp__law_bits c) :=
  has_mk T.at__law_bits sc__law_bits hlen (t__law_bits K c) (fun f cdv A outer s H E hr tk =>
 (dss_cons (ds_set sc__law_bits.nd (i := 2) rfl (by first | exact Or.inl rfl | exact Or.inr rfl) de_str)
 (dss_cons (ds_for (passes_of rfl) rfl (di_range1 rfl T.n_range (da_cons (de_var (pv 0)) da_nil)) (dg_name sc__law_bits.nd rfl (by first | exact Or.inl rfl | exact Or.inr rfl))
 (dss_one (ds_set sc__law_bits.nd (i := 2) rfl (by first | exact Or.inl rfl | exact Or.inr rfl) (de_op op_addAll qAdd_ok (de_callTy call_str_int qStr_ok rfl T.n_str PyProof.Rows.boot_str (da_cons (de_op op_sub qSub_ok (de_op op_fdivW qFdiv_ok (de_var (pv 1)) (de_op op_shl qShl_ok de_int (de_var (pv 3)))) (de_op op_mulAll qMul_ok (de_op op_fdivW qFdiv_ok (de_var (pv 1)) (de_op op_shl qShl_ok de_int (de_var (pv 3)))) de_int)) da_nil)) (de_var (pv 2))))))
 (dss_one (ds_ret (de_var (pv 2))))))) hread
def lb__law_led_0 (K : PySem.W.Frag) (c : Cs) : DTS :=
 (dAsg (dOp qIx (dVar 0) (dVar 3)) (gSet 3))
def t__law_led (K : PySem.W.Frag) (c : Cs) : DTS :=
 (dSeq (dAsg (dVar 1) (gSet 3))
 (dSeq (dFor (dRng1 (dCons (dVar 2) dNil)) (gSet 4)
 (lb__law_led_0 K c))
 (dRet (dVar 3))))
theorem has__law_led (T : Txt P w K mg base c)  (hlen : ∀ ds G Q E, (sp__law_led c) ds G Q E → ds.length = P__law_led.length)
    (hread : ∀ ds G Q E, (sp__law_led c) ds G Q E → t__law_led K c (fun x _ G' => ∃ G2, Sub G2 G' ∧ E x G2) { nx := fun _ G' => RetW Q .non G', rt := RetW Q } (dstart N__law_led ds) G) :
    Has P w K mg base (0 + 1) "_law_led" s__law_led P__law_led (sp__law_led c) :=
  has_mk T.at__law_led sc__law_led hlen (t__law_led K c) (fun f cdv A outer s H E hr tk =>
 (dss_cons (ds_set sc__law_led.nd (i := 3) rfl (by first | exact Or.inl rfl | exact Or.inr rfl) (de_var (pv 1)))
 (dss_cons (ds_for (passes_of rfl) rfl (di_range1 rfl T.n_range (da_cons (de_var (pv 2)) da_nil)) (dg_name sc__law_led.nd rfl (by first | exact Or.inl rfl | exact Or.inr rfl))
 (dss_one (ds_set sc__law_led.nd (i := 3) rfl (by first | exact Or.inl rfl | exact Or.inr rfl) (de_ix ix_seq qIx_ok (de_var (pv 0)) (de_var (pv 3))))))
 (dss_one (ds_ret (de_var (pv 3))))))) hread
def lb__law_right_0 (K : PySem.W.Frag) (c : Cs) : DTS :=
 (dSeq (dAsg (dLc false [7] (dRng1 (dCons (dN qLen (dCons (dVar 1) dNil)) dNil)) (gSet 7) (dTest (dOp (qEq false) (dCall (sp__law_led c) (dCons (dVar 1) (dCons (dVar 7) (dCons (dOp qIx (dVar 3) (dVar 5)) dNil)))) (dOp qIx (dVar 2) (dVar 5)))) (dVar 7)) (gSet 6))
 (dDrop (dM "list" qAppend (dVar 4) (dCons (dOp qIx (dVar 6) (dCall (sp__law_take c) (dCons (dVar 0) (dCons (dN qLen (dCons (dVar 6) dNil)) dNil)))) dNil))))
def t__law_right (K : PySem.W.Frag) (c : Cs) : DTS :=
 (dSeq (dAsg (dLst true dNil) (gSet 4))
 (dSeq (dFor (dRng1 (dCons (dN qLen (dCons (dVar 2) dNil)) dNil)) (gSet 5)
 (lb__law_right_0 K c))
 (dGhost (dRet (dVar 4)))))
theorem has__law_right (T : Txt P w K mg base c) (h__law_led : Has P w K mg base 1 "_law_led" s__law_led P__law_led (sp__law_led c)) (h__law_take : Has P w K mg base 1 "_law_take" s__law_take P__law_take (sp__law_take c)) (hlen : ∀ ds G Q E, (sp__law_right c) ds G Q E → ds.length = P__law_right.length)
    (hread : ∀ ds G Q E, (sp__law_right c) ds G Q E → t__law_right K c (fun x _ G' => ∃ G2, Sub G2 G' ∧ E x G2) { nx := fun _ G' => RetW Q .non G', rt := RetW Q } (dstart N__law_right ds) G) :
    Has P w K mg base (1 + 1) "_law_right" s__law_right P__law_right (sp__law_right c) :=
  has_mk T.at__law_right sc__law_right hlen (t__law_right K c) (fun f cdv A outer s H E hr tk =>
 (dss_cons (ds_set sc__law_right.nd (i := 4) rfl (by first | exact Or.inl rfl | exact Or.inr rfl) (de_lst da_nil))
 (dss_cons (ds_for (passes_of rfl) rfl (di_range1 rfl T.n_range (da_cons (de_callB call_len qLen_ok rfl T.n_len boot_len (da_cons (de_var (pv 2)) da_nil)) da_nil)) (dg_name sc__law_right.nd rfl (by first | exact Or.inl rfl | exact Or.inr rfl))
 (dss_cons (ds_lc (own := [("value", 7)]) rfl sc__law_right.nd (i := 6) rfl rfl (sw_true rfl rfl rfl (by decide +kernel)) (di_range1 rfl T.n_range (da_cons (de_callB call_len qLen_ok rfl T.n_len boot_len (da_cons (de_var (pv 1)) da_nil)) da_nil)) (blkOk_by (own := [("value", 7)]) (N := N__law_right) (sc := defScope s__law_right) (by decide +kernel)) (fun _ _ _ _ _ => (cg_name sc__law_right.nd rfl (by first | exact Or.inl rfl | exact Or.inr rfl) (by decide))) (fun _ _ _ _ _ => (dts_one (dt_cmp (op_eqAll (hr.units)) qEq_ok (de_call h__law_led (hr.mono (by first | decide | omega)) rfl takes_blk (da_cons (de_var (pv 1)) (da_cons (de_var (pv 7)) (da_cons (de_ix ix_seq qIx_ok (de_var (pv 3)) (de_var (pv 5))) da_nil)))) (de_ix ix_seq qIx_ok (de_var (pv 2)) (de_var (pv 5)))))) (fun _ _ _ _ _ => (de_var (pv 7))))
 (dss_one (ds_expr (de_m PySem.F.plainAttrs_list PySem.F.slot_list_append PySem.F.type_list_append mt_append qAppend_ok (de_var (pv 4)) (da_cons (de_ix ix_seq qIx_ok (de_var (pv 6)) (de_call h__law_take (hr.mono (by first | decide | omega)) rfl tk (da_cons (de_var (pv 0)) (da_cons (de_callB call_len qLen_ok rfl T.n_len boot_len (da_cons (de_var (pv 6)) da_nil)) da_nil)))) da_nil))))))
 (dss_ghost (dss_one (ds_ret (de_var (pv 4)))))))) hread
def t__law_strings (K : PySem.W.Frag) (c : Cs) : DTS :=
 (dRet (dN qTuple (dCons (dLc false [2] (dIt (dVar 1)) (gSet 2) dYes (dCall (sp__law_bits c) (dCons (dVar 0) (dCons (dVar 2) dNil)))) dNil)))
theorem has__law_strings (T : Txt P w K mg base c) (h__law_bits : Has P w K mg base 1 "_law_bits" s__law_bits P__law_bits (sp__law_bits c)) (hlen : ∀ ds G Q E, (sp__law_strings c) ds G Q E → ds.length = P__law_strings.length)
    (hread : ∀ ds G Q E, (sp__law_strings c) ds G Q E → t__law_strings K c (fun x _ G' => ∃ G2, Sub G2 G' ∧ E x G2) { nx := fun _ G' => RetW Q .non G', rt := RetW Q } (dstart N__law_strings ds) G) :
    Has P w K mg base (1 + 1) "_law_strings" s__law_strings P__law_strings (sp__law_strings c) :=
  has_mk T.at__law_strings sc__law_strings hlen (t__law_strings K c) (fun f cdv A outer s H E hr tk =>
 (dss_one (ds_ret (de_callTy call_tuple_of qTuple_ok rfl T.n_tuple PyProof.Rows.boot_tuple (da_cons (de_lc (own := [("value", 2)]) rfl sc__law_strings.nd (di_any (de_var (pv 1))) (blkOk_by (own := [("value", 2)]) (N := N__law_strings) (sc := defScope s__law_strings) (by decide +kernel)) (fun _ _ _ _ _ => (cg_name sc__law_strings.nd rfl (by first | exact Or.inl rfl | exact Or.inr rfl) (by decide))) (fun _ _ _ _ _ => dts_nil) (fun _ _ _ _ _ => (de_call h__law_bits (hr.mono (by first | decide | omega)) rfl takes_blk (da_cons (de_var (pv 0)) (da_cons (de_var (pv 2)) da_nil))))) da_nil))))) hread
def t__law_above (K : PySem.W.Frag) (c : Cs) : DTS :=
 (dRet (dLc false [2] (dRng1 (dCons (dN qLen (dCons (dVar 0) dNil)) dNil)) (gSet 2) (dTest (dOp (qGt) (dOp qIx (dVar 1) (dVar 2)) (dOp qIx (dVar 0) (dVar 2)))) (dVar 2)))
theorem has__law_above (T : Txt P w K mg base c)  (hlen : ∀ ds G Q E, (sp__law_above c) ds G Q E → ds.length = P__law_above.length)
    (hread : ∀ ds G Q E, (sp__law_above c) ds G Q E → t__law_above K c (fun x _ G' => ∃ G2, Sub G2 G' ∧ E x G2) { nx := fun _ G' => RetW Q .non G', rt := RetW Q } (dstart N__law_above ds) G) :
    Has P w K mg base (0 + 1) "_law_above" s__law_above P__law_above (sp__law_above c) :=
  has_mk T.at__law_above sc__law_above hlen (t__law_above K c) (fun f cdv A outer s H E hr tk =>
 (dss_one (ds_ret (de_lc (own := [("k", 2)]) rfl sc__law_above.nd (di_range1 rfl T.n_range (da_cons (de_callB call_len qLen_ok rfl T.n_len boot_len (da_cons (de_var (pv 0)) da_nil)) da_nil)) (blkOk_by (own := [("k", 2)]) (N := N__law_above) (sc := defScope s__law_above) (by decide +kernel)) (fun _ _ _ _ _ => (cg_name sc__law_above.nd rfl (by first | exact Or.inl rfl | exact Or.inr rfl) (by decide))) (fun _ _ _ _ _ => (dts_one (dt_cmp (op_gt) qGt_ok (de_ix ix_seq qIx_ok (de_var (pv 1)) (de_var (pv 2))) (de_ix ix_seq qIx_ok (de_var (pv 0)) (de_var (pv 2)))))) (fun _ _ _ _ _ => (de_var (pv 2))))))) hread
def lb__law_due_0 (K : PySem.W.Frag) (c : Cs) : DTS :=
 (dSeq (dIfS (dAnd (dTest (dOp (qEq true) (dVar 9) (dVar 7))) (dTest (dOp (qEq false) (dOp qIx (dVar 0) (dVar 9)) (dOp qIx (dVar 0) (dVar 7)))))
 (dAsg (dTup (dCons (dCall (sp__law_bits c) (dCons (dVar 1) (dCons (dVar 9) dNil))) (dCons (dCall (sp__law_bits c) (dCons (dVar 1) (dCons (dVar 7) dNil))) dNil))) (gSet 10))
 dNext)
 (dSeq (dAsg (dOp qIx (dVar 0) (dVar 9)) (gSet 9))
 (dAsg (dOp qIx (dVar 0) (dVar 7)) (gSet 7))))
def t__law_due (K : PySem.W.Frag) (c : Cs) : DTS :=
 (dSeq (dAsg (dOp qIx (dCall (sp__law_above c) (dCons (dVar 2) (dCons (dVar 4) dNil))) (dK (.int 0))) (gSet 6))
 (dSeq (dAsg (dOp qIx (dVar 3) (dVar 6)) (gSet 7))
 (dSeq (dAsg (dCall (sp__law_led c) (dCons (dVar 0) (dCons (dOp qIx (dVar 5) (dVar 6)) (dCons (dOp qSub (dOp qSub (dOp qIx (dVar 4) (dVar 6)) (dOp qIx (dVar 2) (dVar 6))) (dK (.int 1))) dNil)))) (gSet 8))
 (dSeq (dIfS (dTest (dOp (qEq false) (dOp qIx (dVar 0) (dVar 8)) (dVar 7)))
 (dRet (dTup (dCons (dK (.str "turned")) (dCons (dVar 6) (dCons (dCall (sp__law_bits c) (dCons (dVar 1) (dCons (dVar 8) dNil))) dNil)))))
 dNext)
 (dSeq (dAsg (dOp qIx (dVar 0) (dVar 8)) (gSet 9))
 (dSeq (dAsg (dK .non) (gSet 10))
 (dSeq (dFor (dRng1 (dCons (dOp qIx (dVar 2) (dVar 6)) dNil)) (gSet 11)
 (lb__law_due_0 K c))
 (dRet (dTup (dCons (dK (.str "double")) (dCons (dVar 6) (dCons (dVar 10) dNil))))))))))))
theorem has__law_due (T : Txt P w K mg base c) (h__law_above : Has P w K mg base 1 "_law_above" s__law_above P__law_above (sp__law_above c)) (h__law_led : Has P w K mg base 1 "_law_led" s__law_led P__law_led (sp__law_led c)) (h__law_bits : Has P w K mg base 1 "_law_bits" s__law_bits P__law_bits (sp__law_bits c)) (hlen : ∀ ds G Q E, (sp__law_due c) ds G Q E → ds.length = P__law_due.length)
    (hread : ∀ ds G Q E, (sp__law_due c) ds G Q E → t__law_due K c (fun x _ G' => ∃ G2, Sub G2 G' ∧ E x G2) { nx := fun _ G' => RetW Q .non G', rt := RetW Q } (dstart N__law_due ds) G) :
    Has P w K mg base (1 + 1) "_law_due" s__law_due P__law_due (sp__law_due c) :=
  has_mk T.at__law_due sc__law_due hlen (t__law_due K c) (fun f cdv A outer s H E hr tk =>
 (dss_cons (ds_set sc__law_due.nd (i := 6) rfl (by first | exact Or.inl rfl | exact Or.inr rfl) (de_ix ix_seq qIx_ok (de_call h__law_above (hr.mono (by first | decide | omega)) rfl tk (da_cons (de_var (pv 2)) (da_cons (de_var (pv 4)) da_nil))) de_int))
 (dss_cons (ds_set sc__law_due.nd (i := 7) rfl (by first | exact Or.inl rfl | exact Or.inr rfl) (de_ix ix_seq qIx_ok (de_var (pv 3)) (de_var (pv 6))))
 (dss_cons (ds_set sc__law_due.nd (i := 8) rfl (by first | exact Or.inl rfl | exact Or.inr rfl) (de_call h__law_led (hr.mono (by first | decide | omega)) rfl tk (da_cons (de_var (pv 0)) (da_cons (de_ix ix_seq qIx_ok (de_var (pv 5)) (de_var (pv 6))) (da_cons (de_op op_sub qSub_ok (de_op op_sub qSub_ok (de_ix ix_seq qIx_ok (de_var (pv 4)) (de_var (pv 6))) (de_ix ix_seq qIx_ok (de_var (pv 2)) (de_var (pv 6)))) de_int) da_nil)))))
 (dss_cons (ds_if (dt_cmp (op_eqAll (hr.units)) qEq_ok (de_ix ix_seq qIx_ok (de_var (pv 0)) (de_var (pv 8))) (de_var (pv 7)))
 (dss_one (ds_ret (de_tup (da_cons de_str (da_cons (de_var (pv 6)) (da_cons (de_call h__law_bits (hr.mono (by first | decide | omega)) rfl tk (da_cons (de_var (pv 1)) (da_cons (de_var (pv 8)) da_nil))) da_nil))))))
 dss_nil)
 (dss_cons (ds_set sc__law_due.nd (i := 9) rfl (by first | exact Or.inl rfl | exact Or.inr rfl) (de_ix ix_seq qIx_ok (de_var (pv 0)) (de_var (pv 8))))
 (dss_cons (ds_set sc__law_due.nd (i := 10) rfl (by first | exact Or.inl rfl | exact Or.inr rfl) de_non)
 (dss_cons (ds_for (passes_of rfl) rfl (di_range1 rfl T.n_range (da_cons (de_ix ix_seq qIx_ok (de_var (pv 2)) (de_var (pv 6))) da_nil)) (dg_name sc__law_due.nd rfl (by first | exact Or.inl rfl | exact Or.inr rfl))
 (dss_cons (ds_if (dt_bool (dw_and (dt_cmp (op_neAll (hr.units)) qNe_ok (de_var (pv 9)) (de_var (pv 7))) (dw_and1 (dt_cmp (op_eqAll (hr.units)) qEq_ok (de_ix ix_seq qIx_ok (de_var (pv 0)) (de_var (pv 9))) (de_ix ix_seq qIx_ok (de_var (pv 0)) (de_var (pv 7)))))))
 (dss_one (ds_set sc__law_due.nd (i := 10) rfl (by first | exact Or.inl rfl | exact Or.inr rfl) (de_tup (da_cons (de_call h__law_bits (hr.mono (by first | decide | omega)) rfl tk (da_cons (de_var (pv 1)) (da_cons (de_var (pv 9)) da_nil))) (da_cons (de_call h__law_bits (hr.mono (by first | decide | omega)) rfl tk (da_cons (de_var (pv 1)) (da_cons (de_var (pv 7)) da_nil))) da_nil)))))
 dss_nil)
 (dss_cons (ds_set sc__law_due.nd (i := 9) rfl (by first | exact Or.inl rfl | exact Or.inr rfl) (de_ix ix_seq qIx_ok (de_var (pv 0)) (de_var (pv 9))))
 (dss_one (ds_set sc__law_due.nd (i := 7) rfl (by first | exact Or.inl rfl | exact Or.inr rfl) (de_ix ix_seq qIx_ok (de_var (pv 0)) (de_var (pv 7))))))))
 (dss_one (ds_ret (de_tup (da_cons de_str (da_cons (de_var (pv 6)) (da_cons (de_var (pv 10)) da_nil)))))))))))))) hread
def t__law_refused (K : PySem.W.Frag) (c : Cs) : DTS :=
 (dSeq (dTry K (dDrop (dCall (sp_turned_by c) (dCons (dVar 0) (dCons (dVar 1) (dCons (dVar 2) (dCons (dVar 3) (dCons (dVar 4) (dCons (dVar 5) (dCons (dVar 6) dNil)))))))))
 [(c.BadBlock, (some 7), fun x a => (dRet (dOp (qAdd false) (dK (.str "block")) (dN qStr (dCons (dN qInt (dCons (dOrV (dIsE K a x (dCons (dVar 7) (dCons (dK (.ref c.BadChoice)) dNil))) (dIsE K a x (dCons (dVar 7) (dCons (dK (.ref c.BadMessage)) dNil)))) dNil)) dNil))))),
(c.BadChoice, (some 7), fun x a => (dRet (dOp (qAdd false) (dK (.str "choice")) (dN qStr (dCons (dN qInt (dCons (dIsE K a x (dCons (dVar 7) (dCons (dK (.ref c.BadMessage)) dNil))) dNil)) dNil))))),
(c.BadMessage, (some 7), fun x a => (dRet (dOp (qAdd false) (dK (.str "message")) (dN qStr (dCons (dN qInt (dCons (dNotV (dIsE K a x (dCons (dVar 7) (dCons (dK (.ty "ValueError")) dNil)))) dNil)) dNil)))))])
 (dRet (dK (.str ""))))
theorem has__law_refused (T : Txt P w K mg base c) (h_turned_by : Has P w K mg base 6 "turned_by" s_turned_by P_turned_by (sp_turned_by c)) (hlen : ∀ ds G Q E, (sp__law_refused K c) ds G Q E → ds.length = P__law_refused.length)
    (hread : ∀ ds G Q E, (sp__law_refused K c) ds G Q E → t__law_refused K c (fun x _ G' => ∃ G2, Sub G2 G' ∧ E x G2) { nx := fun _ G' => RetW Q .non G', rt := RetW Q } (dstart N__law_refused ds) G) :
    Has P w K mg base (6 + 1) "_law_refused" s__law_refused P__law_refused (sp__law_refused K c) :=
  has_mk T.at__law_refused sc__law_refused hlen (t__law_refused K c) (fun f cdv A outer s H E hr tk =>
 (dss_cons (ds_try rfl rfl tk (fun W pn xe tk' hp' => (dss_one (ds_expr (de_call h_turned_by (hr.mono (by first | decide | omega)) rfl tk' (da_cons (de_var (pv 0)) (da_cons (de_var (pv 1)) (da_cons (de_var (pv 2)) (da_cons (de_var (pv 3)) (da_cons (de_var (pv 4)) (da_cons (de_var (pv 5)) (da_cons (de_var (pv 6)) da_nil)))))))))))
 (.named ⟨rfl, by decide, .inl T.g_BadBlock⟩ sc__law_refused.nd (i := 7) rfl rfl (fun a oe cls d pn hz hf => su_of (X := cxOf (L2.CX P w) P w K mg base N__law_refused "_law_refused" (defScope s__law_refused) f cdv A outer s H E) (K := K) fun x => by exact (dss_one (ds_ret (de_op op_addAll qAdd_ok de_str (de_callTy (X := Cx.suite (cxOf (L2.CX P w) P w K mg base N__law_refused "_law_refused" (defScope s__law_refused) f cdv A outer s H E) a ((a, oe) :: pn)) (x := "str") call_str_int qStr_ok rfl T.n_str PyProof.Rows.boot_str (da_cons (de_callTy (X := Cx.suite (cxOf (L2.CX P w) P w K mg base N__law_refused "_law_refused" (defScope s__law_refused) f cdv A outer s H E) a ((a, oe) :: pn)) (x := "int") call_intA qInt_ok rfl T.n_int PyProof.Rows.boot_int (da_cons (de_or (de_isE (X := cxOf (L2.CX P w) P w K mg base N__law_refused "_law_refused" (defScope s__law_refused) f cdv A outer s H E) (a := a) (oe := oe) (pn := pn) hz hf T.n_isinstance rfl (da_cons (de_var (pv 7)) (da_cons (de_gref (X := Cx.suite (cxOf (L2.CX P w) P w K mg base N__law_refused "_law_refused" (defScope s__law_refused) f cdv A outer s H E) a ((a, oe) :: pn)) T.g_BadChoice rfl) da_nil))) (de_one (de_isE (X := cxOf (L2.CX P w) P w K mg base N__law_refused "_law_refused" (defScope s__law_refused) f cdv A outer s H E) (a := a) (oe := oe) (pn := pn) hz hf T.n_isinstance rfl (da_cons (de_var (pv 7)) (da_cons (de_gref (X := Cx.suite (cxOf (L2.CX P w) P w K mg base N__law_refused "_law_refused" (defScope s__law_refused) f cdv A outer s H E) a ((a, oe) :: pn)) T.g_BadMessage rfl) da_nil))))) da_nil)) da_nil))))))
 (.named ⟨rfl, by decide, .inl T.g_BadChoice⟩ sc__law_refused.nd (i := 7) rfl rfl (fun a oe cls d pn hz hf => su_of (X := cxOf (L2.CX P w) P w K mg base N__law_refused "_law_refused" (defScope s__law_refused) f cdv A outer s H E) (K := K) fun x => by exact (dss_one (ds_ret (de_op op_addAll qAdd_ok de_str (de_callTy (X := Cx.suite (cxOf (L2.CX P w) P w K mg base N__law_refused "_law_refused" (defScope s__law_refused) f cdv A outer s H E) a ((a, oe) :: pn)) (x := "str") call_str_int qStr_ok rfl T.n_str PyProof.Rows.boot_str (da_cons (de_callTy (X := Cx.suite (cxOf (L2.CX P w) P w K mg base N__law_refused "_law_refused" (defScope s__law_refused) f cdv A outer s H E) a ((a, oe) :: pn)) (x := "int") call_intA qInt_ok rfl T.n_int PyProof.Rows.boot_int (da_cons (de_isE (X := cxOf (L2.CX P w) P w K mg base N__law_refused "_law_refused" (defScope s__law_refused) f cdv A outer s H E) (a := a) (oe := oe) (pn := pn) hz hf T.n_isinstance rfl (da_cons (de_var (pv 7)) (da_cons (de_gref (X := Cx.suite (cxOf (L2.CX P w) P w K mg base N__law_refused "_law_refused" (defScope s__law_refused) f cdv A outer s H E) a ((a, oe) :: pn)) T.g_BadMessage rfl) da_nil))) da_nil)) da_nil))))))
 (.named ⟨rfl, by decide, .inl T.g_BadMessage⟩ sc__law_refused.nd (i := 7) rfl rfl (fun a oe cls d pn hz hf => su_of (X := cxOf (L2.CX P w) P w K mg base N__law_refused "_law_refused" (defScope s__law_refused) f cdv A outer s H E) (K := K) fun x => by exact (dss_one (ds_ret (de_op op_addAll qAdd_ok de_str (de_callTy (X := Cx.suite (cxOf (L2.CX P w) P w K mg base N__law_refused "_law_refused" (defScope s__law_refused) f cdv A outer s H E) a ((a, oe) :: pn)) (x := "str") call_str_int qStr_ok rfl T.n_str PyProof.Rows.boot_str (da_cons (de_callTy (X := Cx.suite (cxOf (L2.CX P w) P w K mg base N__law_refused "_law_refused" (defScope s__law_refused) f cdv A outer s H E) a ((a, oe) :: pn)) (x := "int") call_intA qInt_ok rfl T.n_int PyProof.Rows.boot_int (da_cons (de_not (de_isE (X := cxOf (L2.CX P w) P w K mg base N__law_refused "_law_refused" (defScope s__law_refused) f cdv A outer s H E) (a := a) (oe := oe) (pn := pn) hz hf T.n_isinstance rfl (da_cons (de_var (pv 7)) (da_cons (de_bty (X := Cx.suite (cxOf (L2.CX P w) P w K mg base N__law_refused "_law_refused" (defScope s__law_refused) f cdv A outer s H E) a ((a, oe) :: pn)) T.n_ValueError L2.boot_ValueError rfl) da_nil)))) da_nil)) da_nil))))))
 .nil))))
 (dss_one (ds_ret de_str)))) hread
def lb__law_messages_0 (K : PySem.W.Frag) (c : Cs) : DTS :=
 (dIfS (dAnd (dTest (dOp (qEq true) (dVar 7) (dVar 6))) (dTest (dOp (qGt) (dCall (sp__law_take c) (dCons (dVar 0) (dCons (dK (.int 3)) dNil))) (dK (.int 0)))))
 (dAsg (dCall (sp__law_take c) (dCons (dVar 0) (dCons (dOp (qAdd false) (dVar 2) (dK (.int 1))) dNil))) (gSubD dSetL (dVar 5) (dVar 7)))
 dNext)
def t__law_messages (K : PySem.W.Frag) (c : Cs) : DTS :=
 (dSeq (dAsg (dLc true [4] (dRng1 (dCons (dVar 1) dNil)) (gSet 4) dYes (dCall (sp__law_take c) (dCons (dVar 0) (dCons (dOp (qAdd false) (dVar 2) (dK (.int 1))) dNil)))) (gSet 3))
 (dSeq (dAsg (dN (qList true) (dCons (dVar 3) dNil)) (gSet 5))
 (dSeq (dAsg (dCall (sp__law_take c) (dCons (dVar 0) (dCons (dVar 1) dNil))) (gSet 6))
 (dSeq (dIfS (dTest (dOp (qEq false) (dOp qIx (dVar 3) (dVar 6)) (dVar 2)))
 (dAsg (dCall (sp__law_take c) (dCons (dVar 0) (dCons (dVar 2) dNil))) (gSubD dSetL (dVar 3) (dVar 6)))
 dNext)
 (dGhost (dSeq (dAsg (dOp (qAdd false) (dOp (qAdd false) (dOp qIx (dVar 3) (dVar 6)) (dK (.int 1))) (dCall (sp__law_take c) (dCons (dVar 0) (dCons (dOp qSub (dVar 2) (dOp qIx (dVar 3) (dVar 6))) dNil)))) (gSubD dSetL (dVar 5) (dVar 6)))
 (dSeq (dFor (dRng1 (dCons (dVar 1) dNil)) (gSet 7)
 (lb__law_messages_0 K c))
 (dGhost (dRet (dTup (dCons (dVar 3) (dCons (dVar 5) dNil))))))))))))
theorem has__law_messages (T : Txt P w K mg base c) (h__law_take : Has P w K mg base 1 "_law_take" s__law_take P__law_take (sp__law_take c)) (hlen : ∀ ds G Q E, (sp__law_messages c) ds G Q E → ds.length = P__law_messages.length)
    (hread : ∀ ds G Q E, (sp__law_messages c) ds G Q E → t__law_messages K c (fun x _ G' => ∃ G2, Sub G2 G' ∧ E x G2) { nx := fun _ G' => RetW Q .non G', rt := RetW Q } (dstart N__law_messages ds) G) :
    Has P w K mg base (1 + 1) "_law_messages" s__law_messages P__law_messages (sp__law_messages c) :=
  has_mk T.at__law_messages sc__law_messages hlen (t__law_messages K c) (fun f cdv A outer s H E hr tk =>
 (dss_cons (ds_lc (own := [("turn", 4)]) rfl sc__law_messages.nd (i := 3) rfl rfl (sw_true rfl rfl rfl (by decide +kernel)) (di_range1 rfl T.n_range (da_cons (de_var (pv 1)) da_nil)) (blkOk_by (own := [("turn", 4)]) (N := N__law_messages) (sc := defScope s__law_messages) (by decide +kernel)) (fun _ _ _ _ _ => (cg_name sc__law_messages.nd rfl (by first | exact Or.inl rfl | exact Or.inr rfl) (by decide))) (fun _ _ _ _ _ => dts_nil) (fun _ _ _ _ _ => (de_call h__law_take (hr.mono (by first | decide | omega)) rfl takes_blk (da_cons (de_var (pv 0)) (da_cons (de_op op_addAll qAdd_ok (de_var (pv 2)) de_int) da_nil)))))
 (dss_cons (ds_set sc__law_messages.nd (i := 5) rfl (by first | exact Or.inl rfl | exact Or.inr rfl) (de_callTy call_list_of qList_ok rfl T.n_list PyProof.Rows.boot_list (da_cons (de_var (pv 3)) da_nil)))
 (dss_cons (ds_set sc__law_messages.nd (i := 6) rfl (by first | exact Or.inl rfl | exact Or.inr rfl) (de_call h__law_take (hr.mono (by first | decide | omega)) rfl tk (da_cons (de_var (pv 0)) (da_cons (de_var (pv 1)) da_nil))))
 (dss_cons (ds_if (dt_cmp (op_eqAll (hr.units)) qEq_ok (de_ix ix_seq qIx_ok (de_var (pv 3)) (de_var (pv 6))) (de_var (pv 2)))
 (dss_one (ds_asg (de_call h__law_take (hr.mono (by first | decide | omega)) rfl tk (da_cons (de_var (pv 0)) (da_cons (de_var (pv 2)) da_nil))) (dg_sub set_list dSetL_ok (de_var (pv 3)) (de_var (pv 6)))))
 dss_nil)
 (dss_ghost (dss_cons (ds_asg (de_op op_addAll qAdd_ok (de_op op_addAll qAdd_ok (de_ix ix_seq qIx_ok (de_var (pv 3)) (de_var (pv 6))) de_int) (de_call h__law_take (hr.mono (by first | decide | omega)) rfl tk (da_cons (de_var (pv 0)) (da_cons (de_op op_sub qSub_ok (de_var (pv 2)) (de_ix ix_seq qIx_ok (de_var (pv 3)) (de_var (pv 6)))) da_nil)))) (dg_sub set_list dSetL_ok (de_var (pv 5)) (de_var (pv 6))))
 (dss_cons (ds_for (passes_of rfl) rfl (di_range1 rfl T.n_range (da_cons (de_var (pv 1)) da_nil)) (dg_name sc__law_messages.nd rfl (by first | exact Or.inl rfl | exact Or.inr rfl))
 (dss_one (ds_if (dt_bool (dw_and (dt_cmp (op_neAll (hr.units)) qNe_ok (de_var (pv 7)) (de_var (pv 6))) (dw_and1 (dt_cmp (op_gt) qGt_ok (de_call h__law_take (hr.mono (by first | decide | omega)) rfl tk (da_cons (de_var (pv 0)) (da_cons de_int da_nil))) de_int))))
 (dss_one (ds_asg (de_call h__law_take (hr.mono (by first | decide | omega)) rfl tk (da_cons (de_var (pv 0)) (da_cons (de_op op_addAll qAdd_ok (de_var (pv 2)) de_int) da_nil))) (dg_sub set_list dSetL_ok (de_var (pv 5)) (de_var (pv 7)))))
 dss_nil)))
 (dss_ghost (dss_one (ds_ret (de_tup (da_cons (de_var (pv 3)) (da_cons (de_var (pv 5)) da_nil)))))))))))))) hread
def t__law_bent (K : PySem.W.Frag) (c : Cs) : DTS :=
 (dSeq (dAsg (dN (qList true) (dCons (dVar 2) dNil)) (gSet 5))
 (dSeq (dAsg (dCall (sp__law_take c) (dCons (dVar 0) (dCons (dN qLen (dCons (dVar 2) dNil)) dNil))) (gSet 6))
 (dSeq (dAsg (dLc false [8] (dRng1 (dCons (dN qLen (dCons (dVar 1) dNil)) dNil)) (gSet 8) (dTest (dOp (qEq true) (dCall (sp__law_led c) (dCons (dVar 1) (dCons (dVar 8) (dCons (dOp qIx (dVar 4) (dVar 6)) dNil)))) (dOp qIx (dVar 3) (dVar 6)))) (dVar 8)) (gSet 7))
 (dSeq (dIfS (dTest (dOp (qEq false) (dN qLen (dCons (dVar 7) dNil)) (dK (.int 0))))
 (dRet (dK .non))
 dNext)
 (dSeq (dAsg (dOp qIx (dVar 7) (dCall (sp__law_take c) (dCons (dVar 0) (dCons (dN qLen (dCons (dVar 7) dNil)) dNil)))) (gSubD dSetL (dVar 5) (dVar 6)))
 (dGhost (dRet (dVar 5))))))))
theorem has__law_bent (T : Txt P w K mg base c) (h__law_take : Has P w K mg base 1 "_law_take" s__law_take P__law_take (sp__law_take c)) (h__law_led : Has P w K mg base 1 "_law_led" s__law_led P__law_led (sp__law_led c)) (hlen : ∀ ds G Q E, (sp__law_bent c) ds G Q E → ds.length = P__law_bent.length)
    (hread : ∀ ds G Q E, (sp__law_bent c) ds G Q E → t__law_bent K c (fun x _ G' => ∃ G2, Sub G2 G' ∧ E x G2) { nx := fun _ G' => RetW Q .non G', rt := RetW Q } (dstart N__law_bent ds) G) :
    Has P w K mg base (1 + 1) "_law_bent" s__law_bent P__law_bent (sp__law_bent c) :=
  has_mk T.at__law_bent sc__law_bent hlen (t__law_bent K c) (fun f cdv A outer s H E hr tk =>
 (dss_cons (ds_set sc__law_bent.nd (i := 5) rfl (by first | exact Or.inl rfl | exact Or.inr rfl) (de_callTy call_list_of qList_ok rfl T.n_list PyProof.Rows.boot_list (da_cons (de_var (pv 2)) da_nil)))
 (dss_cons (ds_set sc__law_bent.nd (i := 6) rfl (by first | exact Or.inl rfl | exact Or.inr rfl) (de_call h__law_take (hr.mono (by first | decide | omega)) rfl tk (da_cons (de_var (pv 0)) (da_cons (de_callB call_len qLen_ok rfl T.n_len boot_len (da_cons (de_var (pv 2)) da_nil)) da_nil))))
 (dss_cons (ds_lc (own := [("value", 8)]) rfl sc__law_bent.nd (i := 7) rfl rfl (sw_true rfl rfl rfl (by decide +kernel)) (di_range1 rfl T.n_range (da_cons (de_callB call_len qLen_ok rfl T.n_len boot_len (da_cons (de_var (pv 1)) da_nil)) da_nil)) (blkOk_by (own := [("value", 8)]) (N := N__law_bent) (sc := defScope s__law_bent) (by decide +kernel)) (fun _ _ _ _ _ => (cg_name sc__law_bent.nd rfl (by first | exact Or.inl rfl | exact Or.inr rfl) (by decide))) (fun _ _ _ _ _ => (dts_one (dt_cmp (op_neAll (hr.units)) qNe_ok (de_call h__law_led (hr.mono (by first | decide | omega)) rfl takes_blk (da_cons (de_var (pv 1)) (da_cons (de_var (pv 8)) (da_cons (de_ix ix_seq qIx_ok (de_var (pv 4)) (de_var (pv 6))) da_nil)))) (de_ix ix_seq qIx_ok (de_var (pv 3)) (de_var (pv 6)))))) (fun _ _ _ _ _ => (de_var (pv 8))))
 (dss_cons (ds_if (dt_cmp (op_eqAll (hr.units)) qEq_ok (de_callB call_len qLen_ok rfl T.n_len boot_len (da_cons (de_var (pv 7)) da_nil)) de_int)
 (dss_one (ds_ret de_non))
 dss_nil)
 (dss_cons (ds_asg (de_ix ix_seq qIx_ok (de_var (pv 7)) (de_call h__law_take (hr.mono (by first | decide | omega)) rfl tk (da_cons (de_var (pv 0)) (da_cons (de_callB call_len qLen_ok rfl T.n_len boot_len (da_cons (de_var (pv 7)) da_nil)) da_nil)))) (dg_sub set_list dSetL_ok (de_var (pv 5)) (de_var (pv 6))))
 (dss_ghost (dss_one (ds_ret (de_var (pv 5))))))))))) hread
def t__law_wrong (K : PySem.W.Frag) (c : Cs) : DTS :=
 (dSeq (dAsg (dCall (sp__law_strings c) (dCons (dVar 4) (dCons (dVar 5) dNil))) (gSet 10))
 (dSeq (dAsg (dCall (sp__law_strings c) (dCons (dVar 4) (dCons (dVar 7) dNil))) (gSet 11))
 (dSeq (dAsg (dCall (sp__law_strings c) (dCons (dVar 4) (dCons (dVar 9) dNil))) (gSet 12))
 (dSeq (dAsg (dCall (sp__law_bent c) (dCons (dVar 0) (dCons (dVar 2) (dCons (dVar 9) (dCons (dVar 5) (dCons (dVar 8) dNil)))))) (gSet 13))
 (dSeq (dIfS (dTest (dOp (qIsN true) (dVar 13) (dK .non)))
 (dIfS (dTest (dOp (qEq true) (dCall (sp__law_refused K c) (dCons (dVar 1) (dCons (dVar 3) (dCons (dVar 10) (dCons (dN qTuple (dCons (dVar 6) dNil)) (dCons (dVar 11) (dCons (dN qTuple (dCons (dVar 8) dNil)) (dCons (dCall (sp__law_strings c) (dCons (dVar 4) (dCons (dVar 13) dNil))) dNil)))))))) (dK (.str "message0"))))
 (dRet (dK (.bl false)))
 dNext)
 dNext)
 (dSeq (dAsg (dCall (sp__law_bent c) (dCons (dVar 0) (dCons (dVar 2) (dCons (dVar 7) (dCons (dVar 5) (dCons (dVar 6) dNil)))))) (gSet 13))
 (dSeq (dIfS (dTest (dOp (qIsN true) (dVar 13) (dK .non)))
 (dIfS (dTest (dOp (qEq true) (dCall (sp__law_refused K c) (dCons (dVar 1) (dCons (dVar 3) (dCons (dVar 10) (dCons (dN qTuple (dCons (dVar 6) dNil)) (dCons (dCall (sp__law_strings c) (dCons (dVar 4) (dCons (dVar 13) dNil))) (dCons (dN qTuple (dCons (dVar 8) dNil)) (dCons (dVar 12) dNil)))))))) (dK (.str "message0"))))
 (dRet (dK (.bl false)))
 dNext)
 dNext)
 (dSeq (dAsg (dLc false [15] (dRng1 (dCons (dN qLen (dCons (dVar 6) dNil)) dNil)) (gSet 15) dYes (dN qMin2 (dCons (dOp qIx (dVar 6) (dVar 15)) (dCons (dOp qIx (dVar 8) (dVar 15)) dNil)))) (gSet 14))
 (dSeq (dAsg (dCall (sp__law_strings c) (dCons (dVar 4) (dCons (dCall (sp__law_right c) (dCons (dVar 0) (dCons (dVar 2) (dCons (dVar 5) (dCons (dVar 14) dNil))))) dNil))) (gSet 16))
 (dSeq (dIfS (dTest (dOp (qEq true) (dCall (sp__law_refused K c) (dCons (dVar 1) (dCons (dVar 3) (dCons (dVar 10) (dCons (dN qTuple (dCons (dVar 6) dNil)) (dCons (dVar 11) (dCons (dN qTuple (dCons (dVar 14) dNil)) (dCons (dVar 16) dNil)))))))) (dK (.str "message0"))))
 (dRet (dK (.bl false)))
 dNext)
 (dSeq (dAsg (dN (qList true) (dCons (dVar 6) dNil)) (gSet 17))
 (dSeq (dAsg (dOp qIx (dLst false (dCons (dUn qNeg (dK (.int 1))) (dCons (dOp (qAdd false) (dVar 3) (dK (.int 1))) dNil))) (dCall (sp__law_take c) (dCons (dVar 0) (dCons (dK (.int 2)) dNil)))) (gSubD dSetL (dVar 17) (dCall (sp__law_take c) (dCons (dVar 0) (dCons (dN qLen (dCons (dVar 17) dNil)) dNil)))))
 (dGhost (dSeq (dIfS (dTest (dOp (qEq true) (dCall (sp__law_refused K c) (dCons (dVar 1) (dCons (dVar 3) (dCons (dVar 10) (dCons (dN qTuple (dCons (dVar 17) dNil)) (dCons (dVar 12) (dCons (dN qTuple (dCons (dVar 14) dNil)) (dCons (dVar 16) dNil)))))))) (dK (.str "choice0"))))
 (dRet (dK (.bl false)))
 dNext)
 (dSeq (dIfS (dTest (dOp (qEq true) (dCall (sp__law_refused K c) (dCons (dVar 1) (dCons (dVar 3) (dCons (dVar 10) (dCons (dN qTuple (dCons (dVar 6) dNil)) (dCons (dVar 11) (dCons (dN qTuple (dCons (dVar 17) dNil)) (dCons (dVar 12) dNil)))))))) (dK (.str "choice0"))))
 (dRet (dK (.bl false)))
 dNext)
 (dSeq (dAsg (dTup (dCons (dK (.str "generator")) (dCons (dVar 4) (dCons (dOp (qAdd false) (dVar 4) (dK (.int 1))) (dCons (dN qTuple (dCons (dLc false [19] (dIt (dOp qIx (dVar 1) (dK (.int 3)))) (gSet 19) dYes (dOp (qAdd false) (dVar 19) (dK (.str "0")))) dNil)) dNil))))) (gSet 18))
 (dSeq (dIfS (dTest (dOp (qEq true) (dCall (sp__law_refused K c) (dCons (dVar 18) (dCons (dVar 3) (dCons (dVar 10) (dCons (dN qTuple (dCons (dVar 6) dNil)) (dCons (dVar 11) (dCons (dN qTuple (dCons (dVar 8) dNil)) (dCons (dVar 12) dNil)))))))) (dK (.str "block0"))))
 (dRet (dK (.bl false)))
 dNext)
 (dSeq (dIfS (dTest (dOp (qEq true) (dCall (sp__law_refused K c) (dCons (dTup (dCons (dK (.str "generator")) (dCons (dVar 4) (dCons (dVar 4) (dCons (dSl (qSl false) (dOp qIx (dVar 1) (dK (.int 3))) (dPart (dK (.int 1))) dNoP) dNil))))) (dCons (dK (.int 16)) (dCons (dVar 10) (dCons (dN qTuple (dCons (dVar 6) dNil)) (dCons (dVar 11) (dCons (dN qTuple (dCons (dVar 14) dNil)) (dCons (dVar 16) dNil)))))))) (dK (.str "block0"))))
 (dRet (dK (.bl false)))
 dNext)
 (dRet (dOp (qEq false) (dCall (sp__law_refused K c) (dCons (dVar 1) (dCons (dOp qIx (dLst false (dCons (dK (.int 0)) (dCons (dK (.int 16)) dNil))) (dCall (sp__law_take c) (dCons (dVar 0) (dCons (dK (.int 2)) dNil)))) (dCons (dVar 10) (dCons (dN qTuple (dCons (dVar 6) dNil)) (dCons (dVar 11) (dCons (dN qTuple (dCons (dVar 8) dNil)) (dCons (dVar 12) dNil)))))))) (dK (.str "choice0"))))))))))))))))))))))
theorem has__law_wrong (T : Txt P w K mg base c) (h__law_strings : Has P w K mg base 2 "_law_strings" s__law_strings P__law_strings (sp__law_strings c)) (h__law_bent : Has P w K mg base 2 "_law_bent" s__law_bent P__law_bent (sp__law_bent c)) (h__law_refused : Has P w K mg base 7 "_law_refused" s__law_refused P__law_refused (sp__law_refused K c)) (h__law_right : Has P w K mg base 2 "_law_right" s__law_right P__law_right (sp__law_right c)) (h__law_take : Has P w K mg base 1 "_law_take" s__law_take P__law_take (sp__law_take c)) (hlen : ∀ ds G Q E, (sp__law_wrong K c) ds G Q E → ds.length = P__law_wrong.length)
    (hread : ∀ ds G Q E, (sp__law_wrong K c) ds G Q E → t__law_wrong K c (fun x _ G' => ∃ G2, Sub G2 G' ∧ E x G2) { nx := fun _ G' => RetW Q .non G', rt := RetW Q } (dstart N__law_wrong ds) G) :
    Has P w K mg base (7 + 1) "_law_wrong" s__law_wrong P__law_wrong (sp__law_wrong K c) :=
  has_mk T.at__law_wrong sc__law_wrong hlen (t__law_wrong K c) (fun f cdv A outer s H E hr tk =>
 (dss_cons (ds_set sc__law_wrong.nd (i := 10) rfl (by first | exact Or.inl rfl | exact Or.inr rfl) (de_call h__law_strings (hr.mono (by first | decide | omega)) rfl tk (da_cons (de_var (pv 4)) (da_cons (de_var (pv 5)) da_nil))))
 (dss_cons (ds_set sc__law_wrong.nd (i := 11) rfl (by first | exact Or.inl rfl | exact Or.inr rfl) (de_call h__law_strings (hr.mono (by first | decide | omega)) rfl tk (da_cons (de_var (pv 4)) (da_cons (de_var (pv 7)) da_nil))))
 (dss_cons (ds_set sc__law_wrong.nd (i := 12) rfl (by first | exact Or.inl rfl | exact Or.inr rfl) (de_call h__law_strings (hr.mono (by first | decide | omega)) rfl tk (da_cons (de_var (pv 4)) (da_cons (de_var (pv 9)) da_nil))))
 (dss_cons (ds_set sc__law_wrong.nd (i := 13) rfl (by first | exact Or.inl rfl | exact Or.inr rfl) (de_call h__law_bent (hr.mono (by first | decide | omega)) rfl tk (da_cons (de_var (pv 0)) (da_cons (de_var (pv 2)) (da_cons (de_var (pv 9)) (da_cons (de_var (pv 5)) (da_cons (de_var (pv 8)) da_nil)))))))
 (dss_cons (ds_if (dt_cmp (op_notN) qIsNot_ok (de_var (pv 13)) de_non)
 (dss_one (ds_if (dt_cmp (op_neAll (hr.units)) qNe_ok (de_call h__law_refused (hr.mono (by first | decide | omega)) rfl tk (da_cons (de_var (pv 1)) (da_cons (de_var (pv 3)) (da_cons (de_var (pv 10)) (da_cons (de_callTy call_tuple_of qTuple_ok rfl T.n_tuple PyProof.Rows.boot_tuple (da_cons (de_var (pv 6)) da_nil)) (da_cons (de_var (pv 11)) (da_cons (de_callTy call_tuple_of qTuple_ok rfl T.n_tuple PyProof.Rows.boot_tuple (da_cons (de_var (pv 8)) da_nil)) (da_cons (de_call h__law_strings (hr.mono (by first | decide | omega)) rfl tk (da_cons (de_var (pv 4)) (da_cons (de_var (pv 13)) da_nil))) da_nil)))))))) de_str)
 (dss_one (ds_ret de_bl))
 dss_nil))
 dss_nil)
 (dss_cons (ds_set sc__law_wrong.nd (i := 13) rfl (by first | exact Or.inl rfl | exact Or.inr rfl) (de_call h__law_bent (hr.mono (by first | decide | omega)) rfl tk (da_cons (de_var (pv 0)) (da_cons (de_var (pv 2)) (da_cons (de_var (pv 7)) (da_cons (de_var (pv 5)) (da_cons (de_var (pv 6)) da_nil)))))))
 (dss_cons (ds_if (dt_cmp (op_notN) qIsNot_ok (de_var (pv 13)) de_non)
 (dss_one (ds_if (dt_cmp (op_neAll (hr.units)) qNe_ok (de_call h__law_refused (hr.mono (by first | decide | omega)) rfl tk (da_cons (de_var (pv 1)) (da_cons (de_var (pv 3)) (da_cons (de_var (pv 10)) (da_cons (de_callTy call_tuple_of qTuple_ok rfl T.n_tuple PyProof.Rows.boot_tuple (da_cons (de_var (pv 6)) da_nil)) (da_cons (de_call h__law_strings (hr.mono (by first | decide | omega)) rfl tk (da_cons (de_var (pv 4)) (da_cons (de_var (pv 13)) da_nil))) (da_cons (de_callTy call_tuple_of qTuple_ok rfl T.n_tuple PyProof.Rows.boot_tuple (da_cons (de_var (pv 8)) da_nil)) (da_cons (de_var (pv 12)) da_nil)))))))) de_str)
 (dss_one (ds_ret de_bl))
 dss_nil))
 dss_nil)
 (dss_cons (ds_lc (own := [("k", 15)]) rfl sc__law_wrong.nd (i := 14) rfl rfl (sw_true rfl rfl rfl (by decide +kernel)) (di_range1 rfl T.n_range (da_cons (de_callB call_len qLen_ok rfl T.n_len boot_len (da_cons (de_var (pv 6)) da_nil)) da_nil)) (blkOk_by (own := [("k", 15)]) (N := N__law_wrong) (sc := defScope s__law_wrong) (by decide +kernel)) (fun _ _ _ _ _ => (cg_name sc__law_wrong.nd rfl (by first | exact Or.inl rfl | exact Or.inr rfl) (by decide))) (fun _ _ _ _ _ => dts_nil) (fun _ _ _ _ _ => (de_callB (call_min2 rfl) qMin2_ok rfl T.n_min PyProof.Rows.boot_min (da_cons (de_ix ix_seq qIx_ok (de_var (pv 6)) (de_var (pv 15))) (da_cons (de_ix ix_seq qIx_ok (de_var (pv 8)) (de_var (pv 15))) da_nil)))))
 (dss_cons (ds_set sc__law_wrong.nd (i := 16) rfl (by first | exact Or.inl rfl | exact Or.inr rfl) (de_call h__law_strings (hr.mono (by first | decide | omega)) rfl tk (da_cons (de_var (pv 4)) (da_cons (de_call h__law_right (hr.mono (by first | decide | omega)) rfl tk (da_cons (de_var (pv 0)) (da_cons (de_var (pv 2)) (da_cons (de_var (pv 5)) (da_cons (de_var (pv 14)) da_nil))))) da_nil))))
 (dss_cons (ds_if (dt_cmp (op_neAll (hr.units)) qNe_ok (de_call h__law_refused (hr.mono (by first | decide | omega)) rfl tk (da_cons (de_var (pv 1)) (da_cons (de_var (pv 3)) (da_cons (de_var (pv 10)) (da_cons (de_callTy call_tuple_of qTuple_ok rfl T.n_tuple PyProof.Rows.boot_tuple (da_cons (de_var (pv 6)) da_nil)) (da_cons (de_var (pv 11)) (da_cons (de_callTy call_tuple_of qTuple_ok rfl T.n_tuple PyProof.Rows.boot_tuple (da_cons (de_var (pv 14)) da_nil)) (da_cons (de_var (pv 16)) da_nil)))))))) de_str)
 (dss_one (ds_ret de_bl))
 dss_nil)
 (dss_cons (ds_set sc__law_wrong.nd (i := 17) rfl (by first | exact Or.inl rfl | exact Or.inr rfl) (de_callTy call_list_of qList_ok rfl T.n_list PyProof.Rows.boot_list (da_cons (de_var (pv 6)) da_nil)))
 (dss_cons (ds_asg (de_ix ix_seq qIx_ok (de_lst (da_cons (de_un un_neg qNeg_ok de_int) (da_cons (de_op op_addAll qAdd_ok (de_var (pv 3)) de_int) da_nil))) (de_call h__law_take (hr.mono (by first | decide | omega)) rfl tk (da_cons (de_var (pv 0)) (da_cons de_int da_nil)))) (dg_sub set_list dSetL_ok (de_var (pv 17)) (de_call h__law_take (hr.mono (by first | decide | omega)) rfl tk (da_cons (de_var (pv 0)) (da_cons (de_callB call_len qLen_ok rfl T.n_len boot_len (da_cons (de_var (pv 17)) da_nil)) da_nil)))))
 (dss_ghost (dss_cons (ds_if (dt_cmp (op_neAll (hr.units)) qNe_ok (de_call h__law_refused (hr.mono (by first | decide | omega)) rfl tk (da_cons (de_var (pv 1)) (da_cons (de_var (pv 3)) (da_cons (de_var (pv 10)) (da_cons (de_callTy call_tuple_of qTuple_ok rfl T.n_tuple PyProof.Rows.boot_tuple (da_cons (de_var (pv 17)) da_nil)) (da_cons (de_var (pv 12)) (da_cons (de_callTy call_tuple_of qTuple_ok rfl T.n_tuple PyProof.Rows.boot_tuple (da_cons (de_var (pv 14)) da_nil)) (da_cons (de_var (pv 16)) da_nil)))))))) de_str)
 (dss_one (ds_ret de_bl))
 dss_nil)
 (dss_cons (ds_if (dt_cmp (op_neAll (hr.units)) qNe_ok (de_call h__law_refused (hr.mono (by first | decide | omega)) rfl tk (da_cons (de_var (pv 1)) (da_cons (de_var (pv 3)) (da_cons (de_var (pv 10)) (da_cons (de_callTy call_tuple_of qTuple_ok rfl T.n_tuple PyProof.Rows.boot_tuple (da_cons (de_var (pv 6)) da_nil)) (da_cons (de_var (pv 11)) (da_cons (de_callTy call_tuple_of qTuple_ok rfl T.n_tuple PyProof.Rows.boot_tuple (da_cons (de_var (pv 17)) da_nil)) (da_cons (de_var (pv 12)) da_nil)))))))) de_str)
 (dss_one (ds_ret de_bl))
 dss_nil)
 (dss_cons (ds_set sc__law_wrong.nd (i := 18) rfl (by first | exact Or.inl rfl | exact Or.inr rfl) (de_tup (da_cons de_str (da_cons (de_var (pv 4)) (da_cons (de_op op_addAll qAdd_ok (de_var (pv 4)) de_int) (da_cons (de_callTy call_tuple_of qTuple_ok rfl T.n_tuple PyProof.Rows.boot_tuple (da_cons (de_lc (own := [("row", 19)]) rfl sc__law_wrong.nd (di_any (de_ix ix_seq qIx_ok (de_var (pv 1)) de_int)) (blkOk_by (own := [("row", 19)]) (N := N__law_wrong) (sc := defScope s__law_wrong) (by decide +kernel)) (fun _ _ _ _ _ => (cg_name sc__law_wrong.nd rfl (by first | exact Or.inl rfl | exact Or.inr rfl) (by decide))) (fun _ _ _ _ _ => dts_nil) (fun _ _ _ _ _ => (de_op op_addAll qAdd_ok (de_var (pv 19)) de_str))) da_nil)) da_nil))))))
 (dss_cons (ds_if (dt_cmp (op_neAll (hr.units)) qNe_ok (de_call h__law_refused (hr.mono (by first | decide | omega)) rfl tk (da_cons (de_var (pv 18)) (da_cons (de_var (pv 3)) (da_cons (de_var (pv 10)) (da_cons (de_callTy call_tuple_of qTuple_ok rfl T.n_tuple PyProof.Rows.boot_tuple (da_cons (de_var (pv 6)) da_nil)) (da_cons (de_var (pv 11)) (da_cons (de_callTy call_tuple_of qTuple_ok rfl T.n_tuple PyProof.Rows.boot_tuple (da_cons (de_var (pv 8)) da_nil)) (da_cons (de_var (pv 12)) da_nil)))))))) de_str)
 (dss_one (ds_ret de_bl))
 dss_nil)
 (dss_cons (ds_if (dt_cmp (op_neAll (hr.units)) qNe_ok (de_call h__law_refused (hr.mono (by first | decide | omega)) rfl tk (da_cons (de_tup (da_cons de_str (da_cons (de_var (pv 4)) (da_cons (de_var (pv 4)) (da_cons (de_slice sl_all qSl_ok (de_ix ix_seq qIx_ok (de_var (pv 1)) de_int) (do_some de_int) do_none) da_nil))))) (da_cons de_int (da_cons (de_var (pv 10)) (da_cons (de_callTy call_tuple_of qTuple_ok rfl T.n_tuple PyProof.Rows.boot_tuple (da_cons (de_var (pv 6)) da_nil)) (da_cons (de_var (pv 11)) (da_cons (de_callTy call_tuple_of qTuple_ok rfl T.n_tuple PyProof.Rows.boot_tuple (da_cons (de_var (pv 14)) da_nil)) (da_cons (de_var (pv 16)) da_nil)))))))) de_str)
 (dss_one (ds_ret de_bl))
 dss_nil)
 (dss_one (ds_ret (de_cmp (op_eqAll (hr.units)) qEq_ok (de_call h__law_refused (hr.mono (by first | decide | omega)) rfl tk (da_cons (de_var (pv 1)) (da_cons (de_ix ix_seq qIx_ok (de_lst (da_cons de_int (da_cons de_int da_nil))) (de_call h__law_take (hr.mono (by first | decide | omega)) rfl tk (da_cons (de_var (pv 0)) (da_cons de_int da_nil)))) (da_cons (de_var (pv 10)) (da_cons (de_callTy call_tuple_of qTuple_ok rfl T.n_tuple PyProof.Rows.boot_tuple (da_cons (de_var (pv 6)) da_nil)) (da_cons (de_var (pv 11)) (da_cons (de_callTy call_tuple_of qTuple_ok rfl T.n_tuple PyProof.Rows.boot_tuple (da_cons (de_var (pv 8)) da_nil)) (da_cons (de_var (pv 12)) da_nil)))))))) de_str)))))))))))))))))))))) hread
def lb__law_lot_0 (K : PySem.W.Frag) (c : Cs) : DTS :=
 (dDrop (dM "list" qAppend (dVar 5) (dCons (dOp (qAdd false) (dVar 6) (dLst false (dCons (dVar 7) dNil))) dNil)))
def lb__law_lot_1 (K : PySem.W.Frag) (c : Cs) : DTS :=
 (dFor (dRng1 (dCons (dOp (qAdd false) (dVar 1) (dK (.int 1))) dNil)) (gSet 7)
 (lb__law_lot_0 K c))
def lb__law_lot_2 (K : PySem.W.Frag) (c : Cs) : DTS :=
 (dSeq (dAsg (dLst true dNil) (gSet 5))
 (dSeq (dFor (dIt (dVar 3)) (gSet 6)
 (lb__law_lot_1 K c))
 (dGhost (dAsg (dVar 5) (gSet 3)))))
def t__law_lot (K : PySem.W.Frag) (c : Cs) : DTS :=
 (dSeq (dAsg (dLst false (dCons (dLst false dNil) dNil)) (gSet 3))
 (dSeq (dFor (dRng1 (dCons (dVar 0) dNil)) (gSet 4)
 (lb__law_lot_2 K c))
 (dRet (dN qTuple (dCons (dLc false [6] (dIt (dVar 3)) (gSet 6) (dTest (dOp (qEq false) (dN qSum (dCons (dVar 6) dNil)) (dVar 2))) (dN qTuple (dCons (dVar 6) dNil))) dNil)))))
theorem has__law_lot (T : Txt P w K mg base c)  (hlen : ∀ ds G Q E, (sp__law_lot c) ds G Q E → ds.length = P__law_lot.length)
    (hread : ∀ ds G Q E, (sp__law_lot c) ds G Q E → t__law_lot K c (fun x _ G' => ∃ G2, Sub G2 G' ∧ E x G2) { nx := fun _ G' => RetW Q .non G', rt := RetW Q } (dstart N__law_lot ds) G) :
    Has P w K mg base (0 + 1) "_law_lot" s__law_lot P__law_lot (sp__law_lot c) :=
  has_mk T.at__law_lot sc__law_lot hlen (t__law_lot K c) (fun f cdv A outer s H E hr tk =>
 (dss_cons (ds_set sc__law_lot.nd (i := 3) rfl (by first | exact Or.inl rfl | exact Or.inr rfl) (de_lst (da_cons (de_lst da_nil) da_nil)))
 (dss_cons (ds_for (passes_of rfl) rfl (di_range1 rfl T.n_range (da_cons (de_var (pv 0)) da_nil)) (dg_name sc__law_lot.nd rfl (by first | exact Or.inl rfl | exact Or.inr rfl))
 (dss_cons (ds_set sc__law_lot.nd (i := 5) rfl (by first | exact Or.inl rfl | exact Or.inr rfl) (de_lst da_nil))
 (dss_cons (ds_for (passes_of rfl) rfl (di_any (de_var (pv 3))) (dg_name sc__law_lot.nd rfl (by first | exact Or.inl rfl | exact Or.inr rfl))
 (dss_one (ds_for (passes_of rfl) rfl (di_range1 rfl T.n_range (da_cons (de_op op_addAll qAdd_ok (de_var (pv 1)) de_int) da_nil)) (dg_name sc__law_lot.nd rfl (by first | exact Or.inl rfl | exact Or.inr rfl))
 (dss_one (ds_expr (de_m PySem.F.plainAttrs_list PySem.F.slot_list_append PySem.F.type_list_append mt_append qAppend_ok (de_var (pv 5)) (da_cons (de_op op_addAll qAdd_ok (de_var (pv 6)) (de_lst (da_cons (de_var (pv 7)) da_nil))) da_nil)))))))
 (dss_ghost (dss_one (ds_set sc__law_lot.nd (i := 3) rfl (by first | exact Or.inl rfl | exact Or.inr rfl) (de_var (pv 5))))))))
 (dss_one (ds_ret (de_callTy call_tuple_of qTuple_ok rfl T.n_tuple PyProof.Rows.boot_tuple (da_cons (de_lc (own := [("message", 6)]) rfl sc__law_lot.nd (di_any (de_var (pv 3))) (blkOk_by (own := [("message", 6)]) (N := N__law_lot) (sc := defScope s__law_lot) (by decide +kernel)) (fun _ _ _ _ _ => (cg_name sc__law_lot.nd rfl (by first | exact Or.inl rfl | exact Or.inr rfl) (by decide))) (fun _ _ _ _ _ => (dts_one (dt_cmp (op_eqAll (hr.units)) qEq_ok (de_callB (cr_sumQ rfl) qSum_ok rfl T.n_sum PyProof.Rows.boot_sum (da_cons (de_var (pv 6)) da_nil)) (de_var (pv 2))))) (fun _ _ _ _ _ => (de_callTy call_tuple_of qTuple_ok rfl T.n_tuple PyProof.Rows.boot_tuple (da_cons (de_var (pv 6)) da_nil)))) da_nil))))))) hread
def t__law_level (K : PySem.W.Frag) (c : Cs) : DTS :=
 (dSeq (dAsg (dOp (qAdd false) (dK (.int 2)) (dCall (sp__law_take c) (dCons (dVar 0) (dCons (dK (.int 2)) dNil)))) (gSet 4))
 (dSeq (dAsg (dOp (qAdd false) (dK (.int 1)) (dCall (sp__law_take c) (dCons (dVar 0) (dCons (dK (.int 3)) dNil)))) (gSet 5))
 (dSeq (dAsg (dOp (qAdd false) (dK (.int 1)) (dCall (sp__law_take c) (dCons (dVar 0) (dCons (dOp qSub (dOp (qMul false) (dVar 4) (dVar 5)) (dK (.int 1))) dNil)))) (gSet 6))
 (dSeq (dAsg (dCall (sp__law_lot c) (dCons (dVar 4) (dCons (dVar 5) (dCons (dVar 6) dNil)))) (gSet 7))
 (dSeq (dIfS (dOr (dNot (dTru (dCall (sp__law_same c) (dCons (dCall (sp_level_messages c) (dCons (dVar 4) (dCons (dVar 5) (dCons (dVar 6) dNil)))) (dCons (dVar 7) dNil))))) (dTest (dOp (qIsB true) (dCall (sp_is_steady c) (dCons (dVar 5) (dCons (dVar 7) dNil))) (dK (.bl true)))))
 (dRet (dK (.bl false)))
 dNext)
 (dSeq (dAsg (dCall (sp__law_take c) (dCons (dVar 0) (dCons (dN qLen (dCons (dVar 7) dNil)) dNil))) (gSet 8))
 (dSeq (dAsg (dOp qIx (dVar 7) (dVar 8)) (gSet 9))
 (dSeq (dAsg (dOp qIx (dVar 7) (dOp qMod (dN qInt (dCons (dOp (qAdd false) (dOp (qAdd false) (dVar 8) (dK (.int 1))) (dCall (sp__law_take c) (dCons (dVar 0) (dCons (dOp qSub (dN qLen (dCons (dVar 7) dNil)) (dK (.int 1))) dNil)))) dNil)) (dN qLen (dCons (dVar 7) dNil)))) (gSet 10))
 (dSeq (dAsg (dLc false [12] (dRng1 (dCons (dVar 4) dNil)) (gSet 12) dYes (dCall (sp__law_led c) (dCons (dVar 2) (dCons (dCall (sp__law_take c) (dCons (dVar 0) (dCons (dOp qShl (dK (.int 1)) (dVar 3)) dNil))) (dCons (dVar 5) dNil))))) (gSet 11))
 (dSeq (dAsg (dCall (sp__law_right c) (dCons (dVar 0) (dCons (dVar 2) (dCons (dVar 11) (dCons (dVar 9) dNil))))) (gSet 13))
 (dSeq (dAsg (dCall (sp__law_right c) (dCons (dVar 0) (dCons (dVar 2) (dCons (dVar 11) (dCons (dVar 10) dNil))))) (gSet 14))
 (dSeq (dAsg (dCall (sp_turned_by c) (dCons (dVar 1) (dCons (dVar 5) (dCons (dCall (sp__law_strings c) (dCons (dVar 3) (dCons (dVar 11) dNil))) (dCons (dVar 9) (dCons (dCall (sp__law_strings c) (dCons (dVar 3) (dCons (dVar 13) dNil))) (dCons (dVar 10) (dCons (dCall (sp__law_strings c) (dCons (dVar 3) (dCons (dVar 14) dNil))) dNil)))))))) (gSet 15))
 (dRet (dCall (sp__law_same c) (dCons (dVar 15) (dCons (dCall (sp__law_due c) (dCons (dVar 2) (dCons (dVar 3) (dCons (dVar 9) (dCons (dVar 13) (dCons (dVar 10) (dCons (dVar 14) dNil))))))) dNil))))))))))))))))
theorem has__law_level (T : Txt P w K mg base c) (h__law_take : Has P w K mg base 1 "_law_take" s__law_take P__law_take (sp__law_take c)) (h__law_lot : Has P w K mg base 1 "_law_lot" s__law_lot P__law_lot (sp__law_lot c)) (h__law_same : Has P w K mg base 3 "_law_same" s__law_same P__law_same (sp__law_same c)) (h_level_messages : Has P w K mg base 3 "level_messages" s_level_messages P_level_messages (sp_level_messages c)) (h_is_steady : Has P w K mg base 3 "is_steady" s_is_steady P_is_steady (sp_is_steady c)) (h__law_led : Has P w K mg base 1 "_law_led" s__law_led P__law_led (sp__law_led c)) (h__law_right : Has P w K mg base 2 "_law_right" s__law_right P__law_right (sp__law_right c)) (h_turned_by : Has P w K mg base 6 "turned_by" s_turned_by P_turned_by (sp_turned_by c)) (h__law_strings : Has P w K mg base 2 "_law_strings" s__law_strings P__law_strings (sp__law_strings c)) (h__law_due : Has P w K mg base 2 "_law_due" s__law_due P__law_due (sp__law_due c)) (hlen : ∀ ds G Q E, (sp__law_level c) ds G Q E → ds.length = P__law_level.length)
    (hread : ∀ ds G Q E, (sp__law_level c) ds G Q E → t__law_level K c (fun x _ G' => ∃ G2, Sub G2 G' ∧ E x G2) { nx := fun _ G' => RetW Q .non G', rt := RetW Q } (dstart N__law_level ds) G) :
    Has P w K mg base (6 + 1) "_law_level" s__law_level P__law_level (sp__law_level c) :=
  has_mk T.at__law_level sc__law_level hlen (t__law_level K c) (fun f cdv A outer s H E hr tk =>
 (dss_cons (ds_set sc__law_level.nd (i := 4) rfl (by first | exact Or.inl rfl | exact Or.inr rfl) (de_op op_addAll qAdd_ok de_int (de_call h__law_take (hr.mono (by first | decide | omega)) rfl tk (da_cons (de_var (pv 0)) (da_cons de_int da_nil)))))
 (dss_cons (ds_set sc__law_level.nd (i := 5) rfl (by first | exact Or.inl rfl | exact Or.inr rfl) (de_op op_addAll qAdd_ok de_int (de_call h__law_take (hr.mono (by first | decide | omega)) rfl tk (da_cons (de_var (pv 0)) (da_cons de_int da_nil)))))
 (dss_cons (ds_set sc__law_level.nd (i := 6) rfl (by first | exact Or.inl rfl | exact Or.inr rfl) (de_op op_addAll qAdd_ok de_int (de_call h__law_take (hr.mono (by first | decide | omega)) rfl tk (da_cons (de_var (pv 0)) (da_cons (de_op op_sub qSub_ok (de_op op_mulAll qMul_ok (de_var (pv 4)) (de_var (pv 5))) de_int) da_nil)))))
 (dss_cons (ds_set sc__law_level.nd (i := 7) rfl (by first | exact Or.inl rfl | exact Or.inr rfl) (de_call h__law_lot (hr.mono (by first | decide | omega)) rfl tk (da_cons (de_var (pv 4)) (da_cons (de_var (pv 5)) (da_cons (de_var (pv 6)) da_nil)))))
 (dss_cons (ds_if (dt_bool (dw_or (dt_not (dt_truth (de_call h__law_same (hr.mono (by first | decide | omega)) rfl tk (da_cons (de_call h_level_messages (hr.mono (by first | decide | omega)) rfl tk (da_cons (de_var (pv 4)) (da_cons (de_var (pv 5)) (da_cons (de_var (pv 6)) da_nil)))) (da_cons (de_var (pv 7)) da_nil))))) (dw_or1 (dt_cmp (op_notBl) qIsNB_ok (de_call h_is_steady (hr.mono (by first | decide | omega)) rfl tk (da_cons (de_var (pv 5)) (da_cons (de_var (pv 7)) da_nil))) de_bl))))
 (dss_one (ds_ret de_bl))
 dss_nil)
 (dss_cons (ds_set sc__law_level.nd (i := 8) rfl (by first | exact Or.inl rfl | exact Or.inr rfl) (de_call h__law_take (hr.mono (by first | decide | omega)) rfl tk (da_cons (de_var (pv 0)) (da_cons (de_callB call_len qLen_ok rfl T.n_len boot_len (da_cons (de_var (pv 7)) da_nil)) da_nil))))
 (dss_cons (ds_set sc__law_level.nd (i := 9) rfl (by first | exact Or.inl rfl | exact Or.inr rfl) (de_ix ix_seq qIx_ok (de_var (pv 7)) (de_var (pv 8))))
 (dss_cons (ds_set sc__law_level.nd (i := 10) rfl (by first | exact Or.inl rfl | exact Or.inr rfl) (de_ix ix_seq qIx_ok (de_var (pv 7)) (de_op op_mod qMod_ok (de_callTy call_intA qInt_ok rfl T.n_int PyProof.Rows.boot_int (da_cons (de_op op_addAll qAdd_ok (de_op op_addAll qAdd_ok (de_var (pv 8)) de_int) (de_call h__law_take (hr.mono (by first | decide | omega)) rfl tk (da_cons (de_var (pv 0)) (da_cons (de_op op_sub qSub_ok (de_callB call_len qLen_ok rfl T.n_len boot_len (da_cons (de_var (pv 7)) da_nil)) de_int) da_nil)))) da_nil)) (de_callB call_len qLen_ok rfl T.n_len boot_len (da_cons (de_var (pv 7)) da_nil)))))
 (dss_cons (ds_lc (own := [("turn", 12)]) rfl sc__law_level.nd (i := 11) rfl rfl (sw_true rfl rfl rfl (by decide +kernel)) (di_range1 rfl T.n_range (da_cons (de_var (pv 4)) da_nil)) (blkOk_by (own := [("turn", 12)]) (N := N__law_level) (sc := defScope s__law_level) (by decide +kernel)) (fun _ _ _ _ _ => (cg_name sc__law_level.nd rfl (by first | exact Or.inl rfl | exact Or.inr rfl) (by decide))) (fun _ _ _ _ _ => dts_nil) (fun _ _ _ _ _ => (de_call h__law_led (hr.mono (by first | decide | omega)) rfl takes_blk (da_cons (de_var (pv 2)) (da_cons (de_call h__law_take (hr.mono (by first | decide | omega)) rfl takes_blk (da_cons (de_var (pv 0)) (da_cons (de_op op_shl qShl_ok de_int (de_var (pv 3))) da_nil))) (da_cons (de_var (pv 5)) da_nil))))))
 (dss_cons (ds_set sc__law_level.nd (i := 13) rfl (by first | exact Or.inl rfl | exact Or.inr rfl) (de_call h__law_right (hr.mono (by first | decide | omega)) rfl tk (da_cons (de_var (pv 0)) (da_cons (de_var (pv 2)) (da_cons (de_var (pv 11)) (da_cons (de_var (pv 9)) da_nil))))))
 (dss_cons (ds_set sc__law_level.nd (i := 14) rfl (by first | exact Or.inl rfl | exact Or.inr rfl) (de_call h__law_right (hr.mono (by first | decide | omega)) rfl tk (da_cons (de_var (pv 0)) (da_cons (de_var (pv 2)) (da_cons (de_var (pv 11)) (da_cons (de_var (pv 10)) da_nil))))))
 (dss_cons (ds_set sc__law_level.nd (i := 15) rfl (by first | exact Or.inl rfl | exact Or.inr rfl) (de_call h_turned_by (hr.mono (by first | decide | omega)) rfl tk (da_cons (de_var (pv 1)) (da_cons (de_var (pv 5)) (da_cons (de_call h__law_strings (hr.mono (by first | decide | omega)) rfl tk (da_cons (de_var (pv 3)) (da_cons (de_var (pv 11)) da_nil))) (da_cons (de_var (pv 9)) (da_cons (de_call h__law_strings (hr.mono (by first | decide | omega)) rfl tk (da_cons (de_var (pv 3)) (da_cons (de_var (pv 13)) da_nil))) (da_cons (de_var (pv 10)) (da_cons (de_call h__law_strings (hr.mono (by first | decide | omega)) rfl tk (da_cons (de_var (pv 3)) (da_cons (de_var (pv 14)) da_nil))) da_nil)))))))))
 (dss_one (ds_ret (de_call h__law_same (hr.mono (by first | decide | omega)) rfl tk (da_cons (de_var (pv 15)) (da_cons (de_call h__law_due (hr.mono (by first | decide | omega)) rfl tk (da_cons (de_var (pv 2)) (da_cons (de_var (pv 3)) (da_cons (de_var (pv 9)) (da_cons (de_var (pv 13)) (da_cons (de_var (pv 10)) (da_cons (de_var (pv 14)) da_nil))))))) da_nil)))))))))))))))))) hread
def t__law_whole (K : PySem.W.Frag) (c : Cs) : DTS :=
 (dSeq (dAsg (dCall (sp__law_hand c) (dCons (dVar 0) dNil)) (gSet 1))
 (dSeq (dAsg (dOp (qAdd false) (dK (.int 1)) (dCall (sp__law_take c) (dCons (dVar 1) (dCons (dK (.int 4)) dNil)))) (gSet 2))
 (dSeq (dAsg (dOp qShl (dK (.int 1)) (dVar 2)) (gSet 3))
 (dSeq (dAsg (dLc false [5] (dRng1 (dCons (dVar 3) dNil)) (gSet 5) dYes (dCall (sp__law_take c) (dCons (dVar 1) (dCons (dVar 3) dNil)))) (gSet 4))
 (dSeq (dAsg (dOp (qEq false) (dCall (sp__law_take c) (dCons (dVar 1) (dCons (dK (.int 3)) dNil))) (dK (.int 0))) (gSet 6))
 (dSeq (dIfS (dTru (dVar 6))
 (dAsg (dLc false [7] (dRng1 (dCons (dVar 3) dNil)) (gSet 7) dYes (dOp qMod (dN qInt (dCons (dOp (qAdd false) (dOp (qMul false) (dVar 7) (dOp (qAdd false) (dOp (qMul false) (dK (.int 2)) (dOp qIx (dVar 4) (dK (.int 0)))) (dK (.int 1)))) (dOp qIx (dVar 4) (dK (.int 1)))) dNil)) (dVar 3))) (gSet 4))
 dNext)
 (dSeq (dAsg (dTup (dCons (dK (.str "generator")) (dCons (dVar 2) (dCons (dVar 2) (dCons (dCall (sp__law_strings c) (dCons (dVar 2) (dCons (dVar 4) dNil))) dNil))))) (gSet 8))
 (dSeq (dAsg (dOp (qAdd false) (dK (.int 2)) (dCall (sp__law_take c) (dCons (dVar 1) (dCons (dK (.int 3)) dNil)))) (gSet 9))
 (dSeq (dAsg (dOp qIx (dLst false (dCons (dK (.int 1)) (dCons (dK (.int 2)) (dCons (dK (.int 3)) (dCons (dK (.int 4)) (dCons (dK (.int 5)) (dCons (dK (.int 15)) (dCons (dK (.int 9)) dNil)))))))) (dCall (sp__law_take c) (dCons (dVar 1) (dCons (dK (.int 7)) dNil)))) (gSet 10))
 (dSeq (dAsg (dLc false [5] (dRng1 (dCons (dVar 9) dNil)) (gSet 5) dYes (dCall (sp__law_take c) (dCons (dVar 1) (dCons (dVar 3) dNil)))) (gSet 11))
 (dSeq (dAsg (dLc false [7] (dIt (dVar 11)) (gSet 7) dYes (dCall (sp__law_led c) (dCons (dVar 4) (dCons (dVar 7) (dCons (dVar 10) dNil))))) (gSet 12))
 (dSeq (dAsg (dCall (sp__law_messages c) (dCons (dVar 1) (dCons (dVar 9) (dCons (dVar 10) dNil)))) (gTupD 2 (gsCons (gSet 13) (gsCons (gSet 14) gsNil))))
 (dSeq (dAsg (dLc false [16] (dRng1 (dCons (dVar 9) dNil)) (gSet 16) dYes (dCall (sp__law_led c) (dCons (dVar 4) (dCons (dOp qIx (dVar 11) (dVar 16)) (dCons (dOp qSub (dVar 10) (dOp qIx (dVar 13) (dVar 16))) dNil))))) (gSet 15))
 (dSeq (dIfS (dNot (dTru (dCall (sp__law_same c) (dCons (dCall (sp_signed c) (dCons (dVar 8) (dCons (dVar 10) (dCons (dCall (sp__law_strings c) (dCons (dVar 2) (dCons (dVar 11) dNil))) (dCons (dN qTuple (dCons (dVar 13) dNil)) dNil))))) (dCons (dCall (sp__law_strings c) (dCons (dVar 2) (dCons (dVar 15) dNil))) dNil)))))
 (dRet (dK (.bl false)))
 dNext)
 (dSeq (dAsg (dIf (dTest (dOp (qEq false) (dCall (sp__law_take c) (dCons (dVar 1) (dCons (dK (.int 2)) dNil))) (dK (.int 0)))) (dCall (sp__law_right c) (dCons (dVar 1) (dCons (dVar 4) (dCons (dVar 12) (dCons (dVar 13) dNil))))) (dVar 15)) (gSet 17))
 (dSeq (dAsg (dCall (sp__law_right c) (dCons (dVar 1) (dCons (dVar 4) (dCons (dVar 12) (dCons (dVar 14) dNil))))) (gSet 18))
 (dSeq (dAsg (dCall (sp__law_strings c) (dCons (dVar 2) (dCons (dVar 17) dNil))) (gSet 19))
 (dSeq (dAsg (dCall (sp__law_strings c) (dCons (dVar 2) (dCons (dVar 18) dNil))) (gSet 20))
 (dSeq (dAsg (dCall (sp__law_strings c) (dCons (dVar 2) (dCons (dVar 12) dNil))) (gSet 21))
 (dSeq (dIfS (dOr (dTest (dOp (qIsB true) (dCall (sp_is_signed c) (dCons (dVar 8) (dCons (dVar 10) (dCons (dVar 21) (dCons (dN qTuple (dCons (dVar 13) dNil)) (dCons (dVar 19) dNil)))))) (dK (.bl true)))) (dTest (dOp (qIsB true) (dCall (sp_is_signed c) (dCons (dVar 8) (dCons (dVar 10) (dCons (dVar 21) (dCons (dN qTuple (dCons (dVar 14) dNil)) (dCons (dVar 20) dNil)))))) (dK (.bl true)))))
 (dRet (dK (.bl false)))
 dNext)
 (dSeq (dAsg (dCall (sp__law_due c) (dCons (dVar 4) (dCons (dVar 2) (dCons (dVar 13) (dCons (dVar 17) (dCons (dVar 14) (dCons (dVar 18) dNil))))))) (gSet 22))
 (dSeq (dAsg (dCall (sp_turned_by c) (dCons (dVar 8) (dCons (dVar 10) (dCons (dVar 21) (dCons (dN qTuple (dCons (dVar 13) dNil)) (dCons (dVar 19) (dCons (dN qTuple (dCons (dVar 14) dNil)) (dCons (dVar 20) dNil)))))))) (gSet 23))
 (dSeq (dIfS (dOr (dNot (dTru (dCall (sp__law_same c) (dCons (dVar 23) (dCons (dVar 22) dNil))))) (dAnd (dTest (dOp (qEq false) (dOp qIx (dVar 22) (dK (.int 0))) (dK (.str "double")))) (dOr (dTru (dVar 6)) (dTest (dOp (qIsN false) (dCall (sp_first_double c) (dCons (dN qTuple (dCons (dVar 4) dNil)) dNil)) (dK .non))))))
 (dRet (dK (.bl false)))
 dNext)
 (dSeq (dIfS (dAnd (dTest (dOp (qEq false) (dOp qIx (dVar 22) (dK (.int 0))) (dK (.str "turned")))) (dTest (dOp (qEq true) (dCall (sp_row_of c) (dCons (dVar 8) (dCons (dOp qIx (dVar 23) (dK (.int 2))) dNil))) (dOp qIx (dVar 19) (dOp qIx (dVar 22) (dK (.int 1)))))))
 (dRet (dK (.bl false)))
 dNext)
 (dSeq (dIfS (dAnd (dTest (dOp (qEq false) (dOp qIx (dVar 22) (dK (.int 0))) (dK (.str "double")))) (dOr (dTest (dOp (qEq true) (dCall (sp_row_of c) (dCons (dVar 8) (dCons (dOp qIx (dOp qIx (dVar 23) (dK (.int 2))) (dK (.int 0))) dNil))) (dCall (sp_row_of c) (dCons (dVar 8) (dCons (dOp qIx (dOp qIx (dVar 23) (dK (.int 2))) (dK (.int 1))) dNil))))) (dTest (dOp (qEq false) (dCall (sp_led c) (dCons (dVar 8) (dCons (dOp qIx (dOp qIx (dVar 23) (dK (.int 2))) (dK (.int 0))) (dCons (dK (.int 0)) dNil)))) (dOp qIx (dOp qIx (dVar 23) (dK (.int 2))) (dK (.int 1)))))))
 (dRet (dK (.bl false)))
 dNext)
 (dSeq (dIfS (dNot (dTru (dCall (sp__law_level c) (dCons (dVar 1) (dCons (dVar 8) (dCons (dVar 4) (dCons (dVar 2) dNil)))))))
 (dRet (dK (.bl false)))
 dNext)
 (dRet (dCall (sp__law_wrong K c) (dCons (dVar 1) (dCons (dVar 8) (dCons (dVar 4) (dCons (dVar 10) (dCons (dVar 2) (dCons (dVar 12) (dCons (dVar 13) (dCons (dVar 17) (dCons (dVar 14) (dCons (dVar 18) dNil))))))))))))))))))))))))))))))))))))))
theorem has__law_whole (T : Txt P w K mg base c) (h__law_hand : Has P w K mg base 1 "_law_hand" s__law_hand P__law_hand (sp__law_hand c)) (h__law_take : Has P w K mg base 1 "_law_take" s__law_take P__law_take (sp__law_take c)) (h__law_strings : Has P w K mg base 2 "_law_strings" s__law_strings P__law_strings (sp__law_strings c)) (h__law_led : Has P w K mg base 1 "_law_led" s__law_led P__law_led (sp__law_led c)) (h__law_messages : Has P w K mg base 2 "_law_messages" s__law_messages P__law_messages (sp__law_messages c)) (h__law_same : Has P w K mg base 3 "_law_same" s__law_same P__law_same (sp__law_same c)) (h_signed : Has P w K mg base 6 "signed" s_signed P_signed (sp_signed c)) (h__law_right : Has P w K mg base 2 "_law_right" s__law_right P__law_right (sp__law_right c)) (h_is_signed : Has P w K mg base 6 "is_signed" s_is_signed P_is_signed (sp_is_signed c)) (h__law_due : Has P w K mg base 2 "_law_due" s__law_due P__law_due (sp__law_due c)) (h_turned_by : Has P w K mg base 6 "turned_by" s_turned_by P_turned_by (sp_turned_by c)) (h_first_double : Has P w K mg base 4 "first_double" s_first_double P_first_double (sp_first_double c)) (h_row_of : Has P w K mg base 5 "row_of" s_row_of P_row_of (sp_row_of c)) (h_led : Has P w K mg base 6 "led" s_led P_led (sp_led c)) (h__law_level : Has P w K mg base 7 "_law_level" s__law_level P__law_level (sp__law_level c)) (h__law_wrong : Has P w K mg base 8 "_law_wrong" s__law_wrong P__law_wrong (sp__law_wrong K c)) (hlen : ∀ ds G Q E, (sp__law_whole K c) ds G Q E → ds.length = P__law_whole.length)
    (hread : ∀ ds G Q E, (sp__law_whole K c) ds G Q E → t__law_whole K c (fun x _ G' => ∃ G2, Sub G2 G' ∧ E x G2) { nx := fun _ G' => RetW Q .non G', rt := RetW Q } (dstart N__law_whole ds) G) :
    Has P w K mg base (8 + 1) "_law_whole" s__law_whole P__law_whole (sp__law_whole K c) :=
  has_mk T.at__law_whole sc__law_whole hlen (t__law_whole K c) (fun f cdv A outer s H E hr tk =>
 (dss_cons (ds_set sc__law_whole.nd (i := 1) rfl (by first | exact Or.inl rfl | exact Or.inr rfl) (de_call h__law_hand (hr.mono (by first | decide | omega)) rfl tk (da_cons (de_var (pv 0)) da_nil)))
 (dss_cons (ds_set sc__law_whole.nd (i := 2) rfl (by first | exact Or.inl rfl | exact Or.inr rfl) (de_op op_addAll qAdd_ok de_int (de_call h__law_take (hr.mono (by first | decide | omega)) rfl tk (da_cons (de_var (pv 1)) (da_cons de_int da_nil)))))
 (dss_cons (ds_set sc__law_whole.nd (i := 3) rfl (by first | exact Or.inl rfl | exact Or.inr rfl) (de_op op_shl qShl_ok de_int (de_var (pv 2))))
 (dss_cons (ds_set sc__law_whole.nd (i := 4) rfl (by first | exact Or.inl rfl | exact Or.inr rfl) (de_lc (own := [("turn", 5)]) rfl sc__law_whole.nd (di_range1 rfl T.n_range (da_cons (de_var (pv 3)) da_nil)) (blkOk_by (own := [("turn", 5)]) (N := N__law_whole) (sc := defScope s__law_whole) (by decide +kernel)) (fun _ _ _ _ _ => (cg_name sc__law_whole.nd rfl (by first | exact Or.inl rfl | exact Or.inr rfl) (by decide))) (fun _ _ _ _ _ => dts_nil) (fun _ _ _ _ _ => (de_call h__law_take (hr.mono (by first | decide | omega)) rfl takes_blk (da_cons (de_var (pv 1)) (da_cons (de_var (pv 3)) da_nil))))))
 (dss_cons (ds_set sc__law_whole.nd (i := 6) rfl (by first | exact Or.inl rfl | exact Or.inr rfl) (de_cmp (op_eqAll (hr.units)) qEq_ok (de_call h__law_take (hr.mono (by first | decide | omega)) rfl tk (da_cons (de_var (pv 1)) (da_cons de_int da_nil))) de_int))
 (dss_cons (ds_if (dt_truth (de_var (pv 6)))
 (dss_one (ds_set sc__law_whole.nd (i := 4) rfl (by first | exact Or.inl rfl | exact Or.inr rfl) (de_lc (own := [("value", 7)]) rfl sc__law_whole.nd (di_range1 rfl T.n_range (da_cons (de_var (pv 3)) da_nil)) (blkOk_by (own := [("value", 7)]) (N := N__law_whole) (sc := defScope s__law_whole) (by decide +kernel)) (fun _ _ _ _ _ => (cg_name sc__law_whole.nd rfl (by first | exact Or.inl rfl | exact Or.inr rfl) (by decide))) (fun _ _ _ _ _ => dts_nil) (fun _ _ _ _ _ => (de_op op_mod qMod_ok (de_callTy call_intA qInt_ok rfl T.n_int PyProof.Rows.boot_int (da_cons (de_op op_addAll qAdd_ok (de_op op_mulAll qMul_ok (de_var (pv 7)) (de_op op_addAll qAdd_ok (de_op op_mulAll qMul_ok de_int (de_ix ix_seq qIx_ok (de_var (pv 4)) de_int)) de_int)) (de_ix ix_seq qIx_ok (de_var (pv 4)) de_int)) da_nil)) (de_var (pv 3)))))))
 dss_nil)
 (dss_cons (ds_set sc__law_whole.nd (i := 8) rfl (by first | exact Or.inl rfl | exact Or.inr rfl) (de_tup (da_cons de_str (da_cons (de_var (pv 2)) (da_cons (de_var (pv 2)) (da_cons (de_call h__law_strings (hr.mono (by first | decide | omega)) rfl tk (da_cons (de_var (pv 2)) (da_cons (de_var (pv 4)) da_nil))) da_nil))))))
 (dss_cons (ds_set sc__law_whole.nd (i := 9) rfl (by first | exact Or.inl rfl | exact Or.inr rfl) (de_op op_addAll qAdd_ok de_int (de_call h__law_take (hr.mono (by first | decide | omega)) rfl tk (da_cons (de_var (pv 1)) (da_cons de_int da_nil)))))
 (dss_cons (ds_set sc__law_whole.nd (i := 10) rfl (by first | exact Or.inl rfl | exact Or.inr rfl) (de_ix ix_seq qIx_ok (de_lst (da_cons de_int (da_cons de_int (da_cons de_int (da_cons de_int (da_cons de_int (da_cons de_int (da_cons de_int da_nil)))))))) (de_call h__law_take (hr.mono (by first | decide | omega)) rfl tk (da_cons (de_var (pv 1)) (da_cons de_int da_nil)))))
 (dss_cons (ds_set sc__law_whole.nd (i := 11) rfl (by first | exact Or.inl rfl | exact Or.inr rfl) (de_lc (own := [("turn", 5)]) rfl sc__law_whole.nd (di_range1 rfl T.n_range (da_cons (de_var (pv 9)) da_nil)) (blkOk_by (own := [("turn", 5)]) (N := N__law_whole) (sc := defScope s__law_whole) (by decide +kernel)) (fun _ _ _ _ _ => (cg_name sc__law_whole.nd rfl (by first | exact Or.inl rfl | exact Or.inr rfl) (by decide))) (fun _ _ _ _ _ => dts_nil) (fun _ _ _ _ _ => (de_call h__law_take (hr.mono (by first | decide | omega)) rfl takes_blk (da_cons (de_var (pv 1)) (da_cons (de_var (pv 3)) da_nil))))))
 (dss_cons (ds_lc (own := [("value", 7)]) rfl sc__law_whole.nd (i := 12) rfl rfl (sw_true rfl rfl rfl (by decide +kernel)) (di_any (de_var (pv 11))) (blkOk_by (own := [("value", 7)]) (N := N__law_whole) (sc := defScope s__law_whole) (by decide +kernel)) (fun _ _ _ _ _ => (cg_name sc__law_whole.nd rfl (by first | exact Or.inl rfl | exact Or.inr rfl) (by decide))) (fun _ _ _ _ _ => dts_nil) (fun _ _ _ _ _ => (de_call h__law_led (hr.mono (by first | decide | omega)) rfl takes_blk (da_cons (de_var (pv 4)) (da_cons (de_var (pv 7)) (da_cons (de_var (pv 10)) da_nil))))))
 (dss_cons (ds_asg (de_call h__law_messages (hr.mono (by first | decide | omega)) rfl tk (da_cons (de_var (pv 1)) (da_cons (de_var (pv 9)) (da_cons (de_var (pv 10)) da_nil)))) (dg_tup rfl (dgs_cons (dg_name sc__law_whole.nd rfl (by first | exact Or.inl rfl | exact Or.inr rfl)) (dgs_cons (dg_name sc__law_whole.nd rfl (by first | exact Or.inl rfl | exact Or.inr rfl)) dgs_nil))))
 (dss_cons (ds_lc (own := [("at", 16)]) rfl sc__law_whole.nd (i := 15) rfl rfl (sw_true rfl rfl rfl (by decide +kernel)) (di_range1 rfl T.n_range (da_cons (de_var (pv 9)) da_nil)) (blkOk_by (own := [("at", 16)]) (N := N__law_whole) (sc := defScope s__law_whole) (by decide +kernel)) (fun _ _ _ _ _ => (cg_name sc__law_whole.nd rfl (by first | exact Or.inl rfl | exact Or.inr rfl) (by decide))) (fun _ _ _ _ _ => dts_nil) (fun _ _ _ _ _ => (de_call h__law_led (hr.mono (by first | decide | omega)) rfl takes_blk (da_cons (de_var (pv 4)) (da_cons (de_ix ix_seq qIx_ok (de_var (pv 11)) (de_var (pv 16))) (da_cons (de_op op_sub qSub_ok (de_var (pv 10)) (de_ix ix_seq qIx_ok (de_var (pv 13)) (de_var (pv 16)))) da_nil))))))
 (dss_cons (ds_if (dt_not (dt_truth (de_call h__law_same (hr.mono (by first | decide | omega)) rfl tk (da_cons (de_call h_signed (hr.mono (by first | decide | omega)) rfl tk (da_cons (de_var (pv 8)) (da_cons (de_var (pv 10)) (da_cons (de_call h__law_strings (hr.mono (by first | decide | omega)) rfl tk (da_cons (de_var (pv 2)) (da_cons (de_var (pv 11)) da_nil))) (da_cons (de_callTy call_tuple_of qTuple_ok rfl T.n_tuple PyProof.Rows.boot_tuple (da_cons (de_var (pv 13)) da_nil)) da_nil))))) (da_cons (de_call h__law_strings (hr.mono (by first | decide | omega)) rfl tk (da_cons (de_var (pv 2)) (da_cons (de_var (pv 15)) da_nil))) da_nil)))))
 (dss_one (ds_ret de_bl))
 dss_nil)
 (dss_cons (ds_set sc__law_whole.nd (i := 17) rfl (by first | exact Or.inl rfl | exact Or.inr rfl) (de_if (dt_cmp (op_eqAll (hr.units)) qEq_ok (de_call h__law_take (hr.mono (by first | decide | omega)) rfl tk (da_cons (de_var (pv 1)) (da_cons de_int da_nil))) de_int) (de_call h__law_right (hr.mono (by first | decide | omega)) rfl tk (da_cons (de_var (pv 1)) (da_cons (de_var (pv 4)) (da_cons (de_var (pv 12)) (da_cons (de_var (pv 13)) da_nil))))) (de_var (pv 15))))
 (dss_cons (ds_set sc__law_whole.nd (i := 18) rfl (by first | exact Or.inl rfl | exact Or.inr rfl) (de_call h__law_right (hr.mono (by first | decide | omega)) rfl tk (da_cons (de_var (pv 1)) (da_cons (de_var (pv 4)) (da_cons (de_var (pv 12)) (da_cons (de_var (pv 14)) da_nil))))))
 (dss_cons (ds_set sc__law_whole.nd (i := 19) rfl (by first | exact Or.inl rfl | exact Or.inr rfl) (de_call h__law_strings (hr.mono (by first | decide | omega)) rfl tk (da_cons (de_var (pv 2)) (da_cons (de_var (pv 17)) da_nil))))
 (dss_cons (ds_set sc__law_whole.nd (i := 20) rfl (by first | exact Or.inl rfl | exact Or.inr rfl) (de_call h__law_strings (hr.mono (by first | decide | omega)) rfl tk (da_cons (de_var (pv 2)) (da_cons (de_var (pv 18)) da_nil))))
 (dss_cons (ds_set sc__law_whole.nd (i := 21) rfl (by first | exact Or.inl rfl | exact Or.inr rfl) (de_call h__law_strings (hr.mono (by first | decide | omega)) rfl tk (da_cons (de_var (pv 2)) (da_cons (de_var (pv 12)) da_nil))))
 (dss_cons (ds_if (dt_bool (dw_or (dt_cmp (op_notBl) qIsNB_ok (de_call h_is_signed (hr.mono (by first | decide | omega)) rfl tk (da_cons (de_var (pv 8)) (da_cons (de_var (pv 10)) (da_cons (de_var (pv 21)) (da_cons (de_callTy call_tuple_of qTuple_ok rfl T.n_tuple PyProof.Rows.boot_tuple (da_cons (de_var (pv 13)) da_nil)) (da_cons (de_var (pv 19)) da_nil)))))) de_bl) (dw_or1 (dt_cmp (op_notBl) qIsNB_ok (de_call h_is_signed (hr.mono (by first | decide | omega)) rfl tk (da_cons (de_var (pv 8)) (da_cons (de_var (pv 10)) (da_cons (de_var (pv 21)) (da_cons (de_callTy call_tuple_of qTuple_ok rfl T.n_tuple PyProof.Rows.boot_tuple (da_cons (de_var (pv 14)) da_nil)) (da_cons (de_var (pv 20)) da_nil)))))) de_bl))))
 (dss_one (ds_ret de_bl))
 dss_nil)
 (dss_cons (ds_set sc__law_whole.nd (i := 22) rfl (by first | exact Or.inl rfl | exact Or.inr rfl) (de_call h__law_due (hr.mono (by first | decide | omega)) rfl tk (da_cons (de_var (pv 4)) (da_cons (de_var (pv 2)) (da_cons (de_var (pv 13)) (da_cons (de_var (pv 17)) (da_cons (de_var (pv 14)) (da_cons (de_var (pv 18)) da_nil))))))))
 (dss_cons (ds_set sc__law_whole.nd (i := 23) rfl (by first | exact Or.inl rfl | exact Or.inr rfl) (de_call h_turned_by (hr.mono (by first | decide | omega)) rfl tk (da_cons (de_var (pv 8)) (da_cons (de_var (pv 10)) (da_cons (de_var (pv 21)) (da_cons (de_callTy call_tuple_of qTuple_ok rfl T.n_tuple PyProof.Rows.boot_tuple (da_cons (de_var (pv 13)) da_nil)) (da_cons (de_var (pv 19)) (da_cons (de_callTy call_tuple_of qTuple_ok rfl T.n_tuple PyProof.Rows.boot_tuple (da_cons (de_var (pv 14)) da_nil)) (da_cons (de_var (pv 20)) da_nil)))))))))
 (dss_cons (ds_if (dt_bool (dw_or (dt_not (dt_truth (de_call h__law_same (hr.mono (by first | decide | omega)) rfl tk (da_cons (de_var (pv 23)) (da_cons (de_var (pv 22)) da_nil))))) (dw_or1 (dt_bool (dw_and (dt_cmp (op_eqAll (hr.units)) qEq_ok (de_ix ix_seq qIx_ok (de_var (pv 22)) de_int) de_str) (dw_and1 (dt_bool (dw_or (dt_truth (de_var (pv 6))) (dw_or1 (dt_cmp (op_isN) qIs_ok (de_call h_first_double (hr.mono (by first | decide | omega)) rfl tk (da_cons (de_callTy call_tuple_of qTuple_ok rfl T.n_tuple PyProof.Rows.boot_tuple (da_cons (de_var (pv 4)) da_nil)) da_nil)) de_non))))))))))
 (dss_one (ds_ret de_bl))
 dss_nil)
 (dss_cons (ds_if (dt_bool (dw_and (dt_cmp (op_eqAll (hr.units)) qEq_ok (de_ix ix_seq qIx_ok (de_var (pv 22)) de_int) de_str) (dw_and1 (dt_cmp (op_neAll (hr.units)) qNe_ok (de_call h_row_of (hr.mono (by first | decide | omega)) rfl tk (da_cons (de_var (pv 8)) (da_cons (de_ix ix_seq qIx_ok (de_var (pv 23)) de_int) da_nil))) (de_ix ix_seq qIx_ok (de_var (pv 19)) (de_ix ix_seq qIx_ok (de_var (pv 22)) de_int))))))
 (dss_one (ds_ret de_bl))
 dss_nil)
 (dss_cons (ds_if (dt_bool (dw_and (dt_cmp (op_eqAll (hr.units)) qEq_ok (de_ix ix_seq qIx_ok (de_var (pv 22)) de_int) de_str) (dw_and1 (dt_bool (dw_or (dt_cmp (op_neAll (hr.units)) qNe_ok (de_call h_row_of (hr.mono (by first | decide | omega)) rfl tk (da_cons (de_var (pv 8)) (da_cons (de_ix ix_seq qIx_ok (de_ix ix_seq qIx_ok (de_var (pv 23)) de_int) de_int) da_nil))) (de_call h_row_of (hr.mono (by first | decide | omega)) rfl tk (da_cons (de_var (pv 8)) (da_cons (de_ix ix_seq qIx_ok (de_ix ix_seq qIx_ok (de_var (pv 23)) de_int) de_int) da_nil)))) (dw_or1 (dt_cmp (op_eqAll (hr.units)) qEq_ok (de_call h_led (hr.mono (by first | decide | omega)) rfl tk (da_cons (de_var (pv 8)) (da_cons (de_ix ix_seq qIx_ok (de_ix ix_seq qIx_ok (de_var (pv 23)) de_int) de_int) (da_cons de_int da_nil)))) (de_ix ix_seq qIx_ok (de_ix ix_seq qIx_ok (de_var (pv 23)) de_int) de_int))))))))
 (dss_one (ds_ret de_bl))
 dss_nil)
 (dss_cons (ds_if (dt_not (dt_truth (de_call h__law_level (hr.mono (by first | decide | omega)) rfl tk (da_cons (de_var (pv 1)) (da_cons (de_var (pv 8)) (da_cons (de_var (pv 4)) (da_cons (de_var (pv 2)) da_nil)))))))
 (dss_one (ds_ret de_bl))
 dss_nil)
 (dss_one (ds_ret (de_call h__law_wrong (hr.mono (by first | decide | omega)) rfl tk (da_cons (de_var (pv 1)) (da_cons (de_var (pv 8)) (da_cons (de_var (pv 4)) (da_cons (de_var (pv 10)) (da_cons (de_var (pv 2)) (da_cons (de_var (pv 12)) (da_cons (de_var (pv 13)) (da_cons (de_var (pv 17)) (da_cons (de_var (pv 14)) (da_cons (de_var (pv 18)) da_nil)))))))))))))))))))))))))))))))))))))))) hread
def t_law (K : PySem.W.Frag) (c : Cs) : DTS :=
 (dTry K (dRet (dCall (sp__law_whole K c) (dCons (dVar 0) dNil)))
 [(c.BreakError, none, fun x a => (dRet (dK (.bl false))))])
theorem has_law (T : Txt P w K mg base c) (h__law_whole : Has P w K mg base 9 "_law_whole" s__law_whole P__law_whole (sp__law_whole K c)) (hlen : ∀ ds G Q E, (sp_law K c) ds G Q E → ds.length = P_law.length)
    (hread : ∀ ds G Q E, (sp_law K c) ds G Q E → t_law K c (fun x _ G' => ∃ G2, Sub G2 G' ∧ E x G2) { nx := fun _ G' => RetW Q .non G', rt := RetW Q } (dstart N_law ds) G) :
    Has P w K mg base (9 + 1) "law" s_law P_law (sp_law K c) :=
  has_mk T.at_law sc_law hlen (t_law K c) (fun f cdv A outer s H E hr tk =>
 (dss_one (ds_try rfl rfl tk (fun W pn xe tk' hp' => (dss_one (ds_ret (de_call h__law_whole (hr.mono (by first | decide | omega)) rfl tk' (da_cons (de_var (pv 0)) da_nil)))))
 (.bare ⟨rfl, by decide, .inl T.g_BreakError⟩ (fun a oe cls d pn hz hf => su_of (X := cxOf (L2.CX P w) P w K mg base N_law "law" (defScope s_law) f cdv A outer s H E) (K := K) fun x => by exact (dss_one (ds_ret de_bl)))
 .nil)))) hread
end
end K82

namespace K82
open PySem PySem.Spec L2 DL FL
section
variable {P : Program} {w : World} {K : PySem.W.Frag} {mg : Str → Option Value} {base : Heap} {c : Cs}
theorem b__law_hand (T : Txt P w K mg base c) : Has P w K mg base 1 "_law_hand" s__law_hand P__law_hand (sp__law_hand c) := by
  refine has__law_hand T (fun ds G Q E ⟨_, e, _⟩ => by rw [e]; rfl) fun ds G Q E ⟨ns, e, hl, q⟩ => ?_
  subst e
  refine dRet_i (dLst_i (dCons_i (dLc_i (xs := ns.map .int) (dIt_ret _ (dVar_ret rfl) rfl) (by simp; omega) ?_)))
  refine comp1M (xs := ns) D.int (fun n => .int (n % 10 ^ 60)) (fun n hn => modR (intR (dVar_ret rfl)) (powR (n := 60) dK_ret dK_ret (by decide) (by decide)) (by decide)) fun p np => ?_
  refine ⟨le_sz (by simp), fun p2 np2 => ?_⟩
  have ne : p2 ≠ p := by rintro rfl; rw [dupd_same] at np2; cases np2
  have np2' : G p2 = none := by rw [dupd_ne ne] at np2; exact np2
  refine RetW.sub (G' := dupd (dupd G p (.hid hq)) p2 (.hid (ha p))) ?_ (q p2 _ np2' ⟨p, ne, dupd_same, by rw [dupd_ne ne.symm, dupd_same]⟩ fun b o e => ?_)
  · exact (Sub.both (Sub.hide ⟨ns.map fun n => n % 10 ^ 60, by rw [List.map_map]; rfl, by simpa using hl, fun n hn => by
      obtain ⟨m, _, rfl⟩ := List.mem_map.mp hn
      exact ⟨Int.emod_nonneg _ (by decide), Int.emod_lt_of_pos _ (by decide)⟩⟩)).trans (Sub.hide (φ := ha p) ⟨0, rfl⟩)
  · rw [dupd_ne (dne_of e np2'), dupd_ne (dne_of e np)]; exact e
theorem b__law_take (T : Txt P w K mg base c) : Has P w K mg base 1 "_law_take" s__law_take P__law_take (sp__law_take c) := by
  refine has__law_take T (fun ds G Q E h => by obtain ⟨_, _, e, _⟩ := take_pre h; rw [e]; rfl) fun ds G Q E hh => ?_
  obtain ⟨a, m, e, ⟨q, ne, h1, h2⟩, hm, k⟩ := take_pre hh
  subst e
  refine ⟨a, ha q, h1, fun ds ⟨k0, e⟩ => ?_⟩
  subst e
  refine ⟨q, hq, by rw [dupd_ne ne.symm]; exact h2, fun ds ⟨ns, e, hl, hn⟩ => ?_⟩
  subst e
  have ea : dupd (dupd G a (.lst [.ref q, .int k0])) q (.lst (ns.map .int)) a = some (.lst [.ref q, .int k0]) := by rw [dupd_ne ne, dupd_same]
  refine seqSet _ (ixR (dVar_ret rfl) dK_ret ea DL.at0) ?_
  refine seqSet _ (ixR (dVar_ret rfl) dK_ret ea DL.at1) ?_
  refine seqPut a _ 1 1 _ (addR (dVar_ret rfl) dK_ret) (dVar_ret rfl) dK_ret ea rfl ?_
  -- the ledger from here on
  obtain ⟨G1, hG1⟩ : ∃ G1, G1 = dupd (dupd (dupd G a (.lst [.ref q, .int k0])) q (.lst (ns.map .int))) a (.lst ([D.ref q, .int k0].set 1 (.int ((k0 : Int) + 1)))) := ⟨_, rfl⟩
  rw [← hG1]
  have f1 : G1 a = some (.lst [.ref q, .int ((k0 + 1 : Nat) : Int)]) := by rw [hG1, dupd_same]; rfl
  have f2 : G1 q = some (.lst (ns.map .int)) := by rw [hG1, dupd_ne ne.symm, dupd_same]
  have f3 : ∀ b, b ≠ a → b ≠ q → G1 b = G b := fun b n1 n2 => by rw [hG1, dupd_ne n1, dupd_ne n2, dupd_ne n1]
  have fin : ∀ (G2 : DH) (ms : List Int), G2 a = some (.lst [.ref q, .int ((k0 + 1 : Nat) : Int)]) → G2 q = some (.lst (ms.map .int)) → ms.length ≤ 63 → (∀ n ∈ ms, 0 ≤ n ∧ n < 10 ^ 60) → (∀ b, b ≠ a → b ≠ q → G2 b = G b) → ∀ x : Int, RetW Q (.int (x % (m : Int))) G2 :=
    fun G2 ms e1 e2 e3 e4 e5 x => by
      obtain ⟨r, hr, e⟩ := emod_nat (x := x) hm
      rw [e]
      exact RetW.sub (hand_sub h1 h2 e1 e2 e3 e4 e5) (k r hr)
  clear hG1 ea
  refine seqSet _ (dVar_ret rfl) ?_
  -- what stands behind the test
  have tail : ∀ (cell : Int) (at' : Option D), (dSeq (dAsg (dOp qMod (dN qInt (dCons (dOp (qAdd false) (dOp (qAdd false) (dOp (qMul false) (dVar 4) (dK (.int 48271))) (dOp (qMul false) (dVar 3) (dK (.int 69621)))) (dK (.int 11))) dNil)) (dK (.int 2147483647))) (gSet 6))
 (dSeq (dAsg (dOp qMod (dN qInt (dCons (dOp (qAdd false) (dOp qFdiv (dOp (qMul false) (dVar 6) (dVar 6)) (dK (.int 4096))) (dVar 6)) dNil)) (dK (.int 2147483629))) (gSet 6))
 (dRet (dOp qMod (dOp qFdiv (dOp qMod (dN qInt (dCons (dOp (qAdd false) (dOp qFdiv (dOp (qMul false) (dVar 6) (dVar 6)) (dK (.int 4096))) (dOp (qMul false) (dVar 3) (dK (.int 7919)))) dNil)) (dK (.int 2147483629))) (dK (.int 7))) (dVar 1))))) (fun x _ G' => ∃ G2, DL.Sub G2 G' ∧ E x G2) { nx := fun _ G' => RetW Q .non G', rt := RetW Q } [some (.ref a), some (.int m), some (.ref q), some (.int k0), some (.int cell), at', none] G1 := fun cell at' => by
    have sq : ∀ y b : Int, 0 < b → b < 2 ^ 40 → -(2 ^ 64) < y % b ∧ y % b < 2 ^ 64 := fun y b h0 h1 => by
      have := Int.emod_nonneg y (b := b) (by omega)
      have := Int.emod_lt_of_pos y h0
      omega
    refine seqSet _ (modR (intR (addR (addR (mulR (dVar_ret rfl) dK_ret (.inr (by decide))) (mulR (dVar_ret rfl) dK_ret (.inr (by decide)))) dK_ret)) dK_ret (by decide)) ?_
    refine seqSet _ (modR (intR (addR (fdivR (mulR (dVar_ret rfl) (dVar_ret rfl) (.inl (sq _ _ (by decide) (by decide)))) dK_ret (by decide) (by decide)) (dVar_ret rfl))) dK_ret (by decide)) ?_
    exact dRet_ret _ (modR (fdivR (modR (intR (addR (fdivR (mulR (dVar_ret rfl) (dVar_ret rfl) (.inl (sq _ _ (by decide) (by decide)))) dK_ret (by decide) (by decide)) (mulR (dVar_ret rfl) dK_ret (.inr (by decide))))) dK_ret (by decide)) dK_ret (by decide) (by decide)) (dVar_ret rfl) (by omega)) (fin G1 ns f1 f2 hl hn f3 _)
  refine seqIf (decide ((0 : Int) < (ns.map D.int).length)) (dTest_ret _ (gtR (lenR (dVar_ret rfl) f2) dK_ret)) (fun hpos => ?_) fun _ => tail k0 none
  have hpos' : 0 < ns.length := by have := of_decide_eq_true hpos; simp at this; omega
  obtain ⟨j, hj, ej⟩ := emod_nat (x := (k0 : Int)) hpos'
  have lenE : ((ns.map D.int).length : Int) = (ns.length : Int) := by simp
  have hj2 : ns[j]? = some ns[j] := List.getElem?_eq_getElem hj
  have atj : L2.atI (ns.map D.int) (j : Int) = some (.int ns[j]) := DL.atI_nat (by rw [List.getElem?_map, hj2]; rfl)
  refine seqSet (.int j) (Ret.cast (modR (intR (dVar_ret rfl)) (lenR (dVar_ret rfl) f2) (by omega)) (by rw [lenE, ej])) ?_
  refine seqSet (.int ns[j]) (ixR (dVar_ret rfl) (dVar_ret rfl) f2 atj) ?_
  refine ifL (decide ((10 : Int) ^ 18 ≤ ns[j])) (dTest_ret _ (geR (dVar_ret rfl) (powR (n := 18) dK_ret dK_ret (by decide) (by decide)))) (fun _ => ?_) fun _ => tail ns[j] _
  have hnj := hn ns[j] (List.getElem_mem hj)
  refine seqPut q (ns.map .int) j j _ (fdivR (dVar_ret rfl) dK_ret (by decide) (by decide)) (dVar_ret rfl) (dVar_ret rfl) f2 (ixN_nat (by simpa using hj)) ?_
  refine dRet_ret _ (modR (modR (intR (dVar_ret rfl)) dK_ret (by decide)) (dVar_ret rfl) (by omega)) (fin _ (ns.set j (ns[j] / 1000003)) (by rw [dupd_ne ne]; exact f1) (by rw [dupd_same, List.map_set]) (by rw [List.length_set]; exact hl) (fun n hm => ?_) (fun b n1 n2 => by rw [dupd_ne n2]; exact f3 b n1 n2) _)
  rcases List.mem_or_eq_of_mem_set hm with h | h
  · exact hn n h
  · rw [h]
    have := hnj.1; have := hnj.2
    exact ⟨Int.ediv_nonneg hnj.1 (by decide), by omega⟩
theorem l_number_of (x_string : D) : LS [] [] (fun d => d) (envOf N_number_of [x_string]) (t_number_of K c) (F_number_of x_string) cEnd cNo cNo :=
 (ls_set_p lp_k (ls_to (e := [.val x_string, .val (.int 0), .no]) rfl (ls_forN (T := (fun x_s1 : D => [.no, .val x_s1, .no])) (s0 := (.int 0)) (li_it_p (lp_var rfl)) (.drop (.same (.drop .nil))) rfl (fun x_e x_s x_nx x_bk => (ls_one (ls_set (le_op loc_add (lv_of (le_op_pp loc_mul (lp_v (lp_var rfl)) (lp_v lp_k))) (lv_of (le_n_p loc_int (lapv_cons (lp_v (lp_var rfl)) lapv_nil)))) fun x_number => (ls_to (e := [.no, .val x_number, .val x_e]) rfl (ls_nxw (.drop (.same (.drop .nil))) rfl ⟨x_number, rfl, rfl⟩))))) fun x_s1 => (ls_retI (lp_e (lp_var rfl))))))
theorem b_number_of (T : Txt P w K mg base c) : Has P w K mg base 1 "number_of" s_number_of P_number_of (sp_number_of c) := has_number_of T (fun ds G Q E h => (by have := len1 h; simp only [P_number_of, List.length_cons, List.length_nil]; exact this)) fun ds G Q E h => (by
  have hl := len1 h
  match ds, hl, h with
  | [v0], _, h => exact fin_spM (l_number_of v0) h)
theorem l_is_number (x_value : D) (x_least : D) (x_most : D) : LS [] [] (fun d => d) (envOf N_is_number [x_value, x_least, x_most]) (t_is_number K c) (F_is_number x_value x_least x_most) cEnd cNo cNo :=
 (ls_retI (le_andV (le_n_p loc_isi (lapv_cons (lp_v (lp_var rfl)) (lapv_cons (lp_v lp_k) lapv_nil))) (le_andV (le_notV (le_n_p loc_isi (lapv_cons (lp_v (lp_var rfl)) (lapv_cons (lp_v lp_k) lapv_nil)))) (le_chain (loc_I0 _) (loc_I0 _) (lp_v (lp_var rfl)) (lp_v (lp_var rfl)) (lp_v (lp_var rfl))))))
theorem b_is_number (T : Txt P w K mg base c) : Has P w K mg base 1 "is_number" s_is_number P_is_number (sp_is_number c) := has_is_number T (fun ds G Q E h => (by have := len3 h; simp only [P_is_number, List.length_cons, List.length_nil]; exact this)) fun ds G Q E h => (by
  have hl := len3 h
  match ds, hl, h with
  | [v0, v1, v2], _, h => exact fin_spM (l_is_number v0 v1 v2) h)
theorem l_is_bits (x_value : D) (x_length : D) : LS [] [] (fun d => d) (envOf N_is_bits [x_value, x_length]) (t_is_bits K c) (F_is_bits x_value x_length) cEnd cNo cNo :=
 (ls_retI (le_andV (le_n_p loc_isi (lapv_cons (lp_v (lp_var rfl)) (lapv_cons (lp_v lp_k) lapv_nil))) (le_andV (le_op_mp (loc_eq _) (lv_of (le_n_p loc_len (lapv_cons (lp_v (lp_var rfl)) lapv_nil))) (lp_v (lp_var rfl))) (le_n loc_all (lav_cons (lv_of (le_lcN (li_it_p (lp_var rfl)) (fun x_e => (le_op_pp (loc_in _) (lp_v (lp_var rfl)) (lp_v lp_k))))) lav_nil)))))
theorem b_is_bits (T : Txt P w K mg base c) : Has P w K mg base 1 "is_bits" s_is_bits P_is_bits (sp_is_bits c) := has_is_bits T (fun ds G Q E h => (by have := len2 h; simp only [P_is_bits, List.length_cons, List.length_nil]; exact this)) fun ds G Q E h => (by
  have hl := len2 h
  match ds, hl, h with
  | [v0, v1], _, h => exact fin_spM (l_is_bits v0 v1) h)
theorem l_is_row (x_value : D) (x_many : D) (x_length : D) : LS [] [] (fun d => d) (envOf N_is_row [x_value, x_many, x_length]) (t_is_row K c) (F_is_row x_value x_many x_length) cEnd cNo cNo :=
 (ls_retI (le_andV (le_n_p loc_isi (lapv_cons (lp_v (lp_var rfl)) (lapv_cons (lp_v lp_k) lapv_nil))) (le_andV (le_op_mp (loc_eq _) (lv_of (le_n_p loc_len (lapv_cons (lp_v (lp_var rfl)) lapv_nil))) (lp_v (lp_var rfl))) (le_n loc_all (lav_cons (lv_of (le_lcN (li_it_p (lp_var rfl)) (fun x_e => (le_call_p (lap_cons (lp_var rfl) (lap_cons (lp_var rfl) lap_nil)))))) lav_nil)))))
theorem b_is_row (T : Txt P w K mg base c) : Has P w K mg base 2 "is_row" s_is_row P_is_row (sp_is_row c) := has_is_row T (b_is_bits T) (fun ds G Q E h => (by have := len3 h; simp only [P_is_row, List.length_cons, List.length_nil]; exact this)) fun ds G Q E h => (by
  have hl := len3 h
  match ds, hl, h with
  | [v0, v1, v2], _, h => exact fin_spM (l_is_row v0 v1 v2) h)
theorem l_is_generator (x_block : D) : LS [] [] (fun d => d) (envOf N_is_generator [x_block]) (t_is_generator K c) (F_is_generator x_block) cEnd cNo cNo :=
 (ls_to (e := [.val x_block]) rfl (ls_seq1 (ls_if (lt_or (lt_not (lt_tru (lv_of (le_n_p loc_isi (lapv_cons (lp_v (lp_var rfl)) (lapv_cons (lp_v lp_k) lapv_nil)))))) (lt_or (lt_test (le_op_mp (loc_eq _) (lv_of (le_n_p loc_len (lapv_cons (lp_v (lp_var rfl)) lapv_nil))) (lp_v lp_k))) (lt_test (le_op_mp (loc_eq _) (lv_of (le_op_pp loc_ix (lp_v (lp_var rfl)) (lp_v lp_k))) (lp_v lp_k))))) (ls_retI (lp_e lp_k)) (ls_end ⟨rfl, rfl⟩)) .nil (ls_to (e := [.val x_block]) rfl (ls_seq1 (ls_if (lt_or (lt_not (lt_tru (lv_of (le_call (la_cons (le_op_pp loc_ix (lp_v (lp_var rfl)) (lp_v lp_k)) (la_consp lp_k (la_consp lp_k la_nil))))))) (lt_not (lt_tru (lv_of (le_call (la_cons (le_op_pp loc_ix (lp_v (lp_var rfl)) (lp_v lp_k)) (la_consp lp_k (la_consp lp_k la_nil)))))))) (ls_retI (lp_e lp_k)) (ls_end ⟨rfl, rfl⟩)) .nil (ls_retI (le_call (la_cons (le_op_pp loc_ix (lp_v (lp_var rfl)) (lp_v lp_k)) (la_cons (le_op_pm (loc_I _ _) (lp_v lp_k) (lv_of (le_op_pp loc_ix (lp_v (lp_var rfl)) (lp_v lp_k)))) (la_cons (le_op_pp loc_ix (lp_v (lp_var rfl)) (lp_v lp_k)) la_nil)))))))))
theorem b_is_generator (T : Txt P w K mg base c) : Has P w K mg base 3 "is_generator" s_is_generator P_is_generator (sp_is_generator c) := has_is_generator T (b_is_number T) (b_is_row T) (fun ds G Q E h => (by have := len1 h; simp only [P_is_generator, List.length_cons, List.length_nil]; exact this)) fun ds G Q E h => (by
  have hl := len1 h
  match ds, hl, h with
  | [v0], _, h => exact fin_spM (l_is_generator v0) h)
theorem l_is_function (x_block : D) : LS [] [] (fun d => d) (envOf N_is_function [x_block]) (t_is_function K c) (F_is_function x_block) cEnd cNo cNo :=
 (ls_to (e := [.val x_block, .no]) rfl (ls_seq1 (ls_if (lt_or (lt_not (lt_tru (lv_of (le_n_p loc_isi (lapv_cons (lp_v (lp_var rfl)) (lapv_cons (lp_v lp_k) lapv_nil)))))) (lt_or (lt_test (le_op_mp (loc_eq _) (lv_of (le_n_p loc_len (lapv_cons (lp_v (lp_var rfl)) lapv_nil))) (lp_v lp_k))) (lt_test (le_op_mp (loc_eq _) (lv_of (le_op_pp loc_ix (lp_v (lp_var rfl)) (lp_v lp_k))) (lp_v lp_k))))) (ls_retI (lp_e lp_k)) (ls_end ⟨rfl, rfl⟩)) .nil (ls_to (e := [.val x_block, .no]) rfl (ls_seq1 (ls_if (lt_or (lt_not (lt_tru (lv_of (le_call (la_cons (le_op_pp loc_ix (lp_v (lp_var rfl)) (lp_v lp_k)) (la_consp lp_k (la_consp lp_k la_nil))))))) (lt_or (lt_not (lt_tru (lv_of (le_call (la_cons (le_op_pp loc_ix (lp_v (lp_var rfl)) (lp_v lp_k)) (la_consp lp_k (la_consp lp_k la_nil))))))) (lt_test (le_op_mp (loc_I0 _) (lv_of (le_op loc_add (lv_of (le_op_pp loc_ix (lp_v (lp_var rfl)) (lp_v lp_k))) (lv_of (le_op_pp loc_ix (lp_v (lp_var rfl)) (lp_v lp_k))))) (lp_v lp_k))))) (ls_retI (lp_e lp_k)) (ls_end ⟨rfl, rfl⟩)) .nil (ls_to (e := [.val x_block, .no]) rfl (ls_seq1 (ls_if (lt_or (lt_not (lt_tru (lv_of (le_call (la_cons (le_op_pp loc_ix (lp_v (lp_var rfl)) (lp_v lp_k)) (la_consp lp_k (la_consp lp_k la_nil))))))) (lt_not (lt_tru (lv_of (le_n loc_isi (lav_cons (lv_of (le_op_pp loc_ix (lp_v (lp_var rfl)) (lp_v lp_k))) (lav_consp (lp_v lp_k) lav_nil))))))) (ls_retI (lp_e lp_k)) (ls_end ⟨rfl, rfl⟩)) .nil (ls_retI (le_andV (le_op (loc_eq _) (lv_of (le_n loc_len (lav_cons (lv_of (le_op_pp loc_ix (lp_v (lp_var rfl)) (lp_v lp_k))) lav_nil))) (lv_of (le_op_pm (loc_I _ _) (lp_v lp_k) (lv_of (le_op_pp loc_ix (lp_v (lp_var rfl)) (lp_v lp_k)))))) (le_n loc_all (lav_cons (lv_of (le_lcN (li_it (le_op_pp loc_ix (lp_v (lp_var rfl)) (lp_v lp_k))) (fun x_e => (le_call (la_consp (lp_var rfl) (la_cons (le_op_pm (loc_I _ _) (lp_v lp_k) (lv_of (le_op_pp loc_ix (lp_v (lp_var rfl)) (lp_v lp_k)))) (la_cons (le_op_pp loc_ix (lp_v (lp_var rfl)) (lp_v lp_k)) la_nil))))))) lav_nil))))))))))
theorem b_is_function (T : Txt P w K mg base c) : Has P w K mg base 3 "is_function" s_is_function P_is_function (sp_is_function c) := has_is_function T (b_is_number T) (b_is_row T) (fun ds G Q E h => (by have := len1 h; simp only [P_is_function, List.length_cons, List.length_nil]; exact this)) fun ds G Q E h => (by
  have hl := len1 h
  match ds, hl, h with
  | [v0], _, h => exact fin_spM (l_is_function v0) h)
theorem l_check_block (x_block : D) : LS [] [] (fun d => d) (envOf N_check_block [x_block]) (t_check_block K c) (F_check_block c x_block) cEnd cNo cNo :=
 (ls_to (e := [.val x_block]) rfl (ls_if (lt_and (lt_not (lt_tru (lv_of (le_call_p (lap_cons (lp_var rfl) lap_nil))))) (lt_not (lt_tru (lv_of (le_call_p (lap_cons (lp_var rfl) lap_nil)))))) ls_raise0 (ls_end rfl)))
theorem b_check_block (T : Txt P w K mg base c) : Has P w K mg base 4 "check_block" s_check_block P_check_block (sp_check_block c) := has_check_block T (b_is_generator T) (b_is_function T) (fun ds G Q E h => (by have := len1 h; simp only [P_check_block, List.length_cons, List.length_nil]; exact this)) fun ds G Q E h => (by
  have hl := len1 h
  match ds, hl, h with
  | [v0], _, h => exact fin_spM (l_check_block v0) h)
theorem l_row_at (x_block : D) (x_string : D) : LS [] [] (fun d => d) (envOf N_row_at [x_block, x_string]) (t_row_at K c) (F_row_at x_block x_string) cEnd cNo cNo :=
 (ls_retI (le_op loc_ix (lv_of (le_op_pp loc_ix (lp_v (lp_var rfl)) (lp_v lp_k))) (lv_of (le_call_p (lap_cons (lp_var rfl) lap_nil)))))
theorem b_row_at (T : Txt P w K mg base c) : Has P w K mg base 2 "row_at" s_row_at P_row_at (sp_row_at c) := has_row_at T (b_number_of T) (fun ds G Q E h => (by have := len2 h; simp only [P_row_at, List.length_cons, List.length_nil]; exact this)) fun ds G Q E h => (by
  have hl := len2 h
  match ds, hl, h with
  | [v0, v1], _, h => exact fin_spM (l_row_at v0 v1) h)
theorem l_row_of (x_block : D) (x_string : D) : LS [] [] (fun d => d) (envOf N_row_of [x_block, x_string]) (t_row_of K c) (F_row_of c x_block x_string) cEnd cNo cNo :=
 (ls_drop (le_call_p (lap_cons (lp_var rfl) lap_nil)) (ls_retI (le_call_p (lap_cons (lp_var rfl) (lap_cons (lp_var rfl) lap_nil)))))
theorem b_row_of (T : Txt P w K mg base c) : Has P w K mg base 5 "row_of" s_row_of P_row_of (sp_row_of c) := has_row_of T (b_check_block T) (b_row_at T) (fun ds G Q E h => (by have := len2 h; simp only [P_row_of, List.length_cons, List.length_nil]; exact this)) fun ds G Q E h => (by
  have hl := len2 h
  match ds, hl, h with
  | [v0, v1], _, h => exact fin_spM (l_row_of v0 v1) h)
theorem l_check_even (x_f : D) : LS [] [] (fun d => d) (envOf N_check_even [x_f]) (t_check_even K c) (F_check_even c x_f) cEnd cNo cNo :=
 (ls_drop (le_call_p (lap_cons (lp_var rfl) lap_nil)) (ls_to (e := [.val x_f]) rfl (ls_if (lt_or (lt_test (le_op_mp (loc_eq _) (lv_of (le_op_pp loc_ix (lp_v (lp_var rfl)) (lp_v lp_k))) (lp_v lp_k))) (lt_test (le_op (loc_eq _) (lv_of (le_op_pp loc_ix (lp_v (lp_var rfl)) (lp_v lp_k))) (lv_of (le_op_pp loc_ix (lp_v (lp_var rfl)) (lp_v lp_k)))))) ls_raise0 (ls_end rfl))))
theorem b_check_even (T : Txt P w K mg base c) : Has P w K mg base 5 "check_even" s_check_even P_check_even (sp_check_even c) := has_check_even T (b_check_block T) (fun ds G Q E h => (by have := len1 h; simp only [P_check_even, List.length_cons, List.length_nil]; exact this)) fun ds G Q E h => (by
  have hl := len1 h
  match ds, hl, h with
  | [v0], _, h => exact fin_spM (l_check_even v0) h)
theorem l_check_depth (x_depth : D) : LS [] [] (fun d => d) (envOf N_check_depth [x_depth]) (t_check_depth K c) (F_check_depth c x_depth) cEnd cNo cNo :=
 (ls_to (e := [.val x_depth]) rfl (ls_if (lt_not (lt_tru (lv_of (le_call_p (lap_cons (lp_var rfl) (lap_cons lp_k (lap_cons lp_k lap_nil))))))) ls_raise0 (ls_end rfl)))
theorem b_check_depth (T : Txt P w K mg base c) : Has P w K mg base 2 "check_depth" s_check_depth P_check_depth (sp_check_depth c) := has_check_depth T (b_is_number T) (fun ds G Q E h => (by have := len1 h; simp only [P_check_depth, List.length_cons, List.length_nil]; exact this)) fun ds G Q E h => (by
  have hl := len1 h
  match ds, hl, h with
  | [v0], _, h => exact fin_spM (l_check_depth v0) h)
theorem l_check_numbers (x_depth : D) (x_message : D) : LS [] [] (fun d => d) (envOf N_check_numbers [x_depth, x_message]) (t_check_numbers K c) (F_check_numbers c x_depth x_message) cEnd cNo cNo :=
 (ls_to (e := [.val x_depth, .val x_message, .no]) rfl (ls_one (ls_forN (T := (fun x_s1 : Unit => [.val x_depth, .no, .no])) (s0 := ()) (li_it_p (lp_var rfl)) (.same (.drop (.drop .nil))) rfl (fun x_e x_s x_nx x_bk => (ls_to (e := [.val x_depth, .no, .val x_e]) rfl (ls_if (lt_not (lt_tru (lv_of (le_call_p (lap_cons (lp_var rfl) (lap_cons lp_k (lap_cons (lp_var rfl) lap_nil))))))) ls_raise0 (ls_to (e := [.val x_depth, .no, .val x_e]) rfl (ls_nxw (.same (.drop (.drop .nil))) rfl ⟨(), rfl, rfl⟩))))) fun x_s1 => (ls_end rfl))))
theorem b_check_numbers (T : Txt P w K mg base c) : Has P w K mg base 2 "check_numbers" s_check_numbers P_check_numbers (sp_check_numbers c) := has_check_numbers T (b_is_number T) (fun ds G Q E h => (by have := len2 h; simp only [P_check_numbers, List.length_cons, List.length_nil]; exact this)) fun ds G Q E h => (by
  have hl := len2 h
  match ds, hl, h with
  | [v0, v1], _, h => exact fin_spM (l_check_numbers v0 v1) h)
theorem l_way_on (x_f : D) (x_string : D) (x_many : D) : LS [] [] (fun d => d) (envOf N_way_on [x_f, x_string, x_many]) (t_way_on K c) (F_way_on x_f x_string x_many) cEnd cNo cNo :=
 (ls_new (ln_lst_p (lap_cons (lp_var rfl) lap_nil)) fun x_way => (ls_to (e := [.val x_f, .val x_string, .val x_many, .own x_way, .no]) rfl (ls_forN (T := (fun x_s1 : List D => [.val x_f, .no, .no, .own x_s1, .no])) (s0 := x_way) (li_rng1_p (lap_cons (lp_var rfl) lap_nil)) (.same (.drop (.drop (.same (.drop .nil))))) rfl (fun x_e x_s x_nx x_bk => (ls_one (ls_appendX (i := 3) rfl (le_call (la_consp (lp_var rfl) (la_cons (le_op_pm loc_ix (lp_own rfl) (lv_of (le_un_p loc_neg (lp_v lp_k)))) la_nil))) fun x_d => (ls_to (e := [.val x_f, .no, .no, .own (x_s ++ [x_d]), .val x_e]) rfl (ls_nxw (.same (.drop (.drop (.same (.drop .nil))))) rfl ⟨(x_s ++ [x_d]), rfl, rfl⟩))))) fun x_s1 => (ls_frz (i := 3) rfl (ls_retI (lp_e (lp_var rfl)))))))
theorem b_way_on (T : Txt P w K mg base c) : Has P w K mg base 3 "way_on" s_way_on P_way_on (sp_way_on c) := has_way_on T (b_row_at T) (fun ds G Q E h => (by have := len3 h; simp only [P_way_on, List.length_cons, List.length_nil]; exact this)) fun ds G Q E h => (by
  have hl := len3 h
  match ds, hl, h with
  | [v0, v1, v2], _, h => exact fin_spM (l_way_on v0 v1 v2) h)
theorem l_led (x_f : D) (x_string : D) (x_times : D) : LS [] [] (fun d => d) (envOf N_led [x_f, x_string, x_times]) (t_led K c) (F_led c x_f x_string x_times) cEnd cNo cNo :=
 (ls_drop (le_call_p (lap_cons (lp_var rfl) lap_nil)) (ls_to (e := [.val x_f, .val x_string, .val x_times]) rfl (ls_seq1 (ls_if (lt_not (lt_tru (lv_of (le_call_p (lap_cons (lp_var rfl) (lap_cons lp_k (lap_cons lp_k lap_nil))))))) ls_raise0 (ls_end ⟨rfl, rfl⟩)) .nil (ls_retI (le_op loc_ix (lv_of (le_call_p (lap_cons (lp_var rfl) (lap_cons (lp_var rfl) (lap_cons (lp_var rfl) lap_nil))))) (lv_of (le_un_p loc_neg (lp_v lp_k))))))))
theorem b_led (T : Txt P w K mg base c) : Has P w K mg base 6 "led" s_led P_led (sp_led c) := has_led T (b_check_even T) (b_is_number T) (b_way_on T) (fun ds G Q E h => (by have := len3 h; simp only [P_led, List.length_cons, List.length_nil]; exact this)) fun ds G Q E h => (by
  have hl := len3 h
  match ds, hl, h with
  | [v0, v1, v2], _, h => exact fin_spM (l_led v0 v1 v2) h)
theorem l_rises_at (x_message : D) (x_other : D) : LS [] [] (fun d => d) (envOf N_rises_at [x_message, x_other]) (t_rises_at K c) (F_rises_at x_message x_other) cEnd cNo cNo :=
 (ls_retI (le_lcf (li_enum_p (lap_cons (lp_var rfl) lap_nil)) lg_2 (fun x_e => (lt_test (le_op_mp (loc_I0 _) (lv_of (le_op_pp loc_ix (lp_v (lp_var rfl)) (lp_v (lp_var rfl)))) (lp_v (lp_var rfl))))) (fun x_e => (lp_e (lp_var rfl)))))
theorem b_rises_at (T : Txt P w K mg base c) : Has P w K mg base 1 "rises_at" s_rises_at P_rises_at (sp_rises_at c) := has_rises_at T (fun ds G Q E h => (by have := len2 h; simp only [P_rises_at, List.length_cons, List.length_nil]; exact this)) fun ds G Q E h => (by
  have hl := len2 h
  match ds, hl, h with
  | [v0, v1], _, h => exact fin_spM (l_rises_at v0 v1) h)
theorem l_is_steady (x_depth : D) (x_messages : D) : LS [] [] (fun d => d) (envOf N_is_steady [x_depth, x_messages]) (t_is_steady K c) (F_is_steady c x_depth x_messages) cEnd cNo cNo :=
 (ls_drop (le_call_p (lap_cons (lp_var rfl) lap_nil)) (ls_to (e := [.val x_depth, .val x_messages, .no, .no, .no, .no]) rfl (ls_forN (T := (fun x_s1 : Unit => [.val x_depth, .val x_messages, .no, .no, .no, .no])) (s0 := ()) (li_it_p (lp_var rfl)) (.same (.same (.drop (.drop (.drop (.drop .nil)))))) rfl (fun x_e x_s x_nx x_bk => (ls_one (ls_drop (le_call_p (lap_cons (lp_var rfl) (lap_cons (lp_var rfl) lap_nil))) (ls_to (e := [.val x_depth, .val x_messages, .val x_e, .no, .no, .no]) rfl (ls_nxw (.same (.same (.drop (.drop (.drop (.drop .nil)))))) rfl ⟨(), rfl, rfl⟩))))) fun x_s1 => (ls_to (e := [.val x_depth, .val x_messages, .no, .no, .no, .no]) rfl (ls_for (T := (fun x_s3 : Unit => [.no, .val x_messages, .no, .no, .no, .no])) (s0 := ()) (li_enum_p (lap_cons (lp_var rfl) lap_nil)) (.drop (.same (.drop (.drop (.drop (.drop .nil)))))) rfl (fun _ => lg_2) (fun x_e1 x_s2 x_nx1 x_bk1 => (ls_set (le_op loc_add (lv_of (le_slice loc_sl (lp_v (lp_var rfl)) lo_none (lo_some (lp_e (lp_var rfl))))) (lv_of (le_slice loc_sl (lp_v (lp_var rfl)) (lo_some (le_op_pp loc_add (lp_v (lp_var rfl)) (lp_v lp_k))) lo_none))) fun x_others => (ls_to (e := [.no, .val x_messages, .val x_e1.2, .val x_e1.1, .val x_others, .no]) rfl (ls_if (lt_not (lt_tru (lv_of (le_n loc_all (lav_cons (lv_of (le_lcN (li_it_p (lp_var rfl)) (fun x_e2 => (le_op_mp (loc_I0 _) (lv_of (le_n loc_len (lav_cons (lv_of (le_call_p (lap_cons (lp_var rfl) (lap_cons (lp_var rfl) lap_nil)))) lav_nil))) (lp_v lp_k))))) lav_nil))))) (ls_retI (lp_e lp_k)) (ls_to (e := [.no, .val x_messages, .val x_e1.2, .val x_e1.1, .val x_others, .no]) rfl (ls_nxw (.drop (.same (.drop (.drop (.drop (.drop .nil)))))) rfl ⟨(), rfl, rfl⟩)))))) fun x_s3 => (ls_retI (lp_e lp_k)))))))
theorem b_is_steady (T : Txt P w K mg base c) : Has P w K mg base 3 "is_steady" s_is_steady P_is_steady (sp_is_steady c) := has_is_steady T (b_check_depth T) (b_check_numbers T) (b_rises_at T) (fun ds G Q E h => (by have := len2 h; simp only [P_is_steady, List.length_cons, List.length_nil]; exact this)) fun ds G Q E h => (by
  have hl := len2 h
  match ds, hl, h with
  | [v0, v1], _, h => exact fin_spM (l_is_steady v0 v1) h)
theorem l_level_messages (x_k : D) (x_depth : D) (x_total : D) : LS [] [] (fun d => d) (envOf N_level_messages [x_k, x_depth, x_total]) (t_level_messages K c) (F_level_messages c x_k x_depth x_total) cEnd cNo cNo :=
 (ls_to (e := [.val x_k, .val x_depth, .val x_total, .no, .no, .no, .no]) rfl (ls_seq1 (ls_if (lt_not (lt_tru (lv_of (le_call_p (lap_cons (lp_var rfl) (lap_cons lp_k (lap_cons lp_k lap_nil))))))) (ls_to (e := [.val x_k, .val x_depth, .val x_total, .no, .no, .no, .no]) rfl ls_raise0) (ls_end ⟨rfl, rfl⟩)) .nil (ls_to (e := [.val x_k, .val x_depth, .val x_total, .no, .no, .no, .no]) rfl (ls_drop (le_call_p (lap_cons (lp_var rfl) lap_nil)) (ls_to (e := [.val x_k, .val x_depth, .val x_total, .no, .no, .no, .no]) rfl (ls_set (le_lst (la_cons (le_tup_p lap_nil) la_nil)) fun x_rows => (ls_to (e := [.val x_k, .val x_depth, .val x_total, .val x_rows, .no, .no, .no]) rfl (ls_forN (T := (fun x_s1 : D => [.no, .val x_depth, .val x_total, .val x_s1, .no, .no, .no])) (s0 := x_rows) (li_rng1_p (lap_cons (lp_var rfl) lap_nil)) (.drop (.same (.same (.same (.drop (.drop (.drop .nil))))))) rfl (fun x_e x_s x_nx x_bk => (ls_to (e := [.no, .val x_depth, .val x_total, .val x_s, .val x_e, .no, .no]) rfl (ls_one (ls_set (le_lcc (li_it_p (lp_var rfl)) lg_name (fun x_e1 => lt_yes) (fun x_e1 => (li_rng1 (la_cons (le_op_pp loc_add (lp_v (lp_var rfl)) (lp_v lp_k)) la_nil))) (fun x_e1 => lg_name) (fun x_e1 x_e2 => lt_yes) (fun x_e1 x_e2 => (le_op_pm loc_add (lp_v (lp_var rfl)) (lv_of (le_tup_p (lap_cons (lp_var rfl) lap_nil)))))) fun x_rows1 => (ls_to (e := [.no, .val x_depth, .val x_total, .val x_rows1, .val x_e, .no, .no]) rfl (ls_nxw (.drop (.same (.same (.same (.drop (.drop (.drop .nil))))))) rfl ⟨x_rows1, rfl, rfl⟩)))))) fun x_s1 => (ls_to (e := [.no, .val x_depth, .val x_total, .val x_s1, .no, .no, .no]) rfl (ls_retI (le_n loc_tuple (lav_cons (lv_of (le_lcfN (li_it_p (lp_var rfl)) (fun x_e3 => (lt_test (le_op_mp (loc_eq _) (lv_of (le_n_p loc_sum (lapv_cons (lp_v (lp_var rfl)) lapv_nil))) (lp_v (lp_var rfl))))) (fun x_e3 => (lp_e (lp_var rfl))))) lav_nil))))))))))))
theorem b_level_messages (T : Txt P w K mg base c) : Has P w K mg base 3 "level_messages" s_level_messages P_level_messages (sp_level_messages c) := has_level_messages T (b_is_number T) (b_check_depth T) (fun ds G Q E h => (by have := len3 h; simp only [P_level_messages, List.length_cons, List.length_nil]; exact this)) fun ds G Q E h => (by
  have hl := len3 h
  match ds, hl, h with
  | [v0, v1, v2], _, h => exact fin_spM (l_level_messages v0 v1 v2) h)
theorem l_signed (x_f : D) (x_depth : D) (x_secrets : D) (x_message : D) : LS [] [] (fun d => d) (envOf N_signed [x_f, x_depth, x_secrets, x_message]) (t_signed K c) (F_signed c x_f x_depth x_secrets x_message) cEnd cNo cNo :=
 (ls_drop (le_call_p (lap_cons (lp_var rfl) lap_nil)) (ls_drop (le_call_p (lap_cons (lp_var rfl) lap_nil)) (ls_drop (le_call_p (lap_cons (lp_var rfl) (lap_cons (lp_var rfl) lap_nil))) (ls_retI (le_n loc_tuple (lav_cons (lv_of (le_lc (li_zip_p (lap_cons (lp_var rfl) (lap_cons (lp_var rfl) lap_nil))) lg_2 (fun x_e => (le_op loc_ix (lv_of (le_call (la_consp (lp_var rfl) (la_consp (lp_var rfl) (la_cons (le_op_pp (loc_I0 _) (lp_v (lp_var rfl)) (lp_v (lp_var rfl))) la_nil))))) (lv_of (le_un_p loc_neg (lp_v lp_k))))))) lav_nil))))))
theorem b_signed (T : Txt P w K mg base c) : Has P w K mg base 6 "signed" s_signed P_signed (sp_signed c) := has_signed T (b_check_even T) (b_check_depth T) (b_check_numbers T) (b_way_on T) (fun ds G Q E h => (by have := len4 h; simp only [P_signed, List.length_cons, List.length_nil]; exact this)) fun ds G Q E h => (by
  have hl := len4 h
  match ds, hl, h with
  | [v0, v1, v2, v3], _, h => exact fin_spM (l_signed v0 v1 v2 v3) h)
theorem l_comes_up (x_f : D) (x_tops : D) (x_message : D) (x_signature : D) : LS [] [] (fun d => d) (envOf N_comes_up [x_f, x_tops, x_message, x_signature]) (t_comes_up K c) (F_comes_up x_f x_tops x_message x_signature) cEnd cNo cNo :=
 (ls_to (e := [.val x_f, .val x_tops, .val x_message, .val x_signature, .no, .no, .no]) rfl (ls_set (le_lc (li_zip_p (lap_cons (lp_var rfl) (lap_cons (lp_var rfl) lap_nil))) lg_2 (fun x_e => (le_op loc_ix (lv_of (le_call_p (lap_cons (lp_var rfl) (lap_cons (lp_var rfl) (lap_cons (lp_var rfl) lap_nil))))) (lv_of (le_un_p loc_neg (lp_v lp_k)))))) fun x_ends => (ls_to (e := [.val x_f, .val x_tops, .val x_message, .val x_signature, .val x_ends, .no, .no]) rfl (ls_retI (le_andV (le_op (loc_eq _) (lv_of (le_n_p loc_len (lapv_cons (lp_v (lp_var rfl)) lapv_nil))) (lv_of (le_n_p loc_len (lapv_cons (lp_v (lp_var rfl)) lapv_nil)))) (le_op_mp (loc_eq _) (lv_of (le_n_p loc_tuple (lapv_cons (lp_v (lp_var rfl)) lapv_nil))) (lp_v (lp_var rfl))))))))
theorem b_comes_up (T : Txt P w K mg base c) : Has P w K mg base 4 "comes_up" s_comes_up P_comes_up (sp_comes_up c) := has_comes_up T (b_way_on T) (fun ds G Q E h => (by have := len4 h; simp only [P_comes_up, List.length_cons, List.length_nil]; exact this)) fun ds G Q E h => (by
  have hl := len4 h
  match ds, hl, h with
  | [v0, v1, v2, v3], _, h => exact fin_spM (l_comes_up v0 v1 v2 v3) h)
theorem l_is_signed (x_f : D) (x_depth : D) (x_tops : D) (x_message : D) (x_signature : D) : LS [] [] (fun d => d) (envOf N_is_signed [x_f, x_depth, x_tops, x_message, x_signature]) (t_is_signed K c) (F_is_signed c x_f x_depth x_tops x_message x_signature) cEnd cNo cNo :=
 (ls_drop (le_call_p (lap_cons (lp_var rfl) lap_nil)) (ls_drop (le_call_p (lap_cons (lp_var rfl) lap_nil)) (ls_drop (le_call_p (lap_cons (lp_var rfl) (lap_cons (lp_var rfl) lap_nil))) (ls_retI (le_call_p (lap_cons (lp_var rfl) (lap_cons (lp_var rfl) (lap_cons (lp_var rfl) (lap_cons (lp_var rfl) lap_nil)))))))))
theorem b_is_signed (T : Txt P w K mg base c) : Has P w K mg base 6 "is_signed" s_is_signed P_is_signed (sp_is_signed c) := has_is_signed T (b_check_even T) (b_check_depth T) (b_check_numbers T) (b_comes_up T) (fun ds G Q E h => (by have := len5 h; simp only [P_is_signed, List.length_cons, List.length_nil]; exact this)) fun ds G Q E h => (by
  have hl := len5 h
  match ds, hl, h with
  | [v0, v1, v2, v3, v4], _, h => exact fin_spM (l_is_signed v0 v1 v2 v3 v4) h)
theorem l_turned_by (x_f : D) (x_depth : D) (x_tops : D) (x_message : D) (x_signature : D) (x_other : D) (x_forged : D) : LS [] [] (fun d => d) (envOf N_turned_by [x_f, x_depth, x_tops, x_message, x_signature, x_other, x_forged]) (t_turned_by K c) (F_turned_by c x_f x_depth x_tops x_message x_signature x_other x_forged) cEnd cNo cNo :=
 (ls_to (e := [.val x_f, .val x_depth, .val x_tops, .val x_message, .val x_signature, .val x_other, .val x_forged, .no, .no, .no, .no, .no, .no, .no, .no]) rfl (ls_drop (le_call_p (lap_cons (lp_var rfl) lap_nil)) (ls_to (e := [.val x_f, .val x_depth, .val x_tops, .val x_message, .val x_signature, .val x_other, .val x_forged, .no, .no, .no, .no, .no, .no, .no, .no]) rfl (ls_drop (le_call_p (lap_cons (lp_var rfl) lap_nil)) (ls_to (e := [.val x_f, .val x_depth, .val x_tops, .val x_message, .val x_signature, .val x_other, .val x_forged, .no, .no, .no, .no, .no, .no, .no, .no]) rfl (ls_drop (le_call_p (lap_cons (lp_var rfl) (lap_cons (lp_var rfl) lap_nil))) (ls_to (e := [.val x_f, .val x_depth, .val x_tops, .val x_message, .val x_signature, .val x_other, .val x_forged, .no, .no, .no, .no, .no, .no, .no, .no]) rfl (ls_drop (le_call_p (lap_cons (lp_var rfl) (lap_cons (lp_var rfl) lap_nil))) (ls_to (e := [.val x_f, .val x_depth, .val x_tops, .val x_message, .val x_signature, .val x_other, .val x_forged, .no, .no, .no, .no, .no, .no, .no, .no]) rfl (ls_set (le_call_p (lap_cons (lp_var rfl) (lap_cons (lp_var rfl) lap_nil))) fun x_places => (ls_to (e := [.val x_f, .val x_depth, .val x_tops, .val x_message, .val x_signature, .val x_other, .val x_forged, .val x_places, .no, .no, .no, .no, .no, .no, .no]) rfl (ls_seq1 (ls_if (lt_or (lt_test (le_op_mp (loc_eq _) (lv_of (le_n_p loc_len (lapv_cons (lp_v (lp_var rfl)) lapv_nil))) (lp_v lp_k))) (lt_or (lt_not (lt_tru (lv_of (le_call_p (lap_cons (lp_var rfl) (lap_cons (lp_var rfl) (lap_cons (lp_var rfl) (lap_cons (lp_var rfl) lap_nil)))))))) (lt_not (lt_tru (lv_of (le_call_p (lap_cons (lp_var rfl) (lap_cons (lp_var rfl) (lap_cons (lp_var rfl) (lap_cons (lp_var rfl) lap_nil)))))))))) (ls_to (e := [.val x_f, .val x_depth, .val x_tops, .val x_message, .val x_signature, .val x_other, .val x_forged, .val x_places, .no, .no, .no, .no, .no, .no, .no]) rfl ls_raise0) (ls_end ⟨rfl, rfl⟩)) .nil (ls_to (e := [.val x_f, .val x_depth, .val x_tops, .val x_message, .val x_signature, .val x_other, .val x_forged, .val x_places, .no, .no, .no, .no, .no, .no, .no]) rfl (ls_set (le_op_pp loc_ix (lp_v (lp_var rfl)) (lp_v lp_k)) fun x_place => (ls_to (e := [.val x_f, .val x_depth, .val x_tops, .val x_message, .val x_signature, .val x_other, .val x_forged, .val x_places, .val x_place, .no, .no, .no, .no, .no, .no]) rfl (ls_set (le_op loc_ix (lv_of (le_call (la_consp (lp_var rfl) (la_cons (le_op_pp loc_ix (lp_v (lp_var rfl)) (lp_v (lp_var rfl))) (la_cons (le_op_mp (loc_I0 _) (lv_of (le_op (loc_I0 _) (lv_of (le_op_pp loc_ix (lp_v (lp_var rfl)) (lp_v (lp_var rfl)))) (lv_of (le_op_pp loc_ix (lp_v (lp_var rfl)) (lp_v (lp_var rfl)))))) (lp_v lp_k)) la_nil))))) (lv_of (le_un_p loc_neg (lp_v lp_k)))) fun x_string => (ls_to (e := [.val x_f, .val x_depth, .val x_tops, .val x_message, .val x_signature, .val x_other, .val x_forged, .val x_places, .val x_place, .val x_string, .no, .no, .no, .no, .no]) rfl (ls_set (le_call (la_consp (lp_var rfl) (la_consp (lp_var rfl) (la_cons (le_op_mp loc_add (lv_of (le_op_pp loc_ix (lp_v (lp_var rfl)) (lp_v (lp_var rfl)))) (lp_v lp_k)) la_nil)))) fun x_way => (ls_to (e := [.val x_f, .val x_depth, .val x_tops, .val x_message, .val x_signature, .val x_other, .val x_forged, .val x_places, .val x_place, .val x_string, .val x_way, .no, .no, .no, .no]) rfl (ls_set (le_call (la_consp (lp_var rfl) (la_cons (le_op_pp loc_ix (lp_v (lp_var rfl)) (lp_v (lp_var rfl))) (la_cons (le_op_pp loc_ix (lp_v (lp_var rfl)) (lp_v (lp_var rfl))) la_nil)))) fun x_told => (ls_to (e := [.val x_f, .val x_depth, .val x_tops, .val x_message, .val x_signature, .val x_other, .val x_forged, .val x_places, .val x_place, .val x_string, .val x_way, .val x_told, .no, .no, .no]) rfl (ls_set (le_lcf (li_zip (la_cons (le_slice loc_sl (lp_v (lp_var rfl)) (lo_some (lp_e lp_k)) lo_none) (la_consp (lp_var rfl) la_nil))) lg_2 (fun x_e => (lt_test (le_op_pp (loc_eq _) (lp_v (lp_var rfl)) (lp_v (lp_var rfl))))) (fun x_e => (le_tup_p (lap_cons (lp_var rfl) (lap_cons (lp_var rfl) lap_nil))))) fun x_unlike => (ls_to (e := [.val x_f, .val x_depth, .val x_tops, .val x_message, .val x_signature, .val x_other, .val x_forged, .val x_places, .val x_place, .val x_string, .val x_way, .val x_told, .val x_unlike, .no, .no]) rfl (ls_retI (le_if (lt_test (le_op_mp (loc_eq _) (lv_of (le_n_p loc_len (lapv_cons (lp_v (lp_var rfl)) lapv_nil))) (lp_v lp_k))) (le_tup_p (lap_cons lp_k (lap_cons (lp_var rfl) (lap_cons (lp_var rfl) lap_nil)))) (le_tup (la_consp lp_k (la_consp (lp_var rfl) (la_cons (le_op_pm loc_ix (lp_v (lp_var rfl)) (lv_of (le_un_p loc_neg (lp_v lp_k)))) la_nil)))))))))))))))))))))))))))))
theorem b_turned_by (T : Txt P w K mg base c) : Has P w K mg base 6 "turned_by" s_turned_by P_turned_by (sp_turned_by c) := has_turned_by T (b_check_even T) (b_check_depth T) (b_check_numbers T) (b_rises_at T) (b_comes_up T) (b_way_on T) (fun ds G Q E h => (by have := len7 h; simp only [P_turned_by, List.length_cons, List.length_nil]; exact this)) fun ds G Q E h => (by
  have hl := len7 h
  match ds, hl, h with
  | [v0, v1, v2, v3, v4, v5, v6], _, h => exact fin_spM (l_turned_by v0 v1 v2 v3 v4 v5 v6) h)
theorem l_is_map (x_table : D) : LS [] [] (fun d => d) (envOf N_is_map [x_table]) (t_is_map K c) (F_is_map x_table) cEnd cNo cNo :=
 (ls_to (e := [.val x_table, .no]) rfl (ls_seq1 (ls_if (lt_or (lt_not (lt_tru (lv_of (le_n_p loc_isi (lapv_cons (lp_v (lp_var rfl)) (lapv_cons (lp_v lp_k) lapv_nil)))))) (lt_not (lt_test (le_chain (loc_I0 _) (loc_I0 _) (lp_v lp_k) (lv_of (le_n_p loc_len (lapv_cons (lp_v (lp_var rfl)) lapv_nil))) (lp_v lp_k))))) (ls_retI (lp_e lp_k)) (ls_end ⟨rfl, rfl⟩)) .nil (ls_retI (le_n loc_all (lav_cons (lv_of (le_lcN (li_it_p (lp_var rfl)) (fun x_e => (le_call (la_consp (lp_var rfl) (la_consp lp_k (la_cons (le_op_pp (loc_I0 _) (lp_v lp_k) (lp_v lp_k)) la_nil))))))) lav_nil)))))
theorem b_is_map (T : Txt P w K mg base c) : Has P w K mg base 2 "is_map" s_is_map P_is_map (sp_is_map c) := has_is_map T (b_is_number T) (fun ds G Q E h => (by have := len1 h; simp only [P_is_map, List.length_cons, List.length_nil]; exact this)) fun ds G Q E h => (by
  have hl := len1 h
  match ds, hl, h with
  | [v0], _, h => exact fin_spM (l_is_map v0) h)
theorem l_check_map (x_table : D) : LS [] [] (fun d => d) (envOf N_check_map [x_table]) (t_check_map K c) (F_check_map c x_table) cEnd cNo cNo :=
 (ls_to (e := [.val x_table]) rfl (ls_if (lt_not (lt_tru (lv_of (le_call_p (lap_cons (lp_var rfl) lap_nil))))) (ls_raise1_p (lap_cons (lp_var rfl) lap_nil)) (ls_end rfl)))
theorem b_check_map (T : Txt P w K mg base c) : Has P w K mg base 3 "check_map" s_check_map P_check_map (sp_check_map c) := has_check_map T (b_is_map T) (fun ds G Q E h => (by have := len1 h; simp only [P_check_map, List.length_cons, List.length_nil]; exact this)) fun ds G Q E h => (by
  have hl := len1 h
  match ds, hl, h with
  | [v0], _, h => exact fin_spM (l_check_map v0) h)
theorem l_first_double (x_table : D) : LS [] [] (fun d => d) (envOf N_first_double [x_table]) (t_first_double K c) (F_first_double c x_table) cEnd cNo cNo :=
 (ls_drop (le_call_p (lap_cons (lp_var rfl) lap_nil)) (ls_to (e := [.val x_table, .no, .no]) rfl (ls_forN (T := (fun x_s3 : Unit => [.val x_table, .no, .no])) (s0 := ()) (li_rng1 (la_cons (le_n_p loc_len (lapv_cons (lp_v (lp_var rfl)) lapv_nil)) la_nil)) (.same (.drop (.drop .nil))) rfl (fun x_e x_s x_nx x_bk => (ls_to (e := [.val x_table, .val x_e, .no]) rfl (ls_one (ls_forN (T := (fun x_s2 : Unit => [.val x_table, .val x_e, .no])) (s0 := ()) (li_rng2 (la_cons (le_op_pp loc_add (lp_v (lp_var rfl)) (lp_v lp_k)) (la_cons (le_n_p loc_len (lapv_cons (lp_v (lp_var rfl)) lapv_nil)) la_nil))) (.same (.same (.drop .nil))) rfl (fun x_e1 x_s1 x_nx1 x_bk1 => (ls_to (e := [.val x_table, .val x_e, .val x_e1]) rfl (ls_if (lt_test (le_op (loc_eq _) (lv_of (le_op_pp loc_ix (lp_v (lp_var rfl)) (lp_v (lp_var rfl)))) (lv_of (le_op_pp loc_ix (lp_v (lp_var rfl)) (lp_v (lp_var rfl)))))) (ls_retI (le_tup_p (lap_cons (lp_var rfl) (lap_cons (lp_var rfl) lap_nil)))) (ls_to (e := [.val x_table, .val x_e, .val x_e1]) rfl (ls_nxw (.same (.same (.drop .nil))) rfl ⟨(), rfl, rfl⟩))))) fun x_s2 => (ls_to (e := [.val x_table, .val x_e, .no]) rfl (ls_nxw (.same (.drop (.drop .nil))) rfl ⟨(), rfl, rfl⟩)))))) fun x_s3 => (ls_retI (lp_e lp_k)))))
theorem b_first_double (T : Txt P w K mg base c) : Has P w K mg base 4 "first_double" s_first_double P_first_double (sp_first_double c) := has_first_double T (b_check_map T) (fun ds G Q E h => (by have := len1 h; simp only [P_first_double, List.length_cons, List.length_nil]; exact this)) fun ds G Q E h => (by
  have hl := len1 h
  match ds, hl, h with
  | [v0], _, h => exact fin_spM (l_first_double v0) h)
theorem l__law_same (rc : D → D → M D) (x_told x_due : D) : LS [] [] (fun d => d) (envOf N__law_same [x_told, x_due]) (t__law_same K c (spM (ap2 rc))) (Fb__law_same rc x_told x_due) cEnd cNo cNo :=
 (ls_to (e := [.val x_told, .val x_due, .no]) rfl (ls_seq1 (ls_if (lt_tru (lv_of (le_n_p loc_isi (lapv_cons (lp_v (lp_var rfl)) (lapv_cons (lp_v lp_k) lapv_nil))))) (ls_to (e := [.val x_told, .val x_due, .no]) rfl (ls_seq1 (ls_if (lt_or (lt_not (lt_tru (lv_of (le_n_p loc_isi (lapv_cons (lp_v (lp_var rfl)) (lapv_cons (lp_v lp_k) lapv_nil)))))) (lt_test (le_op (loc_eq _) (lv_of (le_n_p loc_len (lapv_cons (lp_v (lp_var rfl)) lapv_nil))) (lv_of (le_n_p loc_len (lapv_cons (lp_v (lp_var rfl)) lapv_nil)))))) (ls_retI (lp_e lp_k)) (ls_end ⟨rfl, rfl⟩)) .nil (ls_retI (le_op_pm (loc_in _) (lp_v lp_k) (lv_of (le_lcN (li_rng1 (la_cons (le_n_p loc_len (lapv_cons (lp_v (lp_var rfl)) lapv_nil)) la_nil)) (fun x_e => (le_call (la_cons (le_op_pp loc_ix (lp_v (lp_var rfl)) (lp_v (lp_var rfl))) (la_cons (le_op_pp loc_ix (lp_v (lp_var rfl)) (lp_v (lp_var rfl))) la_nil)))))))))) (ls_end ⟨rfl, rfl⟩)) .nil (ls_to (e := [.val x_told, .val x_due, .no]) rfl (ls_seq1 (ls_if (lt_test (le_op_pp (loc_isN _) (lp_v (lp_var rfl)) (lp_v lp_k))) (ls_retI (le_op_pp (loc_isN _) (lp_v (lp_var rfl)) (lp_v lp_k))) (ls_end ⟨rfl, rfl⟩)) .nil (ls_to (e := [.val x_told, .val x_due, .no]) rfl (ls_seq1 (ls_if (lt_tru (lv_of (le_n_p loc_isi (lapv_cons (lp_v (lp_var rfl)) (lapv_cons (lp_v lp_k) lapv_nil))))) (ls_retI (le_andV (le_n_p loc_isi (lapv_cons (lp_v (lp_var rfl)) (lapv_cons (lp_v lp_k) lapv_nil))) (le_op_pp (loc_eq _) (lp_v (lp_var rfl)) (lp_v (lp_var rfl))))) (ls_end ⟨rfl, rfl⟩)) .nil (ls_to (e := [.val x_told, .val x_due, .no]) rfl (ls_seq1 (ls_if (lt_tru (lv_of (le_n_p loc_isi (lapv_cons (lp_v (lp_var rfl)) (lapv_cons (lp_v lp_k) lapv_nil))))) (ls_retI (le_andV (le_n_p loc_isi (lapv_cons (lp_v (lp_var rfl)) (lapv_cons (lp_v lp_k) lapv_nil))) (le_andV (le_notV (le_n_p loc_isi (lapv_cons (lp_v (lp_var rfl)) (lapv_cons (lp_v lp_k) lapv_nil)))) (le_op_pp (loc_eq _) (lp_v (lp_var rfl)) (lp_v (lp_var rfl)))))) (ls_end ⟨rfl, rfl⟩)) .nil (ls_retI (le_andV (le_n_p loc_isi (lapv_cons (lp_v (lp_var rfl)) (lapv_cons (lp_v lp_k) lapv_nil))) (le_op_pp (loc_eq _) (lp_v (lp_var rfl)) (lp_v (lp_var rfl)))))))))))))
theorem b__law_same' (T : Txt P w K mg base c) : ∀ n : Nat, Has P w K mg base (0 + n) "_law_same" s__law_same P__law_same (spM (ap2 (F__law_same n)))
  | 0 => has_bad2 (T.at__law_same) (fun _ _ => rfl)
  | n + 1 => has__law_same T (Nat.le_add_right _ _) (b__law_same' T n) (fun ds G Q E h => (by have := len2 h; simp only [P__law_same, List.length_cons, List.length_nil]; exact this)) fun ds G Q E h => (by
    have hl := len2 h
    match ds, hl, h with
    | [v0, v1], _, h => exact fin_spM (l__law_same _ v0 v1) h)
theorem b__law_same (T : Txt P w K mg base c) : Has P w K mg base 3 "_law_same" s__law_same P__law_same (sp__law_same c) := b__law_same' T 3
theorem l__law_bits (x_length : D) (x_number : D) : LS [] [] (fun d => d) (envOf N__law_bits [x_length, x_number]) (t__law_bits K c) (F__law_bits x_length x_number) cEnd cNo cNo :=
 (ls_set_p lp_k (ls_to (e := [.val x_length, .val x_number, .val (.str ""), .no]) rfl (ls_forN (T := (fun x_s1 : D => [.no, .val x_number, .val x_s1, .no])) (s0 := (.str "")) (li_rng1_p (lap_cons (lp_var rfl) lap_nil)) (.drop (.same (.same (.drop .nil)))) rfl (fun x_e x_s x_nx x_bk => (ls_one (ls_set (le_op_mp loc_add (lv_of (le_n loc_str (lav_cons (lv_of (le_op (loc_I0 _) (lv_of (le_op_pm (loc_I _ _) (lp_v (lp_var rfl)) (lv_of (le_op_pp (loc_I _ _) (lp_v lp_k) (lp_v (lp_var rfl)))))) (lv_of (le_op_mp loc_mul (lv_of (le_op_pm (loc_I _ _) (lp_v (lp_var rfl)) (lv_of (le_op_pp (loc_I _ _) (lp_v lp_k) (lp_v (lp_var rfl)))))) (lp_v lp_k))))) lav_nil))) (lp_v (lp_var rfl))) fun x_found => (ls_to (e := [.no, .val x_number, .val x_found, .val x_e]) rfl (ls_nxw (.drop (.same (.same (.drop .nil)))) rfl ⟨x_found, rfl, rfl⟩))))) fun x_s1 => (ls_retI (lp_e (lp_var rfl))))))
theorem b__law_bits (T : Txt P w K mg base c) : Has P w K mg base 1 "_law_bits" s__law_bits P__law_bits (sp__law_bits c) := has__law_bits T (fun ds G Q E h => (by have := len2 h; simp only [P__law_bits, List.length_cons, List.length_nil]; exact this)) fun ds G Q E h => (by
  have hl := len2 h
  match ds, hl, h with
  | [v0, v1], _, h => exact fin_spM (l__law_bits v0 v1) h)
theorem l__law_led (x_table : D) (x_value : D) (x_times : D) : LS [] [] (fun d => d) (envOf N__law_led [x_table, x_value, x_times]) (t__law_led K c) (F__law_led x_table x_value x_times) cEnd cNo cNo :=
 (ls_set_p (lp_var rfl) (ls_to (e := [.val x_table, .val x_value, .val x_times, .val x_value, .no]) rfl (ls_forN (T := (fun x_s1 : D => [.val x_table, .no, .no, .val x_s1, .no])) (s0 := x_value) (li_rng1_p (lap_cons (lp_var rfl) lap_nil)) (.same (.drop (.drop (.same (.drop .nil))))) rfl (fun x_e x_s x_nx x_bk => (ls_one (ls_set (le_op_pp loc_ix (lp_v (lp_var rfl)) (lp_v (lp_var rfl))) fun x_found => (ls_to (e := [.val x_table, .no, .no, .val x_found, .val x_e]) rfl (ls_nxw (.same (.drop (.drop (.same (.drop .nil))))) rfl ⟨x_found, rfl, rfl⟩))))) fun x_s1 => (ls_retI (lp_e (lp_var rfl))))))
theorem b__law_led (T : Txt P w K mg base c) : Has P w K mg base 1 "_law_led" s__law_led P__law_led (sp__law_led c) := has__law_led T (fun ds G Q E h => (by have := len3 h; simp only [P__law_led, List.length_cons, List.length_nil]; exact this)) fun ds G Q E h => (by
  have hl := len3 h
  match ds, hl, h with
  | [v0, v1, v2], _, h => exact fin_spM (l__law_led v0 v1 v2) h)
theorem l__law_right (a : Addr) (x_table : D) (x_tops : D) (x_message : D) : LS [a] [] (fun d => d) (envOf N__law_right (.ref a :: [x_table, x_tops, x_message])) (t__law_right K c) (F__law_right x_table x_tops x_message) cEnd cNo cNo :=
 (ls_to (e := [.val (.ref a), .val x_table, .val x_tops, .val x_message, .no, .no, .no, .no]) rfl (ls_new (ln_lst_p lap_nil) fun x_found => (ls_to (e := [.val (.ref a), .val x_table, .val x_tops, .val x_message, .own x_found, .no, .no, .no]) rfl (ls_forN (T := (fun x_s1 : List D => [.val (.ref a), .val x_table, .val x_tops, .val x_message, .own x_s1, .no, .no, .no])) (s0 := x_found) (li_rng1 (la_cons (le_n_p loc_len (lapv_cons (lp_v (lp_var rfl)) lapv_nil)) la_nil)) (.same (.same (.same (.same (.same (.drop (.drop (.drop .nil)))))))) rfl (fun x_e x_s x_nx x_bk => (ls_to (e := [.val (.ref a), .val x_table, .val x_tops, .val x_message, .own x_s, .val x_e, .no, .no]) rfl (ls_set (le_lcfN (li_rng1 (la_cons (le_n_p loc_len (lapv_cons (lp_v (lp_var rfl)) lapv_nil)) la_nil)) (fun x_e1 => (lt_test (le_op (loc_eq _) (lv_of (le_call (la_consp (lp_var rfl) (la_consp (lp_var rfl) (la_cons (le_op_pp loc_ix (lp_v (lp_var rfl)) (lp_v (lp_var rfl))) la_nil))))) (lv_of (le_op_pp loc_ix (lp_v (lp_var rfl)) (lp_v (lp_var rfl))))))) (fun x_e1 => (lp_e (lp_var rfl)))) fun x_fit => (ls_to (e := [.val (.ref a), .val x_table, .val x_tops, .val x_message, .own x_s, .val x_e, .val x_fit, .no]) rfl (ls_one (ls_appendX (i := 4) rfl (le_op_pm loc_ix (lp_v (lp_var rfl)) (lv_of (le_callH rfl (List.mem_singleton.mpr rfl) (la_cons (le_n_p loc_len (lapv_cons (lp_v (lp_var rfl)) lapv_nil)) la_nil)))) fun x_d => (ls_to (e := [.val (.ref a), .val x_table, .val x_tops, .val x_message, .own (x_s ++ [x_d]), .val x_e, .val x_fit, .no]) rfl (ls_nxw (.same (.same (.same (.same (.same (.drop (.drop (.drop .nil)))))))) rfl ⟨(x_s ++ [x_d]), rfl, rfl⟩)))))))) fun x_s1 => (ls_frz (i := 4) rfl (ls_to (e := [.val (.ref a), .val x_table, .val x_tops, .val x_message, .val (.lst x_s1), .no, .no, .no]) rfl (ls_retI (lp_e (lp_var rfl)))))))))
theorem b__law_right (T : Txt P w K mg base c) : Has P w K mg base 2 "_law_right" s__law_right P__law_right (sp__law_right c) := has__law_right T (b__law_led T) (b__law_take T) (fun ds G Q E h => (by have := lenH3 h; simp only [P__law_right, List.length_cons, List.length_nil]; exact this)) fun ds G Q E h => (by
  obtain ⟨a, r, rfl, hh, E2, R, h1, h2, hm⟩ := h
  match r, hm with
  | [v0, v1, v2], hm => exact fin_of (fun b hb => by rw [List.mem_singleton] at hb; subst hb; exact hh) (l__law_right a v0 v1 v2) h1 h2 hm)
theorem l__law_strings (x_n : D) (x_values : D) : LS [] [] (fun d => d) (envOf N__law_strings [x_n, x_values]) (t__law_strings K c) (F__law_strings x_n x_values) cEnd cNo cNo :=
 (ls_retI (le_n loc_tuple (lav_cons (lv_of (le_lcN (li_it_p (lp_var rfl)) (fun x_e => (le_call_p (lap_cons (lp_var rfl) (lap_cons (lp_var rfl) lap_nil)))))) lav_nil)))
theorem b__law_strings (T : Txt P w K mg base c) : Has P w K mg base 2 "_law_strings" s__law_strings P__law_strings (sp__law_strings c) := has__law_strings T (b__law_bits T) (fun ds G Q E h => (by have := len2 h; simp only [P__law_strings, List.length_cons, List.length_nil]; exact this)) fun ds G Q E h => (by
  have hl := len2 h
  match ds, hl, h with
  | [v0, v1], _, h => exact fin_spM (l__law_strings v0 v1) h)
theorem l__law_above (x_message : D) (x_other : D) : LS [] [] (fun d => d) (envOf N__law_above [x_message, x_other]) (t__law_above K c) (F__law_above x_message x_other) cEnd cNo cNo :=
 (ls_retI (le_lcfN (li_rng1 (la_cons (le_n_p loc_len (lapv_cons (lp_v (lp_var rfl)) lapv_nil)) la_nil)) (fun x_e => (lt_test (le_op (loc_I0 _) (lv_of (le_op_pp loc_ix (lp_v (lp_var rfl)) (lp_v (lp_var rfl)))) (lv_of (le_op_pp loc_ix (lp_v (lp_var rfl)) (lp_v (lp_var rfl))))))) (fun x_e => (lp_e (lp_var rfl)))))
theorem b__law_above (T : Txt P w K mg base c) : Has P w K mg base 1 "_law_above" s__law_above P__law_above (sp__law_above c) := has__law_above T (fun ds G Q E h => (by have := len2 h; simp only [P__law_above, List.length_cons, List.length_nil]; exact this)) fun ds G Q E h => (by
  have hl := len2 h
  match ds, hl, h with
  | [v0, v1], _, h => exact fin_spM (l__law_above v0 v1) h)
theorem l__law_due (x_table : D) (x_n : D) (x_message : D) (x_signature : D) (x_other : D) (x_forged : D) : LS [] [] (fun d => d) (envOf N__law_due [x_table, x_n, x_message, x_signature, x_other, x_forged]) (t__law_due K c) (F__law_due x_table x_n x_message x_signature x_other x_forged) cEnd cNo cNo :=
 (ls_to (e := [.val x_table, .val x_n, .val x_message, .val x_signature, .val x_other, .val x_forged, .no, .no, .no, .no, .no, .no]) rfl (ls_set (le_op_mp loc_ix (lv_of (le_call_p (lap_cons (lp_var rfl) (lap_cons (lp_var rfl) lap_nil)))) (lp_v lp_k)) fun x_place => (ls_to (e := [.val x_table, .val x_n, .val x_message, .val x_signature, .val x_other, .val x_forged, .val x_place, .no, .no, .no, .no, .no]) rfl (ls_set (le_op_pp loc_ix (lp_v (lp_var rfl)) (lp_v (lp_var rfl))) fun x_below => (ls_to (e := [.val x_table, .val x_n, .val x_message, .val x_signature, .val x_other, .val x_forged, .val x_place, .val x_below, .no, .no, .no, .no]) rfl (ls_set (le_call (la_consp (lp_var rfl) (la_cons (le_op_pp loc_ix (lp_v (lp_var rfl)) (lp_v (lp_var rfl))) (la_cons (le_op_mp (loc_I0 _) (lv_of (le_op (loc_I0 _) (lv_of (le_op_pp loc_ix (lp_v (lp_var rfl)) (lp_v (lp_var rfl)))) (lv_of (le_op_pp loc_ix (lp_v (lp_var rfl)) (lp_v (lp_var rfl)))))) (lp_v lp_k)) la_nil)))) fun x_turned => (ls_to (e := [.val x_table, .val x_n, .val x_message, .val x_signature, .val x_other, .val x_forged, .val x_place, .val x_below, .val x_turned, .no, .no, .no]) rfl (ls_seq1 (ls_if (lt_test (le_op_mp (loc_eq _) (lv_of (le_op_pp loc_ix (lp_v (lp_var rfl)) (lp_v (lp_var rfl)))) (lp_v (lp_var rfl)))) (ls_to (e := [.val x_table, .val x_n, .val x_message, .val x_signature, .val x_other, .val x_forged, .val x_place, .val x_below, .val x_turned, .no, .no, .no]) rfl (ls_retI (le_tup (la_consp lp_k (la_consp (lp_var rfl) (la_cons (le_call_p (lap_cons (lp_var rfl) (lap_cons (lp_var rfl) lap_nil))) la_nil)))))) (ls_end ⟨rfl, rfl⟩)) .nil (ls_to (e := [.val x_table, .val x_n, .val x_message, .val x_signature, .val x_other, .val x_forged, .val x_place, .val x_below, .val x_turned, .no, .no, .no]) rfl (ls_set (le_op_pp loc_ix (lp_v (lp_var rfl)) (lp_v (lp_var rfl))) fun x_one => (ls_to (e := [.val x_table, .val x_n, .val x_message, .val x_signature, .val x_other, .val x_forged, .val x_place, .val x_below, .val x_turned, .val x_one, .no, .no]) rfl (ls_set_p lp_k (ls_to (e := [.val x_table, .val x_n, .val x_message, .val x_signature, .val x_other, .val x_forged, .val x_place, .val x_below, .val x_turned, .val x_one, .val .non, .no]) rfl (ls_forN (T := (fun x_s2 : D × D × D => [.val x_table, .val x_n, .no, .no, .no, .no, .val x_place, .val x_s2.1, .no, .val x_s2.2.1, .val x_s2.2.2, .no])) (s0 := (x_below, x_one, .non)) (li_rng1 (la_cons (le_op_pp loc_ix (lp_v (lp_var rfl)) (lp_v (lp_var rfl))) la_nil)) (.same (.same (.drop (.drop (.drop (.drop (.same (.same (.drop (.same (.same (.drop .nil)))))))))))) rfl (fun x_e x_s x_nx x_bk => (ls_to (e := [.val x_table, .val x_n, .no, .no, .no, .no, .val x_place, .val x_s.1, .no, .val x_s.2.1, .val x_s.2.2, .val x_e]) rfl (ls_ifj (T := (fun x_s1 : D => [.val x_table, .val x_n, .no, .no, .no, .no, .val x_place, .val x_s.1, .no, .val x_s.2.1, .val x_s1, .no])) (fun x_k => ls_if (lt_and (lt_test (le_op_pp (loc_eq _) (lp_v (lp_var rfl)) (lp_v (lp_var rfl)))) (lt_test (le_op (loc_eq _) (lv_of (le_op_pp loc_ix (lp_v (lp_var rfl)) (lp_v (lp_var rfl)))) (lv_of (le_op_pp loc_ix (lp_v (lp_var rfl)) (lp_v (lp_var rfl))))))) (ls_to (e := [.val x_table, .val x_n, .no, .no, .no, .no, .val x_place, .val x_s.1, .no, .val x_s.2.1, .val x_s.2.2, .val x_e]) rfl (ls_one (ls_set (le_tup (la_cons (le_call_p (lap_cons (lp_var rfl) (lap_cons (lp_var rfl) lap_nil))) (la_cons (le_call_p (lap_cons (lp_var rfl) (lap_cons (lp_var rfl) lap_nil))) la_nil))) fun x_pair => (ls_to (e := [.val x_table, .val x_n, .no, .no, .no, .no, .val x_place, .val x_s.1, .no, .val x_s.2.1, .val x_pair, .val x_e]) rfl (ls_nxw (.same (.same (.drop (.drop (.drop (.drop (.same (.same (.drop (.same (.same (.drop .nil)))))))))))) rfl ⟨x_pair, rfl, rfl⟩))))) (ls_to (e := [.val x_table, .val x_n, .no, .no, .no, .no, .val x_place, .val x_s.1, .no, .val x_s.2.1, .val x_s.2.2, .val x_e]) rfl (ls_nxw (.same (.same (.drop (.drop (.drop (.drop (.same (.same (.drop (.same (.same (.drop .nil)))))))))))) rfl ⟨x_s.2.2, rfl, rfl⟩))) (fun _ => .nil) fun x_s1 => (ls_to (e := [.val x_table, .val x_n, .no, .no, .no, .no, .val x_place, .val x_s.1, .no, .val x_s.2.1, .val x_s1, .no]) rfl (ls_set (le_op_pp loc_ix (lp_v (lp_var rfl)) (lp_v (lp_var rfl))) fun x_one1 => (ls_to (e := [.val x_table, .val x_n, .no, .no, .no, .no, .val x_place, .val x_s.1, .no, .val x_one1, .val x_s1, .no]) rfl (ls_one (ls_set (le_op_pp loc_ix (lp_v (lp_var rfl)) (lp_v (lp_var rfl))) fun x_below1 => (ls_to (e := [.val x_table, .val x_n, .no, .no, .no, .no, .val x_place, .val x_below1, .no, .val x_one1, .val x_s1, .no]) rfl (ls_nxw (.same (.same (.drop (.drop (.drop (.drop (.same (.same (.drop (.same (.same (.drop .nil)))))))))))) rfl ⟨(x_below1, x_one1, x_s1), rfl, rfl⟩)))))))))) fun x_s2 => (ls_to (e := [.val x_table, .val x_n, .no, .no, .no, .no, .val x_place, .val x_s2.1, .no, .val x_s2.2.1, .val x_s2.2.2, .no]) rfl (ls_retI (le_tup_p (lap_cons lp_k (lap_cons (lp_var rfl) (lap_cons (lp_var rfl) lap_nil))))))))))))))))))))
theorem b__law_due (T : Txt P w K mg base c) : Has P w K mg base 2 "_law_due" s__law_due P__law_due (sp__law_due c) := has__law_due T (b__law_above T) (b__law_led T) (b__law_bits T) (fun ds G Q E h => (by have := len6 h; simp only [P__law_due, List.length_cons, List.length_nil]; exact this)) fun ds G Q E h => (by
  have hl := len6 h
  match ds, hl, h with
  | [v0, v1, v2, v3, v4, v5], _, h => exact fin_spM (l__law_due v0 v1 v2 v3 v4 v5) h)
theorem l__law_refused (x_f : D) (x_depth : D) (x_tops : D) (x_message : D) (x_signature : D) (x_other : D) (x_forged : D) : LS [] [] (fun d => d) (envOf N__law_refused [x_f, x_depth, x_tops, x_message, x_signature, x_other, x_forged]) (t__law_refused K c) (F__law_refused K c x_f x_depth x_tops x_message x_signature x_other x_forged) cEnd cNo cNo :=
 (ls_to (e := [.val x_f, .val x_depth, .val x_tops, .val x_message, .val x_signature, .val x_other, .val x_forged, .no]) rfl (ls_try (ne_of_len rfl) (ls_to (e := [.val x_f, .val x_depth, .val x_tops, .val x_message, .val x_signature, .val x_other, .val x_forged, .no]) rfl (ls_one (ls_drop (le_call_p (lap_cons (lp_var rfl) (lap_cons (lp_var rfl) (lap_cons (lp_var rfl) (lap_cons (lp_var rfl) (lap_cons (lp_var rfl) (lap_cons (lp_var rfl) (lap_cons (lp_var rfl) lap_nil)))))))) (ls_end ⟨rfl, rfl⟩)))) (lh_named (fun x a => (ls_to (e := [.val x_f, .val x_depth, .val x_tops, .val x_message, .val x_signature, .val x_other, .val x_forged, .val (.ref a)]) rfl (ls_retI (le_op_pm loc_add (lp_v lp_k) (lv_of (le_n loc_str (lav_cons (lv_of (le_n loc_int (lav_cons (lv_of (le_orV (le_isE rfl lp_k) (le_isE rfl lp_k))) lav_nil))) lav_nil))))))) (lh_named (fun x a => (ls_to (e := [.val x_f, .val x_depth, .val x_tops, .val x_message, .val x_signature, .val x_other, .val x_forged, .val (.ref a)]) rfl (ls_retI (le_op_pm loc_add (lp_v lp_k) (lv_of (le_n loc_str (lav_cons (lv_of (le_n loc_int (lav_cons (lv_of (le_isE rfl lp_k)) lav_nil))) lav_nil))))))) (lh_named (fun x a => (ls_to (e := [.val x_f, .val x_depth, .val x_tops, .val x_message, .val x_signature, .val x_other, .val x_forged, .val (.ref a)]) rfl (ls_retI (le_op_pm loc_add (lp_v lp_k) (lv_of (le_n loc_str (lav_cons (lv_of (le_n loc_int (lav_cons (lv_of (le_notV (le_isE rfl lp_k))) lav_nil))) lav_nil))))))) (lh_nil .nil)))) (ls_to (e := [.val x_f, .val x_depth, .val x_tops, .val x_message, .val x_signature, .val x_other, .val x_forged, .no]) rfl (ls_retI (lp_e lp_k)))))
theorem b__law_refused (T : Txt P w K mg base c) : Has P w K mg base 7 "_law_refused" s__law_refused P__law_refused (sp__law_refused K c) := has__law_refused T (b_turned_by T) (fun ds G Q E h => (by have := len7 h; simp only [P__law_refused, List.length_cons, List.length_nil]; exact this)) fun ds G Q E h => (by
  have hl := len7 h
  match ds, hl, h with
  | [v0, v1, v2, v3, v4, v5, v6], _, h => exact fin_spM (l__law_refused v0 v1 v2 v3 v4 v5 v6) h)
theorem l__law_messages (a : Addr) (x_k : D) (x_depth : D) : LS [a] [] (fun d => d) (envOf N__law_messages (.ref a :: [x_k, x_depth])) (t__law_messages K c) (F__law_messages x_k x_depth) cEnd cNo cNo :=
 (ls_to (e := [.val (.ref a), .val x_k, .val x_depth, .no, .no, .no, .no, .no]) rfl (ls_new (ln_lcN (li_rng1_p (lap_cons (lp_var rfl) lap_nil)) (fun x_e => (le_callH rfl (List.mem_singleton.mpr rfl) (la_cons (le_op_pp loc_add (lp_v (lp_var rfl)) (lp_v lp_k)) la_nil)))) fun x_one => (ls_to (e := [.val (.ref a), .val x_k, .val x_depth, .own x_one, .no, .no, .no, .no]) rfl (ls_new (ln_nN new_list (lapv_cons (lp_own rfl) lapv_nil)) fun x_other => (ls_to (e := [.val (.ref a), .val x_k, .val x_depth, .own x_one, .no, .own x_other, .no, .no]) rfl (ls_set (le_callH_p rfl (List.mem_singleton.mpr rfl) (lap_cons (lp_var rfl) lap_nil)) fun x_place => (ls_to (e := [.val (.ref a), .val x_k, .val x_depth, .own x_one, .no, .own x_other, .val x_place, .no]) rfl (ls_ifj (T := (fun x_s : List D => [.val (.ref a), .val x_k, .val x_depth, .own x_s, .no, .own x_other, .val x_place, .no])) (fun x_k1 => ls_if (lt_test (le_op_mp (loc_eq _) (lv_of (le_op_pp loc_ix (lp_own rfl) (lp_v (lp_var rfl)))) (lp_v (lp_var rfl)))) (ls_to (e := [.val (.ref a), .val x_k, .val x_depth, .own x_one, .no, .own x_other, .val x_place, .no]) rfl (ls_one (ls_item (i := 3) rfl (le_callH_p rfl (List.mem_singleton.mpr rfl) (lap_cons (lp_var rfl) lap_nil)) (lp_e (lp_var rfl)) fun x_one1 => (ls_to (e := [.val (.ref a), .val x_k, .val x_depth, .own x_one1, .no, .own x_other, .val x_place, .no]) rfl (ls_nxw (.same (.same (.same (.same (.drop (.same (.same (.drop .nil)))))))) rfl ⟨x_one1, rfl, rfl⟩))))) (ls_to (e := [.val (.ref a), .val x_k, .val x_depth, .own x_one, .no, .own x_other, .val x_place, .no]) rfl (ls_nxw (.same (.same (.same (.same (.drop (.same (.same (.drop .nil)))))))) rfl ⟨x_one, rfl, rfl⟩))) (fun _ => .nil) fun x_s => (ls_frz (i := 3) rfl (ls_to (e := [.val (.ref a), .val x_k, .val x_depth, .val (.lst x_s), .no, .own x_other, .val x_place, .no]) rfl (ls_item (i := 5) rfl (le_op loc_add (lv_of (le_op_mp loc_add (lv_of (le_op_pp loc_ix (lp_v (lp_var rfl)) (lp_v (lp_var rfl)))) (lp_v lp_k))) (lv_of (le_callH rfl (List.mem_singleton.mpr rfl) (la_cons (le_op_pm (loc_I0 _) (lp_v (lp_var rfl)) (lv_of (le_op_pp loc_ix (lp_v (lp_var rfl)) (lp_v (lp_var rfl))))) la_nil)))) (lp_e (lp_var rfl)) fun x_other1 => (ls_to (e := [.val (.ref a), .val x_k, .val x_depth, .val (.lst x_s), .no, .own x_other1, .val x_place, .no]) rfl (ls_forN (T := (fun x_s2 : List D => [.val (.ref a), .no, .val x_depth, .val (.lst x_s), .no, .own x_s2, .val x_place, .no])) (s0 := x_other1) (li_rng1_p (lap_cons (lp_var rfl) lap_nil)) (.same (.drop (.same (.same (.drop (.same (.same (.drop .nil)))))))) rfl (fun x_e1 x_s1 x_nx x_bk => (ls_to (e := [.val (.ref a), .no, .val x_depth, .val (.lst x_s), .no, .own x_s1, .val x_place, .val x_e1]) rfl (ls_if (lt_and (lt_test (le_op_pp (loc_eq _) (lp_v (lp_var rfl)) (lp_v (lp_var rfl)))) (lt_test (le_op_mp (loc_I0 _) (lv_of (le_callH_p rfl (List.mem_singleton.mpr rfl) (lap_cons lp_k lap_nil))) (lp_v lp_k)))) (ls_to (e := [.val (.ref a), .no, .val x_depth, .val (.lst x_s), .no, .own x_s1, .val x_place, .val x_e1]) rfl (ls_one (ls_item (i := 5) rfl (le_callH rfl (List.mem_singleton.mpr rfl) (la_cons (le_op_pp loc_add (lp_v (lp_var rfl)) (lp_v lp_k)) la_nil)) (lp_e (lp_var rfl)) fun x_other2 => (ls_to (e := [.val (.ref a), .no, .val x_depth, .val (.lst x_s), .no, .own x_other2, .val x_place, .val x_e1]) rfl (ls_nxw (.same (.drop (.same (.same (.drop (.same (.same (.drop .nil)))))))) rfl ⟨x_other2, rfl, rfl⟩))))) (ls_to (e := [.val (.ref a), .no, .val x_depth, .val (.lst x_s), .no, .own x_s1, .val x_place, .val x_e1]) rfl (ls_nxw (.same (.drop (.same (.same (.drop (.same (.same (.drop .nil)))))))) rfl ⟨x_s1, rfl, rfl⟩))))) fun x_s2 => (ls_frz (i := 5) rfl (ls_to (e := [.val (.ref a), .no, .val x_depth, .val (.lst x_s), .no, .val (.lst x_s2), .val x_place, .no]) rfl (ls_retI (le_tup_p (lap_cons (lp_var rfl) (lap_cons (lp_var rfl) lap_nil)))))))))))))))))))
theorem b__law_messages (T : Txt P w K mg base c) : Has P w K mg base 2 "_law_messages" s__law_messages P__law_messages (sp__law_messages c) := has__law_messages T (b__law_take T) (fun ds G Q E h => (by have := lenH2 h; simp only [P__law_messages, List.length_cons, List.length_nil]; exact this)) fun ds G Q E h => (by
  obtain ⟨a, r, rfl, hh, E2, R, h1, h2, hm⟩ := h
  match r, hm with
  | [v0, v1], hm => exact fin_of (fun b hb => by rw [List.mem_singleton] at hb; subst hb; exact hh) (l__law_messages a v0 v1) h1 h2 hm)
theorem l__law_bent (a : Addr) (x_table : D) (x_values : D) (x_tops : D) (x_message : D) : LS [a] [] (fun d => d) (envOf N__law_bent (.ref a :: [x_table, x_values, x_tops, x_message])) (t__law_bent K c) (F__law_bent x_table x_values x_tops x_message) cEnd cNo cNo :=
 (ls_to (e := [.val (.ref a), .val x_table, .val x_values, .val x_tops, .val x_message, .no, .no, .no, .no]) rfl (ls_new (ln_nN new_list (lapv_cons (lp_v (lp_var rfl)) lapv_nil)) fun x_found => (ls_to (e := [.val (.ref a), .val x_table, .val x_values, .val x_tops, .val x_message, .own x_found, .no, .no, .no]) rfl (ls_set (le_callH rfl (List.mem_singleton.mpr rfl) (la_cons (le_n_p loc_len (lapv_cons (lp_v (lp_var rfl)) lapv_nil)) la_nil)) fun x_place => (ls_to (e := [.val (.ref a), .val x_table, .val x_values, .val x_tops, .val x_message, .own x_found, .val x_place, .no, .no]) rfl (ls_set (le_lcfN (li_rng1 (la_cons (le_n_p loc_len (lapv_cons (lp_v (lp_var rfl)) lapv_nil)) la_nil)) (fun x_e => (lt_test (le_op (loc_eq _) (lv_of (le_call (la_consp (lp_var rfl) (la_consp (lp_var rfl) (la_cons (le_op_pp loc_ix (lp_v (lp_var rfl)) (lp_v (lp_var rfl))) la_nil))))) (lv_of (le_op_pp loc_ix (lp_v (lp_var rfl)) (lp_v (lp_var rfl))))))) (fun x_e => (lp_e (lp_var rfl)))) fun x_off => (ls_to (e := [.val (.ref a), .val x_table, .val x_values, .val x_tops, .val x_message, .own x_found, .val x_place, .val x_off, .no]) rfl (ls_seq1 (ls_if (lt_test (le_op_mp (loc_eq _) (lv_of (le_n_p loc_len (lapv_cons (lp_v (lp_var rfl)) lapv_nil))) (lp_v lp_k))) (ls_to (e := [.val (.ref a), .val x_table, .val x_values, .val x_tops, .val x_message, .own x_found, .val x_place, .val x_off, .no]) rfl (ls_retI (lp_e lp_k))) (ls_end ⟨rfl, rfl⟩)) .nil (ls_to (e := [.val (.ref a), .val x_table, .val x_values, .val x_tops, .val x_message, .own x_found, .val x_place, .val x_off, .no]) rfl (ls_item (i := 5) rfl (le_op_pm loc_ix (lp_v (lp_var rfl)) (lv_of (le_callH rfl (List.mem_singleton.mpr rfl) (la_cons (le_n_p loc_len (lapv_cons (lp_v (lp_var rfl)) lapv_nil)) la_nil)))) (lp_e (lp_var rfl)) fun x_found1 => (ls_frz (i := 5) rfl (ls_to (e := [.val (.ref a), .val x_table, .val x_values, .val x_tops, .val x_message, .val (.lst x_found1), .val x_place, .val x_off, .no]) rfl (ls_retI (lp_e (lp_var rfl)))))))))))))))
theorem b__law_bent (T : Txt P w K mg base c) : Has P w K mg base 2 "_law_bent" s__law_bent P__law_bent (sp__law_bent c) := has__law_bent T (b__law_take T) (b__law_led T) (fun ds G Q E h => (by have := lenH4 h; simp only [P__law_bent, List.length_cons, List.length_nil]; exact this)) fun ds G Q E h => (by
  obtain ⟨a, r, rfl, hh, E2, R, h1, h2, hm⟩ := h
  match r, hm with
  | [v0, v1, v2, v3], hm => exact fin_of (fun b hb => by rw [List.mem_singleton] at hb; subst hb; exact hh) (l__law_bent a v0 v1 v2 v3) h1 h2 hm)
theorem l__law_wrong (a : Addr) (x_f : D) (x_table : D) (x_depth : D) (x_n : D) (x_tops : D) (x_one : D) (x_sign : D) (x_other : D) (x_forged : D) : LS [a] [] (fun d => d) (envOf N__law_wrong (.ref a :: [x_f, x_table, x_depth, x_n, x_tops, x_one, x_sign, x_other, x_forged])) (t__law_wrong K c) (F__law_wrong K c x_f x_table x_depth x_n x_tops x_one x_sign x_other x_forged) cEnd cNo cNo :=
 (ls_to (e := [.val (.ref a), .val x_f, .val x_table, .val x_depth, .val x_n, .val x_tops, .val x_one, .val x_sign, .val x_other, .val x_forged, .no, .no, .no, .no, .no, .no, .no, .no, .no, .no]) rfl (ls_set (le_call_p (lap_cons (lp_var rfl) (lap_cons (lp_var rfl) lap_nil))) fun x_tell => (ls_to (e := [.val (.ref a), .val x_f, .val x_table, .val x_depth, .val x_n, .val x_tops, .val x_one, .val x_sign, .val x_other, .val x_forged, .val x_tell, .no, .no, .no, .no, .no, .no, .no, .no, .no]) rfl (ls_set (le_call_p (lap_cons (lp_var rfl) (lap_cons (lp_var rfl) lap_nil))) fun x_first => (ls_to (e := [.val (.ref a), .val x_f, .val x_table, .val x_depth, .val x_n, .val x_tops, .val x_one, .val x_sign, .val x_other, .val x_forged, .val x_tell, .val x_first, .no, .no, .no, .no, .no, .no, .no, .no]) rfl (ls_set (le_call_p (lap_cons (lp_var rfl) (lap_cons (lp_var rfl) lap_nil))) fun x_second => (ls_to (e := [.val (.ref a), .val x_f, .val x_table, .val x_depth, .val x_n, .val x_tops, .val x_one, .val x_sign, .val x_other, .val x_forged, .val x_tell, .val x_first, .val x_second, .no, .no, .no, .no, .no, .no, .no]) rfl (ls_set (le_callH_p rfl (List.mem_singleton.mpr rfl) (lap_cons (lp_var rfl) (lap_cons (lp_var rfl) (lap_cons (lp_var rfl) (lap_cons (lp_var rfl) lap_nil))))) fun x_bent => (ls_to (e := [.val (.ref a), .val x_f, .val x_table, .val x_depth, .val x_n, .val x_tops, .val x_one, .val x_sign, .val x_other, .val x_forged, .val x_tell, .val x_first, .val x_second, .val x_bent, .no, .no, .no, .no, .no, .no]) rfl (ls_ifj (T := (fun x_s : Unit => [.val (.ref a), .val x_f, .val x_table, .val x_depth, .val x_n, .val x_tops, .val x_one, .val x_sign, .val x_other, .no, .val x_tell, .val x_first, .val x_second, .no, .no, .no, .no, .no, .no, .no])) (fun x_k => ls_if (lt_test (le_op_pp (loc_isN _) (lp_v (lp_var rfl)) (lp_v lp_k))) (ls_to (e := [.val (.ref a), .val x_f, .val x_table, .val x_depth, .val x_n, .val x_tops, .val x_one, .val x_sign, .val x_other, .val x_forged, .val x_tell, .val x_first, .val x_second, .val x_bent, .no, .no, .no, .no, .no, .no]) rfl (ls_if (lt_test (le_op_mp (loc_eq _) (lv_of (le_call (la_consp (lp_var rfl) (la_consp (lp_var rfl) (la_consp (lp_var rfl) (la_cons (le_n_p loc_tuple (lapv_cons (lp_v (lp_var rfl)) lapv_nil)) (la_consp (lp_var rfl) (la_cons (le_n_p loc_tuple (lapv_cons (lp_v (lp_var rfl)) lapv_nil)) (la_cons (le_call_p (lap_cons (lp_var rfl) (lap_cons (lp_var rfl) lap_nil))) la_nil))))))))) (lp_v lp_k))) (ls_to (e := [.val (.ref a), .val x_f, .val x_table, .val x_depth, .val x_n, .val x_tops, .val x_one, .val x_sign, .val x_other, .val x_forged, .val x_tell, .val x_first, .val x_second, .val x_bent, .no, .no, .no, .no, .no, .no]) rfl (ls_retI (lp_e lp_k))) (ls_to (e := [.val (.ref a), .val x_f, .val x_table, .val x_depth, .val x_n, .val x_tops, .val x_one, .val x_sign, .val x_other, .val x_forged, .val x_tell, .val x_first, .val x_second, .val x_bent, .no, .no, .no, .no, .no, .no]) rfl (ls_nxw (.same (.same (.same (.same (.same (.same (.same (.same (.same (.drop (.same (.same (.same (.drop (.drop (.drop (.drop (.drop (.drop (.drop .nil)))))))))))))))))))) rfl ⟨(), rfl, rfl⟩)))) (ls_to (e := [.val (.ref a), .val x_f, .val x_table, .val x_depth, .val x_n, .val x_tops, .val x_one, .val x_sign, .val x_other, .val x_forged, .val x_tell, .val x_first, .val x_second, .val x_bent, .no, .no, .no, .no, .no, .no]) rfl (ls_nxw (.same (.same (.same (.same (.same (.same (.same (.same (.same (.drop (.same (.same (.same (.drop (.drop (.drop (.drop (.drop (.drop (.drop .nil)))))))))))))))))))) rfl ⟨(), rfl, rfl⟩))) (fun _ => .nil) fun x_s => (ls_to (e := [.val (.ref a), .val x_f, .val x_table, .val x_depth, .val x_n, .val x_tops, .val x_one, .val x_sign, .val x_other, .no, .val x_tell, .val x_first, .val x_second, .no, .no, .no, .no, .no, .no, .no]) rfl (ls_set (le_callH_p rfl (List.mem_singleton.mpr rfl) (lap_cons (lp_var rfl) (lap_cons (lp_var rfl) (lap_cons (lp_var rfl) (lap_cons (lp_var rfl) lap_nil))))) fun x_bent1 => (ls_to (e := [.val (.ref a), .val x_f, .val x_table, .val x_depth, .val x_n, .val x_tops, .val x_one, .val x_sign, .val x_other, .no, .val x_tell, .val x_first, .val x_second, .val x_bent1, .no, .no, .no, .no, .no, .no]) rfl (ls_ifj (T := (fun x_s1 : Unit => [.val (.ref a), .val x_f, .val x_table, .val x_depth, .val x_n, .val x_tops, .val x_one, .no, .val x_other, .no, .val x_tell, .val x_first, .val x_second, .no, .no, .no, .no, .no, .no, .no])) (fun x_k1 => ls_if (lt_test (le_op_pp (loc_isN _) (lp_v (lp_var rfl)) (lp_v lp_k))) (ls_to (e := [.val (.ref a), .val x_f, .val x_table, .val x_depth, .val x_n, .val x_tops, .val x_one, .val x_sign, .val x_other, .no, .val x_tell, .val x_first, .val x_second, .val x_bent1, .no, .no, .no, .no, .no, .no]) rfl (ls_if (lt_test (le_op_mp (loc_eq _) (lv_of (le_call (la_consp (lp_var rfl) (la_consp (lp_var rfl) (la_consp (lp_var rfl) (la_cons (le_n_p loc_tuple (lapv_cons (lp_v (lp_var rfl)) lapv_nil)) (la_cons (le_call_p (lap_cons (lp_var rfl) (lap_cons (lp_var rfl) lap_nil))) (la_cons (le_n_p loc_tuple (lapv_cons (lp_v (lp_var rfl)) lapv_nil)) (la_consp (lp_var rfl) la_nil))))))))) (lp_v lp_k))) (ls_to (e := [.val (.ref a), .val x_f, .val x_table, .val x_depth, .val x_n, .val x_tops, .val x_one, .val x_sign, .val x_other, .no, .val x_tell, .val x_first, .val x_second, .val x_bent1, .no, .no, .no, .no, .no, .no]) rfl (ls_retI (lp_e lp_k))) (ls_to (e := [.val (.ref a), .val x_f, .val x_table, .val x_depth, .val x_n, .val x_tops, .val x_one, .val x_sign, .val x_other, .no, .val x_tell, .val x_first, .val x_second, .val x_bent1, .no, .no, .no, .no, .no, .no]) rfl (ls_nxw (.same (.same (.same (.same (.same (.same (.same (.drop (.same (.drop (.same (.same (.same (.drop (.drop (.drop (.drop (.drop (.drop (.drop .nil)))))))))))))))))))) rfl ⟨(), rfl, rfl⟩)))) (ls_to (e := [.val (.ref a), .val x_f, .val x_table, .val x_depth, .val x_n, .val x_tops, .val x_one, .val x_sign, .val x_other, .no, .val x_tell, .val x_first, .val x_second, .val x_bent1, .no, .no, .no, .no, .no, .no]) rfl (ls_nxw (.same (.same (.same (.same (.same (.same (.same (.drop (.same (.drop (.same (.same (.same (.drop (.drop (.drop (.drop (.drop (.drop (.drop .nil)))))))))))))))))))) rfl ⟨(), rfl, rfl⟩))) (fun _ => .nil) fun x_s1 => (ls_to (e := [.val (.ref a), .val x_f, .val x_table, .val x_depth, .val x_n, .val x_tops, .val x_one, .no, .val x_other, .no, .val x_tell, .val x_first, .val x_second, .no, .no, .no, .no, .no, .no, .no]) rfl (ls_set (le_lcN (li_rng1 (la_cons (le_n_p loc_len (lapv_cons (lp_v (lp_var rfl)) lapv_nil)) la_nil)) (fun x_e => (le_n loc_min2 (lav_cons (lv_of (le_op_pp loc_ix (lp_v (lp_var rfl)) (lp_v (lp_var rfl)))) (lav_cons (lv_of (le_op_pp loc_ix (lp_v (lp_var rfl)) (lp_v (lp_var rfl)))) lav_nil))))) fun x_lower => (ls_to (e := [.val (.ref a), .val x_f, .val x_table, .val x_depth, .val x_n, .val x_tops, .val x_one, .no, .val x_other, .no, .val x_tell, .val x_first, .val x_second, .no, .val x_lower, .no, .no, .no, .no, .no]) rfl (ls_set (le_call (la_consp (lp_var rfl) (la_cons (le_callH_p rfl (List.mem_singleton.mpr rfl) (lap_cons (lp_var rfl) (lap_cons (lp_var rfl) (lap_cons (lp_var rfl) lap_nil)))) la_nil))) fun x_honest => (ls_to (e := [.val (.ref a), .val x_f, .val x_table, .val x_depth, .val x_n, .val x_tops, .val x_one, .no, .val x_other, .no, .val x_tell, .val x_first, .val x_second, .no, .val x_lower, .no, .val x_honest, .no, .no, .no]) rfl (ls_seq1 (ls_if (lt_test (le_op_mp (loc_eq _) (lv_of (le_call (la_consp (lp_var rfl) (la_consp (lp_var rfl) (la_consp (lp_var rfl) (la_cons (le_n_p loc_tuple (lapv_cons (lp_v (lp_var rfl)) lapv_nil)) (la_consp (lp_var rfl) (la_cons (le_n_p loc_tuple (lapv_cons (lp_v (lp_var rfl)) lapv_nil)) (la_consp (lp_var rfl) la_nil))))))))) (lp_v lp_k))) (ls_to (e := [.val (.ref a), .val x_f, .val x_table, .val x_depth, .val x_n, .val x_tops, .val x_one, .no, .val x_other, .no, .val x_tell, .val x_first, .val x_second, .no, .val x_lower, .no, .val x_honest, .no, .no, .no]) rfl (ls_retI (lp_e lp_k))) (ls_end ⟨rfl, rfl⟩)) .nil (ls_to (e := [.val (.ref a), .val x_f, .val x_table, .val x_depth, .val x_n, .val x_tops, .val x_one, .no, .val x_other, .no, .val x_tell, .val x_first, .val x_second, .no, .val x_lower, .no, .val x_honest, .no, .no, .no]) rfl (ls_new (ln_nN new_list (lapv_cons (lp_v (lp_var rfl)) lapv_nil)) fun x_out => (ls_to (e := [.val (.ref a), .val x_f, .val x_table, .val x_depth, .val x_n, .val x_tops, .val x_one, .no, .val x_other, .no, .val x_tell, .val x_first, .val x_second, .no, .val x_lower, .no, .val x_honest, .own x_out, .no, .no]) rfl (ls_item (i := 17) rfl (le_op loc_ix (lv_of (le_lst (la_cons (le_un_p loc_neg (lp_v lp_k)) (la_cons (le_op_pp loc_add (lp_v (lp_var rfl)) (lp_v lp_k)) la_nil)))) (lv_of (le_callH_p rfl (List.mem_singleton.mpr rfl) (lap_cons lp_k lap_nil)))) (le_callH rfl (List.mem_singleton.mpr rfl) (la_cons (le_n_p loc_len (lapv_cons (lp_own rfl) lapv_nil)) la_nil)) fun x_out1 => (ls_frz (i := 17) rfl (ls_to (e := [.val (.ref a), .val x_f, .val x_table, .val x_depth, .val x_n, .val x_tops, .val x_one, .no, .val x_other, .no, .val x_tell, .val x_first, .val x_second, .no, .val x_lower, .no, .val x_honest, .val (.lst x_out1), .no, .no]) rfl (ls_seq1 (ls_if (lt_test (le_op_mp (loc_eq _) (lv_of (le_call (la_consp (lp_var rfl) (la_consp (lp_var rfl) (la_consp (lp_var rfl) (la_cons (le_n_p loc_tuple (lapv_cons (lp_v (lp_var rfl)) lapv_nil)) (la_consp (lp_var rfl) (la_cons (le_n_p loc_tuple (lapv_cons (lp_v (lp_var rfl)) lapv_nil)) (la_consp (lp_var rfl) la_nil))))))))) (lp_v lp_k))) (ls_to (e := [.val (.ref a), .val x_f, .val x_table, .val x_depth, .val x_n, .val x_tops, .val x_one, .no, .val x_other, .no, .val x_tell, .val x_first, .val x_second, .no, .val x_lower, .no, .val x_honest, .val (.lst x_out1), .no, .no]) rfl (ls_retI (lp_e lp_k))) (ls_end ⟨rfl, rfl⟩)) .nil (ls_to (e := [.val (.ref a), .val x_f, .val x_table, .val x_depth, .val x_n, .val x_tops, .val x_one, .no, .val x_other, .no, .val x_tell, .val x_first, .val x_second, .no, .val x_lower, .no, .val x_honest, .val (.lst x_out1), .no, .no]) rfl (ls_seq1 (ls_if (lt_test (le_op_mp (loc_eq _) (lv_of (le_call (la_consp (lp_var rfl) (la_consp (lp_var rfl) (la_consp (lp_var rfl) (la_cons (le_n_p loc_tuple (lapv_cons (lp_v (lp_var rfl)) lapv_nil)) (la_consp (lp_var rfl) (la_cons (le_n_p loc_tuple (lapv_cons (lp_v (lp_var rfl)) lapv_nil)) (la_consp (lp_var rfl) la_nil))))))))) (lp_v lp_k))) (ls_to (e := [.val (.ref a), .val x_f, .val x_table, .val x_depth, .val x_n, .val x_tops, .val x_one, .no, .val x_other, .no, .val x_tell, .val x_first, .val x_second, .no, .val x_lower, .no, .val x_honest, .val (.lst x_out1), .no, .no]) rfl (ls_retI (lp_e lp_k))) (ls_end ⟨rfl, rfl⟩)) .nil (ls_to (e := [.val (.ref a), .val x_f, .val x_table, .val x_depth, .val x_n, .val x_tops, .val x_one, .no, .val x_other, .no, .val x_tell, .val x_first, .val x_second, .no, .val x_lower, .no, .val x_honest, .val (.lst x_out1), .no, .no]) rfl (ls_set (le_tup (la_consp lp_k (la_consp (lp_var rfl) (la_cons (le_op_pp loc_add (lp_v (lp_var rfl)) (lp_v lp_k)) (la_cons (le_n loc_tuple (lav_cons (lv_of (le_lcN (li_it (le_op_pp loc_ix (lp_v (lp_var rfl)) (lp_v lp_k))) (fun x_e1 => (le_op_pp loc_add (lp_v (lp_var rfl)) (lp_v lp_k))))) lav_nil)) la_nil))))) fun x_bad => (ls_to (e := [.val (.ref a), .val x_f, .val x_table, .val x_depth, .val x_n, .val x_tops, .val x_one, .no, .val x_other, .no, .val x_tell, .val x_first, .val x_second, .no, .val x_lower, .no, .val x_honest, .val (.lst x_out1), .val x_bad, .no]) rfl (ls_seq1 (ls_if (lt_test (le_op_mp (loc_eq _) (lv_of (le_call (la_consp (lp_var rfl) (la_consp (lp_var rfl) (la_consp (lp_var rfl) (la_cons (le_n_p loc_tuple (lapv_cons (lp_v (lp_var rfl)) lapv_nil)) (la_consp (lp_var rfl) (la_cons (le_n_p loc_tuple (lapv_cons (lp_v (lp_var rfl)) lapv_nil)) (la_consp (lp_var rfl) la_nil))))))))) (lp_v lp_k))) (ls_to (e := [.val (.ref a), .val x_f, .val x_table, .val x_depth, .val x_n, .val x_tops, .val x_one, .no, .val x_other, .no, .val x_tell, .val x_first, .val x_second, .no, .val x_lower, .no, .val x_honest, .val (.lst x_out1), .val x_bad, .no]) rfl (ls_retI (lp_e lp_k))) (ls_end ⟨rfl, rfl⟩)) .nil (ls_to (e := [.val (.ref a), .val x_f, .val x_table, .val x_depth, .val x_n, .val x_tops, .val x_one, .no, .val x_other, .no, .val x_tell, .val x_first, .val x_second, .no, .val x_lower, .no, .val x_honest, .val (.lst x_out1), .val x_bad, .no]) rfl (ls_seq1 (ls_if (lt_test (le_op_mp (loc_eq _) (lv_of (le_call (la_cons (le_tup (la_consp lp_k (la_consp (lp_var rfl) (la_consp (lp_var rfl) (la_cons (le_slice loc_sl (lv_of (le_op_pp loc_ix (lp_v (lp_var rfl)) (lp_v lp_k))) (lo_some (lp_e lp_k)) lo_none) la_nil))))) (la_consp lp_k (la_consp (lp_var rfl) (la_cons (le_n_p loc_tuple (lapv_cons (lp_v (lp_var rfl)) lapv_nil)) (la_consp (lp_var rfl) (la_cons (le_n_p loc_tuple (lapv_cons (lp_v (lp_var rfl)) lapv_nil)) (la_consp (lp_var rfl) la_nil))))))))) (lp_v lp_k))) (ls_to (e := [.val (.ref a), .val x_f, .val x_table, .val x_depth, .val x_n, .val x_tops, .val x_one, .no, .val x_other, .no, .val x_tell, .val x_first, .val x_second, .no, .val x_lower, .no, .val x_honest, .val (.lst x_out1), .val x_bad, .no]) rfl (ls_retI (lp_e lp_k))) (ls_end ⟨rfl, rfl⟩)) .nil (ls_to (e := [.val (.ref a), .val x_f, .val x_table, .val x_depth, .val x_n, .val x_tops, .val x_one, .no, .val x_other, .no, .val x_tell, .val x_first, .val x_second, .no, .val x_lower, .no, .val x_honest, .val (.lst x_out1), .val x_bad, .no]) rfl (ls_retI (le_op_mp (loc_eq _) (lv_of (le_call (la_consp (lp_var rfl) (la_cons (le_op loc_ix (lv_of (le_lst_p (lap_cons lp_k (lap_cons lp_k lap_nil)))) (lv_of (le_callH_p rfl (List.mem_singleton.mpr rfl) (lap_cons lp_k lap_nil)))) (la_consp (lp_var rfl) (la_cons (le_n_p loc_tuple (lapv_cons (lp_v (lp_var rfl)) lapv_nil)) (la_consp (lp_var rfl) (la_cons (le_n_p loc_tuple (lapv_cons (lp_v (lp_var rfl)) lapv_nil)) (la_consp (lp_var rfl) la_nil))))))))) (lp_v lp_k)))))))))))))))))))))))))))))))))))))))
theorem b__law_wrong (T : Txt P w K mg base c) : Has P w K mg base 8 "_law_wrong" s__law_wrong P__law_wrong (sp__law_wrong K c) := has__law_wrong T (b__law_strings T) (b__law_bent T) (b__law_refused T) (b__law_right T) (b__law_take T) (fun ds G Q E h => (by have := lenH9 h; simp only [P__law_wrong, List.length_cons, List.length_nil]; exact this)) fun ds G Q E h => (by
  obtain ⟨a, r, rfl, hh, E2, R, h1, h2, hm⟩ := h
  match r, hm with
  | [v0, v1, v2, v3, v4, v5, v6, v7, v8], hm => exact fin_of (fun b hb => by rw [List.mem_singleton] at hb; subst hb; exact hh) (l__law_wrong a v0 v1 v2 v3 v4 v5 v6 v7 v8) h1 h2 hm)
theorem l__law_lot (x_k : D) (x_depth : D) (x_total : D) : LS [] [] (fun d => d) (envOf N__law_lot [x_k, x_depth, x_total]) (t__law_lot K c) (F__law_lot x_k x_depth x_total) cEnd cNo cNo :=
 (ls_to (e := [.val x_k, .val x_depth, .val x_total, .no, .no, .no, .no, .no]) rfl (ls_set (le_lst (la_cons (le_lst_p lap_nil) la_nil)) fun x_found => (ls_to (e := [.val x_k, .val x_depth, .val x_total, .val x_found, .no, .no, .no, .no]) rfl (ls_forN (T := (fun x_s5 : D => [.no, .val x_depth, .val x_total, .val x_s5, .no, .no, .no, .no])) (s0 := x_found) (li_rng1_p (lap_cons (lp_var rfl) lap_nil)) (.drop (.same (.same (.same (.drop (.drop (.drop (.drop .nil)))))))) rfl (fun x_e x_s x_nx x_bk => (ls_to (e := [.no, .val x_depth, .val x_total, .val x_s, .val x_e, .no, .no, .no]) rfl (ls_new (ln_lst_p lap_nil) fun x_grown => (ls_to (e := [.no, .val x_depth, .val x_total, .val x_s, .val x_e, .own x_grown, .no, .no]) rfl (ls_forN (T := (fun x_s4 : List D => [.no, .val x_depth, .val x_total, .no, .no, .own x_s4, .no, .no])) (s0 := x_grown) (li_it_p (lp_var rfl)) (.drop (.same (.same (.drop (.drop (.same (.drop (.drop .nil)))))))) rfl (fun x_e1 x_s1 x_nx1 x_bk1 => (ls_to (e := [.no, .val x_depth, .val x_total, .no, .no, .own x_s1, .val x_e1, .no]) rfl (ls_one (ls_forN (T := (fun x_s3 : List D => [.no, .val x_depth, .val x_total, .no, .no, .own x_s3, .val x_e1, .no])) (s0 := x_s1) (li_rng1 (la_cons (le_op_pp loc_add (lp_v (lp_var rfl)) (lp_v lp_k)) la_nil)) (.drop (.same (.same (.drop (.drop (.same (.same (.drop .nil)))))))) rfl (fun x_e2 x_s2 x_nx2 x_bk2 => (ls_to (e := [.no, .val x_depth, .val x_total, .no, .no, .own x_s2, .val x_e1, .val x_e2]) rfl (ls_one (ls_appendX (i := 5) rfl (le_op_pm loc_add (lp_v (lp_var rfl)) (lv_of (le_lst_p (lap_cons (lp_var rfl) lap_nil)))) fun x_d => (ls_to (e := [.no, .val x_depth, .val x_total, .no, .no, .own (x_s2 ++ [x_d]), .val x_e1, .val x_e2]) rfl (ls_nxw (.drop (.same (.same (.drop (.drop (.same (.same (.drop .nil)))))))) rfl ⟨(x_s2 ++ [x_d]), rfl, rfl⟩)))))) fun x_s3 => (ls_to (e := [.no, .val x_depth, .val x_total, .no, .no, .own x_s3, .val x_e1, .no]) rfl (ls_nxw (.drop (.same (.same (.drop (.drop (.same (.drop (.drop .nil)))))))) rfl ⟨x_s3, rfl, rfl⟩)))))) fun x_s4 => (ls_frz (i := 5) rfl (ls_to (e := [.no, .val x_depth, .val x_total, .no, .no, .val (.lst x_s4), .no, .no]) rfl (ls_one (ls_set_p (lp_var rfl) (ls_to (e := [.no, .val x_depth, .val x_total, .val (.lst x_s4), .no, .val (.lst x_s4), .no, .no]) rfl (ls_nxw (.drop (.same (.same (.same (.drop (.drop (.drop (.drop .nil)))))))) rfl ⟨(.lst x_s4), rfl, rfl⟩))))))))))) fun x_s5 => (ls_to (e := [.no, .val x_depth, .val x_total, .val x_s5, .no, .no, .no, .no]) rfl (ls_retI (le_n loc_tuple (lav_cons (lv_of (le_lcfN (li_it_p (lp_var rfl)) (fun x_e3 => (lt_test (le_op_mp (loc_eq _) (lv_of (le_n_p loc_sum (lapv_cons (lp_v (lp_var rfl)) lapv_nil))) (lp_v (lp_var rfl))))) (fun x_e3 => (le_n_p loc_tuple (lapv_cons (lp_v (lp_var rfl)) lapv_nil))))) lav_nil))))))))
theorem b__law_lot (T : Txt P w K mg base c) : Has P w K mg base 1 "_law_lot" s__law_lot P__law_lot (sp__law_lot c) := has__law_lot T (fun ds G Q E h => (by have := len3 h; simp only [P__law_lot, List.length_cons, List.length_nil]; exact this)) fun ds G Q E h => (by
  have hl := len3 h
  match ds, hl, h with
  | [v0, v1, v2], _, h => exact fin_spM (l__law_lot v0 v1 v2) h)
theorem l__law_level (a : Addr) (x_f : D) (x_table : D) (x_n : D) : LS [a] [] (fun d => d) (envOf N__law_level (.ref a :: [x_f, x_table, x_n])) (t__law_level K c) (F__law_level c x_f x_table x_n) cEnd cNo cNo :=
 (ls_to (e := [.val (.ref a), .val x_f, .val x_table, .val x_n, .no, .no, .no, .no, .no, .no, .no, .no, .no, .no, .no, .no]) rfl (ls_set (le_op_pm loc_add (lp_v lp_k) (lv_of (le_callH_p rfl (List.mem_singleton.mpr rfl) (lap_cons lp_k lap_nil)))) fun x_k => (ls_to (e := [.val (.ref a), .val x_f, .val x_table, .val x_n, .val x_k, .no, .no, .no, .no, .no, .no, .no, .no, .no, .no, .no]) rfl (ls_set (le_op_pm loc_add (lp_v lp_k) (lv_of (le_callH_p rfl (List.mem_singleton.mpr rfl) (lap_cons lp_k lap_nil)))) fun x_depth => (ls_to (e := [.val (.ref a), .val x_f, .val x_table, .val x_n, .val x_k, .val x_depth, .no, .no, .no, .no, .no, .no, .no, .no, .no, .no]) rfl (ls_set (le_op_pm loc_add (lp_v lp_k) (lv_of (le_callH rfl (List.mem_singleton.mpr rfl) (la_cons (le_op_mp (loc_I0 _) (lv_of (le_op_pp loc_mul (lp_v (lp_var rfl)) (lp_v (lp_var rfl)))) (lp_v lp_k)) la_nil)))) fun x_total => (ls_to (e := [.val (.ref a), .val x_f, .val x_table, .val x_n, .val x_k, .val x_depth, .val x_total, .no, .no, .no, .no, .no, .no, .no, .no, .no]) rfl (ls_set (le_call_p (lap_cons (lp_var rfl) (lap_cons (lp_var rfl) (lap_cons (lp_var rfl) lap_nil)))) fun x_lot => (ls_to (e := [.val (.ref a), .val x_f, .val x_table, .val x_n, .val x_k, .val x_depth, .val x_total, .val x_lot, .no, .no, .no, .no, .no, .no, .no, .no]) rfl (ls_seq1 (ls_if (lt_or (lt_not (lt_tru (lv_of (le_call (la_cons (le_call_p (lap_cons (lp_var rfl) (lap_cons (lp_var rfl) (lap_cons (lp_var rfl) lap_nil)))) (la_consp (lp_var rfl) la_nil)))))) (lt_test (le_op_mp (loc_isB _) (lv_of (le_call_p (lap_cons (lp_var rfl) (lap_cons (lp_var rfl) lap_nil)))) (lp_v lp_k)))) (ls_to (e := [.val (.ref a), .val x_f, .val x_table, .val x_n, .val x_k, .val x_depth, .val x_total, .val x_lot, .no, .no, .no, .no, .no, .no, .no, .no]) rfl (ls_retI (lp_e lp_k))) (ls_end ⟨rfl, rfl⟩)) .nil (ls_to (e := [.val (.ref a), .val x_f, .val x_table, .val x_n, .val x_k, .val x_depth, .val x_total, .val x_lot, .no, .no, .no, .no, .no, .no, .no, .no]) rfl (ls_set (le_callH rfl (List.mem_singleton.mpr rfl) (la_cons (le_n_p loc_len (lapv_cons (lp_v (lp_var rfl)) lapv_nil)) la_nil)) fun x_at => (ls_to (e := [.val (.ref a), .val x_f, .val x_table, .val x_n, .val x_k, .val x_depth, .val x_total, .val x_lot, .val x_at, .no, .no, .no, .no, .no, .no, .no]) rfl (ls_set (le_op_pp loc_ix (lp_v (lp_var rfl)) (lp_v (lp_var rfl))) fun x_one => (ls_to (e := [.val (.ref a), .val x_f, .val x_table, .val x_n, .val x_k, .val x_depth, .val x_total, .val x_lot, .val x_at, .val x_one, .no, .no, .no, .no, .no, .no]) rfl (ls_set (le_op_pm loc_ix (lp_v (lp_var rfl)) (lv_of (le_op (loc_I _ _) (lv_of (le_n loc_int (lav_cons (lv_of (le_op loc_add (lv_of (le_op_pp loc_add (lp_v (lp_var rfl)) (lp_v lp_k))) (lv_of (le_callH rfl (List.mem_singleton.mpr rfl) (la_cons (le_op_mp (loc_I0 _) (lv_of (le_n_p loc_len (lapv_cons (lp_v (lp_var rfl)) lapv_nil))) (lp_v lp_k)) la_nil))))) lav_nil))) (lv_of (le_n_p loc_len (lapv_cons (lp_v (lp_var rfl)) lapv_nil)))))) fun x_other => (ls_to (e := [.val (.ref a), .val x_f, .val x_table, .val x_n, .val x_k, .val x_depth, .val x_total, .val x_lot, .val x_at, .val x_one, .val x_other, .no, .no, .no, .no, .no]) rfl (ls_set (le_lcN (li_rng1_p (lap_cons (lp_var rfl) lap_nil)) (fun x_e => (le_call (la_consp (lp_var rfl) (la_cons (le_callH rfl (List.mem_singleton.mpr rfl) (la_cons (le_op_pp (loc_I _ _) (lp_v lp_k) (lp_v (lp_var rfl))) la_nil)) (la_consp (lp_var rfl) la_nil)))))) fun x_tops => (ls_to (e := [.val (.ref a), .val x_f, .val x_table, .val x_n, .val x_k, .val x_depth, .val x_total, .val x_lot, .val x_at, .val x_one, .val x_other, .val x_tops, .no, .no, .no, .no]) rfl (ls_set (le_callH_p rfl (List.mem_singleton.mpr rfl) (lap_cons (lp_var rfl) (lap_cons (lp_var rfl) (lap_cons (lp_var rfl) lap_nil)))) fun x_sign => (ls_to (e := [.val (.ref a), .val x_f, .val x_table, .val x_n, .val x_k, .val x_depth, .val x_total, .val x_lot, .val x_at, .val x_one, .val x_other, .val x_tops, .no, .val x_sign, .no, .no]) rfl (ls_set (le_callH_p rfl (List.mem_singleton.mpr rfl) (lap_cons (lp_var rfl) (lap_cons (lp_var rfl) (lap_cons (lp_var rfl) lap_nil)))) fun x_forged => (ls_to (e := [.val (.ref a), .val x_f, .val x_table, .val x_n, .val x_k, .val x_depth, .val x_total, .val x_lot, .val x_at, .val x_one, .val x_other, .val x_tops, .no, .val x_sign, .val x_forged, .no]) rfl (ls_set (le_call (la_consp (lp_var rfl) (la_consp (lp_var rfl) (la_cons (le_call_p (lap_cons (lp_var rfl) (lap_cons (lp_var rfl) lap_nil))) (la_consp (lp_var rfl) (la_cons (le_call_p (lap_cons (lp_var rfl) (lap_cons (lp_var rfl) lap_nil))) (la_consp (lp_var rfl) (la_cons (le_call_p (lap_cons (lp_var rfl) (lap_cons (lp_var rfl) lap_nil))) la_nil)))))))) fun x_told => (ls_to (e := [.val (.ref a), .val x_f, .val x_table, .val x_n, .val x_k, .val x_depth, .val x_total, .val x_lot, .val x_at, .val x_one, .val x_other, .val x_tops, .no, .val x_sign, .val x_forged, .val x_told]) rfl (ls_retI (le_call (la_consp (lp_var rfl) (la_cons (le_call_p (lap_cons (lp_var rfl) (lap_cons (lp_var rfl) (lap_cons (lp_var rfl) (lap_cons (lp_var rfl) (lap_cons (lp_var rfl) (lap_cons (lp_var rfl) lap_nil))))))) la_nil)))))))))))))))))))))))))))))
theorem b__law_level (T : Txt P w K mg base c) : Has P w K mg base 7 "_law_level" s__law_level P__law_level (sp__law_level c) := has__law_level T (b__law_take T) (b__law_lot T) (b__law_same T) (b_level_messages T) (b_is_steady T) (b__law_led T) (b__law_right T) (b_turned_by T) (b__law_strings T) (b__law_due T) (fun ds G Q E h => (by have := lenH3 h; simp only [P__law_level, List.length_cons, List.length_nil]; exact this)) fun ds G Q E h => (by
  obtain ⟨a, r, rfl, hh, E2, R, h1, h2, hm⟩ := h
  match r, hm with
  | [v0, v1, v2], hm => exact fin_of (fun b hb => by rw [List.mem_singleton] at hb; subst hb; exact hh) (l__law_level a v0 v1 v2) h1 h2 hm)
theorem l__law_whole (ns : List Int) (hl : ns.length ≤ 63) : LS [] [] (fun d => d) (envOf N__law_whole [.scr ns]) (t__law_whole K c) (F__law_whole K c) cNo cNo cNo :=
 (ls_hand (fun G Q E h => ⟨ns, rfl, hl, h⟩) rfl envOf_own (fun a => (ls_to (e := [.val (.scr ns), .val (.ref a), .no, .no, .no, .no, .no, .no, .no, .no, .no, .no, .no, .no, .no, .no, .no, .no, .no, .no, .no, .no, .no, .no]) rfl (ls_set (le_op_pm loc_add (lp_v lp_k) (lv_of (le_callH_p rfl (List.mem_singleton.mpr rfl) (lap_cons lp_k lap_nil)))) fun x_n => (ls_to (e := [.val (.scr ns), .val (.ref a), .val x_n, .no, .no, .no, .no, .no, .no, .no, .no, .no, .no, .no, .no, .no, .no, .no, .no, .no, .no, .no, .no, .no]) rfl (ls_set (le_op_pp (loc_I _ _) (lp_v lp_k) (lp_v (lp_var rfl))) fun x_size => (ls_to (e := [.val (.scr ns), .val (.ref a), .val x_n, .val x_size, .no, .no, .no, .no, .no, .no, .no, .no, .no, .no, .no, .no, .no, .no, .no, .no, .no, .no, .no, .no]) rfl (ls_set (le_lcN (li_rng1_p (lap_cons (lp_var rfl) lap_nil)) (fun x_e => (le_callH_p rfl (List.mem_singleton.mpr rfl) (lap_cons (lp_var rfl) lap_nil)))) fun x_table => (ls_to (e := [.val (.scr ns), .val (.ref a), .val x_n, .val x_size, .val x_table, .no, .no, .no, .no, .no, .no, .no, .no, .no, .no, .no, .no, .no, .no, .no, .no, .no, .no, .no]) rfl (ls_set (le_op_mp (loc_eq _) (lv_of (le_callH_p rfl (List.mem_singleton.mpr rfl) (lap_cons lp_k lap_nil))) (lp_v lp_k)) fun x_order => (ls_to (e := [.val (.scr ns), .val (.ref a), .val x_n, .val x_size, .val x_table, .no, .val x_order, .no, .no, .no, .no, .no, .no, .no, .no, .no, .no, .no, .no, .no, .no, .no, .no, .no]) rfl (ls_ifj (T := (fun x_s : D => [.no, .val (.ref a), .val x_n, .val x_size, .val x_s, .no, .val x_order, .no, .no, .no, .no, .no, .no, .no, .no, .no, .no, .no, .no, .no, .no, .no, .no, .no])) (fun x_k => ls_if (lt_tru (lp_v (lp_var rfl))) (ls_to (e := [.val (.scr ns), .val (.ref a), .val x_n, .val x_size, .val x_table, .no, .val x_order, .no, .no, .no, .no, .no, .no, .no, .no, .no, .no, .no, .no, .no, .no, .no, .no, .no]) rfl (ls_one (ls_set (le_lcN (li_rng1_p (lap_cons (lp_var rfl) lap_nil)) (fun x_e1 => (le_op_mp (loc_I _ _) (lv_of (le_n loc_int (lav_cons (lv_of (le_op loc_add (lv_of (le_op_pm loc_mul (lp_v (lp_var rfl)) (lv_of (le_op_mp loc_add (lv_of (le_op_pm loc_mul (lp_v lp_k) (lv_of (le_op_pp loc_ix (lp_v (lp_var rfl)) (lp_v lp_k))))) (lp_v lp_k))))) (lv_of (le_op_pp loc_ix (lp_v (lp_var rfl)) (lp_v lp_k))))) lav_nil))) (lp_v (lp_var rfl))))) fun x_table1 => (ls_to (e := [.val (.scr ns), .val (.ref a), .val x_n, .val x_size, .val x_table1, .no, .val x_order, .no, .no, .no, .no, .no, .no, .no, .no, .no, .no, .no, .no, .no, .no, .no, .no, .no]) rfl (ls_nxw (.drop (.same (.same (.same (.same (.drop (.same (.drop (.drop (.drop (.drop (.drop (.drop (.drop (.drop (.drop (.drop (.drop (.drop (.drop (.drop (.drop (.drop (.drop .nil)))))))))))))))))))))))) rfl ⟨x_table1, rfl, rfl⟩))))) (ls_to (e := [.val (.scr ns), .val (.ref a), .val x_n, .val x_size, .val x_table, .no, .val x_order, .no, .no, .no, .no, .no, .no, .no, .no, .no, .no, .no, .no, .no, .no, .no, .no, .no]) rfl (ls_nxw (.drop (.same (.same (.same (.same (.drop (.same (.drop (.drop (.drop (.drop (.drop (.drop (.drop (.drop (.drop (.drop (.drop (.drop (.drop (.drop (.drop (.drop (.drop .nil)))))))))))))))))))))))) rfl ⟨x_table, rfl, rfl⟩))) (fun _ => .nil) fun x_s => (ls_to (e := [.no, .val (.ref a), .val x_n, .val x_size, .val x_s, .no, .val x_order, .no, .no, .no, .no, .no, .no, .no, .no, .no, .no, .no, .no, .no, .no, .no, .no, .no]) rfl (ls_set (le_tup (la_consp lp_k (la_consp (lp_var rfl) (la_consp (lp_var rfl) (la_cons (le_call_p (lap_cons (lp_var rfl) (lap_cons (lp_var rfl) lap_nil))) la_nil))))) fun x_f => (ls_to (e := [.no, .val (.ref a), .val x_n, .val x_size, .val x_s, .no, .val x_order, .no, .val x_f, .no, .no, .no, .no, .no, .no, .no, .no, .no, .no, .no, .no, .no, .no, .no]) rfl (ls_set (le_op_pm loc_add (lp_v lp_k) (lv_of (le_callH_p rfl (List.mem_singleton.mpr rfl) (lap_cons lp_k lap_nil)))) fun x_k1 => (ls_to (e := [.no, .val (.ref a), .val x_n, .val x_size, .val x_s, .no, .val x_order, .no, .val x_f, .val x_k1, .no, .no, .no, .no, .no, .no, .no, .no, .no, .no, .no, .no, .no, .no]) rfl (ls_set (le_op loc_ix (lv_of (le_lst_p (lap_cons lp_k (lap_cons lp_k (lap_cons lp_k (lap_cons lp_k (lap_cons lp_k (lap_cons lp_k (lap_cons lp_k lap_nil))))))))) (lv_of (le_callH_p rfl (List.mem_singleton.mpr rfl) (lap_cons lp_k lap_nil)))) fun x_depth => (ls_to (e := [.no, .val (.ref a), .val x_n, .val x_size, .val x_s, .no, .val x_order, .no, .val x_f, .val x_k1, .val x_depth, .no, .no, .no, .no, .no, .no, .no, .no, .no, .no, .no, .no, .no]) rfl (ls_set (le_lcN (li_rng1_p (lap_cons (lp_var rfl) lap_nil)) (fun x_e2 => (le_callH_p rfl (List.mem_singleton.mpr rfl) (lap_cons (lp_var rfl) lap_nil)))) fun x_secrets => (ls_to (e := [.no, .val (.ref a), .val x_n, .val x_size, .val x_s, .no, .val x_order, .no, .val x_f, .val x_k1, .val x_depth, .val x_secrets, .no, .no, .no, .no, .no, .no, .no, .no, .no, .no, .no, .no]) rfl (ls_set (le_lcN (li_it_p (lp_var rfl)) (fun x_e3 => (le_call_p (lap_cons (lp_var rfl) (lap_cons (lp_var rfl) (lap_cons (lp_var rfl) lap_nil)))))) fun x_tops => (ls_to (e := [.no, .val (.ref a), .val x_n, .val x_size, .val x_s, .no, .val x_order, .no, .val x_f, .val x_k1, .val x_depth, .val x_secrets, .val x_tops, .no, .no, .no, .no, .no, .no, .no, .no, .no, .no, .no]) rfl (ls_tgt (le_callH_p rfl (List.mem_singleton.mpr rfl) (lap_cons (lp_var rfl) (lap_cons (lp_var rfl) lap_nil))) lg_2 fun x_p => (ls_to (e := [.no, .val (.ref a), .val x_n, .val x_size, .val x_s, .no, .val x_order, .no, .val x_f, .val x_k1, .val x_depth, .val x_secrets, .val x_tops, .val x_p.1, .val x_p.2, .no, .no, .no, .no, .no, .no, .no, .no, .no]) rfl (ls_set (le_lcN (li_rng1_p (lap_cons (lp_var rfl) lap_nil)) (fun x_e4 => (le_call (la_consp (lp_var rfl) (la_cons (le_op_pp loc_ix (lp_v (lp_var rfl)) (lp_v (lp_var rfl))) (la_cons (le_op_pm (loc_I0 _) (lp_v (lp_var rfl)) (lv_of (le_op_pp loc_ix (lp_v (lp_var rfl)) (lp_v (lp_var rfl))))) la_nil)))))) fun x_honest => (ls_to (e := [.no, .val (.ref a), .val x_n, .val x_size, .val x_s, .no, .val x_order, .no, .val x_f, .val x_k1, .val x_depth, .val x_secrets, .val x_tops, .val x_p.1, .val x_p.2, .val x_honest, .no, .no, .no, .no, .no, .no, .no, .no]) rfl (ls_seq1 (ls_if (lt_not (lt_tru (lv_of (le_call (la_cons (le_call (la_consp (lp_var rfl) (la_consp (lp_var rfl) (la_cons (le_call_p (lap_cons (lp_var rfl) (lap_cons (lp_var rfl) lap_nil))) (la_cons (le_n_p loc_tuple (lapv_cons (lp_v (lp_var rfl)) lapv_nil)) la_nil))))) (la_cons (le_call_p (lap_cons (lp_var rfl) (lap_cons (lp_var rfl) lap_nil))) la_nil)))))) (ls_to (e := [.no, .val (.ref a), .val x_n, .val x_size, .val x_s, .no, .val x_order, .no, .val x_f, .val x_k1, .val x_depth, .val x_secrets, .val x_tops, .val x_p.1, .val x_p.2, .val x_honest, .no, .no, .no, .no, .no, .no, .no, .no]) rfl (ls_retI (lp_e lp_k))) (ls_end ⟨rfl, rfl⟩)) .nil (ls_to (e := [.no, .val (.ref a), .val x_n, .val x_size, .val x_s, .no, .val x_order, .no, .val x_f, .val x_k1, .val x_depth, .val x_secrets, .val x_tops, .val x_p.1, .val x_p.2, .val x_honest, .no, .no, .no, .no, .no, .no, .no, .no]) rfl (ls_set (le_if (lt_test (le_op_mp (loc_eq _) (lv_of (le_callH_p rfl (List.mem_singleton.mpr rfl) (lap_cons lp_k lap_nil))) (lp_v lp_k))) (le_callH_p rfl (List.mem_singleton.mpr rfl) (lap_cons (lp_var rfl) (lap_cons (lp_var rfl) (lap_cons (lp_var rfl) lap_nil)))) (lp_e (lp_var rfl))) fun x_sign => (ls_to (e := [.no, .val (.ref a), .val x_n, .val x_size, .val x_s, .no, .val x_order, .no, .val x_f, .val x_k1, .val x_depth, .val x_secrets, .val x_tops, .val x_p.1, .val x_p.2, .val x_honest, .no, .val x_sign, .no, .no, .no, .no, .no, .no]) rfl (ls_set (le_callH_p rfl (List.mem_singleton.mpr rfl) (lap_cons (lp_var rfl) (lap_cons (lp_var rfl) (lap_cons (lp_var rfl) lap_nil)))) fun x_forged => (ls_to (e := [.no, .val (.ref a), .val x_n, .val x_size, .val x_s, .no, .val x_order, .no, .val x_f, .val x_k1, .val x_depth, .val x_secrets, .val x_tops, .val x_p.1, .val x_p.2, .val x_honest, .no, .val x_sign, .val x_forged, .no, .no, .no, .no, .no]) rfl (ls_set (le_call_p (lap_cons (lp_var rfl) (lap_cons (lp_var rfl) lap_nil))) fun x_first => (ls_to (e := [.no, .val (.ref a), .val x_n, .val x_size, .val x_s, .no, .val x_order, .no, .val x_f, .val x_k1, .val x_depth, .val x_secrets, .val x_tops, .val x_p.1, .val x_p.2, .val x_honest, .no, .val x_sign, .val x_forged, .val x_first, .no, .no, .no, .no]) rfl (ls_set (le_call_p (lap_cons (lp_var rfl) (lap_cons (lp_var rfl) lap_nil))) fun x_second => (ls_to (e := [.no, .val (.ref a), .val x_n, .val x_size, .val x_s, .no, .val x_order, .no, .val x_f, .val x_k1, .val x_depth, .val x_secrets, .val x_tops, .val x_p.1, .val x_p.2, .val x_honest, .no, .val x_sign, .val x_forged, .val x_first, .val x_second, .no, .no, .no]) rfl (ls_set (le_call_p (lap_cons (lp_var rfl) (lap_cons (lp_var rfl) lap_nil))) fun x_tell => (ls_to (e := [.no, .val (.ref a), .val x_n, .val x_size, .val x_s, .no, .val x_order, .no, .val x_f, .val x_k1, .val x_depth, .val x_secrets, .val x_tops, .val x_p.1, .val x_p.2, .val x_honest, .no, .val x_sign, .val x_forged, .val x_first, .val x_second, .val x_tell, .no, .no]) rfl (ls_seq1 (ls_if (lt_or (lt_test (le_op_mp (loc_isB _) (lv_of (le_call (la_consp (lp_var rfl) (la_consp (lp_var rfl) (la_consp (lp_var rfl) (la_cons (le_n_p loc_tuple (lapv_cons (lp_v (lp_var rfl)) lapv_nil)) (la_consp (lp_var rfl) la_nil))))))) (lp_v lp_k))) (lt_test (le_op_mp (loc_isB _) (lv_of (le_call (la_consp (lp_var rfl) (la_consp (lp_var rfl) (la_consp (lp_var rfl) (la_cons (le_n_p loc_tuple (lapv_cons (lp_v (lp_var rfl)) lapv_nil)) (la_consp (lp_var rfl) la_nil))))))) (lp_v lp_k)))) (ls_to (e := [.no, .val (.ref a), .val x_n, .val x_size, .val x_s, .no, .val x_order, .no, .val x_f, .val x_k1, .val x_depth, .val x_secrets, .val x_tops, .val x_p.1, .val x_p.2, .val x_honest, .no, .val x_sign, .val x_forged, .val x_first, .val x_second, .val x_tell, .no, .no]) rfl (ls_retI (lp_e lp_k))) (ls_end ⟨rfl, rfl⟩)) .nil (ls_to (e := [.no, .val (.ref a), .val x_n, .val x_size, .val x_s, .no, .val x_order, .no, .val x_f, .val x_k1, .val x_depth, .val x_secrets, .val x_tops, .val x_p.1, .val x_p.2, .val x_honest, .no, .val x_sign, .val x_forged, .val x_first, .val x_second, .val x_tell, .no, .no]) rfl (ls_set (le_call_p (lap_cons (lp_var rfl) (lap_cons (lp_var rfl) (lap_cons (lp_var rfl) (lap_cons (lp_var rfl) (lap_cons (lp_var rfl) (lap_cons (lp_var rfl) lap_nil))))))) fun x_due => (ls_to (e := [.no, .val (.ref a), .val x_n, .val x_size, .val x_s, .no, .val x_order, .no, .val x_f, .val x_k1, .val x_depth, .val x_secrets, .val x_tops, .val x_p.1, .val x_p.2, .val x_honest, .no, .val x_sign, .val x_forged, .val x_first, .val x_second, .val x_tell, .val x_due, .no]) rfl (ls_set (le_call (la_consp (lp_var rfl) (la_consp (lp_var rfl) (la_consp (lp_var rfl) (la_cons (le_n_p loc_tuple (lapv_cons (lp_v (lp_var rfl)) lapv_nil)) (la_consp (lp_var rfl) (la_cons (le_n_p loc_tuple (lapv_cons (lp_v (lp_var rfl)) lapv_nil)) (la_consp (lp_var rfl) la_nil)))))))) fun x_told => (ls_to (e := [.no, .val (.ref a), .val x_n, .val x_size, .val x_s, .no, .val x_order, .no, .val x_f, .val x_k1, .val x_depth, .val x_secrets, .val x_tops, .val x_p.1, .val x_p.2, .val x_honest, .no, .val x_sign, .val x_forged, .val x_first, .val x_second, .val x_tell, .val x_due, .val x_told]) rfl (ls_seq1 (ls_if (lt_or (lt_not (lt_tru (lv_of (le_call_p (lap_cons (lp_var rfl) (lap_cons (lp_var rfl) lap_nil)))))) (lt_and (lt_test (le_op_mp (loc_eq _) (lv_of (le_op_pp loc_ix (lp_v (lp_var rfl)) (lp_v lp_k))) (lp_v lp_k))) (lt_or (lt_tru (lp_v (lp_var rfl))) (lt_test (le_op_mp (loc_isN _) (lv_of (le_call (la_cons (le_n_p loc_tuple (lapv_cons (lp_v (lp_var rfl)) lapv_nil)) la_nil))) (lp_v lp_k)))))) (ls_to (e := [.no, .val (.ref a), .val x_n, .val x_size, .val x_s, .no, .val x_order, .no, .val x_f, .val x_k1, .val x_depth, .val x_secrets, .val x_tops, .val x_p.1, .val x_p.2, .val x_honest, .no, .val x_sign, .val x_forged, .val x_first, .val x_second, .val x_tell, .val x_due, .val x_told]) rfl (ls_retI (lp_e lp_k))) (ls_end ⟨rfl, rfl⟩)) .nil (ls_to (e := [.no, .val (.ref a), .val x_n, .val x_size, .val x_s, .no, .val x_order, .no, .val x_f, .val x_k1, .val x_depth, .val x_secrets, .val x_tops, .val x_p.1, .val x_p.2, .val x_honest, .no, .val x_sign, .val x_forged, .val x_first, .val x_second, .val x_tell, .val x_due, .val x_told]) rfl (ls_seq1 (ls_if (lt_and (lt_test (le_op_mp (loc_eq _) (lv_of (le_op_pp loc_ix (lp_v (lp_var rfl)) (lp_v lp_k))) (lp_v lp_k))) (lt_test (le_op (loc_eq _) (lv_of (le_call (la_consp (lp_var rfl) (la_cons (le_op_pp loc_ix (lp_v (lp_var rfl)) (lp_v lp_k)) la_nil)))) (lv_of (le_op_pm loc_ix (lp_v (lp_var rfl)) (lv_of (le_op_pp loc_ix (lp_v (lp_var rfl)) (lp_v lp_k)))))))) (ls_to (e := [.no, .val (.ref a), .val x_n, .val x_size, .val x_s, .no, .val x_order, .no, .val x_f, .val x_k1, .val x_depth, .val x_secrets, .val x_tops, .val x_p.1, .val x_p.2, .val x_honest, .no, .val x_sign, .val x_forged, .val x_first, .val x_second, .val x_tell, .val x_due, .val x_told]) rfl (ls_retI (lp_e lp_k))) (ls_end ⟨rfl, rfl⟩)) .nil (ls_to (e := [.no, .val (.ref a), .val x_n, .val x_size, .val x_s, .no, .val x_order, .no, .val x_f, .val x_k1, .val x_depth, .val x_secrets, .val x_tops, .val x_p.1, .val x_p.2, .val x_honest, .no, .val x_sign, .val x_forged, .val x_first, .val x_second, .val x_tell, .val x_due, .val x_told]) rfl (ls_seq1 (ls_if (lt_and (lt_test (le_op_mp (loc_eq _) (lv_of (le_op_pp loc_ix (lp_v (lp_var rfl)) (lp_v lp_k))) (lp_v lp_k))) (lt_or (lt_test (le_op (loc_eq _) (lv_of (le_call (la_consp (lp_var rfl) (la_cons (le_op_mp loc_ix (lv_of (le_op_pp loc_ix (lp_v (lp_var rfl)) (lp_v lp_k))) (lp_v lp_k)) la_nil)))) (lv_of (le_call (la_consp (lp_var rfl) (la_cons (le_op_mp loc_ix (lv_of (le_op_pp loc_ix (lp_v (lp_var rfl)) (lp_v lp_k))) (lp_v lp_k)) la_nil)))))) (lt_test (le_op (loc_eq _) (lv_of (le_call (la_consp (lp_var rfl) (la_cons (le_op_mp loc_ix (lv_of (le_op_pp loc_ix (lp_v (lp_var rfl)) (lp_v lp_k))) (lp_v lp_k)) (la_consp lp_k la_nil))))) (lv_of (le_op_mp loc_ix (lv_of (le_op_pp loc_ix (lp_v (lp_var rfl)) (lp_v lp_k))) (lp_v lp_k))))))) (ls_to (e := [.no, .val (.ref a), .val x_n, .val x_size, .val x_s, .no, .val x_order, .no, .val x_f, .val x_k1, .val x_depth, .val x_secrets, .val x_tops, .val x_p.1, .val x_p.2, .val x_honest, .no, .val x_sign, .val x_forged, .val x_first, .val x_second, .val x_tell, .val x_due, .val x_told]) rfl (ls_retI (lp_e lp_k))) (ls_end ⟨rfl, rfl⟩)) .nil (ls_to (e := [.no, .val (.ref a), .val x_n, .val x_size, .val x_s, .no, .val x_order, .no, .val x_f, .val x_k1, .val x_depth, .val x_secrets, .val x_tops, .val x_p.1, .val x_p.2, .val x_honest, .no, .val x_sign, .val x_forged, .val x_first, .val x_second, .val x_tell, .val x_due, .val x_told]) rfl (ls_seq1 (ls_if (lt_not (lt_tru (lv_of (le_callH_p rfl (List.mem_singleton.mpr rfl) (lap_cons (lp_var rfl) (lap_cons (lp_var rfl) (lap_cons (lp_var rfl) lap_nil))))))) (ls_to (e := [.no, .val (.ref a), .val x_n, .val x_size, .val x_s, .no, .val x_order, .no, .val x_f, .val x_k1, .val x_depth, .val x_secrets, .val x_tops, .val x_p.1, .val x_p.2, .val x_honest, .no, .val x_sign, .val x_forged, .val x_first, .val x_second, .val x_tell, .val x_due, .val x_told]) rfl (ls_retI (lp_e lp_k))) (ls_end ⟨rfl, rfl⟩)) .nil (ls_to (e := [.no, .val (.ref a), .val x_n, .val x_size, .val x_s, .no, .val x_order, .no, .val x_f, .val x_k1, .val x_depth, .val x_secrets, .val x_tops, .val x_p.1, .val x_p.2, .val x_honest, .no, .val x_sign, .val x_forged, .val x_first, .val x_second, .val x_tell, .val x_due, .val x_told]) rfl (ls_retI (le_callH_p rfl (List.mem_singleton.mpr rfl) (lap_cons (lp_var rfl) (lap_cons (lp_var rfl) (lap_cons (lp_var rfl) (lap_cons (lp_var rfl) (lap_cons (lp_var rfl) (lap_cons (lp_var rfl) (lap_cons (lp_var rfl) (lap_cons (lp_var rfl) (lap_cons (lp_var rfl) lap_nil))))))))))))))))))))))))))))))))))))))))))))))))))))))))))))))) (fun _ _ h => h) (fun _ _ h => h) (fun _ _ h => h))
theorem b__law_whole (T : Txt P w K mg base c) : Has P w K mg base 9 "_law_whole" s__law_whole P__law_whole (sp__law_whole K c) := has__law_whole T (b__law_hand T) (b__law_take T) (b__law_strings T) (b__law_led T) (b__law_messages T) (b__law_same T) (b_signed T) (b__law_right T) (b_is_signed T) (b__law_due T) (b_turned_by T) (b_first_double T) (b_row_of T) (b_led T) (b__law_level T) (b__law_wrong T) (fun ds G Q E ⟨ns, e, _⟩ => by rw [e]; rfl) fun ds G Q E ⟨ns, e, hl, E2, R, h1, h2, hm⟩ => by
  subst e
  exact fin_no (l__law_whole ns hl) h1 h2 hm
theorem b_law (T : Txt P w K mg base c) (hF : F__law_whole K c (fun _ => False) fun d => d = .bl true) : Has P w K mg base 10 "law" s_law P_law (sp_law K c) := by
  refine has_law T (b__law_whole T) (fun ds G Q E ⟨ns, e, _⟩ => by rw [e]; rfl) fun ds G Q E ⟨ns, e, hl, q⟩ => ?_
  subst e
  exact ⟨.scr ns, rfl, ns, rfl, hl, (fun _ => False), (fun d => d = .bl true), fun x h => h.elim, fun d h => by rw [h]; exact RetW.same (q G), hF⟩
end
end K82

namespace K82
open PySem PySem.Spec L2 DL FL
theorem top_mk {P : Program} {w : World} {K : PySem.W.Frag} {h : Heap} {mg : Str → Option Value} (X : K.In h) (G : h.Ns mainGlobals mg) {fa : Addr}
    {C_BreakError C_BadBlock C_BadChoice C_BadMessage C_BadTable : Addr}
    {f_number_of f_is_number f_is_bits f_is_row f_is_generator f_is_function f_check_block f_row_at f_row_of f_check_even f_check_depth f_check_numbers f_way_on f_led f_rises_at f_is_steady f_level_messages f_signed f_comes_up f_is_signed f_turned_by f_is_map f_check_map f_first_double f__law_hand f__law_take f__law_same f__law_bits f__law_led f__law_right f__law_strings f__law_above f__law_due f__law_refused f__law_messages f__law_bent f__law_wrong f__law_lot f__law_level f__law_whole f_law : Addr}
    {od_number_of an_number_of : Option Addr} {sl_number_of : Array (Option Value)} {oc_number_of kV_number_of dc_number_of pm_number_of cd_number_of ct_number_of : Value}
    {od_is_number an_is_number : Option Addr} {sl_is_number : Array (Option Value)} {oc_is_number kV_is_number dc_is_number pm_is_number cd_is_number ct_is_number : Value}
    {od_is_bits an_is_bits : Option Addr} {sl_is_bits : Array (Option Value)} {oc_is_bits kV_is_bits dc_is_bits pm_is_bits cd_is_bits ct_is_bits : Value}
    {od_is_row an_is_row : Option Addr} {sl_is_row : Array (Option Value)} {oc_is_row kV_is_row dc_is_row pm_is_row cd_is_row ct_is_row : Value}
    {od_is_generator an_is_generator : Option Addr} {sl_is_generator : Array (Option Value)} {oc_is_generator kV_is_generator dc_is_generator pm_is_generator cd_is_generator ct_is_generator : Value}
    {od_is_function an_is_function : Option Addr} {sl_is_function : Array (Option Value)} {oc_is_function kV_is_function dc_is_function pm_is_function cd_is_function ct_is_function : Value}
    {od_check_block an_check_block : Option Addr} {sl_check_block : Array (Option Value)} {oc_check_block kV_check_block dc_check_block pm_check_block cd_check_block ct_check_block : Value}
    {od_row_at an_row_at : Option Addr} {sl_row_at : Array (Option Value)} {oc_row_at kV_row_at dc_row_at pm_row_at cd_row_at ct_row_at : Value}
    {od_row_of an_row_of : Option Addr} {sl_row_of : Array (Option Value)} {oc_row_of kV_row_of dc_row_of pm_row_of cd_row_of ct_row_of : Value}
    {od_check_even an_check_even : Option Addr} {sl_check_even : Array (Option Value)} {oc_check_even kV_check_even dc_check_even pm_check_even cd_check_even ct_check_even : Value}
    {od_check_depth an_check_depth : Option Addr} {sl_check_depth : Array (Option Value)} {oc_check_depth kV_check_depth dc_check_depth pm_check_depth cd_check_depth ct_check_depth : Value}
    {od_check_numbers an_check_numbers : Option Addr} {sl_check_numbers : Array (Option Value)} {oc_check_numbers kV_check_numbers dc_check_numbers pm_check_numbers cd_check_numbers ct_check_numbers : Value}
    {od_way_on an_way_on : Option Addr} {sl_way_on : Array (Option Value)} {oc_way_on kV_way_on dc_way_on pm_way_on cd_way_on ct_way_on : Value}
    {od_led an_led : Option Addr} {sl_led : Array (Option Value)} {oc_led kV_led dc_led pm_led cd_led ct_led : Value}
    {od_rises_at an_rises_at : Option Addr} {sl_rises_at : Array (Option Value)} {oc_rises_at kV_rises_at dc_rises_at pm_rises_at cd_rises_at ct_rises_at : Value}
    {od_is_steady an_is_steady : Option Addr} {sl_is_steady : Array (Option Value)} {oc_is_steady kV_is_steady dc_is_steady pm_is_steady cd_is_steady ct_is_steady : Value}
    {od_level_messages an_level_messages : Option Addr} {sl_level_messages : Array (Option Value)} {oc_level_messages kV_level_messages dc_level_messages pm_level_messages cd_level_messages ct_level_messages : Value}
    {od_signed an_signed : Option Addr} {sl_signed : Array (Option Value)} {oc_signed kV_signed dc_signed pm_signed cd_signed ct_signed : Value}
    {od_comes_up an_comes_up : Option Addr} {sl_comes_up : Array (Option Value)} {oc_comes_up kV_comes_up dc_comes_up pm_comes_up cd_comes_up ct_comes_up : Value}
    {od_is_signed an_is_signed : Option Addr} {sl_is_signed : Array (Option Value)} {oc_is_signed kV_is_signed dc_is_signed pm_is_signed cd_is_signed ct_is_signed : Value}
    {od_turned_by an_turned_by : Option Addr} {sl_turned_by : Array (Option Value)} {oc_turned_by kV_turned_by dc_turned_by pm_turned_by cd_turned_by ct_turned_by : Value}
    {od_is_map an_is_map : Option Addr} {sl_is_map : Array (Option Value)} {oc_is_map kV_is_map dc_is_map pm_is_map cd_is_map ct_is_map : Value}
    {od_check_map an_check_map : Option Addr} {sl_check_map : Array (Option Value)} {oc_check_map kV_check_map dc_check_map pm_check_map cd_check_map ct_check_map : Value}
    {od_first_double an_first_double : Option Addr} {sl_first_double : Array (Option Value)} {oc_first_double kV_first_double dc_first_double pm_first_double cd_first_double ct_first_double : Value}
    {od__law_hand an__law_hand : Option Addr} {sl__law_hand : Array (Option Value)} {oc__law_hand kV__law_hand dc__law_hand pm__law_hand cd__law_hand ct__law_hand : Value}
    {od__law_take an__law_take : Option Addr} {sl__law_take : Array (Option Value)} {oc__law_take kV__law_take dc__law_take pm__law_take cd__law_take ct__law_take : Value}
    {od__law_same an__law_same : Option Addr} {sl__law_same : Array (Option Value)} {oc__law_same kV__law_same dc__law_same pm__law_same cd__law_same ct__law_same : Value}
    {od__law_bits an__law_bits : Option Addr} {sl__law_bits : Array (Option Value)} {oc__law_bits kV__law_bits dc__law_bits pm__law_bits cd__law_bits ct__law_bits : Value}
    {od__law_led an__law_led : Option Addr} {sl__law_led : Array (Option Value)} {oc__law_led kV__law_led dc__law_led pm__law_led cd__law_led ct__law_led : Value}
    {od__law_right an__law_right : Option Addr} {sl__law_right : Array (Option Value)} {oc__law_right kV__law_right dc__law_right pm__law_right cd__law_right ct__law_right : Value}
    {od__law_strings an__law_strings : Option Addr} {sl__law_strings : Array (Option Value)} {oc__law_strings kV__law_strings dc__law_strings pm__law_strings cd__law_strings ct__law_strings : Value}
    {od__law_above an__law_above : Option Addr} {sl__law_above : Array (Option Value)} {oc__law_above kV__law_above dc__law_above pm__law_above cd__law_above ct__law_above : Value}
    {od__law_due an__law_due : Option Addr} {sl__law_due : Array (Option Value)} {oc__law_due kV__law_due dc__law_due pm__law_due cd__law_due ct__law_due : Value}
    {od__law_refused an__law_refused : Option Addr} {sl__law_refused : Array (Option Value)} {oc__law_refused kV__law_refused dc__law_refused pm__law_refused cd__law_refused ct__law_refused : Value}
    {od__law_messages an__law_messages : Option Addr} {sl__law_messages : Array (Option Value)} {oc__law_messages kV__law_messages dc__law_messages pm__law_messages cd__law_messages ct__law_messages : Value}
    {od__law_bent an__law_bent : Option Addr} {sl__law_bent : Array (Option Value)} {oc__law_bent kV__law_bent dc__law_bent pm__law_bent cd__law_bent ct__law_bent : Value}
    {od__law_wrong an__law_wrong : Option Addr} {sl__law_wrong : Array (Option Value)} {oc__law_wrong kV__law_wrong dc__law_wrong pm__law_wrong cd__law_wrong ct__law_wrong : Value}
    {od__law_lot an__law_lot : Option Addr} {sl__law_lot : Array (Option Value)} {oc__law_lot kV__law_lot dc__law_lot pm__law_lot cd__law_lot ct__law_lot : Value}
    {od__law_level an__law_level : Option Addr} {sl__law_level : Array (Option Value)} {oc__law_level kV__law_level dc__law_level pm__law_level cd__law_level ct__law_level : Value}
    {od__law_whole an__law_whole : Option Addr} {sl__law_whole : Array (Option Value)} {oc__law_whole kV__law_whole dc__law_whole pm__law_whole cd__law_whole ct__law_whole : Value}
    {od_law an_law : Option Addr} {sl_law : Array (Option Value)} {oc_law kV_law dc_law pm_law cd_law ct_law : Value}
    {tk_MOST_LENGTH : Tok}
    {tk_MOST_DEPTH : Tok}
    {tk_MOST_INPUTS : Tok}
    {nm_BadTable q_BadTable : Str} {N_BadTable I_BadTable : Addr} {bs_BadTable bm_BadTable sub_BadTable : List Value} {sn_BadTable : List Str} {ab_BadTable : Bool} {col_BadTable : Option Bool} {dd_BadTable : Option Addr} {m0_BadTable m1_BadTable m2_BadTable m3_BadTable m5_BadTable : Option Value}
    {od_BadTable an_BadTable : Option Addr} {sl_BadTable : Array (Option Value)} {oc_BadTable kV_BadTable dc_BadTable pm_BadTable cd_BadTable ct_BadTable : Value}
    (hfa : mg "law" = some (.ref fa))
    (a_number_of : PySem.W.nsIn K mainGlobals "number_of" = some (some (.ref f_number_of)))
    (l_number_of : K.lookup f_number_of = some ⟨oc_number_of, od_number_of, .func (PySem.W.fnOf "number_of" "number_of" (defArgs s_number_of) (defBody s_number_of) (defScope s_number_of) .none kV_number_of dc_number_of pm_number_of an_number_of cd_number_of ct_number_of), sl_number_of⟩)
    (c_number_of : PySem.W.codeIn K cd_number_of "number_of" = true)
    (k_number_of : PySem.W.keepIn K (.ref f_number_of) = true)
    (a_is_number : PySem.W.nsIn K mainGlobals "is_number" = some (some (.ref f_is_number)))
    (l_is_number : K.lookup f_is_number = some ⟨oc_is_number, od_is_number, .func (PySem.W.fnOf "is_number" "is_number" (defArgs s_is_number) (defBody s_is_number) (defScope s_is_number) .none kV_is_number dc_is_number pm_is_number an_is_number cd_is_number ct_is_number), sl_is_number⟩)
    (c_is_number : PySem.W.codeIn K cd_is_number "is_number" = true)
    (k_is_number : PySem.W.keepIn K (.ref f_is_number) = true)
    (a_is_bits : PySem.W.nsIn K mainGlobals "is_bits" = some (some (.ref f_is_bits)))
    (l_is_bits : K.lookup f_is_bits = some ⟨oc_is_bits, od_is_bits, .func (PySem.W.fnOf "is_bits" "is_bits" (defArgs s_is_bits) (defBody s_is_bits) (defScope s_is_bits) .none kV_is_bits dc_is_bits pm_is_bits an_is_bits cd_is_bits ct_is_bits), sl_is_bits⟩)
    (c_is_bits : PySem.W.codeIn K cd_is_bits "is_bits" = true)
    (k_is_bits : PySem.W.keepIn K (.ref f_is_bits) = true)
    (a_is_row : PySem.W.nsIn K mainGlobals "is_row" = some (some (.ref f_is_row)))
    (l_is_row : K.lookup f_is_row = some ⟨oc_is_row, od_is_row, .func (PySem.W.fnOf "is_row" "is_row" (defArgs s_is_row) (defBody s_is_row) (defScope s_is_row) .none kV_is_row dc_is_row pm_is_row an_is_row cd_is_row ct_is_row), sl_is_row⟩)
    (c_is_row : PySem.W.codeIn K cd_is_row "is_row" = true)
    (k_is_row : PySem.W.keepIn K (.ref f_is_row) = true)
    (a_is_generator : PySem.W.nsIn K mainGlobals "is_generator" = some (some (.ref f_is_generator)))
    (l_is_generator : K.lookup f_is_generator = some ⟨oc_is_generator, od_is_generator, .func (PySem.W.fnOf "is_generator" "is_generator" (defArgs s_is_generator) (defBody s_is_generator) (defScope s_is_generator) .none kV_is_generator dc_is_generator pm_is_generator an_is_generator cd_is_generator ct_is_generator), sl_is_generator⟩)
    (c_is_generator : PySem.W.codeIn K cd_is_generator "is_generator" = true)
    (k_is_generator : PySem.W.keepIn K (.ref f_is_generator) = true)
    (a_is_function : PySem.W.nsIn K mainGlobals "is_function" = some (some (.ref f_is_function)))
    (l_is_function : K.lookup f_is_function = some ⟨oc_is_function, od_is_function, .func (PySem.W.fnOf "is_function" "is_function" (defArgs s_is_function) (defBody s_is_function) (defScope s_is_function) .none kV_is_function dc_is_function pm_is_function an_is_function cd_is_function ct_is_function), sl_is_function⟩)
    (c_is_function : PySem.W.codeIn K cd_is_function "is_function" = true)
    (k_is_function : PySem.W.keepIn K (.ref f_is_function) = true)
    (a_check_block : PySem.W.nsIn K mainGlobals "check_block" = some (some (.ref f_check_block)))
    (l_check_block : K.lookup f_check_block = some ⟨oc_check_block, od_check_block, .func (PySem.W.fnOf "check_block" "check_block" (defArgs s_check_block) (defBody s_check_block) (defScope s_check_block) .none kV_check_block dc_check_block pm_check_block an_check_block cd_check_block ct_check_block), sl_check_block⟩)
    (c_check_block : PySem.W.codeIn K cd_check_block "check_block" = true)
    (k_check_block : PySem.W.keepIn K (.ref f_check_block) = true)
    (a_row_at : PySem.W.nsIn K mainGlobals "row_at" = some (some (.ref f_row_at)))
    (l_row_at : K.lookup f_row_at = some ⟨oc_row_at, od_row_at, .func (PySem.W.fnOf "row_at" "row_at" (defArgs s_row_at) (defBody s_row_at) (defScope s_row_at) .none kV_row_at dc_row_at pm_row_at an_row_at cd_row_at ct_row_at), sl_row_at⟩)
    (c_row_at : PySem.W.codeIn K cd_row_at "row_at" = true)
    (k_row_at : PySem.W.keepIn K (.ref f_row_at) = true)
    (a_row_of : PySem.W.nsIn K mainGlobals "row_of" = some (some (.ref f_row_of)))
    (l_row_of : K.lookup f_row_of = some ⟨oc_row_of, od_row_of, .func (PySem.W.fnOf "row_of" "row_of" (defArgs s_row_of) (defBody s_row_of) (defScope s_row_of) .none kV_row_of dc_row_of pm_row_of an_row_of cd_row_of ct_row_of), sl_row_of⟩)
    (c_row_of : PySem.W.codeIn K cd_row_of "row_of" = true)
    (k_row_of : PySem.W.keepIn K (.ref f_row_of) = true)
    (a_check_even : PySem.W.nsIn K mainGlobals "check_even" = some (some (.ref f_check_even)))
    (l_check_even : K.lookup f_check_even = some ⟨oc_check_even, od_check_even, .func (PySem.W.fnOf "check_even" "check_even" (defArgs s_check_even) (defBody s_check_even) (defScope s_check_even) .none kV_check_even dc_check_even pm_check_even an_check_even cd_check_even ct_check_even), sl_check_even⟩)
    (c_check_even : PySem.W.codeIn K cd_check_even "check_even" = true)
    (k_check_even : PySem.W.keepIn K (.ref f_check_even) = true)
    (a_check_depth : PySem.W.nsIn K mainGlobals "check_depth" = some (some (.ref f_check_depth)))
    (l_check_depth : K.lookup f_check_depth = some ⟨oc_check_depth, od_check_depth, .func (PySem.W.fnOf "check_depth" "check_depth" (defArgs s_check_depth) (defBody s_check_depth) (defScope s_check_depth) .none kV_check_depth dc_check_depth pm_check_depth an_check_depth cd_check_depth ct_check_depth), sl_check_depth⟩)
    (c_check_depth : PySem.W.codeIn K cd_check_depth "check_depth" = true)
    (k_check_depth : PySem.W.keepIn K (.ref f_check_depth) = true)
    (a_check_numbers : PySem.W.nsIn K mainGlobals "check_numbers" = some (some (.ref f_check_numbers)))
    (l_check_numbers : K.lookup f_check_numbers = some ⟨oc_check_numbers, od_check_numbers, .func (PySem.W.fnOf "check_numbers" "check_numbers" (defArgs s_check_numbers) (defBody s_check_numbers) (defScope s_check_numbers) .none kV_check_numbers dc_check_numbers pm_check_numbers an_check_numbers cd_check_numbers ct_check_numbers), sl_check_numbers⟩)
    (c_check_numbers : PySem.W.codeIn K cd_check_numbers "check_numbers" = true)
    (k_check_numbers : PySem.W.keepIn K (.ref f_check_numbers) = true)
    (a_way_on : PySem.W.nsIn K mainGlobals "way_on" = some (some (.ref f_way_on)))
    (l_way_on : K.lookup f_way_on = some ⟨oc_way_on, od_way_on, .func (PySem.W.fnOf "way_on" "way_on" (defArgs s_way_on) (defBody s_way_on) (defScope s_way_on) .none kV_way_on dc_way_on pm_way_on an_way_on cd_way_on ct_way_on), sl_way_on⟩)
    (c_way_on : PySem.W.codeIn K cd_way_on "way_on" = true)
    (k_way_on : PySem.W.keepIn K (.ref f_way_on) = true)
    (a_led : PySem.W.nsIn K mainGlobals "led" = some (some (.ref f_led)))
    (l_led : K.lookup f_led = some ⟨oc_led, od_led, .func (PySem.W.fnOf "led" "led" (defArgs s_led) (defBody s_led) (defScope s_led) .none kV_led dc_led pm_led an_led cd_led ct_led), sl_led⟩)
    (c_led : PySem.W.codeIn K cd_led "led" = true)
    (k_led : PySem.W.keepIn K (.ref f_led) = true)
    (a_rises_at : PySem.W.nsIn K mainGlobals "rises_at" = some (some (.ref f_rises_at)))
    (l_rises_at : K.lookup f_rises_at = some ⟨oc_rises_at, od_rises_at, .func (PySem.W.fnOf "rises_at" "rises_at" (defArgs s_rises_at) (defBody s_rises_at) (defScope s_rises_at) .none kV_rises_at dc_rises_at pm_rises_at an_rises_at cd_rises_at ct_rises_at), sl_rises_at⟩)
    (c_rises_at : PySem.W.codeIn K cd_rises_at "rises_at" = true)
    (k_rises_at : PySem.W.keepIn K (.ref f_rises_at) = true)
    (a_is_steady : PySem.W.nsIn K mainGlobals "is_steady" = some (some (.ref f_is_steady)))
    (l_is_steady : K.lookup f_is_steady = some ⟨oc_is_steady, od_is_steady, .func (PySem.W.fnOf "is_steady" "is_steady" (defArgs s_is_steady) (defBody s_is_steady) (defScope s_is_steady) .none kV_is_steady dc_is_steady pm_is_steady an_is_steady cd_is_steady ct_is_steady), sl_is_steady⟩)
    (c_is_steady : PySem.W.codeIn K cd_is_steady "is_steady" = true)
    (k_is_steady : PySem.W.keepIn K (.ref f_is_steady) = true)
    (a_level_messages : PySem.W.nsIn K mainGlobals "level_messages" = some (some (.ref f_level_messages)))
    (l_level_messages : K.lookup f_level_messages = some ⟨oc_level_messages, od_level_messages, .func (PySem.W.fnOf "level_messages" "level_messages" (defArgs s_level_messages) (defBody s_level_messages) (defScope s_level_messages) .none kV_level_messages dc_level_messages pm_level_messages an_level_messages cd_level_messages ct_level_messages), sl_level_messages⟩)
    (c_level_messages : PySem.W.codeIn K cd_level_messages "level_messages" = true)
    (k_level_messages : PySem.W.keepIn K (.ref f_level_messages) = true)
    (a_signed : PySem.W.nsIn K mainGlobals "signed" = some (some (.ref f_signed)))
    (l_signed : K.lookup f_signed = some ⟨oc_signed, od_signed, .func (PySem.W.fnOf "signed" "signed" (defArgs s_signed) (defBody s_signed) (defScope s_signed) .none kV_signed dc_signed pm_signed an_signed cd_signed ct_signed), sl_signed⟩)
    (c_signed : PySem.W.codeIn K cd_signed "signed" = true)
    (k_signed : PySem.W.keepIn K (.ref f_signed) = true)
    (a_comes_up : PySem.W.nsIn K mainGlobals "comes_up" = some (some (.ref f_comes_up)))
    (l_comes_up : K.lookup f_comes_up = some ⟨oc_comes_up, od_comes_up, .func (PySem.W.fnOf "comes_up" "comes_up" (defArgs s_comes_up) (defBody s_comes_up) (defScope s_comes_up) .none kV_comes_up dc_comes_up pm_comes_up an_comes_up cd_comes_up ct_comes_up), sl_comes_up⟩)
    (c_comes_up : PySem.W.codeIn K cd_comes_up "comes_up" = true)
    (k_comes_up : PySem.W.keepIn K (.ref f_comes_up) = true)
    (a_is_signed : PySem.W.nsIn K mainGlobals "is_signed" = some (some (.ref f_is_signed)))
    (l_is_signed : K.lookup f_is_signed = some ⟨oc_is_signed, od_is_signed, .func (PySem.W.fnOf "is_signed" "is_signed" (defArgs s_is_signed) (defBody s_is_signed) (defScope s_is_signed) .none kV_is_signed dc_is_signed pm_is_signed an_is_signed cd_is_signed ct_is_signed), sl_is_signed⟩)
    (c_is_signed : PySem.W.codeIn K cd_is_signed "is_signed" = true)
    (k_is_signed : PySem.W.keepIn K (.ref f_is_signed) = true)
    (a_turned_by : PySem.W.nsIn K mainGlobals "turned_by" = some (some (.ref f_turned_by)))
    (l_turned_by : K.lookup f_turned_by = some ⟨oc_turned_by, od_turned_by, .func (PySem.W.fnOf "turned_by" "turned_by" (defArgs s_turned_by) (defBody s_turned_by) (defScope s_turned_by) .none kV_turned_by dc_turned_by pm_turned_by an_turned_by cd_turned_by ct_turned_by), sl_turned_by⟩)
    (c_turned_by : PySem.W.codeIn K cd_turned_by "turned_by" = true)
    (k_turned_by : PySem.W.keepIn K (.ref f_turned_by) = true)
    (a_is_map : PySem.W.nsIn K mainGlobals "is_map" = some (some (.ref f_is_map)))
    (l_is_map : K.lookup f_is_map = some ⟨oc_is_map, od_is_map, .func (PySem.W.fnOf "is_map" "is_map" (defArgs s_is_map) (defBody s_is_map) (defScope s_is_map) .none kV_is_map dc_is_map pm_is_map an_is_map cd_is_map ct_is_map), sl_is_map⟩)
    (c_is_map : PySem.W.codeIn K cd_is_map "is_map" = true)
    (k_is_map : PySem.W.keepIn K (.ref f_is_map) = true)
    (a_check_map : PySem.W.nsIn K mainGlobals "check_map" = some (some (.ref f_check_map)))
    (l_check_map : K.lookup f_check_map = some ⟨oc_check_map, od_check_map, .func (PySem.W.fnOf "check_map" "check_map" (defArgs s_check_map) (defBody s_check_map) (defScope s_check_map) .none kV_check_map dc_check_map pm_check_map an_check_map cd_check_map ct_check_map), sl_check_map⟩)
    (c_check_map : PySem.W.codeIn K cd_check_map "check_map" = true)
    (k_check_map : PySem.W.keepIn K (.ref f_check_map) = true)
    (a_first_double : PySem.W.nsIn K mainGlobals "first_double" = some (some (.ref f_first_double)))
    (l_first_double : K.lookup f_first_double = some ⟨oc_first_double, od_first_double, .func (PySem.W.fnOf "first_double" "first_double" (defArgs s_first_double) (defBody s_first_double) (defScope s_first_double) .none kV_first_double dc_first_double pm_first_double an_first_double cd_first_double ct_first_double), sl_first_double⟩)
    (c_first_double : PySem.W.codeIn K cd_first_double "first_double" = true)
    (k_first_double : PySem.W.keepIn K (.ref f_first_double) = true)
    (a__law_hand : PySem.W.nsIn K mainGlobals "_law_hand" = some (some (.ref f__law_hand)))
    (l__law_hand : K.lookup f__law_hand = some ⟨oc__law_hand, od__law_hand, .func (PySem.W.fnOf "_law_hand" "_law_hand" (defArgs s__law_hand) (defBody s__law_hand) (defScope s__law_hand) .none kV__law_hand dc__law_hand pm__law_hand an__law_hand cd__law_hand ct__law_hand), sl__law_hand⟩)
    (c__law_hand : PySem.W.codeIn K cd__law_hand "_law_hand" = true)
    (k__law_hand : PySem.W.keepIn K (.ref f__law_hand) = true)
    (a__law_take : PySem.W.nsIn K mainGlobals "_law_take" = some (some (.ref f__law_take)))
    (l__law_take : K.lookup f__law_take = some ⟨oc__law_take, od__law_take, .func (PySem.W.fnOf "_law_take" "_law_take" (defArgs s__law_take) (defBody s__law_take) (defScope s__law_take) .none kV__law_take dc__law_take pm__law_take an__law_take cd__law_take ct__law_take), sl__law_take⟩)
    (c__law_take : PySem.W.codeIn K cd__law_take "_law_take" = true)
    (k__law_take : PySem.W.keepIn K (.ref f__law_take) = true)
    (a__law_same : PySem.W.nsIn K mainGlobals "_law_same" = some (some (.ref f__law_same)))
    (l__law_same : K.lookup f__law_same = some ⟨oc__law_same, od__law_same, .func (PySem.W.fnOf "_law_same" "_law_same" (defArgs s__law_same) (defBody s__law_same) (defScope s__law_same) .none kV__law_same dc__law_same pm__law_same an__law_same cd__law_same ct__law_same), sl__law_same⟩)
    (c__law_same : PySem.W.codeIn K cd__law_same "_law_same" = true)
    (k__law_same : PySem.W.keepIn K (.ref f__law_same) = true)
    (a__law_bits : PySem.W.nsIn K mainGlobals "_law_bits" = some (some (.ref f__law_bits)))
    (l__law_bits : K.lookup f__law_bits = some ⟨oc__law_bits, od__law_bits, .func (PySem.W.fnOf "_law_bits" "_law_bits" (defArgs s__law_bits) (defBody s__law_bits) (defScope s__law_bits) .none kV__law_bits dc__law_bits pm__law_bits an__law_bits cd__law_bits ct__law_bits), sl__law_bits⟩)
    (c__law_bits : PySem.W.codeIn K cd__law_bits "_law_bits" = true)
    (k__law_bits : PySem.W.keepIn K (.ref f__law_bits) = true)
    (a__law_led : PySem.W.nsIn K mainGlobals "_law_led" = some (some (.ref f__law_led)))
    (l__law_led : K.lookup f__law_led = some ⟨oc__law_led, od__law_led, .func (PySem.W.fnOf "_law_led" "_law_led" (defArgs s__law_led) (defBody s__law_led) (defScope s__law_led) .none kV__law_led dc__law_led pm__law_led an__law_led cd__law_led ct__law_led), sl__law_led⟩)
    (c__law_led : PySem.W.codeIn K cd__law_led "_law_led" = true)
    (k__law_led : PySem.W.keepIn K (.ref f__law_led) = true)
    (a__law_right : PySem.W.nsIn K mainGlobals "_law_right" = some (some (.ref f__law_right)))
    (l__law_right : K.lookup f__law_right = some ⟨oc__law_right, od__law_right, .func (PySem.W.fnOf "_law_right" "_law_right" (defArgs s__law_right) (defBody s__law_right) (defScope s__law_right) .none kV__law_right dc__law_right pm__law_right an__law_right cd__law_right ct__law_right), sl__law_right⟩)
    (c__law_right : PySem.W.codeIn K cd__law_right "_law_right" = true)
    (k__law_right : PySem.W.keepIn K (.ref f__law_right) = true)
    (a__law_strings : PySem.W.nsIn K mainGlobals "_law_strings" = some (some (.ref f__law_strings)))
    (l__law_strings : K.lookup f__law_strings = some ⟨oc__law_strings, od__law_strings, .func (PySem.W.fnOf "_law_strings" "_law_strings" (defArgs s__law_strings) (defBody s__law_strings) (defScope s__law_strings) .none kV__law_strings dc__law_strings pm__law_strings an__law_strings cd__law_strings ct__law_strings), sl__law_strings⟩)
    (c__law_strings : PySem.W.codeIn K cd__law_strings "_law_strings" = true)
    (k__law_strings : PySem.W.keepIn K (.ref f__law_strings) = true)
    (a__law_above : PySem.W.nsIn K mainGlobals "_law_above" = some (some (.ref f__law_above)))
    (l__law_above : K.lookup f__law_above = some ⟨oc__law_above, od__law_above, .func (PySem.W.fnOf "_law_above" "_law_above" (defArgs s__law_above) (defBody s__law_above) (defScope s__law_above) .none kV__law_above dc__law_above pm__law_above an__law_above cd__law_above ct__law_above), sl__law_above⟩)
    (c__law_above : PySem.W.codeIn K cd__law_above "_law_above" = true)
    (k__law_above : PySem.W.keepIn K (.ref f__law_above) = true)
    (a__law_due : PySem.W.nsIn K mainGlobals "_law_due" = some (some (.ref f__law_due)))
    (l__law_due : K.lookup f__law_due = some ⟨oc__law_due, od__law_due, .func (PySem.W.fnOf "_law_due" "_law_due" (defArgs s__law_due) (defBody s__law_due) (defScope s__law_due) .none kV__law_due dc__law_due pm__law_due an__law_due cd__law_due ct__law_due), sl__law_due⟩)
    (c__law_due : PySem.W.codeIn K cd__law_due "_law_due" = true)
    (k__law_due : PySem.W.keepIn K (.ref f__law_due) = true)
    (a__law_refused : PySem.W.nsIn K mainGlobals "_law_refused" = some (some (.ref f__law_refused)))
    (l__law_refused : K.lookup f__law_refused = some ⟨oc__law_refused, od__law_refused, .func (PySem.W.fnOf "_law_refused" "_law_refused" (defArgs s__law_refused) (defBody s__law_refused) (defScope s__law_refused) .none kV__law_refused dc__law_refused pm__law_refused an__law_refused cd__law_refused ct__law_refused), sl__law_refused⟩)
    (c__law_refused : PySem.W.codeIn K cd__law_refused "_law_refused" = true)
    (k__law_refused : PySem.W.keepIn K (.ref f__law_refused) = true)
    (a__law_messages : PySem.W.nsIn K mainGlobals "_law_messages" = some (some (.ref f__law_messages)))
    (l__law_messages : K.lookup f__law_messages = some ⟨oc__law_messages, od__law_messages, .func (PySem.W.fnOf "_law_messages" "_law_messages" (defArgs s__law_messages) (defBody s__law_messages) (defScope s__law_messages) .none kV__law_messages dc__law_messages pm__law_messages an__law_messages cd__law_messages ct__law_messages), sl__law_messages⟩)
    (c__law_messages : PySem.W.codeIn K cd__law_messages "_law_messages" = true)
    (k__law_messages : PySem.W.keepIn K (.ref f__law_messages) = true)
    (a__law_bent : PySem.W.nsIn K mainGlobals "_law_bent" = some (some (.ref f__law_bent)))
    (l__law_bent : K.lookup f__law_bent = some ⟨oc__law_bent, od__law_bent, .func (PySem.W.fnOf "_law_bent" "_law_bent" (defArgs s__law_bent) (defBody s__law_bent) (defScope s__law_bent) .none kV__law_bent dc__law_bent pm__law_bent an__law_bent cd__law_bent ct__law_bent), sl__law_bent⟩)
    (c__law_bent : PySem.W.codeIn K cd__law_bent "_law_bent" = true)
    (k__law_bent : PySem.W.keepIn K (.ref f__law_bent) = true)
    (a__law_wrong : PySem.W.nsIn K mainGlobals "_law_wrong" = some (some (.ref f__law_wrong)))
    (l__law_wrong : K.lookup f__law_wrong = some ⟨oc__law_wrong, od__law_wrong, .func (PySem.W.fnOf "_law_wrong" "_law_wrong" (defArgs s__law_wrong) (defBody s__law_wrong) (defScope s__law_wrong) .none kV__law_wrong dc__law_wrong pm__law_wrong an__law_wrong cd__law_wrong ct__law_wrong), sl__law_wrong⟩)
    (c__law_wrong : PySem.W.codeIn K cd__law_wrong "_law_wrong" = true)
    (k__law_wrong : PySem.W.keepIn K (.ref f__law_wrong) = true)
    (a__law_lot : PySem.W.nsIn K mainGlobals "_law_lot" = some (some (.ref f__law_lot)))
    (l__law_lot : K.lookup f__law_lot = some ⟨oc__law_lot, od__law_lot, .func (PySem.W.fnOf "_law_lot" "_law_lot" (defArgs s__law_lot) (defBody s__law_lot) (defScope s__law_lot) .none kV__law_lot dc__law_lot pm__law_lot an__law_lot cd__law_lot ct__law_lot), sl__law_lot⟩)
    (c__law_lot : PySem.W.codeIn K cd__law_lot "_law_lot" = true)
    (k__law_lot : PySem.W.keepIn K (.ref f__law_lot) = true)
    (a__law_level : PySem.W.nsIn K mainGlobals "_law_level" = some (some (.ref f__law_level)))
    (l__law_level : K.lookup f__law_level = some ⟨oc__law_level, od__law_level, .func (PySem.W.fnOf "_law_level" "_law_level" (defArgs s__law_level) (defBody s__law_level) (defScope s__law_level) .none kV__law_level dc__law_level pm__law_level an__law_level cd__law_level ct__law_level), sl__law_level⟩)
    (c__law_level : PySem.W.codeIn K cd__law_level "_law_level" = true)
    (k__law_level : PySem.W.keepIn K (.ref f__law_level) = true)
    (a__law_whole : PySem.W.nsIn K mainGlobals "_law_whole" = some (some (.ref f__law_whole)))
    (l__law_whole : K.lookup f__law_whole = some ⟨oc__law_whole, od__law_whole, .func (PySem.W.fnOf "_law_whole" "_law_whole" (defArgs s__law_whole) (defBody s__law_whole) (defScope s__law_whole) .none kV__law_whole dc__law_whole pm__law_whole an__law_whole cd__law_whole ct__law_whole), sl__law_whole⟩)
    (c__law_whole : PySem.W.codeIn K cd__law_whole "_law_whole" = true)
    (k__law_whole : PySem.W.keepIn K (.ref f__law_whole) = true)
    (a_law : PySem.W.nsIn K mainGlobals "law" = some (some (.ref f_law)))
    (l_law : K.lookup f_law = some ⟨oc_law, od_law, .func (PySem.W.fnOf "law" "law" (defArgs s_law) (defBody s_law) (defScope s_law) .none kV_law dc_law pm_law an_law cd_law ct_law), sl_law⟩)
    (c_law : PySem.W.codeIn K cd_law "law" = true)
    (k_law : PySem.W.keepIn K (.ref f_law) = true)
    (n_ValueError : PySem.W.nsIn K mainGlobals "ValueError" = some none)
    (n_all : PySem.W.nsIn K mainGlobals "all" = some none)
    (n_bool : PySem.W.nsIn K mainGlobals "bool" = some none)
    (n_enumerate : PySem.W.nsIn K mainGlobals "enumerate" = some none)
    (n_int : PySem.W.nsIn K mainGlobals "int" = some none)
    (n_isinstance : PySem.W.nsIn K mainGlobals "isinstance" = some none)
    (n_len : PySem.W.nsIn K mainGlobals "len" = some none)
    (n_list : PySem.W.nsIn K mainGlobals "list" = some none)
    (n_min : PySem.W.nsIn K mainGlobals "min" = some none)
    (n_range : PySem.W.nsIn K mainGlobals "range" = some none)
    (n_str : PySem.W.nsIn K mainGlobals "str" = some none)
    (n_sum : PySem.W.nsIn K mainGlobals "sum" = some none)
    (n_tuple : PySem.W.nsIn K mainGlobals "tuple" = some none)
    (n_zip : PySem.W.nsIn K mainGlobals "zip" = some none)
    (g_MOST_LENGTH : PySem.W.nsIn K mainGlobals "MOST_LENGTH" = some (some (.int 40 tk_MOST_LENGTH)))
    (g_MOST_DEPTH : PySem.W.nsIn K mainGlobals "MOST_DEPTH" = some (some (.int 15 tk_MOST_DEPTH)))
    (g_MOST_INPUTS : PySem.W.nsIn K mainGlobals "MOST_INPUTS" = some (some (.int 64 tk_MOST_INPUTS)))
    (a_BreakError : PySem.W.nsIn K mainGlobals "BreakError" = some (some (.ref C_BreakError)))
    (a_BadBlock : PySem.W.nsIn K mainGlobals "BadBlock" = some (some (.ref C_BadBlock)))
    (a_BadChoice : PySem.W.nsIn K mainGlobals "BadChoice" = some (some (.ref C_BadChoice)))
    (a_BadMessage : PySem.W.nsIn K mainGlobals "BadMessage" = some (some (.ref C_BadMessage)))
    (a_BadTable : PySem.W.nsIn K mainGlobals "BadTable" = some (some (.ref C_BadTable)))
    (k_BadBlock : PySem.W.keepIn K (.ref C_BadBlock) = true)
    (b_BadBlock : PySem.W.subIn K (.ref C_BadBlock) (.type "BaseException") = some true)
    (t_BadBlock : PySem.W.typeIn K (.ref C_BadBlock) = some (.type "type"))
    (x_BadBlock : PySem.W.excIn K C_BadBlock veMro "ValueError.__new__" = true)
    (k_BadChoice : PySem.W.keepIn K (.ref C_BadChoice) = true)
    (b_BadChoice : PySem.W.subIn K (.ref C_BadChoice) (.type "BaseException") = some true)
    (t_BadChoice : PySem.W.typeIn K (.ref C_BadChoice) = some (.type "type"))
    (x_BadChoice : PySem.W.excIn K C_BadChoice veMro "ValueError.__new__" = true)
    (k_BadMessage : PySem.W.keepIn K (.ref C_BadMessage) = true)
    (b_BadMessage : PySem.W.subIn K (.ref C_BadMessage) (.type "BaseException") = some true)
    (t_BadMessage : PySem.W.typeIn K (.ref C_BadMessage) = some (.type "type"))
    (x_BadMessage : PySem.W.excIn K C_BadMessage veMro "ValueError.__new__" = true)
    (k_BadTable : PySem.W.keepIn K (.ref C_BadTable) = true)
    (b_BadTable : PySem.W.subIn K (.ref C_BadTable) (.type "BaseException") = some true)
    (t_BadTable : PySem.W.typeIn K (.ref C_BadTable) = some (.type "type"))
    (L_BadTable : K.lookup C_BadTable = some (excClassObj nm_BadTable q_BadTable C_BadTable N_BadTable bs_BadTable bm_BadTable true sn_BadTable sub_BadTable ab_BadTable col_BadTable dd_BadTable m0_BadTable m1_BadTable m2_BadTable m3_BadTable m5_BadTable "ValueError.__new__"))
    (r_BadTable : PySem.HandSPX.refsVE bm_BadTable = true)
    (sa_BadTable : PySem.W.findIn K (.ref C_BadTable) "__setattr__" = some (some (.builtin "object.__setattr__")))
    (nf_BadTable : PySem.W.findIn K (.ref C_BadTable) "value" = some none)
    (i_BadTable : PySem.W.findIn K (.ref C_BadTable) "__init__" = some (some (.ref I_BadTable)))
    (ti_BadTable : PySem.W.typeIn K (.ref I_BadTable) = some (.type "function"))
    (li_BadTable : K.lookup I_BadTable = some ⟨oc_BadTable, od_BadTable, .func (PySem.W.fnOf "__init__" "BadTable.__init__" (defArgs (inClass (top 7) 0)) (defBody (inClass (top 7) 0)) (defScope (inClass (top 7) 0)) .none kV_BadTable dc_BadTable pm_BadTable an_BadTable cd_BadTable ct_BadTable), sl_BadTable⟩)
    (ci_BadTable : PySem.W.codeIn K cd_BadTable "BadTable.__init__" = true)
    (ki_BadTable : PySem.W.keepIn K (.ref I_BadTable) = true)
    (ga_BadTable : PySem.W.findIn K (.ref C_BadTable) "__getattribute__" = some (some (.builtin "BaseException.__getattribute__")))
    (gg_BadTable : PySem.W.findIn K (.ref C_BadTable) "__getattr__" = some none)
    (hd_BadTable : PySem.W.hasDictIn K C_BadTable = true)
    (hd_BadBlock : PySem.W.hasDictIn K C_BadBlock = true)
    (s_BadBlock_BadBlock : PySem.W.subIn K (.ref C_BadBlock) (.ref C_BadBlock) = some true)
    (s_BadChoice_BadBlock : PySem.W.subIn K (.ref C_BadChoice) (.ref C_BadBlock) = some false)
    (hd_BadChoice : PySem.W.hasDictIn K C_BadChoice = true)
    (s_BadChoice_BadChoice : PySem.W.subIn K (.ref C_BadChoice) (.ref C_BadChoice) = some true)
    (s_BadMessage_BadBlock : PySem.W.subIn K (.ref C_BadMessage) (.ref C_BadBlock) = some false)
    (s_BadMessage_BadChoice : PySem.W.subIn K (.ref C_BadMessage) (.ref C_BadChoice) = some false)
    (hd_BadMessage : PySem.W.hasDictIn K C_BadMessage = true)
    (s_BadMessage_BadMessage : PySem.W.subIn K (.ref C_BadMessage) (.ref C_BadMessage) = some true)
    (kt_BadBlock_BadChoice : PySem.W.kitOne K (.ref C_BadBlock) (.ref C_BadChoice) = some false)
    (kt_BadBlock_BadMessage : PySem.W.kitOne K (.ref C_BadBlock) (.ref C_BadMessage) = some false)
    (kt_BadChoice_BadMessage : PySem.W.kitOne K (.ref C_BadChoice) (.ref C_BadMessage) = some false)
    (kt_BadMessage_ValueError : PySem.W.kitOne K (.ref C_BadMessage) (.type "ValueError") = some true)
    (ga_BadBlock : PySem.W.findIn K (.ref C_BadBlock) "__getattribute__" = some (some (.builtin "BaseException.__getattribute__")))
    (gg_BadBlock : PySem.W.findIn K (.ref C_BadBlock) "__getattr__" = some none)
    (ca_BadBlock : PySem.W.findIn K (.ref C_BadBlock) "__class__" = some (some (.builtin "object.__class__")))
    (gn : PySem.W.specialIn K (.builtin "object.__class__") "__get__" = some (some (.builtin "getset_descriptor.__get__")))
    (gt : PySem.W.takesIn K (.builtin "object.__class__") = some true)
    (mo_BadBlock : PySem.W.mroIn K C_BadBlock (.type "object") = some true)
    (ga_BadChoice : PySem.W.findIn K (.ref C_BadChoice) "__getattribute__" = some (some (.builtin "BaseException.__getattribute__")))
    (gg_BadChoice : PySem.W.findIn K (.ref C_BadChoice) "__getattr__" = some none)
    (ca_BadChoice : PySem.W.findIn K (.ref C_BadChoice) "__class__" = some (some (.builtin "object.__class__")))
    (mo_BadChoice : PySem.W.mroIn K C_BadChoice (.type "object") = some true)
    (ga_BadMessage : PySem.W.findIn K (.ref C_BadMessage) "__getattribute__" = some (some (.builtin "BaseException.__getattribute__")))
    (gg_BadMessage : PySem.W.findIn K (.ref C_BadMessage) "__getattr__" = some none)
    (ca_BadMessage : PySem.W.findIn K (.ref C_BadMessage) "__class__" = some (some (.builtin "object.__class__")))
    (mo_BadMessage : PySem.W.mroIn K C_BadMessage (.type "object") = some true)
    : ∃ fd : FuncData, (∀ (s : Shared) (u : Value), BindsTo s fd ⟨[u], []⟩ [("script", u)]) ∧ ∀ base : Heap, K.In base → base.Ns mainGlobals mg → FnOk P w K mg base (L2.CX P w) 10 fa fd ["script"] (liftSp K topSp) := by
  cases fd_unique hfa (PySem.W.mg_of X G a_law)
  let c : Cs := ⟨C_BreakError, C_BadBlock, C_BadChoice, C_BadMessage, C_BadTable⟩
  have FI_BadTable := fun_mk (st := (inClass (top 7) 0)) li_BadTable ci_BadTable ki_BadTable
  have OX_BadTable : OexC K C_BadTable := ⟨⟨_, _, _, _, _, _, _, _, _, _, _, _, _, _, _, L_BadTable, r_BadTable⟩, sa_BadTable, b_BadTable, t_BadTable, k_BadTable⟩
  have T : ∀ base : Heap, Txt P w K mg base c := fun base => {
    n_ValueError := PySem.W.mg_none_of X G n_ValueError
    n_all := PySem.W.mg_none_of X G n_all
    n_bool := PySem.W.mg_none_of X G n_bool
    n_enumerate := PySem.W.mg_none_of X G n_enumerate
    n_int := PySem.W.mg_none_of X G n_int
    n_isinstance := PySem.W.mg_none_of X G n_isinstance
    n_len := PySem.W.mg_none_of X G n_len
    n_list := PySem.W.mg_none_of X G n_list
    n_min := PySem.W.mg_none_of X G n_min
    n_range := PySem.W.mg_none_of X G n_range
    n_str := PySem.W.mg_none_of X G n_str
    n_sum := PySem.W.mg_none_of X G n_sum
    n_tuple := PySem.W.mg_none_of X G n_tuple
    n_zip := PySem.W.mg_none_of X G n_zip
    g_MOST_LENGTH := ⟨_, PySem.W.mg_of X G g_MOST_LENGTH⟩
    g_MOST_DEPTH := ⟨_, PySem.W.mg_of X G g_MOST_DEPTH⟩
    g_MOST_INPUTS := ⟨_, PySem.W.mg_of X G g_MOST_INPUTS⟩
    g_BreakError := PySem.W.mg_of X G a_BreakError
    g_BadBlock := PySem.W.mg_of X G a_BadBlock
    g_BadChoice := PySem.W.mg_of X G a_BadChoice
    g_BadMessage := PySem.W.mg_of X G a_BadMessage
    g_BadTable := PySem.W.mg_of X G a_BadTable
    x_BadBlock := plain_mk X G a_BadBlock x_BadBlock k_BadBlock b_BadBlock t_BadBlock
    x_BadChoice := plain_mk X G a_BadChoice x_BadChoice k_BadChoice b_BadChoice t_BadChoice
    x_BadMessage := plain_mk X G a_BadMessage x_BadMessage k_BadMessage b_BadMessage t_BadMessage
    f_BadTable := ⟨PySem.W.mg_of X G a_BadTable, OX_BadTable, ⟨_, _, ["self", "value"], i_BadTable, ti_BadTable, FI_BadTable.binds (fun _ _ _ _ _ _ us hl => match us, hl with | [_, _], _ => rfl), ini_ok FI_BadTable ⟨rfl, rfl, rfl, by decide +kernel, rfl, by decide +kernel, by decide +kernel⟩ rfl OX_BadTable nf_BadTable (by decide +kernel) rfl rfl⟩, nf_BadTable, ⟨ga_BadTable, gg_BadTable, b_BadTable, hd_BadTable⟩⟩
    at_number_of := at_mk X G a_number_of l_number_of c_number_of k_number_of (fun _ _ _ _ _ _ us hl => match us, hl with | [_], _ => rfl)
    at_is_number := at_mk X G a_is_number l_is_number c_is_number k_is_number (fun _ _ _ _ _ _ us hl => match us, hl with | [_, _, _], _ => rfl)
    at_is_bits := at_mk X G a_is_bits l_is_bits c_is_bits k_is_bits (fun _ _ _ _ _ _ us hl => match us, hl with | [_, _], _ => rfl)
    at_is_row := at_mk X G a_is_row l_is_row c_is_row k_is_row (fun _ _ _ _ _ _ us hl => match us, hl with | [_, _, _], _ => rfl)
    at_is_generator := at_mk X G a_is_generator l_is_generator c_is_generator k_is_generator (fun _ _ _ _ _ _ us hl => match us, hl with | [_], _ => rfl)
    at_is_function := at_mk X G a_is_function l_is_function c_is_function k_is_function (fun _ _ _ _ _ _ us hl => match us, hl with | [_], _ => rfl)
    at_check_block := at_mk X G a_check_block l_check_block c_check_block k_check_block (fun _ _ _ _ _ _ us hl => match us, hl with | [_], _ => rfl)
    at_row_at := at_mk X G a_row_at l_row_at c_row_at k_row_at (fun _ _ _ _ _ _ us hl => match us, hl with | [_, _], _ => rfl)
    at_row_of := at_mk X G a_row_of l_row_of c_row_of k_row_of (fun _ _ _ _ _ _ us hl => match us, hl with | [_, _], _ => rfl)
    at_check_even := at_mk X G a_check_even l_check_even c_check_even k_check_even (fun _ _ _ _ _ _ us hl => match us, hl with | [_], _ => rfl)
    at_check_depth := at_mk X G a_check_depth l_check_depth c_check_depth k_check_depth (fun _ _ _ _ _ _ us hl => match us, hl with | [_], _ => rfl)
    at_check_numbers := at_mk X G a_check_numbers l_check_numbers c_check_numbers k_check_numbers (fun _ _ _ _ _ _ us hl => match us, hl with | [_, _], _ => rfl)
    at_way_on := at_mk X G a_way_on l_way_on c_way_on k_way_on (fun _ _ _ _ _ _ us hl => match us, hl with | [_, _, _], _ => rfl)
    at_led := at_mk X G a_led l_led c_led k_led (fun _ _ _ _ _ _ us hl => match us, hl with | [_, _, _], _ => rfl)
    at_rises_at := at_mk X G a_rises_at l_rises_at c_rises_at k_rises_at (fun _ _ _ _ _ _ us hl => match us, hl with | [_, _], _ => rfl)
    at_is_steady := at_mk X G a_is_steady l_is_steady c_is_steady k_is_steady (fun _ _ _ _ _ _ us hl => match us, hl with | [_, _], _ => rfl)
    at_level_messages := at_mk X G a_level_messages l_level_messages c_level_messages k_level_messages (fun _ _ _ _ _ _ us hl => match us, hl with | [_, _, _], _ => rfl)
    at_signed := at_mk X G a_signed l_signed c_signed k_signed (fun _ _ _ _ _ _ us hl => match us, hl with | [_, _, _, _], _ => rfl)
    at_comes_up := at_mk X G a_comes_up l_comes_up c_comes_up k_comes_up (fun _ _ _ _ _ _ us hl => match us, hl with | [_, _, _, _], _ => rfl)
    at_is_signed := at_mk X G a_is_signed l_is_signed c_is_signed k_is_signed (fun _ _ _ _ _ _ us hl => match us, hl with | [_, _, _, _, _], _ => rfl)
    at_turned_by := at_mk X G a_turned_by l_turned_by c_turned_by k_turned_by (fun _ _ _ _ _ _ us hl => match us, hl with | [_, _, _, _, _, _, _], _ => rfl)
    at_is_map := at_mk X G a_is_map l_is_map c_is_map k_is_map (fun _ _ _ _ _ _ us hl => match us, hl with | [_], _ => rfl)
    at_check_map := at_mk X G a_check_map l_check_map c_check_map k_check_map (fun _ _ _ _ _ _ us hl => match us, hl with | [_], _ => rfl)
    at_first_double := at_mk X G a_first_double l_first_double c_first_double k_first_double (fun _ _ _ _ _ _ us hl => match us, hl with | [_], _ => rfl)
    at__law_hand := at_mk X G a__law_hand l__law_hand c__law_hand k__law_hand (fun _ _ _ _ _ _ us hl => match us, hl with | [_], _ => rfl)
    at__law_take := at_mk X G a__law_take l__law_take c__law_take k__law_take (fun _ _ _ _ _ _ us hl => match us, hl with | [_, _], _ => rfl)
    at__law_same := at_mk X G a__law_same l__law_same c__law_same k__law_same (fun _ _ _ _ _ _ us hl => match us, hl with | [_, _], _ => rfl)
    at__law_bits := at_mk X G a__law_bits l__law_bits c__law_bits k__law_bits (fun _ _ _ _ _ _ us hl => match us, hl with | [_, _], _ => rfl)
    at__law_led := at_mk X G a__law_led l__law_led c__law_led k__law_led (fun _ _ _ _ _ _ us hl => match us, hl with | [_, _, _], _ => rfl)
    at__law_right := at_mk X G a__law_right l__law_right c__law_right k__law_right (fun _ _ _ _ _ _ us hl => match us, hl with | [_, _, _, _], _ => rfl)
    at__law_strings := at_mk X G a__law_strings l__law_strings c__law_strings k__law_strings (fun _ _ _ _ _ _ us hl => match us, hl with | [_, _], _ => rfl)
    at__law_above := at_mk X G a__law_above l__law_above c__law_above k__law_above (fun _ _ _ _ _ _ us hl => match us, hl with | [_, _], _ => rfl)
    at__law_due := at_mk X G a__law_due l__law_due c__law_due k__law_due (fun _ _ _ _ _ _ us hl => match us, hl with | [_, _, _, _, _, _], _ => rfl)
    at__law_refused := at_mk X G a__law_refused l__law_refused c__law_refused k__law_refused (fun _ _ _ _ _ _ us hl => match us, hl with | [_, _, _, _, _, _, _], _ => rfl)
    at__law_messages := at_mk X G a__law_messages l__law_messages c__law_messages k__law_messages (fun _ _ _ _ _ _ us hl => match us, hl with | [_, _, _], _ => rfl)
    at__law_bent := at_mk X G a__law_bent l__law_bent c__law_bent k__law_bent (fun _ _ _ _ _ _ us hl => match us, hl with | [_, _, _, _, _], _ => rfl)
    at__law_wrong := at_mk X G a__law_wrong l__law_wrong c__law_wrong k__law_wrong (fun _ _ _ _ _ _ us hl => match us, hl with | [_, _, _, _, _, _, _, _, _, _], _ => rfl)
    at__law_lot := at_mk X G a__law_lot l__law_lot c__law_lot k__law_lot (fun _ _ _ _ _ _ us hl => match us, hl with | [_, _, _], _ => rfl)
    at__law_level := at_mk X G a__law_level l__law_level c__law_level k__law_level (fun _ _ _ _ _ _ us hl => match us, hl with | [_, _, _, _], _ => rfl)
    at__law_whole := at_mk X G a__law_whole l__law_whole c__law_whole k__law_whole (fun _ _ _ _ _ _ us hl => match us, hl with | [_], _ => rfl)
    at_law := at_mk X G a_law l_law c_law k_law (fun _ _ _ _ _ _ us hl => match us, hl with | [_], _ => rfl) }
  have e_BadBlock_BadBlock : PySem.W.exmOne K (.ref C_BadBlock) (.ref C_BadBlock) = some true := PySem.W.exm_ref b_BadBlock hd_BadBlock t_BadBlock s_BadBlock_BadBlock
  have e_BadChoice_BadBlock : PySem.W.exmOne K (.ref C_BadChoice) (.ref C_BadBlock) = some false := PySem.W.exm_ref b_BadBlock hd_BadBlock t_BadBlock s_BadChoice_BadBlock
  have e_BadChoice_BadChoice : PySem.W.exmOne K (.ref C_BadChoice) (.ref C_BadChoice) = some true := PySem.W.exm_ref b_BadChoice hd_BadChoice t_BadChoice s_BadChoice_BadChoice
  have e_BadMessage_BadBlock : PySem.W.exmOne K (.ref C_BadMessage) (.ref C_BadBlock) = some false := PySem.W.exm_ref b_BadBlock hd_BadBlock t_BadBlock s_BadMessage_BadBlock
  have e_BadMessage_BadChoice : PySem.W.exmOne K (.ref C_BadMessage) (.ref C_BadChoice) = some false := PySem.W.exm_ref b_BadChoice hd_BadChoice t_BadChoice s_BadMessage_BadChoice
  have e_BadMessage_BadMessage : PySem.W.exmOne K (.ref C_BadMessage) (.ref C_BadMessage) = some true := PySem.W.exm_ref b_BadMessage hd_BadMessage t_BadMessage s_BadMessage_BadMessage
  have ec_BadBlock : ExcC K C_BadBlock := ⟨ga_BadBlock, gg_BadBlock, b_BadBlock, hd_BadBlock, ca_BadBlock, gn, gt, mo_BadBlock⟩
  have ec_BadChoice : ExcC K C_BadChoice := ⟨ga_BadChoice, gg_BadChoice, b_BadChoice, hd_BadChoice, ca_BadChoice, gn, gt, mo_BadChoice⟩
  have ec_BadMessage : ExcC K C_BadMessage := ⟨ga_BadMessage, gg_BadMessage, b_BadMessage, hd_BadMessage, ca_BadMessage, gn, gt, mo_BadMessage⟩
  have XX : Exm K c := ⟨e_BadBlock_BadBlock, e_BadChoice_BadBlock, e_BadChoice_BadChoice, e_BadMessage_BadBlock, e_BadMessage_BadChoice, e_BadMessage_BadMessage, kt_BadBlock_BadChoice, kt_BadBlock_BadMessage, kt_BadChoice_BadMessage, kt_BadMessage_ValueError, ec_BadBlock, ec_BadChoice, ec_BadMessage⟩
  have F_law := fun_mk (st := s_law) l_law c_law k_law
  refine ⟨PySem.W.fnOf "law" "law" (defArgs s_law) (defBody s_law) (defScope s_law) .none kV_law dc_law pm_law an_law cd_law ct_law, fun s v => .of_eq rfl, fun base _ _ => ?_⟩
  obtain ⟨f2, fd2, hm2, hF2, hb2, ok⟩ := b_law (T base) (f_whole XX)
  cases fd_unique (PySem.W.mg_of X G a_law) hm2
  obtain ⟨_, _, _, _, _, _, _, _, _, _, e2, _⟩ := hF2.ex
  have e3 := l_law.symm.trans e2
  simp only [Option.some.injEq, PySem.Obj.mk.injEq, PySem.Data.func.injEq] at e3
  obtain ⟨_, _, e4, _⟩ := e3
  rw [e4]
  exact ok
theorem walk {l : PySem.W.OpenLaw} {q : Program} {loose : List Str} {XP : (Str → Option Value) → Heap → Prop} {YP : World → Heap → Prop} {d : DefRec} {K : Params → PySem.W.Frag} (hn : l.most = some 63) (hdf : d.params.defaults = [])
    (hY : ∀ (w : World) (h : Heap), YP w h → (K w.params).In h)
    (F : ∀ (w : World) (mg : Str → Option Value) (fa : Addr) (h : Heap), (K w.params).In h → h.Ns mainGlobals mg → mg d.name = some (.ref fa) →
      ∃ fd : FuncData, (∀ (s : Shared) (u : Value), BindsTo s fd ⟨[u], []⟩ [("script", u)]) ∧ ∀ base : Heap, (K w.params).In base → base.Ns mainGlobals mg → FnOk l.prog w (K w.params) mg base (L2.CX l.prog w) 10 fa fd ["script"] (liftSp (K w.params) topSp)) :
    PySem.W.WalkO q loose XP YP l.row.toRowW d [] (fun f vs => PySem.call f vs) :=
  L2.walk_of (n := 63) (k := 10) (x := "script") (CX := fun w => L2.CX l.prog w) (sp := fun w => liftSp (K w.params) topSp) hn (by decide) hdf ⟨rfl, by decide, by decide⟩ hY F (fun _ _ a ns hl _ hS => top_sp hl hS) fun _ _ _ _ _ z => no_cx _ _ _ _ z
end K82
open PySem PySem.W PyProof.Rows
set_option maxRecDepth 100000 in
set_option maxHeartbeats 0 in
theorem PySem.Challenge.cw_carriedbreaks_k82_whole_turned_back_or_d_holds : PySem.Challenge.rw_carriedbreaks_k82_whole_turned_back_or_d.Holds := by
  w_on; o_law; k_head; (case hw => w_witness2)
  k_fill
  refine K82.walk (l := PySem.Challenge.rw_carriedbreaks_k82_whole_turned_back_or_d) rfl rfl (fun w h Y => PySem.W.kIn_of Y) ?F
  case F =>
    intro w mg fa h KX G hmg
    refine' K82.top_mk KX G hmg ?a_number_of ?l_number_of ?c_number_of ?k_number_of ?a_is_number ?l_is_number ?c_is_number ?k_is_number ?a_is_bits ?l_is_bits ?c_is_bits ?k_is_bits ?a_is_row ?l_is_row ?c_is_row ?k_is_row ?a_is_generator ?l_is_generator ?c_is_generator ?k_is_generator ?a_is_function ?l_is_function ?c_is_function ?k_is_function ?a_check_block ?l_check_block ?c_check_block ?k_check_block ?a_row_at ?l_row_at ?c_row_at ?k_row_at ?a_row_of ?l_row_of ?c_row_of ?k_row_of ?a_check_even ?l_check_even ?c_check_even ?k_check_even ?a_check_depth ?l_check_depth ?c_check_depth ?k_check_depth ?a_check_numbers ?l_check_numbers ?c_check_numbers ?k_check_numbers ?a_way_on ?l_way_on ?c_way_on ?k_way_on ?a_led ?l_led ?c_led ?k_led ?a_rises_at ?l_rises_at ?c_rises_at ?k_rises_at ?a_is_steady ?l_is_steady ?c_is_steady ?k_is_steady ?a_level_messages ?l_level_messages ?c_level_messages ?k_level_messages ?a_signed ?l_signed ?c_signed ?k_signed ?a_comes_up ?l_comes_up ?c_comes_up ?k_comes_up ?a_is_signed ?l_is_signed ?c_is_signed ?k_is_signed ?a_turned_by ?l_turned_by ?c_turned_by ?k_turned_by ?a_is_map ?l_is_map ?c_is_map ?k_is_map ?a_check_map ?l_check_map ?c_check_map ?k_check_map ?a_first_double ?l_first_double ?c_first_double ?k_first_double ?a__law_hand ?l__law_hand ?c__law_hand ?k__law_hand ?a__law_take ?l__law_take ?c__law_take ?k__law_take ?a__law_same ?l__law_same ?c__law_same ?k__law_same ?a__law_bits ?l__law_bits ?c__law_bits ?k__law_bits ?a__law_led ?l__law_led ?c__law_led ?k__law_led ?a__law_right ?l__law_right ?c__law_right ?k__law_right ?a__law_strings ?l__law_strings ?c__law_strings ?k__law_strings ?a__law_above ?l__law_above ?c__law_above ?k__law_above ?a__law_due ?l__law_due ?c__law_due ?k__law_due ?a__law_refused ?l__law_refused ?c__law_refused ?k__law_refused ?a__law_messages ?l__law_messages ?c__law_messages ?k__law_messages ?a__law_bent ?l__law_bent ?c__law_bent ?k__law_bent ?a__law_wrong ?l__law_wrong ?c__law_wrong ?k__law_wrong ?a__law_lot ?l__law_lot ?c__law_lot ?k__law_lot ?a__law_level ?l__law_level ?c__law_level ?k__law_level ?a__law_whole ?l__law_whole ?c__law_whole ?k__law_whole ?a_law ?l_law ?c_law ?k_law ?n_ValueError ?n_all ?n_bool ?n_enumerate ?n_int ?n_isinstance ?n_len ?n_list ?n_min ?n_range ?n_str ?n_sum ?n_tuple ?n_zip ?g_MOST_LENGTH ?g_MOST_DEPTH ?g_MOST_INPUTS ?a_BreakError ?a_BadBlock ?a_BadChoice ?a_BadMessage ?a_BadTable ?k_BadBlock ?b_BadBlock ?t_BadBlock ?x_BadBlock ?k_BadChoice ?b_BadChoice ?t_BadChoice ?x_BadChoice ?k_BadMessage ?b_BadMessage ?t_BadMessage ?x_BadMessage ?k_BadTable ?b_BadTable ?t_BadTable ?L_BadTable ?r_BadTable ?sa_BadTable ?nf_BadTable ?i_BadTable ?ti_BadTable ?li_BadTable ?ci_BadTable ?ki_BadTable ?ga_BadTable ?gg_BadTable ?hd_BadTable ?hd_BadBlock ?s_BadBlock_BadBlock ?s_BadChoice_BadBlock ?hd_BadChoice ?s_BadChoice_BadChoice ?s_BadMessage_BadBlock ?s_BadMessage_BadChoice ?hd_BadMessage ?s_BadMessage_BadMessage ?kt_BadBlock_BadChoice ?kt_BadBlock_BadMessage ?kt_BadChoice_BadMessage ?kt_BadMessage_ValueError ?ga_BadBlock ?gg_BadBlock ?ca_BadBlock ?gn ?gt ?mo_BadBlock ?ga_BadChoice ?gg_BadChoice ?ca_BadChoice ?mo_BadChoice ?ga_BadMessage ?gg_BadMessage ?ca_BadMessage ?mo_BadMessage
    (case a_number_of => k_is)
    (case l_number_of => k_is)
    (case c_number_of => k_is)
    (case k_number_of => k_is)
    (case a_is_number => k_is)
    (case l_is_number => k_is)
    (case c_is_number => k_is)
    (case k_is_number => k_is)
    (case a_is_bits => k_is)
    (case l_is_bits => k_is)
    (case c_is_bits => k_is)
    (case k_is_bits => k_is)
    (case a_is_row => k_is)
    (case l_is_row => k_is)
    (case c_is_row => k_is)
    (case k_is_row => k_is)
    (case a_is_generator => k_is)
    (case l_is_generator => k_is)
    (case c_is_generator => k_is)
    (case k_is_generator => k_is)
    (case a_is_function => k_is)
    (case l_is_function => k_is)
    (case c_is_function => k_is)
    (case k_is_function => k_is)
    (case a_check_block => k_is)
    (case l_check_block => k_is)
    (case c_check_block => k_is)
    (case k_check_block => k_is)
    (case a_row_at => k_is)
    (case l_row_at => k_is)
    (case c_row_at => k_is)
    (case k_row_at => k_is)
    (case a_row_of => k_is)
    (case l_row_of => k_is)
    (case c_row_of => k_is)
    (case k_row_of => k_is)
    (case a_check_even => k_is)
    (case l_check_even => k_is)
    (case c_check_even => k_is)
    (case k_check_even => k_is)
    (case a_check_depth => k_is)
    (case l_check_depth => k_is)
    (case c_check_depth => k_is)
    (case k_check_depth => k_is)
    (case a_check_numbers => k_is)
    (case l_check_numbers => k_is)
    (case c_check_numbers => k_is)
    (case k_check_numbers => k_is)
    (case a_way_on => k_is)
    (case l_way_on => k_is)
    (case c_way_on => k_is)
    (case k_way_on => k_is)
    (case a_led => k_is)
    (case l_led => k_is)
    (case c_led => k_is)
    (case k_led => k_is)
    (case a_rises_at => k_is)
    (case l_rises_at => k_is)
    (case c_rises_at => k_is)
    (case k_rises_at => k_is)
    (case a_is_steady => k_is)
    (case l_is_steady => k_is)
    (case c_is_steady => k_is)
    (case k_is_steady => k_is)
    (case a_level_messages => k_is)
    (case l_level_messages => k_is)
    (case c_level_messages => k_is)
    (case k_level_messages => k_is)
    (case a_signed => k_is)
    (case l_signed => k_is)
    (case c_signed => k_is)
    (case k_signed => k_is)
    (case a_comes_up => k_is)
    (case l_comes_up => k_is)
    (case c_comes_up => k_is)
    (case k_comes_up => k_is)
    (case a_is_signed => k_is)
    (case l_is_signed => k_is)
    (case c_is_signed => k_is)
    (case k_is_signed => k_is)
    (case a_turned_by => k_is)
    (case l_turned_by => k_is)
    (case c_turned_by => k_is)
    (case k_turned_by => k_is)
    (case a_is_map => k_is)
    (case l_is_map => k_is)
    (case c_is_map => k_is)
    (case k_is_map => k_is)
    (case a_check_map => k_is)
    (case l_check_map => k_is)
    (case c_check_map => k_is)
    (case k_check_map => k_is)
    (case a_first_double => k_is)
    (case l_first_double => k_is)
    (case c_first_double => k_is)
    (case k_first_double => k_is)
    (case a__law_hand => k_is)
    (case l__law_hand => k_is)
    (case c__law_hand => k_is)
    (case k__law_hand => k_is)
    (case a__law_take => k_is)
    (case l__law_take => k_is)
    (case c__law_take => k_is)
    (case k__law_take => k_is)
    (case a__law_same => k_is)
    (case l__law_same => k_is)
    (case c__law_same => k_is)
    (case k__law_same => k_is)
    (case a__law_bits => k_is)
    (case l__law_bits => k_is)
    (case c__law_bits => k_is)
    (case k__law_bits => k_is)
    (case a__law_led => k_is)
    (case l__law_led => k_is)
    (case c__law_led => k_is)
    (case k__law_led => k_is)
    (case a__law_right => k_is)
    (case l__law_right => k_is)
    (case c__law_right => k_is)
    (case k__law_right => k_is)
    (case a__law_strings => k_is)
    (case l__law_strings => k_is)
    (case c__law_strings => k_is)
    (case k__law_strings => k_is)
    (case a__law_above => k_is)
    (case l__law_above => k_is)
    (case c__law_above => k_is)
    (case k__law_above => k_is)
    (case a__law_due => k_is)
    (case l__law_due => k_is)
    (case c__law_due => k_is)
    (case k__law_due => k_is)
    (case a__law_refused => k_is)
    (case l__law_refused => k_is)
    (case c__law_refused => k_is)
    (case k__law_refused => k_is)
    (case a__law_messages => k_is)
    (case l__law_messages => k_is)
    (case c__law_messages => k_is)
    (case k__law_messages => k_is)
    (case a__law_bent => k_is)
    (case l__law_bent => k_is)
    (case c__law_bent => k_is)
    (case k__law_bent => k_is)
    (case a__law_wrong => k_is)
    (case l__law_wrong => k_is)
    (case c__law_wrong => k_is)
    (case k__law_wrong => k_is)
    (case a__law_lot => k_is)
    (case l__law_lot => k_is)
    (case c__law_lot => k_is)
    (case k__law_lot => k_is)
    (case a__law_level => k_is)
    (case l__law_level => k_is)
    (case c__law_level => k_is)
    (case k__law_level => k_is)
    (case a__law_whole => k_is)
    (case l__law_whole => k_is)
    (case c__law_whole => k_is)
    (case k__law_whole => k_is)
    (case a_law => k_is)
    (case l_law => k_is)
    (case c_law => k_is)
    (case k_law => k_is)
    (case n_ValueError => k_is)
    (case n_all => k_is)
    (case n_bool => k_is)
    (case n_enumerate => k_is)
    (case n_int => k_is)
    (case n_isinstance => k_is)
    (case n_len => k_is)
    (case n_list => k_is)
    (case n_min => k_is)
    (case n_range => k_is)
    (case n_str => k_is)
    (case n_sum => k_is)
    (case n_tuple => k_is)
    (case n_zip => k_is)
    (case g_MOST_LENGTH => k_is)
    (case g_MOST_DEPTH => k_is)
    (case g_MOST_INPUTS => k_is)
    (case a_BreakError => k_is)
    (case a_BadBlock => k_is)
    (case a_BadChoice => k_is)
    (case a_BadMessage => k_is)
    (case a_BadTable => k_is)
    (case k_BadBlock => k_is)
    (case b_BadBlock => k_is)
    (case t_BadBlock => k_is)
    (case x_BadBlock => k_exc)
    (case k_BadChoice => k_is)
    (case b_BadChoice => k_is)
    (case t_BadChoice => k_is)
    (case x_BadChoice => k_exc)
    (case k_BadMessage => k_is)
    (case b_BadMessage => k_is)
    (case t_BadMessage => k_is)
    (case x_BadMessage => k_exc)
    (case k_BadTable => k_is)
    (case b_BadTable => k_is)
    (case t_BadTable => k_is)
    (case L_BadTable => k_is)
    (case r_BadTable => decide +kernel)
    (case sa_BadTable => k_is)
    (case nf_BadTable => k_is)
    (case i_BadTable => k_is)
    (case ti_BadTable => k_is)
    (case li_BadTable => k_is)
    (case ci_BadTable => k_is)
    (case ki_BadTable => k_is)
    (case ga_BadTable => k_is)
    (case gg_BadTable => k_is)
    (case hd_BadTable => k_is)
    (case hd_BadBlock => k_is)
    (case s_BadBlock_BadBlock => k_is)
    (case s_BadChoice_BadBlock => k_is)
    (case hd_BadChoice => k_is)
    (case s_BadChoice_BadChoice => k_is)
    (case s_BadMessage_BadBlock => k_is)
    (case s_BadMessage_BadChoice => k_is)
    (case hd_BadMessage => k_is)
    (case s_BadMessage_BadMessage => k_is)
    (case kt_BadBlock_BadChoice => kit_is)
    (case kt_BadBlock_BadMessage => kit_is)
    (case kt_BadChoice_BadMessage => kit_is)
    (case kt_BadMessage_ValueError => kit_is)
    (case ga_BadBlock => k_is)
    (case gg_BadBlock => k_is)
    (case ca_BadBlock => k_is)
    (case gn => k_is)
    (case gt => k_is)
    (case mo_BadBlock => k_is)
    (case ga_BadChoice => k_is)
    (case gg_BadChoice => k_is)
    (case ca_BadChoice => k_is)
    (case mo_BadChoice => k_is)
    (case ga_BadMessage => k_is)
    (case gg_BadMessage => k_is)
    (case ca_BadMessage => k_is)
    (case mo_BadMessage => k_is)
