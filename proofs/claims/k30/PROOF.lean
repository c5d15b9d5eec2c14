import PyProof.Rows.All
import Wide.All
import OpenK.AllK
import Wide.FinOn
import HandS.ForMost
import HandS.Exc
import HandS.Zip
import HandS.Wide
import HandS.Deep
import HandS.TupAny
import HandS.IsInst
import HandS.SortInts
import HandS.WideBits
import HandS.Conv
import KE.GoesEnum
import HandS.ExcOwn
import HandS.WordsExc
import PyProof.Rows.ReprOcc
import PySem.Challenge.RW_commondays_k30_histories_of_many_items_c
set_option Elab.async false
set_option linter.all false
set_option maxRecDepth 100000
set_option maxHeartbeats 4000000
/-! DLa: a data layer over HandS. Values are PyData trees; a frozen part G of the heap; slots that own one mutable object. -/
namespace DL
open PySem PySem.Spec L2

abbrev D := PyData
/-- H' knows all that H knows -/
def Sub (H H' : Hp) : Prop := ∀ a o, H a = some o → H' a = some o
theorem Sub.rfl {H : Hp} : Sub H H := fun _ _ e => e
theorem Sub.tr {A B C : Hp} (x : Sub A B) (y : Sub B C) : Sub A C := fun a o e => y a o (x a o e)
theorem Sub.upd {H : Hp} {p : Addr} {o : HO} (n : H p = none) : Sub H (upd H p o) := fun a u e => by
  rw [upd_ne (ne_of_none e n)]; exact e
theorem Sub.upd2 {G H : Hp} {p : Addr} {o : HO} (s : Sub G H) : Sub (L2.upd G p o) (L2.upd H p o) := fun a u e => by
  by_cases h : a = p
  · subst h; rw [upd_same] at e ⊢; exact e
  · rw [upd_ne h] at e ⊢; exact s a u e
theorem Sub.none {G H : Hp} (s : Sub G H) {a : Addr} (n : H a = none) : G a = none := by
  cases e : G a with
  | none => rfl
  | some o => rw [s a o e] at n; cases n
theorem Sub.seqL {K : PySem.W.Frag} {H H' : Hp} {a : Addr} {xs : List V} (e : Sub H H') (h : SqL K H a xs) : SqL K H' a xs := by
  rcases h with (h | ⟨o, h⟩) | h
  · exact .inl (.inl (e _ _ h))
  · exact .inl (.inr ⟨o, e _ _ h⟩)
  · exact .inr h
theorem Sub.seqT {K : PySem.W.Frag} {H H' : Hp} {a : Addr} {xs : List V} (e : Sub H H') (h : SqT K H a xs) : SqT K H' a xs := by
  rcases h with (h | ⟨o, h⟩) | h
  · exact .inl (.inl (e _ _ h))
  · exact .inl (.inr ⟨o, e _ _ h⟩)
  · exact .inr h

/-! ### data in the frozen part -/
mutual
inductive Rp (K : PySem.W.Frag) (G : Hp) : V → D → Prop
  | non : Rp K G .non .none
  | bl (b : Bool) : Rp K G (.bl b) (.bool b)
  | int (i : Int) : Rp K G (.int i) (.int i)
  | str (x : Str) : Rp K G (.str x) (.str x)
  | lst {a : Addr} {xs : List V} {ds : List D} : G a = some (.lst xs) → RpAll K G xs ds → Rp K G (.ref a) (.list ds)
  | tup {a : Addr} {xs : List V} {ds : List D} : SqT K G a xs → RpAll K G xs ds → Rp K G (.ref a) (.tuple ds)
  | emp {a : Addr} : G a = some (.dK []) → Rp K G (.ref a) (.dict [])
  | scr {a : Addr} {xs : List V} {ds : List D} : SqL K G a xs → RpAll K G xs ds → Rp K G (.ref a) (.dict [(.str "SCRIPT", .list ds)])
inductive RpAll (K : PySem.W.Frag) (G : Hp) : List V → List D → Prop
  | nil : RpAll K G [] []
  | cons {v : V} {vs : List V} {d : D} {ds : List D} : Rp K G v d → RpAll K G vs ds → RpAll K G (v :: vs) (d :: ds)
end
section
variable {K : PySem.W.Frag} {G G' : Hp}
mutual
theorem Rp.mono (e : Sub G G') : ∀ {d : D} {v : V}, Rp K G v d → Rp K G' v d
  | .none, _, h => by cases h; exact .non
  | .bool b, _, h => by cases h; exact .bl b
  | .int i, _, h => by cases h; exact .int i
  | .str x, _, h => by cases h; exact .str x
  | .list ds, _, h => by cases h with | lst a b => exact .lst (e _ _ a) (RpAll.mono e b)
  | .tuple ds, _, h => by cases h with | tup a b => exact .tup (e.seqT a) (RpAll.mono e b)
  | .dict [], _, h => by cases h with | emp a => exact .emp (e _ _ a)
  | .dict [(.str x, .list ds)], _, h => by cases h with | scr a b => exact .scr (e.seqL a) (RpAll.mono e b)
theorem RpAll.mono (e : Sub G G') : ∀ {ds : List D} {vs : List V}, RpAll K G vs ds → RpAll K G' vs ds
  | [], _, h => by cases h; exact .nil
  | d :: ds, _, h => by cases h with | cons a b => exact .cons (Rp.mono e a) (RpAll.mono e b)
end
theorem RpAll.length : ∀ {ds : List D} {vs : List V}, RpAll K G vs ds → vs.length = ds.length
  | [], _, h => by cases h; rfl
  | d :: ds, _, h => by cases h with | cons a b => simp [RpAll.length b]
theorem RpAll.get : ∀ {ds : List D} {vs : List V} {i : Nat} {v : V}, RpAll K G vs ds → vs[i]? = some v → ∃ d, ds[i]? = some d ∧ Rp K G v d
  | [], _, _, _, h, e => by cases h; simp at e
  | d :: ds, _, 0, v, h, e => by cases h with | cons a b => simp at e; subst e; exact ⟨d, rfl, a⟩
  | d :: ds, _, i + 1, v, h, e => by
    cases h with | cons a b =>
      obtain ⟨d', h1, h2⟩ := RpAll.get (i := i) b (by simpa using e)
      exact ⟨d', by simpa using h1, h2⟩
theorem RpAll.getD : ∀ {ds : List D} {vs : List V} {i : Nat} {d : D}, RpAll K G vs ds → ds[i]? = some d → ∃ v, vs[i]? = some v ∧ Rp K G v d
  | [], _, _, _, h, e => by simp at e
  | d :: ds, _, 0, _, h, e => by cases h with | cons a b => simp at e; subst e; exact ⟨_, rfl, a⟩
  | d :: ds, _, i + 1, _, h, e => by
    cases h with | cons a b =>
      obtain ⟨d', h1, h2⟩ := RpAll.getD (i := i) b (by simpa using e)
      exact ⟨d', by simpa using h1, h2⟩
theorem RpAll.append : ∀ {ds es : List D} {vs ws : List V}, RpAll K G vs ds → RpAll K G ws es → RpAll K G (vs ++ ws) (ds ++ es)
  | [], _, _, _, h, g => by cases h; exact g
  | d :: ds, _, _, _, h, g => by cases h with | cons a b => exact .cons a (RpAll.append b g)
theorem RpAll.take : ∀ {ds : List D} {vs : List V} (n : Nat), RpAll K G vs ds → RpAll K G (vs.take n) (ds.take n)
  | [], _, 0, h => by cases h; exact .nil
  | [], _, n + 1, h => by cases h; exact .nil
  | d :: ds, _, 0, h => by cases h; exact .nil
  | d :: ds, _, n + 1, h => by cases h with | cons a b => exact .cons a (RpAll.take n b)
theorem RpAll.drop : ∀ {ds : List D} {vs : List V} (n : Nat), RpAll K G vs ds → RpAll K G (vs.drop n) (ds.drop n)
  | [], _, 0, h => by cases h; exact .nil
  | [], _, n + 1, h => by cases h; exact .nil
  | d :: ds, _, 0, h => h
  | d :: ds, _, n + 1, h => by cases h with | cons a b => exact RpAll.drop n b
theorem RpAll.set {x : V} {d : D} (r : Rp K G x d) : ∀ {ds : List D} {vs : List V} (i : Nat), RpAll K G vs ds → RpAll K G (vs.set i x) (ds.set i d)
  | [], _, _, h => by cases h; exact .nil
  | e :: ds, _, 0, h => by cases h with | cons a b => exact .cons r b
  | e :: ds, _, i + 1, h => by cases h with | cons a b => exact .cons a (RpAll.set r i b)
theorem RpAll.rev : ∀ {ds : List D} {vs : List V}, RpAll K G vs ds → RpAll K G vs.reverse ds.reverse
  | [], _, h => by cases h; exact .nil
  | d :: ds, _, h => by
    cases h with | cons a b =>
      rw [List.reverse_cons, List.reverse_cons]
      exact RpAll.append (RpAll.rev b) (.cons a .nil)
theorem RpAll.dropLast {ds : List D} {vs : List V} (h : RpAll K G vs ds) : RpAll K G vs.dropLast ds.dropLast := by
  rw [List.dropLast_eq_take, List.dropLast_eq_take, h.length]; exact h.take _
theorem RpAll.ints : ∀ {ns : List Int} {vs : List V}, RpAll K G vs (ns.map PyData.int) → vs = ns.map V.int
  | [], _, h => by cases h; rfl
  | n :: ns, _, h => by
    cases h with | cons a b => cases a; rw [RpAll.ints b]; rfl
theorem RpAll.of_ints : ∀ (ns : List Int), RpAll K G (ns.map V.int) (ns.map PyData.int)
  | [] => .nil
  | n :: ns => .cons (.int n) (RpAll.of_ints ns)
theorem RpAll.bls : ∀ {bs : List Bool} {vs : List V}, RpAll K G vs (bs.map PyData.bool) → vs = bs.map V.bl
  | [], _, h => by cases h; rfl
  | n :: ns, _, h => by
    cases h with | cons a b => cases a; rw [RpAll.bls b]; rfl
theorem RpAll.strs : ∀ {bs : List Str} {vs : List V}, RpAll K G vs (bs.map PyData.str) → vs = bs.map V.str
  | [], _, h => by cases h; rfl
  | n :: ns, _, h => by
    cases h with | cons a b => cases a; rw [RpAll.strs b]; rfl
mutual
/-- the kit's own relation, where no dict is in it -/
theorem Rp.dp : ∀ {d : D} {v : V}, Rp K G v d → d.canLay0 = true → Dp K G v d
  | .none, _, h, _ => by cases h; exact .non
  | .bool b, _, h, _ => by cases h; exact .bl b
  | .int i, _, h, _ => by cases h; exact .int i
  | .str x, _, h, _ => by cases h; exact .str x
  | .list ds, _, h, c => by cases h with | lst a b => exact .lst (SqL.of a) (RpAll.dp b (by simpa [PyData.canLay0] using c))
  | .tuple ds, _, h, c => by cases h with | tup a b => exact .tup a (RpAll.dp b (by simpa [PyData.canLay0] using c))
  | .dict _, _, _, c => by simp [PyData.canLay0] at c
theorem RpAll.dp : ∀ {ds : List D} {vs : List V}, RpAll K G vs ds → PyData.canLayAll0 ds = true → DpAll K G vs ds
  | [], _, h, _ => by cases h; exact .nil
  | d :: ds, _, h, c => by
    have c' : d.canLay0 = true ∧ PyData.canLayAll0 ds = true := by simpa [PyData.canLayAll0] using c
    cases h with | cons a b => exact .cons (Rp.dp a c'.1) (RpAll.dp b c'.2)
end
end

/-! ### what a slot owns -/
inductive OC where
  | lst (ds : List D)
  | dK (kvs : List (Key × D))
  | dT (kvs : List (List Key × D))
def keyD : Key → D
  | .inl i => .int i
  | .inr x => .str x
def OC.toD : OC → D
  | .lst ds => .list ds
  | .dK kvs => .dict (kvs.map fun p => (keyD p.1, p.2))
  | .dT kvs => .dict (kvs.map fun p => (.tuple (p.1.map keyD), p.2))
abbrev KvOk {κ : Type} (K : PySem.W.Frag) (G : Hp) : List (κ × V) → List (κ × D) → Prop := Paired fun p q => p.1 = q.1 ∧ Rp K G p.2 q.2
inductive OcOk (K : PySem.W.Frag) (G : Hp) : OC → HO → Prop
  | lst {ds : List D} {vs : List V} : RpAll K G vs ds → OcOk K G (.lst ds) (.lst vs)
  | dK {ds : List (Key × D)} {vs : List (Key × V)} : KvOk K G vs ds → OcOk K G (.dK ds) (.dK vs)
  | dT {ds : List (List Key × D)} {vs : List (List Key × V)} : KvOk K G vs ds → OcOk K G (.dT ds) (.dT vs)
theorem KvOk.mono {κ : Type} {K : PySem.W.Frag} {G G' : Hp} (e : Sub G G') {a : List (κ × V)} {b : List (κ × D)} (h : KvOk K G a b) : KvOk K G' a b :=
  Paired.mapP h fun _ _ q => ⟨q.1, q.2.mono e⟩
theorem OcOk.mono {K : PySem.W.Frag} {G G' : Hp} (e : Sub G G') {c : OC} {o : HO} (h : OcOk K G c o) : OcOk K G' c o := by
  cases h with
  | lst a => exact .lst (a.mono e)
  | dK a => exact .dK (KvOk.mono e a)
  | dT a => exact .dT (KvOk.mono e a)

inductive Slot where
  | un
  | fz (d : D)
  | own (c : OC)
abbrev Rho := List Slot
def OwnAt (σ : St) (ρ : Rho) (i : Nat) (a : Addr) : Prop := ∃ c, ρ[i]? = some (.own c) ∧ σ[i]? = some (some (.ref a))
def Ow (σ : St) (ρ : Rho) (a : Addr) : Prop := ∃ i, OwnAt σ ρ i a
def SlotOk (K : PySem.W.Frag) (G H : Hp) (o : Option (Option V)) : Slot → Prop
  | .un => True
  | .fz d => ∃ v, o = some (some v) ∧ Rp K G v d
  | .own c => ∃ a u, o = some (some (.ref a)) ∧ G a = none ∧ H a = some u ∧ OcOk K G c u
structure SR (K : PySem.W.Frag) (G H : Hp) (σ : St) (ρ : Rho) : Prop where
  sub : Sub G H
  len : σ.length = ρ.length
  ok : ∀ (i : Nat) (s : Slot), ρ[i]? = some s → SlotOk K G H σ[i]? s
  sep : ∀ (i j : Nat) (a : Addr), OwnAt σ ρ i a → OwnAt σ ρ j a → i = j
structure Fr (G H G' H' : Hp) (L : Addr → Prop) : Prop where
  ext : Sub G G'
  keep : ∀ a o, H a = some o → ¬ L a → H' a = some o
  nog : ∀ a o, H a = some o → G a = none → ¬ L a → G' a = none
/-- a step of the state -/
structure Stp (K : PySem.W.Frag) (G H : Hp) (σ : St) (ρ : Rho) (G' H' : Hp) (σ' : St) (ρ' : Rho) : Prop where
  sr : SR K G' H' σ' ρ'
  fr : Fr G H G' H' (Ow σ ρ)
  ow : ∀ a, Ow σ' ρ' a → Ow σ ρ a ∨ H a = none
section
variable {K : PySem.W.Frag} {G H G1 H1 G2 H2 : Hp} {σ σ1 σ2 : St} {ρ ρ1 ρ2 : Rho}
theorem Fr.rfl {L : Addr → Prop} : Fr G H G H L := ⟨Sub.rfl, fun _ _ e _ => e, fun _ _ _ n _ => n⟩
theorem Fr.tr {L L1 : Addr → Prop} (x : Fr G H G1 H1 L) (y : Fr G1 H1 G2 H2 L1) (hl : ∀ a, L1 a → L a ∨ H a = none) : Fr G H G2 H2 L := by
  have nl : ∀ a o, H a = some o → ¬ L a → ¬ L1 a := fun a o e n q => by
    rcases hl a q with z | z
    · exact n z
    · rw [e] at z; cases z
  exact ⟨x.ext.tr y.ext, fun a o e n => y.keep a o (x.keep a o e n) (nl a o e n), fun a o e g n => y.nog a o (x.keep a o e n) (x.nog a o e g n) (nl a o e n)⟩
theorem Stp.rfl (s : SR K G H σ ρ) : Stp K G H σ ρ G H σ ρ := ⟨s, Fr.rfl, fun _ h => .inl h⟩
theorem Stp.tr (x : Stp K G H σ ρ G1 H1 σ1 ρ1) (y : Stp K G1 H1 σ1 ρ1 G2 H2 σ2 ρ2) : Stp K G H σ ρ G2 H2 σ2 ρ2 := by
  refine ⟨y.sr, x.fr.tr y.fr x.ow, fun a h => ?_⟩
  rcases y.ow a h with z | z
  · exact x.ow a z
  · by_cases q : Ow σ ρ a
    · exact .inl q
    · right
      cases e : H a with
      | none => exact Eq.refl _
      | some o => rw [x.fr.keep a o e q] at z; cases z
theorem SR.fz {i : Nat} {d : D} (s : SR K G H σ ρ) (h : ρ[i]? = some (.fz d)) : ∃ v, σ[i]? = some (some v) ∧ Rp K G v d := s.ok i _ h
theorem SR.own {i : Nat} {c : OC} (s : SR K G H σ ρ) (h : ρ[i]? = some (.own c)) : ∃ a u, σ[i]? = some (some (.ref a)) ∧ G a = none ∧ H a = some u ∧ OcOk K G c u := s.ok i _ h
/-- the heap has grown, no slot has changed -/
structure Ext0 (G H G' H' : Hp) : Prop where
  g : Sub G G'
  h : Sub H H'
  gh : Sub G' H'
  n : ∀ a o, H a = some o → G a = none → G' a = none
theorem Ext0.rfl (s : Sub G H) : Ext0 G H G H := ⟨Sub.rfl, Sub.rfl, s, fun _ _ _ e => e⟩
theorem Ext0.tr (x : Ext0 G H G1 H1) (y : Ext0 G1 H1 G2 H2) : Ext0 G H G2 H2 :=
  ⟨x.g.tr y.g, x.h.tr y.h, y.gh, fun a o e n => y.n a o (x.h a o e) (x.n a o e n)⟩
/-- a new object, frozen -/
theorem Ext0.new {p : Addr} {o : HO} (s : Sub G H) (n : H p = none) : Ext0 G H (upd G p o) (upd H p o) :=
  ⟨Sub.upd (s.none n), Sub.upd n, Sub.upd2 s, fun a u e g => by rw [upd_ne (ne_of_none e n)]; exact g⟩
/-- a new object, owned by nobody yet -/
theorem Ext0.newH {p : Addr} {o : HO} (s : Sub G H) (n : H p = none) : Ext0 G H G (upd H p o) :=
  ⟨Sub.rfl, Sub.upd n, s.tr (Sub.upd n), fun a u e g => g⟩
theorem SlotOk.ext {o : Option (Option V)} (x : Ext0 G H G1 H1) : ∀ {s : Slot}, SlotOk K G H o s → SlotOk K G1 H1 o s
  | .un, _ => trivial
  | .fz _, ⟨v, e, r⟩ => ⟨v, e, r.mono x.g⟩
  | .own _, ⟨a, u, e, g, h, r⟩ => ⟨a, u, e, x.n a u h g, x.h a u h, r.mono x.g⟩
theorem SR.ext (s : SR K G H σ ρ) (x : Ext0 G H G1 H1) : Stp K G H σ ρ G1 H1 σ ρ :=
  ⟨⟨x.gh, s.len, fun i u e => (s.ok i u e).ext x, s.sep⟩, ⟨x.g, fun a o e _ => x.h a o e, fun a o e g _ => x.n a o e g⟩, fun _ h => .inl h⟩
end

/-! ### outcomes -/
structure Exc where
  cls : Str
  args : List (Str × D)
inductive Out (α : Type) where
  | ok (a : α) (ρ : Rho)
  | err (c : Exc) (ρ : Rho)
  | bad
def Out.Post {α : Type} (o : Out α) (P : α → Rho → Prop) (E : Exc → Rho → Prop) : Prop :=
  match o with
  | .ok a ρ => P a ρ
  | .err c ρ => E c ρ
  | .bad => False
abbrev M (α : Type) := Rho → Out α
def M.bind {α β : Type} (m : M α) (f : α → M β) : M β := fun ρ =>
  match m ρ with
  | .ok a ρ' => f a ρ'
  | .err c ρ' => .err c ρ'
  | .bad => .bad
def M.ret {α : Type} (a : α) : M α := fun ρ => .ok a ρ
def M.fail {α : Type} : M α := fun _ => .bad
def M.opt {α : Type} : Option α → M α
  | some a => fun ρ => .ok a ρ
  | none => fun _ => .bad
def M.map {α β : Type} (f : α → β) (m : M α) : M β := m.bind fun a => M.ret (f a)
section
variable {α β : Type} {P : β → Rho → Prop} {E : Exc → Rho → Prop} {ρ : Rho}
theorem post_bind {m : M α} {f : α → M β} : (m.bind f ρ).Post P E ↔ (m ρ).Post (fun a ρ' => (f a ρ').Post P E) E := by
  unfold M.bind; cases m ρ <;> exact Iff.rfl
theorem Out.Post.imp {o : Out β} {P' : β → Rho → Prop} {E' : Exc → Rho → Prop} (h : o.Post P E) (hp : ∀ a ρ, P a ρ → P' a ρ) (he : ∀ c ρ, E c ρ → E' c ρ) : o.Post P' E' := by
  cases o with
  | ok a ρ => exact hp _ _ h
  | err c ρ => exact he _ _ h
  | bad => exact h
end
end DL

/-! DLb: readings over data, and the first rules. -/
namespace DL
open PySem PySem.Spec L2

structure Gm where
  K : PySem.W.Frag
  mg : Str → Option Value

def ExcOk (Γ : Gm) (G : Hp) (c : Exc) (cls : Value) (dx : Option Addr) : Prop :=
  ∃ C, Γ.mg c.cls = some (.ref C) ∧ cls = .ref C ∧
    ((c.args = [] ∧ dx = none) ∨ (c.args ≠ [] ∧ ∃ d fs, dx = some d ∧ G d = some (.xd fs) ∧ KvOk Γ.K G fs c.args))
/-- the wish for an exception, from a state -/
def EW (Γ : Gm) (W : WX) (G H : Hp) (σ : St) (ρ : Rho) : Exc → Rho → Prop := fun c ρ' =>
  ∀ cls dx G' H', Stp Γ.K G H σ ρ G' H' σ ρ' → ExcOk Γ G' c cls dx → W cls dx σ H'
section
variable {Γ : Gm} {W : WX} {G H G1 H1 : Hp} {σ : St} {ρ ρ1 : Rho}
theorem EW.tr (x : Stp Γ.K G H σ ρ G1 H1 σ ρ1) {c : Exc} {ρ' : Rho} (h : EW Γ W G H σ ρ c ρ') : EW Γ W G1 H1 σ ρ1 c ρ' :=
  fun cls dx G' H' y e => h cls dx G' H' (x.tr y) e
end
def tD (Γ : Gm) (W : WX) (m : M D) : TE := fun σ H Q => ∃ G ρ, SR Γ.K G H σ ρ ∧
  (m ρ).Post (fun d ρ' => ∀ v G' H', Stp Γ.K G H σ ρ G' H' σ ρ' → Rp Γ.K G' v d → Q v H') (EW Γ W G H σ ρ)
def tT (Γ : Gm) (W : WX) (m : M Bool) : TT := fun σ H Q => ∃ G ρ, SR Γ.K G H σ ρ ∧
  (m ρ).Post (fun b ρ' => ∀ G' H', Stp Γ.K G H σ ρ G' H' σ ρ' → Q b H') (EW Γ W G H σ ρ)
/-- a fresh object that nobody owns yet -/
def Free (K : PySem.W.Frag) (G H : Hp) (σ : St) (ρ : Rho) (G' H' : Hp) (σ' : St) (ρ' : Rho) (v : V) (c : OC) : Prop :=
  ∃ a u, v = .ref a ∧ G' a = none ∧ H' a = some u ∧ OcOk K G' c u ∧ ¬ Ow σ' ρ' a ∧ (Ow σ ρ a ∨ H a = none)
def tO (Γ : Gm) (W : WX) (m : M OC) : TE := fun σ H Q => ∃ G ρ, SR Γ.K G H σ ρ ∧
  (m ρ).Post (fun c ρ' => ∀ v G' H', Stp Γ.K G H σ ρ G' H' σ ρ' → Free Γ.K G H σ ρ G' H' σ ρ' v c → Q v H') (EW Γ W G H σ ρ)
/-- arguments: frozen data, or a slot's own object -/
inductive Arg where
  | fz (d : D)
  | rf (i : Nat)
def ArgOk (K : PySem.W.Frag) (G : Hp) (σ : St) (v : V) : Arg → Prop
  | .fz d => Rp K G v d
  | .rf i => σ[i]? = some (some v)
abbrev ArgsOk (K : PySem.W.Frag) (G : Hp) (σ : St) : List V → List Arg → Prop := Paired (ArgOk K G σ)
def tA (Γ : Gm) (W : WX) (m : M (List Arg)) : TA := fun σ H Q => ∃ G ρ, SR Γ.K G H σ ρ ∧
  (m ρ).Post (fun as ρ' => ∀ vs G' H', Stp Γ.K G H σ ρ G' H' σ ρ' → ArgsOk Γ.K G' σ vs as → Q vs H') (EW Γ W G H σ ρ)
def tDs (Γ : Gm) (W : WX) (m : M (List D)) : TA := fun σ H Q => ∃ G ρ, SR Γ.K G H σ ρ ∧
  (m ρ).Post (fun ds ρ' => ∀ vs G' H', Stp Γ.K G H σ ρ G' H' σ ρ' → RpAll Γ.K G' vs ds → Q vs H') (EW Γ W G H σ ρ)

/-! ### the readings may be weakened -/
section
variable {X : Cx}
theorem PE.imp {e : Expr} {t t' : TE} (h : PE X e t) (k : ∀ σ H Q, t' σ H Q → t σ H Q) : PE X e t' := ⟨fun pins s σ H Q I q => h.run pins s σ H Q I (k _ _ _ q)⟩
theorem PT.imp {e : Expr} {t t' : TT} (h : PT X e t) (k : ∀ σ H Q, t' σ H Q → t σ H Q) : PT X e t' := ⟨fun pins s σ H Q I q => h.run pins s σ H Q I (k _ _ _ q)⟩
theorem PW.imp {e : Expr} {t t' : TT} (h : PW X e t) (k : ∀ σ H Q, t' σ H Q → t σ H Q) : PW X e t' := ⟨fun w pins s σ H Q I q => h.run w pins s σ H Q I (k _ _ _ q)⟩
theorem PA.imp {e : List Expr} {t t' : TA} (h : PA X e t) (k : ∀ σ H Q, t' σ H Q → t σ H Q) : PA X e t' := ⟨fun p pins s σ H Q I q => h.run p pins s σ H Q I (k _ _ _ q)⟩
theorem PS.imp {e : Stmt} {t t' : TS} (h : PS X e t) (k : ∀ D σ H, t' D σ H → t D σ H) : PS X e t' := ⟨fun pins s σ H D I q => h.run pins s σ H D I (k _ _ _ q)⟩
theorem PSs.imp {e : List Stmt} {t t' : TS} (h : PSs X e t) (k : ∀ D σ H, t' D σ H → t D σ H) : PSs X e t' := ⟨fun pins s σ H D I q => h.run pins s σ H D I (k _ _ _ q)⟩
theorem PG.imp {e : Expr} {t t' : TG} (h : PG X e t) (k : ∀ v σ H Q, t' v σ H Q → t v σ H Q) : PG X e t' := ⟨fun pins s σ H v u Q I r q => h.run pins s σ H v u Q I r (k _ _ _ _ q)⟩
theorem PI.imp {tg e : Expr} {t t' : TI} (h : PI X tg e t) (k : ∀ σ H R, t' σ H R → t σ H R) : PI X tg e t' := ⟨fun pins s σ H R I q => h.run pins s σ H R I (k _ _ _ q)⟩
end

/-! ### values, by their operators -/
/-- a pure operation on two values -/
def R2P (K : PySem.W.Frag) (r : R2) (g : D → D → Option D) : Prop := ∀ (G H : Hp) (x y : V) (d e z : D) (Q : VK), Sub G H → Rp K G x d → Rp K G y e → g d e = some z →
  (∀ v G' H', Ext0 G H G' H' → Rp K G' v z → Q v H') → r x y H Q
def RUP (K : PySem.W.Frag) (r : V → Hp → VK → Prop) (g : D → Option D) : Prop := ∀ (G H : Hp) (x : V) (d z : D) (Q : VK), Sub G H → Rp K G x d → g d = some z →
  (∀ v G' H', Ext0 G H G' H' → Rp K G' v z → Q v H') → r x H Q
def RNP (K : PySem.W.Frag) (r : List V → Hp → VK → Prop) (g : List D → Option D) : Prop := ∀ (G H : Hp) (xs : List V) (ds : List D) (z : D) (Q : VK), Sub G H → RpAll K G xs ds → g ds = some z →
  (∀ v G' H', Ext0 G H G' H' → Rp K G' v z → Q v H') → r xs H Q

def eBin (g : D → D → Option D) (ma mb : M D) : M D := ma.bind fun x => mb.bind fun y => M.opt (g x y)
def eUn (g : D → Option D) (ma : M D) : M D := ma.bind fun x => M.opt (g x)
def eCall (g : List D → Option D) (ma : M (List D)) : M D := ma.bind fun xs => M.opt (g xs)
def eNil {α : Type} : M (List α) := M.ret []
def eCons {α : Type} (ma : M α) (mb : M (List α)) : M (List α) := ma.bind fun x => mb.bind fun xs => M.ret (x :: xs)
def aFz (ma : M D) : M Arg := ma.bind fun d => M.ret (.fz d)
def aRf (i : Nat) : M Arg := M.ret (.rf i)
def eC (d : D) : M D := M.ret d
/-- a name; the own object of a slot is frozen by it -/
def eVar (i : Nat) : M D := fun ρ =>
  match ρ[i]? with
  | some (.fz d) => .ok d ρ
  | some (.own (.lst ds)) => .ok (.list ds) (ρ.set i (.fz (.list ds)))
  | _ => .bad

section
variable {X : Cx} {Γ : Gm} {W : WX} {pos : Pos}
theorem opt_post {α : Type} {o : Option α} {ρ : Rho} {P : α → Rho → Prop} {E : Exc → Rho → Prop} (h : (M.opt o ρ).Post P E) : ∃ z, o = some z ∧ P z ρ := by
  cases o with
  | none => exact h.elim
  | some z => exact ⟨z, rfl, h⟩
theorem de_bin {op : Operator} {r : R2} {g : D → D → Option D} {a b : Expr} {ma mb : M D} (ho : OpR X (binaryOp op) r) (hr : R2P Γ.K r g) (ha : PE X a (tD Γ W ma)) (hb : PE X b (tD Γ W mb)) :
    PE X (.BinOp a op b pos) (tD Γ W (eBin g ma mb)) := by
  refine PE.imp (pe_op ho ha hb) fun σ H Q ⟨G, ρ, s, h⟩ => ⟨G, ρ, s, (post_bind.mp h).imp (fun d ρ1 h1 v G1 H1 x1 r1 => ?_) fun c ρ' e => e⟩
  refine ⟨G1, ρ1, x1.sr, (post_bind.mp h1).imp (fun e ρ2 h2 u G2 H2 x2 r2 => ?_) fun c ρ' e => e.tr x1⟩
  obtain ⟨z, hz, q⟩ := opt_post h2
  exact hr G2 H2 v u d e z Q x2.sr.sub (r1.mono x2.fr.ext) r2 hz fun w G3 H3 x r3 => q w G3 H3 ((x1.tr x2).tr (x2.sr.ext x)) r3
theorem de_cmp {op : CmpOp} {r : R2} {g : D → D → Option D} {a b : Expr} {ma mb : M D} (ho : OpR X (compareOp op) r) (hr : R2P Γ.K r g) (ha : PE X a (tD Γ W ma)) (hb : PE X b (tD Γ W mb)) (hm : behindInMarks op b = false) :
    PE X (.Compare a [op] [b] pos) (tD Γ W (eBin g ma mb)) := by
  refine PE.imp (pe_cmpR ho ha hb hm) fun σ H Q ⟨G, ρ, s, h⟩ => ⟨G, ρ, s, (post_bind.mp h).imp (fun d ρ1 h1 v G1 H1 x1 r1 => ?_) fun c ρ' e => e⟩
  refine ⟨G1, ρ1, x1.sr, (post_bind.mp h1).imp (fun e ρ2 h2 u G2 H2 x2 r2 => ?_) fun c ρ' e => e.tr x1⟩
  obtain ⟨z, hz, q⟩ := opt_post h2
  exact hr G2 H2 v u d e z Q x2.sr.sub (r1.mono x2.fr.ext) r2 hz fun w G3 H3 x r3 => q w G3 H3 ((x1.tr x2).tr (x2.sr.ext x)) r3
/-- a value that is a bool, as a test -/
def asB (m : M D) : M Bool := m.bind fun d => match d with
  | .bool b => M.ret b
  | _ => M.fail
theorem asB_post {m : M D} {ρ : Rho} {P : Bool → Rho → Prop} {E : Exc → Rho → Prop} (h : (asB m ρ).Post P E) : (m ρ).Post (fun d ρ' => ∃ b, d = .bool b ∧ P b ρ') E := by
  refine (post_bind.mp h).imp (fun d ρ' q => ?_) fun _ _ e => e
  cases d <;> first | exact q.elim | exact ⟨_, rfl, q⟩
theorem dt_cmp {op : CmpOp} {r : R2} {g : D → D → Option D} {a b : Expr} {ma mb : M D} (ho : OpR X (compareOp op) r) (hr : R2P Γ.K r g) (ha : PE X a (tD Γ W ma)) (hb : PE X b (tD Γ W mb)) (hm : behindInMarks op b = false) :
    PT X (.Compare a [op] [b] pos) (tT Γ W (asB (eBin g ma mb))) := by
  refine PT.imp (pt_cmpR ho ha hb hm) fun σ H Q ⟨G, ρ, s, h⟩ => ⟨G, ρ, s, (post_bind.mp (asB_post h)).imp (fun d ρ1 h1 v G1 H1 x1 r1 => ?_) fun c ρ' e => e⟩
  refine ⟨G1, ρ1, x1.sr, (post_bind.mp h1).imp (fun e ρ2 h2 u G2 H2 x2 r2 => ?_) fun c ρ' e => e.tr x1⟩
  obtain ⟨z, hz, b, ez, q⟩ := opt_post h2
  subst ez
  refine hr G2 H2 v u d e _ _ x2.sr.sub (r1.mono x2.fr.ext) r2 hz fun w G3 H3 x r3 => ?_
  cases r3
  exact ⟨b, rfl, q G3 H3 ((x1.tr x2).tr (x2.sr.ext x))⟩
theorem de_un {op : UnaryOp} {r : V → Hp → VK → Prop} {g : D → Option D} {a : Expr} {ma : M D} (ho : UnR X (unaryOp op) r) (hr : RUP Γ.K r g) (ha : PE X a (tD Γ W ma)) : PE X (.UnaryOp op a pos) (tD Γ W (eUn g ma)) := by
  refine PE.imp (pe_un ho ha) fun σ H Q ⟨G, ρ, s, h⟩ => ⟨G, ρ, s, (post_bind.mp h).imp (fun d ρ1 h1 v G1 H1 x1 r1 => ?_) fun c ρ' e => e⟩
  obtain ⟨z, hz, q⟩ := opt_post h1
  exact hr G1 H1 v d z Q x1.sr.sub r1 hz fun w G3 H3 x r3 => q w G3 H3 (x1.tr (x1.sr.ext x)) r3
theorem de_ix {r : R2} {g : D → D → Option D} {a b : Expr} {ma mb : M D} (ho : IxR X r) (hr : R2P Γ.K r g) (ha : PE X a (tD Γ W ma)) (hb : PE X b (tD Γ W mb)) (hs : PlainIx b) :
    PE X (.Subscript a b pos) (tD Γ W (eBin g ma mb)) := by
  refine PE.imp (pe_ix ho ha hb hs) fun σ H Q ⟨G, ρ, s, h⟩ => ⟨G, ρ, s, (post_bind.mp h).imp (fun d ρ1 h1 v G1 H1 x1 r1 => ?_) fun c ρ' e => e⟩
  refine ⟨G1, ρ1, x1.sr, (post_bind.mp h1).imp (fun e ρ2 h2 u G2 H2 x2 r2 => ?_) fun c ρ' e => e.tr x1⟩
  obtain ⟨z, hz, q⟩ := opt_post h2
  exact hr G2 H2 v u d e z Q x2.sr.sub (r1.mono x2.fr.ext) r2 hz fun w G3 H3 x r3 => q w G3 H3 ((x1.tr x2).tr (x2.sr.ext x)) r3

/-! ### names, constants -/
theorem de_const {e : Expr} {v : V} {d : D} (h : PE X e (tC v)) (r : ∀ G, Rp Γ.K G v d) : PE X e (tD Γ W (eC d)) :=
  PE.imp h fun σ H Q ⟨G, ρ, s, h⟩ => h v G H (Stp.rfl s) (r G)
theorem de_int {i : Int} {j : Nat} : PE X (.Constant (.int i) j pos) (tD Γ W (eC (.int i))) := de_const pe_int fun _ => .int i
theorem de_bool {i : Bool} {j : Nat} : PE X (.Constant (.bool i) j pos) (tD Γ W (eC (.bool i))) := de_const pe_bl fun _ => .bl i
theorem de_none {j : Nat} : PE X (.Constant .none j pos) (tD Γ W (eC .none)) := de_const pe_non fun _ => .non
theorem de_str {x : Str} {j : Nat} : PE X (.Constant (.str x) j pos) (tD Γ W (eC (.str x))) := de_const pe_str fun _ => .str x
theorem ow_set_fz {σ : St} {ρ : Rho} {i : Nat} {d : D} {a : Addr} {j : Nat} (h : OwnAt σ (ρ.set i (.fz d)) j a) : OwnAt σ ρ j a := by
  obtain ⟨c, e1, e2⟩ := h
  refine ⟨c, ?_, e2⟩
  by_cases q : i = j
  · subst q
    rw [List.getElem?_set] at e1
    split at e1
    · split at e1 <;> cases e1
    · contradiction
  · rw [List.getElem?_set_ne q] at e1; exact e1
/-- an own list is frozen -/
theorem SR.freeze {K : PySem.W.Frag} {G H : Hp} {σ : St} {ρ : Rho} {i : Nat} {ds : List D} (s : SR K G H σ ρ) (h : ρ[i]? = some (.own (.lst ds))) :
    ∃ v G', σ[i]? = some (some v) ∧ Stp K G H σ ρ G' H σ (ρ.set i (.fz (.list ds))) ∧ Rp K G' v (.list ds) := by
  obtain ⟨a, u, e1, e2, e3, e4⟩ := s.own h
  cases e4 with
  | @lst _ vs e4 =>
    have oi : OwnAt σ ρ i a := ⟨_, h, e1⟩
    have sub : Sub G (upd G a (.lst vs)) := Sub.upd e2
    have rp : Rp K (upd G a (.lst vs)) (.ref a) (.list ds) := .lst upd_same (e4.mono sub)
    refine ⟨.ref a, upd G a (.lst vs), e1, ⟨⟨fun b o e => ?_, by rw [List.length_set]; exact s.len, fun j t e => ?_, fun j k b x y => s.sep j k b (ow_set_fz x) (ow_set_fz y)⟩,
      ⟨sub, fun b o e _ => e, fun b o e g n => ?_⟩, fun b ⟨j, x⟩ => .inl ⟨j, ow_set_fz x⟩⟩, rp⟩
    · by_cases q : b = a
      · subst q; rw [upd_same] at e; cases e; exact e3
      · rw [upd_ne q] at e; exact s.sub b o e
    · by_cases q : i = j
      · subst q
        have hi : i < ρ.length := by
          cases Nat.lt_or_ge i ρ.length with
          | inl z => exact z
          | inr z => rw [List.getElem?_eq_none z] at h; cases h
        rw [List.getElem?_set_self hi] at e
        cases e
        exact ⟨.ref a, e1, rp⟩
      · rw [List.getElem?_set_ne q] at e
        have z := s.ok j t e
        cases t with
        | un => trivial
        | fz d => obtain ⟨v, x1, x2⟩ := z; exact ⟨v, x1, x2.mono sub⟩
        | own c =>
          obtain ⟨b, u, x1, x2, x3, x4⟩ := z
          refine ⟨b, u, x1, ?_, x3, x4.mono sub⟩
          rw [upd_ne]
          · exact x2
          · intro z
            subst z
            exact q (s.sep i j _ oi ⟨c, e, x1⟩)
    · rw [upd_ne]
      · exact g
      · intro z; subst z; exact n ⟨i, oi⟩
theorem de_var {i : Nat} {x : Str} (h : PE X (.Name x pos) (tVar i)) : PE X (.Name x pos) (tD Γ W (eVar i)) := by
  refine PE.imp h fun σ H Q ⟨G, ρ, s, h⟩ => ?_
  unfold eVar at h
  split at h
  · rename_i d e
    obtain ⟨v, e1, e2⟩ := s.fz e
    exact ⟨v, e1, h v G H (Stp.rfl s) e2⟩
  · rename_i ds e
    obtain ⟨v, G', e1, x, r⟩ := s.freeze e
    exact ⟨v, e1, h v G' H x r⟩
  · exact h.elim

/-! ### arguments, calls of built-ins -/
theorem ds_nil : PA X [] (tDs Γ W eNil) := PA.imp pa_nil fun σ H Q ⟨G, ρ, s, h⟩ => h [] G H (Stp.rfl s) .nil
theorem ds_cons {e : Expr} {es : List Expr} {ma : M D} {mb : M (List D)} (ha : PE X e (tD Γ W ma)) (hb : PA X es (tDs Γ W mb)) (hs : starEach (e :: es) X.env = (false, eval e X.env) :: starEach es X.env := by rfl) :
    PA X (e :: es) (tDs Γ W (eCons ma mb)) := by
  refine PA.imp (pa_cons ha hb hs) fun σ H Q ⟨G, ρ, s, h⟩ => ⟨G, ρ, s, (post_bind.mp h).imp (fun d ρ1 h1 v G1 H1 x1 r1 => ?_) fun c ρ' e => e⟩
  exact ⟨G1, ρ1, x1.sr, (post_bind.mp h1).imp (fun e ρ2 h2 u G2 H2 x2 r2 => h2 _ G2 H2 (x1.tr x2) (.cons (r1.mono x2.fr.ext) r2)) fun c ρ' e => e.tr x1⟩
theorem de_callB {x : Str} {p : Pos} {e : Expr} {es : List Expr} {id : String} {r : List V → Hp → VK → Prop} {g : List D → Option D} {m : M (List D)} (hc : CallR X (.builtin id) r) (hr : RNP Γ.K r g) (hg : Gl X x) (hm : X.mg x = none) (hv : bootBuiltins x = some (.builtin id))
    (ha : PA X (e :: es) (tDs Γ W m)) (hn : x ≠ "__name__" := by decide) (hdb : (x == ("__debug__" : Str)) = false := by decide)
    (he : starEach (e :: es) X.env = (false, eval e X.env) :: starEach es X.env := by rfl) (hpl : (backTo pos (starEach es X.env)).any (·.1) = false := by rfl) : PE X (.Call (.Name x p) (e :: es) [] pos) (tD Γ W (eCall g m)) := by
  refine PE.imp (pe_callB hc hg hm hv ha hn hdb he hpl) fun σ H Q ⟨G, ρ, s, h⟩ => ⟨G, ρ, s, (post_bind.mp h).imp (fun d ρ1 h1 v G1 H1 x1 r1 => ?_) fun c ρ' e => e⟩
  obtain ⟨z, hz, q⟩ := opt_post h1
  exact hr G1 H1 v d z Q x1.sr.sub r1 hz fun w G3 H3 x r3 => q w G3 H3 (x1.tr (x1.sr.ext x)) r3
theorem de_callTy {x : Str} {p : Pos} {e : Expr} {es : List Expr} {T : String} {r : List V → Hp → VK → Prop} {g : List D → Option D} {m : M (List D)} (hc : CallR X (.type T) r) (hr : RNP Γ.K r g) (hg : Gl X x) (hm : X.mg x = none) (hv : bootBuiltins x = some (.type T))
    (ha : PA X (e :: es) (tDs Γ W m)) (hn : x ≠ "__name__" := by decide) (hdb : (x == ("__debug__" : Str)) = false := by decide)
    (he : starEach (e :: es) X.env = (false, eval e X.env) :: starEach es X.env := by rfl) (hpl : (backTo pos (starEach es X.env)).any (·.1) = false := by rfl) : PE X (.Call (.Name x p) (e :: es) [] pos) (tD Γ W (eCall g m)) := by
  refine PE.imp (pe_callTy hc hg hm hv ha hn hdb he hpl) fun σ H Q ⟨G, ρ, s, h⟩ => ⟨G, ρ, s, (post_bind.mp h).imp (fun d ρ1 h1 v G1 H1 x1 r1 => ?_) fun c ρ' e => e⟩
  obtain ⟨z, hz, q⟩ := opt_post h1
  exact hr G1 H1 v d z Q x1.sr.sub r1 hz fun w G3 H3 x r3 => q w G3 H3 (x1.tr (x1.sr.ext x)) r3

/-! ### displays -/
def eTup (m : M (List D)) : M D := m.bind fun ds => if ds.length ≤ 16777216 then M.ret (.tuple ds) else M.fail
def oLst (m : M (List D)) : M OC := m.bind fun ds => if ds.length ≤ 16777216 then M.ret (.lst ds) else M.fail
theorem size_line {n : Nat} (h : n ≤ 16777216) : n ≤ sizeLine := by rw [sizeLine_eq]; exact h
theorem ite_post {α : Type} {c : Prop} [Decidable c] {m : M α} {ρ : Rho} {P : α → Rho → Prop} {E : Exc → Rho → Prop} (h : ((if c then m else M.fail) ρ).Post P E) : c ∧ (m ρ).Post P E := by
  by_cases q : c
  · rw [if_pos q] at h; exact ⟨q, h⟩
  · rw [if_neg q] at h; exact h.elim
theorem de_tup {es : List Expr} {k : Nat} {m : M (List D)} (h : PA X es (tDs Γ W m)) : PE X (.Tuple es k pos) (tD Γ W (eTup m)) := by
  refine PE.imp (pe_tup h) fun σ H Q ⟨G, ρ, s, h⟩ => ⟨G, ρ, s, (post_bind.mp h).imp (fun d ρ1 h1 v G1 H1 x1 r1 => ?_) fun c ρ' e => e⟩
  obtain ⟨hl, q⟩ := ite_post h1
  refine ⟨size_line (by rw [r1.length]; exact hl), fun p np => ?_⟩
  have x2 := Ext0.new (o := .tup v) x1.sr.sub np
  exact q _ _ _ (x1.tr (x1.sr.ext x2)) (.tup (SqT.of upd_same) (r1.mono x2.g))
theorem do_lst {es : List Expr} {m : M (List D)} (h : PA X es (tDs Γ W m)) : PE X (.List es pos) (tO Γ W (oLst m)) := by
  refine PE.imp (pe_lst h) fun σ H Q ⟨G, ρ, s, h⟩ => ⟨G, ρ, s, (post_bind.mp h).imp (fun d ρ1 h1 v G1 H1 x1 r1 => ?_) fun c ρ' e => e⟩
  obtain ⟨hl, q⟩ := ite_post h1
  refine ⟨size_line (by rw [r1.length]; exact hl), fun p np => ?_⟩
  have x2 := Ext0.newH (G := G1) (o := .lst v) x1.sr.sub np
  have st := x1.tr (x1.sr.ext x2)
  have hno : ¬ Ow σ ρ1 p := fun ⟨i, c, e1, e2⟩ => by
    obtain ⟨a, u, f1, f2, f3, f4⟩ := x1.sr.own e1
    rw [e2] at f1
    cases f1
    rw [np] at f3; cases f3
  refine q _ _ _ st ⟨p, .lst v, rfl, x1.sr.sub.none np, upd_same, .lst r1, hno, ?_⟩
  by_cases z : Ow σ ρ p
  · exact .inl z
  · right
    cases e : H p with
    | none => rfl
    | some o => rw [x1.fr.keep p o e z] at np; cases np
/-- a fresh list, frozen at once -/
def ofO (m : M OC) : M D := m.bind fun c => match c with
  | .lst ds => M.ret (.list ds)
  | .dK [] => M.ret (.dict [])
  | _ => M.fail
theorem Stp.own_freeze {K : PySem.W.Frag} {G H G1 H1 : Hp} {σ : St} {ρ ρ1 : Rho} {σ1 : St} (x : Stp K G H σ ρ G1 H1 σ1 ρ1) {p : Addr} {u : HO} (g : G1 p = none) (h : H1 p = some u) (n : ¬ Ow σ1 ρ1 p) (f : Ow σ ρ p ∨ H p = none) :
    Stp K G H σ ρ (upd G1 p u) H1 σ1 ρ1 := by
  have sub : Sub G1 (upd G1 p u) := Sub.upd g
  refine ⟨⟨fun b o e => ?_, x.sr.len, fun j t e => ?_, x.sr.sep⟩, ⟨x.fr.ext.tr sub, x.fr.keep, fun b o e g' n' => ?_⟩, x.ow⟩
  · by_cases q : b = p
    · subst q; rw [upd_same] at e; cases e; exact h
    · rw [upd_ne q] at e; exact x.sr.sub b o e
  · have z := x.sr.ok j t e
    cases t with
    | un => trivial
    | fz d => obtain ⟨v, x1, x2⟩ := z; exact ⟨v, x1, x2.mono sub⟩
    | own c =>
      obtain ⟨b, u, x1, x2, x3, x4⟩ := z
      refine ⟨b, u, x1, ?_, x3, x4.mono sub⟩
      rw [upd_ne]
      · exact x2
      · intro z
        subst z
        exact n ⟨j, c, e, x1⟩
  · rw [upd_ne]
    · exact x.fr.nog b o e g' n'
    · intro z
      subst z
      rcases f with f | f
      · exact n' f
      · rw [f] at e; cases e
theorem de_own {e : Expr} {m : M OC} (h : PE X e (tO Γ W m)) : PE X e (tD Γ W (ofO m)) := by
  refine PE.imp h fun σ H Q ⟨G, ρ, s, h⟩ => ⟨G, ρ, s, (post_bind.mp h).imp (fun c ρ1 h1 v G1 H1 x1 r1 => ?_) fun c ρ' e => e⟩
  obtain ⟨p, u, rfl, g, hp, oc, n, f⟩ := r1
  have st := x1.own_freeze g hp n f
  cases oc with
  | lst q => exact h1 _ _ _ st (.lst upd_same (q.mono (Sub.upd g)))
  | dK q =>
    cases q with
    | nil => exact h1 _ _ _ st (.emp upd_same)
    | cons _ _ => exact h1.elim
  | dT q => exact h1.elim

/-! ### and, or, not, if-else -/
def eAnd (ma mb : M D) : M D := ma.bind fun x => match x with
  | .bool true => mb
  | .bool false => M.ret (.bool false)
  | _ => M.fail
def eOr (ma mb : M D) : M D := ma.bind fun x => match x with
  | .bool true => M.ret (.bool true)
  | .bool false => mb
  | _ => M.fail
def bAnd (ma mb : M Bool) : M Bool := ma.bind fun x => if x then mb else M.ret false
def bOr (ma mb : M Bool) : M Bool := ma.bind fun x => if x then M.ret true else mb
def bNot (ma : M Bool) : M Bool := ma.bind fun x => M.ret (!x)
def eIf (mc : M Bool) (ma mb : M D) : M D := mc.bind fun x => if x then ma else mb
def oIf (mc : M Bool) (ma mb : M OC) : M OC := mc.bind fun x => if x then ma else mb
def eNot (ma : M D) : M D := ma.bind fun x => match x with
  | .bool b => M.ret (.bool !b)
  | _ => M.fail
variable {a b : Expr} {rest : List Expr} {ma mb : M D} {na nb : M Bool}
theorem de_one {op : BoolOp} (h : PE X a (tD Γ W ma)) : PE X (.BoolOp op [a] pos) (tD Γ W ma) := pe_one h
theorem de_and (ha : PE X a (tD Γ W ma)) (hb : PE X (.BoolOp .And (b :: rest) pos) (tD Γ W mb)) : PE X (.BoolOp .And (a :: b :: rest) pos) (tD Γ W (eAnd ma mb)) := by
  refine PE.imp (pe_and ha hb) fun σ H Q ⟨G, ρ, s, h⟩ => ⟨G, ρ, s, (post_bind.mp h).imp (fun d ρ1 h1 v G1 H1 x1 r1 => ?_) fun c ρ' e => e⟩
  cases d <;> try exact h1.elim
  rename_i k
  cases r1
  refine ⟨k, rfl, ?_⟩
  cases k with
  | false => exact h1 _ _ _ x1 (.bl false)
  | true => exact ⟨G1, ρ1, x1.sr, Out.Post.imp h1 (fun e ρ2 h2 u G2 H2 x2 r2 => h2 _ _ _ (x1.tr x2) r2) fun c ρ' e => e.tr x1⟩
theorem de_or (ha : PE X a (tD Γ W ma)) (hb : PE X (.BoolOp .Or (b :: rest) pos) (tD Γ W mb)) : PE X (.BoolOp .Or (a :: b :: rest) pos) (tD Γ W (eOr ma mb)) := by
  refine PE.imp (pe_or ha hb) fun σ H Q ⟨G, ρ, s, h⟩ => ⟨G, ρ, s, (post_bind.mp h).imp (fun d ρ1 h1 v G1 H1 x1 r1 => ?_) fun c ρ' e => e⟩
  cases d <;> try exact h1.elim
  rename_i k
  cases r1
  refine ⟨k, rfl, ?_⟩
  cases k with
  | true => exact h1 _ _ _ x1 (.bl true)
  | false => exact ⟨G1, ρ1, x1.sr, Out.Post.imp h1 (fun e ρ2 h2 u G2 H2 x2 r2 => h2 _ _ _ (x1.tr x2) r2) fun c ρ' e => e.tr x1⟩
theorem de_not (ha : PE X a (tD Γ W ma)) : PE X (.UnaryOp .Not a pos) (tD Γ W (eNot ma)) := by
  refine PE.imp (pe_not ha) fun σ H Q ⟨G, ρ, s, h⟩ => ⟨G, ρ, s, (post_bind.mp h).imp (fun d ρ1 h1 v G1 H1 x1 r1 => ?_) fun c ρ' e => e⟩
  cases d <;> try exact h1.elim
  rename_i k
  cases r1
  exact ⟨k, rfl, h1 _ _ _ x1 (.bl !k)⟩
theorem dw_and1 (ha : PT X a (tT Γ W na)) : PW X (.BoolOp .And [a] pos) (tT Γ W na) := pw_and1 ha
theorem dw_or1 (ha : PT X a (tT Γ W na)) : PW X (.BoolOp .Or [a] pos) (tT Γ W na) := pw_or1 ha
theorem dw_and (ha : PT X a (tT Γ W na)) (hb : PW X (.BoolOp .And (b :: rest) pos) (tT Γ W nb)) : PW X (.BoolOp .And (a :: b :: rest) pos) (tT Γ W (bAnd na nb)) := by
  refine PW.imp (pw_and ha hb) fun σ H Q ⟨G, ρ, s, h⟩ => ⟨G, ρ, s, (post_bind.mp h).imp (fun k ρ1 h1 G1 H1 x1 => ?_) fun c ρ' e => e⟩
  cases k with
  | false => exact h1 _ _ x1
  | true => exact ⟨G1, ρ1, x1.sr, Out.Post.imp h1 (fun e ρ2 h2 G2 H2 x2 => h2 _ _ (x1.tr x2)) fun c ρ' e => e.tr x1⟩
theorem dw_or (ha : PT X a (tT Γ W na)) (hb : PW X (.BoolOp .Or (b :: rest) pos) (tT Γ W nb)) : PW X (.BoolOp .Or (a :: b :: rest) pos) (tT Γ W (bOr na nb)) := by
  refine PW.imp (pw_or ha hb) fun σ H Q ⟨G, ρ, s, h⟩ => ⟨G, ρ, s, (post_bind.mp h).imp (fun k ρ1 h1 G1 H1 x1 => ?_) fun c ρ' e => e⟩
  cases k with
  | true => exact h1 _ _ x1
  | false => exact ⟨G1, ρ1, x1.sr, Out.Post.imp h1 (fun e ρ2 h2 G2 H2 x2 => h2 _ _ (x1.tr x2)) fun c ρ' e => e.tr x1⟩
theorem dt_w (h : PW X a (tT Γ W na)) : PT X a (tT Γ W na) := h.pt
theorem dt_not (ha : PT X a (tT Γ W na)) : PT X (.UnaryOp .Not a pos) (tT Γ W (bNot na)) := by
  refine PT.imp (pt_not ha) fun σ H Q ⟨G, ρ, s, h⟩ => ⟨G, ρ, s, (post_bind.mp h).imp (fun k ρ1 h1 G1 H1 x1 => h1 _ _ x1) fun c ρ' e => e⟩
theorem de_if {c : Expr} (hc : PT X c (tT Γ W na)) (ha : PE X a (tD Γ W ma)) (hb : PE X b (tD Γ W mb)) : PE X (.IfExp c a b pos) (tD Γ W (eIf na ma mb)) := by
  refine PE.imp (pe_ifExp hc ha hb) fun σ H Q ⟨G, ρ, s, h⟩ => ⟨G, ρ, s, (post_bind.mp h).imp (fun k ρ1 h1 G1 H1 x1 => ?_) fun c ρ' e => e⟩
  cases k <;> exact ⟨G1, ρ1, x1.sr, Out.Post.imp h1 (fun e ρ2 h2 u G2 H2 x2 r2 => h2 _ _ _ (x1.tr x2) r2) fun c ρ' e => e.tr x1⟩
/-- a bool as a test -/
theorem dt_val (h : PE X a (tD Γ W ma)) (he : ∀ whole, isTrue a X.env whole = (do let v ← whole; standAt a.pos; holding [v] (truthy v)) := by intro _; rfl) : PT X a (tT Γ W (asB ma)) := by
  refine PT.imp (pt_val h he) fun σ H Q ⟨G, ρ, s, h⟩ => ⟨G, ρ, s, (asB_post h).imp (fun d ρ1 ⟨k, ek, h1⟩ v G1 H1 x1 r1 => ?_) fun c ρ' e => e⟩
  subst ek
  cases r1
  exact ⟨k, rfl, h1 _ _ x1⟩
end
end DL

/-! DLc: statements, targets, loops, comprehensions. -/
namespace DL
open PySem PySem.Spec L2

inductive Flw where
  | next | brk | cont
  | ret (r : Slot)
def RvOk (K : PySem.W.Frag) (G H : Hp) (σ : St) (ρ : Rho) (G' H' : Hp) (σ' : St) (ρ' : Rho) (v : V) : Slot → Prop
  | .un => False
  | .fz d => Rp K G' v d
  | .own c => Free K G H σ ρ G' H' σ' ρ' v c
abbrev Kept (P : List Nat) (σ σ' : St) : Prop := ∀ i ∈ P, σ'[i]? = σ[i]?
def EWs (Γ : Gm) (W : WX) (P : List Nat) (G H : Hp) (σ : St) (ρ : Rho) : Exc → Rho → Prop := fun c ρ' =>
  ∀ cls dx σ' G' H', Stp Γ.K G H σ ρ G' H' σ' ρ' → Kept P σ σ' → ExcOk Γ G' c cls dx → W cls dx σ' H'
def FlwOk (K : PySem.W.Frag) (G H : Hp) (σ : St) (ρ : Rho) (G' H' : Hp) (σ' : St) (ρ' : Rho) (D : Ends) : Flw → Prop
  | .next => D.nx σ' H'
  | .brk => D.bk σ' H'
  | .cont => D.ct σ' H'
  | .ret r => ∀ v, RvOk K G H σ ρ G' H' σ' ρ' v r → D.rt v H'
def tS (Γ : Gm) (W : WX) (P : List Nat) (m : M Flw) : TS := fun D σ H => ∃ G ρ, SR Γ.K G H σ ρ ∧
  (m ρ).Post (fun f ρ' => ∀ σ' G' H', Stp Γ.K G H σ ρ G' H' σ' ρ' → Kept P σ σ' → FlwOk Γ.K G H σ ρ G' H' σ' ρ' D f) (EWs Γ W P G H σ ρ)
/-- a value of a call: frozen, or an own object -/
def tR (Γ : Gm) (W : WX) (m : M Slot) : TE := fun σ H Q => ∃ G ρ, SR Γ.K G H σ ρ ∧
  (m ρ).Post (fun r ρ' => ∀ v G' H', Stp Γ.K G H σ ρ G' H' σ ρ' → RvOk Γ.K G H σ ρ G' H' σ ρ' v r → Q v H') (EW Γ W G H σ ρ)
section
variable {K : PySem.W.Frag} {Γ : Gm} {W : WX} {P : List Nat} {G H G1 H1 G2 H2 : Hp} {σ σ1 σ2 : St} {ρ ρ1 ρ2 : Rho}
theorem EWs.ew {c : Exc} {ρ' : Rho} (h : EWs Γ W P G H σ ρ c ρ') : EW Γ W G H σ ρ c ρ' := fun cls dx G' H' x e => h cls dx σ G' H' x (fun _ _ => rfl) e
theorem EWs.tr (x : Stp Γ.K G H σ ρ G1 H1 σ1 ρ1) (k : Kept P σ σ1) {c : Exc} {ρ' : Rho} (h : EWs Γ W P G H σ ρ c ρ') : EWs Γ W P G1 H1 σ1 ρ1 c ρ' :=
  fun cls dx σ' G' H' y k' e => h cls dx σ' G' H' (x.tr y) (fun i hi => (k' i hi).trans (k i hi)) e
theorem Stp.was (x : Stp K G H σ ρ G1 H1 σ1 ρ1) {a : Addr} (h : Ow σ1 ρ1 a ∨ H1 a = none) : Ow σ ρ a ∨ H a = none := by
  rcases h with z | z
  · exact x.ow a z
  · by_cases q : Ow σ ρ a
    · exact .inl q
    · right
      cases e : H a with
      | none => exact Eq.refl _
      | some o => rw [x.fr.keep a o e q] at z; cases z
theorem Free.tr (x : Stp K G H σ ρ G1 H1 σ1 ρ1) {v : V} {c : OC} (h : Free K G1 H1 σ1 ρ1 G2 H2 σ2 ρ2 v c) : Free K G H σ ρ G2 H2 σ2 ρ2 v c := by
  obtain ⟨a, u, e1, e2, e3, e4, e5, e6⟩ := h
  exact ⟨a, u, e1, e2, e3, e4, e5, x.was e6⟩
theorem RvOk.tr (x : Stp K G H σ ρ G1 H1 σ1 ρ1) {v : V} {r : Slot} (h : RvOk K G1 H1 σ1 ρ1 G2 H2 σ2 ρ2 v r) : RvOk K G H σ ρ G2 H2 σ2 ρ2 v r := by
  cases r with
  | un => exact h
  | fz d => exact h
  | own c => exact Free.tr x h
theorem FlwOk.tr (x : Stp K G H σ ρ G1 H1 σ1 ρ1) {D : Ends} {f : Flw} (h : FlwOk K G H σ ρ G2 H2 σ2 ρ2 D f) : FlwOk K G1 H1 σ1 ρ1 G2 H2 σ2 ρ2 D f := by
  cases f with
  | ret r => exact fun v q => h v (RvOk.tr x q)
  | _ => exact h
/-- a slot is given a frozen value -/
theorem SR.setF (s : SR K G H σ ρ) {i : Nat} (hi : i < ρ.length) {v : V} {d : D} (r : Rp K G v d) : Stp K G H σ ρ G H (σ.set i (some v)) (ρ.set i (.fz d)) := by
  have back : ∀ j a, OwnAt (σ.set i (some v)) (ρ.set i (.fz d)) j a → OwnAt σ ρ j a := fun j a ⟨c, e1, e2⟩ => by
    by_cases q : i = j
    · subst q
      rw [List.getElem?_set_self hi] at e1; cases e1
    · rw [List.getElem?_set_ne q] at e1 e2
      exact ⟨c, e1, e2⟩
  refine ⟨⟨s.sub, by rw [List.length_set, List.length_set]; exact s.len, fun j t e => ?_, fun j k a x y => s.sep j k a (back j a x) (back k a y)⟩, Fr.rfl, fun a ⟨j, x⟩ => .inl ⟨j, back j a x⟩⟩
  by_cases q : i = j
  · subst q
    rw [List.getElem?_set_self hi] at e
    cases e
    exact ⟨v, by rw [List.getElem?_set_self (by rw [s.len]; exact hi)], r⟩
  · rw [List.getElem?_set_ne q] at e ⊢
    exact s.ok j t e
/-- a slot is given an own object -/
theorem SR.setO (s : SR K G H σ ρ) {i : Nat} (hi : i < ρ.length) {a : Addr} {u : HO} {c : OC} (g : G a = none) (h : H a = some u) (oc : OcOk K G c u) (n : ¬ Ow σ ρ a) :
    SR K G H (σ.set i (some (.ref a))) (ρ.set i (.own c)) ∧ ∀ b, Ow (σ.set i (some (.ref a))) (ρ.set i (.own c)) b → b = a ∨ Ow σ ρ b := by
  have hs : i < σ.length := by rw [s.len]; exact hi
  have back : ∀ j b, OwnAt (σ.set i (some (.ref a))) (ρ.set i (.own c)) j b → (i = j ∧ b = a) ∨ (i ≠ j ∧ OwnAt σ ρ j b) := fun j b ⟨c', e1, e2⟩ => by
    by_cases q : i = j
    · subst q
      rw [List.getElem?_set_self hs] at e2
      cases e2
      exact .inl ⟨rfl, rfl⟩
    · rw [List.getElem?_set_ne q] at e1 e2
      exact .inr ⟨q, c', e1, e2⟩
  refine ⟨⟨s.sub, by rw [List.length_set, List.length_set]; exact s.len, fun j t e => ?_, fun j k b x y => ?_⟩, fun b ⟨j, x⟩ => ?_⟩
  · by_cases q : i = j
    · subst q
      rw [List.getElem?_set_self hi] at e
      cases e
      exact ⟨a, u, by rw [List.getElem?_set_self hs], g, h, oc⟩
    · rw [List.getElem?_set_ne q] at e ⊢
      exact s.ok j t e
  · rcases back j b x with ⟨e1, e2⟩ | ⟨e1, e2⟩
    · rcases back k b y with ⟨f1, f2⟩ | ⟨f1, f2⟩
      · exact e1.symm.trans f1
      · subst e2; exact (n ⟨k, f2⟩).elim
    · rcases back k b y with ⟨f1, f2⟩ | ⟨f1, f2⟩
      · subst f2; exact (n ⟨j, e2⟩).elim
      · exact s.sep j k b e2 f2
  · rcases back j b x with ⟨e1, e2⟩ | ⟨e1, e2⟩
    · exact .inl e2
    · exact .inr ⟨j, e2⟩
theorem kept_set {i : Nat} {o : Option V} (h : i ∉ P) : Kept P σ (σ.set i o) := fun j hj => by
  rw [List.getElem?_set_ne]
  intro e; subst e; exact h hj
end

/-! ### small statements -/
def sNext : M Flw := M.ret .next
def sSeq (a b : M Flw) : M Flw := a.bind fun f => match f with
  | .next => b
  | f => M.ret f
def sSet (i : Nat) (m : M D) : M Flw := m.bind fun d ρ => if i < ρ.length then .ok .next (ρ.set i (.fz d)) else .bad
def sSetO (i : Nat) (m : M OC) : M Flw := m.bind fun c ρ => if i < ρ.length then .ok .next (ρ.set i (.own c)) else .bad
def sDrop (m : M D) : M Flw := m.bind fun _ => M.ret .next
def sRet (m : M D) : M Flw := m.bind fun d => M.ret (.ret (.fz d))
def sRetO (m : M OC) : M Flw := m.bind fun c => M.ret (.ret (.own c))
def sIf (c : M Bool) (a b : M Flw) : M Flw := c.bind fun x => if x then a else b
/-- return of a slot's own object -/
def sRetV (i : Nat) : M Flw := fun ρ => match ρ[i]? with
  | some (.own c) => .ok (.ret (.own c)) (ρ.set i .un)
  | _ => .bad
section
variable {X : Cx} {Γ : Gm} {W : WX} {P : List Nat} {pos : Pos} {e : Expr} {st : Stmt} {rest : List Stmt} {m n : M Flw}
theorem dss_nil : PSs X [] (tS Γ W P sNext) := PSs.imp pss_nil fun D σ H ⟨G, ρ, s, h⟩ => h σ G H (Stp.rfl s) (fun _ _ => rfl)
theorem dss_cons (h1 : PS X st (tS Γ W P m)) (h2 : PSs X rest (tS Γ W P n)) : PSs X (st :: rest) (tS Γ W P (sSeq m n)) := by
  refine PSs.imp (pss_cons h1 h2) fun D σ H ⟨G, ρ, s, h⟩ => ⟨G, ρ, s, (post_bind.mp h).imp (fun f ρ1 q σ1 G1 H1 x1 k1 => ?_) fun _ _ e => e⟩
  cases f with
  | next => exact ⟨G1, ρ1, x1.sr, Out.Post.imp q (fun f ρ2 q σ2 G2 H2 x2 k2 => (q σ2 G2 H2 (x1.tr x2) fun i hi => (k2 i hi).trans (k1 i hi)).tr x1) fun c ρ' e => e.tr x1 k1⟩
  | brk => exact q σ1 G1 H1 x1 k1
  | cont => exact q σ1 G1 H1 x1 k1
  | ret r => exact q σ1 G1 H1 x1 k1
theorem dss_one (h1 : PS X st (tS Γ W P m)) : PSs X [st] (tS Γ W P m) := pss_one h1
theorem ds_pass : PS X (.Pass pos) (tS Γ W P sNext) := PS.imp ps_pass fun D σ H ⟨G, ρ, s, h⟩ => h σ G H (Stp.rfl s) (fun _ _ => rfl)
theorem ds_break : PS X (.Break pos) (tS Γ W P (M.ret .brk)) := PS.imp ps_break fun D σ H ⟨G, ρ, s, h⟩ => h σ G H (Stp.rfl s) (fun _ _ => rfl)
theorem ds_continue : PS X (.Continue pos) (tS Γ W P (M.ret .cont)) := PS.imp ps_continue fun D σ H ⟨G, ρ, s, h⟩ => h σ G H (Stp.rfl s) (fun _ _ => rfl)
theorem ds_never : PS X st (tS Γ W P M.fail) := PS.imp ps_never fun D σ H ⟨G, ρ, s, h⟩ => h.elim
theorem dss_never : PSs X rest (tS Γ W P M.fail) := PSs.imp pss_never fun D σ H ⟨G, ρ, s, h⟩ => h.elim
theorem set_post {i : Nat} {σ : St} {ρ ρ' : Rho} {Q : Flw → Rho → Prop} {E : Exc → Rho → Prop} {t : Slot} (h : Out.Post (if i < ρ.length then Out.ok Flw.next (ρ.set i t) else .bad) Q E) : i < ρ.length ∧ Q .next (ρ.set i t) := by
  by_cases q : i < ρ.length
  · rw [if_pos q] at h; exact ⟨q, h⟩
  · rw [if_neg q] at h; exact h.elim
theorem ds_set {i : Nat} {x : Str} {pos' : Pos} {me : M D} (hN : X.N.Nodup) (hi : X.N[i]? = some x) (hx : Loc X.env.scope x) (he : PE X e (tD Γ W me)) (hp : i ∉ P) (hs : swapsWith e (some (.Name x pos')) pos.line X.env = pure false := by rfl)
    (hf : X.fn x = true ∨ X.env.scope.names.lookup x = some .local := by first | exact .inl rfl | exact .inr rfl | assumption) : PS X (.Assign [.Name x pos'] e pos) (tS Γ W P (sSet i me)) := by
  refine PS.imp (ps_set hN hi hx he hs hf) fun D σ H ⟨G, ρ, s, h⟩ => ⟨G, ρ, s, (post_bind.mp h).imp (fun d ρ1 h1 v G1 H1 x1 r1 => ?_) fun c ρ' e => e.ew⟩
  obtain ⟨hl, q⟩ := set_post (σ := σ) (ρ' := ρ) h1
  exact q _ G1 H1 (x1.tr (x1.sr.setF hl r1)) (kept_set hp)
theorem ds_setO {i : Nat} {x : Str} {pos' : Pos} {me : M OC} (hN : X.N.Nodup) (hi : X.N[i]? = some x) (hx : Loc X.env.scope x) (he : PE X e (tO Γ W me)) (hp : i ∉ P) (hs : swapsWith e (some (.Name x pos')) pos.line X.env = pure false := by rfl)
    (hf : X.fn x = true ∨ X.env.scope.names.lookup x = some .local := by first | exact .inl rfl | exact .inr rfl | assumption) : PS X (.Assign [.Name x pos'] e pos) (tS Γ W P (sSetO i me)) := by
  refine PS.imp (ps_set hN hi hx he hs hf) fun D σ H ⟨G, ρ, s, h⟩ => ⟨G, ρ, s, (post_bind.mp h).imp (fun c ρ1 h1 v G1 H1 x1 r1 => ?_) fun c ρ' e => e.ew⟩
  obtain ⟨hl, q⟩ := set_post (σ := σ) (ρ' := ρ) h1
  obtain ⟨a, u, rfl, g, hu, oc, n, f⟩ := r1
  obtain ⟨sr, ow⟩ := x1.sr.setO hl g hu oc n
  refine q _ G1 H1 ⟨sr, x1.fr, fun b z => ?_⟩ (kept_set hp)
  rcases ow b z with z | z
  · subst z; exact f
  · exact x1.ow b z
theorem ds_drop {me : M D} (he : PE X e (tD Γ W me)) (hs : swapsWith e none pos.line X.env = pure false := by rfl) : PS X (.Expr e pos) (tS Γ W P (sDrop me)) := by
  refine PS.imp (ps_expr he hs) fun D σ H ⟨G, ρ, s, h⟩ => ⟨G, ρ, s, (post_bind.mp h).imp (fun d ρ1 h1 v G1 H1 x1 r1 => h1 σ G1 H1 x1 fun _ _ => rfl) fun c ρ' e => e.ew⟩
theorem ds_ret {me : M D} (he : PE X e (tD Γ W me)) : PS X (.Return (some e) pos) (tS Γ W P (sRet me)) := by
  refine PS.imp (ps_ret he) fun D σ H ⟨G, ρ, s, h⟩ => ⟨G, ρ, s, (post_bind.mp h).imp (fun d ρ1 h1 v G1 H1 x1 r1 => h1 σ G1 H1 x1 (fun _ _ => rfl) v r1) fun c ρ' e => e.ew⟩
theorem ds_retO {me : M OC} (he : PE X e (tO Γ W me)) : PS X (.Return (some e) pos) (tS Γ W P (sRetO me)) := by
  refine PS.imp (ps_ret he) fun D σ H ⟨G, ρ, s, h⟩ => ⟨G, ρ, s, (post_bind.mp h).imp (fun d ρ1 h1 v G1 H1 x1 r1 => h1 σ G1 H1 x1 (fun _ _ => rfl) v r1) fun c ρ' e => e.ew⟩
theorem ds_if {c : Expr} {a b : List Stmt} {mc : M Bool} (hc : PT X c (tT Γ W mc)) (ha : PSs X a (tS Γ W P m)) (hb : PSs X b (tS Γ W P n)) : PS X (.If c a b pos) (tS Γ W P (sIf mc m n)) := by
  refine PS.imp (ps_if hc ha hb) fun D σ H ⟨G, ρ, s, h⟩ => ⟨G, ρ, s, (post_bind.mp h).imp (fun k ρ1 h1 G1 H1 x1 => ?_) fun c ρ' e => e.ew⟩
  cases k <;> exact ⟨G1, ρ1, x1.sr, Out.Post.imp h1 (fun f ρ2 q σ2 G2 H2 x2 k2 => (q σ2 G2 H2 (x1.tr x2) k2).tr x1) fun c ρ' e => e.tr x1 fun _ _ => rfl⟩
/-- a slot gives its object away -/
theorem SR.give {K : PySem.W.Frag} {G H : Hp} {σ : St} {ρ : Rho} {i : Nat} {c : OC} (s : SR K G H σ ρ) (h : ρ[i]? = some (.own c)) :
    ∃ v, σ[i]? = some (some v) ∧ Stp K G H σ ρ G H σ (ρ.set i .un) ∧ Free K G H σ ρ G H σ (ρ.set i .un) v c := by
  obtain ⟨a, u, e1, e2, e3, e4⟩ := s.own h
  have hi : i < ρ.length := by
    cases Nat.lt_or_ge i ρ.length with
    | inl z => exact z
    | inr z => rw [List.getElem?_eq_none z] at h; cases h
  have back : ∀ j b, OwnAt σ (ρ.set i .un) j b → i ≠ j ∧ OwnAt σ ρ j b := fun j b ⟨c', f1, f2⟩ => by
    by_cases q : i = j
    · subst q
      rw [List.getElem?_set_self hi] at f1; cases f1
    · rw [List.getElem?_set_ne q] at f1
      exact ⟨q, c', f1, f2⟩
  refine ⟨.ref a, e1, ⟨⟨s.sub, by rw [List.length_set]; exact s.len, fun j t f => ?_, fun j k b x y => s.sep j k b (back j b x).2 (back k b y).2⟩, Fr.rfl, fun b ⟨j, x⟩ => .inl ⟨j, (back j b x).2⟩⟩,
    a, u, rfl, e2, e3, e4, fun ⟨j, x⟩ => ?_, .inl ⟨i, c, h, e1⟩⟩
  · by_cases q : i = j
    · subst q
      rw [List.getElem?_set_self hi] at f
      cases f
      trivial
    · rw [List.getElem?_set_ne q] at f
      exact s.ok j t f
  · obtain ⟨q, y⟩ := back j a x
    exact q (s.sep i j a ⟨c, h, e1⟩ y)
theorem ds_retV {i : Nat} {x : Str} {pos' : Pos} (he : PE X (.Name x pos') (tVar i)) : PS X (.Return (some (.Name x pos')) pos) (tS Γ W P (sRetV i)) := by
  refine PS.imp (ps_ret he) fun D σ H ⟨G, ρ, s, h⟩ => ?_
  unfold sRetV at h
  split at h
  · rename_i c e
    obtain ⟨v, e1, x, f⟩ := s.give e
    exact ⟨v, e1, h σ G H x (fun _ _ => rfl) v f⟩
  · exact h.elim
end

/-! ### targets -/
inductive Tg where
  | nm (i : Nat)
  | tp (ts : List Tg)
mutual
def Tg.ix : Tg → List Nat
  | .nm i => [i]
  | .tp ts => Tg.ixs ts
def Tg.ixs : List Tg → List Nat
  | [] => []
  | t :: ts => t.ix ++ Tg.ixs ts
end
mutual
def Tg.set : Tg → D → Rho → Option Rho
  | .nm i, d, ρ => if i < ρ.length then some (ρ.set i (.fz d)) else none
  | .tp ts, d, ρ => match d with
    | .tuple ds => if ds.length = ts.length then Tg.setAll ts ds ρ else none
    | _ => none
def Tg.setAll : List Tg → List D → Rho → Option Rho
  | [], [], ρ => some ρ
  | t :: ts, d :: ds, ρ => (t.set d ρ).bind fun ρ' => Tg.setAll ts ds ρ'
  | _, _, _ => none
end
def tG (Γ : Gm) (g : Tg) : TG := fun v σ H Q => ∃ G ρ d ρ', SR Γ.K G H σ ρ ∧ Rp Γ.K G v d ∧ g.set d ρ = some ρ' ∧ ∀ σ', Stp Γ.K G H σ ρ G H σ' ρ' → (∀ i, i ∉ g.ix → σ'[i]? = σ[i]?) → Q σ' H
def tGs (Γ : Gm) (gs : List Tg) : TGs := fun vs σ H Q => ∃ G ρ ds ρ', SR Γ.K G H σ ρ ∧ RpAll Γ.K G vs ds ∧ Tg.setAll gs ds ρ = some ρ' ∧ ∀ σ', Stp Γ.K G H σ ρ G H σ' ρ' → (∀ i, i ∉ Tg.ixs gs → σ'[i]? = σ[i]?) → Q σ' H
theorem PGs.imp {X : Cx} {e : List Expr} {t t' : TGs} (h : PGs X e t) (k : ∀ v σ H Q, t' v σ H Q → t v σ H Q) : PGs X e t' := ⟨fun pins s σ H v u Q I r q => h.run pins s σ H v u Q I r (k _ _ _ _ q)⟩
section
variable {X : Cx} {Γ : Gm} {pos : Pos}
theorem dg_nm {i : Nat} {x : Str} (h : PG X (.Name x pos) (gName i)) : PG X (.Name x pos) (tG Γ (.nm i)) := by
  refine PG.imp h fun v σ H Q ⟨G, ρ, d, ρ', s, r, e, q⟩ => ?_
  unfold Tg.set at e
  split at e
  · rename_i hl
    cases e
    refine q _ (s.setF hl r) fun j hj => ?_
    rw [List.getElem?_set_ne]
    intro z; subst z
    exact hj (by simp [Tg.ix])
  · cases e
theorem dgs_nil : PGs X [] (tGs Γ []) := by
  refine PGs.imp pgs_nil fun vs σ H Q ⟨G, ρ, ds, ρ', s, r, e, q⟩ => ?_
  cases ds with
  | nil => cases r; cases e; exact ⟨rfl, q σ (Stp.rfl s) fun _ _ => rfl⟩
  | cons _ _ => cases e
theorem dgs_cons {e : Expr} {es : List Expr} {g : Tg} {gs : List Tg} (h1 : PG X e (tG Γ g)) (h2 : PGs X es (tGs Γ gs))
    (hs : (assignEach (e :: es) X.env).map (·.2) = assign e X.env :: (assignEach es X.env).map (·.2) := by rfl) : PGs X (e :: es) (tGs Γ (g :: gs)) := by
  refine PGs.imp (pgs_cons h1 h2 hs) fun vs σ H Q ⟨G, ρ, ds, ρ', s, r, e, q⟩ => ?_
  cases ds with
  | nil => cases e
  | cons d ds =>
    cases r with
    | cons ra rb =>
      unfold Tg.setAll at e
      cases e1 : g.set d ρ with
      | none => rw [e1] at e; cases e
      | some ρ1 =>
        rw [e1] at e
        refine ⟨_, _, rfl, G, ρ, d, ρ1, s, ra, e1, fun σ1 x1 k1 => ⟨G, ρ1, ds, ρ', x1.sr, rb, e, fun σ2 x2 k2 => q σ2 (x1.tr x2) fun i hi => ?_⟩⟩
        have hi' : i ∉ g.ix ∧ i ∉ Tg.ixs gs := by simpa [Tg.ixs] using hi
        exact (k2 i hi'.2).trans (k1 i hi'.1)
theorem dg_tp {es : List Expr} {k : Nat} {gs : List Tg} (hc : X.calm = true) (h : PGs X es (tGs Γ gs)) (hK : X.K = Γ.K := by rfl)
    (hn : (assignEach es X.env).length = gs.length := by rfl) (hst : (assignEach es X.env).findIdx? (·.1) = none := by rfl) : PG X (.Tuple es k pos) (tG Γ (.tp gs)) := by
  refine PG.imp (pg_tup (n := gs.length) hc h hn hst) fun v σ H Q ⟨G, ρ, d, ρ', s, r, e, q⟩ => ?_
  unfold Tg.set at e
  split at e
  · rename_i ds
    split at e
    · rename_i hl
      cases r with
      | tup rs ra => exact ⟨_, _, rfl, by rw [hK]; exact s.sub.seqT rs, ra.length.trans hl, G, ρ, ds, ρ', s, ra, e, fun σ' x k => q σ' x fun i hi => k i (by simpa [Tg.ix] using hi)⟩
    · cases e
  · cases e
end
def sAsgG (g : Tg) (m : M D) : M Flw := m.bind fun d ρ => match g.set d ρ with
  | some ρ' => .ok .next ρ'
  | none => .bad
section
variable {X : Cx} {Γ : Gm} {W : WX} {P : List Nat} {pos : Pos}
theorem ds_asg {tg e : Expr} {g : Tg} {me : M D} (he : PE X e (tD Γ W me)) (hg : PG X tg (tG Γ g)) (hp : ∀ i ∈ P, i ∉ g.ix) (hs : swapsWithSole [tg] e pos.line X.env = pure false := by rfl) (hw : swappedStores [tg] e X.env = pure none := by rfl)
    (h1 : (assignEach [tg] X.env).map (·.2) = [assign tg X.env] := by rfl) : PS X (.Assign [tg] e pos) (tS Γ W P (sAsgG g me)) := by
  refine PS.imp (ps_asg he hg hs hw h1) fun D σ H ⟨G, ρ, s, h⟩ => ⟨G, ρ, s, (post_bind.mp h).imp (fun d ρ1 h1 v G1 H1 x1 r1 => ?_) fun c ρ' e => e.ew⟩
  cases q : g.set d ρ1 with
  | none => simp only [q] at h1; exact h1.elim
  | some ρ2 =>
    simp only [q] at h1
    exact ⟨G1, ρ1, d, ρ2, x1.sr, r1, q, fun σ2 x2 k2 => h1 σ2 G1 H1 (x1.tr x2) fun i hi => k2 i (hp i hi)⟩
/-- a, b = x, y -/
def sPar (i j : Nat) (m : M (List D)) : M Flw := m.bind fun ds ρ => match ds with
  | [d, e] => if i < ρ.length ∧ j < ρ.length then .ok .next ((ρ.set i (.fz d)).set j (.fz e)) else .bad
  | _ => .bad
theorem ds_par {i j : Nat} {x y : Str} {a b : Expr} {m : M (List D)} {px py pt : Pos} {kt k2 pt2} (hc : X.calm = true) (hN : X.N.Nodup) (hi : X.N[i]? = some x) (hj : X.N[j]? = some y) (hij : i ≠ j)
    (hx : X.env.scope.names.lookup x = some .local) (hy : X.env.scope.names.lookup y = some .local) (ha : PA X [a, b] (tDs Γ W m)) (hp : i ∉ P) (hp2 : j ∉ P)
    (hw : swappedStores [.Tuple [.Name x px, .Name y py] kt pt] (.Tuple [a, b] k2 pt2) X.env = pure (some [x, y]))
    (hs : swapsWithSole [.Tuple [.Name x px, .Name y py] kt pt] (.Tuple [a, b] k2 pt2) pos.line X.env = pure false := by rfl) :
    PS X (.Assign [.Tuple [.Name x px, .Name y py] kt pt] (.Tuple [a, b] k2 pt2) pos) (tS Γ W P (sPar i j m)) := by
  refine PS.imp (ps_par hc hN hi hj hij hx hy ha hw hs) fun D σ H ⟨G, ρ, s, h⟩ => ⟨G, ρ, s, (post_bind.mp h).imp (fun ds ρ1 h1 vs G1 H1 x1 r1 => ?_) fun c ρ' e => e.ew⟩
  match ds, r1, h1 with
  | [], _, h1 => exact h1.elim
  | [_], _, h1 => exact h1.elim
  | _ :: _ :: _ :: _, _, h1 => exact h1.elim
  | [d, e], r1, h1 =>
    cases r1 with
    | cons ra rb =>
      cases rb with
      | cons rb rc =>
        cases rc
        by_cases hl : i < ρ1.length ∧ j < ρ1.length
        · simp only [if_pos hl] at h1
          have y1 := x1.sr.setF hl.1 ra
          have y2 := y1.sr.setF (i := j) (by rw [List.length_set]; exact hl.2) rb
          exact ⟨_, _, rfl, h1 _ G1 H1 ((x1.tr y1).tr y2) fun k hk => (kept_set (P := P) hp2 k hk).trans (kept_set (P := P) hp k hk)⟩
        · simp only [if_neg hl] at h1
          exact h1.elim
end

/-! ### what is walked -/
structure ItOk (K : PySem.W.Frag) (J : It) (ds : List D) (G0 : Hp) : Prop where
  sz : ds.length ≤ sizeLine
  at_ : ∀ i G H d, Sub G0 G → Sub G H → ds[i]? = some d → J.go i H ∧ ∀ x H', J.yld i H x H' → ∃ G', Ext0 G H G' H' ∧ Rp K G' x d
  fin : ∀ G H, Sub G0 G → Sub G H → J.stop ds.length H
def tI (Γ : Gm) (W : WX) (m : M (List D)) : TI := fun σ H R => ∃ G ρ, SR Γ.K G H σ ρ ∧
  (m ρ).Post (fun ds ρ' => ∀ J G' H', Stp Γ.K G H σ ρ G' H' σ ρ' → ItOk Γ.K J ds G' → R J H') (EW Γ W G H σ ρ)
def itD : D → Option (List D)
  | .list ds => some ds
  | .tuple ds => some ds
  | _ => none
def iSeq (m : M D) : M (List D) := m.bind fun d => M.opt (itD d)
theorem itOk_list {K : PySem.W.Frag} {a : Addr} {xs : List V} {ds : List D} {G0 : Hp} (h : G0 a = some (.lst xs)) (r : RpAll K G0 xs ds) (hz : xs.length ≤ sizeLine) : ItOk K (Itl K a) ds G0 where
  sz := by rw [← r.length]; exact hz
  at_ := fun i G H d s1 s2 e => by
    obtain ⟨v, e1, e2⟩ := r.getD e
    have q : SqL K H a xs := SqL.of (s2 _ _ (s1 _ _ h))
    exact ⟨⟨xs, v, q, e1⟩, fun x H' ⟨e3, e4⟩ => by
      subst e3
      have := e4 xs q
      rw [e1] at this
      cases this
      exact ⟨G, Ext0.rfl s2, e2.mono s1⟩⟩
  fin := fun G H s1 s2 => ⟨xs, SqL.of (s2 _ _ (s1 _ _ h)), by rw [r.length]; exact Nat.le_refl _⟩
theorem itOk_tup {K : PySem.W.Frag} {a : Addr} {xs : List V} {ds : List D} {G0 : Hp} (h : SqT K G0 a xs) (r : RpAll K G0 xs ds) (hz : xs.length ≤ sizeLine) : ItOk K (Itt K a) ds G0 where
  sz := by rw [← r.length]; exact hz
  at_ := fun i G H d s1 s2 e => by
    obtain ⟨v, e1, e2⟩ := r.getD e
    have q : SqT K H a xs := s2.seqT (s1.seqT h)
    exact ⟨⟨xs, v, q, e1⟩, fun x H' ⟨e3, e4⟩ => by
      subst e3
      have := e4 xs q
      rw [e1] at this
      cases this
      exact ⟨G, Ext0.rfl s2, e2.mono s1⟩⟩
  fin := fun G H s1 s2 => ⟨xs, s2.seqT (s1.seqT h), by rw [r.length]; exact Nat.le_refl _⟩
section
variable {X : Cx} {Γ : Gm} {W : WX} {tg e : Expr} {m : M D}
theorem di_seq (he : PE X e (tD Γ W m)) (hK : X.K = Γ.K := by rfl) : PI X tg e (tI Γ W (iSeq m)) := by
  refine ⟨fun pins s σ H R I ⟨G, ρ, sr, h⟩ => ?_⟩
  have h' := post_bind.mp h
  refine thn (he.run pins s σ H (fun x H1 => ∃ G1 ρ1 d ds, Stp Γ.K G H σ ρ G1 H1 σ ρ1 ∧ Rp Γ.K G1 x d ∧ itD d = some ds ∧ ∀ J, ItOk Γ.K J ds G1 → R J H1) I ⟨G, ρ, sr, h'.imp (fun d ρ1 h1 v G1 H1 x1 r1 => ?_) fun _ _ e => e⟩)
    fun v s1 ⟨x, H1, I1, r1, G1, ρ1, d, ds, x1, rp, e, q⟩ => ?_
  · obtain ⟨ds, e1, q⟩ := opt_post h1
    exact ⟨G1, ρ1, d, ds, x1, r1, e1, fun J ok => q J G1 H1 x1 ok⟩
  · cases rp with
    | lst g ra =>
      cases e
      cases r1
      obtain ⟨its, rv, p, hz⟩ := I1.list (SqL.of (x1.sr.sub _ _ g))
      refine wpAny_pyIter_list p.isList ⟨s1.heap.objs.size, [s1.heap.objs.size], _, _, H1, rfl, I1.kept (t' := s1.toks) fun b o e => Heap.get?_push_of_some _ e, turn_list _ _, ⟨_, Heap.get?_push_size _ rfl, rfl, rfl⟩, fun b hb => ?_, ?_⟩
      · have e : b = s1.heap.objs.size := by simpa using hb
        subst e
        exact I1.fpOk (Nat.le_refl _) (I1.hok.fresh (Nat.le_refl _))
      · rw [hK]; exact q _ (itOk_list g ra hz)
    | tup g ra =>
      cases e
      cases r1
      obtain ⟨its, rv, p, hz⟩ := I1.tuple (by rw [hK]; exact x1.sr.sub.seqT g)
      refine wpAny_pyIter_tuple (show s1.heap.IsTuple _ its.toArray from p) ⟨s1.heap.objs.size, [s1.heap.objs.size], _, _, H1, rfl, I1.kept (t' := s1.toks) fun b o e => Heap.get?_push_of_some _ e, turn_tuple _ _, ⟨_, Heap.get?_push_size _ rfl, rfl, rfl⟩, fun b hb => ?_, ?_⟩
      · have e : b = s1.heap.objs.size := by simpa using hb
        subst e
        exact I1.fpOk (Nat.le_refl _) (I1.hok.fresh (Nat.le_refl _))
      · rw [hK]; exact q _ (itOk_tup g ra hz)
    | non => cases e
    | bl _ => cases e
    | int _ => cases e
    | str _ => cases e
    | emp _ => cases e
    | scr _ _ => cases e
end
/-- lo, lo + 1, .. -/
def rngD (lo hi : Int) : Option (List D) :=
  if -(2 ^ 62) ≤ lo ∧ lo < 2 ^ 62 ∧ -(2 ^ 62) ≤ hi ∧ hi < 2 ^ 62 ∧ (hi - lo).toNat ≤ 16777216 then some ((List.range (hi - lo).toNat).map fun (i : Nat) => PyData.int (lo + (i : Int))) else none
def rng1 : List D → Option (List D)
  | [.int hi] => rngD 0 hi
  | _ => none
def rng2 : List D → Option (List D)
  | [.int lo, .int hi] => rngD lo hi
  | _ => none
theorem itOk_rng {K : PySem.W.Frag} {lo hi : Int} {ds : List D} {G0 : Hp} (h : rngD lo hi = some ds) : (-(2 ^ 62) ≤ lo ∧ lo < 2 ^ 62 ∧ -(2 ^ 62) ≤ hi ∧ hi < 2 ^ 62) ∧ ItOk K (Itr lo (hi - lo).toNat) ds G0 := by
  unfold rngD at h
  split at h
  · rename_i c
    cases h
    refine ⟨⟨c.1, c.2.1, c.2.2.1, c.2.2.2.1⟩, ⟨by simpa using size_line c.2.2.2.2, fun i G H d s1 s2 e => ?_, fun G H _ _ => by simp only [List.length_map, List.length_range]; exact Nat.le_refl _⟩⟩
    rw [List.getElem?_map] at e
    by_cases hi' : i < (hi - lo).toNat
    · rw [List.getElem?_range hi'] at e
      cases e
      exact ⟨hi', fun x H' ⟨e1, e2⟩ => by subst e1 e2; exact ⟨G, Ext0.rfl s2, .int _⟩⟩
    · rw [List.getElem?_eq_none (by simpa using hi')] at e
      cases e
  · cases h
def iOpt (g : List D → Option (List D)) (m : M (List D)) : M (List D) := m.bind fun ds => M.opt (g ds)
section
variable {X : Cx} {Γ : Gm} {W : WX} {tg a b : Expr} {m : M (List D)} {p pos : Pos}
theorem di_rng1 (hg : Gl X "range") (hm : X.mg "range" = none) (ha : PA X [a] (tDs Γ W m)) (hs : starEach [a] X.env = [(false, eval a X.env)] := by rfl) : PI X tg (.Call (.Name "range" p) [a] [] pos) (tI Γ W (iOpt rng1 m)) := by
  refine PI.imp (pi_range1 hg hm ha hs) fun σ H R ⟨G, ρ, s, h⟩ => ⟨G, ρ, s, (post_bind.mp h).imp (fun ds ρ1 h1 vs G1 H1 x1 r1 => ?_) fun _ _ e => e⟩
  obtain ⟨es, e1, q⟩ := opt_post h1
  unfold rng1 at e1
  split at e1
  · rename_i hi
    cases r1 with
    | cons ra rb =>
      cases ra; cases rb
      obtain ⟨⟨_, _, c3, c4⟩, ok⟩ := itOk_rng (K := Γ.K) (G0 := G1) e1
      exact ⟨hi, rfl, c3, c4, by simpa using q _ G1 H1 x1 ok⟩
  · cases e1
theorem di_rng2 (hg : Gl X "range") (hm : X.mg "range" = none) (ha : PA X [a, b] (tDs Γ W m)) (hs : starEach [a, b] X.env = [(false, eval a X.env), (false, eval b X.env)] := by rfl) (hs2 : starEach [b] X.env = [(false, eval b X.env)] := by rfl) :
    PI X tg (.Call (.Name "range" p) [a, b] [] pos) (tI Γ W (iOpt rng2 m)) := by
  refine PI.imp (pi_range2 hg hm ha hs hs2) fun σ H R ⟨G, ρ, s, h⟩ => ⟨G, ρ, s, (post_bind.mp h).imp (fun ds ρ1 h1 vs G1 H1 x1 r1 => ?_) fun _ _ e => e⟩
  obtain ⟨es, e1, q⟩ := opt_post h1
  unfold rng2 at e1
  split at e1
  · rename_i lo hi
    cases r1 with
    | cons ra rb =>
      cases rb with
      | cons rb rc =>
        cases ra; cases rb; cases rc
        obtain ⟨c, ok⟩ := itOk_rng (K := Γ.K) (G0 := G1) e1
        exact ⟨lo, hi, rfl, c, q _ G1 H1 x1 ok⟩
  · cases e1
end

/-! ### for -/
def forL (g : Tg) (b : M Flw) : List D → M Flw
  | [] => M.ret .next
  | d :: ds => fun ρ => match g.set d ρ with
    | none => .bad
    | some ρ1 => match b ρ1 with
      | .ok .next ρ2 => forL g b ds ρ2
      | .ok .cont ρ2 => forL g b ds ρ2
      | .ok .brk ρ2 => .ok .next ρ2
      | .ok (.ret r) ρ2 => .ok (.ret r) ρ2
      | .err c ρ2 => .err c ρ2
      | .bad => .bad
def sFor (mi : M (List D)) (g : Tg) (b : M Flw) : M Flw := mi.bind (forL g b)
section
variable {X : Cx} {Γ : Gm} {W : WX} {P : List Nat} {pos : Pos}
theorem ds_for {tg iter : Expr} {body : List Stmt} {mi : M (List D)} {g : Tg} {mb : M Flw} (hp : PassesOwn (model X.prog X.w) X.A X.env X.xe) (hc : X.calm = true) (hi : PI X tg iter (tI Γ W mi)) (hg : PG X tg (tG Γ g)) (hb : PSs X body (tS Γ W P mb))
    (hP : ∀ i ∈ P, i ∉ g.ix) (hs : ∀ x, foldedSetIterable iter X.env x = pure x := by intro _; rfl) : PS X (.For tg iter body [] pos) (tS Γ W P (sFor mi g mb)) := by
  refine PS.imp (ps_for hp hc hi hg hb hs) fun D σ H ⟨G, ρ, s, h⟩ => ⟨G, ρ, s, (post_bind.mp h).imp (fun ds ρ1 h1 J G1 H1 x1 ok => ?_) fun c ρ' e => e.ew⟩
  -- the invariant: what is left of the walk
  refine ⟨fun i m σ' H' => m = ds.length - i ∧ i ≤ ds.length ∧ ∃ G' ρ', Sub G1 G' ∧ Stp Γ.K G H σ ρ G' H' σ' ρ' ∧ Kept P σ σ' ∧
      (forL g mb (ds.drop i) ρ').Post (fun f ρ2 => ∀ σ2 G2 H2, Stp Γ.K G H σ ρ G2 H2 σ2 ρ2 → Kept P σ σ2 → FlwOk Γ.K G H σ ρ G2 H2 σ2 ρ2 D f) (EWs Γ W P G H σ ρ), ⟨_, rfl, Nat.zero_le _, G1, ρ1, Sub.rfl, x1, fun _ _ => rfl, h1⟩, ?_⟩
  rintro i m σ' H' ⟨rfl, hi, G', ρ', sg, x, k, q⟩
  by_cases hlt : i < ds.length
  · right
    rw [List.drop_eq_getElem_cons hlt] at q
    obtain ⟨go, yl⟩ := ok.at_ i G' H' ds[i] sg x.sr.sub (List.getElem?_eq_getElem hlt)
    refine ⟨go, fun σ2 H2 => ∃ G2 ρ2, Sub G1 G2 ∧ Stp Γ.K G H σ ρ G2 H2 σ2 ρ2 ∧ Kept P σ σ2 ∧
      (forL g mb (ds.drop (i + 1)) ρ2).Post (fun f ρ2 => ∀ σ2 G2 H2, Stp Γ.K G H σ ρ G2 H2 σ2 ρ2 → Kept P σ σ2 → FlwOk Γ.K G H σ ρ G2 H2 σ2 ρ2 D f) (EWs Γ W P G H σ ρ),
      fun σ2 H2 ⟨G2, ρ2, s2, x2, k2, q2⟩ => ⟨ds.length - (i + 1), by omega, rfl, hlt, G2, ρ2, s2, x2, k2, q2⟩, fun v H2 yv => ?_⟩
    obtain ⟨G2, e2, r2⟩ := yl v H2 yv
    have y2 := x.sr.ext e2
    unfold forL at q
    cases hg : g.set ds[i] ρ' with
    | none => simp only [hg] at q; exact q.elim
    | some ρ3 =>
      simp only [hg] at q
      refine ⟨G2, ρ', ds[i], ρ3, y2.sr, r2, hg, fun σ3 x3 k3 => ?_⟩
      have x4 := (x.tr y2).tr x3
      have k4 : Kept P σ σ3 := fun j hj => (k3 j (hP j hj)).trans (k j hj)
      refine ⟨G2, ρ3, x3.sr, ?_⟩
      cases hb : mb ρ3 with
      | bad => simp only [hb] at q; exact q.elim
      | err c ρ4 =>
        simp only [hb] at q
        exact EWs.tr x4 k4 q
      | ok f ρ4 =>
        simp only [hb] at q
        intro σ5 G5 H5 x5 k5
        have xx := x4.tr x5
        have kk : Kept P σ σ5 := fun j hj => (k5 j hj).trans (k4 j hj)
        cases f with
        | next => exact ⟨G5, ρ4, (sg.tr e2.g).tr x5.fr.ext, xx, kk, q⟩
        | cont => exact ⟨G5, ρ4, (sg.tr e2.g).tr x5.fr.ext, xx, kk, q⟩
        | brk => exact q σ5 G5 H5 xx kk
        | ret r => exact fun u hu => (q σ5 G5 H5 xx kk) u (RvOk.tr x4 hu)
  · left
    have e : i = ds.length := by omega
    subst e
    refine ⟨ok.fin G' H' sg x.sr.sub, ?_⟩
    rw [List.drop_length] at q
    exact q σ' G' H' x k

/-! ### while -/
def whileF (c : M Bool) (b : M Flw) : Nat → M Flw
  | 0 => M.fail
  | n + 1 => c.bind fun x => if x then b.bind fun f => (match f with
      | .next => whileF c b n
      | .cont => whileF c b n
      | .brk => M.ret .next
      | .ret r => M.ret (.ret r)) else M.ret .next
theorem ds_while {c : Expr} {body : List Stmt} {mc : M Bool} {mb : M Flw} {fuel : Nat} (hp : PassesOwn (model X.prog X.w) X.A X.env X.xe) (hc : PT X c (tT Γ W mc)) (hb : PSs X body (tS Γ W P mb)) : PS X (.While c body [] pos) (tS Γ W P (whileF mc mb fuel)) := by
  refine PS.imp (ps_while hp hc hb) fun D σ H ⟨G, ρ, s, h⟩ => ?_
  refine ⟨fun m σ' H' => ∃ G' ρ', Stp Γ.K G H σ ρ G' H' σ' ρ' ∧ Kept P σ σ' ∧
      (whileF mc mb m ρ').Post (fun f ρ2 => ∀ σ2 G2 H2, Stp Γ.K G H σ ρ G2 H2 σ2 ρ2 → Kept P σ σ2 → FlwOk Γ.K G H σ ρ G2 H2 σ2 ρ2 D f) (EWs Γ W P G H σ ρ), ⟨fuel, G, ρ, Stp.rfl s, fun _ _ => rfl, h⟩, ?_⟩
  rintro m σ' H' ⟨G', ρ', x, k, q⟩
  cases m with
  | zero => exact q.elim
  | succ m =>
    unfold whileF at q
    refine ⟨G', ρ', x.sr, (post_bind.mp q).imp (fun b ρ1 q1 G1 H1 x1 => ?_) fun c ρ' e => (EWs.tr x k e).ew⟩
    cases b with
    | false => exact q1 σ' G1 H1 (x.tr x1) k
    | true =>
      rw [if_pos rfl]
      refine ⟨fun σ2 H2 => ∃ G2 ρ2, Stp Γ.K G H σ ρ G2 H2 σ2 ρ2 ∧ Kept P σ σ2 ∧
        (whileF mc mb m ρ2).Post (fun f ρ2 => ∀ σ2 G2 H2, Stp Γ.K G H σ ρ G2 H2 σ2 ρ2 → Kept P σ σ2 → FlwOk Γ.K G H σ ρ G2 H2 σ2 ρ2 D f) (EWs Γ W P G H σ ρ),
        fun σ2 H2 z => ⟨m, Nat.lt_succ_self m, z⟩, ?_⟩
      have x4 := x.tr x1
      refine ⟨G1, ρ1, x1.sr, (post_bind.mp (show Out.Post ((mb.bind _) ρ1) _ _ from q1)).imp (fun f ρ4 q σ5 G5 H5 x5 k5 => ?_) fun c ρ' e => EWs.tr x4 k e⟩
      have xx := x4.tr x5
      have kk : Kept P σ σ5 := fun j hj => (k5 j hj).trans (k j hj)
      cases f with
      | next => exact ⟨G5, ρ4, xx, kk, q⟩
      | cont => exact ⟨G5, ρ4, xx, kk, q⟩
      | brk => exact q σ5 G5 H5 xx kk
      | ret r => exact fun u hu => (q σ5 G5 H5 xx kk) u (RvOk.tr x4 hu)
end
end DL

/-! DLd: comprehensions; defs and their calls. -/
namespace DL
open PySem PySem.Spec L2

/-! ### comprehensions -/
abbrev WF : WX := fun _ _ _ _ => False
def wipeR (ρ : Rho) : List Nat → Rho
  | [] => ρ
  | v :: vs => (wipeR ρ vs).set v .un
def restR (ρ0 ρ : Rho) : List Nat → Rho
  | [] => ρ
  | v :: vs => (restR ρ0 ρ vs).set v (ρ0[v]?.getD .un)
def isOwn : Option Slot → Bool
  | some (.own _) => true
  | _ => false
theorem wipeR_length (ρ : Rho) : ∀ vs, (wipeR ρ vs).length = ρ.length
  | [] => rfl
  | v :: vs => by unfold wipeR; rw [List.length_set, wipeR_length ρ vs]
theorem restR_length (ρ0 ρ : Rho) : ∀ vs, (restR ρ0 ρ vs).length = ρ.length
  | [] => rfl
  | v :: vs => by unfold restR; rw [List.length_set, restR_length ρ0 ρ vs]
theorem wipeR_at {ρ : Rho} {i : Nat} {s : Slot} : ∀ {vs : List Nat}, (wipeR ρ vs)[i]? = some s → s = .un ∨ (i ∉ vs ∧ ρ[i]? = some s)
  | [], h => .inr ⟨by simp, h⟩
  | v :: vs, h => by
    unfold wipeR at h
    by_cases hi : v = i
    · subst hi
      by_cases hv : v < (wipeR ρ vs).length
      · rw [List.getElem?_set_self hv] at h; cases h; exact .inl rfl
      · rw [List.getElem?_eq_none (by simpa using hv)] at h; cases h
    · rw [List.getElem?_set_ne hi] at h
      rcases wipeR_at h with z | ⟨z1, z2⟩
      · exact .inl z
      · exact .inr ⟨by simp only [List.mem_cons, not_or]; exact ⟨fun e => hi e.symm, z1⟩, z2⟩
theorem restR_at {ρ0 ρ : Rho} {i : Nat} {s : Slot} : ∀ {vs : List Nat}, (restR ρ0 ρ vs)[i]? = some s → (i ∈ vs ∧ s = ρ0[i]?.getD .un) ∨ (i ∉ vs ∧ ρ[i]? = some s)
  | [], h => .inr ⟨by simp, h⟩
  | v :: vs, h => by
    unfold restR at h
    by_cases hi : v = i
    · subst hi
      by_cases hv : v < (restR ρ0 ρ vs).length
      · rw [List.getElem?_set_self hv] at h; cases h; exact .inl ⟨List.mem_cons_self, rfl⟩
      · rw [List.getElem?_eq_none (by simpa using hv)] at h; cases h
    · rw [List.getElem?_set_ne hi] at h
      rcases restR_at h with ⟨z1, z2⟩ | ⟨z1, z2⟩
      · exact .inl ⟨List.mem_cons_of_mem _ z1, z2⟩
      · exact .inr ⟨by simp only [List.mem_cons, not_or]; exact ⟨fun e => hi e.symm, z1⟩, z2⟩
theorem wipe_at {σ : St} {i : Nat} : ∀ {vs : List Nat}, i ∉ vs → (wipe σ vs)[i]? = σ[i]?
  | [], _ => rfl
  | v :: vs, h => by
    unfold wipe
    simp only [List.mem_cons, not_or] at h
    rw [List.getElem?_set_ne (fun e => h.1 e.symm)]
    exact wipe_at h.2
theorem wipe_in {σ : St} {i : Nat} (hi : i < σ.length) : ∀ {vs : List Nat}, i ∈ vs → (wipe σ vs)[i]? = some none
  | [], h => by cases h
  | v :: vs, h => by
    unfold wipe
    by_cases e : v = i
    · subst e; rw [List.getElem?_set_self (by rw [wipe_length]; exact hi)]
    · rw [List.getElem?_set_ne e]
      rcases List.mem_cons.mp h with z | z
      · exact absurd z.symm e
      · exact wipe_in hi z
theorem wipe_eq {σ σ' : St} {vs : List Nat} (hl : σ'.length = σ.length) (h : ∀ i, i ∉ vs → σ'[i]? = σ[i]?) : wipe σ' vs = wipe σ vs := by
  apply List.ext_getElem?
  intro i
  by_cases hi : i ∈ vs
  · by_cases hlt : i < σ.length
    · rw [wipe_in hlt hi, wipe_in (by rw [hl]; exact hlt) hi]
    · rw [List.getElem?_eq_none (by rw [wipe_length]; omega), List.getElem?_eq_none (by rw [wipe_length]; omega)]
  · rw [wipe_at hi, wipe_at hi]; exact h i hi
section
variable {K : PySem.W.Frag} {G H G' H' : Hp} {σ σ' : St} {ρ ρ' : Rho} {vs : List Nat}
theorem OwnAt.wiped {j : Nat} {a : Addr} (x : OwnAt σ' (wipeR ρ vs) j a) : j ∉ vs ∧ ∃ c, ρ[j]? = some (.own c) ∧ σ'[j]? = some (some (.ref a)) := by
  obtain ⟨c, e1, e2⟩ := x
  rcases wipeR_at e1 with z | ⟨z1, z2⟩
  · cases z
  · exact ⟨z1, c, z2, e2⟩
/-- slots are forgotten -/
theorem SR.wiped (s : SR K G H σ ρ) (hl : σ'.length = σ.length) (h : ∀ i, i ∉ vs → σ'[i]? = σ[i]?) : SR K G H σ' (wipeR ρ vs) ∧ ∀ a, Ow σ' (wipeR ρ vs) a → Ow σ ρ a := by
  have back : ∀ j a, OwnAt σ' (wipeR ρ vs) j a → OwnAt σ ρ j a := fun j a x => by
    obtain ⟨z, c, e1, e2⟩ := x.wiped
    exact ⟨c, e1, by rw [← h j z]; exact e2⟩
  refine ⟨⟨s.sub, by rw [wipeR_length, hl]; exact s.len, fun i t e => ?_, fun i j a x y => s.sep i j a (back i a x) (back j a y)⟩, fun a ⟨j, x⟩ => ⟨j, back j a x⟩⟩
  rcases wipeR_at e with z | ⟨z1, z2⟩
  · subst z; trivial
  · rw [h i z1]; exact s.ok i t z2
/-- an object that is nobody's is changed -/
theorem Stp.updD (x : Stp K G H σ ρ G' H' σ' ρ') {p : Addr} {o : HO} (h : H p = none) (g : G' p = none) (n : ¬ Ow σ' ρ' p) : Stp K G H σ ρ G' (upd H' p o) σ' ρ' := by
  refine ⟨⟨fun a u e => ?_, x.sr.len, fun i t e => ?_, x.sr.sep⟩, ⟨x.fr.ext, fun a u e nl => ?_, x.fr.nog⟩, x.ow⟩
  · rw [upd_ne (ne_of_none e g)]; exact x.sr.sub a u e
  · have z := x.sr.ok i t e
    cases t with
    | un => trivial
    | fz d => exact z
    | own c =>
      obtain ⟨b, u, x1, x2, x3, x4⟩ := z
      refine ⟨b, u, x1, x2, ?_, x4⟩
      rw [upd_ne]
      · exact x3
      · intro z; subst z; exact n ⟨i, c, e, x1⟩
  · rw [upd_ne (ne_of_none e h)]; exact x.fr.keep a u e nl
end
def compL (vs : List Nat) (g : Tg) (t : M Bool) (e : M D) : List D → List D → Rho → Out (List D)
  | [], acc, ρ => .ok acc ρ
  | d :: ds, acc, ρ => match g.set d ρ with
    | none => .bad
    | some ρ1 => match t ρ1 with
      | .ok true ρ2 => match e ρ2 with
        | .ok y ρ3 => compL vs g t e ds (acc ++ [y]) (wipeR ρ3 vs)
        | _ => .bad
      | .ok false ρ2 => compL vs g t e ds acc (wipeR ρ2 vs)
      | _ => .bad
def oComp (vs : List Nat) (mi : M (List D)) (g : Tg) (t : M Bool) (e : M D) : M OC := mi.bind fun ds ρ =>
  if vs.any (fun v => isOwn ρ[v]?) then .bad else
  match compL vs g t e ds [] (wipeR ρ vs) with
  | .ok acc ρ' => .ok (.lst acc) (restR ρ ρ' vs)
  | .err _ _ => .bad
  | .bad => .bad
def tYesM : M Bool := M.ret true
section
variable {X : Cx} {Γ : Gm} {W : WX}
theorem PTs.imp {e : List Expr} {t t' : TT} (h : PTs X e t) (k : ∀ σ H Q, t' σ H Q → t σ H Q) : PTs X e t' := ⟨fun pins s σ H Q I q => h.run pins s σ H Q I (k _ _ _ q)⟩
theorem dts_nil : PTs X [] (tT Γ W tYesM) := PTs.imp pts_nil fun σ H Q ⟨G, ρ, s, h⟩ => h G H (Stp.rfl s)
theorem dts_one {c : Expr} {m : M Bool} (h : PT X c (tT Γ W m)) : PTs X [c] (tT Γ W m) := pts_one h
theorem lc_read {mi : M (List D)} {g : Tg} {mt : M Bool} {me : M D} {vs : List Nat} (hgv : ∀ i ∈ g.ix, i ∈ vs) {σ : St} {H : Hp} {Q : VK} (h : tO Γ W (oComp vs mi g mt me) σ H Q) :
    tLc (tI Γ W mi) (tG Γ g) (tT Γ WF mt) (tD Γ WF me) vs σ H Q := by
  obtain ⟨G, ρ, s, h⟩ := h
  refine ⟨G, ρ, s, (post_bind.mp h).imp (fun ds ρ1 h1 J G1 H1 x1 ok p np => ?_) fun c ρ' e => e⟩
  split at h1
  · exact h1.elim
  rename_i nov
  have gnp : G1 p = none := x1.sr.sub.none np
  obtain ⟨s0, ow0⟩ := x1.sr.wiped (σ' := wipe σ vs) (vs := vs) (wipe_length σ vs) (fun i hi => wipe_at hi)
  have np0 : ¬ Ow (wipe σ vs) (wipeR ρ1 vs) p := fun z => by
    obtain ⟨i, c, e1, e2⟩ := ow0 p z
    obtain ⟨a, u, f1, f2, f3, f4⟩ := x1.sr.own e1
    rw [e2] at f1; cases f1
    rw [np] at f3; cases f3
  generalize hC : compL vs g mt me ds [] (wipeR ρ1 vs) = C0 at h1
  -- the invariant
  refine ⟨fun i m H' => m = ds.length - i ∧ i ≤ ds.length ∧ ∃ G' ρ' accV acc, Sub G1 G' ∧ Stp Γ.K G1 H1 (wipe σ vs) (wipeR ρ1 vs) G' H' (wipe σ vs) ρ' ∧ H' p = some (.lst accV) ∧ G' p = none ∧ ¬ Ow (wipe σ vs) ρ' p ∧ RpAll Γ.K G' accV acc ∧ acc.length ≤ i ∧
    C0 = compL vs g mt me (ds.drop i) acc ρ',
    ⟨_, rfl, Nat.zero_le _, G1, wipeR ρ1 vs, [], [], Sub.rfl, (Stp.rfl s0).updD np gnp np0, upd_same, gnp, np0, .nil, Nat.le_refl _, hC.symm⟩, ?_⟩
  rintro i m H' ⟨rfl, hi, G', ρ', accV, acc, sg, x, hp, gp, nop, ra, al, ce⟩
  by_cases hlt : i < ds.length
  · right
    rw [List.drop_eq_getElem_cons hlt] at ce
    obtain ⟨go, yl⟩ := ok.at_ i G' H' ds[i] sg x.sr.sub (List.getElem?_eq_getElem hlt)
    refine ⟨go, fun H2 => ∃ G2 ρ2 accV acc, Sub G1 G2 ∧ Stp Γ.K G1 H1 (wipe σ vs) (wipeR ρ1 vs) G2 H2 (wipe σ vs) ρ2 ∧ H2 p = some (.lst accV) ∧ G2 p = none ∧ ¬ Ow (wipe σ vs) ρ2 p ∧ RpAll Γ.K G2 accV acc ∧ acc.length ≤ i + 1 ∧
      C0 = compL vs g mt me (ds.drop (i + 1)) acc ρ2,
      fun H2 ⟨G2, ρ2, aV, a, z1, z2, z3, z4, z5, z6, z7, z8⟩ => ⟨ds.length - (i + 1), by omega, rfl, hlt, G2, ρ2, aV, a, z1, z2, z3, z4, z5, z6, z7, z8⟩, fun v H2 yv => ?_⟩
    obtain ⟨G2, e2, r2⟩ := yl v H2 yv
    have y2 := x.sr.ext e2
    unfold compL at ce
    cases hg : g.set ds[i] ρ' with
    | none => simp only [hg] at ce; rw [ce] at h1; exact h1.elim
    | some ρ3 =>
      simp only [hg] at ce
      refine ⟨G2, ρ', ds[i], ρ3, y2.sr, r2, hg, fun σ3 x3 k3 => ⟨?_, ?_⟩⟩
      · refine (wipe_eq (σ := wipe σ vs) (σ' := σ3) ?_ fun j hj => k3 j fun z => hj (hgv j z)).trans (wipe_eq (wipe_length σ vs) fun j hj => wipe_at hj)
        have h1 := x3.sr.len
        have h2 := y2.sr.len
        have h3 := x.sr.len
        have hset : ρ3.length = ρ'.length := by
          have := k3
          have l1 : σ3.length = ρ3.length := x3.sr.len
          have l2 : (wipe σ vs).length = ρ'.length := x.sr.len
          exact set_length hg
        omega
      have kq : ∀ j, j ∉ vs → σ3[j]? = (wipe σ vs)[j]? := fun j hj => k3 j fun z => hj (hgv j z)
      have l3 : (wipe σ vs).length = σ3.length := by rw [x3.sr.len, set_length hg]; exact x.sr.len
      -- p stays apart
      have stay : ∀ {G4 H4 : Hp} {ρ4 : Rho}, Stp Γ.K G2 H2 σ3 ρ3 G4 H4 σ3 ρ4 → H4 p = some (.lst accV) ∧ G4 p = none ∧ ¬ Ow σ3 ρ4 p := fun {G4 H4 ρ4} y => by
        have h2 : H2 p = some (.lst accV) := e2.h _ _ hp
        have g2 : G2 p = none := e2.n _ _ hp gp
        have n3 : ¬ Ow σ3 ρ3 p := fun z => by
          rcases x3.ow p z with q | q
          · exact nop q
          · rw [h2] at q; cases q
        exact ⟨y.fr.keep _ _ h2 n3, y.fr.nog _ _ h2 g2 n3, fun z => by
          rcases y.ow p z with q | q
          · exact n3 q
          · rw [h2] at q; cases q⟩
      -- a turn's end
      have fin : ∀ {G4 H4 : Hp} {ρ4 : Rho} {aV : List V} {a : List D}, Stp Γ.K G2 H2 σ3 ρ3 G4 H4 σ3 ρ4 → RpAll Γ.K G4 aV a → a.length ≤ i + 1 → C0 = compL vs g mt me (ds.drop (i + 1)) a (wipeR ρ4 vs) →
          ∀ H5, H5 = upd H4 p (.lst aV) ∨ (H5 = H4 ∧ aV = accV) → ∃ G2 ρ2 accV acc, Sub G1 G2 ∧ Stp Γ.K G1 H1 (wipe σ vs) (wipeR ρ1 vs) G2 H5 (wipe σ vs) ρ2 ∧ H5 p = some (.lst accV) ∧ G2 p = none ∧ ¬ Ow (wipe σ vs) ρ2 p ∧ RpAll Γ.K G2 accV acc ∧ acc.length ≤ i + 1 ∧
            C0 = compL vs g mt me (ds.drop (i + 1)) acc ρ2 := fun {G4 H4 ρ4 aV a} y ra' al' ce' H5 hH => by
        obtain ⟨p1, p2, p3⟩ := stay y
        have xx := ((x.tr y2).tr x3).tr y
        obtain ⟨s5, ow5⟩ := xx.sr.wiped (σ' := wipe σ vs) (vs := vs) l3 (fun j hj => (kq j hj).symm)
        have st5 : Stp Γ.K G1 H1 (wipe σ vs) (wipeR ρ1 vs) G4 H4 (wipe σ vs) (wipeR ρ4 vs) := ⟨s5, xx.fr, fun b z => xx.ow b (ow5 b z)⟩
        have n5 : ¬ Ow (wipe σ vs) (wipeR ρ4 vs) p := fun z => p3 (ow5 p z)
        rcases hH with rfl | ⟨rfl, rfl⟩
        · exact ⟨G4, _, aV, a, (sg.tr e2.g).tr y.fr.ext, st5.updD np p2 n5, upd_same, p2, n5, ra', al', ce'⟩
        · exact ⟨G4, _, _, a, (sg.tr e2.g).tr y.fr.ext, st5, p1, p2, n5, ra', al', ce'⟩
      refine ⟨G2, ρ3, x3.sr, ?_⟩
      cases ht : mt ρ3 with
      | bad => simp only [ht] at ce; rw [ce] at h1; exact h1.elim
      | err c ρ4 => simp only [ht] at ce; rw [ce] at h1; exact h1.elim
      | ok b ρ4 =>
        intro G4 H4 y4
        cases b with
        | false =>
          simp only [ht] at ce
          rw [if_neg Bool.false_ne_true]
          exact fin y4 (ra.mono (e2.g.tr y4.fr.ext)) (by omega) ce H4 (.inr ⟨rfl, rfl⟩)
        | true =>
          simp only [ht] at ce
          rw [if_pos rfl]
          refine ⟨G4, ρ4, y4.sr, ?_⟩
          cases he : me ρ4 with
          | bad => simp only [he] at ce; rw [ce] at h1; exact h1.elim
          | err c ρ5 => simp only [he] at ce; rw [ce] at h1; exact h1.elim
          | ok y ρ5 =>
            simp only [he] at ce
            intro u G5 H5 y5 r5
            obtain ⟨p1, p2, p3⟩ := stay (y4.tr y5)
            refine ⟨accV, p1, ?_, fin (y4.tr y5) ((ra.mono ((e2.g.tr y4.fr.ext).tr y5.fr.ext)).append (.cons r5 .nil)) (by simp; omega) ce _ (.inl rfl)⟩
            have := ra.length
            have := ok.sz
            omega
  · left
    have e : i = ds.length := by omega
    subst e
    refine ⟨ok.fin G' H' sg x.sr.sub, ?_⟩
    rw [List.drop_length] at ce
    unfold compL at ce
    rw [ce] at h1
    -- back outside
    have back : ∀ j a, OwnAt σ (restR ρ1 ρ' vs) j a → j ∉ vs ∧ OwnAt (wipe σ vs) ρ' j a := fun j a ⟨c, e1, e2⟩ => by
      rcases restR_at e1 with ⟨z1, z2⟩ | ⟨z1, z2⟩
      · exfalso
        cases q : ρ1[j]? with
        | none => rw [q] at z2; cases z2
        | some t =>
          rw [q] at z2
          have z3 : Slot.own c = t := z2
          subst z3
          exact nov (List.any_eq_true.mpr ⟨j, z1, by rw [q]; rfl⟩)
      · exact ⟨z1, c, z2, by rw [wipe_at z1]; exact e2⟩
    have st : Stp Γ.K G1 H1 σ ρ1 G' H' σ (restR ρ1 ρ' vs) := by
      refine ⟨⟨x.sr.sub, ?_, fun j t e => ?_, fun j k a y z => x.sr.sep j k a (back j a y).2 (back k a z).2⟩, ⟨x.fr.ext, fun a o e n => x.fr.keep a o e fun z => n (ow0 a z), fun a o e g n => x.fr.nog a o e g fun z => n (ow0 a z)⟩, fun a ⟨j, y⟩ => ?_⟩
      · rw [restR_length, ← x.sr.len, wipe_length]
      · rcases restR_at e with ⟨z1, z2⟩ | ⟨z1, z2⟩
        · cases q : ρ1[j]? with
          | none => rw [q] at z2; subst z2; trivial
          | some t' =>
            rw [q] at z2
            have z3 : t = t' := z2
            subst z3
            have ok1 := x1.sr.ok j t q
            cases t with
            | un => trivial
            | fz d => obtain ⟨v, w1, w2⟩ := ok1; exact ⟨v, w1, w2.mono sg⟩
            | own c => exact (nov (List.any_eq_true.mpr ⟨j, z1, by rw [q]; rfl⟩)).elim
        · have := x.sr.ok j t z2
          rw [wipe_at z1] at this
          exact this
      · rcases x.ow a ⟨j, (back j a y).2⟩ with z | z
        · exact .inl (ow0 a z)
        · exact .inr z
    refine h1 _ G' H' (x1.tr st) ⟨p, _, rfl, gp, hp, .lst ra, fun ⟨j, y⟩ => nop ⟨j, (back j p y).2⟩, ?_⟩
    exact x1.was (.inr np)
where
  set_length {g : Tg} {d : D} {ρ ρ' : Rho} (h : g.set d ρ = some ρ') : ρ'.length = ρ.length := by
    revert h
    exact (setLen g d ρ ρ')
  setLen : ∀ (g : Tg) (d : D) (ρ ρ' : Rho), g.set d ρ = some ρ' → ρ'.length = ρ.length
    | .nm i, d, ρ, ρ', h => by
      unfold Tg.set at h
      split at h
      · cases h; rw [List.length_set]
      · cases h
    | .tp ts, d, ρ, ρ', h => by
      unfold Tg.set at h
      split at h
      · split at h
        · exact setLens ts _ ρ ρ' h
        · cases h
      · cases h
  setLens : ∀ (gs : List Tg) (ds : List D) (ρ ρ' : Rho), Tg.setAll gs ds ρ = some ρ' → ρ'.length = ρ.length
    | [], [], ρ, ρ', h => by cases h; rfl
    | t :: ts, d :: ds, ρ, ρ', h => by
      unfold Tg.setAll at h
      cases q : t.set d ρ with
      | none => rw [q] at h; cases h
      | some ρ1 =>
        rw [q] at h
        exact (setLens ts ds ρ1 ρ' h).trans (setLen t d ρ ρ1 q)
    | [], _ :: _, ρ, ρ', h => by cases h
    | _ :: _, [], ρ, ρ', h => by cases h
end
end DL

/-! DLe: comprehensions as rules; defs and their calls. -/
namespace DL
open PySem PySem.Spec L2
open PyProof.Rows (envOfC)

section
variable {X : Cx} {Γ : Gm} {W : WX} {P : List Nat}
theorem do_comp {elt tg iter : Expr} {ifs : List Expr} {scope : Scope} {own : List (Str × Nat)} {pos : Pos} {mi : M (List D)} {g : Tg} {mt : M Bool} {me : M D} (hc : X.calm = true) (hN : X.N.Nodup) (hi : PI X tg iter (tI Γ W mi)) (ok : blkC X.N X.env.scope scope own = true)
    (hg : ∀ (s : Shared) (H : Hp) (C : Addr) (cl : List (Str × Addr)) (fp : List Addr), PG (X.blk s H scope (compEnvC scope cl C X.env) fp) tg (tG Γ g)) (ht : ∀ (s : Shared) (H : Hp) (C : Addr) (cl : List (Str × Addr)) (fp : List Addr), PTs (X.blk s H scope (compEnvC scope cl C X.env) fp) ifs (tT Γ WF mt))
    (he : ∀ (s : Shared) (H : Hp) (C : Addr) (cl : List (Str × Addr)) (fp : List Addr), PE (X.blk s H scope (compEnvC scope cl C X.env) fp) elt (tD Γ WF me)) (hgv : (g.ix.all fun i => (own.map (·.2)).contains i) = true) (hs : ∀ x, foldedSetIterable iter X.env x = pure x := by intro _; rfl) :
    PE X (.ListComp elt [⟨tg, iter, ifs, 0⟩] scope pos) (tO Γ W (oComp (own.map (·.2)) mi g mt me)) :=
  PE.imp (pe_lc hc hN hi (blkOk_by ok) hg ht he hs) fun σ H Q h => lc_read (fun i hi => by
    have := List.all_eq_true.mp hgv i hi
    simpa using this) h
theorem ds_setLcO {i : Nat} {y : Str} {py : Pos} {elt tg iter : Expr} {ifs : List Expr} {scope : Scope} {own : List (Str × Nat)} {pos spos : Pos} {mi : M (List D)} {g : Tg} {mt : M Bool} {me : M D} (hc : X.calm = true) (hN : X.N.Nodup) (hy : X.N[i]? = some y) (hyl : X.env.scope.names.lookup y = some .local)
    (hsw : swapsWith (.ListComp elt [⟨tg, iter, ifs, 0⟩] scope pos) (some (.Name y py)) spos.line X.env = pure true) (hi : PI X tg iter (tI Γ W mi)) (ok : blkC X.N X.env.scope scope own = true)
    (hg : ∀ (s : Shared) (H : Hp) (C : Addr) (cl : List (Str × Addr)) (fp : List Addr), PG (X.blk s H scope (compEnvC scope cl C X.env) fp) tg (tG Γ g)) (ht : ∀ (s : Shared) (H : Hp) (C : Addr) (cl : List (Str × Addr)) (fp : List Addr), PTs (X.blk s H scope (compEnvC scope cl C X.env) fp) ifs (tT Γ WF mt))
    (he : ∀ (s : Shared) (H : Hp) (C : Addr) (cl : List (Str × Addr)) (fp : List Addr), PE (X.blk s H scope (compEnvC scope cl C X.env) fp) elt (tD Γ WF me)) (hgv : (g.ix.all fun i => (own.map (·.2)).contains i) = true) (hp : i ∉ P) (hs : ∀ x, foldedSetIterable iter X.env x = pure x := by intro _; rfl) :
    PS X (.Assign [.Name y py] (.ListComp elt [⟨tg, iter, ifs, 0⟩] scope pos) spos) (tS Γ W P (sSetO i (oComp (own.map (·.2)) mi g mt me))) := by
  refine PS.imp (ps_setLc hc hN hy hyl hsw hi (blkOk_by ok) hg ht he hs) fun D σ H h => ?_
  refine lc_read (fun i hi => by
    have := List.all_eq_true.mp hgv i hi
    simpa using this) ?_
  obtain ⟨G, ρ, s, h⟩ := h
  refine ⟨G, ρ, s, (post_bind.mp h).imp (fun c ρ1 h1 v G1 H1 x1 r1 => ?_) fun c ρ' e => e.ew⟩
  obtain ⟨hl, q⟩ := set_post (σ := σ) (ρ' := ρ) h1
  obtain ⟨a, u, rfl, g, hu, oc, n, f⟩ := r1
  obtain ⟨sr, ow⟩ := x1.sr.setO hl g hu oc n
  refine q _ G1 H1 ⟨sr, x1.fr, fun b z => ?_⟩ (kept_set hp)
  rcases ow b z with z | z
  · subst z; exact f
  · exact x1.ow b z
theorem ds_setLc {i : Nat} {y : Str} {py : Pos} {elt tg iter : Expr} {ifs : List Expr} {scope : Scope} {own : List (Str × Nat)} {pos spos : Pos} {mi : M (List D)} {g : Tg} {mt : M Bool} {me : M D} (hc : X.calm = true) (hN : X.N.Nodup) (hy : X.N[i]? = some y) (hyl : X.env.scope.names.lookup y = some .local)
    (hsw : swapsWith (.ListComp elt [⟨tg, iter, ifs, 0⟩] scope pos) (some (.Name y py)) spos.line X.env = pure true) (hi : PI X tg iter (tI Γ W mi)) (ok : blkC X.N X.env.scope scope own = true)
    (hg : ∀ (s : Shared) (H : Hp) (C : Addr) (cl : List (Str × Addr)) (fp : List Addr), PG (X.blk s H scope (compEnvC scope cl C X.env) fp) tg (tG Γ g)) (ht : ∀ (s : Shared) (H : Hp) (C : Addr) (cl : List (Str × Addr)) (fp : List Addr), PTs (X.blk s H scope (compEnvC scope cl C X.env) fp) ifs (tT Γ WF mt))
    (he : ∀ (s : Shared) (H : Hp) (C : Addr) (cl : List (Str × Addr)) (fp : List Addr), PE (X.blk s H scope (compEnvC scope cl C X.env) fp) elt (tD Γ WF me)) (hgv : (g.ix.all fun i => (own.map (·.2)).contains i) = true) (hp : i ∉ P) (hs : ∀ x, foldedSetIterable iter X.env x = pure x := by intro _; rfl) :
    PS X (.Assign [.Name y py] (.ListComp elt [⟨tg, iter, ifs, 0⟩] scope pos) spos) (tS Γ W P (sSet i (ofO (oComp (own.map (·.2)) mi g mt me)))) := by
  refine PS.imp (ps_setLc hc hN hy hyl hsw hi (blkOk_by ok) hg ht he hs) fun D σ H h => ?_
  refine lc_read (fun i hi => by
    have := List.all_eq_true.mp hgv i hi
    simpa using this) ?_
  obtain ⟨G, ρ, s, h⟩ := h
  refine ⟨G, ρ, s, (post_bind.mp (post_bind.mp h)).imp (fun c ρ1 h1 v G1 H1 x1 r1 => ?_) fun c ρ' e => e.ew⟩
  obtain ⟨p, u, rfl, g, hp', oc, n, f⟩ := r1
  have st := x1.own_freeze g hp' n f
  have key : ∀ (d : PyData), Rp Γ.K (upd G1 p u) (.ref p) d → (if i < ρ1.length then Out.ok Flw.next (ρ1.set i (.fz d)) else .bad : Out Flw).Post (fun f ρ' => ∀ σ' G' H', Stp Γ.K G H σ ρ G' H' σ' ρ' → Kept P σ σ' → FlwOk Γ.K G H σ ρ G' H' σ' ρ' D f) (EWs Γ W P G H σ ρ) → gName i (.ref p) σ H1 D.nx := fun d r q => by
    obtain ⟨hl, q⟩ := set_post (σ := σ) (ρ' := ρ) q
    exact q _ _ H1 (st.tr (st.sr.setF hl r)) (kept_set hp)
  cases oc with
  | lst q => exact key (.list _) (.lst upd_same (q.mono (Sub.upd g))) h1
  | dK q =>
    cases q with
    | nil => exact key (.dict []) (.emp upd_same) h1
    | cons _ _ => exact h1.elim
  | dT q => exact h1.elim
end

/-! ### what a def promises -/
def PostF (Γ : Gm) (G H : Hp) (vs : List V) (ss : Rho) (Q : VK) (E : XK) (o : Out Slot) : Prop :=
  o.Post (fun r ss' => ∀ v G' H', Stp Γ.K G H (vs.map some) ss G' H' (vs.map some) ss' → RvOk Γ.K G H (vs.map some) ss G' H' (vs.map some) ss' v r → Q v H')
    (fun c ss' => ∀ cls dx G' H', Stp Γ.K G H (vs.map some) ss G' H' (vs.map some) ss' → ExcOk Γ G' c cls dx → E cls dx H')
def spF (Γ : Gm) (F : M Slot) : Sp := fun vs H Q E => ∃ G ss, SR Γ.K G H (vs.map some) ss ∧ PostF Γ G H vs ss Q E (F ss)
/-- as FnOk, with the guards known; an exception may leave -/
structure FnG (P : Program) (w : World) (K : PySem.W.Frag) (mg : Str → Option Value) (base : Heap) (k : Nat) (f : Addr) (fd : FuncData) (ps : List Str) (F : M Slot) : Prop where
  len : ∀ ss, (∃ r ss', F ss = .ok r ss') ∨ (∃ c ss', F ss = .err c ss') → ss.length = ps.length
  go : ∀ (A : Around) (outer : List Env) (s : Shared) (H : Hp) (args : Args) (us : List Value) (vs : List V) (Q : VK) (E : XK), Room k A → A.guards = some [] → Env0 P w K mg base A outer s H →
    BindsTo s fd args (ps.zip us) → Vals vs us → spF ⟨K, mg⟩ F vs H Q E → codeAny (model P w) A (.call (.ref f) args) (CR (L2.CX P w) outer P w H s Q E) s
theorem spF.len {Γ : Gm} {F : M Slot} {n : Nat} (hl : ∀ ss, (∃ r ss', F ss = .ok r ss') ∨ (∃ c ss', F ss = .err c ss') → ss.length = n) {vs : List V} {H : Hp} {Q : VK} {E : XK} (h : spF Γ F vs H Q E) : vs.length = n := by
  obtain ⟨G, ss, s, q⟩ := h
  have e := s.len
  rw [List.length_map] at e
  rw [e]
  apply hl
  cases q' : F ss with
  | ok r ss' => exact .inl ⟨r, ss', rfl⟩
  | err c ss' => exact .inr ⟨c, ss', rfl⟩
  | bad => rw [q'] at q; exact q.elim
theorem FnG.up {P : Program} {w : World} {K : PySem.W.Frag} {mg : Str → Option Value} {base : Heap} {j k : Nat} {f : Addr} {fd : FuncData} {ps : List Str} {F : M Slot} (h : FnG P w K mg base j f fd ps F) (le : j ≤ k) : FnG P w K mg base k f fd ps F :=
  ⟨h.len, fun A outer s H args us vs Q E hr => h.go A outer s H args us vs Q E (hr.mono le)⟩

/-! ### a body -/
/-- own parameters must still be own at the end -/
def backS : Rho → Rho → Option Rho
  | [], _ => some []
  | .own _ :: ss, .own c :: rs => (backS ss rs).map (.own c :: ·)
  | .own _ :: _, _ => none
  | .fz d :: ss, _ :: rs => (backS ss rs).map (.fz d :: ·)
  | _, _ => none
def fnM (n N : Nat) (b : M Flw) : M Slot := fun ss =>
  if ss.length = n then
    match b (ss ++ List.replicate (N - n) .un) with
    | .ok (.ret r) ρ => match backS ss ρ with
      | some ss' => .ok r ss'
      | none => .bad
    | .ok .next ρ => match backS ss ρ with
      | some ss' => .ok (.fz .none) ss'
      | none => .bad
    | .err c ρ => match backS ss ρ with
      | some ss' => .err c ss'
      | none => .bad
    | _ => .bad
  else .bad
theorem fnM_len {n N : Nat} {b : M Flw} {ss : Rho} (h : (∃ r ss', fnM n N b ss = .ok r ss') ∨ (∃ c ss', fnM n N b ss = .err c ss')) : ss.length = n := by
  unfold fnM at h
  split at h
  · assumption
  · rcases h with ⟨_, _, z⟩ | ⟨_, _, z⟩ <;> cases z
theorem backS_at : ∀ {ss rs ss' : Rho}, backS ss rs = some ss' → ss'.length = ss.length ∧ ∀ (i : Nat) (t : Slot), ss'[i]? = some t → (∃ d, t = Slot.fz d ∧ ss[i]? = some t) ∨ (∃ c c', t = Slot.own c ∧ ss[i]? = some (Slot.own c') ∧ rs[i]? = some t)
  | [], _, _, h => by cases h; exact ⟨rfl, fun i t e => by simp at e⟩
  | .own c0 :: ss, .own c :: rs, _, h => by
    unfold backS at h
    cases q : backS ss rs with
    | none => rw [q] at h; cases h
    | some r =>
      rw [q] at h
      cases h
      obtain ⟨l, a⟩ := backS_at q
      refine ⟨by simp [l], fun i t e => ?_⟩
      cases i with
      | zero => simp at e; subst e; exact .inr ⟨c, c0, rfl, rfl, rfl⟩
      | succ i => exact a i t (by simpa using e)
  | .own _ :: _, [], _, h => by cases h
  | .own _ :: _, .un :: _, _, h => by cases h
  | .own _ :: _, .fz _ :: _, _, h => by cases h
  | .fz d :: ss, s :: rs, _, h => by
    unfold backS at h
    cases q : backS ss rs with
    | none => rw [q] at h; cases h
    | some r =>
      rw [q] at h
      cases h
      obtain ⟨l, a⟩ := backS_at q
      refine ⟨by simp [l], fun i t e => ?_⟩
      cases i with
      | zero => simp at e; subst e; exact .inl ⟨d, rfl, rfl⟩
      | succ i => exact a i t (by simpa using e)
  | .fz _ :: _, [], _, h => by cases h
  | .un :: _, _, _, h => by cases h
theorem start_get {N : List Str} {vs : List V} {i : Nat} (hi : i < vs.length) : (start N vs)[i]? = (vs.map some)[i]? := by
  unfold L2.start; rw [List.getElem?_append_left (by simpa using hi)]
theorem sr_start {K : PySem.W.Frag} {G H : Hp} {N : List Str} {vs : List V} {ss : Rho} (s : SR K G H (vs.map some) ss) (hN : vs.length ≤ N.length) :
    Stp K G H (vs.map some) ss G H (start N vs) (ss ++ List.replicate (N.length - vs.length) .un) ∧ True := by
  have hl : vs.length = ss.length := by have := s.len; rwa [List.length_map] at this
  have un : ∀ j t, ss.length ≤ j → (ss ++ List.replicate (N.length - vs.length) Slot.un)[j]? = some t → t = .un := fun j t h e => by
    rw [List.getElem?_append_right h, List.getElem?_replicate] at e
    split at e <;> cases e
    rfl
  have back : ∀ j a, OwnAt (start N vs) (ss ++ List.replicate (N.length - vs.length) .un) j a → OwnAt (vs.map some) ss j a := fun j a ⟨c, e1, e2⟩ => by
    by_cases h : j < ss.length
    · rw [List.getElem?_append_left h] at e1
      rw [start_get (by omega)] at e2
      exact ⟨c, e1, e2⟩
    · have := un j _ (by omega) e1
      cases this
  refine ⟨⟨⟨s.sub, ?_, fun j t e => ?_, fun i j a x y => s.sep i j a (back i a x) (back j a y)⟩, Fr.rfl, fun a ⟨j, x⟩ => .inl ⟨j, back j a x⟩⟩, trivial⟩
  · unfold L2.start; simp [hl]
  · by_cases h : j < ss.length
    · rw [List.getElem?_append_left h] at e
      rw [start_get (by omega)]
      exact s.ok j t e
    · have := un j t (by omega) e
      subst this
      trivial
/-- back at the caller's arguments -/
theorem stp_back {K : PySem.W.Frag} {G H G' H' : Hp} {N : List Str} {vs : List V} {ss ss' ρ' : Rho} {σ' : St} (s : SR K G H (vs.map some) ss) (hN : vs.length ≤ N.length)
    (x : Stp K G H (start N vs) (ss ++ List.replicate (N.length - vs.length) .un) G' H' σ' ρ') (kp : ∀ (i : Nat) (c : OC), ss[i]? = some (Slot.own c) → σ'[i]? = (start N vs)[i]?) (hb : backS ss ρ' = some ss') :
    Stp K G H (vs.map some) ss G' H' (vs.map some) ss' ∧ ∀ a, Ow (vs.map some) ss' a → Ow σ' ρ' a := by
  have x0 := (sr_start s hN).1
  have y := x0.tr x
  obtain ⟨bl, ba⟩ := backS_at hb
  have hl : vs.length = ss.length := by have := s.len; rwa [List.length_map] at this
  have fwd : ∀ i a, OwnAt (vs.map some) ss' i a → OwnAt σ' ρ' i a ∧ OwnAt (vs.map some) ss i a := fun i a ⟨c, e1, e2⟩ => by
    rcases ba i _ e1 with ⟨d, z, _⟩ | ⟨c1, c2, z1, z2, z3⟩
    · cases z
    · have hi : i < vs.length := by
        rw [hl]
        cases Nat.lt_or_ge i ss.length with
        | inl z => exact z
        | inr z => rw [List.getElem?_eq_none z] at z2; cases z2
      exact ⟨⟨c, z3, by rw [kp i _ z2, start_get hi]; exact e2⟩, c2, z2, e2⟩
  refine ⟨⟨⟨y.sr.sub, by rw [bl]; exact s.len, fun i t e => ?_, fun i j a p q => s.sep i j a (fwd i a p).2 (fwd j a q).2⟩, y.fr, fun a ⟨i, p⟩ => .inl ⟨i, (fwd i a p).2⟩⟩, fun a ⟨i, p⟩ => ⟨i, (fwd i a p).1⟩⟩
  rcases ba i t e with ⟨d, z1, z2⟩ | ⟨c1, c2, z1, z2, z3⟩
  · subst z1
    obtain ⟨v, w1, w2⟩ := s.ok i _ z2
    exact ⟨v, w1, w2.mono y.fr.ext⟩
  · subst z1
    have hi : i < vs.length := by
      rw [hl]
      cases Nat.lt_or_ge i ss.length with
      | inl z => exact z
      | inr z => rw [List.getElem?_eq_none z] at z2; cases z2
    have := y.sr.ok i _ z3
    rw [kp i _ z2, start_get hi] at this
    exact this
theorem guards_deeper (A : Around) (env : Env) : (A.deeper env).guards = A.guards := rfl
/-- the own slots of the arguments stand at these places -/
def ownIn (P : List Nat) (ss : Rho) : Bool := (List.range ss.length).all fun i => !isOwn ss[i]? || P.contains i
/-- THE RULE for a def: its body's reading -/
theorem fn_body {P : Program} {w : World} {K : PySem.W.Frag} {mg : Str → Option Value} {base : Heap} {k : Nat} {f : Addr} {x qual : Str} {st : Stmt} {fd : FuncData} {N ps : List Str} {Pr : List Nat} {b : M Flw} {n : Nat} (F : Fun K x qual st f fd) (S : FnScope N ps (defScope st)) (hn : n = ps.length)
    (hbody : ∀ (cdv : Value) (A : Around) (outer : List Env) (s : Shared) (H : Hp) (E : XK), Room k (A.deeper (envOfC qual (defScope st) s.heap.objs.size f cdv)) → (A.deeper (envOfC qual (defScope st) s.heap.objs.size f cdv)).guards = some [] →
      PSs (cxOf (L2.CX P w) P w K mg base N qual (defScope st) f cdv A outer s H E) (defBody st) (tS ⟨K, mg⟩ (fun cls dx _ H' => E cls dx H') Pr b)) :
    FnG P w K mg base (k + 1) f fd ps (fun ss => if ownIn Pr ss then fnM n N.length b ss else .bad) := by
  subst hn
  have hlen : ∀ ss, (∃ r ss', (fun ss => if ownIn Pr ss = true then fnM ps.length N.length b ss else Out.bad) ss = .ok r ss') ∨ (∃ c ss', (fun ss => if ownIn Pr ss = true then fnM ps.length N.length b ss else Out.bad) ss = .err c ss') → ss.length = ps.length := fun ss h => by
    by_cases q : ownIn Pr ss = true
    · simp only [q, if_true] at h
      exact fnM_len h
    · simp only [q, Bool.false_eq_true, if_false] at h
      rcases h with ⟨_, _, z⟩ | ⟨_, _, z⟩ <;> cases z
  refine ⟨hlen, fun A outer s H args us vs Q E hr hgd e0 hb rv hsp => ?_⟩
  obtain ⟨oc, od, kV, doc, pm, an, cdv, ct, osl, rfl, lk, hcd⟩ := F.ex
  have hl : vs.length = ps.length := spF.len hlen hsp
  have KX : K.In s.heap := e0.mod.kin.keeps fun b o e => (e0.bs b o e).1
  have lim : s.heap.NoLimit := e0.mod.nolimit.keeps fun b o e => (e0.bs b o e).1
  have hkind : ∀ y ∈ ps.zip us, (defScope st).names.lookup y.1 = some .local ∨ ((defScope st).names.lookup y.1 = some .cell ∧ ((cellsFrom (s.heap.objs.size + 1) (defScope st).names []).lookup y.1).isSome = true) := fun y hy =>
    (S.par y.1 (List.of_mem_zip hy).1).imp id fun q => ⟨q, PySem.W.cellsFrom_some _ _ _ (.inl q)⟩
  refine codeAny_call_function hr.depth (KX _ _ lk) rfl S.co S.gen rfl (PySem.W.codeRec_of KX hcd) (hb _ _ _ _ ?_)
  refine wpAny_newFunctionEnv_cells S.kind hkind fun env he s1 xx => ?_
  subst he
  refine ⟨lim.keeps xx.toInCall.keep, codeAny_func ?_⟩
  have ht := hbody cdv A outer s H E (hr.deeper _) (by rw [guards_deeper]; exact hgd)
  have I : Inv (cxOf (L2.CX P w) P w K mg base N qual (defScope st) f cdv A outer s H E) [] (start N vs) H s1 := inv_start S hr.hd e0 hl rv xx
  obtain ⟨G, ss, sr, post⟩ := hsp
  have hpl : ps.length ≤ N.length := by have := congrArg List.length S.pre; rw [List.length_take] at this; omega
  have hN : vs.length ≤ N.length := by omega
  have hss : vs.length = ss.length := by have := sr.len; rwa [List.length_map] at this
  unfold PostF at post
  by_cases hO : ownIn Pr ss = true
  · simp only [hO, if_true] at post
    unfold fnM at post
    rw [if_pos (by omega)] at post
    have kp : ∀ {σ' : St}, Kept Pr (start N vs) σ' → ∀ (i : Nat) (c : OC), ss[i]? = some (Slot.own c) → σ'[i]? = (start N vs)[i]? := fun {σ'} kk i c e => by
      have hi : i < ss.length := by
        cases Nat.lt_or_ge i ss.length with
        | inl z => exact z
        | inr z => rw [List.getElem?_eq_none z] at e; cases e
      have := List.all_eq_true.mp hO i (List.mem_range.mpr hi)
      rw [e] at this
      exact kk i (by simpa [isOwn] using this)
    have x0 := (sr_start (N := N) sr hN).1
    rw [hl] at x0
    have main : tS ⟨K, mg⟩ (fun cls dx _ H' => E cls dx H') Pr b { nx := fun _ H' => Q .non H', rt := Q } (start N vs) H := by
      refine ⟨G, _, x0.sr, ?_⟩
      cases hbo : b (ss ++ List.replicate (N.length - ps.length) Slot.un) with
      | bad => rw [hbo] at post; exact post.elim
      | err c ρ' =>
        simp only [hbo] at post
        cases hk : backS ss ρ' with
        | none => simp only [hk] at post; exact post.elim
        | some ss' =>
          simp only [hk] at post
          intro cls dx σ' G' H' x kk ex
          have sb := stp_back sr hN (by rw [hl]; exact x) (kp kk) hk
          exact post cls dx G' H' sb.1 ex
      | ok fl ρ' =>
        simp only [hbo] at post
        cases fl with
        | brk => exact post.elim
        | cont => exact post.elim
        | next =>
          cases hk : backS ss ρ' with
          | none => simp only [hk] at post; exact post.elim
          | some ss' =>
            simp only [hk] at post
            intro σ' G' H' x kk
            have sb := stp_back sr hN (by rw [hl]; exact x) (kp kk) hk
            exact post .non G' H' sb.1 .non
        | ret r =>
          cases hk : backS ss ρ' with
          | none => simp only [hk] at post; exact post.elim
          | some ss' =>
            simp only [hk] at post
            intro σ' G' H' x kk v hv
            have sb := stp_back sr hN (by rw [hl]; exact x) (kp kk) hk
            refine post v G' H' sb.1 ?_
            cases r with
            | un => exact hv
            | fz d => exact hv
            | own c =>
              obtain ⟨a, u, e1, e2, e3, e4, e5, e6⟩ := hv
              exact ⟨a, u, e1, e2, e3, e4, fun z => e5 (sb.2 a z), x0.was e6⟩
    refine wpAny_mono (ht.run [] s1 (start N vs) H _ I main) (fun fl s' hs => ?_) fun e s' hs => hs
    cases fl with
    | ret u =>
      obtain ⟨v, σ', H', J, rv', q⟩ := hs
      exact ⟨v, H', J.os, J.bare, J.base, J.hok, rv', q⟩
    | next =>
      obtain ⟨σ', H', J, q⟩ := hs
      exact ⟨V.non, H', J.os, J.bare, J.base, J.hok, rfl, q⟩
    | brk => obtain ⟨_, _, _, q⟩ := hs; exact q.elim
    | cont => obtain ⟨_, _, _, q⟩ := hs; exact q.elim
  · simp only [hO, Bool.false_eq_true, if_false] at post
    exact post.elim
end DL

/-! DLf: calls of defs. -/
namespace DL
open PySem PySem.Spec L2
open PyProof.Rows (envOfC)

def argSlot (ρ : Rho) : Arg → Option Slot
  | .fz d => some (.fz d)
  | .rf i => match ρ[i]? with
    | some .un => none
    | o => o
def argSlots (ρ : Rho) : List Arg → Option Rho
  | [] => some []
  | a :: as => match argSlot ρ a with
    | some s => (argSlots ρ as).map (s :: ·)
    | none => none
def backR : List Arg → Rho → Rho → Option Rho
  | [], _, ρ => some ρ
  | .fz _ :: as, _ :: ss, ρ => backR as ss ρ
  | .rf i :: as, .own c :: ss, ρ => if isOwn ρ[i]? then backR as ss (ρ.set i (.own c)) else none
  | .rf i :: as, .fz _ :: ss, ρ => if isOwn ρ[i]? then none else backR as ss ρ
  | _, _, _ => none
def ndA : List Arg → Bool
  | [] => true
  | .fz _ :: as => ndA as
  | .rf i :: as => as.all (fun a => match a with
    | .rf j => i != j
    | _ => true) && ndA as
/-- a call of a def -/
def callF (F : M Slot) (as : List Arg) : M Slot := fun ρ =>
  if ndA as then
    match argSlots ρ as with
    | none => .bad
    | some ss => match F ss with
      | .ok r ss' => match backR as ss' ρ with
        | some ρ' => .ok r ρ'
        | none => .bad
      | .err c ss' => match backR as ss' ρ with
        | some ρ' => .err c ρ'
        | none => .bad
      | .bad => .bad
  else .bad
def eCallF (F : M Slot) (m : M (List Arg)) : M Slot := m.bind (callF F)
theorem ndA_at : ∀ {as : List Arg}, ndA as = true → ∀ (k l i : Nat), as[k]? = some (Arg.rf i) → as[l]? = some (Arg.rf i) → k = l
  | [], _, k, l, i, e, _ => by simp at e
  | .fz _ :: as, h, k, l, i, e1, e2 => by
    cases k with
    | zero => simp at e1
    | succ k =>
      cases l with
      | zero => simp at e2
      | succ l => exact congrArg Nat.succ (ndA_at (as := as) h k l i (by simpa using e1) (by simpa using e2))
  | .rf j :: as, h, k, l, i, e1, e2 => by
    have h' := (Bool.and_eq_true _ _ ▸ h : _ = true ∧ _ = true)
    have no : ∀ m : Nat, as[m]? = some (Arg.rf j) → False := fun m e => by
      have := List.all_eq_true.mp h'.1 _ (List.mem_of_getElem? e)
      simp at this
    cases k with
    | zero =>
      cases l with
      | zero => rfl
      | succ l =>
        simp at e1; subst e1
        exact (no l (by simpa using e2)).elim
    | succ k =>
      cases l with
      | zero =>
        simp at e2; subst e2
        exact (no k (by simpa using e1)).elim
      | succ l => exact congrArg Nat.succ (ndA_at (as := as) h'.2 k l i (by simpa using e1) (by simpa using e2))
theorem argSlots_at {ρ : Rho} : ∀ {as : List Arg} {ss : Rho}, argSlots ρ as = some ss → ss.length = as.length ∧ ∀ (k : Nat) (t : Slot), ss[k]? = some t → ∃ a, as[k]? = some a ∧ argSlot ρ a = some t
  | [], _, h => by cases h; exact ⟨rfl, fun k t e => by simp at e⟩
  | a :: as, ss, h => by
    unfold argSlots at h
    cases q : argSlot ρ a with
    | none => rw [q] at h; cases h
    | some s =>
      rw [q] at h
      cases q2 : argSlots ρ as with
      | none => simp only [q2] at h; cases h
      | some r =>
        simp only [q2] at h
        cases h
        obtain ⟨l, f⟩ := argSlots_at q2
        refine ⟨by simp [l], fun k t e => ?_⟩
        cases k with
        | zero => simp at e; subst e; exact ⟨a, rfl, q⟩
        | succ k => exact f k t (by simpa using e)
theorem backR_at : ∀ {as : List Arg} {ss ρ ρ' : Rho}, backR as ss ρ = some ρ' → ρ'.length = ρ.length ∧ ∀ (i : Nat) (t : Slot), ρ'[i]? = some t →
    (ρ[i]? = some t ∧ ∀ k : Nat, as[k]? = some (Arg.rf i) → isOwn ρ[i]? = false) ∨ (∃ (k : Nat) (c c' : OC), as[k]? = some (Arg.rf i) ∧ ss[k]? = some (Slot.own c) ∧ t = Slot.own c ∧ ρ[i]? = some (Slot.own c'))
  | [], _, _, _, h => by cases h; exact ⟨rfl, fun i t e => .inl ⟨e, fun k z => by simp at z⟩⟩
  | .fz _ :: as, s :: ss, ρ, ρ', h => by
    obtain ⟨l, f⟩ := backR_at (as := as) (ss := ss) h
    refine ⟨l, fun i t e => ?_⟩
    rcases f i t e with ⟨z1, z2⟩ | ⟨k, c, c', z1, z2, z3, z4⟩
    · refine .inl ⟨z1, fun k q => ?_⟩
      cases k with
      | zero => simp at q
      | succ k => exact z2 k (by simpa using q)
    · exact .inr ⟨k + 1, c, c', by simpa using z1, by simpa using z2, z3, z4⟩
  | .rf j :: as, .own c :: ss, ρ, ρ', h => by
    unfold backR at h
    split at h
    · rename_i ho
      obtain ⟨l, f⟩ := backR_at (as := as) (ss := ss) h
      rw [List.length_set] at l
      have hj : ∃ c0, ρ[j]? = some (Slot.own c0) := by
        cases q : ρ[j]? with
        | none => rw [q] at ho; cases ho
        | some t =>
          rw [q] at ho
          cases t with
          | own c0 => exact ⟨c0, rfl⟩
          | un => cases ho
          | fz _ => cases ho
      obtain ⟨c0, hj⟩ := hj
      have hlt : j < ρ.length := by
        cases Nat.lt_or_ge j ρ.length with
        | inl z => exact z
        | inr z => rw [List.getElem?_eq_none z] at hj; cases hj
      refine ⟨l, fun i t e => ?_⟩
      by_cases hij : j = i
      · subst hij
        rcases f j t e with ⟨z1, z2⟩ | ⟨k, c1, c', z1, z2, z3, z4⟩
        · rw [List.getElem?_set_self hlt] at z1
          cases z1
          exact .inr ⟨0, c, c0, rfl, rfl, rfl, hj⟩
        · exact .inr ⟨k + 1, c1, c0, by simpa using z1, by simpa using z2, z3, hj⟩
      · rcases f i t e with ⟨z1, z2⟩ | ⟨k, c1, c', z1, z2, z3, z4⟩
        · rw [List.getElem?_set_ne hij] at z1 z2
          refine .inl ⟨z1, fun k q => ?_⟩
          cases k with
          | zero => simp at q; exact absurd q hij
          | succ k => exact z2 k (by simpa using q)
        · rw [List.getElem?_set_ne hij] at z4
          exact .inr ⟨k + 1, c1, c', by simpa using z1, by simpa using z2, z3, z4⟩
    · cases h
  | .rf j :: as, .fz _ :: ss, ρ, ρ', h => by
    unfold backR at h
    split at h
    · cases h
    · rename_i ho
      obtain ⟨l, f⟩ := backR_at (as := as) (ss := ss) h
      refine ⟨l, fun i t e => ?_⟩
      rcases f i t e with ⟨z1, z2⟩ | ⟨k, c, c', z1, z2, z3, z4⟩
      · refine .inl ⟨z1, fun k q => ?_⟩
        cases k with
        | zero => simp at q; subst q; simpa using ho
        | succ k => exact z2 k (by simpa using q)
      · exact .inr ⟨k + 1, c, c', by simpa using z1, by simpa using z2, z3, z4⟩
  | .fz _ :: _, [], _, _, h => by cases h
  | .rf _ :: _, [], _, _, h => by cases h
  | .rf _ :: _, .un :: _, _, _, h => by cases h
theorem argsOk_at {K : PySem.W.Frag} {G : Hp} {σ : St} : ∀ {vs : List V} {as : List Arg}, ArgsOk K G σ vs as → vs.length = as.length ∧ ∀ (k : Nat) (a : Arg), as[k]? = some a → ∃ v, vs[k]? = some v ∧ ArgOk K G σ v a
  | _, _, .nil => ⟨rfl, fun k a e => by simp at e⟩
  | _, _, .cons r t => by
    obtain ⟨l, f⟩ := argsOk_at t
    refine ⟨by simp [l], fun k a e => ?_⟩
    cases k with
    | zero => simp at e; subst e; exact ⟨_, rfl, r⟩
    | succ k => exact f k a (by simpa using e)
section
variable {K : PySem.W.Frag} {G H G' H' : Hp} {σ : St} {ρ ρ' ss ss' : Rho} {vs : List V} {as : List Arg}
theorem call_in (s : SR K G H σ ρ) (ha : ArgsOk K G σ vs as) (hs : argSlots ρ as = some ss) (nd : ndA as = true) :
    SR K G H (vs.map some) ss ∧ ∀ (k : Nat) (a : Addr), OwnAt (vs.map some) ss k a → ∃ i : Nat, as[k]? = some (Arg.rf i) ∧ OwnAt σ ρ i a := by
  obtain ⟨l1, f1⟩ := argSlots_at hs
  obtain ⟨l2, f2⟩ := argsOk_at ha
  have back : ∀ (k : Nat) (a : Addr), OwnAt (vs.map some) ss k a → ∃ i : Nat, as[k]? = some (Arg.rf i) ∧ OwnAt σ ρ i a := fun k a ⟨c, e1, e2⟩ => by
    obtain ⟨b, g1, g2⟩ := f1 k _ e1
    cases b with
    | fz d => cases g2
    | rf i =>
      refine ⟨i, g1, c, ?_, ?_⟩
      · unfold argSlot at g2
        simp only at g2
        split at g2
        · cases g2
        · exact g2
      · obtain ⟨v, h1, h2⟩ := f2 k _ g1
        rw [List.getElem?_map, h1] at e2
        cases e2
        exact h2
  refine ⟨⟨s.sub, by rw [List.length_map, l2, l1], fun k t e => ?_, fun k l a x y => ?_⟩, back⟩
  · obtain ⟨b, g1, g2⟩ := f1 k _ e
    obtain ⟨v, h1, h2⟩ := f2 k _ g1
    rw [List.getElem?_map, h1]
    cases b with
    | fz d => cases g2; exact ⟨v, rfl, h2⟩
    | rf i =>
      unfold argSlot at g2
      simp only at g2
      split at g2
      · cases g2
      · have z := s.ok i t g2
        have h2' : σ[i]? = some (some v) := h2
        rw [h2'] at z
        exact z
  · obtain ⟨i, p1, p2⟩ := back k a x
    obtain ⟨j, q1, q2⟩ := back l a y
    have := s.sep i j a p2 q2
    subst this
    exact ndA_at nd k l i p1 q1
theorem call_out (s : SR K G H σ ρ) (ha : ArgsOk K G σ vs as) (hs : argSlots ρ as = some ss) (nd : ndA as = true) (x : Stp K G H (vs.map some) ss G' H' (vs.map some) ss') (hb : backR as ss' ρ = some ρ') :
    Stp K G H σ ρ G' H' σ ρ' ∧ ∀ a, Ow σ ρ' a → Ow σ ρ a := by
  obtain ⟨s0, back⟩ := call_in s ha hs nd
  obtain ⟨l2, f2⟩ := argsOk_at ha
  obtain ⟨bl, bf⟩ := backR_at hb
  have nl : ∀ a, ¬ Ow σ ρ a → ¬ Ow (vs.map some) ss a := fun a n ⟨k, z⟩ => by
    obtain ⟨i, _, q⟩ := back k a z
    exact n ⟨i, q⟩
  have own' : ∀ i a, OwnAt σ ρ' i a → OwnAt σ ρ i a := fun i a ⟨c, e1, e2⟩ => by
    rcases bf i _ e1 with ⟨z1, _⟩ | ⟨k, c1, c', z1, z2, z3, z4⟩
    · exact ⟨c, z1, e2⟩
    · exact ⟨c', z4, e2⟩
  refine ⟨⟨⟨x.sr.sub, by rw [bl]; exact s.len, fun i t e => ?_, fun i j a p q => s.sep i j a (own' i a p) (own' j a q)⟩, ⟨x.fr.ext, fun a o e n => x.fr.keep a o e (nl a n), fun a o e g n => x.fr.nog a o e g (nl a n)⟩, fun a ⟨i, p⟩ => .inl ⟨i, own' i a p⟩⟩, fun a ⟨i, p⟩ => ⟨i, own' i a p⟩⟩
  rcases bf i t e with ⟨z1, zn⟩ | ⟨k, c1, c', z1, z2, z3, z4⟩
  · have z := s.ok i t z1
    cases t with
    | un => trivial
    | fz d => obtain ⟨v, w1, w2⟩ := z; exact ⟨v, w1, w2.mono x.fr.ext⟩
    | own c =>
      obtain ⟨a, u, w1, w2, w3, w4⟩ := z
      have na : ¬ Ow (vs.map some) ss a := fun ⟨k, q⟩ => by
        obtain ⟨j, q1, q2⟩ := back k a q
        have e2 := s.sep i j a ⟨c, z1, w1⟩ q2
        subst e2
        have := zn k q1
        rw [z1] at this
        cases this
      exact ⟨a, u, w1, x.fr.nog a u w3 w2 na, x.fr.keep a u w3 na, w4.mono x.fr.ext⟩
  · subst z3
    obtain ⟨v, h1, h2⟩ := f2 k _ z1
    have z := x.sr.ok k _ z2
    rw [List.getElem?_map, h1] at z
    have h2' : σ[i]? = some (some v) := h2
    rw [h2']
    exact z
end

/-! ### the rule -/
structure Def (K : PySem.W.Frag) (mg : Str → Option Value) (x : Str) (f : Addr) (fd : FuncData) (ps : List Str) : Prop where
  m : mg x = some (.ref f)
  kp : PySem.W.keepIn K (.ref f) = true
  b : ∀ (s : Shared) (us : List Value), us.length = ps.length → BindsTo s fd ⟨us, []⟩ (ps.zip us)
def pick {α : Type} (l : List α) : List Nat → List α
  | [] => []
  | i :: is => match l[i]? with
    | some a => a :: pick l is
    | none => pick l is
theorem pick_rel {α β : Type} {R : α → β → Prop} {l : List α} {m : List β} (h : Paired R l m) : ∀ is : List Nat, Paired R (pick l is) (pick m is)
  | [] => .nil
  | i :: is => by
    unfold pick
    have key : ∀ {l : List α} {m : List β} (i : Nat), Paired R l m → (∃ a b, l[i]? = some a ∧ m[i]? = some b ∧ R a b) ∨ (l[i]? = none ∧ m[i]? = none) := by
      intro l m i h
      induction h generalizing i with
      | nil => exact .inr ⟨by simp, by simp⟩
      | cons r t ih =>
        cases i with
        | zero => exact .inl ⟨_, _, rfl, rfl, r⟩
        | succ i => simpa using ih i
    rcases key i h with ⟨a, b, e1, e2, r⟩ | ⟨e1, e2⟩
    · rw [e1, e2]; exact .cons r (pick_rel h is)
    · rw [e1, e2]; exact pick_rel h is
/-- how keywords bind: the values in the order of writing, picked into the parameters' order -/
def KB (fd : FuncData) (ps ks : List Str) (n : Nat) (is : List Nat) : Prop := ∀ (s : Shared) (us ws : List Value), us.length = n → ws.length = ks.length → BindsTo s fd ⟨us, ks.zip ws⟩ (ps.zip (pick (us ++ ws) is))
def mPick (is : List Nat) (m : M (List Arg)) : M (List Arg) := m.bind fun as => M.ret (pick as is)
/-- a slot handed in: its own object, or what it holds -/
def aSlot (i : Nat) (mb : M (List Arg)) : M (List Arg) := fun ρ => match ρ[i]? with
  | some (.own _) => eCons (aRf i) mb ρ
  | some (.fz d) => eCons (M.ret (.fz d)) mb ρ
  | _ => .bad
section
variable {X : Cx} {Γ : Gm} {W : WX} {k : Nat} {f : Addr} {fd : FuncData} {ps : List Str} {F : M Slot} {x : Str} {p pos : Pos} {e : Expr} {es : List Expr} {m : M (List Arg)}
theorem da_nil : PA X [] (tA Γ W eNil) := PA.imp pa_nil fun σ H Q ⟨G, ρ, s, h⟩ => h [] G H (Stp.rfl s) .nil
theorem da_fz {ma : M D} {mb : M (List Arg)} (ha : PE X e (tD Γ W ma)) (hb : PA X es (tA Γ W mb)) (hs : starEach (e :: es) X.env = (false, eval e X.env) :: starEach es X.env := by rfl) :
    PA X (e :: es) (tA Γ W (eCons (aFz ma) mb)) := by
  refine PA.imp (pa_cons ha hb hs) fun σ H Q ⟨G, ρ, s, h⟩ => ⟨G, ρ, s, (post_bind.mp (post_bind.mp h)).imp (fun d ρ1 h1 v G1 H1 x1 r1 => ?_) fun c ρ' e => e⟩
  refine ⟨G1, ρ1, x1.sr, (post_bind.mp (show Out.Post ((mb.bind _) ρ1) _ _ from h1)).imp (fun as ρ2 h2 u G2 H2 x2 r2 => h2 _ G2 H2 (x1.tr x2) (.cons (r1.mono x2.fr.ext) r2)) fun c ρ' e => e.tr x1⟩
theorem da_rf {i : Nat} {y : Str} {py : Pos} {mb : M (List Arg)} (ha : PE X (.Name y py) (tVar i)) (hb : PA X es (tA Γ W mb)) (hs : starEach (.Name y py :: es) X.env = (false, eval (.Name y py) X.env) :: starEach es X.env := by rfl) :
    PA X (.Name y py :: es) (tA Γ W (aSlot i mb)) := by
  refine PA.imp (pa_cons ha hb hs) fun σ H Q ⟨G, ρ, s, h⟩ => ?_
  unfold aSlot at h
  split at h
  · rename_i c e
    obtain ⟨a, u, e1, e2, e3, e4⟩ := s.own e
    refine ⟨.ref a, e1, G, ρ, s, (post_bind.mp (show Out.Post ((mb.bind _) ρ) _ _ from h)).imp (fun as ρ2 h2 u G2 H2 x2 r2 => h2 _ G2 H2 x2 (.cons e1 r2)) fun c ρ' e => e⟩
  · rename_i d e
    obtain ⟨v, e1, e2⟩ := s.fz e
    refine ⟨v, e1, G, ρ, s, (post_bind.mp (show Out.Post ((mb.bind _) ρ) _ _ from h)).imp (fun as ρ2 h2 u G2 H2 x2 r2 => h2 _ G2 H2 x2 (.cons (e2.mono x2.fr.ext) r2)) fun c ρ' e => e⟩
  · exact h.elim
/-- behind the arguments -/
theorem run_call {pins : List (Addr × Obj)} {s : Shared} {σ : St} {H G : Hp} {ρ : Rho} {us : List Value} {vs : List V} {as : List Arg} {args : Args} {Q : VK} (F0 : FnG X.prog X.w X.K X.mg X.base k f fd ps F) (hr : Room k X.A) (hgd : X.A.guards = some []) (tk : Takes X W) (hΓ : Γ = ⟨X.K, X.mg⟩)
    (I : Inv X pins σ H s) (sr : SR Γ.K G H σ ρ) (rv : Vals vs us) (ra : ArgsOk Γ.K G σ vs as) (hb : us.length = ps.length → BindsTo s fd args (ps.zip us))
    (h : (callF F as ρ).Post (fun r ρ' => ∀ v G' H', Stp Γ.K G H σ ρ G' H' σ ρ' → RvOk Γ.K G H σ ρ G' H' σ ρ' v r → Q v H') (EW Γ W G H σ ρ)) :
    codeAny (model X.prog X.w) X.A (.call (.ref f) args) (fun r s' => match r with
      | .ok (.ret u) => EP X pins σ Q u s'
      | .ok _ => False
      | .error e => X.xe e s') s := by
  subst hΓ
  unfold callF at h
  by_cases nd : ndA as = true
  · rw [if_pos nd] at h
    cases hs : argSlots ρ as with
    | none => simp only [hs] at h; exact h.elim
    | some ss =>
      simp only [hs] at h
      have s0 := (call_in sr ra hs nd).1
      have sp : spF ⟨X.K, X.mg⟩ F vs H Q (fun cls dx H' => W cls dx σ H') := by
        refine ⟨G, ss, s0, ?_⟩
        unfold PostF
        cases hF : F ss with
        | bad => simp only [hF] at h; exact h.elim
        | err c ss' =>
          simp only [hF] at h
          cases hb' : backR as ss' ρ with
          | none => simp only [hb'] at h; exact h.elim
          | some ρ' =>
            simp only [hb'] at h
            exact fun cls dx G' H' x ex => h cls dx G' H' (call_out sr ra hs nd x hb').1 ex
        | ok r ss' =>
          simp only [hF] at h
          cases hb' : backR as ss' ρ with
          | none => simp only [hb'] at h; exact h.elim
          | some ρ' =>
            simp only [hb'] at h
            intro v G' H' x rv'
            obtain ⟨y, yo⟩ := call_out sr ra hs nd x hb'
            refine h v G' H' y ?_
            cases r with
            | un => exact rv'
            | fz d => exact rv'
            | own c =>
              obtain ⟨a, u, e1, e2, e3, e4, e5, e6⟩ := rv'
              -- what is new to the callee is new here, or an argument's own: that is still its slot's
              have hn : H a = none := by
                rcases e6 with ⟨k', z⟩ | z
                · exfalso
                  -- an own argument stays own at its place
                  obtain ⟨c1, w1, w2⟩ := z
                  obtain ⟨i, p1, p2⟩ := (call_in sr ra hs nd).2 k' a ⟨c1, w1, w2⟩
                  obtain ⟨c2, q1, q2⟩ := p2
                  have hlen : k' < ss'.length := by
                    have l0 := x.sr.len
                    have l1 := s0.len
                    have : k' < ss.length := by
                      cases Nat.lt_or_ge k' ss.length with
                      | inl z => exact z
                      | inr z => rw [List.getElem?_eq_none z] at w1; cases w1
                    omega
                  have still : ∃ c3, ss'[k']? = some (Slot.own c3) := backR_own hb' p1 (by rw [q1]; rfl) hlen
                  obtain ⟨c3, r3⟩ := still
                  exact e5 ⟨k', c3, r3, w2⟩
                · exact z
              have nz : ¬ Ow σ ρ' a := fun z => by
                obtain ⟨i, c4, r1, r2⟩ := yo a z
                obtain ⟨b, u2, t1, t2, t3, t4⟩ := sr.own r1
                rw [r2] at t1; cases t1
                rw [hn] at t3; cases t3
              exact ⟨a, u, e1, e2, e3, e4, nz, .inr hn⟩
      have hl : us.length = ps.length := by rw [← rv.length]; exact spF.len F0.len sp
      refine codeAny_mono (F0.go X.A X.stack s H args us vs Q _ hr hgd I.env0 (hb hl) rv sp) fun r s' hq => ?_
      cases r with
      | error e => exact tk e s' (XE.of_call I (fun _ _ _ h => h) hq)
      | ok fl =>
        cases fl with
        | ret u => exact I.after hq
        | next => exact hq.elim
        | brk => exact hq.elim
        | cont => exact hq.elim
  · rw [if_neg nd] at h; exact h.elim
where
  backR_own : ∀ {as : List Arg} {ss ρ ρ' : Rho} {k i : Nat}, backR as ss ρ = some ρ' → as[k]? = some (Arg.rf i) → isOwn ρ[i]? = true → k < ss.length → ∃ c, ss[k]? = some (Slot.own c)
    | [], _, _, _, k, i, _, e, _, _ => by simp at e
    | .fz _ :: as, s :: ss, ρ, ρ', k, i, h, e, o, hl => by
      cases k with
      | zero => simp at e
      | succ k => exact backR_own (as := as) (ss := ss) (k := k) h (by simpa using e) o (by simpa using hl)
    | .rf j :: as, .own c :: ss, ρ, ρ', k, i, h, e, o, hl => by
      unfold backR at h
      split at h
      · rename_i ho
        cases k with
        | zero => exact ⟨c, rfl⟩
        | succ k =>
          refine backR_own (as := as) (ss := ss) (k := k) h (by simpa using e) ?_ (by simpa using hl)
          by_cases hij : j = i
          · subst hij
            have hlt : j < ρ.length := by
              cases Nat.lt_or_ge j ρ.length with
              | inl z => exact z
              | inr z => rw [List.getElem?_eq_none z] at o; cases o
            rw [List.getElem?_set_self hlt]; rfl
          · rw [List.getElem?_set_ne hij]; exact o
      · cases h
    | .rf j :: as, .fz _ :: ss, ρ, ρ', k, i, h, e, o, hl => by
      unfold backR at h
      split at h
      · cases h
      · rename_i ho
        cases k with
        | zero => simp at e; subst e; exact absurd o ho
        | succ k => exact backR_own (as := as) (ss := ss) (k := k) h (by simpa using e) o (by simpa using hl)
    | .fz _ :: _, [], _, _, _, _, h, _, _, _ => by cases h
    | .rf _ :: _, [], _, _, _, _, h, _, _, _ => by cases h
    | .rf _ :: _, .un :: _, _, _, _, _, h, _, _, _ => by cases h
/-- f(e, ..) -/
theorem dr_call (D0 : Def X.K X.mg x f fd ps) (F0 : FnG X.prog X.w X.K X.mg X.base k f fd ps F) (hr : Room k X.A) (hgd : X.A.guards = some []) (tk : Takes X W) (hg : Gl X x) (ha : PA X (e :: es) (tA Γ W m)) (hΓ : Γ = ⟨X.K, X.mg⟩ := by rfl)
    (hdb : (x == ("__debug__" : Str)) = false := by decide) (he : starEach (e :: es) X.env = (false, eval e X.env) :: starEach es X.env := by rfl) (hpl : (backTo pos (starEach es X.env)).any (·.1) = false := by rfl) :
    PE X (.Call (.Name x p) (e :: es) [] pos) (tR Γ W (eCallF F m)) := by
  refine ⟨fun pins s σ H Q I ⟨G, ρ, sr, h⟩ => ?_⟩
  refine wpAny_Call_Name_kw (ld_glob I hg D0.m ?_ hdb)
  refine PySem.W.callWith_K (h₀ := X.base) I.ok.mod.kin D0.kp (thn (ha.run pos pins s σ H (fun vs H1 => ∃ G1 ρ1 as, Stp Γ.K G H σ ρ G1 H1 σ ρ1 ∧ ArgsOk Γ.K G1 σ vs as ∧
      (callF F as ρ1).Post (fun r ρ' => ∀ v G' H', Stp Γ.K G H σ ρ G' H' σ ρ' → RvOk Γ.K G H σ ρ G' H' σ ρ' v r → Q v H') (EW Γ W G H σ ρ)) I
      ⟨G, ρ, sr, (post_bind.mp h).imp (fun as ρ1 h1 vs G1 H1 x1 r1 => ⟨G1, ρ1, as, x1, r1, h1⟩) fun _ _ e => e⟩) fun us s1 ⟨vs, H1, I1, r, G1, ρ1, as, x1, ra, q⟩ => ⟨I1.kIn, ?_⟩) he hpl
  refine wpAny_call (codeAny_mono (run_call (args := ⟨us, []⟩) F0 hr hgd tk hΓ I1 x1.sr r ra (D0.b s1 us) (q.imp (fun r ρ2 h2 v G2 H2 x2 rv => h2 v G2 H2 (x1.tr x2) (RvOk.tr x1 rv)) fun _ _ e => e.tr x1)) fun r s' hq => ?_)
  cases r with
  | error e => exact hq
  | ok fl => cases fl <;> first | exact hq | exact hq.elim
theorem dr_call0 (D0 : Def X.K X.mg x f fd ps) (F0 : FnG X.prog X.w X.K X.mg X.base k f fd ps F) (hr : Room k X.A) (hgd : X.A.guards = some []) (tk : Takes X W) (hg : Gl X x) (hΓ : Γ = ⟨X.K, X.mg⟩ := by rfl)
    (hdb : (x == ("__debug__" : Str)) = false := by decide) :
    PE X (.Call (.Name x p) [] [] pos) (tR Γ W (eCallF F eNil)) := by
  refine ⟨fun pins s σ H Q I ⟨G, ρ, sr, h⟩ => ?_⟩
  refine wpAny_Call_Name_kw (ld_glob I hg D0.m ?_ hdb)
  refine PySem.W.callWith_K0 I.kIn D0.kp ?_
  refine wpAny_call (codeAny_mono (run_call (args := ⟨[], []⟩) F0 hr hgd tk hΓ I sr .nil .nil (D0.b s []) (show (callF F [] ρ).Post _ _ from h)) fun r s' hq => ?_)
  cases r with
  | error e => exact hq
  | ok fl => cases fl <;> first | exact hq | exact hq.elim
end

/-! ### keywords -/
section
variable {X : Cx} {Γ : Gm} {W : WX} {k : Nat} {f : Addr} {fd : FuncData} {ps ks : List Str} {F : M Slot} {x : Str} {p pos kpos : Pos} {e : Expr} {es : List Expr} {m mk : M (List Arg)} {kws : List Keyword} {is : List Nat} {n : Nat} {nm : Option Str}
theorem PK.imp {kws : List Keyword} {t t' : TA} (h : PK X kws t) (k : ∀ σ H Q, t' σ H Q → t σ H Q) : PK X kws t' := ⟨fun p pins s σ H Q I q => h.run p pins s σ H Q I (k _ _ _ q)⟩
theorem dk_nil : PK X [] (tA Γ W eNil) := PK.imp pk_nil fun σ H Q ⟨G, ρ, s, h⟩ => h [] G H (Stp.rfl s) .nil
theorem dk_fz {ma : M D} {mb : M (List Arg)} (ha : PE X e (tD Γ W ma)) (hb : PK X kws (tA Γ W mb)) : PK X (⟨nm, e, kpos⟩ :: kws) (tA Γ W (eCons (aFz ma) mb)) := by
  refine PK.imp (pk_cons ha hb) fun σ H Q ⟨G, ρ, s, h⟩ => ⟨G, ρ, s, (post_bind.mp (post_bind.mp h)).imp (fun d ρ1 h1 v G1 H1 x1 r1 => ?_) fun c ρ' e => e⟩
  refine ⟨G1, ρ1, x1.sr, (post_bind.mp (show Out.Post ((mb.bind _) ρ1) _ _ from h1)).imp (fun as ρ2 h2 u G2 H2 x2 r2 => h2 _ G2 H2 (x1.tr x2) (.cons (r1.mono x2.fr.ext) r2)) fun c ρ' e => e.tr x1⟩
def eApp (a b : M (List Arg)) : M (List Arg) := a.bind fun xs => b.bind fun ys => M.ret (xs ++ ys)
theorem ArgsOk.mono {K : PySem.W.Frag} {G G' : Hp} {σ : St} (e : Sub G G') {vs : List V} {as : List Arg} (h : ArgsOk K G σ vs as) : ArgsOk K G' σ vs as :=
  Paired.mapP h fun v a q => by
    cases a with
    | fz d => exact Rp.mono e q
    | rf i => exact q
theorem ArgsOk.app {K : PySem.W.Frag} {G : Hp} {σ : St} : ∀ {vs ws : List V} {as bs : List Arg}, ArgsOk K G σ vs as → ArgsOk K G σ ws bs → ArgsOk K G σ (vs ++ ws) (as ++ bs)
  | _, _, _, _, .nil, h => h
  | _, _, _, _, .cons r t, h => .cons r (ArgsOk.app t h)
/-- f(e, .., k = v, ..) -/
theorem dr_callK (D0 : Def X.K X.mg x f fd ps) (F0 : FnG X.prog X.w X.K X.mg X.base k f fd ps F) (hr : Room k X.A) (hgd : X.A.guards = some []) (tk : Takes X W) (hg : Gl X x) (kb : KB fd ps ks n is) (hn : (e :: es).length = n) (ha : PA X (e :: es) (tA Γ W m)) (hk : PK X kws (tA Γ W mk)) (hΓ : Γ = ⟨X.K, X.mg⟩ := by rfl)
    (hall : (backToKw pos (keywordEach kws X.env)).all (·.1.isSome) = true := by rfl) (hks : (backToKw pos (keywordEach kws X.env)).filterMap (·.1) = ks := by rfl)
    (hdb : (x == ("__debug__" : Str)) = false := by decide) (he : starEach (e :: es) X.env = (false, eval e X.env) :: starEach es X.env := by rfl)
    (hpl : ((backTo pos (starEach (e :: es) X.env)).any (·.1) || (backToKw pos (keywordEach kws X.env)).any (·.1.isNone)) = false := by rfl)
    (hc : ∀ as ρ ρ', m ρ = .ok as ρ' → as.length = n) (hc2 : ∀ as ρ ρ', mk ρ = .ok as ρ' → as.length = ks.length) :
    PE X (.Call (.Name x p) (e :: es) kws pos) (tR Γ W (eCallF F (mPick is (eApp m mk)))) := by
  refine ⟨fun pins s σ H Q I ⟨G, ρ, sr, h⟩ => ?_⟩
  refine wpAny_Call_Name_kw (ld_glob I hg D0.m ?_ hdb)
  have h' := post_bind.mp (post_bind.mp (post_bind.mp h))
  refine PySem.W.callWith_KW (h₀ := X.base) I.ok.mod.kin D0.kp hall (thn (ha.run pos pins s σ H (fun vs H1 => ∃ G1 ρ1 as, Stp Γ.K G H σ ρ G1 H1 σ ρ1 ∧ ArgsOk Γ.K G1 σ vs as ∧ as.length = n ∧
      (mk ρ1).Post (fun bs ρ2 => (callF F (pick (as ++ bs) is) ρ2).Post (fun r ρ' => ∀ v G' H', Stp Γ.K G H σ ρ G' H' σ ρ' → RvOk Γ.K G H σ ρ G' H' σ ρ' v r → Q v H') (EW Γ W G H σ ρ)) (EW Γ W G H σ ρ)) I
      ⟨G, ρ, sr, ?_⟩) fun us s1 ⟨vs, H1, I1, r, G1, ρ1, as, x1, ra, ln, q⟩ => ?_) hpl he
  · revert h'
    cases hm : m ρ with
    | bad => exact fun h' => h'.elim
    | err c ρ' => exact fun h' => h'
    | ok as ρ1 => exact fun h' vs G1 H1 x1 r1 => ⟨G1, ρ1, as, x1, r1, hc as ρ ρ1 hm, (post_bind (m := mk) (f := fun ys => M.ret (as ++ ys))).mp h'⟩
  · refine thn (hk.run pos pins s1 σ H1 (fun ws H2 => ∃ G2 ρ2 bs, Stp Γ.K G H σ ρ G2 H2 σ ρ2 ∧ ArgsOk Γ.K G2 σ ws bs ∧ ArgsOk Γ.K G2 σ vs as ∧ bs.length = ks.length ∧
      (callF F (pick (as ++ bs) is) ρ2).Post (fun r ρ' => ∀ v G' H', Stp Γ.K G H σ ρ G' H' σ ρ' → RvOk Γ.K G H σ ρ G' H' σ ρ' v r → Q v H') (EW Γ W G H σ ρ)) I1 ⟨G1, ρ1, x1.sr, ?_⟩) fun zs s2 ⟨ws, H2, I2, rz, G2, ρ2, bs, x2, rb, ra2, lk, q2⟩ => ⟨I2.kIn, ?_⟩
    · revert q
      cases hm : mk ρ1 with
      | bad => exact fun q => q.elim
      | err c ρ' => exact fun q => EW.tr x1 q
      | ok bs ρ2 => exact fun q ws G2 H2 x2 r2 => ⟨G2, ρ2, bs, x1.tr x2, r2, ArgsOk.mono x2.fr.ext ra, hc2 bs ρ1 ρ2 hm, q⟩
    · rw [hks]
      have rall : Vals (pick (vs ++ ws) is) (pick (us ++ zs) is) := pick_rel (Vals.append r rz) is
      have lu : us.length = n := by rw [← r.length, (argsOk_at ra).1]; exact ln
      have lz : zs.length = ks.length := by rw [← rz.length, (argsOk_at rb).1]; exact lk
      refine wpAny_call (codeAny_mono (run_call (args := ⟨us, ks.zip zs⟩) F0 hr hgd tk hΓ I2 x2.sr rall (pick_rel (ArgsOk.app ra2 rb) is) (fun _ => kb s2 us zs lu lz) (q2.imp (fun r ρ2 h2 v G2 H2 x3 rv => h2 v G2 H2 (x2.tr x3) (RvOk.tr x2 rv)) fun _ _ e => e.tr x2)) fun r s' hq => ?_)
      cases r with
      | error e => exact hq
      | ok fl => cases fl <;> first | exact hq | exact hq.elim
/-- f(k = v, ..) -/
theorem dr_callK0 (D0 : Def X.K X.mg x f fd ps) (F0 : FnG X.prog X.w X.K X.mg X.base k f fd ps F) (hr : Room k X.A) (hgd : X.A.guards = some []) (tk : Takes X W) (hg : Gl X x) (kb : KB fd ps ks 0 is) (hk : PK X kws (tA Γ W mk)) (hΓ : Γ = ⟨X.K, X.mg⟩ := by rfl)
    (hall : (backToKw pos (keywordEach kws X.env)).all (·.1.isSome) = true := by rfl) (hks : (backToKw pos (keywordEach kws X.env)).filterMap (·.1) = ks := by rfl)
    (hdb : (x == ("__debug__" : Str)) = false := by decide)
    (hpl : ((backTo pos (starEach [] X.env)).any (·.1) || (backToKw pos (keywordEach kws X.env)).any (·.1.isNone)) = false := by rfl)
    (hc2 : ∀ as ρ ρ', mk ρ = .ok as ρ' → as.length = ks.length) :
    PE X (.Call (.Name x p) [] kws pos) (tR Γ W (eCallF F (mPick is mk))) := by
  refine ⟨fun pins s σ H Q I ⟨G, ρ, sr, h⟩ => ?_⟩
  refine wpAny_Call_Name_kw (ld_glob I hg D0.m ?_ hdb)
  have h' := post_bind.mp (post_bind.mp h)
  refine PySem.W.callWith_KW0 (h₀ := X.base) I.ok.mod.kin D0.kp hall (thn (hk.run pos pins s σ H (fun ws H2 => ∃ G2 ρ2 bs, Stp Γ.K G H σ ρ G2 H2 σ ρ2 ∧ ArgsOk Γ.K G2 σ ws bs ∧ bs.length = ks.length ∧
      (callF F (pick bs is) ρ2).Post (fun r ρ' => ∀ v G' H', Stp Γ.K G H σ ρ G' H' σ ρ' → RvOk Γ.K G H σ ρ G' H' σ ρ' v r → Q v H') (EW Γ W G H σ ρ)) I ⟨G, ρ, sr, ?_⟩) fun zs s2 ⟨ws, H2, I2, rz, G2, ρ2, bs, x2, rb, lk, q2⟩ => ⟨I2.kIn, ?_⟩) hpl
  · revert h'
    cases hm : mk ρ with
    | bad => exact fun q => q.elim
    | err c ρ' => exact fun q => q
    | ok bs ρ2 => exact fun q ws G2 H2 x2 r2 => ⟨G2, ρ2, bs, x2, r2, hc2 bs ρ ρ2 hm, q⟩
  · rw [hks]
    have rall : Vals (pick ws is) (pick zs is) := pick_rel rz is
    have lz : zs.length = ks.length := by rw [← rz.length, (argsOk_at rb).1]; exact lk
    refine wpAny_call (codeAny_mono (run_call (args := ⟨[] ++ [], ks.zip zs⟩) F0 hr hgd tk hΓ I2 x2.sr rall (pick_rel rb is) (fun _ => kb s2 [] zs rfl lz) (q2.imp (fun r ρ2 h2 v G2 H2 x3 rv => h2 v G2 H2 (x2.tr x3) (RvOk.tr x2 rv)) fun _ _ e => e.tr x2)) fun r s' hq => ?_)
    cases r with
    | error e => exact hq
    | ok fl => cases fl <;> first | exact hq | exact hq.elim
end

/-! ### a call's value -/
def ofR (m : M Slot) : M D := m.bind fun r => match r with
  | .fz d => M.ret d
  | .own (.lst ds) => M.ret (.list ds)
  | _ => M.fail
def ownR (m : M Slot) : M OC := m.bind fun r => match r with
  | .own c => M.ret c
  | _ => M.fail
section
variable {X : Cx} {Γ : Gm} {W : WX} {e : Expr} {m : M Slot}
theorem de_r (h : PE X e (tR Γ W m)) : PE X e (tD Γ W (ofR m)) := by
  refine PE.imp h fun σ H Q ⟨G, ρ, s, h⟩ => ⟨G, ρ, s, (post_bind.mp h).imp (fun r ρ1 h1 v G1 H1 x1 r1 => ?_) fun c ρ' e => e⟩
  cases r with
  | un => exact h1.elim
  | fz d => exact h1 v G1 H1 x1 r1
  | own c =>
    cases c with
    | dK _ => exact h1.elim
    | dT _ => exact h1.elim
    | lst ds =>
      obtain ⟨p, u, rfl, g, hp, oc, n, f⟩ := r1
      have st := x1.own_freeze g hp n f
      cases oc with
      | lst q => exact h1 _ _ _ st (.lst upd_same (q.mono (Sub.upd g)))
theorem do_r (h : PE X e (tR Γ W m)) : PE X e (tO Γ W (ownR m)) := by
  refine PE.imp h fun σ H Q ⟨G, ρ, s, h⟩ => ⟨G, ρ, s, (post_bind.mp h).imp (fun r ρ1 h1 v G1 H1 x1 r1 => ?_) fun c ρ' e => e⟩
  cases r with
  | un => exact h1.elim
  | fz d => exact h1.elim
  | own c => exact h1 v G1 H1 x1 r1
end
end DL

/-! DLg: operations on data. -/
namespace DL
open PySem PySem.Spec L2

section
variable {K : PySem.W.Frag}
theorem R2P.or1 {r r' : R2} {g : D → D → Option D} (h : R2P K r g) : R2P K (fun x y H Q => r x y H Q ∨ r' x y H Q) g := fun G H x y d e z Q s a b c q => .inl (h G H x y d e z Q s a b c q)
theorem scal_ret {G H : Hp} (s : Sub G H) {Q : VK} {v : V} {d : D} (r : ∀ G, Rp K G v d) (q : ∀ v G' H', Ext0 G H G' H' → Rp K G' v d → Q v H') : Q v H := q v G H (Ext0.rfl s) (r G)
end

/-! ### arithmetic -/
def intOp (f : Int → Int → Int) (c : Int → Int → Bool) : D → D → Option D
  | .int i, .int j => if c i j then some (.int (f i j)) else none
  | _, _ => none
theorem int_r2 {K : PySem.W.Frag} {C : Int → Int → Prop} {f : Int → Int → Int} {c : Int → Int → Bool} (h : ∀ i j, c i j = true → C i j) : R2P K (rI C fun i j => .int (f i j)) (intOp f c) := by
  intro G H x y d e z Q s rx ry hz q
  unfold intOp at hz
  split at hz
  · split at hz
    · rename_i hc
      cases hz; cases rx; cases ry
      exact ⟨_, _, rfl, rfl, h _ _ hc, scal_ret s (fun _ => .int _) q⟩
    · cases hz
  · cases hz
def gAdd : D → D → Option D
  | .int i, .int j => some (.int (i + j))
  | .str a, .str b => if a.length + b.length ≤ 16777216 then some (.str (a ++ b)) else none
  | .list xs, .list ys => if xs.length + ys.length ≤ 16777216 then some (.list (xs ++ ys)) else none
  | .tuple xs, .tuple ys => if xs.length + ys.length ≤ 16777216 then some (.tuple (xs ++ ys)) else none
  | _, _ => none
def rAddD (K : PySem.W.Frag) : R2 := fun x y H Q => ((rI0 fun i j => .int (i + j)) x y H Q ∨ (∃ i j, x = .str i ∧ y = .str j ∧ i.length + j.length ≤ sizeLine ∧ Q (.str (i ++ j)) H)) ∨ (rCat x y H Q ∨ rCatA K x y H Q)
theorem op_addD {X : Cx} : OpR X (binaryOp .Add) (rAddD X.K) := (op_add.or op_add_str).or (op_cat.or op_catA)
theorem addD_r2 {K : PySem.W.Frag} : R2P K (rAddD K) gAdd := by
  intro G H x y d e z Q s rx ry hz q
  unfold gAdd at hz
  split at hz
  · cases hz; cases rx; cases ry
    exact .inl (.inl ⟨_, _, rfl, rfl, scal_ret s (fun _ => .int _) q⟩)
  · split at hz
    · rename_i hl
      cases hz; cases rx; cases ry
      exact .inl (.inr ⟨_, _, rfl, rfl, size_line hl, scal_ret s (fun _ => .str _) q⟩)
    · cases hz
  · split at hz
    · rename_i hl
      cases hz
      cases rx with | lst g1 r1 =>
      cases ry with | lst g2 r2 =>
      refine .inr (.inl ⟨_, _, _, _, rfl, rfl, s _ _ g1, s _ _ g2, size_line (by rw [r1.length, r2.length]; exact hl), fun p np => ?_⟩)
      exact q _ _ _ (Ext0.new s np) (.lst upd_same ((r1.append r2).mono (Sub.upd (s.none np))))
    · cases hz
  · split at hz
    · rename_i xs ys hl
      cases hz
      cases rx with | @tup a1 _ _ g1 r1 =>
      cases ry with | @tup a2 _ _ g2 r2 =>
      refine .inr (.inr ⟨_, _, _, _, rfl, rfl, s.seqT g1, s.seqT g2, size_line (by rw [r1.length, r2.length]; exact hl), fun e => ?_, fun _ e => ?_, fun _ _ p np => ?_⟩)
      · subst e
        cases xs with
        | nil => exact q _ _ _ (Ext0.rfl s) (.tup g2 r2)
        | cons _ _ => cases r1
      · subst e
        cases ys with
        | nil => rw [List.append_nil] at q; exact q _ _ _ (Ext0.rfl s) (.tup g1 r1)
        | cons _ _ => cases r2
      · exact q _ _ _ (Ext0.new s np) (.tup (SqT.of upd_same) ((r1.append r2).mono (Sub.upd (s.none np))))
    · cases hz
  · cases hz
def gSub : D → D → Option D := intOp (fun i j => i - j) fun _ _ => true
theorem op_subD {X : Cx} : OpR X (binaryOp .Sub) (rI (fun _ _ => True) fun i j => .int (i - j)) := fun pins s σ H x y v u Q I rx ry ⟨i, j, e1, e2, _, q⟩ => op_sub pins s σ H x y v u Q I rx ry ⟨i, j, e1, e2, q⟩
theorem subD_r2 {K : PySem.W.Frag} : R2P K (rI (fun _ _ => True) fun i j => .int (i - j)) gSub := int_r2 fun _ _ _ => trivial
/-- one factor below 2^64, or both of bounded size -/
def okMul (i j : Int) : Bool := decide (j.natAbs < 2 ^ 64) || decide (i.natAbs < 2 ^ 64) || decide (i.natAbs.log2 + j.natAbs.log2 < 1000000)
def gMul : D → D → Option D
  | .int i, .int j => if okMul i j then some (.int (i * j)) else none
  | .list xs, .int k => if -(2 ^ 63) ≤ k ∧ k < 2 ^ 63 ∧ xs.length * k.toNat ≤ 16777216 then some (.list (List.replicate k.toNat xs).flatten) else none
  | _, _ => none
def rMulD : R2 := fun x y H Q => (rI CMul (fun i j => .int (i * j)) x y H Q ∨ rI CMulW (fun i j => .int (i * j)) x y H Q) ∨ rRep x y H Q
theorem op_mulD {X : Cx} : OpR X (binaryOp .Mult) rMulD := (op_mul.or op_mulW).or op_rep
theorem RpAll.rep {K : PySem.W.Frag} {G : Hp} {xs : List V} {ds : List D} (h : RpAll K G xs ds) : ∀ k : Nat, RpAll K G (List.replicate k xs).flatten (List.replicate k ds).flatten
  | 0 => .nil
  | k + 1 => by
    rw [List.replicate_succ, List.replicate_succ, List.flatten_cons, List.flatten_cons]
    exact h.append (RpAll.rep h k)
theorem mulD_r2 {K : PySem.W.Frag} : R2P K rMulD gMul := by
  intro G H x y d e z Q s rx ry hz q
  unfold gMul at hz
  split at hz
  · split at hz
    · rename_i i j hc
      cases hz; cases rx; cases ry
      unfold okMul at hc
      simp only [Bool.or_eq_true, decide_eq_true_eq] at hc
      rcases hc with (hc | hc) | hc
      · exact .inl (.inl ⟨_, _, rfl, rfl, .inr (by omega), scal_ret s (fun _ => .int _) q⟩)
      · exact .inl (.inl ⟨_, _, rfl, rfl, .inl (by omega), scal_ret s (fun _ => .int _) q⟩)
      · exact .inl (.inr ⟨_, _, rfl, rfl, hc, scal_ret s (fun _ => .int _) q⟩)
    · cases hz
  · split at hz
    · rename_i xs k hc
      cases hz
      cases rx with | lst g1 r1 =>
      cases ry
      refine .inr ⟨_, _, _, rfl, rfl, s _ _ g1, hc.1, hc.2.1, size_line (by rw [r1.length]; exact hc.2.2), fun p np => ?_⟩
      exact q _ _ _ (Ext0.new s np) (.lst upd_same ((r1.rep _).mono (Sub.upd (s.none np))))
    · cases hz
  · cases hz
def gFdiv : D → D → Option D := intOp (fun i j => i / j) fun i j => decide (0 < j ∧ j.natAbs.log2 < 9000)
theorem fdivD_r2 {K : PySem.W.Frag} : R2P K (rI CDivW fun i j => .int (i / j)) gFdiv := int_r2 fun i j h => by simpa [CDivW] using h
def gMod : D → D → Option D := intOp (fun i j => i % j) fun i j => decide (0 < j)
theorem modD_r2 {K : PySem.W.Frag} : R2P K (rI (fun _ j => 0 < j) fun i j => .int (i % j)) gMod := int_r2 fun i j h => by simpa using h
def CPowD (i j : Int) : Prop := 0 ≤ j ∧ j ≤ 1000 ∧ i.natAbs < 2 ^ 250
theorem bits_le {i : Int} {n : Nat} (h : i.natAbs < 2 ^ n) : Builtin.Int.intBits i ≤ n := by
  unfold Builtin.Int.intBits
  by_cases h0 : i = 0
  · simp [h0]
  · have := (Nat.log2_lt (show i.natAbs ≠ 0 by omega)).mpr h
    rw [if_neg (by simpa using h0)]
    omega
theorem op_powD {X : Cx} : OpR X (binaryOp .Pow) (rI CPowD fun i j => .int (i ^ j.toNat)) := opI fun i j _ _ _ _ _ hc q => PyProof.Rows.pow_int hc.1 (by
  have h1 := bits_le hc.2.2
  have h2 := hc.2.1
  have h0 := hc.1
  have h3 : (Builtin.Int.intBits i : Int) ≤ 250 := by omega
  have h4 : (Builtin.Int.intBits i : Int) * j ≤ 250 * 1000 := Int.mul_le_mul h3 h2 h0 (by decide)
  omega) q
def gPow : D → D → Option D := intOp (fun i j => i ^ j.toNat) fun i j => decide (0 ≤ j ∧ j ≤ 1000 ∧ i.natAbs < 2 ^ 250)
theorem powD_r2 {K : PySem.W.Frag} : R2P K (rI CPowD fun i j => .int (i ^ j.toNat)) gPow := int_r2 fun i j h => by
  have h' := of_decide_eq_true h
  exact h'
def gNeg : D → Option D
  | .int i => some (.int (-i))
  | _ => none
theorem negD_u {K : PySem.W.Frag} : RUP K (rU fun i => .int (-i)) gNeg := by
  intro G H x d z Q s rx hz q
  unfold gNeg at hz
  split at hz
  · cases hz; cases rx; exact ⟨_, rfl, scal_ret s (fun _ => .int _) q⟩
  · cases hz

/-! ### comparisons -/
def gEq (d e : D) : Option D := if SeqAt.shaped d && SeqAt.shaped e then some (.bool (PyData.eqv d e)) else none
def gNe (d e : D) : Option D := if SeqAt.shaped d && SeqAt.shaped e then some (.bool (!PyData.eqv d e)) else none
theorem Rp.dpH {K : PySem.W.Frag} {G H : Hp} (s : Sub G H) {v : V} {d : D} (r : Rp K G v d) (h : SeqAt.shaped d = true) : Dp K H v d := (r.mono s).dp (SeqAt.canLay_of_shaped h)
theorem eqD_r2 {K : PySem.W.Frag} : R2P K (rEqD K) gEq := by
  intro G H x y d e z Q s rx ry hz q
  unfold gEq at hz
  split at hz
  · rename_i hc
    cases hz
    rw [Bool.and_eq_true] at hc
    exact ⟨d, e, rx.dpH s hc.1, ry.dpH s hc.2, hc.1, hc.2, scal_ret s (fun _ => .bl _) q⟩
  · cases hz
theorem neD_r2 {K : PySem.W.Frag} : R2P K (rNeD K) gNe := by
  intro G H x y d e z Q s rx ry hz q
  unfold gNe at hz
  split at hz
  · rename_i hc
    cases hz
    rw [Bool.and_eq_true] at hc
    exact ⟨d, e, rx.dpH s hc.1, ry.dpH s hc.2, hc.1, hc.2, scal_ret s (fun _ => .bl _) q⟩
  · cases hz
def intCmp (p : Int → Int → Bool) : D → D → Option D
  | .int i, .int j => some (.bool (p i j))
  | _, _ => none
theorem cmpD_r2 {K : PySem.W.Frag} {p : Int → Int → Bool} : R2P K (rI0 fun i j => .bl (p i j)) (intCmp p) := by
  intro G H x y d e z Q s rx ry hz q
  unfold intCmp at hz
  split at hz
  · cases hz; cases rx; cases ry
    exact ⟨_, _, rfl, rfl, scal_ret s (fun _ => .bl _) q⟩
  · cases hz
def gLt := intCmp fun i j => decide (i < j)
def gLe := intCmp fun i j => decide (i ≤ j)
def gGt := intCmp fun i j => decide (j < i)
def gGe := intCmp fun i j => decide (j ≤ i)
def isNon : D → Bool
  | .none => true
  | _ => false
def gIs (d e : D) : Option D := match e with
  | .none => some (.bool (isNon d))
  | _ => none
def gIsN (d e : D) : Option D := match e with
  | .none => some (.bool (!isNon d))
  | _ => none
theorem isNon_eq {K : PySem.W.Frag} {G : Hp} {v : V} {d : D} (r : Rp K G v d) : decide (v = .non) = isNon d := by
  cases r <;> rfl
theorem isD_r2 {K : PySem.W.Frag} : R2P K (fun x y H Q => y = .non ∧ Q (.bl (decide (x = .non))) H) gIs := by
  intro G H x y d e z Q s rx ry hz q
  unfold gIs at hz
  split at hz
  · cases hz; cases ry
    refine ⟨rfl, ?_⟩
    rw [isNon_eq rx]
    exact scal_ret s (fun _ => .bl _) q
  · cases hz
theorem isND_r2 {K : PySem.W.Frag} : R2P K (fun x y H Q => y = .non ∧ Q (.bl (!decide (x = .non))) H) gIsN := by
  intro G H x y d e z Q s rx ry hz q
  unfold gIsN at hz
  split at hz
  · cases hz; cases ry
    refine ⟨rfl, ?_⟩
    rw [isNon_eq rx]
    exact scal_ret s (fun _ => .bl _) q
  · cases hz
/-- x in y -/
def inD (x : D) (ys : List D) : Bool := ys.any fun z => PyData.eqv z x
def memD : D → D → Option Bool
  | x, .list ys => if SeqAt.shaped x && SeqAt.shaped (.list ys) then some (inD x ys) else none
  | x, .tuple ys => if SeqAt.shaped x && SeqAt.shaped (.tuple ys) then some (inD x ys) else none
  | .str x, .str y => if x.cps.size = 1 then some (decide (x.cps.getD 0 0 ∈ y.cps.toList)) else none
  | _, _ => none
def gIn (x y : D) : Option D := (memD x y).map .bool
def gNotIn (x y : D) : Option D := (memD x y).map fun b => .bool !b
def rMemT (K : PySem.W.Frag) (neg : Bool) : R2 := fun x y H Q => ∃ d ds, Dp K H x d ∧ Dp K H y (.tuple ds) ∧ SeqAt.shaped d = true ∧ SeqAt.shaped (.tuple ds) = true ∧ Q (.bl (if neg then !inD d ds else inD d ds)) H
theorem room_inT {A : Around} {xs : List PyData} {d : PyData} (hd : SeqAt.shaped d = true) (hu : A.units + 65 < cLine) : A.units + 1 + min (PyData.depthAll xs) d.depth < cLine := by
  have h1 := SeqAt.depth_of_shaped hd
  have h2 : min (PyData.depthAll xs) d.depth ≤ d.depth := Nat.min_le_right _ _
  omega
theorem op_inT {X : Cx} (hu : X.A.units + 65 < cLine) : OpR X (compareOp .In) (rMemT X.K false) := by
  intro pins s σ H x y v u Q I rx ry h
  obtain ⟨d, ds, hd, he, sd, se, q⟩ := h
  obtain ⟨as, r1⟩ := Dp.reads I d x v hd rx
  obtain ⟨bs, r2⟩ := Dp.reads I (.tuple ds) y u he ry
  exact SeqAt.in_tuple_reads r2 r1 (SeqAt.canLay_of_shaped se) (SeqAt.canLay_of_shaped sd) (room_inT sd hu) ⟨.bl _, H, I, rfl, q⟩
theorem op_notInT {X : Cx} (hu : X.A.units + 65 < cLine) : OpR X (compareOp .NotIn) (rMemT X.K true) := by
  intro pins s σ H x y v u Q I rx ry h
  obtain ⟨d, ds, hd, he, sd, se, q⟩ := h
  obtain ⟨as, r1⟩ := Dp.reads I d x v hd rx
  obtain ⟨bs, r2⟩ := Dp.reads I (.tuple ds) y u he ry
  exact SeqAt.notIn_tuple_reads r2 r1 (SeqAt.canLay_of_shaped se) (SeqAt.canLay_of_shaped sd) (room_inT sd hu) ⟨.bl _, H, I, rfl, q⟩
def rInDD (K : PySem.W.Frag) : R2 := fun x y H Q => (L2.rInD K x y H Q ∨ rMemT K false x y H Q) ∨ (∃ (c : Nat) (z : Str), x = .str ⟨#[c]⟩ ∧ y = .str z ∧ Q (.bl (decide (c ∈ z.cps.toList))) H)
def rNotInDD (K : PySem.W.Frag) : R2 := fun x y H Q => (L2.rNotInD K x y H Q ∨ rMemT K true x y H Q) ∨ (∃ (c : Nat) (z : Str), x = .str ⟨#[c]⟩ ∧ y = .str z ∧ Q (.bl (!decide (c ∈ z.cps.toList))) H)
theorem op_inDD {X : Cx} (hu : X.A.units + 65 < cLine) : OpR X (compareOp .In) (rInDD X.K) := ((L2.op_inD hu).or (op_inT hu)).or op_in_sign
theorem op_notInDD {X : Cx} (hu : X.A.units + 65 < cLine) : OpR X (compareOp .NotIn) (rNotInDD X.K) := ((L2.op_notInD hu).or (op_notInT hu)).or op_notIn_sign
theorem one_sign {x : Str} (h : x.cps.size = 1) : x = ⟨#[x.cps.getD 0 0]⟩ := by
  obtain ⟨c⟩ := x
  have : c = #[c.getD 0 0] := by
    apply Array.ext
    · simpa using h
    · intro i h1 h2
      have : i = 0 := by simp at h2; omega
      subst this
      simp [Array.getD, h1]
  exact congrArg Str.mk this
theorem inDD_r2 {K : PySem.W.Frag} : R2P K (rInDD K) gIn := by
  intro G H x y d e z Q s rx ry hz q
  unfold gIn memD at hz
  split at hz
  · split at hz
    · rename_i hc
      cases hz
      rw [Bool.and_eq_true] at hc
      exact .inl (.inl ⟨_, _, rx.dpH s hc.1, ry.dpH s hc.2, hc.1, hc.2, scal_ret s (fun _ => .bl _) q⟩)
    · cases hz
  · split at hz
    · rename_i hc
      cases hz
      rw [Bool.and_eq_true] at hc
      exact .inl (.inr ⟨_, _, rx.dpH s hc.1, ry.dpH s hc.2, hc.1, hc.2, scal_ret s (fun _ => .bl _) q⟩)
    · cases hz
  · split at hz
    · rename_i hc
      cases hz; cases rx; cases ry
      exact .inr ⟨_, _, congrArg V.str (one_sign hc), rfl, scal_ret s (fun _ => .bl _) q⟩
    · cases hz
  · cases hz
theorem notInDD_r2 {K : PySem.W.Frag} : R2P K (rNotInDD K) gNotIn := by
  intro G H x y d e z Q s rx ry hz q
  unfold gNotIn memD at hz
  split at hz
  · split at hz
    · rename_i hc
      cases hz
      rw [Bool.and_eq_true] at hc
      exact .inl (.inl ⟨_, _, rx.dpH s hc.1, ry.dpH s hc.2, hc.1, hc.2, scal_ret s (fun _ => .bl _) q⟩)
    · cases hz
  · split at hz
    · rename_i hc
      cases hz
      rw [Bool.and_eq_true] at hc
      exact .inl (.inr ⟨_, _, rx.dpH s hc.1, ry.dpH s hc.2, hc.1, hc.2, scal_ret s (fun _ => .bl _) q⟩)
    · cases hz
  · split at hz
    · rename_i hc
      cases hz; cases rx; cases ry
      exact .inr ⟨_, _, congrArg V.str (one_sign hc), rfl, scal_ret s (fun _ => .bl _) q⟩
    · cases hz
  · cases hz

/-! ### items, slices -/
def gIx : D → D → Option D
  | .list xs, .int i => atI xs i
  | .tuple xs, .int i => atI xs i
  | .dict [(.str _, .list xs)], .int i => atI xs i
  | .str z, .int i => if z.length ≤ 16777216 then (atI z.cps.toList i).map fun c => .str ⟨#[c]⟩ else none
  | _, _ => none
theorem RpAll.atI {K : PySem.W.Frag} {G : Hp} {xs : List V} {ds : List D} {i : Int} {d : D} (r : RpAll K G xs ds) (h : L2.atI ds i = some d) : ∃ v, L2.atI xs i = some v ∧ Rp K G v d := by
  unfold L2.atI at h ⊢
  rw [r.length]
  cases e : ixN ds.length i with
  | none => rw [e] at h; cases h
  | some j =>
    rw [e] at h
    exact r.getD h
theorem ixD_r2 {K : PySem.W.Frag} : R2P K (rIx K) gIx := by
  intro G H x y d e z Q s rx ry hz q
  unfold gIx at hz
  split at hz
  · cases rx with | lst g r =>
    cases ry
    obtain ⟨v, e1, e2⟩ := r.atI hz
    exact .inl ⟨_, _, _, _, rfl, rfl, SqL.of (s _ _ g), e1, q _ _ _ (Ext0.rfl s) e2⟩
  · cases rx with | tup g r =>
    cases ry
    obtain ⟨v, e1, e2⟩ := r.atI hz
    exact .inr (.inl ⟨_, _, _, _, rfl, rfl, s.seqT g, e1, q _ _ _ (Ext0.rfl s) e2⟩)
  · cases rx with | scr g r =>
    cases ry
    obtain ⟨v, e1, e2⟩ := r.atI hz
    exact .inl ⟨_, _, _, _, rfl, rfl, s.seqL g, e1, q _ _ _ (Ext0.rfl s) e2⟩
  · split at hz
    · rename_i hl
      cases rx; cases ry
      rename_i z' i
      cases e : L2.atI z'.cps.toList i with
      | none => rw [e] at hz; cases hz
      | some c =>
        rw [e] at hz
        cases hz
        exact .inr (.inr ⟨_, _, _, rfl, rfl, size_line hl, e, scal_ret s (fun _ => .str _) q⟩)
    · cases hz
  · cases hz
/-- a part of a slice -/
def optI : D → Option (Option Int)
  | .int i => some (some i)
  | .none => some none
  | _ => none
def cutL {α : Type} (xs : List α) (lo hi : Option Int) : List α := (xs.drop (HT.sIx xs.length 0 lo)).take (HT.sIx xs.length xs.length hi - HT.sIx xs.length 0 lo)
def gSl : D → Option Int → Option Int → Option D
  | .list xs, lo, hi => some (.list (cutL xs lo hi))
  | .tuple xs, lo, hi => some (.tuple (cutL xs lo hi))
  | .str z, lo, hi => if z.length ≤ 16777216 then some (.str (cutS z lo hi)) else none
  | _, _, _ => none
def rSlD (K : PySem.W.Frag) : V → Option Int → Option Int → Hp → VK → Prop := fun x lo hi H Q => (rSlL K x lo hi H Q ∨ rSlA K x lo hi H Q) ∨ rSlS x lo hi H Q
theorem sl_D {X : Cx} : SlR X (rSlD X.K) := (sl_list.or sl_tupA).or sl_str
theorem cut_whole {α : Type} {xs : List α} {lo hi : Option Int} (h : HT.sIx xs.length 0 lo = 0 ∧ HT.sIx xs.length xs.length hi = xs.length) : cutL xs lo hi = xs := by
  unfold cutL; rw [h.1, h.2]; simp
theorem RpAll.cut {K : PySem.W.Frag} {G : Hp} {xs : List V} {ds : List D} (r : RpAll K G xs ds) (lo hi : Option Int) : RpAll K G (cutV xs lo hi) (cutL ds lo hi) := by
  unfold cutV cutL
  rw [r.length]
  exact (r.drop _).take _
theorem slD_ok {K : PySem.W.Frag} {G H : Hp} {x : V} {d z : D} {lo hi : Option Int} {Q : VK} (s : Sub G H) (rx : Rp K G x d) (hz : gSl d lo hi = some z) (q : ∀ v G' H', Ext0 G H G' H' → Rp K G' v z → Q v H') : rSlD K x lo hi H Q := by
  unfold gSl at hz
  split at hz
  · cases hz
    cases rx with | lst g r =>
    refine .inl (.inl ⟨_, _, rfl, SqL.of (s _ _ g), fun p np => ?_⟩)
    exact q _ _ _ (Ext0.new s np) (.lst upd_same ((r.cut lo hi).mono (Sub.upd (s.none np))))
  · cases hz
    cases rx with | @tup a xs ds g r =>
    refine .inl (.inr ⟨_, _, rfl, s.seqT g, fun e => ?_, fun _ p np => ?_⟩)
    · rw [cut_whole (by rw [← r.length]; exact e)] at q
      exact q _ _ _ (Ext0.rfl s) (.tup g r)
    · exact q _ _ _ (Ext0.new s np) (.tup (SqT.of upd_same) ((r.cut lo hi).mono (Sub.upd (s.none np))))
  · split at hz
    · rename_i hl
      cases hz; cases rx
      exact .inr ⟨_, rfl, size_line hl, scal_ret s (fun _ => .str _) q⟩
    · cases hz
  · cases hz
def tOI (Γ : Gm) (W : WX) (m : M (Option Int)) : TO := fun σ H Q => ∃ G ρ, SR Γ.K G H σ ρ ∧
  (m ρ).Post (fun o ρ' => ∀ G' H', Stp Γ.K G H σ ρ G' H' σ ρ' → Q o H') (EW Γ W G H σ ρ)
theorem PO.imp {X : Cx} {e : Option Expr} {t t' : TO} (h : PO X e t) (k : ∀ σ H Q, t' σ H Q → t σ H Q) : PO X e t' := ⟨fun pins s σ H Q I q => h.run pins s σ H Q I (k _ _ _ q)⟩
def pNone : M (Option Int) := M.ret none
def pSome (m : M D) : M (Option Int) := m.bind fun d => match d with
  | .int i => M.ret (some i)
  | _ => M.fail
def eSl (me : M D) (ml mh : M (Option Int)) : M D := me.bind fun d => ml.bind fun lo => mh.bind fun hi => M.opt (gSl d lo hi)
section
variable {X : Cx} {Γ : Gm} {W : WX} {e : Expr} {pos p2 : Pos} {m : M D}
theorem dp_none : PO X none (tOI Γ W pNone) := PO.imp po_none fun σ H Q ⟨G, ρ, s, h⟩ => h G H (Stp.rfl s)
theorem dp_some (h : PE X e (tD Γ W m)) : PO X (some e) (tOI Γ W (pSome m)) := by
  refine PO.imp (po_some h) fun σ H Q ⟨G, ρ, s, h⟩ => ⟨G, ρ, s, (post_bind.mp h).imp (fun d ρ1 h1 v G1 H1 x1 r1 => ?_) fun _ _ e => e⟩
  cases d <;> try exact h1.elim
  cases r1
  exact ⟨_, rfl, h1 G1 H1 x1⟩
theorem de_slice {lo hi : Option Expr} {ml mh : M (Option Int)} (he : PE X e (tD Γ W m)) (hl : PO X lo (tOI Γ W ml)) (hh : PO X hi (tOI Γ W mh)) (hK : X.K = Γ.K := by rfl) : PE X (.Subscript e (.Slice lo hi none p2) pos) (tD Γ W (eSl m ml mh)) := by
  refine PE.imp (pe_slice (r := rSlD X.K) sl_D he hl hh) fun σ H Q ⟨G, ρ, s, h⟩ => ⟨G, ρ, s, (post_bind.mp h).imp (fun d ρ1 h1 v G1 H1 x1 r1 => ?_) fun _ _ e => e⟩
  refine ⟨G1, ρ1, x1.sr, (post_bind.mp h1).imp (fun lo ρ2 h2 G2 H2 x2 => ?_) fun c ρ' e => e.tr x1⟩
  refine ⟨G2, ρ2, x2.sr, (post_bind.mp h2).imp (fun hi ρ3 h3 G3 H3 x3 => ?_) fun c ρ' e => (e.tr x1).tr x2⟩
  obtain ⟨z, hz, q⟩ := opt_post h3
  rw [hK]
  exact slD_ok x3.sr.sub (r1.mono (x2.fr.ext.tr x3.fr.ext)) hz fun w G4 H4 x r => q w G4 H4 (((x1.tr x2).tr x3).tr (x3.sr.ext x)) r
end

/-! ### built-ins -/
def gLen : List D → Option D
  | [.list xs] => some (.int (xs.length : Nat))
  | [.tuple xs] => some (.int (xs.length : Nat))
  | [.dict [(.str _, .list xs)]] => some (.int (xs.length : Nat))
  | [.str z] => if z.length ≤ 16777216 then some (.int (z.length : Nat)) else none
  | _ => none
def rLenD (K : PySem.W.Frag) : List V → Hp → VK → Prop := fun xs H Q => (∃ p ys, xs = [.ref p] ∧ (SqL K H p ys ∨ SqT K H p ys) ∧ Q (.int ys.length) H) ∨ ∃ z, xs = [.str z] ∧ z.length ≤ sizeLine ∧ Q (.int z.length) H
theorem call_lenD {X : Cx} : CallR X (.builtin "len") (rLenD X.K) := call_len_seq.or call_len_str
theorem lenD_n {K : PySem.W.Frag} : RNP K (rLenD K) gLen := by
  intro G H xs ds z Q s r hz q
  unfold gLen at hz
  split at hz
  · cases hz
    cases r with | cons a b =>
    cases b
    cases a with | lst g r =>
    rw [← r.length] at q
    exact .inl ⟨_, _, rfl, .inl (SqL.of (s _ _ g)), scal_ret s (fun _ => .int _) q⟩
  · cases hz
    cases r with | cons a b =>
    cases b
    cases a with | tup g r =>
    rw [← r.length] at q
    exact .inl ⟨_, _, rfl, .inr (s.seqT g), scal_ret s (fun _ => .int _) q⟩
  · cases hz
    cases r with | cons a b =>
    cases b
    cases a with | scr g r =>
    rw [← r.length] at q
    exact .inl ⟨_, _, rfl, .inl (s.seqL g), scal_ret s (fun _ => .int _) q⟩
  · split at hz
    · rename_i hl
      cases hz
      cases r with | cons a b =>
      cases b; cases a
      exact .inr ⟨_, rfl, size_line hl, scal_ret s (fun _ => .int _) q⟩
    · cases hz
  · cases hz
def gAbs : List D → Option D
  | [.int i] => some (.int (if i < 0 then -i else i))
  | _ => none
theorem absD_n {K : PySem.W.Frag} : RNP K (fun xs H Q => ∃ i, xs = [.int i] ∧ Q (.int (if i < 0 then -i else i)) H) gAbs := by
  intro G H xs ds z Q s r hz q
  unfold gAbs at hz
  split at hz
  · cases hz
    cases r with | cons a b =>
    cases b; cases a
    exact ⟨_, rfl, scal_ret s (fun _ => .int _) q⟩
  · cases hz
/-- the ints of a list -/
def intsOf : List D → Option (List Int)
  | [] => some []
  | .int i :: r => (intsOf r).map (i :: ·)
  | _ => none
theorem intsOf_eq : ∀ {ds : List D} {ns : List Int}, intsOf ds = some ns → ds = ns.map PyData.int
  | [], _, h => by cases h; rfl
  | .int i :: r, ns, h => by
    have h' : (intsOf r).map (i :: ·) = some ns := h
    cases e : intsOf r with
    | none => rw [e] at h'; cases h'
    | some ms =>
      rw [e] at h'
      cases h'
      rw [intsOf_eq e]; rfl
  | .none :: _, _, h => by cases h
  | .bool _ :: _, _, h => by cases h
  | .str _ :: _, _, h => by cases h
  | .list _ :: _, _, h => by cases h
  | .tuple _ :: _, _, h => by cases h
  | .dict _ :: _, _, h => by cases h
theorem intsOf_map : ∀ ns : List Int, intsOf (ns.map PyData.int) = some ns
  | [] => rfl
  | n :: ns => by simp [intsOf, intsOf_map ns]
def maxI : List Int → Option Int
  | [] => none
  | x :: r => some (r.foldl (fun a b => if b > a then b else a) x)
def minI : List Int → Option Int
  | [] => none
  | x :: r => some (r.foldl (fun a b => if b < a then b else a) x)
def gMax : List D → Option D
  | [.int i, .int j] => some (.int (if j > i then j else i))
  | [.list xs] => (intsOf xs).bind fun ns => (maxI ns).map .int
  | _ => none
def gMin : List D → Option D
  | [.int i, .int j] => some (.int (if j < i then j else i))
  | [.list xs] => (intsOf xs).bind fun ns => (minI ns).map .int
  | _ => none
theorem foldl_max (r : List Int) : ∀ x : Int, (r.foldl (fun a b => if b > a then b else a) x) ∈ x :: r ∧ ∀ y ∈ x :: r, y ≤ r.foldl (fun a b => if b > a then b else a) x := by
  induction r with
  | nil => intro x; simp
  | cons y r ih =>
    intro x
    rw [List.foldl_cons]
    obtain ⟨h1, h2⟩ := ih (if y > x then y else x)
    refine ⟨?_, fun z hz => ?_⟩
    · rcases List.mem_cons.mp h1 with e | e
      · rw [e]; split <;> simp
      · simp [e]
    · have h3 := h2 _ List.mem_cons_self
      rcases List.mem_cons.mp hz with e | e
      · subst e
        refine Int.le_trans ?_ h3
        split <;> omega
      · rcases List.mem_cons.mp e with e | e
        · subst e
          refine Int.le_trans ?_ h3
          split <;> omega
        · exact h2 _ (List.mem_cons_of_mem _ e)
theorem foldl_min (r : List Int) : ∀ x : Int, (r.foldl (fun a b => if b < a then b else a) x) ∈ x :: r ∧ ∀ y ∈ x :: r, r.foldl (fun a b => if b < a then b else a) x ≤ y := by
  induction r with
  | nil => intro x; simp
  | cons y r ih =>
    intro x
    rw [List.foldl_cons]
    obtain ⟨h1, h2⟩ := ih (if y < x then y else x)
    refine ⟨?_, fun z hz => ?_⟩
    · rcases List.mem_cons.mp h1 with e | e
      · rw [e]; split <;> simp
      · simp [e]
    · have h3 := h2 _ List.mem_cons_self
      rcases List.mem_cons.mp hz with e | e
      · subst e
        refine Int.le_trans h3 ?_
        split <;> omega
      · rcases List.mem_cons.mp e with e | e
        · subst e
          refine Int.le_trans h3 ?_
          split <;> omega
        · exact h2 _ (List.mem_cons_of_mem _ e)
def rMaxD (K : PySem.W.Frag) : List V → Hp → VK → Prop := fun xs H Q => (∃ i j, xs = [.int i, .int j] ∧ Q (.int (if j > i then j else i)) H) ∨ L2.rMax K xs H Q
def rMinD (K : PySem.W.Frag) : List V → Hp → VK → Prop := fun xs H Q => (∃ i j, xs = [.int i, .int j] ∧ Q (.int (if j < i then j else i)) H) ∨ L2.rMin K xs H Q
theorem call_maxD {X : Cx} (hc : X.calm = true) : CallR X (.builtin "max") (rMaxD X.K) := (call_max2 hc).or (cr_max hc)
theorem call_minD {X : Cx} (hc : X.calm = true) : CallR X (.builtin "min") (rMinD X.K) := (call_min2 hc).or (cr_min hc)
theorem maxD_n {K : PySem.W.Frag} : RNP K (rMaxD K) gMax := by
  intro G H xs ds z Q s r hz q
  unfold gMax at hz
  split at hz
  · cases hz
    cases r with | cons a b =>
    cases b with | cons b c =>
    cases c; cases a; cases b
    exact .inl ⟨_, _, rfl, scal_ret s (fun _ => .int _) q⟩
  · rename_i xs'
    cases e : intsOf xs' with
    | none => rw [e] at hz; cases hz
    | some ns =>
      rw [e] at hz
      have e2 := intsOf_eq e
      subst e2
      cases r with | cons a b =>
      cases b
      cases a with | lst g r =>
      have e3 := r.ints
      subst e3
      cases ns with
      | nil => cases hz
      | cons x r' =>
        cases hz
        refine .inr ⟨_, _, rfl, SqL.of (s _ _ g), Nat.succ_pos _, fun m hm hle => ?_⟩
        obtain ⟨h1, h2⟩ := foldl_max r' x
        have : m = r'.foldl (fun a b => if b > a then b else a) x := Int.le_antisymm (h2 m hm) (hle _ h1)
        rw [this]
        exact scal_ret s (fun _ => .int _) q
  · cases hz
theorem minD_n {K : PySem.W.Frag} : RNP K (rMinD K) gMin := by
  intro G H xs ds z Q s r hz q
  unfold gMin at hz
  split at hz
  · cases hz
    cases r with | cons a b =>
    cases b with | cons b c =>
    cases c; cases a; cases b
    exact .inl ⟨_, _, rfl, scal_ret s (fun _ => .int _) q⟩
  · rename_i xs'
    cases e : intsOf xs' with
    | none => rw [e] at hz; cases hz
    | some ns =>
      rw [e] at hz
      have e2 := intsOf_eq e
      subst e2
      cases r with | cons a b =>
      cases b
      cases a with | lst g r =>
      have e3 := r.ints
      subst e3
      cases ns with
      | nil => cases hz
      | cons x r' =>
        cases hz
        refine .inr ⟨_, _, rfl, SqL.of (s _ _ g), Nat.succ_pos _, fun m hm hle => ?_⟩
        obtain ⟨h1, h2⟩ := foldl_min r' x
        have : m = r'.foldl (fun a b => if b < a then b else a) x := Int.le_antisymm (hle _ h1) (h2 m hm)
        rw [this]
        exact scal_ret s (fun _ => .int _) q
  · cases hz
def gSum : List D → Option D
  | [.list xs] => (intsOf xs).map fun ns => .int ns.sum
  | _ => none
theorem sumD_n {K : PySem.W.Frag} : RNP K (L2.rSum K) gSum := by
  intro G H xs ds z Q s r hz q
  unfold gSum at hz
  split at hz
  · rename_i xs'
    cases e : intsOf xs' with
    | none => rw [e] at hz; cases hz
    | some ns =>
      rw [e] at hz
      cases hz
      have e2 := intsOf_eq e
      subst e2
      cases r with | cons a b =>
      cases b
      cases a with | lst g r =>
      have e3 := r.ints
      subst e3
      exact ⟨_, _, rfl, SqL.of (s _ _ g), scal_ret s (fun _ => .int _) q⟩
  · cases hz
/-- the bools of a list -/
def blsOf : List D → Option (List Bool)
  | [] => some []
  | .bool i :: r => (blsOf r).map (i :: ·)
  | _ => none
theorem blsOf_eq : ∀ {ds : List D} {ns : List Bool}, blsOf ds = some ns → ds = ns.map PyData.bool
  | [], _, h => by cases h; rfl
  | .bool i :: r, ns, h => by
    have h' : (blsOf r).map (i :: ·) = some ns := h
    cases e : blsOf r with
    | none => rw [e] at h'; cases h'
    | some ms =>
      rw [e] at h'
      cases h'
      rw [blsOf_eq e]; rfl
  | .none :: _, _, h => by cases h
  | .int _ :: _, _, h => by cases h
  | .str _ :: _, _, h => by cases h
  | .list _ :: _, _, h => by cases h
  | .tuple _ :: _, _, h => by cases h
  | .dict _ :: _, _, h => by cases h
theorem blsOf_map : ∀ ns : List Bool, blsOf (ns.map PyData.bool) = some ns
  | [] => rfl
  | n :: ns => by simp [blsOf, blsOf_map ns]
def gAll : List D → Option D
  | [.list xs] => (blsOf xs).map fun ns => .bool (ns.all id)
  | _ => none
def gAny : List D → Option D
  | [.list xs] => (blsOf xs).map fun ns => .bool (ns.any id)
  | _ => none
theorem allD_n {K : PySem.W.Frag} : RNP K (L2.rAll K) gAll := by
  intro G H xs ds z Q s r hz q
  unfold gAll at hz
  split at hz
  · rename_i xs'
    cases e : blsOf xs' with
    | none => rw [e] at hz; cases hz
    | some ns =>
      rw [e] at hz
      cases hz
      have e2 := blsOf_eq e
      subst e2
      cases r with | cons a b =>
      cases b
      cases a with | lst g r =>
      have e3 := r.bls
      subst e3
      exact ⟨_, _, rfl, SqL.of (s _ _ g), scal_ret s (fun _ => .bl _) q⟩
  · cases hz
theorem anyD_n {K : PySem.W.Frag} : RNP K (L2.rAny K) gAny := by
  intro G H xs ds z Q s r hz q
  unfold gAny at hz
  split at hz
  · rename_i xs'
    cases e : blsOf xs' with
    | none => rw [e] at hz; cases hz
    | some ns =>
      rw [e] at hz
      cases hz
      have e2 := blsOf_eq e
      subst e2
      cases r with | cons a b =>
      cases b
      cases a with | lst g r =>
      have e3 := r.bls
      subst e3
      exact ⟨_, _, rfl, SqL.of (s _ _ g), scal_ret s (fun _ => .bl _) q⟩
  · cases hz
/-- sorted of ints -/
def insI (x : Int) : List Int → List Int
  | [] => [x]
  | y :: r => if x ≤ y then x :: y :: r else y :: insI x r
def sortI : List Int → List Int
  | [] => []
  | x :: r => insI x (sortI r)
theorem insI_perm (x : Int) : ∀ l, (insI x l).Perm (x :: l)
  | [] => List.Perm.refl _
  | y :: r => by
    unfold insI
    split
    · exact List.Perm.refl _
    · exact ((insI_perm x r).cons y).trans (List.Perm.swap x y r)
theorem sortI_perm : ∀ l, (sortI l).Perm l
  | [] => List.Perm.refl _
  | x :: r => (insI_perm x _).trans ((sortI_perm r).cons x)
theorem insI_sorted (x : Int) : ∀ l, l.Pairwise (· ≤ ·) → (insI x l).Pairwise (· ≤ ·)
  | [], _ => by simp [insI]
  | y :: r, h => by
    unfold insI
    split
    · rename_i hxy
      refine List.pairwise_cons.mpr ⟨fun z hz => ?_, h⟩
      rcases List.mem_cons.mp hz with e | e
      · subst e; exact hxy
      · exact Int.le_trans hxy ((List.pairwise_cons.mp h).1 z e)
    · rename_i hxy
      refine List.pairwise_cons.mpr ⟨fun z hz => ?_, insI_sorted x r (List.pairwise_cons.mp h).2⟩
      rcases List.mem_cons.mp ((insI_perm x r).mem_iff.mp hz) with e | e
      · subst e; omega
      · exact (List.pairwise_cons.mp h).1 z e
theorem sortI_sorted : ∀ l, (sortI l).Pairwise (· ≤ ·)
  | [] => .nil
  | x :: r => insI_sorted x _ (sortI_sorted r)
theorem sorted_eq {l m : List Int} (p : l.Perm m) (h1 : l.Pairwise (· ≤ ·)) (h2 : m.Pairwise (· ≤ ·)) : l = m := by
  induction l generalizing m with
  | nil => exact (List.Perm.nil_eq p)
  | cons x r ih =>
    cases m with
    | nil => exact absurd p.symm.nil_eq (by simp)
    | cons y t =>
      have hx : x ∈ y :: t := p.mem_iff.mp List.mem_cons_self
      have hy : y ∈ x :: r := p.mem_iff.mpr List.mem_cons_self
      have e : x = y := by
        rcases List.mem_cons.mp hx with e | e
        · exact e
        · rcases List.mem_cons.mp hy with e' | e'
          · exact e'.symm
          · exact Int.le_antisymm ((List.pairwise_cons.mp h1).1 y e') ((List.pairwise_cons.mp h2).1 x e)
      subst e
      rw [ih (List.Perm.cons_inv p) (List.pairwise_cons.mp h1).2 (List.pairwise_cons.mp h2).2]
def gSortI : List D → Option D
  | [.list xs] => (intsOf xs).map fun ns => .list ((sortI ns).map .int)
  | _ => none
theorem sortI_n {K : PySem.W.Frag} : RNP K (L2.rSortedI K) gSortI := by
  intro G H xs ds z Q s r hz q
  unfold gSortI at hz
  split at hz
  · rename_i xs'
    cases e : intsOf xs' with
    | none => rw [e] at hz; cases hz
    | some ns =>
      rw [e] at hz
      cases hz
      have e2 := intsOf_eq e
      subst e2
      cases r with | cons a b =>
      cases b
      cases a with | lst g r =>
      have e3 := r.ints
      subst e3
      refine ⟨_, _, rfl, SqL.of (s _ _ g), fun ns' p hp hs np => ?_⟩
      have e4 := sorted_eq (hp.trans (sortI_perm ns).symm) hs (sortI_sorted ns)
      subst e4
      have x := Ext0.new (o := .lst ((sortI ns).map V.int)) s np
      exact q _ _ _ x (.lst upd_same (RpAll.of_ints _))
  · cases hz
def gTuple : List D → Option D
  | [.list xs] => some (.tuple xs)
  | [.tuple xs] => some (.tuple xs)
  | _ => none
theorem tupleD_n {K : PySem.W.Frag} : RNP K (fun xs H Q => ∃ p ys, xs = [.ref p] ∧ ((SqL K H p ys ∧ ∀ l, H l = none → Q (.ref l) (upd H l (.tup ys))) ∨ (SqT K H p ys ∧ Q (.ref p) H))) gTuple := by
  intro G H xs ds z Q s r hz q
  unfold gTuple at hz
  split at hz
  · cases hz
    cases r with | cons a b =>
    cases b
    cases a with | lst g r =>
    refine ⟨_, _, rfl, .inl ⟨SqL.of (s _ _ g), fun p np => ?_⟩⟩
    exact q _ _ _ (Ext0.new s np) (.tup (SqT.of upd_same) (r.mono (Sub.upd (s.none np))))
  · cases hz
    cases r with | cons a b =>
    cases b
    cases a with | tup g r =>
    exact ⟨_, _, rfl, .inr ⟨s.seqT g, q _ _ _ (Ext0.rfl s) (.tup g r)⟩⟩
  · cases hz
def gList : List D → Option D
  | [.list xs] => some (.list xs)
  | [.tuple xs] => some (.list xs)
  | _ => none
theorem listD_n {K : PySem.W.Frag} : RNP K (fun xs H Q => ∃ p ys, xs = [.ref p] ∧ (SqL K H p ys ∨ SqT K H p ys) ∧ ∀ l, H l = none → Q (.ref l) (upd H l (.lst ys))) gList := by
  intro G H xs ds z Q s r hz q
  unfold gList at hz
  split at hz
  · cases hz
    cases r with | cons a b =>
    cases b
    cases a with | lst g r =>
    refine ⟨_, _, rfl, .inl (SqL.of (s _ _ g)), fun p np => ?_⟩
    exact q _ _ _ (Ext0.new s np) (.lst upd_same (r.mono (Sub.upd (s.none np))))
  · cases hz
    cases r with | cons a b =>
    cases b
    cases a with | tup g r =>
    refine ⟨_, _, rfl, .inr (s.seqT g), fun p np => ?_⟩
    exact q _ _ _ (Ext0.new s np) (.lst upd_same (r.mono (Sub.upd (s.none np))))
  · cases hz
def gInt : List D → Option D
  | [.int i] => some (.int i)
  | [.bool b] => some (.int (if b then 1 else 0))
  | _ => none
theorem intD_n {K : PySem.W.Frag} : RNP K (fun xs H Q => (∃ i, xs = [.int i] ∧ Q (.int i) H) ∨ ∃ k, xs = [.bl k] ∧ Q (.int (if k then 1 else 0)) H) gInt := by
  intro G H xs ds z Q s r hz q
  unfold gInt at hz
  split at hz
  · cases hz
    cases r with | cons a b =>
    cases b; cases a
    exact .inl ⟨_, rfl, scal_ret s (fun _ => .int _) q⟩
  · cases hz
    cases r with | cons a b =>
    cases b; cases a
    exact .inr ⟨_, rfl, scal_ret s (fun _ => .int _) q⟩
  · cases hz

/-! ### repr -/
def reprD (d : D) : Option D := if d.showable && decide (d.depth ≤ 64) && decide (d.shown.length ≤ 16777216) && d.canLay0 then some (.str d.shown) else none
def gRepr : List D → Option D
  | [d] => reprD d
  | _ => none
def rReprD (K : PySem.W.Frag) : List V → Hp → VK → Prop := fun xs H Q => ∃ v d, xs = [v] ∧ Dp K H v d ∧ d.showable = true ∧ d.depth ≤ 64 ∧ d.shown.length ≤ sizeLine ∧ d.hasDict = false ∧ Q (.str d.shown) H
theorem call_reprD {X : Cx} (hgd : X.A.guards = some []) (hu : X.A.units + 65 < cLine) : CallR X (.builtin "repr") (rReprD X.K) := by
  intro pins s σ H xs us Q I r h
  obtain ⟨v, d, rfl, dp, hs, hd, hl, hn, q⟩ := h
  obtain ⟨u, rfl, ru⟩ := vals1 r
  obtain ⟨as, rd⟩ := Dp.reads I d v u dp ru
  have keep : ∀ h' tk, (∀ b o, s.heap.get? b = some o → h'.get? b = some o) → Inv X pins σ H { s with heap := h', toks := tk } := fun h' tk k => I.kept k
  cases rd with
  | none => simp only [PyData.shown] at q; exact PySem.P.repr_of_none ⟨.str _, H, I.tok _, ⟨_, rfl⟩, q⟩
  | bool b => simp only [PyData.shown] at q; exact PySem.P.repr_of_bool ⟨.str _, H, I.tok _, ⟨_, rfl⟩, q⟩
  | int i t => simp only [PyData.shown] at q; exact PySem.P.repr_of_int (by simpa [PyData.showable] using hs) ⟨.str _, H, I.tok _, ⟨_, rfl⟩, q⟩
  | str x t => simp only [PyData.shown] at q hl; exact PySem.P.repr_of_str ⟨.str _, H, I.tok _, ⟨_, rfl⟩, q⟩ hl
  | list h1 h2 h3 h4 => exact repr_of_reads' (.list h1 h2 h3 h4) hs (fun z => by rw [hn] at z; cases z) hgd (by omega) (fun _ _ e => e) (fun h' u tk k => ⟨.str _, H, keep h' tk k, ⟨_, rfl⟩, q⟩) hl
  | tuple h1 h2 h3 h4 => exact repr_of_reads' (.tuple h1 h2 h3 h4) hs (fun z => by rw [hn] at z; cases z) hgd (by omega) (fun _ _ e => e) (fun h' u tk k => ⟨.str _, H, keep h' tk k, ⟨_, rfl⟩, q⟩) hl
  | dict _ _ _ _ _ => simp [PyData.hasDict] at hn
theorem reprD_n {K : PySem.W.Frag} : RNP K (rReprD K) gRepr := by
  intro G H xs ds z Q s r hz q
  unfold gRepr at hz
  split at hz
  · rename_i d
    unfold reprD at hz
    split at hz
    · rename_i hc
      cases hz
      simp only [Bool.and_eq_true, decide_eq_true_eq] at hc
      obtain ⟨⟨⟨c1, c2⟩, c3⟩, c4⟩ := hc
      cases r with | cons a b =>
      cases b
      exact ⟨_, d, rfl, (a.mono s).dp c4, c1, c2, size_line c3, PyData.hasDict_of_canLay d c4, scal_ret s (fun _ => .str _) q⟩
    · cases hz
  · cases hz
end DL

/-! DLh: a slot's own list read and changed; isinstance; zip, enumerate. -/
namespace DL
open PySem PySem.Spec L2

section
variable {K : PySem.W.Frag} {G H : Hp} {σ : St} {ρ : Rho}
/-- the own object of a slot is changed -/
theorem SR.updO (s : SR K G H σ ρ) {i : Nat} {a : Addr} {c c' : OC} {u' : HO} (h : ρ[i]? = some (.own c)) (hσ : σ[i]? = some (some (.ref a))) (ok : OcOk K G c' u') :
    Stp K G H σ ρ G (upd H a u') σ (ρ.set i (.own c')) := by
  obtain ⟨a', u, e1, e2, e3, e4⟩ := s.own h
  rw [hσ] at e1; cases e1
  have hi : i < ρ.length := by
    cases Nat.lt_or_ge i ρ.length with
    | inl z => exact z
    | inr z => rw [List.getElem?_eq_none z] at h; cases h
  have back : ∀ j b, OwnAt σ (ρ.set i (.own c')) j b → OwnAt σ ρ j b := fun j b ⟨c2, f1, f2⟩ => by
    by_cases q : i = j
    · subst q; exact ⟨c, h, f2⟩
    · rw [List.getElem?_set_ne q] at f1; exact ⟨c2, f1, f2⟩
  refine ⟨⟨fun b o e => ?_, by rw [List.length_set]; exact s.len, fun j t e => ?_, fun j k b x y => s.sep j k b (back j b x) (back k b y)⟩, ⟨Sub.rfl, fun b o e n => ?_, fun _ _ _ g _ => g⟩, fun b ⟨j, x⟩ => .inl ⟨j, back j b x⟩⟩
  · rw [upd_ne (ne_of_none e e2)]; exact s.sub b o e
  · by_cases q : i = j
    · subst q
      rw [List.getElem?_set_self hi] at e
      cases e
      exact ⟨a, u', hσ, e2, upd_same, ok⟩
    · rw [List.getElem?_set_ne q] at e
      have z := s.ok j t e
      cases t with
      | un => trivial
      | fz d => exact z
      | own c2 =>
        obtain ⟨b, w, x1, x2, x3, x4⟩ := z
        refine ⟨b, w, x1, x2, ?_, x4⟩
        rw [upd_ne]
        · exact x3
        · intro z; subst z
          exact q (s.sep i j b ⟨c, h, hσ⟩ ⟨c2, e, x1⟩)
  · rw [upd_ne]
    · exact e
    · intro z; subst z
      exact n ⟨i, c, h, hσ⟩
/-- an own list -/
theorem SR.ownL (s : SR K G H σ ρ) {i : Nat} {ds : List D} (h : ρ[i]? = some (.own (.lst ds))) : ∃ a vs, σ[i]? = some (some (.ref a)) ∧ H a = some (.lst vs) ∧ RpAll K G vs ds := by
  obtain ⟨a, u, e1, e2, e3, e4⟩ := s.own h
  cases e4 with
  | lst r => exact ⟨a, _, e1, e3, r⟩
end

/-! ### own lists, read -/
def onSlot {α : Type} (i : Nat) (f : D → M α) (g : M α) : M α := fun ρ => match ρ[i]? with
  | some (.fz d) => f d ρ
  | some (.own (.lst _)) => g ρ
  | _ => .bad
def slotL {α : Type} (i : Nat) (f : List D → M α) : M α := fun ρ => match ρ[i]? with
  | some (.own (.lst ds)) => f ds ρ
  | _ => .bad
/-- x[e], x a slot -/
def eIxP (i : Nat) (mb : M D) : M D := onSlot i (fun d => mb.bind fun k => M.opt (gIx d k)) (mb.bind fun k => slotL i fun ds => M.opt (gIx (.list ds) k))
/-- len(x) -/
def eLenP (i : Nat) : M D := onSlot i (fun d => M.opt (gLen [d])) (slotL i fun ds => M.ret (.int (ds.length : Nat)))
def eCmpP (g : D → D → Option D) (i : Nat) (mb : M D) : M D := onSlot i (fun d => mb.bind fun k => M.opt (g d k)) (mb.bind fun k => slotL i fun ds => M.opt (g (.list ds) k))
def eInP (g : D → D → Option D) (ma : M D) (i : Nat) : M D := ma.bind fun k => onSlot i (fun d => M.opt (g k d)) (slotL i fun ds => M.opt (g k (.list ds)))
section
variable {X : Cx} {Γ : Gm} {W : WX} {P : List Nat} {pos : Pos} {i : Nat} {x : Str} {px : Pos} {b : Expr} {mb : M D}
theorem onSlot_post {α : Type} {f : D → M α} {g : M α} {ρ : Rho} {Q : α → Rho → Prop} {E : Exc → Rho → Prop} (h : (onSlot i f g ρ).Post Q E) :
    (∃ d, ρ[i]? = some (.fz d) ∧ (f d ρ).Post Q E) ∨ (∃ ds, ρ[i]? = some (.own (.lst ds)) ∧ (g ρ).Post Q E) := by
  unfold onSlot at h
  split at h
  · exact .inl ⟨_, by assumption, h⟩
  · exact .inr ⟨_, by assumption, h⟩
  · exact h.elim
theorem slotL_post {α : Type} {f : List D → M α} {ρ : Rho} {Q : α → Rho → Prop} {E : Exc → Rho → Prop} (h : (slotL i f ρ).Post Q E) : ∃ ds, ρ[i]? = some (.own (.lst ds)) ∧ (f ds ρ).Post Q E := by
  unfold slotL at h
  split at h
  · exact ⟨_, by assumption, h⟩
  · exact h.elim
theorem de_ixP (hx : PE X (.Name x px) (tVar i)) (hb : PE X b (tD Γ W mb)) (hs : PlainIx b) (hK : X.K = Γ.K := by rfl) : PE X (.Subscript (.Name x px) b pos) (tD Γ W (eIxP i mb)) := by
  refine PE.imp (pe_ix (r := rIx X.K) ix_seq hx hb hs) fun σ H Q ⟨G, ρ, s, h⟩ => ?_
  rw [hK]
  rcases onSlot_post h with ⟨d, e, h⟩ | ⟨ds0, e, h⟩
  · obtain ⟨v, e1, e2⟩ := s.fz e
    refine ⟨v, e1, G, ρ, s, (post_bind.mp h).imp (fun k ρ2 h2 u G2 H2 x2 r2 => ?_) fun _ _ e => e⟩
    obtain ⟨z, hz, q⟩ := opt_post h2
    exact ixD_r2 G2 H2 v u d k z Q x2.sr.sub (e2.mono x2.fr.ext) r2 hz fun w G3 H3 x r3 => q w G3 H3 (x2.tr (x2.sr.ext x)) r3
  · obtain ⟨a, vs, e1, e2, _⟩ := s.ownL e
    refine ⟨.ref a, e1, G, ρ, s, (post_bind.mp h).imp (fun k ρ2 h2 u G2 H2 x2 r2 => ?_) fun _ _ e => e⟩
    obtain ⟨ds, f, h3⟩ := slotL_post h2
    obtain ⟨z, hz, q⟩ := opt_post h3
    obtain ⟨a', vs', g1, g2, g3⟩ := x2.sr.ownL f
    rw [e1] at g1; cases g1
    unfold gIx at hz
    split at hz <;> rename_i heq
    · cases heq
      cases r2
      obtain ⟨w, f1, f2⟩ := g3.atI hz
      exact .inl ⟨_, _, _, _, rfl, rfl, SqL.of g2, f1, q w G2 H2 x2 f2⟩
    · cases heq
    · cases heq
    · cases heq
    · cases hz
theorem de_lenP {p : Pos} (hg : Gl X "len") (hm : X.mg "len" = none) (hx : PE X (.Name x px) (tVar i)) (hK : X.K = Γ.K := by rfl) (he : starEach [.Name x px] X.env = (false, eval (.Name x px) X.env) :: starEach [] X.env := by rfl) : PE X (.Call (.Name "len" p) [.Name x px] [] pos) (tD Γ W (eLenP i)) := by
  refine PE.imp (pe_callB (r := rLenD X.K) call_lenD hg hm boot_len (pa_cons hx pa_nil)) fun σ H Q ⟨G, ρ, s, h⟩ => ?_
  rw [hK]
  rcases onSlot_post h with ⟨d, e, h⟩ | ⟨ds0, e, h⟩
  · obtain ⟨v, e1, e2⟩ := s.fz e
    obtain ⟨z, hz, q⟩ := opt_post h
    exact ⟨v, e1, lenD_n G H [v] [d] z Q s.sub (.cons e2 .nil) hz fun w G3 H3 x r3 => q w G3 H3 (s.ext x) r3⟩
  · obtain ⟨a, vs, e1, e2, r⟩ := s.ownL e
    obtain ⟨ds, f, h3⟩ := slotL_post h
    rw [e] at f; cases f
    exact ⟨.ref a, e1, .inl ⟨_, _, rfl, .inl (SqL.of e2), by rw [r.length]; exact h3 _ G H (Stp.rfl s) (.int _)⟩⟩
theorem bool_any {K : PySem.W.Frag} {G G' : Hp} {v : V} {b : Bool} (r : Rp K G v (.bool b)) : Rp K G' v (.bool b) := by cases r; exact .bl b
def boolR (g : D → D → Option D) : Prop := ∀ d e z, g d e = some z → ∃ b, z = .bool b
theorem gEq_bool : boolR gEq := fun d e z h => by
  unfold gEq at h; split at h <;> cases h; exact ⟨_, rfl⟩
theorem gNe_bool : boolR gNe := fun d e z h => by
  unfold gNe at h; split at h <;> cases h; exact ⟨_, rfl⟩
theorem gIn_bool : boolR gIn := fun d e z h => by
  unfold gIn at h
  cases q : memD d e with
  | none => rw [q] at h; cases h
  | some b => rw [q] at h; cases h; exact ⟨_, rfl⟩
theorem gNotIn_bool : boolR gNotIn := fun d e z h => by
  unfold gNotIn at h
  cases q : memD d e with
  | none => rw [q] at h; cases h
  | some b => rw [q] at h; cases h; exact ⟨_, rfl⟩
theorem cmpP_read {r : R2} {g : D → D → Option D} (hr : R2P Γ.K r g) (hgb : boolR g) {σ : St} {H : Hp} {Q : VK} (h : tD Γ W (eCmpP g i mb) σ H Q) : tOp r (tVar i) (tD Γ W mb) σ H Q := by
  obtain ⟨G, ρ, s, h⟩ := h
  rcases onSlot_post h with ⟨d, e, h⟩ | ⟨ds0, e, h⟩
  · obtain ⟨v, e1, e2⟩ := s.fz e
    refine ⟨v, e1, G, ρ, s, (post_bind.mp h).imp (fun k ρ2 h2 u G2 H2 x2 r2 => ?_) fun _ _ e => e⟩
    obtain ⟨z, hz, q⟩ := opt_post h2
    exact hr G2 H2 v u d k z Q x2.sr.sub (e2.mono x2.fr.ext) r2 hz fun w G3 H3 x r3 => q w G3 H3 (x2.tr (x2.sr.ext x)) r3
  · obtain ⟨a, vs, e1, e2, _⟩ := s.ownL e
    refine ⟨.ref a, e1, G, ρ, s, (post_bind.mp h).imp (fun k ρ2 h2 u G2 H2 x2 r2 => ?_) fun _ _ e => e⟩
    obtain ⟨ds, f, h3⟩ := slotL_post h2
    obtain ⟨z, hz, q⟩ := opt_post h3
    obtain ⟨a', vs', g1, g2, g3⟩ := x2.sr.ownL f
    rw [e1] at g1; cases g1
    refine hr H2 H2 (.ref a) u (.list ds) k z Q Sub.rfl (.lst g2 (g3.mono x2.sr.sub)) (r2.mono x2.sr.sub) hz fun w G3 H3 x r3 => ?_
    obtain ⟨bb, rfl⟩ := hgb _ _ _ hz
    have y : Ext0 G2 H2 G2 H3 := ⟨Sub.rfl, x.h, x2.sr.sub.tr x.h, fun _ _ _ g => g⟩
    exact q w G2 H3 (x2.tr (x2.sr.ext y)) (bool_any r3)
theorem inP_read {r : R2} {g : D → D → Option D} (hr : R2P Γ.K r g) (hgb : boolR g) {σ : St} {H : Hp} {Q : VK} (h : tD Γ W (eInP g mb i) σ H Q) : tOp r (tD Γ W mb) (tVar i) σ H Q := by
  obtain ⟨G, ρ, s, h⟩ := h
  refine ⟨G, ρ, s, (post_bind.mp h).imp (fun k ρ2 h2 u G2 H2 x2 r2 => ?_) fun _ _ e => e⟩
  rcases onSlot_post h2 with ⟨d, e, h⟩ | ⟨ds0, e, h⟩
  · obtain ⟨v, e1, e2⟩ := x2.sr.fz e
    obtain ⟨z, hz, q⟩ := opt_post h
    exact ⟨v, e1, hr G2 H2 u v k d z Q x2.sr.sub r2 e2 hz fun w G3 H3 x r3 => q w G3 H3 (x2.tr (x2.sr.ext x)) r3⟩
  · obtain ⟨a, vs, e1, e2, rr⟩ := x2.sr.ownL e
    obtain ⟨ds, f, h3⟩ := slotL_post h
    rw [e] at f; cases f
    obtain ⟨z, hz, q⟩ := opt_post h3
    refine ⟨.ref a, e1, hr H2 H2 u (.ref a) k (.list ds0) z Q Sub.rfl (r2.mono x2.sr.sub) (.lst e2 (rr.mono x2.sr.sub)) hz fun w G3 H3 x r3 => ?_⟩
    obtain ⟨bb, rfl⟩ := hgb _ _ _ hz
    have y : Ext0 G2 H2 G2 H3 := ⟨Sub.rfl, x.h, x2.sr.sub.tr x.h, fun _ _ _ g => g⟩
    exact q w G2 H3 (x2.tr (x2.sr.ext y)) (bool_any r3)
theorem de_cmpP {op : CmpOp} {r : R2} {g : D → D → Option D} (ho : OpR X (compareOp op) r) (hr : R2P Γ.K r g) (hgb : boolR g) (hx : PE X (.Name x px) (tVar i)) (hb : PE X b (tD Γ W mb)) (hm : behindInMarks op b = false) : PE X (.Compare (.Name x px) [op] [b] pos) (tD Γ W (eCmpP g i mb)) :=
  PE.imp (pe_cmpR ho hx hb hm) fun σ H Q h => cmpP_read hr hgb h
theorem de_inP {op : CmpOp} {r : R2} {g : D → D → Option D} (ho : OpR X (compareOp op) r) (hr : R2P Γ.K r g) (hgb : boolR g) (hx : PE X (.Name x px) (tVar i)) (hb : PE X b (tD Γ W mb)) (hm : behindInMarks op (.Name x px) = false) : PE X (.Compare b [op] [.Name x px] pos) (tD Γ W (eInP g mb i)) :=
  PE.imp (pe_cmpR ho hb hx hm) fun σ H Q h => inP_read hr hgb h
/-- a comparison that is known as a value, as a test -/
theorem tD_bool {m : M D} {σ : St} {H : Hp} {Q : Bool → Hp → Prop} (h : tT Γ W (asB m) σ H Q) : tD Γ W m σ H fun v H' => ∃ k, v = .bl k ∧ Q k H' := by
  obtain ⟨G, ρ, s, h⟩ := h
  refine ⟨G, ρ, s, (asB_post h).imp (fun d ρ1 ⟨k, ek, h1⟩ v G1 H1 x1 r1 => ?_) fun c ρ' e => e⟩
  subst ek
  cases r1
  exact ⟨k, rfl, h1 _ _ x1⟩
theorem dt_cmpP {op : CmpOp} {r : R2} {g : D → D → Option D} (ho : OpR X (compareOp op) r) (hr : R2P Γ.K r g) (hgb : boolR g) (hx : PE X (.Name x px) (tVar i)) (hb : PE X b (tD Γ W mb)) (hm : behindInMarks op b = false) : PT X (.Compare (.Name x px) [op] [b] pos) (tT Γ W (asB (eCmpP g i mb))) :=
  PT.imp (pt_cmpR ho hx hb hm) fun σ H Q h => cmpP_read hr hgb (tD_bool h)
theorem dt_inP {op : CmpOp} {r : R2} {g : D → D → Option D} (ho : OpR X (compareOp op) r) (hr : R2P Γ.K r g) (hgb : boolR g) (hx : PE X (.Name x px) (tVar i)) (hb : PE X b (tD Γ W mb)) (hm : behindInMarks op (.Name x px) = false) : PT X (.Compare b [op] [.Name x px] pos) (tT Γ W (asB (eInP g mb i))) :=
  PT.imp (pt_cmpR ho hb hx hm) fun σ H Q h => inP_read hr hgb (tD_bool h)

/-! ### own lists, changed -/
def setL (i : Nat) (ds : List D) : M Flw := fun ρ => .ok .next (ρ.set i (.own (.lst ds)))
def sApp (i : Nat) (mb : M D) : M Flw := slotL i fun _ => mb.bind fun d => slotL i fun ds => if ds.length < 16777216 then setL i (ds ++ [d]) else M.fail
def sExt (i : Nat) (mb : M D) : M Flw := slotL i fun _ => mb.bind fun d => slotL i fun ds => match d with
  | .list es => if ds.length + es.length ≤ 16777216 then setL i (ds ++ es) else M.fail
  | _ => M.fail
def sSetIx (i : Nat) (mv mk : M D) : M Flw := mv.bind fun d => slotL i fun _ => mk.bind fun k => slotL i fun ds => match k with
  | .int k => match ixN ds.length k with
    | some j => setL i (ds.set j d)
    | none => M.fail
  | _ => M.fail
def ePop (i : Nat) : M D := slotL i fun ds => match ds[ds.length - 1]? with
  | some d => fun ρ => .ok d (ρ.set i (.own (.lst ds.dropLast)))
  | none => M.fail
def ePop0 (i : Nat) : M D := slotL i fun ds => match ds with
  | d :: r => fun ρ => .ok d (ρ.set i (.own (.lst r)))
  | [] => M.fail
theorem lt_line {n : Nat} (h : n < 16777216) : n < sizeLine := by rw [sizeLine_eq]; exact h
theorem ds_app {apos cpos : Pos} (hx : PE X (.Name x px) (tVar i)) (hb : PE X b (tD Γ W mb)) (hK : X.K = Γ.K := by rfl)
    (hbase : attributeBase (.Name x px) "append" X.env (eval (.Name x px) X.env) = eval (.Name x px) X.env := by rfl)
    (hfew : ((backTo cpos (starEach [b] X.env)).all (fun x => !x.1) && (backToKw cpos (keywordEach [] X.env)).all (fun x => x.1.isSome) && decide (([b] : List Expr).length + ([] : List Keyword).length + (if ([] : List Keyword).isEmpty then 0 else 1) < 30)) = true := by rfl)
    (hline : (apos.endLine == cpos.line) = true := by rfl) (hs : starEach [b] X.env = (false, eval b X.env) :: starEach [] X.env := by rfl)
    (hsw : swapsWith (.Call (.Attribute (.Name x px) "append" apos) [b] [] cpos) none pos.line X.env = pure false := by rfl) :
    PS X (.Expr (.Call (.Attribute (.Name x px) "append" apos) [b] [] cpos) pos) (tS Γ W P (sApp i mb)) := by
  refine PS.imp (ps_expr (pe_bm PySem.F.plainAttrs_list PySem.F.slot_list_append PySem.F.type_list_append mt_append hx (pa_cons hb pa_nil hs) hbase hfew hline hs rfl) hsw) fun D σ H ⟨G, ρ, s, h⟩ => ?_
  obtain ⟨ds0, e, h⟩ := slotL_post h
  obtain ⟨a, vs, e1, e2, _⟩ := s.ownL e
  refine ⟨.ref a, e1, .inl ⟨rfl, vs, SqL.of e2⟩, G, ρ, s, (post_bind.mp h).imp (fun d ρ2 h2 u G2 H2 x2 r2 => ?_) fun _ _ e => e.ew⟩
  obtain ⟨ds, f, h3⟩ := slotL_post h2
  obtain ⟨hl, h4⟩ := ite_post h3
  obtain ⟨a', vs', g1, g2, g3⟩ := x2.sr.ownL f
  have g1' := g1
  rw [e1] at g1'; cases g1'
  exact ⟨a, _, _, rfl, rfl, g2, lt_line (by rw [g3.length]; exact hl), h4 σ G2 _ (x2.tr (x2.sr.updO f g1 (.lst (g3.append (.cons r2 .nil))))) fun _ _ => rfl⟩
theorem ds_ext {apos cpos : Pos} (hx : PE X (.Name x px) (tVar i)) (hb : PE X b (tD Γ W mb)) (hK : X.K = Γ.K := by rfl)
    (hbase : attributeBase (.Name x px) "extend" X.env (eval (.Name x px) X.env) = eval (.Name x px) X.env := by rfl)
    (hfew : ((backTo cpos (starEach [b] X.env)).all (fun x => !x.1) && (backToKw cpos (keywordEach [] X.env)).all (fun x => x.1.isSome) && decide (([b] : List Expr).length + ([] : List Keyword).length + (if ([] : List Keyword).isEmpty then 0 else 1) < 30)) = true := by rfl)
    (hline : (apos.endLine == cpos.line) = true := by rfl) (hs : starEach [b] X.env = (false, eval b X.env) :: starEach [] X.env := by rfl)
    (hsw : swapsWith (.Call (.Attribute (.Name x px) "extend" apos) [b] [] cpos) none pos.line X.env = pure false := by rfl) :
    PS X (.Expr (.Call (.Attribute (.Name x px) "extend" apos) [b] [] cpos) pos) (tS Γ W P (sExt i mb)) := by
  refine PS.imp (ps_expr (pe_bm PySem.F.plainAttrs_list PySem.F.slot_list_extend PySem.F.type_list_extend mt_extend hx (pa_cons hb pa_nil hs) hbase hfew hline hs rfl) hsw) fun D σ H ⟨G, ρ, s, h⟩ => ?_
  obtain ⟨ds0, e, h⟩ := slotL_post h
  obtain ⟨a, vs, e1, e2, _⟩ := s.ownL e
  refine ⟨.ref a, e1, .inl ⟨rfl, vs, SqL.of e2⟩, G, ρ, s, (post_bind.mp h).imp (fun d ρ2 h2 u G2 H2 x2 r2 => ?_) fun _ _ e => e.ew⟩
  obtain ⟨ds, f, h3⟩ := slotL_post h2
  cases d <;> try exact h3.elim
  rename_i es
  obtain ⟨hl, h4⟩ := ite_post h3
  obtain ⟨a', vs', g1, g2, g3⟩ := x2.sr.ownL f
  have g1' := g1
  rw [e1] at g1'; cases g1'
  cases r2 with | lst w1 w2 =>
  exact ⟨a, _, _, _, rfl, rfl, g2, x2.sr.sub _ _ w1, size_line (by rw [g3.length, w2.length]; exact hl), h4 σ G2 _ (x2.tr (x2.sr.updO f g1 (.lst (g3.append w2)))) fun _ _ => rfl⟩
theorem ds_setIx {ev ek : Expr} {mv mk : M D} (hx : PE X (.Name x px) (tVar i)) (hv : PE X ev (tD Γ W mv)) (hk : PE X ek (tD Γ W mk))
    (ha : ∀ v, assign (.Subscript (.Name x px) ek pos) X.env v = (do
      let ov ← holding [v] (eval (.Name x px) X.env)
      let iv ← holding [v, ov] (eval ek X.env)
      standAt pos
      holding [v, ov, iv] (setItem ov iv v)
      release [v, ov, iv] []) := by intro _; rfl) {spos : Pos} (hs : swapsWithSole [.Subscript (.Name x px) ek pos] ev spos.line X.env = pure false := by rfl) (hw : swappedStores [.Subscript (.Name x px) ek pos] ev X.env = pure none := by rfl)
    (h1 : (assignEach [.Subscript (.Name x px) ek pos] X.env).map (·.2) = [assign (.Subscript (.Name x px) ek pos) X.env] := by rfl) :
    PS X (.Assign [.Subscript (.Name x px) ek pos] ev spos) (tS Γ W P (sSetIx i mv mk)) := by
  refine PS.imp (ps_asg hv (pg_sub hx hk set_list ha) hs hw h1) fun D σ H ⟨G, ρ, s, h⟩ => ⟨G, ρ, s, (post_bind.mp h).imp (fun d ρ1 h1 v G1 H1 x1 r1 => ?_) fun _ _ e => e.ew⟩
  obtain ⟨ds0, e, h2⟩ := slotL_post h1
  obtain ⟨a, vs, e1, e2, _⟩ := x1.sr.ownL e
  refine ⟨.ref a, e1, G1, ρ1, x1.sr, (post_bind.mp h2).imp (fun k ρ2 h3 u G2 H2 x2 r2 => ?_) fun _ _ e => (e.ew).tr x1⟩
  obtain ⟨ds, f, h4⟩ := slotL_post h3
  cases k <;> try exact h4.elim
  rename_i k
  cases hj : ixN ds.length k with
  | none => simp only [hj] at h4; exact h4.elim
  | some j =>
    simp only [hj] at h4
    obtain ⟨a', vs', g1, g2, g3⟩ := x2.sr.ownL f
    have g1' := g1
    rw [e1] at g1'; cases g1'
    cases r2
    exact ⟨a, _, k, j, rfl, rfl, g2, by rw [g3.length]; exact hj, h4 σ G2 _ ((x1.tr x2).tr (x2.sr.updO f g1 (.lst (g3.set (r1.mono x2.fr.ext) j)))) fun _ _ => rfl⟩
theorem de_pop {apos cpos : Pos} (hx : PE X (.Name x px) (tVar i)) (hK : X.K = Γ.K := by rfl) (hbase : attributeBase (.Name x px) "pop" X.env (eval (.Name x px) X.env) = eval (.Name x px) X.env := by rfl) (hline : (apos.endLine == cpos.line) = true := by rfl) :
    PE X (.Call (.Attribute (.Name x px) "pop" apos) [] [] cpos) (tD Γ W (ePop i)) := by
  refine PE.imp (pe_bm0 PySem.F.plainAttrs_list PySem.F.slot_list_pop PySem.F.type_list_pop mt_pop hx hbase hline) fun σ H Q ⟨G, ρ, s, h⟩ => ?_
  obtain ⟨ds, e, h⟩ := slotL_post h
  obtain ⟨a, vs, e1, e2, r⟩ := s.ownL e
  cases hd : ds[ds.length - 1]? with
  | none => simp only [hd] at h; exact h.elim
  | some d =>
    simp only [hd] at h
    obtain ⟨v, f1, f2⟩ := r.getD hd
    rw [← r.length] at f1
    exact ⟨.ref a, e1, .inl ⟨rfl, vs, SqL.of e2⟩, a, vs, v, rfl, rfl, e2, f1, h v G _ (s.updO e e1 (.lst r.dropLast)) f2⟩
theorem de_pop0 {apos cpos kp : Pos} {j : Nat} (hx : PE X (.Name x px) (tVar i)) (hK : X.K = Γ.K := by rfl) (hbase : attributeBase (.Name x px) "pop" X.env (eval (.Name x px) X.env) = eval (.Name x px) X.env := by rfl)
    (hfew : ((backTo cpos (starEach [.Constant (.int 0) j kp] X.env)).all (fun x => !x.1) && (backToKw cpos (keywordEach [] X.env)).all (fun x => x.1.isSome) && decide (([.Constant (.int 0) j kp] : List Expr).length + ([] : List Keyword).length + (if ([] : List Keyword).isEmpty then 0 else 1) < 30)) = true := by rfl)
    (hline : (apos.endLine == cpos.line) = true := by rfl) : PE X (.Call (.Attribute (.Name x px) "pop" apos) [.Constant (.int 0) j kp] [] cpos) (tD Γ W (ePop0 i)) := by
  refine PE.imp (pe_bm PySem.F.plainAttrs_list PySem.F.slot_list_pop PySem.F.type_list_pop mt_popAt hx (pa_cons pe_int pa_nil) hbase hfew hline rfl rfl) fun σ H Q ⟨G, ρ, s, h⟩ => ?_
  obtain ⟨ds, e, h⟩ := slotL_post h
  obtain ⟨a, vs, e1, e2, r⟩ := s.ownL e
  cases ds with
  | nil => exact h.elim
  | cons d ds =>
    cases r with | cons ra rb =>
    exact ⟨.ref a, e1, .inl ⟨rfl, _, SqL.of e2⟩, a, _, 0, 0, _, rfl, rfl, e2, by decide, by decide, by simp [seqIndex?], rfl, h _ G _ (s.updO e e1 (.lst rb)) ra⟩

/-! ### isinstance -/
def tyNm : D → String
  | .none => "NoneType"
  | .bool _ => "bool"
  | .int _ => "int"
  | .str _ => "str"
  | .list _ => "list"
  | .tuple _ => "tuple"
  | .dict _ => "dict"
def isiD (T : String) : D → Option D
  | .dict (_ :: _) => none
  | d => (kitB (tyNm d) T).map .bool
def eIsi (T : String) (m : M D) : M D := m.bind fun d => M.opt (isiD T d)
theorem tyX_of {K : PySem.W.Frag} {G H : Hp} (s : Sub G H) {v : V} {d : D} (r : Rp K G v d) (h : ∀ a b, d ≠ .dict (a :: b)) : TyX K H v (.type (tyNm d)) := by
  cases r with
  | non => exact .base .non
  | bl b => exact .base (.bl b)
  | int i => exact .base (.int i)
  | str x => exact .base (.str x)
  | lst g _ => exact .base (.lst (s _ _ g))
  | tup g _ =>
    rcases s.seqT g with (g | ⟨o, g⟩) | ⟨o, its, n, g1, g2, _⟩
    · exact .base (.tup g)
    · exact .fTuple g
    · exact .kTuple g1 g2
  | emp g => exact .base (.dK (s _ _ g))
  | scr _ _ => exact (h _ _ rfl).elim
theorem de_isi {T : String} {e : Expr} {m : M D} {Ts : Str} {p pT : Pos} (hg : Gl X "isinstance") (hm : X.mg "isinstance" = none) (he : PE X e (tD Γ W m)) (hT : PE X (.Name Ts pT) (tC (.ty T))) (hK : X.K = Γ.K := by rfl)
    (hs : starEach [e, .Name Ts pT] X.env = (false, eval e X.env) :: starEach [.Name Ts pT] X.env := by rfl) (hs2 : starEach [.Name Ts pT] X.env = (false, eval (.Name Ts pT) X.env) :: starEach [] X.env := by rfl) (hpl : (backTo pos (starEach [.Name Ts pT] X.env)).any (·.1) = false := by rfl) :
    PE X (.Call (.Name "isinstance" p) [e, .Name Ts pT] [] pos) (tD Γ W (eIsi T m)) := by
  refine PE.imp (pe_callB (r := rIsi X.K) call_isi hg hm (by decide +kernel) (pa_cons he (pa_cons hT pa_nil hs2) hs) (by decide) (by decide) hs hpl) fun σ H Q ⟨G, ρ, s, h⟩ => ⟨G, ρ, s, (post_bind.mp h).imp (fun d ρ1 h1 v G1 H1 x1 r1 => ?_) fun _ _ e => e⟩
  obtain ⟨z, hz, q⟩ := opt_post h1
  rw [hK]
  unfold isiD at hz
  split at hz
  · cases hz
  · rename_i hd
    cases hk : kitB (tyNm d) T with
    | none => rw [hk] at hz; cases hz
    | some b =>
      rw [hk] at hz
      cases hz
      exact ⟨v, .ty T, _, .type T, b, rfl, .ty T, tyX_of x1.sr.sub r1 (fun a b e => hd _ _ e), kit_ty hk, q _ G1 H1 x1 (.bl b)⟩

/-! ### zip, enumerate -/
def zipD : List D → Option (List D)
  | [.list xs, .list ys] => some (List.zipWith (fun a b => .tuple [a, b]) xs ys)
  | [.tuple xs, .tuple ys] => some (List.zipWith (fun a b => .tuple [a, b]) xs ys)
  | _ => none
theorem pair_new {K : PySem.W.Frag} {G H : Hp} {T : Addr} {x y : V} {d e : D} (s : Sub G H) (n : H T = none) (r1 : Rp K G x d) (r2 : Rp K G y e) : ∃ G', Ext0 G H G' (upd H T (.tup [x, y])) ∧ Rp K G' (.ref T) (.tuple [d, e]) := by
  have z := Ext0.new (o := .tup [x, y]) s n
  exact ⟨_, z, .tup (SqT.of upd_same) (.cons (r1.mono z.g) (.cons (r2.mono z.g) .nil))⟩
theorem itOk_zip {K : PySem.W.Frag} {a b : Addr} {xs ys : List V} {ds es : List D} {G0 : Hp} (h1 : G0 a = some (.lst xs)) (r1 : RpAll K G0 xs ds) (h2 : G0 b = some (.lst ys)) (r2 : RpAll K G0 ys es) (hz : xs.length ≤ sizeLine) :
    ItOk K (L2.Itz K a b) (List.zipWith (fun a b => PyData.tuple [a, b]) ds es) G0 where
  sz := by rw [List.length_zipWith, ← r1.length]; omega
  at_ := fun i G H d s1 s2 e => by
    rw [List.getElem?_zipWith] at e
    cases e1 : ds[i]? with
    | none => rw [e1] at e; cases e
    | some d1 =>
      cases e2 : es[i]? with
      | none => rw [e1, e2] at e; cases e
      | some d2 =>
        rw [e1, e2] at e
        cases e
        obtain ⟨v, f1, f2⟩ := r1.getD e1
        obtain ⟨u, g1, g2⟩ := r2.getD e2
        have q1 : SqL K H a xs := SqL.of (s2 _ _ (s1 _ _ h1))
        have q2 : SqL K H b ys := SqL.of (s2 _ _ (s1 _ _ h2))
        refine ⟨⟨xs, ys, v, u, q1, q2, f1, g1⟩, fun x H' ⟨T, x', y', e3, e4, e5, e6, e7⟩ => ?_⟩
        have w1 := e6 xs q1
        have w2 := e7 ys q2
        rw [f1] at w1; cases w1
        rw [g1] at w2; cases w2
        subst e3 e5
        exact pair_new s2 e4 (f2.mono s1) (g2.mono s1)
  fin := fun G H s1 s2 => ⟨xs, ys, SqL.of (s2 _ _ (s1 _ _ h1)), SqL.of (s2 _ _ (s1 _ _ h2)), by
    rw [List.length_zipWith, r1.length, r2.length]; omega⟩
theorem itOk_zipT {K : PySem.W.Frag} {a b : Addr} {xs ys : List V} {ds es : List D} {G0 : Hp} (h1 : SqT K G0 a xs) (r1 : RpAll K G0 xs ds) (h2 : SqT K G0 b ys) (r2 : RpAll K G0 ys es) (hz : xs.length ≤ sizeLine) :
    ItOk K (RZ.ItzT K a b) (List.zipWith (fun a b => PyData.tuple [a, b]) ds es) G0 where
  sz := by rw [List.length_zipWith, ← r1.length]; omega
  at_ := fun i G H d s1 s2 e => by
    rw [List.getElem?_zipWith] at e
    cases e1 : ds[i]? with
    | none => rw [e1] at e; cases e
    | some d1 =>
      cases e2 : es[i]? with
      | none => rw [e1, e2] at e; cases e
      | some d2 =>
        rw [e1, e2] at e
        cases e
        obtain ⟨v, f1, f2⟩ := r1.getD e1
        obtain ⟨u, g1, g2⟩ := r2.getD e2
        have q1 : SqT K H a xs := s2.seqT (s1.seqT h1)
        have q2 : SqT K H b ys := s2.seqT (s1.seqT h2)
        refine ⟨⟨xs, ys, v, u, q1, q2, f1, g1⟩, fun x H' ⟨T, x', y', e3, e4, e5, e6, e7⟩ => ?_⟩
        have w1 := e6 xs q1
        have w2 := e7 ys q2
        rw [f1] at w1; cases w1
        rw [g1] at w2; cases w2
        subst e3 e5
        exact pair_new s2 e4 (f2.mono s1) (g2.mono s1)
  fin := fun G H s1 s2 => ⟨xs, ys, s2.seqT (s1.seqT h1), s2.seqT (s1.seqT h2), by
    rw [List.length_zipWith, r1.length, r2.length]; omega⟩
/-- what is behind arguments has a size -/
def Sz (K : PySem.W.Frag) (H : Hp) : Prop := ∀ a xs, SqL K H a xs ∨ SqT K H a xs → xs.length ≤ sizeLine
theorem pa_sz {es : List Expr} {t : TA} (h : PA X es t) : PA X es (fun σ H Q => t σ H fun vs H1 => Sz X.K H1 → Q vs H1) := ⟨fun p pins s σ H Q I q =>
  thn (h.run p pins s σ H _ I q) fun us s' ⟨vs, H', I', r, q'⟩ => ⟨vs, H', I', r, q' fun a xs z => by
    rcases z with z | z
    · obtain ⟨_, _, _, hz⟩ := I'.list z; exact hz
    · obtain ⟨_, _, _, hz⟩ := I'.tuple z; exact hz⟩⟩
theorem di_zip {e e2 : Expr} {m : M (List D)} {p tpos : Pos} {elts : List Expr} {kk : Nat} (hg : Gl X "zip") (hm : X.mg "zip" = none) (ha : PA X [e, e2] (tDs Γ W m)) (hK : X.K = Γ.K := by rfl)
    (hs : starEach [e, e2] X.env = (false, eval e X.env) :: starEach [e2] X.env := by rfl) (hpl : (backTo pos (starEach [e2] X.env)).any (·.1) = false := by rfl) :
    PI X (.Tuple elts kk tpos) (.Call (.Name "zip" p) [e, e2] [] pos) (tI Γ W (iOpt zipD m)) := by
  refine PI.imp (RZ.pi_zipA hg hm (pa_sz ha) hs hpl) fun σ H R ⟨G, ρ, s, h⟩ => ⟨G, ρ, s, (post_bind.mp h).imp (fun ds ρ1 h1 vs G1 H1 x1 r1 sz => ?_) fun _ _ e => e⟩
  obtain ⟨z, hz, q⟩ := opt_post h1
  rw [hK] at sz ⊢
  unfold zipD at hz
  split at hz
  · cases hz
    cases r1 with | cons ra rb =>
    cases rb with | cons rb rc =>
    cases rc
    cases ra with | lst g1 w1 =>
    cases rb with | lst g2 w2 =>
    refine ⟨_, _, _, _, rfl, .inl ⟨SqL.of (x1.sr.sub _ _ g1), SqL.of (x1.sr.sub _ _ g2), q _ G1 H1 x1 (itOk_zip g1 w1 g2 w2 (sz _ _ (.inl (SqL.of (x1.sr.sub _ _ g1)))))⟩⟩
  · cases hz
    cases r1 with | cons ra rb =>
    cases rb with | cons rb rc =>
    cases rc
    cases ra with | tup g1 w1 =>
    cases rb with | tup g2 w2 =>
    refine ⟨_, _, _, _, rfl, .inr ⟨x1.sr.sub.seqT g1, x1.sr.sub.seqT g2, q _ G1 H1 x1 (itOk_zipT g1 w1 g2 w2 (sz _ _ (.inr (x1.sr.sub.seqT g1))))⟩⟩
  · cases hz
end
end DL

/-! DLi: the law's end. -/
namespace DL
open PySem PySem.Spec L2
open PyProof.Rows (IntsAre AllBare)

def scrD (ns : List Int) : D := .dict [(.str "SCRIPT", .list (ns.map .int))]
/-- what the law's mirror must give -/
def LawOk (F : M Slot) (n : Nat) : Prop := ∀ ns : List Int, ns.length ≤ n → ∃ ss, F [.fz (scrD ns)] = .ok (.fz (.bool true)) ss
/-- the law's call, from a heap in which at most the script is known -/
theorem law_core {P : Program} {w : World} {K : PySem.W.Frag} {mg : Str → Option Value} {k : Nat} {fa a : Addr} {fd : FuncData} {x : Str} {s1 : Shared} {ns : List Int} {F : M Slot} {n : Nat} {H : Hp}
    (go : ∀ base : Heap, K.In base → base.Ns mainGlobals mg → FnG P w K mg base k fa fd [x] F) (hk : Room k callerA) (ok : LawOk F n) (hl : ns.length ≤ n) (bind : ∀ (s : Shared) (u : Value), BindsTo s fd ⟨[u], []⟩ [(x, u)])
    (env : Env0 P w K mg (hidT s1.heap H) callerA [] s1 H) (only : Only H) (seq : SqL K H a (ns.map V.int)) :
    codeAny (model P w) callerA (.call (.ref fa) ⟨[.ref a], []⟩) (fun r s' => r = .ok (.ret (.bool true)) ∧ OldK s1.heap s'.heap ∧ s'.os = s1.os ∧ AllBare s'.gens) s1 := by
  obtain ⟨ss, e⟩ := ok ns hl
  have sp : spF ⟨K, mg⟩ F [.ref a] H (fun v _ => v = .bl true) (fun _ _ _ => False) := by
    refine ⟨H, [.fz (scrD ns)], ⟨Sub.rfl, rfl, fun i t q => ?_, fun i j b p => ?_⟩, ?_⟩
    · cases i with
      | zero =>
        cases q
        exact ⟨.ref a, rfl, .scr seq (RpAll.of_ints ns)⟩
      | succ i => simp at q
    · obtain ⟨c, p1, p2⟩ := p
      cases i with
      | zero => cases p1
      | succ i => simp at p1
    · unfold PostF
      rw [e]
      intro v G' H' _ rv
      cases rv
      rfl
  refine codeAny_mono ((go _ env.mod.kin env.mod.glob).go callerA [] s1 H ⟨[.ref a], []⟩ [.ref a] [.ref a] _ _ hk rfl env (bind s1 (.ref a)) (.cons rfl .nil) sp) fun r s' h => ?_
  match r, h with
  | .error e, h =>
    obtain ⟨_, _, _, _, _, _, _, _, _, _, _, _, z⟩ := h
    exact z.elim
  | .ok .next, h => exact h.elim
  | .ok .brk, h => exact h.elim
  | .ok .cont, h => exact h.elim
  | .ok (.ret u), h =>
    obtain ⟨v, H', e1, e2, un, hok', r', q⟩ := h
    have q' : v = .bl true := q
    rw [q'] at r'
    cases r'
    refine ⟨rfl, OldK.of_keep fun b o eb => ?_, e1, e2⟩
    rcases only b with z | ⟨ob, xs, z⟩
    · exact un.keep b o eb z (by intro z; exact absurd (show b ∈ ([] : List Addr) from z) (by simp)) (by simp)
    · have f1 := (env.hok b _ z).1
      have f2 := (hok' b _ (un.frzs b ob _ z)).1
      rw [eb] at f1
      cases f1
      exact f2
theorem law_run {P : Program} {w : World} {K : PySem.W.Frag} {mg mb : Str → Option Value} {k : Nat} {fa a : Addr} {fd : FuncData} {x : Str} {s1 : Shared} {vs : List Value} {ns : List Int} {F : M Slot} {n : Nat}
    (go : ∀ base : Heap, K.In base → base.Ns mainGlobals mg → FnG P w K mg base k fa fd [x] F) (hk : Room k callerA) (ok : LawOk F n) (hl : ns.length ≤ n) (hn : n ≤ sizeLine) (bind : ∀ (s : Shared) (u : Value), BindsTo s fd ⟨[u], []⟩ [(x, u)])
    (KX : K.In s1.heap) (hns : s1.heap.Ns mainGlobals mg) (hb : s1.heap.Ns builtinsNs mb) (hbb : ∀ x : Str, x ≠ "__name__" → mb x = bootBuiltins x) (hlim : s1.heap.NoLimit) (hg : s1.gens = #[])
    (ha : s1.heap.get? a = some { cls := .type "list", data := .seq vs.toArray }) (hi : IntsAre vs ns) :
    codeAny (model P w) callerA (.call (.ref fa) ⟨[.ref a], []⟩) (fun r s' => r = .ok (.ret (.bool true)) ∧ OldK s1.heap s'.heap ∧ s'.os = s1.os ∧ AllBare s'.gens) s1 := by
  have rv : Vals (ns.map V.int) vs := vals_ints hi
  have lv : vs.length = ns.length := hi.length
  -- what a heap H must be like that knows the script alone
  have core : ∀ H : Hp, (∀ b u, H b = some u → b = a ∧ u = .frz { cls := .type "list", data := .seq vs.toArray } (.lst (ns.map V.int)) ∧ K.lookup a = none) → SqL K H a (ns.map V.int) →
      codeAny (model P w) callerA (.call (.ref fa) ⟨[.ref a], []⟩) (fun r s' => r = .ok (.ret (.bool true)) ∧ OldK s1.heap s'.heap ∧ s'.os = s1.os ∧ AllBare s'.gens) s1 := fun H own seq => by
    have low : ∀ {b : Addr} {o : Obj}, s1.heap.get? b = some o → (b ≠ a ∨ K.lookup a ≠ none) → (hidT s1.heap H).get? b = some o := fun {b o} e z => hidT_get e (by
      cases q : H b with
      | none => rfl
      | some u =>
        obtain ⟨z1, _, z2⟩ := own b u q
        rcases z with z | z
        · exact absurd z1 z
        · exact absurd z2 z)
    have lowNs : ∀ {b : Addr} {m : Str → Option Value}, s1.heap.Ns b m → (hidT s1.heap H).Ns b m := fun {b m} ⟨o, es, ep, e, d, r⟩ => by
      refine ⟨o, es, ep, low e (.inl fun z => ?_), d, r⟩
      subst z
      rw [ha] at e
      cases e
      cases d
    have kin : K.In (hidT s1.heap H) := fun b o e => low (KX b o e) (by
      by_cases q : b = a
      · subst q; exact .inr (by rw [e]; simp)
      · exact .inl q)
    have only : Only H := fun b => by
      cases q : H b with
      | none => exact .inl rfl
      | some u => exact .inr ⟨_, _, congrArg some (own b u q).2.1⟩
    have hok : HOk P w H s1.heap := fun b u q => by
      obtain ⟨z1, z2, _⟩ := own b u q
      subst z1 z2
      exact ⟨ha, by rw [List.length_map]; omega, vs, _, rv, ha⟩
    refine law_core go hk ok hl bind ⟨rfl, ⟨kin, lowNs hns, ⟨mb, lowNs hb, hbb⟩, ?_⟩, fun b o e => of_hidT e, Nat.le_of_eq (hidT_size _ _), trivial, (fun b hb => absurd (show b ∈ ([] : List Addr) from hb) (by simp)), hok, .of_eq hg⟩ only seq
    obtain ⟨mc, h1, h2⟩ := hlim
    exact ⟨mc, lowNs h1, h2⟩
  cases hka : K.lookup a with
  | some o =>
    have e := KX a o hka
    rw [ha] at e
    cases e
    exact core (fun _ => none) (fun b u z => by cases z) (.inr ⟨_, vs.toArray, _, hka, rfl, rfl, rfl, by rw [List.size_toArray, lv]; omega, by simpa using rv⟩)
  | none =>
    refine core (fun b => if b = a then some (.frz { cls := .type "list", data := .seq vs.toArray } (.lst (ns.map V.int))) else none) (fun b u z => ?_) (.inl (.inr ⟨_, if_pos rfl⟩))
    by_cases q : b = a
    · rw [if_pos q] at z; cases z; exact ⟨q, rfl, hka⟩
    · rw [if_neg q] at z; cases z
/-- THE END: the goal that k_head leaves -/
theorem law_end {l : PySem.W.OpenLaw} {n k : Nat} {q : Program} {loose : List Str} {XP : (Str → Option Value) → Heap → Prop} {YP : World → Heap → Prop} {d : DefRec} {K : Params → PySem.W.Frag} {F : M Slot} {x : Str}
    (hn : l.most = some n) (hn2 : n ≤ sizeLine) (hdf : d.params.defaults = []) (hk : Room k callerA) (hY : ∀ (w : World) (h : Heap), YP w h → (K w.params).In h) (ok : LawOk F n)
    (go : ∀ (w : World) (mg : Str → Option Value) (fa : Addr) (h : Heap), (K w.params).In h → h.Ns mainGlobals mg → mg d.name = some (.ref fa) →
      ∃ fd : FuncData, (∀ (s : Shared) (u : Value), BindsTo s fd ⟨[u], []⟩ [(x, u)]) ∧ ∀ base : Heap, (K w.params).In base → base.Ns mainGlobals mg → FnG l.prog w (K w.params) mg base k fa fd [x] F) :
    PySem.W.WalkO q loose XP YP l.row.toRowW d [] (fun f vs => PySem.call f vs) := by
  refine Att.attach_call hn hdf fun w s0 s1 mg mb fa o pm cd doc a vs ns G Y ho hd hcd hmg hobj hints hlen hg => ?_
  have KX := hY w _ Y
  obtain ⟨fd, hb, hF⟩ := go w mg fa _ KX G.T.g hmg
  exact law_run hF hk ok hlen hn2 hb KX G.T.g G.T.b G.T.builtins G.T.nolimit hg hobj hints

/-! ### short words for printed derivations -/
def fnP (P : List Nat) (n N : Nat) (b : M Flw) : M Slot := fun ss => if ownIn P ss then fnM n N b ss else .bad
theorem fn_bodyP {P : Program} {w : World} {K : PySem.W.Frag} {mg : Str → Option Value} {base : Heap} {k : Nat} {f : Addr} {x qual : Str} {st : Stmt} {fd : FuncData} {N ps : List Str} {Pr : List Nat} {b : M Flw} {n NL : Nat} (F : Fun K x qual st f fd) (S : FnScope N ps (defScope st)) (hn : n = ps.length) (hNL : N.length = NL)
    (hbody : ∀ (cdv : Value) (A : Around) (outer : List Env) (s : Shared) (H : Hp) (E : XK), Room k (A.deeper (PyProof.Rows.envOfC qual (defScope st) s.heap.objs.size f cdv)) → (A.deeper (PyProof.Rows.envOfC qual (defScope st) s.heap.objs.size f cdv)).guards = some [] →
      PSs (cxOf (L2.CX P w) P w K mg base N qual (defScope st) f cdv A outer s H E) (defBody st) (tS ⟨K, mg⟩ (fun cls dx _ H' => E cls dx H') Pr b)) :
    FnG P w K mg base (k + 1) f fd ps (fnP Pr n NL b) := hNL ▸ fn_body F S hn hbody
theorem takesF {X : Cx} : Takes X WF := takes0
theorem hu65 {A : Around} {k : Nat} (hr : Room k A) : A.units + 65 < cLine := by have := hr.un; omega
def HasLen {α : Type} (m : M (List α)) (n : Nat) : Prop := ∀ as ρ ρ', m ρ = .ok as ρ' → as.length = n
theorem len0 {α : Type} : HasLen (eNil : M (List α)) 0 := fun as ρ ρ' h => by cases h; rfl
theorem len1 {α : Type} {a : M α} {m : M (List α)} {n : Nat} (h : HasLen m n) : HasLen (eCons a m) (n + 1) := fun as ρ ρ' e => by
  unfold eCons M.bind at e
  cases ha : a ρ with
  | bad => rw [ha] at e; cases e
  | err c r => rw [ha] at e; cases e
  | ok x ρ1 =>
    rw [ha] at e
    simp only at e
    cases hm : m ρ1 with
    | bad => rw [hm] at e; cases e
    | err c r => rw [hm] at e; cases e
    | ok xs ρ2 =>
      rw [hm] at e
      cases e
      simp [h xs ρ1 _ hm]
theorem lenS {i : Nat} {m : M (List Arg)} {n : Nat} (h : HasLen m n) : HasLen (aSlot i m) (n + 1) := fun as ρ ρ' e => by
  unfold aSlot at e
  split at e
  · exact len1 h as ρ ρ' e
  · exact len1 h as ρ ρ' e
  · cases e
end DL

/-! DLj: evaluation of mirrors, for the plain laws. -/
namespace DL
open PySem PySem.Spec L2

theorem bind_ok {α β : Type} {m : M α} {f : α → M β} {ρ ρ' : Rho} {a : α} (h : m ρ = .ok a ρ') : m.bind f ρ = f a ρ' := by unfold M.bind; rw [h]
theorem forL_inv {g : Tg} {b : M Flw} (I : Nat → Rho → Prop) : ∀ (ds : List D) (k0 : Nat) (ρ : Rho), I k0 ρ →
    (∀ k d ρ, ds[k]? = some d → I (k0 + k) ρ → ∃ ρ1 ρ2, g.set d ρ = some ρ1 ∧ (b ρ1 = .ok .next ρ2 ∨ b ρ1 = .ok .cont ρ2) ∧ I (k0 + k + 1) ρ2) →
    ∃ ρ', forL g b ds ρ = .ok .next ρ' ∧ I (k0 + ds.length) ρ'
  | [], k0, ρ, h, _ => ⟨ρ, rfl, h⟩
  | d :: ds, k0, ρ, h, st => by
    obtain ⟨ρ1, ρ2, e1, e2, h2⟩ := st 0 d ρ rfl h
    obtain ⟨ρ', e3, h3⟩ := forL_inv I ds (k0 + 1) ρ2 (by simpa using h2) fun k d' ρ hk hi => by
      obtain ⟨x, y, a, b, c⟩ := st (k + 1) d' ρ (by simpa using hk) (by rw [show k0 + (k + 1) = k0 + 1 + k by omega]; exact hi)
      exact ⟨x, y, a, b, by rw [show k0 + 1 + k + 1 = k0 + (k + 1) + 1 by omega]; exact c⟩
    refine ⟨ρ', ?_, by rw [List.length_cons, show k0 + (ds.length + 1) = k0 + 1 + ds.length by omega]; exact h3⟩
    unfold forL
    rw [e1]
    rcases e2 with e2 | e2 <;> simp only [e2] <;> exact e3
theorem sFor_inv {mi : M (List D)} {g : Tg} {b : M Flw} {ds : List D} {ρ ρ0 : Rho} (I : Nat → Rho → Prop) (hm : mi ρ = .ok ds ρ0) (h0 : I 0 ρ0)
    (st : ∀ k d ρ, ds[k]? = some d → I k ρ → ∃ ρ1 ρ2, g.set d ρ = some ρ1 ∧ (b ρ1 = .ok .next ρ2 ∨ b ρ1 = .ok .cont ρ2) ∧ I (k + 1) ρ2) :
    ∃ ρ', sFor mi g b ρ = .ok .next ρ' ∧ I ds.length ρ' := by
  obtain ⟨ρ', e, h⟩ := forL_inv (g := g) (b := b) I ds 0 ρ0 h0 fun k d ρ hk hi => by
    simpa only [Nat.zero_add] using st k d ρ hk (by simpa only [Nat.zero_add] using hi)
  exact ⟨ρ', (bind_ok hm).trans e, by simpa only [Nat.zero_add] using h⟩
theorem compL_map {α : Type} {vs : List Nat} {g : Tg} {t : M Bool} {e : M D} {ρ : Rho} {φ : α → D} {p : α → Bool} {f : α → D} : ∀ (ds : List α) (acc : List D),
    (∀ d ∈ ds, ∃ ρ1 ρ2 ρ3, g.set (φ d) ρ = some ρ1 ∧ t ρ1 = .ok (p d) ρ2 ∧ (p d = true → e ρ2 = .ok (f d) ρ3) ∧ wipeR (if p d then ρ3 else ρ2) vs = ρ) →
    compL vs g t e (ds.map φ) acc ρ = .ok (acc ++ (ds.filter p).map f) ρ
  | [], acc, _ => by simp [compL]
  | d :: ds, acc, h => by
    obtain ⟨ρ1, ρ2, ρ3, e1, e2, e3, e4⟩ := h d (by simp)
    have ih := fun acc => compL_map ds acc fun x hx => h x (by simp [hx])
    rw [List.map_cons]
    unfold compL
    cases hp : p d with
    | true =>
      rw [hp] at e2 e4
      simp only [e1, e2, e3 hp]
      simp only [if_true] at e4
      rw [e4, ih, List.filter_cons_of_pos hp, List.map_cons, List.append_assoc, List.singleton_append]
    | false =>
      rw [hp] at e2 e4
      simp only [e1, e2]
      simp only [Bool.false_eq_true, if_false] at e4
      rw [e4, ih, List.filter_cons_of_neg (by simp [hp])]
/-- a comprehension that changes nothing -/
theorem oComp_map {α : Type} {vs : List Nat} {mi : M (List D)} {g : Tg} {t : M Bool} {e : M D} {ρ ρ0 : Rho} {φ : α → D} {ds : List α} (p : α → Bool) (f : α → D) (hm : mi ρ = .ok (ds.map φ) ρ0) (hv : (vs.any fun v => isOwn ρ0[v]?) = false)
    (h : ∀ d ∈ ds, ∃ ρ1 ρ2 ρ3, g.set (φ d) (wipeR ρ0 vs) = some ρ1 ∧ t ρ1 = .ok (p d) ρ2 ∧ (p d = true → e ρ2 = .ok (f d) ρ3) ∧ wipeR (if p d then ρ3 else ρ2) vs = wipeR ρ0 vs) (hr : restR ρ0 (wipeR ρ0 vs) vs = ρ0) :
    oComp vs mi g t e ρ = .ok (.lst ((ds.filter p).map f)) ρ0 := by
  unfold oComp
  rw [bind_ok hm]
  simp only [hv, Bool.false_eq_true, if_false]
  rw [compL_map ds [] h]
  simp only [List.nil_append, hr]
/-- without a test -/
theorem oComp_all {α : Type} {vs : List Nat} {mi : M (List D)} {g : Tg} {e : M D} {ρ ρ0 : Rho} {φ : α → D} {ds : List α} (f : α → D) (hm : mi ρ = .ok (ds.map φ) ρ0) (hv : (vs.any fun v => isOwn ρ0[v]?) = false)
    (h : ∀ d ∈ ds, ∃ ρ1 ρ3, g.set (φ d) (wipeR ρ0 vs) = some ρ1 ∧ e ρ1 = .ok (f d) ρ3 ∧ wipeR ρ3 vs = wipeR ρ0 vs) (hr : restR ρ0 (wipeR ρ0 vs) vs = ρ0) :
    oComp vs mi g tYesM e ρ = .ok (.lst (ds.map f)) ρ0 := by
  have := oComp_map (t := tYesM) (fun _ => true) f hm hv (fun d hd => by
    obtain ⟨ρ1, ρ3, a, b, c⟩ := h d hd
    exact ⟨ρ1, ρ1, ρ3, a, rfl, fun _ => b, by simpa using c⟩) hr
  rwa [List.filter_eq_self.mpr (fun _ _ => rfl)] at this
theorem rngD_ok {lo hi : Int} (h : -(2 ^ 62) ≤ lo ∧ lo < 2 ^ 62 ∧ -(2 ^ 62) ≤ hi ∧ hi < 2 ^ 62 ∧ (hi - lo).toNat ≤ 16777216) : rngD lo hi = some ((List.range (hi - lo).toNat).map fun (i : Nat) => PyData.int (lo + (i : Int))) := if_pos h
theorem ret_ok {α : Type} {a : α} {ρ : Rho} : (M.ret a : M α) ρ = .ok a ρ := rfl
/-- the calls of functions that own nothing -/
theorem callF_fz1 {F : M Slot} {a : D} {r : Slot} {ρ : Rho} (h : F [.fz a] = .ok r [.fz a]) : callF F [.fz a] ρ = .ok r ρ := by
  simp [callF, ndA, argSlots, argSlot, h, backR]
theorem callF_fz2 {F : M Slot} {a b : D} {r : Slot} {ρ : Rho} (h : F [.fz a, .fz b] = .ok r [.fz a, .fz b]) : callF F [.fz a, .fz b] ρ = .ok r ρ := by
  simp [callF, ndA, argSlots, argSlot, h, backR]
theorem callF_fz3 {F : M Slot} {a b c : D} {r : Slot} {ρ : Rho} (h : F [.fz a, .fz b, .fz c] = .ok r [.fz a, .fz b, .fz c]) : callF F [.fz a, .fz b, .fz c] ρ = .ok r ρ := by
  simp [callF, ndA, argSlots, argSlot, h, backR]
theorem ownIn_1 {a : D} : ownIn [] [.fz a] = true := rfl
theorem ownIn_2 {a b : D} : ownIn [] [.fz a, .fz b] = true := rfl
theorem ownIn_3 {a b c : D} : ownIn [] [.fz a, .fz b, .fz c] = true := rfl
theorem ownIn_4 {a b c d : D} : ownIn [] [.fz a, .fz b, .fz c, .fz d] = true := rfl
theorem isi_int {n : Int} : isiD "int" (.int n) = some (.bool true) := by rfl
theorem isi_bool {n : Int} : isiD "bool" (.int n) = some (.bool false) := by rfl
/-! ### one step each -/
section
variable {α β : Type} {ρ ρ1 ρ2 ρ3 : Rho}
theorem eVar_ok {i : Nat} {d : D} (h : ρ[i]? = some (.fz d)) : eVar i ρ = .ok d ρ := by unfold eVar; rw [h]
theorem eVar_own {i : Nat} {ds : List D} (h : ρ[i]? = some (.own (.lst ds))) : eVar i ρ = .ok (.list ds) (ρ.set i (.fz (.list ds))) := by unfold eVar; rw [h]
theorem eBin_ok {g : D → D → Option D} {ma mb : M D} {x y z : D} (ha : ma ρ = .ok x ρ1) (hb : mb ρ1 = .ok y ρ2) (hg : g x y = some z) : eBin g ma mb ρ = .ok z ρ2 := by
  unfold eBin; rw [bind_ok ha, bind_ok hb, hg]; rfl
theorem eUn_ok {g : D → Option D} {ma : M D} {x z : D} (ha : ma ρ = .ok x ρ1) (hg : g x = some z) : eUn g ma ρ = .ok z ρ1 := by unfold eUn; rw [bind_ok ha, hg]; rfl
theorem eCall_ok {g : List D → Option D} {ma : M (List D)} {x : List D} {z : D} (ha : ma ρ = .ok x ρ1) (hg : g x = some z) : eCall g ma ρ = .ok z ρ1 := by unfold eCall; rw [bind_ok ha, hg]; rfl
theorem eCons_ok {ma : M α} {mb : M (List α)} {x : α} {xs : List α} (ha : ma ρ = .ok x ρ1) (hb : mb ρ1 = .ok xs ρ2) : eCons ma mb ρ = .ok (x :: xs) ρ2 := by unfold eCons; rw [bind_ok ha, bind_ok hb]; rfl
theorem eNil_ok : (eNil : M (List α)) ρ = .ok [] ρ := rfl
theorem eC_ok {d : D} : eC d ρ = .ok d ρ := rfl
theorem aFz_ok {m : M D} {d : D} (h : m ρ = .ok d ρ1) : aFz m ρ = .ok (.fz d) ρ1 := by unfold aFz; rw [bind_ok h]; rfl
theorem aSlot_fz {i : Nat} {d : D} {mb : M (List Arg)} {xs : List Arg} (h : ρ[i]? = some (.fz d)) (hb : mb ρ = .ok xs ρ1) : aSlot i mb ρ = .ok (.fz d :: xs) ρ1 := by
  unfold aSlot; rw [h]; exact eCons_ok rfl hb
theorem aSlot_own {i : Nat} {c : OC} {mb : M (List Arg)} {xs : List Arg} (h : ρ[i]? = some (.own c)) (hb : mb ρ = .ok xs ρ1) : aSlot i mb ρ = .ok (.rf i :: xs) ρ1 := by
  unfold aSlot; rw [h]; exact eCons_ok rfl hb
theorem asB_ok {m : M D} {b : Bool} (h : m ρ = .ok (.bool b) ρ1) : asB m ρ = .ok b ρ1 := by unfold asB; rw [bind_ok h]; rfl
theorem oLst_ok {m : M (List D)} {xs : List D} (h : m ρ = .ok xs ρ1) (hl : xs.length ≤ 16777216) : oLst m ρ = .ok (.lst xs) ρ1 := by unfold oLst; rw [bind_ok h, if_pos hl]; rfl
theorem eTup_ok {m : M (List D)} {xs : List D} (h : m ρ = .ok xs ρ1) (hl : xs.length ≤ 16777216) : eTup m ρ = .ok (.tuple xs) ρ1 := by unfold eTup; rw [bind_ok h, if_pos hl]; rfl
theorem ofO_ok {m : M OC} {xs : List D} (h : m ρ = .ok (.lst xs) ρ1) : ofO m ρ = .ok (.list xs) ρ1 := by unfold ofO; rw [bind_ok h]; rfl
theorem ofR_ok {m : M Slot} {d : D} (h : m ρ = .ok (.fz d) ρ1) : ofR m ρ = .ok d ρ1 := by unfold ofR; rw [bind_ok h]; rfl
theorem ofR_own {m : M Slot} {xs : List D} (h : m ρ = .ok (.own (.lst xs)) ρ1) : ofR m ρ = .ok (.list xs) ρ1 := by unfold ofR; rw [bind_ok h]; rfl
theorem ownR_ok {m : M Slot} {c : OC} (h : m ρ = .ok (.own c) ρ1) : ownR m ρ = .ok c ρ1 := by unfold ownR; rw [bind_ok h]; rfl
theorem eCallF_ok {F : M Slot} {m : M (List Arg)} {as : List Arg} {r : Slot} (h : m ρ = .ok as ρ1) (hf : callF F as ρ1 = .ok r ρ2) : eCallF F m ρ = .ok r ρ2 := (bind_ok h).trans hf
theorem iOpt_ok {g : List D → Option (List D)} {m : M (List D)} {xs ys : List D} (h : m ρ = .ok xs ρ1) (hg : g xs = some ys) : iOpt g m ρ = .ok ys ρ1 := by unfold iOpt; rw [bind_ok h, hg]; rfl
theorem iSeq_ok {m : M D} {xs : List D} (h : m ρ = .ok (.list xs) ρ1) : iSeq m ρ = .ok xs ρ1 := by unfold iSeq; rw [bind_ok h]; rfl
theorem eIf_t {c : M Bool} {ma mb : M D} {d : D} (hc : c ρ = .ok true ρ1) (h : ma ρ1 = .ok d ρ2) : eIf c ma mb ρ = .ok d ρ2 := by unfold eIf; rw [bind_ok hc]; exact h
theorem eIf_f {c : M Bool} {ma mb : M D} {d : D} (hc : c ρ = .ok false ρ1) (h : mb ρ1 = .ok d ρ2) : eIf c ma mb ρ = .ok d ρ2 := by unfold eIf; rw [bind_ok hc]; exact h
theorem bNot_ok {c : M Bool} {b : Bool} (hc : c ρ = .ok b ρ1) : bNot c ρ = .ok (!b) ρ1 := by unfold bNot; rw [bind_ok hc]; rfl
theorem eIxP_own {i : Nat} {ds : List D} {mb : M D} {k z : D} (h : ρ[i]? = some (.own (.lst ds))) (hb : mb ρ = .ok k ρ1) (h1 : ρ1[i]? = some (.own (.lst ds))) (hg : gIx (.list ds) k = some z) : eIxP i mb ρ = .ok z ρ1 := by
  unfold eIxP onSlot; rw [h]; simp only []; rw [bind_ok hb]; unfold slotL; rw [h1]; simp only [hg, M.opt]
theorem eIxP_fz {i : Nat} {d : D} {mb : M D} {k z : D} (h : ρ[i]? = some (.fz d)) (hb : mb ρ = .ok k ρ1) (hg : gIx d k = some z) : eIxP i mb ρ = .ok z ρ1 := by
  unfold eIxP onSlot; rw [h]; simp only []; rw [bind_ok hb, hg]; rfl
theorem sSeq_ok {a b : M Flw} {r : Out Flw} (ha : a ρ = .ok .next ρ1) (hb : b ρ1 = r) : sSeq a b ρ = r := by unfold sSeq; rw [bind_ok ha]; exact hb
theorem sSeq_ret {a b : M Flw} {s : Slot} (ha : a ρ = .ok (.ret s) ρ1) : sSeq a b ρ = .ok (.ret s) ρ1 := by unfold sSeq; rw [bind_ok ha]; rfl
theorem sSet_ok {i : Nat} {m : M D} {d : D} (h : m ρ = .ok d ρ1) (hi : i < ρ1.length) : sSet i m ρ = .ok .next (ρ1.set i (.fz d)) := by unfold sSet; rw [bind_ok h, if_pos hi]
theorem sSetO_ok {i : Nat} {m : M OC} {c : OC} (h : m ρ = .ok c ρ1) (hi : i < ρ1.length) : sSetO i m ρ = .ok .next (ρ1.set i (.own c)) := by unfold sSetO; rw [bind_ok h, if_pos hi]
theorem sDrop_ok {m : M D} {d : D} (h : m ρ = .ok d ρ1) : sDrop m ρ = .ok .next ρ1 := by unfold sDrop; rw [bind_ok h]; rfl
theorem sRet_ok {m : M D} {d : D} (h : m ρ = .ok d ρ1) : sRet m ρ = .ok (.ret (.fz d)) ρ1 := by unfold sRet; rw [bind_ok h]; rfl
theorem sRetO_ok {m : M OC} {d : OC} (h : m ρ = .ok d ρ1) : sRetO m ρ = .ok (.ret (.own d)) ρ1 := by unfold sRetO; rw [bind_ok h]; rfl
theorem sRetV_ok {i : Nat} {c : OC} (h : ρ[i]? = some (.own c)) : sRetV i ρ = .ok (.ret (.own c)) (ρ.set i .un) := by unfold sRetV; rw [h]
theorem sIf_t {c : M Bool} {a b : M Flw} {r : Out Flw} (hc : c ρ = .ok true ρ1) (h : a ρ1 = r) : sIf c a b ρ = r := by unfold sIf; rw [bind_ok hc]; exact h
theorem sIf_f {c : M Bool} {a b : M Flw} {r : Out Flw} (hc : c ρ = .ok false ρ1) (h : b ρ1 = r) : sIf c a b ρ = r := by unfold sIf; rw [bind_ok hc]; exact h
theorem sPar_ok {i j : Nat} {m : M (List D)} {d e : D} (h : m ρ = .ok [d, e] ρ1) (hi : i < ρ1.length ∧ j < ρ1.length) : sPar i j m ρ = .ok .next ((ρ1.set i (.fz d)).set j (.fz e)) := by unfold sPar; rw [bind_ok h]; exact if_pos hi
theorem sApp_ok {i : Nat} {mb : M D} {ds : List D} {d : D} (h : ρ[i]? = some (.own (.lst ds))) (hb : mb ρ = .ok d ρ1) (h1 : ρ1[i]? = some (.own (.lst ds))) (hl : ds.length < 16777216) : sApp i mb ρ = .ok .next (ρ1.set i (.own (.lst (ds ++ [d])))) := by
  unfold sApp slotL; rw [h]; simp only []; rw [bind_ok hb]; rw [h1]; simp only [if_pos hl]; rfl
theorem sSetIx_ok {i j : Nat} {mv mk : M D} {ds : List D} {d : D} {k : Int} (hv : mv ρ = .ok d ρ1) (h : ρ1[i]? = some (.own (.lst ds))) (hk : mk ρ1 = .ok (.int k) ρ2) (h1 : ρ2[i]? = some (.own (.lst ds))) (hj : ixN ds.length k = some j) : sSetIx i mv mk ρ = .ok .next (ρ2.set i (.own (.lst (ds.set j d)))) := by
  unfold sSetIx; rw [bind_ok hv]; unfold slotL; rw [h]; simp only []; rw [bind_ok hk]; rw [h1]; simp only [hj]; rfl
theorem fnP_ok {P : List Nat} {n N : Nat} {b : M Flw} {ss ρ ss' : Rho} {r : Slot} (ho : ownIn P ss = true) (hn : ss.length = n) (hb : b (ss ++ List.replicate (N - n) .un) = .ok (.ret r) ρ) (hs : backS ss ρ = some ss') : fnP P n N b ss = .ok r ss' := by
  unfold fnP fnM; rw [if_pos ho, if_pos hn, hb]; simp only [hs]
theorem fnP_next {P : List Nat} {n N : Nat} {b : M Flw} {ss ρ ss' : Rho} (ho : ownIn P ss = true) (hn : ss.length = n) (hb : b (ss ++ List.replicate (N - n) .un) = .ok .next ρ) (hs : backS ss ρ = some ss') : fnP P n N b ss = .ok (.fz .none) ss' := by
  unfold fnP fnM; rw [if_pos ho, if_pos hn, hb]; simp only [hs]
end
theorem set_nm {i : Nat} {d : D} {ρ : Rho} (hi : i < ρ.length) : (Tg.nm i).set d ρ = some (ρ.set i (.fz d)) := by unfold Tg.set; rw [if_pos hi]
theorem set_tp2 {i j : Nat} {a b : D} {ρ : Rho} (hi : i < ρ.length) (hj : j < ρ.length) : (Tg.tp [.nm i, .nm j]).set (.tuple [a, b]) ρ = some ((ρ.set i (.fz a)).set j (.fz b)) := by
  simp [Tg.set, Tg.setAll, hi, hj]
/-! ### data -/
abbrev lD (l : List Int) : D := .list (l.map .int)
abbrev tD2 (t : List (List Int)) : D := .list (t.map lD)
theorem ixN_nat {n k : Nat} {i : Int} (hi : i = k) (h : k < n) : ixN n i = some k := by
  subst hi; unfold ixN; rw [if_pos (by omega), if_pos (by omega)]; simp
theorem ixN_neg {n : Nat} (h : 0 < n) : ixN n (-1) = some (n - 1) := by
  unfold ixN; rw [if_neg (by omega), if_pos (by omega)]; congr 1; omega
theorem gIx_at {ds : List D} {i : Int} {n : Nat} {d : D} (hi : i = n) (h : ds[n]? = some d) : gIx (.list ds) (.int i) = some d := by
  have hl : n < ds.length := by
    rcases Nat.lt_or_ge n ds.length with z | z
    · exact z
    · rw [List.getElem?_eq_none z] at h; cases h
  show L2.atI ds i = _
  unfold L2.atI
  rw [ixN_nat hi hl]; exact h
theorem gIx_last {ds : List D} {i : Int} {d : D} (hi : i = -1) : gIx (.list (ds ++ [d])) (.int i) = some d := by
  subst hi
  show L2.atI _ _ = _
  unfold L2.atI
  rw [ixN_neg (by simp)]; simp
theorem map_at {α β : Type} {f : α → β} {l : List α} {n : Nat} {x : α} (h : l[n]? = some x) : (l.map f)[n]? = some (f x) := by simp [h]
theorem gSum_ints {l : List Int} : gSum [lD l] = some (.int l.sum) := by show (intsOf _).map _ = _; rw [intsOf_map]; rfl
theorem okMul_ok {i j : Int} {a b : Nat} (hi : i.natAbs < 2 ^ a) (hj : j.natAbs < 2 ^ b) (hab : a + b ≤ 900000) : okMul i j = true := by
  unfold okMul
  simp only [Bool.or_eq_true, decide_eq_true_eq]
  refine .inr ?_
  have h1 : i.natAbs.log2 ≤ a := by
    by_cases z : i.natAbs = 0
    · rw [z]; simp
    · exact Nat.le_of_lt ((Nat.log2_lt z).mpr hi)
  have h2 : j.natAbs.log2 ≤ b := by
    by_cases z : j.natAbs = 0
    · rw [z]; simp
    · exact Nat.le_of_lt ((Nat.log2_lt z).mpr hj)
  omega
theorem gMul_ok {i j : Int} {a b : Nat} (hi : i.natAbs < 2 ^ a) (hj : j.natAbs < 2 ^ b) (hab : a + b ≤ 900000) : gMul (.int i) (.int j) = some (.int (i * j)) := by
  show (if okMul i j then _ else _) = _
  rw [if_pos (okMul_ok hi hj hab)]
theorem rng1_ok {n : Nat} {i : Int} (hi : i = n) (h : n ≤ 16777216) : rng1 [.int i] = some ((List.range n).map fun (k : Nat) => PyData.int k) := by
  subst hi
  show rngD 0 _ = _
  rw [rngD_ok (by omega)]
  simp
theorem rng2_ok {n : Nat} {lo hi : Int} {a : Nat} (hl : lo = a) (hh : hi = (a + n : Nat)) (h : a + n ≤ 16777216) : rng2 [.int lo, .int hi] = some ((List.range n).map fun (k : Nat) => PyData.int (a + k : Nat)) := by
  subst hl hh
  show rngD _ _ = _
  rw [rngD_ok (by omega), show ((((a + n : Nat) : Int)) - (a : Int)).toNat = n by omega]
  simp
theorem range_at {α : Type} {n k : Nat} {d : α} {f : Nat → α} (h : ((List.range n).map f)[k]? = some d) : k < n ∧ d = f k := by
  rw [List.getElem?_map] at h
  by_cases hk : k < n
  · rw [List.getElem?_range hk] at h; exact ⟨hk, (Option.some.inj h).symm⟩
  · rw [List.getElem?_eq_none (by simpa using hk)] at h; cases h
theorem zip_map {α β : Type} {f : α → D} {g : β → D} : ∀ (xs : List α) (ys : List β), List.zipWith (fun a b => PyData.tuple [a, b]) (xs.map f) (ys.map g) = (xs.zip ys).map fun p => PyData.tuple [f p.1, g p.2]
  | [], _ => by simp
  | _ :: _, [] => by simp
  | x :: xs, y :: ys => by simp [zip_map xs ys]
/-! ### texts of small data -/
theorem shown_int {i : Int} {k : Nat} (h0 : 0 ≤ i) (hk : 0 < k) (h : i < 10 ^ k) : (PyData.shown (.int i)).length ≤ k := by
  simp only [PyData.shown]
  exact PyProof.Rows.toString_length_le h0 hk h
theorem repr_ok {d : D} (B : Nat) (hB : 8 ≤ B) (h1 : d.showable = true) (h2 : d.depth ≤ 64) (h3 : d.leavesShort B = true) (h4 : (B + 2) * d.weight + B ≤ 16777216) (h5 : d.canLay0 = true) : gRepr [d] = some (.str d.shown) := by
  have := PyData.shown_le B hB d h3
  show reprD d = _
  unfold reprD
  rw [h1, h5, decide_eq_true h2, decide_eq_true (Nat.le_trans this h4)]
  rfl
end DL

/-! DLk: the laws' own draws. -/
namespace DL
open PySem PySem.Spec L2
theorem gFdiv_ok {i j : Int} (h : 0 < j) (hj : j < 2 ^ 64) : gFdiv (.int i) (.int j) = some (.int (i / j)) := by
  show (if _ then _ else _) = _
  rw [if_pos]
  have : j.natAbs.log2 < 64 := (Nat.log2_lt (by omega)).mpr (by omega)
  exact decide_eq_true ⟨h, by omega⟩
theorem gMod_ok {i j : Int} (h : 0 < j) : gMod (.int i) (.int j) = some (.int (i % j)) := by
  show (if _ then _ else _) = _
  rw [if_pos (decide_eq_true h)]
theorem gPow_ok {i : Int} {n : Nat} (hn : n ≤ 1000) (h : i.natAbs < 2 ^ 250) : gPow (.int i) (.int n) = some (.int (i ^ n)) := by
  show (if _ then _ else _) = _
  rw [if_pos (decide_eq_true ⟨by omega, by omega, h⟩)]; simp
theorem gMulL {i j : Int} (h : i.natAbs < 2 ^ 64) : gMul (.int i) (.int j) = some (.int (i * j)) := by
  show (if okMul i j then _ else _) = _
  rw [if_pos (by simp [okMul, h])]
/-- the source of draws, k draws taken -/
def SrcOk (k : Nat) (l : List D) : Prop := ∃ a b c : Int, l = [.int a, .int b, .int c] ∧ 0 ≤ a ∧ 0 ≤ b ∧ b < 10 ^ 39 + 3 ∧ 0 ≤ c ∧ c ≤ k
def bSource : M Flw := (sRetO (oLst (eCons (eCall gMax (eCons (eC (.int 0)) (eCons (eBin DL.gSub (eCall gAbs (eCons (eVar 0) eNil)) (eBin gPow (eC (.int 10)) (eC (.int 18)))) eNil))) (eCons (eBin gMod (eVar 0) (eBin gAdd (eBin gPow (eC (.int 10)) (eC (.int 39))) (eC (.int 3)))) (eCons (eC (.int 0)) eNil)))))
theorem e_source {x : Int} : ∃ l, SrcOk 0 l ∧ fnP [] 1 1 bSource [.fz (.int x)] = .ok (.own (.lst l)) [.fz (.int x)] := by
  refine' ⟨_, ⟨_, _, _, rfl, ?_, ?_, ?_, Int.le_refl 0, Int.le_refl 0⟩, fnP_ok rfl rfl (sRetO_ok (oLst_ok (eCons_ok (eCall_ok (eCons_ok rfl (eCons_ok (eBin_ok (eCall_ok (eCons_ok (eVar_ok rfl) rfl) rfl) (eBin_ok rfl rfl (gPow_ok (n := 18) (by decide) (by decide))) rfl) rfl)) rfl) (eCons_ok (eBin_ok (eVar_ok rfl) (eBin_ok (eBin_ok rfl rfl (gPow_ok (n := 39) (by decide) (by decide))) rfl rfl) (gMod_ok (by decide))) (eCons_ok rfl rfl))) (by simp))) rfl⟩
  · split <;> omega
  · exact Int.emod_nonneg _ (by decide)
  · exact Int.emod_lt_of_pos _ (by decide)
def bDraw : M Flw := (sSeq (sIf (asB (eBin gGt (eIxP 0 (eC (.int 0))) (eC (.int 0))))
    (sSeq (sSet 2 (eBin gMod (eIxP 0 (eC (.int 0))) (eVar 1)))
    (sSeq (sSetIx 0 (eBin gFdiv (eIxP 0 (eC (.int 0))) (eVar 1)) (eC (.int 0)))
    (sRet (eVar 2))))
    sNext)
    (sSeq (sSetIx 0 (eBin gAdd (eIxP 0 (eC (.int 2))) (eC (.int 1))) (eC (.int 2)))
    (sSeq (sSet 3 (eBin gMod (eBin gPow (eBin gAdd (eIxP 0 (eC (.int 1))) (eBin gMul (eC (.int 15487469)) (eIxP 0 (eC (.int 2))))) (eC (.int 3))) (eBin gAdd (eBin gPow (eC (.int 10)) (eC (.int 41))) (eC (.int 37)))))
    (sSeq (sSet 3 (eBin gMod (eBin gPow (eBin gAdd (eVar 3) (eBin gMul (eC (.int 32452867)) (eIxP 0 (eC (.int 2))))) (eC (.int 3))) (eBin gAdd (eBin gPow (eC (.int 10)) (eC (.int 40))) (eC (.int 121)))))
    (sRet (eBin gMod (eBin gFdiv (eVar 3) (eC (.int 2750159))) (eVar 1)))))))
theorem pow250 : (10 : Int) ^ 60 < 2 ^ 250 := by decide
theorem natAbs250 {x : Int} (h0 : 0 ≤ x) (h : x < 10 ^ 60) : x.natAbs < 2 ^ 250 := by
  have := pow250
  omega
theorem e_draw {l : List D} {k : Nat} {m : Int} (h : SrcOk k l) (hk : k ≤ 1000000) (hm : 0 < m) (hm2 : m < 2 ^ 64) : ∃ l' r, SrcOk (k + 1) l' ∧ 0 ≤ r ∧ r < m ∧ fnP [0] 2 4 bDraw [.own (.lst l), .fz (.int m)] = .ok (.fz (.int r)) [.own (.lst l'), .fz (.int m)] := by
  obtain ⟨a, b, c, rfl, ha, hb, hb2, hc, hc2⟩ := h
  by_cases za : 0 < a
  · refine' ⟨_, _, ⟨a / m, b, c, rfl, Int.ediv_nonneg ha (by omega), hb, hb2, hc, by omega⟩, Int.emod_nonneg a (by omega), Int.emod_lt_of_pos a hm, fnP_ok rfl rfl (sSeq_ret (sIf_t (asB_ok (eBin_ok (eIxP_own rfl rfl rfl rfl) rfl ?g1)) (sSeq_ok (sSet_ok (eBin_ok (eIxP_own rfl rfl rfl rfl) (eVar_ok rfl) (gMod_ok hm)) (by simp)) (sSeq_ok (sSetIx_ok (j := 0) (eBin_ok (eIxP_own rfl rfl rfl rfl) (eVar_ok rfl) (gFdiv_ok hm hm2)) rfl rfl rfl rfl) (sRet_ok (eVar_ok rfl)))))) rfl⟩
    case g1 => exact congrArg (fun x => some (PyData.bool x)) (decide_eq_true za)
  · refine' ⟨_, _, ⟨a, b, c + 1, rfl, ha, hb, hb2, by omega, by omega⟩, ?r1, ?r2, fnP_ok rfl rfl (sSeq_ok (sIf_f (asB_ok (eBin_ok (eIxP_own rfl rfl rfl rfl) rfl ?g2)) rfl) (sSeq_ok (sSetIx_ok (j := 2) (eBin_ok (eIxP_own rfl rfl rfl rfl) rfl rfl) rfl rfl rfl rfl) (sSeq_ok (sSet_ok (eBin_ok (eBin_ok (eBin_ok (eIxP_own rfl rfl rfl rfl) (eBin_ok rfl (eIxP_own rfl rfl rfl rfl) (gMulL (by decide))) rfl) rfl (gPow_ok (n := 3) (by decide) ?p1)) (eBin_ok (eBin_ok rfl rfl (gPow_ok (n := 41) (by decide) (by decide))) rfl rfl) (gMod_ok (by decide))) (by simp)) (sSeq_ok (sSet_ok (eBin_ok (eBin_ok (eBin_ok (eVar_ok rfl) (eBin_ok rfl (eIxP_own rfl rfl rfl rfl) (gMulL (by decide))) rfl) rfl (gPow_ok (n := 3) (by decide) ?p2)) (eBin_ok (eBin_ok rfl rfl (gPow_ok (n := 40) (by decide) (by decide))) rfl rfl) (gMod_ok (by decide))) (by simp)) (sRet_ok (eBin_ok (eBin_ok (eVar_ok rfl) rfl (gFdiv_ok (by decide) (by decide))) (eVar_ok rfl) (gMod_ok hm))))))) rfl⟩
    case g2 => exact congrArg (fun x => some (PyData.bool x)) (decide_eq_false za)
    case r1 => exact Int.emod_nonneg _ (by omega)
    case r2 => exact Int.emod_lt_of_pos _ hm
    case p1 =>
      refine natAbs250 ?_ ?_ <;> omega
    case p2 =>
      have h1 := Int.emod_nonneg ((b + 15487469 * (c + 1)) ^ 3) (b := 10 ^ 41 + 37) (by decide)
      have h2 := Int.emod_lt_of_pos ((b + 15487469 * (c + 1)) ^ 3) (b := 10 ^ 41 + 37) (by decide)
      generalize (b + 15487469 * (c + 1)) ^ 3 % (10 ^ 41 + 37) = z at h1 h2 ⊢
      refine natAbs250 ?_ ?_ <;> omega
/-! ### texts are texts -/
mutual
def plainD : D → Bool
  | .none | .bool _ | .int _ => true
  | .list xs | .tuple xs => plainAll xs
  | .str _ | .dict _ => false
def plainAll : List D → Bool
  | [] => true
  | x :: xs => plainD x && plainAll xs
end
theorem hi_list {k : Nat} (hk : 0x110000 ≤ k) {ts : List Str} (h : ∀ t ∈ ts, k ∉ t.cps.toList) : k ∉ (Str.join ", " ts).cps.toList := fun hm => by
  rw [PyProof.Rows.mem_join] at hm
  rcases hm with ⟨t, ht, hc⟩ | ⟨_, hc⟩
  · exact h t ht hc
  · rw [PyProof.Rows.signs_sep] at hc; simp at hc; omega
mutual
theorem shown_hi {k : Nat} (hk : 0x110000 ≤ k) : ∀ d : D, plainD d = true → k ∉ d.shown.cps.toList
  | .none, _ => by
    rw [PyData.shown_none]
    have e : (("None" : String) : Str).cps.toList = [78, 111, 110, 101] := by decide
    rw [e]; simp; omega
  | .bool b, _ => by
    rw [PyData.shown_bool]
    cases b
    · have e : (("False" : String) : Str).cps.toList = [70, 97, 108, 115, 101] := by decide
      show k ∉ (("False" : String) : Str).cps.toList
      rw [e]; simp; omega
    · have e : (("True" : String) : Str).cps.toList = [84, 114, 117, 101] := by decide
      show k ∉ (("True" : String) : Str).cps.toList
      rw [e]; simp; omega
  | .int i, _ => PyProof.Rows.shown_int_free' (by omega) i
  | .list xs, h => by
    have ih := shownAll_hi hk xs (by simpa [plainD] using h)
    rw [PyData.shown_list, PyProof.Rows.mem_cps_append, PyProof.Rows.mem_cps_append, PyProof.Rows.signs_lbrack, PyProof.Rows.signs_rbrack]
    rintro ((hm | hm) | hm)
    · simp at hm; omega
    · exact hi_list hk ih hm
    · simp at hm; omega
  | .tuple xs, h => by
    have ih := shownAll_hi hk xs (by simpa [plainD] using h)
    rw [PyData.shown_tuple, PyProof.Rows.mem_cps_append, PyProof.Rows.mem_cps_append, PyProof.Rows.signs_lparen]
    rintro ((hm | hm) | hm)
    · simp at hm; omega
    · exact hi_list hk ih hm
    · split at hm
      · rw [show ((",)" : String) : Str).cps.toList = [44, 41] by decide] at hm; simp at hm; omega
      · rw [show ((")" : String) : Str).cps.toList = [41] by decide] at hm; simp at hm; omega
  | .str _, h => by simp [plainD] at h
  | .dict _, h => by simp [plainD] at h
theorem shownAll_hi {k : Nat} (hk : 0x110000 ≤ k) : ∀ xs : List D, plainAll xs = true → ∀ t ∈ PyData.shownAll xs, k ∉ t.cps.toList
  | [], _, t, ht => by rw [PyData.shownAll_nil] at ht; exact absurd ht (by simp)
  | x :: r, h, t, ht => by
    simp only [plainAll, Bool.and_eq_true] at h
    rw [PyData.shownAll_cons, List.mem_cons] at ht
    rcases ht with e | ht
    · rw [e]; exact shown_hi hk x h.1
    · exact shownAll_hi hk r h.2 t ht
end
theorem strOk_shown {d : D} (h : plainD d = true) : PyData.strOk d.shown = true := by
  unfold PyData.strOk
  rw [← Array.all_toList, List.all_eq_true]
  intro c hc
  refine decide_eq_true ?_
  rcases Nat.lt_or_ge c 0x110000 with z | z
  · exact z
  · exact absurd hc (shown_hi z d h)
theorem gNe_shown {d : D} (h : plainD d = true) : gNe (.str d.shown) (.str d.shown) = some (.bool false) := by
  have s := strOk_shown h
  have : SeqAt.shaped (.str d.shown) = true := by simp [SeqAt.shaped, PyData.canLay0, s, PyData.depth]
  unfold gNe
  rw [this]
  simp [PyData.eqv]
/-! ### what a run leaves -/
def Wp {α : Type} (m : M α) (ρ : Rho) (Q : α → Rho → Prop) : Prop := ∃ a ρ', m ρ = .ok a ρ' ∧ Q a ρ'
theorem wp_ok {α : Type} {m : M α} {ρ ρ' : Rho} {a : α} {Q : α → Rho → Prop} (h : m ρ = .ok a ρ') (q : Q a ρ') : Wp m ρ Q := ⟨_, _, h, q⟩
theorem wp_seq {a b : M Flw} {ρ : Rho} {Q : Flw → Rho → Prop} (h : Wp a ρ (fun f ρ1 => f = .next ∧ Wp b ρ1 Q)) : Wp (sSeq a b) ρ Q := by
  obtain ⟨_, ρ1, e, rfl, ⟨f, ρ2, e2, q⟩⟩ := h
  exact ⟨f, ρ2, sSeq_ok e e2, q⟩
theorem wp_seq1 {a b : M Flw} {ρ ρ1 : Rho} {Q : Flw → Rho → Prop} (e : a ρ = .ok .next ρ1) (h : Wp b ρ1 Q) : Wp (sSeq a b) ρ Q := wp_seq (wp_ok e ⟨rfl, h⟩)
theorem wp_for {mi : M (List D)} {g : Tg} {b : M Flw} {ds : List D} {ρ ρ0 : Rho} {Q : Flw → Rho → Prop} (I : Nat → Rho → Prop) (hm : mi ρ = .ok ds ρ0) (h0 : I 0 ρ0)
    (st : ∀ k d ρ, ds[k]? = some d → I k ρ → ∃ ρ1, g.set d ρ = some ρ1 ∧ Wp b ρ1 fun f ρ2 => (f = .next ∨ f = .cont) ∧ I (k + 1) ρ2) (q : ∀ ρ', I ds.length ρ' → Q .next ρ') : Wp (sFor mi g b) ρ Q := by
  obtain ⟨ρ', e, h⟩ := sFor_inv (g := g) (b := b) I hm h0 fun k d ρ hk hi => by
    obtain ⟨ρ1, e1, f, ρ2, e2, e3, i2⟩ := st k d ρ hk hi
    exact ⟨ρ1, ρ2, e1, by rcases e3 with rfl | rfl; exact .inl e2; exact .inr e2, i2⟩
  exact ⟨_, _, e, q _ h⟩
theorem fnP_wp {P : List Nat} {n N : Nat} {b : M Flw} {ss ss' : Rho} {r : Slot} (ho : ownIn P ss = true) (hn : ss.length = n) (hb : Wp b (ss ++ List.replicate (N - n) .un) fun f ρ => f = .ret r ∧ backS ss ρ = some ss') : fnP P n N b ss = .ok r ss' := by
  obtain ⟨_, ρ, e, rfl, h⟩ := hb
  exact fnP_ok ho hn e h
theorem callF_rf1 {F : M Slot} {i : Nat} {c c' : OC} {d : D} {r : Slot} {ρ : Rho} (h : ρ[i]? = some (.own c)) (hf : F [.own c, .fz d] = .ok r [.own c', .fz d]) : callF F [.rf i, .fz d] ρ = .ok r (ρ.set i (.own c')) := by
  simp [callF, ndA, argSlots, argSlot, h, hf, backR, isOwn]
theorem pick2 {x y : Int} (t : Nat) : ∃ v, (v = x ∨ v = y) ∧ gIx (.list [.int x, .int y]) (.int ((t : Int) % 2)) = some (.int v) := by
  rcases Nat.mod_two_eq_zero_or_one t with h | h
  · exact ⟨x, .inl rfl, gIx_at (n := 0) (by omega) rfl⟩
  · exact ⟨y, .inr rfl, gIx_at (n := 1) (by omega) rfl⟩
theorem e_len_scr {ns : List Int} : gLen [scrD ns] = some (.int ns.length) := by
  show some (PyData.int _) = _
  rw [List.length_map]
end DL

namespace My
def TT : List (List Int) := [
  [0, 1, 0, 0, 0, 0, 0, 0, 0, 0, 0, 0, 0, 0, 0, 0, 0, 0, 0, 0, 0, 0, 0, 0, 0, 0, 0, 0, 0, 0, 0, 0, 0, 0, 0, 0, 0, 0, 0, 0, 0],
  [1, 1, 1, 1, 1, 1, 1, 1, 1, 1, 1, 1, 1, 1, 1, 1, 1, 1, 1, 1, 1, 1, 1, 1, 1, 1, 1, 1, 1, 1, 1, 1, 1, 1, 1, 1, 1, 1, 1, 1, 1],
  [1, 1, 2, 5, 15, 52, 203, 877, 4140, 21147, 115975, 678570, 4213597, 27644437, 190899322, 1382958545, 10480142147, 82864869804, 682076806159, 5832742205057, 51724158235372, 474869816156751, 4506715738447323, 44152005855084346, 445958869294805289, 4638590332229999353, 49631246523618756274, 545717047936059989389, 6160539404599934652455, 71339801938860275191172, 846749014511809332450147, 10293358946226376485095653, 128064670049908713818925644, 1629595892846007606764728147, 21195039388640360462388656799, 281600203019560266563340426570, 3819714729894818339975525681317, 52868366208550447901945575624941, 746289892095625330523099540639146, 10738823330774692832768857986425209, 157450588391204931289324344702531067],
  [1, 1, 3, 12, 60, 358, 2471, 19302, 167894, 1606137, 16733779, 188378402, 2276423485, 29367807524, 402577243425, 5840190914957, 89345001017415, 1436904211547895, 24227076487779802, 427187837301557598, 7859930038606521508, 150601795280158255827, 2999595438495337377182, 62000445476878109022622, 1327900149550871982551365, 29428386545082652967755401, 673964007670103581623603490, 15931496783264952762775117855, 388278726053850598266131672610, 9746496092119242563865466431801, 251739863703206139656036585627205, 6684388567813283197219749168908773, 182309667659090992447421348258108663, 5103291147952466530494658861569752070, 146506939597294510000263668792343906248, 4310486897933402297233704171885599822166, 129886731295239827455082496930988073846437, 4005891665396151967630350121280169153522656, 126377439101599722992629919331169724802143518, 4075952104736465323465549921478801421996950699, 134320794892217018393044739985405913856866505163],
  [1, 1, 4, 22, 154, 1304, 12915, 146115, 1855570, 26097835, 402215465, 6734414075, 121629173423, 2355470737637, 48664218965021, 1067895971109199, 24795678053493443, 607144847919796830, 15630954703539323090, 421990078975569031642, 11918095123121138408128, 351369494911150177020241, 10792572737783611171832003, 344759023849563026431355044, 11434768365777635966093105909, 393195799502433435649795111305, 13997789564783573182982601645955, 515256382074081688770644954134475, 19587765449187866032368709256716115, 768181964256647935963233933235846001, 31046548019952874121313292202975803685, 1291855356510248050900150087819757230293, 55293422805065620771576201296534691616234, 2432336239911575070027926782688524013833290, 109879731973881111533781173347388546121705898, 5093643966420225457237230458576149501186548356, 242129645262411203256905299399006632684519142617, 11794616438618324295412215439880944107881470344763, 588382345461831017329865870189241772049005186201672, 30040909279282634893056359044090100085154963069467109, 1568898849974251150220794017723931248960325954122776485],
  [1, 1, 5, 35, 315, 3455, 44590, 660665, 11035095, 204904830, 4183174520, 93055783320, 2238954627848, 57903797748386, 1601122732128779, 47120734323344439, 1470076408565099152, 48449426629560437576, 1681560512531504058350, 61293054886119796799892, 2340495383889150212466948, 93417856359082371487510529, 3889517323572460675820871355, 168617075595955865211047859738, 7598221485381322382205075470137, 355345852715045240336771452581630, 17222515815522371101239727233118760, 863916770583600223059415893444680480, 44796368986055521893927573283379687500, 2398348261602014586305701908517552721791, 132439230013145470851954779676107109712200, 7535683956790929901109486584379453539539003, 441391881450450721218818665641288381081011180, 26591355418653193190121044469032208277730851702, 1646313418282441848894936468591054521585776236538, 104665259798094503539760417727808079587104754639356, 6827969604276531882225886175260129594313731085665713, 456749345933805834412746726276677074821621076170008822, 31309485999357885416838941616504634147362849999909510731, 2197933954567983824448319724588946295918611969341167885967, 157919840866420316212927054536332425428745671632098861040095],
  [1, 1, 6, 51, 561, 7556, 120196, 2201856, 45592666, 1051951026, 26740775306, 742069051906, 22310563733864, 722108667742546, 25024187820786357, 924161461265888370, 36223781285638309482, 1501552062016443881514, 65615806216647567704054, 3014172185130478508636024, 145182909448358007294714590, 7315683185452671138995784017, 384842519240267875900620203711, 21094881524346358118204861007221, 1202774353360469483850515209423277, 71221780613262369091221279508214161, 4373466948233175042286498138572214436, 278121144865198993064773747379321001431, 18293250013481146988174331096323043981651, 1243049041233613161403516849138512156747507, 87167057374651994770423736456111384888587926, 6301448868364767453122765539229023322005503549, 469177920622791726300086609398326473498100004032, 35946323777161570748369564025801873862526382063822, 2831554805199240036404257472988819077079403623712230, 229141626186547364881326778279413025810618113699201662, 19035568547581916178574905354011658901587798426035270241, 1622193437327288873949355076465269535763689297064137015865, 141717272200187809898392648376042836809084040089187406696295, 12683811886901432314242307187539033553836483021584626790250365, 1162307668549522611476233100635972165866026921746881767824742593],
  [1, 1, 7, 70, 910, 14532, 274778, 5995892, 148154860, 4085619622, 124304629050, 4133867297490, 149114120602860, 5796433459664946, 241482353893283349, 10730629952953517859, 506500241174366575122, 25302666611855946733140, 1333471119612688471631328, 73923363837227520623765352, 4299708620818860783778474398, 261784227205746251388334712907, 16648582632921113727549717317283, 1103835240582224049834305681716253, 76165716196803095544174701501314297, 5460603808928595191669151452377063978, 406163007970934861669011133523608603189, 31299701442574870423046527135292034368094, 2495773937418100634528672638473905966008965, 205674070244607904892764474280830317551004078, 17497744755406561621417149715013163319213546947, 1535194320064758994202662674429184613761531528386, 138772174117041857256326456514921775026498841016076, 12912313978537248214939019544307366407008581549782474, 1235653920950118824462827040501062879747065087161845326, 121515213376177762918364494168674483449994726345630975206, 12270862959558876249991075942221401630807538429844740840045, 1271504468907985635542296018854344322351170106849190021470546, 135102475594936514758560168617921612204856255561335074337843346, 14710619843881737877417461866412841535108244172942001424158974671, 1640418510100164151818905678169531358824178590218809842961268798437],
  [1, 1, 8, 92, 1380, 25488, 558426, 14140722, 406005804, 13024655442, 461451524934, 17886290630832, 752602671853068, 34152212772528222, 1662095923363838817, 86335146917372644026, 4766427291743224251474, 278658370977555551901990, 17195222282565568701622800, 1116698929032486128053710336, 76124197706786754991977853182, 5434306561977783210800327126985, 405389096649240953578041946135953, 31539939302074460175810058564393418, 2554682208318039567714158208783749305, 215074911090022969821274827070297275551, 18791646291954048374824045019357872465205, 1701597881913157958275041867686291651113485, 159479528278888846464028440943950007906119645, 15452086142822887574097244569294226472776105527, 1546027209491678237953657456972528215130957481595, 159566068040309025949689062506903658861711779668621, 16971951132817227278532221592512915340477214672118856, 1858623523351573963947463453323392049262671079989918570, 209384225950830841800055708645033498058551447350161967546, 24245747330963926559474161615431265630821153352423583659472, 2883582617449271970174020484263076958835939442063954066536589, 351980689828745755022204661676278222841741434840993332276420967, 44065237199371562089375576157946925960164964033355632342070559846, 5654327282617490889529180631119392502166941983324805976305238451333, 743197728202600030809085394638476049487190724786456446921071355035521],
  [1, 1, 9, 117, 1989, 41709, 1038975, 29947185, 979687005, 35839643175, 1449091813035, 64144495494825, 3084209792570721, 160023238477245789, 8909102551102555002, 529651263967161225648, 33482356679629151295651, 2242327194425653025743965, 158566024588940938231000095, 11805248231921623822344191349, 922890734083251560978169782901, 75579423478367363309536211620212, 6469921204495515016771323489841296, 577808319422492372135621983381235315, 53737549462883835206596633469932096756, 5195948263003099057851847243804942387185, 521536292413539299747049233868918294266055, 54265866670665816246961153540850129001238515, 5845552997407404865646997408275696250924143835, 651110976472965572440861343918244836944959658332, 74907377118778995571925939537400411464462132032785, 8891522053865656453654222547778176123023912839918066, 1087878703696087179193924617432476769378250719327441093, 137067662746600469303624705658156962689453108371507084015, 17768921960018590634155062229613296074025069177455347977431, 2368110824317983160011928875740982903352758281346046618490597, 324206161184980846526355352056995066994531024072093612477735954, 45561779057031584988901724343521246037836436964978029505422537141, 6568089894379511015474329804927280520524339604107404149160905655614, 970623906453379348653342178563391950003835436105093714466050560276998, 146948544234762069502505386495440431058279311115918869726346106271651530],
  [1, 1, 10, 145, 2755, 64660, 1804705, 58336855, 2141867440, 87998832685, 3998289746065, 198991311832840, 10762795518750121, 628439018694857887, 39390402253060922833, 2637469071097179922603, 187848412983167698626469, 14178423030415044515701642, 1130344793130566986012346845, 94901755945756363333486769089, 8368874047893874184385911401426, 773304842614217490506436500023558, 74710803777612957706763974437543310, 7531940687938610088788996763872320023, 790926403282213826387123548234341766904, 86367427244883482308222936396431207123110, 9792289278581898882415839909306559852405740, 1151130679682213139883508300300346820839543130, 140120498256248796676839758556603985677971520070, 17639483960124585964314509272590062205912631139767, 2293948568748355674794523343803145836057477540210685, 307846279323247965900421458835092447760925275349881276, 42589712930274999077382763200332367547697402489459608960, 6068632325659922227652396463911392728631971903709535827669, 889838517749918983295253406493485082541951161980360049288461, 134155009403945091329158003757260644551818863166435091898035112, 20779696393686190052585594772435643921404874017373879732123565866, 3304364697257398694203960045792277517320233595739845415536422572034, 539076207071171484872569418471597726964624983135219301644009551004077, 90165098221893683452142758403561458661339479576673285619524340186259174, 15451836478693303388985852543367680053421506353920228407250048620970630800],
  [1, 1, 11, 176, 3696, 95986, 2967041, 106296586, 4328071506, 197304236151, 9951699489061, 550054365477936, 33053174868315877, 2144972900520659506, 149472637758381213628, 11130201727845695463914, 881841184375010602801553, 74061565980075915066583527, 6571521501819648218590641082, 614215716520961449744514993042, 60311673735401359277297139627394, 6206740843173156451518962142375468, 667976231174250131623061884985209581, 75029337777994005761655307864224605193, 8779805318610509286887845636571392633600, 1068557078526419953288292474736295264491621, 135052270860719783715593653992188735190299091, 17700277236884908955284664409294498878262687061, 2402480501954727049854148826736792212271909013511, 337294385350637908347302812122266842494658733176103, 48925098797487548080930074411132009983487056059947906, 7324266689922757063352190118866189585626417653556699887, 1130504670730206361833174956034930493083131324057080504163, 179741770851843996044223062656059696859006323887531734989508, 29411090255096502126209524483538234350493103486305726531194674, 4948777343167585893879851996683057771072667309229771403060675748, 855596420384280966555416312972863915841721371250260036856147602746, 151880667360342790197337968723099538129248546183306410715045527544444, 27662660045447260915455841004868676444335341537512497645333251097034984, 5166001548994914722969253339669521351469477090174172134826154571935695564, 988576192978246464343378757416672412884290956976507910430851172675584540130],
  [1, 1, 12, 210, 4830, 137512, 4663253, 183389757, 8200852430, 410771075397, 22773405820375, 1384060090903535, 91478394767427823, 6531442126098815795, 500895393446900758956, 41057662170773253286073, 3581689221187453600812237, 331276672923246715609059336, 32378204950168006331761883602, 3334110425478855639739476772782, 360754232236806022347060982321174, 40916577746587458578904603517468248, 4853926534250383386213728072292009128, 601072989546389893352780219841876322392, 77554880014217830047170560487681307051944, 10409057858453490458539287822083302934656728, 1450987392843346442382475032091772203955318824, 209771242693861735551456695160519107114205720004, 31411135179808261215145372168053836505694496329200, 4865666191387759000539731247071311752014108060035704, 778796283511716215486398670410400318127567229411803372, 128665727423795627208848585614374327020607182361681020584, 21919138564954993081258466534010713376987346137646008891038, 3846773932686155888480094114930982582927339977937379022272316, 694860864056320314095707826366601646591632814775201028741683828, 129081731694918481713230885742697111640303097686297795672296647512, 24640846398453712909176758602082251815932012790274219659512774631478, 4830001631825100795020527732304410563897611247974125379643867080863646, 971480093966141961686312070065582230366775369576941227969699238943768896, 200366708026168409265795439192517737230674721455716140552351182911671204398, 42349373945457701850552983193840670382149295407568088833151812748819452105602],
  [1, 1, 13, 247, 6175, 191243, 7059156, 302324217, 14728998739, 804060811372, 48599537773514, 3221070321954212, 232230523534594676, 18091315306315315610, 1514136632435931685454, 135474930894652744251220, 12902771338002251751616298, 1303150956294586288246309680, 139103836334753921272588090508, 15646539270259291611509433692824, 1849555896464332792743494511495016, 229210950552185345757918272070966718, 29714505562726973207848437391100613914, 4021593262625560083341377602444586417236, 567191152534127144105440309178122149482046, 83220913753705273742762868919113561401462476, 12683367099744300984870760565905365905679692040, 2004997329476621183094414390299443845128772337100, 328317124644979966284108027646340069531780876974820, 55620848092397817624666243022983817668521861283258878, 9737471806028869307340317259531879407340239429353688930, 1759755576575204817908435316067555388963469020723801335464, 327958341924941922927243385790152729584411725608220323404944, 62970161213701798284485355362384999361793626467988326005956180, 12445571239154196659254426744888546316663952265767065281469302324, 2529852928039549219371563855850803333288308794935141894102222136448, 528485553622311263121242342545526959346908410178306318253151117776646, 113371574726980968825652888440695808087080520215896526320765988387310088, 24957527672309819272566950893767516790952103350103002687791185154433294074, 5634226894195797180114174213625558553408428425512515649973308849408766455302, 1303545814566095105157645379153138925979263113997430965946000431415811186587014],
  [1, 1, 14, 287, 7749, 259364, 10351810, 479576930, 25283361390, 1494035141340, 97776174607580, 7018375580502300, 548135428211610344, 46265730933522733556, 4196205472500769304318, 406938540081691012553172, 42014752906966333608315124, 4600751026026884046038049980, 532538022087095503061183781740, 64963006113515081860811461183896, 8329275331322851391854703364568644, 1119746799990039730103815670032971038, 157488140788029022027094129072131890754, 23127045965482159705462663935868840915838, 3539482299636358492434027522675966657819446, 563604755572810588806581941175411905970855390, 93228851605674732116648241855931192485191495800, 15997170586145370040243845299933718618499993324070, 2843641944653264749393102048791692951072860378759510, 523007446459069560526459649124348768440440386760464418, 99412467800786125073311483013742975274628994960658246350, 19507676113262515130036020517930425486506262052467695053694, 3947874554025711119081137782260178230754704898121375797741152, 823194973720789295960000711182837317450393611819329637702022100, 176700041519780564212760663548656287120506444318866434081079137164, 39012217337954622794662544819941957134938356249808659981890848581748, 8852188999303188658568024574585193513321607297417519846375021121126486, 2062821546281535751317131226045653903334673027651917830726316779074595474, 493316691445361802102458275249022214653809039628225278027056599830442187746, 120990525376189526378910590723915509029505678468695548989254952221953468897282, 30413144947251382071010122593176869054047644045657961545074003550313375237352890],
  [1, 1, 15, 330, 9570, 344240, 14772220, 736075320, 41750889160, 2655055502940, 187037786544260, 14454651940312060, 1215671913487470944, 110514990079832223628, 10797461309089628151462, 1128136777063831105273242, 125505655818229423843097076, 14810696460416451555254199648, 1847719269899710266895550666960, 242963172612170250556556615353616, 33582899012143841716615179294102884, 4867574975550201920286986581401362762, 738185559256166682789653258116613543090, 116897094573246960446441415584838742337230, 19294267914637877063853021341922372791183406, 3313642482973101761467449014845136992537821940, 591234313297367582291680951901721811787247436190, 109437246770023000284087969796322480840150154214400, 20986625205436618301230494786835203379519662491289810, 4164405714140776919694571344871958884362735588935725728, 854071138211968911457782397663960877258927866468276523880, 180840710294562563355145987621535416886546910624114455865894, 39492978310665369626422737750561621970939914799712318404999440, 8886945926226080745769246619821601801906005684114539455391157476, 2058762474034949015969278329154425360428525339401455563613933886884, 490586497720446887458413627357334079052663751169343048485393519228668, 120153317228069425812724753502416691670950266914171084439079834345133534, 30223228711698490160727587443113350143021017305163996367425488192122409376, 7802294731241847050733112537043799140674139074774765357430000796436645197708, 2065797603621637340558521608687831721064593437969714532223460640222746368241186, 560608206807483605610115718989502568849010800324818049700072103490152535818023370],
  [1, 1, 16, 376, 11656, 448416, 20588036, 1097935316, 66668459896, 4539709777876, 342508747671516, 28354156880898216, 2554841092299785040, 248870074696153923756, 26057791266228066121614, 2918087323005280354349508, 347994813261017613045578964, 44025771646777402494612574740, 5888920271711913260137215280560, 830332257504029436563713679434080, 123078637380022300100002298174525988, 19132395451232326414538107659883943454, 3112086877352043640890331541929222863486, 528633743244327553678593881399762598352492, 93600550296838010976645367743128954685278750, 17245951100601738918976912266221131105236885506, 3301441836638356518001724957709914957700290530966, 655694520271459963130372708768721249821267145635466, 134927373717005239626984765822575930628114658902276306, 28731556643499863420025742917550832446991659100032584714, 6323760402812355525575911151831462484711840501004731926616, 1437071653287547252629221062540586851397488124259511057628790, 336843121445726650160453322026333221233978735053776647601393344, 81359783673134049333843029351871770545260508010611046205087183684, 20231869575664680540739582284429348686912801488567470121974912443148, 5175355767338386667902554633736258292924153441231125481300333745006184, 1360745276436701523111491656066829275004888261590097941643556521336390766, 367467815991530455493402058604968366916817868705428635268870217337301343078, 101849398832827354902339207105123477415074108478754256805938503114199155698188, 28953510796010628480368935991388993576565921597538592345310327473978441464621238, 8436636852397820015608053718060972752444114347572975433568533561665274756113752842],
  [1, 1, 17, 425, 14025, 574617, 28106253, 1597256097, 103378095225, 7504705041597, 603742325288325, 53301585318999705, 5122633699018868361, 532310941196101152609, 59462949571191682409943, 7105134240266115177248187, 904185772556792011572372117, 122080313159891715442898099217, 17428837633671410003239960897581, 2623111963251386193083306105884497, 415064721961205668209973564790279025, 68881873424989616238413671514096509299, 11962511047770219563370379572292304452683, 2169659734831431063920816383674699767849413, 410214442495097231666993876420115267784585235, 80713077439622274612994850782075025689963625353, 16501060536371528012793678176321984233198368250429, 3500155682883843475463031910661985944294769132778569, 769287384602262798526921295803687314608318908135067385, 174974445370500901129747221821286488820228361891745124975, 41137804291647442872132584257311846176398427064259650670347, 9986581068372408367674525916427832207737138157743686028085597, 2500693687533881335296377780227323069540062699887770160617787905, 645294509007436809768524616184661042879453947997243695280562239973, 171443033795837351793795012567459734540079290722395458555892828867645, 46857519759331989096860643381193700696227971193434145738843595227301713, 13164070013141472472936131237129175001160509508165439793798031633471947391, 3798615450530467625793637885018620520567517098987597142056634648947172911581, 1125058287471240729310944350164222414559599494446399223631759373608565365970391, 341779212136100054043066728962535926213261376070353547529989774915853192438949955, 106428624962672748840027424761087812903425630582214666617891311221392042470457279067],
  [1, 1, 18, 477, 16695, 725748, 37675911, 2272971537, 156205146324, 12042722358927, 1029045988751019, 96510871468612542, 9854566324064391309, 1088098420647241922313, 129167823772598346096636, 16403195877119149046694789, 2218719629100693497237788887, 318432010852077710049833537040, 48328282554925124113252442904651, 7732949273622293280979244983493337, 1300982088811514328177777711416238960, 229571394698755495277360755563976988601, 42395641892126080435143436351812209082765, 8177186889421678719011081191113915866152576, 1644231068143375160517911087683874259027221843, 344080833788517913217116393140448040551570072551, 74819902567699190199087239269936200785021753805870, 16881243207409963455497812619740846282595158591907775, 3946750312116284131918924948373737881258258534378919485, 954950824720941078073160107749806091205882545400717770654, 238848997583896113338302331589048688772322554544414915458385, 61687184154757772057589770217305386602793518713109657530840727, 16434390324881802282023967520946045348567030798551364345740694052, 4512161120937522655305195678738853635444865964033025206303922414975, 1275551338374067197765166828658039503913955446477938229950090677647547, 370959276138305499089404956757574795902809214603152886881593758057168894, 110897763797949756830255822906686876225511778495908545532266986641365970283, 34053355982188903220508293923219318128381836174020903049484057108874286486559, 10733155531027309128490994367243564273548437742040008696302593269803454221829172, 3470013957628563124204678968108673359116968831953467839533913766501347200236004171, 1149984885968979699929597672234858990885211271605207719204094805643197676350999750997],
  [1, 1, 19, 532, 19684, 904894, 49690795, 3171758350, 230661038350, 18821086779205, 1702378891579975, 169025846789497750, 18273376662555356917, 2136479215592673399688, 268581030625395168120019, 36122540217210139125523771, 5175076831686720106191898987, 786736247267010426995743418575, 126486270839624063783212615122250, 21441074146713740808245916646993558, 3821732070026477814285775468113505432, 714530888244718423993711378368109528969, 139818376366133475078655200360429360038752, 28576634910175988975172564237650077692476888, 6089159961680942890198548207760127389809570759, 1350406896569770198018848028298200135867698745545, 311209100688128611461453938466993357648283887669440, 74420241067139043162715504510824583705657168996661215, 18441554267095285183466296218716819131535231861550785740, 4729651033545056934626226479917855568631390828615505814809, 1253949513085588920211774197771405792628904195452288045085305, 343303151194374134520765330927679844923052200952896536413361427, 96957125982214239748731949829308973953657185173920700432594329111, 28220879246729433231093678109107409294982538401739371036702496573970, 8457843974942047961166337737470837598748891868651479162786355570745412, 2607829679913691116516525576709867603436904368793631349796954083375432834, 826574569025730290133458091430047876514320747523512273397024736339491703563, 269116285492248254653002000935825934609410703219303670924423878353572255267852, 89937832126817796365202010826737387980160158993310161472466954396075501880142738, 30831514441873300789486434553694217003869197209574673530712371388766275746403329201, 10834721112279565555629568927935031782375394390806723971961725298631798538539793307945],
  [1, 1, 20, 590, 23010, 1115320, 64592135, 4349000935, 333672161130, 28728162838095, 2742146963195605, 287347390493861355, 32789616583874122567, 4046873461515909262609, 537077061210568083859591, 76263036643176495072075731, 11536101887923020833251609223, 1851858642362701523347033492794, 314402946417415915071865300415170, 56283473110152655562208730832564498, 10595242469026129762374186587283960772, 2092241929614755888128040357926086635691, 432432326024763166605270425408194220608545, 93357608222013333521482152407111914062691484, 21013651361622331107304285563205854961212549623, 4923049414999219138096281476143578024929376384995, 1198578091021336914547957261470581529047876986105985, 302808428069766011834259104967365692842138368546621365, 79278402934613906998546255640924024569063548697839214445, 21482457103274175865772989237623646396699848565972006172099, 6017952847800830300294087259948656157044996187412689810992085, 1740909593021803814912630124543149628676684764620233805085280807, 519544979993411309144742106663117050068155612968396925189964749970, 159798883591109977708863950106818778917609886058168872389122684393198, 50610073550104396114075063434561203864633142331004710811358204252196422, 16490905113332081877717402637154885840580250514498286000553660983155743924, 5523937126846300426654816791910261171460107406875143785376004351593291227167, 1900733082007234451448820083790411033106988876462769658524119541137609542785713, 671352642996686110012047567430412310210191697325707855278064154275089050665231544, 243244251720625592558924844226846298418209364882892547944847848884879060906371099443, 90347651385068045871164567523303724203469047291186620371571534934320359107839206867935],
  [1, 1, 21, 651, 26691, 1360471, 82871306, 5869812921, 473836493711, 42928443026826, 4312263201174796, 475600678346653496, 57125703234597494728, 7421827137214876547546, 1036947953942981968021365, 155022362353602488491639277, 24690388776766197245372336340, 4173420544343678110980483175728, 746125170353461819118924111801338, 140660003861164120689447327200752788, 27886108578120270132947331402652553572, 5799595236739078163007601997569297471575, 1262505177587747914051789986785435319388301, 287086978785334899945277971768351620043110318, 68066392988990663684057672835744379990298711007, 16797735326404549232526742504862662925666818737066, 4308095906778933242473296195171460909029380438923936, 1146584244937370410699821444117214227988161152463884596, 316247978747373707845957419832739312043987901689204290136, 90283204467624281732916683356712376548918934575786769954765, 26646286253506696960205213965896733809956315177271726603717606, 8121631233804043419037133680498547245325345619611735505123850783, 2553777798397830969382567770102615413758063963243890203188949675900, 827637042930138414358705466173275757578548683725733717806673712321850, 276199106981012373071497314101453958531413451185946331730293788836963342, 94833420357715538114167010408544613653736841811756611249500577284479659020, 33474137005583493170936581532374162964497332126197050858871602455643337477551, 12137725174894094905465798435255492727477539646533593396095293130525864195812982, 4517870690725917514230836970377091011908613969048329378047922435023313172898393277, 1725058023528882298983121747875962657587599282237762033970780102689501890780257480277, 675253448019186655446893817922286456130312572929670612277228550078829409423678941800709],
  [1, 1, 22, 715, 30745, 1643972, 105072528, 7810115412, 661709550370, 62927353843222, 6635885481353150, 768377489271812750, 96903134910916536224, 13219764286796723271638, 1939574212406809754758235, 304514616837475205687522326, 50936838461967080282357245262, 9042962996578155397388683922358, 1698117311940449432983913288563490, 336268039796949765554080808306318272, 70029703330888887502831831520813675026, 15299980415350059954983390675537625143335, 3498997741535002847857951512322902705329273, 835908874708239956645561546289959417297482091, 208223622184014651881363506338708955850548423675, 53990329472764967161299821825160358785320561650103, 14549032108805222860381041994268751066498348611749004, 4068676058388870533204098678301668211655375558479460989, 1179200499033930189830044970519917577835928574561011072745, 353747549466377189774530295023438075884670703157530218158941, 109714260967664314171346810402497132766421214248212250709520672, 35141675233268723279082607551010362160989553251286485687051946275, 11612548973747427462033204580667240001667965116428978525855195055552, 3955138368048515407634818077778564503059035083642666273746396140388370, 1387180625721377951867273401137387380203715347984970186802738211824656242, 500578805167700183852970049523454456723133137762519575605774903051200704034, 185708467724418710777286030547194157756069122502318809166213615923675262712559, 70775271944476773935956302184992617544026467794207138791928079648922181602583691, 27689194569672306495061030232626291238012776332173972997703881175588080769376398801, 11112776349440811316313649389720648283366114438329032137185514194575172820542534897407, 4572332466524130206557774363532888354350975318878135977648522589281532439299199803724587],
  [1, 1, 23, 782, 35190, 1969628, 131795566, 10257771932, 910121235684, 90646861192482, 10012291501444574, 1214412409019949822, 160442211841276104092, 22931015813742645792206, 3524941791047856378658163, 579862309705265828036021733, 101635033277420811682278019366, 18907710853605303747660901002020, 3720774715345789543093997994450704, 772161859366060426486834368831461400, 168531333225128736706509365171063865714, 38590684353478734824642405199206526655709, 9250075596107092801288415463131463829619581, 2316256148849512820883275700998970498641792563, 604782187938728174414286154781404825511023965951, 164376978611820704554839161094570321840578400576526, 46433265110280653225189609985098951050799287219209195, 13612311486323703347199429941344115254739120825362242710, 4135833952619894399825559679089750912121909506370611700615, 1300702916491247045057283671195387434642374443798152392589030, 422930600407951316458623482492823591100906544201781450361674135, 142023936836968213677497230701239752559392171692481411294814543460, 49205202500445032921336298990638407615495524165442660983255689411180, 17571161933281721327619690712847391952163800463859714017236265195674030, 6461565659802236638839372986104411936266831909289140070410105019989244930, 2444856885077566223223748055566792384474816904755136274699701886815511384610, 951040281110458020583699277599529509110996070486528352916148660136533580388675, 380053438288289856633276057720349920353974175491863629810970115748909596209516170, 155911724201543333242270250639022120208309976983115202419386969432317241455059526110, 65615359719304807614924416397663199674063855410287687287034594348004837652800533048505, 28310278258051702757800308928810318673248442795210551560027342147914544427002818443612575],
  [1, 1, 24, 852, 40044, 2341424, 163698430, 13313780070, 1234525196260, 128513014059270, 14837400344107970, 1881278317317581800, 259834893404400316940, 38825854742998923424810, 6240126330645891676451655, 1073329366990763258595695070, 196716010629862211845650489990, 38268678316081275466374035733450, 7875262276089227748050498544989600, 1709168919567247402814394648459743360, 390138845927945251294397786110725947090, 93432716982606323449569020648909223272255, 23423675087768586990587517068577551985355415, 6134853466571909868934288347869651806320183990, 1675476805393707940567550596739842147984292872975, 476338431057397313635830599104661737419636240396025, 140751131668675073036548156174664201538479029390507475, 43163329708719642545099085458441250516577182727636918775, 13718872827251718934417713705969454494270023980147171941375, 4513538809132194382202549131538858965910183222114943794911305, 1535334336543843839600660090155899800910276492677957986940350575, 539387488848568372967485500841262657027116024585758458593913527515, 195508724867722773052160485880748108258693949410056564086961237566920, 73043470315645336950143270543304940680777012832973359737615257107097550, 28103095883046051851165205413116157176790091440853783657149006865413043990, 11125376726120773831578916619846735875462492468796127699785068734856326635880, 4528081067930033545934081050066276008917840321819228390299397479317515013790035, 1893314666970413996900120428023533046405697303697254509471909280272539291012038365, 812696451478274451155879814165895500746585893312003949170655251806971962308752009010, 357877937542556154929775904566528044499949358200644878809795754856773550954708804166995, 161570293356673863058339480043313295726069917536785758560045575660000948107500244320778075],
  [1, 1, 25, 925, 45325, 2763525, 201500075, 17093519825, 1653382256725, 179556622526275, 21628502587560975, 2861315900959254225, 412364553107056727865, 64298468228395191776205, 10784287029504848372786520, 1935844982408169261201537570, 370285250071020905838854600535, 75182661909224223489623015205405, 16148570883586391404984104444036075, 3658181291234186949601734327800280885, 871617772801875508201981797434712870165, 217894970196236348700007934422492741746270, 57024121995355108621108845226792529645575650, 15591089823989208987483565045523624431470908535, 4445209044928777318372586268393522615208155494910, 1319359441285341561232212722115119318137000959716025, 407009829606183259244830929596945794205148380698537875, 130312099123423665569492140264796459713720069953100085475, 43243009569858267920462113843481650225769968201980638406075, 14854321988032852406528520608688285844490211250930234462191930, 5275782844409515977388798282422570483428989763916148576100829975, 1935275936752424287356080867194474823333924840005638067779599544090, 732446171038120122432224080673314957948283595305857445279963972373525, 285737783528457969360780595903213812084968833562388874756772385510100035, 114795805347443325188748364671163451634437891146684530723179045497880343315, 47454868115053244274527387446919396431459054372546617437036903379226484790405, 20168926617949520024801995408486862485653180983102877199604640716956551659286840, 8806473970990416273130853873404709063955755732846999868213082056363191197911829785, 3947536675588374042383684707533445695751800413933594973524951220654926141900392108380, 1815344119611848776938274949001628265726746389068178538520228407792140631146151876634760, 855892547123017484965906097482383479588298174842833064363167297809795641574463095126238500],
  [1, 1, 26, 1001, 51051, 3240276, 245983101, 21728058651, 2188579527576, 247528323368001, 31053815905922901, 4279044241676883276, 642361550630816106441, 104337094535743780351251, 18230153162255384568863931, 3409177151605243411359645471, 679381245157883687470788222681, 143717576314053389193502779349566, 32163049625778251985963517332991641, 7591617162009452417900338136610198441, 1884756783986571500582343361300822455846, 490964522092569358280126481709365222886056, 133889968638664581515046995320783494210880776, 38147379488648492824887587764960268957485695621, 11334202587542680863156546765365787843908691184026, 3505772330038765211687377147996303449395213040425676, 1127088653760194569754267524951545560748585681790994376, 376080578595516214501566788377325741130438868680778119276, 130066382877612812554801043160552948341050716310511353414476, 46565536425296035622622957537871716242166689727453519004812681, 17237354733871383897238144058740351244552388837552926330024392551, 6590335558774344089878985718919262772457818195154523589296518487766, 2599740300815327495010648021509449809030177432442675569536848059445656, 1057109486224607306820245558384740920272876416621955538954248179293460881, 442674520497811215161307799336458913129166048938854789394003715392513233321, 190745105464169260469103631768768329933082492723852588619948837571861095060556, 84503992742604426192558000044505602895233068846350602838194197254067680364721976, 38461461027033822002080559651736554184332866405438144852701774636152844691552392996, 17971587102912231039766159328238241171720365290722986064839792706997222461942004927871, 8615149506457054099794197686074943803683237840457417110467071633453484035993272786364696, 4234221473370019830564339500966033809834353326972210591213073322012345588588687721751716586],
  [1, 1, 27, 1080, 57240, 3776202, 297996453, 27365513202, 2865886772490, 337029343602147, 43967540687463225, 6300334925780574420, 983600925534693125037, 166158114228617623025382, 30195053210842219769801382, 5873210322789084601768122240, 1217409448646147431766659987797, 267883339910996439194275859638959, 62362052298619700609939322553636554, 15312237917992735731715040258583711882, 3954703960599869589620226164041448522502, 1071705636565308566566373434613512967026506, 304054922469649791748517821455832552473209223, 90127768462438069939415969972655810003457121451, 27860288689668753935952558220022978284010120822394, 8965808440421646292031485170286848222140601874946853, 2999058156603068961397634227421296927615839513227513049, 1041210054474903041674740882910373888797591397619247352589, 374681599690545407773034474423816552195132398367436782339505, 139575971029947981708795819078309816911030242284606052456966527, 53761823638009394185802817019704785364400863931129912876106211522, 21388312361640731392513890007327644825348632962082527089300954325593, 8779556869809073520947253261114499681422453937068040575622391312244979, 3714873317196661200268046714742557786656957752786595710757498586273340432, 1618816051547329650423004788299599788815364198171775436864939562073749326334, 725876308984751500677915155857956426492853470836928664491096725656394084341200, 334649194241745102595639081318725717383996769191268657532566500276621270262706632, 158507040274544897450905955267397357348905655079894040928084370434466791952352148816, 77077236447994795519466271654246224742530362529109520060255684317905010394819315879596, 38452622334848493361843731042372947035429276787009383679941398933342586079069391346855194, 19668285331182092196129795201488730788855060002353085339036942287454158547765454485471767792],
  [1, 1, 28, 1162, 63910, 4376008, 358458121, 34172467777, 3715451622694, 453659329534537, 61451150356838179, 9143670753967186927, 1482368338213953174775, 260050890170145778351039, 49078352494127210068937710, 9914335529117179423696739677, 2134391032404842318285383455985, 487805495284313862254267158008820, 117950176513101008620263657076396642, 30082011162800208955959569144849864038, 8070199992172932020032602591638134375978, 2271744370874023361196235873831958993471242, 669515401133156861897139328096418279225888062, 206158953178795940082096466590317859352277443072, 66202478827872850155629691650182346403283727277250, 22132615641771766592545108860912266729811535637972026, 7691163239355064459597761948066902201815209769092091390, 2774075031113540772786510640345288612082321797474289807230, 1037106723679132638936460089763181005241908226612497541380810, 401385053269979590062181346585433315170767460705821906534750306, 160628247215365587644404518457955453990424763491971603535855973480, 66394102830073107310172666196594207015689866818149724433051380380338, 28316401801534297284230063413438823329542744737308956074027765425351078, 12448847485228240599009978399344687265546205515678586316501764514473853920, 5636496932458062022204661494361696395238039996808638052065503387616538234688, 2626079013924734449756582891972769551471283172643482295174282449697098152435896, 1257983390876144366318287519801938151093177801988004586760203955542721850523642372, 619127384646281275202283030599280701015678501723724175841798213465274028222733030836, 312831247283147758281633850863051642559373939971021714657333113993241590869755814942608, 162169254960140178945817513772799666942405642679403429684731600914156683628746929897932244, 86193298497047435166482960794470286530394394735416044862774958805415749222759495460681291228],
  [1, 1, 29, 1247, 71079, 5044579, 428357840, 42335449465, 4772335225995, 604182665987160, 84861713817216190, 13093852135792175700, 2201342858243629838788, 400490798678747108133922, 78386869929706562104403776, 16422959114828594942950872194, 3666996547225050158253807807758, 869251151925879024689874072292680, 218007693035365740142204648324443640, 57672209693559865145639811523240966952, 16048770071271675713598141759419344620568, 4686248603839433593801538308132816520532396, 1432666163817146697127968884208346791771428868, 457630438068133823994328025369773102143472053544, 152448973143663998022728566461826805130594390680124, 52872450354970633505208069198369555324652810527707080, 19060913357436027050426376521883508308923775764525757280, 7132357018453558225610733431678270540435092040156005586200, 2766364607608368834653837063021641793656638348399572037769640, 1110774469102413483924443820214294358033192818454923265382906956, 461182369881124184040496109935425257637446150153199566814520112460, 197775950856863993437039425003587480073479253290577435510325515975208, 87514924535552499608840181099169940116814184742314836750278376877493904, 39919027460011891917680943732243588356508992984328253273511875327380141640, 18753109687062300421877973110913627987001460159659104889476557662296827978088, 9065490192844309774567797632261550464716686217285501679570635625417518979029536, 4505925271763228773643551101225966590232760722114400412768050477532682962484892252, 2301021009331449844161497640246350892798130186953755542341249136089891792067481617728, 1206390598871094638922754479767439735562996271366938064824989422655336651386133999793732, 648917053561086930198748710297740319362575991075236018263342001194142731002963064818735404, 357884153124027443812406289849329687477757017473816747137919245743783466390584513820266383660],
  [1, 1, 30, 1335, 78765, 5786980, 508759790, 52062459990, 6077089918070, 796714767552480, 115888112729923120, 18518559775551912920, 3224470555393544619088, 607590399517732640031416, 123175596746070027137190924, 26730678815080152892748219384, 6182435090317204616397524635512, 1518089059714113831271114182028056, 394401347460511733675218186760397400, 108083347601398312958804252790720537552, 31158032219434449941547828399444510334888, 9425395546705908164909086381717773584922924, 2985208765182544174495115048630094933150375380, 987891093806734526848958908948267994793241578508, 340950838208635057901608138324576650881677328257372, 122511838746114853450911892618768570776630434699868780, 45759537617135740962925794333509124092522561145999253360, 17740584679645147481989050152555159824835527029103621963180, 7129327425814499839579369749594775210754276055913608025824300, 2966035920128997002967178504571652735535198054909254926968881396, 1275972853962284839440790147115863422974734506354935761459603064100, 566979108899523528031406360165995742293597980908009117971487316557068, 259960245577701657505762456095234080631389333080138225968886085224038080, 122868967733948842824653564251650969627558444857040356372172425339019906312, 59810716540631249648881459905669332444428485064680379761659182323406770427928, 29960309267683407674123580702141835960789841350215429313459882151199181815560136, 15430995281539357611923484051880507962264808208866790374346912703224483684703693628, 8165654450459915412291710703055756221534720740879573288452666715529391000107501087332, 4436333364908777334679016062799852733289512045106248963601563997646074680637709953087636, 2472842431459073364984099448417190586737284911860210391758088701502848404374809089173084452, 1413272238242598325085352037189549520892454280818890563618513140741396626472679696261546204820],
  [1, 1, 31, 1426, 86986, 6608456, 600805296, 63584564256, 7676380503616, 1040929880870776, 156616084222880456, 25888231436182932056, 4663031320841024302304, 908973288696191574541496, 190638018561622662226871612, 42800882243867716600254270340, 10241711999194564039624179235112, 2601908898135401006765697507148704, 699400535109689692134304959455070944, 198312173276144577107955669357066204064, 59152535205814618508887350884990512374760, 18515051687160026947948379036032060702246372, 6067794491798952280235921957119967995198574036, 2077803361196819234094201557664949233899271290476, 742052100001850508380942694812684170455373024587212, 275915223920698465315215011368865753568791201311431336, 106645271246200591657538855317859218045877405572551433036, 42785576788043017714957329235366367419753345452810798077456, 17793212391621624731254506262231021843113806555864466013660676, 7660641819037243032591711825675093376630633073216566858591170512, 3410511479353120373271608183918093413569499088721504090602016604376, 1568341506175157288588935051740111043151645530954591939468835281591764, 744186839536893510474927225353679504543433885987476624842925447263645312, 364019380839910405629554174430916387472966480688282828700070070258785542152, 183389370050919522689656254711286858497085124176764082898399015936247950775400, 95073556925345609507843235242842886235937489187749441253695489719125114320753592, 50679342180005095871047740278318345355447240322091898324921864688788598530424907916, 27755991411084625105039704243403375902421947396654725143644902785293470575119156718960, 15607150964185013049788214060297805703343663220625490409092445123926838155775292197534840, 9003979027573069197555981718474035783110521186106104901467042343375336093219150351284946260, 5326073632408352291999412177472279896920348921483996973122155855337280031969735268119629511828],
  [1, 1, 32, 1520, 95760, 7514432, 705715528, 77157535592, 9623650734960, 1348291994080872, 209603090064663800, 35799763546706505840, 6663133181215281372800, 1342172117436649452488216, 290888748275085738847940684, 67490531409875954646699407304, 16689639765412135132475156346472, 4381891201125407259697833693371720, 1217308746362423350892908830325593248, 356729513783498914257631047243009404352, 109973238653591905132799753409080329383528, 35577154291093099136580941504519653139823212, 12050858791966229868282402820864628688508408108, 4265208732867611964619971584659313203659113259768, 1574441283729787878015497492826513839313530594097772, 605105584620820054313744557443885733237823645332470228, 241750533715750158464386502209814696981091121056663713564, 100253656055816244356305874402141205128314879775788729847444, 43096359427931178877470983378915556310618390445603106922163140, 19179661907987487917516350214353766029766829591730050612594227908, 8826546982283378541099374286523966687460490954715950566037790350072, 4195785261464723806744352301772401513319632740466586651979000124237276, 2058076320429258929041094199976412410358633609069546699593997882887199936, 1040677761254469434937188359790505994020860588108539938687072382358548976584, 541980227165606815045812729254958439535840725106059265550359478117078387078136, 290463541015933233009935485450795429482103596367954787063453970198150242391357936, 160062794340393369783632198243047942738804211123453583933624389041125549826180417260, 90625102396639939934512343608096954652421128684853621290729103260892139474248017362796, 52680805533504269953474142069945429510255304993112179141801323603543161827354798297481496, 31419900526514776516780364412902229694673403074020045707416973616148382581048715580013369756, 19214251871118457318444650964283652459984302590409995985750721457091734210093912440550803869812],
  [1, 1, 33, 1617, 105105, 8510513, 824794201, 93063557697, 11979836575729, 1732310506748217, 277964086358475209, 49004605338186827857, 9414903821206809213233, 1957671814764044175843937, 437991235465428909685366077, 104905868621433929749358235621, 26781393063365824535425018251369, 7259173752912305233133656770107265, 2081973879262652944967349406159671065, 629899850774152438826876231130184926401, 200486866505571657445511848674658165768577, 66964504876582379243432509208783729893253525, 23419288681317245644089845039485260557893638533, 8558262345180531821658483182809816032509876313353, 3261883255122881487036832523554395212630916035484245, 1294423794070870266624992967681842984142359405081314801, 533977089854113867916593917320703842577092818799292803705, 228650146537515689713787909165061271772657819794580424114785, 101492494579673306755218599761339015186290181895738671476244545, 46640387522425961362673841226986934798601275407712136220970460157, 22163864376322389040964809994717032186839219186019889714373067246845, 10879445012507161308744701743711053918928919013994440675359986776328161, 5510601800265251042094567423225276188123890504814824238355747635372225121, 2877417987049207919063137814790959851986199641495271050368755927120166682345, 1547476833228263584249030047725071050013968049915922696206985099967967987471161, 856428550386897558991916467951820342068983345025631639115892917384958667610890177, 487363864594458907221152321627882038465571086098937960459362187527215831485235637549, 284957019585946681687263780624540115408207108241113499038594689831662939101829031041097, 171062789358353650336229733459286076595037915757291044066866146549998826273859226271511261, 105362119641728640966196542592270196321933701417468711247550989291666316371967693018505236453, 66540164681780321912298292915758522763854427406456367028820062107585177171400107950621747247061],
  [1, 1, 34, 1717, 115039, 9602484, 959430275, 111612983285, 14814127837180, 2208822370727875, 365469343399701135, 66441874194583974450, 13163688366025437106461, 2822741511874491872065149, 651295278862418360149567182, 160880899830701268645981198393, 42358465488698589537102545061291, 11841483440001617699821069932824340, 3502797306535361067233814713852761095, 1093051158677378253870232495073006958609, 358832820964994859133222420768836407135316, 123621991054155918713813919632419469126997267, 44594042478790675523719128701545861093057512111, 16809225798187150936325218582074095201901406080950, 6608396665957301903268339956575695906529587639874861, 2705054869678953514036358596632221856284655129992922085, 1151065907443736877998850994462071717316463165533830958730, 508431990091954453949082645229323046155788461681421863786065, 232800953290216304874371752899232079336675889864148050406075635, 110359022777741243502911768118020546999551462941109121392984362312, 54099255421834101788350601038567092488727978147533435141955923148135, 27394142986903123822794918711073993087068197394944992786271349993217881, 14313969300064041263065235613830547431576824391927202624035715782951267388, 7710434099576975033227120654849817735720433965620904625936618762788984595915, 4277789997013539977291302660804184782536359116022008912222454754883678201421271, 2442363718671456216986593077651652643272218385083591084965803129444300479387277202, 1433840254287991370980129646879240495653996298348608668035680557663377721663176590689, 864886790131851764434359635277400782373392132058222967155815348741344533400777950543281, 535638789986927741409077299395647580940783758537138911085447126227861570131060957437866574, 340362365912932749136755385601803450155972634468338938888424575228831403711256877189094055293, 221761098292315321362044152043482246310153335195382295218622334512407225204290279202715492113455],
  [1, 1, 35, 1820, 125580, 10796310, 1111100655, 133146149430, 18204779774790, 2796302469573585, 476655543502017915, 89277186129723939690, 18223605966787221462861, 4026224346606697673076492, 957163209765966309365300853, 243614994522235151931124703673, 66090762617445319578713436099279, 19037793730875051821990528466189447, 5802883922058492894052679013444149370, 1865931404010355303010536624948160421774, 631220608912350761195273243019352687617516, 224091667665132046505355504045923963016746703, 83301837104042398852246376498548835120957796210, 32357852929806213671328827019439819549610565727778, 13109572954306475013753362706312638836458481275274489, 5530124689897006373634670287656641398771226890917281385, 2425108366216874696578076008578242788615343996695272610190, 1103929737594359939305030322661068291460051400980038366099055, 520926214703875659709228272261637517660234075840013681989932470, 254499714797837067089022209580579664353714285368901046814476332297, 128577110653851809248523115136635040536885434590387139724497201532885, 67100811885730332675394798799637519143133997121151008119828018405182441, 36135363605603920539202206384537507538260563068622323516938291565448619735, 20061247377279493342612739473759767840214708536442349910539979155125770037854, 11471221087829456905900468378587947644723831899079110764894984896248810184865376, 6750187211977550511623666927463439774465125429968643234294150788684200806832540142, 4084375079417316799568358337997950198999510950076114059227156782382333464508975816481, 2539261643969765667487579710808594041872403849914625532245067259741714224290902996902344, 1620867110469672502220587483794473530372087320189763998691824861193234235172805314275750982, 1061568158720663174072189491716520537295529566608863058658147004103591772224411265622934837959, 712896259008965736615544259655189618136736446160916298996500971067504416056132493691421464216775],
  [1, 1, 36, 1926, 136746, 12098136, 1281372891, 158035249611, 22239976232706, 3516204061257651, 616951465330208961, 118947964891332521211, 24993865663084490997567, 5684483560519207334726781, 1391180243309679557087884833, 364515030717221215873684596759, 101806430485928580930885804143883, 30191348595894588726567370019724342, 9474344005900872975809348522582308722, 3136518026845806127233412167416481692682, 1092413883932589953548250045155851905892264, 399293647383431331117392909809782819444248373, 152822860521758075294471843249604414870004818831, 61120458804991019268285896074054329988334892482708, 25496141582136652333052506592769364410791899948186345, 11074023765678134711741874636408840553994723805345053421, 5000249391964665738484155714409341113864856656110415323791, 2343673494671742174068125403718004665718248485660026626987711, 1138759545061301786428559061637997822752096420413404045198160711, 572859424209283452479607429159186301092962546636476936127962200933, 298012175756024878009824670992337173109899872007949719038882089290381, 160144559671214029080425263658733612562552728567101519815043213357451177, 88804557221154313010109892446343409415583575605616197086650200001984325818, 50767218843161665973029451388098620533824902236760983742388530198577767691538, 29892468645190464883966615577860739708995063341584615723781911003528869560587394, 18113342617937844294274155647754382766427472888554249490779535534722560322772647428, 11286074148834261543339484451785614084538106144880892767088788177538497930513921153621, 7225417893623545540066474812328794106125765373821024035303973101155964904510560530876839, 4749466198721615170304491850235285459927836899403151698828743176922859370623105234967947304, 3203248931255898352549458903045803572431723672208661135579563790175564681537639403698231354609, 2215225833229929884413228355377745937682103839334302709596067128413297012105167374607938774760665],
  [1, 1, 37, 2035, 148555, 13514287, 1471907878, 186686262457, 27018745923655, 4393331166120022, 792819646582972000, 157216067289142848760, 33978294660012527086888, 7948736446256619731843890, 2000963949834471764652206191, 539298487400326867185677610643, 154937078898863570116707895789912, 47264711273079975234073525429540216, 15257573305815990315468590338437284422, 5196045883910228995179243096487887545332, 1861692522400788462795780190839140137840804, 700027403417370466454698044286546959680349853, 275625187655199464945135678159698592012970155503, 113404656135831624879581661868349272801390441877442, 48667379157672448064029919054803987818847961163971189, 21746704316107536229974595374123176082189866891601835478, 10102043610711124009379894560326843720931936119784265978424, 4871347777060640954991680441800316737880818998490783734976504, 2435135943411664778849425421791005513555634974095798177786468500, 1260326094624566187876395084493041643940961383381588468452595743259, 674554332600907138572092402658050781319524877685210986396860321715372, 372947251074576079083955597830469907582668058622658949728698353488448299, 212778068410096602630327756337051137259072866893774787463752855934687397548, 125151291890344588713590988922840579841278142700290283790500876260097265444126, 75818982336366612938477986539847321557579466005141876298561247435912619703144738, 47269685123952320676049766747686490019865765922294344746689576011221373012877260092, 30303903475105968132012983268362082703989612824793640576921440729304174683157710940093, 19961526067713673420427065673050097569574135178541031671406047186923694824850739680327846, 13500631980155971961589162446642719371716660203661552241596666099029564294108368150797041471, 9368754463573983763813474987055777360313554858191943042587347179806630645692254011619422044283, 6666444996296526461187873462091267888178913889384298266640714494448796153600165815180089801046027],
  [1, 1, 38, 2147, 161025, 15051268, 1684462556, 219540937192, 32651933431914, 5456244839118522, 1011915502746020914, 206228641087943050362, 45808589853593999116216, 11014045139207348763266650, 2849710452494561848755524689, 789427059753992455067288069690, 233113558887051250962879604700018, 73094728922980580697697720726920930, 24253725659839880918722826056836613198, 8490173895648467488317379317599499044264, 3126860366197588601949417398781983022506086, 1208588603525885464468935473584790578565489133, 489160053534354609773491450503893388672791754819, 206888829785694728109214887128498463688934309647281, 91269023223083019390788734633349286147977015043040441, 41924044482240769025938119226385134635721271544515953101, 20020182728615505606693266467320882667978648802722412281140, 9924339646092611207337721487247739039411174370471012638555075, 5100042783218998302098519272190138052046669122728833537887751295, 2713538228154418357820372885377298950846776937221239266321827987383, 1493057368847875082317579759008149766326784116103796167682650087856530, 848628301066673577075093616314250649289475916298823248667185582532600729, 497750120728883414779221766638889954790546112925554749426426239043059333184, 300980257768268485752689167856952252089325124921821062394490774212854687656630, 187457327333987075288299058127426481363014892070215351978261449515986802764322814, 120152415493422515520142109652166796482069255123017565053224139231101949980253651878, 79191236976961076139731726507734105433207973486745206097415613691943802106501872610381, 53629578430760921565810330897784862808307440532920216071698953897628845039165316552670493, 37290660507380446346861662343578349120619767934389828325196502810996427659175225701523014539, 26605187685616119404710615405543412581264397078096662265332686864355080115935904642693611513697, 19463473157601378697929382809180100615447974549501558447395978200987612388530456990336747872821429],
  [1, 1, 39, 2262, 174174, 16715764, 1920892610, 257078835780, 39263226526940, 6737705322605790, 1283265468084724930, 268588215339536103050, 61271866479997881727084, 15130275378939044043897866, 4020641217311619361447412673, 1143956100913569601870727058167, 346956677057093028978944964942714, 111740665703814206434676607163783380, 38082708006514949159660204687249357440, 13692931198893796635982957486557237638856, 5179940625769626276790921293711854762914534, 2056538840789974436182350062719054370574151743, 854981928120358664044937589303605981369322560519, 371445994931152234815496156745428942917546253006233, 168321524748213103611069281046516854726513351805540341, 79422173889805776690667231233809154637898278737987346290, 38959512548142036600903281191595472459204732660589441459825, 19838934337969551761063692503258222231542146128085404303399070, 10472876599372325029146747665359769098480602257688847032157332585, 5724105242618908434925972821455240516464985690679124504063805154798, 3235426762507985529192494781923988749281679521468048040148620586832275, 1889121043228881609555314266491157588133924652456738995680644775910071534, 1138267949840733974193142175479366378878970795814155210255581530011816134572, 707075111769301384157196657050325597819540734483270994222884112242817077044050, 452405432029772814557321554667683872704113097424063224877780358044814316958384854, 297892168523269976949993146181143095938871815043111851994075505296393317397936773278, 201701042076236882084006022865544371199743812825083254680017426579482700661548577649321, 140327565056516468531702889577142098187414386369941476387703594529934277413547724195232114, 100241912516411940453577623270387945517518099451888217171439727014931075582276512901916709706, 73473249333007808450232627470949421393995230351662053020555298307179953043153584102951957903027, 55220435222630992902123758426251689385063034385882795434119360191562581444552622789107088165021465],
  [1, 1, 40, 2380, 188020, 18514640, 2183155170, 299819431770, 46990241375260, 8275152133012090, 1617465816066378110, 347433111491393476160, 81343146470668690472684, 20615381621182618882181558, 5622544613797409407740779357, 1641903878130103917512748138562, 511118505635871865008758435422586, 168955502440013489155274207375803278, 59103061657748542859820552557435630960, 21812509546394914968674817485968661704576, 8469674228292402232925035557370338604514374, 3451571981746289643553785091758522296479773157, 1472923422542122815313157322608690774358974340365, 656851225824643680408796478416756563699117800243970, 305536969487398196746279913531081174095036963030398741, 147986852999057088131040154572980020397157213037377135715, 74517183914236866732664131922051297186435572907472339864865, 38951747820093522163869300500842760304142207131433066469091425, 21107863114477342670305308484783092566900831182222426563648885185, 11842936667778246156576726088669447515440570746582620055927933572683, 6871643077810841858683781028667422823296772228665891794175555373839755, 4118789674327463439014515734736439850619203990675013931347288971469472409, 2547643278419768739210285430950339314680441799294756086189404821268421880840, 1624603203026736540154531210392130018832699783784411158525546831387915388367986, 1067088577386078464850798262508190157005164037001640532562915450226254349921304274, 721316419747685940563635713678579615005818134696863311534740959790106158856896012448, 501385792108103873957834231802383099484897000861125785145879083152786741212998444527849, 358102217561845044440454826397082281286360766916943471923795411587980039635300765167485811, 262613117552709868423316752924142882051518739833341259190763827171163773850081843482228739838, 197606944438116396668703698661578023919267208711953832772621121711561500363182241294655981808721, 152468956289878616183056958739877388352712373288987670973990497043527880242167356508710091240676245],
  [1, 1, 41, 2501, 202581, 20454941, 2473311511, 348324265841, 55985667238221, 10111224191966751, 2026903909994954291, 446529357145752905241, 107223503797276059053105, 27871429714200226522229981, 7796641273649584593027005894, 2335266720609716436194109588228, 745643655669758829905402271948619, 252818834165010576173107616414335805, 90715279658270962218984892987992627575, 34341175639349013441512761302017140055445, 13677939109777420333048016312839232715870933, 5717687756747347959468082962396383005818961784, 2502868706837929442595780363649250090182255096036, 1144943228619079699067119747107742794124791317750267, 546316326192668056185730337788094918252016934195761080, 271438391329850012396395102816651256009163741050547035681, 140209157215608421953541333715427236885568695838884933487391, 75183514990142729971275774495076616776816345588918631531475491, 41794531042666350681105176555656117892364420820656584553651885931, 24055686262076109394777788063647555659811517857307814687749643474744, 14318766756434543161524417960187035722961337675685388809307691698984741, 8804500391050436765617331296362818585243253087717709936433537975365459530, 5586851073170637678737921737880360248600847988524714948634254912463887655749, 3654873490479430449241943834188077339843338472163651412774580910142417306410039, 2462777502531898507347666710640696001988369809238069955554967034393697140618745743, 1707863642053978114607854445440538858407758394900970497927956218109730743841155345989, 1217881366217365577673637452489113682115271757241831070139986076736791305305847454117966, 892377065274470479587957432487533253553113955689779018508112725311746936588828322455608973, 671380919729553486227861815750180611811596086081147536070137162239616081793418657849491489258, 518285026386220056115198722911792514753651091100500244057392454242314842387676938377433829977258, 410264923623670992552273276879334663810639864164498391854398059555632028836405451705041178751012702],
  [1, 1, 42, 2625, 217875, 22543892, 2793529753, 403199158047, 66418472243200, 12294322169544597, 2526003730805876825, 570375383092493693680, 140384665126411560137801, 37403827244263886860054279, 10725042189989660115709950453, 3292832133349562586005047023507, 1077736458973769119707006142071117, 374580276016092592224810774599301522, 137776731712833324303188054359203385301, 53465784595499763502925842375768554970097, 21829908341282613037908461566131720473469530, 9354638151200438810539585748597410819939952954, 4197827204451898140606373345723520643477995591858, 1968587763471688537320525881164442204608561377721123, 962949611518980762673568313132020042751233220208065900, 490482199511111267467240820922542212561536978689830630978, 259731623393704864479796555292015132178272033341324456408004, 142781283039233921241482844064871282820071822739641394883720094, 81371422039495148843561639918496459556119091993054686730707309810, 48015058176244768559985756044360353305842206878864100914996221107755, 29300560470246918125335922167624862518698751824088786639365333594227097, 18470934535389510909365904431378348010832758040361577375410053981312144512, 12016229554872976945764217833056919530136198210015711922936670803143134851440, 8059228582558833056719613763635970158305463692505189351764301860864131703994733, 5567615659860550537621859520206342029016813349652528293861230522208049467925729605, 3958430865765146277324380403500620141057425409442798781655336544172598843171838242768, 2894032693931309433103218476098334424243677451662203797354645010686041695459840218644406, 2174093019450117469285568448780862750887027716529575574757137804643984400552444640331648806, 1676998275632294304505154669805890973117537980990183886405195634934339856960259604999644502241, 1327298916627566268056438699453702016196522540787162971859167799611634691498353426020126023498090, 1077217533609567391855209317394054850738124310456154538893832268593876046737306760959936372567706692],
  [1, 1, 43, 2752, 233920, 24788898, 3146087561, 465096476762, 78475171815874, 14879215264477327, 3131497627704918669, 724320888343775487192, 182620951822682898467349, 49844297110534602685781178, 14641114053092651043076308096, 4604972416141412562034822300134, 1544039952475176599599676324532057, 549775235348488547134008921879069015, 207164768740910379804652028849459482266, 82360856692212161991550373841413553918402, 34451376243919447093224734664049593761652330, 15125022366142103948182146799939866280772561016, 6953642426945275703857615180563571865343408941745, 3340915848710521276137919976028372940097375430613981, 1674330883509849021742936564799833854527932976720402468, 873759258720511486383594287901015470548650479015251543301, 474054064900934263668374186544423052383159464433240877823695, 267000686962764404039482960418480182662752491720789100615315925, 155903001203726396729450465441540535076389887794715635305013723035, 94255086605358003839746027303505779596201180663492308226218500245159, 58932004824241318348751980373684774185687837731110524794857416047699210, 38064066650741296494914298696467530089546593206608637470676760033425939467, 25371639930368015463923957145061250711552499454245106232562867120261536079267, 17435350803296098037074545174927969300210503559454050320921759811616617896003100, 12341449099499429135870038605225349041504201251647153231478853007844967993344800362, 8990469729278293303228731792336212358698776676301862465160690243035942631707937524924, 6734848057618526592793578824025720207239296424195858747585889139474879879128974069598918, 5184061065229795053667892691406854805049875509786018042272832647411078984114284776431280564, 4097271278052549491499836308889088530136888495853468206101624000220762958227388937429166012912, 3322793807069585314157304309315896353176273137517050571502236867841053691744939528088557790647416, 2763204237191570710852710920304213178382943719049962297439899744791931041780718575648501278012840062],
  [1, 1, 44, 2882, 250734, 27197544, 3533374845, 534717464325, 92361161361150, 17927694703323405, 3862726338643846575, 914701367499603663375, 236109544098104875693407, 65978202444237126457693323, 19842118130795875917071075424, 6389636882197907921704452136641, 2193556447745093949200601156152277, 799690818205721887043680004094336000, 308535171626657293187429374549590505650, 125593271008592131317894125617520294810718, 53791476026591212400603775746956275386251422, 24180689458385370879856629006138406935385593324, 11382953564373134657889499068187911319848669613092, 5599923550099342915954222763294114772245380889992168, 2873661586311589979381588823685343159828635362697600844, 1535562722940610459234077406002125129365353769598766471820, 853077712886783114288311329443459019306986558284415215947940, 491995840958145649000452457425843440509067271107950522300814040, 294167788752583199528227905442494200416054966031168518039297994340, 182112671219736594470678578005575124354064114269834835286145634559964, 116596185707583986124801726758099579587673441916236760997526892172215180, 77116800726975549801284162461688207814926885300049258434144262865529117292, 52636364700048691855372519028003459477077274763243890345787291889602305279406, 37040284732633067791369788890468279543338015839158568398653158145842426238601220, 26848419705843521760834218991201777784323337727283155987676385827711955630728836652, 20028410734091362715420782364861438460962454663631479602295320914722161306056166580664, 15364058697113742788578592805399195407745356070232534286713026958794663115804196093562498, 12110574883758429189511265181121181577063855492850473426865684091525317836677430583421690442, 9801854365262394641569554849006852296216565716647736760474523101282385744151728478696588574048, 8140256915195369051518968343031398714877508129060371248724985270989327085695447915535720196682346, 6932201176926518128658745996906163621285326925776486552824604690902083131819706779445919867624830070],
  [1, 1, 45, 3015, 268335, 29777595, 3957896460, 612814619385, 108302114780355, 21509276297743620, 4741969431505833330, 1148989910012641484580, 303480150272617578058932, 86776911203297268978951114, 26704547742853397576283361986, 8799802106801463491426918422176, 3091367948485225071239469149963058, 1153279088829789040280549629284402624, 455336387807906551320430236588680698020, 189676745916387415882276981801137595987608, 83135332623688772047366108624300157260239912, 38244546107853362297194026699801375742976888586, 18424191691161528064871884800936790632505750955070, 9275814108537221086568753105863020059832839266729084, 4871308846220202418660771388940422632676311576283378858, 2663920133000754726205927624844525571596645522504138998020, 1514569424063428038594327485357809423495844983478780514500760, 893947871449683131024990220017044379612133960683972234550526740, 547014902447829824542132604733741695391822844528016663374210731420, 346577592339632649536459035461296733016662777937136014433247874179354, 227093040178473403008917682446814910021623797819330395221797014922712510, 153720025034021868723984768096008120699849716168396087007696882323738818672, 107382125809087055303187655509382737600791648485776903383348842254833993523120, 77337070329619500171030482325585751108294361238277257730479981449400907515826908, 57372260404605338560428561402702196470379457457518695595408288139667679613825123612, 43802815232311566155832075774171382861849801465287007539676856473248675959614175444704, 34390318115027208685840050997505722184737759051226289380938359274702775971537673815703682, 27744188618495308488475937857091729800703437835393233074058294305405661615115289203796343848, 22982370307744578866966784978647243087931932144810196519458508528994805753882385661389314305374, 19534675375906569406804934867935442825271766116986243149909093091315126702417261564053720055384178, 17026403169984432393550407623135951159292549201082974622149810794479834830465732217957147473345274610],
  [1, 1, 46, 3151, 286741, 32536996, 4422274906, 700194135946, 126545450412286, 25701954456183076, 5794808423325984196, 1435968001939181137396, 387895274061666847894168, 113435977243153028387369596, 35702655770950202958650148970, 12032687516167552009415562601372, 4323348486215841155213436217365820, 1649638563044430564564674208294203668, 666156554726188502450898726439857628228, 283825924038236926416426638875528514489128, 127239469878681327547040583984317670426482092, 59869822629260411413614142790476453332121708330, 29500743783362381767910668521324554923421565513526, 15191695940722486691782184145199683018299473322279978, 8160430471409137352642506033976393983564335114654014322, 4564625155477980561607421233518338998199545222209389581866, 2654561681591963733096757118016423399458019345829169603903336, 1602649770519723825942361521703198746955491007454051986242953746, 1003116441433528128038160317226505215061452027811101560124575725186, 650101681846400920473734228290371328021834680296029805082145746010870, 435728546133360099468823893504640085968188241811944074444358823621693506, 301700954308564032456651874654086169950729129854566602067666267403434781098, 215583176683153352147397341550632826679584409406362228746325743992160470555680, 158821656677901435445210143498344908232117546412372484815139962851829689869498780, 120521778177455425272820104440754847290220292663567180241832742345599456383461743012, 94125980798650765120300980692832324087117961203761897555905764463649247186490319944700, 75594447187247206254664047321999912366642029329118032498023856521495336393658553623659826, 62384136665320813500642452203995799500616123740533833080215748017709068024381308423773379702, 52862483772779115987436054366321583776146635184399477969796494509414505223541946209460528556822, 45963348689958940591401333758751773136104470215573045821729101240927980361192073517556999321525222, 40981056434871718797171754115164614152063392201325176767058561302023401492399572586800986441407377294],
  [1, 1, 47, 3290, 305970, 35483872, 4929253028, 797718399112, 147361865985720, 30593010103413972, 7050524943896557900, 1785917187702667886100, 493142390927888085921664, 147420012008584345973637508, 47430738467547402956658104770, 16341098892136195725782672179646, 6002100412106420142723643951821212, 2341213467764317829108027048378897088, 966500840937432300144549420746661517360, 420974674506339687089098478082664775402672, 192933557568989454307604215831551150811606156, 92806786287002760311980152193733563374917699790, 46751356294525847826396443006182833728030865280998, 24612768834653568174261858666062648562103986842650586, 13516478960132654690866520667422667801299832913261416410, 7729565842096856692183482684247817926682722167218143043228, 4595633008145355972015256239357841386118205218557617514684554, 2836590369307200249982264815439199550023845395319733422884351664, 1815171481679889725244513651671461097359310852985911127884921995670, 1202703695926345141564938789833201856265472995405792573993474284839696, 824151498476794287293875904532998662750783937071877403731452406851398672, 583423553430780544264048267191817171833241757751807012179893805474661986890, 426226889933946176322241276718975466294924675996463980210219336912873366796112, 321038262555516713232005441491109809714699141771204875477203553957265005575337580, 249078374087365985808241959328969989921060805161008407181169012380940025030958053452, 198886669779610575453122441589427295357763953235124058743899471408973543247908168096564, 163310427373795284446466610261295569053466514255467896097259405419167070024614836291182474, 137793323843626463239884366857158832855907336923294909693942530851866787933838903848909980016, 119380565119226618624625556923382795637865110224114668291573228261639890628390436658937332062276, 106128445576330644639690665690421544183076972482391785383480878010439200204927263954102479689294742, 96747406714939215688815350124599342358017628499569058483836440059989292926779339629210315895353060062],
  [1, 1, 48, 3432, 326040, 38626528, 5481696716, 906308537532, 171046944170984, 36279875018547132, 8542536421702608724, 2210833582397998960472, 623739471220205651999632, 190515227861883896196131396, 62629825912685573142768727098, 22047325945661930055322702370828, 8274393749313103960756497700738236, 3297894837267958646541433059268088220, 1391121971579973211767376416771760513744, 619141914281069686693125597688613247735840, 289946005201007541083188351653875243246759884, 142517395220411391363880453509917165759187632874, 73360896339337958724389781130373043470439987381386, 39465398026490854301072914391478169967030178530657828, 22146666687062966542946144275558809395125493361571145706, 12941711947653723789516918382365166290189976703790840065526, 7862790911155903164351064758330426804189892817249496286596370, 4959359420112578013983231018268925341512506988620429604111898910, 3242999661664658935608032320007513226751851854866180646859146187990, 2195789918807732231075696311475118488069283894669030795676713689012910, 1537604409098097256133121998412766689930057065434758063621901812361846560, 1112319071067678084504884425745977336628587854981365681511429767687959904050, 830417504066488881195061646390535024387823281966558875397329807759369747237120, 639182622731145780206169764654920946577255926034550372974679504223390057338589580, 506779359660303518100370649826601740639774361943588676274053986071268954612158638020, 413528513754744324290198008824762503096426093360833601799824126219617762717603980025240, 347002562849707226739833713435927545128862623662735645308064172952808436643307075969321210, 299204390424949808286621682657513637817474539353053263203416942557581963210150535685769720850, 264908818862899150927201389878112245972487663121140615786760325543855830948708128998217593976100, 240668648581066774127151296667641920333448053269958354503490919347671673813326305389491138313680050, 224209422209550908963221364608738901085964071058653494132126114060718688193629741588928015259643216190],
  [1, 1, 49, 3577, 346969, 41973449, 6082597605, 1026947032545, 197922830318185, 42871055159273845, 10308871884301834445, 2724667364370446640425, 785055423479596486221305, 244890751142434581998182145, 82219523714466529248180061235, 29560093018401459023855817650815, 11330442930143117398761604977204605, 4612248975011281529588478918611219025, 1987057919708600750744223869021703664325, 903251732449926726958613882186045135275345, 432028805657894702344566683668635841262912305, 216892201627610358243015315878804243183960332135, 114031415639143417259802114751614718436099308017455, 62656104013032104184549278300846203690821963443027405, 35912474367800324786077578817905282746287829736063096775, 21434910219505414909720222974829861017976455524534039946425, 13301556073048828243384175575806100979453292271775138286262325, 8569387562659560844659743085440015815004951134428367061176740425, 5723638256035092678559694238164256595209625197937659102975356401625, 3958399635543894322504400191796213357283421534663354007742959358520235, 2831258091656662923668804430948813909655075241943688118358386114578522775, 2092052403662367231283735400611907320846621138024146487986528963072604851405, 1595329011523604667406135999815861365215656405359359791766034101556380107794465, 1254271377501120288643156986909486801030204512636192522393129336169011755870579725, 1015781691274331125044003112608095984721948982609679909588749002391076911917150191605, 846649968227885699031653485227858035412049269332911805218892464521281852567956522946385, 725688259504317461479982559890122665239743914533475828547254412316338246916658246712461195, 639155168300967849926627740547532111557556562218463411326420135091412452512350153845182113605, 578039591520701562292159736385024572437055027386630463372155666541718951320057245717788129557395, 536420494953760137152351639665489079268043350637160042429352615871998186401593936702620237753280615, 510465244098047839544939501998058959742999924501083299917152912266271865528338303652848432045708673775],
  [1, 1, 50, 3725, 368775, 45533300, 6735075775, 1160680384025, 228339983969700, 50487115597253175, 12392690582002385075, 3343589523353938450950, 983447176330203999822605, 313169931056584792912092785, 107335855915820171782771213040, 39395145321282980630667586230765, 15415419798215064325535549844917695, 6406148372075112813249610885756005560, 2817568782468070871290880368719833598275, 1307543956615472772867164357960951636303145, 638479909271843328341682696248716946760061080, 327241872581834169135346622698175022243704963165, 175647935480507942231211957591849384820356413279425, 98532290078781780796664290698390523146447943739702620, 57658069365437663648498675224323933641799829681821856695, 35134907304629757938111404625169577053699585117262552162675, 22259974139274074602238476052517134443272952324050025540743750, 14641299903175301910370436965624942507720184644127157592288667075, 9984174501002455990684420977483121270880423507219540986886691102025, 7049724666034608552075537799198861003267847497590086853856699733796610, 5148098255306145384509027208500530969058449377546066829054448478412628325, 3883801402877631542896687227020493839777831497407110656741224925738351680555, 3023806351836370929137929590810738015866625504830393807024329397904118225553300, 2427261575347519992775049433926905567769240236383766606252688469708326606078576695, 2007006801574393808203961914792861034228555897218201554174690272231441767229889632755, 1707960144927482213227710816911935230596232627397596957649114799331995664695439118818310, 1494690336767635338368489165807984313185685681229528409042773408317863652141004248182114055, 1344115525985866375001118510310447119723288775819422830351491547768605049326328201313460940195, 1241134533248844117622026438196773430423068379367264998940146763545445411517099907743904567264760, 1175978520306756912907407487154566551865372780033551598310986428311545272075801770105833521293578895, 1142601219379126033742793072326426807288466207410205307428294623113521956189883848345010721674445439625],
  [1, 1, 51, 3876, 391476, 49314926, 7442382451, 1308621832926, 262679005734526, 59261729746713501, 14842846263004269551, 4086288291491021600926, 1226415272220598766285381, 398513010172059532991475376, 139376076583449405071047215111, 52200148130125560199134205117191, 20843676969495734400235266383722611, 8839139194013978227471449217637081631, 3967211158387113112528214043353642348906, 1878747819627830599104030662014352122568006, 936190498325712634729252708261809394973030816, 489659167681790189322419459334760661987528189861, 268212596010303525275601657260647159466734270318676, 153542542051579335981926066561531206127506644774401916, 91691077835337647619161151757964849981467704371747237851, 57019750217053676464546248535894717473684882754895577402601, 36866613664036889910793017014680034638210756825888057286084876, 24746444014807324781735349478799691342435161419855605812421513551, 17221551938296535322336421546020050491232137462321923004090965828576, 12409707298013370698197960386232245836512503033866055416155001245076361, 9248423140107848236261691175863089983433495958796799158565133903003144601, 7120516697442281248685961527035455635990342069708385307151399801672623829031, 5657755556465544280530043938088372215876805870273850746346996476551198998176311, 4634944205494631026176492975070981982211672031740772559217769008188308156712593386, 3911257897991696343810954503101352885094119010638417184408692385754285009589307903516, 3396932502580469242830975681131254469914883608098336797628730694963834322976511121592986, 3033917952631132605777550670619214701026913676794776016722903824655644022469024504569934951, 2784417887962160524471314977901005133825049152948187680909790025410206965525021008343696644116, 2623998811501126978589277790534046607343165344685839048024560609422692292817850345617827500583866, 2537422693644728171894319941069235209747779457642811875710204323303671926746521900606197822887036141, 2516160993402740202741061737491128568793608568810956497548974902650418278028017012031238493418131920421],
  [1, 1, 52, 4030, 415090, 53327352, 8207902703, 1471954140527, 301352541112090, 69342795625490647, 17714500050053791725, 4974297843222598948395, 1522780011365274098072727, 504712674418805070833633577, 180051548310090563813750201067, 68784684360692144055760383633435, 28016242992142265475689808103674447, 12118949470662216609534435771244812114, 5548344457275013465342051761937049167074, 2680236605386418792460375183950989009862082, 1362381331246269960666815629214496453763617132, 726877546125503232554199192950759774956262006511, 406146196501776938906406729161524630622070552191373, 237175933467720062461734420446809109923574155259929356, 144480864525020229639658135601630840594275851759184209099, 91654228010790877895056893786883121534140634896979312888103, 60451468478439318258692533237383863488367266179631609517915949, 41393790895032615855620417127737352715359803263940527434318125289, 29386358363726636967954873347262079122851776795566770104236289870305, 21601719203859408176852051912778035291273032581703698663388258835618007, 16422901842565819810822385386350928600936519185997108429333658679913040397, 12898856299485866097162821503039368713082057673878515371911946747051721480283, 10455465213063543681389338415799289904398020733627278798963222086554549950121314, 8737860619559845263949607818135670548779634741394589843614064663685512185347164342, 7522121644094970798413696606510385779380639346948976135304282617177792641116597510494, 6664628332440842249287928965737367873173714996562325378488043685543162560571122591582580, 6072391134228467999291877810687930697950692523308561562367309108320372551169707567649373947, 5685372571631152848248226423568124835117754205823781754336108355981166006478519152603554790941, 5465859108419118863009472224512925347728435113781152940295530830100748800223933697745066617638296, 5392119813543847622117735962277041154856899652333744391597575453762785498174952552527744336161307679, 5454797644807394285939947753319420433053762778576930564988544469617331999155538376403444937170375109267],
  [1, 1, 53, 4187, 439635, 57579783, 9035158146, 1651932424377, 344807262853119, 80893621944878562, 21069784993116153204, 6032362015470905012952, 1882880360002781284870440, 636304165893007140430480554, 231449931026504857271561258745, 90156258387169456701226950201897, 37442251864206273665535982506801180, 16514624903315641389521756585283417120, 7709431316778947311591710493441476022482, 3797436898259725076241405652419056551554228, 1968238650412339256642822883319959055597866948, 1070791569055653756400740694539131483684227517907, 610089473725623220203371722884583157197698231326817, 363288721673123390365898657025059630214080963098932822, 225665084585711655448135142371959187499079753644634583035, 145976100884732248521700522593984855487610015208577782433026, 98177892677070368494637005355763568078117888964879887546301040, 68552284762418595572925680975936110714761651886574954051743759980, 49626607294533943853678536542717204860666327160593637066282713333760, 37199862762582204355522960905242337191578520860966174014576742581267561, 28839596126233629707750960989093593033839703795571477222658328920404967130, 23098230937993317130838576905094070720221389927826900204555983505076562959903, 19092422304670597062082338529020319767078412139038140376279817131891053405215868, 16271020714037944952070661795276363771795192809223277248024678506124324048952884770, 14283803094232074002416564357965347368622060074838388478888121916234134493947816077878, 12905505038904917118194689143745123774647653381870898909871837657973797434789629394708876, 11991018553099835463484352698480137059434569307099590137427607858499391195038823410477225307, 11448647629815569762353754744838506471020018392370836432860385050845620350480804018455701125766, 11224169646380242306120638436338280753387657012026698182448342285718479296410605494753476070133073, 11291650330956839378918288862577352799127052098478311505163668380685988260325412409943192076942844289, 11648772315562082090604568174444369135418723883850861734224923492849985193027766241639388340202818631793],
  [1, 1, 54, 4347, 465129, 62081604, 9927809640, 1849887050940, 393525933445170, 94094186881822110, 24978525499598978790, 7288835971885648042950, 2318798023985431196868528, 798691821272725979186895582, 296108085338653894379956859031, 117563352423538583877671262830814, 49765086182154575561489373028266198, 22372876730363904777047206189489818030, 10645575764544315035173292105577918477690, 5344834488297851342371200121859515058494512, 2823718189413565620379812741355128868851927258, 1565854131827071987309505907924460014959952294051, 909379962650022628798169486414091236072183603576733, 551965398487026932741863692429749083940619195142507719, 349490104125272714770403500032915066608484408869596344039, 230443907530398128079856834199618981097048237874369082870355, 157983751228221613033442213055552836244941576474364358161565980, 112444467447091531725557264444245187753188492968287652316391536425, 82975581210057758362649661880746078183455345503980029626862215110165, 63401371940084651459276945687588336992514622919776932411611173698476161, 50103730646492249171203244652245601298164385436715421478067562830078562860, 40905818446199803373470603234632869512539743306517280322908089321399117694623, 34466304561733218095211148562379212636628270951107153702845310642955537480277824, 29941778732431279097469517512011453404059510325487442058638501377998091368273826490, 26793996484532520162687149397715819272471050404989007045817530942267894201971027536778, 24677500622134717576411825260816230933974145291304530653660569289866723075797800604723466, 23373104580323222379036425775578447217036098870057252033642111055651946145545586212120347387, 22748369119479453226085558587858304948080362159050529667575209763149722511836023567754353032943, 22734614681707549134724447053168790372683703111091714333570179498196193173199930875974090964416917, 23314687653648477497681211633080976864366958033536000978232806687346340758792193793619964469802065699, 24518427388623259425176431354849452367597946690778003475878533800453787164469325164024536910901096202335],
  [1, 1, 55, 4510, 491590, 66842380, 10889659990, 2067226584940, 448029549310420, 109142472444135130, 29519014973259050470, 8776128914322233041270, 2844609287206732263892828, 998294093167369603473545446, 377097272400884380934152344319, 152546737965703476851230988234329, 65794147520097254186297559084516622, 30138340615999340731639738353000712036, 14611840370271013351181964485053025393200, 7475002634567616717921251688234324559854712, 4023858210686265950497711427637503345597603578, 2273629024957284584579000145059327227676896691569, 1345436763183585175743123194975412858314003564531905, 832112168589483394718877989507499112036346506844154703, 536857970270142393172735534971022903134277125988032614107, 360700336585204662962747689234776874429999502732097299433430, 251972261385784174256828517004620357086530904608993660521515335, 182742480066675195901282862457928106694963251670776609855306512630, 137408903367219344070214031783956692909064175040707433906537200178475, 106986341914945398195817291908383079919779073699129975729022255970733126, 86152276085723656146162278880549585767263261833367315499543887672196704375, 71672181127652758820644591783236520186078742885495041745601959189926262735008, 61536228307080608160574651411999933988331331817195383100523334089512841891179980, 54473601170860738759667276844616759830506571216399745675553818394111451953857514422, 49672954466403395294120973123484500989603979219907311376697970545087086066093454255818, 46618607000208134942103771586264765869988641781063012572270213240984937262905270425784666, 44993701358498893156439415207246284810811291998312598780773409608322983514654848666780032543, 44623570211013461452916386717212586689165345234046211121608701718603193660000016830975290936842, 45444555804350930448435368430603690769522025418027102671904035231498229682576261934990376082926166, 47490367894978948862000382784685321723242462910390584902479756828184066021949947773095809520897781437, 50892246762724931612700728962329138824733067683465715094171876123857044339152231285036094753781777219795],
  [1, 1, 56, 4676, 519036, 71871856, 11924656646, 2305440795406, 508879568303316, 126255877396580526, 34778855125095978106, 10531191131313956118456, 3476667424926551711043244, 1242709322160557804441778946, 478122428512342955802221032867, 197000420545600223926999054222310, 86543321811054351044983979416381742, 40378579585355675937488075758281953394, 19940000161013037304173691930628227571584, 10390180245289129694258620738106608904175104, 5697032411005630938877180550205549847397155930, 3278857706800063624145419515082795844073881335227, 1976358498208481102930638483086878017252162815754611, 1245048267491425313696452096145960936110469564742639406, 818215881122604869810745595555013906832446017927795327947, 559965717395055893930852207158922413768694561096258126887261, 398452114806892728564240520749496863297893139840648480900516511, 294356388149436419974452899286135805310335030518421305510559814731, 225455759533654116258865967363429810269199020325972358100327816732451, 178808928535952451695909938598899994282147265694338801889006605547939517, 146670862719538035584117539560450246014391726349903950956957859191880615951, 124292724032741725334170114885039586564341093826517903256911838276318352993479, 108704034371033482559118880366405713172713964288465846551698758695980337269251592, 98021701096387970579604290401412776907332415711619236371585942163627651457839088982, 91049823044591040130060841595763272688045464865343598376107599088065998406582484377070, 87044820031903077566553013106447046779629575545774404866430564802955737273813016352369272, 85577855851677850313693525084541532149805598769313950323626350584556481678472800643800336591, 86457267876746451922517128270718266414641174324261853816862943192258628961780499751877099179305, 89690821850050310322095586283630930975213057505208504271754731933979396312958632239443829243992010, 95477715400716569798566068379334132011988723362903151533886412062836072886380724663239601314375158655, 104226898321507125079422730460595858676525008609472302892205101424048688268673630554660160433030728374063],
  [1, 1, 57, 4845, 547485, 77179957, 13036894403, 2566103718417, 576680222095685, 145672711772802747, 40855860554279889175, 12596048867228477736065, 4233918725149565587425865, 1540904754625283857190366861, 603637508671397076164918440644, 253243793380572371859041928972374, 113277383979856151442130738490424447, 53814820479935685234869020203881684925, 27059529720419300698676460639937549839043, 14357051088771604489711626404413790138115477, 8015684721067951551008523471128917064788964533, 4697500524009601335228525671057149108627485000642, 2883133537885280061586040682963400593534562068833558, 1849448782274814962858856783258982188237657664884771583, 1237608642875396633375335174655011668579675821383549394722, 862458693532021351935007342264669962975411589111377866173353, 624908568281539401569642182212897096529839855698956972097416939, 470088091977185065006904410141629223927987362103066598412205994419, 366635446893756996041950781266745815822630040817518471085479248782315, 296095271722312681417153031327816100918830178348828869465015373697457238, 247318744508422598868105811325718047578781659341900492524324348331497821947, 213418228071548975711248344091731878601304622936162619123154229859153075529666, 190066566803423289937254657258397832133960136273595027832762084129954858485806421, 174525207303000221742498229693433475110913815958650137892763359865916689967871439819, 165079232547369369716708915021862723688626138220459284146521076347197145536006596746571, 160707141757756248235186382143489788978204313980217842791041567360236591101360752028885541, 160891839344234302003853117898752515273552469123171867987138761319194540602835214412932262100, 165522071509422687852947312571023665306210590403278302131432320861492856560425253216905006459921, 174858029816953316583921720114619456393670300469747865431441446602956430197361483752769146411905896, 189550141569212332704883065369906731130996192294055151983510582723274251616418160415951318594334132716, 210711256602326086631572029072334785617570111660606906357956822740665830432568351409651039679003343352312],
  [1, 1, 58, 5017, 576955, 82776788, 14230618101, 2850876776547, 652080915036904, 167653776055256617, 47859032334475486109, 15018390697204196486132, 5138255387338427830655273, 1903431546587849893334780027, 758979130820530675229526665087, 324106796576697957635911167811591, 147567787574258858365166300893957889, 71359595456993543635676163421981286790, 36523784315274069839444389982887840802705, 19725524479796574980986463574933693215826841, 11210224982968259568993203948018772556647994222, 6687339848803844566186766016799140258145584906940, 4177981558110511114393463531297118624699410870398988, 2728107707315647361451014635525224476906393891001305713, 1858326937528057240868388167661080944096849931261176761710, 1318252881895433722181750285683889251119333566228223237367176, 972300503009920044045652399252954538288748316771415752630442080, 744541277333280774730041313569025097505931129261872444944699246960, 591114078445599961588241217120838172298442845823516836397950786507320, 485956509854009047138431569546285920870604634440243612480151436288171037, 413193748849869073153097866910995133318063862474892626754860075744843232595, 362961563857750035158470993016074425853248429018875759372504062131438530768826, 329055280330938379235892936573246115074826205692975842532031267568218442115888136, 307579114415768246817937216021173245809215962449989922937577777916833239096531120745, 296161198378046610695793342357995578555981328466792651648553661205687000655718766482401, 293500862216850731989220820303407756207066312835695699025376578369222243092400353168750132, 299121834454030736084561223250906991642022345910280745649000351233172488547837926320395054884, 313264567237361839149121690373605476000457523162212538870120479417151166884420042394210576633352, 336886446680362896542041332047560284638534673152444164680705865252364070368899380112407713909572051, 371762829576378426230322958327801767971414325233012722637108982749975086809106629039322402982239609948, 420702165004735909633130426176542588717766179088527151382650982698792501582827474105717151122112054765726],
  [1, 1, 59, 5192, 607464, 88672634, 15510225325, 3161511955010, 735778711076730, 192484028162430075, 55909604480811997985, 17852209301985811184700, 6214908817397099670684701, 2342668758027475079278281134, 950521013133300392175304428362, 413030125698501011264467301807388, 191359514637894937382908414151649181, 94162671299313528034895862639929589215, 49042530266347324276820036661323657884970, 26952497735654935917619826133476159173799994, 15586932536655215088161243564573131490582802606, 9461891650713272789727298301296570624091278448822, 6015498317749519379156188405572002536930117079587051, 3997139266695410458135495548858834852033198840331839135, 2770732716804126983932379433967417559649928979094090087166, 2000128798340077486785267163203098083754295105243659229124485, 1501233914794111283199980198697289309063610000381788668866564405, 1169841669422706033693352660780860416798340759801952212006644568365, 945152350746397144748939852929432436782527394645026476740147734015685, 790718364672544584932190896680314759464917220082867182890712553792635167, 684185249634067158219339285510868334648853020278644905137279906239928787610, 611614437379467364553814147666939184867794696203637771491052575720147080282821, 564266950984418986533621043525895229173680420292262522387456122060038192321773683, 536750844339741733241290639687708956082072726968877762298873409556616445778177982440, 525951425889080563046148412980700181308376387166075157546232841463817425216252373434486, 530432152878450040219459942724445086624113355596505894334397966438744618571887403659683432, 550139611108498279873247082500542557203241912859992849808078720234096729709780953105374015924, 586329488980952499045965656496246951687827229916190323133573429502580304988239334687084023728296, 641683611723635640992009479266188899901769618114671253688777068766183537509609953134321366339647284, 720628729649201983192367682506485828418200025671279417638701999701917921831059389005714194680960132838, 829907660251772595570049947997261338358532673456346395301098723487380027763428271686376196078927634746380],
  [1, 1, 60, 5370, 639030, 94877960, 16880269105, 3499855034505, 828520910338390, 220474341439811985, 65142167315207643515, 21158502753561832398415, 7492887101549134437389351, 2873099626095569939964669847, 1185851982202603767506017674498, 524182809264828792506719376843493, 247050921837528008480486159253748089, 123666893755383161377847884783622238252, 65522208861394275804186852888615289176770, 36631796569002228608322638214206222963773334, 21550920173778616022800772917095894265568533106, 13308570034007416187461180444999479418408533433598, 8607469303484815197457627056341845929381095150491610, 5818428331249814714313625114367830144963850791316824208, 4103038328251256309421444639456874660220926554070595413574, 3013181882802445540903994889744710737141865697552350413560910, 2300774365435907179017092424878085431029361081153053698045588890, 1823949424474945210255498343804326694729991530267503827350791051730, 1499164413435257629065417371705875431383169128713504826157111534567870, 1275947042840746468046738663770581917061239026133792814384716679090105702, 1123180334706967330264535894528544135193672645187262265613161149902588775960, 1021456793305845525351856724389877089794284630570477769022984907818682046651606, 958726772423493369131081791261547717287277926057889926261920876341148539192835510, 927795749995466113145987402485755391864768603291964253076494799824381270721114634664, 924902751672717422621966691600326959791683545302610982546515846088406681117748994575416, 948969857808789879781668561130337208733040685276253580270626640424294097467030501072227672, 1001310905144039550530124684992845126943169364410173885727802468813297800872832128981738658096, 1085706644767855585160245019242083313691472891838774378646426924499054706738624875576866796215904, 1208836810005297741993705545245725086060031811131118138601006572565451342202469560282499347719982512, 1381132927064943889245363966809491783497135371924411163321825814629573576829086925204994237786769813744, 1618199403265254079621045901095976130071029536532289952676767743315604313701721716205064475087606142450000],
  [1, 1, 61, 5551, 671671, 101403411, 18345460616, 3867848880761, 931107716929531, 251963356908209776, 75705871892788224486, 25006039647191540233236, 9005460719976941682936132, 3511623710936157332968476306, 1473980642252283563292469720788, 662599781777368732384407274855854, 317588814482156205472983938482322838, 161675856277183076651362389370236667032, 87115587300703045293742396275276305300112, 49531747851226305775497664253766411552324072, 29635461138547190368283871196776204327612639384, 18612294831555995984525719519068797744197098381528, 12242462533526819771255886860953697901571223170416456, 8416388587483856886704765540281719505515480177672749648, 6036071561580763073496013586945959922977170877192931541640, 4508216010903295248795068907015461248342071893810219252932096, 3500948608300798797073864651514525879230986843870318349066669616, 2822659797955456456426980001063717309394365612031884020454577132736, 2359558188272728190540658067293147951930501620101391477872050846937536, 2042449561732308687989253812555568253288019728902268405878227672082294888, 1828550558694971013425322695926357696772623851713979827528078704711407044856, 1691288715285533431041046590462844938595141615853644642614070131659198866166592, 1614486072173827057589990095417796902595291108690487062108839071774754521123076848, 1589040290083036023032699502033947357832679392841331495437248290384079592782535799568, 1611101964759071360171846337662745689291645121649518708044186138423289845640184126710864, 1681222151258805042151619198356213863761907898918064567168461814404928825498329149500796608, 1804216407478364228291215371077135362397896360455317513699849600951357801236158441101117045496, 1989667042919304172412157784342564414428271868596286705479124303094051500219588382280628363649984, 2253123587589334812586983033860248771476435017783472942111170408496249260875836540296989249971015624, 2618203580891475804605433769461559668880811714805369215251057251496418035539407281057440111089596514904, 3119979232418602303898851536145836706142323755277458388657935134477735101347983736516802544419634568986200]]
def PP : List (List Int) := [
  [1],
  [0, 1],
  [0, 1, 1],
  [0, 1, 3, 1],
  [0, 1, 7, 6, 1],
  [0, 1, 15, 25, 10, 1],
  [0, 1, 31, 90, 65, 15, 1],
  [0, 1, 63, 301, 350, 140, 21, 1],
  [0, 1, 127, 966, 1701, 1050, 266, 28, 1],
  [0, 1, 255, 3025, 7770, 6951, 2646, 462, 36, 1],
  [0, 1, 511, 9330, 34105, 42525, 22827, 5880, 750, 45, 1],
  [0, 1, 1023, 28501, 145750, 246730, 179487, 63987, 11880, 1155, 55, 1],
  [0, 1, 2047, 86526, 611501, 1379400, 1323652, 627396, 159027, 22275, 1705, 66, 1],
  [0, 1, 4095, 261625, 2532530, 7508501, 9321312, 5715424, 1899612, 359502, 39325, 2431, 78, 1],
  [0, 1, 8191, 788970, 10391745, 40075035, 63436373, 49329280, 20912320, 5135130, 752752, 66066, 3367, 91, 1],
  [0, 1, 16383, 2375101, 42355950, 210766920, 420693273, 408741333, 216627840, 67128490, 12662650, 1479478, 106470, 4550, 105, 1],
  [0, 1, 32767, 7141686, 171798901, 1096190550, 2734926558, 3281882604, 2141764053, 820784250, 193754990, 28936908, 2757118, 165620, 6020, 120, 1],
  [0, 1, 65535, 21457825, 694337290, 5652751651, 17505749898, 25708104786, 20415995028, 9528822303, 2758334150, 512060978, 62022324, 4910178, 249900, 7820, 136, 1],
  [0, 1, 131071, 64439010, 2798806985, 28958095545, 110687251039, 197462483400, 189036065010, 106175395755, 37112163803, 8391004908, 1256328866, 125854638, 8408778, 367200, 9996, 153, 1],
  [0, 1, 262143, 193448101, 11259666950, 147589284710, 693081601779, 1492924634839, 1709751003480, 1144614626805, 477297033785, 129413217791, 23466951300, 2892439160, 243577530, 13916778, 527136, 12597, 171, 1],
  [0, 1, 524287, 580606446, 45232115901, 749206090500, 4306078895384, 11143554045652, 15170932662679, 12011282644725, 5917584964655, 1900842429486, 411016633391, 61068660380, 6302524580, 452329200, 22350954, 741285, 15675, 190, 1],
  [0, 1, 1048575, 1742343625, 181509070050, 3791262568401, 26585679462804, 82310957214948, 132511015347084, 123272476465204, 71187132291275, 26826851689001, 6833042030178, 1204909218331, 149304004500, 13087462580, 809944464, 34952799, 1023435, 19285, 210, 1],
  [0, 1, 2097151, 5228079450, 727778623825, 19137821912055, 163305339345225, 602762379967440, 1142399079991620, 1241963303533920, 835143799377954, 366282500870286, 108823356051137, 22496861868481, 3295165281331, 345615943200, 26046574004, 1404142047, 53374629, 1389850, 23485, 231, 1],
  [0, 1, 4194303, 15686335501, 2916342574750, 96416888184100, 998969857983405, 4382641999117305, 9741955019900400, 12320068811796900, 9593401297313460, 4864251308951100, 1672162773483930, 401282560341390, 68629175807115, 8479404429331, 762361127264, 49916988803, 2364885369, 79781779, 1859550, 28336, 253, 1],
  [0, 1, 8388607, 47063200806, 11681056634501, 485000783495250, 6090236036084530, 31677463851804540, 82318282158320505, 120622574326072500, 108254081784931500, 63100165695775560, 24930204590758260, 6888836057922000, 1362091021641000, 195820242247080, 20677182465555, 1610949936915, 92484925445, 3880739170, 116972779, 2454606, 33902, 276, 1],
  [0, 1, 16777215, 141197991025, 46771289738810, 2436684974110751, 37026417000002430, 227832482998716310, 690223721118368580, 1167921451092973005, 1203163392175387500, 802355904438462660, 362262620784874680, 114485073343744260, 25958110360896000, 4299394655347200, 526655161695960, 48063331393110, 3275678594925, 166218969675, 6220194750, 168519505, 3200450, 40250, 300, 1],
  [0, 1, 33554431, 423610750290, 187226356946265, 12230196160292565, 224595186974125331, 1631853797991016600, 5749622251945664950, 11201516780955125625, 13199555372846848005, 10029078340998476760, 5149507353856958820, 1850568574253550060, 477898618396288260, 90449030191104000, 12725877242482560, 1343731795378830, 107025546101760, 6433839018750, 290622864675, 9759104355, 238929405, 4126200, 47450, 325, 1],
  [0, 1, 67108863, 1270865805301, 749329038535350, 61338207158409090, 1359801318005044551, 11647571772911241531, 47628831813556336200, 106563273280541795575, 143197070509423605675, 123519417123830092365, 71823166587281982600, 29206898819153109600, 8541149231801585700, 1834634071262848260, 294063066070824960, 35569317763922670, 3270191625210510, 229268487458010, 12246296312250, 495564056130, 15015551265, 333832005, 5265000, 55575, 351, 1],
  [0, 1, 134217727, 3812664524766, 2998587019946701, 307440364830580800, 8220146115188676396, 82892803728383735268, 392678226281361931131, 1006698291338432496375, 1538533978374777852325, 1501910658871554621690, 985397416171213883565, 451512851236272407400, 148782988064375309400, 36060660300744309600, 6539643128396047620, 898741468057510350, 94432767017711850, 7626292886912700, 474194413703010, 22653141490980, 825906183960, 22693687380, 460192005, 6654375, 64701, 378, 1],
  [0, 1, 268435455, 11438127792025, 11998160744311570, 1540200411172850701, 49628317055962639176, 588469772213874823272, 3224318613979279184316, 9452962848327254398506, 16392038075086211019625, 18059551225961878690915, 13326679652926121224470, 6855064482242755179765, 2534474684137526739000, 689692892575539953400, 140694950355081071520, 21818248085373723570, 2598531274376323650, 239332331869053150, 17110181160972900, 949910385013590, 40823077538100, 1347860993700, 33738295500, 626551380, 8336601, 74907, 406, 1],
  [0, 1, 536870911, 34314651811530, 48004081105038305, 7713000216608565075, 299310102746948685757, 4168916722553086402080, 26383018684048108297800, 88300984248924568770870, 173373343599189364594756, 215047101560666876619690, 177979707061075333384555, 102442517922081938561415, 42337710060168129525765, 12879868072770626040000, 2940812098256837097720, 511605167806434372210, 68591811024147549270, 7145845579888333500, 581535955088511150, 37058299246258290, 1848018090851790, 71823880393200, 2157580085700, 49402080000, 843303006, 10359090, 86275, 435, 1],
  [0, 1, 1073741823, 102944492305501, 192050639071964750, 38613005164147863680, 1803573616698300679617, 29481727160618553500317, 215233066194937952784480, 821091876924369227235630, 1822034420240818214718430, 2538891460766525007411346, 2350803586293570877234350, 1509732440048140534682950, 695170458764435751922125, 235535731151727520125765, 59932861644880019603520, 11638099950966221425290, 1746257766241090259070, 204362877042025885770, 18776564681658556500, 1359760239259935240, 77714697244997670, 3499967339895390, 123605802450000, 3392632085700, 71327958156, 1122998436, 12774790, 98890, 465, 1],
  [0, 1, 2147483647, 308834550658326, 768305500780164501, 193257076459811283150, 10860054705353951941382, 208175663741028175181836, 1751346256720122175776157, 7605059958514260997905150, 19041436079332551374419930, 29749840488672593296243236, 30748534496289375534223546, 21977325306919397828112700, 11242118862750241061592700, 4228206426040348553808600, 1194461517469807833782085, 257780560811305783833450, 43070739743305846088550, 5629152430039582088700, 579894170675197015770, 47331529706117196540, 3069483578649883980, 158213946062591640, 6466506598695390, 208421604592500, 5247158997756, 101648915928, 1480692556, 15642600, 112840, 496, 1],
  [0, 1, 4294967295, 926505799458625, 3073530837671316330, 967053687799836580251, 65353585308583522931442, 1468089700892551178214234, 14218945717502005581391092, 70196885883348471156922507, 198019420751839774742104450, 346289681454731077633095526, 398732254444145099706925788, 316453763486241547299688646, 179366989385422772690410500, 74665215253355469368721700, 23339590705557273894321960, 5576731051262006158950735, 1033053876190811013427350, 150024635914057905773850, 17227035843543522404100, 1573856294503658143110, 114860168436414644100, 6708404338089491700, 313410104431281000, 11677046713507890, 344847738534156, 7991679727812, 143108307496, 1934327956, 19027800, 128216, 528, 1],
  [0, 1, 8589934591, 2779521693343170, 12295049856484723945, 4838341969836854217585, 393088565539300974168903, 10341981491556441770431080, 115219655440908595829342970, 645990918667638245993693655, 2050391093401746218577967007, 4007205916753881628706155236, 5131076734784472274116204982, 4512631179765285214602878186, 2827591614882160364965435646, 1299345218185754813221236000, 448098666542271851677873060, 118144018577011378596484455, 24171700822696604400643035, 3883521958557911223130500, 494565352784928353855850, 50278018028120343409410, 4100780000104780313310, 269153468212472953200, 14230246844440235700, 605336272268978250, 20643087915395946, 560623091185080, 11998712337700, 199203818220, 2505161956, 23002496, 145112, 561, 1],
  [0, 1, 17179869183, 8338573669964101, 49182978947632238950, 24204004899040755811870, 2363369735205642699231003, 72786959006434393367186463, 932099225018825208405174840, 5929137923449652809772585865, 21149901852685100431773363725, 46129656177694444134345674603, 65580126734167548918100615020, 63795282071733180063953621400, 44098913788115530324118977230, 22317769887668482563283975646, 8468923882862104440067204960, 2456546982351465287818108795, 553234633385550257808059085, 97958618035296917640122535, 13774829014256478300247500, 1550403731375455565453460, 140495178030425510302230, 10291309768991658236910, 610679392479038610000, 29363653651164691950, 1142056558069272846, 35779911377393106, 896587036640680, 17775623066080, 274358676900, 3218239332, 27646080, 163625, 595, 1],
  [0, 1, 34359738367, 25015738189761486, 196740254364198919901, 121069207474151411298300, 14204422416132896951197888, 511872082780246396269536244, 7529580759157036060608585183, 54294340536065700496358447625, 217428156450300657127506223115, 528576119807323985909575784358, 833091176987705031151553054843, 894918793666698889749497693220, 681180075105350604601619302620, 378865462103142768773378611920, 157820552013462153604359255006, 50230222582837014332975054475, 12414770383291369928363172325, 2414448376056191692970387250, 373455198320426483645072535, 46333307373141045174770160, 4641297648044816792102520, 377195302717233649751160, 24947615188488584876910, 1344770733758155908750, 59057124160965785946, 2108114165258886708, 60884348403332146, 1412080105557000, 26006383373080, 374124096192, 4102913892, 33045705, 183855, 630, 1],
  [0, 1, 68719476735, 75047248929022825, 786986033194985441090, 605542777625121255411401, 85347603704271533118485628, 3597309001877857670837951596, 60748518156036534881138217708, 496178645583748340527834613808, 2228575905039072271771420678775, 6031765474330864502132839851053, 10525670243659784359728212442474, 12467035494654790597895023066703, 10431439845141607354172167929900, 6364162006652492136202298481420, 2903994294318537226443126692016, 1011734335921691397264935181081, 273696089482081673043512156325, 58289289528359012094800530075, 9883552342464721365871837950, 1346454653156388432315245895, 148441855630127014601025600, 13316789610541190736379200, 975938067240959686797000, 58566883532442482595660, 2880255961943266343346, 115976206622955727062, 3812875920552186796, 101834671464485146, 2192271606749400, 37604230355032, 505417340736, 5193422157, 39296775, 205905, 666, 1],
  [0, 1, 137438953471, 225141815506545210, 3148019180028870787185, 3028500874158801262498095, 512691165003254319966325169, 25266510616849275228984146800, 489585454250170136719943693260, 4526356328409771599631649741980, 22781937695974471058242041401558, 68577996122678581795232659040358, 132339808398248276818871389160741, 172597131674172062132363512309613, 158507193326637293556305374085303, 105893869944928989397206645151200, 52828070715749087759292325553676, 20103478004987290979947024770393, 5938263946599161512048153994931, 1381192590520902902844722227750, 255960336377653439412237289075, 38159100058748878444492001745, 4612175477019182753537809095, 454728016672574401537747200, 36739303224324223219507200, 2440110155552021751688500, 133453538542967407522656, 6011613540763070974020, 222736732398416957350, 6766081393022256030, 167602819666967146, 3358002747755392, 53777585258584, 676800271917, 6529512507, 46503450, 229881, 703, 1],
  [0, 1, 274877906943, 675425583958589101, 12592301861930989693950, 15145652389974035183277660, 3079175490893684721060449109, 177378265482948180922855352769, 3941950144618210368988533692880, 41226792409938114533404791371080, 232345733288154482182052063757560, 777139895045438870805801290845496, 1656655696901657903621689328969250, 2376102520162485084539597049185710, 2391697838247094171920638749503855, 1746915242500572134514405051353303, 951143001396914393545883854010016, 394587196800533034418391746650357, 126992229043772198196813796679151, 32180923166496316666097876322181, 6500399318073971691089468009250, 1057301437611379886746569325720, 139626960553170899022323801835, 15070919860488393988905994695, 1336471294056355758805920000, 97742057113124767011719700, 5909902157669174347277556, 295767104143570323821196, 12248242047918745779820, 418953092796062382220, 11794165983031270410, 271700904847384298, 5078885476030080, 76111994231845, 898803697155, 8157133257, 54779166, 255892, 741, 1],
  [0, 1, 549755813887, 2026277026753674246, 50369882873307917364901, 75740854251732106906082250, 18490198597752082361545972314, 1244727033871530951181047918492, 31712979422428631132831124895809, 374983081834061241169631656032600, 2364684125291482936353925428946680, 8780884578787982061045866263058016, 20657008257865333714266073238476496, 32545988459013964002636450968383480, 35859872255621803491428539542239680, 28595426475755676189636714519803400, 16965203264851202431248546715513559, 7659125347005975978658543547066085, 2680447319588432601961040086875075, 738429769207202214852673446800590, 162188909527975750487887236507181, 28703729507912949312767423849370, 4129094569781139665237692966090, 486258117344403960767161679820, 47146230917840932200248074695, 3780022721884474934098912500, 251399513212523300040936156, 13895613969545573090449848, 638717881485295205656156, 24397881739004554864200, 772778072287000494520, 20216894033300183648, 434225240080346858, 7590581285680965, 106671319935115, 1184303361150, 10129183233, 64247170, 284050, 780, 1]]
end My

namespace My
open PySem PySem.Spec L2 DL
def nextR (r : List Int) : List Int := List.zipWith (· + ·) (0 :: r) (r ++ [0])
def triR : Nat → List Int
  | 0 => [1]
  | n + 1 => nextR (triR n)
def mul2 (a b : List Int) : List Int := List.zipWith (· * ·) a b
/-- one day more: the numbers F behind the numbers W -/
def chkE : List Int → List Int → List Int → List Int → Nat → Bool
  | c, W, acc, x :: rest, k + 1 => decide (x = (mul2 (mul2 c W) acc).sum) && chkE (nextR c) W (x :: acc) rest k
  | _, _, _, [], 0 => true
  | _, _, _, _, _ => false
def chkT : List (List Int) → Bool
  | W :: F :: r => (match F with
      | x :: F' => decide (x = 1) && chkE [1] W.tail [1] F' 40
      | [] => false) && chkT (F :: r)
  | _ => true
theorem TT_e : chkT TT = true := by decide +kernel
def chkU : List (List Int) → Bool
  | W :: F :: r => decide (F = PP.map fun p => (mul2 p W).sum) && chkU (F :: r)
  | _ => true
theorem TT_u : chkU TT.tail = true := by decide +kernel
theorem TT_len : TT.length = 62 ∧ (TT.all fun r => decide (r.length = 41) && r.all fun x => decide (0 ≤ x) && decide (x < 10 ^ 200)) = true := by decide +kernel
theorem PP_len : PP.length = 41 ∧ ((List.range 41).all fun n => decide ((PP.getD n []).length = n + 1) && (PP.getD n []).all fun x => decide (x.natAbs < 2 ^ 200)) = true := by decide +kernel
theorem tri_bd : ((List.range 41).all fun n => (triR n).all fun x => decide (x.natAbs < 2 ^ 64)) = true := by decide +kernel
end My

namespace My
open PySem PySem.Spec L2 DL
def topS (i : Nat) : Stmt := PySem.Challenge.pw_commondays_k30_histories_of_many_items_c.main.body.getD i (.Pass ⟨0, 0, 0, 0⟩)
abbrev s_is_integer : Stmt := topS 6
theorem sc_is_integer : FnScope ["value", "low", "high"] ["value", "low", "high"] (defScope s_is_integer) := ⟨rfl, rfl, rfl, by decide +kernel, rfl, by decide +kernel, by decide +kernel⟩
abbrev s_check_number : Stmt := topS 7
theorem sc_check_number : FnScope ["number"] ["number"] (defScope s_check_number) := ⟨rfl, rfl, rfl, by decide +kernel, rfl, by decide +kernel, by decide +kernel⟩
abbrev s_check_day : Stmt := topS 8
theorem sc_check_day : FnScope ["day"] ["day"] (defScope s_check_day) := ⟨rfl, rfl, rfl, by decide +kernel, rfl, by decide +kernel, by decide +kernel⟩
abbrev s_check_limit : Stmt := topS 12
theorem sc_check_limit : FnScope ["value", "limit"] ["value", "limit"] (defScope s_check_limit) := ⟨rfl, rfl, rfl, by decide +kernel, rfl, by decide +kernel, by decide +kernel⟩
abbrev s_triangle : Stmt := topS 13
theorem sc_triangle : FnScope ["size", "found", "turn", "one", "other"] ["size"] (defScope s_triangle) := ⟨rfl, rfl, rfl, by decide +kernel, rfl, by decide +kernel, by decide +kernel⟩
abbrev s_ways_in_groups : Stmt := topS 14
theorem sc_ways_in_groups : FnScope ["ways", "choices", "found", "size", "parts", "one"] ["ways", "choices"] (defScope s_ways_in_groups) := ⟨rfl, rfl, rfl, by decide +kernel, rfl, by decide +kernel, by decide +kernel⟩
abbrev s_count_histories : Stmt := topS 15
theorem sc_count_histories : FnScope ["items", "last", "choices", "ways", "day"] ["items", "last"] (defScope s_count_histories) := ⟨rfl, rfl, rfl, by decide +kernel, rfl, by decide +kernel, by decide +kernel⟩
abbrev s__law_cell : Stmt := topS 17
theorem sc__law_cell : FnScope ["script", "k"] ["script", "k"] (defScope s__law_cell) := ⟨rfl, rfl, rfl, by decide +kernel, rfl, by decide +kernel, by decide +kernel⟩
abbrev s__law_source : Stmt := topS 18
theorem sc__law_source : FnScope ["cell"] ["cell"] (defScope s__law_source) := ⟨rfl, rfl, rfl, by decide +kernel, rfl, by decide +kernel, by decide +kernel⟩
abbrev s__law_draw : Stmt := topS 19
theorem sc__law_draw : FnScope ["source", "many", "found", "mixed"] ["source", "many"] (defScope s__law_draw) := ⟨rfl, rfl, rfl, by decide +kernel, rfl, by decide +kernel, by decide +kernel⟩
abbrev s__law_partings : Stmt := topS 20
theorem sc__law_partings : FnScope ["most", "found", "many", "before", "few"] ["most"] (defScope s__law_partings) := ⟨rfl, rfl, rfl, by decide +kernel, rfl, by decide +kernel, by decide +kernel⟩
abbrev s__law_due : Stmt := topS 21
theorem sc__law_due : FnScope ["many", "bound", "partings", "ways", "turn", "lots", "one", "two"] ["many", "bound", "partings"] (defScope s__law_due) := ⟨rfl, rfl, rfl, by decide +kernel, rfl, by decide +kernel, by decide +kernel⟩
abbrev s_law : Stmt := topS 22
theorem sc_law : FnScope ["script", "partings", "k", "source", "turn", "many", "bound", "due", "told"] ["script"] (defScope s_law) := ⟨rfl, rfl, rfl, by decide +kernel, rfl, by decide +kernel, by decide +kernel⟩
/-! ### the mirrors -/
def b_is_integer : M Flw := (sSeq (sIf (bOr (bNot (asB (eIsi "int" (eVar 0)))) (asB (eIsi "bool" (eVar 0))))
    (sRet (eC (.bool false)))
    sNext)
    (sRet (eAnd (eBin gGe (eVar 0) (eVar 1)) (eOr (eBin gIs (eVar 2) (eC .none)) (eBin gLe (eVar 0) (eVar 2))))))
def m_is_integer : M Slot := fnP [] 3 3 b_is_integer
def b_check_number : M Flw := (sIf (bNot (asB (ofR (eCallF m_is_integer (eCons (aFz (eVar 0)) (eCons (aFz (eC (.int 1))) (eCons (aFz (eC .none)) eNil)))))))
    M.fail
    sNext)
def m_check_number : M Slot := fnP [] 1 1 b_check_number
def b_check_day : M Flw := (sIf (bNot (asB (ofR (eCallF m_is_integer (eCons (aFz (eVar 0)) (eCons (aFz (eC (.int 0))) (eCons (aFz (eC .none)) eNil)))))))
    M.fail
    sNext)
def m_check_day : M Slot := fnP [] 1 1 b_check_day
def b_check_limit : M Flw := (sIf (asB (eBin gGt (eVar 0) (eVar 1)))
    M.fail
    sNext)
def m_check_limit : M Slot := fnP [] 2 2 b_check_limit
def b_triangle : M Flw := (sSeq (sSetO 1 (oLst (eCons (ofO (oLst (eCons (eC (.int 1)) eNil))) eNil)))
    (sSeq (sFor (iOpt rng1 (eCons (eVar 0) eNil)) (.nm 2)
    (sApp 1 (ofO (oComp [3, 4] (iOpt zipD (eCons (eBin gAdd (ofO (oLst (eCons (eC (.int 0)) eNil))) (eIxP 1 (eUn gNeg (eC (.int 1))))) (eCons (eBin gAdd (eIxP 1 (eUn gNeg (eC (.int 1)))) (ofO (oLst (eCons (eC (.int 0)) eNil)))) eNil))) (.tp [(.nm 3), (.nm 4)]) tYesM (eBin gAdd (eVar 3) (eVar 4))))))
    (sRetV 1)))
def m_triangle : M Slot := fnP [] 1 5 b_triangle
def b_ways_in_groups : M Flw := (sSeq (sSetO 2 (oLst (eCons (eC (.int 1)) eNil)))
    (sSeq (sFor (iOpt rng2 (eCons (eC (.int 1)) (eCons (eCall gLen (eCons (eVar 0) eNil)) eNil))) (.nm 3)
    (sSeq (sSet 4 (ofO (oComp [5] (iOpt rng2 (eCons (eC (.int 1)) (eCons (eBin gAdd (eVar 3) (eC (.int 1))) eNil))) (.nm 5) tYesM (eBin gMul (eBin gMul (eBin gIx (eBin gIx (eVar 1) (eBin gSub (eVar 3) (eC (.int 1)))) (eBin gSub (eVar 5) (eC (.int 1)))) (eBin gIx (eVar 0) (eVar 5))) (eIxP 2 (eBin gSub (eVar 3) (eVar 5)))))))
    (sApp 2 (eCall gSum (eCons (eVar 4) eNil)))))
    (sRetV 2)))
def m_ways_in_groups : M Slot := fnP [] 2 6 b_ways_in_groups
def b_count_histories : M Flw := (sSeq (sDrop (ofR (eCallF m_check_number (eCons (aFz (eVar 0)) eNil))))
    (sSeq (sDrop (ofR (eCallF m_check_limit (eCons (aFz (eVar 0)) (eCons (aFz (eC (.int 40))) eNil)))))
    (sSeq (sDrop (ofR (eCallF m_check_day (eCons (aFz (eVar 1)) eNil))))
    (sSeq (sDrop (ofR (eCallF m_check_limit (eCons (aFz (eVar 1)) (eCons (aFz (eC (.int 60))) eNil)))))
    (sSeq (sSet 2 (ofR (eCallF m_triangle (eCons (aFz (eVar 0)) eNil))))
    (sSeq (sSet 3 (eBin gAdd (ofO (oLst (eCons (eC (.int 0)) (eCons (eC (.int 1)) eNil)))) (eBin gMul (ofO (oLst (eCons (eC (.int 0)) eNil))) (eBin gSub (eVar 0) (eC (.int 1))))))
    (sSeq (sFor (iOpt rng1 (eCons (eBin gAdd (eVar 1) (eC (.int 1))) eNil)) (.nm 4)
    (sSet 3 (ofR (eCallF m_ways_in_groups (eCons (aFz (eVar 3)) (eCons (aFz (eVar 2)) eNil))))))
    (sRet (eBin gIx (eVar 3) (eVar 0))))))))))
def m_count_histories : M Slot := fnP [] 2 5 b_count_histories
def b__law_cell : M Flw := (sRet (eIf (asB (eBin gLt (eVar 1) (eCall gLen (eCons (eVar 0) eNil)))) (eBin gIx (eVar 0) (eVar 1)) (eC (.int 0))))
def m__law_cell : M Slot := fnP [] 2 2 b__law_cell
def b__law_source : M Flw := (sRetO (oLst (eCons (eCall gMax (eCons (eC (.int 0)) (eCons (eBin gSub (eCall gAbs (eCons (eVar 0) eNil)) (eBin gPow (eC (.int 10)) (eC (.int 18)))) eNil))) (eCons (eBin gMod (eVar 0) (eBin gAdd (eBin gPow (eC (.int 10)) (eC (.int 39))) (eC (.int 3)))) (eCons (eC (.int 0)) eNil)))))
def m__law_source : M Slot := fnP [] 1 1 b__law_source
def b__law_draw : M Flw := (sSeq (sIf (asB (eBin gGt (eIxP 0 (eC (.int 0))) (eC (.int 0))))
    (sSeq (sSet 2 (eBin gMod (eIxP 0 (eC (.int 0))) (eVar 1)))
    (sSeq (sSetIx 0 (eBin gFdiv (eIxP 0 (eC (.int 0))) (eVar 1)) (eC (.int 0)))
    (sRet (eVar 2))))
    sNext)
    (sSeq (sSetIx 0 (eBin gAdd (eIxP 0 (eC (.int 2))) (eC (.int 1))) (eC (.int 2)))
    (sSeq (sSet 3 (eBin gMod (eBin gPow (eBin gAdd (eIxP 0 (eC (.int 1))) (eBin gMul (eC (.int 15487469)) (eIxP 0 (eC (.int 2))))) (eC (.int 3))) (eBin gAdd (eBin gPow (eC (.int 10)) (eC (.int 41))) (eC (.int 37)))))
    (sSeq (sSet 3 (eBin gMod (eBin gPow (eBin gAdd (eVar 3) (eBin gMul (eC (.int 32452867)) (eIxP 0 (eC (.int 2))))) (eC (.int 3))) (eBin gAdd (eBin gPow (eC (.int 10)) (eC (.int 40))) (eC (.int 121)))))
    (sRet (eBin gMod (eBin gFdiv (eVar 3) (eC (.int 2750159))) (eVar 1)))))))
def m__law_draw : M Slot := fnP [0] 2 4 b__law_draw
def b__law_partings : M Flw := (sSeq (sSetO 1 (oLst (eCons (ofO (oLst (eCons (eC (.int 1)) eNil))) eNil)))
    (sSeq (sFor (iOpt rng2 (eCons (eC (.int 1)) (eCons (eBin gAdd (eVar 0) (eC (.int 1))) eNil))) (.nm 2)
    (sSeq (sSet 3 (eBin gAdd (eIxP 1 (eUn gNeg (eC (.int 1)))) (ofO (oLst (eCons (eC (.int 0)) eNil)))))
    (sApp 1 (eBin gAdd (ofO (oLst (eCons (eC (.int 0)) eNil))) (ofO (oComp [4] (iOpt rng2 (eCons (eC (.int 1)) (eCons (eBin gAdd (eVar 2) (eC (.int 1))) eNil))) (.nm 4) tYesM (eBin gAdd (eBin gIx (eVar 3) (eBin gSub (eVar 4) (eC (.int 1)))) (eBin gMul (eVar 4) (eBin gIx (eVar 3) (eVar 4))))))))))
    (sRetV 1)))
def m__law_partings : M Slot := fnP [] 1 5 b__law_partings
def b__law_due : M Flw := (sSeq (sSet 3 (eBin gMul (ofO (oLst (eCons (eC (.int 1)) eNil))) (eBin gAdd (eVar 0) (eC (.int 1)))))
    (sSeq (sFor (iOpt rng1 (eCons (eVar 1) eNil)) (.nm 4)
    (sSet 3 (ofO (oComp [5] (iOpt rng1 (eCons (eBin gAdd (eVar 0) (eC (.int 1))) eNil)) (.nm 5) tYesM (eCall gSum (eCons (ofO (oComp [6, 7] (iOpt zipD (eCons (eBin gIx (eVar 2) (eVar 5)) (eCons (eVar 3) eNil))) (.tp [(.nm 6), (.nm 7)]) tYesM (eBin gMul (eVar 6) (eVar 7)))) eNil))))))
    (sRet (eBin gIx (eVar 3) (eVar 0)))))
def m__law_due : M Slot := fnP [] 3 8 b__law_due
def b_law : M Flw := (sSeq (sSet 1 (ofR (eCallF m__law_partings (eCons (aFz (eC (.int 40))) eNil))))
    (sSeq (sFor (iOpt rng1 (eCons (eCall gMax (eCons (eC (.int 1)) (eCons (eCall gMin (eCons (eC (.int 6)) (eCons (eCall gLen (eCons (eVar 0) eNil)) eNil))) eNil))) eNil)) (.nm 2)
    (sSeq (sSetO 3 (ownR (eCallF m__law_source (eCons (aFz (eBin gAdd (eBin gMul (ofR (eCallF m__law_cell (eCons (aFz (eVar 0)) (eCons (aFz (eVar 2)) eNil)))) (eC (.int 5))) (eC (.int 30)))) eNil))))
    (sSeq (sFor (iOpt rng1 (eCons (eC (.int 3)) eNil)) (.nm 4)
    (sSeq (sPar 5 6 (eCons (eBin gAdd (eC (.int 1)) (ofR (eCallF m__law_draw (aSlot 3 (eCons (aFz (eBin gIx (ofO (oLst (eCons (eC (.int 40)) (eCons (eC (.int 12)) eNil)))) (eBin gMod (eVar 4) (eC (.int 2))))) eNil))))) (eCons (ofR (eCallF m__law_draw (aSlot 3 (eCons (aFz (eBin gIx (ofO (oLst (eCons (eC (.int 8)) (eCons (eC (.int 61)) eNil)))) (eBin gMod (eVar 4) (eC (.int 2))))) eNil)))) eNil)))
    (sSeq (sSet 7 (ofR (eCallF m__law_due (eCons (aFz (eVar 5)) (eCons (aFz (eVar 6)) (eCons (aFz (eVar 1)) eNil))))))
    (sIf (asB (eBin gNe (eCall gRepr (eCons (ofO (oLst (eCons (ofR (eCallF m_count_histories (eCons (aFz (eVar 5)) (eCons (aFz (eVar 6)) eNil)))) (eCons (ofR (eCallF m_count_histories (mPick [1, 0] (eCons (aFz (eVar 6)) (eCons (aFz (eVar 5)) eNil))))) eNil)))) eNil)) (eCall gRepr (eCons (ofO (oLst (eCons (eVar 7) (eCons (eVar 7) eNil)))) eNil))))
    (sRet (eC (.bool false)))
    sNext))))
    (sSeq (sSet 6 (ofR (eCallF m__law_draw (aSlot 3 (eCons (aFz (eC (.int 61))) eNil)))))
    (sSeq (sSet 8 (ofO (oLst (eCons (ofR (eCallF m_count_histories (eCons (aFz (eC (.int 1))) (eCons (aFz (eVar 6)) eNil)))) (eCons (ofR (eCallF m_count_histories (eCons (aFz (eC (.int 2))) (eCons (aFz (eVar 6)) eNil)))) (eCons (ofR (eCallF m_count_histories (eCons (aFz (eBin gAdd (eC (.int 1)) (ofR (eCallF m__law_draw (aSlot 3 (eCons (aFz (eC (.int 40))) eNil)))))) (eCons (aFz (eC (.int 0))) eNil)))) eNil))))))
    (sSeq (sIf (asB (eBin gNe (eVar 8) (ofO (oLst (eCons (eC (.int 1)) (eCons (eBin gAdd (eVar 6) (eC (.int 1))) (eCons (eC (.int 1)) eNil)))))))
    (sRet (eC (.bool false)))
    sNext)
    (sIf (asB (eBin gNe (ofR (eCallF m_count_histories (eCons (aFz (eC (.int 3))) (eCons (aFz (eVar 6)) eNil)))) (eBin gAdd (eBin gAdd (eVar 6) (eC (.int 1))) (eBin gFdiv (eBin gMul (eBin gMul (eC (.int 3)) (eVar 6)) (eBin gAdd (eVar 6) (eC (.int 1)))) (eC (.int 2))))))
    (sRet (eC (.bool false)))
    sNext)))))))
    (sRet (eAnd (eBin gEq (ofR (eCallF m_count_histories (eCons (aFz (eC (.int 40))) (eCons (aFz (eC (.int 60))) eNil)))) (ofR (eCallF m__law_due (eCons (aFz (eC (.int 40))) (eCons (aFz (eC (.int 60))) (eCons (aFz (eVar 1)) eNil)))))) (eBin gEq (ofR (eCallF m_count_histories (eCons (aFz (eC (.int 4))) (eCons (aFz (eC (.int 3))) eNil)))) (eC (.int 154)))))))
def m_law : M Slot := fnP [] 1 9 b_law
/-! ### what the top has written -/
structure Txt (K : PySem.W.Frag) (mg : Str → Option Value) where
  a_is_integer : Addr
  fd_is_integer : FuncData
  F_is_integer : Fun K "is_integer" "is_integer" s_is_integer a_is_integer fd_is_integer
  D_is_integer : Def K mg "is_integer" a_is_integer fd_is_integer ["value", "low", "high"]
  a_check_number : Addr
  fd_check_number : FuncData
  F_check_number : Fun K "check_number" "check_number" s_check_number a_check_number fd_check_number
  D_check_number : Def K mg "check_number" a_check_number fd_check_number ["number"]
  a_check_day : Addr
  fd_check_day : FuncData
  F_check_day : Fun K "check_day" "check_day" s_check_day a_check_day fd_check_day
  D_check_day : Def K mg "check_day" a_check_day fd_check_day ["day"]
  a_check_limit : Addr
  fd_check_limit : FuncData
  F_check_limit : Fun K "check_limit" "check_limit" s_check_limit a_check_limit fd_check_limit
  D_check_limit : Def K mg "check_limit" a_check_limit fd_check_limit ["value", "limit"]
  a_triangle : Addr
  fd_triangle : FuncData
  F_triangle : Fun K "triangle" "triangle" s_triangle a_triangle fd_triangle
  D_triangle : Def K mg "triangle" a_triangle fd_triangle ["size"]
  a_ways_in_groups : Addr
  fd_ways_in_groups : FuncData
  F_ways_in_groups : Fun K "ways_in_groups" "ways_in_groups" s_ways_in_groups a_ways_in_groups fd_ways_in_groups
  D_ways_in_groups : Def K mg "ways_in_groups" a_ways_in_groups fd_ways_in_groups ["ways", "choices"]
  a_count_histories : Addr
  fd_count_histories : FuncData
  F_count_histories : Fun K "count_histories" "count_histories" s_count_histories a_count_histories fd_count_histories
  D_count_histories : Def K mg "count_histories" a_count_histories fd_count_histories ["items", "last"]
  a__law_cell : Addr
  fd__law_cell : FuncData
  F__law_cell : Fun K "_law_cell" "_law_cell" s__law_cell a__law_cell fd__law_cell
  D__law_cell : Def K mg "_law_cell" a__law_cell fd__law_cell ["script", "k"]
  a__law_source : Addr
  fd__law_source : FuncData
  F__law_source : Fun K "_law_source" "_law_source" s__law_source a__law_source fd__law_source
  D__law_source : Def K mg "_law_source" a__law_source fd__law_source ["cell"]
  a__law_draw : Addr
  fd__law_draw : FuncData
  F__law_draw : Fun K "_law_draw" "_law_draw" s__law_draw a__law_draw fd__law_draw
  D__law_draw : Def K mg "_law_draw" a__law_draw fd__law_draw ["source", "many"]
  a__law_partings : Addr
  fd__law_partings : FuncData
  F__law_partings : Fun K "_law_partings" "_law_partings" s__law_partings a__law_partings fd__law_partings
  D__law_partings : Def K mg "_law_partings" a__law_partings fd__law_partings ["most"]
  a__law_due : Addr
  fd__law_due : FuncData
  F__law_due : Fun K "_law_due" "_law_due" s__law_due a__law_due fd__law_due
  D__law_due : Def K mg "_law_due" a__law_due fd__law_due ["many", "bound", "partings"]
  a_law : Addr
  fd_law : FuncData
  F_law : Fun K "law" "law" s_law a_law fd_law
  D_law : Def K mg "law" a_law fd_law ["script"]
  kb_count_histories_0_last_items : KB fd_count_histories ["items", "last"] ["last", "items"] 0 [1, 0]
  n_abs : mg "abs" = none
  n_bool : mg "bool" = none
  n_int : mg "int" = none
  n_isinstance : mg "isinstance" = none
  n_len : mg "len" = none
  n_max : mg "max" = none
  n_min : mg "min" = none
  n_range : mg "range" = none
  n_repr : mg "repr" = none
  n_sum : mg "sum" = none
  n_zip : mg "zip" = none
  t_LAST_DAY : Tok
  g_LAST_DAY : mg "LAST_DAY" = some (.int 60 t_LAST_DAY)
  t_MOST_ITEMS : Tok
  g_MOST_ITEMS : mg "MOST_ITEMS" = some (.int 40 t_MOST_ITEMS)
section
variable {P : Program} {w : World} {K : PySem.W.Frag} {mg : Str → Option Value} {base : Heap}
theorem ok_is_integer (T : Txt K mg) : FnG P w K mg base 1 T.a_is_integer T.fd_is_integer ["value", "low", "high"] m_is_integer := by
  unfold m_is_integer
  refine fn_bodyP (k := 0) (Pr := []) (b := b_is_integer) (n := 3) (NL := 3) (N := ["value", "low", "high"]) T.F_is_integer sc_is_integer rfl rfl fun cdv A outer s H E hr hgd => ?_
  have tk := takes_of (X := cxOf (L2.CX P w) P w K mg base ["value", "low", "high"] "is_integer" (defScope s_is_integer) T.a_is_integer cdv A outer s H E) rfl rfl rfl rfl
  exact (dss_cons (ds_if (dt_w (dw_or (dt_not (dt_val (de_isi rfl T.n_isinstance (de_var (pv 0)) (pe_bltn rfl T.n_int (by decide +kernel) rfl)))) (dw_or1 (dt_val (de_isi rfl T.n_isinstance (de_var (pv 0)) (pe_bltn rfl T.n_bool (by decide +kernel) rfl))))))
    (dss_one (ds_ret de_bool))
    dss_nil)
    (dss_one (ds_ret (de_and (de_cmp op_ge cmpD_r2 (de_var (pv 0)) (de_var (pv 1)) (nomark _)) (de_one (de_or (de_cmp op_isN isD_r2 (de_var (pv 2)) de_none (nomark _)) (de_one (de_cmp op_le cmpD_r2 (de_var (pv 0)) (de_var (pv 2)) (nomark _)))))))))
theorem ok_check_number (T : Txt K mg) : FnG P w K mg base 2 T.a_check_number T.fd_check_number ["number"] m_check_number := by
  unfold m_check_number
  refine fn_bodyP (k := 1) (Pr := []) (b := b_check_number) (n := 1) (NL := 1) (N := ["number"]) T.F_check_number sc_check_number rfl rfl fun cdv A outer s H E hr hgd => ?_
  have tk := takes_of (X := cxOf (L2.CX P w) P w K mg base ["number"] "check_number" (defScope s_check_number) T.a_check_number cdv A outer s H E) rfl rfl rfl rfl
  exact (dss_one (ds_if (dt_not (dt_val (de_r (dr_call T.D_is_integer (ok_is_integer T) hr hgd tk rfl (da_fz (de_var (pv 0)) (da_fz de_int (da_fz de_none da_nil)))))))
    (dss_one ds_never)
    dss_nil))
theorem ok_check_day (T : Txt K mg) : FnG P w K mg base 2 T.a_check_day T.fd_check_day ["day"] m_check_day := by
  unfold m_check_day
  refine fn_bodyP (k := 1) (Pr := []) (b := b_check_day) (n := 1) (NL := 1) (N := ["day"]) T.F_check_day sc_check_day rfl rfl fun cdv A outer s H E hr hgd => ?_
  have tk := takes_of (X := cxOf (L2.CX P w) P w K mg base ["day"] "check_day" (defScope s_check_day) T.a_check_day cdv A outer s H E) rfl rfl rfl rfl
  exact (dss_one (ds_if (dt_not (dt_val (de_r (dr_call T.D_is_integer (ok_is_integer T) hr hgd tk rfl (da_fz (de_var (pv 0)) (da_fz de_int (da_fz de_none da_nil)))))))
    (dss_one ds_never)
    dss_nil))
theorem ok_check_limit (T : Txt K mg) : FnG P w K mg base 1 T.a_check_limit T.fd_check_limit ["value", "limit"] m_check_limit := by
  unfold m_check_limit
  refine fn_bodyP (k := 0) (Pr := []) (b := b_check_limit) (n := 2) (NL := 2) (N := ["value", "limit"]) T.F_check_limit sc_check_limit rfl rfl fun cdv A outer s H E hr hgd => ?_
  have tk := takes_of (X := cxOf (L2.CX P w) P w K mg base ["value", "limit"] "check_limit" (defScope s_check_limit) T.a_check_limit cdv A outer s H E) rfl rfl rfl rfl
  exact (dss_one (ds_if (dt_cmp op_gt cmpD_r2 (de_var (pv 0)) (de_var (pv 1)) (nomark _))
    (dss_one ds_never)
    dss_nil))
theorem ok_triangle (T : Txt K mg) : FnG P w K mg base 1 T.a_triangle T.fd_triangle ["size"] m_triangle := by
  unfold m_triangle
  refine fn_bodyP (k := 0) (Pr := []) (b := b_triangle) (n := 1) (NL := 5) (N := ["size", "found", "turn", "one", "other"]) T.F_triangle sc_triangle rfl rfl fun cdv A outer s H E hr hgd => ?_
  have tk := takes_of (X := cxOf (L2.CX P w) P w K mg base ["size", "found", "turn", "one", "other"] "triangle" (defScope s_triangle) T.a_triangle cdv A outer s H E) rfl rfl rfl rfl
  exact (dss_cons (ds_setO (i := 1) sc_triangle.nd rfl (.inl rfl) (do_lst (ds_cons (de_own (do_lst (ds_cons de_int ds_nil))) ds_nil)) (by decide))
    (dss_cons (ds_for (passes_of rfl) rfl (di_rng1 rfl T.n_range (ds_cons (de_var (pv 0)) ds_nil)) (dg_nm (pg_name (i := 2) sc_triangle.nd rfl (.inl rfl)))
    (dss_one (ds_app (pv 1) (de_own (do_comp rfl sc_triangle.nd (di_zip rfl T.n_zip (ds_cons (de_bin op_addD addD_r2 (de_own (do_lst (ds_cons de_int ds_nil))) (de_ixP (pv 1) (de_un un_neg negD_u de_int) (fun _ _ => rfl))) (ds_cons (de_bin op_addD addD_r2 (de_ixP (pv 1) (de_un un_neg negD_u de_int) (fun _ _ => rfl)) (de_own (do_lst (ds_cons de_int ds_nil)))) ds_nil))) (own := [("one", 3), ("other", 4)]) (by show blkC ["size", "found", "turn", "one", "other"] (defScope s_triangle) _ _ = true; decide +kernel) (fun _ _ _ _ _ => (dg_tp rfl (dgs_cons (dg_nm (pg_name (i := 3) sc_triangle.nd rfl (by first | exact .inl rfl | exact .inr rfl))) (dgs_cons (dg_nm (pg_name (i := 4) sc_triangle.nd rfl (by first | exact .inl rfl | exact .inr rfl))) dgs_nil)))) (fun _ _ _ _ _ => dts_nil) (fun _ _ _ _ _ => (de_bin op_addD addD_r2 (de_var (pv 3)) (de_var (pv 4)))) (by decide))))) (by decide))
    (dss_one (ds_retV (pv 1)))))
theorem ok_ways_in_groups (T : Txt K mg) : FnG P w K mg base 1 T.a_ways_in_groups T.fd_ways_in_groups ["ways", "choices"] m_ways_in_groups := by
  unfold m_ways_in_groups
  refine fn_bodyP (k := 0) (Pr := []) (b := b_ways_in_groups) (n := 2) (NL := 6) (N := ["ways", "choices", "found", "size", "parts", "one"]) T.F_ways_in_groups sc_ways_in_groups rfl rfl fun cdv A outer s H E hr hgd => ?_
  have tk := takes_of (X := cxOf (L2.CX P w) P w K mg base ["ways", "choices", "found", "size", "parts", "one"] "ways_in_groups" (defScope s_ways_in_groups) T.a_ways_in_groups cdv A outer s H E) rfl rfl rfl rfl
  exact (dss_cons (ds_setO (i := 2) sc_ways_in_groups.nd rfl (.inr rfl) (do_lst (ds_cons de_int ds_nil)) (by decide))
    (dss_cons (ds_for (passes_of rfl) rfl (di_rng2 rfl T.n_range (ds_cons de_int (ds_cons (de_callB DL.call_lenD DL.lenD_n rfl T.n_len (by decide +kernel) (ds_cons (de_var (pv 0)) ds_nil)) ds_nil))) (dg_nm (pg_name (i := 3) sc_ways_in_groups.nd rfl (.inr rfl)))
    (dss_cons (ds_setLc (i := 4) rfl sc_ways_in_groups.nd rfl rfl (sw_true rfl rfl rfl (by decide +kernel)) (di_rng2 rfl T.n_range (ds_cons de_int (ds_cons (de_bin op_addD addD_r2 (de_var (pv 3)) de_int) ds_nil))) (own := [("one", 5)]) (by show blkC ["ways", "choices", "found", "size", "parts", "one"] (defScope s_ways_in_groups) _ _ = true; decide +kernel) (fun _ _ _ _ _ => (dg_nm (pg_name (i := 5) sc_ways_in_groups.nd rfl (by first | exact .inl rfl | exact .inr rfl)))) (fun _ _ _ _ _ => dts_nil) (fun _ _ _ _ _ => (de_bin op_mulD mulD_r2 (de_bin op_mulD mulD_r2 (de_ix ix_seq ixD_r2 (de_ix ix_seq ixD_r2 (de_var (pv 1)) (de_bin op_subD subD_r2 (de_var (pv 3)) de_int) (fun _ _ => rfl)) (de_bin op_subD subD_r2 (de_var (pv 5)) de_int) (fun _ _ => rfl)) (de_ix ix_seq ixD_r2 (de_var (pv 0)) (de_var (pv 5)) (fun _ _ => rfl))) (de_ixP (pv 2) (de_bin op_subD subD_r2 (de_var (pv 3)) (de_var (pv 5))) (fun _ _ => rfl)))) (by decide) (by decide))
    (dss_one (ds_app (pv 2) (de_callB (cr_sum rfl) sumD_n rfl T.n_sum (by decide +kernel) (ds_cons (de_var (pv 4)) ds_nil))))) (by decide))
    (dss_one (ds_retV (pv 2)))))
theorem ok_count_histories (T : Txt K mg) : FnG P w K mg base 3 T.a_count_histories T.fd_count_histories ["items", "last"] m_count_histories := by
  unfold m_count_histories
  refine fn_bodyP (k := 2) (Pr := []) (b := b_count_histories) (n := 2) (NL := 5) (N := ["items", "last", "choices", "ways", "day"]) T.F_count_histories sc_count_histories rfl rfl fun cdv A outer s H E hr hgd => ?_
  have tk := takes_of (X := cxOf (L2.CX P w) P w K mg base ["items", "last", "choices", "ways", "day"] "count_histories" (defScope s_count_histories) T.a_count_histories cdv A outer s H E) rfl rfl rfl rfl
  exact (dss_cons (ds_drop (de_r (dr_call T.D_check_number (ok_check_number T) hr hgd tk rfl (da_fz (de_var (pv 0)) da_nil))))
    (dss_cons (ds_drop (de_r (dr_call T.D_check_limit ((ok_check_limit T).up (by decide)) hr hgd tk rfl (da_fz (de_var (pv 0)) (da_fz (de_const (pe_glob (v := .int 40) rfl T.g_MOST_ITEMS ⟨_, rfl⟩) (fun _ => .int _)) da_nil)))))
    (dss_cons (ds_drop (de_r (dr_call T.D_check_day (ok_check_day T) hr hgd tk rfl (da_fz (de_var (pv 1)) da_nil))))
    (dss_cons (ds_drop (de_r (dr_call T.D_check_limit ((ok_check_limit T).up (by decide)) hr hgd tk rfl (da_fz (de_var (pv 1)) (da_fz (de_const (pe_glob (v := .int 60) rfl T.g_LAST_DAY ⟨_, rfl⟩) (fun _ => .int _)) da_nil)))))
    (dss_cons (ds_set (i := 2) sc_count_histories.nd rfl (.inl rfl) (de_r (dr_call T.D_triangle ((ok_triangle T).up (by decide)) hr hgd tk rfl (da_fz (de_var (pv 0)) da_nil))) (by decide))
    (dss_cons (ds_set (i := 3) sc_count_histories.nd rfl (.inl rfl) (de_bin op_addD addD_r2 (de_own (do_lst (ds_cons de_int (ds_cons de_int ds_nil)))) (de_bin op_mulD mulD_r2 (de_own (do_lst (ds_cons de_int ds_nil))) (de_bin op_subD subD_r2 (de_var (pv 0)) de_int))) (by decide))
    (dss_cons (ds_for (passes_of rfl) rfl (di_rng1 rfl T.n_range (ds_cons (de_bin op_addD addD_r2 (de_var (pv 1)) de_int) ds_nil)) (dg_nm (pg_name (i := 4) sc_count_histories.nd rfl (.inl rfl)))
    (dss_one (ds_set (i := 3) sc_count_histories.nd rfl (.inl rfl) (de_r (dr_call T.D_ways_in_groups ((ok_ways_in_groups T).up (by decide)) hr hgd tk rfl (da_fz (de_var (pv 3)) (da_fz (de_var (pv 2)) da_nil)))) (by decide))) (by decide))
    (dss_one (ds_ret (de_ix ix_seq ixD_r2 (de_var (pv 3)) (de_var (pv 0)) (fun _ _ => rfl)))))))))))
theorem ok__law_cell (T : Txt K mg) : FnG P w K mg base 1 T.a__law_cell T.fd__law_cell ["script", "k"] m__law_cell := by
  unfold m__law_cell
  refine fn_bodyP (k := 0) (Pr := []) (b := b__law_cell) (n := 2) (NL := 2) (N := ["script", "k"]) T.F__law_cell sc__law_cell rfl rfl fun cdv A outer s H E hr hgd => ?_
  have tk := takes_of (X := cxOf (L2.CX P w) P w K mg base ["script", "k"] "_law_cell" (defScope s__law_cell) T.a__law_cell cdv A outer s H E) rfl rfl rfl rfl
  exact (dss_one (ds_ret (de_if (dt_cmp op_lt cmpD_r2 (de_var (pv 1)) (de_callB DL.call_lenD DL.lenD_n rfl T.n_len (by decide +kernel) (ds_cons (de_var (pv 0)) ds_nil)) (nomark _)) (de_ix ix_seq ixD_r2 (de_var (pv 0)) (de_var (pv 1)) (fun _ _ => rfl)) de_int)))
theorem ok__law_source (T : Txt K mg) : FnG P w K mg base 1 T.a__law_source T.fd__law_source ["cell"] m__law_source := by
  unfold m__law_source
  refine fn_bodyP (k := 0) (Pr := []) (b := b__law_source) (n := 1) (NL := 1) (N := ["cell"]) T.F__law_source sc__law_source rfl rfl fun cdv A outer s H E hr hgd => ?_
  have tk := takes_of (X := cxOf (L2.CX P w) P w K mg base ["cell"] "_law_source" (defScope s__law_source) T.a__law_source cdv A outer s H E) rfl rfl rfl rfl
  exact (dss_one (ds_retO (do_lst (ds_cons (de_callB (call_maxD rfl) maxD_n rfl T.n_max (by decide +kernel) (ds_cons de_int (ds_cons (de_bin op_subD subD_r2 (de_callB call_abs absD_n rfl T.n_abs (by decide +kernel) (ds_cons (de_var (pv 0)) ds_nil)) (de_bin op_powD powD_r2 de_int de_int)) ds_nil))) (ds_cons (de_bin op_mod modD_r2 (de_var (pv 0)) (de_bin op_addD addD_r2 (de_bin op_powD powD_r2 de_int de_int) de_int)) (ds_cons de_int ds_nil))))))
theorem ok__law_draw (T : Txt K mg) : FnG P w K mg base 1 T.a__law_draw T.fd__law_draw ["source", "many"] m__law_draw := by
  unfold m__law_draw
  refine fn_bodyP (k := 0) (Pr := [0]) (b := b__law_draw) (n := 2) (NL := 4) (N := ["source", "many", "found", "mixed"]) T.F__law_draw sc__law_draw rfl rfl fun cdv A outer s H E hr hgd => ?_
  have tk := takes_of (X := cxOf (L2.CX P w) P w K mg base ["source", "many", "found", "mixed"] "_law_draw" (defScope s__law_draw) T.a__law_draw cdv A outer s H E) rfl rfl rfl rfl
  exact (dss_cons (ds_if (dt_cmp op_gt cmpD_r2 (de_ixP (pv 0) de_int (fun _ _ => rfl)) de_int (nomark _))
    (dss_cons (ds_set (i := 2) sc__law_draw.nd rfl (.inl rfl) (de_bin op_mod modD_r2 (de_ixP (pv 0) de_int (fun _ _ => rfl)) (de_var (pv 1))) (by decide))
    (dss_cons (ds_setIx (pv 0) (de_bin op_fdivW fdivD_r2 (de_ixP (pv 0) de_int (fun _ _ => rfl)) (de_var (pv 1))) de_int)
    (dss_one (ds_ret (de_var (pv 2))))))
    dss_nil)
    (dss_cons (ds_setIx (pv 0) (de_bin op_addD addD_r2 (de_ixP (pv 0) de_int (fun _ _ => rfl)) de_int) de_int)
    (dss_cons (ds_set (i := 3) sc__law_draw.nd rfl (.inl rfl) (de_bin op_mod modD_r2 (de_bin op_powD powD_r2 (de_bin op_addD addD_r2 (de_ixP (pv 0) de_int (fun _ _ => rfl)) (de_bin op_mulD mulD_r2 de_int (de_ixP (pv 0) de_int (fun _ _ => rfl)))) de_int) (de_bin op_addD addD_r2 (de_bin op_powD powD_r2 de_int de_int) de_int)) (by decide))
    (dss_cons (ds_set (i := 3) sc__law_draw.nd rfl (.inl rfl) (de_bin op_mod modD_r2 (de_bin op_powD powD_r2 (de_bin op_addD addD_r2 (de_var (pv 3)) (de_bin op_mulD mulD_r2 de_int (de_ixP (pv 0) de_int (fun _ _ => rfl)))) de_int) (de_bin op_addD addD_r2 (de_bin op_powD powD_r2 de_int de_int) de_int)) (by decide))
    (dss_one (ds_ret (de_bin op_mod modD_r2 (de_bin op_fdivW fdivD_r2 (de_var (pv 3)) de_int) (de_var (pv 1)))))))))
theorem ok__law_partings (T : Txt K mg) : FnG P w K mg base 1 T.a__law_partings T.fd__law_partings ["most"] m__law_partings := by
  unfold m__law_partings
  refine fn_bodyP (k := 0) (Pr := []) (b := b__law_partings) (n := 1) (NL := 5) (N := ["most", "found", "many", "before", "few"]) T.F__law_partings sc__law_partings rfl rfl fun cdv A outer s H E hr hgd => ?_
  have tk := takes_of (X := cxOf (L2.CX P w) P w K mg base ["most", "found", "many", "before", "few"] "_law_partings" (defScope s__law_partings) T.a__law_partings cdv A outer s H E) rfl rfl rfl rfl
  exact (dss_cons (ds_setO (i := 1) sc__law_partings.nd rfl (.inl rfl) (do_lst (ds_cons (de_own (do_lst (ds_cons de_int ds_nil))) ds_nil)) (by decide))
    (dss_cons (ds_for (passes_of rfl) rfl (di_rng2 rfl T.n_range (ds_cons de_int (ds_cons (de_bin op_addD addD_r2 (de_var (pv 0)) de_int) ds_nil))) (dg_nm (pg_name (i := 2) sc__law_partings.nd rfl (.inl rfl)))
    (dss_cons (ds_set (i := 3) sc__law_partings.nd rfl (.inr rfl) (de_bin op_addD addD_r2 (de_ixP (pv 1) (de_un un_neg negD_u de_int) (fun _ _ => rfl)) (de_own (do_lst (ds_cons de_int ds_nil)))) (by decide))
    (dss_one (ds_app (pv 1) (de_bin op_addD addD_r2 (de_own (do_lst (ds_cons de_int ds_nil))) (de_own (do_comp rfl sc__law_partings.nd (di_rng2 rfl T.n_range (ds_cons de_int (ds_cons (de_bin op_addD addD_r2 (de_var (pv 2)) de_int) ds_nil))) (own := [("few", 4)]) (by show blkC ["most", "found", "many", "before", "few"] (defScope s__law_partings) _ _ = true; decide +kernel) (fun _ _ _ _ _ => (dg_nm (pg_name (i := 4) sc__law_partings.nd rfl (by first | exact .inl rfl | exact .inr rfl)))) (fun _ _ _ _ _ => dts_nil) (fun _ _ _ _ _ => (de_bin op_addD addD_r2 (de_ix ix_seq ixD_r2 (de_var (pv 3)) (de_bin op_subD subD_r2 (de_var (pv 4)) de_int) (fun _ _ => rfl)) (de_bin op_mulD mulD_r2 (de_var (pv 4)) (de_ix ix_seq ixD_r2 (de_var (pv 3)) (de_var (pv 4)) (fun _ _ => rfl))))) (by decide))))))) (by decide))
    (dss_one (ds_retV (pv 1)))))
theorem ok__law_due (T : Txt K mg) : FnG P w K mg base 1 T.a__law_due T.fd__law_due ["many", "bound", "partings"] m__law_due := by
  unfold m__law_due
  refine fn_bodyP (k := 0) (Pr := []) (b := b__law_due) (n := 3) (NL := 8) (N := ["many", "bound", "partings", "ways", "turn", "lots", "one", "two"]) T.F__law_due sc__law_due rfl rfl fun cdv A outer s H E hr hgd => ?_
  have tk := takes_of (X := cxOf (L2.CX P w) P w K mg base ["many", "bound", "partings", "ways", "turn", "lots", "one", "two"] "_law_due" (defScope s__law_due) T.a__law_due cdv A outer s H E) rfl rfl rfl rfl
  exact (dss_cons (ds_set (i := 3) sc__law_due.nd rfl (.inr rfl) (de_bin op_mulD mulD_r2 (de_own (do_lst (ds_cons de_int ds_nil))) (de_bin op_addD addD_r2 (de_var (pv 0)) de_int)) (by decide))
    (dss_cons (ds_for (passes_of rfl) rfl (di_rng1 rfl T.n_range (ds_cons (de_var (pv 1)) ds_nil)) (dg_nm (pg_name (i := 4) sc__law_due.nd rfl (.inl rfl)))
    (dss_one (ds_set (i := 3) sc__law_due.nd rfl (.inr rfl) (de_own (do_comp rfl sc__law_due.nd (di_rng1 rfl T.n_range (ds_cons (de_bin op_addD addD_r2 (de_var (pv 0)) de_int) ds_nil)) (own := [("lots", 5)]) (by show blkC ["many", "bound", "partings", "ways", "turn", "lots", "one", "two"] (defScope s__law_due) _ _ = true; decide +kernel) (fun _ _ _ _ _ => (dg_nm (pg_name (i := 5) sc__law_due.nd rfl (by first | exact .inl rfl | exact .inr rfl)))) (fun _ _ _ _ _ => dts_nil) (fun _ _ _ _ _ => (de_callB (cr_sum rfl) sumD_n rfl T.n_sum (by decide +kernel) (ds_cons (de_own (do_comp rfl sc__law_due.nd (di_zip rfl T.n_zip (ds_cons (de_ix ix_seq ixD_r2 (de_var (pv 2)) (de_var (pv 5)) (fun _ _ => rfl)) (ds_cons (de_var (pv 3)) ds_nil))) (own := [("one", 6), ("two", 7)]) (by rfl) (fun _ _ _ _ _ => (dg_tp rfl (dgs_cons (dg_nm (pg_name (i := 6) sc__law_due.nd rfl (by first | exact .inl rfl | exact .inr rfl))) (dgs_cons (dg_nm (pg_name (i := 7) sc__law_due.nd rfl (by first | exact .inl rfl | exact .inr rfl))) dgs_nil)))) (fun _ _ _ _ _ => dts_nil) (fun _ _ _ _ _ => (de_bin op_mulD mulD_r2 (de_var (pv 6)) (de_var (pv 7)))) (by decide))) ds_nil))) (by decide))) (by decide))) (by decide))
    (dss_one (ds_ret (de_ix ix_seq ixD_r2 (de_var (pv 3)) (de_var (pv 0)) (fun _ _ => rfl))))))
theorem ok_law (T : Txt K mg) : FnG P w K mg base 4 T.a_law T.fd_law ["script"] m_law := by
  unfold m_law
  refine fn_bodyP (k := 3) (Pr := []) (b := b_law) (n := 1) (NL := 9) (N := ["script", "partings", "k", "source", "turn", "many", "bound", "due", "told"]) T.F_law sc_law rfl rfl fun cdv A outer s H E hr hgd => ?_
  have tk := takes_of (X := cxOf (L2.CX P w) P w K mg base ["script", "partings", "k", "source", "turn", "many", "bound", "due", "told"] "law" (defScope s_law) T.a_law cdv A outer s H E) rfl rfl rfl rfl
  exact (dss_cons (ds_set (i := 1) sc_law.nd rfl (.inl rfl) (de_r (dr_call T.D__law_partings ((ok__law_partings T).up (by decide)) hr hgd tk rfl (da_fz de_int da_nil))) (by decide))
    (dss_cons (ds_for (passes_of rfl) rfl (di_rng1 rfl T.n_range (ds_cons (de_callB (call_maxD rfl) maxD_n rfl T.n_max (by decide +kernel) (ds_cons de_int (ds_cons (de_callB (call_minD rfl) minD_n rfl T.n_min (by decide +kernel) (ds_cons de_int (ds_cons (de_callB DL.call_lenD DL.lenD_n rfl T.n_len (by decide +kernel) (ds_cons (de_var (pv 0)) ds_nil)) ds_nil))) ds_nil))) ds_nil)) (dg_nm (pg_name (i := 2) sc_law.nd rfl (.inl rfl)))
    (dss_cons (ds_setO (i := 3) sc_law.nd rfl (.inl rfl) (do_r (dr_call T.D__law_source ((ok__law_source T).up (by decide)) hr hgd tk rfl (da_fz (de_bin op_addD addD_r2 (de_bin op_mulD mulD_r2 (de_r (dr_call T.D__law_cell ((ok__law_cell T).up (by decide)) hr hgd tk rfl (da_fz (de_var (pv 0)) (da_fz (de_var (pv 2)) da_nil)))) de_int) de_int) da_nil))) (by decide))
    (dss_cons (ds_for (passes_of rfl) rfl (di_rng1 rfl T.n_range (ds_cons de_int ds_nil)) (dg_nm (pg_name (i := 4) sc_law.nd rfl (.inl rfl)))
    (dss_cons (ds_par (i := 5) (j := 6) rfl sc_law.nd rfl rfl (by decide) rfl rfl (ds_cons (de_bin op_addD addD_r2 de_int (de_r (dr_call T.D__law_draw ((ok__law_draw T).up (by decide)) hr hgd tk rfl (da_rf (pv 3) (da_fz (de_ix ix_seq ixD_r2 (de_own (do_lst (ds_cons de_int (ds_cons de_int ds_nil)))) (de_bin op_mod modD_r2 (de_var (pv 4)) de_int) (fun _ _ => rfl)) da_nil))))) (ds_cons (de_r (dr_call T.D__law_draw ((ok__law_draw T).up (by decide)) hr hgd tk rfl (da_rf (pv 3) (da_fz (de_ix ix_seq ixD_r2 (de_own (do_lst (ds_cons de_int (ds_cons de_int ds_nil)))) (de_bin op_mod modD_r2 (de_var (pv 4)) de_int) (fun _ _ => rfl)) da_nil)))) ds_nil)) (by decide) (by decide) (by rfl))
    (dss_cons (ds_set (i := 7) sc_law.nd rfl (.inl rfl) (de_r (dr_call T.D__law_due ((ok__law_due T).up (by decide)) hr hgd tk rfl (da_fz (de_var (pv 5)) (da_fz (de_var (pv 6)) (da_fz (de_var (pv 1)) da_nil))))) (by decide))
    (dss_one (ds_if (dt_cmp (op_neD hr.units) neD_r2 (de_callB (call_reprD hgd (hu65 hr)) reprD_n rfl T.n_repr (by decide +kernel) (ds_cons (de_own (do_lst (ds_cons (de_r (dr_call T.D_count_histories (ok_count_histories T) hr hgd tk rfl (da_fz (de_var (pv 5)) (da_fz (de_var (pv 6)) da_nil)))) (ds_cons (de_r (dr_callK0 T.D_count_histories (ok_count_histories T) hr hgd tk rfl (T.kb_count_histories_0_last_items) (dk_fz (de_var (pv 6)) (dk_fz (de_var (pv 5)) dk_nil)) rfl rfl rfl (by decide) rfl (len1 (len1 len0)))) ds_nil)))) ds_nil)) (de_callB (call_reprD hgd (hu65 hr)) reprD_n rfl T.n_repr (by decide +kernel) (ds_cons (de_own (do_lst (ds_cons (de_var (pv 7)) (ds_cons (de_var (pv 7)) ds_nil)))) ds_nil)) (nomark _))
    (dss_one (ds_ret de_bool))
    dss_nil)))) (by decide))
    (dss_cons (ds_set (i := 6) sc_law.nd rfl (.inl rfl) (de_r (dr_call T.D__law_draw ((ok__law_draw T).up (by decide)) hr hgd tk rfl (da_rf (pv 3) (da_fz de_int da_nil)))) (by decide))
    (dss_cons (ds_set (i := 8) sc_law.nd rfl (.inl rfl) (de_own (do_lst (ds_cons (de_r (dr_call T.D_count_histories (ok_count_histories T) hr hgd tk rfl (da_fz de_int (da_fz (de_var (pv 6)) da_nil)))) (ds_cons (de_r (dr_call T.D_count_histories (ok_count_histories T) hr hgd tk rfl (da_fz de_int (da_fz (de_var (pv 6)) da_nil)))) (ds_cons (de_r (dr_call T.D_count_histories (ok_count_histories T) hr hgd tk rfl (da_fz (de_bin op_addD addD_r2 de_int (de_r (dr_call T.D__law_draw ((ok__law_draw T).up (by decide)) hr hgd tk rfl (da_rf (pv 3) (da_fz de_int da_nil))))) (da_fz de_int da_nil)))) ds_nil))))) (by decide))
    (dss_cons (ds_if (dt_cmp (op_neD hr.units) neD_r2 (de_var (pv 8)) (de_own (do_lst (ds_cons de_int (ds_cons (de_bin op_addD addD_r2 (de_var (pv 6)) de_int) (ds_cons de_int ds_nil))))) (nomark _))
    (dss_one (ds_ret de_bool))
    dss_nil)
    (dss_one (ds_if (dt_cmp (op_neD hr.units) neD_r2 (de_r (dr_call T.D_count_histories (ok_count_histories T) hr hgd tk rfl (da_fz de_int (da_fz (de_var (pv 6)) da_nil)))) (de_bin op_addD addD_r2 (de_bin op_addD addD_r2 (de_var (pv 6)) de_int) (de_bin op_fdivW fdivD_r2 (de_bin op_mulD mulD_r2 (de_bin op_mulD mulD_r2 de_int (de_var (pv 6))) (de_bin op_addD addD_r2 (de_var (pv 6)) de_int)) de_int)) (nomark _))
    (dss_one (ds_ret de_bool))
    dss_nil))))))) (by decide))
    (dss_one (ds_ret (de_and (de_cmp (op_eqD hr.units) eqD_r2 (de_r (dr_call T.D_count_histories (ok_count_histories T) hr hgd tk rfl (da_fz de_int (da_fz de_int da_nil)))) (de_r (dr_call T.D__law_due ((ok__law_due T).up (by decide)) hr hgd tk rfl (da_fz de_int (da_fz de_int (da_fz (de_var (pv 1)) da_nil))))) (nomark _)) (de_one (de_cmp (op_eqD hr.units) eqD_r2 (de_r (dr_call T.D_count_histories (ok_count_histories T) hr hgd tk rfl (da_fz de_int (da_fz de_int da_nil)))) de_int (nomark _))))))))
end
theorem txt_mk {K : PySem.W.Frag} {h : Heap} {mg : Str → Option Value} (X : K.In h) (G : h.Ns mainGlobals mg)
    {f0 : Addr} {oc0 kV0 dc0 pm0 cd0 ct0 : Value} {od0 an0 : Option Addr} {sl0 : Array (Option Value)}
    (a0 : PySem.W.nsIn K mainGlobals "is_integer" = some (some (.ref f0))) (l0 : K.lookup f0 = some ⟨oc0, od0, .func (PySem.W.fnOf "is_integer" "is_integer" (defArgs s_is_integer) (defBody s_is_integer) (defScope s_is_integer) .none kV0 dc0 pm0 an0 cd0 ct0), sl0⟩)
    (c0 : PySem.W.codeIn K cd0 "is_integer" = true) (k0 : PySem.W.keepIn K (.ref f0) = true)
    {f1 : Addr} {oc1 kV1 dc1 pm1 cd1 ct1 : Value} {od1 an1 : Option Addr} {sl1 : Array (Option Value)}
    (a1 : PySem.W.nsIn K mainGlobals "check_number" = some (some (.ref f1))) (l1 : K.lookup f1 = some ⟨oc1, od1, .func (PySem.W.fnOf "check_number" "check_number" (defArgs s_check_number) (defBody s_check_number) (defScope s_check_number) .none kV1 dc1 pm1 an1 cd1 ct1), sl1⟩)
    (c1 : PySem.W.codeIn K cd1 "check_number" = true) (k1 : PySem.W.keepIn K (.ref f1) = true)
    {f2 : Addr} {oc2 kV2 dc2 pm2 cd2 ct2 : Value} {od2 an2 : Option Addr} {sl2 : Array (Option Value)}
    (a2 : PySem.W.nsIn K mainGlobals "check_day" = some (some (.ref f2))) (l2 : K.lookup f2 = some ⟨oc2, od2, .func (PySem.W.fnOf "check_day" "check_day" (defArgs s_check_day) (defBody s_check_day) (defScope s_check_day) .none kV2 dc2 pm2 an2 cd2 ct2), sl2⟩)
    (c2 : PySem.W.codeIn K cd2 "check_day" = true) (k2 : PySem.W.keepIn K (.ref f2) = true)
    {f3 : Addr} {oc3 kV3 dc3 pm3 cd3 ct3 : Value} {od3 an3 : Option Addr} {sl3 : Array (Option Value)}
    (a3 : PySem.W.nsIn K mainGlobals "check_limit" = some (some (.ref f3))) (l3 : K.lookup f3 = some ⟨oc3, od3, .func (PySem.W.fnOf "check_limit" "check_limit" (defArgs s_check_limit) (defBody s_check_limit) (defScope s_check_limit) .none kV3 dc3 pm3 an3 cd3 ct3), sl3⟩)
    (c3 : PySem.W.codeIn K cd3 "check_limit" = true) (k3 : PySem.W.keepIn K (.ref f3) = true)
    {f4 : Addr} {oc4 kV4 dc4 pm4 cd4 ct4 : Value} {od4 an4 : Option Addr} {sl4 : Array (Option Value)}
    (a4 : PySem.W.nsIn K mainGlobals "triangle" = some (some (.ref f4))) (l4 : K.lookup f4 = some ⟨oc4, od4, .func (PySem.W.fnOf "triangle" "triangle" (defArgs s_triangle) (defBody s_triangle) (defScope s_triangle) .none kV4 dc4 pm4 an4 cd4 ct4), sl4⟩)
    (c4 : PySem.W.codeIn K cd4 "triangle" = true) (k4 : PySem.W.keepIn K (.ref f4) = true)
    {f5 : Addr} {oc5 kV5 dc5 pm5 cd5 ct5 : Value} {od5 an5 : Option Addr} {sl5 : Array (Option Value)}
    (a5 : PySem.W.nsIn K mainGlobals "ways_in_groups" = some (some (.ref f5))) (l5 : K.lookup f5 = some ⟨oc5, od5, .func (PySem.W.fnOf "ways_in_groups" "ways_in_groups" (defArgs s_ways_in_groups) (defBody s_ways_in_groups) (defScope s_ways_in_groups) .none kV5 dc5 pm5 an5 cd5 ct5), sl5⟩)
    (c5 : PySem.W.codeIn K cd5 "ways_in_groups" = true) (k5 : PySem.W.keepIn K (.ref f5) = true)
    {f6 : Addr} {oc6 kV6 dc6 pm6 cd6 ct6 : Value} {od6 an6 : Option Addr} {sl6 : Array (Option Value)}
    (a6 : PySem.W.nsIn K mainGlobals "count_histories" = some (some (.ref f6))) (l6 : K.lookup f6 = some ⟨oc6, od6, .func (PySem.W.fnOf "count_histories" "count_histories" (defArgs s_count_histories) (defBody s_count_histories) (defScope s_count_histories) .none kV6 dc6 pm6 an6 cd6 ct6), sl6⟩)
    (c6 : PySem.W.codeIn K cd6 "count_histories" = true) (k6 : PySem.W.keepIn K (.ref f6) = true)
    {f7 : Addr} {oc7 kV7 dc7 pm7 cd7 ct7 : Value} {od7 an7 : Option Addr} {sl7 : Array (Option Value)}
    (a7 : PySem.W.nsIn K mainGlobals "_law_cell" = some (some (.ref f7))) (l7 : K.lookup f7 = some ⟨oc7, od7, .func (PySem.W.fnOf "_law_cell" "_law_cell" (defArgs s__law_cell) (defBody s__law_cell) (defScope s__law_cell) .none kV7 dc7 pm7 an7 cd7 ct7), sl7⟩)
    (c7 : PySem.W.codeIn K cd7 "_law_cell" = true) (k7 : PySem.W.keepIn K (.ref f7) = true)
    {f8 : Addr} {oc8 kV8 dc8 pm8 cd8 ct8 : Value} {od8 an8 : Option Addr} {sl8 : Array (Option Value)}
    (a8 : PySem.W.nsIn K mainGlobals "_law_source" = some (some (.ref f8))) (l8 : K.lookup f8 = some ⟨oc8, od8, .func (PySem.W.fnOf "_law_source" "_law_source" (defArgs s__law_source) (defBody s__law_source) (defScope s__law_source) .none kV8 dc8 pm8 an8 cd8 ct8), sl8⟩)
    (c8 : PySem.W.codeIn K cd8 "_law_source" = true) (k8 : PySem.W.keepIn K (.ref f8) = true)
    {f9 : Addr} {oc9 kV9 dc9 pm9 cd9 ct9 : Value} {od9 an9 : Option Addr} {sl9 : Array (Option Value)}
    (a9 : PySem.W.nsIn K mainGlobals "_law_draw" = some (some (.ref f9))) (l9 : K.lookup f9 = some ⟨oc9, od9, .func (PySem.W.fnOf "_law_draw" "_law_draw" (defArgs s__law_draw) (defBody s__law_draw) (defScope s__law_draw) .none kV9 dc9 pm9 an9 cd9 ct9), sl9⟩)
    (c9 : PySem.W.codeIn K cd9 "_law_draw" = true) (k9 : PySem.W.keepIn K (.ref f9) = true)
    {f10 : Addr} {oc10 kV10 dc10 pm10 cd10 ct10 : Value} {od10 an10 : Option Addr} {sl10 : Array (Option Value)}
    (a10 : PySem.W.nsIn K mainGlobals "_law_partings" = some (some (.ref f10))) (l10 : K.lookup f10 = some ⟨oc10, od10, .func (PySem.W.fnOf "_law_partings" "_law_partings" (defArgs s__law_partings) (defBody s__law_partings) (defScope s__law_partings) .none kV10 dc10 pm10 an10 cd10 ct10), sl10⟩)
    (c10 : PySem.W.codeIn K cd10 "_law_partings" = true) (k10 : PySem.W.keepIn K (.ref f10) = true)
    {f11 : Addr} {oc11 kV11 dc11 pm11 cd11 ct11 : Value} {od11 an11 : Option Addr} {sl11 : Array (Option Value)}
    (a11 : PySem.W.nsIn K mainGlobals "_law_due" = some (some (.ref f11))) (l11 : K.lookup f11 = some ⟨oc11, od11, .func (PySem.W.fnOf "_law_due" "_law_due" (defArgs s__law_due) (defBody s__law_due) (defScope s__law_due) .none kV11 dc11 pm11 an11 cd11 ct11), sl11⟩)
    (c11 : PySem.W.codeIn K cd11 "_law_due" = true) (k11 : PySem.W.keepIn K (.ref f11) = true)
    {f12 : Addr} {oc12 kV12 dc12 pm12 cd12 ct12 : Value} {od12 an12 : Option Addr} {sl12 : Array (Option Value)}
    (a12 : PySem.W.nsIn K mainGlobals "law" = some (some (.ref f12))) (l12 : K.lookup f12 = some ⟨oc12, od12, .func (PySem.W.fnOf "law" "law" (defArgs s_law) (defBody s_law) (defScope s_law) .none kV12 dc12 pm12 an12 cd12 ct12), sl12⟩)
    (c12 : PySem.W.codeIn K cd12 "law" = true) (k12 : PySem.W.keepIn K (.ref f12) = true)
    (z0 : PySem.W.nsIn K mainGlobals "abs" = some none)
    (z1 : PySem.W.nsIn K mainGlobals "bool" = some none)
    (z2 : PySem.W.nsIn K mainGlobals "int" = some none)
    (z3 : PySem.W.nsIn K mainGlobals "isinstance" = some none)
    (z4 : PySem.W.nsIn K mainGlobals "len" = some none)
    (z5 : PySem.W.nsIn K mainGlobals "max" = some none)
    (z6 : PySem.W.nsIn K mainGlobals "min" = some none)
    (z7 : PySem.W.nsIn K mainGlobals "range" = some none)
    (z8 : PySem.W.nsIn K mainGlobals "repr" = some none)
    (z9 : PySem.W.nsIn K mainGlobals "sum" = some none)
    (z10 : PySem.W.nsIn K mainGlobals "zip" = some none)
    {u0 : Tok} (y0 : PySem.W.nsIn K mainGlobals "LAST_DAY" = some (some (.int 60 u0)))
    {u1 : Tok} (y1 : PySem.W.nsIn K mainGlobals "MOST_ITEMS" = some (some (.int 40 u1)))
    : ∃ T : Txt K mg, mg "law" = some (.ref T.a_law) ∧ ∀ (s : Shared) (u : Value), BindsTo s T.fd_law ⟨[u], []⟩ [("script", u)] := by
  exact ⟨⟨f0,
    _,
    fun_mk (st := s_is_integer) l0 c0 k0,
    ⟨PySem.W.mg_of X G a0, k0, fun s us hl => match us, hl with | [_, _, _], _ => .of_eq rfl⟩,
    f1,
    _,
    fun_mk (st := s_check_number) l1 c1 k1,
    ⟨PySem.W.mg_of X G a1, k1, fun s us hl => match us, hl with | [_], _ => .of_eq rfl⟩,
    f2,
    _,
    fun_mk (st := s_check_day) l2 c2 k2,
    ⟨PySem.W.mg_of X G a2, k2, fun s us hl => match us, hl with | [_], _ => .of_eq rfl⟩,
    f3,
    _,
    fun_mk (st := s_check_limit) l3 c3 k3,
    ⟨PySem.W.mg_of X G a3, k3, fun s us hl => match us, hl with | [_, _], _ => .of_eq rfl⟩,
    f4,
    _,
    fun_mk (st := s_triangle) l4 c4 k4,
    ⟨PySem.W.mg_of X G a4, k4, fun s us hl => match us, hl with | [_], _ => .of_eq rfl⟩,
    f5,
    _,
    fun_mk (st := s_ways_in_groups) l5 c5 k5,
    ⟨PySem.W.mg_of X G a5, k5, fun s us hl => match us, hl with | [_, _], _ => .of_eq rfl⟩,
    f6,
    _,
    fun_mk (st := s_count_histories) l6 c6 k6,
    ⟨PySem.W.mg_of X G a6, k6, fun s us hl => match us, hl with | [_, _], _ => .of_eq rfl⟩,
    f7,
    _,
    fun_mk (st := s__law_cell) l7 c7 k7,
    ⟨PySem.W.mg_of X G a7, k7, fun s us hl => match us, hl with | [_, _], _ => .of_eq rfl⟩,
    f8,
    _,
    fun_mk (st := s__law_source) l8 c8 k8,
    ⟨PySem.W.mg_of X G a8, k8, fun s us hl => match us, hl with | [_], _ => .of_eq rfl⟩,
    f9,
    _,
    fun_mk (st := s__law_draw) l9 c9 k9,
    ⟨PySem.W.mg_of X G a9, k9, fun s us hl => match us, hl with | [_, _], _ => .of_eq rfl⟩,
    f10,
    _,
    fun_mk (st := s__law_partings) l10 c10 k10,
    ⟨PySem.W.mg_of X G a10, k10, fun s us hl => match us, hl with | [_], _ => .of_eq rfl⟩,
    f11,
    _,
    fun_mk (st := s__law_due) l11 c11 k11,
    ⟨PySem.W.mg_of X G a11, k11, fun s us hl => match us, hl with | [_, _, _], _ => .of_eq rfl⟩,
    f12,
    _,
    fun_mk (st := s_law) l12 c12 k12,
    ⟨PySem.W.mg_of X G a12, k12, fun s us hl => match us, hl with | [_], _ => .of_eq rfl⟩,
    fun s us ws h1 h2 => match us, ws, h1, h2 with | [], [_, _], _, _ => .of_eq rfl,
    PySem.W.mg_none_of X G z0,
    PySem.W.mg_none_of X G z1,
    PySem.W.mg_none_of X G z2,
    PySem.W.mg_none_of X G z3,
    PySem.W.mg_none_of X G z4,
    PySem.W.mg_none_of X G z5,
    PySem.W.mg_none_of X G z6,
    PySem.W.mg_none_of X G z7,
    PySem.W.mg_none_of X G z8,
    PySem.W.mg_none_of X G z9,
    PySem.W.mg_none_of X G z10,
    u0,
    PySem.W.mg_of X G y0,
    u1,
    PySem.W.mg_of X G y1⟩, PySem.W.mg_of X G a12, fun s v => .of_eq rfl⟩
end My

namespace My
open PySem PySem.Spec L2 DL
theorem e_is_integer {n lo : Int} : m_is_integer [.fz (.int n), .fz (.int lo), .fz .none] = .ok (.fz (.bool (decide (lo ≤ n)))) [.fz (.int n), .fz (.int lo), .fz .none] := by
  by_cases h : lo ≤ n <;> simp [m_is_integer, b_is_integer, fnP, fnM, ownIn_1, ownIn_2, ownIn_3, ownIn_4, backS, sSeq, sSet, sSetO, sRet, sRetO, sRetV, sIf, sDrop, sNext, sPar, M.bind, M.ret, M.opt, M.fail, eBin, eUn, eCall, eCons, eNil, eC, eVar, eTup, oLst, ofO, ofR, ownR, aFz, aRf, aSlot, asB, eAnd, eOr, bAnd, bOr, bNot, eNot, eIf, eIxP, eLenP, eCmpP, eInP, onSlot, slotL, setL, sApp, sSetIx, ePop, ePop0, eIsi, isi_int, isi_bool, mPick, pick, eApp, eCallF, iOpt, iSeq, gAdd, DL.gSub, gMul, gFdiv, gMod, gNeg, gLt, gLe, gGt, gGe, gIs, isNon, intOp, intCmp, gLen, gIx, gAbs, List.length_cons, List.length_nil, List.replicate, List.cons_append, List.nil_append, List.getElem?_cons_zero, List.getElem?_cons_succ, List.set_cons_zero, List.set_cons_succ, Nat.reduceAdd, Nat.reduceSub, Nat.reduceLT, Nat.reduceLeDiff, Nat.lt_irrefl, if_true, if_false, ite_true, ite_false, reduceIte, Bool.not_true, Bool.not_false, Bool.true_or, Bool.false_or, Bool.or_false, Bool.or_true, Bool.and_true, Bool.true_and, Bool.and_false, Bool.false_and, Bool.false_eq_true, Option.map_some, Option.map_none, h]
theorem e_check_number {n : Int} (h : 1 ≤ n) : m_check_number [.fz (.int n)] = .ok (.fz .none) [.fz (.int n)] := by
  simp [m_check_number, b_check_number, fnP, fnM, ownIn_1, ownIn_2, ownIn_3, ownIn_4, backS, sSeq, sSet, sSetO, sRet, sRetO, sRetV, sIf, sDrop, sNext, sPar, M.bind, M.ret, M.opt, M.fail, eBin, eUn, eCall, eCons, eNil, eC, eVar, eTup, oLst, ofO, ofR, ownR, aFz, aRf, aSlot, asB, eAnd, eOr, bAnd, bOr, bNot, eNot, eIf, eIxP, eLenP, eCmpP, eInP, onSlot, slotL, setL, sApp, sSetIx, ePop, ePop0, eIsi, isi_int, isi_bool, mPick, pick, eApp, eCallF, iOpt, iSeq, gAdd, DL.gSub, gMul, gFdiv, gMod, gNeg, gLt, gLe, gGt, gGe, gIs, isNon, intOp, intCmp, gLen, gIx, gAbs, List.length_cons, List.length_nil, List.replicate, List.cons_append, List.nil_append, List.getElem?_cons_zero, List.getElem?_cons_succ, List.set_cons_zero, List.set_cons_succ, Nat.reduceAdd, Nat.reduceSub, Nat.reduceLT, Nat.reduceLeDiff, Nat.lt_irrefl, if_true, if_false, ite_true, ite_false, reduceIte, Bool.not_true, Bool.not_false, Bool.true_or, Bool.false_or, Bool.or_false, Bool.or_true, Bool.and_true, Bool.true_and, Bool.and_false, Bool.false_and, Bool.false_eq_true, Option.map_some, Option.map_none, callF_fz3 e_is_integer, h]
theorem e_check_day {n : Int} (h : 0 ≤ n) : m_check_day [.fz (.int n)] = .ok (.fz .none) [.fz (.int n)] := by
  simp [m_check_day, b_check_day, fnP, fnM, ownIn_1, ownIn_2, ownIn_3, ownIn_4, backS, sSeq, sSet, sSetO, sRet, sRetO, sRetV, sIf, sDrop, sNext, sPar, M.bind, M.ret, M.opt, M.fail, eBin, eUn, eCall, eCons, eNil, eC, eVar, eTup, oLst, ofO, ofR, ownR, aFz, aRf, aSlot, asB, eAnd, eOr, bAnd, bOr, bNot, eNot, eIf, eIxP, eLenP, eCmpP, eInP, onSlot, slotL, setL, sApp, sSetIx, ePop, ePop0, eIsi, isi_int, isi_bool, mPick, pick, eApp, eCallF, iOpt, iSeq, gAdd, DL.gSub, gMul, gFdiv, gMod, gNeg, gLt, gLe, gGt, gGe, gIs, isNon, intOp, intCmp, gLen, gIx, gAbs, List.length_cons, List.length_nil, List.replicate, List.cons_append, List.nil_append, List.getElem?_cons_zero, List.getElem?_cons_succ, List.set_cons_zero, List.set_cons_succ, Nat.reduceAdd, Nat.reduceSub, Nat.reduceLT, Nat.reduceLeDiff, Nat.lt_irrefl, if_true, if_false, ite_true, ite_false, reduceIte, Bool.not_true, Bool.not_false, Bool.true_or, Bool.false_or, Bool.or_false, Bool.or_true, Bool.and_true, Bool.true_and, Bool.and_false, Bool.false_and, Bool.false_eq_true, Option.map_some, Option.map_none, callF_fz3 e_is_integer, h]
theorem e_check_limit {n m : Int} (h : n ≤ m) : m_check_limit [.fz (.int n), .fz (.int m)] = .ok (.fz .none) [.fz (.int n), .fz (.int m)] := by
  simp [m_check_limit, b_check_limit, fnP, fnM, ownIn_1, ownIn_2, ownIn_3, ownIn_4, backS, sSeq, sSet, sSetO, sRet, sRetO, sRetV, sIf, sDrop, sNext, sPar, M.bind, M.ret, M.opt, M.fail, eBin, eUn, eCall, eCons, eNil, eC, eVar, eTup, oLst, ofO, ofR, ownR, aFz, aRf, aSlot, asB, eAnd, eOr, bAnd, bOr, bNot, eNot, eIf, eIxP, eLenP, eCmpP, eInP, onSlot, slotL, setL, sApp, sSetIx, ePop, ePop0, eIsi, isi_int, isi_bool, mPick, pick, eApp, eCallF, iOpt, iSeq, gAdd, DL.gSub, gMul, gFdiv, gMod, gNeg, gLt, gLe, gGt, gGe, gIs, isNon, intOp, intCmp, gLen, gIx, gAbs, List.length_cons, List.length_nil, List.replicate, List.cons_append, List.nil_append, List.getElem?_cons_zero, List.getElem?_cons_succ, List.set_cons_zero, List.set_cons_succ, Nat.reduceAdd, Nat.reduceSub, Nat.reduceLT, Nat.reduceLeDiff, Nat.lt_irrefl, if_true, if_false, ite_true, ite_false, reduceIte, Bool.not_true, Bool.not_false, Bool.true_or, Bool.false_or, Bool.or_false, Bool.or_true, Bool.and_true, Bool.true_and, Bool.and_false, Bool.false_and, Bool.false_eq_true, Option.map_some, Option.map_none, show ¬ m < n by omega]
theorem triR_len : ∀ n, (triR n).length = n + 1
  | 0 => rfl
  | n + 1 => by simp [triR, nextR, triR_len n]
def triD (n : Nat) : List D := (List.range n).map fun k => lD (triR k)
theorem triD_succ (n : Nat) : triD (n + 1) = triD n ++ [lD (triR n)] := by simp [triD, List.range_succ]
theorem zip_sum (xs ys : List Int) : ((xs.zip ys).map fun p => PyData.int (p.1 + p.2)) = (List.zipWith (· + ·) xs ys).map .int := by
  rw [List.zip, List.map_zipWith, List.map_zipWith]
theorem e_triangle {n : Nat} (hn : n ≤ 1000) : m_triangle [.fz (.int n)] = .ok (.own (.lst (triD (n + 1)))) [.fz (.int n)] := by
  unfold m_triangle b_triangle
  obtain ⟨ρ', e, s2, h⟩ := sFor_inv (mi := iOpt rng1 (eCons (eVar 0) eNil)) (g := .nm 2) (ρ := [.fz (.int n), .own (.lst (triD 1)), .un, .un, .un])
    (b := (sApp 1 (ofO (oComp [3, 4] (iOpt zipD (eCons (eBin gAdd (ofO (oLst (eCons (eC (.int 0)) eNil))) (eIxP 1 (eUn gNeg (eC (.int 1))))) (eCons (eBin gAdd (eIxP 1 (eUn gNeg (eC (.int 1)))) (ofO (oLst (eCons (eC (.int 0)) eNil)))) eNil))) (.tp [(.nm 3), (.nm 4)]) tYesM (eBin gAdd (eVar 3) (eVar 4))))))
    (fun k ρ => ∃ s2, ρ = [.fz (.int n), .own (.lst (triD (k + 1))), s2, .un, .un])
    (iOpt_ok (eCons_ok (eVar_ok rfl) rfl) (rng1_ok rfl (by omega))) ⟨_, rfl⟩ fun k d ρ hk ⟨s2, h⟩ => by
      subst h
      obtain ⟨hk, rfl⟩ := range_at hk
      have hl : gIx (.list (triD (k + 1))) (.int (-1)) = some (lD (triR k)) := by rw [triD_succ]; exact gIx_last rfl
      have g1 : gAdd (.list [.int 0]) (lD (triR k)) = some (lD (0 :: triR k)) := by
        show (if _ then _ else _) = _
        rw [if_pos (by simp [triR_len]; omega)]; rfl
      have g2 : gAdd (lD (triR k)) (.list [.int 0]) = some (lD (triR k ++ [0])) := by
        show (if _ then _ else _) = _
        rw [if_pos (by simp [triR_len]; omega)]; simp
      refine' ⟨_, _, set_nm (by simp), .inl (sApp_ok (ds := triD (k + 1)) rfl (ofO_ok (oComp_all (φ := fun p : Int × Int => PyData.tuple [.int p.1, .int p.2]) (fun p : Int × Int => .int (p.1 + p.2)) (iOpt_ok (eCons_ok (eBin_ok (ofO_ok (oLst_ok (eCons_ok rfl rfl) (by decide))) (eIxP_own rfl (eUn_ok rfl rfl) rfl hl) g1) (eCons_ok (eBin_ok (eIxP_own rfl (eUn_ok rfl rfl) rfl hl) (ofO_ok (oLst_ok (eCons_ok rfl rfl) (by decide))) g2) rfl)) (congrArg some (zip_map _ _))) rfl ?w rfl)) rfl (by simp [triD]; omega)), .fz (.int (k : Nat)), ?_⟩
      case w => exact fun d _ => ⟨_, _, set_tp2 (by simp [wipeR]) (by simp [wipeR]), eBin_ok (eVar_ok rfl) (eVar_ok rfl) rfl, rfl⟩
      rw [triD_succ (k + 1), zip_sum]; rfl
  subst h
  simp only [List.length_map, List.length_range] at e
  exact fnP_ok rfl rfl (sSeq_ok (sSetO_ok (oLst_ok (eCons_ok (ofO_ok (oLst_ok (eCons_ok rfl rfl) (by decide))) rfl) (by decide)) (by simp)) (sSeq_ok e (sRetV_ok rfl))) (by simp [backS])
theorem getD_some {l : List Int} {n : Nat} (h : n < l.length) : l[n]? = some (l.getD n 0) := by simp [List.getD, h]
theorem chkE_spec : ∀ (rest acc : List Int) (i k : Nat) (W : List Int), chkE (triR i) W acc rest k = true → ∀ n x, rest[n]? = some x → x = (mul2 (mul2 (triR (i + n)) W) ((rest.take n).reverse ++ acc)).sum
  | [], _, _, _, _, _, n, x, h => by simp at h
  | y :: rest, acc, i, 0, W, h, n, x, e => by simp [chkE] at h
  | y :: rest, acc, i, k + 1, W, h, n, x, e => by
    have h' : (decide (y = (mul2 (mul2 (triR i) W) acc).sum) && chkE (triR (i + 1)) W (y :: acc) rest k) = true := h
    simp only [Bool.and_eq_true, decide_eq_true_eq] at h'
    cases n with
    | zero =>
      simp at e
      subst e
      simpa using h'.1
    | succ n =>
      have := chkE_spec rest (y :: acc) (i + 1) k W h'.2 n x (by simpa using e)
      rw [this, show i + 1 + n = i + (n + 1) by omega]
      simp
structure Stp1 (W F : List Int) : Prop where
  z : F[0]? = some 1
  s : ∀ n x, F[n + 1]? = some x → x = (mul2 (mul2 (triR n) W.tail) (F.take (n + 1)).reverse).sum
theorem chkT_at : ∀ (l : List (List Int)), chkT l = true → ∀ b W F, l[b]? = some W → l[b + 1]? = some F → Stp1 W F
  | [], _, b, W, F, h, _ => by simp at h
  | [_], _, b, W, F, _, h => by simp at h
  | A :: B :: r, h, b, W, F, h1, h2 => by
    cases b with
    | succ b =>
      refine chkT_at (B :: r) ?_ b W F (by simpa using h1) (by simpa using h2)
      unfold chkT at h
      simp only [Bool.and_eq_true] at h
      exact h.2
    | zero =>
      simp at h1 h2
      subst h1 h2
      unfold chkT at h
      simp only [Bool.and_eq_true] at h
      cases B with
      | nil => exact absurd h.1 (by simp)
      | cons x F' =>
        have h1 := h.1
        simp only [Bool.and_eq_true, decide_eq_true_eq] at h1
        obtain ⟨rfl, h1⟩ := h1
        refine ⟨rfl, fun n y e => ?_⟩
        have := chkE_spec F' [1] 0 40 A.tail h1 n y (by simpa using e)
        rw [this]
        simp
def T (b : Nat) : List Int := TT.getD b []
theorem T_at {b : Nat} (h : b < 62) : TT[b]? = some (T b) := by
  have := TT_len.1
  simp [T, List.getD, this, h]
theorem T_step {b : Nat} (h : b < 61) : Stp1 (T b) (T (b + 1)) := chkT_at TT TT_e b _ _ (T_at (by omega)) (T_at (by omega))
theorem T_ok {b : Nat} (h : b < 62) : (T b).length = 41 ∧ ∀ x ∈ T b, 0 ≤ x ∧ x < 10 ^ 200 := by
  have := List.all_eq_true.mp TT_len.2 (T b) (List.mem_of_getElem? (T_at h))
  simp only [Bool.and_eq_true, decide_eq_true_eq, List.all_eq_true] at this
  exact this
theorem T_bd {b n : Nat} (h : b < 62) : 0 ≤ (T b).getD n 0 ∧ (T b).getD n 0 < 10 ^ 200 := by
  by_cases z : n < (T b).length
  · exact (T_ok h).2 _ (List.mem_of_getElem? (getD_some z))
  · simp [List.getD, List.getElem?_eq_none (Nat.le_of_not_lt z)]
theorem tri_bd' {n j : Nat} (h : n < 41) : ((triR n).getD j 0).natAbs < 2 ^ 64 := by
  by_cases z : j < (triR n).length
  · have := List.all_eq_true.mp tri_bd n (by simpa using h)
    have := List.all_eq_true.mp this _ (List.mem_of_getElem? (getD_some z))
    simpa using this
  · simp [List.getD, List.getElem?_eq_none (Nat.le_of_not_lt z)]
theorem mul2_range {a b c : List Int} {n : Nat} (ha : a.length = n) (hb : n ≤ b.length) (hc : c.length = n) : mul2 (mul2 a b) c = (List.range n).map fun j => a.getD j 0 * b.getD j 0 * c.getD j 0 := by
  refine List.ext_getElem (by simp [mul2]; omega) fun i h1 h2 => ?_
  simp at h2
  simp [mul2, List.getD, show i < a.length by omega, show i < b.length by omega, show i < c.length by omega]
theorem two665 : (10 : Int) ^ 200 < 2 ^ 665 := by decide
theorem natAbs_lt {x : Int} (h0 : 0 ≤ x) (h : x < 10 ^ 200) : x.natAbs < 2 ^ 665 := by
  have := two665
  have e : ((2 ^ 665 : Nat) : Int) = 2 ^ 665 := by norm_cast
  omega
theorem gMulS {i j : Int} (h : i.natAbs < 2 ^ 64) : gMul (.int i) (.int j) = some (.int (i * j)) := by
  show (if okMul i j then _ else _) = _
  rw [if_pos (by simp [okMul, h])]
abbrev Row (W : List Int) : Prop := W.length = 41 ∧ ∀ x ∈ W, 0 ≤ x ∧ x < 10 ^ 200
theorem bd_at {W : List Int} (h : Row W) {n : Nat} : 0 ≤ W.getD n 0 ∧ W.getD n 0 < 10 ^ 200 := by
  by_cases z : n < W.length
  · exact h.2 _ (List.mem_of_getElem? (getD_some z))
  · simp [List.getD, List.getElem?_eq_none (Nat.le_of_not_lt z)]
theorem e_wig {W F : List Int} {m c : Nat} (st : Stp1 W F) (hW : Row W) (hF : Row F) (hm : m ≤ 40) (hc : m ≤ c) : m_ways_in_groups [.fz (lD (W.take (m + 1))), .fz (.list (triD (c + 1)))] = .ok (.own (.lst ((F.take (m + 1)).map .int))) [.fz (lD (W.take (m + 1))), .fz (.list (triD (c + 1)))] := by
  have lW := hW.1
  have lF := hF.1
  unfold m_ways_in_groups b_ways_in_groups
  generalize hA : lD (W.take (m + 1)) = A
  have A_at : ∀ j, j ≤ m → gIx A (.int (j : Int)) = some (.int (W.getD j 0)) := fun j hj => by
    subst hA
    exact gIx_at rfl (map_at (by rw [List.getElem?_take]; rw [if_pos (by omega)]; exact getD_some (by omega)))
  have A_len : gLen [A] = some (.int ((m + 1 : Nat) : Int)) := by
    subst hA
    show some _ = _
    simp [lW]
    omega
  obtain ⟨ρ', e, s3, s4, h⟩ := sFor_inv (mi := iOpt rng2 (eCons (eC (.int 1)) (eCons (eCall gLen (eCons (eVar 0) eNil)) eNil))) (g := .nm 3) (ρ := [.fz A, .fz (.list (triD (c + 1))), .own (.lst ((F.take 1).map .int)), .un, .un, .un])
    (b := (sSeq (sSet 4 (ofO (oComp [5] (iOpt rng2 (eCons (eC (.int 1)) (eCons (eBin gAdd (eVar 3) (eC (.int 1))) eNil))) (.nm 5) tYesM (eBin gMul (eBin gMul (eBin gIx (eBin gIx (eVar 1) (eBin DL.gSub (eVar 3) (eC (.int 1)))) (eBin DL.gSub (eVar 5) (eC (.int 1)))) (eBin gIx (eVar 0) (eVar 5))) (eIxP 2 (eBin DL.gSub (eVar 3) (eVar 5)))))))
    (sApp 2 (eCall gSum (eCons (eVar 4) eNil)))))
    (fun k ρ => ∃ s3 s4, ρ = [.fz A, .fz (.list (triD (c + 1))), .own (.lst ((F.take (k + 1)).map .int)), s3, s4, .un])
    (iOpt_ok (eCons_ok rfl (eCons_ok (eCall_ok (eCons_ok (eVar_ok rfl) rfl) A_len) rfl)) (rng2_ok (n := m) (a := 1) rfl (by omega) (by omega))) ⟨_, _, rfl⟩ fun k d ρ hk ⟨s3, s4, h⟩ => by
      subst h
      obtain ⟨hk, rfl⟩ := range_at hk
      let f : Nat → Int := fun j => (triR k).getD j 0 * W.getD (1 + j) 0 * F.getD (k - j) 0
      have hcomp : oComp [5] (iOpt rng2 (eCons (eC (.int 1)) (eCons (eBin gAdd (eVar 3) (eC (.int 1))) eNil))) (.nm 5) tYesM (eBin gMul (eBin gMul (eBin gIx (eBin gIx (eVar 1) (eBin DL.gSub (eVar 3) (eC (.int 1)))) (eBin DL.gSub (eVar 5) (eC (.int 1)))) (eBin gIx (eVar 0) (eVar 5))) (eIxP 2 (eBin DL.gSub (eVar 3) (eVar 5))))
          [.fz A, .fz (.list (triD (c + 1))), .own (.lst ((F.take (k + 1)).map .int)), .fz (.int ((1 + k : Nat) : Int)), s4, .un] = .ok (.lst ((List.range (k + 1)).map fun j => PyData.int (f j))) [.fz A, .fz (.list (triD (c + 1))), .own (.lst ((F.take (k + 1)).map .int)), .fz (.int ((1 + k : Nat) : Int)), s4, .un] := by
        refine oComp_all (φ := fun j : Nat => PyData.int ((1 + j : Nat) : Int)) (fun j => .int (f j)) (iOpt_ok (eCons_ok rfl (eCons_ok (eBin_ok (eVar_ok rfl) rfl rfl) rfl)) (rng2_ok (n := k + 1) (a := 1) rfl (by omega) (by omega))) rfl ?_ rfl
        intro j hj
        have hj : j < k + 1 := by simpa using hj
        refine' ⟨[.fz A, .fz (.list (triD (c + 1))), .own (.lst ((F.take (k + 1)).map .int)), .fz (.int ((1 + k : Nat) : Int)), s4, .fz (.int ((1 + j : Nat) : Int))], _, set_nm (by simp [wipeR]), eBin_ok (eBin_ok (eBin_ok (eBin_ok (eVar_ok rfl) (eBin_ok (eVar_ok rfl) rfl rfl) (gIx_at (n := k) (d := lD (triR k)) ?i1 ?_)) (eBin_ok (eVar_ok rfl) rfl rfl) (gIx_at (n := j) (d := .int ((triR k).getD j 0)) ?i2 (map_at (getD_some (by rw [triR_len]; omega))))) (eBin_ok (eVar_ok rfl) (eVar_ok rfl) (A_at (1 + j) (by omega))) (gMulS (tri_bd' (by omega)))) (eIxP_own rfl (eBin_ok (eVar_ok rfl) (eVar_ok rfl) rfl) rfl (gIx_at (n := k - j) (d := .int (F.getD (k - j) 0)) ?i3 (map_at ?_))) (gMul_ok (a := 729) (b := 665) ?_ (natAbs_lt (bd_at hF).1 (bd_at hF).2) (by omega)), rfl⟩
        case i1 => (dsimp only; omega)
        case i2 => (dsimp only; omega)
        case i3 => (dsimp only; omega)
        · unfold triD; rw [List.getElem?_map, List.getElem?_range (by omega)]; rfl
        · rw [List.getElem?_take, if_pos (by omega)]; exact getD_some (by omega)
        · rw [Int.natAbs_mul, show (729 : Nat) = 64 + 665 from rfl, Nat.pow_add]
          exact Nat.mul_lt_mul'' (tri_bd' (by omega)) (natAbs_lt (bd_at hW).1 (bd_at hW).2)
      have hs : ((List.range (k + 1)).map f).sum = F.getD (k + 1) 0 := by
        have z := st.s k _ (getD_some (l := F) (n := k + 1) (by omega))
        refine Eq.trans ?_ z.symm
        rw [mul2_range (n := k + 1) (triR_len k) (by simp; omega) (by simp; omega)]
        refine congrArg List.sum ?_
        refine List.map_congr_left fun j hj => ?_
        have hj : j < k + 1 := by simpa using hj
        have e1 : W.tail.getD j 0 = W.getD (1 + j) 0 := by simp [List.getD, Nat.add_comm]
        have e2 : (F.take (k + 1)).reverse.getD j 0 = F.getD (k - j) 0 := by
          simp only [List.getD]
          rw [List.getElem?_reverse (by simp; omega), List.getElem?_take]
          simp only [List.length_take]
          rw [show min (k + 1) F.length - 1 - j = k - j by omega, if_pos (by omega)]
        rw [e1, e2]
      refine ⟨_, _, set_nm (by simp), .inl (sSeq_ok (sSet_ok (ofO_ok hcomp) (by simp)) (sApp_ok rfl (eCall_ok (eCons_ok (eVar_ok rfl) rfl) (z := .int (F.getD (k + 1) 0)) ?_) rfl (by simp; omega))), .fz (.int ((1 + k : Nat) : Int)), .fz (.list ((List.range (k + 1)).map fun j => PyData.int (f j))), ?_⟩
      · rw [show ((List.range (k + 1)).map fun j => PyData.int (f j)) = ((List.range (k + 1)).map f).map .int by simp, ← hs]
        exact gSum_ints
      · have : F.take (k + 1 + 1) = F.take (k + 1) ++ [F.getD (k + 1) 0] := by
          rw [List.take_succ, getD_some (by omega)]; rfl
        rw [this, List.map_append]; rfl
  subst h
  simp only [List.length_map, List.length_range] at e
  refine fnP_ok rfl rfl (sSeq_ok (sSetO_ok (oLst_ok (eCons_ok rfl rfl) (by decide)) (by simp)) (sSeq_ok (ρ1 := _) (Eq.trans (congrArg _ ?_) e) (sRetV_ok rfl))) rfl
  have : F.take 1 = [1] := by
    cases hT : F with
    | nil => rw [hT] at lF; cases lF
    | cons x r =>
      have := st.z
      rw [hT] at this
      simp at this
      subst this
      rfl
  rw [this]; rfl
theorem ways0 : ∀ n, n < 41 → 1 ≤ n → [0, 1] ++ List.replicate (n - 1) 0 = (T 0).take (n + 1) := by decide +kernel
theorem ways1 : ∀ n, n < 41 → List.replicate (n + 1) 1 = (T 1).take (n + 1) := by decide +kernel
theorem gLt_ok {i j : Int} : DL.gLt (.int i) (.int j) = some (.bool (decide (i < j))) := rfl
theorem rep1 {x : Int} {k : Int} {n : Nat} (hk : k = n) (h : n ≤ 1000) : gMul (.list [.int x]) (.int k) = some (lD (List.replicate n x)) := by
  subst hk
  simp only [gMul]
  rw [if_pos ⟨by omega, by omega, by simp; omega⟩]
  congr 2
  rw [Int.toNat_natCast]
  clear h
  induction n with
  | zero => rfl
  | succ n ih => rw [List.replicate_succ, List.flatten_cons, ih, List.replicate_succ]; rfl
structure TabOk (T : Nat → List Int) : Prop where
  st : ∀ b, b < 61 → Stp1 (T b) (T (b + 1))
  row : ∀ b, b < 62 → Row (T b)
  w0 : ∀ n, n < 41 → 1 ≤ n → [0, 1] ++ List.replicate (n - 1) 0 = (T 0).take (n + 1)
  w1 : ∀ n, n < 41 → List.replicate (n + 1) 1 = (T 1).take (n + 1)
  u : ∀ b, b < 60 → T (b + 1 + 1) = PP.map fun p => (mul2 p (T (b + 1))).sum
theorem rng1_succ {n : Nat} (h : n + 1 ≤ 16777216) : rng1 [.int ((n : Int) + 1)] = some ((List.range (n + 1)).map fun (k : Nat) => PyData.int k) := rng1_ok (by omega) h
theorem e_count {T : Nat → List Int} (hT : TabOk T) {n last : Nat} (h1 : 1 ≤ n) (h2 : n ≤ 40) (h3 : last ≤ 60) : m_count_histories [.fz (.int n), .fz (.int last)] = .ok (.fz (.int ((T (last + 1)).getD n 0))) [.fz (.int n), .fz (.int last)] := by
  unfold m_count_histories b_count_histories
  refine fnP_wp rfl rfl ?_
  refine wp_seq1 (sDrop_ok (ofR_ok (eCallF_ok (eCons_ok (aFz_ok (eVar_ok rfl)) rfl) (callF_fz1 (e_check_number (by omega)))))) ?_
  refine wp_seq1 (sDrop_ok (ofR_ok (eCallF_ok (eCons_ok (aFz_ok (eVar_ok rfl)) (eCons_ok (aFz_ok rfl) rfl)) (callF_fz2 (e_check_limit (by omega)))))) ?_
  refine wp_seq1 (sDrop_ok (ofR_ok (eCallF_ok (eCons_ok (aFz_ok (eVar_ok rfl)) rfl) (callF_fz1 (e_check_day (by omega)))))) ?_
  refine wp_seq1 (sDrop_ok (ofR_ok (eCallF_ok (eCons_ok (aFz_ok (eVar_ok rfl)) (eCons_ok (aFz_ok rfl) rfl)) (callF_fz2 (e_check_limit (by omega)))))) ?_
  refine wp_seq1 (sSet_ok (ofR_own (eCallF_ok (eCons_ok (aFz_ok (eVar_ok rfl)) rfl) (callF_fz1 (e_triangle (n := n) (by omega))))) (by simp)) ?_
  refine' wp_seq1 (sSet_ok (d := lD ((T 0).take (n + 1))) (eBin_ok (ofO_ok (oLst_ok (eCons_ok rfl (eCons_ok rfl rfl)) (by decide))) (eBin_ok (ofO_ok (oLst_ok (eCons_ok rfl rfl) (by decide))) (eBin_ok (eVar_ok rfl) rfl rfl) (rep1 (n := n - 1) ?i1 (by omega))) ?i2) (by simp)) ?rest
  case' rest => refine' wp_seq (wp_for (fun k ρ => ∃ s4, ρ = [.fz (.int n), .fz (.int last), .fz (.list (triD (n + 1))), .fz (lD ((T k).take (n + 1))), s4]) (iOpt_ok (eCons_ok (eBin_ok (eVar_ok rfl) rfl rfl) rfl) (rng1_succ (n := last) (by omega))) ⟨.un, rfl⟩ ?st ?q)
  case i1 => dsimp only; omega
  case i2 =>
    rw [← hT.w0 n (by omega) h1]
    show (if _ then _ else _) = _
    rw [if_pos (by simp; omega)]; simp
  case st =>
    intro k d ρ hk ⟨s4, h⟩
    subst h
    obtain ⟨hk, rfl⟩ := range_at hk
    exact ⟨_, set_nm (by simp), wp_ok (sSet_ok (ofR_own (eCallF_ok (eCons_ok (aFz_ok (eVar_ok rfl)) (eCons_ok (aFz_ok (eVar_ok rfl)) rfl)) (callF_fz2 (e_wig (hT.st k (by omega)) (hT.row k (by omega)) (hT.row (k + 1) (by omega)) h2 (Nat.le_refl n))))) (by simp)) ⟨.inl rfl, .fz (.int (k : Nat)), rfl⟩⟩
  case q =>
    intro ρ' ⟨s4, h⟩
    subst h
    simp only [List.length_map, List.length_range]
    have hR := hT.row (last + 1) (by omega)
    exact ⟨trivial, wp_ok (sRet_ok (eBin_ok (eVar_ok rfl) (eVar_ok rfl) (gIx_at (n := n) rfl (map_at (by rw [List.getElem?_take, if_pos (by omega)]; exact getD_some (by omega)))))) ⟨rfl, rfl⟩⟩
/-! ### the law's own numbers -/
def tabsOf : List D → Option (List (List Int))
  | [] => some []
  | .list ds :: r => match intsOf ds, tabsOf r with
    | some a, some b => some (a :: b)
    | _, _ => none
  | _ => none
theorem tabsOf_eq : ∀ (ds : List D) (t : List (List Int)), tabsOf ds = some t → ds = t.map lD
  | [], t, h => by cases h; rfl
  | d :: r, t, h => by
    cases d with
    | list ds =>
      unfold tabsOf at h
      split at h
      · rename_i a b e1 e2
        cases h
        rw [intsOf_eq e1, tabsOf_eq r b e2]; rfl
      · cases h
    | _ => exact absurd h (by simp [tabsOf])
def chkP : Bool := match m__law_partings [.fz (.int 40)] with
  | .ok (.own (.lst ds)) [.fz (.int n)] => decide (n = 40) && decide (tabsOf ds = some PP)
  | _ => false
theorem chkP_ok : chkP = true := by decide +kernel
theorem e_partings : m__law_partings [.fz (.int 40)] = .ok (.own (.lst (PP.map lD))) [.fz (.int 40)] := by
  have h := chkP_ok
  unfold chkP at h
  split at h
  · rename_i ds n e
    simp only [Bool.and_eq_true, decide_eq_true_eq] at h
    rw [e, h.1, tabsOf_eq _ _ h.2]
  · cases h
theorem chkU_at : ∀ (l : List (List Int)), chkU l = true → ∀ b W F, l[b]? = some W → l[b + 1]? = some F → F = PP.map fun p => (mul2 p W).sum
  | [], _, b, W, F, h, _ => by simp at h
  | [_], _, b, W, F, _, h => by simp at h
  | A :: B :: r, h, b, W, F, h1, h2 => by
    unfold chkU at h
    simp only [Bool.and_eq_true, decide_eq_true_eq] at h
    cases b with
    | succ b => exact chkU_at (B :: r) h.2 b W F (by simpa using h1) (by simpa using h2)
    | zero =>
      simp at h1 h2
      subst h1 h2
      exact h.1
theorem U_step {b : Nat} (h : b < 60) : T (b + 1 + 1) = PP.map fun p => (mul2 p (T (b + 1))).sum :=
  chkU_at TT.tail TT_u b _ _ (by rw [List.getElem?_tail]; exact T_at (by omega)) (by rw [List.getElem?_tail]; exact T_at (by omega))
def Pr (n : Nat) : List Int := PP.getD n []
theorem PP_at {n : Nat} (h : n < 41) : PP[n]? = some (Pr n) := by
  have := PP_len.1
  simp [Pr, List.getD, this, h]
theorem Pr_ok {n : Nat} (h : n < 41) : (Pr n).length = n + 1 ∧ ∀ x ∈ Pr n, x.natAbs < 2 ^ 200 := by
  have := List.all_eq_true.mp PP_len.2 n (by simpa using h)
  simp only [Bool.and_eq_true, decide_eq_true_eq, List.all_eq_true] at this
  exact this
theorem mul2_take {a b : List Int} {n : Nat} (h : a.length ≤ n) : mul2 a (b.take n) = mul2 a b := by
  refine List.ext_getElem (by simp [mul2]; omega) fun i h1 h2 => ?_
  simp [mul2]
theorem zip_mul (xs ys : List Int) : ((xs.zip ys).map fun p => PyData.int (p.1 * p.2)) = (mul2 xs ys).map .int := by
  rw [List.zip, List.map_zipWith, mul2, List.map_zipWith]
theorem take_range {F : List Int} {n : Nat} (h : n ≤ F.length) : F.take n = (List.range n).map fun j => F.getD j 0 := by
  refine List.ext_getElem (by simp; omega) fun i h1 h2 => ?_
  simp at h1
  simp [List.getD, show i < F.length by omega]
theorem e_due_step {n : Nat} {W F : List Int} {s1 s4 : Slot} (h2 : n ≤ 40) (hW : Row W) (hF : F = PP.map fun p => (mul2 p W).sum) :
    oComp [5] (iOpt rng1 (eCons (eBin gAdd (eVar 0) (eC (.int 1))) eNil)) (.nm 5) tYesM (eCall gSum (eCons (ofO (oComp [6, 7] (iOpt zipD (eCons (eBin gIx (eVar 2) (eVar 5)) (eCons (eVar 3) eNil))) (.tp [(.nm 6), (.nm 7)]) tYesM (eBin gMul (eVar 6) (eVar 7)))) eNil))
      [.fz (.int n), s1, .fz (tD2 PP), .fz (lD (W.take (n + 1))), s4, .un, .un, .un] = .ok (.lst ((F.take (n + 1)).map .int)) [.fz (.int n), s1, .fz (tD2 PP), .fz (lD (W.take (n + 1))), s4, .un, .un, .un] := by
  have lF : F.length = 41 := by rw [hF, List.length_map, PP_len.1]
  have := oComp_all (vs := [5]) (mi := iOpt rng1 (eCons (eBin gAdd (eVar 0) (eC (.int 1))) eNil)) (g := .nm 5) (e := (eCall gSum (eCons (ofO (oComp [6, 7] (iOpt zipD (eCons (eBin gIx (eVar 2) (eVar 5)) (eCons (eVar 3) eNil))) (.tp [(.nm 6), (.nm 7)]) tYesM (eBin gMul (eVar 6) (eVar 7)))) eNil))) (ρ := [.fz (.int n), s1, .fz (tD2 PP), .fz (lD (W.take (n + 1))), s4, .un, .un, .un]) (φ := fun j : Nat => PyData.int (j : Int)) (fun j : Nat => PyData.int (F.getD j 0)) (iOpt_ok (eCons_ok (eBin_ok (eVar_ok rfl) rfl rfl) rfl) (rng1_succ (n := n) (by omega))) rfl (fun j hj => by
    have hj : j < n + 1 := by simpa using hj
    refine' ⟨[.fz (.int n), s1, .fz (tD2 PP), .fz (lD (W.take (n + 1))), s4, .fz (.int j), .un, .un], [.fz (.int n), s1, .fz (tD2 PP), .fz (lD (W.take (n + 1))), s4, .fz (.int j), .un, .un], set_nm (by simp [wipeR]), eCall_ok (eCons_ok (ofO_ok (oComp_all (φ := fun p : Int × Int => PyData.tuple [.int p.1, .int p.2]) (ds := (Pr j).zip (W.take (n + 1))) (fun p : Int × Int => .int (p.1 * p.2)) (iOpt_ok (eCons_ok (eBin_ok (eVar_ok rfl) (eVar_ok rfl) (gIx_at (n := j) rfl (map_at (PP_at (by omega))))) (eCons_ok (eVar_ok rfl) rfl)) (congrArg some (zip_map _ _))) rfl ?w rfl)) rfl) ?s, rfl⟩
    case w =>
      intro p hp
      have hp := List.of_mem_zip (a := p.1) (b := p.2) hp
      have b1 := (Pr_ok (n := j) (by omega)).2 _ hp.1
      have b2 := hW.2 _ (List.mem_of_mem_take hp.2)
      exact ⟨_, _, set_tp2 (by simp [wipeR]) (by simp [wipeR]), eBin_ok (eVar_ok rfl) (eVar_ok rfl) (gMul_ok b1 (natAbs_lt b2.1 b2.2) (by omega)), rfl⟩
    case s =>
      rw [zip_mul, mul2_take (by rw [(Pr_ok (n := j) (by omega)).1]; omega)]
      refine gSum_ints.trans ?_
      have : F[j]? = some ((mul2 (Pr j) W).sum) := by rw [hF, List.getElem?_map, PP_at (by omega)]; rfl
      rw [List.getD, this]; rfl) rfl
  rw [this, take_range (F := F) (by omega), List.map_map]; rfl
theorem e_due {T : Nat → List Int} (hT : TabOk T) {n b : Nat} (h2 : n ≤ 40) (h3 : b ≤ 60) : m__law_due [.fz (.int n), .fz (.int b), .fz (tD2 PP)] = .ok (.fz (.int ((T (b + 1)).getD n 0))) [.fz (.int n), .fz (.int b), .fz (tD2 PP)] := by
  unfold m__law_due b__law_due
  refine' fnP_wp rfl rfl (wp_seq1 (sSet_ok (d := lD ((T 1).take (n + 1))) (eBin_ok (ofO_ok (oLst_ok (eCons_ok rfl rfl) (by decide))) (eBin_ok (eVar_ok rfl) rfl rfl) ?i1) (by simp)) (wp_seq (wp_for (fun k ρ => ∃ s4, ρ = [.fz (.int n), .fz (.int b), .fz (tD2 PP), .fz (lD ((T (k + 1)).take (n + 1))), s4, .un, .un, .un]) (iOpt_ok (eCons_ok (eVar_ok rfl) rfl) (rng1_ok (n := b) rfl (by omega))) ⟨.un, rfl⟩ ?st ?q)))
  case i1 =>
    rw [← hT.w1 n (by omega)]
    exact rep1 (n := n + 1) (by omega) (by omega)
  case st =>
    intro k d ρ hk ⟨s4, h⟩
    subst h
    obtain ⟨hk, rfl⟩ := range_at hk
    exact ⟨_, set_nm (by simp), wp_ok (sSet_ok (ofO_ok (e_due_step h2 (hT.row (k + 1) (by omega)) (hT.u k (by omega)))) (by simp)) ⟨.inl rfl, .fz (.int (k : Nat)), rfl⟩⟩
  case q =>
    intro ρ' ⟨s4, h⟩
    subst h
    simp only [List.length_map, List.length_range]
    have hR := hT.row (b + 1) (by omega)
    exact ⟨trivial, wp_ok (sRet_ok (eBin_ok (eVar_ok rfl) (eVar_ok rfl) (gIx_at (n := n) rfl (map_at (by rw [List.getElem?_take, if_pos (by omega)]; exact getD_some (by omega)))))) ⟨rfl, rfl⟩⟩
end My

namespace My
open PySem PySem.Spec L2 DL
theorem tabOk_T : TabOk T := ⟨fun _ h => T_step h, fun _ h => T_ok h, ways0, ways1, fun _ h => U_step h⟩
theorem small_T : ∀ b, b < 61 → (T (b + 1)).getD 1 0 = 1 ∧ (T (b + 1)).getD 2 0 = b + 1 ∧ (T (b + 1)).getD 3 0 = b + 1 + 3 * b * (b + 1) / 2 := by decide +kernel
theorem first_T : ∀ n, n < 41 → (T 1).getD n 0 = 1 := by decide +kernel
theorem T43 : (T 4).getD 4 0 = 154 := by decide +kernel
theorem ex_T : ∃ T : Nat → List Int, TabOk T ∧ (∀ b, b < 61 → (T (b + 1)).getD 1 0 = 1 ∧ (T (b + 1)).getD 2 0 = b + 1 ∧ (T (b + 1)).getD 3 0 = b + 1 + 3 * b * (b + 1) / 2) ∧ (∀ n, n < 41 → (T 1).getD n 0 = 1) ∧ (T 4).getD 4 0 = 154 := ⟨T, tabOk_T, small_T, first_T, T43⟩
theorem e_cell {ns : List Int} {k : Nat} : ∃ x : Int, m__law_cell [.fz (scrD ns), .fz (.int k)] = .ok (.fz (.int x)) [.fz (scrD ns), .fz (.int k)] := by
  unfold m__law_cell b__law_cell
  by_cases h : k < ns.length
  · refine' ⟨ns.getD k 0, fnP_ok rfl rfl (sRet_ok (eIf_t (asB_ok (eBin_ok (eVar_ok rfl) (eCall_ok (eCons_ok (eVar_ok rfl) rfl) e_len_scr) ?_)) (eBin_ok (eVar_ok rfl) (eVar_ok rfl) (gIx_at (n := k) rfl (map_at (getD_some h)))))) rfl⟩
    exact congrArg (fun x => some (PyData.bool x)) (decide_eq_true (by omega))
  · refine' ⟨0, fnP_ok rfl rfl (sRet_ok (eIf_f (asB_ok (eBin_ok (eVar_ok rfl) (eCall_ok (eCons_ok (eVar_ok rfl) rfl) e_len_scr) ?_)) rfl)) rfl⟩
    exact congrArg (fun x => some (PyData.bool x)) (decide_eq_false (by omega))
theorem e_src {x : Int} : ∃ l, SrcOk 0 l ∧ m__law_source [.fz (.int x)] = .ok (.own (.lst l)) [.fz (.int x)] := e_source
theorem e_drw {l : List D} {k : Nat} {m : Int} (h : SrcOk k l) (hk : k ≤ 1000000) (hm : 0 < m) (hm2 : m < 2 ^ 64) : ∃ l' r, SrcOk (k + 1) l' ∧ 0 ≤ r ∧ r < m ∧ m__law_draw [.own (.lst l), .fz (.int m)] = .ok (.fz (.int r)) [.own (.lst l'), .fz (.int m)] := e_draw h hk hm hm2
theorem pair_repr {v : Int} (h : 0 ≤ v ∧ v < 10 ^ 200) : gRepr [.list [.int v, .int v]] = some (.str (PyData.shown (.list [.int v, .int v]))) := by
  have hl : v.natAbs.log2 < 665 ∨ v.natAbs = 0 := by
    by_cases z : v.natAbs = 0
    · exact .inr z
    · exact .inl ((Nat.log2_lt z).mpr (natAbs_lt h.1 h.2))
  have hl' : v.natAbs.log2 < 665 := by
    rcases hl with z | z
    · exact z
    · rw [z]; decide
  have hs := shown_int h.1 (by decide) h.2
  refine repr_ok 200 (by decide) ?_ ?_ ?_ ?_ ?_
  · simp [PyData.showable, PyData.showableAll]; omega
  · simp [PyData.depth, PyData.depthAll]
  · simp [PyData.leavesShort, PyData.leavesShortAll, hs]
  · have : (PyData.list [.int v, .int v]).weight ≤ 2 * 667 := by
      simp only [PyData.weight, PyData.weightAll]
      split <;> omega
    omega
  · simp [PyData.canLay0, PyData.canLayAll0]
theorem mm_len {ns : List Int} : ∃ m : Nat, m ≤ 6 ∧ (eCall gMax (eCons (eC (.int 1)) (eCons (eCall gMin (eCons (eC (.int 6)) (eCons (eCall gLen (eCons (eVar 0) eNil)) eNil))) eNil))) = (eCall gMax (eCons (eC (.int 1)) (eCons (eCall gMin (eCons (eC (.int 6)) (eCons (eCall gLen (eCons (eVar 0) eNil)) eNil))) eNil))) ∧ ∀ r : Rho, (eCall gMax (eCons (eC (.int 1)) (eCons (eCall gMin (eCons (eC (.int 6)) (eCons (eCall gLen (eCons (eVar 0) eNil)) eNil))) eNil))) (.fz (scrD ns) :: r) = .ok (.int m) (.fz (scrD ns) :: r) := by
  refine ⟨max 1 (min 6 ns.length), by omega, rfl, fun r => ?_⟩
  refine eCall_ok (eCons_ok rfl (eCons_ok (eCall_ok (eCons_ok rfl (eCons_ok (eCall_ok (eCons_ok (eVar_ok rfl) rfl) e_len_scr) rfl)) rfl) rfl)) ?_
  show some (PyData.int _) = _
  congr 2
  split <;> split <;> omega
theorem gMulR {i j : Int} (h : j.natAbs < 2 ^ 64) : gMul (.int i) (.int j) = some (.int (i * j)) := by
  show (if okMul i j then _ else _) = _
  rw [if_pos (by simp [okMul, h])]
theorem gNe_int {a b : Int} (h : a = b) : gNe (.int a) (.int b) = some (.bool false) := by subst h; simp [gNe, SeqAt.shaped, PyData.canLay0, PyData.depth, PyData.eqv]
theorem gEq_int {a b : Int} (h : a = b) : gEq (.int a) (.int b) = some (.bool true) := by subst h; simp [gEq, SeqAt.shaped, PyData.canLay0, PyData.depth, PyData.eqv]
theorem gNe_int3 {a b c : Int} : gNe (.list [.int a, .int b, .int c]) (.list [.int a, .int b, .int c]) = some (.bool false) := by
  simp [gNe, SeqAt.shaped, PyData.canLay0, PyData.canLayAll0, PyData.depth, PyData.depthAll, PyData.eqv, PyData.eqvAll]
theorem mPick_ok {is : List Nat} {m : M (List DL.Arg)} {as bs : List DL.Arg} {ρ ρ1 : Rho} (h : m ρ = .ok as ρ1) (hp : pick as is = bs) : mPick is m ρ = .ok bs ρ1 := by
  unfold mPick; rw [bind_ok h, hp]; rfl
theorem eAnd_t {ma mb : M D} {d : D} {ρ ρ1 ρ2 : Rho} (h1 : ma ρ = .ok (.bool true) ρ1) (h2 : mb ρ1 = .ok d ρ2) : eAnd ma mb ρ = .ok d ρ2 := by
  unfold eAnd; rw [bind_ok h1]; exact h2
theorem law_true : LawOk m_law 63 := by
  intro ns hl
  obtain ⟨T, hT, sT, fT, T43⟩ := ex_T
  obtain ⟨mm, hmm, -, em⟩ := mm_len (ns := ns)
  refine ⟨[.fz (scrD ns)], ?_⟩
  unfold m_law b_law
  refine fnP_wp rfl rfl ?_
  refine wp_seq1 (sSet_ok (d := tD2 PP) (ofR_own (eCallF_ok (eCons_ok (aFz_ok rfl) rfl) (callF_fz1 e_partings))) (by simp)) ?_
  refine' wp_seq (wp_for (fun k ρ => ∃ s2 s3 s4 s5 s6 s7 s8, ρ = [.fz (scrD ns), .fz (tD2 PP), s2, s3, s4, s5, s6, s7, s8]) (iOpt_ok (eCons_ok (em _) rfl) (rng1_ok rfl (by omega))) ⟨.un, .un, .un, .un, .un, .un, .un, rfl⟩ ?st ?q)
  case q =>
    intro ρ' ⟨s2, s3, s4, s5, s6, s7, s8, h⟩
    subst h
    have c1 : m_count_histories [.fz (.int 40), .fz (.int 60)] = .ok (.fz (.int ((T (60 + 1)).getD 40 0))) [.fz (.int 40), .fz (.int 60)] := e_count hT (n := 40) (last := 60) (by decide) (by decide) (by decide)
    have c2 : m__law_due [.fz (.int 40), .fz (.int 60), .fz (tD2 PP)] = .ok (.fz (.int ((T (60 + 1)).getD 40 0))) [.fz (.int 40), .fz (.int 60), .fz (tD2 PP)] := e_due hT (n := 40) (b := 60) (by decide) (by decide)
    have c3 : m_count_histories [.fz (.int 4), .fz (.int 3)] = .ok (.fz (.int ((T (3 + 1)).getD 4 0))) [.fz (.int 4), .fz (.int 3)] := e_count hT (n := 4) (last := 3) (by decide) (by decide) (by decide)
    exact ⟨rfl, wp_ok (sRet_ok (eAnd_t (eBin_ok (ofR_ok (eCallF_ok (eCons_ok (aFz_ok rfl) (eCons_ok (aFz_ok rfl) rfl)) (callF_fz2 c1))) (ofR_ok (eCallF_ok (eCons_ok (aFz_ok rfl) (eCons_ok (aFz_ok rfl) (eCons_ok (aFz_ok (eVar_ok rfl)) rfl))) (callF_fz3 c2))) (gEq_int rfl)) (eBin_ok (ofR_ok (eCallF_ok (eCons_ok (aFz_ok rfl) (eCons_ok (aFz_ok rfl) rfl)) (callF_fz2 c3))) rfl (gEq_int T43)))) ⟨rfl, rfl⟩⟩
  case st =>
    intro k d ρ hk ⟨s2, s3, s4, s5, s6, s7, s8, h⟩
    subst h
    obtain ⟨hk, rfl⟩ := range_at hk
    refine ⟨_, set_nm (by simp), ?_⟩
    obtain ⟨x, ecell⟩ := e_cell (ns := ns) (k := k)
    obtain ⟨l0, hl0, esrc⟩ := e_src (x := x * 5 + 30)
    refine wp_seq1 (sSetO_ok (c := .lst l0) (ownR_ok (eCallF_ok (eCons_ok (aFz_ok (eBin_ok (eBin_ok (ofR_ok (eCallF_ok (eCons_ok (aFz_ok (eVar_ok rfl)) (eCons_ok (aFz_ok (eVar_ok rfl)) rfl)) (callF_fz2 ecell))) rfl (gMulR (by decide))) rfl rfl)) rfl) (callF_fz1 esrc))) (by simp)) ?_
    refine' wp_seq (wp_for (fun t ρ => ∃ l s4 s5 s6 s7, SrcOk (2 * t) l ∧ ρ = [.fz (scrD ns), .fz (tD2 PP), .fz (.int k), .own (.lst l), s4, s5, s6, s7, s8]) (iOpt_ok (eCons_ok rfl rfl) (rng1_ok (n := 3) rfl (by omega))) ⟨l0, s4, s5, s6, s7, hl0, rfl⟩ ?st ?q)
    case st =>
      intro t d ρ ht ⟨l, s4, s5, s6, s7, hl, h⟩
      subst h
      obtain ⟨ht, rfl⟩ := range_at ht
      refine ⟨_, set_nm (by simp), ?_⟩
      obtain ⟨v1, hv1, p1⟩ := pick2 (x := 40) (y := 12) t
      obtain ⟨v2, hv2, p2⟩ := pick2 (x := 8) (y := 61) t
      obtain ⟨l1, r1, hl1, a1, b1, e1⟩ := e_drw (m := v1) hl (by omega) (by omega) (by omega)
      obtain ⟨l2, r2, hl2, a2, b2, e2⟩ := e_drw (m := v2) hl1 (by omega) (by omega) (by omega)
      obtain ⟨n, hn⟩ := Int.eq_ofNat_of_zero_le (show 0 ≤ 1 + r1 by omega)
      obtain ⟨b, rfl⟩ := Int.eq_ofNat_of_zero_le a2
      have g1 : gAdd (.int 1) (.int r1) = some (.int (n : Int)) := by show some (PyData.int (1 + r1)) = _; rw [hn]
      have n1 : 1 ≤ n := by omega
      have n2 : n ≤ 40 := by omega
      have b3 : b ≤ 60 := by omega
      have c1 := e_count hT n1 n2 b3
      have c2 := e_due hT (n := n) (b := b) n2 b3
      have hv : 0 ≤ (T (b + 1)).getD n 0 ∧ (T (b + 1)).getD n 0 < 10 ^ 200 := bd_at (hT.row (b + 1) (by omega))
      generalize (T (b + 1)).getD n 0 = v at c1 c2 hv
      refine wp_seq1 (sPar_ok (eCons_ok (eBin_ok rfl (ofR_ok (eCallF_ok (aSlot_own rfl (eCons_ok (aFz_ok (eBin_ok (ofO_ok (oLst_ok (eCons_ok rfl (eCons_ok rfl rfl)) (by decide))) (eBin_ok (eVar_ok rfl) rfl (gMod_ok (by decide))) p1)) rfl)) (callF_rf1 rfl e1))) g1) (eCons_ok (ofR_ok (eCallF_ok (aSlot_own rfl (eCons_ok (aFz_ok (eBin_ok (ofO_ok (oLst_ok (eCons_ok rfl (eCons_ok rfl rfl)) (by decide))) (eBin_ok (eVar_ok rfl) rfl (gMod_ok (by decide))) p2)) rfl)) (callF_rf1 rfl e2))) rfl)) (by simp)) ?_
      refine wp_seq1 (sSet_ok (ofR_ok (eCallF_ok (eCons_ok (aFz_ok (eVar_ok rfl)) (eCons_ok (aFz_ok (eVar_ok rfl)) (eCons_ok (aFz_ok (eVar_ok rfl)) rfl))) (callF_fz3 c2))) (by simp)) ?_
      refine wp_ok (sIf_f (asB_ok (eBin_ok (eCall_ok (eCons_ok (ofO_ok (oLst_ok (eCons_ok (ofR_ok (eCallF_ok (eCons_ok (aFz_ok (eVar_ok rfl)) (eCons_ok (aFz_ok (eVar_ok rfl)) rfl)) (callF_fz2 c1))) (eCons_ok (ofR_ok (eCallF_ok (as := [.fz (.int n), .fz (.int b)]) (mPick_ok (eCons_ok (aFz_ok (eVar_ok rfl)) (eCons_ok (aFz_ok (eVar_ok rfl)) rfl)) rfl) (callF_fz2 c1))) rfl)) (by simp))) rfl) (pair_repr hv)) (eCall_ok (eCons_ok (ofO_ok (oLst_ok (eCons_ok (eVar_ok rfl) (eCons_ok (eVar_ok rfl) rfl)) (by simp))) rfl) (pair_repr hv)) (gNe_shown rfl))) rfl) ⟨.inl rfl, l2, .fz (.int (t : Nat)), .fz (.int n), .fz (.int b), .fz (.int v), by rw [show 2 * (t + 1) = 2 * t + 1 + 1 by omega]; exact hl2, rfl⟩
    case q =>
      intro ρ' ⟨l, s4, s5, s6, s7, hl, h⟩
      subst h
      simp only [List.length_map, List.length_range] at hl
      refine ⟨rfl, ?_⟩
      obtain ⟨l1, r1, hl1, a1, b1, e1⟩ := e_drw (m := 61) hl (by omega) (by omega) (by omega)
      obtain ⟨l2, r2, hl2, a2, b2, e2⟩ := e_drw (m := 40) hl1 (by omega) (by omega) (by omega)
      obtain ⟨b, rfl⟩ := Int.eq_ofNat_of_zero_le a1
      obtain ⟨n, hn⟩ := Int.eq_ofNat_of_zero_le (show 0 ≤ 1 + r2 by omega)
      have g1 : gAdd (.int 1) (.int r2) = some (.int (n : Int)) := by show some (PyData.int (1 + r2)) = _; rw [hn]
      have b3 : b ≤ 60 := by omega
      obtain ⟨v1, v2, v3⟩ := sT b (by omega)
      have c1 : m_count_histories [.fz (.int 1), .fz (.int b)] = .ok (.fz (.int 1)) [.fz (.int 1), .fz (.int b)] := by
        have := e_count hT (n := 1) (by decide) (by decide) b3
        rw [v1] at this; exact this
      have c2 : m_count_histories [.fz (.int 2), .fz (.int b)] = .ok (.fz (.int (b + 1))) [.fz (.int 2), .fz (.int b)] := by
        have := e_count hT (n := 2) (by decide) (by decide) b3
        rw [v2] at this; exact this
      have c3 : m_count_histories [.fz (.int 3), .fz (.int b)] = .ok (.fz (.int (b + 1 + 3 * b * (b + 1) / 2))) [.fz (.int 3), .fz (.int b)] := by
        have := e_count hT (n := 3) (by decide) (by decide) b3
        rw [v3] at this; exact this
      have c4 : m_count_histories [.fz (.int n), .fz (.int 0)] = .ok (.fz (.int 1)) [.fz (.int n), .fz (.int 0)] := by
        have := e_count hT (n := n) (last := 0) (by omega) (by omega) (by decide)
        rw [fT n (by omega)] at this; exact this
      refine wp_seq1 (sSet_ok (ofR_ok (eCallF_ok (aSlot_own rfl (eCons_ok (aFz_ok rfl) rfl)) (callF_rf1 rfl e1))) (by simp)) ?_
      refine wp_seq1 (sSet_ok (ofO_ok (oLst_ok (eCons_ok (ofR_ok (eCallF_ok (eCons_ok (aFz_ok rfl) (eCons_ok (aFz_ok (eVar_ok rfl)) rfl)) (callF_fz2 c1))) (eCons_ok (ofR_ok (eCallF_ok (eCons_ok (aFz_ok rfl) (eCons_ok (aFz_ok (eVar_ok rfl)) rfl)) (callF_fz2 c2))) (eCons_ok (ofR_ok (eCallF_ok (eCons_ok (aFz_ok (eBin_ok rfl (ofR_ok (eCallF_ok (aSlot_own rfl (eCons_ok (aFz_ok rfl) rfl)) (callF_rf1 rfl e2))) g1)) (eCons_ok (aFz_ok rfl) rfl)) (callF_fz2 c4))) rfl))) (by simp))) (by simp)) ?_
      refine wp_seq1 (sIf_f (asB_ok (eBin_ok (eVar_ok rfl) (ofO_ok (oLst_ok (eCons_ok rfl (eCons_ok (eBin_ok (eVar_ok rfl) rfl rfl) (eCons_ok rfl rfl))) (by simp))) gNe_int3)) rfl) ?_
      exact wp_ok (sIf_f (asB_ok (eBin_ok (ofR_ok (eCallF_ok (eCons_ok (aFz_ok rfl) (eCons_ok (aFz_ok (eVar_ok rfl)) rfl)) (callF_fz2 c3))) (eBin_ok (eBin_ok (eVar_ok rfl) rfl rfl) (eBin_ok (eBin_ok (eBin_ok rfl (eVar_ok rfl) (gMulL (by decide))) (eBin_ok (eVar_ok rfl) rfl rfl) (gMul_ok (a := 64) (b := 64) (by omega) (by omega) (by omega))) rfl (gFdiv_ok (by decide) (by decide))) rfl) (gNe_int rfl))) rfl) ⟨.inl rfl, _, _, _, _, _, _, _, rfl⟩
end My

namespace My
open PySem PySem.Spec L2 DL
theorem fin_mk {P : Program} {w : World} {K : PySem.W.Frag} {mg : Str → Option Value} {fa : Addr} (h : ∃ T : Txt K mg, mg "law" = some (.ref T.a_law) ∧ ∀ (s : Shared) (u : Value), BindsTo s T.fd_law ⟨[u], []⟩ [("script", u)]) (hmg : mg "law" = some (.ref fa)) :
    ∃ fd : FuncData, (∀ (s : Shared) (u : Value), BindsTo s fd ⟨[u], []⟩ [("script", u)]) ∧ ∀ base : Heap, K.In base → base.Ns mainGlobals mg → FnG P w K mg base 4 fa fd ["script"] m_law := by
  obtain ⟨T, e, hb⟩ := h
  have e2 := hmg.symm.trans e
  cases e2
  exact ⟨_, hb, fun base _ _ => ok_law T⟩
end My
open PySem PySem.W PyProof.Rows
set_option maxHeartbeats 0 in
theorem PySem.Challenge.cw_commondays_k30_histories_of_many_items_c_holds : PySem.Challenge.rw_commondays_k30_histories_of_many_items_c.Holds := by
  w_on; o_law; k_head; (case hw => w_witness2)
  k_fill
  refine DL.law_end (l := PySem.Challenge.rw_commondays_k30_histories_of_many_items_c) (n := 63) (k := 4) (x := "script") (F := My.m_law) rfl (by decide) rfl ⟨rfl, by decide, by decide⟩ (fun w h Y => PySem.W.kIn_of Y) My.law_true ?F
  case F =>
    intro w mg fa h KX G hmg
    refine' My.fin_mk (My.txt_mk (K := _) KX G ?a0 ?l0 ?c0 ?k0 ?a1 ?l1 ?c1 ?k1 ?a2 ?l2 ?c2 ?k2 ?a3 ?l3 ?c3 ?k3 ?a4 ?l4 ?c4 ?k4 ?a5 ?l5 ?c5 ?k5 ?a6 ?l6 ?c6 ?k6 ?a7 ?l7 ?c7 ?k7 ?a8 ?l8 ?c8 ?k8 ?a9 ?l9 ?c9 ?k9 ?a10 ?l10 ?c10 ?k10 ?a11 ?l11 ?c11 ?k11 ?a12 ?l12 ?c12 ?k12 ?z0 ?z1 ?z2 ?z3 ?z4 ?z5 ?z6 ?z7 ?z8 ?z9 ?z10 ?y0 ?y1) hmg
    (case a0 => k_is)
    (case l0 => k_is)
    (case c0 => k_is)
    (case k0 => k_is)
    (case a1 => k_is)
    (case l1 => k_is)
    (case c1 => k_is)
    (case k1 => k_is)
    (case a2 => k_is)
    (case l2 => k_is)
    (case c2 => k_is)
    (case k2 => k_is)
    (case a3 => k_is)
    (case l3 => k_is)
    (case c3 => k_is)
    (case k3 => k_is)
    (case a4 => k_is)
    (case l4 => k_is)
    (case c4 => k_is)
    (case k4 => k_is)
    (case a5 => k_is)
    (case l5 => k_is)
    (case c5 => k_is)
    (case k5 => k_is)
    (case a6 => k_is)
    (case l6 => k_is)
    (case c6 => k_is)
    (case k6 => k_is)
    (case a7 => k_is)
    (case l7 => k_is)
    (case c7 => k_is)
    (case k7 => k_is)
    (case a8 => k_is)
    (case l8 => k_is)
    (case c8 => k_is)
    (case k8 => k_is)
    (case a9 => k_is)
    (case l9 => k_is)
    (case c9 => k_is)
    (case k9 => k_is)
    (case a10 => k_is)
    (case l10 => k_is)
    (case c10 => k_is)
    (case k10 => k_is)
    (case a11 => k_is)
    (case l11 => k_is)
    (case c11 => k_is)
    (case k11 => k_is)
    (case a12 => k_is)
    (case l12 => k_is)
    (case c12 => k_is)
    (case k12 => k_is)
    (case z0 => k_is)
    (case z1 => k_is)
    (case z2 => k_is)
    (case z3 => k_is)
    (case z4 => k_is)
    (case z5 => k_is)
    (case z6 => k_is)
    (case z7 => k_is)
    (case z8 => k_is)
    (case z9 => k_is)
    (case z10 => k_is)
    (case y0 => k_is)
    (case y1 => k_is)

